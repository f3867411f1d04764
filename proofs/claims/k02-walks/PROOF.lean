import PyProof.Rows.All
import HandS.ForMost
import HandS.ForExc
import HandS.CallSlots
import HandS.TryMany
import HandS.TupAny
import HandS.TupMul
import HandS.Deep
import HandS.IsInst
import HandS.Zip
import HandS.Conv
import HandS.SortInts
import HandS.ExcIs
import HandS.Flow
import HandS.Head0
import HandS.Head1
import HandS.Head2
import HandS.HeadEnd
import HandS.HeadHook1
import HandS.HeadHook2
import HandS.HeadHook3
import HandS.HeadHook4
import HandS.Ends
import HandS.Defaults
import KE.KStateDown
import PySem.Challenge.RW_doorcounters_k02_walks
set_option Elab.async false
set_option linter.all false
set_option maxRecDepth 100000
set_option maxHeartbeats 0
namespace DD
open PySem PySem.Spec PyProof.Rows L2

abbrev D := PyData

/-- a dict's key as data -/
def keyD : Key → D
  | .inl i => .int i
  | .inr x => .str x

mutual
inductive Dd (K : PySem.W.Frag) (H : Hp) : V → D → Prop
  | non : Dd K H .non .none
  | bl (b : Bool) : Dd K H (.bl b) (.bool b)
  | int (i : Int) : Dd K H (.int i) (.int i)
  | str (x : Str) : Dd K H (.str x) (.str x)
  | lst {a : Addr} {xs : List V} {ds : List D} : Rd H a (.lst xs) → Dds K H xs ds → Dd K H (.ref a) (.list ds)
  | tup {a : Addr} {xs : List V} {ds : List D} : Rd H a (.tup xs) → Dds K H xs ds → Dd K H (.ref a) (.tuple ds)
  | dic {a : Addr} {kvs : List (Key × V)} {ds : List (D × D)} : Rd H a (.dK kvs) → Ddk K H kvs ds → Dd K H (.ref a) (.dict ds)
inductive Dds (K : PySem.W.Frag) (H : Hp) : List V → List D → Prop
  | nil : Dds K H [] []
  | cons {v : V} {vs : List V} {d : D} {ds : List D} : Dd K H v d → Dds K H vs ds → Dds K H (v :: vs) (d :: ds)
inductive Ddk (K : PySem.W.Frag) (H : Hp) : List (Key × V) → List (D × D) → Prop
  | nil : Ddk K H [] []
  | cons {k : Key} {v : V} {d : D} {r : List (Key × V)} {s : List (D × D)} : Dd K H v d → Ddk K H r s → Ddk K H ((k, v) :: r) ((keyD k, d) :: s)
end

theorem same_rd {H H' : Hp} {a : Addr} {u : HO} (e : Same H H') (h : Rd H a u) : Rd H' a u := by
  rcases h with h | ⟨o, h⟩
  · exact .inl (e _ _ h)
  · exact .inr ⟨o, e _ _ h⟩

mutual
theorem Dd.mono {K : PySem.W.Frag} {H H' : Hp} (e : Same H H') : ∀ {v : V} {d : D}, Dd K H v d → Dd K H' v d
  | _, _, .non => .non
  | _, _, .bl b => .bl b
  | _, _, .int i => .int i
  | _, _, .str x => .str x
  | _, _, .lst h r => .lst (same_rd e h) (Dds.mono e r)
  | _, _, .tup h r => .tup (same_rd e h) (Dds.mono e r)
  | _, _, .dic h r => .dic (same_rd e h) (Ddk.mono e r)
theorem Dds.mono {K : PySem.W.Frag} {H H' : Hp} (e : Same H H') : ∀ {vs : List V} {ds : List D}, Dds K H vs ds → Dds K H' vs ds
  | _, _, .nil => .nil
  | _, _, .cons h r => .cons (Dd.mono e h) (Dds.mono e r)
theorem Ddk.mono {K : PySem.W.Frag} {H H' : Hp} (e : Same H H') : ∀ {vs : List (Key × V)} {ds : List (D × D)}, Ddk K H vs ds → Ddk K H' vs ds
  | _, _, .nil => .nil
  | _, _, .cons h r => .cons (Dd.mono e h) (Ddk.mono e r)
end

theorem Dds.length {K : PySem.W.Frag} {H : Hp} : ∀ {vs : List V} {ds : List D}, Dds K H vs ds → vs.length = ds.length
  | _, _, .nil => rfl
  | _, _, .cons _ r => by rw [List.length_cons, List.length_cons, Dds.length r]
theorem Dds.get {K : PySem.W.Frag} {H : Hp} : ∀ {vs : List V} {ds : List D}, Dds K H vs ds → ∀ {i : Nat} {d : D}, ds[i]? = some d → ∃ v, vs[i]? = some v ∧ Dd K H v d
  | _, _, .nil, _, _, h => by simp at h
  | _, _, .cons h r, 0, _, e => by
    simp at e; subst e; exact ⟨_, rfl, h⟩
  | _, _, .cons h r, i + 1, _, e => by
    obtain ⟨v, h1, h2⟩ := Dds.get r (i := i) (by simpa using e)
    exact ⟨v, by simpa using h1, h2⟩
theorem Dds.get' {K : PySem.W.Frag} {H : Hp} : ∀ {vs : List V} {ds : List D}, Dds K H vs ds → ∀ {i : Nat} {v : V}, vs[i]? = some v → ∃ d, ds[i]? = some d ∧ Dd K H v d
  | _, _, .nil, _, _, h => by simp at h
  | _, _, .cons h r, 0, _, e => by
    simp at e; subst e; exact ⟨_, rfl, h⟩
  | _, _, .cons h r, i + 1, _, e => by
    obtain ⟨v, h1, h2⟩ := Dds.get' r (i := i) (by simpa using e)
    exact ⟨v, by simpa using h1, h2⟩
theorem Dds.append {K : PySem.W.Frag} {H : Hp} : ∀ {xs ys : List V} {us ws : List D}, Dds K H xs us → Dds K H ys ws → Dds K H (xs ++ ys) (us ++ ws)
  | _, _, _, _, .nil, s => s
  | _, _, _, _, .cons r t, s => .cons r (Dds.append t s)
theorem Dds.take {K : PySem.W.Frag} {H : Hp} : ∀ {xs : List V} {us : List D} (n : Nat), Dds K H xs us → Dds K H (xs.take n) (us.take n)
  | _, _, 0, _ => by rw [List.take_zero, List.take_zero]; exact .nil
  | _, _, _ + 1, .nil => .nil
  | _, _, n + 1, .cons r t => .cons r (Dds.take n t)
theorem Dds.drop {K : PySem.W.Frag} {H : Hp} : ∀ {xs : List V} {us : List D} (n : Nat), Dds K H xs us → Dds K H (xs.drop n) (us.drop n)
  | _, _, 0, r => r
  | _, _, _ + 1, .nil => .nil
  | _, _, n + 1, .cons _ t => Dds.drop n t
theorem Dds.set {K : PySem.W.Frag} {H : Hp} {x : V} {u : D} (h : Dd K H x u) : ∀ {xs : List V} {us : List D} (n : Nat), Dds K H xs us → Dds K H (xs.set n x) (us.set n u)
  | _, _, _, .nil => .nil
  | _, _, 0, .cons _ t => .cons h t
  | _, _, n + 1, .cons r t => .cons r (Dds.set h n t)
theorem Dds.eraseIdx {K : PySem.W.Frag} {H : Hp} : ∀ {xs : List V} {us : List D} (n : Nat), Dds K H xs us → Dds K H (xs.eraseIdx n) (us.eraseIdx n)
  | _, _, _, .nil => .nil
  | _, _, 0, .cons _ t => t
  | _, _, n + 1, .cons r t => .cons r (Dds.eraseIdx n t)
theorem Dds.reverse {K : PySem.W.Frag} {H : Hp} : ∀ {xs : List V} {us : List D}, Dds K H xs us → Dds K H xs.reverse us.reverse
  | _, _, .nil => .nil
  | _, _, .cons r t => by
    rw [List.reverse_cons, List.reverse_cons]
    exact Dds.append (Dds.reverse t) (.cons r .nil)
theorem Dds.rep {K : PySem.W.Frag} {H : Hp} {xs : List V} {us : List D} (h : Dds K H xs us) : ∀ k : Nat, Dds K H (List.replicate k xs).flatten (List.replicate k us).flatten
  | 0 => .nil
  | k + 1 => by
    rw [List.replicate_succ, List.replicate_succ, List.flatten_cons, List.flatten_cons]
    exact Dds.append h (Dds.rep h k)
theorem Dds.ints {K : PySem.W.Frag} {H : Hp} : ∀ {xs : List V} {ns : List Int}, Dds K H xs (ns.map PyData.int) → xs = ns.map V.int
  | [], [], _ => rfl
  | _ :: _, [], h => nomatch h
  | [], _ :: _, h => nomatch h
  | x :: xs, n :: ns, h => by
    cases h with
    | cons h r =>
      cases h
      rw [List.map_cons, Dds.ints r]
theorem dds_ints {K : PySem.W.Frag} {H : Hp} : ∀ (ns : List Int), Dds K H (ns.map V.int) (ns.map PyData.int)
  | [] => .nil
  | n :: ns => .cons (.int n) (dds_ints ns)

/-- a thing that may change stands at a in H, its items are settled in H0 -/
inductive MO (K : PySem.W.Frag) (H0 H : Hp) (a : Addr) : D → Prop
  | lst {xs : List V} {ds : List D} : H0 a = none → H a = some (.lst xs) → Dds K H0 xs ds → MO K H0 H a (.list ds)
  | dic {xs : List (Key × V)} {ds : List (D × D)} : H0 a = none → H a = some (.dK xs) → Ddk K H0 xs ds → MO K H0 H a (.dict ds)

theorem MO.no {K : PySem.W.Frag} {H0 H : Hp} {a : Addr} {d : D} (h : MO K H0 H a d) : H0 a = none := by
  cases h <;> assumption
theorem MO.there {K : PySem.W.Frag} {H0 H : Hp} {a : Addr} {d : D} (h : MO K H0 H a d) : ∃ o, H a = some o := by
  cases h with
  | lst _ h _ => exact ⟨_, h⟩
  | dic _ h _ => exact ⟨_, h⟩

/-- what may have come behind (H0, H): all stands, what is newly settled is new -/
structure Ext (H0 H H0' H' : Hp) : Prop where
  s0 : Same H0 H0'
  s : Same H H'
  sub : Same H0' H'
  new : ∀ b o, H b = some o → H0' b = H0 b
theorem Ext.refl {H0 H : Hp} (h : Same H0 H) : Ext H0 H H0 H := ⟨Same.refl _, Same.refl _, h, fun _ _ _ => rfl⟩
theorem Ext.trans {H0 H H1 H' H2 H'' : Hp} (a : Ext H0 H H1 H') (b : Ext H1 H' H2 H'') : Ext H0 H H2 H'' :=
  ⟨a.s0.trans b.s0, a.s.trans b.s, b.sub, fun c o h => (b.new c o (a.s c o h)).trans (a.new c o h)⟩
theorem MO.mono {K : PySem.W.Frag} {H0 H H0' H' : Hp} {a : Addr} {d : D} (e : Ext H0 H H0' H') (h : MO K H0 H a d) : MO K H0' H' a d := by
  cases h with
  | lst h1 h2 h3 => exact .lst (by rw [e.new _ _ h2]; exact h1) (e.s _ _ h2) (h3.mono e.s0)
  | dic h1 h2 h3 => exact .dic (by rw [e.new _ _ h2]; exact h1) (e.s _ _ h2) (h3.mono e.s0)

/-- a new object, not settled -/
theorem ext_new {H0 H : Hp} {p : Addr} {o : HO} (h : Same H0 H) (n : H p = none) : Ext H0 H H0 (upd H p o) :=
  ⟨Same.refl _, fun b x e => by rw [upd_ne (ne_of_none e n)]; exact e, fun b x e => by
    have e' := h b x e
    rw [upd_ne (ne_of_none e' n)]; exact e', fun _ _ _ => rfl⟩
theorem not_settled {H0 H : Hp} {p : Addr} (h : Same H0 H) (n : H p = none) : H0 p = none := h.free n
/-- a new object, settled -/
theorem ext_newS {H0 H : Hp} {p : Addr} {o : HO} (h : Same H0 H) (n : H p = none) : Ext H0 H (upd H0 p o) (upd H p o) := by
  have n0 : H0 p = none := h.free n
  refine ⟨fun b x e => ?_, fun b x e => ?_, fun b x e => ?_, fun b x e => ?_⟩
  · rw [upd_ne (ne_of_none e n0)]; exact e
  · rw [upd_ne (ne_of_none e n)]; exact e
  · by_cases hb : b = p
    · subst hb; rw [upd_same] at e ⊢; exact e
    · rw [upd_ne hb] at e ⊢; exact h b x e
  · rw [upd_ne (ne_of_none e n)]

/-- no list or dict at the root -/
def flatRoot : D → Bool
  | .list _ => false
  | .dict _ => false
  | _ => true
/-- readable: settled, or a thing that may change -/
def RB (K : PySem.W.Frag) (H0 H : Hp) (v : V) (d : D) : Prop := Dd K H0 v d ∨ ∃ a, v = .ref a ∧ MO K H0 H a d
/-- the answer of an expression that is no name: settled, or new -/
def RS (n : Bool) (K : PySem.W.Frag) (H H0' H' : Hp) (v : V) (d : D) : Prop := (Dd K H0' v d ∧ (n = true → flatRoot d = true)) ∨ ∃ a, v = .ref a ∧ MO K H0' H' a d ∧ H a = none
theorem RS.rb {n : Bool} {K : PySem.W.Frag} {H H0' H' : Hp} {v : V} {d : D} (h : RS n K H H0' H' v d) : RB K H0' H' v d := by
  rcases h with ⟨h, _⟩ | ⟨a, e, m, _⟩
  · exact .inl h
  · exact .inr ⟨a, e, m⟩
theorem RB.mono {K : PySem.W.Frag} {H0 H H0' H' : Hp} {v : V} {d : D} (e : Ext H0 H H0' H') (h : RB K H0 H v d) : RB K H0' H' v d := by
  rcases h with h | ⟨a, q, m⟩
  · exact .inl (h.mono e.s0)
  · exact .inr ⟨a, q, m.mono e⟩
/-- what is new may be settled -/
theorem RS.settle {n : Bool} {K : PySem.W.Frag} {H0 H H0' H' : Hp} {v : V} {d : D} (e : Ext H0 H H0' H') (h : RS n K H H0' H' v d) : ∃ H0'', Ext H0 H H0'' H' ∧ Ext H0' H' H0' H' ∧ Same H0' H0'' ∧ (∀ b o, H b = some o → H0'' b = H0' b) ∧ Dd K H0'' v d := by
  rcases h with ⟨h, _⟩ | ⟨a, q, m, n⟩
  · exact ⟨H0', e, Ext.refl e.sub, Same.refl _, fun _ _ _ => rfl, h⟩
  · subst q
    have key : ∀ o, H' a = some o → H0' a = none → (Ext H0 H (upd H0' a o) H' ∧ Same H0' (upd H0' a o) ∧ (∀ b u, H b = some u → upd H0' a o b = H0' b)) := by
      intro o ho n0
      have s1 : Same H0' (upd H0' a o) := fun b x q => by rw [upd_ne (ne_of_none q n0)]; exact q
      refine ⟨⟨e.s0.trans s1, e.s, fun b x q => ?_, fun b x q => ?_⟩, s1, fun b x q => ?_⟩
      · by_cases hb : b = a
        · subst hb; rw [upd_same] at q; cases q; exact ho
        · rw [upd_ne hb] at q; exact e.sub b x q
      · rw [upd_ne (ne_of_none q n)]; exact e.new b x q
      · rw [upd_ne (ne_of_none q n)]
    cases m with
    | lst h1 h2 h3 =>
      obtain ⟨k1, k2, k3⟩ := key _ h2 h1
      exact ⟨_, k1, Ext.refl e.sub, k2, k3, .lst (.inl upd_same) (h3.mono k2)⟩
    | dic h1 h2 h3 =>
      obtain ⟨k1, k2, k3⟩ := key _ h2 h1
      exact ⟨_, k1, Ext.refl e.sub, k2, k3, .dic (.inl upd_same) (h3.mono k2)⟩

section
variable {K : PySem.W.Frag} {H0 H : Hp} {v : V}
theorem RB.none (h : RB K H0 H v .none) : v = .non := by
  rcases h with h | ⟨a, _, m⟩
  · cases h; rfl
  · cases m
theorem RB.bool {b : Bool} (h : RB K H0 H v (.bool b)) : v = .bl b := by
  rcases h with h | ⟨a, _, m⟩
  · cases h; rfl
  · cases m
theorem RB.int {i : Int} (h : RB K H0 H v (.int i)) : v = .int i := by
  rcases h with h | ⟨a, _, m⟩
  · cases h; rfl
  · cases m
theorem RB.str {x : Str} (h : RB K H0 H v (.str x)) : v = .str x := by
  rcases h with h | ⟨a, _, m⟩
  · cases h; rfl
  · cases m
theorem RB.list {ds : List D} (s : Same H0 H) (h : RB K H0 H v (.list ds)) : ∃ a xs, v = .ref a ∧ Rd H a (.lst xs) ∧ Dds K H0 xs ds := by
  rcases h with h | ⟨a, e, m⟩
  · cases h with
    | lst h r => exact ⟨_, _, rfl, same_rd s h, r⟩
  · cases m with
    | lst h1 h2 h3 => exact ⟨a, _, e, .inl h2, h3⟩
theorem RB.tuple {ds : List D} (s : Same H0 H) (h : RB K H0 H v (.tuple ds)) : ∃ a xs, v = .ref a ∧ Rd H a (.tup xs) ∧ Dds K H0 xs ds := by
  rcases h with h | ⟨a, e, m⟩
  · cases h with
    | tup h r => exact ⟨_, _, rfl, same_rd s h, r⟩
  · cases m
theorem RB.dict {ds : List (D × D)} (s : Same H0 H) (h : RB K H0 H v (.dict ds)) : ∃ a kvs, v = .ref a ∧ Rd H a (.dK kvs) ∧ Ddk K H0 kvs ds := by
  rcases h with h | ⟨a, e, m⟩
  · cases h with
    | dic h r => exact ⟨_, _, rfl, same_rd s h, r⟩
  · cases m with
    | dic h1 h2 h3 => exact ⟨a, _, e, .inl h2, h3⟩
end

mutual
/-- no dict within -/
def noDict : D → Bool
  | .none => true
  | .bool _ => true
  | .int _ => true
  | .str _ => true
  | .list ds => noDicts ds
  | .tuple ds => noDicts ds
  | .dict _ => false
def noDicts : List D → Bool
  | [] => true
  | d :: ds => noDict d && noDicts ds
end
mutual
theorem Dd.dp {K : PySem.W.Frag} {H : Hp} : ∀ {v : V} {d : D}, Dd K H v d → noDict d = true → Dp K H v d
  | _, _, .non, _ => .non
  | _, _, .bl b, _ => .bl b
  | _, _, .int i, _ => .int i
  | _, _, .str x, _ => .str x
  | _, _, .lst h r, n => .lst (.inl h) (Dds.dp r (by unfold noDict at n; exact n))
  | _, _, .tup h r, n => .tup (.inl h) (Dds.dp r (by unfold noDict at n; exact n))
  | _, _, .dic _ _, n => by unfold noDict at n; cases n
theorem Dds.dp {K : PySem.W.Frag} {H : Hp} : ∀ {vs : List V} {ds : List D}, Dds K H vs ds → noDicts ds = true → DpAll K H vs ds
  | _, _, .nil, _ => .nil
  | _, _, .cons h r, n => by
    unfold noDicts at n
    rw [Bool.and_eq_true] at n
    exact .cons (Dd.dp h n.1) (Dds.dp r n.2)
end
theorem RB.dp {K : PySem.W.Frag} {H0 H : Hp} {v : V} {d : D} (s : Same H0 H) (h : RB K H0 H v d) (n : noDict d = true) : Dp K H v d := by
  rcases h with h | ⟨a, e, m⟩
  · exact (h.mono s).dp n
  · subst e
    cases m with
    | lst h1 h2 h3 => exact .lst (SqL.of h2) ((h3.mono s).dp (by unfold noDict at n; exact n))
    | dic h1 h2 h3 => unfold noDict at n; cases n
end DD

namespace DD
open PySem PySem.Spec PyProof.Rows L2

inductive Fl where
  | own | bor | dat
  deriving DecidableEq
abbrev Rho := List (Option (Fl × D))
/-- the entry of a def: what was settled, what stood -/
structure Ent where
  H0 : Hp
  H : Hp
  n : Nat
inductive Res where
  | ok (d : D)
  | exc (c : Nat) (p : Option D)

def SlotOk (K : PySem.W.Frag) (en : Ent) (H0 H : Hp) : Fl → V → D → Prop
  | .own, v, d => ∃ a, v = .ref a ∧ MO K H0 H a d ∧ en.H a = none
  | .bor, v, d => Dd K H0 v d ∨ ∃ a, v = .ref a ∧ MO K H0 H a d ∧ ∃ o, en.H a = some o
  | .dat, v, d => Dd K H0 v d
structure R (K : PySem.W.Frag) (en : Ent) (ρ : Rho) (H0 : Hp) (σ : L2.St) (H : Hp) : Prop where
  sub : Same H0 H
  len : σ.length = ρ.length
  slot : ∀ (i : Nat) fl d, ρ[i]? = some (some (fl, d)) → ∃ v, σ[i]? = some (some v) ∧ SlotOk K en H0 H fl v d
  apart : ∀ (i j : Nat) di dj (v : V), i ≠ j → ρ[i]? = some (some (.own, di)) → ρ[j]? = some (some (.own, dj)) → σ[i]? = some (some v) → σ[j]? ≠ some (some v)
  e1 : Same en.H H
  e2 : Same en.H0 H0
  e3 : ∀ b o, en.H b = some o → H0 b = en.H0 b
  hn : ρ.length = en.n
theorem R.hl {K : PySem.W.Frag} {en : Ent} {ρ : Rho} {H0 H : Hp} {σ : L2.St} (r : R K en ρ H0 σ H) : σ.length = en.n := r.len.trans r.hn

theorem SlotOk.mono {K : PySem.W.Frag} {en : Ent} {H0 H H0' H' : Hp} {fl : Fl} {v : V} {d : D} (e : Ext H0 H H0' H') (h : SlotOk K en H0 H fl v d) : SlotOk K en H0' H' fl v d := by
  cases fl with
  | own => obtain ⟨a, e1, m, n⟩ := h; exact ⟨a, e1, m.mono e, n⟩
  | bor =>
    rcases h with h | ⟨a, e1, m, n⟩
    · exact .inl (h.mono e.s0)
    · exact .inr ⟨a, e1, m.mono e, n⟩
  | dat => exact Dd.mono e.s0 h
theorem R.mono {K : PySem.W.Frag} {en : Ent} {ρ : Rho} {H0 H H0' H' : Hp} {σ : L2.St} (r : R K en ρ H0 σ H) (e : Ext H0 H H0' H') : R K en ρ H0' σ H' where
  sub := e.sub
  len := r.len
  slot := fun i fl d h => by
    obtain ⟨v, h1, h2⟩ := r.slot i fl d h
    exact ⟨v, h1, h2.mono e⟩
  apart := r.apart
  e1 := r.e1.trans e.s
  e2 := r.e2.trans e.s0
  e3 := fun b o h => (e.new b o (r.e1 b o h)).trans (r.e3 b o h)
  hn := r.hn

/-- where an answer comes from: new if it is a list or dict; settled or new; what a slot holds -/
inductive Src where
  | new | any | slot (i : Nat)
/-- the answer of an expression -/
def Rz (K : PySem.W.Frag) (src : Src) (σ : L2.St) (H H0' H' : Hp) (v : V) (d : D) : Prop := match src with
  | .new => RS true K H H0' H' v d
  | .any => RS false K H H0' H' v d
  | .slot i => Dd K H0' v d ∨ ∃ a, v = .ref a ∧ MO K H0' H' a d ∧ σ[i]? = some (some (.ref a))
theorem Rz.rb {K : PySem.W.Frag} {src : Src} {σ : L2.St} {H H0' H' : Hp} {v : V} {d : D} (h : Rz K src σ H H0' H' v d) : RB K H0' H' v d := by
  cases src with
  | new => exact RS.rb h
  | any => exact RS.rb h
  | slot i =>
    rcases h with h | ⟨a, e, m, _⟩
    · exact .inl h
    · exact .inr ⟨a, e, m⟩
def Src.nw : Bool → Src
  | true => .new
  | false => .any
theorem RS.weak {n : Bool} {K : PySem.W.Frag} {H H0' H' : Hp} {v : V} {d : D} (h : RS n K H H0' H' v d) : RS false K H H0' H' v d := by
  rcases h with ⟨h, _⟩ | h
  · exact .inl ⟨h, fun e => nomatch e⟩
  · exact .inr h
theorem RS.rz {n : Bool} {K : PySem.W.Frag} {σ : L2.St} {H1 H H0' H' : Hp} {v : V} {d : D} (s : Same H1 H) (h : RS n K H H0' H' v d) : Rz K (Src.nw n) σ H1 H0' H' v d := by
  have h' : RS n K H1 H0' H' v d := by
    rcases h with h | ⟨a, e, m, n⟩
    · exact .inl h
    · exact .inr ⟨a, e, m, s.free n⟩
  cases n with
  | true => exact h'
  | false => exact h'
theorem Rz.rs {K : PySem.W.Frag} {src : Src} {σ : L2.St} {H H0' H' : Hp} {v : V} {d : D} (hs : ∀ i, src ≠ .slot i) (h : Rz K src σ H H0' H' v d) : RS false K H H0' H' v d := by
  cases src with
  | new => exact RS.weak h
  | any => exact h
  | slot i => exact absurd rfl (hs i)

/-- the program's own things: constants of the top, error classes (by number), the defs that are called (by number) -/
structure Glob where
  csts : List (Str × D)
  excs : List Str
  fns : List (Str × (List D → Option Res))
  blts : List Str

/-- an exception of the class number c, with its line -/
def ExcIs (K : PySem.W.Frag) (mg : Str → Option Value) (excs : List Str) (c : Nat) (p : Option D) (cls : Value) (dd : Option Addr) (H0 H : Hp) : Prop :=
  ∃ x C, excs[c]? = some x ∧ mg x = some (.ref C) ∧ cls = .ref C ∧
    match p with
    | none => dd = none
    | some d => ∃ q v, dd = some q ∧ H q = some (.xd [(("line" : Str), v)]) ∧ Dd K H0 v d

section
variable (K : PySem.W.Frag) (mg : Str → Option Value) (xs : List Str) (W : WX)
def PostR (src : Src) (σ : L2.St) (H0 H : Hp) (Q : VK) : Option Res → Prop
  | none => False
  | some (.ok d) => ∀ v H0' H', Ext H0 H H0' H' → Rz K src σ H H0' H' v d → Q v H'
  | some (.exc c p) => ∀ cls dd H0' H', Ext H0 H H0' H' → ExcIs K mg xs c p cls dd H0' H' → W cls dd σ H'
def Tau (src : Src) (m : Rho → Option Res) : TE := fun σ H Q => ∃ en ρ H0, R K en ρ H0 σ H ∧ PostR K mg xs W src σ H0 H Q (m ρ)
/-- settled answers -/
def PostD (σ : L2.St) (H0 H : Hp) (Q : VK) : Option Res → Prop
  | none => False
  | some (.ok d) => ∀ v H0' H', Ext H0 H H0' H' → Dd K H0' v d → Q v H'
  | some (.exc c p) => ∀ cls dd H0' H', Ext H0 H H0' H' → ExcIs K mg xs c p cls dd H0' H' → W cls dd σ H'
def TauD (m : Rho → Option Res) : TE := fun σ H Q => ∃ en ρ H0, R K en ρ H0 σ H ∧ PostD K mg xs W σ H0 H Q (m ρ)
end

inductive ResL where
  | ok (ds : List D)
  | exc (c : Nat) (p : Option D)
inductive ResB where
  | ok (b : Bool)
  | exc (c : Nat) (p : Option D)
def RBs (K : PySem.W.Frag) (H0 H : Hp) : List V → List D → Prop := Paired (RB K H0 H)
theorem RBs.mono {K : PySem.W.Frag} {H0 H H0' H' : Hp} (e : Ext H0 H H0' H') : ∀ {vs : List V} {ds : List D}, RBs K H0 H vs ds → RBs K H0' H' vs ds
  | _, _, .nil => .nil
  | _, _, .cons h r => .cons (h.mono e) (RBs.mono e r)
section
variable (K : PySem.W.Frag) (mg : Str → Option Value) (xs : List Str) (W : WX)
def PostA (σ : L2.St) (H0 H : Hp) (Q : List V → Hp → Prop) : Option ResL → Prop
  | none => False
  | some (.ok ds) => ∀ vs H0' H', Ext H0 H H0' H' → RBs K H0' H' vs ds → Q vs H'
  | some (.exc c p) => ∀ cls dd H0' H', Ext H0 H H0' H' → ExcIs K mg xs c p cls dd H0' H' → W cls dd σ H'
def TauA (m : Rho → Option ResL) : TA := fun σ H Q => ∃ en ρ H0, R K en ρ H0 σ H ∧ PostA K mg xs W σ H0 H Q (m ρ)
def PostAD (σ : L2.St) (H0 H : Hp) (Q : List V → Hp → Prop) : Option ResL → Prop
  | none => False
  | some (.ok ds) => ∀ vs H0' H', Ext H0 H H0' H' → Dds K H0' vs ds → Q vs H'
  | some (.exc c p) => ∀ cls dd H0' H', Ext H0 H H0' H' → ExcIs K mg xs c p cls dd H0' H' → W cls dd σ H'
def TauAD (m : Rho → Option ResL) : TA := fun σ H Q => ∃ en ρ H0, R K en ρ H0 σ H ∧ PostAD K mg xs W σ H0 H Q (m ρ)
def PostB (σ : L2.St) (H0 H : Hp) (Q : Bool → Hp → Prop) : Option ResB → Prop
  | none => False
  | some (.ok b) => ∀ H0' H', Ext H0 H H0' H' → Q b H'
  | some (.exc c p) => ∀ cls dd H0' H', Ext H0 H H0' H' → ExcIs K mg xs c p cls dd H0' H' → W cls dd σ H'
def TauB (m : Rho → Option ResB) : TT := fun σ H Q => ∃ en ρ H0, R K en ρ H0 σ H ∧ PostB K mg xs W σ H0 H Q (m ρ)
end

/-! ### the judgements -/
section
variable (X : Cx) (xs : List Str) (W : WX)
def JE (e : Expr) (src : Src) (m : Rho → Option Res) : Prop := PE X e (Tau X.K X.mg xs W src m)
def JD (e : Expr) (m : Rho → Option Res) : Prop := PE X e (TauD X.K X.mg xs W m)
def JA (es : List Expr) (m : Rho → Option ResL) : Prop := PA X es (TauA X.K X.mg xs W m)
def JAD (es : List Expr) (m : Rho → Option ResL) : Prop := PA X es (TauAD X.K X.mg xs W m)
def JT (e : Expr) (m : Rho → Option ResB) : Prop := PT X e (TauB X.K X.mg xs W m)
end
theorem pe_of {X : Cx} {e : Expr} {t t' : TE} (h : PE X e t) (i : ∀ σ H Q, t' σ H Q → t σ H Q) : PE X e t' := ⟨fun pins s σ H Q I q => h.run pins s σ H Q I (i σ H Q q)⟩
theorem pt_of {X : Cx} {e : Expr} {t t' : TT} (h : PT X e t) (i : ∀ σ H Q, t' σ H Q → t σ H Q) : PT X e t' := ⟨fun pins s σ H Q I q => h.run pins s σ H Q I (i σ H Q q)⟩
theorem pw_of {X : Cx} {e : Expr} {t t' : TT} (h : PW X e t) (i : ∀ σ H Q, t' σ H Q → t σ H Q) : PW X e t' := ⟨fun w pins s σ H Q I q => h.run w pins s σ H Q I (i σ H Q q)⟩
theorem pa_of {X : Cx} {e : List Expr} {t t' : TA} (h : PA X e t) (i : ∀ σ H Q, t' σ H Q → t σ H Q) : PA X e t' := ⟨fun p pins s σ H Q I q => h.run p pins s σ H Q I (i σ H Q q)⟩
theorem ps_of {X : Cx} {e : Stmt} {t t' : TS} (h : PS X e t) (i : ∀ D σ H, t' D σ H → t D σ H) : PS X e t' := ⟨fun pins s σ H D I q => h.run pins s σ H D I (i D σ H q)⟩
theorem pss_of {X : Cx} {e : List Stmt} {t t' : TS} (h : PSs X e t) (i : ∀ D σ H, t' D σ H → t D σ H) : PSs X e t' := ⟨fun pins s σ H D I q => h.run pins s σ H D I (i D σ H q)⟩
theorem pi_of {X : Cx} {tg e : Expr} {t t' : TI} (h : PI X tg e t) (i : ∀ σ H R, t' σ H R → t σ H R) : PI X tg e t' := ⟨fun pins s σ H R I q => h.run pins s σ H R I (i σ H R q)⟩

/-! ### the semantics of the parts -/
def slotVal (ρ : Rho) (i : Nat) : Option Res := match ρ[i]? with
  | some (some (_, d)) => some (.ok d)
  | _ => none
def lift1 (f : D → Option D) (ma : Rho → Option Res) : Rho → Option Res := fun ρ => match ma ρ with
  | some (.ok d) => (f d).map .ok
  | some (.exc c p) => some (.exc c p)
  | none => none
def lift2 (f : D → D → Option D) (ma mb : Rho → Option Res) : Rho → Option Res := fun ρ => match ma ρ with
  | some (.ok d) => (match mb ρ with
    | some (.ok e) => (f d e).map .ok
    | some (.exc c p) => some (.exc c p)
    | none => none)
  | some (.exc c p) => some (.exc c p)
  | none => none
def liftA (f : List D → Option D) (ma : Rho → Option ResL) : Rho → Option Res := fun ρ => match ma ρ with
  | some (.ok d) => (f d).map .ok
  | some (.exc c p) => some (.exc c p)
  | none => none
def consA (ma : Rho → Option Res) (mb : Rho → Option ResL) : Rho → Option ResL := fun ρ => match ma ρ with
  | some (.ok d) => (match mb ρ with
    | some (.ok e) => some (.ok (d :: e))
    | some (.exc c p) => some (.exc c p)
    | none => none)
  | some (.exc c p) => some (.exc c p)
  | none => none
def keepV (ρ : Rho) (i : Nat) : Option Res := match ρ[i]? with
  | some (some (fl, d)) => if fl = .dat ∨ flatRoot d = true then some (.ok d) else none
  | _ => none
def keep (src : Src) (m : Rho → Option Res) : Rho → Option Res := fun ρ => match src with
  | .slot i => keepV ρ i
  | _ => m ρ

/-- an operation over settled and changing things -/
def Op1Ok (n : Bool) (K : PySem.W.Frag) (r : V → Hp → VK → Prop) (f : D → Option D) : Prop := ∀ (H0 H : Hp) (x : V) (d1 d : D) (Q : VK), Same H0 H → RB K H0 H x d1 → f d1 = some d →
  (∀ v H0' H', Ext H0 H H0' H' → RS n K H H0' H' v d → Q v H') → r x H Q
def Op2Ok (n : Bool) (K : PySem.W.Frag) (r : R2) (f : D → D → Option D) : Prop := ∀ (H0 H : Hp) (x y : V) (d1 d2 d : D) (Q : VK), Same H0 H → RB K H0 H x d1 → RB K H0 H y d2 → f d1 d2 = some d →
  (∀ v H0' H', Ext H0 H H0' H' → RS n K H H0' H' v d → Q v H') → r x y H Q
def OpAOk (n : Bool) (K : PySem.W.Frag) (r : List V → Hp → VK → Prop) (f : List D → Option D) : Prop := ∀ (H0 H : Hp) (xs : List V) (ds : List D) (d : D) (Q : VK), Same H0 H → RBs K H0 H xs ds → f ds = some d →
  (∀ v H0' H', Ext H0 H H0' H' → RS n K H H0' H' v d → Q v H') → r xs H Q

section
variable {X : Cx} {xs : List Str} {W : WX} {a b : Expr} {sa sb : Src} {n : Bool} {ma mb : Rho → Option Res} {pos : Pos}
theorem je_var {i : Nat} {x : Str} (hN : X.N[i]? = some x) (hv : Vis X.env.scope x) (hd : (x == ("__debug__" : Str)) = false) (hcd : (x == ("__classdict__" : Str)) = false) : JE X xs W (.Name x pos) (.slot i) (fun ρ => slotVal ρ i) := by
  refine pe_of (pe_var hN hv hd hcd) fun σ H Q h => ?_
  obtain ⟨en, ρ, H0, r, p⟩ := h
  show ∃ v, σ[i]? = some (some v) ∧ Q v H
  unfold slotVal at p
  dsimp only at p
  split at p
  · rename_i fl d e
    obtain ⟨v, h1, h2⟩ := r.slot i fl d e
    refine ⟨v, h1, p v H0 H (Ext.refl r.sub) ?_⟩
    cases fl with
    | own => obtain ⟨a, e1, m, n⟩ := h2; subst e1; exact .inr ⟨a, rfl, m, h1⟩
    | bor =>
      rcases h2 with h2 | ⟨a, e1, m, n⟩
      · exact .inl h2
      · subst e1; exact .inr ⟨a, rfl, m, h1⟩
    | dat => exact .inl h2
  · exact p.elim
theorem je_val {e : Expr} {v : V} {d : D} (h : PE X e (tC v)) (hd : ∀ H0, Dd X.K H0 v d) (hf : flatRoot d = true) : JE X xs W e .new (fun _ => some (.ok d)) := by
  refine pe_of h fun σ H Q h => ?_
  obtain ⟨en, ρ, H0, r, p⟩ := h
  exact p v H0 H (Ext.refl r.sub) (.inl ⟨hd H0, fun _ => hf⟩)
theorem je_un {op : UnaryOp} {r : V → Hp → VK → Prop} {f : D → Option D} (ho : UnR X (unaryOp op) r) (hf : Op1Ok n X.K r f) (ha : JE X xs W a sa ma) : JE X xs W (.UnaryOp op a pos) (Src.nw n) (lift1 f ma) := by
  refine pe_of (pe_un ho ha) fun σ H Q h => ?_
  obtain ⟨en, ρ, H0, rr, p⟩ := h
  refine ⟨en, ρ, H0, rr, ?_⟩
  unfold lift1 at p
  cases e1 : ma ρ with
  | none => rw [e1] at p; exact p.elim
  | some r1 =>
    rw [e1] at p
    cases r1 with
    | exc c q => exact p
    | ok d1 =>
      intro v H0' H' x1 z1
      simp only at p
      cases e3 : f d1 with
      | none => rw [e3] at p; exact p.elim
      | some d =>
        rw [e3] at p
        exact hf H0' H' v d1 d Q x1.sub z1.rb e3 fun v3 H3 H4 x3 z3 => p v3 H3 H4 (x1.trans x3) (z3.rz x1.s)
/-- two in a row, then an operation -/
theorem tau_two {σ : L2.St} {H : Hp} {Q : VK} {r : R2} {f : D → D → Option D} {K : PySem.W.Frag} {mg : Str → Option Value} (hf : Op2Ok n K r f) (h : Tau K mg xs W (Src.nw n) (lift2 f ma mb) σ H Q) :
    Tau K mg xs W sa ma σ H fun x H1 => Tau K mg xs W sb mb σ H1 fun y H2 => r x y H2 Q := by
  obtain ⟨en, ρ, H0, rr, p⟩ := h
  refine ⟨en, ρ, H0, rr, ?_⟩
  unfold lift2 at p
  cases e1 : ma ρ with
  | none => rw [e1] at p; exact p.elim
  | some r1 =>
    rw [e1] at p
    cases r1 with
    | exc c q => exact p
    | ok d1 =>
      intro v H0' H' x1 z1
      refine ⟨en, ρ, H0', rr.mono x1, ?_⟩
      simp only at p
      cases e2 : mb ρ with
      | none => rw [e2] at p; exact p.elim
      | some r2 =>
        rw [e2] at p
        cases r2 with
        | exc c q => exact fun cls dd A B x2 z2 => p cls dd A B (x1.trans x2) z2
        | ok d2 =>
          intro v2 H02 H2 x2 z2
          simp only at p
          cases e3 : f d1 d2 with
          | none => rw [e3] at p; exact p.elim
          | some d =>
            rw [e3] at p
            exact hf H02 H2 v v2 d1 d2 d Q x2.sub (z1.rb.mono x2) z2.rb e3 fun v3 H3 H4 x3 z3 => p v3 H3 H4 (x1.trans (x2.trans x3)) (z3.rz (x1.s.trans x2.s))
theorem je_op {op : Operator} {r : R2} {f : D → D → Option D} (ho : OpR X (binaryOp op) r) (hf : Op2Ok n X.K r f) (ha : JE X xs W a sa ma) (hb : JE X xs W b sb mb) : JE X xs W (.BinOp a op b pos) (Src.nw n) (lift2 f ma mb) :=
  pe_of (pe_op ho ha hb) fun σ H Q h => tau_two hf h
theorem je_cmp {op : CmpOp} {r : R2} {f : D → D → Option D} (ho : OpR X (compareOp op) r) (hf : Op2Ok n X.K r f) (hm : behindInMarks op b = false) (ha : JE X xs W a sa ma) (hb : JE X xs W b sb mb) : JE X xs W (.Compare a [op] [b] pos) (Src.nw n) (lift2 f ma mb) :=
  pe_of (pe_cmpR ho ha hb hm) fun σ H Q h => tau_two hf h
theorem je_ix {r : R2} {f : D → D → Option D} (ho : IxR X r) (hf : Op2Ok n X.K r f) (hs : PlainIx b) (ha : JE X xs W a sa ma) (hb : JE X xs W b sb mb) : JE X xs W (.Subscript a b pos) (Src.nw n) (lift2 f ma mb) :=
  pe_of (pe_ix ho ha hb hs) fun σ H Q h => tau_two hf h
/-- a settled answer from any -/
theorem jd_of (ha : JE X xs W a sa ma) (hs : ∀ i, sa = .slot i → ma = fun ρ => slotVal ρ i) : JD X xs W a (keep sa ma) := by
  refine pe_of ha fun σ H Q h => ?_
  obtain ⟨en, ρ, H0, rr, p⟩ := h
  refine ⟨en, ρ, H0, rr, ?_⟩
  unfold keep at p
  have plain : (∀ i, sa ≠ .slot i) → PostD X.K X.mg xs W σ H0 H Q (ma ρ) → PostR X.K X.mg xs W sa σ H0 H Q (ma ρ) := by
    intro hn p
    cases e1 : ma ρ with
    | none => rw [e1] at p; exact p.elim
    | some r1 =>
      rw [e1] at p
      cases r1 with
      | exc c q => exact p
      | ok d1 =>
        intro v H0' H' x1 z1
        obtain ⟨H02, k1, _, _, _, k5⟩ := RS.settle x1 (z1.rs hn)
        exact p v H02 H' k1 k5
  cases sa with
  | new => exact plain (fun i e => nomatch e) p
  | any => exact plain (fun i e => nomatch e) p
  | slot i =>
    simp only at p
    rw [hs i rfl]
    unfold keepV at p
    unfold slotVal
    dsimp only
    split at p
    · rename_i fl d e
      intro v H0' H' x1 z1
      split at p
      · rename_i c
        refine p v H0' H' x1 ?_
        rcases z1 with z1 | ⟨a1, q, m, z⟩
        · exact z1
        · rcases c with c | c
          · subst c
            obtain ⟨w, h1, h2⟩ := rr.slot i _ _ e
            have h2' : Dd X.K H0 w d := h2
            subst q
            have z' : σ[i]? = some (some (.ref a1)) := z
            rw [h1] at z'
            cases z'
            exact h2'.mono x1.s0
          · cases m <;> simp [flatRoot] at c
      · exact p.elim
    · exact p.elim

/-! ### argument lists -/
theorem ja_nil : JA X xs W [] (fun _ => some (.ok [])) := by
  refine pa_of pa_nil fun σ H Q h => ?_
  obtain ⟨en, ρ, H0, r, p⟩ := h
  exact p [] H0 H (Ext.refl r.sub) .nil
theorem ja_cons {e : Expr} {es : List Expr} {m : Rho → Option Res} {ms : Rho → Option ResL} (he : JE X xs W e sa m) (hr : JA X xs W es ms)
    (hs : starEach (e :: es) X.env = (false, eval e X.env) :: starEach es X.env) : JA X xs W (e :: es) (consA m ms) := by
  refine pa_of (pa_cons he hr hs) fun σ H Q h => ?_
  obtain ⟨en, ρ, H0, rr, p⟩ := h
  refine ⟨en, ρ, H0, rr, ?_⟩
  unfold consA at p
  cases e1 : m ρ with
  | none => rw [e1] at p; exact p.elim
  | some r1 =>
    rw [e1] at p
    cases r1 with
    | exc c q => exact p
    | ok d1 =>
      intro v H0' H' x1 z1
      refine ⟨en, ρ, H0', rr.mono x1, ?_⟩
      simp only at p
      cases e2 : ms ρ with
      | none => rw [e2] at p; exact p.elim
      | some r2 =>
        rw [e2] at p
        cases r2 with
        | exc c q => exact fun cls dd A B x2 z2 => p cls dd A B (x1.trans x2) z2
        | ok d2 => exact fun vs H02 H2 x2 z2 => p (v :: vs) H02 H2 (x1.trans x2) (.cons (z1.rb.mono x2) z2)
theorem jad_nil : JAD X xs W [] (fun _ => some (.ok [])) := by
  refine pa_of pa_nil fun σ H Q h => ?_
  obtain ⟨en, ρ, H0, r, p⟩ := h
  exact p [] H0 H (Ext.refl r.sub) .nil
theorem jad_cons {e : Expr} {es : List Expr} {m : Rho → Option Res} {ms : Rho → Option ResL} (he : JD X xs W e m) (hr : JAD X xs W es ms)
    (hs : starEach (e :: es) X.env = (false, eval e X.env) :: starEach es X.env) : JAD X xs W (e :: es) (consA m ms) := by
  refine pa_of (pa_cons he hr hs) fun σ H Q h => ?_
  obtain ⟨en, ρ, H0, rr, p⟩ := h
  refine ⟨en, ρ, H0, rr, ?_⟩
  unfold consA at p
  cases e1 : m ρ with
  | none => rw [e1] at p; exact p.elim
  | some r1 =>
    rw [e1] at p
    cases r1 with
    | exc c q => exact p
    | ok d1 =>
      intro v H0' H' x1 z1
      refine ⟨en, ρ, H0', rr.mono x1, ?_⟩
      simp only at p
      cases e2 : ms ρ with
      | none => rw [e2] at p; exact p.elim
      | some r2 =>
        rw [e2] at p
        cases r2 with
        | exc c q => exact fun cls dd A B x2 z2 => p cls dd A B (x1.trans x2) z2
        | ok d2 => exact fun vs H02 H2 x2 z2 => p (v :: vs) H02 H2 (x1.trans x2) (.cons (z1.mono x2.s0) z2)
/-- displays (at most a million items are written) -/
def okSize (ds : List D) : Bool := decide (ds.length ≤ 16777216)
theorem je_tup {es : List Expr} {x1 : Nat} {ms : Rho → Option ResL} (h : JAD X xs W es ms) : JE X xs W (.Tuple es x1 pos) .new (liftA (fun ds => if okSize ds then some (.tuple ds) else none) ms) := by
  refine pe_of (pe_tup h) fun σ H Q h => ?_
  obtain ⟨en, ρ, H0, rr, p⟩ := h
  refine ⟨en, ρ, H0, rr, ?_⟩
  unfold liftA at p
  cases e1 : ms ρ with
  | none => rw [e1] at p; exact p.elim
  | some r1 =>
    rw [e1] at p
    cases r1 with
    | exc c q => exact p
    | ok d1 =>
      intro v H0' H' x1 z1
      simp only at p
      split at p
      · rename_i hz
        unfold okSize at hz
        have hz := of_decide_eq_true hz
        refine ⟨by rw [z1.length, sizeLine_eq]; exact hz, fun q nq => ?_⟩
        have x2 := ext_newS (o := .tup v) x1.sub nq
        exact p (.ref q) _ _ (x1.trans x2) (.inl ⟨.tup (.inl upd_same) (z1.mono x2.s0), fun _ => rfl⟩)
      · exact p.elim
theorem je_lst {es : List Expr} {ms : Rho → Option ResL} (h : JAD X xs W es ms) : JE X xs W (.List es pos) .new (liftA (fun ds => if okSize ds then some (.list ds) else none) ms) := by
  refine pe_of (pe_lst h) fun σ H Q h => ?_
  obtain ⟨en, ρ, H0, rr, p⟩ := h
  refine ⟨en, ρ, H0, rr, ?_⟩
  unfold liftA at p
  cases e1 : ms ρ with
  | none => rw [e1] at p; exact p.elim
  | some r1 =>
    rw [e1] at p
    cases r1 with
    | exc c q => exact p
    | ok d1 =>
      intro v H0' H' x1 z1
      simp only at p
      split at p
      · rename_i hz
        unfold okSize at hz
        have hz := of_decide_eq_true hz
        refine ⟨by rw [z1.length, sizeLine_eq]; exact hz, fun q nq => ?_⟩
        have x2 := ext_new (o := .lst v) x1.sub nq
        exact p (.ref q) _ _ (x1.trans x2) (.inr ⟨q, rfl, .lst (not_settled x1.sub nq) upd_same z1, x1.s.free nq⟩)
      · exact p.elim
/-- a built-in by its name -/
theorem tau_args {σ : L2.St} {H : Hp} {Q : VK} {r : List V → Hp → VK → Prop} {f : List D → Option D} {K : PySem.W.Frag} {mg : Str → Option Value} {ms : Rho → Option ResL} (hf : OpAOk n K r f) (h : Tau K mg xs W (Src.nw n) (liftA f ms) σ H Q) :
    TauA K mg xs W ms σ H fun vs H1 => r vs H1 Q := by
  obtain ⟨en, ρ, H0, rr, p⟩ := h
  refine ⟨en, ρ, H0, rr, ?_⟩
  unfold liftA at p
  cases e1 : ms ρ with
  | none => rw [e1] at p; exact p.elim
  | some r1 =>
    rw [e1] at p
    cases r1 with
    | exc c q => exact p
    | ok d1 =>
      intro v H0' H' x1 z1
      simp only at p
      cases e3 : f d1 with
      | none => rw [e3] at p; exact p.elim
      | some d =>
        rw [e3] at p
        exact hf H0' H' v d1 d Q x1.sub z1 e3 fun v3 H3 H4 x3 z3 => p v3 H3 H4 (x1.trans x3) (z3.rz x1.s)
theorem je_callB {id : String} {x : Str} {p : Pos} {e : Expr} {es : List Expr} {r : List V → Hp → VK → Prop} {f : List D → Option D} {ms : Rho → Option ResL} (hc : CallR X (.builtin id) r) (hf : OpAOk n X.K r f) (hg : Gl X x) (hm : X.mg x = none) (hv : bootBuiltins x = some (.builtin id)) (ha : JA X xs W (e :: es) ms)
    (hn : x ≠ "__name__") (hdb : (x == ("__debug__" : Str)) = false) (he : starEach (e :: es) X.env = (false, eval e X.env) :: starEach es X.env) (hpl : (backTo pos (starEach es X.env)).any (·.1) = false) :
    JE X xs W (.Call (.Name x p) (e :: es) [] pos) (Src.nw n) (liftA f ms) :=
  pe_of (pe_callB hc hg hm hv ha hn hdb he hpl) fun σ H Q h => tau_args hf h
theorem je_callTy {T : String} {x : Str} {p : Pos} {e : Expr} {es : List Expr} {r : List V → Hp → VK → Prop} {f : List D → Option D} {ms : Rho → Option ResL} (hc : CallR X (.type T) r) (hf : OpAOk n X.K r f) (hg : Gl X x) (hm : X.mg x = none) (hv : bootBuiltins x = some (.type T)) (ha : JA X xs W (e :: es) ms)
    (hn : x ≠ "__name__") (hdb : (x == ("__debug__" : Str)) = false) (he : starEach (e :: es) X.env = (false, eval e X.env) :: starEach es X.env) (hpl : (backTo pos (starEach es X.env)).any (·.1) = false) :
    JE X xs W (.Call (.Name x p) (e :: es) [] pos) (Src.nw n) (liftA f ms) :=
  pe_of (pe_callTy hc hg hm hv ha hn hdb he hpl) fun σ H Q h => tau_args hf h

/-! ### a def's promise -/
/-- what a def keeps whose answer is the function phi of its arguments -/
def spOf (nw : Bool) (K : PySem.W.Frag) (mg : Str → Option Value) (xs : List Str) (n : Nat) (phi : List D → Option Res) : Sp := fun vs H Q E => vs.length = n ∧ ∃ (H0 : Hp) (ds : List D), Same H0 H ∧ RBs K H0 H vs ds ∧
  match phi ds with
  | none => False
  | some (.ok d) => ∀ v H0' H', Ext H0 H H0' H' → RS nw K H H0' H' v d → Q v H'
  | some (.exc c p) => ∀ cls dd H0' H', Ext H0 H H0' H' → ExcIs K mg xs c p cls dd H0' H' → E cls dd H'
def callF (f : List D → Option Res) (ma : Rho → Option ResL) : Rho → Option Res := fun ρ => match ma ρ with
  | some (.ok d) => f d
  | some (.exc c p) => some (.exc c p)
  | none => none
theorem RBs.length {K : PySem.W.Frag} {H0 H : Hp} : ∀ {vs : List V} {ds : List D}, RBs K H0 H vs ds → vs.length = ds.length := Paired.length
theorem je_call {k : Nat} {f : Addr} {fd : FuncData} {ps : List Str} {x : Str} {p : Pos} {e : Expr} {es : List Expr} {phi : List D → Option Res} {ms : Rho → Option ResL} (tk : Takes X W)
    (F : FnOk X.prog X.w X.K X.mg X.base (L2.CX X.prog X.w) k f fd ps (spOf n X.K X.mg xs ps.length phi)) (hr : Room k X.A) (hg : Gl X x) (hm : X.mg x = some (.ref f)) (hk : PySem.W.keepIn X.K (.ref f) = true) (hb : Binds X.K fd ps [])
    (ha : JA X xs W (e :: es) ms) (hl : ∀ ρ ds, ms ρ = some (.ok ds) → ds.length = ps.length) (hdb : (x == ("__debug__" : Str)) = false) (he : starEach (e :: es) X.env = (false, eval e X.env) :: starEach es X.env) (hpl : (backTo pos (starEach es X.env)).any (·.1) = false) :
    JE X xs W (.Call (.Name x p) (e :: es) [] pos) (Src.nw n) (callF phi ms) := by
  refine pe_of (pe_callS F hr hg hm hk hb (fun σ => passAt tk σ) ha hdb he hpl) fun σ H Q h => ?_
  obtain ⟨en, ρ, H0, rr, p⟩ := h
  refine ⟨en, ρ, H0, rr, ?_⟩
  unfold callF at p
  cases e1 : ms ρ with
  | none => rw [e1] at p; exact p.elim
  | some r1 =>
    rw [e1] at p
    cases r1 with
    | exc c q => exact p
    | ok d1 =>
      intro v H0' H' x1 z1
      simp only at p
      refine ⟨by rw [z1.length]; exact hl ρ d1 e1, H0', d1, x1.sub, z1, ?_⟩
      cases e3 : phi d1 with
      | none => rw [e3] at p; exact p.elim
      | some r3 =>
        rw [e3] at p
        cases r3 with
        | exc c q => exact fun cls dd A B x2 z2 => p cls dd A B (x1.trans x2) z2
        | ok d => exact fun v3 H3 H4 x3 z3 => p v3 H3 H4 (x1.trans x3) (z3.rz x1.s)

/-! ### tests -/
def truthD : D → Option Bool
  | .none => some false
  | .bool b => some b
  | .int i => some (i != 0)
  | .list ds => some (!ds.isEmpty)
  | .tuple ds => some (!ds.isEmpty)
  | _ => none
def tstB (ma : Rho → Option Res) : Rho → Option ResB := fun ρ => match ma ρ with
  | some (.ok d) => (truthD d).map .ok
  | some (.exc c p) => some (.exc c p)
  | none => none
theorem truV_of {K : PySem.W.Frag} {H0 H : Hp} {v : V} {d : D} {b : Bool} (s : Same H0 H) (h : RB K H0 H v d) (e : truthD d = some b) : TruV K v H b := by
  cases d with
  | none => cases h.none; cases e; rfl
  | bool b => cases h.bool; cases e; rfl
  | int i => cases h.int; cases e; rfl
  | str x => cases e
  | dict x => cases e
  | list ds =>
    obtain ⟨a, ys, rfl, h1, h2⟩ := h.list s
    cases e
    refine .inl ⟨ys, .inl h1, ?_⟩
    have := h2.length
    cases ys <;> cases ds <;> simp_all
  | tuple ds =>
    obtain ⟨a, ys, rfl, h1, h2⟩ := h.tuple s
    cases e
    refine .inr (.inl ⟨ys, .inl h1, ?_⟩)
    have := h2.length
    cases ys <;> cases ds <;> simp_all
theorem jt_truth (ha : JE X xs W a sa ma) (he : ∀ whole, isTrue a X.env whole = (do let v ← whole; standAt a.pos; holding [v] (truthy v))) : JT X xs W a (tstB ma) := by
  refine pt_of (pt_truth ha he) fun σ H Q h => ?_
  obtain ⟨en, ρ, H0, rr, p⟩ := h
  refine ⟨en, ρ, H0, rr, ?_⟩
  unfold tstB at p
  cases e1 : ma ρ with
  | none => rw [e1] at p; exact p.elim
  | some r1 =>
    rw [e1] at p
    cases r1 with
    | exc c q => exact p
    | ok d1 =>
      intro v H0' H' x1 z1
      simp only at p
      cases e3 : truthD d1 with
      | none => rw [e3] at p; exact p.elim
      | some b =>
        rw [e3] at p
        exact ⟨b, truV_of x1.sub z1.rb e3, p H0' H' x1⟩
/-- a comparison as a test: its answer is a bool -/
theorem jt_cmp {op : CmpOp} {r : R2} {f : D → D → Option D} (ho : OpR X (compareOp op) r) (hf : Op2Ok n X.K r f) (hfb : ∀ d e z, f d e = some z → ∃ b, z = .bool b) (hm : behindInMarks op b = false) (ha : JE X xs W a sa ma) (hb : JE X xs W b sb mb) :
    JT X xs W (.Compare a [op] [b] pos) (tstB (lift2 f ma mb)) := by
  refine pt_of (pt_cmpR ho ha hb hm) fun σ H Q h => ?_
  refine tau_two (mg := X.mg) (Q := fun x H' => ∃ k, x = .bl k ∧ Q k H') hf ?_
  obtain ⟨en, ρ, H0, rr, p⟩ := h
  refine ⟨en, ρ, H0, rr, ?_⟩
  unfold tstB at p
  have hb : ∀ d, lift2 f ma mb ρ = some (.ok d) → ∃ b, d = .bool b := by
    intro d hd
    unfold lift2 at hd
    split at hd
    · split at hd
      · rename_i d1 _ _ d2 _
        cases e : f d1 d2 with
        | none => rw [e] at hd; cases hd
        | some z =>
          rw [e] at hd
          cases hd
          exact hfb _ _ _ e
      · cases hd
      · cases hd
    · cases hd
    · cases hd
  cases e1 : lift2 f ma mb ρ with
  | none => rw [e1] at p; exact p.elim
  | some r1 =>
    rw [e1] at p
    cases r1 with
    | exc c q => exact p
    | ok d =>
      obtain ⟨k, rfl⟩ := hb d e1
      intro v H0' H' x1 z1
      cases z1.rb.bool
      exact ⟨k, rfl, p H0' H' x1⟩
def notB (m : Rho → Option ResB) : Rho → Option ResB := fun ρ => match m ρ with
  | some (.ok b) => some (.ok (!b))
  | some (.exc c p) => some (.exc c p)
  | none => none
def andB (m n : Rho → Option ResB) : Rho → Option ResB := fun ρ => match m ρ with
  | some (.ok true) => n ρ
  | some (.ok false) => some (.ok false)
  | some (.exc c p) => some (.exc c p)
  | none => none
def orB (m n : Rho → Option ResB) : Rho → Option ResB := fun ρ => match m ρ with
  | some (.ok true) => some (.ok true)
  | some (.ok false) => n ρ
  | some (.exc c p) => some (.exc c p)
  | none => none
theorem jt_not {m : Rho → Option ResB} (h : JT X xs W a m) : JT X xs W (.UnaryOp .Not a pos) (notB m) := by
  refine pt_of (pt_not h) fun σ H Q h => ?_
  obtain ⟨en, ρ, H0, rr, p⟩ := h
  refine ⟨en, ρ, H0, rr, ?_⟩
  unfold notB at p
  cases e1 : m ρ with
  | none => rw [e1] at p; exact p.elim
  | some r1 =>
    rw [e1] at p
    cases r1 with
    | exc c q => exact p
    | ok b => exact fun H0' H' x1 => p H0' H' x1
def JW (X : Cx) (xs : List Str) (W : WX) (e : Expr) (m : Rho → Option ResB) : Prop := PW X e (TauB X.K X.mg xs W m)
theorem jw_and1 {m : Rho → Option ResB} (h : JT X xs W a m) : JW X xs W (.BoolOp .And [a] pos) m := pw_and1 h
theorem jw_or1 {m : Rho → Option ResB} (h : JT X xs W a m) : JW X xs W (.BoolOp .Or [a] pos) m := pw_or1 h
theorem jw_and {rest : List Expr} {m n : Rho → Option ResB} (h : JT X xs W a m) (h2 : JW X xs W (.BoolOp .And (b :: rest) pos) n) : JW X xs W (.BoolOp .And (a :: b :: rest) pos) (andB m n) := by
  refine pw_of (pw_and h h2) fun σ H Q h => ?_
  obtain ⟨en, ρ, H0, rr, p⟩ := h
  refine ⟨en, ρ, H0, rr, ?_⟩
  unfold andB at p
  cases e1 : m ρ with
  | none => rw [e1] at p; exact p.elim
  | some r1 =>
    rw [e1] at p
    cases r1 with
    | exc c q => exact p
    | ok b =>
      intro H0' H' x1
      cases b with
      | false => exact iteF (p H0' H' x1)
      | true =>
        refine iteT ⟨en, ρ, H0', rr.mono x1, ?_⟩
        simp only at p
        cases e2 : n ρ with
        | none => rw [e2] at p; exact p.elim
        | some r2 =>
          rw [e2] at p
          cases r2 with
          | exc c q => exact fun cls dd A B x2 z2 => p cls dd A B (x1.trans x2) z2
          | ok b => exact fun H02 H2 x2 => p H02 H2 (x1.trans x2)
theorem jw_or {rest : List Expr} {m n : Rho → Option ResB} (h : JT X xs W a m) (h2 : JW X xs W (.BoolOp .Or (b :: rest) pos) n) : JW X xs W (.BoolOp .Or (a :: b :: rest) pos) (orB m n) := by
  refine pw_of (pw_or h h2) fun σ H Q h => ?_
  obtain ⟨en, ρ, H0, rr, p⟩ := h
  refine ⟨en, ρ, H0, rr, ?_⟩
  unfold orB at p
  cases e1 : m ρ with
  | none => rw [e1] at p; exact p.elim
  | some r1 =>
    rw [e1] at p
    cases r1 with
    | exc c q => exact p
    | ok b =>
      intro H0' H' x1
      cases b with
      | true => exact iteT (p H0' H' x1)
      | false =>
        refine iteF ⟨en, ρ, H0', rr.mono x1, ?_⟩
        simp only at p
        cases e2 : n ρ with
        | none => rw [e2] at p; exact p.elim
        | some r2 =>
          rw [e2] at p
          cases r2 with
          | exc c q => exact fun cls dd A B x2 z2 => p cls dd A B (x1.trans x2) z2
          | ok b => exact fun H02 H2 x2 => p H02 H2 (x1.trans x2)
end
end DD

namespace DD
open PySem PySem.Spec PyProof.Rows L2

/-! ### rules of the layer, for things that are known too -/
section
variable {X : Cx} {pins : List (Addr × Obj)} {σ : L2.St} {H : Hp} {s : Shared} {l : Addr} {xs : List V}
theorem inv_lstR (I : Inv X pins σ H s) (hH : Rd H l (.lst xs)) : xs.length ≤ sizeLine ∧ ∃ (its : List Value) (n : Nat), Vals xs its ∧ xs.length = its.length ∧ s.heap.get? l = some { cls := .type "list", data := .seq its.toArray n } := by
  obtain ⟨z, its, n, r, e⟩ := hH.ok I.hok
  exact ⟨z, its, n, r, r.length, e⟩
end
section
variable {X : Cx}
def rCatL : R2 := fun x y H Q => ∃ l b xs zs, x = .ref l ∧ y = .ref b ∧ Rd H l (.lst xs) ∧ Rd H b (.lst zs) ∧ xs.length + zs.length ≤ sizeLine ∧ ∀ p, H p = none → Q (.ref p) (upd H p (.lst (xs ++ zs)))
theorem op_catL : OpR X (binaryOp .Add) rCatL := by
  intro pins s σ H x y v u Q I rx ry h
  obtain ⟨l, b, xs, zs, rfl, rfl, hH, hB, hz, q⟩ := h
  cases rx
  cases ry
  obtain ⟨z, its, n, r, hl, e⟩ := inv_lstR I hH
  obtain ⟨z2, its2, n2, r2, hl2, e2⟩ := inv_lstR I hB
  refine PySem.P.add_list e e2 ?_ (by rw [List.size_toArray, List.size_toArray]; omega)
  have ea : its.toArray ++ its2.toArray = (its ++ its2).toArray := by simp
  rw [ea]
  exact ⟨.ref _, _, I.lnew (t' := s.toks) (r.append r2) (by rw [List.length_append]; omega), rfl, q _ I.fresh⟩
def rRepL : R2 := fun x y H Q => ∃ l k xs, x = .ref l ∧ y = .int k ∧ Rd H l (.lst xs) ∧ -(2 ^ 63) ≤ k ∧ k < 2 ^ 63 ∧ xs.length * k.toNat ≤ sizeLine ∧
  ∀ p, H p = none → Q (.ref p) (upd H p (.lst (List.replicate k.toNat xs).flatten))
theorem op_repL : OpR X (binaryOp .Mult) rRepL := by
  intro pins s σ H x y v u Q I rx ry h
  obtain ⟨l, k, xs, rfl, rfl, hH, h1, h2, hz, q⟩ := h
  cases rx
  obtain ⟨t, rfl⟩ := ry
  obtain ⟨z, its, n, r, hl, e⟩ := inv_lstR I hH
  have hlen : its.toArray.size * k.toNat ≤ sizeLine := by rw [List.size_toArray, ← hl]; exact hz
  have hcap : ¬ its.toArray.size * k.toNat > (2 ^ 63 - 1) / 8 := by
    have : (sizeLine : Nat) ≤ (2 ^ 63 - 1) / 8 := by decide
    omega
  have hfit : ¬ (!Builtin.List.listFitsIndex k) = true := by
    rw [fitsIndex_both h1 h2]
    exact Bool.false_ne_true
  have hlong : ¬ Builtin.List.listTooLong (its.toArray.size * k.toNat) = true := by
    rw [notLongL hlen]
    exact Bool.false_ne_true
  have hnew : List.foldl (fun x1 x2 => x1 ++ x2) #[] (List.replicate (if its.toArray.isEmpty = true then 0 else k.toNat) its.toArray) = (List.replicate k.toNat its).flatten.toArray := by
    have f0 : ∀ m : Nat, List.foldl (fun x1 x2 => x1 ++ x2) #[] (List.replicate m its.toArray) = (List.replicate m its).flatten.toArray := fun m => by
      have := foldl_rep its m []
      rw [List.nil_append] at this
      exact this
    rw [f0]
    cases its with
    | nil => simp
    | cons a r' => rw [if_neg (by simp)]
  refine wpAny_binaryOp_repeat_ref (T := "list") (U := "int") (by decide) ⟨_, e, rfl⟩ (fun s' => typeIs_int s' k t) noFill_list_mul F.fills_int_mul F.slot_int_rmul repeat_list F.slot_int_index.lookup
    (call_meets F.slot_int_rmul (typeIs_int s k t) F.entry_int_rmul (F.args_int_rmul_2 _ _) (int___rmul___int_list k t l its.toArray n)
      ⟨e, rfl, ⟨_, e, rfl⟩, call_meets F.slot_list_mul ⟨_, e, rfl⟩ F.entry_list_mul (F.args_list_mul_2 _ _) (AutoListH.list___mul___list_int_3 l its.toArray n k t hfit hcap hlong) ⟨e, ?_⟩⟩)
  rw [hnew]
  exact ⟨.ref _, _, I.lnew (t' := s.toks) (r.rep k.toNat) (by rw [PyProof.Rows.lm_len_rep_flat, Nat.mul_comm]; exact hz), rfl, q _ I.fresh⟩
theorem sum_rawT {prog : Program} {w : World} {A : Around} {E : Value → Shared → Prop} {s : Shared} {l : Addr} {its : List Value} {ns : List Int} {Q : Value → Shared → Prop} (hh : A.handled = none) (hl : s.heap.IsTuple l its.toArray) (hi : IntsAre its ns)
    (h : ∀ h' tk t', (∀ b o, s.heap.get? b = some o → h'.get? b = some o) → Q (.int ns.sum t') { s with heap := h', toks := tk }) : wpAny (model prog w) A (call (.builtin "sum") [.ref l]) Q E s := by
  obtain ⟨xs, e⟩ := hi.allInts.items
  have hn : numsOf (intItems xs).toList = ns := by rw [← e]; exact hi.numsOf
  rw [nums_intItems] at hn
  rw [e] at hl
  have hlt : l < s.heap.objs.size := by
    obtain ⟨o, ho, _⟩ := hl
    exact Heap.lt_size ho
  refine call_sum_walkG (wpAny_pyIter_tuple hl ?_)
  refine ⟨_, [s.heap.objs.size, l], [s.heap.objs.size], _, _, _, numAt xs, rfl, Walks.tuple (A := A.in1) hh _ l (Nat.ne_of_lt hlt) (intItems xs), ⟨⟨_, Heap.get?_push_size _ rfl, rfl, rfl⟩, ?_⟩, fun b hb => ?_, (fun _ _ => intItems_at), fun h' tk t' hk => ?_⟩
  · obtain ⟨o, ho, h1⟩ := hl
    exact ⟨o, Heap.get?_push_of_some _ ho, h1⟩
  · rw [Heap.size_push]
    simp only [List.mem_cons, List.not_mem_nil, or_false] at hb
    rcases hb with rfl | rfl
    · exact Nat.lt_succ_self _
    · exact Nat.lt_succ_of_lt hlt
  · have := h h' tk t' (fun b o e => hk b o (by
      simp only [List.mem_cons, List.not_mem_nil, or_false]
      exact Nat.ne_of_lt (Heap.lt_size e)) (Heap.get?_push_of_some _ e))
    have e2 : preSum (numAt xs) (intItems xs).size = ns.sum := by
      rw [preSum_eq, List.take_of_length_le (by simp [intItems]), hn]
    rw [e2]
    exact this
def rSumT (K : PySem.W.Frag) : List V → Hp → VK → Prop := fun vs H Q => ∃ (a : Addr) (ns : List Int), vs = [V.ref a] ∧ SqT K H a (ns.map V.int) ∧ Q (.int ns.sum) H
theorem cr_sumT (hc : X.calm = true) : CallR X (.builtin "sum") (rSumT X.K) := by
  intro pins s σ H xs us Q I r h
  obtain ⟨a, ns, rfl, hq, q⟩ := h
  cases Vals.ref1 r
  obtain ⟨its, rv, p, hz⟩ := I.tuple hq
  exact sum_rawT (I.ok.hd hc) p (Vals.ints rv) fun h' tk t' hk => ⟨.int ns.sum, H, I.kept hk, ⟨_, rfl⟩, q⟩
end

/-! ### the operations on data -/
def addD : D → D → Option D
  | .int i, .int j => some (.int (i + j))
  | .str x, .str y => if x.length + y.length ≤ 16777216 then some (.str (x ++ y)) else none
  | .tuple a, .tuple b => if a.length + b.length ≤ 16777216 then some (.tuple (a ++ b)) else none
  | .list a, .list b => if a.length + b.length ≤ 16777216 then some (.list (a ++ b)) else none
  | _, _ => none
def subD : D → D → Option D
  | .int i, .int j => some (.int (i - j))
  | _, _ => none
/-! sealed bounds: the kernel shall not count down from them -/
theorem mulOk_ex : ∃ f : Int → Int → Bool, ∀ i j, f i j = decide ((-(2 ^ 64) < i ∧ i < 2 ^ 64) ∨ (-(2 ^ 64) < j ∧ j < 2 ^ 64)) := ⟨_, fun _ _ => rfl⟩
noncomputable def mulOk : Int → Int → Bool := Classical.choose mulOk_ex
theorem mulOk_eq (i j : Int) : mulOk i j = decide ((-(2 ^ 64) < i ∧ i < 2 ^ 64) ∨ (-(2 ^ 64) < j ∧ j < 2 ^ 64)) := Classical.choose_spec mulOk_ex i j
theorem repOk_ex : ∃ f : Int → Nat → Bool, ∀ k n, f k n = decide (-(2 ^ 63) ≤ k ∧ k < 2 ^ 63 ∧ n * k.toNat ≤ 16777216) := ⟨_, fun _ _ => rfl⟩
noncomputable def repOk : Int → Nat → Bool := Classical.choose repOk_ex
theorem repOk_eq (k : Int) (n : Nat) : repOk k n = decide (-(2 ^ 63) ≤ k ∧ k < 2 ^ 63 ∧ n * k.toNat ≤ 16777216) := Classical.choose_spec repOk_ex k n
theorem rngOk_ex : ∃ f : Int → Int → Bool, ∀ i j, f i j = decide (-16777216 ≤ i ∧ i ≤ 16777216 ∧ -16777216 ≤ j ∧ j ≤ 16777216 ∧ j - i ≤ 16777216) := ⟨_, fun _ _ => rfl⟩
noncomputable def rngOk : Int → Int → Bool := Classical.choose rngOk_ex
theorem rngOk_eq (i j : Int) : rngOk i j = decide (-16777216 ≤ i ∧ i ≤ 16777216 ∧ -16777216 ≤ j ∧ j ≤ 16777216 ∧ j - i ≤ 16777216) := Classical.choose_spec rngOk_ex i j
theorem sizOk_ex : ∃ f : Nat → Bool, ∀ n, f n = decide (n ≤ 16777216) := ⟨_, fun _ => rfl⟩
noncomputable def sizOk : Nat → Bool := Classical.choose sizOk_ex
theorem sizOk_eq (n : Nat) : sizOk n = decide (n ≤ 16777216) := Classical.choose_spec sizOk_ex n
noncomputable def mulD : D → D → Option D
  | .int i, .int j => if mulOk i j = true then some (.int (i * j)) else none
  | .list a, .int k => if repOk k a.length = true then some (.list (List.replicate k.toNat a).flatten) else none
  | .tuple a, .int k => if a ≠ [] ∧ 2 ≤ k ∧ k ≤ 1000 ∧ a.length ≤ 1000 then some (.tuple (List.replicate k.toNat a).flatten) else none
  | _, _ => none
def fdivD : D → D → Option D
  | .int i, .int j => if 0 < j ∧ j < 1073741824 then some (.int (i / j)) else none
  | _, _ => none
def modD : D → D → Option D
  | .int i, .int j => if 0 < j then some (.int (i % j)) else none
  | _, _ => none
def powD : D → D → Option D
  | .int i, .int j => if 0 ≤ j ∧ j ≤ 1000000 ∧ i.natAbs < 2 ^ 64 then some (.int (i ^ j.toNat)) else none
  | _, _ => none
def eqD (d e : D) : Option D := if SeqAt.shaped d = true ∧ SeqAt.shaped e = true ∧ noDict d = true ∧ noDict e = true then some (.bool (PyData.eqv d e)) else none
def neD (d e : D) : Option D := if SeqAt.shaped d = true ∧ SeqAt.shaped e = true ∧ noDict d = true ∧ noDict e = true then some (.bool (!PyData.eqv d e)) else none
def ltD : D → D → Option D
  | .int i, .int j => some (.bool (decide (i < j)))
  | _, _ => none
def leD : D → D → Option D
  | .int i, .int j => some (.bool (decide (i ≤ j)))
  | _, _ => none
def gtD : D → D → Option D
  | .int i, .int j => some (.bool (decide (j < i)))
  | _, _ => none
def geD : D → D → Option D
  | .int i, .int j => some (.bool (decide (j ≤ i)))
  | _, _ => none
def flatD : D → Bool
  | .none => true
  | .bool _ => true
  | .int _ => true
  | .str _ => true
  | _ => false
def memD (x : D) (ds : List D) : Bool := ds.any fun z => PyData.eqv z x
def inD (x : D) : D → Option Bool
  | .tuple ds => if flatD x = true ∧ ds.all flatD = true then some (memD x ds) else none
  | .list ds => if flatD x = true ∧ ds.all flatD = true then some (memD x ds) else
      if SeqAt.shaped x = true ∧ SeqAt.shaped (.list ds) = true ∧ noDict x = true ∧ noDicts ds = true then some (memD x ds) else none
  | _ => none
def ixD : D → D → Option D
  | .list ds, .int i => atI ds i
  | .tuple ds, .int i => atI ds i
  | _, _ => none

section
variable {K : PySem.W.Frag}
theorem rs_flat {n : Bool} {H0 H : Hp} {v : V} {d : D} (s : Same H0 H) (h : Dd K H0 v d) {Q : VK} (q : ∀ v H0' H', Ext H0 H H0' H' → RS n K H H0' H' v d → Q v H') (f : n = true → flatRoot d = true := by intro _; rfl) : Q v H := q v H0 H (Ext.refl s) (.inl ⟨h, f⟩)
theorem rs_tup {n : Bool} {H0 H : Hp} {ys : List V} {ds : List D} {p : Addr} (s : Same H0 H) (h : Dds K H0 ys ds) (np : H p = none) {Q : VK} (q : ∀ v H0' H', Ext H0 H H0' H' → RS n K H H0' H' v (.tuple ds) → Q v H') : Q (.ref p) (upd H p (.tup ys)) :=
  q _ _ _ (ext_newS s np) (.inl ⟨.tup (.inl upd_same) (h.mono (ext_newS (o := .tup ys) s np).s0), fun _ => rfl⟩)
theorem rs_lst {n : Bool} {H0 H : Hp} {ys : List V} {ds : List D} {p : Addr} (s : Same H0 H) (h : Dds K H0 ys ds) (np : H p = none) {Q : VK} (q : ∀ v H0' H', Ext H0 H H0' H' → RS n K H H0' H' v (.list ds) → Q v H') : Q (.ref p) (upd H p (.lst ys)) :=
  q _ _ _ (ext_new s np) (.inr ⟨p, rfl, .lst (not_settled s np) upd_same h, np⟩)
def rAdd2 (K : PySem.W.Frag) : R2 := fun x y H Q => rI0 (fun i j => .int (i + j)) x y H Q ∨ (∃ i j, x = .str i ∧ y = .str j ∧ i.length + j.length ≤ sizeLine ∧ Q (.str (i ++ j)) H) ∨ rCatA K x y H Q ∨ rCatL x y H Q
theorem op_add2 {X : Cx} : OpR X (binaryOp .Add) (rAdd2 X.K) := op_add.or (op_add_str.or (op_catA.or op_catL))
theorem ok_add : Op2Ok true K (rAdd2 K) addD := by
  intro H0 H x y d1 d2 d Q s h1 h2 e q
  unfold addD at e
  split at e
  · cases e
    cases h1.int; cases h2.int
    exact .inl ⟨_, _, rfl, rfl, rs_flat s (.int _) q⟩
  · split at e
    · rename_i hz
      cases e
      cases h1.str; cases h2.str
      exact .inr (.inl ⟨_, _, rfl, rfl, by rw [sizeLine_eq]; exact hz, rs_flat s (.str _) q⟩)
    · cases e
  · split at e
    · rename_i hz
      cases e
      obtain ⟨a, xs, rfl, r1, k1⟩ := h1.tuple s
      obtain ⟨b, ys, rfl, r2, k2⟩ := h2.tuple s
      refine .inr (.inr (.inl ⟨a, b, xs, ys, rfl, rfl, .inl r1, .inl r2, by rw [k1.length, k2.length, sizeLine_eq]; exact hz, fun e => ?_, fun _ e => ?_, fun _ _ p n => ?_⟩))
      · subst e
        cases k1
        rw [List.nil_append] at q
        rcases h2 with h2 | ⟨c, _, m⟩
        · exact rs_flat s h2 q
        · cases m
      · subst e
        cases k2
        rw [List.append_nil] at q
        rcases h1 with h1 | ⟨c, _, m⟩
        · exact rs_flat s h1 q
        · cases m
      · exact rs_tup s (k1.append k2) n q
    · cases e
  · split at e
    · rename_i hz
      cases e
      obtain ⟨a, xs, rfl, r1, k1⟩ := h1.list s
      obtain ⟨b, ys, rfl, r2, k2⟩ := h2.list s
      exact .inr (.inr (.inr ⟨a, b, xs, ys, rfl, rfl, r1, r2, by rw [k1.length, k2.length, sizeLine_eq]; exact hz, fun p n => rs_lst s (k1.append k2) n q⟩))
    · cases e
  · cases e
theorem ok_sub : Op2Ok true K (rI0 fun i j => .int (i - j)) subD := by
  intro H0 H x y d1 d2 d Q s h1 h2 e q
  unfold subD at e
  split at e
  · cases e
    cases h1.int; cases h2.int
    exact ⟨_, _, rfl, rfl, rs_flat s (.int _) q⟩
  · cases e
def rMul2 (K : PySem.W.Frag) : R2 := fun x y H Q => rI CMul (fun i j => .int (i * j)) x y H Q ∨ rRepL x y H Q ∨ rRepT K x y H Q
theorem op_mul2 {X : Cx} : OpR X (binaryOp .Mult) (rMul2 X.K) := op_mul.or (op_repL.or op_repT)
theorem ok_mul : Op2Ok true K (rMul2 K) mulD := by
  intro H0 H x y d1 d2 d Q s h1 h2 e q
  unfold mulD at e
  split at e
  · split at e
    · rename_i hz
      cases e
      cases h1.int; cases h2.int
      rw [mulOk_eq] at hz
      have hz2 := of_decide_eq_true hz
      exact .inl ⟨_, _, rfl, rfl, hz2, rs_flat s (.int _) q⟩
    · cases e
  · split at e
    · rename_i hz
      cases e
      obtain ⟨a, xs, rfl, r1, k1⟩ := h1.list s
      cases h2.int
      rw [repOk_eq] at hz
      have hz := of_decide_eq_true hz
      exact .inr (.inl ⟨a, _, xs, rfl, rfl, r1, hz.1, hz.2.1, by rw [k1.length, sizeLine_eq]; exact hz.2.2, fun p n => rs_lst s (k1.rep _) n q⟩)
    · cases e
  · split at e
    · rename_i hz
      cases e
      obtain ⟨a, xs, rfl, r1, k1⟩ := h1.tuple s
      cases h2.int
      refine .inr (.inr ⟨a, _, xs, rfl, rfl, .inl r1, fun e => ?_, hz.2.1, hz.2.2.1, by rw [k1.length]; exact hz.2.2.2, fun p n => rs_tup s (k1.rep _) n q⟩)
      subst e
      cases k1
      exact hz.1 rfl
    · cases e
  · cases e
theorem ok_fdiv : Op2Ok true K (rI CDiv fun i j => .int (i / j)) fdivD := by
  intro H0 H x y d1 d2 d Q s h1 h2 e q
  unfold fdivD at e
  split at e
  · split at e
    · rename_i hz
      cases e
      cases h1.int; cases h2.int
      exact ⟨_, _, rfl, rfl, hz, rs_flat s (.int _) q⟩
    · cases e
  · cases e
theorem ok_mod : Op2Ok true K (rI (fun _ j => 0 < j) fun i j => .int (i % j)) modD := by
  intro H0 H x y d1 d2 d Q s h1 h2 e q
  unfold modD at e
  split at e
  · split at e
    · rename_i hz
      cases e
      cases h1.int; cases h2.int
      exact ⟨_, _, rfl, rfl, hz, rs_flat s (.int _) q⟩
    · cases e
  · cases e
theorem ok_pow : Op2Ok true K (rI CPow fun i j => .int (i ^ j.toNat)) powD := by
  intro H0 H x y d1 d2 d Q s h1 h2 e q
  unfold powD at e
  split at e
  · split at e
    · rename_i hz
      cases e
      cases h1.int; cases h2.int
      exact ⟨_, _, rfl, rfl, hz, rs_flat s (.int _) q⟩
    · cases e
  · cases e
theorem ok_eq : Op2Ok true K (rEqD K) eqD := by
  intro H0 H x y d1 d2 d Q s h1 h2 e q
  unfold eqD at e
  split at e
  · rename_i hz
    cases e
    exact ⟨d1, d2, h1.dp s hz.2.2.1, h2.dp s hz.2.2.2, hz.1, hz.2.1, rs_flat s (.bl _) q⟩
  · cases e
theorem ok_ne : Op2Ok true K (rNeD K) neD := by
  intro H0 H x y d1 d2 d Q s h1 h2 e q
  unfold neD at e
  split at e
  · rename_i hz
    cases e
    exact ⟨d1, d2, h1.dp s hz.2.2.1, h2.dp s hz.2.2.2, hz.1, hz.2.1, rs_flat s (.bl _) q⟩
  · cases e
theorem ok_lt : Op2Ok true K (rI0 fun i j => .bl (decide (i < j))) ltD := by
  intro H0 H x y d1 d2 d Q s h1 h2 e q
  unfold ltD at e
  split at e
  · cases e
    cases h1.int; cases h2.int
    exact ⟨_, _, rfl, rfl, rs_flat s (.bl _) q⟩
  · cases e
theorem ok_le : Op2Ok true K (rI0 fun i j => .bl (decide (i ≤ j))) leD := by
  intro H0 H x y d1 d2 d Q s h1 h2 e q
  unfold leD at e
  split at e
  · cases e
    cases h1.int; cases h2.int
    exact ⟨_, _, rfl, rfl, rs_flat s (.bl _) q⟩
  · cases e
theorem ok_gt : Op2Ok true K (rI0 fun i j => .bl (decide (j < i))) gtD := by
  intro H0 H x y d1 d2 d Q s h1 h2 e q
  unfold gtD at e
  split at e
  · cases e
    cases h1.int; cases h2.int
    exact ⟨_, _, rfl, rfl, rs_flat s (.bl _) q⟩
  · cases e
theorem ok_ge : Op2Ok true K (rI0 fun i j => .bl (decide (j ≤ i))) geD := by
  intro H0 H x y d1 d2 d Q s h1 h2 e q
  unfold geD at e
  split at e
  · cases e
    cases h1.int; cases h2.int
    exact ⟨_, _, rfl, rfl, rs_flat s (.bl _) q⟩
  · cases e
theorem flat_eqv {H0 : Hp} {x y : V} {d e : D} (h1 : Dd K H0 x d) (h2 : Dd K H0 y e) (f1 : flatD d = true) (f2 : flatD e = true) : eqV x y = PyData.eqv d e := by
  cases h1 <;> cases h2 <;> first | rfl | (simp [flatD] at f1; done) | (simp [flatD] at f2; done)
theorem flat_flatV {H0 : Hp} {x : V} {d : D} (h1 : Dd K H0 x d) (f1 : flatD d = true) : flatV x = true := by
  cases h1 <;> first | rfl | (simp [flatD] at f1; done)
theorem RB.flat {H0 H : Hp} {x : V} {d : D} (h : RB K H0 H x d) (f : flatD d = true) : Dd K H0 x d := by
  rcases h with h | ⟨a, _, m⟩
  · exact h
  · cases m <;> (simp [flatD] at f)
theorem flats_all {H0 : Hp} : ∀ {ys : List V} {ds : List D}, Dds K H0 ys ds → ds.all flatD = true → ys.all flatV = true
  | _, _, .nil, _ => rfl
  | _, _, .cons h r, f => by
    rw [List.all_cons, Bool.and_eq_true] at f ⊢
    exact ⟨flat_flatV h f.1, flats_all r f.2⟩
theorem inV_mem {H0 : Hp} {x : V} {d : D} (h : Dd K H0 x d) (f1 : flatD d = true) : ∀ {ys : List V} {ds : List D}, Dds K H0 ys ds → ds.all flatD = true → inV x ys = memD d ds
  | _, _, .nil, _ => rfl
  | _, _, .cons h2 r, f => by
    rw [List.all_cons, Bool.and_eq_true] at f
    unfold inV memD
    rw [List.any_cons, List.any_cons, flat_eqv h2 h f.1 f1]
    have := inV_mem h f1 r f.2
    unfold inV memD at this
    rw [this]
def rIn2 (K : PySem.W.Frag) : R2 := fun x y H Q => rIn K false x y H Q ∨ rInD K x y H Q
def rNotIn2 (K : PySem.W.Frag) : R2 := fun x y H Q => rIn K true x y H Q ∨ rNotInD K x y H Q
theorem ok_in : Op2Ok true K (rIn2 K) (fun x y => (inD x y).map .bool) := by
  intro H0 H x y d1 d2 d Q s h1 h2 e q
  cases d2 with
  | tuple ds =>
    unfold inD at e
    dsimp only at e
    split at e
    · rename_i hz
      cases e
      obtain ⟨b, ys, rfl, r2, k2⟩ := h2.tuple s
      have hx := h1.flat hz.1
      refine .inl ⟨b, ys, rfl, .inr (.inl r2), flat_flatV hx hz.1, flats_all k2 hz.2, ?_⟩
      rw [if_neg Bool.false_ne_true, inV_mem hx hz.1 k2 hz.2]
      exact rs_flat s (.bl _) q
    · cases e
  | list ds =>
    unfold inD at e
    dsimp only at e
    split at e
    · rename_i hz
      cases e
      obtain ⟨b, ys, rfl, r2, k2⟩ := h2.list s
      have hx := h1.flat hz.1
      refine .inl ⟨b, ys, rfl, .inl (.inl r2), flat_flatV hx hz.1, flats_all k2 hz.2, ?_⟩
      rw [if_neg Bool.false_ne_true, inV_mem hx hz.1 k2 hz.2]
      exact rs_flat s (.bl _) q
    · split at e
      · rename_i hz
        cases e
        exact .inr ⟨d1, ds, h1.dp s hz.2.2.1, h2.dp s (by unfold noDict; exact hz.2.2.2), hz.1, hz.2.1, rs_flat s (.bl _) q⟩
      · cases e
  | _ => cases e
theorem ok_notin : Op2Ok true K (rNotIn2 K) (fun x y => (inD x y).map fun b => .bool (!b)) := by
  intro H0 H x y d1 d2 d Q s h1 h2 e q
  cases d2 with
  | tuple ds =>
    unfold inD at e
    dsimp only at e
    split at e
    · rename_i hz
      cases e
      obtain ⟨b, ys, rfl, r2, k2⟩ := h2.tuple s
      have hx := h1.flat hz.1
      refine .inl ⟨b, ys, rfl, .inr (.inl r2), flat_flatV hx hz.1, flats_all k2 hz.2, ?_⟩
      rw [if_pos rfl, inV_mem hx hz.1 k2 hz.2]
      exact rs_flat s (.bl _) q
    · cases e
  | list ds =>
    unfold inD at e
    dsimp only at e
    split at e
    · rename_i hz
      cases e
      obtain ⟨b, ys, rfl, r2, k2⟩ := h2.list s
      have hx := h1.flat hz.1
      refine .inl ⟨b, ys, rfl, .inl (.inl r2), flat_flatV hx hz.1, flats_all k2 hz.2, ?_⟩
      rw [if_pos rfl, inV_mem hx hz.1 k2 hz.2]
      exact rs_flat s (.bl _) q
    · split at e
      · rename_i hz
        cases e
        exact .inr ⟨d1, ds, h1.dp s hz.2.2.1, h2.dp s (by unfold noDict; exact hz.2.2.2), hz.1, hz.2.1, rs_flat s (.bl _) q⟩
      · cases e
  | _ => cases e
theorem atI_dd {H0 : Hp} {ys : List V} {ds : List D} (k : Dds K H0 ys ds) {i : Int} {d : D} (e : atI ds i = some d) : ∃ v, atI ys i = some v ∧ Dd K H0 v d := by
  unfold atI at e ⊢
  rw [k.length]
  cases h : ixN ds.length i with
  | none => rw [h] at e; cases e
  | some j =>
    rw [h] at e
    exact k.get e
theorem ok_ix : Op2Ok false K (rIx K) ixD := by
  intro H0 H x y d1 d2 d Q s h1 h2 e q
  unfold ixD at e
  split at e
  · obtain ⟨a, ys, rfl, r1, k1⟩ := h1.list s
    cases h2.int
    obtain ⟨v, e1, e2⟩ := atI_dd k1 e
    exact .inl ⟨a, ys, _, v, rfl, rfl, .inl r1, e1, rs_flat s e2 q (fun z => nomatch z)⟩
  · obtain ⟨a, ys, rfl, r1, k1⟩ := h1.tuple s
    cases h2.int
    obtain ⟨v, e1, e2⟩ := atI_dd k1 e
    exact .inr (.inl ⟨a, ys, _, v, rfl, rfl, .inl r1, e1, rs_flat s e2 q (fun z => nomatch z)⟩)
  · cases e

/-! ### slices -/
def cutD (ds : List D) (lo hi : Option Int) : List D := (ds.drop (HT.sIx ds.length 0 lo)).take (HT.sIx ds.length ds.length hi - HT.sIx ds.length 0 lo)
theorem cut_dds {H0 : Hp} {ys : List V} {ds : List D} (k : Dds K H0 ys ds) (lo hi : Option Int) : Dds K H0 (cutV ys lo hi) (cutD ds lo hi) := by
  unfold cutV cutD
  rw [k.length]
  exact (k.drop _).take _
def slcD : D → Option Int → Option Int → Option D
  | .list ds, lo, hi => some (.list (cutD ds lo hi))
  | .tuple ds, lo, hi => some (.tuple (cutD ds lo hi))
  | _, _, _ => none
def rSl2 (K : PySem.W.Frag) : V → Option Int → Option Int → Hp → VK → Prop := fun x lo hi H Q => rSlL K x lo hi H Q ∨ rSlA K x lo hi H Q
theorem sl_2 {X : Cx} : SlR X (rSl2 X.K) := sl_list.or sl_tupA
theorem cutD_whole {ds : List D} {lo hi : Option Int} (h : HT.sIx ds.length 0 lo = 0 ∧ HT.sIx ds.length ds.length hi = ds.length) : cutD ds lo hi = ds := by
  unfold cutD
  rw [h.1, h.2]
  simp
theorem ok_slc {n : Bool} {H0 H : Hp} {x : V} {d1 d : D} {lo hi : Option Int} {Q : VK} (s : Same H0 H) (h1 : RB K H0 H x d1) (e : slcD d1 lo hi = some d) (q : ∀ v H0' H', Ext H0 H H0' H' → RS n K H H0' H' v d → Q v H') : rSl2 K x lo hi H Q := by
  unfold slcD at e
  split at e
  · cases e
    obtain ⟨a, ys, rfl, r1, k1⟩ := h1.list s
    exact .inl ⟨a, ys, rfl, .inl r1, fun p n => rs_lst s (cut_dds k1 lo hi) n q⟩
  · cases e
    obtain ⟨a, ys, rfl, r1, k1⟩ := h1.tuple s
    refine .inr ⟨a, ys, rfl, .inl r1, fun hw => ?_, fun hw p n => rs_tup s (cut_dds k1 lo hi) n q⟩
    rw [k1.length] at hw
    rw [cutD_whole hw] at q
    rcases h1 with h1 | ⟨c, _, m⟩
    · exact rs_flat s h1 q
    · cases m
  · cases e

/-! ### built-ins -/
def lenD : List D → Option D
  | [.list ds] => some (.int ds.length)
  | [.tuple ds] => some (.int ds.length)
  | _ => none
theorem rbs1 {H0 H : Hp} {vs : List V} {d : D} (h : RBs K H0 H vs [d]) : ∃ v, vs = [v] ∧ RB K H0 H v d := by
  cases h with
  | cons h r => cases r; exact ⟨_, rfl, h⟩
theorem rbs2 {H0 H : Hp} {vs : List V} {d e : D} (h : RBs K H0 H vs [d, e]) : ∃ v w, vs = [v, w] ∧ RB K H0 H v d ∧ RB K H0 H w e := by
  cases h with
  | cons h r => cases r with
    | cons h2 r2 => cases r2; exact ⟨_, _, rfl, h, h2⟩
theorem ok_len : OpAOk true K (fun xs H Q => ∃ p ys, xs = [.ref p] ∧ (SqL K H p ys ∨ SqT K H p ys) ∧ Q (.int ys.length) H) lenD := by
  intro H0 H xs ds d Q s h e q
  unfold lenD at e
  split at e
  · cases e
    obtain ⟨v, rfl, h1⟩ := rbs1 h
    obtain ⟨a, ys, rfl, r1, k1⟩ := h1.list s
    exact ⟨a, ys, rfl, .inl (.inl r1), by rw [k1.length]; exact rs_flat s (.int _) q⟩
  · cases e
    obtain ⟨v, rfl, h1⟩ := rbs1 h
    obtain ⟨a, ys, rfl, r1, k1⟩ := h1.tuple s
    exact ⟨a, ys, rfl, .inr (.inl r1), by rw [k1.length]; exact rs_flat s (.int _) q⟩
  · cases e
/-- a list of ints -/
def intsOf : List D → Option (List Int)
  | [] => some []
  | .int i :: r => (intsOf r).map (i :: ·)
  | _ => none
theorem intsOf_eq : ∀ {ds : List D} {ns : List Int}, intsOf ds = some ns → ds = ns.map PyData.int
  | [], _, h => by cases h; rfl
  | .int i :: r, ns, h => by
    unfold intsOf at h
    cases e : intsOf r with
    | none => rw [e] at h; cases h
    | some m =>
      rw [e] at h
      cases h
      rw [List.map_cons, intsOf_eq e]
  | .none :: _, _, h => nomatch h
  | .bool _ :: _, _, h => nomatch h
  | .str _ :: _, _, h => nomatch h
  | .list _ :: _, _, h => nomatch h
  | .tuple _ :: _, _, h => nomatch h
  | .dict _ :: _, _, h => nomatch h
theorem intsOf_map : ∀ (ns : List Int), intsOf (ns.map PyData.int) = some ns
  | [] => rfl
  | n :: ns => by
    show (intsOf (ns.map PyData.int)).map (n :: ·) = _
    rw [intsOf_map ns]
    rfl
def sumD : List D → Option D
  | [.list ds] => (intsOf ds).map fun ns => .int ns.sum
  | [.tuple ds] => (intsOf ds).map fun ns => .int ns.sum
  | _ => none
theorem ok_sum : OpAOk true K (fun xs H Q => rSum K xs H Q ∨ rSumT K xs H Q) sumD := by
  intro H0 H xs ds d Q s h e q
  unfold sumD at e
  split at e
  · rename_i es
    cases e1 : intsOf es with
    | none => rw [e1] at e; cases e
    | some ns =>
      rw [e1] at e
      cases e
      obtain ⟨v, rfl, h1⟩ := rbs1 h
      obtain ⟨a, ys, rfl, r1, k1⟩ := h1.list s
      rw [intsOf_eq e1] at k1
      cases k1.ints
      exact .inl ⟨a, ns, rfl, .inl r1, rs_flat s (.int _) q⟩
  · rename_i es
    cases e1 : intsOf es with
    | none => rw [e1] at e; cases e
    | some ns =>
      rw [e1] at e
      cases e
      obtain ⟨v, rfl, h1⟩ := rbs1 h
      obtain ⟨a, ys, rfl, r1, k1⟩ := h1.tuple s
      rw [intsOf_eq e1] at k1
      cases k1.ints
      exact .inr ⟨a, ns, rfl, .inl r1, rs_flat s (.int _) q⟩
  · cases e
/-- the greatest and the least of a list that is not empty -/
def maxL : Int → List Int → Int
  | m, [] => m
  | m, x :: r => maxL (if x > m then x else m) r
def minL : Int → List Int → Int
  | m, [] => m
  | m, x :: r => minL (if x < m then x else m) r
theorem maxL_ge : ∀ (r : List Int) (m : Int), m ≤ maxL m r ∧ (∀ y ∈ r, y ≤ maxL m r) ∧ (maxL m r = m ∨ maxL m r ∈ r)
  | [], m => ⟨Int.le_refl _, by simp, .inl rfl⟩
  | x :: r, m => by
    obtain ⟨h1, h2, h3⟩ := maxL_ge r (if x > m then x else m)
    unfold maxL
    refine ⟨?_, fun y hy => ?_, ?_⟩
    · split at h1 <;> split <;> omega
    · rcases List.mem_cons.mp hy with rfl | hy
      · split at h1 <;> split <;> omega
      · exact h2 y hy
    · rcases h3 with h3 | h3
      · rw [h3]
        split
        · exact .inr List.mem_cons_self
        · exact .inl rfl
      · exact .inr (List.mem_cons_of_mem _ h3)
theorem minL_le : ∀ (r : List Int) (m : Int), minL m r ≤ m ∧ (∀ y ∈ r, minL m r ≤ y) ∧ (minL m r = m ∨ minL m r ∈ r)
  | [], m => ⟨Int.le_refl _, by simp, .inl rfl⟩
  | x :: r, m => by
    obtain ⟨h1, h2, h3⟩ := minL_le r (if x < m then x else m)
    unfold minL
    refine ⟨?_, fun y hy => ?_, ?_⟩
    · split at h1 <;> split <;> omega
    · rcases List.mem_cons.mp hy with rfl | hy
      · split at h1 <;> split <;> omega
      · exact h2 y hy
    · rcases h3 with h3 | h3
      · rw [h3]
        split
        · exact .inr List.mem_cons_self
        · exact .inl rfl
      · exact .inr (List.mem_cons_of_mem _ h3)
def maxD : List D → Option D
  | [.list ds] => (match intsOf ds with
    | some (n :: ns) => some (.int (maxL n ns))
    | _ => none)
  | [.int i, .int j] => some (.int (if j > i then j else i))
  | _ => none
def minD : List D → Option D
  | [.list ds] => (match intsOf ds with
    | some (n :: ns) => some (.int (minL n ns))
    | _ => none)
  | [.int i, .int j] => some (.int (if j < i then j else i))
  | _ => none
theorem ok_max : OpAOk true K (fun xs H Q => rMax K xs H Q ∨ ∃ i j, xs = [.int i, .int j] ∧ Q (.int (if j > i then j else i)) H) maxD := by
  intro H0 H xs ds d Q s h e q
  unfold maxD at e
  split at e
  · split at e
    · rename_i e1
      cases e
      obtain ⟨v, rfl, h1⟩ := rbs1 h
      obtain ⟨a, ys, rfl, r1, k1⟩ := h1.list s
      rw [intsOf_eq e1] at k1
      cases k1.ints
      refine .inl ⟨a, _, rfl, .inl r1, by simp, fun m hm hle => ?_⟩
      rename_i n ns
      obtain ⟨g1, g2, g3⟩ := maxL_ge ns n
      have e : m = maxL n ns := by
        have a1 : m ≤ maxL n ns := by
          rcases List.mem_cons.mp hm with rfl | hm
          · exact g1
          · exact g2 m hm
        have a2 : maxL n ns ≤ m := by
          rcases g3 with g3 | g3
          · rw [g3]; exact hle n List.mem_cons_self
          · exact hle _ (List.mem_cons_of_mem _ g3)
        omega
      rw [e]
      exact rs_flat s (.int _) q
    · cases e
  · cases e
    obtain ⟨v, w, rfl, h1, h2⟩ := rbs2 h
    cases h1.int; cases h2.int
    exact .inr ⟨_, _, rfl, rs_flat s (.int _) q⟩
  · cases e
theorem ok_min : OpAOk true K (fun xs H Q => rMin K xs H Q ∨ ∃ i j, xs = [.int i, .int j] ∧ Q (.int (if j < i then j else i)) H) minD := by
  intro H0 H xs ds d Q s h e q
  unfold minD at e
  split at e
  · split at e
    · rename_i e1
      cases e
      obtain ⟨v, rfl, h1⟩ := rbs1 h
      obtain ⟨a, ys, rfl, r1, k1⟩ := h1.list s
      rw [intsOf_eq e1] at k1
      cases k1.ints
      refine .inl ⟨a, _, rfl, .inl r1, by simp, fun m hm hle => ?_⟩
      rename_i n ns
      obtain ⟨g1, g2, g3⟩ := minL_le ns n
      have e : m = minL n ns := by
        have a1 : minL n ns ≤ m := by
          rcases List.mem_cons.mp hm with rfl | hm
          · exact g1
          · exact g2 m hm
        have a2 : m ≤ minL n ns := by
          rcases g3 with g3 | g3
          · rw [g3]; exact hle n List.mem_cons_self
          · exact hle _ (List.mem_cons_of_mem _ g3)
        omega
      rw [e]
      exact rs_flat s (.int _) q
    · cases e
  · cases e
    obtain ⟨v, w, rfl, h1, h2⟩ := rbs2 h
    cases h1.int; cases h2.int
    exact .inr ⟨_, _, rfl, rs_flat s (.int _) q⟩
  · cases e
def absD : List D → Option D
  | [.int i] => some (.int (if i < 0 then -i else i))
  | _ => none
theorem ok_abs : OpAOk true K (fun xs H Q => ∃ i, xs = [.int i] ∧ Q (.int (if i < 0 then -i else i)) H) absD := by
  intro H0 H xs ds d Q s h e q
  unfold absD at e
  split at e
  · cases e
    obtain ⟨v, rfl, h1⟩ := rbs1 h
    cases h1.int
    exact ⟨_, rfl, rs_flat s (.int _) q⟩
  · cases e
def intD : List D → Option D
  | [.int i] => some (.int i)
  | [.bool b] => some (.int (if b then 1 else 0))
  | _ => none
theorem ok_int : OpAOk true K (fun xs H Q => (∃ i, xs = [.int i] ∧ Q (.int i) H) ∨ ∃ k, xs = [.bl k] ∧ Q (.int (if k then 1 else 0)) H) intD := by
  intro H0 H xs ds d Q s h e q
  unfold intD at e
  split at e
  · cases e
    obtain ⟨v, rfl, h1⟩ := rbs1 h
    cases h1.int
    exact .inl ⟨_, rfl, rs_flat s (.int _) q⟩
  · cases e
    obtain ⟨v, rfl, h1⟩ := rbs1 h
    cases h1.bool
    exact .inr ⟨_, rfl, rs_flat s (.int _) q⟩
  · cases e
def listD : List D → Option D
  | [.list ds] => some (.list ds)
  | [.tuple ds] => some (.list ds)
  | _ => none
theorem ok_list : OpAOk true K (fun xs H Q => ∃ p ys, xs = [.ref p] ∧ (SqL K H p ys ∨ SqT K H p ys) ∧ ∀ l, H l = none → Q (.ref l) (upd H l (.lst ys))) listD := by
  intro H0 H xs ds d Q s h e q
  unfold listD at e
  split at e
  · cases e
    obtain ⟨v, rfl, h1⟩ := rbs1 h
    obtain ⟨a, ys, rfl, r1, k1⟩ := h1.list s
    exact ⟨a, ys, rfl, .inl (.inl r1), fun p n => rs_lst s k1 n q⟩
  · cases e
    obtain ⟨v, rfl, h1⟩ := rbs1 h
    obtain ⟨a, ys, rfl, r1, k1⟩ := h1.tuple s
    exact ⟨a, ys, rfl, .inr (.inl r1), fun p n => rs_lst s k1 n q⟩
  · cases e
def tupleD : List D → Option D
  | [.list ds] => some (.tuple ds)
  | [.tuple ds] => some (.tuple ds)
  | _ => none
theorem ok_tuple : OpAOk true K (fun xs H Q => ∃ p ys, xs = [.ref p] ∧ ((SqL K H p ys ∧ ∀ l, H l = none → Q (.ref l) (upd H l (.tup ys))) ∨ (SqT K H p ys ∧ Q (.ref p) H))) tupleD := by
  intro H0 H xs ds d Q s h e q
  unfold tupleD at e
  split at e
  · cases e
    obtain ⟨v, rfl, h1⟩ := rbs1 h
    obtain ⟨a, ys, rfl, r1, k1⟩ := h1.list s
    exact ⟨a, ys, rfl, .inl ⟨.inl r1, fun p n => rs_tup s k1 n q⟩⟩
  · cases e
    obtain ⟨v, rfl, h1⟩ := rbs1 h
    obtain ⟨a, ys, rfl, r1, k1⟩ := h1.tuple s
    refine ⟨a, ys, rfl, .inr ⟨.inl r1, ?_⟩⟩
    rcases h1 with h1 | ⟨c, _, m⟩
    · exact rs_flat s h1 q
    · cases m
  · cases e
end
end DD

namespace DD
noncomputable section
open PySem PySem.Spec PyProof.Rows L2

section
variable {X : Cx} {xs : List Str} {W : WX} {a b c : Expr} {sa sb : Src} {n : Bool} {ma mb : Rho → Option Res} {pos : Pos}

/-! ### and, or, not, if as values -/
/-- what Tau asks, from a settled answer -/
theorem tau_D {K : PySem.W.Frag} {mg : Str → Option Value} {σ : L2.St} {H : Hp} {Q : VK} {m : Rho → Option Res} (h : Tau K mg xs W .any m σ H Q) : TauD K mg xs W m σ H Q := by
  obtain ⟨en, ρ, H0, rr, p⟩ := h
  refine ⟨en, ρ, H0, rr, ?_⟩
  cases e1 : m ρ with
  | none => rw [e1] at p; exact p.elim
  | some r1 =>
    rw [e1] at p
    cases r1 with
    | exc c q => exact p
    | ok d1 => exact fun v H0' H' x1 z1 => p v H0' H' x1 (.inl ⟨z1, fun e => nomatch e⟩)
theorem je_of_jd {m : Rho → Option Res} (h : JD X xs W a m) : JE X xs W a .any m := pe_of h fun σ H Q q => tau_D q
def andV (ma mb : Rho → Option Res) : Rho → Option Res := fun ρ => match ma ρ with
  | some (.ok (.bool true)) => mb ρ
  | some (.ok (.bool false)) => some (.ok (.bool false))
  | some (.exc c p) => some (.exc c p)
  | _ => none
def orV (ma mb : Rho → Option Res) : Rho → Option Res := fun ρ => match ma ρ with
  | some (.ok (.bool true)) => some (.ok (.bool true))
  | some (.ok (.bool false)) => mb ρ
  | some (.exc c p) => some (.exc c p)
  | _ => none
theorem postD_trans {K : PySem.W.Frag} {mg : Str → Option Value} {σ : L2.St} {H0 H H0' H' : Hp} {Q : VK} {r : Option Res} (x1 : Ext H0 H H0' H') (p : PostD K mg xs W σ H0 H Q r) : PostD K mg xs W σ H0' H' Q r := by
  cases r with
  | none => exact p
  | some r =>
    cases r with
    | exc c q => exact fun cls dd A B x2 z2 => p cls dd A B (x1.trans x2) z2
    | ok d => exact fun v A B x2 z2 => p v A B (x1.trans x2) z2
theorem jd_one {op : BoolOp} {m : Rho → Option Res} (h : JD X xs W a m) : JD X xs W (.BoolOp op [a] pos) m := pe_one h
theorem jd_and {rest : List Expr} (ha : JE X xs W a sa ma) (hb : JD X xs W (.BoolOp .And (b :: rest) pos) mb) : JD X xs W (.BoolOp .And (a :: b :: rest) pos) (andV ma mb) := by
  refine pe_of (pe_and ha hb) fun σ H Q h => ?_
  obtain ⟨en, ρ, H0, rr, p⟩ := h
  refine ⟨en, ρ, H0, rr, ?_⟩
  unfold andV at p
  cases e1 : ma ρ with
  | none => rw [e1] at p; exact p.elim
  | some r1 =>
    rw [e1] at p
    cases r1 with
    | exc c q => exact p
    | ok d1 =>
      intro v H0' H' x1 z1
      cases d1 with
      | bool k =>
        cases z1.rb.bool
        cases k with
        | false => exact ⟨false, rfl, iteF (p _ _ _ x1 (.bl false))⟩
        | true => exact ⟨true, rfl, iteT ⟨en, ρ, H0', rr.mono x1, postD_trans x1 p⟩⟩
      | _ => exact p.elim
theorem jd_or {rest : List Expr} (ha : JE X xs W a sa ma) (hb : JD X xs W (.BoolOp .Or (b :: rest) pos) mb) : JD X xs W (.BoolOp .Or (a :: b :: rest) pos) (orV ma mb) := by
  refine pe_of (pe_or ha hb) fun σ H Q h => ?_
  obtain ⟨en, ρ, H0, rr, p⟩ := h
  refine ⟨en, ρ, H0, rr, ?_⟩
  unfold orV at p
  cases e1 : ma ρ with
  | none => rw [e1] at p; exact p.elim
  | some r1 =>
    rw [e1] at p
    cases r1 with
    | exc c q => exact p
    | ok d1 =>
      intro v H0' H' x1 z1
      cases d1 with
      | bool k =>
        cases z1.rb.bool
        cases k with
        | true => exact ⟨true, rfl, iteT (p _ _ _ x1 (.bl true))⟩
        | false => exact ⟨false, rfl, iteF ⟨en, ρ, H0', rr.mono x1, postD_trans x1 p⟩⟩
      | _ => exact p.elim
def notV (ma : Rho → Option Res) : Rho → Option Res := fun ρ => match ma ρ with
  | some (.ok d) => (truthD d).map fun b => .ok (.bool (!b))
  | some (.exc c p) => some (.exc c p)
  | none => none
theorem jd_not (ha : JE X xs W a sa ma) : JD X xs W (.UnaryOp .Not a pos) (notV ma) := by
  refine pe_of (pe_notT ha) fun σ H Q h => ?_
  obtain ⟨en, ρ, H0, rr, p⟩ := h
  refine ⟨en, ρ, H0, rr, ?_⟩
  unfold notV at p
  cases e1 : ma ρ with
  | none => rw [e1] at p; exact p.elim
  | some r1 =>
    rw [e1] at p
    cases r1 with
    | exc c q => exact p
    | ok d1 =>
      intro v H0' H' x1 z1
      dsimp only at p
      cases e3 : truthD d1 with
      | none => rw [e3] at p; exact p.elim
      | some k =>
        rw [e3] at p
        exact ⟨k, truV_of x1.sub z1.rb e3, p _ _ _ x1 (.bl _)⟩
def ifV (mc : Rho → Option ResB) (ma mb : Rho → Option Res) : Rho → Option Res := fun ρ => match mc ρ with
  | some (.ok true) => ma ρ
  | some (.ok false) => mb ρ
  | some (.exc c p) => some (.exc c p)
  | none => none
theorem jd_if {mc : Rho → Option ResB} (hc : JT X xs W c mc) (ha : JD X xs W a ma) (hb : JD X xs W b mb) : JD X xs W (.IfExp c a b pos) (ifV mc ma mb) := by
  refine pe_of (pe_ifExp hc ha hb) fun σ H Q h => ?_
  obtain ⟨en, ρ, H0, rr, p⟩ := h
  refine ⟨en, ρ, H0, rr, ?_⟩
  unfold ifV at p
  cases e1 : mc ρ with
  | none => rw [e1] at p; exact p.elim
  | some r1 =>
    rw [e1] at p
    cases r1 with
    | exc c q => exact p
    | ok k =>
      intro H0' H' x1
      cases k with
      | true => exact iteT ⟨en, ρ, H0', rr.mono x1, postD_trans x1 p⟩
      | false => exact iteF ⟨en, ρ, H0', rr.mono x1, postD_trans x1 p⟩
/-! ### is None -/
def isNone : D → Bool
  | .none => true
  | _ => false
theorem rb_none {K : PySem.W.Frag} {H0 H : Hp} {v : V} {d : D} (h : RB K H0 H v d) : decide (v = .non) = isNone d := by
  rcases h with h | ⟨a, e, m⟩
  · cases h <;> rfl
  · subst e; cases m <;> rfl
theorem je_isN {j : Nat} {p : Pos} (ha : JE X xs W a sa ma) : JE X xs W (.Compare a [.Is] [.Constant .none j p] pos) .new (lift1 (fun d => some (.bool (isNone d))) ma) := by
  refine pe_of (pe_cmp (pc_isN ha) rfl) fun σ H Q h => ?_
  obtain ⟨en, ρ, H0, rr, p⟩ := h
  refine ⟨en, ρ, H0, rr, ?_⟩
  unfold lift1 at p
  cases e1 : ma ρ with
  | none => rw [e1] at p; exact p.elim
  | some r1 =>
    rw [e1] at p
    cases r1 with
    | exc c q => exact p
    | ok d1 =>
      intro v H0' H' x1 z1
      rw [rb_none z1.rb]
      exact p _ _ _ x1 (.inl ⟨.bl _, fun _ => rfl⟩)
theorem je_notN {j : Nat} {p : Pos} (ha : JE X xs W a sa ma) : JE X xs W (.Compare a [.IsNot] [.Constant .none j p] pos) .new (lift1 (fun d => some (.bool (!isNone d))) ma) := by
  refine pe_of (pe_cmp (pc_notN ha) rfl) fun σ H Q h => ?_
  obtain ⟨en, ρ, H0, rr, p⟩ := h
  refine ⟨en, ρ, H0, rr, ?_⟩
  unfold lift1 at p
  cases e1 : ma ρ with
  | none => rw [e1] at p; exact p.elim
  | some r1 =>
    rw [e1] at p
    cases r1 with
    | exc c q => exact p
    | ok d1 =>
      intro v H0' H' x1 z1
      rw [rb_none z1.rb]
      exact p _ _ _ x1 (.inl ⟨.bl _, fun _ => rfl⟩)
/-- a value that is a bool, as a test, where the test runs another road -/
theorem jt_isN {j : Nat} {p : Pos} (ha : JE X xs W a sa ma) : JT X xs W (.Compare a [.Is] [.Constant .none j p] pos) (tstB (lift1 (fun d => some (.bool (isNone d))) ma)) := by
  refine pt_of (pt_cmp (pc_isN ha) rfl) fun σ H Q h => ?_
  obtain ⟨en, ρ, H0, rr, p⟩ := h
  refine ⟨en, ρ, H0, rr, ?_⟩
  unfold tstB lift1 at p
  cases e1 : ma ρ with
  | none => rw [e1] at p; exact p.elim
  | some r1 =>
    rw [e1] at p
    cases r1 with
    | exc c q => exact p
    | ok d1 =>
      intro v H0' H' x1 z1
      dsimp only
      rw [rb_none z1.rb]
      exact ⟨_, rfl, p _ _ x1⟩
theorem jt_notN {j : Nat} {p : Pos} (ha : JE X xs W a sa ma) : JT X xs W (.Compare a [.IsNot] [.Constant .none j p] pos) (tstB (lift1 (fun d => some (.bool (!isNone d))) ma)) := by
  refine pt_of (pt_cmp (pc_notN ha) rfl) fun σ H Q h => ?_
  obtain ⟨en, ρ, H0, rr, p⟩ := h
  refine ⟨en, ρ, H0, rr, ?_⟩
  unfold tstB lift1 at p
  cases e1 : ma ρ with
  | none => rw [e1] at p; exact p.elim
  | some r1 =>
    rw [e1] at p
    cases r1 with
    | exc c q => exact p
    | ok d1 =>
      intro v H0' H' x1 z1
      dsimp only
      rw [rb_none z1.rb]
      exact ⟨_, rfl, p _ _ x1⟩
/-! ### isinstance(e, T), T a built-in class -/
def tyN : D → String
  | .none => "NoneType"
  | .bool _ => "bool"
  | .int _ => "int"
  | .str _ => "str"
  | .list _ => "list"
  | .tuple _ => "tuple"
  | .dict _ => "dict"
theorem rb_ty {K : PySem.W.Frag} {H0 H : Hp} {v : V} {d : D} (s : Same H0 H) (h : RB K H0 H v d) : TyX K H v (.type (tyN d)) := by
  cases d with
  | none => cases h.none; exact .base .non
  | bool b => cases h.bool; exact .base (.bl b)
  | int i => cases h.int; exact .base (.int i)
  | str x => cases h.str; exact .base (.str x)
  | list ds =>
    obtain ⟨a, ys, rfl, r, _⟩ := h.list s
    rcases r with r | ⟨o, r⟩
    · exact .base (.lst r)
    · exact .base (.frz r)
  | tuple ds =>
    obtain ⟨a, ys, rfl, r, _⟩ := h.tuple s
    rcases r with r | ⟨o, r⟩
    · exact .base (.tup r)
    · exact .fTuple r
  | dict ds =>
    obtain ⟨a, ys, rfl, r, _⟩ := h.dict s
    rcases r with r | ⟨o, r⟩
    · exact .base (.dK r)
    · exact .fDict r
def isiD (T : String) (d : D) : Option D := (kitB (tyN d) T).map .bool
theorem je_isi {p p2 : Pos} {T : Str} {tn : String} (hc : X.calm = true) (ha : JE X xs W a sa ma) (hg : Gl X "isinstance") (hm : X.mg "isinstance" = none) (hgT : Gl X T) (hmT : X.mg T = none) (hvT : bootBuiltins T = some (.type tn)) (hnT : T ≠ "__name__") (hdT : (T == ("__debug__" : Str)) = false)
    (he : starEach [a, .Name T p2] X.env = (false, eval a X.env) :: starEach [.Name T p2] X.env) :
    JE X xs W (.Call (.Name "isinstance" p) [a, .Name T p2] [] pos) .new (lift1 (isiD tn) ma) := by
  refine pe_of (pe_callB (call_isi (X := X)) hg hm (by decide +kernel) (pa_cons ha (pa_cons (pe_bltn (v := .ty tn) hgT hmT hvT rfl hnT hdT) pa_nil rfl) he) (by decide) (by decide) he rfl) fun σ H Q h => ?_
  obtain ⟨en, ρ, H0, rr, p⟩ := h
  refine ⟨en, ρ, H0, rr, ?_⟩
  unfold lift1 at p
  cases e1 : ma ρ with
  | none => rw [e1] at p; exact p.elim
  | some r1 =>
    rw [e1] at p
    cases r1 with
    | exc c q => exact p
    | ok d1 =>
      intro v H0' H' x1 z1
      dsimp only at p
      unfold isiD at p
      cases e3 : kitB (tyN d1) tn with
      | none => rw [e3] at p; exact p.elim
      | some k =>
        rw [e3] at p
        exact ⟨v, .ty tn, _, _, k, rfl, .ty tn, rb_ty x1.sub z1.rb, kit_ty e3, p _ _ _ x1 (.inl ⟨.bl k, fun _ => rfl⟩)⟩
/-! ### slices -/
inductive ResO where
  | ok (i : Option Int)
  | exc (c : Nat) (p : Option D)
section
variable (K : PySem.W.Frag) (mg : Str → Option Value) (xs : List Str) (W : WX)
def PostO (σ : L2.St) (H0 H : Hp) (Q : Option Int → Hp → Prop) : Option ResO → Prop
  | none => False
  | some (.ok i) => ∀ H0' H', Ext H0 H H0' H' → Q i H'
  | some (.exc c p) => ∀ cls dd H0' H', Ext H0 H H0' H' → ExcIs K mg xs c p cls dd H0' H' → W cls dd σ H'
def TauO (m : Rho → Option ResO) : TO := fun σ H Q => ∃ en ρ H0, R K en ρ H0 σ H ∧ PostO K mg xs W σ H0 H Q (m ρ)
end
def JO (X : Cx) (xs : List Str) (W : WX) (e : Option Expr) (m : Rho → Option ResO) : Prop := PO X e (TauO X.K X.mg xs W m)
theorem po_of {X : Cx} {e : Option Expr} {t t' : TO} (h : PO X e t) (i : ∀ σ H Q, t' σ H Q → t σ H Q) : PO X e t' := ⟨fun pins s σ H Q I q => h.run pins s σ H Q I (i σ H Q q)⟩
theorem jo_none : JO X xs W none (fun _ => some (.ok none)) := by
  refine po_of po_none fun σ H Q h => ?_
  obtain ⟨en, ρ, H0, rr, p⟩ := h
  exact p H0 H (Ext.refl rr.sub)
def partV (ma : Rho → Option Res) : Rho → Option ResO := fun ρ => match ma ρ with
  | some (.ok (.int i)) => some (.ok (some i))
  | some (.exc c p) => some (.exc c p)
  | _ => none
theorem jo_some (ha : JE X xs W a sa ma) : JO X xs W (some a) (partV ma) := by
  refine po_of (po_some ha) fun σ H Q h => ?_
  obtain ⟨en, ρ, H0, rr, p⟩ := h
  refine ⟨en, ρ, H0, rr, ?_⟩
  unfold partV at p
  cases e1 : ma ρ with
  | none => rw [e1] at p; exact p.elim
  | some r1 =>
    rw [e1] at p
    cases r1 with
    | exc c q => exact p
    | ok d1 =>
      intro v H0' H' x1 z1
      cases d1 with
      | int i => cases z1.rb.int; exact ⟨i, rfl, p _ _ x1⟩
      | _ => exact p.elim
def slcV (ma : Rho → Option Res) (ml mh : Rho → Option ResO) : Rho → Option Res := fun ρ => match ma ρ with
  | some (.ok d) => (match ml ρ with
    | some (.ok lo) => (match mh ρ with
      | some (.ok hi) => (slcD d lo hi).map .ok
      | some (.exc c p) => some (.exc c p)
      | none => none)
    | some (.exc c p) => some (.exc c p)
    | none => none)
  | some (.exc c p) => some (.exc c p)
  | none => none
theorem je_slc {lo hi : Option Expr} {p2 : Pos} {ml mh : Rho → Option ResO} (ha : JE X xs W a sa ma) (hl : JO X xs W lo ml) (hh : JO X xs W hi mh) : JE X xs W (.Subscript a (.Slice lo hi none p2) pos) .new (slcV ma ml mh) := by
  refine pe_of (pe_slice sl_2 ha hl hh) fun σ H Q h => ?_
  obtain ⟨en, ρ, H0, rr, p⟩ := h
  refine ⟨en, ρ, H0, rr, ?_⟩
  unfold slcV at p
  cases e1 : ma ρ with
  | none => rw [e1] at p; exact p.elim
  | some r1 =>
    rw [e1] at p
    cases r1 with
    | exc c q => exact p
    | ok d1 =>
      intro v H0' H' x1 z1
      refine ⟨en, ρ, H0', rr.mono x1, ?_⟩
      dsimp only at p
      cases e2 : ml ρ with
      | none => rw [e2] at p; exact p.elim
      | some r2 =>
        rw [e2] at p
        cases r2 with
        | exc c q => exact fun cls dd A B x2 z2 => p cls dd A B (x1.trans x2) z2
        | ok i =>
          intro H02 H2 x2
          refine ⟨en, ρ, H02, (rr.mono x1).mono x2, ?_⟩
          dsimp only at p
          cases e3 : mh ρ with
          | none => rw [e3] at p; exact p.elim
          | some r3 =>
            rw [e3] at p
            cases r3 with
            | exc c q => exact fun cls dd A B x3 z3 => p cls dd A B (x1.trans (x2.trans x3)) z3
            | ok j =>
              intro H03 H3 x3
              dsimp only at p
              cases e4 : slcD d1 i j with
              | none => rw [e4] at p; exact p.elim
              | some d =>
                rw [e4] at p
                exact ok_slc (n := true) x3.sub ((z1.rb.mono x2).mono x3) e4 fun v4 H04 H4 x4 z4 => p v4 H04 H4 (x1.trans (x2.trans (x3.trans x4))) (z4.rz (x1.s.trans (x2.s.trans x3.s)))
end

/-! ### what is walked -/
/-- the walk J goes through these items -/
structure ItOk (K : PySem.W.Frag) (en : Ent) (J : It) (items : List D) (Hs : Hp) : Prop where
  go : ∀ i d H0 H, items[i]? = some d → Same en.H H → Same Hs H0 → Same H0 H → J.go i H ∧ ∀ x H', J.yld i H x H' → ∃ H0', Ext H0 H H0' H' ∧ Dd K H0' x d
  stop : ∀ i H0 H, items.length ≤ i → Same en.H H → Same Hs H0 → Same H0 H → J.stop i H
section
variable (K : PySem.W.Frag) (mg : Str → Option Value) (xs : List Str) (W : WX)
def PostI (en : Ent) (σ : L2.St) (H0 H : Hp) (Rr : It → Hp → Prop) : Option ResL → Prop
  | none => False
  | some (.ok ds) => ∀ J H0' H', Ext H0 H H0' H' → ItOk K en J ds H0' → ds.length ≤ sizeLine → Rr J H'
  | some (.exc c p) => ∀ cls dd H0' H', Ext H0 H H0' H' → ExcIs K mg xs c p cls dd H0' H' → W cls dd σ H'
def TauI (m : Rho → Option ResL) : TI := fun σ H Rr => ∃ en ρ H0, R K en ρ H0 σ H ∧ PostI K mg xs W en σ H0 H Rr (m ρ)
end
def JI (X : Cx) (xs : List Str) (W : WX) (tg e : Expr) (m : Rho → Option ResL) : Prop := PI X tg e (TauI X.K X.mg xs W m)
/-- a list or a tuple, whichever it is, with its length -/
def iSeq (K : PySem.W.Frag) (tl : TE) : TI := fun σ H Rr => tl σ H fun x H1 => ∃ a ys, x = .ref a ∧ ((SqL K H1 a ys ∧ (ys.length ≤ sizeLine → Rr (Itl K a) H1)) ∨ (SqT K H1 a ys ∧ (ys.length ≤ sizeLine → Rr (Itt K a) H1)))
theorem pi_seq {X : Cx} {tg l : Expr} {tl : TE} (hl : PE X l tl) : PI X tg l (iSeq X.K tl) := by
  refine ⟨fun pins s σ H Rr I h => ?_⟩
  refine thn (hl.run pins s σ H _ I h) fun v s1 ⟨x, H1, I1, r1, q1⟩ => ?_
  obtain ⟨a, ys, e, q1⟩ := q1
  subst e
  cases r1
  rcases q1 with ⟨hq, q⟩ | ⟨hq, q⟩
  · obtain ⟨its, rv, p, hz⟩ := I1.list hq
    refine wpAny_pyIter_list p.isList ?_
    refine ⟨s1.heap.objs.size, [s1.heap.objs.size], _, _, H1, rfl, I1.kept (t' := s1.toks) fun b o e => Heap.get?_push_of_some _ e, turn_list a _, ⟨_, Heap.get?_push_size _ rfl, rfl, rfl⟩, fun b hb => ?_, q hz⟩
    have e : b = s1.heap.objs.size := by simpa using hb
    subst e
    exact I1.fpOk (Nat.le_refl _) (I1.hok.fresh (Nat.le_refl _))
  · obtain ⟨its, rv, p, hz⟩ := I1.tuple hq
    refine wpAny_pyIter_tuple (show s1.heap.IsTuple a its.toArray from p) ?_
    refine ⟨s1.heap.objs.size, [s1.heap.objs.size], _, _, H1, rfl, I1.kept (t' := s1.toks) fun b o e => Heap.get?_push_of_some _ e, turn_tuple a _, ⟨_, Heap.get?_push_size _ rfl, rfl, rfl⟩, fun b hb => ?_, q hz⟩
    have e : b = s1.heap.objs.size := by simpa using hb
    subst e
    exact I1.fpOk (Nat.le_refl _) (I1.hok.fresh (Nat.le_refl _))
theorem itok_list {K : PySem.W.Frag} {en : Ent} {a : Addr} {ys : List V} {ds : List D} {Hs : Hp} (st : ∀ H0 H, Same en.H H → Same Hs H0 → Same H0 H → Rd H a (.lst ys)) (k : Dds K Hs ys ds) : ItOk K en (Itl K a) ds Hs where
  go := fun i d H0 H hi e1 e2 e3 => by
    obtain ⟨v, hv, hd⟩ := k.get hi
    refine ⟨⟨ys, v, .inl (st H0 H e1 e2 e3), hv⟩, fun x H' hy => ?_⟩
    obtain ⟨rfl, hx⟩ := hy
    have e := hx ys (.inl (st H0 _ e1 e2 e3))
    rw [hv] at e
    cases e
    exact ⟨H0, Ext.refl e3, hd.mono e2⟩
  stop := fun i H0 H hi e1 e2 e3 => ⟨ys, .inl (st H0 H e1 e2 e3), by rw [k.length]; exact hi⟩
theorem itok_tup {K : PySem.W.Frag} {en : Ent} {a : Addr} {ys : List V} {ds : List D} {Hs : Hp} (st : ∀ H0 H, Same en.H H → Same Hs H0 → Same H0 H → Rd H a (.tup ys)) (k : Dds K Hs ys ds) : ItOk K en (Itt K a) ds Hs where
  go := fun i d H0 H hi e1 e2 e3 => by
    obtain ⟨v, hv, hd⟩ := k.get hi
    refine ⟨⟨ys, v, .inl (st H0 H e1 e2 e3), hv⟩, fun x H' hy => ?_⟩
    obtain ⟨rfl, hx⟩ := hy
    have e := hx ys (.inl (st H0 _ e1 e2 e3))
    rw [hv] at e
    cases e
    exact ⟨H0, Ext.refl e3, hd.mono e2⟩
  stop := fun i H0 H hi e1 e2 e3 => ⟨ys, .inl (st H0 H e1 e2 e3), by rw [k.length]; exact hi⟩
/-- the items of a list or tuple; a name's own list is not walked (it must be settled first) -/
def seqI (src : Src) (m : Rho → Option Res) : Rho → Option ResL := fun ρ =>
  match (match src with
    | .slot i => (match ρ[i]? with
      | some (some (.own, _)) => none
      | some (some (_, d)) => some (Res.ok d)
      | _ => none)
    | _ => m ρ) with
  | some (.ok (.list ds)) => some (.ok ds)
  | some (.ok (.tuple ds)) => some (.ok ds)
  | some (.exc c p) => some (.exc c p)
  | _ => none
theorem ji_seq {X : Cx} {xs : List Str} {W : WX} {tg l : Expr} {src : Src} {m : Rho → Option Res} (hl : JE X xs W l src m) (hs : ∀ i, src = .slot i → m = fun ρ => slotVal ρ i) : JI X xs W tg l (seqI src m) := by
  refine pi_of (pi_seq hl) fun σ H Rr h => ?_
  obtain ⟨en, ρ, H0, rr, p⟩ := h
  refine ⟨en, ρ, H0, rr, ?_⟩
  -- what the walk wants of an answer
  have fin : ∀ (v : V) (H0' H' : Hp) (d : D), Ext H0 H H0' H' → Dd X.K H0' v d → (∀ ds, d = .list ds ∨ d = .tuple ds → ∀ J H0' H', Ext H0 H H0' H' → ItOk X.K en J ds H0' → ds.length ≤ sizeLine → Rr J H') → (∃ ds, d = .list ds ∨ d = .tuple ds) →
      ∃ a ys, v = .ref a ∧ ((SqL X.K H' a ys ∧ (ys.length ≤ sizeLine → Rr (Itl X.K a) H')) ∨ (SqT X.K H' a ys ∧ (ys.length ≤ sizeLine → Rr (Itt X.K a) H'))) := by
    intro v H0' H' d x1 hd q hk
    cases hd with
    | lst h1 h2 =>
      rename_i a ys ds
      refine ⟨a, ys, rfl, .inl ⟨.inl (same_rd x1.sub h1), fun hz => ?_⟩⟩
      exact q ds (.inl rfl) _ H0' H' x1 (itok_list (fun A B _ e2 e3 => same_rd e3 (same_rd e2 h1)) h2) (by rw [← h2.length]; exact hz)
    | tup h1 h2 =>
      rename_i a ys ds
      refine ⟨a, ys, rfl, .inr ⟨.inl (same_rd x1.sub h1), fun hz => ?_⟩⟩
      exact q ds (.inr rfl) _ H0' H' x1 (itok_tup (fun A B _ e2 e3 => same_rd e3 (same_rd e2 h1)) h2) (by rw [← h2.length]; exact hz)
    | _ => obtain ⟨ds, hk | hk⟩ := hk <;> cases hk
  have plain : (∀ i, src ≠ .slot i) → PostI X.K X.mg xs W en σ H0 H Rr (match m ρ with
      | some (.ok (.list ds)) => some (.ok ds)
      | some (.ok (.tuple ds)) => some (.ok ds)
      | some (.exc c p) => some (.exc c p)
      | _ => none) → PostR X.K X.mg xs W src σ H0 H (fun x H1 => ∃ a ys, x = .ref a ∧ ((SqL X.K H1 a ys ∧ (ys.length ≤ sizeLine → Rr (Itl X.K a) H1)) ∨ (SqT X.K H1 a ys ∧ (ys.length ≤ sizeLine → Rr (Itt X.K a) H1)))) (m ρ) := by
    intro hn p
    cases e1 : m ρ with
    | none => rw [e1] at p; exact p.elim
    | some r1 =>
      rw [e1] at p
      cases r1 with
      | exc c q => exact p
      | ok d =>
        intro v H0' H' x1 z1
        obtain ⟨H02, k1, _, _, _, k5⟩ := RS.settle x1 (z1.rs hn)
        refine fin v H02 H' d k1 k5 (fun ds hd => ?_) ?_
        · rcases hd with rfl | rfl <;> exact p
        · cases d with
          | list ds => exact ⟨ds, .inl rfl⟩
          | tuple ds => exact ⟨ds, .inr rfl⟩
          | _ => exact p.elim
  cases src with
  | new => exact plain (fun i e => nomatch e) p
  | any => exact plain (fun i e => nomatch e) p
  | slot i =>
    rw [hs i rfl]
    unfold seqI at p
    dsimp only at p
    show PostR X.K X.mg xs W (.slot i) σ H0 H _ (slotVal ρ i)
    unfold slotVal
    cases e0 : ρ[i]? with
    | none => rw [e0] at p; exact p.elim
    | some s0 =>
      cases s0 with
      | none => rw [e0] at p; exact p.elim
      | some fd =>
        obtain ⟨fl, d⟩ := fd
        rw [e0] at p
        dsimp only
        intro v H0' H' x1 z1
        obtain ⟨w, h1, h2⟩ := rr.slot i fl d e0
        have kd : (∃ ds, d = .list ds ∨ d = .tuple ds) := by
          cases fl <;> cases d <;> first | exact ⟨_, .inl rfl⟩ | exact ⟨_, .inr rfl⟩ | exact p.elim
        have q : ∀ ds, d = .list ds ∨ d = .tuple ds → ∀ J H0' H', Ext H0 H H0' H' → ItOk X.K en J ds H0' → ds.length ≤ sizeLine → Rr J H' := by
          intro ds hd
          cases fl with
          | own => exact p.elim
          | bor => rcases hd with rfl | rfl <;> exact p
          | dat => rcases hd with rfl | rfl <;> exact p
        rcases z1 with z1 | ⟨a, rfl, mo, z⟩
        · exact fin v H0' H' d x1 z1 q kd
        · have z' : σ[i]? = some (some (.ref a)) := z
          rw [h1] at z'
          cases z'
          cases fl with
          | own => exact p.elim
          | dat => exact fin _ H0' H' d x1 (Dd.mono x1.s0 h2) q kd
          | bor =>
            rcases h2 with h2 | ⟨a', ea, mo', o, ho⟩
            · exact fin _ H0' H' d x1 (Dd.mono x1.s0 h2) q kd
            · cases ea
              cases mo' with
              | lst k1 k2 k3 =>
                rename_i ys ds
                have eo : o = .lst ys := by
                  have := rr.e1 a o ho
                  rw [k2] at this
                  cases this
                  rfl
                subst eo
                refine ⟨a, ys, rfl, .inl ⟨.inl (.inl (x1.s _ _ k2)), fun hz => ?_⟩⟩
                exact q ds (.inl rfl) _ H0' H' x1 (itok_list (fun A B e1 _ _ => .inl (e1 _ _ ho)) (k3.mono x1.s0)) (by rw [← k3.length]; exact hz)
              | dic k1 k2 k3 => obtain ⟨ds, hk | hk⟩ := kd <;> cases hk
/-- range(n), range(a, b) -/
def rngL (a b : Int) : List D := (List.range (b - a).toNat).map fun (i : Nat) => PyData.int (a + i)
def rngI (m : Rho → Option ResL) : Rho → Option ResL := fun ρ => match m ρ with
  | some (.ok [.int j]) => if rngOk 0 j = true then some (.ok (rngL 0 j)) else none
  | some (.ok [.int i, .int j]) => if rngOk i j = true then some (.ok (rngL i j)) else none
  | some (.exc c p) => some (.exc c p)
  | _ => none
theorem itok_rng {K : PySem.W.Frag} {en : Ent} {a b : Int} {n : Nat} {Hs : Hp} (hn : n = (b - a).toNat) : ItOk K en (Itr a n) (rngL a b) Hs where
  go := fun i d H0 H hi e1 e2 e3 => by
    unfold rngL at hi
    rw [List.getElem?_map] at hi
    by_cases hl : i < (b - a).toNat
    · rw [List.getElem?_range hl] at hi
      cases hi
      refine ⟨by show i < n; omega, fun x H' hy => ?_⟩
      obtain ⟨rfl, rfl⟩ := hy
      exact ⟨H0, Ext.refl e3, .int _⟩
    · rw [List.getElem?_eq_none (by rw [List.length_range]; omega)] at hi
      cases hi
  stop := fun i H0 H hi e1 e2 e3 => by
    unfold rngL at hi
    rw [List.length_map, List.length_range] at hi
    show n ≤ i
    omega
theorem rngL_length (a b : Int) : (rngL a b).length = (b - a).toNat := by
  unfold rngL
  rw [List.length_map, List.length_range]
theorem ji_rng1 {X : Cx} {xs : List Str} {W : WX} {tg a : Expr} {ms : Rho → Option ResL} {p pos : Pos} (hg : Gl X "range") (hm : X.mg "range" = none) (ha : JA X xs W [a] ms) (hs : starEach [a] X.env = [(false, eval a X.env)]) (h1 : ∀ ρ ds, ms ρ = some (.ok ds) → ds.length = 1) :
    JI X xs W tg (.Call (.Name "range" p) [a] [] pos) (rngI ms) := by
  refine pi_of (pi_range1 hg hm ha hs) fun σ H Rr h => ?_
  obtain ⟨en, ρ, H0, rr, p⟩ := h
  refine ⟨en, ρ, H0, rr, ?_⟩
  unfold rngI at p
  cases e1 : ms ρ with
  | none => rw [e1] at p; exact p.elim
  | some r1 =>
    rw [e1] at p
    cases r1 with
    | exc c q => exact p
    | ok ds =>
      intro vs H0' H' x1 z1
      have hl := h1 ρ ds e1
      match ds, hl with
      | [d], _ =>
        obtain ⟨v, rfl, hv⟩ := rbs1 z1
        cases d with
        | int j =>
          cases hv.int
          dsimp only at p
          split at p
          · rename_i hj
            rw [rngOk_eq] at hj
            have hj := of_decide_eq_true hj
            refine ⟨j, rfl, by omega, by omega, p _ H0' H' x1 (itok_rng (by omega)) ?_⟩
            rw [rngL_length, sizeLine_eq]
            omega
          · exact p.elim
        | _ => exact p.elim
theorem ji_rng2 {X : Cx} {xs : List Str} {W : WX} {tg a b : Expr} {ms : Rho → Option ResL} {p pos : Pos} (hg : Gl X "range") (hm : X.mg "range" = none) (ha : JA X xs W [a, b] ms) (hs : starEach [a, b] X.env = [(false, eval a X.env), (false, eval b X.env)]) (hs2 : starEach [b] X.env = [(false, eval b X.env)]) (h1 : ∀ ρ ds, ms ρ = some (.ok ds) → ds.length = 2) :
    JI X xs W tg (.Call (.Name "range" p) [a, b] [] pos) (rngI ms) := by
  refine pi_of (pi_range2 hg hm ha hs hs2) fun σ H Rr h => ?_
  obtain ⟨en, ρ, H0, rr, p⟩ := h
  refine ⟨en, ρ, H0, rr, ?_⟩
  unfold rngI at p
  cases e1 : ms ρ with
  | none => rw [e1] at p; exact p.elim
  | some r1 =>
    rw [e1] at p
    cases r1 with
    | exc c q => exact p
    | ok ds =>
      intro vs H0' H' x1 z1
      have hl := h1 ρ ds e1
      match ds, hl with
      | [d, e], _ =>
        obtain ⟨v, w, rfl, hv, hw⟩ := rbs2 z1
        cases d with
        | int i =>
          cases e with
          | int j =>
            cases hv.int
            cases hw.int
            dsimp only at p
            split at p
            · rename_i hj
              rw [rngOk_eq] at hj
              have hj := of_decide_eq_true hj
              refine ⟨i, j, rfl, ⟨by omega, by omega, by omega, by omega⟩, p _ H0' H' x1 (itok_rng rfl) ?_⟩
              rw [rngL_length, sizeLine_eq]
              omega
            · exact p.elim
          | _ => exact p.elim
        | _ => exact p.elim
end
end DD

namespace DD
open PySem PySem.Spec PyProof.Rows L2

/-! ### the slots -/
section
variable {K : PySem.W.Frag} {en : Ent} {ρ : Rho} {H0 H : Hp} {σ : L2.St}
theorem get_set {α : Type} {l : List α} {i j : Nat} {a : α} : (l.set i a)[j]? = if i = j then (if i < l.length then some a else none) else l[j]? := by
  rw [List.getElem?_set]
theorem R.set_dat {v : V} {d : D} {i : Nat} (r : R K en ρ H0 σ H) (h : Dd K H0 v d) : R K en (ρ.set i (some (.dat, d))) H0 (σ.set i (some v)) H where
  sub := r.sub
  len := by rw [List.length_set, List.length_set]; exact r.len
  slot := fun j fl e hj => by
    rw [get_set] at hj
    split at hj
    · rename_i hij
      subst hij
      split at hj
      · rename_i hl
        cases hj
        exact ⟨v, by rw [get_set, if_pos rfl, if_pos (by rw [r.len]; exact hl)], h⟩
      · cases hj
    · rename_i hij
      obtain ⟨w, h1, h2⟩ := r.slot j fl e hj
      exact ⟨w, by rw [get_set, if_neg hij]; exact h1, h2⟩
  apart := fun j k dj dk w hjk hj hk hv => by
    rw [get_set] at hj hk hv ⊢
    split at hj
    · split at hj <;> cases hj
    · rename_i hij
      rw [if_neg hij] at hv
      split at hk
      · split at hk <;> cases hk
      · rename_i hik
        rw [if_neg hik]
        exact r.apart j k dj dk w hjk hj hk hv
  e1 := r.e1
  e2 := r.e2
  e3 := r.e3
  hn := by rw [List.length_set]; exact r.hn
theorem R.set_own {a : Addr} {d : D} {i : Nat} (r : R K en ρ H0 σ H) (h : MO K H0 H a d) (hn : en.H a = none) (ha : ∀ (j : Nat) dj, j ≠ i → ρ[j]? = some (some (.own, dj)) → σ[j]? ≠ some (some (.ref a))) :
    R K en (ρ.set i (some (.own, d))) H0 (σ.set i (some (.ref a))) H where
  sub := r.sub
  len := by rw [List.length_set, List.length_set]; exact r.len
  slot := fun j fl e hj => by
    rw [get_set] at hj
    split at hj
    · rename_i hij
      subst hij
      split at hj
      · rename_i hl
        cases hj
        exact ⟨_, by rw [get_set, if_pos rfl, if_pos (by rw [r.len]; exact hl)], a, rfl, h, hn⟩
      · cases hj
    · rename_i hij
      obtain ⟨w, h1, h2⟩ := r.slot j fl e hj
      exact ⟨w, by rw [get_set, if_neg hij]; exact h1, h2⟩
  apart := fun j k dj dk w hjk hj hk hv => by
    rw [get_set] at hj hk hv ⊢
    split at hj
    · rename_i hij
      rw [if_pos hij] at hv
      by_cases hl : i < σ.length
      · rw [if_pos hl] at hv
        cases hv
        split at hk
        · rename_i hik; omega
        · rename_i hik
          rw [if_neg hik]
          exact ha k dk (fun e => hik e.symm) hk
      · rw [if_neg hl] at hv
        cases hv
    · rename_i hij
      rw [if_neg hij] at hv
      split at hk
      · rename_i hik
        rw [if_pos hik]
        by_cases hl : i < σ.length
        · rw [if_pos hl]
          intro e
          cases e
          exact ha j dj (fun e => hij e.symm) hj hv
        · rw [if_neg hl]
          intro e
          cases e
      · rename_i hik
        rw [if_neg hik]
        exact r.apart j k dj dk w hjk hj hk hv
  e1 := r.e1
  e2 := r.e2
  e3 := r.e3
  hn := by rw [List.length_set]; exact r.hn
/-- the thing of an own slot is changed -/
theorem R.write {i : Nat} {a : Addr} {d d' : D} {o : HO} (r : R K en ρ H0 σ H) (hi : ρ[i]? = some (some (.own, d))) (hs : σ[i]? = some (some (.ref a))) (hm : MO K H0 H a d) (hm' : MO K H0 (upd H a o) a d') :
    R K en (ρ.set i (some (.own, d'))) H0 σ (upd H a o) := by
  have hna : en.H a = none := by
    obtain ⟨v, h1, b, e, m, n⟩ := r.slot i .own d hi
    rw [hs] at h1
    cases h1
    cases e
    exact n
  have n0 := hm.no
  have key : ∀ b d, MO K H0 H b d → b ≠ a → MO K H0 (upd H a o) b d := fun b d m hb => by
    cases m with
    | lst k1 k2 k3 => exact .lst k1 (by rw [upd_ne hb]; exact k2) k3
    | dic k1 k2 k3 => exact .dic k1 (by rw [upd_ne hb]; exact k2) k3
  refine ⟨fun b x e => ?_, by rw [List.length_set]; exact r.len, fun j fl e hj => ?_, fun j k dj dk w hjk hj hk hv => ?_, fun b x e => ?_, r.e2, r.e3, by rw [List.length_set]; exact r.hn⟩
  · rw [upd_ne (ne_of_none e n0)]; exact r.sub b x e
  · rw [get_set] at hj
    split at hj
    · rename_i hij
      subst hij
      split at hj
      · cases hj
        exact ⟨_, hs, a, rfl, hm', hna⟩
      · cases hj
    · rename_i hij
      obtain ⟨w, h1, h2⟩ := r.slot j fl e hj
      refine ⟨w, h1, ?_⟩
      cases fl with
      | own =>
        obtain ⟨b, e1, m, n⟩ := h2
        subst e1
        refine ⟨b, rfl, key b e m fun z => ?_, n⟩
        subst z
        exact r.apart i j d e _ hij hi hj hs h1
      | bor =>
        rcases h2 with h2 | ⟨b, e1, m, n⟩
        · exact .inl h2
        · refine .inr ⟨b, e1, key b e m fun z => ?_, n⟩
          subst z
          obtain ⟨u, hu⟩ := n
          rw [hna] at hu
          cases hu
      | dat => exact h2
  · rw [get_set] at hj hk
    have hj' : ∃ dj', ρ[j]? = some (some (.own, dj')) := by
      split at hj
      · rename_i z; subst z; exact ⟨d, hi⟩
      · exact ⟨dj, hj⟩
    have hk' : ∃ dk', ρ[k]? = some (some (.own, dk')) := by
      split at hk
      · rename_i z; subst z; exact ⟨d, hi⟩
      · exact ⟨dk, hk⟩
    obtain ⟨dj', hj'⟩ := hj'
    obtain ⟨dk', hk'⟩ := hk'
    exact r.apart j k dj' dk' w hjk hj' hk' hv
  · rw [upd_ne (ne_of_none e hna)]; exact r.e1 b x e
/-- an own slot's thing is settled -/
theorem R.settle {i : Nat} {d : D} (r : R K en ρ H0 σ H) (hi : ρ[i]? = some (some (.own, d))) : ∃ H0', Same H0 H0' ∧ R K en (ρ.set i (some (.dat, d))) H0' σ H := by
  obtain ⟨v, hs, a, e, m, hna⟩ := r.slot i .own d hi
  subst e
  obtain ⟨o, ho⟩ := m.there
  have n0 := m.no
  have s1 : Same H0 (upd H0 a o) := fun b x e => by rw [upd_ne (ne_of_none e n0)]; exact e
  have hd : Dd K (upd H0 a o) (.ref a) d := by
    cases m with
    | lst k1 k2 k3 => rw [k2] at ho; cases ho; exact .lst (.inl upd_same) (k3.mono s1)
    | dic k1 k2 k3 => rw [k2] at ho; cases ho; exact .dic (.inl upd_same) (k3.mono s1)
  have key : ∀ b d, MO K H0 H b d → b ≠ a → MO K (upd H0 a o) H b d := fun b d m hb => by
    cases m with
    | lst k1 k2 k3 => exact .lst (by rw [upd_ne hb]; exact k1) k2 (k3.mono s1)
    | dic k1 k2 k3 => exact .dic (by rw [upd_ne hb]; exact k1) k2 (k3.mono s1)
  refine ⟨upd H0 a o, s1, fun b x e => ?_, by rw [List.length_set]; exact r.len, fun j fl e hj => ?_, fun j k dj dk w hjk hj hk hv => ?_, r.e1, r.e2.trans s1, fun b x e => ?_, by rw [List.length_set]; exact r.hn⟩
  · by_cases hb : b = a
    · subst hb; rw [upd_same] at e; cases e; exact ho
    · rw [upd_ne hb] at e; exact r.sub b x e
  · rw [get_set] at hj
    split at hj
    · rename_i hij
      subst hij
      split at hj
      · cases hj
        exact ⟨_, hs, hd⟩
      · cases hj
    · rename_i hij
      obtain ⟨w, h1, h2⟩ := r.slot j fl e hj
      refine ⟨w, h1, ?_⟩
      cases fl with
      | own =>
        obtain ⟨b, e1, m, n⟩ := h2
        subst e1
        refine ⟨b, rfl, key b e m fun z => ?_, n⟩
        subst z
        exact r.apart i j d e _ hij hi hj hs h1
      | bor =>
        rcases h2 with h2 | ⟨b, e1, m, n⟩
        · exact .inl (h2.mono s1)
        · refine .inr ⟨b, e1, key b e m fun z => ?_, n⟩
          subst z
          obtain ⟨u, hu⟩ := n
          rw [hna] at hu
          cases hu
      | dat => exact Dd.mono s1 h2
  · rw [get_set] at hj hk
    split at hj
    · split at hj <;> cases hj
    · split at hk
      · split at hk <;> cases hk
      · exact r.apart j k dj dk w hjk hj hk hv
  · rw [upd_ne (ne_of_none e hna)]; exact r.e3 b x e
def wipeR (ρ : Rho) : List Nat → Rho
  | [] => ρ
  | v :: vs => (wipeR ρ vs).set v none
theorem R.none {i : Nat} (r : R K en ρ H0 σ H) : R K en (ρ.set i none) H0 (σ.set i none) H where
  sub := r.sub
  len := by rw [List.length_set, List.length_set]; exact r.len
  slot := fun j fl e hj => by
    rw [get_set] at hj
    split at hj
    · split at hj <;> cases hj
    · rename_i hij
      obtain ⟨w, h1, h2⟩ := r.slot j fl e hj
      exact ⟨w, by rw [get_set, if_neg hij]; exact h1, h2⟩
  apart := fun j k dj dk w hjk hj hk hv => by
    rw [get_set] at hj hk hv ⊢
    split at hj
    · split at hj <;> cases hj
    · rename_i hij
      rw [if_neg hij] at hv
      split at hk
      · split at hk <;> cases hk
      · rename_i hik
        rw [if_neg hik]
        exact r.apart j k dj dk w hjk hj hk hv
  e1 := r.e1
  e2 := r.e2
  e3 := r.e3
  hn := by rw [List.length_set]; exact r.hn
theorem R.wipe (r : R K en ρ H0 σ H) : ∀ vs : List Nat, R K en (wipeR ρ vs) H0 (wipe σ vs) H
  | [] => r
  | v :: vs => (R.wipe r vs).none
/-- from the entry on -/
theorem R.ext (r : R K en ρ H0 σ H) : Ext en.H0 en.H H0 H := ⟨r.e2, r.e1, r.sub, r.e3⟩
end

/-! ### targets -/
mutual
inductive Tg where
  | one (i : Nat)
  | many (ts : Tgs)
inductive Tgs where
  | nil
  | cons (t : Tg) (ts : Tgs)
end
mutual
def Tg.bind : Tg → D → Rho → Option Rho
  | .one i, d, ρ => some (ρ.set i (some (.dat, d)))
  | .many ts, .tuple ds, ρ => ts.bind ds ρ
  | .many _, _, _ => none
def Tgs.bind : Tgs → List D → Rho → Option Rho
  | .nil, [], ρ => some ρ
  | .cons t ts, d :: ds, ρ => (match t.bind d ρ with
    | some ρ' => ts.bind ds ρ'
    | none => none)
  | _, _, _ => none
end
mutual
def Tg.slots : Tg → List Nat
  | .one i => [i]
  | .many ts => ts.slots
def Tgs.slots : Tgs → List Nat
  | .nil => []
  | .cons t ts => t.slots ++ ts.slots
end
def Tgs.len : Tgs → Nat
  | .nil => 0
  | .cons _ ts => ts.len + 1
theorem Tgs.bind_len : ∀ {ts : Tgs} {ds : List D} {ρ ρ' : Rho}, ts.bind ds ρ = some ρ' → ds.length = ts.len
  | .nil, [], _, _, _ => rfl
  | .nil, _ :: _, _, _, h => by unfold Tgs.bind at h; cases h
  | .cons _ _, [], _, _, h => by unfold Tgs.bind at h; cases h
  | .cons t ts, d :: ds, ρ, ρ', h => by
    unfold Tgs.bind at h
    split at h
    · rw [List.length_cons, Tgs.bind_len h]; rfl
    · cases h
/-- only these slots change -/
def Keeps (vs : List Nat) (σ σ' : L2.St) : Prop := σ'.length = σ.length ∧ ∀ j, j ∉ vs → σ'[j]? = σ[j]?
def TauG (K : PySem.W.Frag) (vs : List Nat) (b : D → Rho → Option Rho) : TG := fun v σ H Q => ∃ en ρ H0 d ρ', R K en ρ H0 σ H ∧ Dd K H0 v d ∧ b d ρ = some ρ' ∧ ∀ σ', R K en ρ' H0 σ' H → Keeps vs σ σ' → Q σ' H
def TauGs (K : PySem.W.Frag) (vs : List Nat) (b : List D → Rho → Option Rho) : TGs := fun ws σ H Q => ∃ en ρ H0 ds ρ', R K en ρ H0 σ H ∧ Dds K H0 ws ds ∧ b ds ρ = some ρ' ∧ ∀ σ', R K en ρ' H0 σ' H → Keeps vs σ σ' → Q σ' H
theorem pg_of {X : Cx} {tg : Expr} {t t' : TG} (h : PG X tg t) (i : ∀ v σ H Q, t' v σ H Q → t v σ H Q) : PG X tg t' := ⟨fun pins s σ H v u Q I r q => h.run pins s σ H v u Q I r (i v σ H Q q)⟩
theorem pgs_of {X : Cx} {tg : List Expr} {t t' : TGs} (h : PGs X tg t) (i : ∀ v σ H Q, t' v σ H Q → t v σ H Q) : PGs X tg t' := ⟨fun pins s σ H v u Q I r q => h.run pins s σ H v u Q I r (i v σ H Q q)⟩
section
variable {X : Cx} {pos : Pos}
theorem jg_one {i : Nat} {x : Str} (hN : X.N.Nodup) (hi : X.N[i]? = some x) (hx : Loc X.env.scope x) (hf : X.fn x = true ∨ X.env.scope.names.lookup x = some .local) : PG X (.Name x pos) (TauG X.K [i] (Tg.one i).bind) := by
  refine pg_of (pg_name hN hi hx hf) fun v σ H Q h => ?_
  obtain ⟨en, ρ, H0, d, ρ', r, hd, hb, q⟩ := h
  unfold Tg.bind at hb
  cases hb
  refine q _ (r.set_dat hd) ⟨List.length_set, fun j hj => ?_⟩
  rw [get_set, if_neg (fun e => hj (by simp [e]))]
theorem jgs_nil : PGs X [] (TauGs X.K [] Tgs.nil.bind) := by
  refine pgs_of pgs_nil fun v σ H Q h => ?_
  obtain ⟨en, ρ, H0, d, ρ', r, hd, hb, q⟩ := h
  cases hd with
  | nil =>
    unfold Tgs.bind at hb
    cases hb
    exact ⟨rfl, q _ r ⟨rfl, fun _ _ => rfl⟩⟩
  | cons _ _ => unfold Tgs.bind at hb; cases hb
theorem jgs_cons {e : Expr} {es : List Expr} {t : Tg} {ts : Tgs} (h1 : PG X e (TauG X.K t.slots t.bind)) (h2 : PGs X es (TauGs X.K ts.slots ts.bind))
    (hs : (assignEach (e :: es) X.env).map (·.2) = assign e X.env :: (assignEach es X.env).map (·.2)) : PGs X (e :: es) (TauGs X.K (Tgs.cons t ts).slots (Tgs.cons t ts).bind) := by
  refine pgs_of (pgs_cons h1 h2 hs) fun v σ H Q h => ?_
  obtain ⟨en, ρ, H0, d, ρ', r, hd, hb, q⟩ := h
  cases hd with
  | nil => unfold Tgs.bind at hb; cases hb
  | cons hd hds =>
    unfold Tgs.bind at hb
    split at hb
    · rename_i ρ1 e1
      refine ⟨_, _, rfl, en, ρ, H0, _, ρ1, r, hd, e1, fun σ1 r1 k1 => ⟨en, ρ1, H0, _, ρ', r1, hds, hb, fun σ2 r2 k2 => q σ2 r2 ⟨k2.1.trans k1.1, fun j hj => ?_⟩⟩⟩
      unfold Tgs.slots at hj
      rw [List.mem_append, not_or] at hj
      rw [k2.2 j hj.2, k1.2 j hj.1]
    · cases hb
theorem jg_many {es : List Expr} {k : Nat} {ts : Tgs} (hc : X.calm = true) (h : PGs X es (TauGs X.K ts.slots ts.bind)) (hn : (assignEach es X.env).length = ts.len) (hst : (assignEach es X.env).findIdx? (·.1) = none) :
    PG X (.Tuple es k pos) (TauG X.K (Tg.many ts).slots (Tg.many ts).bind) := by
  refine pg_of (pg_tup hc h hn hst) fun v σ H Q h => ?_
  obtain ⟨en, ρ, H0, d, ρ', r, hd, hb, q⟩ := h
  cases hd with
  | tup h1 h2 =>
    unfold Tg.bind at hb
    refine ⟨_, _, rfl, .inl (same_rd r.sub h1), ?_, en, ρ, H0, _, ρ', r, h2, hb, q⟩
    rw [h2.length]
    exact Tgs.bind_len hb
  | _ => unfold Tg.bind at hb; cases hb
end

/-! ### comprehensions -/
def compL (b : D → Rho → Option Rho) (mt : Rho → Option ResB) (me : Rho → Option Res) (ρ : Rho) : List D → Option (List D)
  | [] => some []
  | x :: r => (match b x ρ with
    | some ρ1 => (match mt ρ1 with
      | some (.ok true) => (match me ρ1 with
        | some (.ok d) => (compL b mt me ρ r).map (d :: ·)
        | _ => none)
      | some (.ok false) => compL b mt me ρ r
      | _ => none)
    | none => none)
def compV (mi : Rho → Option ResL) (vs : List Nat) (b : D → Rho → Option Rho) (mt : Rho → Option ResB) (me : Rho → Option Res) : Rho → Option Res := fun ρ => match mi ρ with
  | some (.ok items) => (compL b mt me (wipeR ρ vs) items).map fun ds => .ok (.list ds)
  | some (.exc c p) => some (.exc c p)
  | none => none
abbrev W0 : WX := fun _ _ _ _ => False
theorem wipe_get {σ : L2.St} : ∀ {vs : List Nat} {j : Nat}, (wipe σ vs)[j]? = if j ∈ vs then (if j < σ.length then some none else none) else σ[j]?
  | [], j => by simp [wipe]
  | v :: vs, j => by
    unfold wipe
    rw [get_set, wipe_get (vs := vs), wipe_length]
    by_cases h : v = j
    · subst h; simp
    · rw [if_neg h]
      by_cases h2 : j ∈ vs
      · rw [if_pos h2, if_pos (List.mem_cons_of_mem _ h2)]
      · rw [if_neg h2, if_neg (by simp only [List.mem_cons, not_or]; exact ⟨fun e => h e.symm, h2⟩)]
theorem wipe_keeps {σ σ2 : L2.St} {vs us : List Nat} (k : Keeps us (wipe σ vs) σ2) (h : ∀ i ∈ us, i ∈ vs) : wipe σ2 vs = wipe σ vs := by
  apply List.ext_getElem?
  intro j
  rw [wipe_get, wipe_get, k.1, wipe_length]
  by_cases hj : j ∈ vs
  · rw [if_pos hj, if_pos hj]
  · rw [if_neg hj, if_neg hj, k.2 j (fun z => hj (h j z)), wipe_get, if_neg hj]
section
variable {K : PySem.W.Frag} {mg : Str → Option Value} {xs : List Str} {W : WX}
theorem tau_lc {σ : L2.St} {H : Hp} {Q : VK} {mi : Rho → Option ResL} {vs us : List Nat} {b : D → Rho → Option Rho} {mt : Rho → Option ResB} {me : Rho → Option Res} (hu : ∀ i ∈ us, i ∈ vs)
    (h : Tau K mg xs W .new (compV mi vs b mt me) σ H Q) : tLc (TauI K mg xs W mi) (TauG K us b) (TauB K mg xs W0 mt) (TauD K mg xs W0 me) vs σ H Q := by
  obtain ⟨en, ρ, H0, rr, p⟩ := h
  refine ⟨en, ρ, H0, rr, ?_⟩
  unfold compV at p
  cases e1 : mi ρ with
  | none => rw [e1] at p; exact p.elim
  | some r1 =>
    rw [e1] at p
    cases r1 with
    | exc c q => exact p
    | ok items =>
      intro J H0' H1 x1 io hz Dn nD
      dsimp only at p
      cases e2 : compL b mt me (wipeR ρ vs) items with
      | none => rw [e2] at p; exact p.elim
      | some total =>
        rw [e2] at p
        have p : ∀ v H0' H', Ext H0 H H0' H' → RS true K H H0' H' v (.list total) → Q v H' := p
        have nD0 : H0' Dn = none := not_settled x1.sub nD
        have rr1 := rr.mono x1
        refine ⟨fun i m HH => m = items.length - i ∧ i ≤ items.length ∧ ∃ H0i acc out rest, Ext H0' H1 H0i HH ∧ HH Dn = some (.lst acc) ∧ H0i Dn = none ∧ Dds K H0i acc out ∧ compL b mt me (wipeR ρ vs) (items.drop i) = some rest ∧ total = out ++ rest ∧ out.length ≤ i,
          ⟨items.length, by simp, Nat.zero_le _, H0', [], [], total, ext_new x1.sub nD, upd_same, nD0, .nil, by simpa using e2, rfl, Nat.le_refl _⟩, ?_⟩
        rintro i m HH ⟨rfl, hi, H0i, acc, out, rest, x2, hD, nDi, k2, ec, et, hol⟩
        have rri := rr1.mono x2
        by_cases hlt : i < items.length
        · right
          have hg := List.getElem?_eq_getElem hlt
          have hdrop : items.drop i = items[i] :: items.drop (i + 1) := List.drop_eq_getElem_cons hlt
          rw [hdrop] at ec
          unfold compL at ec
          obtain ⟨go, yl⟩ := io.go i _ H0i HH hg rri.e1 x2.s0 x2.sub
          refine ⟨go, fun HH' => i + 1 ≤ items.length ∧ ∃ H0i acc out rest, Ext H0' H1 H0i HH' ∧ HH' Dn = some (.lst acc) ∧ H0i Dn = none ∧ Dds K H0i acc out ∧ compL b mt me (wipeR ρ vs) (items.drop (i + 1)) = some rest ∧ total = out ++ rest ∧ out.length ≤ i + 1, fun HH' hN => ⟨items.length - (i + 1), by omega, rfl, hN.1, hN.2⟩, fun x HH' hy => ?_⟩
          obtain ⟨H0y, x3, hd⟩ := yl x HH' hy
          cases eb : b items[i] (wipeR ρ vs) with
          | none => rw [eb] at ec; cases ec
          | some ρ1 =>
            rw [eb] at ec
            dsimp only at ec
            have rw1 := (rri.mono x3).wipe vs
            refine ⟨en, wipeR ρ vs, H0y, items[i], ρ1, rw1, hd, eb, fun σ2 r2 kk => ⟨wipe_keeps kk hu, ?_⟩⟩
            refine ⟨en, ρ1, H0y, r2, ?_⟩
            cases em : mt ρ1 with
            | none => rw [em] at ec; cases ec
            | some rm =>
              rw [em] at ec
              cases rm with
              | exc c q => cases ec
              | ok kb =>
                intro H0t Ht x4
                have x34 := x3.trans x4
                have x24 := x2.trans x34
                cases kb with
                | false =>
                  refine iteF ⟨hlt, H0t, acc, out, rest, x24, x34.s _ _ hD, by rw [x34.new _ _ hD]; exact nDi, k2.mono x34.s0, ec, et, by omega⟩
                | true =>
                  dsimp only at ec
                  refine iteT ⟨en, ρ1, H0t, r2.mono x4, ?_⟩
                  cases ee : me ρ1 with
                  | none => rw [ee] at ec; cases ec
                  | some re =>
                    rw [ee] at ec
                    cases re with
                    | exc c q => cases ec
                    | ok d =>
                      dsimp only at ec
                      intro y H0e He x5 hy2
                      have x35 := x34.trans x5
                      have hDe := x35.s _ _ hD
                      have nDe : H0e Dn = none := by rw [x35.new _ _ hD]; exact nDi
                      refine ⟨acc, hDe, ?_, hlt, ?_⟩
                      · rw [k2.length]; omega
                      · cases er : compL b mt me (wipeR ρ vs) (items.drop (i + 1)) with
                        | none => rw [er] at ec; cases ec
                        | some rest' =>
                          rw [er] at ec
                          cases ec
                          have x25 := x2.trans x35
                          refine ⟨H0e, acc ++ [y], out ++ [d], rest', ⟨x25.s0, fun c o e => ?_, fun c o e => ?_, x25.new⟩, upd_same, nDe, (k2.mono x35.s0).append (.cons hy2 .nil), rfl, ?_, ?_⟩
                          · rw [upd_ne (ne_of_none e nD)]; exact x25.s c o e
                          · rw [upd_ne (ne_of_none e nDe)]; exact x25.sub c o e
                          · rw [et]; simp
                          · rw [List.length_append]; simp; omega
        · left
          have hie : i = items.length := by omega
          subst hie
          refine ⟨io.stop _ H0i HH (Nat.le_refl _) rri.e1 x2.s0 x2.sub, ?_⟩
          rw [List.drop_length] at ec
          cases ec
          rw [List.append_nil] at et
          subst et
          exact p _ H0i HH (x1.trans x2) (.inr ⟨Dn, rfl, .lst nDi hD k2, x1.s.free nD⟩)
end
end DD

namespace DD
open PySem PySem.Spec PyProof.Rows L2

inductive Out where
  | next (ρ : Rho)
  | ret (d : D)
  | exc (c : Nat) (p : Option D)
section
variable (K : PySem.W.Frag) (mg : Str → Option Value) (xs : List Str) (W : WX) (nw : Bool)
def PostS (en : Ent) (H0 : Hp) (Dn : Ends) : Option Out → Prop
  | none => False
  | some (.next ρ) => ∀ σ' H0' H', R K en ρ H0' σ' H' → Same H0 H0' → Dn.nx σ' H'
  | some (.ret d) => ∀ v H0' H', Ext en.H0 en.H H0' H' → RS nw K en.H H0' H' v d → Dn.rt v H'
  | some (.exc c p) => ∀ σ' (_ : σ'.length = en.n) cls dd H0' H', Ext en.H0 en.H H0' H' → ExcIs K mg xs c p cls dd H0' H' → W cls dd σ' H'
def TauS (m : Rho → Option Out) : TS := fun Dn σ H => ∃ en ρ H0, R K en ρ H0 σ H ∧ PostS K mg xs W nw en H0 Dn (m ρ)
end
theorem postS_mono {K : PySem.W.Frag} {mg : Str → Option Value} {xs : List Str} {W : WX} {nw : Bool} {en : Ent} {H0 H0' : Hp} {Dn : Ends} {o : Option Out} (s : Same H0 H0') (p : PostS K mg xs W nw en H0 Dn o) : PostS K mg xs W nw en H0' Dn o := by
  cases o with
  | none => exact p
  | some o =>
    cases o with
    | next ρ => exact fun σ' A B r z => p σ' A B r (s.trans z)
    | ret d => exact p
    | exc c q => exact p
def JS (X : Cx) (xs : List Str) (W : WX) (nw : Bool) (st : Stmt) (m : Rho → Option Out) : Prop := PS X st (TauS X.K X.mg xs W nw m)
def JSs (X : Cx) (xs : List Str) (W : WX) (nw : Bool) (st : List Stmt) (m : Rho → Option Out) : Prop := PSs X st (TauS X.K X.mg xs W nw m)

/-- what an expression hands on to a statement -/
def thenS (m : Rho → Option Res) (k : Rho → D → Option Out) : Rho → Option Out := fun ρ => match m ρ with
  | some (.ok d) => k ρ d
  | some (.exc c p) => some (.exc c p)
  | none => none
def seqS (m n : Rho → Option Out) : Rho → Option Out := fun ρ => match m ρ with
  | some (.next ρ') => n ρ'
  | r => r
section
variable {X : Cx} {xs : List Str} {W : WX} {nw : Bool} {a b c : Expr} {sa sb : Src} {ma mb : Rho → Option Res} {pos : Pos} {st : Stmt} {sts : List Stmt} {m n : Rho → Option Out}
theorem jss_nil : JSs X xs W nw [] (fun ρ => some (.next ρ)) := by
  refine pss_of pss_nil fun Dn σ H h => ?_
  obtain ⟨en, ρ, H0, rr, p⟩ := h
  exact p σ H0 H rr (Same.refl _)
theorem jss_cons (h1 : JS X xs W nw st m) (h2 : JSs X xs W nw sts n) : JSs X xs W nw (st :: sts) (seqS m n) := by
  refine pss_of (pss_cons h1 h2) fun Dn σ H h => ?_
  obtain ⟨en, ρ, H0, rr, p⟩ := h
  refine ⟨en, ρ, H0, rr, ?_⟩
  unfold seqS at p
  cases e1 : m ρ with
  | none => rw [e1] at p; exact p.elim
  | some r1 =>
    rw [e1] at p
    cases r1 with
    | next ρ' => exact fun σ' H0' H' r' z => ⟨en, ρ', H0', r', postS_mono z p⟩
    | ret d => exact p
    | exc c q => exact p
/-- a slot's own thing is settled: nothing runs -/
def freezeS (i : Nat) : Rho → Option Out := fun ρ => match ρ[i]? with
  | some (some (.own, d)) => some (.next (ρ.set i (some (.dat, d))))
  | _ => none
theorem jss_freeze {i : Nat} (h : JSs X xs W nw sts n) : JSs X xs W nw sts (seqS (freezeS i) n) := by
  refine pss_of h fun Dn σ H h => ?_
  obtain ⟨en, ρ, H0, rr, p⟩ := h
  unfold seqS freezeS at p
  cases e : ρ[i]? with
  | none => rw [e] at p; exact p.elim
  | some s0 =>
    rw [e] at p
    cases s0 with
    | none => exact p.elim
    | some fd =>
      obtain ⟨fl, d⟩ := fd
      cases fl with
      | own =>
        obtain ⟨H0', z, r'⟩ := rr.settle e
        exact ⟨en, _, H0', r', postS_mono z p⟩
      | bor => exact p.elim
      | dat => exact p.elim
/-- from a statement that begins with an expression (no name) -/
theorem tau_then {σ : L2.St} {H : Hp} {Dn : Ends} {src : Src} {k : Rho → D → Option Out} {Q : VK} (h : TauS X.K X.mg xs W nw (thenS ma k) Dn σ H)
    (hq : ∀ en ρ H0 d v H0' H', R X.K en ρ H0 σ H → Ext H0 H H0' H' → Rz X.K src σ H H0' H' v d → ma ρ = some (.ok d) → PostS X.K X.mg xs W nw en H0 Dn (k ρ d) → Q v H') : Tau X.K X.mg xs W src ma σ H Q := by
  obtain ⟨en, ρ, H0, rr, p⟩ := h
  refine ⟨en, ρ, H0, rr, ?_⟩
  unfold thenS at p
  cases e1 : ma ρ with
  | none => rw [e1] at p; exact p.elim
  | some r1 =>
    rw [e1] at p
    cases r1 with
    | exc c q => exact fun cls dd A B x z => p σ rr.hl cls dd A B (rr.ext.trans x) z
    | ok d => exact fun v A B x z => hq en ρ H0 d v A B rr x z e1 p
theorem tauD_then {σ : L2.St} {H : Hp} {Dn : Ends} {k : Rho → D → Option Out} {Q : VK} (h : TauS X.K X.mg xs W nw (thenS ma k) Dn σ H)
    (hq : ∀ en ρ H0 d v H0' H', R X.K en ρ H0 σ H → Ext H0 H H0' H' → Dd X.K H0' v d → ma ρ = some (.ok d) → PostS X.K X.mg xs W nw en H0 Dn (k ρ d) → Q v H') : TauD X.K X.mg xs W ma σ H Q := by
  obtain ⟨en, ρ, H0, rr, p⟩ := h
  refine ⟨en, ρ, H0, rr, ?_⟩
  unfold thenS at p
  cases e1 : ma ρ with
  | none => rw [e1] at p; exact p.elim
  | some r1 =>
    rw [e1] at p
    cases r1 with
    | exc c q => exact fun cls dd A B x z => p σ rr.hl cls dd A B (rr.ext.trans x) z
    | ok d => exact fun v A B x z => hq en ρ H0 d v A B rr x z e1 p
/-! ### assignments to a name -/
def datK (i : Nat) : Rho → D → Option Out := fun ρ d => some (.next (ρ.set i (some (.dat, d))))
def ownK (i : Nat) : Rho → D → Option Out := fun ρ d => if flatRoot d = true then none else some (.next (ρ.set i (some (.own, d))))
theorem js_dat {i : Nat} {x : Str} {pos' : Pos} (hN : X.N.Nodup) (hi : X.N[i]? = some x) (hx : Loc X.env.scope x) (he : JD X xs W a ma) (hs : swapsWith a (some (.Name x pos')) pos.line X.env = pure false) (hf : X.fn x = true ∨ X.env.scope.names.lookup x = some .local) :
    JS X xs W nw (.Assign [.Name x pos'] a pos) (thenS ma (datK i)) :=
  ps_of (ps_set hN hi hx he hs hf) fun Dn σ H h => tauD_then h fun en ρ H0 d v H0' H' rr x1 z _ p => p _ _ _ ((rr.mono x1).set_dat z) x1.s0
theorem own_new {K : PySem.W.Frag} {en : Ent} {ρ : Rho} {H0 H H0' H' : Hp} {σ : L2.St} {v : V} {d : D} {i : Nat} (rr : R K en ρ H0 σ H) (x1 : Ext H0 H H0' H') (z : RS true K H H0' H' v d) (hf : ¬ flatRoot d = true) : R K en (ρ.set i (some (.own, d))) H0' (σ.set i (some v)) H' := by
  rcases z with ⟨_, z⟩ | ⟨a, rfl, m, n⟩
  · exact absurd (z rfl) hf
  · refine (rr.mono x1).set_own m (rr.e1.free n) fun j dj hj hr hs => ?_
    obtain ⟨w, h1, b, e, m', _⟩ := rr.slot j .own dj hr
    rw [hs] at h1
    cases h1
    cases e
    obtain ⟨o, ho⟩ := m'.there
    rw [n] at ho
    cases ho
theorem js_own {i : Nat} {x : Str} {pos' : Pos} (hN : X.N.Nodup) (hi : X.N[i]? = some x) (hx : Loc X.env.scope x) (he : JE X xs W a .new ma) (hs : swapsWith a (some (.Name x pos')) pos.line X.env = pure false) (hf : X.fn x = true ∨ X.env.scope.names.lookup x = some .local) :
    JS X xs W nw (.Assign [.Name x pos'] a pos) (thenS ma (ownK i)) :=
  ps_of (ps_set hN hi hx he hs hf) fun Dn σ H h => tau_then h fun en ρ H0 d v H0' H' rr x1 z _ p => by
    unfold ownK at p
    split at p
    · exact p.elim
    · rename_i hf
      exact p _ _ _ (own_new rr x1 z hf) x1.s0
section
variable {i : Nat} {y : Str} {py : Pos} {elt tg iter : Expr} {ifs : List Expr} {scope : Scope} {own : List (Str × Nat)} {cpos spos : Pos} {mi : Rho → Option ResL} {us : List Nat} {bb : D → Rho → Option Rho} {mt : Rho → Option ResB} {me : Rho → Option Res}
theorem je_comp (hc : X.calm = true) (hN : X.N.Nodup) (hi : JI X xs W tg iter mi) (ok : BlkOk X.N X.env.scope scope own) (hu : ∀ i ∈ us, i ∈ own.map (·.2))
    (hg : ∀ (s : Shared) (H : Hp) (C : Addr) (cl : List (Str × Addr)) (fp : List Addr), PG (X.blk s H scope (compEnvC scope cl C X.env) fp) tg (TauG X.K us bb)) (ht : ∀ (s : Shared) (H : Hp) (C : Addr) (cl : List (Str × Addr)) (fp : List Addr), PTs (X.blk s H scope (compEnvC scope cl C X.env) fp) ifs (TauB X.K X.mg xs W0 mt))
    (he : ∀ (s : Shared) (H : Hp) (C : Addr) (cl : List (Str × Addr)) (fp : List Addr), JD (X.blk s H scope (compEnvC scope cl C X.env) fp) xs W0 elt me) (hs : ∀ x, foldedSetIterable iter X.env x = pure x) :
    JE X xs W (.ListComp elt [⟨tg, iter, ifs, 0⟩] scope pos) .new (compV mi (own.map (·.2)) bb mt me) :=
  pe_of (pe_lc (te := TauD X.K X.mg xs W0 me) hc hN hi ok hg ht he hs) fun σ H Q h => tau_lc hu h
theorem js_datLc (hc : X.calm = true) (hN : X.N.Nodup) (hy : X.N[i]? = some y) (hyl : X.env.scope.names.lookup y = some .local)
    (hsw : swapsWith (.ListComp elt [⟨tg, iter, ifs, 0⟩] scope cpos) (some (.Name y py)) spos.line X.env = pure true) (hi : JI X xs W tg iter mi) (ok : BlkOk X.N X.env.scope scope own) (hu : ∀ i ∈ us, i ∈ own.map (·.2))
    (hg : ∀ (s : Shared) (H : Hp) (C : Addr) (cl : List (Str × Addr)) (fp : List Addr), PG (X.blk s H scope (compEnvC scope cl C X.env) fp) tg (TauG X.K us bb)) (ht : ∀ (s : Shared) (H : Hp) (C : Addr) (cl : List (Str × Addr)) (fp : List Addr), PTs (X.blk s H scope (compEnvC scope cl C X.env) fp) ifs (TauB X.K X.mg xs W0 mt))
    (he : ∀ (s : Shared) (H : Hp) (C : Addr) (cl : List (Str × Addr)) (fp : List Addr), JD (X.blk s H scope (compEnvC scope cl C X.env) fp) xs W0 elt me) (hs : ∀ x, foldedSetIterable iter X.env x = pure x) :
    JS X xs W nw (.Assign [.Name y py] (.ListComp elt [⟨tg, iter, ifs, 0⟩] scope cpos) spos) (thenS (compV mi (own.map (·.2)) bb mt me) (datK i)) :=
  ps_of (ps_setLc (te := TauD X.K X.mg xs W0 me) hc hN hy hyl hsw hi ok hg ht he hs) fun Dn σ H h => tau_lc hu (tau_then (Q := fun x H1 => gName i x σ H1 Dn.nx) (src := .new) h fun en ρ H0 d v H0' H' rr x1 z _ p => by
    obtain ⟨H02, k1, _, _, _, k5⟩ := RS.settle x1 z
    exact p _ _ _ ((rr.mono k1).set_dat k5) k1.s0)
theorem js_ownLc (hc : X.calm = true) (hN : X.N.Nodup) (hy : X.N[i]? = some y) (hyl : X.env.scope.names.lookup y = some .local)
    (hsw : swapsWith (.ListComp elt [⟨tg, iter, ifs, 0⟩] scope cpos) (some (.Name y py)) spos.line X.env = pure true) (hi : JI X xs W tg iter mi) (ok : BlkOk X.N X.env.scope scope own) (hu : ∀ i ∈ us, i ∈ own.map (·.2))
    (hg : ∀ (s : Shared) (H : Hp) (C : Addr) (cl : List (Str × Addr)) (fp : List Addr), PG (X.blk s H scope (compEnvC scope cl C X.env) fp) tg (TauG X.K us bb)) (ht : ∀ (s : Shared) (H : Hp) (C : Addr) (cl : List (Str × Addr)) (fp : List Addr), PTs (X.blk s H scope (compEnvC scope cl C X.env) fp) ifs (TauB X.K X.mg xs W0 mt))
    (he : ∀ (s : Shared) (H : Hp) (C : Addr) (cl : List (Str × Addr)) (fp : List Addr), JD (X.blk s H scope (compEnvC scope cl C X.env) fp) xs W0 elt me) (hs : ∀ x, foldedSetIterable iter X.env x = pure x) :
    JS X xs W nw (.Assign [.Name y py] (.ListComp elt [⟨tg, iter, ifs, 0⟩] scope cpos) spos) (thenS (compV mi (own.map (·.2)) bb mt me) (ownK i)) :=
  ps_of (ps_setLc (te := TauD X.K X.mg xs W0 me) hc hN hy hyl hsw hi ok hg ht he hs) fun Dn σ H h => tau_lc hu (tau_then (Q := fun x H1 => gName i x σ H1 Dn.nx) (src := .new) h fun en ρ H0 d v H0' H' rr x1 z _ p => by
    unfold ownK at p
    split at p
    · exact p.elim
    · rename_i hf
      exact p _ _ _ (own_new rr x1 z hf) x1.s0)
end
/-! ### other targets -/
def tgK (bb : D → Rho → Option Rho) : Rho → D → Option Out := fun ρ d => match bb d ρ with
  | some ρ' => some (.next ρ')
  | none => none
theorem js_tg {tg : Expr} {us : List Nat} {bb : D → Rho → Option Rho} (he : JD X xs W a ma) (hg : PG X tg (TauG X.K us bb)) (hs : swapsWithSole [tg] a pos.line X.env = pure false) (hw : swappedStores [tg] a X.env = pure none)
    (h1 : (assignEach [tg] X.env).map (·.2) = [assign tg X.env]) : JS X xs W nw (.Assign [tg] a pos) (thenS ma (tgK bb)) :=
  ps_of (ps_asg he hg hs hw h1) fun Dn σ H h => tauD_then h fun en ρ H0 d v H0' H' rr x1 z _ p => by
    unfold tgK at p
    split at p
    · rename_i ρ' e
      exact ⟨en, ρ, H0', d, ρ', rr.mono x1, z, e, fun σ' r' _ => p _ _ _ r' x1.s0⟩
    · exact p.elim
/-- name op= e -/
def augK (f : D → D → Option D) (i : Nat) : Rho → D → Option Out := fun ρ d => match ρ[i]? with
  | some (some (_, d0)) => (match f d0 d with
    | some z => if flatRoot z = true then some (.next (ρ.set i (some (.dat, z)))) else none
    | none => none)
  | _ => none
theorem js_aug {i : Nat} {x : Str} {op : Operator} {r : R2} {f : D → D → Option D} {pos' : Pos} (hN : X.N.Nodup) (hi : X.N[i]? = some x) (hx : Loc X.env.scope x) (he : JE X xs W a sa ma) (ho : OpR X (inplaceOp op) r) (hf : Op2Ok true X.K r f) (hfn : X.fn x = true ∨ X.env.scope.names.lookup x = some .local) :
    JS X xs W nw (.AugAssign (.Name x pos') op a pos) (seqS (fun ρ => match ρ[i]? with | some (some _) => some (.next ρ) | _ => none) (thenS ma (augK f i))) := by
  refine ps_of (ps_aug hN hi hx he ho hfn) fun Dn σ H h => ?_
  obtain ⟨en, ρ, H0, rr, p⟩ := h
  unfold seqS at p
  dsimp only at p
  cases e : ρ[i]? with
  | none => rw [e] at p; exact p.elim
  | some s0 =>
    rw [e] at p
    cases s0 with
    | none => exact p.elim
    | some fd =>
      obtain ⟨fl, d0⟩ := fd
      dsimp only at p
      obtain ⟨v0, h1, h2⟩ := rr.slot i fl d0 e
      have hb : RB X.K H0 H v0 d0 := by
        cases fl with
        | own => obtain ⟨q, e1, m, _⟩ := h2; exact .inr ⟨q, e1, m⟩
        | bor =>
          rcases h2 with h2 | ⟨q, e1, m, _⟩
          · exact .inl h2
          · exact .inr ⟨q, e1, m⟩
        | dat => exact .inl h2
      refine ⟨v0, h1, ⟨en, ρ, H0, rr, ?_⟩⟩
      unfold thenS at p
      cases e1 : ma ρ with
      | none => rw [e1] at p; exact p.elim
      | some r1 =>
        rw [e1] at p
        cases r1 with
        | exc c q => exact fun cls dd A B x z => p σ rr.hl cls dd A B (rr.ext.trans x) z
        | ok d =>
          intro v A B x1 z
          dsimp only at p
          unfold augK at p
          rw [e] at p
          dsimp only at p
          cases ef : f d0 d with
          | none => rw [ef] at p; exact p.elim
          | some y =>
            rw [ef] at p
            dsimp only at p
            split at p
            · rename_i hfl
              refine hf A B v0 v d0 d y _ x1.sub (hb.mono x1) z.rb ef fun v3 A3 B3 x3 z3 => ?_
              rcases z3 with ⟨z3, _⟩ | ⟨q, _, mo, _⟩
              · exact p _ _ _ (((rr.mono x1).mono x3).set_dat z3) (x1.s0.trans x3.s0)
              · cases mo <;> simp [flatRoot] at hfl
            · exact p.elim
/-! ### expressions, returns, tests -/
theorem js_expr (he : JE X xs W a sa ma) (hs : swapsWith a none pos.line X.env = pure false) : JS X xs W nw (.Expr a pos) (thenS ma (fun ρ _ => some (.next ρ))) :=
  ps_of (ps_expr he hs) fun Dn σ H h => tau_then h fun en ρ H0 d v H0' H' rr x1 z _ p => p _ _ _ (rr.mono x1) x1.s0
/-- a slot's value handed back: no list or dict that stood before the call -/
def retV (ρ : Rho) (i : Nat) (nw : Bool) : Option Out := match ρ[i]? with
  | some (some (.own, d)) => some (.ret d)
  | some (some (.dat, d)) => if nw = false ∨ flatRoot d = true then some (.ret d) else none
  | some (some (.bor, d)) => if flatRoot d = true then some (.ret d) else none
  | _ => none
theorem js_retV {i : Nat} {x : Str} {p' : Pos} (hN : X.N[i]? = some x) (hv : Vis X.env.scope x) (hd : (x == ("__debug__" : Str)) = false) (hcd : (x == ("__classdict__" : Str)) = false) : JS X xs W nw (.Return (some (.Name x p')) pos) (fun ρ => retV ρ i nw) := by
  refine ps_of (ps_ret (pe_var hN hv hd hcd)) fun Dn σ H h => ?_
  obtain ⟨en, ρ, H0, rr, p⟩ := h
  dsimp only at p
  unfold retV at p
  cases e : ρ[i]? with
  | none => rw [e] at p; exact p.elim
  | some s0 =>
    rw [e] at p
    cases s0 with
    | none => exact p.elim
    | some fd =>
      obtain ⟨fl, d⟩ := fd
      obtain ⟨v, h1, h2⟩ := rr.slot i fl d e
      refine ⟨v, h1, ?_⟩
      cases fl with
      | own =>
        obtain ⟨q, e1, mo, n⟩ := h2
        exact p _ _ _ rr.ext (.inr ⟨q, e1, mo, n⟩)
      | dat =>
        dsimp only at p
        split at p
        · rename_i hc
          refine p _ _ _ rr.ext (.inl ⟨h2, fun z => ?_⟩)
          rcases hc with hc | hc
          · rw [hc] at z; cases z
          · exact hc
        · exact p.elim
      | bor =>
        dsimp only at p
        split at p
        · rename_i hc
          rcases h2 with h2 | ⟨q, e1, mo, _⟩
          · exact p _ _ _ rr.ext (.inl ⟨h2, fun _ => hc⟩)
          · cases mo <;> simp [flatRoot] at hc
        · exact p.elim
theorem js_ret (he : JE X xs W a (Src.nw nw) ma) : JS X xs W nw (.Return (some a) pos) (thenS ma (fun _ d => some (.ret d))) :=
  ps_of (ps_ret he) fun Dn σ H h => tau_then h fun en ρ H0 d v H0' H' rr x1 z _ p => by
    refine p _ _ _ (rr.ext.trans x1) ?_
    have z' : RS nw X.K H H0' H' v d := by
      cases nw with
      | true => exact z
      | false => exact z
    rcases z' with z' | ⟨q, e, mo, n⟩
    · exact .inl z'
    · exact .inr ⟨q, e, mo, rr.e1.free n⟩
theorem js_retN : JS X xs W nw (.Return none pos) (fun _ => some (.ret .none)) := by
  refine ps_of ps_retN fun Dn σ H h => ?_
  obtain ⟨en, ρ, H0, rr, p⟩ := h
  exact p _ _ _ rr.ext (.inl ⟨.non, fun _ => rfl⟩)
theorem js_pass : JS X xs W nw (.Pass pos) (fun ρ => some (.next ρ)) := by
  refine ps_of ps_pass fun Dn σ H h => ?_
  obtain ⟨en, ρ, H0, rr, p⟩ := h
  exact p _ _ _ rr (Same.refl _)
def ifS (mc : Rho → Option ResB) (m n : Rho → Option Out) : Rho → Option Out := fun ρ => match mc ρ with
  | some (.ok true) => m ρ
  | some (.ok false) => n ρ
  | some (.exc c p) => some (.exc c p)
  | none => none
theorem js_if {ys zs : List Stmt} {mc : Rho → Option ResB} (hc : JT X xs W c mc) (ha : JSs X xs W nw ys m) (hb : JSs X xs W nw zs n) : JS X xs W nw (.If c ys zs pos) (ifS mc m n) := by
  refine ps_of (ps_if hc ha hb) fun Dn σ H h => ?_
  obtain ⟨en, ρ, H0, rr, p⟩ := h
  refine ⟨en, ρ, H0, rr, ?_⟩
  unfold ifS at p
  cases e1 : mc ρ with
  | none => rw [e1] at p; exact p.elim
  | some r1 =>
    rw [e1] at p
    cases r1 with
    | exc c q => exact fun cls dd A B x z => p σ rr.hl cls dd A B (rr.ext.trans x) z
    | ok k =>
      intro H0' H' x1
      cases k with
      | true => exact iteT ⟨en, ρ, H0', rr.mono x1, postS_mono x1.s0 p⟩
      | false => exact iteF ⟨en, ρ, H0', rr.mono x1, postS_mono x1.s0 p⟩
/-! ### loops -/
def forL (bb : D → Rho → Option Rho) (body : Rho → Option Out) : List D → Rho → Option Out
  | [], ρ => some (.next ρ)
  | x :: r, ρ => (match bb x ρ with
    | some ρ1 => (match body ρ1 with
      | some (.next ρ2) => forL bb body r ρ2
      | o => o)
    | none => none)
def forS (mi : Rho → Option ResL) (bb : D → Rho → Option Rho) (body : Rho → Option Out) : Rho → Option Out := fun ρ => match mi ρ with
  | some (.ok items) => forL bb body items ρ
  | some (.exc c p) => some (.exc c p)
  | none => none
theorem js_for {tg iter : Expr} {body : List Stmt} {mi : Rho → Option ResL} {us : List Nat} {bb : D → Rho → Option Rho} (hp : PassesOwn (model X.prog X.w) X.A X.env X.xe) (hc : X.calm = true) (hi : JI X xs W tg iter mi) (hg : PG X tg (TauG X.K us bb)) (hb : JSs X xs W nw body m)
    (hs : ∀ x, foldedSetIterable iter X.env x = pure x) : JS X xs W nw (.For tg iter body [] pos) (forS mi bb m) := by
  refine ps_of (ps_for hp hc hi hg hb hs) fun Dn σ H h => ?_
  obtain ⟨en, ρ, H0, rr, p⟩ := h
  refine ⟨en, ρ, H0, rr, ?_⟩
  unfold forS at p
  cases e1 : mi ρ with
  | none => rw [e1] at p; exact p.elim
  | some r1 =>
    rw [e1] at p
    cases r1 with
    | exc c q => exact fun cls dd A B x z => p σ rr.hl cls dd A B (rr.ext.trans x) z
    | ok items =>
      intro J H0' H1 x1 io hz
      dsimp only at p
      refine ⟨fun i k σ' HH => k = items.length - i ∧ i ≤ items.length ∧ ∃ ρ' H0i, R X.K en ρ' H0i σ' HH ∧ Same H0' H0i ∧ PostS X.K X.mg xs W nw en H0i Dn (forL bb m (items.drop i) ρ'),
        ⟨items.length, by simp, Nat.zero_le _, ρ, H0', rr.mono x1, Same.refl _, postS_mono x1.s0 (by simpa using p)⟩, ?_⟩
      rintro i k σ' HH ⟨rfl, hi, ρ', H0i, ri, si, pi⟩
      by_cases hlt : i < items.length
      · right
        have hdrop : items.drop i = items[i] :: items.drop (i + 1) := List.drop_eq_getElem_cons hlt
        rw [hdrop] at pi
        unfold forL at pi
        obtain ⟨go, yl⟩ := io.go i _ H0i HH (List.getElem?_eq_getElem hlt) ri.e1 si ri.sub
        refine ⟨go, fun σ2 H2 => ∃ ρ' H0i, R X.K en ρ' H0i σ2 H2 ∧ Same H0' H0i ∧ PostS X.K X.mg xs W nw en H0i Dn (forL bb m (items.drop (i + 1)) ρ'), fun σ2 H2 hN => ⟨items.length - (i + 1), by omega, rfl, hlt, hN⟩, fun x HH' hy => ?_⟩
        obtain ⟨H0y, x3, hd⟩ := yl x HH' hy
        cases eb : bb items[i] ρ' with
        | none => rw [eb] at pi; exact pi.elim
        | some ρ1 =>
          rw [eb] at pi
          dsimp only at pi
          refine ⟨en, ρ', H0y, items[i], ρ1, ri.mono x3, hd, eb, fun σ2 r2 _ => ⟨en, ρ1, H0y, r2, ?_⟩⟩
          cases em : m ρ1 with
          | none => rw [em] at pi; exact pi.elim
          | some o =>
            rw [em] at pi
            cases o with
            | next ρ2 =>
              intro σ3 H03 H3 r3 z3
              exact ⟨ρ2, H03, r3, si.trans (x3.s0.trans z3), postS_mono (x3.s0.trans z3) pi⟩
            | ret d => exact pi
            | exc c q => exact pi
      · left
        have hie : i = items.length := by omega
        subst hie
        refine ⟨io.stop _ H0i HH (Nat.le_refl _) ri.e1 si ri.sub, ?_⟩
        rw [List.drop_length] at pi
        exact pi _ _ _ ri (Same.refl _)
/-- at most so many turns -/
def whlL (mc : Rho → Option ResB) (body : Rho → Option Out) : Nat → Rho → Option Out
  | 0, _ => none
  | n + 1, ρ => (match mc ρ with
    | some (.ok true) => (match body ρ with
      | some (.next ρ2) => whlL mc body n ρ2
      | o => o)
    | some (.ok false) => some (.next ρ)
    | some (.exc c p) => some (.exc c p)
    | none => none)
theorem js_while {body : List Stmt} {mc : Rho → Option ResB} {fuel : Nat} (hp : PassesOwn (model X.prog X.w) X.A X.env X.xe) (hc : JT X xs W c mc) (hb : JSs X xs W nw body m) : JS X xs W nw (.While c body [] pos) (whlL mc m fuel) := by
  refine ps_of (ps_while hp hc hb) fun Dn σ H h => ?_
  obtain ⟨en, ρ, H0, rr, p⟩ := h
  refine ⟨fun k σ' HH => ∃ ρ' H0i, R X.K en ρ' H0i σ' HH ∧ PostS X.K X.mg xs W nw en H0i Dn (whlL mc m k ρ'), ⟨fuel, ρ, H0, rr, p⟩, ?_⟩
  rintro k σ' HH ⟨ρ', H0i, ri, pi⟩
  refine ⟨en, ρ', H0i, ri, ?_⟩
  cases k with
  | zero => exact pi.elim
  | succ k =>
    unfold whlL at pi
    cases e1 : mc ρ' with
    | none => rw [e1] at pi; exact pi.elim
    | some r1 =>
      rw [e1] at pi
      cases r1 with
      | exc c q => exact fun cls dd A B x z => pi σ' ri.hl cls dd A B (ri.ext.trans x) z
      | ok b =>
        intro A B x1
        cases b with
        | false => exact iteF (pi _ _ _ (ri.mono x1) x1.s0)
        | true =>
          dsimp only at pi
          refine iteT ⟨fun σ2 H2 => ∃ ρ' H0i, R X.K en ρ' H0i σ2 H2 ∧ PostS X.K X.mg xs W nw en H0i Dn (whlL mc m k ρ'), fun σ2 H2 hN => ⟨k, Nat.lt_succ_self _, hN⟩, ⟨en, ρ', A, ri.mono x1, ?_⟩⟩
          cases em : m ρ' with
          | none => rw [em] at pi; exact pi.elim
          | some o =>
            rw [em] at pi
            cases o with
            | next ρ2 => exact fun σ3 H03 H3 r3 z3 => ⟨ρ2, H03, r3, postS_mono (x1.s0.trans z3) pi⟩
            | ret d => exact pi
            | exc c q => exact pi
/-! ### lists of a slot: append, extend, pop, x[i] = e, x[i] op= e -/
def appK (i : Nat) : Rho → D → Option Out := fun ρ d => match ρ[i]? with
  | some (some (.own, .list ds)) => if ds.length < 16777216 then some (.next (ρ.set i (some (.own, .list (ds ++ [d]))))) else none
  | _ => none
/-- an own list's place -/
theorem own_list {K : PySem.W.Frag} {en : Ent} {ρ : Rho} {H0 H : Hp} {σ : L2.St} {i : Nat} {ds : List D} (rr : R K en ρ H0 σ H) (e : ρ[i]? = some (some (.own, .list ds))) : ∃ q ys, σ[i]? = some (some (.ref q)) ∧ H q = some (.lst ys) ∧ H0 q = none ∧ Dds K H0 ys ds := by
  obtain ⟨v, h1, q, e1, mo, _⟩ := rr.slot i .own _ e
  subst e1
  cases mo with
  | lst k1 k2 k3 => exact ⟨q, _, h1, k2, k1, k3⟩
theorem js_app {i : Nat} {x : Str} {p1 apos : Pos} (hN : X.N[i]? = some x) (hv : Vis X.env.scope x) (hd : (x == ("__debug__" : Str)) = false) (hcd : (x == ("__classdict__" : Str)) = false) (he : JD X xs W a ma)
    (hbase : attributeBase (.Name x p1) "append" X.env (eval (.Name x p1) X.env) = eval (.Name x p1) X.env) (hs1 : starEach [a] X.env = (false, eval a X.env) :: starEach [] X.env)
    (hline : (apos.endLine == pos.line) = true) {spos : Pos} :
    JS X xs W nw (.Expr (.Call (.Attribute (.Name x p1) "append" apos) [a] [] pos) spos) (seqS (fun ρ => match ρ[i]? with | some (some (.own, .list _)) => some (.next ρ) | _ => none) (thenS ma (appK i))) := by
  have hfew : ((backTo pos (starEach [a] X.env)).all (fun x => !x.1) && (backToKw pos (keywordEach [] X.env)).all (fun x => x.1.isSome)
      && decide ([a].length + ([] : List Keyword).length + (if ([] : List Keyword).isEmpty then 0 else 1) < 30)) = true := by
    rw [hs1]; rfl
  refine ps_of (ps_expr (pe_bm PySem.F.plainAttrs_list PySem.F.slot_list_append PySem.F.type_list_append mt_append (pe_var hN hv hd hcd) (pa_cons he pa_nil hs1) hbase hfew hline hs1 rfl) rfl) fun Dn σ H h => ?_
  obtain ⟨en, ρ, H0, rr, p⟩ := h
  unfold seqS at p
  dsimp only at p
  have hk : ∃ ds, ρ[i]? = some (some (.own, .list ds)) := by
    cases e : ρ[i]? with
    | none => rw [e] at p; exact p.elim
    | some s0 =>
      cases s0 with
      | none => rw [e] at p; exact p.elim
      | some fd =>
        obtain ⟨fl, d⟩ := fd
        rw [e] at p
        cases fl <;> cases d <;> first | exact ⟨_, rfl⟩ | exact p.elim
  obtain ⟨ds, e⟩ := hk
  rw [e] at p
  dsimp only at p
  obtain ⟨q, ys, h1, h2, h3, h4⟩ := own_list rr e
  refine ⟨.ref q, h1, .inl ⟨rfl, _, .inl (.inl h2)⟩, ⟨en, ρ, H0, rr, ?_⟩⟩
  unfold thenS at p
  cases e1 : ma ρ with
  | none => rw [e1] at p; exact p.elim
  | some r1 =>
    rw [e1] at p
    cases r1 with
    | exc c q => exact fun cls dd A B x z => p σ rr.hl cls dd A B (rr.ext.trans x) z
    | ok d =>
      intro v A B x1 z
      dsimp only at p
      unfold appK at p
      rw [e] at p
      dsimp only at p
      split at p
      · rename_i hz
        refine ⟨q, ys, v, rfl, rfl, x1.s _ _ h2, by rw [h4.length, sizeLine_eq]; exact hz, ?_⟩
        have r1 := rr.mono x1
        have nq : A q = none := by rw [x1.new _ _ h2]; exact h3
        exact p _ _ _ (r1.write e h1 (.lst nq (x1.s _ _ h2) (h4.mono x1.s0)) (.lst nq upd_same ((h4.mono x1.s0).append (.cons z .nil)))) x1.s0
      · exact p.elim
/-! x[i] = e, x[i] op= e -/
def putL (k : Int) (d : D) : D → Option D
  | .list ds => (match ixN ds.length k with
    | some j => some (.list (ds.set j d))
    | none => none)
  | _ => none
def putS (i : Nat) (mi me : Rho → Option Res) : Rho → Option Out := fun ρ => match ρ[i]? with
  | some (some (.own, .list ds)) => (match me ρ with
    | some (.ok d) => (match mi ρ with
      | some (.ok (.int k)) => (match ixN ds.length k with
        | some j => some (.next (ρ.set i (some (.own, .list (ds.set j d)))))
        | none => none)
      | some (.exc c p) => some (.exc c p)
      | _ => none)
    | some (.exc c p) => some (.exc c p)
    | none => none)
  | _ => none
theorem js_put {i : Nat} {x : Str} {p1 tpos : Pos} {ix : Expr} {si : Src} {mi me : Rho → Option Res} (hN : X.N[i]? = some x) (hv : Vis X.env.scope x) (hd : (x == ("__debug__" : Str)) = false) (hcd : (x == ("__classdict__" : Str)) = false) (he : JD X xs W a me) (hi : JE X xs W ix si mi)
    (ha : ∀ v, assign (.Subscript (.Name x p1) ix tpos) X.env v = (do
      let ov ← holding [v] (eval (.Name x p1) X.env)
      let iv ← holding [v, ov] (eval ix X.env)
      standAt tpos
      holding [v, ov, iv] (setItem ov iv v)
      release [v, ov, iv] [])) (hs : swapsWithSole [.Subscript (.Name x p1) ix tpos] a pos.line X.env = pure false) (hw : swappedStores [.Subscript (.Name x p1) ix tpos] a X.env = pure none)
    (h1 : (assignEach [.Subscript (.Name x p1) ix tpos] X.env).map (·.2) = [assign (.Subscript (.Name x p1) ix tpos) X.env]) :
    JS X xs W nw (.Assign [.Subscript (.Name x p1) ix tpos] a pos) (putS i mi me) := by
  refine ps_of (ps_asg he (pg_sub (pe_var hN hv hd hcd) hi set_list ha) hs hw h1) fun Dn σ H h => ?_
  obtain ⟨en, ρ, H0, rr, p⟩ := h
  refine ⟨en, ρ, H0, rr, ?_⟩
  unfold putS at p
  split at p
  · rename_i ds e
    obtain ⟨q, ys, s1, h2, h3, h4⟩ := own_list rr e
    cases e1 : me ρ with
    | none => rw [e1] at p; exact p.elim
    | some r1 =>
      rw [e1] at p
      cases r1 with
      | exc c q => exact fun cls dd A B x z => p σ rr.hl cls dd A B (rr.ext.trans x) z
      | ok d =>
        intro v A B x1 z1
        dsimp only at p
        refine ⟨.ref q, s1, en, ρ, A, rr.mono x1, ?_⟩
        cases e2 : mi ρ with
        | none => rw [e2] at p; exact p.elim
        | some r2 =>
          rw [e2] at p
          cases r2 with
          | exc c q => exact fun cls dd A2 B2 x2 z2 => p σ rr.hl cls dd A2 B2 (rr.ext.trans (x1.trans x2)) z2
          | ok dk =>
            intro vk A2 B2 x2 z2
            have x12 := x1.trans x2
            cases dk with
            | int k =>
              dsimp only at p
              cases z2.rb.int
              split at p
              · rename_i j ej
                refine ⟨q, ys, k, j, rfl, rfl, x12.s _ _ h2, by rw [h4.length]; exact ej, ?_⟩
                have nq : A2 q = none := by rw [x12.new _ _ h2]; exact h3
                exact p _ _ _ ((rr.mono x12).write e s1 (.lst nq (x12.s _ _ h2) (h4.mono x12.s0)) (.lst nq upd_same (Dds.set (z1.mono x2.s0) j (h4.mono x12.s0)))) x12.s0
              · exact p.elim
            | _ => exact p.elim
  · exact p.elim
theorem get_list : PGet X (rIxL X.K) := by
  intro pins s σ H o i ov iv Q I ro ri h
  obtain ⟨p, ys, k, z, rfl, rfl, hq, he, q⟩ := h
  cases ro
  obtain ⟨t, rfl⟩ := ri
  obtain ⟨its, r, pl, hz⟩ := I.list hq
  obtain ⟨j, h1, h2, h3, h4, h5⟩ := atI_get he
  obtain ⟨w, ew, rw'⟩ := r.get h2
  have hl := r.length
  have hn := line63
  have fin : EP X pins σ Q w s := ⟨z, H, I, rw', q⟩
  by_cases h0 : 0 ≤ k
  · have hj : k.toNat = j := by
      rw [seqIndex_of h0 h5] at h1
      exact Option.some.inj h1
    exact wpAny_getItem_list pl.isList h0 (by omega) (by rw [hj]; simpa using ew) fin
  · have hj : (k + (its.toArray.size : Int)).toNat = j := by
      rw [seqIndex_neg (by omega) h4] at h1
      rw [List.size_toArray, ← hl]
      exact Option.some.inj h1
    exact wpAny_getItem_list_neg pl.isList (by omega) (by rw [List.size_toArray] <;> omega) (by omega) (by rw [hj]; simpa using ew) fin
def augPS (i : Nat) (mi me : Rho → Option Res) (f : D → D → Option D) : Rho → Option Out := fun ρ => match ρ[i]? with
  | some (some (.own, .list ds)) => (match mi ρ with
    | some (.ok (.int k)) => (match atI ds k with
      | some d0 => (match me ρ with
        | some (.ok d) => (match f d0 d with
          | some z => (match ixN ds.length k with
            | some j => if flatRoot z = true then some (.next (ρ.set i (some (.own, .list (ds.set j z))))) else none
            | none => none)
          | none => none)
        | some (.exc c p) => some (.exc c p)
        | none => none)
      | none => none)
    | some (.exc c p) => some (.exc c p)
    | _ => none)
  | _ => none
theorem js_augp {i : Nat} {x : Str} {p1 tpos : Pos} {ix : Expr} {si se : Src} {mi me : Rho → Option Res} {op : Operator} {r : R2} {f : D → D → Option D} (hN : X.N[i]? = some x) (hv : Vis X.env.scope x) (hd : (x == ("__debug__" : Str)) = false) (hcd : (x == ("__classdict__" : Str)) = false) (he : JE X xs W a se me) (hi : JE X xs W ix si mi)
    (ho : OpR X (inplaceOp op) r) (hf : Op2Ok true X.K r f) (ha : ∀ ov iv new, augStore ix ov iv new = (do holding [new, ov, iv] (setItem ov iv new); release [new, ov, iv] []; pure .next)) :
    JS X xs W nw (.AugAssign (.Subscript (.Name x p1) ix tpos) op a pos) (augPS i mi me f) := by
  refine ps_of (ps_augS (pe_var hN hv hd hcd) hi get_list he ho set_list ha) fun Dn σ H h => ?_
  obtain ⟨en, ρ, H0, rr, p⟩ := h
  unfold augPS at p
  split at p
  · rename_i ds e
    obtain ⟨q, ys, s1, h2, h3, h4⟩ := own_list rr e
    refine ⟨.ref q, s1, en, ρ, H0, rr, ?_⟩
    cases e1 : mi ρ with
    | none => rw [e1] at p; exact p.elim
    | some r1 =>
      rw [e1] at p
      cases r1 with
      | exc c q => exact fun cls dd A B x z => p σ rr.hl cls dd A B (rr.ext.trans x) z
      | ok dk =>
        intro vk A B x1 z1
        cases dk with
        | int k =>
          dsimp only at p
          cases z1.rb.int
          cases ea : atI ds k with
          | none => rw [ea] at p; exact p.elim
          | some d0 =>
            rw [ea] at p
            dsimp only at p
            obtain ⟨v0, ev, hv0⟩ := atI_dd h4 ea
            refine ⟨q, ys, k, v0, rfl, rfl, SqL.of (x1.s _ _ h2), ev, en, ρ, A, rr.mono x1, ?_⟩
            cases e2 : me ρ with
            | none => rw [e2] at p; exact p.elim
            | some r2 =>
              rw [e2] at p
              cases r2 with
              | exc c q => exact fun cls dd A2 B2 x2 z2 => p σ rr.hl cls dd A2 B2 (rr.ext.trans (x1.trans x2)) z2
              | ok d =>
                intro v2 A2 B2 x2 z2
                have x12 := x1.trans x2
                dsimp only at p
                cases ef : f d0 d with
                | none => rw [ef] at p; exact p.elim
                | some y =>
                  rw [ef] at p
                  dsimp only at p
                  split at p
                  · rename_i j ej
                    split at p
                    · rename_i hfl
                      refine hf A2 B2 v0 v2 d0 d y _ x2.sub (.inl (hv0.mono x12.s0)) z2.rb ef fun v3 A3 B3 x3 z3 => ?_
                      have x13 := x12.trans x3
                      rcases z3 with ⟨z3, _⟩ | ⟨q', _, mo, _⟩
                      · refine ⟨q, ys, k, j, rfl, rfl, x13.s _ _ h2, by rw [h4.length]; exact ej, ?_⟩
                        have nq : A3 q = none := by rw [x13.new _ _ h2]; exact h3
                        exact p _ _ _ ((rr.mono x13).write e s1 (.lst nq (x13.s _ _ h2) (h4.mono x13.s0)) (.lst nq upd_same (Dds.set z3 j (h4.mono x13.s0)))) x13.s0
                      · cases mo <;> simp [flatRoot] at hfl
                    · exact p.elim
                  · exact p.elim
        | _ => exact p.elim
  · exact p.elim
end
end DD

namespace DD
open PySem PySem.Spec PyProof.Rows L2

/-! ### try with several clauses that name the error -/
def wManyAs (K : PySem.W.Frag) (Wout : WX) (D : Ends) : List (Value × Nat × (Addr → Value → Option Addr → TS)) → WX
  | [] => Wout
  | (c, i, ts) :: r => fun cls d σ H => ∃ b, PySem.W.exmOne K cls c = some b ∧ (b = true → ∀ a, H a = none → ts a cls d { nx := fun σ' H' => D.nx (σ'.set i none) H', rt := D.rt, bk := fun σ' H' => D.bk (σ'.set i none) H', ct := fun σ' H' => D.ct (σ'.set i none) H' } (σ.set i (some (.ref a))) H) ∧
    (b = false → wManyAs K Wout D r cls d σ H)
inductive HdsAs (X : Cx) : List ExceptHandler → List (Value × Nat × (Addr → Value → Option Addr → TS)) → Prop
  | nil : HdsAs X [] []
  | cons {x n : Str} {c : Value} {i : Nat} {ts : Addr → Value → Option Addr → TS} {b₀ : Stmt} {suite : List Stmt} {np pos' : Pos} {hds : List ExceptHandler} {l : List (Value × Nat × (Addr → Value → Option Addr → TS))} (hc : Names X x c) (hi : X.N[i]? = some n) (hln : X.env.kindOf n = some .local)
      (hsu : ∀ (a : Addr) (oe : Obj) (cls : Value) (d : Option Addr) (pn : List (Addr × Obj)), Zc cls d oe → (∃ vs, oe.data = .fields vs) → PSs (X.suite a ((a, oe) :: pn)) (b₀ :: suite) (ts a cls d)) (r : HdsAs X hds l) :
      HdsAs X (.ExceptHandler (some (.Name x np)) (some n) (b₀ :: suite) pos' :: hds) ((c, i, ts) :: l)
section
variable {X : Cx} {body : List Stmt} {h₀ : ExceptHandler} {hds : List ExceptHandler} {l : List (Value × Nat × (Addr → Value → Option Addr → TS))} {pos : Pos} {tb : WX → TS} {Wout : WX}
theorem ps_try_manyAs (hs : X.stack = X.env :: X.outer) (hf : X.env.frame = some X.env.locals) (hN : X.N.Nodup) (tk : Takes X Wout)
    (hb : ∀ (W : WX) (pn : List (Addr × Obj)) (xe : Value → Shared → Prop), Takes (X.tr pn xe) W → PassesOwn (model X.prog X.w) X.A X.env xe → PSs (X.tr pn xe) body (tb W))
    (hh : HdsAs X (h₀ :: hds) l) : PS X (.Try body (h₀ :: hds) [] [] pos) (fun D σ H => tb (wManyAs X.K Wout D l) D σ H) := by
  refine ⟨fun pins s σ H D I h => ?_⟩
  have ok := I.ok
  have hfr : X.A.frames = some (X.env :: X.outer) := by rw [ok.frames, hs]
  refine wpAny_Try_except ?_
  refine wpAny_mono ((hb (wManyAs X.K Wout D l) (X.pn ++ pins) (fun e s₁ => wpAny (model X.prog X.w) X.A (noteFrame e X.env) (fun _ s₂ => wpAny (model X.prog X.w) X.A (setFlight e none) (fun _ s₃ =>
    wpAny (model X.prog X.w) X.A (handleBy e X.env (h₀ :: hds)) (SP X pins D) X.xe s₃) X.xe s₂) X.xe s₁) (fun u s' xx => ?_) PassesOwn.looking).run [] s σ H D (I.toTry _) h) (fun f s1 hsp => ?_) (fun e s1 he => he)
  · -- the catch
    obtain ⟨a, B, sI, pins', σ', H', cls, d, rfl, J', nb, up, sky, na, os, ag, w⟩ := xx
    have J : Inv X pins σ' H' sI := J'.ofTry ok
    have sky' : Sky B (X.env :: X.outer) a (Zc cls d) X.env.locals s'.heap := by rw [← hs]; exact sky
    show wpAny (model X.prog X.w) X.A (noteFrame (.ref a) X.env) _ _ _
    refine Sky.land Zc.steady hfr hf sky' fun h3 fl3 up3 => ?_
    have J3 : Inv X pins σ' H' { s' with heap := h3 } := J.landed nb fl3.1 (up.trans up3) os ag
    obtain ⟨oe3, vs3, he3, hz3, hd3⟩ := fl3.there
    have notFr : ∀ {h : Heap} {o : Obj} {vs : Array Value}, h.FunFrames B (X.env :: X.outer) → h.get? a = some o → o.data = .fields vs → a ∉ frs (X.env :: X.outer) := fun {h o vs} ff e dd hm => by
      obtain ⟨_, o', e', hnf⟩ := ff.mem hm
      rw [e] at e'; cases e'
      exact hnf _ dd
    have nfr := notFr fl3.2.2.1 he3 hd3
    have nL : a ≠ X.env.locals := fun z => nfr (List.mem_filterMap.mpr ⟨X.env, List.mem_cons_self, by rw [hf, z]⟩)
    have nF : a ∉ X.fs := fun hm => by
      obtain ⟨e, he, q⟩ := List.mem_filterMap.mp hm
      exact nfr (List.mem_filterMap.mpr ⟨e, List.mem_cons_of_mem _ he, q⟩)
    have S3 := J3.suite he3 hd3 na nL nF
    have go : ∀ {hds' : List ExceptHandler} {l' : List (Value × Nat × (Addr → Value → Option Addr → TS))}, HdsAs X hds' l' → wManyAs X.K Wout D l' cls d σ' H' →
        wpAny (model X.prog X.w) X.A (handleBy (.ref a) X.env hds') (SP X pins D) X.xe { s' with heap := h3 } := by
      intro hds' l' hk
      induction hk with
      | nil =>
        intro w
        refine wpAny_handleBy_nil ?_
        obtain ⟨k1, k2, k3, oe, vs, T, oT, ts', he, hz, hd, h1, hr⟩ := id fl3
        unfold PySem.passOn
        refine wpAny_bind (wpAny_field he hd h1 ?_)
        rw [if_neg (show ¬ ((Value.ref T == Value.none) = true) from by simp)]
        have fin : wpAny (model X.prog X.w) X.A (setFlight (.ref a) X.env.frame) (fun _ s4 => wpAny (model X.prog X.w) X.A (throw (.ref a) : Sem Flow) (SP X pins D) X.xe s4) X.xe { s' with heap := h3 } := by
          rw [hf]
          refine HandSPX.setFlight_upZ fl3 fun h4 hh4 up4 => wpAny_throw (tk _ _ ?_)
          exact ⟨a, B, sI, pins, σ', H', cls, d, rfl, J, nb, (up.trans up3).trans up4, .inr (.inr (by rw [hs]; exact hh4)), na, os, ag, w⟩
        first
          | exact wpAny_bind (wpAny_pure (wpAny_bind fin))
          | exact wpAny_bind fin
      | @cons x n c i ts b₀ suite np pos' hds2 l2 hc hi hln hsu r ih =>
        intro w
        have hloc : L2.Loc X.env.scope n := .inl hln
        obtain ⟨b, hb1, hyes, hno⟩ := w
        refine wpAny_handleBy_cons (codeAny_handlers_test ?_) (by intro q; cases q)
        have LT : PySem.W.Looks (model X.prog X.w) h3 (typeOf (.ref a)) cls := fun A Q E s k q => wpAny_typeOf_ref (k _ _ he3) (by rw [hz3.1]; exact q)
        have LM := PySem.W.exm_one (M := model X.prog X.w) (J3.kIn) LT hb1
        have test : ∀ {Q : Value → Shared → Prop} {E : Value → Shared → Prop}, Q c { s' with heap := h3 } → wpAny (model X.prog X.w) (X.A.mark (some (.ref a))) (eval (.Name x np) X.env) Q E { s' with heap := h3 } := fun {Q E} q => by
          obtain ⟨hg, hdbg, hm | ⟨hm, hv, hnn⟩⟩ := hc
          · exact ld_glob (X := X.suite a ((a, oe3) :: (X.pn ++ pins))) S3 hg hm q hdbg
          · exact ld_blt (X := X.suite a ((a, oe3) :: (X.pn ++ pins))) S3 hg hm hv q hnn hdbg
        refine test (LM.here ?_)
        cases b with
        | true =>
          refine codeAny_handlers_suite_as ?_
          refine HandSPX.lands_againZ fl3 fun h4 fl4 up4 => ?_
          have J4 : Inv X pins σ' H' { s' with heap := h4 } := J.landed nb fl4.1 ((up.trans up3).trans up4) os ag
          obtain ⟨oe4, vs4, he4, hz4, hd4⟩ := fl4.there
          have S4 := J4.suite he4 hd4 na nL nF
          refine store_ok (X := X.suite a ((a, oe4) :: (X.pn ++ pins))) (v := .ref a) S4 hN hi hloc rfl (fun s5 S5 => ?_) (.inr hln)
          refine wpAny_mono ((hsu a oe4 cls d (X.pn ++ pins) hz4 ⟨_, hd4⟩).run [] s5 _ H' _ S5 (hyes rfl a na)) (fun f s6 hsp => ?_) (fun _ _ z => False.elim z)
          have end_ : ∀ {σ6 : L2.St} {H6 : Hp} {Q : Shared → Prop}, Inv (X.suite a ((a, oe4) :: (X.pn ++ pins))) [] σ6 H6 s6 → (∀ s7, Inv X pins (σ6.set i none) H6 s7 → Q s7) →
              wpAny (model X.prog X.w) X.A (do bindName X.env n .none; unbindBehindTheSuite X.env n pos') (fun _ s7 => Q s7) X.xe s6 := fun {σ6 H6 Q} S6 hq => gone_ok (S6.unsuite ok) hN hi hln hq
          cases f with
          | next =>
            obtain ⟨σ6, H6, S6, q6⟩ := hsp
            exact end_ S6 fun s7 J7 => ⟨_, _, J7, q6⟩
          | brk =>
            obtain ⟨σ6, H6, S6, q6⟩ := hsp
            exact end_ S6 fun s7 J7 => ⟨_, _, J7, q6⟩
          | cont =>
            obtain ⟨σ6, H6, S6, q6⟩ := hsp
            exact end_ S6 fun s7 J7 => ⟨_, _, J7, q6⟩
          | ret u =>
            obtain ⟨v6, σ6, H6, S6, r6, q6⟩ := hsp
            exact end_ S6 fun s7 J7 => ⟨_, _, _, J7, r6, q6⟩
        | false =>
          show wpAny _ X.A (handleBy (.ref a) X.env hds2) _ _ _
          exact ih (hno rfl)
    exact go hh w
  · cases f with
    | next =>
      obtain ⟨σ', H', J', q⟩ := hsp
      exact wpAny_execs_nil ⟨σ', H', J'.ofTry ok, q⟩
    | brk =>
      obtain ⟨σ', H', J', q⟩ := hsp
      exact ⟨σ', H', J'.ofTry ok, q⟩
    | cont =>
      obtain ⟨σ', H', J', q⟩ := hsp
      exact ⟨σ', H', J'.ofTry ok, q⟩
    | ret u =>
      obtain ⟨v, σ', H', J', r, q⟩ := hsp
      exact ⟨v, σ', H', J'.ofTry ok, r, q⟩
end

/-! ### what an except suite reckons: texts by the error's class -/
inductive HE where
  | str (x : Str)
  | isx (c : Nat)
  | var (j : Nat)
  | not (h : HE)
  | and (a b : HE)
  | or3 (a b c : HE)
  | ifE (c a b : HE)
/-- statements of a suite: name = e, then return e -/
inductive HS where
  | ret (h : HE)
  | set (j : Nat) (h : HE) (r : HS)
/-- is the class c one of the class d -/
abbrev Sub := Nat → Nat → Bool
def hv (sub : Sub) (c : Nat) (env : Nat → Option V) : HE → Option V
  | .str x => some (.str x)
  | .isx d => some (.bl (sub c d))
  | .var j => env j
  | .not h => (match hv sub c env h with
    | some (.bl b) => some (.bl (!b))
    | _ => none)
  | .and a b => (match hv sub c env a with
    | some (.bl true) => (match hv sub c env b with
      | some (.bl k) => some (.bl k)
      | _ => none)
    | some (.bl false) => some (.bl false)
    | _ => none)
  | .or3 a b d => (match hv sub c env a with
    | some (.bl true) => some (.bl true)
    | some (.bl false) => (match hv sub c env b with
      | some (.bl true) => some (.bl true)
      | some (.bl false) => (match hv sub c env d with
        | some (.bl k) => some (.bl k)
        | _ => none)
      | _ => none)
    | _ => none)
  | .ifE k a b => (match hv sub c env k with
    | some (.bl true) => hv sub c env a
    | some (.bl false) => hv sub c env b
    | _ => none)
def hsv (sub : Sub) (c : Nat) : (Nat → Option V) → HS → Option V
  | env, .ret h => hv sub c env h
  | env, .set j h r => (match hv sub c env h with
    | some (.bl b) => hsv sub c (fun k => if k = j then some (.bl b) else env k) r
    | _ => none)
def tH (P : L2.St → Prop) (v : V) : TE := fun σ H Q => P σ ∧ Q v H
def tHB (P : L2.St → Prop) (b : Bool) : TT := fun σ H Q => P σ ∧ Q b H
def tF : TE := fun _ _ _ => False
def tFB : TT := fun _ _ _ => False
theorem pe_nev {X : Cx} {e : Expr} : PE X e tF := ⟨fun _ _ _ _ _ _ z => False.elim z⟩
theorem pt_nev {X : Cx} {e : Expr} : PT X e tFB := ⟨fun _ _ _ _ _ _ z => False.elim z⟩
theorem pw_nev {X : Cx} {e : Expr} : PW X e tFB := ⟨fun _ _ _ _ _ _ _ z => False.elim z⟩
/-- both as a value and as a test -/
structure KH (X : Cx) (P : L2.St → Prop) (e : Expr) (v : V) : Prop where
  pe : PE X e (tH P v)
  pt : ∀ b, v = .bl b → PT X e (tHB P b)
section
variable {X : Cx} {P : L2.St → Prop} {a b c : Expr} {pos : Pos}
theorem kh_plain {e : Expr} {v : V} (h : PE X e (tH P v)) (he : ∀ whole, isTrue e X.env whole = (do let v ← whole; standAt e.pos; holding [v] (truthy v))) : KH X P e v := by
  refine ⟨h, fun b hb => ?_⟩
  subst hb
  refine pt_of (pt_truth h he) fun σ H Q q => ?_
  exact ⟨q.1, b, rfl, q.2⟩
theorem kh_str {x : Str} {j : Nat} : KH X P (.Constant (.str x) j pos) (.str x) := ⟨pe_of pe_str fun σ H Q h => h.2, fun b hb => nomatch hb⟩
theorem kh_var {i : Nat} {x : Str} {v : V} (hN : X.N[i]? = some x) (hv : Vis X.env.scope x) (hd : (x == ("__debug__" : Str)) = false) (hcd : (x == ("__classdict__" : Str)) = false) (hp : ∀ σ, P σ → σ[i]? = some (some v)) : KH X P (.Name x pos) v :=
  kh_plain (pe_of (pe_var hN hv hd hcd) fun σ H Q h => ⟨v, hp σ h.1, h.2⟩) (fun _ => rfl)
theorem kh_not {k : Bool} (h : KH X P a (.bl k)) : KH X P (.UnaryOp .Not a pos) (.bl (!k)) := by
  refine ⟨pe_of (pe_not h.pe) fun σ H Q q => ⟨q.1, k, rfl, q.2⟩, fun b hb => ?_⟩
  cases hb
  exact pt_of (pt_not (h.pt k rfl)) fun σ H Q q => ⟨q.1, q.2⟩
theorem kh_andT {k : Bool} (ha : KH X P a (.bl true)) (hb : KH X P b (.bl k)) : KH X P (.BoolOp .And [a, b] pos) (.bl k) := by
  refine ⟨pe_of (pe_and ha.pe (pe_one hb.pe)) fun σ H Q q => ⟨q.1, true, rfl, iteT ⟨q.1, q.2⟩⟩, fun z hz => ?_⟩
  cases hz
  exact (pw_of (pw_and (ha.pt true rfl) (pw_and1 (hb.pt k rfl))) fun σ H Q q => ⟨q.1, iteT ⟨q.1, q.2⟩⟩).pt
theorem kh_andF (ha : KH X P a (.bl false)) : KH X P (.BoolOp .And [a, b] pos) (.bl false) := by
  refine ⟨pe_of (pe_and ha.pe (pe_one pe_nev)) fun σ H Q q => ⟨q.1, false, rfl, iteF q.2⟩, fun z hz => ?_⟩
  cases hz
  exact (pw_of (pw_and (ha.pt false rfl) (pw_and1 pt_nev)) fun σ H Q q => ⟨q.1, iteF q.2⟩).pt
theorem kh_or {rest : List Expr} {k j : Bool} (ha : KH X P a (.bl k)) (hb : k = false → KH X P (.BoolOp .Or (b :: rest) pos) (.bl j)) (hw : k = false → PW X (.BoolOp .Or (b :: rest) pos) (tHB P j)) (hj : k = true → j = true) :
    KH X P (.BoolOp .Or (a :: b :: rest) pos) (.bl j) ∧ PW X (.BoolOp .Or (a :: b :: rest) pos) (tHB P j) := by
  cases k with
  | true =>
    cases hj rfl
    have w : PW X (.BoolOp .Or (a :: b :: rest) pos) (tHB P true) := pw_of (pw_or (ha.pt true rfl) pw_nev) fun σ H Q q => ⟨q.1, iteT q.2⟩
    refine ⟨⟨pe_of (pe_or ha.pe pe_nev) fun σ H Q q => ⟨q.1, true, rfl, iteT q.2⟩, fun z hz => ?_⟩, w⟩
    cases hz
    exact w.pt
  | false =>
    have w : PW X (.BoolOp .Or (a :: b :: rest) pos) (tHB P j) := pw_of (pw_or (ha.pt false rfl) (hw rfl)) fun σ H Q q => ⟨q.1, iteF ⟨q.1, q.2⟩⟩
    refine ⟨⟨pe_of (pe_or ha.pe (hb rfl).pe) fun σ H Q q => ⟨q.1, false, rfl, iteF ⟨q.1, q.2⟩⟩, fun z hz => ?_⟩, w⟩
    cases hz
    exact w.pt
theorem kh_one {k : Bool} (ha : KH X P a (.bl k)) : KH X P (.BoolOp .Or [a] pos) (.bl k) ∧ PW X (.BoolOp .Or [a] pos) (tHB P k) := by
  have w : PW X (.BoolOp .Or [a] pos) (tHB P k) := pw_or1 (ha.pt k rfl)
  refine ⟨⟨pe_one ha.pe, fun z hz => ?_⟩, w⟩
  cases hz
  exact w.pt
theorem kh_ifT {v : V} (hc : KH X P c (.bl true)) (ha : PE X a (tH P v)) : PE X (.IfExp c a b pos) (tH P v) := by
  exact pe_of (pe_ifExp (hc.pt true rfl) ha pe_nev) fun σ H Q q => ⟨q.1, iteT ⟨q.1, q.2⟩⟩
theorem kh_ifF {v : V} (hc : KH X P c (.bl false)) (hb : PE X b (tH P v)) : PE X (.IfExp c a b pos) (tH P v) := by
  exact pe_of (pe_ifExp (hc.pt false rfl) pe_nev hb) fun σ H Q q => ⟨q.1, iteF ⟨q.1, q.2⟩⟩
end
end DD

namespace DD
open PySem PySem.Spec PyProof.Rows L2

/-! ### t[::-1], lists and tuples -/
section
variable {prog : Program} {w : World} {A : Around} {E : Value → Shared → Prop} {s : Shared}
theorem adjust_rev (n : Nat) : Builtin.Slice.sliceAdjust none none (-1) (n : Int) = ((n : Int) - 1, -1) := by
  unfold Builtin.Slice.sliceAdjust
  simp
theorem places_rev (n : Nat) : Builtin.Slice.slicePlaces ((n : Int) - 1) (-1) (-1) = n := by
  unfold Builtin.Slice.slicePlaces
  have h1 : ¬ ((-1 : Int) > 0) := by omega
  simp only [h1, if_false]
  rw [show (- -1 : Int) = 1 by decide, Int.ediv_one]
  split <;> omega
theorem sliceApplied_rev {sl : Addr} {t : Tok} {n : Nat} {Q : Int × Int × Nat → Shared → Prop} (hs : s.heap.IsSliceOf sl .none .none (.int (-1) t)) 
    (h : Q ((n : Int) - 1, -1, n) s) : wpAny (model prog w) A (Builtin.Slice.sliceApplied (.ref sl) (pure (n : Int))) Q E s := by
  obtain ⟨os, hos, hcs, hds⟩ := id hs
  unfold Builtin.Slice.sliceApplied Builtin.Slice.sliceFields
  refine wpAny_bind (wpAny_bind (wpAny_field hos hds (x := .none) rfl (wpAny_bind (wpAny_field hos hds (x := .none) rfl (wpAny_bind (wpAny_field hos hds (x := .int (-1) t) rfl (wpAny_pure ?_)))))))
  refine wpAny_bind (HT.slicePart_ (.int (-1) t) ?_)
  show wpAny _ _ (if ((-1 : Int) == 0) = true then _ else _) _ _ s
  rw [if_neg (by decide)]
  refine wpAny_bind (HT.slicePart_ .none (wpAny_bind (HT.slicePart_ .none (wpAny_bind (wpAny_pure ?_)))))
  show wpAny _ _ (match Builtin.Slice.sliceAdjust none none (-1) (n : Int) with | (lo, hi) => pure (lo, (-1 : Int), Builtin.Slice.slicePlaces lo hi (-1))) _ _ s
  rw [adjust_rev n]
  show wpAny _ _ (pure ((n : Int) - 1, (-1 : Int), Builtin.Slice.slicePlaces ((n : Int) - 1) (-1) (-1))) _ _ s
  rw [places_rev]
  exact wpAny_pure h
theorem rev_pick (xs : List Value) : ((List.range xs.length).filterMap fun (m : Nat) => xs.toArray[((xs.length : Int) - 1 + (m : Int) * (-1)).toNat]?) = xs.reverse := by
  have e : ∀ n, n ≤ xs.length → ((List.range n).filterMap fun (m : Nat) => xs.toArray[((xs.length : Int) - 1 + (m : Int) * (-1)).toNat]?) = xs.reverse.take n := by
    intro n
    induction n with
    | zero => intro _; rfl
    | succ n ih =>
      intro h
      rw [List.range_succ, List.filterMap_append, ih (by omega), List.take_succ]
      congr 1
      have h2 : ((xs.length : Int) - 1 + (n : Int) * (-1)).toNat = xs.length - 1 - n := by omega
      simp only [List.filterMap_cons, List.filterMap_nil, h2, List.getElem?_toArray]
      rw [List.getElem?_reverse (by omega)]
      rw [List.getElem?_eq_getElem (by omega)]
      rfl
  have := e xs.length (Nat.le_refl _)
  rw [this]
  rw [List.take_of_length_le (by simp)]
theorem getItem_tuple_rev {t sl : Addr} {its : List Value} {tk : Tok} {Q : Value → Shared → Prop} (ht : IsTup s.heap t its.toArray) (hs : s.heap.IsSliceOf sl .none .none (.int (-1) tk))
    (h : Q (.ref s.heap.objs.size) { s with heap := s.heap.push { cls := .type "tuple", data := .seq its.reverse.toArray } })
    (hsz : its.length ≤ sizeLine) : wpAny (model prog w) A (getItem (.ref t) (.ref sl)) Q E s := by
  have htake : sizeOk (.seq its.reverse.toArray) := by
    show its.reverse.toArray.size ≤ sizeLine
    rw [List.size_toArray, List.length_reverse]
    exact hsz
  obtain ⟨os, hos, hcs, hds⟩ := id hs
  have hTs : s.TypeIs (.ref sl) "slice" := ⟨os, hos, hcs⟩
  unfold getItem
  try with_reducible refine wpAny_holding ?_
  first | refine wpAny_bind (wpAny_pure ?_) | skip
  refine wpAny_bind (wpAny_sequenceKey ht.typeIs (by decide) ?_)
  refine wpAny_bind (wpAny_callSpecial?_slot (name := Str.ofString "__getitem__") ht.typeIs PyProof.Rows.slot_tuple_getitem
    (wpAny_call_entry PyProof.Rows.slot_tuple_getitem ht.typeIs entry_tuple_getitem ?_ (args_tuple_getitem _ _)))
  show wpAny _ _ (Builtin.Tuple.tupleItemsOf (.ref t) >>= _) _ _ s
  refine wpAny_bind (tupleItemsOf_ ht ?_)
  refine wpAny_bind (wpAny_typeOf hTs ?_)
  rw [if_pos (by decide)]
  rw [show ((its.toArray.size : Nat) : Int) = ((its.length : Nat) : Int) by simp]
  refine wpAny_bind (sliceApplied_rev hs ?_)
  have hno : ¬ ((((its.length : Int) - 1) == 0 && (-1 : Int) == 1 && its.length == its.toArray.size) = true) := by
    intro q
    rw [Bool.and_eq_true, Bool.and_eq_true] at q
    exact absurd q.1.2 (by decide)
  show wpAny _ _ (if (((its.length : Int) - 1) == 0 && (-1 : Int) == 1 && its.length == its.toArray.size) = true then _ else _) _ _ s
  rw [if_neg hno, rev_pick]
  first
    | exact wpAny_bind (m := Builtin.Tuple.tupleExact _) (wpAny_newObj_type (wpAny_pure ⟨_, rfl, wpAny_pure h⟩) htake)
    | exact wpAny_bind (m := Builtin.Tuple.tupleExact _) (wpAny_newObj_type (wpAny_bind (wpAny_pure (wpAny_pure ⟨_, rfl, wpAny_pure h⟩))) htake)
    | exact wpAny_bind (wpAny_bind (m := Builtin.Tuple.tupleExact _) (wpAny_newObj_type (wpAny_pure (wpAny_pure ⟨_, rfl, wpAny_pure h⟩)) htake))
    | exact wpAny_bind (wpAny_bind (m := Builtin.Tuple.tupleExact _) (wpAny_newObj_type (wpAny_pure ⟨_, rfl, wpAny_pure h⟩) htake))
end
def tRev2 (K : PySem.W.Frag) (te : TE) : TE := fun σ H Q => te σ H fun x H1 => (∃ a xs, x = .ref a ∧ SqL K H1 a xs ∧ ∀ p, H1 p = none → Q (.ref p) (upd H1 p (.lst xs.reverse))) ∨ (∃ a xs, x = .ref a ∧ SqT K H1 a xs ∧ ∀ p, H1 p = none → Q (.ref p) (upd H1 p (.tup xs.reverse)))
theorem pe_rev2 {X : Cx} {e : Expr} {te : TE} {k : Nat} {p1 p2 p3 pos : Pos} (he : PE X e te) : PE X (.Subscript e (.Slice none none (some (.UnaryOp .USub (.Constant (.int 1) k p1) p2)) p3) pos) (tRev2 X.K te) := by
  refine ⟨fun pins s σ H Q I h => ?_⟩
  refine Subscript_ (thn (he.run pins s σ H _ I h) fun v s1 ⟨x, H1, I1, r1, q1⟩ => ?_)
  have hst : PO X (some (.UnaryOp .USub (.Constant (.int 1) k p1) p2)) (tPart (tUn (rU fun i => .int (-i)) (tC (.int 1)))) := po_some (pe_un un_neg pe_int)
  refine wpAny_Slice (thn (po_none.run pins s1 σ H1 (fun o H2 => o = none ∧ H2 = H1) I1 ⟨rfl, rfl⟩) fun vl s2 ⟨l, H2, I2, pl, el, e2⟩ => ?_)
  subst el e2
  refine thn (po_none.run pins s2 σ H2 (fun o H3 => o = none ∧ H3 = H2) I2 ⟨rfl, rfl⟩) fun vu s3 ⟨u, H3, I3, pu, eu, e3⟩ => ?_
  subst eu e3
  refine thn (hst.run pins s3 σ H3 (fun o H4 => o = some (-1) ∧ H4 = H3) I3 ⟨1, rfl, -1, rfl, rfl, rfl⟩) fun vs s4 ⟨o, H4, I4, ps, eo, e4⟩ => ?_
  subst eo e4
  have I5 : Inv X pins σ H4 { s4 with heap := s4.heap.push { cls := .type "slice", data := .fields #[vl, vu, vs] } } := I4.kept (t' := s4.toks) fun b ob q => Heap.get?_push_of_some _ q
  rcases q1 with ⟨a, xs, ex, hx, q⟩ | ⟨a, xs, ex, hx, q⟩
  · subst ex
    cases r1
    obtain ⟨its, r, ht, hz⟩ := I5.list hx
    have hlen := r.length
    show wpAny (model X.prog X.w) X.A (subscriptTail e (.Slice none none (some (.UnaryOp .USub (.Constant (.int 1) k p1) p2)) p3) (.ref a) (.ref s4.heap.objs.size)) (EP X pins σ Q) X.xe { s4 with heap := s4.heap.push { cls := .type "slice", data := .fields #[vl, vu, vs] } }
    refine tail_any (ops := [.ref a, .ref s4.heap.objs.size]) ht.isList.typeIs (PySem.slot_list_getitem.lookup) ?_ (by with_unfolding_all rfl)
    refine wpAny_getItem_list_slice ht.isList (Heap.IsSliceOf.new _ vl vu vs) pl pu ps (by decide) ?_ (by rw [List.size_toArray]; omega)
    rw [PySem.W.krv_pick]
    refine ⟨.ref _, _, I5.laid (t' := s4.toks) (o := .lst xs.reverse) (fun b ob q => Heap.get?_push_of_some _ q) (Nat.le_refl _) ?_, rfl, q _ (I5.hok.fresh (Nat.le_refl _))⟩
    exact ⟨by rw [List.length_reverse]; exact hz, _, 0, r.reverse, Heap.get?_push_size _ rfl⟩
  · subst ex
    cases r1
    cases pl; cases pu; cases ps
    obtain ⟨its, r, ht, hz⟩ := I5.tuple hx
    have hlen := r.length
    show wpAny (model X.prog X.w) X.A (subscriptTail e (.Slice none none (some (.UnaryOp .USub (.Constant (.int 1) k p1) p2)) p3) (.ref a) (.ref s4.heap.objs.size)) (EP X pins σ Q) X.xe _
    refine tail_any (ops := [.ref a, .ref s4.heap.objs.size]) ht.typeIs (PyProof.Rows.slot_tuple_getitem.lookup) ?_ (by with_unfolding_all rfl)
    refine getItem_tuple_rev ht (Heap.IsSliceOf.new _ _ _ _) ?_ (by omega)
    refine ⟨.ref _, _, I5.laid (t' := s4.toks) (o := .tup xs.reverse) (fun b ob q => Heap.get?_push_of_some _ q) (Nat.le_refl _) ?_, rfl, q _ (I5.hok.fresh (Nat.le_refl _))⟩
    exact ⟨by rw [List.length_reverse]; exact hz, _, r.reverse, IsTup.new _ _⟩
def revD : D → Option D
  | .list ds => some (.list ds.reverse)
  | .tuple ds => some (.tuple ds.reverse)
  | _ => none
def revV (ma : Rho → Option Res) : Rho → Option Res := fun ρ => match ma ρ with
  | some (.ok d) => (revD d).map .ok
  | some (.exc c p) => some (.exc c p)
  | none => none
theorem Dds.rev {K : PySem.W.Frag} {H0 : Hp} : ∀ {ys : List V} {ds : List D}, Dds K H0 ys ds → Dds K H0 ys.reverse ds.reverse
  | _, _, .nil => .nil
  | _, _, .cons h r => by
    rw [List.reverse_cons, List.reverse_cons]
    exact (Dds.rev r).append (.cons h .nil)
theorem je_rev {X : Cx} {xs : List Str} {W : WX} {a : Expr} {sa : Src} {ma : Rho → Option Res} {k : Nat} {p1 p2 p3 pos : Pos} (ha : JE X xs W a sa ma) : JE X xs W (.Subscript a (.Slice none none (some (.UnaryOp .USub (.Constant (.int 1) k p1) p2)) p3) pos) .new (revV ma) := by
  refine pe_of (pe_rev2 ha) fun σ H Q h => ?_
  obtain ⟨en, ρ, H0, rr, p⟩ := h
  refine ⟨en, ρ, H0, rr, ?_⟩
  unfold revV at p
  cases e1 : ma ρ with
  | none => rw [e1] at p; exact p.elim
  | some r1 =>
    rw [e1] at p
    cases r1 with
    | exc c q => exact p
    | ok d1 =>
      intro v H01 H1 x1 z1
      dsimp only at p
      cases d1 with
      | list ds =>
        obtain ⟨b, ys, rfl, r1, k1⟩ := z1.rb.list x1.sub
        exact .inl ⟨b, ys, rfl, .inl r1, fun q n => rs_lst (n := true) x1.sub k1.rev n fun v4 H04 H4 x4 z4 => p v4 H04 H4 (x1.trans x4) (z4.rz x1.s)⟩
      | tuple ds =>
        obtain ⟨b, ys, rfl, r1, k1⟩ := z1.rb.tuple x1.sub
        exact .inr ⟨b, ys, rfl, .inl r1, fun q n => rs_tup (n := true) x1.sub k1.rev n fun v4 H04 H4 x4 z4 => p v4 H04 H4 (x1.trans x4) (z4.rz x1.s)⟩
      | _ => exact p.elim
end DD

namespace DD
noncomputable section
open PySem PySem.Spec PyProof.Rows L2

/-! ### and, or by truth -/
def andT (ma mb : Rho → Option Res) : Rho → Option Res := fun ρ => match ma ρ with
  | some (.ok d) => (match truthD d with
    | some true => mb ρ
    | some false => some (.ok d)
    | none => none)
  | some (.exc c p) => some (.exc c p)
  | none => none
def orT (ma mb : Rho → Option Res) : Rho → Option Res := fun ρ => match ma ρ with
  | some (.ok d) => (match truthD d with
    | some true => some (.ok d)
    | some false => mb ρ
    | none => none)
  | some (.exc c p) => some (.exc c p)
  | none => none
section
variable {X : Cx} {xs : List Str} {W : WX} {a b c : Expr} {ma mb : Rho → Option Res} {pos : Pos}
theorem dd_tru {K : PySem.W.Frag} {H0 H : Hp} {v : V} {d : D} {k : Bool} (s : Same H0 H) (h : Dd K H0 v d) (e : truthD d = some k) : TruV K v H k := truV_of s (.inl h) e
theorem jd_andT {rest : List Expr} (ha : JD X xs W a ma) (hb : JD X xs W (.BoolOp .And (b :: rest) pos) mb) : JD X xs W (.BoolOp .And (a :: b :: rest) pos) (andT ma mb) := by
  refine pe_of (pe_andT ha hb) fun σ H Q h => ?_
  obtain ⟨en, ρ, H0, rr, p⟩ := h
  refine ⟨en, ρ, H0, rr, ?_⟩
  unfold andT at p
  cases e1 : ma ρ with
  | none => rw [e1] at p; exact p.elim
  | some r1 =>
    rw [e1] at p
    cases r1 with
    | exc c q => exact p
    | ok d1 =>
      intro v H0' H' x1 z1
      dsimp only at p
      cases e3 : truthD d1 with
      | none => rw [e3] at p; exact p.elim
      | some k =>
        rw [e3] at p
        refine ⟨k, dd_tru x1.sub z1 e3, ?_⟩
        cases k with
        | false => exact iteF (p _ _ _ x1 z1)
        | true => exact iteT ⟨en, ρ, H0', rr.mono x1, postD_trans x1 p⟩
theorem jd_orT {rest : List Expr} (ha : JD X xs W a ma) (hb : JD X xs W (.BoolOp .Or (b :: rest) pos) mb) : JD X xs W (.BoolOp .Or (a :: b :: rest) pos) (orT ma mb) := by
  refine pe_of (pe_orT ha hb) fun σ H Q h => ?_
  obtain ⟨en, ρ, H0, rr, p⟩ := h
  refine ⟨en, ρ, H0, rr, ?_⟩
  unfold orT at p
  cases e1 : ma ρ with
  | none => rw [e1] at p; exact p.elim
  | some r1 =>
    rw [e1] at p
    cases r1 with
    | exc c q => exact p
    | ok d1 =>
      intro v H0' H' x1 z1
      dsimp only at p
      cases e3 : truthD d1 with
      | none => rw [e3] at p; exact p.elim
      | some k =>
        rw [e3] at p
        refine ⟨k, dd_tru x1.sub z1 e3, ?_⟩
        cases k with
        | true => exact iteT (p _ _ _ x1 z1)
        | false => exact iteF ⟨en, ρ, H0', rr.mono x1, postD_trans x1 p⟩
/-- a test whose answer is less often told -/
theorem jt_weak {e : Expr} {m m' : Rho → Option ResB} (h : JT X xs W e m) (w : ∀ ρ r, m' ρ = some r → m ρ = some r) : JT X xs W e m' := by
  refine pt_of h fun σ H Q q => ?_
  obtain ⟨en, ρ, H0, rr, p⟩ := q
  refine ⟨en, ρ, H0, rr, ?_⟩
  cases e1 : m' ρ with
  | none => rw [e1] at p; exact p.elim
  | some r => rw [e1] at p; rw [w ρ r e1]; exact p
theorem jw_weak {e : Expr} {m m' : Rho → Option ResB} (h : JW X xs W e m) (w : ∀ ρ r, m' ρ = some r → m ρ = some r) : JW X xs W e m' := by
  refine pw_of h fun σ H Q q => ?_
  obtain ⟨en, ρ, H0, rr, p⟩ := q
  refine ⟨en, ρ, H0, rr, ?_⟩
  cases e1 : m' ρ with
  | none => rw [e1] at p; exact p.elim
  | some r => rw [e1] at p; rw [w ρ r e1]; exact p
theorem tst_not {m : Rho → Option Res} : tstB (notV m) = notB (tstB m) := by
  funext ρ
  simp only [tstB, notV, notB]
  cases m ρ with
  | none => rfl
  | some r =>
    cases r with
    | exc c p => rfl
    | ok d =>
      dsimp only
      cases truthD d with
      | none => rfl
      | some b => cases b <;> rfl
theorem tst_and {m n : Rho → Option Res} : tstB (andT m n) = andB (tstB m) (tstB n) := by
  funext ρ
  simp only [tstB, andT, andB]
  cases m ρ with
  | none => rfl
  | some r =>
    cases r with
    | exc c p => rfl
    | ok d =>
      dsimp only
      cases e : truthD d with
      | none => rfl
      | some b =>
        cases b with
        | true => rfl
        | false => simp [e]
theorem tst_or {m n : Rho → Option Res} : tstB (orT m n) = orB (tstB m) (tstB n) := by
  funext ρ
  simp only [tstB, orT, orB]
  cases m ρ with
  | none => rfl
  | some r =>
    cases r with
    | exc c p => rfl
    | ok d =>
      dsimp only
      cases e : truthD d with
      | none => rfl
      | some b =>
        cases b with
        | true => simp [e]
        | false => rfl
def ifB (mc ma mb : Rho → Option ResB) : Rho → Option ResB := fun ρ => match mc ρ with
  | some (.ok true) => ma ρ
  | some (.ok false) => mb ρ
  | some (.exc c p) => some (.exc c p)
  | none => none
theorem tst_if {mc : Rho → Option ResB} {m n : Rho → Option Res} : tstB (ifV mc m n) = ifB mc (tstB m) (tstB n) := by
  funext ρ
  simp only [tstB, ifV, ifB]
  cases mc ρ with
  | none => rfl
  | some r =>
    cases r with
    | exc c p => rfl
    | ok d => cases d <;> rfl
theorem postB_trans {K : PySem.W.Frag} {mg : Str → Option Value} {σ : L2.St} {H0 H H0' H' : Hp} {Q : Bool → Hp → Prop} {r : Option ResB} (x1 : Ext H0 H H0' H') (p : PostB K mg xs W σ H0 H Q r) : PostB K mg xs W σ H0' H' Q r := by
  cases r with
  | none => exact p
  | some r =>
    cases r with
    | exc c q => exact fun cls dd A B x2 z2 => p cls dd A B (x1.trans x2) z2
    | ok d => exact fun A B x2 => p A B (x1.trans x2)
theorem jt_if {mc m n : Rho → Option ResB} (hc : JT X xs W c mc) (ha : JT X xs W a m) (hb : JT X xs W b n) : JT X xs W (.IfExp c a b pos) (ifB mc m n) := by
  refine ⟨fun pins s σ H Q I h => ?_⟩
  obtain ⟨en, ρ, H0, rr, p⟩ := h
  show wpAny _ _ (do if ← isTrue c X.env (eval c X.env) then isTrue a X.env (eval a X.env) else isTrue b X.env (eval b X.env)) _ _ _
  have hc' : TauB X.K X.mg xs W mc σ H (fun k H1 => (k = true → TauB X.K X.mg xs W m σ H1 Q) ∧ (k = false → TauB X.K X.mg xs W n σ H1 Q)) := by
    refine ⟨en, ρ, H0, rr, ?_⟩
    unfold ifB at p
    cases e1 : mc ρ with
    | none => rw [e1] at p; exact p.elim
    | some r1 =>
      rw [e1] at p
      cases r1 with
      | exc c q => exact p
      | ok k =>
        intro H0' H' x1
        cases k with
        | true => exact And.intro (fun _ => ⟨en, ρ, H0', rr.mono x1, postB_trans x1 p⟩) (fun e => nomatch e)
        | false => exact And.intro (fun e => nomatch e) (fun _ => ⟨en, ρ, H0', rr.mono x1, postB_trans x1 p⟩)
  refine wpAny_bind (thn (hc.run pins s σ H _ I hc') fun k s1 ⟨H1, I1, q1, q2⟩ => ?_)
  cases k with
  | true => exact ha.run pins s1 σ H1 Q I1 (q1 rfl)
  | false => exact hb.run pins s1 σ H1 Q I1 (q2 rfl)
end

/-! ### the language -/
inductive Cst where
  | none | bool (b : Bool) | int (i : Int) | str (x : Str)
def Cst.d : Cst → D
  | .none => .none
  | .bool b => .bool b
  | .int i => .int i
  | .str x => .str x
inductive O2 where
  | add | sub | mul | fdiv | mod | pow
  deriving DecidableEq
inductive C2 where
  | eq | ne | lt | le | gt | ge | isin | notin
  deriving DecidableEq
inductive Ty where
  | int | bool | str | list | tuple
  deriving DecidableEq
inductive Bl where
  | len | sum | max | min | abs | int | list | tuple
  deriving DecidableEq
mutual
inductive E where
  | var (i : Nat)
  | cst (c : Cst)
  | glb (k : Nat)
  | tup (es : Es)
  | lst (es : Es)
  | op (o : O2) (a b : E)
  | cmp (o : C2) (a b : E)
  | chain (a : E) (ch : Ch)
  | neg (a : E)
  | not (a : E)
  | and (es : Es)
  | or (es : Es)
  | ifE (c a b : E)
  | isN (a : E)
  | notN (a : E)
  | idx (a i : E)
  | slc (a : E) (lo hi : Oe)
  | rev (a : E)
  | isi (a : E) (t : Ty)
  | blt (b : Bl) (es : Es)
  | call (j : Nat) (es : Es)
  | comp (elt : E) (tg : Tg) (it : Itb) (ifs : Oe) (own : List (Str × Nat))
inductive Es where
  | nil
  | cons (e : E) (es : Es)
inductive Oe where
  | no
  | yes (e : E)
inductive Itb where
  | seq (e : E)
  | rng (es : Es)
inductive Ch where
  | last (o : C2) (b : E)
  | link (o : C2) (b : E) (r : Ch)
end
def E.src : E → Src
  | .var i => .slot i
  | .idx _ _ => .any
  | .ifE _ _ _ => .any
  | .and _ => .any
  | .or _ => .any
  | .call _ _ => .any
  | _ => .new
/-- a called def: its name, how many arguments, whether what it hands back is new, what it answers -/
structure FnE where
  name : Str
  ar : Nat
  nw : Bool
  phi : List D → Option Res
structure Gb where
  csts : List (Str × Cst)
  excs : List Str
  /-- which of them are raised with a text alone -/
  rz : List Bool
  /-- which is a class of which -/
  sub : Sub
  fns : List FnE
def Gb.phi (G : Gb) (j : Nat) : List D → Option Res := match G.fns[j]? with
  | some F => F.phi
  | none => fun _ => none
/-- where an answer comes from, with the called defs' word -/
def E.srcG (G : Gb) : E → Src
  | .call j _ => (match G.fns[j]? with
    | some F => Src.nw F.nw
    | none => .any)
  | e => e.src
def sem2 : O2 → D → D → Option D
  | .add => addD
  | .sub => subD
  | .mul => mulD
  | .fdiv => fdivD
  | .mod => modD
  | .pow => powD
def semC : C2 → D → D → Option D
  | .eq => eqD
  | .ne => neD
  | .lt => ltD
  | .le => leD
  | .gt => gtD
  | .ge => geD
  | .isin => fun x y => (inD x y).map .bool
  | .notin => fun x y => (inD x y).map fun b => .bool (!b)
def negD : D → Option D
  | .int i => some (.int (-i))
  | _ => none
def Ty.nm : Ty → String
  | .int => "int"
  | .bool => "bool"
  | .str => "str"
  | .list => "list"
  | .tuple => "tuple"
def semB : Bl → List D → Option D
  | .len => lenD
  | .sum => sumD
  | .max => maxD
  | .min => minD
  | .abs => absD
  | .int => intD
  | .list => listD
  | .tuple => tupleD
def boolRes : Option D → Option Bool
  | some (.bool b) => some b
  | _ => none
mutual
def evalE (G : Gb) : E → Rho → Option Res
  | .var i => fun ρ => slotVal ρ i
  | .cst c => fun _ => some (.ok c.d)
  | .glb k => fun _ => match G.csts[k]? with
    | some (_, c) => some (.ok c.d)
    | none => none
  | .tup es => liftA (fun ds => if okSize ds then some (.tuple ds) else none) (evalK G es)
  | .lst es => liftA (fun ds => if okSize ds then some (.list ds) else none) (evalK G es)
  | .op o a b => lift2 (sem2 o) (evalE G a) (evalE G b)
  | .cmp o a b => lift2 (semC o) (evalE G a) (evalE G b)
  | .chain a ch => fun ρ => match evalE G a ρ with
    | some (.ok d) => evalC G ch d ρ
    | some (.exc c p) => some (.exc c p)
    | none => none
  | .neg a => lift1 negD (evalE G a)
  | .not a => notV (evalE G a)
  | .and es => evalAnd G es
  | .or es => evalOr G es
  | .ifE c a b => ifV (tstB (evalE G c)) (keep a.src (evalE G a)) (keep b.src (evalE G b))
  | .isN a => lift1 (fun d => some (.bool (isNone d))) (evalE G a)
  | .notN a => lift1 (fun d => some (.bool (!isNone d))) (evalE G a)
  | .idx a i => lift2 ixD (evalE G a) (evalE G i)
  | .slc a lo hi => slcV (evalE G a) (evalO G lo) (evalO G hi)
  | .rev a => revV (evalE G a)
  | .isi a t => lift1 (isiD t.nm) (evalE G a)
  | .blt b es => liftA (semB b) (evalA G es)
  | .call j es => callF (G.phi j) (evalA G es)
  | .comp elt tg it ifs own => compV (evalI G it) (own.map (·.2)) tg.bind (evalF G ifs) (keep elt.src (evalE G elt))
def evalK (G : Gb) : Es → Rho → Option ResL
  | .nil => fun _ => some (.ok [])
  | .cons e es => consA (keep e.src (evalE G e)) (evalK G es)
def evalA (G : Gb) : Es → Rho → Option ResL
  | .nil => fun _ => some (.ok [])
  | .cons e es => consA (evalE G e) (evalA G es)
def evalAnd (G : Gb) : Es → Rho → Option Res
  | .nil => fun _ => none
  | .cons e .nil => keep e.src (evalE G e)
  | .cons e (.cons f es) => andT (keep e.src (evalE G e)) (evalAnd G (.cons f es))
def evalOr (G : Gb) : Es → Rho → Option Res
  | .nil => fun _ => none
  | .cons e .nil => keep e.src (evalE G e)
  | .cons e (.cons f es) => orT (keep e.src (evalE G e)) (evalOr G (.cons f es))
def evalO (G : Gb) : Oe → Rho → Option ResO
  | .no => fun _ => some (.ok none)
  | .yes e => partV (evalE G e)
def evalF (G : Gb) : Oe → Rho → Option ResB
  | .no => fun _ => some (.ok true)
  | .yes e => tstB (evalE G e)
def evalI (G : Gb) : Itb → Rho → Option ResL
  | .seq e => seqI e.src (evalE G e)
  | .rng es => rngI (evalA G es)
def evalC (G : Gb) : Ch → D → Rho → Option Res
  | .last o b => fun d ρ => match evalE G b ρ with
    | some (.ok e) => (match boolRes (semC o d e) with
      | some k => some (.ok (.bool k))
      | none => none)
    | some (.exc c p) => some (.exc c p)
    | none => none
  | .link o b r => fun d ρ => match evalE G b ρ with
    | some (.ok e) => (match boolRes (semC o d e) with
      | some true => evalC G r e ρ
      | some false => some (.ok (.bool false))
      | none => none)
    | some (.exc c p) => some (.exc c p)
    | none => none
end

/-! ### the look at the text -/
def O2.is : O2 → Operator → Bool
  | .add, .Add => true
  | .sub, .Sub => true
  | .mul, .Mult => true
  | .fdiv, .FloorDiv => true
  | .mod, .Mod => true
  | .pow, .Pow => true
  | _, _ => false
def C2.is : C2 → CmpOp → Bool
  | .eq, .Eq => true
  | .ne, .NotEq => true
  | .lt, .Lt => true
  | .le, .LtE => true
  | .gt, .Gt => true
  | .ge, .GtE => true
  | .isin, .In => true
  | .notin, .NotIn => true
  | _, _ => false
def Cst.is : Cst → Const → Bool
  | .none, .none => true
  | .bool b, .bool b' => b == b'
  | .int i, .int j => decide (i = j)
  | .str x, .str y => decide (x = y)
  | _, _ => false
def noStar : Expr → Bool
  | .Starred _ _ => false
  | _ => true
def noSet : Expr → Bool
  | .Set _ _ _ => false
  | _ => true
def noSlice : Expr → Bool
  | .Slice _ _ _ _ => false
  | _ => true
def bltNm : Bl → Str
  | .len => "len"
  | .sum => "sum"
  | .max => "max"
  | .min => "min"
  | .abs => "abs"
  | .int => "int"
  | .list => "list"
  | .tuple => "tuple"
def tyNm : Ty → Str
  | .int => "int"
  | .bool => "bool"
  | .str => "str"
  | .list => "list"
  | .tuple => "tuple"
def isGlob (sc : Scope) (x : Str) : Bool := decide (sc.names.lookup x = some .globalImplicit)
def visB (sc : Scope) (x : Str) : Bool := match sc.names.lookup x with
  | some .local => true
  | some .cell => true
  | some .free => true
  | _ => false
def plainNm (x : Str) : Bool := !(x == ("__debug__" : Str)) && !(x == ("__classdict__" : Str)) && decide (x ≠ "__name__")
def isNoneC : Expr → Bool
  | .Constant .none _ _ => true
  | _ => false
/-- a stored name: local, or (in a def's own frame) a cell -/
def locB (top : Bool) (sc : Scope) (x : Str) : Bool := match sc.names.lookup x with
  | some .local => true
  | some .cell => top
  | _ => false
mutual
def chkG (top : Bool) (N : List Str) (sc : Scope) : Tg → Expr → Bool
  | .one i, .Name x _ => decide (N[i]? = some x) && locB top sc x
  | .many ts, .Tuple es _ _ => chkGs top N sc ts es
  | _, _ => false
def chkGs (top : Bool) (N : List Str) (sc : Scope) : Tgs → List Expr → Bool
  | .nil, [] => true
  | .cons t ts, e :: es => noStar e && chkG top N sc t e && chkGs top N sc ts es
  | _, _ => false
end
def Es.len : Es → Nat
  | .nil => 0
  | .cons _ es => es.len + 1
mutual
def chkE (G : Gb) (N : List Str) (sc : Scope) : E → Expr → Bool
  | .var i, x => (match x with
    | .Name y _ => decide (N[i]? = some y) && visB sc y && plainNm y
    | _ => false)
  | .cst c, x => (match x with
    | .Constant k _ _ => c.is k
    | _ => false)
  | .glb k, x => (match x with
    | .Name y _ => (match G.csts[k]? with
      | some (z, _) => decide (y = z) && isGlob sc y && plainNm y
      | none => false)
    | _ => false)
  | .tup es, x => (match x with
    | .Tuple ys _ _ => chkA G N sc es ys
    | _ => false)
  | .lst es, x => (match x with
    | .List ys _ => chkA G N sc es ys
    | _ => false)
  | .op o a b, x => (match x with
    | .BinOp l p r _ => o.is p && chkE G N sc a l && chkE G N sc b r
    | _ => false)
  | .cmp o a b, x => (match x with
    | .Compare l [p] [r] _ => o.is p && noSet r && chkE G N sc a l && chkE G N sc b r
    | _ => false)
  | .chain a ch, x => (match x with
    | .Compare l (p :: q :: ps) (r :: s :: rs) _ => chkE G N sc a l && chkC G N sc ch (p :: q :: ps) (r :: s :: rs)
    | _ => false)
  | .neg a, x => (match x with
    | .UnaryOp .USub y _ => chkE G N sc a y
    | _ => false)
  | .not a, x => (match x with
    | .UnaryOp .Not y _ => chkE G N sc a y
    | _ => false)
  | .and es, x => (match x with
    | .BoolOp .And (y :: ys) _ => chkA G N sc es (y :: ys)
    | _ => false)
  | .or es, x => (match x with
    | .BoolOp .Or (y :: ys) _ => chkA G N sc es (y :: ys)
    | _ => false)
  | .ifE c a b, x => (match x with
    | .IfExp k l r _ => chkE G N sc c k && chkE G N sc a l && chkE G N sc b r
    | _ => false)
  | .isN a, x => (match x with
    | .Compare l [.Is] [k] _ => chkE G N sc a l && isNoneC k
    | _ => false)
  | .notN a, x => (match x with
    | .Compare l [.IsNot] [k] _ => chkE G N sc a l && isNoneC k
    | _ => false)
  | .idx a i, x => (match x with
    | .Subscript l r _ => chkE G N sc a l && chkE G N sc i r && noSlice r
    | _ => false)
  | .slc a lo hi, x => (match x with
    | .Subscript l (.Slice p q none _) _ => chkE G N sc a l && chkO G N sc lo p && chkO G N sc hi q
    | _ => false)
  | .rev a, x => (match x with
    | .Subscript l (.Slice none none (some (.UnaryOp .USub (.Constant (.int 1) _ _) _)) _) _ => chkE G N sc a l
    | _ => false)
  | .isi a t, x => (match x with
    | .Call (.Name f _) [l, .Name y _] [] _ => decide (f = "isinstance") && isGlob sc f && noStar l && chkE G N sc a l && decide (y = tyNm t) && isGlob sc y
    | _ => false)
  | .blt b es, x => (match x with
    | .Call (.Name f _) (y :: ys) [] _ => decide (f = bltNm b) && isGlob sc f && chkA G N sc es (y :: ys)
    | _ => false)
  | .call j es, x => (match x with
    | .Call (.Name f _) (y :: ys) [] _ => (match G.fns[j]? with
      | some F => decide (f = F.name) && isGlob sc f && plainNm f && decide (es.len = F.ar) && chkA G N sc es (y :: ys)
      | none => false)
    | _ => false)
  | .comp elt tg it ifs own, x => (match x with
    | .ListComp y [⟨t, i, fs, 0⟩] scope _ => chkI G N sc it i && noSet i && blkC N sc scope own && chkG false N (relS scope sc) tg t && (tg.slots.all fun k => decide (k ∈ own.map (·.2))) && chkF G N (relS scope sc) ifs fs && chkE G N (relS scope sc) elt y
    | _ => false)
def chkA (G : Gb) (N : List Str) (sc : Scope) : Es → List Expr → Bool
  | .nil, ys => (match ys with
    | [] => true
    | _ => false)
  | .cons e es, ys => (match ys with
    | y :: r => noStar y && chkE G N sc e y && chkA G N sc es r
    | _ => false)
def chkO (G : Gb) (N : List Str) (sc : Scope) : Oe → Option Expr → Bool
  | .no, y => (match y with
    | none => true
    | _ => false)
  | .yes e, y => (match y with
    | some z => chkE G N sc e z
    | none => false)
def chkF (G : Gb) (N : List Str) (sc : Scope) : Oe → List Expr → Bool
  | .no, y => (match y with
    | [] => true
    | _ => false)
  | .yes e, y => (match y with
    | [z] => chkE G N sc e z
    | _ => false)
def chkI (G : Gb) (N : List Str) (sc : Scope) : Itb → Expr → Bool
  | .seq e, y => chkE G N sc e y
  | .rng es, y => (match y with
    | .Call (.Name f _) (z :: zs) [] _ => decide (f = "range") && isGlob sc f && chkA G N sc es (z :: zs) && (decide (es.len = 1) || decide (es.len = 2))
    | _ => false)
def chkC (G : Gb) (N : List Str) (sc : Scope) : Ch → List CmpOp → List Expr → Bool
  | .last o b, ps, rs => (match ps, rs with
    | [p], [r] => o.is p && noSet r && chkE G N sc b r
    | _, _ => false)
  | .link o b ch, ps, rs => (match ps, rs with
    | p :: q :: ps, r :: s :: rs => o.is p && chkE G N sc b r && chkC G N sc ch (q :: ps) (s :: rs)
    | _, _ => false)
end
end
end DD

namespace DD
noncomputable section
open PySem PySem.Spec PyProof.Rows L2

def Cst.v : Cst → V
  | .none => .non
  | .bool b => .bl b
  | .int i => .int i
  | .str x => .str x
theorem Cst.dd (c : Cst) (K : PySem.W.Frag) (H : Hp) : Dd K H c.v c.d := by
  cases c <;> constructor
def bltNames : List Str := ["len", "sum", "max", "min", "abs", "int", "list", "tuple", "isinstance", "bool", "str", "range", "enumerate", "zip", "sorted", "set"]
structure MdOk (P : Program) (w : World) (K : PySem.W.Frag) (mg : Str → Option Value) (base : Heap) (G : Gb) (k : Nat) : Prop where
  blt : ∀ x, x ∈ bltNames → mg x = none
  cst : ∀ (j : Nat) z c, G.csts[j]? = some (z, c) → ∃ u, mg z = some u ∧ RelV (Cst.v c) u
  exc : ∀ (j : Nat) x, G.excs[j]? = some x → G.rz[j]? = some true → ∃ C, mg x = some (.ref C) ∧ PySem.W.excIn K C [.type "ValueError", .type "Exception", .type "BaseException", .type "object"] "ValueError.__new__" = true ∧ PySem.W.keepIn K (.ref C) = true ∧ PySem.W.subIn K (.ref C) (.type "BaseException") = some true ∧ PySem.W.typeIn K (.ref C) = some (.type "type")
  xc : ∀ (j : Nat) x C, G.excs[j]? = some x → mg x = some (.ref C) → ExcC K C
  xg : ∀ (j : Nat) x, G.excs[j]? = some x → ∃ C, mg x = some (.ref C)
  xx : ∀ (j l : Nat) x y C D, G.excs[j]? = some x → G.excs[l]? = some y → mg x = some (.ref C) → mg y = some (.ref D) → PySem.W.exmOne K (.ref C) (.ref D) = some (G.sub j l) ∧ PySem.W.kitOne K (.ref C) (.ref D) = some (G.sub j l)
  fns : ∀ (j : Nat) F, G.fns[j]? = some F → ∃ f fd ps kk, kk ≤ k ∧ ps.length = F.ar ∧ FnOk P w K mg base (L2.CX P w) kk f fd ps (spOf F.nw K mg G.excs ps.length F.phi) ∧ mg F.name = some (.ref f) ∧ PySem.W.keepIn K (.ref f) = true ∧ Binds K fd ps []
structure Cc (X : Cx) (G : Gb) (N : List Str) (sc : Scope) (top : Bool) (k : Nat) : Prop where
  hN : X.N = N
  nd : N.Nodup
  hsc : X.env.scope = sc
  calm : X.calm = true
  room : Room k X.A
  fn : top = true → ∀ x, X.fn x = true
  mod : MdOk X.prog X.w X.K X.mg X.base G k
theorem Cc.blk {X : Cx} {G : Gb} {N : List Str} {sc : Scope} {top : Bool} {k : Nat} (c : Cc X G N sc top k) (s : Shared) (H : Hp) (scope : Scope) (cl : List (Str × Addr)) (C : Addr) (fp : List Addr) :
    Cc (X.blk s H scope (compEnvC scope cl C X.env) fp) G N (relS scope sc) false k where
  hN := c.hN
  nd := c.nd
  hsc := by rw [← c.hsc]; rfl
  calm := c.calm
  room := c.room
  fn := fun e => nomatch e
  mod := c.mod
theorem star1 {x : Expr} {es : List Expr} {env : Env} (h : noStar x = true) : starEach (x :: es) env = (false, eval x env) :: starEach es env := by
  cases x <;> first | rfl | (simp [noStar] at h)
theorem tg_star {x : Expr} {es : List Expr} {env : Env} (h : noStar x = true) : assignEach (x :: es) env = (false, assign x env) :: assignEach es env := by
  cases x <;> first | rfl | (simp [noStar] at h)
def noStars : List Expr → Bool
  | [] => true
  | x :: r => noStar x && noStars r
theorem back_star {pos : Pos} : ∀ {es : List Expr} {env : Env}, noStars es = true → (backTo pos (starEach es env)).any (·.1) = false
  | [], _, _ => rfl
  | x :: r, env, h => by
    unfold noStars at h
    rw [Bool.and_eq_true] at h
    rw [star1 h.1]
    show (false || (backTo pos (starEach r env)).any (·.1)) = false
    rw [back_star h.2]
    rfl
theorem chkA_stars {G : Gb} {N : List Str} {sc : Scope} : ∀ {es : Es} {ys : List Expr}, chkA G N sc es ys = true → noStars ys = true ∧ ys.length = es.len
  | .nil, ys, h => by
    unfold chkA at h
    cases ys with
    | nil => exact ⟨rfl, rfl⟩
    | cons y r => cases h
  | .cons e es, ys, h => by
    unfold chkA at h
    cases ys with
    | nil => cases h
    | cons y r =>
      simp only [Bool.and_eq_true] at h
      obtain ⟨h1, h2⟩ := chkA_stars h.2
      refine ⟨?_, ?_⟩
      · unfold noStars
        rw [h.1.1, h1]
        rfl
      · rw [List.length_cons, h2]
        rfl
theorem evalA_len {G : Gb} : ∀ {es : Es} {ρ : Rho} {ds : List D}, evalA G es ρ = some (.ok ds) → ds.length = es.len
  | .nil, ρ, ds, h => by
    unfold evalA at h
    cases h
    rfl
  | .cons e es, ρ, ds, h => by
    unfold evalA consA at h
    split at h
    · split at h
      · rename_i d _ _ ds' e2
        cases h
        rw [List.length_cons, evalA_len e2]
        rfl
      · cases h
      · cases h
    · cases h
    · cases h
theorem vis_of {sc : Scope} {x : Str} (h : visB sc x = true) : Vis sc x := by
  unfold visB at h
  unfold Vis
  cases e : sc.names.lookup x with
  | none => rw [e] at h; cases h
  | some k =>
    rw [e] at h
    cases k <;> first | exact .inl rfl | exact .inr (.inl rfl) | exact .inr (.inr rfl) | cases h
theorem plain_of {x : Str} (h : plainNm x = true) : (x == ("__debug__" : Str)) = false ∧ (x == ("__classdict__" : Str)) = false ∧ x ≠ "__name__" := by
  unfold plainNm at h
  simp only [Bool.and_eq_true, Bool.not_eq_true', decide_eq_true_eq] at h
  exact ⟨h.1.1, h.1.2, h.2⟩
theorem noset_marks {op : CmpOp} {x : Expr} (h : noSet x = true) : behindInMarks op x = false := by
  cases x <;> first | rfl | (simp [noSet] at h)
theorem noset_fold {x : Expr} {env : Env} (h : noSet x = true) : ∀ v, foldedSetIterable x env v = pure v := by
  intro v
  cases x <;> first | rfl | (simp [noSet] at h)
theorem noslice_plain {x : Expr} (h : noSlice x = true) : PlainIx x := by
  intro o i
  cases x <;> first | rfl | (simp [noSlice] at h)

/-! ### the operators -/
def O2.toOp : O2 → Operator
  | .add => .Add
  | .sub => .Sub
  | .mul => .Mult
  | .fdiv => .FloorDiv
  | .mod => .Mod
  | .pow => .Pow
theorem O2.is_eq {o : O2} {p : Operator} (h : o.is p = true) : p = o.toOp := by
  unfold O2.is at h
  split at h <;> first | rfl | cases h
def C2.toOp : C2 → CmpOp
  | .eq => .Eq
  | .ne => .NotEq
  | .lt => .Lt
  | .le => .LtE
  | .gt => .Gt
  | .ge => .GtE
  | .isin => .In
  | .notin => .NotIn
theorem C2.is_eq {o : C2} {p : CmpOp} (h : o.is p = true) : p = o.toOp := by
  unfold C2.is at h
  split at h <;> first | rfl | cases h
theorem opR_of {X : Cx} {o : O2} {p : Operator} (h : o.is p = true) : ∃ r, OpR X (binaryOp p) r ∧ Op2Ok true X.K r (sem2 o) := by
  rw [O2.is_eq h]
  cases o with
  | add => exact ⟨_, op_add2, ok_add⟩
  | sub => exact ⟨_, op_sub, ok_sub⟩
  | mul => exact ⟨_, op_mul2, ok_mul⟩
  | fdiv => exact ⟨_, op_fdiv, ok_fdiv⟩
  | mod => exact ⟨_, op_mod, ok_mod⟩
  | pow => exact ⟨_, op_pow, ok_pow⟩
theorem cmpR_of {X : Cx} {k : Nat} {o : C2} {p : CmpOp} (hr : Room k X.A) (h : o.is p = true) : ∃ r, OpR X (compareOp p) r ∧ Op2Ok true X.K r (semC o) := by
  have h65 : X.A.units + 65 < cLine := by have := hr.un; omega
  rw [C2.is_eq h]
  cases o with
  | eq => exact ⟨_, op_eqD hr.units, ok_eq⟩
  | ne => exact ⟨_, op_neD hr.units, ok_ne⟩
  | lt => exact ⟨_, op_lt, ok_lt⟩
  | le => exact ⟨_, op_le, ok_le⟩
  | gt => exact ⟨_, op_gt, ok_gt⟩
  | ge => exact ⟨_, op_ge, ok_ge⟩
  | isin => exact ⟨_, op_in_seq.or (op_inD h65), ok_in⟩
  | notin => exact ⟨_, op_notIn_seq.or (op_notInD h65), ok_notin⟩
theorem semC_bool {o : C2} {d e z : D} (h : semC o d e = some z) : ∃ b, z = .bool b := by
  cases o with
  | eq => simp only [semC, eqD] at h; split at h <;> cases h; exact ⟨_, rfl⟩
  | ne => simp only [semC, neD] at h; split at h <;> cases h; exact ⟨_, rfl⟩
  | lt => simp only [semC] at h; unfold ltD at h; split at h <;> cases h; exact ⟨_, rfl⟩
  | le => simp only [semC] at h; unfold leD at h; split at h <;> cases h; exact ⟨_, rfl⟩
  | gt => simp only [semC] at h; unfold gtD at h; split at h <;> cases h; exact ⟨_, rfl⟩
  | ge => simp only [semC] at h; unfold geD at h; split at h <;> cases h; exact ⟨_, rfl⟩
  | isin =>
    simp only [semC] at h
    cases e1 : inD d e with
    | none => rw [e1] at h; cases h
    | some b => rw [e1] at h; cases h; exact ⟨_, rfl⟩
  | notin =>
    simp only [semC] at h
    cases e1 : inD d e with
    | none => rw [e1] at h; cases h
    | some b => rw [e1] at h; cases h; exact ⟨_, rfl⟩
theorem ok_neg {K : PySem.W.Frag} : Op1Ok true K (rU fun i => .int (-i)) negD := by
  intro H0 H x d1 d Q s h1 e q
  unfold negD at e
  split at e
  · cases e
    cases h1.int
    exact ⟨_, rfl, rs_flat s (.int _) q⟩
  · cases e
theorem bltB_of {X : Cx} (hc : X.calm = true) (b : Bl) : (∃ id r, bootBuiltins (bltNm b) = some (.builtin id) ∧ CallR X (.builtin id) r ∧ OpAOk true X.K r (semB b)) ∨ (∃ T r, bootBuiltins (bltNm b) = some (.type T) ∧ CallR X (.type T) r ∧ OpAOk true X.K r (semB b)) := by
  cases b with
  | len => exact .inl ⟨_, _, by decide +kernel, call_len_seq, ok_len⟩
  | sum => exact .inl ⟨_, _, by decide +kernel, (cr_sum hc).or (cr_sumT hc), ok_sum⟩
  | max => exact .inl ⟨_, _, by decide +kernel, (cr_max hc).or (call_max2 hc), ok_max⟩
  | min => exact .inl ⟨_, _, by decide +kernel, (cr_min hc).or (call_min2 hc), ok_min⟩
  | abs => exact .inl ⟨_, _, by decide +kernel, call_abs, ok_abs⟩
  | int => exact .inr ⟨_, _, by decide +kernel, call_int1, ok_int⟩
  | list => exact .inr ⟨_, _, by decide +kernel, call_list_of, ok_list⟩
  | tuple => exact .inr ⟨_, _, by decide +kernel, call_tuple_of, ok_tuple⟩
theorem blt_mem (b : Bl) : bltNm b ∈ bltNames := by cases b <;> decide
theorem ty_mem (t : Ty) : tyNm t ∈ bltNames := by cases t <;> decide
theorem ty_boot (t : Ty) : bootBuiltins (tyNm t) = some (.type t.nm) := by cases t <;> decide +kernel
theorem blt_plain (b : Bl) : bltNm b ≠ "__name__" ∧ (bltNm b == ("__debug__" : Str)) = false := by cases b <;> exact ⟨by decide, by decide⟩
theorem ty_plain (t : Ty) : tyNm t ≠ "__name__" ∧ (tyNm t == ("__debug__" : Str)) = false := by cases t <;> exact ⟨by decide, by decide⟩

/-! ### targets -/
section
variable {X : Cx} {G : Gb} {N : List Str} {sc : Scope} {top : Bool} {k : Nat}
theorem loc_of {x : Str} (c : Cc X G N sc top k) (h : locB top sc x = true) : L2.Loc X.env.scope x ∧ (X.fn x = true ∨ X.env.scope.names.lookup x = some .local) := by
  unfold locB at h
  rw [c.hsc]
  cases e : sc.names.lookup x with
  | none => rw [e] at h; cases h
  | some kd =>
    rw [e] at h
    cases kd <;> first
      | exact ⟨.inl e, .inr rfl⟩
      | exact ⟨.inr e, .inl (c.fn h x)⟩
      | cases h
mutual
theorem sndG (c : Cc X G N sc top k) : ∀ (t : Tg) (e : Expr), chkG top N sc t e = true → PG X e (TauG X.K t.slots t.bind)
  | .one i, e, h => by
    cases e with
    | Name x p =>
      unfold chkG at h
      simp only [Bool.and_eq_true, decide_eq_true_eq] at h
      obtain ⟨h1, h2⟩ := loc_of c h.2
      exact jg_one (by rw [c.hN]; exact c.nd) (by rw [c.hN]; exact h.1) h1 h2
    | _ => unfold chkG at h; cases h
  | .many ts, e, h => by
    cases e with
    | Tuple es kk p =>
      unfold chkG at h
      obtain ⟨h1, h2, h3⟩ := sndGs c ts es h
      exact jg_many c.calm h1 h2 h3
    | _ => unfold chkG at h; cases h
theorem sndGs (c : Cc X G N sc top k) : ∀ (ts : Tgs) (es : List Expr), chkGs top N sc ts es = true → PGs X es (TauGs X.K ts.slots ts.bind) ∧ (assignEach es X.env).length = ts.len ∧ (assignEach es X.env).findIdx? (·.1) = none
  | .nil, es, h => by
    cases es with
    | nil => exact ⟨jgs_nil, rfl, rfl⟩
    | cons e r => unfold chkGs at h; cases h
  | .cons t ts, es, h => by
    cases es with
    | nil => unfold chkGs at h; cases h
    | cons e r =>
      unfold chkGs at h
      simp only [Bool.and_eq_true] at h
      obtain ⟨h1, h2, h3⟩ := sndGs c ts r h.2
      refine ⟨jgs_cons (sndG c t e h.1.2) h1 (by rw [tg_star h.1.1]; rfl), ?_, ?_⟩
      · rw [tg_star h.1.1, List.length_cons, h2]
        rfl
      · rw [tg_star h.1.1, List.findIdx?_cons]
        rw [h3]
        rfl
end
end

/-! ### a chain of comparisons -/
section
variable {X : Cx} {G : Gb} {xs : List Str} {W : WX}
def JC (X : Cx) (xs : List Str) (W : WX) (ops : List CmpOp) (es : List Expr) (m : D → Rho → Option Res) : Prop :=
  (∀ (pos : Pos) (pins : List (Addr × Obj)) (s : Shared) (σ : L2.St) (H H0 : Hp) (en : Ent) (ρ : Rho) (v : V) (u : Value) (d : D) (Q : VK), Inv X pins σ H s → R X.K en ρ H0 σ H → RB X.K H0 H v d → RelV v u → PostR X.K X.mg xs W .new σ H0 H Q (m d ρ) →
    wpAny (model X.prog X.w) X.A (compareChain pos u ops (evalEach es X.env)) (EP X pins σ Q) X.xe s) ∧
  (∀ (pos : Pos) (pins : List (Addr × Obj)) (s : Shared) (σ : L2.St) (H H0 : Hp) (en : Ent) (ρ : Rho) (v : V) (u : Value) (d : D) (Q : Bool → Hp → Prop), Inv X pins σ H s → R X.K en ρ H0 σ H → RB X.K H0 H v d → RelV v u → PostB X.K X.mg xs W σ H0 H Q (tstB (m d) ρ) →
    wpAny (model X.prog X.w) X.A (testChain pos u ops (evalEach es X.env)) (TP X pins σ Q) X.xe s)
def lastC (o : C2) (mb : Rho → Option Res) : D → Rho → Option Res := fun d ρ => match mb ρ with
  | some (.ok e) => (match boolRes (semC o d e) with
    | some k => some (.ok (.bool k))
    | none => none)
  | some (.exc c p) => some (.exc c p)
  | none => none
def linkC (o : C2) (mb : Rho → Option Res) (r : D → Rho → Option Res) : D → Rho → Option Res := fun d ρ => match mb ρ with
  | some (.ok e) => (match boolRes (semC o d e) with
    | some true => r e ρ
    | some false => some (.ok (.bool false))
    | none => none)
  | some (.exc c p) => some (.exc c p)
  | none => none
theorem boolRes_of {x : Option D} {k : Bool} (h : boolRes x = some k) : x = some (.bool k) := by
  unfold boolRes at h
  split at h
  · cases h; rfl
  · cases h
theorem postR_trans {K : PySem.W.Frag} {mg : Str → Option Value} {σ : L2.St} {H0 H H0' H' : Hp} {Q : VK} {r : Option Res} (x1 : Ext H0 H H0' H') (p : PostR K mg xs W .new σ H0 H Q r) : PostR K mg xs W .new σ H0' H' Q r := by
  cases r with
  | none => exact p
  | some r =>
    cases r with
    | exc c q => exact fun cls dd A B x2 z2 => p cls dd A B (x1.trans x2) z2
    | ok d =>
      intro v A B x2 z2
      refine p v A B (x1.trans x2) ?_
      have z2' : RS true K H' A B v d := z2
      exact RS.rz (n := true) x1.s z2'
theorem jc_last {o : C2} {p : CmpOp} {b : Expr} {sb : Src} {mb : Rho → Option Res} {r : R2} (ho : OpR X (compareOp p) r) (hf : Op2Ok true X.K r (semC o)) (hb : JE X xs W b sb mb) : JC X xs W [p] [b] (lastC o mb) := by
  refine ⟨fun pos pins s σ H H0 en ρ v u d Q I rr hv ru q => ?_, fun pos pins s σ H H0 en ρ v u d Q I rr hv ru q => ?_⟩
  · refine chain_last (thn (hb.run pins s σ H (fun y H2 => r v y H2 Q) I ⟨en, ρ, H0, rr, ?_⟩) fun w s2 ⟨y, H2, I2, r2, q2⟩ => ho pins s2 σ H2 v y u w Q I2 ru r2 q2)
    unfold lastC at q
    cases e1 : mb ρ with
    | none => rw [e1] at q; exact q.elim
    | some r1 =>
      rw [e1] at q
      cases r1 with
      | exc c z => exact q
      | ok e =>
        intro y A B x1 z1
        dsimp only at q
        cases e2 : boolRes (semC o d e) with
        | none => rw [e2] at q; exact q.elim
        | some k =>
          rw [e2] at q
          exact hf A B v y d e (.bool k) Q x1.sub (hv.mono x1) z1.rb (boolRes_of e2) fun v3 A3 B3 x3 z3 => q v3 A3 B3 (x1.trans x3) (RS.rz (n := true) x1.s z3)
  · refine test_last (thn (hb.run pins s σ H (fun y H2 => r v y H2 fun z H3 => ∃ k, z = .bl k ∧ Q k H3) I ⟨en, ρ, H0, rr, ?_⟩) fun w s2 ⟨y, H2, I2, r2, q2⟩ => thn (ho pins s2 σ H2 v y u w _ I2 ru r2 q2) fun c s3 ⟨z, H3, I3, r3, k, e, q3⟩ => ?_)
    · unfold tstB lastC at q
      cases e1 : mb ρ with
      | none => rw [e1] at q; exact q.elim
      | some r1 =>
        rw [e1] at q
        cases r1 with
        | exc c z => exact q
        | ok e =>
          intro y A B x1 z1
          dsimp only at q
          cases e2 : boolRes (semC o d e) with
          | none => rw [e2] at q; exact q.elim
          | some k =>
            rw [e2] at q
            refine hf A B v y d e (.bool k) _ x1.sub (hv.mono x1) z1.rb (boolRes_of e2) fun v3 A3 B3 x3 z3 => ⟨k, ?_, q A3 B3 (x1.trans x3)⟩
            exact z3.rb.bool
    · subst e
      cases r3
      exact wpAny_truthy_bool ⟨H3, I3, q3⟩
theorem jc_link {o : C2} {p p' : CmpOp} {ps : List CmpOp} {b b' : Expr} {bs : List Expr} {sb : Src} {mb : Rho → Option Res} {r : R2} {mr : D → Rho → Option Res} (ho : OpR X (compareOp p) r) (hf : Op2Ok true X.K r (semC o)) (hb : JE X xs W b sb mb) (hr : JC X xs W (p' :: ps) (b' :: bs) mr) :
    JC X xs W (p :: p' :: ps) (b :: b' :: bs) (linkC o mb mr) := by
  refine ⟨fun pos pins s σ H H0 en ρ v u d Q I rr hv ru q => ?_, fun pos pins s σ H H0 en ρ v u d Q I rr hv ru q => ?_⟩
  · refine chain_link (thn (hb.run pins s σ H (fun y H2 => r v y H2 fun z H3 => ∃ k, z = .bl k ∧ (k = false → Q (.bl false) H3) ∧ (k = true → ∃ e H03, R X.K en ρ H03 σ H3 ∧ RB X.K H03 H3 y e ∧ PostR X.K X.mg xs W .new σ H03 H3 Q (mr e ρ))) I ⟨en, ρ, H0, rr, ?_⟩) fun w s2 ⟨y, H2, I2, r2, q2⟩ =>
      thn (ho pins s2 σ H2 v y u w _ I2 ru r2 q2) fun c s3 ⟨z, H3, I3, r3, k, e, q3, q4⟩ => ?_)
    · unfold linkC at q
      cases e1 : mb ρ with
      | none => rw [e1] at q; exact q.elim
      | some r1 =>
        rw [e1] at q
        cases r1 with
        | exc c z => exact q
        | ok e =>
          intro y A B x1 z1
          dsimp only at q
          cases e2 : boolRes (semC o d e) with
          | none => rw [e2] at q; exact q.elim
          | some k =>
            rw [e2] at q
            refine hf A B v y d e (.bool k) _ x1.sub (hv.mono x1) z1.rb (boolRes_of e2) fun v3 A3 B3 x3 z3 => ⟨k, z3.rb.bool, fun ek => ?_, fun ek => ?_⟩
            · subst ek
              exact q _ A3 B3 (x1.trans x3) (.inl ⟨.bl false, fun _ => rfl⟩)
            · subst ek
              exact ⟨e, A3, (rr.mono x1).mono x3, z1.rb.mono x3, postR_trans (x1.trans x3) q⟩
    · subst e
      cases r3
      refine wpAny_truthy_bool ?_
      cases k with
      | false => exact ite_ff ⟨.bl false, H3, I3, rfl, q3 rfl⟩
      | true =>
        obtain ⟨e, H03, r4, h4, p4⟩ := q4 rfl
        exact ite_tt (hr.1 pos pins s3 σ H3 H03 en ρ y w e Q I3 r4 h4 r2 p4)
  · refine test_link (thn (hb.run pins s σ H (fun y H2 => r v y H2 fun z H3 => ∃ k, z = .bl k ∧ (k = false → Q false H3) ∧ (k = true → ∃ e H03, R X.K en ρ H03 σ H3 ∧ RB X.K H03 H3 y e ∧ PostB X.K X.mg xs W σ H03 H3 Q (tstB (mr e) ρ))) I ⟨en, ρ, H0, rr, ?_⟩) fun w s2 ⟨y, H2, I2, r2, q2⟩ =>
      thn (ho pins s2 σ H2 v y u w _ I2 ru r2 q2) fun c s3 ⟨z, H3, I3, r3, k, e, q3, q4⟩ => ?_)
    · unfold tstB linkC at q
      cases e1 : mb ρ with
      | none => rw [e1] at q; exact q.elim
      | some r1 =>
        rw [e1] at q
        cases r1 with
        | exc c z => exact q
        | ok e =>
          intro y A B x1 z1
          dsimp only at q
          cases e2 : boolRes (semC o d e) with
          | none => rw [e2] at q; exact q.elim
          | some k =>
            rw [e2] at q
            refine hf A B v y d e (.bool k) _ x1.sub (hv.mono x1) z1.rb (boolRes_of e2) fun v3 A3 B3 x3 z3 => ⟨k, z3.rb.bool, fun ek => ?_, fun ek => ?_⟩
            · subst ek
              exact q A3 B3 (x1.trans x3)
            · subst ek
              exact ⟨e, A3, (rr.mono x1).mono x3, z1.rb.mono x3, postB_trans (x1.trans x3) q⟩
    · subst e
      cases r3
      refine wpAny_truthy_bool ?_
      cases k with
      | false => exact ite_ff ⟨H3, I3, q3 rfl⟩
      | true =>
        obtain ⟨e, H03, r4, h4, p4⟩ := q4 rfl
        exact ite_tt (hr.2 pos pins s3 σ H3 H03 en ρ y w e Q I3 r4 h4 r2 p4)
def chainV (ma : Rho → Option Res) (mc : D → Rho → Option Res) : Rho → Option Res := fun ρ => match ma ρ with
  | some (.ok d) => mc d ρ
  | some (.exc c p) => some (.exc c p)
  | none => none
theorem je_chain {a : Expr} {sa : Src} {ma : Rho → Option Res} {p q : CmpOp} {ps : List CmpOp} {b c : Expr} {bs : List Expr} {mc : D → Rho → Option Res} {pos : Pos} (ha : JE X xs W a sa ma) (hc : JC X xs W (p :: q :: ps) (b :: c :: bs) mc) (hm : lastMarks (p :: q :: ps) (b :: c :: bs) = false) :
    JE X xs W (.Compare a (p :: q :: ps) (b :: c :: bs) pos) .new (chainV ma mc) ∧ JT X xs W (.Compare a (p :: q :: ps) (b :: c :: bs) pos) (tstB (chainV ma mc)) := by
  refine ⟨⟨fun pins s σ H Q I h => ?_⟩, ⟨fun pins s σ H Q I h => ?_⟩⟩
  · obtain ⟨en, ρ, H0, rr, z⟩ := h
    refine Compare_chain (thn (ha.run pins s σ H (fun v H1 => ∃ d H01, R X.K en ρ H01 σ H1 ∧ RB X.K H01 H1 v d ∧ PostR X.K X.mg xs W .new σ H01 H1 Q (mc d ρ)) I ⟨en, ρ, H0, rr, ?_⟩) fun u s1 ⟨v, H1, I1, r1, d, H01, r2, h2, p2⟩ => hc.1 pos pins s1 σ H1 H01 en ρ v u d Q I1 r2 h2 r1 p2) hm
    unfold chainV at z
    cases e1 : ma ρ with
    | none => rw [e1] at z; exact z.elim
    | some r1 =>
      rw [e1] at z
      cases r1 with
      | exc c z' => exact z
      | ok d => exact fun v A B x1 z1 => ⟨d, A, rr.mono x1, z1.rb, postR_trans x1 z⟩
  · obtain ⟨en, ρ, H0, rr, z⟩ := h
    refine isTrue_chain (thn (ha.run pins s σ H (fun v H1 => ∃ d H01, R X.K en ρ H01 σ H1 ∧ RB X.K H01 H1 v d ∧ PostB X.K X.mg xs W σ H01 H1 Q (tstB (mc d) ρ)) I ⟨en, ρ, H0, rr, ?_⟩) fun u s1 ⟨v, H1, I1, r1, d, H01, r2, h2, p2⟩ => hc.2 pos pins s1 σ H1 H01 en ρ v u d Q I1 r2 h2 r1 p2) hm
    unfold tstB chainV at z
    cases e1 : ma ρ with
    | none => rw [e1] at z; exact z.elim
    | some r1 =>
      rw [e1] at z
      cases r1 with
      | exc c z' => exact z
      | ok d => exact fun v A B x1 z1 => ⟨d, A, rr.mono x1, z1.rb, postB_trans x1 z⟩
end
end
end DD

namespace DD
noncomputable section
open PySem PySem.Spec PyProof.Rows L2

section
variable {X : Cx} {xs : List Str} {W : WX} {a : Expr} {ma : Rho → Option Res}
theorem keep_weak {src : Src} {m : Rho → Option Res} (hs : ∀ i, src = .slot i → m = fun ρ => slotVal ρ i) {ρ : Rho} {r : Res} (h : keep src m ρ = some r) : m ρ = some r := by
  unfold keep at h
  cases src with
  | new => exact h
  | any => exact h
  | slot i =>
    rw [hs i rfl]
    dsimp only at h ⊢
    unfold keepV at h
    unfold slotVal
    cases e : ρ[i]? with
    | none => rw [e] at h; cases h
    | some s0 =>
      rw [e] at h
      cases s0 with
      | none => cases h
      | some fd =>
        obtain ⟨fl, d⟩ := fd
        dsimp only at h ⊢
        split at h
        · exact h
        · cases h
theorem tst_weak {m m' : Rho → Option Res} (h : ∀ ρ r, m' ρ = some r → m ρ = some r) : ∀ ρ r, tstB m' ρ = some r → tstB m ρ = some r := by
  intro ρ r e
  unfold tstB at e ⊢
  cases e1 : m' ρ with
  | none => rw [e1] at e; cases e
  | some z => rw [e1] at e; rw [h ρ z e1]; exact e
theorem both {src : Src} (j : JE X xs W a src ma) (he : ∀ whole, isTrue a X.env whole = (do let v ← whole; standAt a.pos; holding [v] (truthy v))) : JE X xs W a src ma ∧ JT X xs W a (tstB ma) := ⟨j, jt_truth j he⟩
theorem call_any {nw : Bool} (j : JE X xs W a (Src.nw nw) ma) : JE X xs W a .any ma := by
  cases nw with
  | false => exact j
  | true =>
    refine pe_of j fun σ H Q z => ?_
    obtain ⟨en, ρ, H0, rr, p⟩ := z
    refine ⟨en, ρ, H0, rr, ?_⟩
    cases e1 : ma ρ with
    | none => rw [e1] at p; exact p.elim
    | some r1 =>
      rw [e1] at p
      cases r1 with
      | exc c q => exact p
      | ok d => exact fun v A B x1 z1 => p v A B x1 (RS.weak (n := true) z1)
theorem jad_tup {e : Expr} {m : Rho → Option Res} (h : JD X xs W e m) : JE X xs W e .any m := je_of_jd h
end
theorem src_slot {G : Gb} : ∀ {e : E} {i : Nat}, e.src = .slot i → evalE G e = fun ρ => slotVal ρ i := by
  intro e i h
  cases e <;> first | (simp only [E.src] at h; cases h; rfl) | (simp only [E.src] at h; cases h)
theorem srcG_slot {G : Gb} : ∀ {e : E} {i : Nat}, e.srcG G = .slot i → e.src = .slot i := by
  intro e i h
  cases e <;> first | exact h | skip
  simp only [E.srcG] at h
  split at h
  · rename_i F _
    cases hn : F.nw <;> (rw [hn] at h; cases h)
  · cases h
theorem keep_srcG {G : Gb} {e : E} {m : Rho → Option Res} : keep (e.srcG G) m = keep e.src m := by
  cases e <;> first | rfl | skip
  funext ρ
  simp only [E.srcG, E.src]
  split
  · rename_i F _
    cases F.nw <;> rfl
  · rfl
theorem seqI_srcG {G : Gb} {e : E} {m : Rho → Option Res} : seqI (e.srcG G) m = seqI e.src m := by
  cases e <;> first | rfl | skip
  funext ρ
  simp only [E.srcG, E.src]
  split
  · rename_i F _
    cases F.nw <;> rfl
  · rfl
/-- settled, of an expression of the language -/
theorem jd_E {G : Gb} {X : Cx} {W : WX} {e : E} {x : Expr} (h : JE X G.excs W x (e.srcG G) (evalE G e)) : JD X G.excs W x (keep e.src (evalE G e)) := by
  rw [← keep_srcG]
  exact jd_of h fun i q => src_slot (srcG_slot q)
theorem lastMarks_cons {p q : CmpOp} {ps : List CmpOp} {b c : Expr} {bs : List Expr} : lastMarks (p :: q :: ps) (b :: c :: bs) = lastMarks (q :: ps) (c :: bs) := rfl
theorem chkC_marks {G : Gb} {N : List Str} {sc : Scope} : ∀ {ch : Ch} {ps : List CmpOp} {rs : List Expr}, chkC G N sc ch ps rs = true → lastMarks ps rs = false
  | .last o b, ps, rs, h => by
    unfold chkC at h
    split at h
    · simp only [Bool.and_eq_true] at h
      show behindInMarks _ _ = false
      exact noset_marks h.1.2
    · cases h
  | .link o b ch, ps, rs, h => by
    unfold chkC at h
    split at h
    · simp only [Bool.and_eq_true] at h
      rw [lastMarks_cons]
      exact chkC_marks h.2
    · cases h

set_option maxHeartbeats 1000000 in
mutual
theorem sndE {G : Gb} {N : List Str} : ∀ (e : E) (sc : Scope) (x : Expr) (X : Cx) (W : WX) (top : Bool) (k : Nat), chkE G N sc e x = true → Cc X G N sc top k → Takes X W → JE X G.excs W x (e.srcG G) (evalE G e) ∧ JT X G.excs W x (tstB (evalE G e))
  | .var i, sc, x, X, W, top, k, h, c, tk => by
    unfold chkE at h
    split at h
    · simp only [Bool.and_eq_true, decide_eq_true_eq] at h
      obtain ⟨h1, h2, _⟩ := plain_of h.2
      exact both (je_var (by rw [c.hN]; exact h.1.1) (by rw [c.hsc]; exact vis_of h.1.2) h1 h2) (fun _ => rfl)
    · cases h
  | .cst cc, sc, x, X, W, top, k, h, c, tk => by
    unfold chkE at h
    split at h
    · rename_i kc _ _
      refine both (src := .new) (ma := fun _ => some (.ok cc.d)) ?_ (fun _ => rfl)
      · unfold Cst.is at h
        split at h
        · exact je_val pe_non (fun _ => .non) rfl
        · have e := eq_of_beq h
          subst e
          exact je_val pe_bl (fun _ => .bl _) rfl
        · have e := of_decide_eq_true h
          subst e
          exact je_val pe_int (fun _ => .int _) rfl
        · have e := of_decide_eq_true h
          subst e
          exact je_val pe_str (fun _ => .str _) rfl
        · cases h
    · cases h
  | .glb kk, sc, x, X, W, top, k, h, c, tk => by
    unfold chkE at h
    split at h
    · split at h
      · rename_i z cc ez
        simp only [Bool.and_eq_true, decide_eq_true_eq] at h
        obtain ⟨⟨ey, h2⟩, h3⟩ := h
        subst ey
        obtain ⟨hd, _, _⟩ := plain_of h3
        obtain ⟨u, hm, r⟩ := c.mod.cst kk _ cc ez
        have q : evalE G (.glb kk) = fun _ => some (.ok cc.d) := by
          funext ρ
          unfold evalE
          rw [ez]
        rw [q]
        refine both (src := .new) (je_val (pe_glob ?_ hm r hd) (fun H0 => cc.dd _ _) (by cases cc <;> rfl)) (fun _ => rfl)
        show X.env.scope.names.lookup _ = _
        rw [c.hsc]
        exact of_decide_eq_true h2
      · cases h
    · cases h
  | .tup es, sc, x, X, W, top, k, h, c, tk => by
    unfold chkE at h
    split at h
    · exact both (je_tup (sndK es sc _ X W top k h c tk)) (fun _ => rfl)
    · cases h
  | .lst es, sc, x, X, W, top, k, h, c, tk => by
    unfold chkE at h
    split at h
    · exact both (je_lst (sndK es sc _ X W top k h c tk)) (fun _ => rfl)
    · cases h
  | .op o a b, sc, x, X, W, top, k, h, c, tk => by
    unfold chkE at h
    split at h
    · simp only [Bool.and_eq_true] at h
      obtain ⟨r, ho, hf⟩ := opR_of (X := X) h.1.1
      exact both (je_op ho hf (sndE a sc _ X W top k h.1.2 c tk).1 (sndE b sc _ X W top k h.2 c tk).1) (fun _ => rfl)
    · cases h
  | .cmp o a b, sc, x, X, W, top, k, h, c, tk => by
    unfold chkE at h
    split at h
    · simp only [Bool.and_eq_true] at h
      obtain ⟨r, ho, hf⟩ := cmpR_of (X := X) c.room h.1.1.1
      have ha := (sndE a sc _ X W top k h.1.2 c tk).1
      have hb := (sndE b sc _ X W top k h.2 c tk).1
      exact ⟨je_cmp ho hf (noset_marks h.1.1.2) ha hb, jt_cmp ho hf (fun d e z q => semC_bool q) (noset_marks h.1.1.2) ha hb⟩
    · cases h
  | .chain a ch, sc, x, X, W, top, k, h, c, tk => by
    unfold chkE at h
    split at h
    · simp only [Bool.and_eq_true] at h
      exact je_chain (sndE a sc _ X W top k h.1 c tk).1 (sndC ch sc _ _ X W top k h.2 c tk) (chkC_marks h.2)
    · cases h
  | .neg a, sc, x, X, W, top, k, h, c, tk => by
    unfold chkE at h
    split at h
    · exact both (je_un un_neg ok_neg (sndE a sc _ X W top k h c tk).1) (fun _ => rfl)
    · cases h
  | .not a, sc, x, X, W, top, k, h, c, tk => by
    unfold chkE at h
    split at h
    · obtain ⟨h1, h2⟩ := sndE a sc _ X W top k h c tk
      refine ⟨?_, ?_⟩
      · refine pe_of (jd_not h1) fun σ H Q z => ?_
        obtain ⟨en, ρ, H0, rr, p⟩ := z
        refine ⟨en, ρ, H0, rr, ?_⟩
        have hb : ∀ d, notV (evalE G a) ρ = some (.ok d) → flatRoot d = true := by
          intro d hd
          unfold notV at hd
          split at hd
          · rename_i d0 _
            cases e0 : truthD d0 with
            | none => rw [e0] at hd; cases hd
            | some b => rw [e0] at hd; cases hd; rfl
          · cases hd
          · cases hd
        have p : PostR X.K X.mg G.excs W .new σ H0 H Q (notV (evalE G a) ρ) := p
        cases e1 : notV (evalE G a) ρ with
        | none => rw [e1] at p; exact p.elim
        | some r1 =>
          rw [e1] at p
          cases r1 with
          | exc c q => exact p
          | ok d => exact fun v A B x1 z1 => p v A B x1 (.inl ⟨z1, fun _ => hb d e1⟩)
      · show JT X G.excs W _ (tstB (notV (evalE G a)))
        rw [tst_not]
        exact jt_not h2
    · cases h
  | .and es, sc, x, X, W, top, k, h, c, tk => by
    unfold chkE at h
    split at h
    · obtain ⟨h1, h2⟩ := sndAnd es sc _ _ _ X W top k h c tk
      exact ⟨je_of_jd h1, h2.pt⟩
    · cases h
  | .or es, sc, x, X, W, top, k, h, c, tk => by
    unfold chkE at h
    split at h
    · obtain ⟨h1, h2⟩ := sndOr es sc _ _ _ X W top k h c tk
      exact ⟨je_of_jd h1, h2.pt⟩
    · cases h
  | .ifE cc a b, sc, x, X, W, top, k, h, c, tk => by
    unfold chkE at h
    split at h
    · simp only [Bool.and_eq_true] at h
      have hc := sndE cc sc _ X W top k h.1.1 c tk
      have ha := sndE a sc _ X W top k h.1.2 c tk
      have hb := sndE b sc _ X W top k h.2 c tk
      refine ⟨je_of_jd (jd_if hc.2 (jd_E ha.1) (jd_E hb.1)), ?_⟩
      show JT X G.excs W _ (tstB (ifV (tstB (evalE G cc)) (keep a.src (evalE G a)) (keep b.src (evalE G b))))
      rw [tst_if]
      exact jt_if hc.2 (jt_weak ha.2 (tst_weak fun ρ r z => keep_weak (fun i e => src_slot e) z)) (jt_weak hb.2 (tst_weak fun ρ r z => keep_weak (fun i e => src_slot e) z))
    · cases h
  | .isN a, sc, x, X, W, top, k, h, c, tk => by
    unfold chkE at h
    split at h
    · simp only [Bool.and_eq_true] at h
      obtain ⟨h1, h2⟩ := h
      have ha := (sndE a sc _ X W top k h1 c tk).1
      unfold isNoneC at h2
      split at h2
      · exact ⟨je_isN ha, jt_isN ha⟩
      · cases h2
    · cases h
  | .notN a, sc, x, X, W, top, k, h, c, tk => by
    unfold chkE at h
    split at h
    · simp only [Bool.and_eq_true] at h
      obtain ⟨h1, h2⟩ := h
      have ha := (sndE a sc _ X W top k h1 c tk).1
      unfold isNoneC at h2
      split at h2
      · exact ⟨je_notN ha, jt_notN ha⟩
      · cases h2
    · cases h
  | .idx a i, sc, x, X, W, top, k, h, c, tk => by
    unfold chkE at h
    split at h
    · simp only [Bool.and_eq_true] at h
      exact both (je_ix (n := false) ix_seq ok_ix (noslice_plain h.2) (sndE a sc _ X W top k h.1.1 c tk).1 (sndE i sc _ X W top k h.1.2 c tk).1) (fun _ => rfl)
    · cases h
  | .slc a lo hi, sc, x, X, W, top, k, h, c, tk => by
    unfold chkE at h
    split at h
    · simp only [Bool.and_eq_true] at h
      exact both (je_slc (sndE a sc _ X W top k h.1.1 c tk).1 (sndO lo sc _ X W top k h.1.2 c tk) (sndO hi sc _ X W top k h.2 c tk)) (fun _ => rfl)
    · cases h
  | .rev a, sc, x, X, W, top, k, h, c, tk => by
    unfold chkE at h
    split at h
    · exact both (je_rev (sndE a sc _ X W top k h c tk).1) (fun _ => rfl)
    · cases h
  | .isi a t, sc, x, X, W, top, k, h, c, tk => by
    unfold chkE at h
    split at h
    · simp only [Bool.and_eq_true, decide_eq_true_eq] at h
      obtain ⟨⟨⟨⟨⟨rfl, g1⟩, ns⟩, ca⟩, rfl⟩, g2⟩ := h
      have hg : ∀ y, isGlob sc y = true → Gl X y := fun y hy => by
        show X.env.scope.names.lookup y = _
        rw [c.hsc]
        exact of_decide_eq_true hy
      exact both (je_isi c.calm (sndE a sc _ X W top k ca c tk).1 (hg _ g1) (c.mod.blt _ (by decide)) (hg _ g2) (c.mod.blt _ (ty_mem t)) (ty_boot t) (ty_plain t).1 (ty_plain t).2 (star1 ns)) (fun _ => rfl)
    · cases h
  | .blt b es, sc, x, X, W, top, k, h, c, tk => by
    unfold chkE at h
    split at h
    · simp only [Bool.and_eq_true, decide_eq_true_eq] at h
      obtain ⟨⟨rfl, g1⟩, ca⟩ := h
      have hg : Gl X (bltNm b) := by
        show X.env.scope.names.lookup _ = _
        rw [c.hsc]
        exact of_decide_eq_true g1
      have hst := (chkA_stars ca).1
      have ha := sndA es sc _ X W top k ca c tk
      unfold noStars at hst
      rw [Bool.and_eq_true] at hst
      rcases bltB_of c.calm b with ⟨id, r, hb, hc, hf⟩ | ⟨T, r, hb, hc, hf⟩
      · exact both (je_callB hc hf hg (c.mod.blt _ (blt_mem b)) hb ha (blt_plain b).1 (blt_plain b).2 (star1 hst.1) (back_star hst.2)) (fun _ => rfl)
      · exact both (je_callTy hc hf hg (c.mod.blt _ (blt_mem b)) hb ha (blt_plain b).1 (blt_plain b).2 (star1 hst.1) (back_star hst.2)) (fun _ => rfl)
    · cases h
  | .call jj es, sc, x, X, W, top, k, h, c, tk => by
    unfold chkE at h
    split at h
    · split at h
      · rename_i F eF
        simp only [Bool.and_eq_true, decide_eq_true_eq] at h
        obtain ⟨⟨⟨⟨ey, g1⟩, pl⟩, har⟩, ca⟩ := h
        subst ey
        have hg : Gl X F.name := by
          show X.env.scope.names.lookup _ = _
          rw [c.hsc]
          exact of_decide_eq_true g1
        have hst := (chkA_stars ca).1
        have ha := sndA es sc _ X W top k ca c tk
        unfold noStars at hst
        rw [Bool.and_eq_true] at hst
        obtain ⟨f, fd, ps, kk, hk, hl, hF, hm, hkp, hb⟩ := c.mod.fns jj F eF
        have q : evalE G (.call jj es) = callF F.phi (evalA G es) := by
          unfold evalE Gb.phi
          rw [eF]
        have qs : E.srcG G (.call jj es) = Src.nw F.nw := by
          simp only [E.srcG]
          rw [eF]
        rw [q, qs]
        refine both (src := Src.nw F.nw) ?_ (fun _ => rfl)
        exact je_call tk hF (c.room.mono hk) hg hm hkp hb ha (fun ρ ds e => by rw [evalA_len e, har, hl]) (plain_of pl).1 (star1 hst.1) (back_star hst.2)
      · cases h
    · cases h
  | .comp elt tg it ifs own, sc, x, X, W, top, k, h, c, tk => by
    unfold chkE at h
    split at h
    · simp only [Bool.and_eq_true] at h
      obtain ⟨⟨⟨⟨⟨⟨hi, hns⟩, hb⟩, hg⟩, hu⟩, hf⟩, he⟩ := h
      refine both (src := .new) ?_ (fun _ => rfl)
      · refine je_comp (us := tg.slots) c.calm (by rw [c.hN]; exact c.nd) (sndI it sc _ _ X W top k hi c tk) (blkOk_by (by rw [c.hN, c.hsc]; exact hb)) (fun i hi => ?_) (fun s H C cl fp => ?_) (fun s H C cl fp => ?_) (fun s H C cl fp => ?_) (noset_fold hns)
        · exact of_decide_eq_true (List.all_eq_true.mp hu i hi)
        · exact sndG (c.blk s H _ cl C fp) tg _ hg
        · exact sndF ifs _ _ _ W0 false k hf (c.blk s H _ cl C fp) takes0
        · exact jd_E (sndE elt _ _ _ W0 false k he (c.blk s H _ cl C fp) takes0).1
    · cases h
theorem sndK {G : Gb} {N : List Str} : ∀ (es : Es) (sc : Scope) (ys : List Expr) (X : Cx) (W : WX) (top : Bool) (k : Nat), chkA G N sc es ys = true → Cc X G N sc top k → Takes X W → JAD X G.excs W ys (evalK G es)
  | .nil, sc, ys, X, W, top, k, h, c, tk => by
    unfold chkA at h
    split at h
    · exact jad_nil
    · cases h
  | .cons e es, sc, ys, X, W, top, k, h, c, tk => by
    unfold chkA at h
    split at h
    · simp only [Bool.and_eq_true] at h
      exact jad_cons (jd_E (sndE e sc _ X W top k h.1.2 c tk).1) (sndK es sc _ X W top k h.2 c tk) (star1 h.1.1)
    · cases h
theorem sndA {G : Gb} {N : List Str} : ∀ (es : Es) (sc : Scope) (ys : List Expr) (X : Cx) (W : WX) (top : Bool) (k : Nat), chkA G N sc es ys = true → Cc X G N sc top k → Takes X W → JA X G.excs W ys (evalA G es)
  | .nil, sc, ys, X, W, top, k, h, c, tk => by
    unfold chkA at h
    split at h
    · exact ja_nil
    · cases h
  | .cons e es, sc, ys, X, W, top, k, h, c, tk => by
    unfold chkA at h
    split at h
    · simp only [Bool.and_eq_true] at h
      exact ja_cons (sndE e sc _ X W top k h.1.2 c tk).1 (sndA es sc _ X W top k h.2 c tk) (star1 h.1.1)
    · cases h
theorem sndAnd {G : Gb} {N : List Str} : ∀ (es : Es) (sc : Scope) (y : Expr) (ys : List Expr) (pos : Pos) (X : Cx) (W : WX) (top : Bool) (k : Nat), chkA G N sc es (y :: ys) = true → Cc X G N sc top k → Takes X W → JD X G.excs W (.BoolOp .And (y :: ys) pos) (evalAnd G es) ∧ JW X G.excs W (.BoolOp .And (y :: ys) pos) (tstB (evalAnd G es))
  | .nil, sc, y, ys, pos, X, W, top, k, h, c, tk => by
    unfold chkA at h
    cases h
  | .cons e .nil, sc, y, ys, pos, X, W, top, k, h, c, tk => by
    unfold chkA at h
    simp only [Bool.and_eq_true] at h
    have h3 := h.2
    unfold chkA at h3
    split at h3
    · have he := sndE e sc _ X W top k h.1.2 c tk
      exact ⟨jd_one (jd_E he.1), jw_weak (jw_and1 he.2) (tst_weak fun ρ r z => keep_weak (fun i e => src_slot e) z)⟩
    · cases h3
  | .cons e (.cons f es), sc, y, ys, pos, X, W, top, k, h, c, tk => by
    unfold chkA at h
    simp only [Bool.and_eq_true] at h
    have he := sndE e sc _ X W top k h.1.2 c tk
    have h3 := h.2
    cases ys with
    | nil => unfold chkA at h3; cases h3
    | cons y2 ys =>
      obtain ⟨h4, h5⟩ := sndAnd (.cons f es) sc y2 ys pos X W top k h3 c tk
      refine ⟨jd_andT (jd_E he.1) h4, ?_⟩
      show JW X G.excs W _ (tstB (andT (keep e.src (evalE G e)) (evalAnd G (.cons f es))))
      rw [tst_and]
      exact jw_and (jt_weak he.2 (tst_weak fun ρ r z => keep_weak (fun i e => src_slot e) z)) h5
theorem sndOr {G : Gb} {N : List Str} : ∀ (es : Es) (sc : Scope) (y : Expr) (ys : List Expr) (pos : Pos) (X : Cx) (W : WX) (top : Bool) (k : Nat), chkA G N sc es (y :: ys) = true → Cc X G N sc top k → Takes X W → JD X G.excs W (.BoolOp .Or (y :: ys) pos) (evalOr G es) ∧ JW X G.excs W (.BoolOp .Or (y :: ys) pos) (tstB (evalOr G es))
  | .nil, sc, y, ys, pos, X, W, top, k, h, c, tk => by
    unfold chkA at h
    cases h
  | .cons e .nil, sc, y, ys, pos, X, W, top, k, h, c, tk => by
    unfold chkA at h
    simp only [Bool.and_eq_true] at h
    have h3 := h.2
    unfold chkA at h3
    split at h3
    · have he := sndE e sc _ X W top k h.1.2 c tk
      exact ⟨jd_one (jd_E he.1), jw_weak (jw_or1 he.2) (tst_weak fun ρ r z => keep_weak (fun i e => src_slot e) z)⟩
    · cases h3
  | .cons e (.cons f es), sc, y, ys, pos, X, W, top, k, h, c, tk => by
    unfold chkA at h
    simp only [Bool.and_eq_true] at h
    have he := sndE e sc _ X W top k h.1.2 c tk
    have h3 := h.2
    cases ys with
    | nil => unfold chkA at h3; cases h3
    | cons y2 ys =>
      obtain ⟨h4, h5⟩ := sndOr (.cons f es) sc y2 ys pos X W top k h3 c tk
      refine ⟨jd_orT (jd_E he.1) h4, ?_⟩
      show JW X G.excs W _ (tstB (orT (keep e.src (evalE G e)) (evalOr G (.cons f es))))
      rw [tst_or]
      exact jw_or (jt_weak he.2 (tst_weak fun ρ r z => keep_weak (fun i e => src_slot e) z)) h5
theorem sndO {G : Gb} {N : List Str} : ∀ (o : Oe) (sc : Scope) (y : Option Expr) (X : Cx) (W : WX) (top : Bool) (k : Nat), chkO G N sc o y = true → Cc X G N sc top k → Takes X W → JO X G.excs W y (evalO G o)
  | .no, sc, y, X, W, top, k, h, c, tk => by
    unfold chkO at h
    split at h
    · exact jo_none
    · cases h
  | .yes e, sc, y, X, W, top, k, h, c, tk => by
    unfold chkO at h
    split at h
    · exact jo_some (sndE e sc _ X W top k h c tk).1
    · cases h
theorem sndF {G : Gb} {N : List Str} : ∀ (o : Oe) (sc : Scope) (ys : List Expr) (X : Cx) (W : WX) (top : Bool) (k : Nat), chkF G N sc o ys = true → Cc X G N sc top k → Takes X W → PTs X ys (TauB X.K X.mg G.excs W (evalF G o))
  | .no, sc, y, X, W, top, k, h, c, tk => by
    unfold chkF at h
    split at h
    · refine ⟨fun pins s σ H Q I q => pts_nil.run pins s σ H Q I ?_⟩
      obtain ⟨en, ρ, H0, rr, p⟩ := q
      exact p H0 H (Ext.refl rr.sub)
    · cases h
  | .yes e, sc, y, X, W, top, k, h, c, tk => by
    unfold chkF at h
    split at h
    · exact pts_one (sndE e sc _ X W top k h c tk).2
    · cases h
theorem sndI {G : Gb} {N : List Str} : ∀ (i : Itb) (sc : Scope) (tg y : Expr) (X : Cx) (W : WX) (top : Bool) (k : Nat), chkI G N sc i y = true → Cc X G N sc top k → Takes X W → JI X G.excs W tg y (evalI G i)
  | .seq e, sc, tg, y, X, W, top, k, h, c, tk => by
    unfold chkI at h
    show JI X G.excs W tg y (seqI e.src (evalE G e))
    rw [← seqI_srcG]
    exact ji_seq (sndE e sc _ X W top k h c tk).1 fun i q => src_slot (srcG_slot q)
  | .rng es, sc, tg, y, X, W, top, k, h, c, tk => by
    unfold chkI at h
    split at h
    · rename_i f p z zs pos
      simp only [Bool.and_eq_true, decide_eq_true_eq, Bool.or_eq_true] at h
      obtain ⟨⟨⟨rfl, g1⟩, ca⟩, hl⟩ := h
      have hg : Gl X "range" := by
        show X.env.scope.names.lookup _ = _
        rw [c.hsc]
        exact of_decide_eq_true g1
      have ha := sndA es sc _ X W top k ca c tk
      obtain ⟨hst, hlen⟩ := chkA_stars ca
      unfold noStars at hst
      rw [Bool.and_eq_true] at hst
      rcases hl with hl | hl
      · rw [hl] at hlen
        cases zs with
        | nil => exact ji_rng1 hg (c.mod.blt _ (by decide)) ha (star1 hst.1) (fun ρ ds e => by rw [evalA_len e, hl])
        | cons _ _ => simp at hlen
      · rw [hl] at hlen
        cases zs with
        | nil => simp at hlen
        | cons z2 zs =>
          cases zs with
          | nil =>
            have hs2 := hst.2
            unfold noStars at hs2
            rw [Bool.and_eq_true] at hs2
            exact ji_rng2 hg (c.mod.blt _ (by decide)) ha (by rw [star1 hst.1, star1 hs2.1]; rfl) (star1 hs2.1) (fun ρ ds e => by rw [evalA_len e, hl])
          | cons _ _ => simp at hlen
    · cases h
theorem sndC {G : Gb} {N : List Str} : ∀ (ch : Ch) (sc : Scope) (ps : List CmpOp) (rs : List Expr) (X : Cx) (W : WX) (top : Bool) (k : Nat), chkC G N sc ch ps rs = true → Cc X G N sc top k → Takes X W → JC X G.excs W ps rs (evalC G ch)
  | .last o b, sc, ps, rs, X, W, top, k, h, c, tk => by
    unfold chkC at h
    split at h
    · simp only [Bool.and_eq_true] at h
      obtain ⟨r, ho, hf⟩ := cmpR_of (X := X) c.room h.1.1
      exact jc_last ho hf (sndE b sc _ X W top k h.2 c tk).1
    · cases h
  | .link o b ch, sc, ps, rs, X, W, top, k, h, c, tk => by
    unfold chkC at h
    split at h
    · simp only [Bool.and_eq_true] at h
      obtain ⟨r, ho, hf⟩ := cmpR_of (X := X) c.room h.1.1
      exact jc_link ho hf (sndE b sc _ X W top k h.1.2 c tk).1 (sndC ch sc _ _ X W top k h.2 c tk)
    · cases h
end
end
end DD

namespace DD
noncomputable section
open PySem PySem.Spec PyProof.Rows L2

/-! ### the look at an except suite -/
def chkH (G : Gb) (N : List Str) (sc : Scope) (i : Nat) : HE → Expr → Bool
  | .str x, e => (match e with
    | .Constant (.str y) _ _ => decide (x = y)
    | _ => false)
  | .isx c, e => (match e with
    | .Call (.Name f _) [.Name n _, .Name y _] [] _ => decide (f = "isinstance") && isGlob sc f && decide (N[i]? = some n) && visB sc n && plainNm n && decide (G.excs[c]? = some y) && isGlob sc y && plainNm y
    | _ => false)
  | .var j, e => (match e with
    | .Name y _ => decide (N[j]? = some y) && visB sc y && plainNm y
    | _ => false)
  | .not h, e => (match e with
    | .UnaryOp .Not x _ => chkH G N sc i h x
    | _ => false)
  | .and a b, e => (match e with
    | .BoolOp .And [x, y] _ => chkH G N sc i a x && chkH G N sc i b y
    | _ => false)
  | .or3 a b c, e => (match e with
    | .BoolOp .Or [x, y, z] _ => chkH G N sc i a x && chkH G N sc i b y && chkH G N sc i c z
    | _ => false)
  | .ifE c a b, e => (match e with
    | .IfExp x y z _ => chkH G N sc i c x && chkH G N sc i a y && chkH G N sc i b z
    | _ => false)
def chkHS (G : Gb) (N : List Str) (sc : Scope) (i : Nat) : HS → List Stmt → Bool
  | .ret h, st => (match st with
    | [.Return (some e) _] => chkH G N sc i h e
    | _ => false)
  | .set j h r, st => (match st with
    | .Assign [.Name y _] e _ :: q :: rest => decide (N[j]? = some y) && locB true sc y && decide (j ≠ i) && noComp' e && chkH G N sc i h e && chkHS G N sc i r (q :: rest)
    | _ => false)
where noComp' : Expr → Bool
  | .BoolOp _ _ _ => true
  | .Call _ _ _ _ => true
  | _ => false
theorem hsw (e : Expr) (h4 : chkHS.noComp' e = true) (l : Nat) (t : Option Expr) (env : Env) : swapsWith e t l env = pure false := by
  cases e <;> first | rfl | (simp [chkHS.noComp'] at h4)
section
variable {X : Cx} {G : Gb} {N : List Str} {sc : Scope} {k : Nat} {a C : Addr} {oe : Obj} {pn : List (Addr × Obj)} {c i : Nat} {x : Str}
theorem kh_isx (cc : Cc X G N sc true k) (hx : G.excs[c]? = some x) (hm : X.mg x = some (.ref C)) (hz : Zc (.ref C) none oe) (hf : ∃ vs, oe.data = .fields vs) {P : L2.St → Prop} (hp : ∀ σ, P σ → σ[i]? = some (some (.ref a))) {d : Nat} {e : Expr} (h : chkH G N sc i (.isx d) e = true) :
    KH (X.suite a ((a, oe) :: pn)) P e (.bl (G.sub c d)) := by
  unfold chkH at h
  split at h
  · simp only [Bool.and_eq_true, decide_eq_true_eq] at h
    obtain ⟨⟨⟨⟨⟨⟨⟨rfl, g1⟩, h2⟩, h3⟩, h4⟩, h5⟩, g2⟩, h6⟩ := h
    rename_i y _ _
    obtain ⟨d1, d2, _⟩ := plain_of h4
    obtain ⟨D, hD⟩ := cc.mod.xg d y h5
    have hk := (cc.mod.xx c d x y C D hx h5 hm hD).2
    have gl : ∀ z, isGlob sc z = true → Gl (X.suite a ((a, oe) :: pn)) z := fun z hz => by
      show X.env.scope.names.lookup z = _
      rw [cc.hsc]
      exact of_decide_eq_true hz
    refine kh_plain (pe_of (pe_callB (call_isE (X := X) (a := a) (D := C) (oe := oe) (pn := pn) (cc.mod.xc c x C hx hm) hz hf) (gl _ g1) (cc.mod.blt _ (by decide)) (by decide +kernel) (pa_cons (pe_var (i := i) (by show X.N[i]? = _; rw [cc.hN]; exact h2) (by show Vis X.env.scope _; rw [cc.hsc]; exact vis_of h3) d1 d2) (pa_cons (pe_glob (v := .ref D) (gl _ g2) hD rfl (plain_of h6).1) pa_nil rfl) rfl) (by decide) (by decide) rfl rfl) fun σ H Q q => ?_) (fun _ => rfl)
    exact ⟨.ref a, hp σ q.1, .ref D, .ref D, G.sub c d, rfl, fun u hu => hu, hk, q.2⟩
  · cases h
theorem sndH (cc : Cc X G N sc true k) (hx : G.excs[c]? = some x) (hm : X.mg x = some (.ref C)) (hz : Zc (.ref C) none oe) (hf : ∃ vs, oe.data = .fields vs) {P : L2.St → Prop} {env : Nat → Option V} (hp : ∀ σ, P σ → σ[i]? = some (some (.ref a))) (he : ∀ σ j v, P σ → env j = some v → σ[j]? = some (some v)) :
    ∀ (h : HE) (e : Expr) (v : V), chkH G N sc i h e = true → hv G.sub c env h = some v → PE (X.suite a ((a, oe) :: pn)) e (tH P v) ∧ ((∃ b, v = .bl b) → KH (X.suite a ((a, oe) :: pn)) P e v)
  | .str z, e, v, h, hvv => by
    unfold chkH at h
    split at h
    · have ez := of_decide_eq_true h
      subst ez
      cases hvv
      exact ⟨kh_str.pe, fun _ => kh_str⟩
    · cases h
  | .isx d, e, v, h, hvv => by
    cases hvv
    have q := kh_isx cc hx hm hz hf (pn := pn) hp h
    exact ⟨q.pe, fun _ => q⟩
  | .var j, e, v, h, hvv => by
    unfold chkH at h
    split at h
    · simp only [Bool.and_eq_true, decide_eq_true_eq] at h
      obtain ⟨d1, d2, _⟩ := plain_of h.2
      have q := fun ps : Pos => kh_var (X := X.suite a ((a, oe) :: pn)) (P := P) (pos := ps) (i := j) (by show X.N[j]? = _; rw [cc.hN]; exact h.1.1) (by show Vis X.env.scope _; rw [cc.hsc]; exact vis_of h.1.2) d1 d2 (fun σ hs => he σ j v hs hvv)
      exact ⟨(q _).pe, fun _ => q _⟩
    · cases h
  | .not h1, e, v, h, hvv => by
    unfold chkH at h
    split at h
    · simp only [hv] at hvv
      split at hvv
      · rename_i b eb
        cases hvv
        have q := (sndH cc hx hm hz hf hp he h1 _ _ h eb).2 ⟨b, rfl⟩
        exact ⟨(kh_not q).pe, fun _ => kh_not q⟩
      · cases hvv
    · cases h
  | .and h1 h2, e, v, h, hvv => by
    unfold chkH at h
    split at h
    · simp only [Bool.and_eq_true] at h
      simp only [hv] at hvv
      split at hvv
      · rename_i ea
        have q1 := (sndH cc hx hm hz hf hp he h1 _ _ h.1 ea).2 ⟨_, rfl⟩
        split at hvv
        · rename_i b eb
          cases hvv
          have q2 := (sndH cc hx hm hz hf hp he h2 _ _ h.2 eb).2 ⟨_, rfl⟩
          exact ⟨(kh_andT q1 q2).pe, fun _ => kh_andT q1 q2⟩
        · cases hvv
      · rename_i ea
        cases hvv
        have q1 := (sndH cc hx hm hz hf hp he h1 _ _ h.1 ea).2 ⟨_, rfl⟩
        exact ⟨(kh_andF q1).pe, fun _ => kh_andF q1⟩
      · cases hvv
    · cases h
  | .or3 h1 h2 h3, e, v, h, hvv => by
    unfold chkH at h
    split at h
    · rename_i x' y' z' pp
      simp only [Bool.and_eq_true] at h
      simp only [hv] at hvv
      split at hvv
      · rename_i ea
        cases hvv
        have q1 := (sndH cc hx hm hz hf hp he h1 _ _ h.1.1 ea).2 ⟨_, rfl⟩
        have q := (kh_or (b := y') (rest := [z']) (pos := pp) (j := true) q1 (fun e => nomatch e) (fun e => nomatch e) (fun _ => rfl)).1
        exact ⟨q.pe, fun _ => q⟩
      · rename_i ea
        have q1 := (sndH cc hx hm hz hf hp he h1 _ _ h.1.1 ea).2 ⟨_, rfl⟩
        split at hvv
        · rename_i eb
          cases hvv
          have q2 := (sndH cc hx hm hz hf hp he h2 _ _ h.1.2 eb).2 ⟨_, rfl⟩
          have q3 := kh_or (b := z') (rest := []) (pos := pp) (j := true) q2 (fun e => nomatch e) (fun e => nomatch e) (fun _ => rfl)
          have q := (kh_or q1 (fun _ => q3.1) (fun _ => q3.2) (fun e => nomatch e)).1
          exact ⟨q.pe, fun _ => q⟩
        · rename_i eb
          have q2 := (sndH cc hx hm hz hf hp he h2 _ _ h.1.2 eb).2 ⟨_, rfl⟩
          split at hvv
          · rename_i k3 ec
            cases hvv
            have q3 := (sndH cc hx hm hz hf hp he h3 _ _ h.2 ec).2 ⟨_, rfl⟩
            have q4 := kh_one (pos := pp) q3
            have q5 := kh_or q2 (fun _ => q4.1) (fun _ => q4.2) (fun e => nomatch e)
            have q := (kh_or q1 (fun _ => q5.1) (fun _ => q5.2) (fun e => nomatch e)).1
            exact ⟨q.pe, fun _ => q⟩
          · cases hvv
        · cases hvv
      · cases hvv
    · cases h
  | .ifE hc h1 h2, e, v, h, hvv => by
    unfold chkH at h
    split at h
    · simp only [Bool.and_eq_true] at h
      simp only [hv] at hvv
      split at hvv
      · rename_i ea
        have qc := (sndH cc hx hm hz hf hp he hc _ _ h.1.1 ea).2 ⟨_, rfl⟩
        obtain ⟨q1, q2⟩ := sndH cc hx hm hz hf hp he h1 _ _ h.1.2 hvv
        refine ⟨kh_ifT qc q1, fun hb => ⟨kh_ifT qc q1, fun b eb => ?_⟩⟩
        have k1 := q2 hb
        refine ⟨fun pins s σ H Q I z => ?_⟩
        show wpAny _ _ (do if ← isTrue _ _ (eval _ _) then isTrue _ _ (eval _ _) else isTrue _ _ (eval _ _)) _ _ _
        refine wpAny_bind (thn ((qc.pt true rfl).run pins s σ H (fun kk H1 => kk = true ∧ H1 = H) I ⟨z.1, rfl, rfl⟩) fun kk s1 ⟨H1, I1, e1, e2⟩ => ?_)
        subst e1 e2
        exact (k1.pt b eb).run pins s1 σ H1 Q I1 z
      · rename_i ea
        have qc := (sndH cc hx hm hz hf hp he hc _ _ h.1.1 ea).2 ⟨_, rfl⟩
        obtain ⟨q1, q2⟩ := sndH cc hx hm hz hf hp he h2 _ _ h.2 hvv
        refine ⟨kh_ifF qc q1, fun hb => ⟨kh_ifF qc q1, fun b eb => ?_⟩⟩
        have k1 := q2 hb
        refine ⟨fun pins s σ H Q I z => ?_⟩
        show wpAny _ _ (do if ← isTrue _ _ (eval _ _) then isTrue _ _ (eval _ _) else isTrue _ _ (eval _ _)) _ _ _
        refine wpAny_bind (thn ((qc.pt false rfl).run pins s σ H (fun kk H1 => kk = false ∧ H1 = H) I ⟨z.1, rfl, rfl⟩) fun kk s1 ⟨H1, I1, e1, e2⟩ => ?_)
        subst e1 e2
        exact (k1.pt b eb).run pins s1 σ H1 Q I1 z
      · cases hvv
    · cases h
/-- a whole suite, from the slots σ0 on -/
theorem sndHS (cc : Cc X G N sc true k) (hx : G.excs[c]? = some x) (hm : X.mg x = some (.ref C)) (hz : Zc (.ref C) none oe) (hf : ∃ vs, oe.data = .fields vs) :
    ∀ (h : HS) (st : List Stmt) (v : V) (env : Nat → Option V) (σ0 : L2.St), σ0.length = X.N.length → σ0[i]? = some (some (.ref a)) → (∀ j v, env j = some v → σ0[j]? = some (some v)) → chkHS G N sc i h st = true → hsv G.sub c env h = some v →
      PSs (X.suite a ((a, oe) :: pn)) st (fun Dn σ H => σ = σ0 ∧ Dn.rt v H)
  | .ret h, st, v, env, σ0, hl, hi, he, hc, hvv => by
    unfold chkHS at hc
    split at hc
    · have q := (sndH (P := fun σ => σ = σ0) cc hx hm hz hf (pn := pn) (fun σ e => by rw [e]; exact hi) (fun σ j v e z => by rw [e]; exact he j v z) h _ v hc hvv).1
      exact pss_of (pss_one (ps_ret q)) fun Dn σ H z => ⟨z.1, z.2⟩
    · cases hc
  | .set j h r, st, v, env, σ0, hl, hi, he, hc, hvv => by
    unfold chkHS at hc
    split at hc
    · simp only [Bool.and_eq_true, decide_eq_true_eq] at hc
      obtain ⟨⟨⟨⟨⟨h1, h2⟩, h3⟩, h4⟩, h5⟩, h6⟩ := hc
      simp only [hsv] at hvv
      split at hvv
      · rename_i b eb
        obtain ⟨l1, l2⟩ := loc_of cc h2
        have q := (sndH (P := fun σ => σ = σ0) cc hx hm hz hf (pn := pn) (fun σ e => by rw [e]; exact hi) (fun σ j v e z => by rw [e]; exact he j v z) h _ _ h5 eb).1
        have hjl : j < σ0.length := by
          rw [hl, cc.hN]
          by_cases hj : j < N.length
          · exact hj
          · rw [List.getElem?_eq_none (by omega)] at h1
            cases h1
        have q2 := sndHS cc hx hm hz hf r _ v _ (σ0.set j (some (.bl b))) (by rw [List.length_set]; exact hl) (by rw [get_set, if_neg h3]; exact hi) (fun k' v' z => by
          rw [get_set]
          split at z
          · rename_i ek
            cases z
            rw [if_pos ek.symm, if_pos hjl]
          · rename_i ek
            rw [if_neg (fun e => ek e.symm)]
            exact he k' v' z) h6 hvv
        refine pss_of (pss_cons (ps_set (X := X.suite a ((a, oe) :: pn)) (i := j) (by show X.N.Nodup; rw [cc.hN]; exact cc.nd) (by show X.N[j]? = _; rw [cc.hN]; exact h1) l1 q (hsw _ h4 _ _ _) l2) q2) fun Dn σ H z => ?_
        obtain ⟨e1, e2⟩ := z
        subst e1
        exact ⟨rfl, rfl, e2⟩
      · cases hvv
    · cases hc
end
end
end DD

namespace DD
noncomputable section
open PySem PySem.Spec PyProof.Rows L2

mutual
inductive S where
  | dat (i : Nat) (e : E)
  | own (i : Nat) (e : E)
  | tgt (t : Tg) (e : E)
  | aug (i : Nat) (o : O2) (e : E)
  | app (i : Nat) (e : E)
  | expr (e : E)
  | ret (e : E)
  | retN
  | pass
  | ifS (c : E) (a b : Ss)
  | forS (t : Tg) (it : Itb) (body : Ss)
  | whl (c : E) (body : Ss)
  | raise (c : Nat)
  | freeze (i : Nat)
  | put (i : Nat) (ix e : E)
  | augp (i : Nat) (ix : E) (o : O2) (e : E)
  | tryS (n : Nat) (body : Ss) (hs : List (Nat × Nat × HS))
inductive Ss where
  | nil
  | cons (s : S) (r : Ss)
end
/-- name op= e: ints alone -/
def augI (o : O2) : D → D → Option D
  | .int i, .int j => sem2 o (.int i) (.int j)
  | _, _ => none
def retS (nw : Bool) (e : E) (m : Rho → Option Res) : Rho → Option Out := match e with
  | .var i => fun ρ => retV ρ i nw
  | _ => thenS m (fun _ d => some (.ret d))
def catchV (sub : Sub) (c : Nat) : List (Nat × Nat × HS) → Option Out
  | [] => some (.exc c none)
  | (d, _, h) :: r => if sub c d = true then (match hsv sub c (fun _ => none) h with
    | some (.str s) => some (.ret (.str s))
    | _ => none) else catchV sub c r
def tryV (sub : Sub) (n : Nat) (m : Rho → Option Out) (hs : List (Nat × Nat × HS)) : Rho → Option Out := fun ρ => if ρ.length = n then (match m ρ with
  | some (.exc c none) => catchV sub c hs
  | some (.exc _ (some _)) => none
  | r => r) else none
mutual
def execS (G : Gb) (fuel : Nat) (nw : Bool) : S → Rho → Option Out
  | .dat i e => thenS (keep e.src (evalE G e)) (datK i)
  | .own i e => thenS (evalE G e) (ownK i)
  | .tgt t e => thenS (keep e.src (evalE G e)) (tgK t.bind)
  | .aug i o e => seqS (fun ρ => match ρ[i]? with | some (some _) => some (.next ρ) | _ => none) (thenS (evalE G e) (augK (augI o) i))
  | .app i e => seqS (fun ρ => match ρ[i]? with | some (some (.own, .list _)) => some (.next ρ) | _ => none) (thenS (keep e.src (evalE G e)) (appK i))
  | .expr e => thenS (evalE G e) (fun ρ _ => some (.next ρ))
  | .ret e => retS nw e (evalE G e)
  | .retN => fun _ => some (.ret .none)
  | .pass => fun ρ => some (.next ρ)
  | .ifS c a b => ifS (tstB (evalE G c)) (execSs G fuel nw a) (execSs G fuel nw b)
  | .forS t it body => forS (evalI G it) t.bind (execSs G fuel nw body)
  | .whl c body => whlL (tstB (evalE G c)) (execSs G fuel nw body) fuel
  | .raise c => fun _ => some (.exc c none)
  | .freeze i => freezeS i
  | .put i ix e => putS i (evalE G ix) (keep e.src (evalE G e))
  | .augp i ix o e => augPS i (evalE G ix) (evalE G e) (augI o)
  | .tryS n body hs => tryV G.sub n (execSs G fuel nw body) hs
def execSs (G : Gb) (fuel : Nat) (nw : Bool) : Ss → Rho → Option Out
  | .nil => fun ρ => some (.next ρ)
  | .cons s r => seqS (execS G fuel nw s) (execSs G fuel nw r)
end
/-- whether a comprehension is stored within its own frame -/
def swp (sc : Scope) (y : Str) (py : Pos) : Expr → Bool
  | .ListComp _ _ scope cpos => decide (sc.names.lookup y = some .local) && (py.line == cpos.line) && !(scope.names.any fun (n, k) => n == y && (k == .local || k == .cell))
  | _ => false
def noComp : Expr → Bool
  | .ListComp _ _ _ _ => false
  | .SetComp _ _ _ _ => false
  | .DictComp _ _ _ _ _ => false
  | _ => true
def isNew (G : Gb) (e : E) : Bool := match e.srcG G with
  | .new => true
  | _ => false
def okRet (G : Gb) (nw : Bool) (e : E) : Bool := match e with
  | .var _ => true
  | e => !nw || isNew G e
/-- a tuple is no written pair or triple of names' values: such a store goes another way -/
def noSwap : Expr → Expr → Bool
  | .Tuple _ _ _, .Tuple _ _ _ => false
  | _, _ => true
def ixPl : Expr → Bool
  | .Name _ _ => true
  | .BinOp _ _ _ _ => true
  | .Subscript _ _ _ => true
  | .Constant _ _ _ => true
  | .UnaryOp _ _ _ => true
  | _ => false
def chkHds (G : Gb) (N : List Str) (sc : Scope) : List (Nat × Nat × HS) → List ExceptHandler → Bool
  | [], [] => true
  | (d, i, h) :: r, .ExceptHandler (some (.Name x _)) (some n) (b :: su) _ :: hds => decide (G.excs[d]? = some x) && isGlob sc x && plainNm x && decide (N[i]? = some n) && decide (sc.names.lookup n = some .local) && chkHS G N sc i h (b :: su) && chkHds G N sc r hds
  | _, _ => false
mutual
def chkS (G : Gb) (N : List Str) (sc : Scope) (nw : Bool) : S → Stmt → Bool
  | .dat i e, st => (match st with
    | .Assign [.Name y py] x _ => decide (N[i]? = some y) && locB true sc y && chkE G N sc e x && (noComp x || (match x with | .ListComp _ _ _ _ => true | _ => false))
    | _ => false)
  | .own i e, st => (match st with
    | .Assign [.Name y py] x _ => decide (N[i]? = some y) && locB true sc y && chkE G N sc e x && isNew G e && (noComp x || (match x with | .ListComp _ _ _ _ => true | _ => false))
    | _ => false)
  | .tgt t e, st => (match st with
    | .Assign [.Tuple es k p] x _ => chkG true N sc t (.Tuple es k p) && chkE G N sc e x && noComp x && noSwap (.Tuple es k p) x
    | _ => false)
  | .aug i o e, st => (match st with
    | .AugAssign (.Name y _) op x _ => decide (N[i]? = some y) && locB true sc y && o.is op && chkE G N sc e x && (decide (o = .add) || decide (o = .sub) || decide (o = .mul) || decide (o = .fdiv))
    | _ => false)
  | .app i e, st => (match st with
    | .Expr (.Call (.Attribute (.Name y _) a ap) [x] [] cp) _ => decide (N[i]? = some y) && visB sc y && plainNm y && decide (a = "append") && noStar x && chkE G N sc e x && (ap.endLine == cp.line)
    | _ => false)
  | .expr e, st => (match st with
    | .Expr x _ => chkE G N sc e x && noComp x
    | _ => false)
  | .ret e, st => (match st with
    | .Return (some x) _ => chkE G N sc e x && okRet G nw e
    | _ => false)
  | .retN, st => (match st with
    | .Return none _ => true
    | _ => false)
  | .pass, st => (match st with
    | .Pass _ => true
    | _ => false)
  | .ifS c a b, st => (match st with
    | .If x ys zs _ => chkE G N sc c x && chkSs G N sc nw a ys && chkSs G N sc nw b zs
    | _ => false)
  | .forS t it body, st => (match st with
    | .For tg i ys [] _ => chkG true N sc t tg && chkI G N sc it i && noSet i && chkSs G N sc nw body ys
    | _ => false)
  | .whl c body, st => (match st with
    | .While x ys [] _ => chkE G N sc c x && chkSs G N sc nw body ys
    | _ => false)
  | .raise c, st => (match st with
    | .Raise (some (.Call (.Name x _) [.Constant (.str _) _ _] [] _)) none _ => decide (G.excs[c]? = some x) && decide (G.rz[c]? = some true) && isGlob sc x && plainNm x
    | _ => false)
  | .freeze _, _ => false
  | .put i ix e, st => (match st with
    | .Assign [.Subscript (.Name y _) j _] x _ => decide (N[i]? = some y) && visB sc y && plainNm y && ixPl j && chkE G N sc ix j && chkE G N sc e x && noComp x
    | _ => false)
  | .augp i ix o e, st => (match st with
    | .AugAssign (.Subscript (.Name y _) j _) op x _ => decide (N[i]? = some y) && visB sc y && plainNm y && ixPl j && chkE G N sc ix j && o.is op && chkE G N sc e x && (decide (o = .add) || decide (o = .sub) || decide (o = .mul) || decide (o = .fdiv))
    | _ => false)
  | .tryS n body hs, st => (match st with
    | .Try ys (h0 :: hds) [] [] _ => decide (n = N.length) && chkSs G N sc nw body ys && chkHds G N sc hs (h0 :: hds)
    | _ => false)
def chkSs (G : Gb) (N : List Str) (sc : Scope) (nw : Bool) : Ss → List Stmt → Bool
  | .nil, ys => (match ys with
    | [] => true
    | _ => false)
  | .cons (.freeze _) r, ys => chkSs G N sc nw r ys
  | .cons s r, ys => (match ys with
    | y :: ys => chkS G N sc nw s y && chkSs G N sc nw r ys
    | _ => false)
end
theorem swp_eq {elt : Expr} {gs : List Comprehension} {scope : Scope} {pos py : Pos} {y : Str} {l : Nat} {env : Env} (hk : env.scope.kind = .function) :
    swapsWith (.ListComp elt gs scope pos) (some (.Name y py)) l env = pure (swp env.scope y py (.ListComp elt gs scope pos)) := by
  have hb : env.blockKind = .function := by unfold Env.blockKind; rw [hk]; rfl
  unfold swapsWith swp
  simp only [hb, Expr.pos]
  have ky : env.kindOf y = env.scope.names.lookup y := rfl
  rw [ky]
  congr 1
  by_cases h : env.scope.names.lookup y = some .local
  · rw [h]
    simp
  · rw [decide_eq_false h]
    have : (env.scope.names.lookup y == some NameKind.local) = false := by
      rw [beq_eq_false_iff_ne]
      exact h
    rw [this]
    rfl
theorem nocomp_sw {x : Expr} {t : Option Expr} {l : Nat} {env : Env} (h : noComp x = true) : swapsWith x t l env = pure false := by
  cases x <;> first | rfl | (simp [noComp] at h)
theorem inplR_of {X : Cx} {o : O2} {p : Operator} (h : o.is p = true) (hk : (decide (o = .add) || decide (o = .sub) || decide (o = .mul) || decide (o = .fdiv)) = true) : ∃ r, OpR X (inplaceOp p) r ∧ Op2Ok true X.K r (augI o) := by
  rw [O2.is_eq h]
  cases o with
  | add =>
    refine ⟨_, iop_add, ?_⟩
    intro H0 H x y d1 d2 d Q s h1 h2 e q
    unfold augI at e
    split at e
    · cases e
      cases h1.int; cases h2.int
      exact ⟨_, _, rfl, rfl, rs_flat s (.int _) q⟩
    · cases e
  | sub =>
    refine ⟨_, iop_sub, ?_⟩
    intro H0 H x y d1 d2 d Q s h1 h2 e q
    unfold augI at e
    split at e
    · cases e
      cases h1.int; cases h2.int
      exact ⟨_, _, rfl, rfl, rs_flat s (.int _) q⟩
    · cases e
  | mul =>
    refine ⟨_, iop_mul, ?_⟩
    intro H0 H x y d1 d2 d Q s h1 h2 e q
    unfold augI at e
    split at e
    · simp only [sem2, mulD] at e
      split at e
      · rename_i hz
        cases e
        cases h1.int; cases h2.int
        rw [mulOk_eq] at hz
        have hz2 := of_decide_eq_true hz
        exact ⟨_, _, rfl, rfl, hz2, rs_flat s (.int _) q⟩
      · cases e
    · cases e
  | fdiv =>
    refine ⟨_, iop_fdiv, ?_⟩
    intro H0 H x y d1 d2 d Q s h1 h2 e q
    unfold augI at e
    split at e
    · simp only [sem2, fdivD] at e
      split at e
      · rename_i hz
        cases e
        cases h1.int; cases h2.int
        exact ⟨_, _, rfl, rfl, hz, rs_flat s (.int _) q⟩
      · cases e
    · cases e
  | mod => cases hk
  | pow => cases hk

theorem js_raise {X : Cx} {G : Gb} {N : List Str} {sc : Scope} {top : Bool} {k : Nat} {W : WX} {nw : Bool} {c : Nat} {x m : Str} {j : Nat} {p p2 pos pos2 : Pos} (cc : Cc X G N sc top k) (tk : Takes X W) (h1 : G.excs[c]? = some x) (h2 : G.rz[c]? = some true) (hg : Gl X x) (hd : (x == ("__debug__" : Str)) = false) :
    JS X G.excs W nw (.Raise (some (.Call (.Name x p) [.Constant (.str m) j p2] [] pos)) none pos2) (fun _ => some (.exc c none)) := by
  obtain ⟨C, g1, g2, g3, g4, g5⟩ := cc.mod.exc c x h1 h2
  refine ps_of (ps_raise cc.calm tk (pmk_own PySem.F.excBase_ValueError g2 g1 g3 (raises_own g4 g5) hg hd)) fun Dn σ H h => ?_
  obtain ⟨en, ρ, H0, rr, q⟩ := h
  exact q σ rr.hl (.ref C) none H0 H rr.ext ⟨x, C, h1, g1, rfl, rfl⟩
theorem seqS_next {m : Rho → Option Out} : seqS m (fun ρ => some (.next ρ)) = m := by
  funext ρ
  unfold seqS
  cases m ρ with
  | none => rfl
  | some o => cases o <;> rfl

theorem asgPl {x : Str} {p1 tpos : Pos} {ix : Expr} {env : Env} (h : ixPl ix = true) : ∀ v, assign (.Subscript (.Name x p1) ix tpos) env v = (do
      let ov ← holding [v] (eval (.Name x p1) env)
      let iv ← holding [v, ov] (eval ix env)
      standAt tpos
      holding [v, ov, iv] (setItem ov iv v)
      release [v, ov, iv] []) := by
  intro v
  cases ix <;> first | rfl | (simp [ixPl] at h)
theorem augPl {ix : Expr} (h : ixPl ix = true) : ∀ ov iv new, augStore ix ov iv new = (do holding [new, ov, iv] (setItem ov iv new); release [new, ov, iv] []; pure .next) := by
  intro ov iv new
  cases ix <;> first | rfl | (simp [ixPl] at h)
theorem swSt {x : Str} {p1 tpos : Pos} {ix a : Expr} {env : Env} (h : noComp a = true) : swappedStores [.Subscript (.Name x p1) ix tpos] a env = pure none := by
  cases a <;> first | rfl | (simp [noComp] at h)
theorem Cc.tr {X : Cx} {G : Gb} {N : List Str} {sc : Scope} {top : Bool} {k : Nat} (c : Cc X G N sc top k) (pn : List (Addr × Obj)) (xe : Value → Shared → Prop) : Cc (X.tr pn xe) G N sc top k where
  hN := c.hN
  nd := c.nd
  hsc := c.hsc
  calm := c.calm
  room := c.room
  fn := c.fn
  mod := c.mod
/-- what a suite is handed -/
def tsH (X : Cx) (G : Gb) (i : Nat) (h : HS) (a : Addr) (cls : Value) (d : Option Addr) : TS := fun Dn σ H => ∃ c x C v, G.excs[c]? = some x ∧ X.mg x = some (.ref C) ∧ cls = .ref C ∧ d = none ∧ σ.length = X.N.length ∧ σ[i]? = some (some (.ref a)) ∧ hsv G.sub c (fun _ => none) h = some v ∧ Dn.rt v H
def lH (X : Cx) (G : Gb) : List (Nat × Nat × HS) → List (Value × Nat × (Addr → Value → Option Addr → TS))
  | [] => []
  | (d, i, h) :: r => ((match G.excs[d]? with | some x => (X.mg x).getD .none | none => .none), i, tsH X G i h) :: lH X G r
theorem hds_of {X : Cx} {G : Gb} {N : List Str} {sc : Scope} {k : Nat} (cc : Cc X G N sc true k) : ∀ (hs : List (Nat × Nat × HS)) (hds : List ExceptHandler), chkHds G N sc hs hds = true → HdsAs X hds (lH X G hs)
  | [], [], _ => .nil
  | [], _ :: _, h => by simp [chkHds] at h
  | (d, i, hh) :: r, hds, h => by
    unfold chkHds at h
    split at h
    · rename_i eq
      cases eq
    · rename_i d' i' h' r' x np n b su ps hds' e1
      injection e1 with e1 e2
      injection e1 with e3 e4
      injection e4 with e4 e5
      subst e2 e3 e4 e5
      simp only [Bool.and_eq_true, decide_eq_true_eq] at h
      obtain ⟨⟨⟨⟨⟨⟨h1, h2⟩, h3⟩, h4⟩, h5⟩, h6⟩, h7⟩ := h
      obtain ⟨D, hD⟩ := cc.mod.xg d x h1
      unfold lH
      rw [h1]
      dsimp only
      rw [hD]
      refine HdsAs.cons (c := .ref D) ⟨by show X.env.scope.names.lookup x = _; rw [cc.hsc]; exact of_decide_eq_true h2, (plain_of h3).1, .inl hD⟩ (by rw [cc.hN]; exact h4) (by show X.env.scope.names.lookup n = _; rw [cc.hsc]; exact h5) (fun a oe cls dd pn hz hf => ?_) (hds_of cc r hds' h7)
      refine ⟨fun pins s σ H Dn I hx => ?_⟩
      obtain ⟨c, y, C, v, g1, g2, rfl, rfl, g5, g6, g7, g8⟩ := hx
      exact (sndHS cc g1 g2 hz hf hh _ v (fun _ => none) σ g5 g6 (fun _ _ e => nomatch e) h6 g7).run pins s σ H Dn I ⟨rfl, g8⟩
    · cases h
theorem js_try {X : Cx} {G : Gb} {N : List Str} {sc : Scope} {W : WX} {k n : Nat} {nw : Bool} {body : List Stmt} {h0 : ExceptHandler} {hds : List ExceptHandler} {hs : List (Nat × Nat × HS)} {pos : Pos} {m : Rho → Option Out} (cc : Cc X G N sc true k) (tk : Takes X W) (hn : n = N.length) (hk : X.env.scope.kind = .function) (hs' : X.stack = X.env :: X.outer) (hf' : X.env.frame = some X.env.locals)
    (hb : ∀ (W' : WX) (pn : List (Addr × Obj)) (xe : Value → Shared → Prop), Takes (X.tr pn xe) W' → PassesOwn (model X.prog X.w) X.A X.env xe → JSs (X.tr pn xe) G.excs W' nw body m) (hh : chkHds G N sc hs (h0 :: hds) = true) :
    JS X G.excs W nw (.Try body (h0 :: hds) [] [] pos) (tryV G.sub n m hs) := by
  refine ps_of (ps_try_manyAs hs' hf' (by rw [cc.hN]; exact cc.nd) tk (tb := fun W' => TauS X.K X.mg G.excs W' nw m) (fun W' pn xe t p => hb W' pn xe t p) (hds_of cc hs _ hh)) fun Dn σ H h => ?_
  obtain ⟨en, ρ, H0, rr, p⟩ := h
  refine ⟨en, ρ, H0, rr, ?_⟩
  unfold tryV at p
  split at p
  · rename_i hl
    have key : ∀ (c : Nat) (cls : Value) (dd : Option Addr) (σ' : L2.St) (H0' H' : Hp), σ'.length = en.n → Ext en.H0 en.H H0' H' → ExcIs X.K X.mg G.excs c none cls dd H0' H' → ∀ hs2, PostS X.K X.mg G.excs W nw en H0 Dn (catchV G.sub c hs2) → (∀ q ∈ hs2, ∃ x, G.excs[q.1]? = some x) → (∀ q ∈ hs2, q.2.1 < N.length) → wManyAs X.K W Dn (lH X G hs2) cls dd σ' H' := by
      intro c cls dd σ' H0' H' l1 x1 z1 hs2
      induction hs2 with
      | nil => exact fun p _ _ => p σ' l1 cls dd H0' H' x1 z1
      | cons q r ih =>
        intro p hq hi
        obtain ⟨d, i, hh2⟩ := q
        obtain ⟨y, hy⟩ := hq _ List.mem_cons_self
        have hil : i < N.length := hi _ List.mem_cons_self
        obtain ⟨x, C, g1, g2, rfl, rfl⟩ := z1
        obtain ⟨D, hD⟩ := cc.mod.xg d y hy
        unfold lH
        dsimp only at hy ⊢
        rw [hy]
        dsimp only
        rw [hD]
        dsimp only [Option.getD]
        refine ⟨G.sub c d, (cc.mod.xx c d x y C D g1 hy g2 hD).1, fun hb2 a ha => ?_, fun hb2 => ?_⟩
        · unfold catchV at p
          rw [if_pos hb2] at p
          split at p
          · rename_i s es
            refine ⟨c, x, C, .str s, g1, g2, rfl, rfl, ?_, ?_, es, ?_⟩
            · rw [List.length_set, l1, ← rr.hn, hl, hn, cc.hN]
            · rw [get_set, if_pos rfl, if_pos]
              rw [l1, ← rr.hn, hl, hn]
              exact hil
            · exact p (.str s) H0' H' x1 (.inl ⟨.str _, fun _ => rfl⟩)
          · exact p.elim
        · unfold catchV at p
          rw [if_neg (by rw [hb2]; simp)] at p
          exact ih p (fun q hq' => hq q (List.mem_cons_of_mem _ hq')) (fun q hq' => hi q (List.mem_cons_of_mem _ hq'))
    have gen : ∀ hs2 hds2, chkHds G N sc hs2 hds2 = true → (∀ q ∈ hs2, ∃ x, G.excs[q.1]? = some x) ∧ (∀ q ∈ hs2, q.2.1 < N.length) := by
      intro hs2
      induction hs2 with
      | nil => exact fun _ _ => ⟨(fun _ h => nomatch h), (fun _ h => nomatch h)⟩
      | cons q r ih =>
        intro hds2 hc
        obtain ⟨d, i, hh2⟩ := q
        unfold chkHds at hc
        split at hc
        · rename_i e1
          cases e1
        · rename_i d' i' h' r' x np n' b su ps hds' e1
          injection e1 with e1 e2
          injection e1 with e3 e4
          injection e4 with e4 e5
          subst e2 e3 e4 e5
          simp only [Bool.and_eq_true, decide_eq_true_eq] at hc
          obtain ⟨⟨⟨⟨⟨⟨h1, h2⟩, h3⟩, h4⟩, h5⟩, h6⟩, h7⟩ := hc
          obtain ⟨i1, i2⟩ := ih _ h7
          refine ⟨fun q hq => ?_, fun q hq => ?_⟩
          · rcases List.mem_cons.mp hq with rfl | hq
            · exact ⟨x, h1⟩
            · exact i1 q hq
          · rcases List.mem_cons.mp hq with rfl | hq
            · dsimp only
              by_cases hj : i < N.length
              · exact hj
              · rw [List.getElem?_eq_none (by omega)] at h4
                cases h4
            · exact i2 q hq
        · cases hc
    obtain ⟨gn1, gn2⟩ := gen hs _ hh
    cases e : m ρ with
    | none => rw [e] at p; exact p.elim
    | some o =>
      rw [e] at p
      cases o with
      | next ρ' => exact p
      | ret d => exact p
      | exc c q =>
        cases q with
        | some q => exact p.elim
        | none => exact fun σ' l1 cls dd H0' H' x1 z1 => key c cls dd σ' H0' H' l1 x1 z1 hs p gn1 gn2
  · exact p.elim

set_option maxHeartbeats 1000000 in
mutual
theorem sndS {G : Gb} {N : List Str} {sc : Scope} {X : Cx} {W : WX} {k fuel : Nat} {nw : Bool} (c : Cc X G N sc true k) (tk : Takes X W) (po : PassesOwn (model X.prog X.w) X.A X.env X.xe) (hk : X.env.scope.kind = .function) (hs' : X.stack = X.env :: X.outer) (hf' : X.env.frame = some X.env.locals) :
    ∀ (s : S) (st : Stmt), chkS G N sc nw s st = true → JS X G.excs W nw st (execS G fuel nw s)
  | .dat i e, st, h => by
    unfold chkS at h
    split at h
    · rename_i y py x _
      simp only [Bool.and_eq_true, decide_eq_true_eq, Bool.or_eq_true] at h
      obtain ⟨⟨⟨h1, h2⟩, h3⟩, h4⟩ := h
      obtain ⟨l1, l2⟩ := loc_of c h2
      have he := (sndE e sc x X W true k h3 c tk).1
      have hN : X.N.Nodup := by rw [c.hN]; exact c.nd
      have hi : X.N[i]? = some y := by rw [c.hN]; exact h1
      rcases h4 with h4 | h4
      · exact js_dat hN hi l1 (jd_E he) (nocomp_sw h4) l2
      · split at h4
        · rename_i elt gs scope cpos
          cases hw : swp X.env.scope y py (.ListComp elt gs scope cpos) with
          | false => exact js_dat hN hi l1 (jd_E he) (by rw [swp_eq hk, hw]) l2
          | true =>
            -- stored in the comprehension's own frame
            cases e with
            | comp ee tg it ifs own =>
              unfold chkE at h3
              split at h3
              · rename_i hq
                cases hq
                simp only [Bool.and_eq_true] at h3
                obtain ⟨⟨⟨⟨⟨⟨hi2, hns⟩, hb⟩, hg⟩, hu⟩, hf⟩, he2⟩ := h3
                have hyl : X.env.scope.names.lookup y = some .local := by
                  unfold swp at hw
                  simp only [Bool.and_eq_true, decide_eq_true_eq] at hw
                  exact hw.1.1
                exact js_datLc (us := tg.slots) c.calm hN hi hyl (by rw [swp_eq hk, hw]) (sndI it sc _ _ X W true k hi2 c tk) (blkOk_by (by rw [c.hN, c.hsc]; exact hb)) (fun i hi => of_decide_eq_true (List.all_eq_true.mp hu i hi)) (fun s H C cl fp => sndG (c.blk s H _ cl C fp) tg _ hg)
                  (fun s H C cl fp => sndF ifs _ _ _ W0 false k hf (c.blk s H _ cl C fp) takes0) (fun s H C cl fp => jd_E (sndE ee _ _ _ W0 false k he2 (c.blk s H _ cl C fp) takes0).1) (noset_fold hns)
              · cases h3
            | _ => unfold chkE at h3; cases h3
        · cases h4
    · cases h
  | .own i e, st, h => by
    unfold chkS at h
    split at h
    · rename_i y py x _
      simp only [Bool.and_eq_true, decide_eq_true_eq, Bool.or_eq_true] at h
      obtain ⟨⟨⟨⟨h1, h2⟩, h3⟩, hn⟩, h4⟩ := h
      obtain ⟨l1, l2⟩ := loc_of c h2
      have hN : X.N.Nodup := by rw [c.hN]; exact c.nd
      have hi : X.N[i]? = some y := by rw [c.hN]; exact h1
      have he : JE X G.excs W x .new (evalE G e) := by
        have he := (sndE e sc x X W true k h3 c tk).1
        unfold isNew at hn
        split at hn
        · rename_i q
          rw [q] at he
          exact he
        · cases hn
      rcases h4 with h4 | h4
      · exact js_own hN hi l1 he (nocomp_sw h4) l2
      · split at h4
        · rename_i elt gs scope cpos
          cases hw : swp X.env.scope y py (.ListComp elt gs scope cpos) with
          | false => exact js_own hN hi l1 he (by rw [swp_eq hk, hw]) l2
          | true =>
            cases e with
            | comp ee tg it ifs own =>
              unfold chkE at h3
              split at h3
              · rename_i hq
                cases hq
                simp only [Bool.and_eq_true] at h3
                obtain ⟨⟨⟨⟨⟨⟨hi2, hns⟩, hb⟩, hg⟩, hu⟩, hf⟩, he2⟩ := h3
                have hyl : X.env.scope.names.lookup y = some .local := by
                  unfold swp at hw
                  simp only [Bool.and_eq_true, decide_eq_true_eq] at hw
                  exact hw.1.1
                exact js_ownLc (us := tg.slots) c.calm hN hi hyl (by rw [swp_eq hk, hw]) (sndI it sc _ _ X W true k hi2 c tk) (blkOk_by (by rw [c.hN, c.hsc]; exact hb)) (fun i hi => of_decide_eq_true (List.all_eq_true.mp hu i hi)) (fun s H C cl fp => sndG (c.blk s H _ cl C fp) tg _ hg)
                  (fun s H C cl fp => sndF ifs _ _ _ W0 false k hf (c.blk s H _ cl C fp) takes0) (fun s H C cl fp => jd_E (sndE ee _ _ _ W0 false k he2 (c.blk s H _ cl C fp) takes0).1) (noset_fold hns)
              · cases h3
            | _ => unfold chkE at h3; cases h3
        · cases h4
    · cases h
  | .tgt t e, st, h => by
    unfold chkS at h
    split at h
    · rename_i es kk p x _
      simp only [Bool.and_eq_true] at h
      obtain ⟨⟨⟨h1, h2⟩, h3⟩, h4⟩ := h
      refine js_tg (jd_E (sndE e sc x X W true k h2 c tk).1) (sndG c t _ h1) (by unfold swapsWithSole; exact nocomp_sw h3) ?_ rfl
      cases x <;> first | rfl | (simp [noSwap] at h4)
    · cases h
  | .aug i o e, st, h => by
    unfold chkS at h
    split at h
    · simp only [Bool.and_eq_true, decide_eq_true_eq] at h
      obtain ⟨⟨⟨⟨h1, h2⟩, h3⟩, h4⟩, h5⟩ := h
      obtain ⟨l1, l2⟩ := loc_of c h2
      obtain ⟨r, ho, hf⟩ := inplR_of (X := X) h3 h5
      exact js_aug (by rw [c.hN]; exact c.nd) (by rw [c.hN]; exact h1) l1 (sndE e sc _ X W true k h4 c tk).1 ho hf l2
    · cases h
  | .app i e, st, h => by
    unfold chkS at h
    split at h
    · simp only [Bool.and_eq_true, decide_eq_true_eq] at h
      obtain ⟨⟨⟨⟨⟨⟨h1, h2⟩, h3⟩, rfl⟩, h5⟩, h6⟩, h7⟩ := h
      obtain ⟨d1, d2, _⟩ := plain_of h3
      exact js_app (by rw [c.hN]; exact h1) (by rw [c.hsc]; exact vis_of h2) d1 d2 (jd_E (sndE e sc _ X W true k h6 c tk).1) rfl (star1 h5) h7
    · cases h
  | .expr e, st, h => by
    unfold chkS at h
    split at h
    · simp only [Bool.and_eq_true] at h
      exact js_expr (sndE e sc _ X W true k h.1 c tk).1 (nocomp_sw h.2)
    · cases h
  | .ret e, st, h => by
    unfold chkS at h
    split at h
    · rename_i x rpos
      simp only [Bool.and_eq_true] at h
      obtain ⟨h1, h2⟩ := h
      have he := (sndE e sc x X W true k h1 c tk).1
      have gen : (∀ i, e ≠ .var i) → JS X G.excs W nw (.Return (some x) rpos) (thenS (evalE G e) (fun _ d => some (.ret d))) := by
        intro hv
        refine js_ret ?_
        have h2' : (!nw || isNew G e) = true := by
          unfold okRet at h2
          split at h2
          · exact absurd rfl (hv _)
          · exact h2
        have hns : ∀ i, e.srcG G ≠ .slot i := fun i q => by
          have := srcG_slot q
          cases e <;> first | (exact absurd rfl (hv _)) | (simp only [E.src] at this; cases this)
        cases nw with
        | false =>
          cases q : e.srcG G with
          | new => rw [q] at he; exact call_any (nw := true) he
          | any => rw [q] at he; exact he
          | slot i => exact absurd q (hns i)
        | true =>
          have h3 : isNew G e = true := by simpa using h2'
          unfold isNew at h3
          split at h3
          · rename_i q
            rw [q] at he
            exact he
          · cases h3
      cases e with
      | var i =>
        unfold chkE at h1
        split at h1
        · simp only [Bool.and_eq_true, decide_eq_true_eq] at h1
          obtain ⟨d1, d2, _⟩ := plain_of h1.2
          exact js_retV (by rw [c.hN]; exact h1.1.1) (by rw [c.hsc]; exact vis_of h1.1.2) d1 d2
        · cases h1
      | _ => exact gen (fun i q => nomatch q)
    · cases h
  | .retN, st, h => by
    unfold chkS at h
    split at h
    · exact js_retN
    · cases h
  | .pass, st, h => by
    unfold chkS at h
    split at h
    · exact js_pass
    · cases h
  | .ifS cc a b, st, h => by
    unfold chkS at h
    split at h
    · simp only [Bool.and_eq_true] at h
      exact js_if (sndE cc sc _ X W true k h.1.1 c tk).2 (sndSs c tk po hk hs' hf' a _ h.1.2) (sndSs c tk po hk hs' hf' b _ h.2)
    · cases h
  | .forS t it body, st, h => by
    unfold chkS at h
    split at h
    · simp only [Bool.and_eq_true] at h
      exact js_for po c.calm (sndI it sc _ _ X W true k h.1.1.2 c tk) (sndG c t _ h.1.1.1) (sndSs c tk po hk hs' hf' body _ h.2) (noset_fold h.1.2)
    · cases h
  | .whl cc body, st, h => by
    unfold chkS at h
    split at h
    · simp only [Bool.and_eq_true] at h
      exact js_while po (sndE cc sc _ X W true k h.1 c tk).2 (sndSs c tk po hk hs' hf' body _ h.2)
    · cases h
  | .raise cn, st, h => by
    unfold chkS at h
    split at h
    · simp only [Bool.and_eq_true, decide_eq_true_eq] at h
      obtain ⟨⟨⟨h1, h2⟩, h3⟩, h4⟩ := h
      exact js_raise c tk h1 h2 (by show X.env.scope.names.lookup _ = _; rw [c.hsc]; exact of_decide_eq_true h3) (plain_of h4).1
    · cases h
  | .freeze i, st, h => by
    unfold chkS at h
    cases h
  | .put i ix e, st, h => by
    unfold chkS at h
    split at h
    · simp only [Bool.and_eq_true, decide_eq_true_eq] at h
      obtain ⟨⟨⟨⟨⟨⟨h1, h2⟩, h3⟩, h4⟩, h5⟩, h6⟩, h7⟩ := h
      obtain ⟨d1, d2, _⟩ := plain_of h3
      exact js_put (by rw [c.hN]; exact h1) (by rw [c.hsc]; exact vis_of h2) d1 d2 (jd_E (sndE e sc _ X W true k h6 c tk).1) (sndE ix sc _ X W true k h5 c tk).1 (asgPl h4) (by unfold swapsWithSole; exact nocomp_sw h7) (swSt h7) rfl
    · cases h
  | .augp i ix o e, st, h => by
    unfold chkS at h
    split at h
    · simp only [Bool.and_eq_true, decide_eq_true_eq] at h
      obtain ⟨⟨⟨⟨⟨⟨⟨h1, h2⟩, h3⟩, h4⟩, h5⟩, h6⟩, h7⟩, h8⟩ := h
      obtain ⟨d1, d2, _⟩ := plain_of h3
      obtain ⟨r, ho, hf⟩ := inplR_of (X := X) h6 h8
      exact js_augp (by rw [c.hN]; exact h1) (by rw [c.hsc]; exact vis_of h2) d1 d2 (sndE e sc _ X W true k h7 c tk).1 (sndE ix sc _ X W true k h5 c tk).1 ho hf (augPl h4)
    · cases h
  | .tryS n body hs, st, h => by
    unfold chkS at h
    split at h
    · simp only [Bool.and_eq_true, decide_eq_true_eq] at h
      exact js_try c tk h.1.1 hk hs' hf' (fun W' pn xe t p => sndSs (c.tr pn xe) t p hk hs' hf' body _ h.1.2) h.2
    · cases h
theorem sndSs {G : Gb} {N : List Str} {sc : Scope} {X : Cx} {W : WX} {k fuel : Nat} {nw : Bool} (c : Cc X G N sc true k) (tk : Takes X W) (po : PassesOwn (model X.prog X.w) X.A X.env X.xe) (hk : X.env.scope.kind = .function) (hs' : X.stack = X.env :: X.outer) (hf' : X.env.frame = some X.env.locals) :
    ∀ (s : Ss) (st : List Stmt), chkSs G N sc nw s st = true → JSs X G.excs W nw st (execSs G fuel nw s)
  | .nil, st, h => by
    unfold chkSs at h
    split at h
    · exact jss_nil
    · cases h
  | .cons s r, st, h => by
    cases s with
    | freeze i =>
      unfold chkSs at h
      exact jss_freeze (sndSs c tk po hk hs' hf' r st h)
    | _ =>
      unfold chkSs at h
      cases st with
      | nil => cases h
      | cons y ys =>
        simp only [Bool.and_eq_true] at h
        exact jss_cons (sndS c tk po hk hs' hf' _ y h.1) (sndSs c tk po hk hs' hf' r ys h.2)
end

/-! ### a def -/
def initR (args : List D) (n : Nat) : Rho := args.map (fun d => some (.bor, d)) ++ List.replicate (n - args.length) none
def runF (G : Gb) (fuel : Nat) (nw : Bool) (body : Ss) (n : Nat) : List D → Option Res := fun args => match execSs G fuel nw body (initR args n) with
  | some (.next _) => some (.ok .none)
  | some (.ret d) => some (.ok d)
  | some (.exc c p) => some (.exc c p)
  | none => none
theorem rbs_get {K : PySem.W.Frag} {H0 H : Hp} : ∀ {vs : List V} {ds : List D}, RBs K H0 H vs ds → ∀ {i : Nat} {d : D}, ds[i]? = some d → ∃ v, vs[i]? = some v ∧ RB K H0 H v d
  | _, _, .nil, _, _, h => by simp at h
  | _, _, .cons h r, 0, _, e => by
    simp at e; subst e; exact ⟨_, rfl, h⟩
  | _, _, .cons h r, i + 1, _, e => by
    obtain ⟨v, h1, h2⟩ := rbs_get r (i := i) (by simpa using e)
    exact ⟨v, by simpa using h1, h2⟩
theorem initR_get {args : List D} {n i : Nat} {fl : Fl} {d : D} (h : (initR args n)[i]? = some (some (fl, d))) : fl = .bor ∧ args[i]? = some d := by
  unfold initR at h
  by_cases hi : i < args.length
  · rw [List.getElem?_append_left (by simpa using hi), List.getElem?_map, List.getElem?_eq_getElem hi] at h
    cases h
    exact ⟨rfl, List.getElem?_eq_getElem hi⟩
  · rw [List.getElem?_append_right (by simpa using hi), List.getElem?_replicate] at h
    split at h <;> cases h
theorem start_R {K : PySem.W.Frag} {H0 H : Hp} {N : List Str} {vs : List V} {ds : List D} (s : Same H0 H) (r : RBs K H0 H vs ds) : R K ⟨H0, H, (initR ds N.length).length⟩ (initR ds N.length) H0 (L2.start N vs) H where
  sub := s
  len := by
    unfold L2.start initR
    simp only [List.length_append, List.length_map, List.length_replicate]
    rw [r.length]
  slot := fun i fl d h => by
    obtain ⟨rfl, h1⟩ := initR_get h
    obtain ⟨v, h2, h3⟩ := rbs_get r h1
    have hi : i < vs.length := by
      by_cases hi : i < vs.length
      · exact hi
      · rw [List.getElem?_eq_none (by omega)] at h2
        cases h2
    refine ⟨v, ?_, ?_⟩
    · unfold L2.start
      rw [List.getElem?_append_left (by simpa using hi), List.getElem?_map, h2]
      rfl
    · rcases h3 with h3 | ⟨a, e, m⟩
      · exact .inl h3
      · exact .inr ⟨a, e, m, m.there⟩
  apart := fun i j di dj v hij hi hj => by
    obtain ⟨z, _⟩ := initR_get hi
    cases z
  e1 := Same.refl _
  e2 := Same.refl _
  e3 := fun _ _ _ => rfl
  hn := rfl
theorem fn_snd {P : Program} {w : World} {K : PySem.W.Frag} {mg : Str → Option Value} {base : Heap} {G : Gb} {k fuel : Nat} {nw : Bool} {x qual : Str} {st : Stmt} {f : Addr} {fd : FuncData} {N ps : List Str} {body : Ss} (F : Fun K x qual st f fd) (Sc : FnScope N ps (defScope st)) (hm : MdOk P w K mg base G k)
    (hc : chkSs G N (defScope st) nw body (defBody st) = true) : FnOk P w K mg base (L2.CX P w) (k + 1) f fd ps (spOf nw K mg G.excs ps.length (runF G fuel nw body N.length)) := by
  refine F.okX Sc (fun vs H Q E h => h.1) (fun cdv A outer s H vs Q E hr h => ?_)
  obtain ⟨hl, H0, ds, s0, rb, p⟩ := h
  have c : Cc (cxOf (L2.CX P w) P w K mg base N qual (defScope st) f cdv A outer s H E) G N (defScope st) true k := ⟨rfl, Sc.nd, rfl, rfl, hr, fun _ _ => rfl, hm⟩
  refine ⟨_, sndSs (W := fun cls d _ H => E cls d H) (fuel := fuel) c (takes_of rfl rfl rfl rfl) (passes_of rfl) Sc.kind rfl rfl body _ hc, ?_⟩
  refine ⟨⟨H0, H, (initR ds N.length).length⟩, initR ds N.length, H0, start_R s0 rb, ?_⟩
  unfold runF at p
  cases e : execSs G fuel nw body (initR ds N.length) with
  | none => rw [e] at p; exact p.elim
  | some o =>
    rw [e] at p
    cases o with
    | next ρ => exact fun σ' H0' H' r' _ => p .non H0' H' r'.ext (.inl ⟨.non, fun _ => rfl⟩)
    | ret d => exact fun v H0' H' x1 z1 => p v H0' H' x1 z1
    | exc c q => exact fun σ' _ cls dd H0' H' x1 z1 => p cls dd H0' H' x1 z1
end
end DD

namespace DD
noncomputable section
open PySem PySem.Spec PyProof.Rows L2

theorem fn_sndD {P : Program} {w : World} {K : PySem.W.Frag} {mg : Str → Option Value} {base : Heap} {G : Gb} {k fuel : Nat} {nw : Bool} {x qual : Str} {params : Arguments} {bd : List Stmt} {sc : Scope} {f : Addr} {fd : FuncData} {N ps : List Str} {body : Ss} (F : FunD K x qual params bd sc [] [] f fd) (Sc : FnScope N ps sc) (hm : MdOk P w K mg base G k)
    (hc : chkSs G N sc nw body bd = true) : FnOk P w K mg base (L2.CX P w) (k + 1) f fd ps (spOf nw K mg G.excs ps.length (runF G fuel nw body N.length)) := by
  refine F.ok Sc (fun vs H Q E h => h.1) (fun cdv A outer s H vs Q E hr h => ?_)
  obtain ⟨hl, H0, ds, s0, rb, p⟩ := h
  have c : Cc (cxOf (L2.CX P w) P w K mg base N qual sc f cdv A outer s H E) G N sc true k := ⟨rfl, Sc.nd, rfl, rfl, hr, fun _ _ => rfl, hm⟩
  refine ⟨_, sndSs (W := fun cls d _ H => E cls d H) (fuel := fuel) c (takes_of rfl rfl rfl rfl) (passes_of rfl) Sc.kind rfl rfl body _ hc, ?_⟩
  refine ⟨⟨H0, H, (initR ds N.length).length⟩, initR ds N.length, H0, start_R s0 rb, ?_⟩
  unfold runF at p
  cases e : execSs G fuel nw body (initR ds N.length) with
  | none => rw [e] at p; exact p.elim
  | some o =>
    rw [e] at p
    cases o with
    | next ρ => exact fun σ' H0' H' r' _ => p .non H0' H' r'.ext (.inl ⟨.non, fun _ => rfl⟩)
    | ret d => exact fun v H0' H' x1 z1 => p v H0' H' x1 z1
    | exc c q => exact fun σ' _ cls dd H0' H' x1 z1 => p cls dd H0' H' x1 z1

/-! ### all defs of a law -/
structure DefX where
  nm : Str
  ps : List Str
  N : List Str
  nw : Bool
  fuel : Nat
  body : Ss
  st : Stmt
def DefX.fn (G : Gb) (d : DefX) : FnE := ⟨d.nm, d.ps.length, d.nw, runF G d.fuel d.nw d.body d.N.length⟩
def addF (G : Gb) (d : DefX) : Gb := { G with fns := G.fns ++ [d.fn G] }
def gbOf (G : Gb) (ds : List DefX) : Gb := ds.foldl addF G
def scopeB (N ps : List Str) (sc : Scope) : Bool := decide (sc.kind = .function) && decide (sc.isCoroutine = false) && decide (sc.isGenerator = false) && decide (N.Nodup) && decide (N.take ps.length = ps) && ps.all (fun x => decide (sc.names.lookup x = some .local) || decide (sc.names.lookup x = some .cell)) && sc.names.all (fun y => !decide (y.2 = .free))
theorem scopeB_ok {N ps : List Str} {sc : Scope} (h : scopeB N ps sc = true) : FnScope N ps sc := by
  unfold scopeB at h
  simp only [Bool.and_eq_true, decide_eq_true_eq, List.all_eq_true, Bool.or_eq_true, Bool.not_eq_true', decide_eq_false_iff_not] at h
  obtain ⟨⟨⟨⟨⟨⟨h1, h2⟩, h3⟩, h4⟩, h5⟩, h6⟩, h7⟩ := h
  exact ⟨h1, h2, h3, h4, h5, h6, h7⟩
def argsB (ps : List Str) : Arguments → Bool
  | ⟨[], as, none, [], [], none, []⟩ => decide (as.map (·.arg) = ps)
  | _ => false
/-- a call gives every parameter its argument -/
def BindNm (ps : List Str) : Prop := ∀ (x qual : Str) (as : List Arg) (bd : List Stmt) (sc : Scope) (kV doc pm : Value) (an : Option Addr) (cdv ct : Value), as.map (·.arg) = ps → ∀ us : List Value, us.length = ps.length →
  bindArgs (PySem.W.fnOf x qual ⟨[], as, none, [], [], none, []⟩ bd sc .none kV doc pm an cdv ct) ⟨us, []⟩ = pure (ps.zip us)
theorem bind_pl {x qual : Str} {ps : List Str} {params : Arguments} {bd : List Stmt} {sc : Scope} (bn : BindNm ps) (h : argsB ps params = true) (kV doc pm : Value) (an : Option Addr) (cdv ct : Value) (us : List Value) (hl : us.length = ps.length) :
    bindArgs (PySem.W.fnOf x qual params bd sc .none kV doc pm an cdv ct) ⟨us, []⟩ = pure (ps.zip us) := by
  unfold argsB at h
  split at h
  · exact bn x qual _ bd sc kV doc pm an cdv ct (of_decide_eq_true h) us hl
  · cases h
def okDef (G : Gb) (d : DefX) : Bool := scopeB d.N d.ps (defScope d.st) && argsB d.ps (defArgs d.st) && chkSs G d.N (defScope d.st) d.nw d.body (defBody d.st)
def okDefs (G : Gb) : List DefX → Bool
  | [] => true
  | d :: r => okDef G d && okDefs (addF G d) r
theorem MdOk.up {P : Program} {w : World} {K : PySem.W.Frag} {mg : Str → Option Value} {base : Heap} {G : Gb} {k : Nat} {F : FnE} (hm : MdOk P w K mg base G k) (hF : ∃ f fd ps, ps.length = F.ar ∧ FnOk P w K mg base (L2.CX P w) (k + 1) f fd ps (spOf F.nw K mg G.excs ps.length F.phi) ∧ mg F.name = some (.ref f) ∧ PySem.W.keepIn K (.ref f) = true ∧ Binds K fd ps []) :
    MdOk P w K mg base { G with fns := G.fns ++ [F] } (k + 1) where
  blt := hm.blt
  cst := hm.cst
  exc := hm.exc
  xc := hm.xc
  xg := hm.xg
  xx := hm.xx
  fns := fun j F' h => by
    by_cases hj : j < G.fns.length
    · have h' : G.fns[j]? = some F' := by
        rw [← h]
        exact (List.getElem?_append_left hj).symm
      obtain ⟨f, fd, ps, kk, h1, h2⟩ := hm.fns j F' h'
      exact ⟨f, fd, ps, kk, by omega, h2⟩
    · have h' : (G.fns ++ [F])[j]? = some F' := h
      rw [List.getElem?_append_right (by omega)] at h'
      have e : j - G.fns.length = 0 := by
        by_cases e : j - G.fns.length = 0
        · exact e
        · rw [List.getElem?_eq_none (by simp; omega)] at h'
          cases h'
      rw [e] at h'
      cases h'
      obtain ⟨f, fd, ps, h1, h2⟩ := hF
      exact ⟨f, fd, ps, k + 1, Nat.le_refl _, h1, h2⟩
section
variable {P : Program} {w : World} {K : PySem.W.Frag} {mg : Str → Option Value} {base : Heap}
def HasFn (K : PySem.W.Frag) (mg : Str → Option Value) (d : DefX) : Prop := ∃ f fd, FunD K d.nm d.nm (defArgs d.st) (defBody d.st) (defScope d.st) [] [] f fd ∧ mg d.nm = some (.ref f)
theorem def_ok {G : Gb} {k : Nat} {d : DefX} (bn : BindNm d.ps) (hm : MdOk P w K mg base G k) (h : okDef G d = true) {f : Addr} {fd : FuncData} (F : FunD K d.nm d.nm (defArgs d.st) (defBody d.st) (defScope d.st) [] [] f fd) :
    FnOk P w K mg base (L2.CX P w) (k + 1) f fd d.ps (spOf d.nw K mg G.excs d.ps.length (d.fn G).phi) ∧ Binds K fd d.ps [] := by
  unfold okDef at h
  simp only [Bool.and_eq_true] at h
  exact ⟨fn_sndD F (scopeB_ok h.1.1) hm h.2, F.bindsN fun kV doc pm an cdv ct us hl => bind_pl bn h.1.2 kV doc pm an cdv ct us hl⟩
theorem md_all : ∀ {ds : List DefX} {G : Gb} {k : Nat}, MdOk P w K mg base G k → okDefs G ds = true → (∀ d ∈ ds, HasFn K mg d) → (∀ d ∈ ds, BindNm d.ps) → MdOk P w K mg base (gbOf G ds) (k + ds.length)
  | [], G, k, hm, _, _, _ => hm
  | d :: r, G, k, hm, h, hf, hb => by
    unfold okDefs at h
    simp only [Bool.and_eq_true] at h
    obtain ⟨f, fd, F, m⟩ := hf d List.mem_cons_self
    obtain ⟨o, b⟩ := def_ok (hb d List.mem_cons_self) hm h.1 F
    have z := md_all (ds := r) (hm.up (F := d.fn G) ⟨f, fd, d.ps, rfl, o, m, F.kp, b⟩) h.2 (fun e he => hf e (List.mem_cons_of_mem _ he)) (fun e he => hb e (List.mem_cons_of_mem _ he))
    have e : k + (d :: r).length = k + 1 + r.length := by simp; omega
    rw [e]
    exact z
end
/-! ### the module's facts -/
structure Md where
  csts : List (Str × Cst)
  excs : List Str
  rz : List Bool
  tab : List (List Bool)
def Md.sub (M : Md) : Sub := fun i j => (M.tab.getD i []).getD j false
def Md.gb (M : Md) : Gb := ⟨M.csts, M.excs, M.rz, M.sub, []⟩
def rzd : List Str → List Bool → List Str
  | x :: xs, b :: bs => if b = true then x :: rzd xs bs else rzd xs bs
  | _, _ => []
def Md.fa (M : Md) (names : List Str) : List He.Fa := bltNames.map .free ++ M.csts.filterMap (fun q => match q.2 with
  | .int i => some (.int q.1 i)
  | .str s => some (.str q.1 s)
  | _ => none) ++ M.excs.map .glo ++ (rzd M.excs M.rz).map .exc ++ names.map .glo
def excB (K : PySem.W.Frag) (D : Addr) : Bool := decide (PySem.W.findIn K (.ref D) "__getattribute__" = some (some (.builtin "BaseException.__getattribute__"))) && decide (PySem.W.findIn K (.ref D) "__getattr__" = some none) && decide (PySem.W.subIn K (.ref D) (.type "BaseException") = some true) && PySem.W.hasDictIn K D && decide (PySem.W.findIn K (.ref D) "__class__" = some (some (.builtin "object.__class__"))) && decide (PySem.W.specialIn K (.builtin "object.__class__") "__get__" = some (some (.builtin "getset_descriptor.__get__"))) && decide (PySem.W.takesIn K (.builtin "object.__class__") = some true) && decide (PySem.W.mroIn K D (.type "object") = some true)
theorem excB_ok {K : PySem.W.Frag} {D : Addr} (h : excB K D = true) : ExcC K D := by
  unfold excB at h
  simp only [Bool.and_eq_true, decide_eq_true_eq] at h
  obtain ⟨⟨⟨⟨⟨⟨⟨h1, h2⟩, h3⟩, h4⟩, h5⟩, h6⟩, h7⟩, h8⟩ := h
  exact ⟨h1, h2, h3, h4, h5, h6, h7, h8⟩
def cstB (M : Md) : Bool := M.csts.all fun q => match q.2 with
  | .int _ => true
  | .str _ => true
  | _ => false
def Md.ex (M : Md) (K : PySem.W.Frag) : Bool := cstB M && (M.excs.all fun x => excB K (He.ga K x)) && ((List.range M.excs.length).all fun j => (List.range M.excs.length).all fun l => match M.excs[j]?, M.excs[l]? with
  | some x, some y => decide (PySem.W.exmOne K (.ref (He.ga K x)) (.ref (He.ga K y)) = some (M.sub j l)) && decide (PySem.W.kitOne K (.ref (He.ga K x)) (.ref (He.ga K y)) = some (M.sub j l))
  | _, _ => false) && (K.all fun q => !decide (q.2.cls = .type "list"))
theorem rzd_mem : ∀ {xs : List Str} {bs : List Bool} {j : Nat} {x : Str}, xs[j]? = some x → bs[j]? = some true → x ∈ rzd xs bs
  | [], _, _, _, h, _ => by simp at h
  | _ :: _, [], _, _, _, h => by simp at h
  | y :: xs, b :: bs, 0, x, h1, h2 => by
    simp at h1 h2
    subst h1 h2
    simp [rzd]
  | y :: xs, b :: bs, j + 1, x, h1, h2 => by
    have z := rzd_mem (xs := xs) (bs := bs) (j := j) (by simpa using h1) (by simpa using h2)
    unfold rzd
    split
    · exact List.mem_cons_of_mem _ z
    · exact z
section
variable {P : Program} {w : World} {K : PySem.W.Frag} {mg : Str → Option Value} {base h : Heap} {M : Md} {names : List Str} {fn : List He.DefD}
theorem md_base (X : K.In h) (G : h.Ns mainGlobals mg) (c : He.SaysD (M.fa names) fn K) (e : M.ex K = true) : MdOk P w K mg base M.gb 0 := by
  unfold Md.ex at e
  simp only [Bool.and_eq_true] at e
  obtain ⟨⟨⟨e1, e2⟩, e3⟩, e4⟩ := e
  have fc : ∀ f, f ∈ M.fa names → f.ok K = true := fun f hf => c.facts hf
  have gx : ∀ x, x ∈ M.excs → mg x = some (.ref (He.ga K x)) := fun x hx => He.glo_ok X G (fc (.glo x) (by unfold Md.fa; simp [hx]))
  refine ⟨fun x hx => He.free_ok X G (fc (.free x) (by unfold Md.fa; simp [hx])), ?_, ?_, ?_, ?_, ?_, ?_⟩
  · intro j z k hj
    have hm := List.mem_of_getElem? hj
    have e1' := List.all_eq_true.mp e1 _ hm
    cases k with
    | int i =>
      obtain ⟨t, ht⟩ := He.int_ok X G (x := z) (i := i) (fc (.int z i) (by
        unfold Md.fa
        simp only [List.mem_append, List.mem_filterMap]
        exact .inl (.inl (.inl (.inr ⟨_, hm, rfl⟩)))))
      exact ⟨_, ht, ⟨t, rfl⟩⟩
    | str s =>
      obtain ⟨t, ht⟩ := He.str_ok X G (x := z) (z := s) (fc (.str z s) (by
        unfold Md.fa
        simp only [List.mem_append, List.mem_filterMap]
        exact .inl (.inl (.inl (.inr ⟨_, hm, rfl⟩)))))
      exact ⟨_, ht, ⟨t, rfl⟩⟩
    | none => cases e1'
    | bool b => cases e1'
  · intro j x hj hr
    have hm := List.mem_of_getElem? hj
    exact ⟨_, gx x hm, He.exc_ok (fc (.exc x) (by
      unfold Md.fa
      simp only [List.mem_append, List.mem_map]
      exact .inl (.inr ⟨x, rzd_mem hj hr, rfl⟩)))⟩
  · intro j x C hj hC
    have hm := List.mem_of_getElem? hj
    rw [gx x hm] at hC
    cases hC
    exact excB_ok (List.all_eq_true.mp e2 x hm)
  · intro j x hj
    exact ⟨_, gx x (List.mem_of_getElem? hj)⟩
  · intro j l x y C D hj hl hC hD
    rw [gx x (List.mem_of_getElem? hj)] at hC
    rw [gx y (List.mem_of_getElem? hl)] at hD
    cases hC
    cases hD
    have lt : ∀ {xs : List Str} {j : Nat} {x : Str}, xs[j]? = some x → j ∈ List.range xs.length := fun {xs j x} h => by
      rw [List.mem_range]
      by_cases hj : j < xs.length
      · exact hj
      · rw [List.getElem?_eq_none (by omega)] at h
        cases h
    have z := List.all_eq_true.mp (List.all_eq_true.mp e3 j (lt hj)) l (lt hl)
    have hj' : M.excs[j]? = some x := hj
    have hl' : M.excs[l]? = some y := hl
    rw [hj', hl'] at z
    simp only [Bool.and_eq_true, decide_eq_true_eq] at z
    exact z
  · intro j F hj
    simp [Md.gb] at hj
theorem no_list (e : M.ex K = true) {a : Addr} {o : Obj} (h : K.lookup a = some o) : o.cls ≠ .type "list" := by
  unfold Md.ex at e
  simp only [Bool.and_eq_true] at e
  have z := List.all_eq_true.mp e.2 _ (He.lookup_mem h)
  intro hc
  simp [hc] at z
def defD (d : DefX) : He.DefD := ⟨(d.nm, none), d.nm, d.nm, defArgs d.st, defBody d.st, defScope d.st, [], []⟩
theorem hasFn (X : K.In h) (G : h.Ns mainGlobals mg) (ds : List DefX) (c : He.SaysD (M.fa (ds.map (·.nm))) (ds.map defD) K) : ∀ d ∈ ds, ∃ fd, FunD K d.nm d.nm (defArgs d.st) (defBody d.st) (defScope d.st) [] [] (He.ga K d.nm) fd ∧ mg d.nm = some (.ref (He.ga K d.nm)) := fun d hd => by
  obtain ⟨fd, F⟩ := c.defs (d := defD d) (List.mem_map.mpr ⟨d, hd, rfl⟩)
  exact ⟨fd, F, He.glo_ok X G (c.facts (f := .glo d.nm) (by
    unfold Md.fa
    simp only [List.mem_append, List.mem_map]
    exact .inr ⟨d.nm, ⟨d, hd, rfl⟩, rfl⟩))⟩
end
/-- THE END: a law by its defs -/
theorem law_end {l : PySem.W.OpenLaw} {M : Md} {ds : List DefX} {lw : DefX} {x : Str} {n : Nat} {w : World} {mg : Str → Option Value} {fa : Addr} {h : Heap} {k : Nat}
    (Y : ∃ K : PySem.W.Frag, K.In h ∧ He.SaysX (M.fa ((ds ++ [lw]).map (·.nm))) ((ds ++ [lw]).map defD) [] [] M.ex w h K) (G : h.Ns mainGlobals mg) (hmg : mg lw.nm = some (.ref fa)) (hp : lw.ps = [x]) (hk : ds.length + 1 = k)
    (ok : okDefs M.gb (ds ++ [lw]) = true) (hbn : ∀ d ∈ ds ++ [lw], BindNm d.ps) (hf : (∀ ns : List Int, ns.length ≤ n → ((lw.fn (gbOf M.gb ds)).phi [.list (ns.map .int)]) = some (.ok (.bool true)))) :
    ∃ (K : PySem.W.Frag) (fd : FuncData) (sp : Sp), K.In h ∧ (∀ (s : Shared) (u : Value), BindsTo s fd ⟨[u], []⟩ [(x, u)]) ∧
        (∀ (H : Hp) (a : Addr) (ns : List Int), ns.length ≤ n → Only H → SqL K H a (ns.map V.int) → sp [.ref a] H (fun v _ => v = .bl true) fun _ _ _ => False) ∧
        ∀ base : Heap, K.In base → base.Ns mainGlobals mg → FnOk l.prog w K mg base CX0 k fa fd [x] sp := by
  obtain ⟨K, KX, c⟩ := Y
  have hfn := hasFn KX G (ds ++ [lw]) c.t.d
  obtain ⟨fd, F, m⟩ := hfn lw (by simp)
  rw [hmg] at m
  cases m
  have okk : ∀ (ds : List DefX) (G : Gb), okDefs G (ds ++ [lw]) = true → okDefs G ds = true ∧ okDef (gbOf G ds) lw = true := by
    intro ds
    induction ds with
    | nil =>
      intro G h
      have h' : (okDef G lw && okDefs (addF G lw) []) = true := h
      rw [Bool.and_eq_true] at h'
      exact ⟨rfl, h'.1⟩
    | cons d r ih =>
      intro G h
      rw [List.cons_append] at h
      unfold okDefs at h
      simp only [Bool.and_eq_true] at h
      obtain ⟨h2, h3⟩ := ih (addF G d) h.2
      refine ⟨?_, h3⟩
      unfold okDefs
      simp [h.1, h2]
  obtain ⟨ok1, ok2⟩ := okk ds M.gb ok
  have hargs : argsB lw.ps (defArgs lw.st) = true := by
    unfold okDef at ok2
    simp only [Bool.and_eq_true] at ok2
    exact ok2.1.2
  have b := FunD.bindsA (ps := lw.ps) F fun kV doc pm an cdv ct us hl => bind_pl (hbn lw (by simp)) hargs kV doc pm an cdv ct us hl
  have base_ok : ∀ base : Heap, FnOk l.prog w K mg base (L2.CX l.prog w) k (He.ga K lw.nm) fd [x] (spOf lw.nw K mg (gbOf M.gb ds).excs 1 (lw.fn (gbOf M.gb ds)).phi) := fun base => by
    have m0 : MdOk l.prog w K mg base M.gb 0 := md_base KX G c.t.d c.more
    have m1 := md_all m0 ok1 (fun d hd => by
      obtain ⟨fd, F, m⟩ := hfn d (by simp [hd])
      exact ⟨_, fd, F, m⟩) (fun d hd => hbn d (by simp [hd]))
    have z := (def_ok (hbn lw (by simp)) m1 ok2 F).1
    rw [← hk]
    rw [hp] at z
    simpa using z
  refine ⟨K, fd, fun vs H Q E => ∃ (a : Addr) (ns : List Int), vs = [.ref a] ∧ ns.length ≤ n ∧ SqL K H a (ns.map V.int) ∧ ∀ H', Q (.bl true) H', KX, fun s u => ?_, ?_, ?_⟩
  · have z := b s [u] (by rw [hp]; rfl)
    rw [hp] at z
    exact z
  · intro H a ns hl _ hs
    exact ⟨a, ns, rfl, hl, hs, fun _ => rfl⟩
  · intro base _ _
    refine ⟨?_, ?_⟩
    · intro vs H Q E h
      obtain ⟨a, ns, rfl, _⟩ := h
      rfl
    · intro A outer s H args us vs Q E hr he hb hv hs
      obtain ⟨a, ns, rfl, hl, hS, hQ⟩ := hs
      have hR : Rd H a (.lst (ns.map V.int)) := by
        rcases hS with r | ⟨o, its, q, h1, h2, _⟩
        · exact r
        · exact absurd h2 (no_list c.more h1)
      have sp0 : spOf lw.nw K mg (gbOf M.gb ds).excs 1 (lw.fn (gbOf M.gb ds)).phi [.ref a] H (fun v _ => v = .bl true) (fun _ _ _ => False) := by
        refine ⟨rfl, H, [.list (ns.map .int)], Same.refl _, .cons (.inl (.lst hR (dds_ints ns))) .nil, ?_⟩
        rw [hf ns hl]
        intro v H0' H' _ z
        rcases z with ⟨z, _⟩ | ⟨_, _, mo, _⟩
        · cases z
          rfl
        · cases mo
      refine codeAny_mono ((base_ok base).run A outer s H args us [.ref a] _ _ hr he hb hv sp0) fun r s' hq => ?_
      match r, hq with
      | .ok (.ret u), hq =>
        obtain ⟨v, H', q1, q2, q3, q4, q5, q6⟩ := hq
        exact ⟨v, H', q1, q2, q3, q4, q5, by rw [q6]; exact hQ H'⟩
      | .error e, hq =>
        obtain ⟨_, _, _, _, _, _, _, _, _, _, _, _, z⟩ := hq
        exact z.elim
end
end DD

namespace DD
noncomputable section
open PySem PySem.Spec PyProof.Rows L2
def b_law_cell : Ss := (.cons (.ifS (.cmp .lt (.var 1) (.blt .len (.cons (.var 0) .nil))) (.cons (.ret (.idx (.var 0) (.var 1))) .nil) .nil) (.cons (.ret (.cst (.int 0))) .nil))
def b_law_row (c_law_cell : Nat) : Ss := (.cons (.dat 2 (.call c_law_cell (.cons (.var 0) (.cons (.var 1) .nil)))) (.cons (.own 3 (.lst .nil)) (.cons (.forS (.one 4) (.rng (.cons (.cst (.int 60)) .nil)) (.cons (.ifS (.cmp .lt (.call c_law_cell (.cons (.var 0) (.cons (.var 1) .nil))) (.op .pow (.cst (.int 10)) (.cst (.int 18)))) (.cons (.dat 2 (.op .mod (.op .add (.op .add (.op .add (.op .mul (.var 2) (.cst (.int 48271))) (.op .mul (.cst (.int 131)) (.var 4))) (.cst (.int 7))) (.call c_law_cell (.cons (.var 0) (.cons (.op .mod (.op .add (.op .add (.var 1) (.cst (.int 1))) (.var 4)) (.cst (.int 20))) .nil)))) (.cst (.int 2147483647)))) (.cons (.app 3 (.op .mod (.op .fdiv (.var 2) (.cst (.int 11))) (.cst (.int 1000)))) .nil)) (.cons (.app 3 (.op .mod (.var 2) (.cst (.int 1000)))) (.cons (.dat 2 (.op .fdiv (.var 2) (.cst (.int 1000)))) .nil))) .nil)) (.cons (.ret (.var 3)) .nil))))
def b_law_building (c_law_row : Nat) : Ss := (.cons (.dat 4 (.call c_law_row (.cons (.var 0) (.cons (.var 1) .nil)))) (.cons (.dat 5 (.op .add (.cst (.int 1)) (.op .mod (.idx (.var 4) (.cst (.int 0))) (.var 2)))) (.cons (.own 6 (.lst .nil)) (.cons (.ifS (.cmp .gt (.var 5) (.cst (.int 1))) (.cons (.forS (.one 7) (.rng (.cons (.op .mod (.idx (.var 4) (.cst (.int 1))) (.op .add (.var 3) (.cst (.int 1)))) .nil)) (.cons (.dat 8 (.op .mod (.idx (.var 4) (.op .add (.cst (.int 2)) (.op .mul (.cst (.int 3)) (.var 7)))) (.var 5))) (.cons (.dat 9 (.op .mod (.op .add (.op .add (.var 8) (.cst (.int 1))) (.op .mod (.idx (.var 4) (.op .add (.cst (.int 3)) (.op .mul (.cst (.int 3)) (.var 7)))) (.op .sub (.var 5) (.cst (.int 1))))) (.var 5))) (.cons (.ifS (.idx (.lst (.cons (.cst (.bool true)) (.cons (.cst (.bool false)) (.cons (.cmp .eq (.op .mod (.idx (.var 4) (.op .add (.cst (.int 4)) (.op .mul (.cst (.int 3)) (.var 7)))) (.cst (.int 2))) (.cst (.int 0))) .nil)))) (.op .mod (.idx (.var 4) (.cst (.int 40))) (.cst (.int 3)))) (.cons (.app 6 (.tup (.cons (.blt .min (.cons (.var 8) (.cons (.var 9) .nil))) (.cons (.blt .max (.cons (.var 8) (.cons (.var 9) .nil))) (.cons (.cst (.str "two-way")) .nil))))) .nil) (.cons (.app 6 (.tup (.cons (.var 8) (.cons (.var 9) (.cons (.cst (.str "one-way")) .nil))))) .nil)) .nil)))) .nil) .nil) (.cons (.ret (.tup (.cons (.var 5) (.cons (.blt .tuple (.cons (.var 6) .nil)) .nil)))) .nil)))))
def b_law_side : Ss := (.cons (.tgt (.many (.cons (.one 3) (.cons (.one 4) (.cons (.one 5) .nil)))) (.idx (.idx (.var 0) (.cst (.int 1))) (.var 1))) (.cons (.ifS (.cmp .eq (.var 2) (.var 3)) (.cons (.ret (.var 4)) .nil) .nil) (.cons (.ret (.ifE (.and (.cons (.cmp .eq (.var 2) (.var 4)) (.cons (.cmp .eq (.var 5) (.cst (.str "two-way"))) .nil))) (.var 3) (.cst .none))) .nil)))
def b_law_walked (c_law_row c_law_side : Nat) : Ss := (.cons (.dat 4 (.call c_law_row (.cons (.var 0) (.cons (.var 1) .nil)))) (.cons (.dat 5 (.op .mod (.idx (.var 4) (.cst (.int 0))) (.idx (.var 2) (.cst (.int 0))))) (.cons (.dat 6 (.var 5)) (.cons (.own 7 (.lst .nil)) (.cons (.forS (.one 8) (.rng (.cons (.op .mod (.idx (.var 4) (.cst (.int 1))) (.op .add (.var 3) (.cst (.int 1)))) .nil)) (.cons (.dat 9 (.comp (.var 10) (.one 10) (.rng (.cons (.blt .len (.cons (.idx (.var 2) (.cst (.int 1))) .nil)) .nil)) (.yes (.notN (.call c_law_side (.cons (.var 2) (.cons (.var 10) (.cons (.var 6) .nil)))))) [("number", 10)])) (.cons (.ifS (.cmp .ne (.var 9) (.lst .nil)) (.cons (.dat 10 (.idx (.var 9) (.op .mod (.idx (.var 4) (.op .add (.cst (.int 2)) (.var 8))) (.blt .len (.cons (.var 9) .nil))))) (.cons (.app 7 (.var 10)) (.cons (.dat 6 (.call c_law_side (.cons (.var 2) (.cons (.var 10) (.cons (.var 6) .nil))))) .nil))) .nil) .nil))) (.cons (.ret (.tup (.cons (.var 5) (.cons (.blt .tuple (.cons (.var 7) .nil)) (.cons (.var 6) .nil))))) .nil))))))
def b_law_whole : Ss := (.cons (.ret (.and (.cons (.isi (.var 0) .int) (.cons (.not (.isi (.var 0) .bool)) .nil)))) .nil)
def b_law_in (c_law_whole : Nat) : Ss := (.cons (.ret (.and (.cons (.call c_law_whole (.cons (.var 0) .nil)) (.cons (.chain (.var 1) (.link .le (.var 0) (.last .le (.var 2)))) .nil)))) .nil)
def b_law_rooms (c_law_in c_law_side : Nat) : Ss := (.cons (.ifS (.or (.cons (.not (.isi (.var 1) .tuple)) (.cons (.cmp .ne (.blt .len (.cons (.var 1) .nil)) (.cst (.int 2))) (.cons (.not (.call c_law_in (.cons (.idx (.var 1) (.cst (.int 0))) (.cons (.cst (.int 0)) (.cons (.op .sub (.idx (.var 0) (.cst (.int 0))) (.cst (.int 1))) .nil))))) .nil)))) (.cons (.ret (.cst .none)) .nil) .nil) (.cons (.ifS (.or (.cons (.not (.isi (.idx (.var 1) (.cst (.int 1))) .tuple)) (.cons (.cmp .gt (.blt .len (.cons (.idx (.var 1) (.cst (.int 1))) .nil)) (.cst (.int 72))) .nil))) (.cons (.ret (.cst .none)) .nil) .nil) (.cons (.own 2 (.lst (.cons (.idx (.var 1) (.cst (.int 0))) .nil))) (.cons (.forS (.one 3) (.seq (.idx (.var 1) (.cst (.int 1)))) (.cons (.ifS (.not (.call c_law_in (.cons (.var 3) (.cons (.cst (.int 0)) (.cons (.op .sub (.blt .len (.cons (.idx (.var 0) (.cst (.int 1))) .nil)) (.cst (.int 1))) .nil))))) (.cons (.ret (.cst .none)) .nil) .nil) (.cons (.dat 4 (.call c_law_side (.cons (.var 0) (.cons (.var 3) (.cons (.idx (.var 2) (.neg (.cst (.int 1)))) .nil))))) (.cons (.ifS (.isN (.var 4)) (.cons (.ret (.cst .none)) .nil) .nil) (.cons (.app 2 (.var 4)) .nil))))) (.cons (.ret (.var 2)) .nil)))))
def b_in_range : Ss := (.cons (.ret (.and (.cons (.isi (.var 0) .int) (.cons (.not (.isi (.var 0) .bool)) (.cons (.chain (.var 1) (.link .le (.var 0) (.last .le (.var 2)))) .nil))))) .nil)
def b_is_door (g_TWO_WAY g_ONE_WAY c_in_range : Nat) : Ss := (.cons (.ifS (.or (.cons (.not (.isi (.var 1) .tuple)) (.cons (.cmp .ne (.blt .len (.cons (.var 1) .nil)) (.cst (.int 3))) (.cons (.cmp .notin (.idx (.var 1) (.cst (.int 2))) (.tup (.cons (.glb g_ONE_WAY) (.cons (.glb g_TWO_WAY) .nil)))) .nil)))) (.cons (.ret (.cst (.bool false))) .nil) .nil) (.cons (.ifS (.or (.cons (.not (.call c_in_range (.cons (.idx (.var 1) (.cst (.int 0))) (.cons (.cst (.int 0)) (.cons (.op .sub (.var 0) (.cst (.int 1))) .nil))))) (.cons (.not (.call c_in_range (.cons (.idx (.var 1) (.cst (.int 1))) (.cons (.cst (.int 0)) (.cons (.op .sub (.var 0) (.cst (.int 1))) .nil))))) .nil))) (.cons (.ret (.cst (.bool false))) .nil) .nil) (.cons (.ret (.ifE (.cmp .eq (.idx (.var 1) (.cst (.int 2))) (.glb g_ONE_WAY)) (.cmp .ne (.idx (.var 1) (.cst (.int 0))) (.idx (.var 1) (.cst (.int 1)))) (.cmp .lt (.idx (.var 1) (.cst (.int 0))) (.idx (.var 1) (.cst (.int 1)))))) .nil)))
def b_is_building (c_in_range g_MAX_ROOMS g_MAX_DOORS c_is_door : Nat) : Ss := (.cons (.ifS (.or (.cons (.not (.isi (.var 0) .tuple)) (.cons (.cmp .ne (.blt .len (.cons (.var 0) .nil)) (.cst (.int 2))) (.cons (.not (.call c_in_range (.cons (.idx (.var 0) (.cst (.int 0))) (.cons (.cst (.int 1)) (.cons (.glb g_MAX_ROOMS) .nil))))) .nil)))) (.cons (.ret (.cst (.bool false))) .nil) .nil) (.cons (.ifS (.or (.cons (.not (.isi (.idx (.var 0) (.cst (.int 1))) .tuple)) (.cons (.cmp .gt (.blt .len (.cons (.idx (.var 0) (.cst (.int 1))) .nil)) (.glb g_MAX_DOORS)) .nil))) (.cons (.ret (.cst (.bool false))) .nil) .nil) (.cons (.ret (.not (.comp (.var 1) (.one 1) (.seq (.idx (.var 0) (.cst (.int 1)))) (.yes (.not (.call c_is_door (.cons (.idx (.var 0) (.cst (.int 0))) (.cons (.var 1) .nil))))) [("door", 1)]))) .nil)))
def b_check_building (c_is_building x_InvalidBuilding : Nat) : Ss := (.cons (.ifS (.not (.call c_is_building (.cons (.var 0) .nil))) (.cons (.raise x_InvalidBuilding) .nil) .nil) .nil)
def b_other_side (g_TWO_WAY : Nat) : Ss := (.cons (.tgt (.many (.cons (.one 3) (.cons (.one 4) (.cons (.one 5) .nil)))) (.idx (.idx (.var 0) (.cst (.int 1))) (.var 1))) (.cons (.ifS (.cmp .eq (.var 2) (.var 3)) (.cons (.ret (.var 4)) .nil) .nil) (.cons (.ret (.ifE (.and (.cons (.cmp .eq (.var 2) (.var 4)) (.cons (.cmp .eq (.var 5) (.glb g_TWO_WAY)) .nil))) (.var 3) (.cst .none))) .nil)))
def b_trace (c_in_range g_MAX_STEPS c_other_side : Nat) : Ss := (.cons (.ifS (.or (.cons (.not (.isi (.var 1) .tuple)) (.cons (.cmp .ne (.blt .len (.cons (.var 1) .nil)) (.cst (.int 2))) (.cons (.not (.call c_in_range (.cons (.idx (.var 1) (.cst (.int 0))) (.cons (.cst (.int 0)) (.cons (.op .sub (.idx (.var 0) (.cst (.int 0))) (.cst (.int 1))) .nil))))) .nil)))) (.cons (.ret (.cst .none)) .nil) .nil) (.cons (.ifS (.or (.cons (.not (.isi (.idx (.var 1) (.cst (.int 1))) .tuple)) (.cons (.cmp .gt (.blt .len (.cons (.idx (.var 1) (.cst (.int 1))) .nil)) (.glb g_MAX_STEPS)) .nil))) (.cons (.ret (.cst .none)) .nil) .nil) (.cons (.own 2 (.lst (.cons (.idx (.var 1) (.cst (.int 0))) .nil))) (.cons (.forS (.one 3) (.seq (.idx (.var 1) (.cst (.int 1)))) (.cons (.ifS (.not (.call c_in_range (.cons (.var 3) (.cons (.cst (.int 0)) (.cons (.op .sub (.blt .len (.cons (.idx (.var 0) (.cst (.int 1))) .nil)) (.cst (.int 1))) .nil))))) (.cons (.ret (.cst .none)) .nil) .nil) (.cons (.dat 4 (.call c_other_side (.cons (.var 0) (.cons (.var 3) (.cons (.idx (.var 2) (.neg (.cst (.int 1)))) .nil))))) (.cons (.ifS (.isN (.var 4)) (.cons (.ret (.cst .none)) .nil) .nil) (.cons (.app 2 (.var 4)) .nil))))) (.cons (.ret (.var 2)) .nil)))))
def b_is_walk (c_check_building c_trace : Nat) : Ss := (.cons (.expr (.call c_check_building (.cons (.var 0) .nil))) (.cons (.ret (.notN (.call c_trace (.cons (.var 0) (.cons (.var 1) .nil))))) .nil))
def b_checked_rooms (c_trace x_InvalidWalk : Nat) : Ss := (.cons (.dat 2 (.call c_trace (.cons (.var 0) (.cons (.var 1) .nil)))) (.cons (.ifS (.isN (.var 2)) (.cons (.raise x_InvalidWalk) .nil) .nil) (.cons (.ret (.var 2)) .nil)))
def b_rooms_of (c_check_building c_checked_rooms : Nat) : Ss := (.cons (.expr (.call c_check_building (.cons (.var 0) .nil))) (.cons (.ret (.call c_checked_rooms (.cons (.var 0) (.cons (.var 1) .nil)))) .nil))
def b_tally : Ss := (.cons (.own 2 (.op .mul (.lst (.cons (.cst (.int 0)) .nil)) (.blt .len (.cons (.idx (.var 0) (.cst (.int 1))) .nil)))) (.cons (.forS (.many (.cons (.one 3) (.cons (.one 4) .nil))) (.seq (.var 1)) (.cons (.forS (.one 5) (.seq (.var 4)) (.cons (.augp 2 (.var 5) .add (.cst (.int 1))) .nil)) .nil)) (.cons (.ret (.blt .tuple (.cons (.var 2) .nil))) .nil)))
def b_counts_of (c_check_building x_InvalidWalk c_checked_rooms c_tally g_MAX_COUNT x_InvalidCounts : Nat) : Ss := (.cons (.expr (.call c_check_building (.cons (.var 0) .nil))) (.cons (.ifS (.not (.isi (.var 1) .list)) (.cons (.raise x_InvalidWalk) .nil) .nil) (.cons (.forS (.one 2) (.seq (.var 1)) (.cons (.expr (.call c_checked_rooms (.cons (.var 0) (.cons (.var 2) .nil)))) .nil)) (.cons (.dat 3 (.call c_tally (.cons (.var 0) (.cons (.var 1) .nil)))) (.cons (.ifS (.comp (.var 4) (.one 4) (.seq (.var 3)) (.yes (.cmp .gt (.var 4) (.glb g_MAX_COUNT))) [("count", 4)]) (.cons (.raise x_InvalidCounts) .nil) .nil) (.cons (.ret (.var 3)) .nil))))))
def b_law_walk_error (x_InvalidWalk x_DoorError x_InvalidBuilding x_InvalidCounts c_rooms_of c_counts_of : Nat) : Ss := (.cons (.tryS 4 (.cons (.ifS (.cmp .eq (.var 0) (.cst (.int 0))) (.cons (.expr (.call c_rooms_of (.cons (.var 1) (.cons (.var 2) .nil)))) .nil) (.cons (.expr (.call c_counts_of (.cons (.var 1) (.cons (.var 2) .nil)))) .nil)) .nil) [(x_InvalidWalk, 3, (.ret (.ifE (.and (.isx x_DoorError) (.not (.isx x_InvalidBuilding))) (.str "walk") (.str "other")))), (x_InvalidCounts, 3, (.ret (.ifE (.and (.isx x_DoorError) (.not (.isx x_InvalidBuilding))) (.str "counts") (.str "other"))))]) (.cons (.ret (.cst (.str "none"))) .nil))
def b_law_s18 (c_law_row c_law_building c_law_walked c_law_rooms c_is_walk c_law_walk_error c_rooms_of c_counts_of : Nat) : Ss := .cons (.ret (.and (.cons (.cmp .eq (.call c_counts_of (.cons (.var 2) (.cons (.var 7) .nil))) (.blt .tuple (.cons (.var 8) .nil))) (.cons (.cmp .eq (.call c_law_walk_error (.cons (.cst (.int 1)) (.cons (.var 2) (.cons (.blt .tuple (.cons (.var 7) .nil)) .nil)))) (.cst (.str "walk"))) .nil)))) .nil
def b_law_s17 (c_law_row c_law_building c_law_walked c_law_rooms c_is_walk c_law_walk_error c_rooms_of c_counts_of : Nat) : Ss := .cons (.ifS (.cmp .gt (.blt .max (.cons (.op .add (.var 8) (.lst (.cons (.cst (.int 0)) .nil))) .nil)) (.cst (.int 9))) (.cons (.ret (.cmp .eq (.call c_law_walk_error (.cons (.cst (.int 1)) (.cons (.var 2) (.cons (.var 7) .nil)))) (.cst (.str "counts")))) .nil) .nil) (b_law_s18 c_law_row c_law_building c_law_walked c_law_rooms c_is_walk c_law_walk_error c_rooms_of c_counts_of)
def b_law_s16 (c_law_row c_law_building c_law_walked c_law_rooms c_is_walk c_law_walk_error c_rooms_of c_counts_of : Nat) : Ss := .cons (.forS (.many (.cons (.one 15) (.cons (.one 16) .nil))) (.seq (.var 7)) (.cons (.forS (.one 17) (.seq (.var 16)) (.cons (.put 8 (.var 17) (.op .add (.idx (.var 8) (.var 17)) (.cst (.int 1)))) .nil)) .nil)) (b_law_s17 c_law_row c_law_building c_law_walked c_law_rooms c_is_walk c_law_walk_error c_rooms_of c_counts_of)
def b_law_s15 (c_law_row c_law_building c_law_walked c_law_rooms c_is_walk c_law_walk_error c_rooms_of c_counts_of : Nat) : Ss := .cons (.own 8 (.op .mul (.lst (.cons (.cst (.int 0)) .nil)) (.var 3))) (b_law_s16 c_law_row c_law_building c_law_walked c_law_rooms c_is_walk c_law_walk_error c_rooms_of c_counts_of)
def b_law_s14 (c_law_row c_law_building c_law_walked c_law_rooms c_is_walk c_law_walk_error c_rooms_of c_counts_of : Nat) : Ss := .cons (.dat 7 (.op .add (.lst (.cons (.var 5) (.cons (.tup (.cons (.var 12) (.cons (.var 13) .nil))) .nil))) (.op .mul (.lst (.cons (.var 5) .nil)) (.op .mod (.idx (.var 1) (.cst (.int 2))) (.cst (.int 3)))))) (b_law_s15 c_law_row c_law_building c_law_walked c_law_rooms c_is_walk c_law_walk_error c_rooms_of c_counts_of)
def b_law_s13 (c_law_row c_law_building c_law_walked c_law_rooms c_is_walk c_law_walk_error c_rooms_of c_counts_of : Nat) : Ss := .cons (.ifS (.cmp .ne (.call c_rooms_of (.cons (.var 2) (.cons (.var 5) .nil))) (.var 6)) (.cons (.ret (.cst (.bool false))) .nil) .nil) (b_law_s14 c_law_row c_law_building c_law_walked c_law_rooms c_is_walk c_law_walk_error c_rooms_of c_counts_of)
def b_law_s12 (c_law_row c_law_building c_law_walked c_law_rooms c_is_walk c_law_walk_error c_rooms_of c_counts_of : Nat) : Ss := .cons (.ifS (.isN (.var 6)) (.cons (.ret (.and (.cons (.cmp .eq (.call c_law_walk_error (.cons (.cst (.int 0)) (.cons (.var 2) (.cons (.var 5) .nil)))) (.cst (.str "walk"))) (.cons (.cmp .eq (.call c_law_walk_error (.cons (.cst (.int 1)) (.cons (.var 2) (.cons (.lst (.cons (.var 5) .nil)) .nil)))) (.cst (.str "walk"))) .nil)))) .nil) .nil) (b_law_s13 c_law_row c_law_building c_law_walked c_law_rooms c_is_walk c_law_walk_error c_rooms_of c_counts_of)
def b_law_s11 (c_law_row c_law_building c_law_walked c_law_rooms c_is_walk c_law_walk_error c_rooms_of c_counts_of : Nat) : Ss := .cons (.ifS (.cmp .ne (.call c_is_walk (.cons (.var 2) (.cons (.var 5) .nil))) (.notN (.var 6))) (.cons (.ret (.cst (.bool false))) .nil) .nil) (b_law_s12 c_law_row c_law_building c_law_walked c_law_rooms c_is_walk c_law_walk_error c_rooms_of c_counts_of)
def b_law_s10 (c_law_row c_law_building c_law_walked c_law_rooms c_is_walk c_law_walk_error c_rooms_of c_counts_of : Nat) : Ss := .cons (.dat 6 (.call c_law_rooms (.cons (.var 2) (.cons (.var 5) .nil)))) (b_law_s11 c_law_row c_law_building c_law_walked c_law_rooms c_is_walk c_law_walk_error c_rooms_of c_counts_of)
def b_law_s9 (c_law_row c_law_building c_law_walked c_law_rooms c_is_walk c_law_walk_error c_rooms_of c_counts_of : Nat) : Ss := .cons (.dat 5 (.idx (.var 4) (.op .mod (.idx (.var 1) (.cst (.int 1))) (.cst (.int 17))))) (b_law_s10 c_law_row c_law_building c_law_walked c_law_rooms c_is_walk c_law_walk_error c_rooms_of c_counts_of)
def b_law_s8 (c_law_row c_law_building c_law_walked c_law_rooms c_is_walk c_law_walk_error c_rooms_of c_counts_of : Nat) : Ss := .cons (.dat 4 (.op .add (.var 4) (.lst (.cons (.tup (.cons (.var 9) (.cons (.op .add (.var 10) (.var 10)) .nil))) (.cons (.tup (.cons (.var 9) (.cons (.tup (.cons (.neg (.cst (.int 1))) .nil)) .nil))) (.cons (.tup (.cons (.var 9) (.cons (.op .mul (.tup (.cons (.cst (.int 0)) .nil)) (.cst (.int 73))) .nil))) (.cons (.tup (.cons (.cst (.int 0)) (.cons (.op .mul (.tup (.cons (.cst (.int 0)) .nil)) (.cst (.int 72))) .nil))) .nil))))))) (b_law_s9 c_law_row c_law_building c_law_walked c_law_rooms c_is_walk c_law_walk_error c_rooms_of c_counts_of)
def b_law_s7 (c_law_row c_law_building c_law_walked c_law_rooms c_is_walk c_law_walk_error c_rooms_of c_counts_of : Nat) : Ss := .cons (.dat 4 (.op .add (.var 4) (.lst (.cons (.tup (.cons (.var 9) (.cons (.op .add (.var 10) (.tup (.cons (.cst .none) .nil))) .nil))) (.cons (.lst (.cons (.var 9) (.cons (.var 10) .nil))) (.cons (.tup (.cons (.var 9) (.cons (.slc (.var 10) (.yes (.cst (.int 1))) .no) .nil))) (.cons (.tup (.cons (.cst (.bool true)) (.cons (.tup .nil) .nil))) .nil))))))) (b_law_s8 c_law_row c_law_building c_law_walked c_law_rooms c_is_walk c_law_walk_error c_rooms_of c_counts_of)
def b_law_s6 (c_law_row c_law_building c_law_walked c_law_rooms c_is_walk c_law_walk_error c_rooms_of c_counts_of : Nat) : Ss := .cons (.dat 4 (.op .add (.var 4) (.lst (.cons (.tup (.cons (.var 9) (.cons (.blt .list (.cons (.var 10) .nil)) .nil))) (.cons (.cst .none) (.cons (.tup (.cons (.var 9) .nil)) (.cons (.tup (.cons (.idx (.var 2) (.cst (.int 0))) (.cons (.var 10) .nil))) (.cons (.tup (.cons (.var 9) (.cons (.op .add (.var 10) (.tup (.cons (.var 3) .nil))) .nil))) .nil)))))))) (b_law_s7 c_law_row c_law_building c_law_walked c_law_rooms c_is_walk c_law_walk_error c_rooms_of c_counts_of)
def b_law_s5 (c_law_row c_law_building c_law_walked c_law_rooms c_is_walk c_law_walk_error c_rooms_of c_counts_of : Nat) : Ss := .cons (.dat 4 (.lst (.cons (.tup (.cons (.var 9) (.cons (.var 10) .nil))) (.cons (.tup (.cons (.var 9) (.cons (.var 10) .nil))) (.cons (.tup (.cons (.op .mod (.idx (.var 1) (.cst (.int 0))) (.idx (.var 2) (.cst (.int 0)))) (.cons (.var 10) .nil))) (.cons (.tup (.cons (.var 9) (.cons (.rev (.var 10)) .nil))) .nil)))))) (b_law_s6 c_law_row c_law_building c_law_walked c_law_rooms c_is_walk c_law_walk_error c_rooms_of c_counts_of)
def b_law_s4 (c_law_row c_law_building c_law_walked c_law_rooms c_is_walk c_law_walk_error c_rooms_of c_counts_of : Nat) : Ss := .cons (.dat 3 (.blt .len (.cons (.idx (.var 2) (.cst (.int 1))) .nil))) (b_law_s5 c_law_row c_law_building c_law_walked c_law_rooms c_is_walk c_law_walk_error c_rooms_of c_counts_of)
def b_law_s3 (c_law_row c_law_building c_law_walked c_law_rooms c_is_walk c_law_walk_error c_rooms_of c_counts_of : Nat) : Ss := .cons (.tgt (.many (.cons (.one 12) (.cons (.one 13) (.cons (.one 14) .nil)))) (.call c_law_walked (.cons (.var 0) (.cons (.cst (.int 4)) (.cons (.var 2) (.cons (.cst (.int 12)) .nil)))))) (b_law_s4 c_law_row c_law_building c_law_walked c_law_rooms c_is_walk c_law_walk_error c_rooms_of c_counts_of)
def b_law_s2 (c_law_row c_law_building c_law_walked c_law_rooms c_is_walk c_law_walk_error c_rooms_of c_counts_of : Nat) : Ss := .cons (.tgt (.many (.cons (.one 9) (.cons (.one 10) (.cons (.one 11) .nil)))) (.call c_law_walked (.cons (.var 0) (.cons (.cst (.int 3)) (.cons (.var 2) (.cons (.cst (.int 12)) .nil)))))) (b_law_s3 c_law_row c_law_building c_law_walked c_law_rooms c_is_walk c_law_walk_error c_rooms_of c_counts_of)
def b_law_s1 (c_law_row c_law_building c_law_walked c_law_rooms c_is_walk c_law_walk_error c_rooms_of c_counts_of : Nat) : Ss := .cons (.dat 2 (.call c_law_building (.cons (.var 0) (.cons (.cst (.int 2)) (.cons (.cst (.int 5)) (.cons (.cst (.int 6)) .nil)))))) (b_law_s2 c_law_row c_law_building c_law_walked c_law_rooms c_is_walk c_law_walk_error c_rooms_of c_counts_of)
def b_law_s0 (c_law_row c_law_building c_law_walked c_law_rooms c_is_walk c_law_walk_error c_rooms_of c_counts_of : Nat) : Ss := .cons (.dat 1 (.call c_law_row (.cons (.var 0) (.cons (.cst (.int 5)) .nil)))) (b_law_s1 c_law_row c_law_building c_law_walked c_law_rooms c_is_walk c_law_walk_error c_rooms_of c_counts_of)
def b_law (c_law_row c_law_building c_law_walked c_law_rooms c_is_walk c_law_walk_error c_rooms_of c_counts_of : Nat) : Ss := b_law_s0 c_law_row c_law_building c_law_walked c_law_rooms c_is_walk c_law_walk_error c_rooms_of c_counts_of
end
end DD

namespace K02
open PySem PySem.Spec PyProof.Rows L2 DD
def top (i : Nat) : Stmt := PySem.Challenge.pw_doorcounters_k02_walks.main.body.getD i (.Pass ⟨0, 0, 0, 0⟩)
def md : Md := ⟨[("MAX_ROOMS", .int 6), ("MAX_DOORS", .int 8), ("MAX_COUNT", .int 9), ("ONE_WAY", .str "one-way"), ("TWO_WAY", .str "two-way"), ("MAX_STEPS", .int 72)], ["DoorError", "InvalidBuilding", "InvalidCounts", "InvalidWalk"], [false, true, true, true], [[true, false, false, false], [true, true, false, false], [true, false, true, false], [true, false, false, true]]⟩
abbrev d_law_cell : DefX := ⟨"_law_cell", ["script", "k"], ["script", "k"], false, 0, b_law_cell, top 25⟩
abbrev d_law_row : DefX := ⟨"_law_row", ["script", "at"], ["script", "at", "cell", "found", "time"], true, 0, b_law_row 0, top 27⟩
abbrev d_law_building : DefX := ⟨"_law_building", ["script", "at", "most_rooms", "most_doors"], ["script", "at", "most_rooms", "most_doors", "draws", "rooms", "doors", "time", "one", "other"], true, 0, b_law_building 1, top 29⟩
abbrev d_law_side : DefX := ⟨"_law_side", ["building", "number", "room"], ["building", "number", "room", "one", "other", "kind"], false, 0, b_law_side, top 30⟩
abbrev d_law_walked : DefX := ⟨"_law_walked", ["script", "at", "building", "most"], ["script", "at", "building", "most", "draws", "start", "room", "doors", "time", "here", "number"], true, 0, b_law_walked 1 3, top 31⟩
abbrev d_law_whole : DefX := ⟨"_law_whole", ["found"], ["found"], false, 0, b_law_whole, top 26⟩
abbrev d_law_in : DefX := ⟨"_law_in", ["thing", "low", "high"], ["thing", "low", "high"], false, 0, b_law_in 5, top 28⟩
abbrev d_law_rooms : DefX := ⟨"_law_rooms", ["building", "value"], ["building", "value", "found", "number", "there"], true, 0, b_law_rooms 6 3, top 32⟩
abbrev d_in_range : DefX := ⟨"in_range", ["value", "low", "high"], ["value", "low", "high"], false, 0, b_in_range, top 11⟩
abbrev d_is_door : DefX := ⟨"is_door", ["rooms", "value"], ["rooms", "value"], false, 0, b_is_door 4 3 8, top 12⟩
abbrev d_is_building : DefX := ⟨"is_building", ["value"], ["value", "door"], true, 0, b_is_building 8 0 1 9, top 13⟩
abbrev d_check_building : DefX := ⟨"check_building", ["building"], ["building"], true, 0, b_check_building 10 1, top 14⟩
abbrev d_other_side : DefX := ⟨"other_side", ["building", "number", "room"], ["building", "number", "room", "one", "other", "kind"], false, 0, b_other_side 4, top 15⟩
abbrev d_trace : DefX := ⟨"trace", ["building", "value"], ["building", "value", "rooms", "number", "room"], true, 0, b_trace 8 5 12, top 18⟩
abbrev d_is_walk : DefX := ⟨"is_walk", ["building", "value"], ["building", "value"], true, 0, b_is_walk 11 13, top 19⟩
abbrev d_checked_rooms : DefX := ⟨"checked_rooms", ["building", "walk"], ["building", "walk", "rooms"], false, 0, b_checked_rooms 13 3, top 20⟩
abbrev d_rooms_of : DefX := ⟨"rooms_of", ["building", "walk"], ["building", "walk"], false, 0, b_rooms_of 11 15, top 21⟩
abbrev d_tally : DefX := ⟨"tally", ["building", "walks"], ["building", "walks", "result", "start", "doors", "number"], true, 0, b_tally, top 22⟩
abbrev d_counts_of : DefX := ⟨"counts_of", ["building", "walks"], ["building", "walks", "walk", "result", "count"], false, 0, b_counts_of 11 3 15 17 2 2, top 23⟩
abbrev d_law_walk_error : DefX := ⟨"_law_walk_error", ["mode", "building", "value"], ["mode", "building", "value", "e"], true, 0, b_law_walk_error 3 0 1 2 16 18, top 33⟩
abbrev d_law : DefX := ⟨"law", ["script"], ["script", "draws", "building", "count", "values", "value", "due", "some", "passes", "start", "doors", "end", "others", "more", "last", "begin", "passed", "number"], false, 0, b_law 1 2 4 7 14 19 16 18, top 34⟩
def ds : List DefX := [d_law_cell, d_law_row, d_law_building, d_law_side, d_law_walked, d_law_whole, d_law_in, d_law_rooms, d_in_range, d_is_door, d_is_building, d_check_building, d_other_side, d_trace, d_is_walk, d_checked_rooms, d_rooms_of, d_tally, d_counts_of, d_law_walk_error]
abbrev lw : DefX := d_law
theorem bn_0 : BindNm ["script", "k"] := by
  intro x qual as bd sc kV doc pm an cdv ct e us hl
  match as, us, e, hl with
  | [⟨n0, _, _⟩, ⟨n1, _, _⟩], [_, _], e, _ =>
    simp only [List.map_cons, List.map_nil, List.cons.injEq, and_true] at e
    obtain ⟨rfl, rfl⟩ := e
    rfl
theorem bn_1 : BindNm ["script", "at"] := by
  intro x qual as bd sc kV doc pm an cdv ct e us hl
  match as, us, e, hl with
  | [⟨n0, _, _⟩, ⟨n1, _, _⟩], [_, _], e, _ =>
    simp only [List.map_cons, List.map_nil, List.cons.injEq, and_true] at e
    obtain ⟨rfl, rfl⟩ := e
    rfl
theorem bn_2 : BindNm ["script", "at", "most_rooms", "most_doors"] := by
  intro x qual as bd sc kV doc pm an cdv ct e us hl
  match as, us, e, hl with
  | [⟨n0, _, _⟩, ⟨n1, _, _⟩, ⟨n2, _, _⟩, ⟨n3, _, _⟩], [_, _, _, _], e, _ =>
    simp only [List.map_cons, List.map_nil, List.cons.injEq, and_true] at e
    obtain ⟨rfl, rfl, rfl, rfl⟩ := e
    rfl
theorem bn_3 : BindNm ["building", "number", "room"] := by
  intro x qual as bd sc kV doc pm an cdv ct e us hl
  match as, us, e, hl with
  | [⟨n0, _, _⟩, ⟨n1, _, _⟩, ⟨n2, _, _⟩], [_, _, _], e, _ =>
    simp only [List.map_cons, List.map_nil, List.cons.injEq, and_true] at e
    obtain ⟨rfl, rfl, rfl⟩ := e
    rfl
theorem bn_4 : BindNm ["script", "at", "building", "most"] := by
  intro x qual as bd sc kV doc pm an cdv ct e us hl
  match as, us, e, hl with
  | [⟨n0, _, _⟩, ⟨n1, _, _⟩, ⟨n2, _, _⟩, ⟨n3, _, _⟩], [_, _, _, _], e, _ =>
    simp only [List.map_cons, List.map_nil, List.cons.injEq, and_true] at e
    obtain ⟨rfl, rfl, rfl, rfl⟩ := e
    rfl
theorem bn_5 : BindNm ["found"] := by
  intro x qual as bd sc kV doc pm an cdv ct e us hl
  match as, us, e, hl with
  | [⟨n0, _, _⟩], [_], e, _ =>
    simp only [List.map_cons, List.map_nil, List.cons.injEq, and_true] at e
    subst e
    rfl
theorem bn_6 : BindNm ["thing", "low", "high"] := by
  intro x qual as bd sc kV doc pm an cdv ct e us hl
  match as, us, e, hl with
  | [⟨n0, _, _⟩, ⟨n1, _, _⟩, ⟨n2, _, _⟩], [_, _, _], e, _ =>
    simp only [List.map_cons, List.map_nil, List.cons.injEq, and_true] at e
    obtain ⟨rfl, rfl, rfl⟩ := e
    rfl
theorem bn_7 : BindNm ["building", "value"] := by
  intro x qual as bd sc kV doc pm an cdv ct e us hl
  match as, us, e, hl with
  | [⟨n0, _, _⟩, ⟨n1, _, _⟩], [_, _], e, _ =>
    simp only [List.map_cons, List.map_nil, List.cons.injEq, and_true] at e
    obtain ⟨rfl, rfl⟩ := e
    rfl
theorem bn_8 : BindNm ["value", "low", "high"] := by
  intro x qual as bd sc kV doc pm an cdv ct e us hl
  match as, us, e, hl with
  | [⟨n0, _, _⟩, ⟨n1, _, _⟩, ⟨n2, _, _⟩], [_, _, _], e, _ =>
    simp only [List.map_cons, List.map_nil, List.cons.injEq, and_true] at e
    obtain ⟨rfl, rfl, rfl⟩ := e
    rfl
theorem bn_9 : BindNm ["rooms", "value"] := by
  intro x qual as bd sc kV doc pm an cdv ct e us hl
  match as, us, e, hl with
  | [⟨n0, _, _⟩, ⟨n1, _, _⟩], [_, _], e, _ =>
    simp only [List.map_cons, List.map_nil, List.cons.injEq, and_true] at e
    obtain ⟨rfl, rfl⟩ := e
    rfl
theorem bn_10 : BindNm ["value"] := by
  intro x qual as bd sc kV doc pm an cdv ct e us hl
  match as, us, e, hl with
  | [⟨n0, _, _⟩], [_], e, _ =>
    simp only [List.map_cons, List.map_nil, List.cons.injEq, and_true] at e
    subst e
    rfl
theorem bn_11 : BindNm ["building"] := by
  intro x qual as bd sc kV doc pm an cdv ct e us hl
  match as, us, e, hl with
  | [⟨n0, _, _⟩], [_], e, _ =>
    simp only [List.map_cons, List.map_nil, List.cons.injEq, and_true] at e
    subst e
    rfl
theorem bn_12 : BindNm ["building", "walk"] := by
  intro x qual as bd sc kV doc pm an cdv ct e us hl
  match as, us, e, hl with
  | [⟨n0, _, _⟩, ⟨n1, _, _⟩], [_, _], e, _ =>
    simp only [List.map_cons, List.map_nil, List.cons.injEq, and_true] at e
    obtain ⟨rfl, rfl⟩ := e
    rfl
theorem bn_13 : BindNm ["building", "walks"] := by
  intro x qual as bd sc kV doc pm an cdv ct e us hl
  match as, us, e, hl with
  | [⟨n0, _, _⟩, ⟨n1, _, _⟩], [_, _], e, _ =>
    simp only [List.map_cons, List.map_nil, List.cons.injEq, and_true] at e
    obtain ⟨rfl, rfl⟩ := e
    rfl
theorem bn_14 : BindNm ["mode", "building", "value"] := by
  intro x qual as bd sc kV doc pm an cdv ct e us hl
  match as, us, e, hl with
  | [⟨n0, _, _⟩, ⟨n1, _, _⟩, ⟨n2, _, _⟩], [_, _, _], e, _ =>
    simp only [List.map_cons, List.map_nil, List.cons.injEq, and_true] at e
    obtain ⟨rfl, rfl, rfl⟩ := e
    rfl
theorem bn_15 : BindNm ["script"] := by
  intro x qual as bd sc kV doc pm an cdv ct e us hl
  match as, us, e, hl with
  | [⟨n0, _, _⟩], [_], e, _ =>
    simp only [List.map_cons, List.map_nil, List.cons.injEq, and_true] at e
    subst e
    rfl
theorem bns : ∀ d ∈ ds ++ [lw], BindNm d.ps := by
  intro d hd
  simp only [ds, List.cons_append, List.nil_append, List.mem_cons, List.not_mem_nil, or_false] at hd
  rcases hd with rfl | rfl | rfl | rfl | rfl | rfl | rfl | rfl | rfl | rfl | rfl | rfl | rfl | rfl | rfl | rfl | rfl | rfl | rfl | rfl | rfl
  · exact bn_0
  · exact bn_1
  · exact bn_2
  · exact bn_3
  · exact bn_4
  · exact bn_5
  · exact bn_6
  · exact bn_7
  · exact bn_8
  · exact bn_9
  · exact bn_10
  · exact bn_11
  · exact bn_3
  · exact bn_7
  · exact bn_7
  · exact bn_12
  · exact bn_12
  · exact bn_13
  · exact bn_13
  · exact bn_14
  · exact bn_15
theorem ok : okDefs md.gb (ds ++ [lw]) = true := by kernel_rfl
abbrev names : List Str := ["_law_cell", "_law_row", "_law_building", "_law_side", "_law_walked", "_law_whole", "_law_in", "_law_rooms", "in_range", "is_door", "is_building", "check_building", "other_side", "trace", "is_walk", "checked_rooms", "rooms_of", "tally", "counts_of", "_law_walk_error", "law"]
abbrev R : PySem.W.OpenRow := PySem.W.OpenLaw.row PySem.Challenge.rw_doorcounters_k02_walks
abbrev hk : PySem.W.Hook := He.hookX 4 (md.fa ((ds ++ [lw]).map (·.nm))) ((ds ++ [lw]).map defD) [] [] md.ex
def ob (s : PySem.W.SharedT) : He.AlX := He.obsX 4 (md.fa ((ds ++ [lw]).map (·.nm))) ((ds ++ [lw]).map defD) [] [] md.ex (HandSHeadRun.getT s)
theorem ob_eq (s : PySem.W.SharedT) : ob s = hk.obs s.abs := He.obsX_eq (HandSHeadRun.getT_eq s)
def loose : List Str := (["DoorError", "InvalidBuilding", "InvalidCounts", "InvalidWalk", "MAX_ROOMS", "MAX_DOORS", "MAX_COUNT", "ONE_WAY", "TWO_WAY", "in_range", "is_door", "is_building", "check_building", "other_side", "MAX_STEPS", "trace", "is_walk", "checked_rooms", "rooms_of", "tally", "counts_of", "_law_cell", "_law_whole", "_law_row", "_law_in", "_law_building", "_law_side", "_law_walked", "_law_rooms", "_law_walk_error"] : List Str)
theorem run (w : World) : HandSHeadRun.RunEq R (PySem.W.view R.prog [34]) hk ob 4000 loose w := by
  intro os
  kernel_rfl
end K02

theorem K02.holds_of (hf : ∀ ns : List Int, ns.length ≤ 63 → ((K02.lw.fn (DD.gbOf K02.md.gb K02.ds)).phi [.list (ns.map .int)]) = some (.ok (.bool true))) : PySem.Challenge.rw_doorcounters_k02_walks.Holds := by
  open PySem PySem.W PySem.Calls PyProof.Rows in
  w_on; o_law
  open PySem PySem.W PySem.Calls PyProof.Rows in
  refine HandSHeadRun.head_any (r := OpenLaw.row PySem.Challenge.rw_doorcounters_k02_walks) (q := view (OpenLaw.row PySem.Challenge.rw_doorcounters_k02_walks).prog [34]) (H := K02.hk) (ob := K02.ob) (M := 4000) (loose := K02.loose) (d := HandSHeadRun.topDef (OpenLaw.row PySem.Challenge.rw_doorcounters_k02_walks).prog 34) (kwd := []) K02.ob_eq
    (by kernel_rfl) (fun s => by kernel_rfl) K02.run (by kernel_rfl) (by kernel_rfl) (by kernel_rfl) (by rfl) (by first | assumption | decide +kernel) (by decide +kernel) ⟨rfl, rfl, rfl, rfl, rfl, by decide +kernel⟩ ?hw ?hc
  case hw => w_witness2
  case hc =>
    refine L2.walk_ofE (l := PySem.Challenge.rw_doorcounters_k02_walks) (n := 63) (k := 21) (x := "script") (CX := L2.CX0) rfl (by decide) (by kernel_rfl) ⟨rfl, by decide, by decide⟩ ?F (fun _ _ _ _ z => z)
    intro w mg fa h Y G hmg0
    have hmg : mg ("law" : PySem.Str) = some (.ref fa) := by
      have e : (HandSHeadRun.topDef (OpenLaw.row PySem.Challenge.rw_doorcounters_k02_walks).prog 34).name = ("law" : PySem.Str) := by kernel_rfl
      rw [← e]
      exact hmg0
    exact DD.law_end (lw := K02.lw) (ds := K02.ds) Y G hmg rfl rfl K02.ok K02.bns hf


namespace DD
noncomputable section
open PySem PySem.Spec PyProof.Rows L2
theorem truth_bool (b : Bool) : truthD (.bool b) = some b := rfl
theorem truth_none : truthD .none = some false := rfl
theorem truth_int (i : Int) : truthD (.int i) = some (i != 0) := rfl
theorem truth_list (ds : List D) : truthD (.list ds) = some (!ds.isEmpty) := rfl
theorem truth_tuple (ds : List D) : truthD (.tuple ds) = some (!ds.isEmpty) := rfl
theorem tg_one (i : Nat) (d : D) (ρ : Rho) : Tg.bind (.one i) d ρ = some (ρ.set i (some (.dat, d))) := by unfold Tg.bind; rfl
theorem tg_many (ts : Tgs) (ds : List D) (ρ : Rho) : Tg.bind (.many ts) (.tuple ds) ρ = ts.bind ds ρ := by rw [Tg.bind]
theorem tgs_nil (ρ : Rho) : Tgs.bind .nil [] ρ = some ρ := by rw [Tgs.bind]
theorem tgs_cons (t : Tg) (ts : Tgs) (d : D) (ds : List D) (ρ : Rho) : Tgs.bind (.cons t ts) (d :: ds) ρ = (match t.bind d ρ with
    | some ρ' => ts.bind ds ρ'
    | none => none) := by rw [Tgs.bind]; try rfl
def isInt : D → Bool
  | .int _ => true
  | .bool _ => true
  | _ => false
def isBool : D → Bool
  | .bool _ => true
  | _ => false
def isTup : D → Bool
  | .tuple _ => true
  | _ => false
def isLst : D → Bool
  | .list _ => true
  | _ => false
def isStr : D → Bool
  | .str _ => true
  | _ => false
theorem isi_int (d : D) : isiD "int" d = some (.bool (isInt d)) := by cases d <;> rfl
theorem isi_bool (d : D) : isiD "bool" d = some (.bool (isBool d)) := by cases d <;> rfl
theorem isi_tuple (d : D) : isiD "tuple" d = some (.bool (isTup d)) := by cases d <;> rfl
theorem isi_list (d : D) : isiD "list" d = some (.bool (isLst d)) := by cases d <;> rfl
theorem isi_str (d : D) : isiD "str" d = some (.bool (isStr d)) := by cases d <;> rfl
theorem mul_int (i j : Int) : mulD (.int i) (.int j) = if mulOk i j = true then some (.int (i * j)) else none := rfl
theorem fdiv_int (i j : Int) : fdivD (.int i) (.int j) = if 0 < j ∧ j < 1073741824 then some (.int (i / j)) else none := rfl
theorem mod_int (i j : Int) : modD (.int i) (.int j) = if 0 < j then some (.int (i % j)) else none := rfl
theorem mul_ok1 {i j : Int} (h1 : -(2 ^ 64) < i) (h2 : i < 2 ^ 64) : mulOk i j = true := by
  rw [mulOk_eq]
  exact decide_eq_true (.inl ⟨h1, h2⟩)
theorem mul_ok2 {i j : Int} (h1 : -(2 ^ 64) < j) (h2 : j < 2 ^ 64) : mulOk i j = true := by
  rw [mulOk_eq]
  exact decide_eq_true (.inr ⟨h1, h2⟩)
theorem rng_ok {i j : Int} (h1 : -16777216 ≤ i) (h2 : i ≤ 16777216) (h3 : -16777216 ≤ j) (h4 : j ≤ 16777216) (h5 : j - i ≤ 16777216) : rngOk i j = true := by
  rw [rngOk_eq]
  exact decide_eq_true ⟨h1, h2, h3, h4, h5⟩
/-- a def's answer from its run -/
theorem run_ret {G : Gb} {fuel : Nat} {nw : Bool} {body : Ss} {n : Nat} {args : List D} {d : D} (ρ : Rho) (h0 : initR args n = ρ) (h : execSs G fuel nw body ρ = some (.ret d)) : runF G fuel nw body n args = some (.ok d) := by
  unfold runF
  rw [h0, h]
theorem run_exc {G : Gb} {fuel : Nat} {nw : Bool} {body : Ss} {n : Nat} {args : List D} {c : Nat} {p : Option D} (ρ : Rho) (h0 : initR args n = ρ) (h : execSs G fuel nw body ρ = some (.exc c p)) : runF G fuel nw body n args = some (.exc c p) := by
  unfold runF
  rw [h0, h]
theorem run_next {G : Gb} {fuel : Nat} {nw : Bool} {body : Ss} {n : Nat} {args : List D} {ρ' : Rho} (ρ : Rho) (h0 : initR args n = ρ) (h : execSs G fuel nw body ρ = some (.next ρ')) : runF G fuel nw body n args = some (.ok .none) := by
  unfold runF
  rw [h0, h]
def inR : D → Int → Int → Bool
  | .int i, lo, hi => decide (lo ≤ i) && decide (i ≤ hi)
  | _, _, _ => false
theorem in_range_sem (G : Gb) (v : D) (lo hi : Int) : runF G 0 false b_in_range 3 [v, .int lo, .int hi] = some (.ok (.bool (inR v lo hi))) := by
  refine run_ret [some (.bor, v), some (.bor, .int lo), some (.bor, .int hi)] rfl ?_
  cases v with
  | int i =>
    by_cases h : lo ≤ i <;> by_cases h2 : i ≤ hi <;> simp -implicitDefEqProofs only [b_in_range, execSs, execS, seqS, thenS, retS, retV, datK, ownK, tgK, appK, evalE, evalK, evalA, evalAnd, evalOr, evalO, evalF, evalI, evalC, keep, keepV, slotVal, lift1, lift2, liftA, consA, callF, notV, andT, orT, ifV, tstB, DD.ifS, DD.forS, compV, seqI, rngI, E.src, sem2, semC, semB, Ty.nm, Cst.d, boolRes, truth_bool, truth_none, truth_int, truth_list, truth_tuple, isi_int, isi_bool, isi_tuple, isi_list, isi_str, addD, subD, mul_int, fdiv_int, mod_int, ltD, leD, gtD, geD, lenD, isNone, negD, tg_one, tg_many, tgs_nil, tgs_cons, flatRoot, okSize, List.getElem?_cons_zero, List.getElem?_cons_succ, List.set_cons_zero, List.set_cons_succ, List.length_cons, List.length_nil, Option.map_some, Option.map_none, Nat.zero_add, if_true, if_false, Bool.not_true, Bool.not_false, reduceCtorEq, or_true, true_or, or_false, false_or, Nat.reduceAdd, Nat.reduceLeDiff, decide_true, decide_false, Bool.false_eq_true, isInt, isBool, h, h2, inR, Bool.and_true, Bool.and_false, Bool.true_and, Bool.false_and]
  | _ => simp -implicitDefEqProofs only [b_in_range, execSs, execS, seqS, thenS, retS, retV, datK, ownK, tgK, appK, evalE, evalK, evalA, evalAnd, evalOr, evalO, evalF, evalI, evalC, keep, keepV, slotVal, lift1, lift2, liftA, consA, callF, notV, andT, orT, ifV, tstB, DD.ifS, DD.forS, compV, seqI, rngI, E.src, sem2, semC, semB, Ty.nm, Cst.d, boolRes, truth_bool, truth_none, truth_int, truth_list, truth_tuple, isi_int, isi_bool, isi_tuple, isi_list, isi_str, addD, subD, mul_int, fdiv_int, mod_int, ltD, leD, gtD, geD, lenD, isNone, negD, tg_one, tg_many, tgs_nil, tgs_cons, flatRoot, okSize, List.getElem?_cons_zero, List.getElem?_cons_succ, List.set_cons_zero, List.set_cons_succ, List.length_cons, List.length_nil, Option.map_some, Option.map_none, Nat.zero_add, if_true, if_false, Bool.not_true, Bool.not_false, reduceCtorEq, or_true, true_or, or_false, false_or, Nat.reduceAdd, Nat.reduceLeDiff, decide_true, decide_false, Bool.false_eq_true, isInt, isBool, inR]
/-! ### the script's cells -/
def cellN (ns : List Int) (k : Int) : Int := if k < ns.length then ns.getD k.toNat 0 else 0
theorem atI_nat {ds : List D} {k : Int} {d : D} (h0 : 0 ≤ k) (h : ds[k.toNat]? = some d) : atI ds k = some d := by
  have hl : k.toNat < ds.length := by
    by_cases hl : k.toNat < ds.length
    · exact hl
    · rw [List.getElem?_eq_none (by omega)] at h
      cases h
  unfold atI ixN
  rw [if_pos h0, if_pos (by omega)]
  exact h
theorem cell_sem (G : Gb) (ns : List Int) (k : Int) (h : 0 ≤ k) : runF G 0 false b_law_cell 2 [.list (ns.map .int), .int k] = some (.ok (.int (cellN ns k))) := by
  refine run_ret [some (.bor, .list (ns.map .int)), some (.bor, .int k)] rfl ?_
  unfold cellN
  by_cases h1 : k < ns.length
  · have e : atI (ns.map PyData.int) k = some (.int (ns.getD k.toNat 0)) := atI_nat h (by
      rw [List.getElem?_map, List.getElem?_eq_getElem (by omega), List.getD_eq_getElem?_getD, List.getElem?_eq_getElem (by omega)]
      rfl)
    simp -implicitDefEqProofs only [b_law_cell, execSs, execS, seqS, thenS, retS, retV, datK, ownK, tgK, appK, evalE, evalK, evalA, evalAnd, evalOr, evalO, evalF, evalI, evalC, keep, keepV, slotVal, lift1, lift2, liftA, consA, callF, notV, andT, orT, ifV, tstB, DD.ifS, DD.forS, compV, seqI, rngI, E.src, sem2, semC, semB, Ty.nm, Cst.d, boolRes, truth_bool, truth_none, truth_int, truth_list, truth_tuple, isi_int, isi_bool, isi_tuple, isi_list, isi_str, addD, subD, mul_int, fdiv_int, mod_int, ltD, leD, gtD, geD, lenD, isNone, negD, tg_one, tg_many, tgs_nil, tgs_cons, flatRoot, okSize, List.getElem?_cons_zero, List.getElem?_cons_succ, List.set_cons_zero, List.set_cons_succ, List.length_cons, List.length_nil, Option.map_some, Option.map_none, Nat.zero_add, if_true, if_false, Bool.not_true, Bool.not_false, reduceCtorEq, or_true, true_or, or_false, false_or, Nat.reduceAdd, Nat.reduceLeDiff, decide_true, decide_false, Bool.false_eq_true, h1, List.length_map, ixD, e]
  · simp -implicitDefEqProofs only [b_law_cell, execSs, execS, seqS, thenS, retS, retV, datK, ownK, tgK, appK, evalE, evalK, evalA, evalAnd, evalOr, evalO, evalF, evalI, evalC, keep, keepV, slotVal, lift1, lift2, liftA, consA, callF, notV, andT, orT, ifV, tstB, DD.ifS, DD.forS, compV, seqI, rngI, E.src, sem2, semC, semB, Ty.nm, Cst.d, boolRes, truth_bool, truth_none, truth_int, truth_list, truth_tuple, isi_int, isi_bool, isi_tuple, isi_list, isi_str, addD, subD, mul_int, fdiv_int, mod_int, ltD, leD, gtD, geD, lenD, isNone, negD, tg_one, tg_many, tgs_nil, tgs_cons, flatRoot, okSize, List.getElem?_cons_zero, List.getElem?_cons_succ, List.set_cons_zero, List.set_cons_succ, List.length_cons, List.length_nil, Option.map_some, Option.map_none, Nat.zero_add, if_true, if_false, Bool.not_true, Bool.not_false, reduceCtorEq, or_true, true_or, or_false, false_or, Nat.reduceAdd, Nat.reduceLeDiff, decide_true, decide_false, Bool.false_eq_true, h1, List.length_map]

/-! ### loops -/
def runL {σ : Type} (step : σ → D → Sum σ Out) : List D → σ → Sum σ Out
  | [], s => .inl s
  | d :: ds, s => (match step s d with
    | .inl s' => runL step ds s'
    | .inr o => .inr o)
def outL {σ : Type} (st : σ → Rho) : Sum σ Out → Option Out
  | .inl s => some (.next (st s))
  | .inr o => some o
theorem forL_gen {σ : Type} (st : σ → Rho) (step : σ → D → Sum σ Out) (I : Nat → σ → Prop) {bb : D → Rho → Option Rho} {body : Rho → Option Out} :
    ∀ (ds : List D) (n : Nat) (s0 : σ), I n s0 → (∀ k d s, ds[k]? = some d → I (n + k) s → ∃ ρ1, bb d (st s) = some ρ1 ∧ (match step s d with
      | .inl s' => body ρ1 = some (.next (st s')) ∧ I (n + k + 1) s'
      | .inr o => body ρ1 = some o ∧ ∀ ρ, o ≠ .next ρ)) → forL bb body ds (st s0) = outL st (runL step ds s0)
  | [], n, s0, _, _ => rfl
  | d :: ds, n, s0, h0, h => by
    obtain ⟨ρ1, e1, e2⟩ := h 0 d s0 rfl h0
    unfold forL runL
    rw [e1]
    dsimp only
    cases e : step s0 d with
    | inl s' =>
      rw [e] at e2
      dsimp only at e2 ⊢
      rw [e2.1]
      dsimp only
      refine forL_gen st step I ds (n + 1) s' e2.2 fun k d' s hk hs => ?_
      have := h (k + 1) d' s (by simpa using hk) (by rw [show n + (k + 1) = n + 1 + k by omega]; exact hs)
      rw [show n + (k + 1) = n + 1 + k by omega] at this
      exact this
    | inr o =>
      rw [e] at e2
      dsimp only at e2 ⊢
      rw [e2.1]
      cases o with
      | next ρ => exact absurd rfl (e2.2 ρ)
      | ret d => rfl
      | exc c p => rfl
/-- a loop that always goes on -/
theorem forL_fold {σ : Type} (st : σ → Rho) (step : σ → D → σ) (I : Nat → σ → Prop) {bb : D → Rho → Option Rho} {body : Rho → Option Out} :
    ∀ (ds : List D) (n : Nat) (s0 : σ), I n s0 → (∀ k d s, ds[k]? = some d → I (n + k) s → ∃ ρ1, bb d (st s) = some ρ1 ∧ body ρ1 = some (.next (st (step s d))) ∧ I (n + k + 1) (step s d)) → forL bb body ds (st s0) = some (.next (st (ds.foldl step s0)))
  | [], n, s0, _, _ => rfl
  | d :: ds, n, s0, h0, h => by
    obtain ⟨ρ1, e1, e2, e3⟩ := h 0 d s0 rfl h0
    unfold forL
    rw [e1]
    dsimp only
    rw [e2]
    dsimp only
    rw [List.foldl_cons]
    refine forL_fold st step I ds (n + 1) _ e3 fun k d' s hk hs => ?_
    have := h (k + 1) d' s (by simpa using hk) (by rw [show n + (k + 1) = n + 1 + k by omega]; exact hs)
    rw [show n + (k + 1) = n + 1 + k by omega] at this
    exact this
theorem fold_inv {σ : Type} {step : σ → D → σ} {I : Nat → σ → Prop} : ∀ (ds : List D) (n : Nat) (s0 : σ), I n s0 → (∀ k d s, ds[k]? = some d → I (n + k) s → I (n + k + 1) (step s d)) → I (n + ds.length) (ds.foldl step s0)
  | [], n, s0, h, _ => h
  | d :: ds, n, s0, h0, h => by
    have := fold_inv ds (n + 1) (step s0 d) (h 0 d s0 rfl h0) (fun k d' s hk hs => by
      have := h (k + 1) d' s (by simpa using hk) (by rw [show n + (k + 1) = n + 1 + k by omega]; exact hs)
      rw [show n + (k + 1) = n + 1 + k by omega] at this
      exact this)
    rw [List.foldl_cons, List.length_cons, show n + (ds.length + 1) = n + 1 + ds.length by omega]
    exact this
/-- the same, as a rule to write over -/
theorem forL_foldR {σ : Type} (st : σ → Rho) (step : σ → D → σ) (I : Nat → σ → Prop) (s0 : σ) {bb : D → Rho → Option Rho} {body : Rho → Option Out} {ds : List D} {ρ0 : Rho} (e0 : ρ0 = st s0) (h0 : I 0 s0) (h : ∀ k d s, ds[k]? = some d → I k s → ∃ ρ1, bb d (st s) = some ρ1 ∧ body ρ1 = some (.next (st (step s d))) ∧ I (k + 1) (step s d)) :
    forL bb body ds ρ0 = some (.next (st (ds.foldl step s0))) := by
  rw [e0]
  exact forL_fold st step I ds 0 s0 h0 (fun k d s hk hs => by
    rw [Nat.zero_add] at hs ⊢
    exact h k d s hk hs)
theorem forL_genR {σ : Type} (st : σ → Rho) (step : σ → D → Sum σ Out) (I : Nat → σ → Prop) (s0 : σ) {bb : D → Rho → Option Rho} {body : Rho → Option Out} {ds : List D} {ρ0 : Rho} (e0 : ρ0 = st s0) (h0 : I 0 s0) (h : ∀ k d s, ds[k]? = some d → I k s → ∃ ρ1, bb d (st s) = some ρ1 ∧ (match step s d with
      | .inl s' => body ρ1 = some (.next (st s')) ∧ I (k + 1) s'
      | .inr o => body ρ1 = some o ∧ ∀ ρ, o ≠ .next ρ)) :
    forL bb body ds ρ0 = outL st (runL step ds s0) := by
  rw [e0]
  exact forL_gen st step I ds 0 s0 h0 (fun k d s hk hs => by
    rw [Nat.zero_add] at hs ⊢
    exact h k d s hk hs)
theorem compL_eq {bb : D → Rho → Option Rho} {mt : Rho → Option ResB} {me : Rho → Option Res} {ρ : Rho} (p : D → Bool) (g : D → D) : ∀ (ds : List D), (∀ d ∈ ds, ∃ ρ1, bb d ρ = some ρ1 ∧ mt ρ1 = some (.ok (p d)) ∧ (p d = true → me ρ1 = some (.ok (g d)))) → compL bb mt me ρ ds = some ((ds.filter p).map g)
  | [], _ => rfl
  | d :: ds, h => by
    obtain ⟨ρ1, e1, e2, e3⟩ := h d List.mem_cons_self
    have ih := compL_eq p g ds (fun d' hd => h d' (List.mem_cons_of_mem _ hd))
    unfold compL
    rw [e1]
    dsimp only
    rw [e2]
    cases e : p d with
    | true =>
      dsimp only
      rw [e3 e]
      dsimp only
      rw [ih, List.filter_cons, e]
      rfl
    | false =>
      dsimp only
      rw [ih, List.filter_cons, e]
      rfl
/-! ### the draws -/
def rowStep (ns : List Int) (a : Int) (s : Int × List Int × Option (Fl × D)) : D → Int × List Int × Option (Fl × D)
  | .int t => if cellN ns a < 10 ^ 18 then
      ((s.1 * 48271 + 131 * t + 7 + cellN ns ((a + 1 + t) % 20)) % 2147483647, s.2.1 ++ [(s.1 * 48271 + 131 * t + 7 + cellN ns ((a + 1 + t) % 20)) % 2147483647 / 11 % 1000], some (.dat, .int t))
    else (s.1 / 1000, s.2.1 ++ [s.1 % 1000], some (.dat, .int t))
  | _ => s
def rowN (ns : List Int) (a : Int) : List Int := ((rngL 0 60).foldl (rowStep ns a) (cellN ns a, [], none)).2.1
def CellOk (G : Gb) (c : Nat) : Prop := ∀ (ns : List Int) (k : Int), 0 ≤ k → G.phi c [.list (ns.map .int), .int k] = some (.ok (.int (cellN ns k)))
def RowOk (G : Gb) (c : Nat) : Prop := ∀ (ns : List Int) (a : Int), 0 ≤ a → G.phi c [.list (ns.map .int), .int a] = some (.ok (.list ((rowN ns a).map .int)))
theorem rngL_get {a b : Int} {k : Nat} {d : D} (h : (rngL a b)[k]? = some d) : d = .int (a + k) ∧ (k : Int) < b - a := by
  unfold rngL at h
  rw [List.getElem?_map] at h
  by_cases hk : k < (b - a).toNat
  · rw [List.getElem?_range hk] at h
    cases h
    exact ⟨rfl, by omega⟩
  · rw [List.getElem?_eq_none (by simpa using hk)] at h
    cases h
theorem rngL_len (a b : Int) : (rngL a b).length = (b - a).toNat := by
  unfold rngL
  simp
theorem row_inv (ns : List Int) (a : Int) : (rowN ns a).length = 60 ∧ ∀ x ∈ rowN ns a, 0 ≤ x ∧ x < 1000 := by
  have := fold_inv (step := rowStep ns a) (I := fun k s => s.2.1.length = k ∧ ∀ x ∈ s.2.1, 0 ≤ x ∧ x < 1000) (rngL 0 60) 0 (cellN ns a, [], none) ⟨rfl, fun x hx => nomatch hx⟩ (fun k d s hk hs => by
    obtain ⟨rfl, hk2⟩ := rngL_get hk
    unfold rowStep
    dsimp only
    have add1 : ∀ z : Int, 0 ≤ z ∧ z < 1000 → (s.2.1 ++ [z]).length = 0 + k + 1 ∧ ∀ x ∈ s.2.1 ++ [z], 0 ≤ x ∧ x < 1000 := fun z hz => ⟨by rw [List.length_append, hs.1]; rfl, fun x hx => by
      rcases List.mem_append.mp hx with hx | hx
      · exact hs.2 x hx
      · rw [List.mem_singleton.mp hx]
        exact hz⟩
    split
    · exact add1 _ (by omega)
    · exact add1 _ (by omega))
  rw [rngL_len] at this
  exact this
theorem row_sem (G : Gb) (c : Nat) (hc : CellOk G c) (ns : List Int) (a : Int) (ha : 0 ≤ a) : runF G 0 true (b_law_row c) 5 [.list (ns.map .int), .int a] = some (.ok (.list ((rowN ns a).map .int))) := by
  refine run_ret [some (.bor, .list (ns.map .int)), some (.bor, .int a), none, none, none] rfl ?_
  have hca := hc ns a ha
  have hr : rngOk 0 60 = true := rng_ok (by omega) (by omega) (by omega) (by omega) (by omega)
  simp -implicitDefEqProofs only [b_law_row, execSs, execS, seqS, thenS, retS, retV, datK, ownK, tgK, appK, evalE, evalK, evalA, evalAnd, evalOr, evalO, evalF, evalI, evalC, keep, keepV, slotVal, lift1, lift2, liftA, consA, callF, notV, andT, orT, ifV, tstB, DD.ifS, DD.forS, compV, seqI, rngI, E.src, sem2, semC, semB, Ty.nm, Cst.d, boolRes, truth_bool, truth_none, truth_int, truth_list, truth_tuple, isi_int, isi_bool, isi_tuple, isi_list, isi_str, addD, subD, mul_int, fdiv_int, mod_int, ltD, leD, gtD, geD, lenD, isNone, negD, tg_one, tg_many, tgs_nil, tgs_cons, flatRoot, okSize, List.getElem?_cons_zero, List.getElem?_cons_succ, List.set_cons_zero, List.set_cons_succ, List.length_cons, List.length_nil, Option.map_some, Option.map_none, Nat.zero_add, if_true, if_false, Bool.not_true, Bool.not_false, reduceCtorEq, or_true, true_or, or_false, false_or, Nat.reduceAdd, Nat.reduceLeDiff, decide_true, decide_false, Bool.false_eq_true, hca, hr]
  rw [forL_foldR (fun s : Int × List Int × Option (Fl × D) => [some (Fl.bor, PyData.list (ns.map PyData.int)), some (Fl.bor, PyData.int a), some (Fl.dat, PyData.int s.1), some (Fl.own, PyData.list (s.2.1.map PyData.int)), s.2.2]) (rowStep ns a) (fun k s => s.2.1.length = k) (cellN ns a, [], none)]
  · simp -implicitDefEqProofs only [execSs, execS, seqS, thenS, retS, retV, datK, ownK, tgK, appK, evalE, evalK, evalA, evalAnd, evalOr, evalO, evalF, evalI, evalC, keep, keepV, slotVal, lift1, lift2, liftA, consA, callF, notV, andT, orT, ifV, tstB, DD.ifS, DD.forS, compV, seqI, rngI, E.src, sem2, semC, semB, Ty.nm, Cst.d, boolRes, truth_bool, truth_none, truth_int, truth_list, truth_tuple, isi_int, isi_bool, isi_tuple, isi_list, isi_str, addD, subD, mul_int, fdiv_int, mod_int, ltD, leD, gtD, geD, lenD, isNone, negD, tg_one, tg_many, tgs_nil, tgs_cons, flatRoot, okSize, List.getElem?_cons_zero, List.getElem?_cons_succ, List.set_cons_zero, List.set_cons_succ, List.length_cons, List.length_nil, Option.map_some, Option.map_none, Nat.zero_add, if_true, if_false, Bool.not_true, Bool.not_false, reduceCtorEq, or_true, true_or, or_false, false_or, Nat.reduceAdd, Nat.reduceLeDiff, decide_true, decide_false, Bool.false_eq_true]
    rfl
  · rfl
  · rfl
  · intro k d s hk hs
    obtain ⟨rfl, hk2⟩ := rngL_get hk
    refine ⟨_, rfl, ?_⟩
    have hc2 := hc ns ((a + 1 + (0 + (k : Int))) % 20) (by omega)
    have hm1 : mulOk s.1 48271 = true := mul_ok2 (by omega) (by omega)
    have hm2 : mulOk 131 (0 + (k : Int)) = true := mul_ok1 (by omega) (by omega)
    have hp : powD (.int 10) (.int 18) = some (.int (10 ^ 18)) := rfl
    have hl : k < 16777216 := by omega
    unfold rowStep
    by_cases h1 : cellN ns a < 10 ^ 18
    · simp -implicitDefEqProofs only [execSs, execS, seqS, thenS, retS, retV, datK, ownK, tgK, appK, evalE, evalK, evalA, evalAnd, evalOr, evalO, evalF, evalI, evalC, keep, keepV, slotVal, lift1, lift2, liftA, consA, callF, notV, andT, orT, ifV, tstB, DD.ifS, DD.forS, compV, seqI, rngI, E.src, sem2, semC, semB, Ty.nm, Cst.d, boolRes, truth_bool, truth_none, truth_int, truth_list, truth_tuple, isi_int, isi_bool, isi_tuple, isi_list, isi_str, addD, subD, mul_int, fdiv_int, mod_int, ltD, leD, gtD, geD, lenD, isNone, negD, tg_one, tg_many, tgs_nil, tgs_cons, flatRoot, okSize, List.getElem?_cons_zero, List.getElem?_cons_succ, List.set_cons_zero, List.set_cons_succ, List.length_cons, List.length_nil, Option.map_some, Option.map_none, Nat.zero_add, if_true, if_false, Bool.not_true, Bool.not_false, reduceCtorEq, or_true, true_or, or_false, false_or, Nat.reduceAdd, Nat.reduceLeDiff, decide_true, decide_false, Bool.false_eq_true, hca, hc2, hm1, hm2, hp, h1, List.length_map, hl, List.map_append, List.map_cons, List.map_nil, Int.reduceLT, and_self, List.length_append, hs]
    · simp -implicitDefEqProofs only [execSs, execS, seqS, thenS, retS, retV, datK, ownK, tgK, appK, evalE, evalK, evalA, evalAnd, evalOr, evalO, evalF, evalI, evalC, keep, keepV, slotVal, lift1, lift2, liftA, consA, callF, notV, andT, orT, ifV, tstB, DD.ifS, DD.forS, compV, seqI, rngI, E.src, sem2, semC, semB, Ty.nm, Cst.d, boolRes, truth_bool, truth_none, truth_int, truth_list, truth_tuple, isi_int, isi_bool, isi_tuple, isi_list, isi_str, addD, subD, mul_int, fdiv_int, mod_int, ltD, leD, gtD, geD, lenD, isNone, negD, tg_one, tg_many, tgs_nil, tgs_cons, flatRoot, okSize, List.getElem?_cons_zero, List.getElem?_cons_succ, List.set_cons_zero, List.set_cons_succ, List.length_cons, List.length_nil, Option.map_some, Option.map_none, Nat.zero_add, if_true, if_false, Bool.not_true, Bool.not_false, reduceCtorEq, or_true, true_or, or_false, false_or, Nat.reduceAdd, Nat.reduceLeDiff, decide_true, decide_false, Bool.false_eq_true, hca, hc2, hm1, hm2, hp, h1, List.length_map, hl, List.map_append, List.map_cons, List.map_nil, Int.reduceLT, and_self, List.length_append, hs]
end
end DD

namespace DD
noncomputable section
open PySem PySem.Spec PyProof.Rows L2
/-! ### doors, buildings -/
structure Door where
  a : Int
  b : Int
  two : Bool
def kindS (t : Bool) : Str := if t = true then "two-way" else "one-way"
def Door.d (x : Door) : D := .tuple [.int x.a, .int x.b, .str (kindS x.two)]
structure Bld where
  R : Int
  ds : List Door
def Bld.d (b : Bld) : D := .tuple [.int b.R, .tuple (b.ds.map Door.d)]
def Door.ok (R : Int) (x : Door) : Prop := 0 ≤ x.a ∧ x.a < R ∧ 0 ≤ x.b ∧ x.b < R ∧ (if x.two = true then x.a < x.b else x.a ≠ x.b)
structure Bld.ok (b : Bld) : Prop where
  r1 : 1 ≤ b.R
  r6 : b.R ≤ 6
  n8 : b.ds.length ≤ 8
  all : ∀ x ∈ b.ds, x.ok b.R
def Door.side (x : Door) (r : Int) : Option Int := if r = x.a then some x.b else if r = x.b ∧ x.two = true then some x.a else none
def oI : Option Int → D
  | none => .none
  | some i => .int i
theorem at_c0 (x : D) (xs : List D) : atI (x :: xs) 0 = some x := atI_nat (by omega) rfl
theorem at_c1 (x y : D) (xs : List D) : atI (x :: y :: xs) 1 = some y := atI_nat (by omega) rfl
theorem at_c2 (x y z : D) (xs : List D) : atI (x :: y :: z :: xs) 2 = some z := atI_nat (by omega) rfl
theorem eq_int (i j : Int) : eqD (.int i) (.int j) = some (.bool (decide (i = j))) := by
  unfold eqD
  rw [if_pos ⟨rfl, rfl, rfl, rfl⟩]
  rfl
theorem ne_int (i j : Int) : neD (.int i) (.int j) = some (.bool (!decide (i = j))) := by
  unfold neD
  rw [if_pos ⟨rfl, rfl, rfl, rfl⟩]
  rfl
theorem eq_kind (t u : Bool) : eqD (.str (kindS t)) (.str (kindS u)) = some (.bool (t == u)) := by
  cases t <;> cases u <;> kernel_rfl
theorem at_door {b : Bld} {k : Nat} {x : Door} (h : b.ds[k]? = some x) : atI (b.ds.map Door.d) (k : Int) = some x.d := atI_nat (by omega) (by
  rw [Int.toNat_natCast, List.getElem?_map, h]
  rfl)
theorem side_sem (G : Gb) (b : Bld) (k : Nat) (x : Door) (r : Int) (h : b.ds[k]? = some x) : runF G 0 false b_law_side 6 [b.d, .int k, .int r] = some (.ok (oI (x.side r))) := by
  refine run_ret [some (.bor, b.d), some (.bor, .int k), some (.bor, .int r), none, none, none] rfl ?_
  have e1 : (PyData.str "two-way") = .str (kindS true) := rfl
  unfold Door.side
  by_cases h1 : r = x.a
  · simp -implicitDefEqProofs only [b_law_side, execSs, execS, seqS, thenS, retS, retV, datK, ownK, tgK, appK, evalE, evalK, evalA, evalAnd, evalOr, evalO, evalF, evalI, evalC, keep, keepV, slotVal, lift1, lift2, liftA, consA, callF, notV, andT, orT, ifV, tstB, DD.ifS, DD.forS, compV, seqI, rngI, E.src, sem2, semC, semB, Ty.nm, Cst.d, boolRes, truth_bool, truth_none, truth_int, truth_list, truth_tuple, isi_int, isi_bool, isi_tuple, isi_list, isi_str, addD, subD, mul_int, fdiv_int, mod_int, ltD, leD, gtD, geD, lenD, isNone, negD, tg_one, tg_many, tgs_nil, tgs_cons, flatRoot, okSize, List.getElem?_cons_zero, List.getElem?_cons_succ, List.set_cons_zero, List.set_cons_succ, List.length_cons, List.length_nil, Option.map_some, Option.map_none, Nat.zero_add, if_true, if_false, Bool.not_true, Bool.not_false, reduceCtorEq, or_true, true_or, or_false, false_or, Nat.reduceAdd, Nat.reduceLeDiff, decide_true, decide_false, Bool.false_eq_true, Bld.d, Door.d, ixD, at_c1, at_door h, eq_int, h1, oI]
  · have k1 := eq_false h1
    by_cases h2 : r = x.b
    · have k2 := eq_true h2
      cases h3 : x.two <;> simp -implicitDefEqProofs only [b_law_side, execSs, execS, seqS, thenS, retS, retV, datK, ownK, tgK, appK, evalE, evalK, evalA, evalAnd, evalOr, evalO, evalF, evalI, evalC, keep, keepV, slotVal, lift1, lift2, liftA, consA, callF, notV, andT, orT, ifV, tstB, DD.ifS, DD.forS, compV, seqI, rngI, E.src, sem2, semC, semB, Ty.nm, Cst.d, boolRes, truth_bool, truth_none, truth_int, truth_list, truth_tuple, isi_int, isi_bool, isi_tuple, isi_list, isi_str, addD, subD, mul_int, fdiv_int, mod_int, ltD, leD, gtD, geD, lenD, isNone, negD, tg_one, tg_many, tgs_nil, tgs_cons, flatRoot, okSize, List.getElem?_cons_zero, List.getElem?_cons_succ, List.set_cons_zero, List.set_cons_succ, List.length_cons, List.length_nil, Option.map_some, Option.map_none, Nat.zero_add, if_true, if_false, Bool.not_true, Bool.not_false, reduceCtorEq, or_true, true_or, or_false, false_or, Nat.reduceAdd, Nat.reduceLeDiff, decide_true, decide_false, Bool.false_eq_true, Bld.d, Door.d, ixD, at_c1, at_door h, eq_int, k1, k2, h3, oI, e1, eq_kind, Bool.false_beq, beq_self_eq_true, and_true, and_false]
    · have k2 := eq_false h2
      cases h3 : x.two <;> simp -implicitDefEqProofs only [b_law_side, execSs, execS, seqS, thenS, retS, retV, datK, ownK, tgK, appK, evalE, evalK, evalA, evalAnd, evalOr, evalO, evalF, evalI, evalC, keep, keepV, slotVal, lift1, lift2, liftA, consA, callF, notV, andT, orT, ifV, tstB, DD.ifS, DD.forS, compV, seqI, rngI, E.src, sem2, semC, semB, Ty.nm, Cst.d, boolRes, truth_bool, truth_none, truth_int, truth_list, truth_tuple, isi_int, isi_bool, isi_tuple, isi_list, isi_str, addD, subD, mul_int, fdiv_int, mod_int, ltD, leD, gtD, geD, lenD, isNone, negD, tg_one, tg_many, tgs_nil, tgs_cons, flatRoot, okSize, List.getElem?_cons_zero, List.getElem?_cons_succ, List.set_cons_zero, List.set_cons_succ, List.length_cons, List.length_nil, Option.map_some, Option.map_none, Nat.zero_add, if_true, if_false, Bool.not_true, Bool.not_false, reduceCtorEq, or_true, true_or, or_false, false_or, Nat.reduceAdd, Nat.reduceLeDiff, decide_true, decide_false, Bool.false_eq_true, Bld.d, Door.d, ixD, at_c1, at_door h, eq_int, k1, k2, h3, oI, e1, eq_kind, false_and]
theorem oside_sem (G : Gb) (g : Nat) (hg : ∃ z, G.csts[g]? = some (z, .str "two-way")) (b : Bld) (k : Nat) (x : Door) (r : Int) (h : b.ds[k]? = some x) : runF G 0 false (b_other_side g) 6 [b.d, .int k, .int r] = some (.ok (oI (x.side r))) := by
  refine run_ret [some (.bor, b.d), some (.bor, .int k), some (.bor, .int r), none, none, none] rfl ?_
  have e1 : (PyData.str "two-way") = .str (kindS true) := rfl
  obtain ⟨z, hg⟩ := hg
  unfold Door.side
  by_cases h1 : r = x.a
  · simp -implicitDefEqProofs only [b_other_side, execSs, execS, seqS, thenS, retS, retV, datK, ownK, tgK, appK, evalE, evalK, evalA, evalAnd, evalOr, evalO, evalF, evalI, evalC, keep, keepV, slotVal, lift1, lift2, liftA, consA, callF, notV, andT, orT, ifV, tstB, DD.ifS, DD.forS, compV, seqI, rngI, E.src, sem2, semC, semB, Ty.nm, Cst.d, boolRes, truth_bool, truth_none, truth_int, truth_list, truth_tuple, isi_int, isi_bool, isi_tuple, isi_list, isi_str, addD, subD, mul_int, fdiv_int, mod_int, ltD, leD, gtD, geD, lenD, isNone, negD, tg_one, tg_many, tgs_nil, tgs_cons, flatRoot, okSize, List.getElem?_cons_zero, List.getElem?_cons_succ, List.set_cons_zero, List.set_cons_succ, List.length_cons, List.length_nil, Option.map_some, Option.map_none, Nat.zero_add, if_true, if_false, Bool.not_true, Bool.not_false, reduceCtorEq, or_true, true_or, or_false, false_or, Nat.reduceAdd, Nat.reduceLeDiff, decide_true, decide_false, Bool.false_eq_true, Bld.d, Door.d, ixD, at_c1, at_door h, eq_int, h1, oI]
  · have k1 := eq_false h1
    by_cases h2 : r = x.b
    · have k2 := eq_true h2
      cases h3 : x.two <;> simp -implicitDefEqProofs only [b_other_side, execSs, execS, seqS, thenS, retS, retV, datK, ownK, tgK, appK, evalE, evalK, evalA, evalAnd, evalOr, evalO, evalF, evalI, evalC, keep, keepV, slotVal, lift1, lift2, liftA, consA, callF, notV, andT, orT, ifV, tstB, DD.ifS, DD.forS, compV, seqI, rngI, E.src, sem2, semC, semB, Ty.nm, Cst.d, boolRes, truth_bool, truth_none, truth_int, truth_list, truth_tuple, isi_int, isi_bool, isi_tuple, isi_list, isi_str, addD, subD, mul_int, fdiv_int, mod_int, ltD, leD, gtD, geD, lenD, isNone, negD, tg_one, tg_many, tgs_nil, tgs_cons, flatRoot, okSize, List.getElem?_cons_zero, List.getElem?_cons_succ, List.set_cons_zero, List.set_cons_succ, List.length_cons, List.length_nil, Option.map_some, Option.map_none, Nat.zero_add, if_true, if_false, Bool.not_true, Bool.not_false, reduceCtorEq, or_true, true_or, or_false, false_or, Nat.reduceAdd, Nat.reduceLeDiff, decide_true, decide_false, Bool.false_eq_true, Bld.d, Door.d, ixD, at_c1, at_door h, eq_int, k1, k2, h3, oI, hg, e1, eq_kind, Bool.false_beq, beq_self_eq_true, and_true, and_false]
    · have k2 := eq_false h2
      cases h3 : x.two <;> simp -implicitDefEqProofs only [b_other_side, execSs, execS, seqS, thenS, retS, retV, datK, ownK, tgK, appK, evalE, evalK, evalA, evalAnd, evalOr, evalO, evalF, evalI, evalC, keep, keepV, slotVal, lift1, lift2, liftA, consA, callF, notV, andT, orT, ifV, tstB, DD.ifS, DD.forS, compV, seqI, rngI, E.src, sem2, semC, semB, Ty.nm, Cst.d, boolRes, truth_bool, truth_none, truth_int, truth_list, truth_tuple, isi_int, isi_bool, isi_tuple, isi_list, isi_str, addD, subD, mul_int, fdiv_int, mod_int, ltD, leD, gtD, geD, lenD, isNone, negD, tg_one, tg_many, tgs_nil, tgs_cons, flatRoot, okSize, List.getElem?_cons_zero, List.getElem?_cons_succ, List.set_cons_zero, List.set_cons_succ, List.length_cons, List.length_nil, Option.map_some, Option.map_none, Nat.zero_add, if_true, if_false, Bool.not_true, Bool.not_false, reduceCtorEq, or_true, true_or, or_false, false_or, Nat.reduceAdd, Nat.reduceLeDiff, decide_true, decide_false, Bool.false_eq_true, Bld.d, Door.d, ixD, at_c1, at_door h, eq_int, k1, k2, h3, oI, hg, e1, eq_kind, false_and]
/-! ### is_door, is_building -/
theorem whole_sem (G : Gb) (v : D) : runF G 0 false b_law_whole 1 [v] = some (.ok (.bool (isInt v && !isBool v))) := by
  refine run_ret [some (.bor, v)] rfl ?_
  cases v <;> simp -implicitDefEqProofs only [b_law_whole, execSs, execS, seqS, thenS, retS, retV, datK, ownK, tgK, appK, evalE, evalK, evalA, evalAnd, evalOr, evalO, evalF, evalI, evalC, keep, keepV, slotVal, lift1, lift2, liftA, consA, callF, notV, andT, orT, ifV, tstB, DD.ifS, DD.forS, compV, seqI, rngI, E.src, sem2, semC, semB, Ty.nm, Cst.d, boolRes, truth_bool, truth_none, truth_int, truth_list, truth_tuple, isi_int, isi_bool, isi_tuple, isi_list, isi_str, addD, subD, mul_int, fdiv_int, mod_int, ltD, leD, gtD, geD, lenD, isNone, negD, tg_one, tg_many, tgs_nil, tgs_cons, flatRoot, okSize, List.getElem?_cons_zero, List.getElem?_cons_succ, List.set_cons_zero, List.set_cons_succ, List.length_cons, List.length_nil, Option.map_some, Option.map_none, Nat.zero_add, if_true, if_false, Bool.not_true, Bool.not_false, reduceCtorEq, or_true, true_or, or_false, false_or, Nat.reduceAdd, Nat.reduceLeDiff, decide_true, decide_false, Bool.false_eq_true, isInt, isBool, Bool.and_true, Bool.and_false]
def WholeOk (G : Gb) (c : Nat) : Prop := ∀ v, G.phi c [v] = some (.ok (.bool (isInt v && !isBool v)))
theorem in_sem (G : Gb) (c : Nat) (hc : WholeOk G c) (v : D) (lo hi : Int) : runF G 0 false (b_law_in c) 3 [v, .int lo, .int hi] = some (.ok (.bool (inR v lo hi))) := by
  refine run_ret [some (.bor, v), some (.bor, .int lo), some (.bor, .int hi)] rfl ?_
  have h := hc v
  cases v with
  | int i =>
    by_cases h1 : lo ≤ i <;> by_cases h2 : i ≤ hi <;> simp -implicitDefEqProofs only [b_law_in, execSs, execS, seqS, thenS, retS, retV, datK, ownK, tgK, appK, evalE, evalK, evalA, evalAnd, evalOr, evalO, evalF, evalI, evalC, keep, keepV, slotVal, lift1, lift2, liftA, consA, callF, notV, andT, orT, ifV, tstB, DD.ifS, DD.forS, compV, seqI, rngI, E.src, sem2, semC, semB, Ty.nm, Cst.d, boolRes, truth_bool, truth_none, truth_int, truth_list, truth_tuple, isi_int, isi_bool, isi_tuple, isi_list, isi_str, addD, subD, mul_int, fdiv_int, mod_int, ltD, leD, gtD, geD, lenD, isNone, negD, tg_one, tg_many, tgs_nil, tgs_cons, flatRoot, okSize, List.getElem?_cons_zero, List.getElem?_cons_succ, List.set_cons_zero, List.set_cons_succ, List.length_cons, List.length_nil, Option.map_some, Option.map_none, Nat.zero_add, if_true, if_false, Bool.not_true, Bool.not_false, reduceCtorEq, or_true, true_or, or_false, false_or, Nat.reduceAdd, Nat.reduceLeDiff, decide_true, decide_false, Bool.false_eq_true, h, isInt, isBool, h1, h2, inR, Bool.and_true, Bool.and_false, Bool.true_and, Bool.false_and]
  | _ => simp -implicitDefEqProofs only [b_law_in, execSs, execS, seqS, thenS, retS, retV, datK, ownK, tgK, appK, evalE, evalK, evalA, evalAnd, evalOr, evalO, evalF, evalI, evalC, keep, keepV, slotVal, lift1, lift2, liftA, consA, callF, notV, andT, orT, ifV, tstB, DD.ifS, DD.forS, compV, seqI, rngI, E.src, sem2, semC, semB, Ty.nm, Cst.d, boolRes, truth_bool, truth_none, truth_int, truth_list, truth_tuple, isi_int, isi_bool, isi_tuple, isi_list, isi_str, addD, subD, mul_int, fdiv_int, mod_int, ltD, leD, gtD, geD, lenD, isNone, negD, tg_one, tg_many, tgs_nil, tgs_cons, flatRoot, okSize, List.getElem?_cons_zero, List.getElem?_cons_succ, List.set_cons_zero, List.set_cons_succ, List.length_cons, List.length_nil, Option.map_some, Option.map_none, Nat.zero_add, if_true, if_false, Bool.not_true, Bool.not_false, reduceCtorEq, or_true, true_or, or_false, false_or, Nat.reduceAdd, Nat.reduceLeDiff, decide_true, decide_false, Bool.false_eq_true, h, isInt, isBool, inR, Bool.and_true, Bool.and_false]
def InOk (G : Gb) (c : Nat) : Prop := ∀ (v : D) (lo hi : Int), G.phi c [v, .int lo, .int hi] = some (.ok (.bool (inR v lo hi)))
def SideOk (G : Gb) (c : Nat) : Prop := ∀ (b : Bld) (k : Nat) (x : Door) (r : Int), b.ds[k]? = some x → G.phi c [b.d, .int k, .int r] = some (.ok (oI (x.side r)))
structure Kinds (G : Gb) (g1 g2 : Nat) : Prop where
  one : ∃ z, G.csts[g1]? = some (z, .str "one-way")
  two : ∃ z, G.csts[g2]? = some (z, .str "two-way")
theorem isdoor_sem (G : Gb) (g2 g1 c : Nat) (hk : Kinds G g1 g2) (hc : InOk G c) (R : Int) (x : Door) (hx : x.ok R) : runF G 0 false (b_is_door g2 g1 c) 2 [.int R, x.d] = some (.ok (.bool true)) := by
  refine run_ret [some (.bor, .int R), some (.bor, x.d)] rfl ?_
  obtain ⟨⟨z1, k1⟩, ⟨z2, k2⟩⟩ := hk
  obtain ⟨a1, a2, a3, a4, a5⟩ := hx
  have e1 : (PyData.str "one-way") = .str (kindS false) := rfl
  have e2 : (PyData.str "two-way") = .str (kindS true) := rfl
  have i1 : inD (.str (kindS x.two)) (.tuple [.str (kindS false), .str (kindS true)]) = some true := by
    cases x.two <;> kernel_rfl
  have r1 : inR (.int x.a) 0 (R - 1) = true := by unfold inR; simp; omega
  have r2 : inR (.int x.b) 0 (R - 1) = true := by unfold inR; simp; omega
  have n3 : neD (.int 3) (.int 3) = some (.bool false) := rfl
  have cc1 := hc (.int x.a) 0 (R - 1)
  have cc2 := hc (.int x.b) 0 (R - 1)
  rw [r1] at cc1
  rw [r2] at cc2
  have l3 : ((0 + 1 + 1 + 1 : Nat) : Int) = 3 := rfl
  cases h3 : x.two with
  | true =>
    rw [h3] at a5 i1
    have a5' : x.a < x.b := by simpa using a5
    simp -implicitDefEqProofs only [b_is_door, execSs, execS, seqS, thenS, retS, retV, datK, ownK, tgK, appK, evalE, evalK, evalA, evalAnd, evalOr, evalO, evalF, evalI, evalC, keep, keepV, slotVal, lift1, lift2, liftA, consA, callF, notV, andT, orT, ifV, tstB, DD.ifS, DD.forS, compV, seqI, rngI, E.src, sem2, semC, semB, Ty.nm, Cst.d, boolRes, truth_bool, truth_none, truth_int, truth_list, truth_tuple, isi_int, isi_bool, isi_tuple, isi_list, isi_str, addD, subD, mul_int, fdiv_int, mod_int, ltD, leD, gtD, geD, lenD, isNone, negD, tg_one, tg_many, tgs_nil, tgs_cons, flatRoot, okSize, List.getElem?_cons_zero, List.getElem?_cons_succ, List.set_cons_zero, List.set_cons_succ, List.length_cons, List.length_nil, Option.map_some, Option.map_none, Nat.zero_add, if_true, if_false, Bool.not_true, Bool.not_false, reduceCtorEq, or_true, true_or, or_false, false_or, Nat.reduceAdd, Nat.reduceLeDiff, decide_true, decide_false, Bool.false_eq_true, Door.d, isTup, ixD, at_c0, at_c1, at_c2, k1, k2, e1, e2, h3, i1, cc1, cc2, eq_kind, ne_int, a5', l3, Bool.not_true, Bool.not_false, beq_self_eq_true, Bool.true_beq, decide_true]
  | false =>
    rw [h3] at a5 i1
    have a5' : (x.a = x.b) = False := eq_false (by simpa using a5)
    simp -implicitDefEqProofs only [b_is_door, execSs, execS, seqS, thenS, retS, retV, datK, ownK, tgK, appK, evalE, evalK, evalA, evalAnd, evalOr, evalO, evalF, evalI, evalC, keep, keepV, slotVal, lift1, lift2, liftA, consA, callF, notV, andT, orT, ifV, tstB, DD.ifS, DD.forS, compV, seqI, rngI, E.src, sem2, semC, semB, Ty.nm, Cst.d, boolRes, truth_bool, truth_none, truth_int, truth_list, truth_tuple, isi_int, isi_bool, isi_tuple, isi_list, isi_str, addD, subD, mul_int, fdiv_int, mod_int, ltD, leD, gtD, geD, lenD, isNone, negD, tg_one, tg_many, tgs_nil, tgs_cons, flatRoot, okSize, List.getElem?_cons_zero, List.getElem?_cons_succ, List.set_cons_zero, List.set_cons_succ, List.length_cons, List.length_nil, Option.map_some, Option.map_none, Nat.zero_add, if_true, if_false, Bool.not_true, Bool.not_false, reduceCtorEq, or_true, true_or, or_false, false_or, Nat.reduceAdd, Nat.reduceLeDiff, decide_true, decide_false, Bool.false_eq_true, Door.d, isTup, ixD, at_c0, at_c1, at_c2, k1, k2, e1, e2, h3, i1, cc1, cc2, eq_kind, ne_int, a5', l3, Bool.not_true, Bool.not_false, beq_self_eq_true]
end
end DD

namespace DD
noncomputable section
open PySem PySem.Spec PyProof.Rows L2
def IsDoorOk (G : Gb) (c : Nat) : Prop := ∀ (R : Int) (x : Door), x.ok R → G.phi c [.int R, x.d] = some (.ok (.bool true))
def CInt (G : Gb) (g : Nat) (i : Int) : Prop := ∃ z, G.csts[g]? = some (z, .int i)
theorem isbld_sem (G : Gb) (ci g1 g2 cd : Nat) (hi : InOk G ci) (h1 : CInt G g1 6) (h2 : CInt G g2 8) (hd : IsDoorOk G cd) (b : Bld) (hb : b.ok) : runF G 0 true (b_is_building ci g1 g2 cd) 2 [b.d] = some (.ok (.bool true)) := by
  refine run_ret [some (.bor, b.d), none] rfl ?_
  obtain ⟨z1, k1⟩ := h1
  obtain ⟨z2, k2⟩ := h2
  have r1 : inR (.int b.R) 1 6 = true := by
    have := hb.r1
    have := hb.r6
    unfold inR; simp; omega
  have cc := hi (.int b.R) 1 6
  rw [r1] at cc
  have l2 : ((0 + 1 + 1 : Nat) : Int) = 2 := rfl
  have n8 := eq_false (show ¬ ((b.ds.length : Int) > 8) by have := hb.n8; omega)
  simp -implicitDefEqProofs only [b_is_building, execSs, execS, seqS, thenS, retS, retV, datK, ownK, tgK, appK, evalE, evalK, evalA, evalAnd, evalOr, evalO, evalF, evalI, evalC, keep, keepV, slotVal, lift1, lift2, liftA, consA, callF, notV, andT, orT, ifV, tstB, DD.ifS, DD.forS, compV, seqI, rngI, E.src, sem2, semC, semB, Ty.nm, Cst.d, boolRes, truth_bool, truth_none, truth_int, truth_list, truth_tuple, isi_int, isi_bool, isi_tuple, isi_list, isi_str, addD, subD, mul_int, fdiv_int, mod_int, ltD, leD, gtD, geD, lenD, isNone, negD, tg_one, tg_many, tgs_nil, tgs_cons, flatRoot, okSize, List.getElem?_cons_zero, List.getElem?_cons_succ, List.set_cons_zero, List.set_cons_succ, List.length_cons, List.length_nil, Option.map_some, Option.map_none, Nat.zero_add, if_true, if_false, Bool.not_true, Bool.not_false, reduceCtorEq, or_true, true_or, or_false, false_or, Nat.reduceAdd, Nat.reduceLeDiff, decide_true, decide_false, Bool.false_eq_true, Bld.d, isTup, ixD, at_c0, at_c1, k1, k2, cc, ne_int, l2, List.length_map, n8, Bool.not_true, Bool.not_false, wipeR, List.map_cons, List.map_nil]
  rw [compL_eq (fun _ => false) id]
  · simp [truth_list]
  · intro d hm
    obtain ⟨x, hx, rfl⟩ := List.mem_map.mp hm
    refine ⟨_, rfl, ?_, fun z => nomatch z⟩
    have cd := hd b.R x (hb.all x hx)
    simp -implicitDefEqProofs only [execSs, execS, seqS, thenS, retS, retV, datK, ownK, tgK, appK, evalE, evalK, evalA, evalAnd, evalOr, evalO, evalF, evalI, evalC, keep, keepV, slotVal, lift1, lift2, liftA, consA, callF, notV, andT, orT, ifV, tstB, DD.ifS, DD.forS, compV, seqI, rngI, E.src, sem2, semC, semB, Ty.nm, Cst.d, boolRes, truth_bool, truth_none, truth_int, truth_list, truth_tuple, isi_int, isi_bool, isi_tuple, isi_list, isi_str, addD, subD, mul_int, fdiv_int, mod_int, ltD, leD, gtD, geD, lenD, isNone, negD, tg_one, tg_many, tgs_nil, tgs_cons, flatRoot, okSize, List.getElem?_cons_zero, List.getElem?_cons_succ, List.set_cons_zero, List.set_cons_succ, List.length_cons, List.length_nil, Option.map_some, Option.map_none, Nat.zero_add, if_true, if_false, Bool.not_true, Bool.not_false, reduceCtorEq, or_true, true_or, or_false, false_or, Nat.reduceAdd, Nat.reduceLeDiff, decide_true, decide_false, Bool.false_eq_true, ixD, at_c0, cd, Bool.not_true]
def IsBldOk (G : Gb) (c : Nat) : Prop := ∀ b : Bld, b.ok → G.phi c [b.d] = some (.ok (.bool true))
theorem chkbld_sem (G : Gb) (c x : Nat) (hc : IsBldOk G c) (b : Bld) (hb : b.ok) : runF G 0 true (b_check_building c x) 1 [b.d] = some (.ok .none) := by
  refine run_next (ρ' := [some (.bor, b.d)]) [some (.bor, b.d)] rfl ?_
  have cc := hc b hb
  simp -implicitDefEqProofs only [b_check_building, execSs, execS, seqS, thenS, retS, retV, datK, ownK, tgK, appK, evalE, evalK, evalA, evalAnd, evalOr, evalO, evalF, evalI, evalC, keep, keepV, slotVal, lift1, lift2, liftA, consA, callF, notV, andT, orT, ifV, tstB, DD.ifS, DD.forS, compV, seqI, rngI, E.src, sem2, semC, semB, Ty.nm, Cst.d, boolRes, truth_bool, truth_none, truth_int, truth_list, truth_tuple, isi_int, isi_bool, isi_tuple, isi_list, isi_str, addD, subD, mul_int, fdiv_int, mod_int, ltD, leD, gtD, geD, lenD, isNone, negD, tg_one, tg_many, tgs_nil, tgs_cons, flatRoot, okSize, List.getElem?_cons_zero, List.getElem?_cons_succ, List.set_cons_zero, List.set_cons_succ, List.length_cons, List.length_nil, Option.map_some, Option.map_none, Nat.zero_add, if_true, if_false, Bool.not_true, Bool.not_false, reduceCtorEq, or_true, true_or, or_false, false_or, Nat.reduceAdd, Nat.reduceLeDiff, decide_true, decide_false, Bool.false_eq_true, cc, Bool.not_true]
def ChkOk (G : Gb) (c : Nat) : Prop := ∀ b : Bld, b.ok → G.phi c [b.d] = some (.ok .none)
/-! ### walks -/
def Bld.step (b : Bld) (r n : Int) : Option Int := if 0 ≤ n then (b.ds[n.toNat]?).bind (·.side r) else none
def lastI (fs : List Int) : Int := fs.getLastD 0
abbrev TSt := List Int × Option (Fl × D) × Option (Fl × D)
def stepT (b : Bld) (s : TSt) : D → Sum TSt Out
  | .int i => (match b.step (lastI s.1) i with
    | some r => .inl (s.1 ++ [r], some (.dat, .int i), some (.dat, .int r))
    | none => .inr (.ret .none))
  | _ => .inr (.ret .none)
def ansT : Sum TSt Out → D
  | .inl s => .list (s.1.map .int)
  | .inr _ => .none
def traceD (b : Bld) : D → D
  | .tuple [s, .tuple ns] => if inR s 0 (b.R - 1) = true ∧ ns.length ≤ 72 then (match s with
    | .int i => ansT (runL (stepT b) ns ([i], none, none))
    | _ => .none) else .none
  | _ => .none
theorem at_last {fs : List Int} (h : fs ≠ []) : atI (fs.map PyData.int) (-1) = some (.int (lastI fs)) := by
  obtain ⟨r, x, rfl⟩ : ∃ r x, fs = r ++ [x] := ⟨fs.dropLast, fs.getLast h, (List.dropLast_concat_getLast h).symm⟩
  unfold atI ixN lastI
  rw [if_neg (by omega), if_pos (by simp; omega)]
  have e : (-1 + ((r ++ [x]).map PyData.int).length : Int).toNat = r.length := by simp; omega
  show ((r ++ [x]).map PyData.int)[(-1 + ((r ++ [x]).map PyData.int).length : Int).toNat]? = _
  rw [e]
  simp
theorem inR_true {d : D} {lo hi : Int} (h : inR d lo hi = true) : ∃ i, d = .int i ∧ lo ≤ i ∧ i ≤ hi := by
  unfold inR at h
  split at h
  · simp -implicitDefEqProofs only [Bool.and_eq_true, decide_eq_true_eq] at h
    exact ⟨_, rfl, h.1, h.2⟩
  · cases h
theorem runL_out {b : Bld} : ∀ (ns : List D) (s : TSt) (o : Out), runL (stepT b) ns s = .inr o → o = .ret .none
  | [], s, o, h => by cases h
  | d :: ns, s, o, h => by
    unfold runL at h
    split at h
    · exact runL_out ns _ o h
    · rename_i o' e
      cases h
      unfold stepT at e
      split at e
      · split at e
        · cases e
        · cases e; rfl
      · cases e; rfl
def TraceOk (G : Gb) (c : Nat) : Prop := ∀ (b : Bld) (v : D), b.ok → G.phi c [b.d, v] = some (.ok (traceD b v))
theorem trace_sem (G : Gb) (ci g co : Nat) (hi : InOk G ci) (hg : CInt G g 72) (ho : SideOk G co) (b : Bld) (hb : b.ok) (v : D) : runF G 0 true (b_trace ci g co) 5 [b.d, v] = some (.ok (traceD b v)) := by
  obtain ⟨z, hg⟩ := hg
  refine run_ret [some (.bor, b.d), some (.bor, v), none, none, none] rfl ?_
  cases v with
  | tuple l =>
    by_cases h2 : (l.length : Int) = 2
    · obtain ⟨s, w, rfl⟩ : ∃ s w, l = [s, w] := by
        match l, h2 with
        | [s, w], _ => exact ⟨s, w, rfl⟩
        | [], h2 => simp at h2
        | [_], h2 => simp at h2
        | _ :: _ :: _ :: r, h2 => simp at h2; omega
      have l2 : ((0 + 1 + 1 : Nat) : Int) = 2 := rfl
      have cc := hi s 0 (b.R - 1)
      cases hr : inR s 0 (b.R - 1) with
      | false =>
        rw [hr] at cc
        have e : traceD b (.tuple [s, w]) = .none := by
          unfold traceD
          split
          · rename_i e
            cases e
            rw [if_neg (by rw [hr]; simp)]
          · rfl
        rw [e]
        simp -implicitDefEqProofs only [b_trace, execSs, execS, seqS, thenS, retS, retV, datK, ownK, tgK, appK, evalE, evalK, evalA, evalAnd, evalOr, evalO, evalF, evalI, evalC, keep, keepV, slotVal, lift1, lift2, liftA, consA, callF, notV, andT, orT, ifV, tstB, DD.ifS, DD.forS, compV, seqI, rngI, E.src, sem2, semC, semB, Ty.nm, Cst.d, boolRes, truth_bool, truth_none, truth_int, truth_list, truth_tuple, isi_int, isi_bool, isi_tuple, isi_list, isi_str, addD, subD, mul_int, fdiv_int, mod_int, ltD, leD, gtD, geD, lenD, isNone, negD, tg_one, tg_many, tgs_nil, tgs_cons, flatRoot, okSize, List.getElem?_cons_zero, List.getElem?_cons_succ, List.set_cons_zero, List.set_cons_succ, List.length_cons, List.length_nil, Option.map_some, Option.map_none, Nat.zero_add, if_true, if_false, Bool.not_true, Bool.not_false, reduceCtorEq, or_true, true_or, or_false, false_or, Nat.reduceAdd, Nat.reduceLeDiff, decide_true, decide_false, Bool.false_eq_true, Bld.d, isTup, ixD, at_c0, at_c1, ne_int, l2, cc, Bool.not_true, Bool.not_false]
      | true =>
        rw [hr] at cc
        obtain ⟨i, rfl, hr1, hr2⟩ := inR_true hr
        cases w with
        | tuple ns =>
          by_cases hl : ns.length ≤ 72
          · have g72 := eq_false (show ¬ ((ns.length : Int) > 72) by omega)
            simp -implicitDefEqProofs only [b_trace, execSs, execS, seqS, thenS, retS, retV, datK, ownK, tgK, appK, evalE, evalK, evalA, evalAnd, evalOr, evalO, evalF, evalI, evalC, keep, keepV, slotVal, lift1, lift2, liftA, consA, callF, notV, andT, orT, ifV, tstB, DD.ifS, DD.forS, compV, seqI, rngI, E.src, sem2, semC, semB, Ty.nm, Cst.d, boolRes, truth_bool, truth_none, truth_int, truth_list, truth_tuple, isi_int, isi_bool, isi_tuple, isi_list, isi_str, addD, subD, mul_int, fdiv_int, mod_int, ltD, leD, gtD, geD, lenD, isNone, negD, tg_one, tg_many, tgs_nil, tgs_cons, flatRoot, okSize, List.getElem?_cons_zero, List.getElem?_cons_succ, List.set_cons_zero, List.set_cons_succ, List.length_cons, List.length_nil, Option.map_some, Option.map_none, Nat.zero_add, if_true, if_false, Bool.not_true, Bool.not_false, reduceCtorEq, or_true, true_or, or_false, false_or, Nat.reduceAdd, Nat.reduceLeDiff, decide_true, decide_false, Bool.false_eq_true, Bld.d, isTup, ixD, at_c0, at_c1, ne_int, l2, cc, hg, g72, Bool.not_true, Bool.not_false]
            rw [forL_genR (fun s : TSt => [some (Fl.bor, b.d), some (Fl.bor, PyData.tuple [.int i, .tuple ns]), some (Fl.own, PyData.list (s.1.map PyData.int)), s.2.1, s.2.2]) (stepT b) (fun k s => s.1.length = k + 1) ([i], none, none)]
            · have e : traceD b (.tuple [.int i, .tuple ns]) = ansT (runL (stepT b) ns ([i], none, none)) := by
                unfold traceD
                dsimp only
                rw [if_pos ⟨hr, hl⟩]
              rw [e]
              cases er : runL (stepT b) ns ([i], none, none) with
              | inl s => simp -implicitDefEqProofs only [outL, execSs, execS, seqS, thenS, retS, retV, datK, ownK, tgK, appK, evalE, evalK, evalA, evalAnd, evalOr, evalO, evalF, evalI, evalC, keep, keepV, slotVal, lift1, lift2, liftA, consA, callF, notV, andT, orT, ifV, tstB, DD.ifS, DD.forS, compV, seqI, rngI, E.src, sem2, semC, semB, Ty.nm, Cst.d, boolRes, truth_bool, truth_none, truth_int, truth_list, truth_tuple, isi_int, isi_bool, isi_tuple, isi_list, isi_str, addD, subD, mul_int, fdiv_int, mod_int, ltD, leD, gtD, geD, lenD, isNone, negD, tg_one, tg_many, tgs_nil, tgs_cons, flatRoot, okSize, List.getElem?_cons_zero, List.getElem?_cons_succ, List.set_cons_zero, List.set_cons_succ, List.length_cons, List.length_nil, Option.map_some, Option.map_none, Nat.zero_add, if_true, if_false, Bool.not_true, Bool.not_false, reduceCtorEq, or_true, true_or, or_false, false_or, Nat.reduceAdd, Nat.reduceLeDiff, decide_true, decide_false, Bool.false_eq_true, ansT]
              | inr o =>
                rw [runL_out _ _ _ er]
                simp -implicitDefEqProofs only [outL, execSs, execS, seqS, thenS, retS, retV, datK, ownK, tgK, appK, evalE, evalK, evalA, evalAnd, evalOr, evalO, evalF, evalI, evalC, keep, keepV, slotVal, lift1, lift2, liftA, consA, callF, notV, andT, orT, ifV, tstB, DD.ifS, DD.forS, compV, seqI, rngI, E.src, sem2, semC, semB, Ty.nm, Cst.d, boolRes, truth_bool, truth_none, truth_int, truth_list, truth_tuple, isi_int, isi_bool, isi_tuple, isi_list, isi_str, addD, subD, mul_int, fdiv_int, mod_int, ltD, leD, gtD, geD, lenD, isNone, negD, tg_one, tg_many, tgs_nil, tgs_cons, flatRoot, okSize, List.getElem?_cons_zero, List.getElem?_cons_succ, List.set_cons_zero, List.set_cons_succ, List.length_cons, List.length_nil, Option.map_some, Option.map_none, Nat.zero_add, if_true, if_false, Bool.not_true, Bool.not_false, reduceCtorEq, or_true, true_or, or_false, false_or, Nat.reduceAdd, Nat.reduceLeDiff, decide_true, decide_false, Bool.false_eq_true, ansT]
            · rfl
            · rfl
            · intro k d s hk hs
              refine ⟨_, rfl, ?_⟩
              have hkl : k < ns.length := by
                by_cases hkl : k < ns.length
                · exact hkl
                · rw [List.getElem?_eq_none (by omega)] at hk
                  cases hk
              have cd := hi d 0 ((b.ds.length : Int) - 1)
              have al := at_last (fs := s.1) (by intro e; rw [e] at hs; simp at hs)
              have hsl : s.1.length < 16777216 := by omega
              cases hd : inR d 0 ((b.ds.length : Int) - 1) with
              | false =>
                rw [hd] at cd
                have e : stepT b s d = .inr (.ret .none) := by
                  unfold stepT
                  split
                  · rename_i i'
                    have : b.step (lastI s.1) i' = none := by
                      unfold Bld.step
                      split
                      · rw [List.getElem?_eq_none]
                        · rfl
                        · unfold inR at hd
                          simp at hd
                          omega
                      · rfl
                    rw [this]
                  · rfl
                rw [e]
                dsimp only
                refine ⟨?_, fun ρ z => nomatch z⟩
                simp -implicitDefEqProofs only [execSs, execS, seqS, thenS, retS, retV, datK, ownK, tgK, appK, evalE, evalK, evalA, evalAnd, evalOr, evalO, evalF, evalI, evalC, keep, keepV, slotVal, lift1, lift2, liftA, consA, callF, notV, andT, orT, ifV, tstB, DD.ifS, DD.forS, compV, seqI, rngI, E.src, sem2, semC, semB, Ty.nm, Cst.d, boolRes, truth_bool, truth_none, truth_int, truth_list, truth_tuple, isi_int, isi_bool, isi_tuple, isi_list, isi_str, addD, subD, mul_int, fdiv_int, mod_int, ltD, leD, gtD, geD, lenD, isNone, negD, tg_one, tg_many, tgs_nil, tgs_cons, flatRoot, okSize, List.getElem?_cons_zero, List.getElem?_cons_succ, List.set_cons_zero, List.set_cons_succ, List.length_cons, List.length_nil, Option.map_some, Option.map_none, Nat.zero_add, if_true, if_false, Bool.not_true, Bool.not_false, reduceCtorEq, or_true, true_or, or_false, false_or, Nat.reduceAdd, Nat.reduceLeDiff, decide_true, decide_false, Bool.false_eq_true, Bld.d, isTup, ixD, at_c0, at_c1, List.length_map, cd, Bool.not_true, Bool.not_false]
              | true =>
                rw [hd] at cd
                obtain ⟨i', rfl, q1, q2⟩ := inR_true hd
                obtain ⟨j, rfl⟩ : ∃ j : Nat, i' = (j : Int) := ⟨i'.toNat, by omega⟩
                have hj : j < b.ds.length := by omega
                have hx := List.getElem?_eq_getElem hj
                have co' := ho b j _ (lastI s.1) hx
                have es : b.step (lastI s.1) (j : Int) = (b.ds[j]).side (lastI s.1) := by
                  unfold Bld.step
                  rw [if_pos (by omega), Int.toNat_natCast, hx]
                  rfl
                have est : stepT b s (.int (j : Int)) = (match (b.ds[j]).side (lastI s.1) with
                  | some r => .inl (s.1 ++ [r], some (.dat, .int (j : Int)), some (.dat, .int r))
                  | none => .inr (.ret .none)) := by
                  unfold stepT
                  dsimp only
                  rw [es]
                rw [est]
                unfold Bld.d at co'
                cases eo : (b.ds[j]).side (lastI s.1) with
                | none =>
                  rw [eo] at co'
                  dsimp only
                  refine ⟨?_, fun ρ z => nomatch z⟩
                  simp -implicitDefEqProofs only [execSs, execS, seqS, thenS, retS, retV, datK, ownK, tgK, appK, evalE, evalK, evalA, evalAnd, evalOr, evalO, evalF, evalI, evalC, keep, keepV, slotVal, lift1, lift2, liftA, consA, callF, notV, andT, orT, ifV, tstB, DD.ifS, DD.forS, compV, seqI, rngI, E.src, sem2, semC, semB, Ty.nm, Cst.d, boolRes, truth_bool, truth_none, truth_int, truth_list, truth_tuple, isi_int, isi_bool, isi_tuple, isi_list, isi_str, addD, subD, mul_int, fdiv_int, mod_int, ltD, leD, gtD, geD, lenD, isNone, negD, tg_one, tg_many, tgs_nil, tgs_cons, flatRoot, okSize, List.getElem?_cons_zero, List.getElem?_cons_succ, List.set_cons_zero, List.set_cons_succ, List.length_cons, List.length_nil, Option.map_some, Option.map_none, Nat.zero_add, if_true, if_false, Bool.not_true, Bool.not_false, reduceCtorEq, or_true, true_or, or_false, false_or, Nat.reduceAdd, Nat.reduceLeDiff, decide_true, decide_false, Bool.false_eq_true, Bld.d, isTup, ixD, at_c0, at_c1, List.length_map, cd, al, co', oI, Bool.not_true, Bool.not_false]
                | some r =>
                  rw [eo] at co'
                  dsimp only
                  refine ⟨?_, by simp [hs]⟩
                  simp -implicitDefEqProofs only [execSs, execS, seqS, thenS, retS, retV, datK, ownK, tgK, appK, evalE, evalK, evalA, evalAnd, evalOr, evalO, evalF, evalI, evalC, keep, keepV, slotVal, lift1, lift2, liftA, consA, callF, notV, andT, orT, ifV, tstB, DD.ifS, DD.forS, compV, seqI, rngI, E.src, sem2, semC, semB, Ty.nm, Cst.d, boolRes, truth_bool, truth_none, truth_int, truth_list, truth_tuple, isi_int, isi_bool, isi_tuple, isi_list, isi_str, addD, subD, mul_int, fdiv_int, mod_int, ltD, leD, gtD, geD, lenD, isNone, negD, tg_one, tg_many, tgs_nil, tgs_cons, flatRoot, okSize, List.getElem?_cons_zero, List.getElem?_cons_succ, List.set_cons_zero, List.set_cons_succ, List.length_cons, List.length_nil, Option.map_some, Option.map_none, Nat.zero_add, if_true, if_false, Bool.not_true, Bool.not_false, reduceCtorEq, or_true, true_or, or_false, false_or, Nat.reduceAdd, Nat.reduceLeDiff, decide_true, decide_false, Bool.false_eq_true, Bld.d, isTup, ixD, at_c0, at_c1, List.length_map, cd, al, co', oI, Bool.not_true, Bool.not_false, hsl, List.map_append, List.map_cons, List.map_nil]
          · have g72 := eq_true (show ((ns.length : Int) > 72) by omega)
            have e : traceD b (.tuple [.int i, .tuple ns]) = .none := by
              unfold traceD
              dsimp only
              rw [if_neg (by omega)]
            rw [e]
            simp -implicitDefEqProofs only [b_trace, execSs, execS, seqS, thenS, retS, retV, datK, ownK, tgK, appK, evalE, evalK, evalA, evalAnd, evalOr, evalO, evalF, evalI, evalC, keep, keepV, slotVal, lift1, lift2, liftA, consA, callF, notV, andT, orT, ifV, tstB, DD.ifS, DD.forS, compV, seqI, rngI, E.src, sem2, semC, semB, Ty.nm, Cst.d, boolRes, truth_bool, truth_none, truth_int, truth_list, truth_tuple, isi_int, isi_bool, isi_tuple, isi_list, isi_str, addD, subD, mul_int, fdiv_int, mod_int, ltD, leD, gtD, geD, lenD, isNone, negD, tg_one, tg_many, tgs_nil, tgs_cons, flatRoot, okSize, List.getElem?_cons_zero, List.getElem?_cons_succ, List.set_cons_zero, List.set_cons_succ, List.length_cons, List.length_nil, Option.map_some, Option.map_none, Nat.zero_add, if_true, if_false, Bool.not_true, Bool.not_false, reduceCtorEq, or_true, true_or, or_false, false_or, Nat.reduceAdd, Nat.reduceLeDiff, decide_true, decide_false, Bool.false_eq_true, Bld.d, isTup, ixD, at_c0, at_c1, ne_int, l2, cc, hg, g72, Bool.not_true, Bool.not_false]
        | _ => simp -implicitDefEqProofs only [b_trace, execSs, execS, seqS, thenS, retS, retV, datK, ownK, tgK, appK, evalE, evalK, evalA, evalAnd, evalOr, evalO, evalF, evalI, evalC, keep, keepV, slotVal, lift1, lift2, liftA, consA, callF, notV, andT, orT, ifV, tstB, DD.ifS, DD.forS, compV, seqI, rngI, E.src, sem2, semC, semB, Ty.nm, Cst.d, boolRes, truth_bool, truth_none, truth_int, truth_list, truth_tuple, isi_int, isi_bool, isi_tuple, isi_list, isi_str, addD, subD, mul_int, fdiv_int, mod_int, ltD, leD, gtD, geD, lenD, isNone, negD, tg_one, tg_many, tgs_nil, tgs_cons, flatRoot, okSize, List.getElem?_cons_zero, List.getElem?_cons_succ, List.set_cons_zero, List.set_cons_succ, List.length_cons, List.length_nil, Option.map_some, Option.map_none, Nat.zero_add, if_true, if_false, Bool.not_true, Bool.not_false, reduceCtorEq, or_true, true_or, or_false, false_or, Nat.reduceAdd, Nat.reduceLeDiff, decide_true, decide_false, Bool.false_eq_true, Bld.d, isTup, ixD, at_c0, at_c1, ne_int, l2, cc, Bool.not_true, Bool.not_false, traceD]
    · have e : traceD b (.tuple l) = .none := by
        unfold traceD
        split
        · rename_i e
          cases e
          simp at h2
        · rfl
      rw [e]
      simp -implicitDefEqProofs only [b_trace, execSs, execS, seqS, thenS, retS, retV, datK, ownK, tgK, appK, evalE, evalK, evalA, evalAnd, evalOr, evalO, evalF, evalI, evalC, keep, keepV, slotVal, lift1, lift2, liftA, consA, callF, notV, andT, orT, ifV, tstB, DD.ifS, DD.forS, compV, seqI, rngI, E.src, sem2, semC, semB, Ty.nm, Cst.d, boolRes, truth_bool, truth_none, truth_int, truth_list, truth_tuple, isi_int, isi_bool, isi_tuple, isi_list, isi_str, addD, subD, mul_int, fdiv_int, mod_int, ltD, leD, gtD, geD, lenD, isNone, negD, tg_one, tg_many, tgs_nil, tgs_cons, flatRoot, okSize, List.getElem?_cons_zero, List.getElem?_cons_succ, List.set_cons_zero, List.set_cons_succ, List.length_cons, List.length_nil, Option.map_some, Option.map_none, Nat.zero_add, if_true, if_false, Bool.not_true, Bool.not_false, reduceCtorEq, or_true, true_or, or_false, false_or, Nat.reduceAdd, Nat.reduceLeDiff, decide_true, decide_false, Bool.false_eq_true, Bld.d, isTup, ixD, ne_int, h2, Bool.not_true, Bool.not_false]
  | _ => simp -implicitDefEqProofs only [b_trace, execSs, execS, seqS, thenS, retS, retV, datK, ownK, tgK, appK, evalE, evalK, evalA, evalAnd, evalOr, evalO, evalF, evalI, evalC, keep, keepV, slotVal, lift1, lift2, liftA, consA, callF, notV, andT, orT, ifV, tstB, DD.ifS, DD.forS, compV, seqI, rngI, E.src, sem2, semC, semB, Ty.nm, Cst.d, boolRes, truth_bool, truth_none, truth_int, truth_list, truth_tuple, isi_int, isi_bool, isi_tuple, isi_list, isi_str, addD, subD, mul_int, fdiv_int, mod_int, ltD, leD, gtD, geD, lenD, isNone, negD, tg_one, tg_many, tgs_nil, tgs_cons, flatRoot, okSize, List.getElem?_cons_zero, List.getElem?_cons_succ, List.set_cons_zero, List.set_cons_succ, List.length_cons, List.length_nil, Option.map_some, Option.map_none, Nat.zero_add, if_true, if_false, Bool.not_true, Bool.not_false, reduceCtorEq, or_true, true_or, or_false, false_or, Nat.reduceAdd, Nat.reduceLeDiff, decide_true, decide_false, Bool.false_eq_true, isTup, Bool.not_false, traceD]
end
end DD

namespace DD
noncomputable section
open PySem PySem.Spec PyProof.Rows L2
theorem rooms_sem (G : Gb) (ci co : Nat) (hi : InOk G ci) (ho : SideOk G co) (b : Bld) (hb : b.ok) (v : D) : runF G 0 true (b_law_rooms ci co) 5 [b.d, v] = some (.ok (traceD b v)) := by
  refine run_ret [some (.bor, b.d), some (.bor, v), none, none, none] rfl ?_
  cases v with
  | tuple l =>
    by_cases h2 : (l.length : Int) = 2
    · obtain ⟨s, w, rfl⟩ : ∃ s w, l = [s, w] := by
        match l, h2 with
        | [s, w], _ => exact ⟨s, w, rfl⟩
        | [], h2 => simp at h2
        | [_], h2 => simp at h2
        | _ :: _ :: _ :: r, h2 => simp at h2; omega
      have l2 : ((0 + 1 + 1 : Nat) : Int) = 2 := rfl
      have cc := hi s 0 (b.R - 1)
      cases hr : inR s 0 (b.R - 1) with
      | false =>
        rw [hr] at cc
        have e : traceD b (.tuple [s, w]) = .none := by
          unfold traceD
          split
          · rename_i e
            cases e
            rw [if_neg (by rw [hr]; simp)]
          · rfl
        rw [e]
        simp -implicitDefEqProofs only [b_law_rooms, execSs, execS, seqS, thenS, retS, retV, datK, ownK, tgK, appK, evalE, evalK, evalA, evalAnd, evalOr, evalO, evalF, evalI, evalC, keep, keepV, slotVal, lift1, lift2, liftA, consA, callF, notV, andT, orT, ifV, tstB, DD.ifS, DD.forS, compV, seqI, rngI, E.src, sem2, semC, semB, Ty.nm, Cst.d, boolRes, truth_bool, truth_none, truth_int, truth_list, truth_tuple, isi_int, isi_bool, isi_tuple, isi_list, isi_str, addD, subD, mul_int, fdiv_int, mod_int, ltD, leD, gtD, geD, lenD, isNone, negD, tg_one, tg_many, tgs_nil, tgs_cons, flatRoot, okSize, List.getElem?_cons_zero, List.getElem?_cons_succ, List.set_cons_zero, List.set_cons_succ, List.length_cons, List.length_nil, Option.map_some, Option.map_none, Nat.zero_add, if_true, if_false, Bool.not_true, Bool.not_false, reduceCtorEq, or_true, true_or, or_false, false_or, Nat.reduceAdd, Nat.reduceLeDiff, decide_true, decide_false, Bool.false_eq_true, Bld.d, isTup, ixD, at_c0, at_c1, ne_int, l2, cc, Bool.not_true, Bool.not_false]
      | true =>
        rw [hr] at cc
        obtain ⟨i, rfl, hr1, hr2⟩ := inR_true hr
        cases w with
        | tuple ns =>
          by_cases hl : ns.length ≤ 72
          · have g72 := eq_false (show ¬ ((ns.length : Int) > 72) by omega)
            simp -implicitDefEqProofs only [b_law_rooms, execSs, execS, seqS, thenS, retS, retV, datK, ownK, tgK, appK, evalE, evalK, evalA, evalAnd, evalOr, evalO, evalF, evalI, evalC, keep, keepV, slotVal, lift1, lift2, liftA, consA, callF, notV, andT, orT, ifV, tstB, DD.ifS, DD.forS, compV, seqI, rngI, E.src, sem2, semC, semB, Ty.nm, Cst.d, boolRes, truth_bool, truth_none, truth_int, truth_list, truth_tuple, isi_int, isi_bool, isi_tuple, isi_list, isi_str, addD, subD, mul_int, fdiv_int, mod_int, ltD, leD, gtD, geD, lenD, isNone, negD, tg_one, tg_many, tgs_nil, tgs_cons, flatRoot, okSize, List.getElem?_cons_zero, List.getElem?_cons_succ, List.set_cons_zero, List.set_cons_succ, List.length_cons, List.length_nil, Option.map_some, Option.map_none, Nat.zero_add, if_true, if_false, Bool.not_true, Bool.not_false, reduceCtorEq, or_true, true_or, or_false, false_or, Nat.reduceAdd, Nat.reduceLeDiff, decide_true, decide_false, Bool.false_eq_true, Bld.d, isTup, ixD, at_c0, at_c1, ne_int, l2, cc, g72, Bool.not_true, Bool.not_false]
            rw [forL_genR (fun s : TSt => [some (Fl.bor, b.d), some (Fl.bor, PyData.tuple [.int i, .tuple ns]), some (Fl.own, PyData.list (s.1.map PyData.int)), s.2.1, s.2.2]) (stepT b) (fun k s => s.1.length = k + 1) ([i], none, none)]
            · have e : traceD b (.tuple [.int i, .tuple ns]) = ansT (runL (stepT b) ns ([i], none, none)) := by
                unfold traceD
                dsimp only
                rw [if_pos ⟨hr, hl⟩]
              rw [e]
              cases er : runL (stepT b) ns ([i], none, none) with
              | inl s => simp -implicitDefEqProofs only [outL, execSs, execS, seqS, thenS, retS, retV, datK, ownK, tgK, appK, evalE, evalK, evalA, evalAnd, evalOr, evalO, evalF, evalI, evalC, keep, keepV, slotVal, lift1, lift2, liftA, consA, callF, notV, andT, orT, ifV, tstB, DD.ifS, DD.forS, compV, seqI, rngI, E.src, sem2, semC, semB, Ty.nm, Cst.d, boolRes, truth_bool, truth_none, truth_int, truth_list, truth_tuple, isi_int, isi_bool, isi_tuple, isi_list, isi_str, addD, subD, mul_int, fdiv_int, mod_int, ltD, leD, gtD, geD, lenD, isNone, negD, tg_one, tg_many, tgs_nil, tgs_cons, flatRoot, okSize, List.getElem?_cons_zero, List.getElem?_cons_succ, List.set_cons_zero, List.set_cons_succ, List.length_cons, List.length_nil, Option.map_some, Option.map_none, Nat.zero_add, if_true, if_false, Bool.not_true, Bool.not_false, reduceCtorEq, or_true, true_or, or_false, false_or, Nat.reduceAdd, Nat.reduceLeDiff, decide_true, decide_false, Bool.false_eq_true, ansT]
              | inr o =>
                rw [runL_out _ _ _ er]
                simp -implicitDefEqProofs only [outL, execSs, execS, seqS, thenS, retS, retV, datK, ownK, tgK, appK, evalE, evalK, evalA, evalAnd, evalOr, evalO, evalF, evalI, evalC, keep, keepV, slotVal, lift1, lift2, liftA, consA, callF, notV, andT, orT, ifV, tstB, DD.ifS, DD.forS, compV, seqI, rngI, E.src, sem2, semC, semB, Ty.nm, Cst.d, boolRes, truth_bool, truth_none, truth_int, truth_list, truth_tuple, isi_int, isi_bool, isi_tuple, isi_list, isi_str, addD, subD, mul_int, fdiv_int, mod_int, ltD, leD, gtD, geD, lenD, isNone, negD, tg_one, tg_many, tgs_nil, tgs_cons, flatRoot, okSize, List.getElem?_cons_zero, List.getElem?_cons_succ, List.set_cons_zero, List.set_cons_succ, List.length_cons, List.length_nil, Option.map_some, Option.map_none, Nat.zero_add, if_true, if_false, Bool.not_true, Bool.not_false, reduceCtorEq, or_true, true_or, or_false, false_or, Nat.reduceAdd, Nat.reduceLeDiff, decide_true, decide_false, Bool.false_eq_true, ansT]
            · rfl
            · rfl
            · intro k d s hk hs
              refine ⟨_, rfl, ?_⟩
              have hkl : k < ns.length := by
                by_cases hkl : k < ns.length
                · exact hkl
                · rw [List.getElem?_eq_none (by omega)] at hk
                  cases hk
              have cd := hi d 0 ((b.ds.length : Int) - 1)
              have al := at_last (fs := s.1) (by intro e; rw [e] at hs; simp at hs)
              have hsl : s.1.length < 16777216 := by omega
              cases hd : inR d 0 ((b.ds.length : Int) - 1) with
              | false =>
                rw [hd] at cd
                have e : stepT b s d = .inr (.ret .none) := by
                  unfold stepT
                  split
                  · rename_i i'
                    have : b.step (lastI s.1) i' = none := by
                      unfold Bld.step
                      split
                      · rw [List.getElem?_eq_none]
                        · rfl
                        · unfold inR at hd
                          simp at hd
                          omega
                      · rfl
                    rw [this]
                  · rfl
                rw [e]
                dsimp only
                refine ⟨?_, fun ρ z => nomatch z⟩
                simp -implicitDefEqProofs only [execSs, execS, seqS, thenS, retS, retV, datK, ownK, tgK, appK, evalE, evalK, evalA, evalAnd, evalOr, evalO, evalF, evalI, evalC, keep, keepV, slotVal, lift1, lift2, liftA, consA, callF, notV, andT, orT, ifV, tstB, DD.ifS, DD.forS, compV, seqI, rngI, E.src, sem2, semC, semB, Ty.nm, Cst.d, boolRes, truth_bool, truth_none, truth_int, truth_list, truth_tuple, isi_int, isi_bool, isi_tuple, isi_list, isi_str, addD, subD, mul_int, fdiv_int, mod_int, ltD, leD, gtD, geD, lenD, isNone, negD, tg_one, tg_many, tgs_nil, tgs_cons, flatRoot, okSize, List.getElem?_cons_zero, List.getElem?_cons_succ, List.set_cons_zero, List.set_cons_succ, List.length_cons, List.length_nil, Option.map_some, Option.map_none, Nat.zero_add, if_true, if_false, Bool.not_true, Bool.not_false, reduceCtorEq, or_true, true_or, or_false, false_or, Nat.reduceAdd, Nat.reduceLeDiff, decide_true, decide_false, Bool.false_eq_true, Bld.d, isTup, ixD, at_c0, at_c1, List.length_map, cd, Bool.not_true, Bool.not_false]
              | true =>
                rw [hd] at cd
                obtain ⟨i', rfl, q1, q2⟩ := inR_true hd
                obtain ⟨j, rfl⟩ : ∃ j : Nat, i' = (j : Int) := ⟨i'.toNat, by omega⟩
                have hj : j < b.ds.length := by omega
                have hx := List.getElem?_eq_getElem hj
                have co' := ho b j _ (lastI s.1) hx
                have es : b.step (lastI s.1) (j : Int) = (b.ds[j]).side (lastI s.1) := by
                  unfold Bld.step
                  rw [if_pos (by omega), Int.toNat_natCast, hx]
                  rfl
                have est : stepT b s (.int (j : Int)) = (match (b.ds[j]).side (lastI s.1) with
                  | some r => .inl (s.1 ++ [r], some (.dat, .int (j : Int)), some (.dat, .int r))
                  | none => .inr (.ret .none)) := by
                  unfold stepT
                  dsimp only
                  rw [es]
                  try rfl
                rw [est]
                unfold Bld.d at co'
                cases eo : (b.ds[j]).side (lastI s.1) with
                | none =>
                  rw [eo] at co'
                  dsimp only
                  refine ⟨?_, fun ρ z => nomatch z⟩
                  simp -implicitDefEqProofs only [execSs, execS, seqS, thenS, retS, retV, datK, ownK, tgK, appK, evalE, evalK, evalA, evalAnd, evalOr, evalO, evalF, evalI, evalC, keep, keepV, slotVal, lift1, lift2, liftA, consA, callF, notV, andT, orT, ifV, tstB, DD.ifS, DD.forS, compV, seqI, rngI, E.src, sem2, semC, semB, Ty.nm, Cst.d, boolRes, truth_bool, truth_none, truth_int, truth_list, truth_tuple, isi_int, isi_bool, isi_tuple, isi_list, isi_str, addD, subD, mul_int, fdiv_int, mod_int, ltD, leD, gtD, geD, lenD, isNone, negD, tg_one, tg_many, tgs_nil, tgs_cons, flatRoot, okSize, List.getElem?_cons_zero, List.getElem?_cons_succ, List.set_cons_zero, List.set_cons_succ, List.length_cons, List.length_nil, Option.map_some, Option.map_none, Nat.zero_add, if_true, if_false, Bool.not_true, Bool.not_false, reduceCtorEq, or_true, true_or, or_false, false_or, Nat.reduceAdd, Nat.reduceLeDiff, decide_true, decide_false, Bool.false_eq_true, Bld.d, isTup, ixD, at_c0, at_c1, List.length_map, cd, al, co', oI, Bool.not_true, Bool.not_false]
                | some r =>
                  rw [eo] at co'
                  dsimp only
                  refine ⟨?_, by simp [hs]⟩
                  simp -implicitDefEqProofs only [execSs, execS, seqS, thenS, retS, retV, datK, ownK, tgK, appK, evalE, evalK, evalA, evalAnd, evalOr, evalO, evalF, evalI, evalC, keep, keepV, slotVal, lift1, lift2, liftA, consA, callF, notV, andT, orT, ifV, tstB, DD.ifS, DD.forS, compV, seqI, rngI, E.src, sem2, semC, semB, Ty.nm, Cst.d, boolRes, truth_bool, truth_none, truth_int, truth_list, truth_tuple, isi_int, isi_bool, isi_tuple, isi_list, isi_str, addD, subD, mul_int, fdiv_int, mod_int, ltD, leD, gtD, geD, lenD, isNone, negD, tg_one, tg_many, tgs_nil, tgs_cons, flatRoot, okSize, List.getElem?_cons_zero, List.getElem?_cons_succ, List.set_cons_zero, List.set_cons_succ, List.length_cons, List.length_nil, Option.map_some, Option.map_none, Nat.zero_add, if_true, if_false, Bool.not_true, Bool.not_false, reduceCtorEq, or_true, true_or, or_false, false_or, Nat.reduceAdd, Nat.reduceLeDiff, decide_true, decide_false, Bool.false_eq_true, Bld.d, isTup, ixD, at_c0, at_c1, List.length_map, cd, al, co', oI, Bool.not_true, Bool.not_false, hsl, List.map_append, List.map_cons, List.map_nil]
          · have g72 := eq_true (show ((ns.length : Int) > 72) by omega)
            have e : traceD b (.tuple [.int i, .tuple ns]) = .none := by
              unfold traceD
              dsimp only
              rw [if_neg (by omega)]
            rw [e]
            simp -implicitDefEqProofs only [b_law_rooms, execSs, execS, seqS, thenS, retS, retV, datK, ownK, tgK, appK, evalE, evalK, evalA, evalAnd, evalOr, evalO, evalF, evalI, evalC, keep, keepV, slotVal, lift1, lift2, liftA, consA, callF, notV, andT, orT, ifV, tstB, DD.ifS, DD.forS, compV, seqI, rngI, E.src, sem2, semC, semB, Ty.nm, Cst.d, boolRes, truth_bool, truth_none, truth_int, truth_list, truth_tuple, isi_int, isi_bool, isi_tuple, isi_list, isi_str, addD, subD, mul_int, fdiv_int, mod_int, ltD, leD, gtD, geD, lenD, isNone, negD, tg_one, tg_many, tgs_nil, tgs_cons, flatRoot, okSize, List.getElem?_cons_zero, List.getElem?_cons_succ, List.set_cons_zero, List.set_cons_succ, List.length_cons, List.length_nil, Option.map_some, Option.map_none, Nat.zero_add, if_true, if_false, Bool.not_true, Bool.not_false, reduceCtorEq, or_true, true_or, or_false, false_or, Nat.reduceAdd, Nat.reduceLeDiff, decide_true, decide_false, Bool.false_eq_true, Bld.d, isTup, ixD, at_c0, at_c1, ne_int, l2, cc, g72, Bool.not_true, Bool.not_false]
        | _ => simp -implicitDefEqProofs only [b_law_rooms, execSs, execS, seqS, thenS, retS, retV, datK, ownK, tgK, appK, evalE, evalK, evalA, evalAnd, evalOr, evalO, evalF, evalI, evalC, keep, keepV, slotVal, lift1, lift2, liftA, consA, callF, notV, andT, orT, ifV, tstB, DD.ifS, DD.forS, compV, seqI, rngI, E.src, sem2, semC, semB, Ty.nm, Cst.d, boolRes, truth_bool, truth_none, truth_int, truth_list, truth_tuple, isi_int, isi_bool, isi_tuple, isi_list, isi_str, addD, subD, mul_int, fdiv_int, mod_int, ltD, leD, gtD, geD, lenD, isNone, negD, tg_one, tg_many, tgs_nil, tgs_cons, flatRoot, okSize, List.getElem?_cons_zero, List.getElem?_cons_succ, List.set_cons_zero, List.set_cons_succ, List.length_cons, List.length_nil, Option.map_some, Option.map_none, Nat.zero_add, if_true, if_false, Bool.not_true, Bool.not_false, reduceCtorEq, or_true, true_or, or_false, false_or, Nat.reduceAdd, Nat.reduceLeDiff, decide_true, decide_false, Bool.false_eq_true, Bld.d, isTup, ixD, at_c0, at_c1, ne_int, l2, cc, Bool.not_true, Bool.not_false, traceD]
    · have e : traceD b (.tuple l) = .none := by
        unfold traceD
        split
        · rename_i e
          cases e
          simp at h2
        · rfl
      rw [e]
      simp -implicitDefEqProofs only [b_law_rooms, execSs, execS, seqS, thenS, retS, retV, datK, ownK, tgK, appK, evalE, evalK, evalA, evalAnd, evalOr, evalO, evalF, evalI, evalC, keep, keepV, slotVal, lift1, lift2, liftA, consA, callF, notV, andT, orT, ifV, tstB, DD.ifS, DD.forS, compV, seqI, rngI, E.src, sem2, semC, semB, Ty.nm, Cst.d, boolRes, truth_bool, truth_none, truth_int, truth_list, truth_tuple, isi_int, isi_bool, isi_tuple, isi_list, isi_str, addD, subD, mul_int, fdiv_int, mod_int, ltD, leD, gtD, geD, lenD, isNone, negD, tg_one, tg_many, tgs_nil, tgs_cons, flatRoot, okSize, List.getElem?_cons_zero, List.getElem?_cons_succ, List.set_cons_zero, List.set_cons_succ, List.length_cons, List.length_nil, Option.map_some, Option.map_none, Nat.zero_add, if_true, if_false, Bool.not_true, Bool.not_false, reduceCtorEq, or_true, true_or, or_false, false_or, Nat.reduceAdd, Nat.reduceLeDiff, decide_true, decide_false, Bool.false_eq_true, Bld.d, isTup, ixD, ne_int, h2, Bool.not_true, Bool.not_false]
  | _ => simp -implicitDefEqProofs only [b_law_rooms, execSs, execS, seqS, thenS, retS, retV, datK, ownK, tgK, appK, evalE, evalK, evalA, evalAnd, evalOr, evalO, evalF, evalI, evalC, keep, keepV, slotVal, lift1, lift2, liftA, consA, callF, notV, andT, orT, ifV, tstB, DD.ifS, DD.forS, compV, seqI, rngI, E.src, sem2, semC, semB, Ty.nm, Cst.d, boolRes, truth_bool, truth_none, truth_int, truth_list, truth_tuple, isi_int, isi_bool, isi_tuple, isi_list, isi_str, addD, subD, mul_int, fdiv_int, mod_int, ltD, leD, gtD, geD, lenD, isNone, negD, tg_one, tg_many, tgs_nil, tgs_cons, flatRoot, okSize, List.getElem?_cons_zero, List.getElem?_cons_succ, List.set_cons_zero, List.set_cons_succ, List.length_cons, List.length_nil, Option.map_some, Option.map_none, Nat.zero_add, if_true, if_false, Bool.not_true, Bool.not_false, reduceCtorEq, or_true, true_or, or_false, false_or, Nat.reduceAdd, Nat.reduceLeDiff, decide_true, decide_false, Bool.false_eq_true, isTup, Bool.not_false, traceD]

theorem iswalk_sem (G : Gb) (c1 c2 : Nat) (h1 : ChkOk G c1) (h2 : TraceOk G c2) (b : Bld) (hb : b.ok) (v : D) : runF G 0 true (b_is_walk c1 c2) 2 [b.d, v] = some (.ok (.bool (!isNone (traceD b v)))) := by
  refine run_ret [some (.bor, b.d), some (.bor, v)] rfl ?_
  have e1 := h1 b hb
  have e2 := h2 b v hb
  simp -implicitDefEqProofs only [b_is_walk, execSs, execS, seqS, thenS, retS, retV, datK, ownK, tgK, appK, evalE, evalK, evalA, evalAnd, evalOr, evalO, evalF, evalI, evalC, keep, keepV, slotVal, lift1, lift2, liftA, consA, callF, notV, andT, orT, ifV, tstB, DD.ifS, DD.forS, compV, seqI, rngI, E.src, sem2, semC, semB, Ty.nm, Cst.d, boolRes, truth_bool, truth_none, truth_int, truth_list, truth_tuple, isi_int, isi_bool, isi_tuple, isi_list, isi_str, addD, subD, mul_int, fdiv_int, mod_int, ltD, leD, gtD, geD, lenD, isNone, negD, tg_one, tg_many, tgs_nil, tgs_cons, flatRoot, okSize, List.getElem?_cons_zero, List.getElem?_cons_succ, List.set_cons_zero, List.set_cons_succ, List.length_cons, List.length_nil, Option.map_some, Option.map_none, Nat.zero_add, if_true, if_false, Bool.not_true, Bool.not_false, reduceCtorEq, or_true, true_or, or_false, false_or, Nat.reduceAdd, Nat.reduceLeDiff, decide_true, decide_false, Bool.false_eq_true, e1, e2]
def IsWalkOk (G : Gb) (c : Nat) : Prop := ∀ (b : Bld) (v : D), b.ok → G.phi c [b.d, v] = some (.ok (.bool (!isNone (traceD b v))))
def roomsR (x : Nat) (d : D) : Option Res := match d with
  | .none => some (.exc x none)
  | d => some (.ok d)
theorem traceD_cases (b : Bld) (v : D) : traceD b v = .none ∨ ∃ ns : List Int, traceD b v = .list (ns.map .int) := by
  unfold traceD
  split
  · split
    · split
      · unfold ansT
        split
        · exact .inr ⟨_, rfl⟩
        · exact .inl rfl
      · exact .inl rfl
    · exact .inl rfl
  · exact .inl rfl
theorem checked_sem (G : Gb) (c x : Nat) (h : TraceOk G c) (b : Bld) (hb : b.ok) (v : D) : runF G 0 false (b_checked_rooms c x) 3 [b.d, v] = roomsR x (traceD b v) := by
  have e := h b v hb
  rcases traceD_cases b v with q | ⟨ns, q⟩
  · rw [q] at e ⊢
    refine run_exc [some (.bor, b.d), some (.bor, v), none] rfl ?_
    simp -implicitDefEqProofs only [b_checked_rooms, execSs, execS, seqS, thenS, retS, retV, datK, ownK, tgK, appK, evalE, evalK, evalA, evalAnd, evalOr, evalO, evalF, evalI, evalC, keep, keepV, slotVal, lift1, lift2, liftA, consA, callF, notV, andT, orT, ifV, tstB, DD.ifS, DD.forS, compV, seqI, rngI, E.src, sem2, semC, semB, Ty.nm, Cst.d, boolRes, truth_bool, truth_none, truth_int, truth_list, truth_tuple, isi_int, isi_bool, isi_tuple, isi_list, isi_str, addD, subD, mul_int, fdiv_int, mod_int, ltD, leD, gtD, geD, lenD, isNone, negD, tg_one, tg_many, tgs_nil, tgs_cons, flatRoot, okSize, List.getElem?_cons_zero, List.getElem?_cons_succ, List.set_cons_zero, List.set_cons_succ, List.length_cons, List.length_nil, Option.map_some, Option.map_none, Nat.zero_add, if_true, if_false, Bool.not_true, Bool.not_false, reduceCtorEq, or_true, true_or, or_false, false_or, Nat.reduceAdd, Nat.reduceLeDiff, decide_true, decide_false, Bool.false_eq_true, e]
  · rw [q] at e ⊢
    refine run_ret [some (.bor, b.d), some (.bor, v), none] rfl ?_
    simp -implicitDefEqProofs only [b_checked_rooms, execSs, execS, seqS, thenS, retS, retV, datK, ownK, tgK, appK, evalE, evalK, evalA, evalAnd, evalOr, evalO, evalF, evalI, evalC, keep, keepV, slotVal, lift1, lift2, liftA, consA, callF, notV, andT, orT, ifV, tstB, DD.ifS, DD.forS, compV, seqI, rngI, E.src, sem2, semC, semB, Ty.nm, Cst.d, boolRes, truth_bool, truth_none, truth_int, truth_list, truth_tuple, isi_int, isi_bool, isi_tuple, isi_list, isi_str, addD, subD, mul_int, fdiv_int, mod_int, ltD, leD, gtD, geD, lenD, isNone, negD, tg_one, tg_many, tgs_nil, tgs_cons, flatRoot, okSize, List.getElem?_cons_zero, List.getElem?_cons_succ, List.set_cons_zero, List.set_cons_succ, List.length_cons, List.length_nil, Option.map_some, Option.map_none, Nat.zero_add, if_true, if_false, Bool.not_true, Bool.not_false, reduceCtorEq, or_true, true_or, or_false, false_or, Nat.reduceAdd, Nat.reduceLeDiff, decide_true, decide_false, Bool.false_eq_true, e]
def CheckedOk (G : Gb) (c x : Nat) : Prop := ∀ (b : Bld) (v : D), b.ok → G.phi c [b.d, v] = roomsR x (traceD b v)
theorem roomsof_sem (G : Gb) (c1 c2 x : Nat) (h1 : ChkOk G c1) (h2 : CheckedOk G c2 x) (b : Bld) (hb : b.ok) (v : D) : runF G 0 false (b_rooms_of c1 c2) 2 [b.d, v] = roomsR x (traceD b v) := by
  have e1 := h1 b hb
  have e2 := h2 b v hb
  rcases traceD_cases b v with q | ⟨ns, q⟩
  · rw [q] at e2 ⊢
    refine run_exc [some (.bor, b.d), some (.bor, v)] rfl ?_
    simp -implicitDefEqProofs only [b_rooms_of, execSs, execS, seqS, thenS, retS, retV, datK, ownK, tgK, appK, evalE, evalK, evalA, evalAnd, evalOr, evalO, evalF, evalI, evalC, keep, keepV, slotVal, lift1, lift2, liftA, consA, callF, notV, andT, orT, ifV, tstB, DD.ifS, DD.forS, compV, seqI, rngI, E.src, sem2, semC, semB, Ty.nm, Cst.d, boolRes, truth_bool, truth_none, truth_int, truth_list, truth_tuple, isi_int, isi_bool, isi_tuple, isi_list, isi_str, addD, subD, mul_int, fdiv_int, mod_int, ltD, leD, gtD, geD, lenD, isNone, negD, tg_one, tg_many, tgs_nil, tgs_cons, flatRoot, okSize, List.getElem?_cons_zero, List.getElem?_cons_succ, List.set_cons_zero, List.set_cons_succ, List.length_cons, List.length_nil, Option.map_some, Option.map_none, Nat.zero_add, if_true, if_false, Bool.not_true, Bool.not_false, reduceCtorEq, or_true, true_or, or_false, false_or, Nat.reduceAdd, Nat.reduceLeDiff, decide_true, decide_false, Bool.false_eq_true, e1, e2, roomsR]
  · rw [q] at e2 ⊢
    refine run_ret [some (.bor, b.d), some (.bor, v)] rfl ?_
    simp -implicitDefEqProofs only [b_rooms_of, execSs, execS, seqS, thenS, retS, retV, datK, ownK, tgK, appK, evalE, evalK, evalA, evalAnd, evalOr, evalO, evalF, evalI, evalC, keep, keepV, slotVal, lift1, lift2, liftA, consA, callF, notV, andT, orT, ifV, tstB, DD.ifS, DD.forS, compV, seqI, rngI, E.src, sem2, semC, semB, Ty.nm, Cst.d, boolRes, truth_bool, truth_none, truth_int, truth_list, truth_tuple, isi_int, isi_bool, isi_tuple, isi_list, isi_str, addD, subD, mul_int, fdiv_int, mod_int, ltD, leD, gtD, geD, lenD, isNone, negD, tg_one, tg_many, tgs_nil, tgs_cons, flatRoot, okSize, List.getElem?_cons_zero, List.getElem?_cons_succ, List.set_cons_zero, List.set_cons_succ, List.length_cons, List.length_nil, Option.map_some, Option.map_none, Nat.zero_add, if_true, if_false, Bool.not_true, Bool.not_false, reduceCtorEq, or_true, true_or, or_false, false_or, Nat.reduceAdd, Nat.reduceLeDiff, decide_true, decide_false, Bool.false_eq_true, e1, e2, roomsR]
/-! ### tally -/
abbrev Wlk := Int × List Int
def wD (w : Wlk) : D := .tuple [.int w.1, .tuple (w.2.map .int)]
def bump (cs : List Int) : D → List Int
  | .int k => cs.set k.toNat (cs.getD k.toNat 0 + 1)
  | _ => cs
def tallyW (cs : List Int) (w : Wlk) : List Int := (w.2.map PyData.int).foldl bump cs
def tallyN (n : Nat) (ws : List Wlk) : List Int := ws.foldl tallyW (List.replicate n 0)
theorem bump_len (cs : List Int) (d : D) : (bump cs d).length = cs.length := by
  unfold bump
  split <;> simp
theorem fold_bump_len : ∀ (ds : List D) (cs : List Int), (ds.foldl bump cs).length = cs.length
  | [], _ => rfl
  | d :: ds, cs => by rw [List.foldl_cons, fold_bump_len ds, bump_len]
theorem ixN_nat {n : Nat} {k : Int} (h0 : 0 ≤ k) (h1 : k < n) : ixN n k = some k.toNat := by
  unfold ixN
  rw [if_pos h0, if_pos h1]
theorem at_ints {cs : List Int} {k : Int} (h0 : 0 ≤ k) (h1 : k < cs.length) : atI (cs.map PyData.int) k = some (.int (cs.getD k.toNat 0)) := atI_nat h0 (by
  rw [List.getElem?_map, List.getD_eq_getElem?_getD, List.getElem?_eq_getElem (by omega)]
  rfl)
theorem zeros {n : Nat} (h : n ≤ 1000) : mulD (.list [.int 0]) (.int n) = some (.list ((List.replicate n (0 : Int)).map .int)) := by
  have h1 : repOk (n : Int) 1 = true := by
    rw [repOk_eq]
    exact decide_eq_true ⟨by omega, by omega, by omega⟩
  show (if repOk (n : Int) [PyData.int 0].length = true then some (PyData.list (List.replicate (n : Int).toNat [PyData.int 0]).flatten) else none) = _
  rw [show [PyData.int 0].length = 1 from rfl, if_pos h1]
  simp
/-- the counting loop over one walk: result slot at any place -/
theorem set_ints (cs : List Int) (j : Nat) (z : Int) : (cs.map PyData.int).set j (.int z) = (cs.set j z).map PyData.int := by
  rw [List.map_set]
def Wlk.inB (n : Nat) (w : Wlk) : Prop := ∀ k ∈ w.2, 0 ≤ k ∧ k < n
abbrev St3 := List Int × Option (Fl × D) × Option (Fl × D) × Option (Fl × D)
def stepW (s : St3) : D → St3
  | .tuple [x, .tuple ns] => (ns.foldl bump s.1, some (.dat, x), some (.dat, .tuple ns), (ns.foldl (fun (q : List Int × Option (Fl × D)) d => (bump q.1 d, some (.dat, d))) (s.1, s.2.2.2)).2)
  | _ => s
theorem fold_pair {β : Type} (f : List Int → D → List Int) (g : D → β) : ∀ (ds : List D) (cs : List Int) (o : β), (ds.foldl (fun (q : List Int × β) d => (f q.1 d, g d)) (cs, o)).1 = ds.foldl f cs
  | [], _, _ => rfl
  | d :: ds, cs, o => by rw [List.foldl_cons, List.foldl_cons, fold_pair f g ds]
theorem stepW_fold : ∀ (ws : List Wlk) (s : St3), ((ws.map wD).foldl stepW s).1 = ws.foldl tallyW s.1
  | [], _ => rfl
  | w :: ws, s => by
    rw [List.map_cons, List.foldl_cons, List.foldl_cons, stepW_fold ws]
    rfl
theorem tally_sem (G : Gb) (b : Bld) (hb : b.ok) (ws : List Wlk) (hw : ∀ w ∈ ws, Wlk.inB b.ds.length w) : runF G 0 true b_tally 6 [b.d, .list (ws.map wD)] = some (.ok (.tuple ((tallyN b.ds.length ws).map .int))) := by
  refine run_ret [some (.bor, b.d), some (.bor, .list (ws.map wD)), none, none, none, none] rfl ?_
  have z := zeros (n := b.ds.length) (by have := hb.n8; omega)
  have key := stepW_fold ws (List.replicate b.ds.length 0, none, none, none)
  simp -implicitDefEqProofs only [b_tally, execSs, execS, seqS, thenS, retS, retV, datK, ownK, tgK, appK, evalE, evalK, evalA, evalAnd, evalOr, evalO, evalF, evalI, evalC, keep, keepV, slotVal, lift1, lift2, liftA, consA, callF, notV, andT, orT, ifV, tstB, DD.ifS, DD.forS, compV, seqI, rngI, E.src, sem2, semC, semB, Ty.nm, Cst.d, boolRes, truth_bool, truth_none, truth_int, truth_list, truth_tuple, isi_int, isi_bool, isi_tuple, isi_list, isi_str, addD, subD, mul_int, fdiv_int, mod_int, ltD, leD, gtD, geD, lenD, isNone, negD, tg_one, tg_many, tgs_nil, tgs_cons, flatRoot, okSize, List.getElem?_cons_zero, List.getElem?_cons_succ, List.set_cons_zero, List.set_cons_succ, List.length_cons, List.length_nil, Option.map_some, Option.map_none, Nat.zero_add, if_true, if_false, Bool.not_true, Bool.not_false, reduceCtorEq, or_true, true_or, or_false, false_or, Nat.reduceAdd, Nat.reduceLeDiff, decide_true, decide_false, Bool.false_eq_true, Bld.d, ixD, at_c1, List.length_map, z]
  rw [forL_foldR (fun s : St3 => [some (Fl.bor, b.d), some (Fl.bor, PyData.list (ws.map wD)), some (Fl.own, PyData.list (s.1.map PyData.int)), s.2.1, s.2.2.1, s.2.2.2])
    stepW (fun k s => s.1.length = b.ds.length) (List.replicate b.ds.length 0, none, none, none)]
  · simp -implicitDefEqProofs only [execSs, execS, seqS, thenS, retS, retV, datK, ownK, tgK, appK, evalE, evalK, evalA, evalAnd, evalOr, evalO, evalF, evalI, evalC, keep, keepV, slotVal, lift1, lift2, liftA, consA, callF, notV, andT, orT, ifV, tstB, DD.ifS, DD.forS, compV, seqI, rngI, E.src, sem2, semC, semB, Ty.nm, Cst.d, boolRes, truth_bool, truth_none, truth_int, truth_list, truth_tuple, isi_int, isi_bool, isi_tuple, isi_list, isi_str, addD, subD, mul_int, fdiv_int, mod_int, ltD, leD, gtD, geD, lenD, isNone, negD, tg_one, tg_many, tgs_nil, tgs_cons, flatRoot, okSize, List.getElem?_cons_zero, List.getElem?_cons_succ, List.set_cons_zero, List.set_cons_succ, List.length_cons, List.length_nil, Option.map_some, Option.map_none, Nat.zero_add, if_true, if_false, Bool.not_true, Bool.not_false, reduceCtorEq, or_true, true_or, or_false, false_or, Nat.reduceAdd, Nat.reduceLeDiff, decide_true, decide_false, Bool.false_eq_true, tupleD, key, tallyN]
  · rfl
  · simp
  · intro k d s hk hs
    have hm := List.mem_of_getElem? hk
    obtain ⟨w, hw1, rfl⟩ := List.mem_map.mp hm
    refine ⟨_, rfl, ?_, by show (List.foldl bump s.1 _).length = _; rw [fold_bump_len, hs]⟩
    have fp := fold_pair bump (fun d => some (Fl.dat, d)) (w.2.map PyData.int) s.1 s.2.2.2
    simp -implicitDefEqProofs only [execSs, execS, seqS, thenS, retS, retV, datK, ownK, tgK, appK, evalE, evalK, evalA, evalAnd, evalOr, evalO, evalF, evalI, evalC, keep, keepV, slotVal, lift1, lift2, liftA, consA, callF, notV, andT, orT, ifV, tstB, DD.ifS, DD.forS, compV, seqI, rngI, E.src, sem2, semC, semB, Ty.nm, Cst.d, boolRes, truth_bool, truth_none, truth_int, truth_list, truth_tuple, isi_int, isi_bool, isi_tuple, isi_list, isi_str, addD, subD, mul_int, fdiv_int, mod_int, ltD, leD, gtD, geD, lenD, isNone, negD, tg_one, tg_many, tgs_nil, tgs_cons, flatRoot, okSize, List.getElem?_cons_zero, List.getElem?_cons_succ, List.set_cons_zero, List.set_cons_succ, List.length_cons, List.length_nil, Option.map_some, Option.map_none, Nat.zero_add, if_true, if_false, Bool.not_true, Bool.not_false, reduceCtorEq, or_true, true_or, or_false, false_or, Nat.reduceAdd, Nat.reduceLeDiff, decide_true, decide_false, Bool.false_eq_true, wD, stepW]
    rw [forL_foldR (fun q : List Int × Option (Fl × D) => [some (Fl.bor, b.d), some (Fl.bor, PyData.list (ws.map wD)), some (Fl.own, PyData.list (q.1.map PyData.int)), some (Fl.dat, .int w.1), some (Fl.dat, .tuple (w.2.map .int)), q.2])
      (fun q d => (bump q.1 d, some (.dat, d))) (fun k q => q.1.length = b.ds.length) (s.1, s.2.2.2)]
    · simp -implicitDefEqProofs only [fp]
    · rfl
    · exact hs
    · intro k2 d2 q hk2 hq
      have hm2 := List.mem_of_getElem? hk2
      obtain ⟨n, hn, rfl⟩ := List.mem_map.mp hm2
      obtain ⟨n0, n1⟩ := hw w hw1 n hn
      refine ⟨_, rfl, ?_, by rw [bump_len]; exact hq⟩
      have a1 := at_ints (cs := q.1) n0 (by omega)
      have a2 := ixN_nat (n := q.1.length) n0 (by omega)
      simp -implicitDefEqProofs only [execSs, execS, seqS, thenS, retS, retV, datK, ownK, tgK, appK, evalE, evalK, evalA, evalAnd, evalOr, evalO, evalF, evalI, evalC, keep, keepV, slotVal, lift1, lift2, liftA, consA, callF, notV, andT, orT, ifV, tstB, DD.ifS, DD.forS, compV, seqI, rngI, E.src, sem2, semC, semB, Ty.nm, Cst.d, boolRes, truth_bool, truth_none, truth_int, truth_list, truth_tuple, isi_int, isi_bool, isi_tuple, isi_list, isi_str, addD, subD, mul_int, fdiv_int, mod_int, ltD, leD, gtD, geD, lenD, isNone, negD, tg_one, tg_many, tgs_nil, tgs_cons, flatRoot, okSize, List.getElem?_cons_zero, List.getElem?_cons_succ, List.set_cons_zero, List.set_cons_succ, List.length_cons, List.length_nil, Option.map_some, Option.map_none, Nat.zero_add, if_true, if_false, Bool.not_true, Bool.not_false, reduceCtorEq, or_true, true_or, or_false, false_or, Nat.reduceAdd, Nat.reduceLeDiff, decide_true, decide_false, Bool.false_eq_true, augPS, augI, a1, a2, List.length_map, set_ints, bump]
end
end DD

namespace DD
noncomputable section
open PySem PySem.Spec PyProof.Rows L2
def TallyOk (G : Gb) (c : Nat) : Prop := ∀ (b : Bld) (ws : List Wlk), b.ok → (∀ w ∈ ws, Wlk.inB b.ds.length w) → G.phi c [b.d, .list (ws.map wD)] = some (.ok (.tuple ((tallyN b.ds.length ws).map .int)))
def over9 (cs : List Int) : Bool := !(cs.filter fun i => decide (i > 9)).isEmpty
def isWk (b : Bld) (w : Wlk) : Prop := ∃ ns : List Int, traceD b (wD w) = .list (ns.map .int)
def p9 : D → Bool
  | .int i => decide (i > 9)
  | _ => false
theorem p9_filter : ∀ cs : List Int, ((cs.map PyData.int).filter p9).isEmpty = (cs.filter fun i => decide (i > 9)).isEmpty
  | [] => rfl
  | c :: cs => by
    have ih := p9_filter cs
    rw [List.map_cons, List.filter_cons, List.filter_cons]
    have e : p9 (.int c) = decide (c > 9) := rfl
    rw [e]
    cases decide (c > 9) with
    | true => rfl
    | false => exact ih
section
variable (G : Gb) (c1 x c2 c3 g xc : Nat) (h1 : ChkOk G c1) (h2 : CheckedOk G c2 x) (h3 : TallyOk G c3) (hg : CInt G g 9) (b : Bld) (hb : b.ok)
include h1 hb in
theorem counts_tuple (v : D) (hv : isLst v = false) : runF G 0 false (b_counts_of c1 x c2 c3 g xc) 5 [b.d, v] = some (.exc x none) := by
  refine run_exc [some (.bor, b.d), some (.bor, v), none, none, none] rfl ?_
  have e1 := h1 b hb
  simp -implicitDefEqProofs only [b_counts_of, execSs, execS, seqS, thenS, retS, retV, datK, ownK, tgK, appK, evalE, evalK, evalA, evalAnd, evalOr, evalO, evalF, evalI, evalC, keep, keepV, slotVal, lift1, lift2, liftA, consA, callF, notV, andT, orT, ifV, tstB, DD.ifS, DD.forS, compV, seqI, rngI, E.src, sem2, semC, semB, Ty.nm, Cst.d, boolRes, truth_bool, truth_none, truth_int, truth_list, truth_tuple, isi_int, isi_bool, isi_tuple, isi_list, isi_str, addD, subD, mul_int, fdiv_int, mod_int, ltD, leD, gtD, geD, lenD, isNone, negD, tg_one, tg_many, tgs_nil, tgs_cons, flatRoot, okSize, List.getElem?_cons_zero, List.getElem?_cons_succ, List.set_cons_zero, List.set_cons_succ, List.length_cons, List.length_nil, Option.map_some, Option.map_none, Nat.zero_add, if_true, if_false, Bool.not_true, Bool.not_false, reduceCtorEq, or_true, true_or, or_false, false_or, Nat.reduceAdd, Nat.reduceLeDiff, decide_true, decide_false, Bool.false_eq_true, e1, hv]
include h1 h2 hb in
theorem counts_bad (v : D) (r : List D) (hv : traceD b v = .none) : runF G 0 false (b_counts_of c1 x c2 c3 g xc) 5 [b.d, .list (v :: r)] = some (.exc x none) := by
  refine run_exc [some (.bor, b.d), some (.bor, .list (v :: r)), none, none, none] rfl ?_
  have e1 := h1 b hb
  have e2 := h2 b v hb
  rw [hv] at e2
  simp -implicitDefEqProofs only [b_counts_of, execSs, execS, seqS, thenS, retS, retV, datK, ownK, tgK, appK, evalE, evalK, evalA, evalAnd, evalOr, evalO, evalF, evalI, evalC, keep, keepV, slotVal, lift1, lift2, liftA, consA, callF, notV, andT, orT, ifV, tstB, DD.ifS, DD.forS, compV, seqI, rngI, E.src, sem2, semC, semB, Ty.nm, Cst.d, boolRes, truth_bool, truth_none, truth_int, truth_list, truth_tuple, isi_int, isi_bool, isi_tuple, isi_list, isi_str, addD, subD, mul_int, fdiv_int, mod_int, ltD, leD, gtD, geD, lenD, isNone, negD, tg_one, tg_many, tgs_nil, tgs_cons, flatRoot, okSize, List.getElem?_cons_zero, List.getElem?_cons_succ, List.set_cons_zero, List.set_cons_succ, List.length_cons, List.length_nil, Option.map_some, Option.map_none, Nat.zero_add, if_true, if_false, Bool.not_true, Bool.not_false, reduceCtorEq, or_true, true_or, or_false, false_or, Nat.reduceAdd, Nat.reduceLeDiff, decide_true, decide_false, Bool.false_eq_true, e1, isLst, forL, e2, roomsR]
include h1 h2 h3 hg hb in
theorem counts_good (ws : List Wlk) (hw : ∀ w ∈ ws, Wlk.inB b.ds.length w) (hk : ∀ w ∈ ws, isWk b w) : runF G 0 false (b_counts_of c1 x c2 c3 g xc) 5 [b.d, .list (ws.map wD)] =
    if over9 (tallyN b.ds.length ws) = true then some (.exc xc none) else some (.ok (.tuple ((tallyN b.ds.length ws).map .int))) := by
  have e1 := h1 b hb
  have e3 := h3 b ws hb hw
  obtain ⟨z, hg⟩ := hg
  have run : execSs G 0 false (b_counts_of c1 x c2 c3 g xc) [some (.bor, b.d), some (.bor, .list (ws.map wD)), none, none, none] = if over9 (tallyN b.ds.length ws) = true then some (.exc xc none) else some (.ret (.tuple ((tallyN b.ds.length ws).map .int))) := by
    simp -implicitDefEqProofs only [b_counts_of, execSs, execS, seqS, thenS, retS, retV, datK, ownK, tgK, appK, evalE, evalK, evalA, evalAnd, evalOr, evalO, evalF, evalI, evalC, keep, keepV, slotVal, lift1, lift2, liftA, consA, callF, notV, andT, orT, ifV, tstB, DD.ifS, DD.forS, compV, seqI, rngI, E.src, sem2, semC, semB, Ty.nm, Cst.d, boolRes, truth_bool, truth_none, truth_int, truth_list, truth_tuple, isi_int, isi_bool, isi_tuple, isi_list, isi_str, addD, subD, mul_int, fdiv_int, mod_int, ltD, leD, gtD, geD, lenD, isNone, negD, tg_one, tg_many, tgs_nil, tgs_cons, flatRoot, okSize, List.getElem?_cons_zero, List.getElem?_cons_succ, List.set_cons_zero, List.set_cons_succ, List.length_cons, List.length_nil, Option.map_some, Option.map_none, Nat.zero_add, if_true, if_false, Bool.not_true, Bool.not_false, reduceCtorEq, or_true, true_or, or_false, false_or, Nat.reduceAdd, Nat.reduceLeDiff, decide_true, decide_false, Bool.false_eq_true, e1, isLst]
    rw [forL_foldR (fun s : Option (Fl × D) => [some (Fl.bor, b.d), some (Fl.bor, PyData.list (ws.map wD)), s, none, none]) (fun s d => some (.dat, d)) (fun _ _ => True) none]
    · simp -implicitDefEqProofs only [execSs, execS, seqS, thenS, retS, retV, datK, ownK, tgK, appK, evalE, evalK, evalA, evalAnd, evalOr, evalO, evalF, evalI, evalC, keep, keepV, slotVal, lift1, lift2, liftA, consA, callF, notV, andT, orT, ifV, tstB, DD.ifS, DD.forS, compV, seqI, rngI, E.src, sem2, semC, semB, Ty.nm, Cst.d, boolRes, truth_bool, truth_none, truth_int, truth_list, truth_tuple, isi_int, isi_bool, isi_tuple, isi_list, isi_str, addD, subD, mul_int, fdiv_int, mod_int, ltD, leD, gtD, geD, lenD, isNone, negD, tg_one, tg_many, tgs_nil, tgs_cons, flatRoot, okSize, List.getElem?_cons_zero, List.getElem?_cons_succ, List.set_cons_zero, List.set_cons_succ, List.length_cons, List.length_nil, Option.map_some, Option.map_none, Nat.zero_add, if_true, if_false, Bool.not_true, Bool.not_false, reduceCtorEq, or_true, true_or, or_false, false_or, Nat.reduceAdd, Nat.reduceLeDiff, decide_true, decide_false, Bool.false_eq_true, e3, wipeR, List.map_cons, List.map_nil]
      rw [compL_eq p9 id]
      · have hp := p9_filter (tallyN b.ds.length ws)
        unfold over9
        cases ho : (List.filter (fun i => decide (i > 9)) (tallyN b.ds.length ws)).isEmpty with
        | true =>
          rw [ho] at hp
          simp -implicitDefEqProofs only [execSs, execS, seqS, thenS, retS, retV, datK, ownK, tgK, appK, evalE, evalK, evalA, evalAnd, evalOr, evalO, evalF, evalI, evalC, keep, keepV, slotVal, lift1, lift2, liftA, consA, callF, notV, andT, orT, ifV, tstB, DD.ifS, DD.forS, compV, seqI, rngI, E.src, sem2, semC, semB, Ty.nm, Cst.d, boolRes, truth_bool, truth_none, truth_int, truth_list, truth_tuple, isi_int, isi_bool, isi_tuple, isi_list, isi_str, addD, subD, mul_int, fdiv_int, mod_int, ltD, leD, gtD, geD, lenD, isNone, negD, tg_one, tg_many, tgs_nil, tgs_cons, flatRoot, okSize, List.getElem?_cons_zero, List.getElem?_cons_succ, List.set_cons_zero, List.set_cons_succ, List.length_cons, List.length_nil, Option.map_some, Option.map_none, Nat.zero_add, if_true, if_false, Bool.not_true, Bool.not_false, reduceCtorEq, or_true, true_or, or_false, false_or, Nat.reduceAdd, Nat.reduceLeDiff, decide_true, decide_false, Bool.false_eq_true, List.map_id, hp]
        | false =>
          rw [ho] at hp
          simp -implicitDefEqProofs only [execSs, execS, seqS, thenS, retS, retV, datK, ownK, tgK, appK, evalE, evalK, evalA, evalAnd, evalOr, evalO, evalF, evalI, evalC, keep, keepV, slotVal, lift1, lift2, liftA, consA, callF, notV, andT, orT, ifV, tstB, DD.ifS, DD.forS, compV, seqI, rngI, E.src, sem2, semC, semB, Ty.nm, Cst.d, boolRes, truth_bool, truth_none, truth_int, truth_list, truth_tuple, isi_int, isi_bool, isi_tuple, isi_list, isi_str, addD, subD, mul_int, fdiv_int, mod_int, ltD, leD, gtD, geD, lenD, isNone, negD, tg_one, tg_many, tgs_nil, tgs_cons, flatRoot, okSize, List.getElem?_cons_zero, List.getElem?_cons_succ, List.set_cons_zero, List.set_cons_succ, List.length_cons, List.length_nil, Option.map_some, Option.map_none, Nat.zero_add, if_true, if_false, Bool.not_true, Bool.not_false, reduceCtorEq, or_true, true_or, or_false, false_or, Nat.reduceAdd, Nat.reduceLeDiff, decide_true, decide_false, Bool.false_eq_true, List.map_id, hp]
      · intro d hm
        obtain ⟨i, _, rfl⟩ := List.mem_map.mp hm
        refine ⟨_, rfl, ?_, fun _ => ?_⟩
        · simp -implicitDefEqProofs only [execSs, execS, seqS, thenS, retS, retV, datK, ownK, tgK, appK, evalE, evalK, evalA, evalAnd, evalOr, evalO, evalF, evalI, evalC, keep, keepV, slotVal, lift1, lift2, liftA, consA, callF, notV, andT, orT, ifV, tstB, DD.ifS, DD.forS, compV, seqI, rngI, E.src, sem2, semC, semB, Ty.nm, Cst.d, boolRes, truth_bool, truth_none, truth_int, truth_list, truth_tuple, isi_int, isi_bool, isi_tuple, isi_list, isi_str, addD, subD, mul_int, fdiv_int, mod_int, ltD, leD, gtD, geD, lenD, isNone, negD, tg_one, tg_many, tgs_nil, tgs_cons, flatRoot, okSize, List.getElem?_cons_zero, List.getElem?_cons_succ, List.set_cons_zero, List.set_cons_succ, List.length_cons, List.length_nil, Option.map_some, Option.map_none, Nat.zero_add, if_true, if_false, Bool.not_true, Bool.not_false, reduceCtorEq, or_true, true_or, or_false, false_or, Nat.reduceAdd, Nat.reduceLeDiff, decide_true, decide_false, Bool.false_eq_true, hg, p9]
        · simp -implicitDefEqProofs only [execSs, execS, seqS, thenS, retS, retV, datK, ownK, tgK, appK, evalE, evalK, evalA, evalAnd, evalOr, evalO, evalF, evalI, evalC, keep, keepV, slotVal, lift1, lift2, liftA, consA, callF, notV, andT, orT, ifV, tstB, DD.ifS, DD.forS, compV, seqI, rngI, E.src, sem2, semC, semB, Ty.nm, Cst.d, boolRes, truth_bool, truth_none, truth_int, truth_list, truth_tuple, isi_int, isi_bool, isi_tuple, isi_list, isi_str, addD, subD, mul_int, fdiv_int, mod_int, ltD, leD, gtD, geD, lenD, isNone, negD, tg_one, tg_many, tgs_nil, tgs_cons, flatRoot, okSize, List.getElem?_cons_zero, List.getElem?_cons_succ, List.set_cons_zero, List.set_cons_succ, List.length_cons, List.length_nil, Option.map_some, Option.map_none, Nat.zero_add, if_true, if_false, Bool.not_true, Bool.not_false, reduceCtorEq, or_true, true_or, or_false, false_or, Nat.reduceAdd, Nat.reduceLeDiff, decide_true, decide_false, Bool.false_eq_true, id]
    · rfl
    · trivial
    · intro k d s hk2 _
      have hm := List.mem_of_getElem? hk2
      obtain ⟨w, hw1, rfl⟩ := List.mem_map.mp hm
      refine ⟨_, rfl, ?_, trivial⟩
      obtain ⟨ns, hn⟩ := hk w hw1
      have e2 := h2 b (wD w) hb
      rw [hn] at e2
      simp -implicitDefEqProofs only [execSs, execS, seqS, thenS, retS, retV, datK, ownK, tgK, appK, evalE, evalK, evalA, evalAnd, evalOr, evalO, evalF, evalI, evalC, keep, keepV, slotVal, lift1, lift2, liftA, consA, callF, notV, andT, orT, ifV, tstB, DD.ifS, DD.forS, compV, seqI, rngI, E.src, sem2, semC, semB, Ty.nm, Cst.d, boolRes, truth_bool, truth_none, truth_int, truth_list, truth_tuple, isi_int, isi_bool, isi_tuple, isi_list, isi_str, addD, subD, mul_int, fdiv_int, mod_int, ltD, leD, gtD, geD, lenD, isNone, negD, tg_one, tg_many, tgs_nil, tgs_cons, flatRoot, okSize, List.getElem?_cons_zero, List.getElem?_cons_succ, List.set_cons_zero, List.set_cons_succ, List.length_cons, List.length_nil, Option.map_some, Option.map_none, Nat.zero_add, if_true, if_false, Bool.not_true, Bool.not_false, reduceCtorEq, or_true, true_or, or_false, false_or, Nat.reduceAdd, Nat.reduceLeDiff, decide_true, decide_false, Bool.false_eq_true, e2, roomsR]
  split
  · rename_i ho
    rw [if_pos ho] at run
    exact run_exc _ rfl run
  · rename_i ho
    rw [if_neg ho] at run
    exact run_ret _ rfl run
end
/-! ### a drawn building -/
abbrev BSt := List Door × Option (Fl × D) × Option (Fl × D) × Option (Fl × D)
def drawn (dr : List Int) (k : Int) : Int := dr.getD k.toNat 0
def bOne (dr : List Int) (R t : Int) : Int := drawn dr (2 + 3 * t) % R
def bOth (dr : List Int) (R t : Int) : Int := (bOne dr R t + 1 + drawn dr (3 + 3 * t) % (R - 1)) % R
def bTwo (dr : List Int) (t : Int) : Bool := if drawn dr 40 % 3 = 0 then true else if drawn dr 40 % 3 = 1 then false else decide (drawn dr (4 + 3 * t) % 2 = 0)
def bDoor (dr : List Int) (R t : Int) : Door := if bTwo dr t = true then ⟨(if bOth dr R t < bOne dr R t then bOth dr R t else bOne dr R t), (if bOth dr R t > bOne dr R t then bOth dr R t else bOne dr R t), true⟩ else ⟨bOne dr R t, bOth dr R t, false⟩
def bStep (dr : List Int) (R : Int) (s : BSt) : D → BSt
  | .int t => (s.1 ++ [bDoor dr R t], some (.dat, .int t), some (.dat, .int (bOne dr R t)), some (.dat, .int (bOth dr R t)))
  | _ => s
def bldN (ns : List Int) (a mr md : Int) : Bld :=
  let dr := rowN ns a
  let R := 1 + drawn dr 0 % mr
  ⟨R, if R > 1 then ((rngL 0 (drawn dr 1 % (md + 1))).foldl (bStep dr R) ([], none, none, none)).1 else []⟩
theorem at_draw {dr : List Int} {k : Int} (hl : dr.length = 60) (h0 : 0 ≤ k) (h1 : k < 60) : atI (dr.map PyData.int) k = some (.int (drawn dr k)) := at_ints h0 (by omega)
theorem mod_pos {a b : Int} (h : 0 < b) : 0 ≤ a % b ∧ a % b < b := ⟨Int.emod_nonneg a (by omega), Int.emod_lt_of_pos a h⟩
theorem bDoor_ok (dr : List Int) (R t : Int) (h2 : 2 ≤ R) (h6 : R ≤ 6) : (bDoor dr R t).ok R := by
  have a1 := mod_pos (a := drawn dr (2 + 3 * t)) (b := R) (by omega)
  have a2 := mod_pos (a := drawn dr (3 + 3 * t)) (b := R - 1) (by omega)
  have a3 : 0 ≤ bOth dr R t ∧ bOth dr R t < R := mod_pos (by omega)
  have a4 : bOth dr R t ≠ bOne dr R t := by
    unfold bOth
    have b1 : 0 ≤ bOne dr R t ∧ bOne dr R t < R := a1
    generalize bOne dr R t = u at *
    generalize drawn dr (3 + 3 * t) % (R - 1) = v at *
    rcases (by omega : R = 2 ∨ R = 3 ∨ R = 4 ∨ R = 5 ∨ R = 6) with rfl | rfl | rfl | rfl | rfl <;> omega
  have a5 : 0 ≤ bOne dr R t ∧ bOne dr R t < R := a1
  unfold bDoor Door.ok
  generalize bOne dr R t = u at *
  generalize bOth dr R t = v at *
  cases bTwo dr t with
  | true =>
    by_cases h : v < u
    · have h' : ¬ v > u := by omega
      refine ⟨?_, ?_, ?_, ?_, ?_⟩ <;> simp [h, h'] <;> omega
    · have h' : v > u := by omega
      refine ⟨?_, ?_, ?_, ?_, ?_⟩ <;> simp [h, h'] <;> omega
  | false =>
    refine ⟨?_, ?_, ?_, ?_, ?_⟩ <;> simp <;> omega
def RowsOk (G : Gb) (c : Nat) : Prop := RowOk G c
theorem bld_draws (ns : List Int) (a : Int) : (rowN ns a).length = 60 := (row_inv ns a).1
theorem draw_nonneg (ns : List Int) (a k : Int) : 0 ≤ drawn (rowN ns a) k := by
  unfold drawn
  rw [List.getD_eq_getElem?_getD]
  by_cases h : k.toNat < (rowN ns a).length
  · rw [List.getElem?_eq_getElem h]
    exact ((row_inv ns a).2 _ (List.getElem_mem h)).1
  · rw [List.getElem?_eq_none (by omega)]
    exact Int.le_refl 0
theorem bStep_inv (dr : List Int) (R n : Int) (h2 : 2 ≤ R) (h6 : R ≤ 6) : (((rngL 0 n).foldl (bStep dr R) ([], none, none, none)).1).length = n.toNat ∧ ∀ x ∈ ((rngL 0 n).foldl (bStep dr R) ([], none, none, none)).1, x.ok R := by
  have := fold_inv (step := bStep dr R) (I := fun k s => s.1.length = k ∧ ∀ x ∈ s.1, x.ok R) (rngL 0 n) 0 ([], none, none, none) ⟨rfl, fun x hx => nomatch hx⟩ (fun k d s hk hs => by
    obtain ⟨rfl, hk2⟩ := rngL_get hk
    refine ⟨by show (s.1 ++ [_]).length = _; rw [List.length_append, hs.1]; rfl, fun x hx => ?_⟩
    rcases List.mem_append.mp (show x ∈ s.1 ++ [_] from hx) with hx | hx
    · exact hs.2 x hx
    · rw [List.mem_singleton.mp hx]
      exact bDoor_ok dr R _ h2 h6)
  rw [rngL_len] at this
  simpa using this
theorem bldN_ok (ns : List Int) (a mr md : Int) (h1 : 1 ≤ mr) (h2 : mr ≤ 6) (h3 : 0 ≤ md) (h4 : md ≤ 8) : (bldN ns a mr md).ok ∧ (bldN ns a mr md).R ≤ mr ∧ ((bldN ns a mr md).ds.length : Int) ≤ md := by
  have m1 := mod_pos (a := drawn (rowN ns a) 0) (b := mr) (by omega)
  have m2 := mod_pos (a := drawn (rowN ns a) 1) (b := md + 1) (by omega)
  unfold bldN
  dsimp only
  by_cases hR : 1 + drawn (rowN ns a) 0 % mr > 1
  · simp -implicitDefEqProofs only [hR, if_true]
    obtain ⟨i1, i2⟩ := bStep_inv (rowN ns a) (1 + drawn (rowN ns a) 0 % mr) (drawn (rowN ns a) 1 % (md + 1)) (by omega) (by omega)
    exact ⟨⟨by dsimp only; omega, by dsimp only; omega, by dsimp only; omega, i2⟩, by omega, by omega⟩
  · simp -implicitDefEqProofs only [hR, if_false]
    exact ⟨⟨by dsimp only; omega, by dsimp only; omega, by simp, fun x hx => nomatch hx⟩, by omega, by simpa using h3⟩
def BldOk (G : Gb) (c : Nat) : Prop := ∀ (ns : List Int) (a mr md : Int), 0 ≤ a → 1 ≤ mr → mr ≤ 6 → 0 ≤ md → md ≤ 8 → G.phi c [.list (ns.map .int), .int a, .int mr, .int md] = some (.ok (bldN ns a mr md).d)
theorem bld_sem (G : Gb) (c : Nat) (hc : RowOk G c) (ns : List Int) (a mr md : Int) (ha : 0 ≤ a) (h1 : 1 ≤ mr) (h2 : mr ≤ 6) (h3 : 0 ≤ md) (h4 : md ≤ 8) : runF G 0 true (b_law_building c) 10 [.list (ns.map .int), .int a, .int mr, .int md] = some (.ok (bldN ns a mr md).d) := by
  refine run_ret [some (.bor, .list (ns.map .int)), some (.bor, .int a), some (.bor, .int mr), some (.bor, .int md), none, none, none, none, none, none] rfl ?_
  have e1 := hc ns a ha
  have dl := bld_draws ns a
  have d0 := at_draw (k := 0) dl (by omega) (by omega)
  have d1 := at_draw (k := 1) dl (by omega) (by omega)
  have d40 := at_draw (k := 40) dl (by omega) (by omega)
  have m1 := mod_pos (a := drawn (rowN ns a) 0) (b := mr) (by omega)
  have m2 := mod_pos (a := drawn (rowN ns a) 1) (b := md + 1) (by omega)
  have q1 : 0 < mr := by omega
  have q2 : 0 < md + 1 := by omega
  have rg : rngOk 0 (drawn (rowN ns a) 1 % (md + 1)) = true := rng_ok (by omega) (by omega) (by omega) (by omega) (by omega)
  by_cases hR : 1 + drawn (rowN ns a) 0 % mr > 1
  · have eb : bldN ns a mr md = ⟨1 + drawn (rowN ns a) 0 % mr, ((rngL 0 (drawn (rowN ns a) 1 % (md + 1))).foldl (bStep (rowN ns a) (1 + drawn (rowN ns a) 0 % mr)) ([], none, none, none)).1⟩ := by
      unfold bldN
      dsimp only
      rw [if_pos hR]
    simp -implicitDefEqProofs only [b_law_building, execSs, execS, seqS, thenS, retS, retV, datK, ownK, tgK, appK, evalE, evalK, evalA, evalAnd, evalOr, evalO, evalF, evalI, evalC, keep, keepV, slotVal, lift1, lift2, liftA, consA, callF, notV, andT, orT, ifV, tstB, DD.ifS, DD.forS, compV, seqI, rngI, E.src, sem2, semC, semB, Ty.nm, Cst.d, boolRes, truth_bool, truth_none, truth_int, truth_list, truth_tuple, isi_int, isi_bool, isi_tuple, isi_list, isi_str, addD, subD, mul_int, fdiv_int, mod_int, ltD, leD, gtD, geD, lenD, isNone, negD, tg_one, tg_many, tgs_nil, tgs_cons, flatRoot, okSize, List.getElem?_cons_zero, List.getElem?_cons_succ, List.set_cons_zero, List.set_cons_succ, List.length_cons, List.length_nil, Option.map_some, Option.map_none, Nat.zero_add, if_true, if_false, Bool.not_true, Bool.not_false, reduceCtorEq, or_true, true_or, or_false, false_or, Nat.reduceAdd, Nat.reduceLeDiff, decide_true, decide_false, Bool.false_eq_true, e1, ixD, d0, d1, q1, q2, hR, rg]
    rw [forL_foldR (fun s : BSt => [some (Fl.bor, PyData.list (ns.map PyData.int)), some (Fl.bor, PyData.int a), some (Fl.bor, PyData.int mr), some (Fl.bor, PyData.int md), some (Fl.dat, PyData.list ((rowN ns a).map PyData.int)), some (Fl.dat, PyData.int (1 + drawn (rowN ns a) 0 % mr)), some (Fl.own, PyData.list (s.1.map Door.d)), s.2.1, s.2.2.1, s.2.2.2])
      (bStep (rowN ns a) (1 + drawn (rowN ns a) 0 % mr)) (fun k s => s.1.length = k) ([], none, none, none)]
    · rw [eb]
      simp -implicitDefEqProofs only [execSs, execS, seqS, thenS, retS, retV, datK, ownK, tgK, appK, evalE, evalK, evalA, evalAnd, evalOr, evalO, evalF, evalI, evalC, keep, keepV, slotVal, lift1, lift2, liftA, consA, callF, notV, andT, orT, ifV, tstB, DD.ifS, DD.forS, compV, seqI, rngI, E.src, sem2, semC, semB, Ty.nm, Cst.d, boolRes, truth_bool, truth_none, truth_int, truth_list, truth_tuple, isi_int, isi_bool, isi_tuple, isi_list, isi_str, addD, subD, mul_int, fdiv_int, mod_int, ltD, leD, gtD, geD, lenD, isNone, negD, tg_one, tg_many, tgs_nil, tgs_cons, flatRoot, okSize, List.getElem?_cons_zero, List.getElem?_cons_succ, List.set_cons_zero, List.set_cons_succ, List.length_cons, List.length_nil, Option.map_some, Option.map_none, Nat.zero_add, if_true, if_false, Bool.not_true, Bool.not_false, reduceCtorEq, or_true, true_or, or_false, false_or, Nat.reduceAdd, Nat.reduceLeDiff, decide_true, decide_false, Bool.false_eq_true, tupleD, Bld.d]
    · rfl
    · rfl
    · intro k d s hk hs
      obtain ⟨rfl, hk2⟩ := rngL_get hk
      refine ⟨_, rfl, ?_⟩
      have hsl : k < 16777216 := by omega
      have p1 : mulOk 3 (0 + (k : Int)) = true := mul_ok1 (by omega) (by omega)
      have a2 := at_draw (k := 2 + 3 * (0 + (k : Int))) dl (by omega) (by omega)
      have a3 := at_draw (k := 3 + 3 * (0 + (k : Int))) dl (by omega) (by omega)
      have a4 := at_draw (k := 4 + 3 * (0 + (k : Int))) dl (by omega) (by omega)
      have r0 : 0 < 1 + drawn (rowN ns a) 0 % mr := by omega
      have r1 : 0 < 1 + drawn (rowN ns a) 0 % mr - 1 := by omega
      have t2 : (0 : Int) < 2 := by omega
      have t3 : (0 : Int) < 3 := by omega
      have tw : atI [PyData.bool true, PyData.bool false, PyData.bool (decide (drawn (rowN ns a) (4 + 3 * (0 + (k : Int))) % 2 = 0))] (drawn (rowN ns a) 40 % 3) = some (.bool (bTwo (rowN ns a) (0 + (k : Int)))) := by
        unfold bTwo
        have m3 := mod_pos (a := drawn (rowN ns a) 40) (b := 3) (by omega)
        rcases (by omega : drawn (rowN ns a) 40 % 3 = 0 ∨ drawn (rowN ns a) 40 % 3 = 1 ∨ drawn (rowN ns a) 40 % 3 = 2) with e | e | e
        · rw [e, at_c0, if_pos rfl]
        · rw [e, at_c1, if_neg (by omega), if_pos rfl]
        · rw [e, at_c2, if_neg (by omega), if_neg (by omega)]
      have k1 : (PyData.str "two-way") = .str (kindS true) := rfl
      have k2 : (PyData.str "one-way") = .str (kindS false) := rfl
      refine ⟨?_, by show (s.1 ++ [_]).length = _; rw [List.length_append, hs]; rfl⟩
      cases ht : bTwo (rowN ns a) (0 + (k : Int)) with
      | true =>
        rw [ht] at tw
        have hd : Door.d (bDoor (rowN ns a) (1 + drawn (rowN ns a) 0 % mr) (0 + (k : Int))) = .tuple [.int (if bOth (rowN ns a) (1 + drawn (rowN ns a) 0 % mr) (0 + (k : Int)) < bOne (rowN ns a) (1 + drawn (rowN ns a) 0 % mr) (0 + (k : Int)) then bOth (rowN ns a) (1 + drawn (rowN ns a) 0 % mr) (0 + (k : Int)) else bOne (rowN ns a) (1 + drawn (rowN ns a) 0 % mr) (0 + (k : Int))), .int (if bOth (rowN ns a) (1 + drawn (rowN ns a) 0 % mr) (0 + (k : Int)) > bOne (rowN ns a) (1 + drawn (rowN ns a) 0 % mr) (0 + (k : Int)) then bOth (rowN ns a) (1 + drawn (rowN ns a) 0 % mr) (0 + (k : Int)) else bOne (rowN ns a) (1 + drawn (rowN ns a) 0 % mr) (0 + (k : Int))), .str (kindS true)] := by
          unfold bDoor
          rw [if_pos ht]
          rfl
        simp -implicitDefEqProofs only [execSs, execS, seqS, thenS, retS, retV, datK, ownK, tgK, appK, evalE, evalK, evalA, evalAnd, evalOr, evalO, evalF, evalI, evalC, keep, keepV, slotVal, lift1, lift2, liftA, consA, callF, notV, andT, orT, ifV, tstB, DD.ifS, DD.forS, compV, seqI, rngI, E.src, sem2, semC, semB, Ty.nm, Cst.d, boolRes, truth_bool, truth_none, truth_int, truth_list, truth_tuple, isi_int, isi_bool, isi_tuple, isi_list, isi_str, addD, subD, mul_int, fdiv_int, mod_int, ltD, leD, gtD, geD, lenD, isNone, negD, tg_one, tg_many, tgs_nil, tgs_cons, flatRoot, okSize, List.getElem?_cons_zero, List.getElem?_cons_succ, List.set_cons_zero, List.set_cons_succ, List.length_cons, List.length_nil, Option.map_some, Option.map_none, Nat.zero_add, if_true, if_false, Bool.not_true, Bool.not_false, reduceCtorEq, or_true, true_or, or_false, false_or, Nat.reduceAdd, Nat.reduceLeDiff, decide_true, decide_false, Bool.false_eq_true, ixD, d40, a2, a3, a4, p1, r0, r1, t2, t3, eq_int, tw, minD, maxD, k1, k2, bStep, List.map_append, List.map_cons, List.map_nil, hd, List.length_map, hs, hsl, bOne, bOth]
        rfl
      | false =>
        rw [ht] at tw
        have hd : Door.d (bDoor (rowN ns a) (1 + drawn (rowN ns a) 0 % mr) (0 + (k : Int))) = .tuple [.int (bOne (rowN ns a) (1 + drawn (rowN ns a) 0 % mr) (0 + (k : Int))), .int (bOth (rowN ns a) (1 + drawn (rowN ns a) 0 % mr) (0 + (k : Int))), .str (kindS false)] := by
          unfold bDoor
          rw [if_neg (by rw [ht]; simp)]
          rfl
        simp -implicitDefEqProofs only [execSs, execS, seqS, thenS, retS, retV, datK, ownK, tgK, appK, evalE, evalK, evalA, evalAnd, evalOr, evalO, evalF, evalI, evalC, keep, keepV, slotVal, lift1, lift2, liftA, consA, callF, notV, andT, orT, ifV, tstB, DD.ifS, DD.forS, compV, seqI, rngI, E.src, sem2, semC, semB, Ty.nm, Cst.d, boolRes, truth_bool, truth_none, truth_int, truth_list, truth_tuple, isi_int, isi_bool, isi_tuple, isi_list, isi_str, addD, subD, mul_int, fdiv_int, mod_int, ltD, leD, gtD, geD, lenD, isNone, negD, tg_one, tg_many, tgs_nil, tgs_cons, flatRoot, okSize, List.getElem?_cons_zero, List.getElem?_cons_succ, List.set_cons_zero, List.set_cons_succ, List.length_cons, List.length_nil, Option.map_some, Option.map_none, Nat.zero_add, if_true, if_false, Bool.not_true, Bool.not_false, reduceCtorEq, or_true, true_or, or_false, false_or, Nat.reduceAdd, Nat.reduceLeDiff, decide_true, decide_false, Bool.false_eq_true, ixD, d40, a2, a3, a4, p1, r0, r1, t2, t3, eq_int, tw, minD, maxD, k1, k2, bStep, List.map_append, List.map_cons, List.map_nil, hd, List.length_map, hs, hsl, bOne, bOth]
  · have eb : bldN ns a mr md = ⟨1 + drawn (rowN ns a) 0 % mr, []⟩ := by
      unfold bldN
      dsimp only
      rw [if_neg hR]
    rw [eb]
    simp -implicitDefEqProofs only [b_law_building, execSs, execS, seqS, thenS, retS, retV, datK, ownK, tgK, appK, evalE, evalK, evalA, evalAnd, evalOr, evalO, evalF, evalI, evalC, keep, keepV, slotVal, lift1, lift2, liftA, consA, callF, notV, andT, orT, ifV, tstB, DD.ifS, DD.forS, compV, seqI, rngI, E.src, sem2, semC, semB, Ty.nm, Cst.d, boolRes, truth_bool, truth_none, truth_int, truth_list, truth_tuple, isi_int, isi_bool, isi_tuple, isi_list, isi_str, addD, subD, mul_int, fdiv_int, mod_int, ltD, leD, gtD, geD, lenD, isNone, negD, tg_one, tg_many, tgs_nil, tgs_cons, flatRoot, okSize, List.getElem?_cons_zero, List.getElem?_cons_succ, List.set_cons_zero, List.set_cons_succ, List.length_cons, List.length_nil, Option.map_some, Option.map_none, Nat.zero_add, if_true, if_false, Bool.not_true, Bool.not_false, reduceCtorEq, or_true, true_or, or_false, false_or, Nat.reduceAdd, Nat.reduceLeDiff, decide_true, decide_false, Bool.false_eq_true, e1, ixD, d0, d1, q1, q2, hR, rg, tupleD, Bld.d, List.map_nil]
end
end DD

namespace DD
noncomputable section
open PySem PySem.Spec PyProof.Rows L2
/-! ### equality of data -/
structure Nice (k : Nat) (d : D) : Prop where
  lay : d.canLay0 = true
  dic : noDict d = true
  dep : d.depth ≤ k
theorem Nice.up {k j : Nat} {d : D} (h : Nice k d) (hj : k ≤ j) : Nice j d := ⟨h.lay, h.dic, Nat.le_trans h.dep hj⟩
theorem nice_int (i : Int) : Nice 0 (.int i) := ⟨by unfold PyData.canLay0; rfl, by unfold noDict; rfl, by unfold PyData.depth; exact Nat.le_refl _⟩
theorem nice_bool (b : Bool) : Nice 0 (.bool b) := ⟨by unfold PyData.canLay0; rfl, by unfold noDict; rfl, by unfold PyData.depth; exact Nat.le_refl _⟩
theorem nice_none : Nice 0 .none := ⟨by unfold PyData.canLay0; rfl, by unfold noDict; rfl, by unfold PyData.depth; exact Nat.le_refl _⟩
theorem nice_all {k : Nat} : ∀ {xs : List D}, (∀ x ∈ xs, Nice k x) → PyData.canLayAll0 xs = true ∧ noDicts xs = true ∧ PyData.depthAll xs ≤ k
  | [], _ => ⟨by unfold PyData.canLayAll0; rfl, by unfold noDicts; rfl, by unfold PyData.depthAll; exact Nat.zero_le _⟩
  | x :: xs, h => by
    have hx := h x List.mem_cons_self
    obtain ⟨a, b, c⟩ := nice_all (xs := xs) (fun y hy => h y (List.mem_cons_of_mem _ hy))
    refine ⟨?_, ?_, ?_⟩
    · unfold PyData.canLayAll0
      rw [hx.lay, a]
      rfl
    · unfold noDicts
      rw [hx.dic, b]
      rfl
    · unfold PyData.depthAll
      exact Nat.max_le.mpr ⟨hx.dep, c⟩
theorem nice_list {k : Nat} {xs : List D} (h : ∀ x ∈ xs, Nice k x) : Nice (k + 1) (.list xs) := by
  obtain ⟨a, b, c⟩ := nice_all h
  exact ⟨by unfold PyData.canLay0; exact a, by unfold noDict; exact b, by unfold PyData.depth; omega⟩
theorem nice_tuple {k : Nat} {xs : List D} (h : ∀ x ∈ xs, Nice k x) : Nice (k + 1) (.tuple xs) := by
  obtain ⟨a, b, c⟩ := nice_all h
  exact ⟨by unfold PyData.canLay0; exact a, by unfold noDict; exact b, by unfold PyData.depth; omega⟩
theorem nice_ints (ns : List Int) : Nice 1 (.list (ns.map .int)) := nice_list fun x hx => by
  obtain ⟨i, _, rfl⟩ := List.mem_map.mp hx
  exact nice_int i
theorem nice_intsT (ns : List Int) : Nice 1 (.tuple (ns.map .int)) := nice_tuple fun x hx => by
  obtain ⟨i, _, rfl⟩ := List.mem_map.mp hx
  exact nice_int i
theorem Nice.shaped {k : Nat} {d : D} (h : Nice k d) (hk : k ≤ 64) : SeqAt.shaped d = true := by
  unfold SeqAt.shaped
  rw [h.lay, decide_eq_true (show d.depth ≤ 64 by have := h.dep; omega)]
  rfl
theorem eq_nice {k j : Nat} {d e : D} (h : Nice k d) (g : Nice j e) (hk : k ≤ 64) (hj : j ≤ 64) : eqD d e = some (.bool (PyData.eqv d e)) := by
  unfold eqD
  rw [if_pos ⟨h.shaped hk, g.shaped hj, h.dic, g.dic⟩]
theorem ne_nice {k j : Nat} {d e : D} (h : Nice k d) (g : Nice j e) (hk : k ≤ 64) (hj : j ≤ 64) : neD d e = some (.bool (!PyData.eqv d e)) := by
  unfold neD
  rw [if_pos ⟨h.shaped hk, g.shaped hj, h.dic, g.dic⟩]
theorem eqvAll_ints : ∀ xs ys : List Int, PyData.eqvAll (xs.map .int) (ys.map .int) = decide (xs = ys)
  | [], [] => by unfold PyData.eqvAll; simp
  | [], y :: ys => by simp [PyData.eqvAll]
  | x :: xs, [] => by simp [PyData.eqvAll]
  | x :: xs, y :: ys => by
    rw [List.map_cons, List.map_cons]
    unfold PyData.eqvAll
    rw [eqvAll_ints xs ys]
    unfold PyData.eqv
    by_cases h : x = y <;> by_cases h2 : xs = ys <;> simp [h, h2]
theorem eqv_ints (xs ys : List Int) : PyData.eqv (.list (xs.map .int)) (.list (ys.map .int)) = decide (xs = ys) := by
  unfold PyData.eqv
  exact eqvAll_ints xs ys
theorem eqv_intsT (xs ys : List Int) : PyData.eqv (.tuple (xs.map .int)) (.tuple (ys.map .int)) = decide (xs = ys) := by
  unfold PyData.eqv
  exact eqvAll_ints xs ys
theorem ne_ints (xs ys : List Int) : neD (.list (xs.map .int)) (.list (ys.map .int)) = some (.bool (!decide (xs = ys))) := by
  rw [ne_nice (nice_ints xs) (nice_ints ys) (by omega) (by omega), eqv_ints]
theorem eq_intsT (xs ys : List Int) : eqD (.tuple (xs.map .int)) (.tuple (ys.map .int)) = some (.bool (decide (xs = ys))) := by
  rw [eq_nice (nice_intsT xs) (nice_intsT ys) (by omega) (by omega), eqv_intsT]
theorem ne_nil (xs : List Int) : neD (.list (xs.map .int)) (.list []) = some (.bool (!xs.isEmpty)) := by
  have := ne_ints xs []
  rw [List.map_nil] at this
  rw [this]
  cases xs <;> simp
/-! ### a drawn walk -/
def hereN (b : Bld) (r : Int) : List Int := ((List.range b.ds.length).filter fun k => (b.step r (k : Nat)).isSome).map fun (k : Nat) => (k : Int)
def pS (b : Bld) (r : Int) : D → Bool
  | .int i => (b.step r i).isSome
  | _ => false
theorem here_eq (b : Bld) (r : Int) : ((rngL 0 (b.ds.length : Int)).filter (pS b r)).map id = (hereN b r).map .int := by
  unfold rngL hereN
  rw [List.map_id, List.filter_map, List.map_map, show ((b.ds.length : Int) - 0).toNat = b.ds.length by omega]
  have e1 : (pS b r ∘ fun (i : Nat) => PyData.int (0 + (i : Int))) = fun k : Nat => (b.step r (k : Int)).isSome := by
    funext k
    show (b.step r (0 + (k : Int))).isSome = _
    rw [Int.zero_add]
  have e2 : (fun (i : Nat) => PyData.int (0 + (i : Int))) = (PyData.int ∘ fun (k : Nat) => (k : Int)) := by
    funext k
    show PyData.int (0 + (k : Int)) = _
    rw [Int.zero_add]
    rfl
  rw [e1, e2]
theorem here_mem {b : Bld} {r i : Int} (h : i ∈ hereN b r) : 0 ≤ i ∧ i < b.ds.length ∧ ∃ x r', b.ds[i.toNat]? = some x ∧ x.side r = some r' ∧ b.step r i = some r' := by
  unfold hereN at h
  obtain ⟨k, hk, rfl⟩ := List.mem_map.mp h
  obtain ⟨h1, h2⟩ := List.mem_filter.mp hk
  have hl := List.mem_range.mp h1
  obtain ⟨r', hr⟩ := Option.isSome_iff_exists.mp h2
  refine ⟨by omega, by omega, ?_⟩
  have hx := List.getElem?_eq_getElem hl
  refine ⟨b.ds[k], r', by rw [Int.toNat_natCast]; exact hx, ?_, hr⟩
  unfold Bld.step at hr
  rw [if_pos (by omega), Int.toNat_natCast, hx] at hr
  exact hr
abbrev WSt := Int × List Int × Option (Fl × D) × Option (Fl × D) × Option (Fl × D)
def wNum (dr : List Int) (b : Bld) (r t : Int) : Int := (hereN b r).getD (drawn dr (2 + t) % (hereN b r).length).toNat 0
def wStep (dr : List Int) (b : Bld) (s : WSt) : D → WSt
  | .int t => if (hereN b s.1).isEmpty = true then (s.1, s.2.1, some (.dat, .int t), some (.dat, .list ((hereN b s.1).map .int)), s.2.2.2.2)
    else ((b.step s.1 (wNum dr b s.1 t)).getD 0, s.2.1 ++ [wNum dr b s.1 t], some (.dat, .int t), some (.dat, .list ((hereN b s.1).map .int)), some (.dat, .int (wNum dr b s.1 t)))
  | _ => s
def wlkS (ns : List Int) (a : Int) (b : Bld) : Int := drawn (rowN ns a) 0 % b.R
def wlkF (ns : List Int) (a : Int) (b : Bld) (most : Int) : WSt := (rngL 0 (drawn (rowN ns a) 1 % (most + 1))).foldl (wStep (rowN ns a) b) (wlkS ns a b, [], none, none, none)
def wlkN (ns : List Int) (a : Int) (b : Bld) (most : Int) : Wlk := (wlkS ns a b, (wlkF ns a b most).2.1)
def wlkE (ns : List Int) (a : Int) (b : Bld) (most : Int) : Int := (wlkF ns a b most).1
def Bld.path (b : Bld) : Int → List Int → Option Int
  | r, [] => some r
  | r, n :: ns => (match b.step r n with
    | some r' => b.path r' ns
    | none => none)
theorem path_snoc {b : Bld} : ∀ {ns : List Int} {r e n e' : Int}, b.path r ns = some e → b.step e n = some e' → b.path r (ns ++ [n]) = some e'
  | [], r, e, n, e', h1, h2 => by
    cases h1
    show (match b.step r n with | some r' => b.path r' [] | none => none) = _
    rw [h2]
    rfl
  | m :: ns, r, e, n, e', h1, h2 => by
    show (match b.step r m with | some r' => b.path r' (ns ++ [n]) | none => none) = _
    have h1' : (match b.step r m with | some r' => b.path r' ns | none => none) = some e := h1
    cases e1 : b.step r m with
    | none => rw [e1] at h1'; cases h1'
    | some r' =>
      rw [e1] at h1'
      exact path_snoc (ns := ns) h1' h2
theorem wnum_mem {dr : List Int} {b : Bld} {r t : Int} (h : (hereN b r).isEmpty = false) : wNum dr b r t ∈ hereN b r ∧ 0 ≤ drawn dr (2 + t) % (hereN b r).length ∧ drawn dr (2 + t) % (hereN b r).length < (hereN b r).length := by
  have hl : 0 < (hereN b r).length := by
    cases e : hereN b r with
    | nil => rw [e] at h; cases h
    | cons _ _ => simp
  have m := mod_pos (a := drawn dr (2 + t)) (b := (hereN b r).length) (by omega)
  refine ⟨?_, m⟩
  unfold wNum
  rw [List.getD_eq_getElem?_getD, List.getElem?_eq_getElem (by omega)]
  exact List.getElem_mem _
theorem wlk_inv (ns : List Int) (a : Int) (b : Bld) (most : Int) (hm : 0 ≤ most) : b.path (wlkS ns a b) (wlkF ns a b most).2.1 = some (wlkF ns a b most).1 ∧ ((wlkF ns a b most).2.1.length : Int) ≤ most ∧ Wlk.inB b.ds.length (wlkN ns a b most) := by
  have m2 := mod_pos (a := drawn (rowN ns a) 1) (b := most + 1) (by omega)
  have := fold_inv (step := wStep (rowN ns a) b) (I := fun k s => b.path (wlkS ns a b) s.2.1 = some s.1 ∧ s.2.1.length ≤ k ∧ ∀ n ∈ s.2.1, 0 ≤ n ∧ n < b.ds.length) (rngL 0 (drawn (rowN ns a) 1 % (most + 1))) 0 (wlkS ns a b, [], none, none, none) ⟨rfl, Nat.le_refl _, fun n hn => nomatch hn⟩ (fun k d s hk hs => by
    obtain ⟨rfl, hk2⟩ := rngL_get hk
    unfold wStep
    dsimp only
    cases he : (hereN b s.1).isEmpty with
    | true => exact ⟨hs.1, by have := hs.2.1; simp; omega, hs.2.2⟩
    | false =>
      obtain ⟨w1, w2, w3⟩ := wnum_mem (dr := rowN ns a) (t := 0 + (k : Int)) he
      obtain ⟨g1, g2, x, r', g3, g4, g5⟩ := here_mem w1
      rw [g5]
      refine ⟨path_snoc hs.1 g5, ?_, fun n hn => ?_⟩
      · have := hs.2.1
        simp
        omega
      · rcases List.mem_append.mp (show n ∈ s.2.1 ++ [_] from hn) with hn | hn
        · exact hs.2.2 n hn
        · rw [List.mem_singleton.mp hn]
          exact ⟨g1, g2⟩)
  rw [rngL_len] at this
  refine ⟨this.1, ?_, this.2.2⟩
  have := this.2.1
  show ((wlkF ns a b most).2.1.length : Int) ≤ most
  unfold wlkF
  omega
def WalkedOk (G : Gb) (c : Nat) : Prop := ∀ (ns : List Int) (a : Int) (b : Bld) (most : Int), 0 ≤ a → b.ok → 0 ≤ most → most ≤ 57 → G.phi c [.list (ns.map .int), .int a, b.d, .int most] = some (.ok (.tuple [.int (wlkS ns a b), .tuple ((wlkN ns a b most).2.map .int), .int (wlkE ns a b most)]))
theorem walked_sem (G : Gb) (c cs : Nat) (hc : RowOk G c) (hs : SideOk G cs) (ns : List Int) (a : Int) (b : Bld) (most : Int) (ha : 0 ≤ a) (hb : b.ok) (h1 : 0 ≤ most) (h2 : most ≤ 57) : runF G 0 true (b_law_walked c cs) 11 [.list (ns.map .int), .int a, b.d, .int most] = some (.ok (.tuple [.int (wlkS ns a b), .tuple ((wlkN ns a b most).2.map .int), .int (wlkE ns a b most)])) := by
  refine run_ret [some (.bor, .list (ns.map .int)), some (.bor, .int a), some (.bor, b.d), some (.bor, .int most), none, none, none, none, none, none, none] rfl ?_
  have e1 := hc ns a ha
  have dl := bld_draws ns a
  have d0 := at_draw (k := 0) dl (by omega) (by omega)
  have d1 := at_draw (k := 1) dl (by omega) (by omega)
  have q1 : 0 < b.R := by have := hb.r1; omega
  have q2 : 0 < most + 1 := by omega
  have m2 := mod_pos (a := drawn (rowN ns a) 1) (b := most + 1) (by omega)
  have rg : rngOk 0 (drawn (rowN ns a) 1 % (most + 1)) = true := rng_ok (by omega) (by omega) (by omega) (by omega) (by omega)
  simp -implicitDefEqProofs only [b_law_walked, execSs, execS, seqS, thenS, retS, retV, datK, ownK, tgK, appK, evalE, evalK, evalA, evalAnd, evalOr, evalO, evalF, evalI, evalC, keep, keepV, slotVal, lift1, lift2, liftA, consA, callF, notV, andT, orT, ifV, tstB, DD.ifS, DD.forS, compV, seqI, rngI, E.src, sem2, semC, semB, Ty.nm, Cst.d, boolRes, truth_bool, truth_none, truth_int, truth_list, truth_tuple, isi_int, isi_bool, isi_tuple, isi_list, isi_str, addD, subD, mul_int, fdiv_int, mod_int, ltD, leD, gtD, geD, lenD, isNone, negD, tg_one, tg_many, tgs_nil, tgs_cons, flatRoot, okSize, List.getElem?_cons_zero, List.getElem?_cons_succ, List.set_cons_zero, List.set_cons_succ, List.length_cons, List.length_nil, Option.map_some, Option.map_none, Nat.zero_add, if_true, if_false, Bool.not_true, Bool.not_false, reduceCtorEq, or_true, true_or, or_false, false_or, Nat.reduceAdd, Nat.reduceLeDiff, decide_true, decide_false, Bool.false_eq_true, e1, Bld.d, ixD, d0, d1, at_c0, at_c1, q1, q2, rg]
  rw [forL_foldR (fun s : WSt => [some (Fl.bor, PyData.list (ns.map PyData.int)), some (Fl.bor, PyData.int a), some (Fl.bor, b.d), some (Fl.bor, PyData.int most), some (Fl.dat, PyData.list ((rowN ns a).map PyData.int)), some (Fl.dat, PyData.int (wlkS ns a b)), some (Fl.dat, PyData.int s.1), some (Fl.own, PyData.list (s.2.1.map PyData.int)), s.2.2.1, s.2.2.2.1, s.2.2.2.2])
    (wStep (rowN ns a) b) (fun k s => s.2.1.length ≤ k) (wlkS ns a b, [], none, none, none)]
  · simp -implicitDefEqProofs only [execSs, execS, seqS, thenS, retS, retV, datK, ownK, tgK, appK, evalE, evalK, evalA, evalAnd, evalOr, evalO, evalF, evalI, evalC, keep, keepV, slotVal, lift1, lift2, liftA, consA, callF, notV, andT, orT, ifV, tstB, DD.ifS, DD.forS, compV, seqI, rngI, E.src, sem2, semC, semB, Ty.nm, Cst.d, boolRes, truth_bool, truth_none, truth_int, truth_list, truth_tuple, isi_int, isi_bool, isi_tuple, isi_list, isi_str, addD, subD, mul_int, fdiv_int, mod_int, ltD, leD, gtD, geD, lenD, isNone, negD, tg_one, tg_many, tgs_nil, tgs_cons, flatRoot, okSize, List.getElem?_cons_zero, List.getElem?_cons_succ, List.set_cons_zero, List.set_cons_succ, List.length_cons, List.length_nil, Option.map_some, Option.map_none, Nat.zero_add, if_true, if_false, Bool.not_true, Bool.not_false, reduceCtorEq, or_true, true_or, or_false, false_or, Nat.reduceAdd, Nat.reduceLeDiff, decide_true, decide_false, Bool.false_eq_true, tupleD]
    rfl
  · rfl
  · exact Nat.le_refl _
  · intro k d s hk hsl
    obtain ⟨rfl, hk2⟩ := rngL_get hk
    have a2 := at_draw (k := 2 + (0 + (k : Int))) dl (by omega) (by omega)
    have rg2 : rngOk 0 (b.ds.length : Int) = true := by
      have := hb.n8
      exact rng_ok (by omega) (by omega) (by omega) (by omega) (by omega)
    refine ⟨_, rfl, ?_⟩
    have hsl2 : s.2.1.length < 16777216 := by omega
    have inv : (wStep (rowN ns a) b s (.int (0 + (k : Int)))).2.1.length ≤ k + 1 := by
      unfold wStep
      dsimp only
      split
      · dsimp only
        omega
      · simp
        omega
    refine ⟨?_, inv⟩
    simp -implicitDefEqProofs only [execSs, execS, seqS, thenS, retS, retV, datK, ownK, tgK, appK, evalE, evalK, evalA, evalAnd, evalOr, evalO, evalF, evalI, evalC, keep, keepV, slotVal, lift1, lift2, liftA, consA, callF, notV, andT, orT, ifV, tstB, DD.ifS, DD.forS, compV, seqI, rngI, E.src, sem2, semC, semB, Ty.nm, Cst.d, boolRes, truth_bool, truth_none, truth_int, truth_list, truth_tuple, isi_int, isi_bool, isi_tuple, isi_list, isi_str, addD, subD, mul_int, fdiv_int, mod_int, ltD, leD, gtD, geD, lenD, isNone, negD, tg_one, tg_many, tgs_nil, tgs_cons, flatRoot, okSize, List.getElem?_cons_zero, List.getElem?_cons_succ, List.set_cons_zero, List.set_cons_succ, List.length_cons, List.length_nil, Option.map_some, Option.map_none, Nat.zero_add, if_true, if_false, Bool.not_true, Bool.not_false, reduceCtorEq, or_true, true_or, or_false, false_or, Nat.reduceAdd, Nat.reduceLeDiff, decide_true, decide_false, Bool.false_eq_true, Bld.d, ixD, at_c1, List.length_map, rg2, wipeR, List.map_cons, List.map_nil]
    rw [compL_eq (pS b s.1) id, here_eq]
    · cases he : (hereN b s.1).isEmpty with
      | true =>
        have hw : wStep (rowN ns a) b s (.int (0 + (k : Int))) = (s.1, s.2.1, some (.dat, .int (0 + (k : Int))), some (.dat, .list ((hereN b s.1).map .int)), s.2.2.2.2) := by
          unfold wStep
          dsimp only
          rw [if_pos he]
        rw [hw]
        simp -implicitDefEqProofs only [execSs, execS, seqS, thenS, retS, retV, datK, ownK, tgK, appK, evalE, evalK, evalA, evalAnd, evalOr, evalO, evalF, evalI, evalC, keep, keepV, slotVal, lift1, lift2, liftA, consA, callF, notV, andT, orT, ifV, tstB, DD.ifS, DD.forS, compV, seqI, rngI, E.src, sem2, semC, semB, Ty.nm, Cst.d, boolRes, truth_bool, truth_none, truth_int, truth_list, truth_tuple, isi_int, isi_bool, isi_tuple, isi_list, isi_str, addD, subD, mul_int, fdiv_int, mod_int, ltD, leD, gtD, geD, lenD, isNone, negD, tg_one, tg_many, tgs_nil, tgs_cons, flatRoot, okSize, List.getElem?_cons_zero, List.getElem?_cons_succ, List.set_cons_zero, List.set_cons_succ, List.length_cons, List.length_nil, Option.map_some, Option.map_none, Nat.zero_add, if_true, if_false, Bool.not_true, Bool.not_false, reduceCtorEq, or_true, true_or, or_false, false_or, Nat.reduceAdd, Nat.reduceLeDiff, decide_true, decide_false, Bool.false_eq_true, ne_nil, he]
      | false =>
        have hw : wStep (rowN ns a) b s (.int (0 + (k : Int))) = ((b.step s.1 (wNum (rowN ns a) b s.1 (0 + (k : Int)))).getD 0, s.2.1 ++ [wNum (rowN ns a) b s.1 (0 + (k : Int))], some (.dat, .int (0 + (k : Int))), some (.dat, .list ((hereN b s.1).map .int)), some (.dat, .int (wNum (rowN ns a) b s.1 (0 + (k : Int))))) := by
          unfold wStep
          dsimp only
          rw [if_neg (by rw [he]; simp)]
        obtain ⟨w1, w2, w3⟩ := wnum_mem (dr := rowN ns a) (t := 0 + (k : Int)) he
        obtain ⟨g1, g2, x, r', g3, g4, g5⟩ := here_mem w1
        have a3 : atI ((hereN b s.1).map PyData.int) (drawn (rowN ns a) (2 + (0 + (k : Int))) % (hereN b s.1).length) = some (.int (wNum (rowN ns a) b s.1 (0 + (k : Int)))) := at_ints w2 w3
        have co := hs b _ x s.1 g3
        rw [Int.toNat_of_nonneg g1, g4] at co
        unfold Bld.d at co
        have ml : (0 : Int) < (hereN b s.1).length := by omega
        rw [hw, g5]
        simp -implicitDefEqProofs only [execSs, execS, seqS, thenS, retS, retV, datK, ownK, tgK, appK, evalE, evalK, evalA, evalAnd, evalOr, evalO, evalF, evalI, evalC, keep, keepV, slotVal, lift1, lift2, liftA, consA, callF, notV, andT, orT, ifV, tstB, DD.ifS, DD.forS, compV, seqI, rngI, E.src, sem2, semC, semB, Ty.nm, Cst.d, boolRes, truth_bool, truth_none, truth_int, truth_list, truth_tuple, isi_int, isi_bool, isi_tuple, isi_list, isi_str, addD, subD, mul_int, fdiv_int, mod_int, ltD, leD, gtD, geD, lenD, isNone, negD, tg_one, tg_many, tgs_nil, tgs_cons, flatRoot, okSize, List.getElem?_cons_zero, List.getElem?_cons_succ, List.set_cons_zero, List.set_cons_succ, List.length_cons, List.length_nil, Option.map_some, Option.map_none, Nat.zero_add, if_true, if_false, Bool.not_true, Bool.not_false, reduceCtorEq, or_true, true_or, or_false, false_or, Nat.reduceAdd, Nat.reduceLeDiff, decide_true, decide_false, Bool.false_eq_true, ne_nil, he, ixD, a2, a3, ml, List.length_map, hsl2, co, oI, at_c1, Option.getD_some, List.map_append, List.map_cons, List.map_nil]
    · intro d hm
      obtain ⟨kk, hkk, rfl⟩ := List.mem_map.mp (show d ∈ (List.range ((b.ds.length : Int) - 0).toNat).map _ from hm)
      have hl := List.mem_range.mp hkk
      have hl2 : kk < b.ds.length := by omega
      have hx := List.getElem?_eq_getElem hl2
      have co := hs b kk _ s.1 hx
      have ep : pS b s.1 (.int (0 + (kk : Int))) = !isNone (oI ((b.ds[kk]).side s.1)) := by
        show (b.step s.1 (0 + (kk : Int))).isSome = _
        unfold Bld.step
        rw [if_pos (by omega), show (0 + (kk : Int)).toNat = kk by omega, hx]
        show ((b.ds[kk]).side s.1).isSome = _
        cases (b.ds[kk]).side s.1 <;> rfl
      unfold Bld.d at co
      refine ⟨_, rfl, ?_, fun _ => ?_⟩
      · rw [ep]
        simp -implicitDefEqProofs only [execSs, execS, seqS, thenS, retS, retV, datK, ownK, tgK, appK, evalE, evalK, evalA, evalAnd, evalOr, evalO, evalF, evalI, evalC, keep, keepV, slotVal, lift1, lift2, liftA, consA, callF, notV, andT, orT, ifV, tstB, DD.ifS, DD.forS, compV, seqI, rngI, E.src, sem2, semC, semB, Ty.nm, Cst.d, boolRes, truth_bool, truth_none, truth_int, truth_list, truth_tuple, isi_int, isi_bool, isi_tuple, isi_list, isi_str, addD, subD, mul_int, fdiv_int, mod_int, ltD, leD, gtD, geD, lenD, isNone, negD, tg_one, tg_many, tgs_nil, tgs_cons, flatRoot, okSize, List.getElem?_cons_zero, List.getElem?_cons_succ, List.set_cons_zero, List.set_cons_succ, List.length_cons, List.length_nil, Option.map_some, Option.map_none, Nat.zero_add, if_true, if_false, Bool.not_true, Bool.not_false, reduceCtorEq, or_true, true_or, or_false, false_or, Nat.reduceAdd, Nat.reduceLeDiff, decide_true, decide_false, Bool.false_eq_true, Int.zero_add, co]
      · simp -implicitDefEqProofs only [execSs, execS, seqS, thenS, retS, retV, datK, ownK, tgK, appK, evalE, evalK, evalA, evalAnd, evalOr, evalO, evalF, evalI, evalC, keep, keepV, slotVal, lift1, lift2, liftA, consA, callF, notV, andT, orT, ifV, tstB, DD.ifS, DD.forS, compV, seqI, rngI, E.src, sem2, semC, semB, Ty.nm, Cst.d, boolRes, truth_bool, truth_none, truth_int, truth_list, truth_tuple, isi_int, isi_bool, isi_tuple, isi_list, isi_str, addD, subD, mul_int, fdiv_int, mod_int, ltD, leD, gtD, geD, lenD, isNone, negD, tg_one, tg_many, tgs_nil, tgs_cons, flatRoot, okSize, List.getElem?_cons_zero, List.getElem?_cons_succ, List.set_cons_zero, List.set_cons_succ, List.length_cons, List.length_nil, Option.map_some, Option.map_none, Nat.zero_add, if_true, if_false, Bool.not_true, Bool.not_false, reduceCtorEq, or_true, true_or, or_false, false_or, Nat.reduceAdd, Nat.reduceLeDiff, decide_true, decide_false, Bool.false_eq_true, id]
end
end DD

namespace DD
noncomputable section
open PySem PySem.Spec PyProof.Rows L2
theorem lastI_snoc (fs : List Int) (r : Int) : lastI (fs ++ [r]) = r := by
  unfold lastI
  simp
theorem runL_path {b : Bld} : ∀ (ns : List Int) (s : TSt) (e : Int), b.path (lastI s.1) ns = some e → ∃ s', runL (stepT b) (ns.map .int) s = .inl s'
  | [], s, e, _ => ⟨s, rfl⟩
  | n :: ns, s, e, h => by
    have h' : (match b.step (lastI s.1) n with | some r' => b.path r' ns | none => none) = some e := h
    rw [List.map_cons]
    unfold runL
    have es : stepT b s (.int n) = (match b.step (lastI s.1) n with
      | some r => .inl (s.1 ++ [r], some (.dat, .int n), some (.dat, .int r))
      | none => .inr (.ret .none)) := rfl
    rw [es]
    cases e1 : b.step (lastI s.1) n with
    | none => rw [e1] at h'; cases h'
    | some r =>
      rw [e1] at h'
      dsimp only at h' ⊢
      exact runL_path ns (s.1 ++ [r], some (.dat, .int n), some (.dat, .int r)) e (by rw [lastI_snoc]; exact h')
theorem runL_ints {b : Bld} : ∀ (ds : List D) (s s' : TSt), runL (stepT b) ds s = .inl s' → ∃ ns : List Int, ds = ns.map .int ∧ ∀ n ∈ ns, 0 ≤ n ∧ n < b.ds.length
  | [], s, s', _ => ⟨[], rfl, fun n hn => nomatch hn⟩
  | d :: ds, s, s', h => by
    unfold runL at h
    cases d with
    | int n =>
      have es : stepT b s (.int n) = (match b.step (lastI s.1) n with
        | some r => .inl (s.1 ++ [r], some (.dat, .int n), some (.dat, .int r))
        | none => .inr (.ret .none)) := rfl
      rw [es] at h
      cases e1 : b.step (lastI s.1) n with
      | none => rw [e1] at h; cases h
      | some r =>
        rw [e1] at h
        obtain ⟨ns, h1, h2⟩ := runL_ints ds _ s' h
        refine ⟨n :: ns, by rw [h1]; rfl, fun m hm => ?_⟩
        rcases List.mem_cons.mp hm with rfl | hm
        · unfold Bld.step at e1
          split at e1
          · rename_i h0
            refine ⟨h0, ?_⟩
            by_cases hl : m.toNat < b.ds.length
            · omega
            · rw [List.getElem?_eq_none (by omega)] at e1
              cases e1
          · cases e1
        · exact h2 m hm
    | _ => cases h
theorem isWk_path {b : Bld} {s e : Int} {ns : List Int} (h0 : 0 ≤ s) (h1 : s < b.R) (hl : ns.length ≤ 72) (h : b.path s ns = some e) : isWk b (s, ns) := by
  obtain ⟨s', hs⟩ := runL_path ns ([s], none, none) e h
  refine ⟨s'.1, ?_⟩
  unfold wD traceD
  dsimp only
  rw [if_pos ⟨by unfold inR; simp; omega, by rw [List.length_map]; exact hl⟩, hs]
  rfl
theorem walk_of {b : Bld} {v : D} {ns : List Int} (h : traceD b v = .list (ns.map .int)) : ∃ w : Wlk, v = wD w ∧ Wlk.inB b.ds.length w := by
  unfold traceD at h
  split at h
  · rename_i s ds
    split at h
    · rename_i hc
      split at h
      · rename_i i
        cases e : runL (stepT b) ds ([i], none, none) with
        | inr o => rw [e] at h; cases h
        | inl s' =>
          obtain ⟨ms, h1, h2⟩ := runL_ints ds _ s' e
          exact ⟨(i, ms), by rw [h1]; rfl, h2⟩
      · cases h
    · cases h
  · cases h
theorem wlk_isWk (ns : List Int) (a : Int) (b : Bld) (most : Int) (hb : b.ok) (hm : 0 ≤ most) (h72 : most ≤ 72) : isWk b (wlkN ns a b most) ∧ Wlk.inB b.ds.length (wlkN ns a b most) := by
  obtain ⟨h1, h2, h3⟩ := wlk_inv ns a b most hm
  have m := mod_pos (a := drawn (rowN ns a) 0) (b := b.R) (by have := hb.r1; omega)
  exact ⟨isWk_path m.1 m.2 (by omega) h1, h3⟩
/-! ### the defs of a law by their places -/
theorem gbOf_snoc (G : Gb) (ds : List DefX) (d : DefX) : gbOf G (ds ++ [d]) = addF (gbOf G ds) d := by
  unfold gbOf
  rw [List.foldl_append]
  rfl
theorem gb_len (G : Gb) (hG : G.fns = []) : ∀ ds : List DefX, (gbOf G ds).fns.length = ds.length := by
  intro ds
  have : ∀ (ds : List DefX) (G : Gb), (gbOf G ds).fns.length = G.fns.length + ds.length := by
    intro ds
    induction ds with
    | nil => intro G; rfl
    | cons d r ih =>
      intro G
      show (gbOf (addF G d) r).fns.length = _
      rw [ih]
      unfold addF
      simp
      omega
  rw [this, hG]
  simp
theorem gb_same (G : Gb) : ∀ ds : List DefX, (gbOf G ds).csts = G.csts ∧ (gbOf G ds).excs = G.excs ∧ (gbOf G ds).sub = G.sub := by
  intro ds
  induction ds generalizing G with
  | nil => exact ⟨rfl, rfl, rfl⟩
  | cons d r ih => exact ih (addF G d)
theorem gb_fns (G : Gb) (hG : G.fns = []) (i : Nat) (d : DefX) : ∀ (n : Nat) (ds : List DefX), ds.length = n → ds[i]? = some d → (gbOf G ds).fns[i]? = some (d.fn (gbOf G (ds.take i))) := by
  intro n
  induction n with
  | zero =>
    intro ds hl h
    rw [List.length_eq_zero_iff.mp hl] at h
    simp at h
  | succ n ih =>
    intro ds hl h
    have hne : ds ≠ [] := by intro e; rw [e] at hl; simp at hl
    obtain ⟨r, x, rfl⟩ : ∃ r x, ds = r ++ [x] := ⟨ds.dropLast, ds.getLast hne, (List.dropLast_concat_getLast hne).symm⟩
    have hr : r.length = n := by simpa using hl
    rw [gbOf_snoc]
    show ((gbOf G r).fns ++ [x.fn (gbOf G r)])[i]? = _
    by_cases hi : i < n
    · rw [List.getElem?_append_left (by rw [gb_len G hG, hr]; exact hi)]
      rw [List.getElem?_append_left (by omega)] at h
      rw [ih r hr h, List.take_append_of_le_length (by omega)]
    · have hi2 : i = n := by
        by_cases hi2 : i < n + 1
        · omega
        · rw [List.getElem?_eq_none (by simp; omega)] at h
          cases h
      subst hi2
      rw [List.getElem?_append_right (by rw [gb_len G hG, hr]; exact Nat.le_refl _), gb_len G hG, hr, Nat.sub_self]
      rw [List.getElem?_append_right (by omega), hr, Nat.sub_self] at h
      simp at h
      subst h
      rw [List.take_append_of_le_length (by omega), List.take_of_length_le (by omega)]
      rfl
theorem phi_at {G : Gb} {ds : List DefX} {i j : Nat} {d : DefX} (hG : G.fns = []) (h : i < j) (hd : ds[i]? = some d) : (gbOf G (ds.take j)).phi i = runF (gbOf G (ds.take i)) d.fuel d.nw d.body d.N.length := by
  unfold Gb.phi
  rw [gb_fns G hG i d _ (ds.take j) rfl (by rw [List.getElem?_take_of_lt h]; exact hd), List.take_take, Nat.min_eq_left (by omega)]
  rfl
/-- one statement goes on -/
theorem stepN {G : Gb} {f : Nat} {nw : Bool} {s : S} {r : Ss} {ρ : Rho} (ρ' : Rho) (h : execS G f nw s ρ = some (.next ρ')) : execSs G f nw (.cons s r) ρ = execSs G f nw r ρ' := by
  rw [execSs]
  unfold seqS
  rw [h]
theorem stepR {G : Gb} {f : Nat} {nw : Bool} {s : S} {r : Ss} {ρ : Rho} {d : D} (h : execS G f nw s ρ = some (.ret d)) : execSs G f nw (.cons s r) ρ = some (.ret d) := by
  rw [execSs]
  unfold seqS
  rw [h]
end
end DD

namespace DD.P02
noncomputable section
open PySem PySem.Spec PyProof.Rows L2 K02
abbrev gs (j : Nat) : Gb := gbOf md.gb (ds.take j)
theorem phiK {i j : Nat} {d : DefX} (h : i < j) (hd : ds[i]? = some d) : (gs j).phi i = runF (gs i) d.fuel d.nw d.body d.N.length := phi_at rfl h hd
theorem cint {j g : Nat} {v : Int} {z : Str} (h : md.csts[g]? = some (z, .int v)) : CInt (gs j) g v := ⟨z, by rw [(gb_same md.gb _).1]; exact h⟩
theorem cstr {j g : Nat} {v : Str} {z : Str} (h : md.csts[g]? = some (z, .str v)) : ∃ z, (gs j).csts[g]? = some (z, .str v) := ⟨z, by rw [(gb_same md.gb _).1]; exact h⟩
theorem k_cell {j : Nat} (h : 0 < j) : CellOk (gs j) 0 := fun ns k hk => by
  rw [phiK (d := d_law_cell) h rfl]
  exact cell_sem _ ns k hk
theorem k_row {j : Nat} (h : 1 < j) : RowOk (gs j) 1 := fun ns a ha => by
  rw [phiK (d := d_law_row) h rfl]
  exact row_sem _ 0 (k_cell (by omega)) ns a ha
theorem k_bld {j : Nat} (h : 2 < j) : BldOk (gs j) 2 := fun ns a mr md ha h1 h2 h3 h4 => by
  rw [phiK (d := d_law_building) h rfl]
  exact bld_sem _ 1 (k_row (by omega)) ns a mr md ha h1 h2 h3 h4
theorem k_side {j : Nat} (h : 3 < j) : SideOk (gs j) 3 := fun b k x r hx => by
  rw [phiK (d := d_law_side) h rfl]
  exact side_sem _ b k x r hx
theorem k_walked {j : Nat} (h : 4 < j) : WalkedOk (gs j) 4 := fun ns a b most ha hb h1 h2 => by
  rw [phiK (d := d_law_walked) h rfl]
  exact walked_sem _ 1 3 (k_row (by omega)) (k_side (by omega)) ns a b most ha hb h1 h2
theorem k_whole {j : Nat} (h : 5 < j) : WholeOk (gs j) 5 := fun v => by
  rw [phiK (d := d_law_whole) h rfl]
  exact whole_sem _ v
theorem k_in {j : Nat} (h : 6 < j) : InOk (gs j) 6 := fun v lo hi => by
  rw [phiK (d := d_law_in) h rfl]
  exact in_sem _ 5 (k_whole (by omega)) v lo hi
theorem k_rooms {j : Nat} (h : 7 < j) : TraceOk (gs j) 7 := fun b v hb => by
  rw [phiK (d := d_law_rooms) h rfl]
  exact rooms_sem _ 6 3 (k_in (by omega)) (k_side (by omega)) b hb v
theorem k_inr {j : Nat} (h : 8 < j) : InOk (gs j) 8 := fun v lo hi => by
  rw [phiK (d := d_in_range) h rfl]
  exact in_range_sem _ v lo hi
theorem k_isdoor {j : Nat} (h : 9 < j) : IsDoorOk (gs j) 9 := fun R x hx => by
  rw [phiK (d := d_is_door) h rfl]
  exact isdoor_sem _ 4 3 8 ⟨cstr rfl, cstr rfl⟩ (k_inr (by omega)) R x hx
theorem k_isbld {j : Nat} (h : 10 < j) : IsBldOk (gs j) 10 := fun b hb => by
  rw [phiK (d := d_is_building) h rfl]
  exact isbld_sem _ 8 0 1 9 (k_inr (by omega)) (cint rfl) (cint rfl) (k_isdoor (by omega)) b hb
theorem k_chk {j : Nat} (h : 11 < j) : ChkOk (gs j) 11 := fun b hb => by
  rw [phiK (d := d_check_building) h rfl]
  exact chkbld_sem _ 10 1 (k_isbld (by omega)) b hb
theorem k_oside {j : Nat} (h : 12 < j) : SideOk (gs j) 12 := fun b k x r hx => by
  rw [phiK (d := d_other_side) h rfl]
  exact oside_sem _ 4 (cstr rfl) b k x r hx
theorem k_trace {j : Nat} (h : 13 < j) : TraceOk (gs j) 13 := fun b v hb => by
  rw [phiK (d := d_trace) h rfl]
  exact trace_sem _ 8 5 12 (k_inr (by omega)) (cint rfl) (k_oside (by omega)) b hb v
theorem k_iswalk {j : Nat} (h : 14 < j) : IsWalkOk (gs j) 14 := fun b v hb => by
  rw [phiK (d := d_is_walk) h rfl]
  exact iswalk_sem _ 11 13 (k_chk (by omega)) (k_trace (by omega)) b hb v
theorem k_checked {j : Nat} (h : 15 < j) : CheckedOk (gs j) 15 3 := fun b v hb => by
  rw [phiK (d := d_checked_rooms) h rfl]
  exact checked_sem _ 13 3 (k_trace (by omega)) b hb v
theorem k_roomsof {j : Nat} (h : 16 < j) : CheckedOk (gs j) 16 3 := fun b v hb => by
  rw [phiK (d := d_rooms_of) h rfl]
  exact roomsof_sem _ 11 15 3 (k_chk (by omega)) (k_checked (by omega)) b hb v
theorem k_tally {j : Nat} (h : 17 < j) : TallyOk (gs j) 17 := fun b ws hb hw => by
  rw [phiK (d := d_tally) h rfl]
  exact tally_sem _ b hb ws hw
section
variable {j : Nat} (h : 18 < j) (b : Bld) (hb : b.ok)
include h hb
theorem k_counts_tuple (v : D) (hv : isLst v = false) : (gs j).phi 18 [b.d, v] = some (.exc 3 none) := by
  rw [phiK (d := d_counts_of) h rfl]
  exact counts_tuple _ 11 3 15 17 2 2 (k_chk (by omega)) b hb v hv
theorem k_counts_bad (v : D) (r : List D) (hv : traceD b v = .none) : (gs j).phi 18 [b.d, .list (v :: r)] = some (.exc 3 none) := by
  rw [phiK (d := d_counts_of) h rfl]
  exact counts_bad _ 11 3 15 17 2 2 (k_chk (by omega)) (k_checked (by omega)) b hb v r hv
theorem k_counts_good (ws : List Wlk) (hw : ∀ w ∈ ws, Wlk.inB b.ds.length w) (hk : ∀ w ∈ ws, isWk b w) : (gs j).phi 18 [b.d, .list (ws.map wD)] =
    if over9 (tallyN b.ds.length ws) = true then some (.exc 2 none) else some (.ok (.tuple ((tallyN b.ds.length ws).map .int))) := by
  rw [phiK (d := d_counts_of) h rfl]
  exact counts_good _ 11 3 15 17 2 2 (k_chk (by omega)) (k_checked (by omega)) (k_tally (by omega)) (cint rfl) b hb ws hw hk
end
/-! ### the errors -/
theorem sub19 : (gs 19).sub = md.sub := (gb_same md.gb _).2.2
theorem we0 (b : Bld) (hb : b.ok) (v : D) (hv : traceD b v = .none) : (gs 20).phi 19 [.int 0, b.d, v] = some (.ok (.str "walk")) := by
  rw [phiK (d := d_law_walk_error) (by omega) rfl]
  have e := k_roomsof (j := 19) (by omega) b v hb
  rw [hv] at e
  refine run_ret [some (.bor, .int 0), some (.bor, b.d), some (.bor, v), none] rfl ?_
  simp -implicitDefEqProofs only [b_law_walk_error, execSs, execS, seqS, thenS, retS, retV, datK, ownK, tgK, appK, evalE, evalK, evalA, evalAnd, evalOr, evalO, evalF, evalI, evalC, keep, keepV, slotVal, lift1, lift2, liftA, consA, callF, notV, andT, orT, ifV, tstB, DD.ifS, DD.forS, compV, seqI, rngI, E.src, sem2, semC, semB, Ty.nm, Cst.d, boolRes, truth_bool, truth_none, truth_int, truth_list, truth_tuple, isi_int, isi_bool, isi_tuple, isi_list, isi_str, addD, subD, mul_int, fdiv_int, mod_int, ltD, leD, gtD, geD, lenD, isNone, negD, tg_one, tg_many, tgs_nil, tgs_cons, flatRoot, okSize, List.getElem?_cons_zero, List.getElem?_cons_succ, List.set_cons_zero, List.set_cons_succ, List.length_cons, List.length_nil, Option.map_some, Option.map_none, Nat.zero_add, if_true, if_false, Bool.not_true, Bool.not_false, reduceCtorEq, or_true, true_or, or_false, false_or, Nat.reduceAdd, Nat.reduceLeDiff, decide_true, decide_false, Bool.false_eq_true, tryV, eq_int, e, roomsR, sub19]
  rfl
theorem we1 (b : Bld) (v : D) (c : Nat) (s : Str) (e : (gs 19).phi 18 [b.d, v] = some (.exc c none)) (hc : catchV md.sub c [(3, 3, (.ret (.ifE (.and (.isx 0) (.not (.isx 1))) (.str "walk") (.str "other")))), (2, 3, (.ret (.ifE (.and (.isx 0) (.not (.isx 1))) (.str "counts") (.str "other"))))] = some (.ret (.str s))) : (gs 20).phi 19 [.int 1, b.d, v] = some (.ok (.str s)) := by
  rw [phiK (d := d_law_walk_error) (by omega) rfl]
  refine run_ret [some (.bor, .int 1), some (.bor, b.d), some (.bor, v), none] rfl ?_
  have n10 : ((1 : Int) = 0) = False := eq_false (by omega)
  simp -implicitDefEqProofs only [b_law_walk_error, execSs, execS, seqS, thenS, retS, retV, datK, ownK, tgK, appK, evalE, evalK, evalA, evalAnd, evalOr, evalO, evalF, evalI, evalC, keep, keepV, slotVal, lift1, lift2, liftA, consA, callF, notV, andT, orT, ifV, tstB, DD.ifS, DD.forS, compV, seqI, rngI, E.src, sem2, semC, semB, Ty.nm, Cst.d, boolRes, truth_bool, truth_none, truth_int, truth_list, truth_tuple, isi_int, isi_bool, isi_tuple, isi_list, isi_str, addD, subD, mul_int, fdiv_int, mod_int, ltD, leD, gtD, geD, lenD, isNone, negD, tg_one, tg_many, tgs_nil, tgs_cons, flatRoot, okSize, List.getElem?_cons_zero, List.getElem?_cons_succ, List.set_cons_zero, List.set_cons_succ, List.length_cons, List.length_nil, Option.map_some, Option.map_none, Nat.zero_add, if_true, if_false, Bool.not_true, Bool.not_false, reduceCtorEq, or_true, true_or, or_false, false_or, Nat.reduceAdd, Nat.reduceLeDiff, decide_true, decide_false, Bool.false_eq_true, tryV, eq_int, n10, e, sub19, hc]
theorem ne_bool (a c : Bool) : neD (.bool a) (.bool c) = some (.bool (a != c)) := by cases a <;> cases c <;> rfl
theorem eq_walk : eqD (.str "walk") (.str "walk") = some (.bool true) := by kernel_rfl
theorem eq_counts : eqD (.str "counts") (.str "counts") = some (.bool true) := by kernel_rfl
theorem rep_w (w : Wlk) (m : Int) (h0 : 0 ≤ m) (h1 : m < 3) : mulD (.list [wD w]) (.int m) = some (.list ((List.replicate m.toNat w).map wD)) := by
  have h : repOk m 1 = true := by
    rw [repOk_eq]
    exact decide_eq_true ⟨by omega, by omega, by omega⟩
  show (if repOk m [wD w].length = true then some (PyData.list (List.replicate m.toNat [wD w]).flatten) else none) = _
  rw [show [wD w].length = 1 from rfl, if_pos h]
  simp
end
end DD.P02

namespace DD.P02
noncomputable section
open PySem PySem.Spec PyProof.Rows L2 K02
theorem over9_iff (cs : List Int) : over9 cs = true ↔ ∃ x ∈ cs, x > 9 := by
  unfold over9
  constructor
  · intro h
    cases e : cs.filter fun i => decide (i > 9) with
    | nil => rw [e] at h; cases h
    | cons y r =>
      have : y ∈ cs.filter fun i => decide (i > 9) := by rw [e]; exact List.mem_cons_self
      obtain ⟨h1, h2⟩ := List.mem_filter.mp this
      exact ⟨y, h1, of_decide_eq_true h2⟩
  · intro ⟨x, h1, h2⟩
    have : x ∈ cs.filter fun i => decide (i > 9) := List.mem_filter.mpr ⟨h1, decide_eq_true h2⟩
    cases e : cs.filter fun i => decide (i > 9) with
    | nil => rw [e] at this; cases this
    | cons y r => rfl
theorem intsOf_map : ∀ cs : List Int, intsOf (cs.map .int) = some cs
  | [] => rfl
  | c :: cs => by
    rw [List.map_cons]
    unfold intsOf
    rw [intsOf_map cs]
    rfl
theorem max0 (cs : List Int) : ∃ m, maxD [.list (cs.map .int ++ [.int 0])] = some (.int m) ∧ decide (m > 9) = over9 cs := by
  have e : cs.map PyData.int ++ [.int 0] = (cs ++ [0]).map .int := by simp
  have e2 : maxD [.list (cs.map .int ++ [.int 0])] = (match intsOf (cs.map PyData.int ++ [.int 0]) with
    | some (n :: ns) => some (.int (maxL n ns))
    | _ => none) := by unfold maxD; rfl
  rw [e2, e, intsOf_map]
  cases h : cs ++ [0] with
  | nil => simp at h
  | cons n ns =>
    refine ⟨maxL n ns, rfl, ?_⟩
    obtain ⟨g1, g2, g3⟩ := maxL_ge ns n
    have gm : maxL n ns ∈ cs ++ [0] := by
      rw [h]
      rcases g3 with g3 | g3
      · rw [g3]; exact List.mem_cons_self
      · exact List.mem_cons_of_mem _ g3
    have ga : ∀ y ∈ cs, y ≤ maxL n ns := fun y hy => by
      have : y ∈ n :: ns := by rw [← h]; exact List.mem_append_left _ hy
      rcases List.mem_cons.mp this with rfl | hy2
      · exact g1
      · exact g2 y hy2
    rw [Bool.eq_iff_iff, decide_eq_true_eq, over9_iff]
    constructor
    · intro hm
      rcases List.mem_append.mp gm with hc | hc
      · exact ⟨_, hc, hm⟩
      · rw [List.mem_singleton.mp hc] at hm
        omega
    · intro ⟨x, hx, h9⟩
      have := ga x hx
      omega
theorem suffix (Sx : D) (dr : List Int) (hdr : dr.length = 60) (b : Bld) (hb : b.ok) (w2 : Wlk) (hw2 : isWk b w2) (hi2 : Wlk.inB b.ds.length w2) (x4 v : D) (p9 p10 p11 p14 : Option (Fl × D)) : execSs (gs 20) 0 false (b_law_s10 1 2 4 7 14 19 16 18) [some (.bor, Sx), some (.dat, .list (dr.map .int)), some (.dat, b.d), some (.dat, .int b.ds.length), some (.dat, x4), some (.dat, v), none, none, none, p9, p10, p11, some (.dat, .int w2.1), some (.dat, .tuple (w2.2.map .int)), p14, none, none, none] = some (.ret (.bool true)) := by
  have r1 := k_rooms (j := 20) (by omega) b v hb
  have r2 := k_iswalk (j := 20) (by omega) b v hb
  have r3 := k_roomsof (j := 20) (by omega) b v hb
  rcases traceD_cases b v with q | ⟨ms, q⟩
  · rw [q] at r1 r2
    have x0 := we0 b hb v q
    have x1 := we1 b (.list [v]) 3 "walk" (k_counts_bad (j := 19) (by omega) b hb v [] q) rfl
    have nb : neD (.bool false) (.bool false) = some (.bool false) := rfl
    simp -implicitDefEqProofs only [b_law_s10, b_law_s11, b_law_s12, execSs, execS, seqS, thenS, retS, retV, datK, ownK, tgK, appK, evalE, evalK, evalA, evalAnd, evalOr, evalO, evalF, evalI, evalC, keep, keepV, slotVal, lift1, lift2, liftA, consA, callF, notV, andT, orT, ifV, tstB, DD.ifS, DD.forS, compV, seqI, rngI, E.src, sem2, semC, semB, Ty.nm, Cst.d, boolRes, truth_bool, truth_none, truth_int, truth_list, truth_tuple, isi_int, isi_bool, isi_tuple, isi_list, isi_str, addD, subD, mul_int, fdiv_int, mod_int, ltD, leD, gtD, geD, lenD, isNone, negD, tg_one, tg_many, tgs_nil, tgs_cons, flatRoot, okSize, List.getElem?_cons_zero, List.getElem?_cons_succ, List.set_cons_zero, List.set_cons_succ, List.length_cons, List.length_nil, Option.map_some, Option.map_none, Nat.zero_add, if_true, if_false, Bool.not_true, Bool.not_false, reduceCtorEq, or_true, true_or, or_false, false_or, Nat.reduceAdd, Nat.reduceLeDiff, decide_true, decide_false, Bool.false_eq_true, r1, r2, nb, x0, x1, eq_walk]
  · rw [q] at r1 r2 r3
    obtain ⟨w, rfl, hwi⟩ := walk_of q
    have nb : neD (.bool true) (.bool true) = some (.bool false) := rfl
    have nr := ne_ints ms ms
    have nz : (!decide (ms = ms)) = false := by simp
    rw [nz] at nr
    have d2 := at_draw (dr := dr) (k := 2) hdr (by omega) (by omega)
    have m3 := mod_pos (a := drawn dr 2) (b := 3) (by omega)
    have rw3 := rep_w w (drawn dr 2 % 3) m3.1 m3.2
    have t3 : (0 : Int) < 3 := by omega
    have al : 2 + (drawn dr 2 % 3).toNat ≤ 16777216 := by omega
    have al' : (drawn dr 2 % 3).toNat ≤ 16777214 := by omega
    have w2e : PyData.tuple [.int w2.1, .tuple (w2.2.map .int)] = wD w2 := rfl
    have zz := zeros (n := b.ds.length) (by have := hb.n8; omega)
    let ws : List Wlk := w :: w2 :: List.replicate (drawn dr 2 % 3).toNat w
    have wse : wD w :: wD w2 :: (List.replicate (drawn dr 2 % 3).toNat w).map wD = ws.map wD := rfl
    have wsi : ∀ u ∈ ws, Wlk.inB b.ds.length u := fun u hu => by
      rcases List.mem_cons.mp hu with rfl | hu
      · exact hwi
      · rcases List.mem_cons.mp hu with rfl | hu
        · exact hi2
        · rw [(List.mem_replicate.mp hu).2]
          exact hwi
    have wsk : ∀ u ∈ ws, isWk b u := fun u hu => by
      rcases List.mem_cons.mp hu with rfl | hu
      · exact ⟨ms, q⟩
      · rcases List.mem_cons.mp hu with rfl | hu
        · exact hw2
        · rw [(List.mem_replicate.mp hu).2]
          exact ⟨ms, q⟩
    have key := stepW_fold ws (List.replicate b.ds.length 0, none, none, none)
    simp -implicitDefEqProofs only [b_law_s10, b_law_s11, b_law_s12, b_law_s13, b_law_s14, b_law_s15, execSs, execS, seqS, thenS, retS, retV, datK, ownK, tgK, appK, evalE, evalK, evalA, evalAnd, evalOr, evalO, evalF, evalI, evalC, keep, keepV, slotVal, lift1, lift2, liftA, consA, callF, notV, andT, orT, ifV, tstB, DD.ifS, DD.forS, compV, seqI, rngI, E.src, sem2, semC, semB, Ty.nm, Cst.d, boolRes, truth_bool, truth_none, truth_int, truth_list, truth_tuple, isi_int, isi_bool, isi_tuple, isi_list, isi_str, addD, subD, mul_int, fdiv_int, mod_int, ltD, leD, gtD, geD, lenD, isNone, negD, tg_one, tg_many, tgs_nil, tgs_cons, flatRoot, okSize, List.getElem?_cons_zero, List.getElem?_cons_succ, List.set_cons_zero, List.set_cons_succ, List.length_cons, List.length_nil, Option.map_some, Option.map_none, Nat.zero_add, if_true, if_false, Bool.not_true, Bool.not_false, reduceCtorEq, or_true, true_or, or_false, false_or, Nat.reduceAdd, Nat.reduceLeDiff, decide_true, decide_false, Bool.false_eq_true, r1, r2, r3, roomsR, nb, nr, ixD, d2, t3, rw3, w2e, List.length_map, List.length_replicate, al, al', List.cons_append, List.nil_append, zz, wse]
    have good := k_counts_good (j := 20) (by omega) b hb ws wsi wsk
    have good19 := k_counts_good (j := 19) (by omega) b hb ws wsi wsk
    have bad := we1 b (.tuple (ws.map wD)) 3 "walk" (k_counts_tuple (j := 19) (by omega) b hb (.tuple (ws.map wD)) rfl) rfl
    obtain ⟨mx, hm1, hm2⟩ := max0 (tallyN b.ds.length ws)
    have tl : (tallyN b.ds.length ws).length ≤ 16777215 := by
      have e : (tallyN b.ds.length ws).length = b.ds.length := by
        unfold tallyN
        have : ∀ (us : List Wlk) (cs : List Int), (us.foldl tallyW cs).length = cs.length := by
          intro us
          induction us with
          | nil => intro cs; rfl
          | cons u us ih =>
            intro cs
            rw [List.foldl_cons, ih]
            exact fold_bump_len _ _
        rw [this]
        simp
      have := hb.n8
      omega
    have ee := eq_intsT (tallyN b.ds.length ws) (tallyN b.ds.length ws)
    have ez : decide (tallyN b.ds.length ws = tallyN b.ds.length ws) = true := by simp
    rw [ez] at ee
    simp -implicitDefEqProofs only [b_law_s16, execSs, execS, seqS, thenS, retS, retV, datK, ownK, tgK, appK, evalE, evalK, evalA, evalAnd, evalOr, evalO, evalF, evalI, evalC, keep, keepV, slotVal, lift1, lift2, liftA, consA, callF, notV, andT, orT, ifV, tstB, DD.ifS, DD.forS, compV, seqI, rngI, E.src, sem2, semC, semB, Ty.nm, Cst.d, boolRes, truth_bool, truth_none, truth_int, truth_list, truth_tuple, isi_int, isi_bool, isi_tuple, isi_list, isi_str, addD, subD, mul_int, fdiv_int, mod_int, ltD, leD, gtD, geD, lenD, isNone, negD, tg_one, tg_many, tgs_nil, tgs_cons, flatRoot, okSize, List.getElem?_cons_zero, List.getElem?_cons_succ, List.set_cons_zero, List.set_cons_succ, List.length_cons, List.length_nil, Option.map_some, Option.map_none, Nat.zero_add, if_true, if_false, Bool.not_true, Bool.not_false, reduceCtorEq, or_true, true_or, or_false, false_or, Nat.reduceAdd, Nat.reduceLeDiff, decide_true, decide_false, Bool.false_eq_true]
    rw [forL_foldR (fun s : St3 => [some (Fl.bor, Sx), some (Fl.dat, PyData.list (dr.map PyData.int)), some (Fl.dat, b.d), some (Fl.dat, PyData.int b.ds.length), some (Fl.dat, x4), some (Fl.dat, wD w), some (Fl.dat, PyData.list (ms.map PyData.int)), some (Fl.dat, PyData.list (ws.map wD)), some (Fl.own, PyData.list (s.1.map PyData.int)), p9, p10, p11, some (Fl.dat, PyData.int w2.1), some (Fl.dat, PyData.tuple (w2.2.map PyData.int)), p14, s.2.1, s.2.2.1, s.2.2.2])
      stepW (fun k s => s.1.length = b.ds.length) (List.replicate b.ds.length 0, none, none, none)]
    · rw [← show tallyN b.ds.length ws = List.foldl tallyW (List.replicate b.ds.length 0) ws from rfl] at key
      cases ho : over9 (tallyN b.ds.length ws) with
      | true =>
        rw [ho] at hm2 good19
        have hm3 : mx > 9 := of_decide_eq_true hm2
        have bad2 := we1 b (.list (ws.map wD)) 2 "counts" good19 rfl
        simp -implicitDefEqProofs only [b_law_s17, execSs, execS, seqS, thenS, retS, retV, datK, ownK, tgK, appK, evalE, evalK, evalA, evalAnd, evalOr, evalO, evalF, evalI, evalC, keep, keepV, slotVal, lift1, lift2, liftA, consA, callF, notV, andT, orT, ifV, tstB, DD.ifS, DD.forS, compV, seqI, rngI, E.src, sem2, semC, semB, Ty.nm, Cst.d, boolRes, truth_bool, truth_none, truth_int, truth_list, truth_tuple, isi_int, isi_bool, isi_tuple, isi_list, isi_str, addD, subD, mul_int, fdiv_int, mod_int, ltD, leD, gtD, geD, lenD, isNone, negD, tg_one, tg_many, tgs_nil, tgs_cons, flatRoot, okSize, List.getElem?_cons_zero, List.getElem?_cons_succ, List.set_cons_zero, List.set_cons_succ, List.length_cons, List.length_nil, Option.map_some, Option.map_none, Nat.zero_add, if_true, if_false, Bool.not_true, Bool.not_false, reduceCtorEq, or_true, true_or, or_false, false_or, Nat.reduceAdd, Nat.reduceLeDiff, decide_true, decide_false, Bool.false_eq_true, key, List.length_map, tl, hm1, hm3, bad2, eq_counts]
      | false =>
        rw [ho] at hm2 good
        have hm3 : ¬ mx > 9 := of_decide_eq_false hm2
        have good' : (gs 20).phi 18 [b.d, .list (ws.map wD)] = some (.ok (.tuple ((tallyN b.ds.length ws).map .int))) := good
        simp -implicitDefEqProofs only [b_law_s17, b_law_s18, execSs, execS, seqS, thenS, retS, retV, datK, ownK, tgK, appK, evalE, evalK, evalA, evalAnd, evalOr, evalO, evalF, evalI, evalC, keep, keepV, slotVal, lift1, lift2, liftA, consA, callF, notV, andT, orT, ifV, tstB, DD.ifS, DD.forS, compV, seqI, rngI, E.src, sem2, semC, semB, Ty.nm, Cst.d, boolRes, truth_bool, truth_none, truth_int, truth_list, truth_tuple, isi_int, isi_bool, isi_tuple, isi_list, isi_str, addD, subD, mul_int, fdiv_int, mod_int, ltD, leD, gtD, geD, lenD, isNone, negD, tg_one, tg_many, tgs_nil, tgs_cons, flatRoot, okSize, List.getElem?_cons_zero, List.getElem?_cons_succ, List.set_cons_zero, List.set_cons_succ, List.length_cons, List.length_nil, Option.map_some, Option.map_none, Nat.zero_add, if_true, if_false, Bool.not_true, Bool.not_false, reduceCtorEq, or_true, true_or, or_false, false_or, Nat.reduceAdd, Nat.reduceLeDiff, decide_true, decide_false, Bool.false_eq_true, key, List.length_map, tl, hm1, hm3, good', bad, tupleD, ee, eq_walk]
    · rfl
    · simp
    · intro k d s hk hs
      have hm := List.mem_of_getElem? hk
      obtain ⟨u, hu1, rfl⟩ := List.mem_map.mp hm
      refine ⟨_, rfl, ?_, by show (List.foldl bump s.1 _).length = _; rw [fold_bump_len, hs]⟩
      have fp := fold_pair bump (fun d => some (Fl.dat, d)) (u.2.map PyData.int) s.1 s.2.2.2
      have ud : wD u = .tuple [.int u.1, .tuple (u.2.map .int)] := rfl
      have us : stepW s (.tuple [.int u.1, .tuple (u.2.map .int)]) = ((u.2.map PyData.int).foldl bump s.1, some (.dat, .int u.1), some (.dat, .tuple (u.2.map .int)), ((u.2.map PyData.int).foldl (fun (q : List Int × Option (Fl × D)) d => (bump q.1 d, some (.dat, d))) (s.1, s.2.2.2)).2) := rfl
      rw [ud, us]
      simp -implicitDefEqProofs only [execSs, execS, seqS, thenS, retS, retV, datK, ownK, tgK, appK, evalE, evalK, evalA, evalAnd, evalOr, evalO, evalF, evalI, evalC, keep, keepV, slotVal, lift1, lift2, liftA, consA, callF, notV, andT, orT, ifV, tstB, DD.ifS, DD.forS, compV, seqI, rngI, E.src, sem2, semC, semB, Ty.nm, Cst.d, boolRes, truth_bool, truth_none, truth_int, truth_list, truth_tuple, isi_int, isi_bool, isi_tuple, isi_list, isi_str, addD, subD, mul_int, fdiv_int, mod_int, ltD, leD, gtD, geD, lenD, isNone, negD, tg_one, tg_many, tgs_nil, tgs_cons, flatRoot, okSize, List.getElem?_cons_zero, List.getElem?_cons_succ, List.set_cons_zero, List.set_cons_succ, List.length_cons, List.length_nil, Option.map_some, Option.map_none, Nat.zero_add, if_true, if_false, Bool.not_true, Bool.not_false, reduceCtorEq, or_true, true_or, or_false, false_or, Nat.reduceAdd, Nat.reduceLeDiff, decide_true, decide_false, Bool.false_eq_true]
      rw [forL_foldR (fun q : List Int × Option (Fl × D) => [some (Fl.bor, Sx), some (Fl.dat, PyData.list (dr.map PyData.int)), some (Fl.dat, b.d), some (Fl.dat, PyData.int b.ds.length), some (Fl.dat, x4), some (Fl.dat, wD w), some (Fl.dat, PyData.list (ms.map PyData.int)), some (Fl.dat, PyData.list (ws.map wD)), some (Fl.own, PyData.list (q.1.map PyData.int)), p9, p10, p11, some (Fl.dat, PyData.int w2.1), some (Fl.dat, PyData.tuple (w2.2.map PyData.int)), p14, some (Fl.dat, PyData.int u.1), some (Fl.dat, PyData.tuple (u.2.map PyData.int)), q.2])
        (fun q d => (bump q.1 d, some (.dat, d))) (fun k q => q.1.length = b.ds.length) (s.1, s.2.2.2)]
      · simp -implicitDefEqProofs only [fp]
      · rfl
      · exact hs
      · intro k2 d2 q hk2 hq
        have hm2 := List.mem_of_getElem? hk2
        obtain ⟨n, hn, rfl⟩ := List.mem_map.mp hm2
        obtain ⟨n0, n1⟩ := wsi u hu1 n hn
        refine ⟨_, rfl, ?_, by rw [bump_len]; exact hq⟩
        have a1 := at_ints (cs := q.1) n0 (by omega)
        have a2 := ixN_nat (n := q.1.length) n0 (by omega)
        simp -implicitDefEqProofs only [execSs, execS, seqS, thenS, retS, retV, datK, ownK, tgK, appK, evalE, evalK, evalA, evalAnd, evalOr, evalO, evalF, evalI, evalC, keep, keepV, slotVal, lift1, lift2, liftA, consA, callF, notV, andT, orT, ifV, tstB, DD.ifS, DD.forS, compV, seqI, rngI, E.src, sem2, semC, semB, Ty.nm, Cst.d, boolRes, truth_bool, truth_none, truth_int, truth_list, truth_tuple, isi_int, isi_bool, isi_tuple, isi_list, isi_str, addD, subD, mul_int, fdiv_int, mod_int, ltD, leD, gtD, geD, lenD, isNone, negD, tg_one, tg_many, tgs_nil, tgs_cons, flatRoot, okSize, List.getElem?_cons_zero, List.getElem?_cons_succ, List.set_cons_zero, List.set_cons_succ, List.length_cons, List.length_nil, Option.map_some, Option.map_none, Nat.zero_add, if_true, if_false, Bool.not_true, Bool.not_false, reduceCtorEq, or_true, true_or, or_false, false_or, Nat.reduceAdd, Nat.reduceLeDiff, decide_true, decide_false, Bool.false_eq_true, putS, ixD, a1, a2, List.length_map, set_ints, bump]
end
end DD.P02

namespace DD.P02
noncomputable section
open PySem PySem.Spec PyProof.Rows L2 K02
theorem law_ok (ns : List Int) : runF (gs 20) 0 false (b_law 1 2 4 7 14 19 16 18) 18 [.list (ns.map .int)] = some (.ok (.bool true)) := by
  refine run_ret [some (.bor, .list (ns.map .int)), none, none, none, none, none, none, none, none, none, none, none, none, none, none, none, none, none] rfl ?_
  have e1 := k_row (j := 20) (by omega) ns 5 (by omega)
  have e2 := k_bld (j := 20) (by omega) ns 2 5 6 (by omega) (by omega) (by omega) (by omega) (by omega)
  have hb := (bldN_ok ns 2 5 6 (by omega) (by omega) (by omega) (by omega)).1
  generalize bldN ns 2 5 6 = b at e2 hb
  have e3 := k_walked (j := 20) (by omega) ns 3 b 12 (by omega) hb (by omega) (by omega)
  have e4 := k_walked (j := 20) (by omega) ns 4 b 12 (by omega) hb (by omega) (by omega)
  obtain ⟨g1, g2⟩ := wlk_isWk ns 4 b 12 hb (by omega) (by omega)
  have wl := (wlk_inv ns 3 b 12 (by omega)).2.1
  have dl := bld_draws ns 5
  have d0 := at_draw (k := 0) dl (by omega) (by omega)
  have d1 := at_draw (k := 1) dl (by omega) (by omega)
  have q1 : 0 < b.R := by have := hb.r1; omega
  have lb : (gs 20).phi 2 [PyData.list (List.map PyData.int ns), PyData.int 2, PyData.int 5, PyData.int 6] = some (Res.ok (.tuple [.int b.R, .tuple (b.ds.map Door.d)])) := e2
  have wl2 : (wlkN ns 3 b 12).2.length ≤ 12 := by
    show (wlkF ns 3 b 12).2.1.length ≤ 12
    omega
  have al1 : (wlkN ns 3 b 12).2.length + 1 ≤ 16777216 := by omega
  have al1' : (wlkN ns 3 b 12).2.length ≤ 16777215 := by omega
  have al2 : (wlkN ns 3 b 12).2.length + (wlkN ns 3 b 12).2.length ≤ 16777216 := by omega
  obtain ⟨z73, h73⟩ : ∃ d, mulD (.tuple [.int 0]) (.int 73) = some d := ⟨_, rfl⟩
  obtain ⟨z72, h72⟩ : ∃ d, mulD (.tuple [.int 0]) (.int 72) = some d := ⟨_, rfl⟩
  have m17 := mod_pos (a := drawn (rowN ns 5) 1) (b := 17) (by omega)
  have t17 : (0 : Int) < 17 := by omega
  obtain ⟨f, hf⟩ : ∃ f : List D → D, ∀ l : List D, l.length = 17 → atI l (drawn (rowN ns 5) 1 % 17) = some (f l) := ⟨fun l => l.getD (drawn (rowN ns 5) 1 % 17).toNat .none, fun l hl => atI_nat m17.1 (by
    show _ = some (l.getD _ _)
    rw [List.getD_eq_getElem?_getD, List.getElem?_eq_getElem (by omega)]
    rfl)⟩
  have e3' : (gs 20).phi 4 [PyData.list (List.map PyData.int ns), PyData.int 3, .tuple [.int b.R, .tuple (b.ds.map Door.d)], PyData.int 12] = _ := e3
  have e4' : (gs 20).phi 4 [PyData.list (List.map PyData.int ns), PyData.int 4, .tuple [.int b.R, .tuple (b.ds.map Door.d)], PyData.int 12] = _ := e4
  simp -implicitDefEqProofs only [b_law, b_law_s0, b_law_s1, b_law_s2, b_law_s3, b_law_s4, execSs, execS, seqS, thenS, retS, retV, datK, ownK, tgK, appK, evalE, evalK, evalA, evalAnd, evalOr, evalO, evalF, evalI, evalC, keep, keepV, slotVal, lift1, lift2, liftA, consA, callF, notV, andT, orT, ifV, tstB, DD.ifS, DD.forS, compV, seqI, rngI, E.src, sem2, semC, semB, Ty.nm, Cst.d, boolRes, truth_bool, truth_none, truth_int, truth_list, truth_tuple, isi_int, isi_bool, isi_tuple, isi_list, isi_str, addD, subD, mul_int, fdiv_int, mod_int, ltD, leD, gtD, geD, lenD, isNone, negD, tg_one, tg_many, tgs_nil, tgs_cons, flatRoot, okSize, List.getElem?_cons_zero, List.getElem?_cons_succ, List.set_cons_zero, List.set_cons_succ, List.length_cons, List.length_nil, Option.map_some, Option.map_none, Nat.zero_add, if_true, if_false, Bool.not_true, Bool.not_false, reduceCtorEq, or_true, true_or, or_false, false_or, Nat.reduceAdd, Nat.reduceLeDiff, decide_true, decide_false, Bool.false_eq_true, e1, lb, e3', e4', ixD, at_c1, List.length_map]
  simp -implicitDefEqProofs only [b_law_s5, execSs, execS, seqS, thenS, retS, retV, datK, ownK, tgK, appK, evalE, evalK, evalA, evalAnd, evalOr, evalO, evalF, evalI, evalC, keep, keepV, slotVal, lift1, lift2, liftA, consA, callF, notV, andT, orT, ifV, tstB, DD.ifS, DD.forS, compV, seqI, rngI, E.src, sem2, semC, semB, Ty.nm, Cst.d, boolRes, truth_bool, truth_none, truth_int, truth_list, truth_tuple, isi_int, isi_bool, isi_tuple, isi_list, isi_str, addD, subD, mul_int, fdiv_int, mod_int, ltD, leD, gtD, geD, lenD, isNone, negD, tg_one, tg_many, tgs_nil, tgs_cons, flatRoot, okSize, List.getElem?_cons_zero, List.getElem?_cons_succ, List.set_cons_zero, List.set_cons_succ, List.length_cons, List.length_nil, Option.map_some, Option.map_none, Nat.zero_add, if_true, if_false, Bool.not_true, Bool.not_false, reduceCtorEq, or_true, true_or, or_false, false_or, Nat.reduceAdd, Nat.reduceLeDiff, decide_true, decide_false, Bool.false_eq_true, ixD, at_c0, at_c1, d0, q1, revV, revD]
  simp -implicitDefEqProofs only [b_law_s6, execSs, execS, seqS, thenS, retS, retV, datK, ownK, tgK, appK, evalE, evalK, evalA, evalAnd, evalOr, evalO, evalF, evalI, evalC, keep, keepV, slotVal, lift1, lift2, liftA, consA, callF, notV, andT, orT, ifV, tstB, DD.ifS, DD.forS, compV, seqI, rngI, E.src, sem2, semC, semB, Ty.nm, Cst.d, boolRes, truth_bool, truth_none, truth_int, truth_list, truth_tuple, isi_int, isi_bool, isi_tuple, isi_list, isi_str, addD, subD, mul_int, fdiv_int, mod_int, ltD, leD, gtD, geD, lenD, isNone, negD, tg_one, tg_many, tgs_nil, tgs_cons, flatRoot, okSize, List.getElem?_cons_zero, List.getElem?_cons_succ, List.set_cons_zero, List.set_cons_succ, List.length_cons, List.length_nil, Option.map_some, Option.map_none, Nat.zero_add, if_true, if_false, Bool.not_true, Bool.not_false, reduceCtorEq, or_true, true_or, or_false, false_or, Nat.reduceAdd, Nat.reduceLeDiff, decide_true, decide_false, Bool.false_eq_true, ixD, at_c0, at_c1, listD, List.length_map, al1, al1', List.cons_append, List.nil_append]
  simp -implicitDefEqProofs only [b_law_s7, execSs, execS, seqS, thenS, retS, retV, datK, ownK, tgK, appK, evalE, evalK, evalA, evalAnd, evalOr, evalO, evalF, evalI, evalC, keep, keepV, slotVal, lift1, lift2, liftA, consA, callF, notV, andT, orT, ifV, tstB, DD.ifS, DD.forS, compV, seqI, rngI, E.src, sem2, semC, semB, Ty.nm, Cst.d, boolRes, truth_bool, truth_none, truth_int, truth_list, truth_tuple, isi_int, isi_bool, isi_tuple, isi_list, isi_str, addD, subD, mul_int, fdiv_int, mod_int, ltD, leD, gtD, geD, lenD, isNone, negD, tg_one, tg_many, tgs_nil, tgs_cons, flatRoot, okSize, List.getElem?_cons_zero, List.getElem?_cons_succ, List.set_cons_zero, List.set_cons_succ, List.length_cons, List.length_nil, Option.map_some, Option.map_none, Nat.zero_add, if_true, if_false, Bool.not_true, Bool.not_false, reduceCtorEq, or_true, true_or, or_false, false_or, Nat.reduceAdd, Nat.reduceLeDiff, decide_true, decide_false, Bool.false_eq_true, slcV, slcD, partV, List.length_map, al1, al1', List.cons_append, List.nil_append]
  simp -implicitDefEqProofs only [b_law_s8, execSs, execS, seqS, thenS, retS, retV, datK, ownK, tgK, appK, evalE, evalK, evalA, evalAnd, evalOr, evalO, evalF, evalI, evalC, keep, keepV, slotVal, lift1, lift2, liftA, consA, callF, notV, andT, orT, ifV, tstB, DD.ifS, DD.forS, compV, seqI, rngI, E.src, sem2, semC, semB, Ty.nm, Cst.d, boolRes, truth_bool, truth_none, truth_int, truth_list, truth_tuple, isi_int, isi_bool, isi_tuple, isi_list, isi_str, addD, subD, mul_int, fdiv_int, mod_int, ltD, leD, gtD, geD, lenD, isNone, negD, tg_one, tg_many, tgs_nil, tgs_cons, flatRoot, okSize, List.getElem?_cons_zero, List.getElem?_cons_succ, List.set_cons_zero, List.set_cons_succ, List.length_cons, List.length_nil, Option.map_some, Option.map_none, Nat.zero_add, if_true, if_false, Bool.not_true, Bool.not_false, reduceCtorEq, or_true, true_or, or_false, false_or, Nat.reduceAdd, Nat.reduceLeDiff, decide_true, decide_false, Bool.false_eq_true, List.length_map, al2, h72, h73, List.cons_append, List.nil_append]
  simp -implicitDefEqProofs only [b_law_s9, execSs, execS, seqS, thenS, retS, retV, datK, ownK, tgK, appK, evalE, evalK, evalA, evalAnd, evalOr, evalO, evalF, evalI, evalC, keep, keepV, slotVal, lift1, lift2, liftA, consA, callF, notV, andT, orT, ifV, tstB, DD.ifS, DD.forS, compV, seqI, rngI, E.src, sem2, semC, semB, Ty.nm, Cst.d, boolRes, truth_bool, truth_none, truth_int, truth_list, truth_tuple, isi_int, isi_bool, isi_tuple, isi_list, isi_str, addD, subD, mul_int, fdiv_int, mod_int, ltD, leD, gtD, geD, lenD, isNone, negD, tg_one, tg_many, tgs_nil, tgs_cons, flatRoot, okSize, List.getElem?_cons_zero, List.getElem?_cons_succ, List.set_cons_zero, List.set_cons_succ, List.length_cons, List.length_nil, Option.map_some, Option.map_none, Nat.zero_add, if_true, if_false, Bool.not_true, Bool.not_false, reduceCtorEq, or_true, true_or, or_false, false_or, Nat.reduceAdd, Nat.reduceLeDiff, decide_true, decide_false, Bool.false_eq_true, ixD, d1, t17]
  rw [hf _ rfl]
  exact suffix _ _ dl b hb (wlkN ns 4 b 12) g1 g2 _ _ _ _ _ _
end
end DD.P02
theorem PySem.Challenge.cw_doorcounters_k02_walks_holds : PySem.Challenge.rw_doorcounters_k02_walks.Holds := by
  exact K02.holds_of (fun ns _ => DD.P02.law_ok ns)
