import PyProof.Rows.All
import Wide.All
import OpenK.AllK
import Wide.FinOn
import KE.KStateDown
import HandS.ForMost
import HandS.DictComp
import HandS.IsInst
import HandS.DeepEq
import KE.KEqNest
import HandS.Style
import HandS.Conv
import HandS.More
import HandS.Text
import HandS.Wide
import HandS.TupAny
import HandS.WordsExc
import KE.KDictPairs
import HandS.Defaults
import HandS.Iter
import HandS.SortRule
import HandS.Steps
import HandS.NoneIn
import HandS.SortOrd
import KE.KSortTupAny
import HandS.Set
import HandS.SetFor
import HandS.Strs
import HandS.HeadHook1
import HandS.HeadHook2
import HandS.Head0
import HandS.Head1
import HandS.Head2
import HandS.HeadEnd
import PySem.Challenge.RW_mergepatch_k03_whole_normal_form
set_option Elab.async false
set_option linter.all false
set_option maxRecDepth 100000
set_option maxHeartbeats 4000000
namespace Mp
open PySem L2 PyProof.Rows

/-- python data as a tree -/
inductive D where
  | non | bl (b : Bool) | int (i : Int) | str (x : Str)
  | tup (xs : List D) | lst (xs : List D) | dic (kvs : List (Key × D))

def look {α : Type} : List (Key × α) → Key → Option α
  | [], _ => none
  | (j, d) :: r, k => if j = k then some d else look r k

mutual
def D.eqv : D → D → Bool
  | .non, e => match e with | .non => true | _ => false
  | .bl a, e => match e with | .bl b => a == b | .int b => (if a then 1 else 0) == b | _ => false
  | .int a, e => match e with | .bl b => a == (if b then 1 else 0) | .int b => a == b | _ => false
  | .str a, e => match e with | .str b => a == b | _ => false
  | .tup xs, e => match e with | .tup ys => D.eqvL xs ys | _ => false
  | .lst xs, e => match e with | .lst ys => D.eqvL xs ys | _ => false
  | .dic xs, e => match e with | .dic ys => xs.length == ys.length && D.eqvK xs ys | _ => false
def D.eqvL : List D → List D → Bool
  | [], ys => ys.isEmpty
  | x :: xs, ys => match ys with | [] => false | y :: ys => D.eqv x y && D.eqvL xs ys
def D.eqvK : List (Key × D) → List (Key × D) → Bool
  | [], _ => true
  | (k, x) :: xs, ys => (match look ys k with | some y => D.eqv x y | none => false) && D.eqvK xs ys
end

mutual
def D.deep : D → Nat
  | .tup xs => D.deepL xs + 1
  | .lst xs => D.deepL xs + 1
  | .dic xs => D.deepK xs + 1
  | _ => 0
def D.deepL : List D → Nat
  | [] => 0
  | x :: xs => max (D.deep x) (D.deepL xs)
def D.deepK : List (Key × D) → Nat
  | [] => 0
  | (_, x) :: xs => max (D.deep x) (D.deepK xs)
end

section
variable (P : Program) (w : World) (h : Heap)
mutual
/-- the value u holds the datum, in the machine's heap -/
def Rep : D → Value → Prop
  | .non, u => u = .none
  | .bl b, u => u = .bool b
  | .int i, u => ∃ t, u = .int i t
  | .str x, u => ∃ t, u = .str x t
  | .tup xs, u => ∃ a its, u = .ref a ∧ h.IsTuple a its.toArray ∧ RepL xs its
  | .lst xs, u => ∃ a its, u = .ref a ∧ h.IsList a its.toArray ∧ RepL xs its
  | .dic ks, u => ∃ a vs, u = .ref a ∧ (a == sysModules) = false ∧ h.DictOf (mixKind P w) a vs ∧ RepK ks vs
def RepL : List D → List Value → Prop
  | [], us => us = []
  | d :: ds, us => ∃ u r, us = u :: r ∧ Rep d u ∧ RepL ds r
def RepK : List (Key × D) → List (Key × Value) → Prop
  | [], us => us = []
  | (k, d) :: ds, us => ∃ u r, us = (k, u) :: r ∧ Rep d u ∧ RepK ds r
end
end

section
variable {P : Program} {w : World} {h : Heap}
theorem RepL.len : ∀ {xs : List D} {us : List Value}, RepL P w h xs us → xs.length = us.length
  | [], us, r => by unfold RepL at r; subst r; rfl
  | x :: xs, us, r => by
    unfold RepL at r
    obtain ⟨u, q, rfl, _, r⟩ := r
    simp [RepL.len r]
theorem RepL.at : ∀ {xs : List D} {us : List Value}, RepL P w h xs us → ∀ (j : Nat) (h1 : j < xs.length) (h2 : j < us.length), Rep P w h xs[j] us[j]
  | [], _, _, j, h1, _ => absurd h1 (Nat.not_lt_zero j)
  | x :: xs, us, r, j, h1, h2 => by
    unfold RepL at r
    obtain ⟨u, q, rfl, a, r⟩ := r
    cases j with
    | zero => exact a
    | succ j => exact RepL.at r j (Nat.lt_of_succ_lt_succ h1) (Nat.lt_of_succ_lt_succ h2)
theorem RepK.len : ∀ {xs : List (Key × D)} {us : List (Key × Value)}, RepK P w h xs us → xs.length = us.length
  | [], us, r => by unfold RepK at r; subst r; rfl
  | x :: xs, us, r => by
    unfold RepK at r
    obtain ⟨u, q, rfl, _, r⟩ := r
    simp [RepK.len r]
theorem RepK.keys : ∀ {xs : List (Key × D)} {us : List (Key × Value)}, RepK P w h xs us → xs.map (·.1) = us.map (·.1)
  | [], us, r => by unfold RepK at r; subst r; rfl
  | (k, x) :: xs, us, r => by
    unfold RepK at r
    obtain ⟨u, q, rfl, _, r⟩ := r
    simp [RepK.keys r]
theorem valueAt_cons {k j : Key} {u : Value} {r : List (Key × Value)} : valueAt ((j, u) :: r) k = if j = k then some u else valueAt r k := by
  unfold valueAt
  rw [List.find?_cons]
  by_cases e : j = k
  · simp [e]
  · simp [e]
theorem RepK.look : ∀ {xs : List (Key × D)} {us : List (Key × Value)}, RepK P w h xs us → ∀ k, (look xs k = none ∧ valueAt us k = none) ∨ ∃ d u, look xs k = some d ∧ valueAt us k = some u ∧ Rep P w h d u
  | [], us, r, k => by unfold RepK at r; subst r; exact .inl ⟨rfl, rfl⟩
  | (j, x) :: xs, us, r, k => by
    unfold RepK at r
    obtain ⟨u, q, rfl, a, r⟩ := r
    rw [valueAt_cons, Mp.look]
    by_cases e : j = k
    · rw [if_pos e, if_pos e]
      exact .inr ⟨x, u, rfl, rfl, a⟩
    · rw [if_neg e, if_neg e]
      exact RepK.look r k
theorem look_mem {α : Type} : ∀ {xs : List (Key × α)} {k : Key} {d : α}, look xs k = some d → (k, d) ∈ xs
  | (j, x) :: xs, k, d, e => by
    unfold look at e
    split at e
    · rename_i z; subst z; cases e; exact List.mem_cons_self
    · exact List.mem_cons_of_mem _ (look_mem e)
theorem mem_look {α : Type} : ∀ {xs : List (Key × α)} {k : Key} {d : α}, (xs.map (·.1)).Nodup → (k, d) ∈ xs → look xs k = some d
  | (j, x) :: xs, k, d, nd, m => by
    unfold look
    rcases List.mem_cons.mp m with e | m
    · cases e; rw [if_pos rfl]
    · have nd' := List.nodup_cons.mp nd
      have ne : j ≠ k := fun e => nd'.1 (by subst e; exact List.mem_map.mpr ⟨(j, d), m, rfl⟩)
      rw [if_neg ne]
      exact mem_look nd'.2 m
theorem look_none {α : Type} : ∀ {xs : List (Key × α)} {k : Key}, look xs k = none ↔ k ∉ xs.map (·.1)
  | [], k => by simp [look]
  | (j, x) :: xs, k => by
    unfold look
    by_cases e : j = k
    · simp [e]
    · rw [if_neg e, look_none]
      simp [Ne.symm e, eq_comm]

theorem isTuple_uniq {a : Addr} {x y : Array Value} (p : h.IsTuple a x) (q : h.IsTuple a y) : x = y := by
  obtain ⟨o, h1, _, n, h2⟩ := p
  obtain ⟨o', h1', _, n', h2'⟩ := q
  rw [h1] at h1'; cases h1'
  rw [h2] at h2'; cases h2'; rfl
theorem isList_uniq {a : Addr} {x y : Array Value} (p : h.IsList a x) (q : h.IsList a y) : x = y := by
  obtain ⟨o, h1, _, n, h2⟩ := p
  obtain ⟨o', h1', _, n', h2'⟩ := q
  rw [h1] at h1'; cases h1'
  rw [h2] at h2'; cases h2'; rfl
theorem pairs_uniq : ∀ {es : List DictEntry} {x y : List (Key × Value)}, Pairs (mixKind P w) es x → Pairs (mixKind P w) es y → x = y
  | [], _, _, p, q => by cases p; cases q; rfl
  | e :: es, _, _, p, q => by
    cases p with
    | cons k1 v1 r1 =>
      cases q with
      | cons k2 v2 r2 =>
        have ek := (mixKind P w).inj _ _ _ k1 k2
        rw [pairs_uniq r1 r2, Prod.ext ek (v1.symm.trans v2)]
theorem dictOf_uniq {a : Addr} {x y : List (Key × Value)} (p : h.DictOf (mixKind P w) a x) (q : h.DictOf (mixKind P w) a y) : x = y := by
  obtain ⟨o, es, ep, h1, _, h2, _, h3, _⟩ := p
  obtain ⟨o', es', ep', h1', _, h2', _, h3', _⟩ := q
  rw [h1] at h1'; cases h1'
  rw [h2] at h2'; cases h2'
  exact pairs_uniq h3 h3'
theorem list_not_tuple {a : Addr} {x y : Array Value} (p : h.IsList a x) (q : h.IsTuple a y) : False := by
  obtain ⟨o, h1, c, _⟩ := p
  obtain ⟨o', h1', c', _⟩ := q
  rw [h1] at h1'; cases h1'
  rw [c] at c'; exact absurd c' (by decide)
theorem dict_not_tuple {a : Addr} {x : List (Key × Value)} {y : Array Value} (p : h.DictOf (mixKind P w) a x) (q : h.IsTuple a y) : False := by
  obtain ⟨o, es, ep, h1, c, _⟩ := p
  obtain ⟨o', h1', c', _⟩ := q
  rw [h1] at h1'; cases h1'
  rw [c.1] at c'; exact absurd c' (by decide)
theorem dict_not_list {a : Addr} {x : List (Key × Value)} {y : Array Value} (p : h.DictOf (mixKind P w) a x) (q : h.IsList a y) : False := by
  obtain ⟨o, es, ep, h1, c, _⟩ := p
  obtain ⟨o', h1', c', _⟩ := q
  rw [h1] at h1'; cases h1'
  rw [c.1] at c'; exact absurd c' (by decide)

mutual
theorem Rep.uniq : ∀ (d e : D) (u : Value), Rep P w h d u → Rep P w h e u → d = e
  | .non, e, u, p, q => by
    unfold Rep at p; subst p
    cases e <;> unfold Rep at q <;> first | rfl | (exfalso; simp at q)
  | .bl b, e, u, p, q => by
    unfold Rep at p; subst p
    cases e <;> unfold Rep at q <;> first | (simp at q; try subst q; try rfl) | (exfalso; simp at q)
  | .int i, e, u, p, q => by
    unfold Rep at p; obtain ⟨t, rfl⟩ := p
    cases e <;> unfold Rep at q <;> first | (simp at q; try subst q; try rfl) | (exfalso; simp at q)
  | .str i, e, u, p, q => by
    unfold Rep at p; obtain ⟨t, rfl⟩ := p
    cases e <;> unfold Rep at q <;> first | (simp at q; try subst q; try rfl) | (exfalso; simp at q)
  | .tup xs, e, u, p, q => by
    unfold Rep at p; obtain ⟨a, its, rfl, ha, r⟩ := p
    cases e with
    | tup ys =>
      unfold Rep at q; obtain ⟨b, jts, eb, hb, r'⟩ := q
      cases eb
      have z := isTuple_uniq ha hb
      have z : its = jts := by simpa using z
      subst z
      rw [RepL.uniq xs ys its r r']
    | lst ys => unfold Rep at q; obtain ⟨b, jts, eb, hb, r'⟩ := q; cases eb; exact (list_not_tuple hb ha).elim
    | dic ys => unfold Rep at q; obtain ⟨b, jts, eb, _, hb, r'⟩ := q; cases eb; exact (dict_not_tuple hb ha).elim
    | _ => unfold Rep at q; simp at q
  | .lst xs, e, u, p, q => by
    unfold Rep at p; obtain ⟨a, its, rfl, ha, r⟩ := p
    cases e with
    | lst ys =>
      unfold Rep at q; obtain ⟨b, jts, eb, hb, r'⟩ := q
      cases eb
      have z := isList_uniq ha hb
      have z : its = jts := by simpa using z
      subst z
      rw [RepL.uniq xs ys its r r']
    | tup ys => unfold Rep at q; obtain ⟨b, jts, eb, hb, r'⟩ := q; cases eb; exact (list_not_tuple ha hb).elim
    | dic ys => unfold Rep at q; obtain ⟨b, jts, eb, _, hb, r'⟩ := q; cases eb; exact (dict_not_list hb ha).elim
    | _ => unfold Rep at q; simp at q
  | .dic xs, e, u, p, q => by
    unfold Rep at p; obtain ⟨a, its, rfl, _, ha, r⟩ := p
    cases e with
    | dic ys =>
      unfold Rep at q; obtain ⟨b, jts, eb, _, hb, r'⟩ := q
      cases eb
      have z := dictOf_uniq ha hb
      subst z
      rw [RepK.uniq xs ys its r r']
    | tup ys => unfold Rep at q; obtain ⟨b, jts, eb, hb, r'⟩ := q; cases eb; exact (dict_not_tuple ha hb).elim
    | lst ys => unfold Rep at q; obtain ⟨b, jts, eb, hb, r'⟩ := q; cases eb; exact (dict_not_list ha hb).elim
    | _ => unfold Rep at q; simp at q
theorem RepL.uniq : ∀ (xs ys : List D) (us : List Value), RepL P w h xs us → RepL P w h ys us → xs = ys
  | [], ys, us, p, q => by
    unfold RepL at p; subst p
    cases ys with
    | nil => rfl
    | cons y ys => unfold RepL at q; obtain ⟨_, _, z, _⟩ := q; cases z
  | x :: xs, ys, us, p, q => by
    unfold RepL at p; obtain ⟨u, r, rfl, a, p⟩ := p
    cases ys with
    | nil => unfold RepL at q; cases q
    | cons y ys =>
      unfold RepL at q; obtain ⟨u', r', z, a', q⟩ := q
      cases z
      rw [Rep.uniq x y u a a', RepL.uniq xs ys r p q]
theorem RepK.uniq : ∀ (xs ys : List (Key × D)) (us : List (Key × Value)), RepK P w h xs us → RepK P w h ys us → xs = ys
  | [], ys, us, p, q => by
    unfold RepK at p; subst p
    cases ys with
    | nil => rfl
    | cons y ys => unfold RepK at q; obtain ⟨_, _, z, _⟩ := q; cases z
  | (k, x) :: xs, ys, us, p, q => by
    unfold RepK at p; obtain ⟨u, r, rfl, a, p⟩ := p
    cases ys with
    | nil => unfold RepK at q; cases q
    | cons y ys =>
      obtain ⟨j, y⟩ := y
      unfold RepK at q; obtain ⟨u', r', z, a', q⟩ := q
      cases z
      rw [Rep.uniq x y u a a', RepK.uniq xs ys r p q]
end

theorem look_of_tail {α : Type} {k : Key} {x : α} {xs pre : List (Key × α)} (nd : ((pre ++ (k, x) :: xs).map (·.1)).Nodup) : look (pre ++ (k, x) :: xs) k = some x :=
  mem_look nd (List.mem_append_right _ List.mem_cons_self)
mutual
theorem Rep.self : ∀ (d : D) (u : Value), Rep P w h d u → D.eqv d d = true
  | .non, _, _ => by simp [D.eqv]
  | .bl b, _, _ => by simp [D.eqv]
  | .int i, _, _ => by simp [D.eqv]
  | .str i, _, _ => by simp [D.eqv]
  | .tup xs, u, p => by
    unfold Rep at p; obtain ⟨a, its, rfl, ha, r⟩ := p
    simp only [D.eqv]; exact RepL.self xs its r
  | .lst xs, u, p => by
    unfold Rep at p; obtain ⟨a, its, rfl, ha, r⟩ := p
    simp only [D.eqv]; exact RepL.self xs its r
  | .dic xs, u, p => by
    unfold Rep at p; obtain ⟨a, its, rfl, _, ha, r⟩ := p
    obtain ⟨_, _, _, _, _, _, _, _, nd⟩ := ha
    simp only [D.eqv, beq_self_eq_true, Bool.true_and]
    exact RepK.self [] xs its (by rw [List.nil_append, r.keys]; exact nd) r
theorem RepL.self : ∀ (xs : List D) (us : List Value), RepL P w h xs us → D.eqvL xs xs = true
  | [], _, _ => by simp [D.eqvL]
  | x :: xs, us, p => by
    unfold RepL at p; obtain ⟨u, r, rfl, a, p⟩ := p
    simp only [D.eqvL, Rep.self x u a, RepL.self xs r p, Bool.and_self]
theorem RepK.self : ∀ (pre xs : List (Key × D)) (us : List (Key × Value)), ((pre ++ xs).map (·.1)).Nodup → RepK P w h xs us → D.eqvK xs (pre ++ xs) = true
  | _, [], _, _, _ => by simp [D.eqvK]
  | pre, (k, x) :: xs, us, nd, p => by
    unfold RepK at p; obtain ⟨u, r, rfl, a, p⟩ := p
    have z := RepK.self (pre ++ [(k, x)]) xs r (by simpa using nd) p
    simp only [D.eqvK, look_of_tail nd, Rep.self x u a, Bool.true_and]
    simpa using z
end
end

/-! ### == at any depth -/
section
variable {P : Program} {w : World} {s : Shared} {A : Around}
open PySem.SeqAt (EqAt EqIn RcAt RcNeAt rc_eq_decline_or rc_ne_decline_or)

theorem dict_obj {a : Addr} {ks : List (Key × Value)} (p : s.heap.DictOf (mixKind P w) a ks) : ∃ es ep, s.heap.get? a = some { cls := .type "dict", dict := none, data := .dict es ep, slots := #[] } := by
  obtain ⟨⟨c, d, dt, sl⟩, es, ep, h1, ⟨c1, c2, c3⟩, h2, _⟩ := p
  simp only at c1 c2 c3 h2
  subst c1 c2 c3 h2
  exact ⟨es, ep, h1⟩

/-- dict.__eq__, dict.__ne__ of a thing that is no dict -/
theorem deq_decl {E : Value → Shared → Prop} {a : Addr} {u : Value} {T : String} {Q : Value → Shared → Prop} (ha : s.TypeIs (.ref a) "dict") (hu : s.TypeIs u T) (hs : isSubtype (.type T) (.type "dict") = pure false) (q : Q .notImplemented s) :
    wpAny (model P w) A (call (.builtin "dict.__eq__") [.ref a, u]) Q E s := by
  refine wpAny_call_entry PySem.F.slot_dict_eq ha PySem.F.entry_dict_eq ?_ (PySem.F.args_dict_eq_2 _ _)
  show wpAny _ _ (Builtin.Dict.dictSlotArgs "__eq__" ⟨[.ref a, u], []⟩ >>= _) _ _ s
  refine wpAny_bind ?_
  unfold Builtin.Dict.dictSlotArgs
  refine wpAny_bind (wpAny_notOrdered_dict ha ?_)
  show wpAny _ _ (pure (Value.ref a, u)) _ _ s
  refine wpAny_pure ?_
  refine wpAny_bind (wpAny_isInstance (T := T) hu hs ?_)
  simp only [Bool.not_false, if_true]
  exact wpAny_bind (wpAny_rule (wpAny_pure ⟨_, rfl, q⟩))
theorem dne_decl {E : Value → Shared → Prop} {a : Addr} {u : Value} {T : String} {Q : Value → Shared → Prop} (ha : s.TypeIs (.ref a) "dict") (hu : s.TypeIs u T) (hs : isSubtype (.type T) (.type "dict") = pure false) (q : Q .notImplemented s) :
    wpAny (model P w) A (call (.builtin "dict.__ne__") [.ref a, u]) Q E s := by
  refine wpAny_call_entry PySem.F.slot_dict_ne ha PySem.F.entry_dict_ne ?_ (PySem.F.args_dict_ne_2 _ _)
  show wpAny _ _ (Builtin.Dict.dictSlotArgs "__ne__" ⟨[.ref a, u], []⟩ >>= _) _ _ s
  refine wpAny_bind ?_
  unfold Builtin.Dict.dictSlotArgs
  refine wpAny_bind (wpAny_notOrdered_dict ha ?_)
  show wpAny _ _ (pure (Value.ref a, u)) _ _ s
  refine wpAny_pure ?_
  refine wpAny_bind (wpAny_isInstance (T := T) hu hs ?_)
  simp only [Bool.not_false, if_true]
  exact wpAny_bind (wpAny_rule (wpAny_pure ⟨_, rfl, q⟩))

abbrev dObj (es : Array DictEntry) (ep : Nat) : Obj := { cls := .type "dict", dict := none, data := .dict es ep, slots := #[] }
open PySem.AutoSeq1 (wpAny_loadPart')
theorem int_eq_d (b : Int) (u : Tok) (l : Addr) (es : Array DictEntry) (ep : Nat) :
    Meets (Builtin.«int.__eq__» ⟨[.int b u, .ref l], []⟩) (fun _ R s => s.heap.get? l = some (dObj es ep) ∧ R (.ok (.ret .notImplemented)) s) :=
  .of_wp fun prog w A R s hq => by obtain ⟨hp, g, d, tk, os⟩ := s; obtain ⟨hl, hr⟩ := hq; wp_walk using wpAny_loadPart' hl, wpAny_load hl; exact ⟨_, rfl, hr⟩
theorem int_ne_d (b : Int) (u : Tok) (l : Addr) (es : Array DictEntry) (ep : Nat) :
    Meets (Builtin.«int.__ne__» ⟨[.int b u, .ref l], []⟩) (fun _ R s => s.heap.get? l = some (dObj es ep) ∧ R (.ok (.ret .notImplemented)) s) :=
  .of_wp fun prog w A R s hq => by obtain ⟨hp, g, d, tk, os⟩ := s; obtain ⟨hl, hr⟩ := hq; wp_walk using wpAny_loadPart' hl, wpAny_load hl; exact ⟨_, rfl, hr⟩
theorem bool_eq_d (b : Bool) (l : Addr) (es : Array DictEntry) (ep : Nat) :
    Meets (Builtin.«int.__eq__» ⟨[.bool b, .ref l], []⟩) (fun _ R s => s.heap.get? l = some (dObj es ep) ∧ R (.ok (.ret .notImplemented)) s) :=
  .of_wp fun prog w A R s hq => by obtain ⟨hp, g, d, tk, os⟩ := s; obtain ⟨hl, hr⟩ := hq; wp_walk using wpAny_loadPart' hl, wpAny_load hl; exact ⟨_, rfl, hr⟩
theorem bool_ne_d (b : Bool) (l : Addr) (es : Array DictEntry) (ep : Nat) :
    Meets (Builtin.«int.__ne__» ⟨[.bool b, .ref l], []⟩) (fun _ R s => s.heap.get? l = some (dObj es ep) ∧ R (.ok (.ret .notImplemented)) s) :=
  .of_wp fun prog w A R s hq => by obtain ⟨hp, g, d, tk, os⟩ := s; obtain ⟨hl, hr⟩ := hq; wp_walk using wpAny_loadPart' hl, wpAny_load hl; exact ⟨_, rfl, hr⟩
theorem str_eq_d (b : Str) (u : Tok) (l : Addr) (es : Array DictEntry) (ep : Nat) :
    Meets (Builtin.«str.__eq__» ⟨[.str b u, .ref l], []⟩) (fun _ R s => s.heap.get? l = some (dObj es ep) ∧ R (.ok (.ret .notImplemented)) s) :=
  .of_wp fun prog w A R s hq => by obtain ⟨hp, g, d, tk, os⟩ := s; obtain ⟨hl, hr⟩ := hq; wp_walk using wpAny_loadPart' hl, wpAny_load hl; exact ⟨_, rfl, hr⟩
theorem str_ne_d (b : Str) (u : Tok) (l : Addr) (es : Array DictEntry) (ep : Nat) :
    Meets (Builtin.«str.__ne__» ⟨[.str b u, .ref l], []⟩) (fun _ R s => s.heap.get? l = some (dObj es ep) ∧ R (.ok (.ret .notImplemented)) s) :=
  .of_wp fun prog w A R s hq => by obtain ⟨hp, g, d, tk, os⟩ := s; obtain ⟨hl, hr⟩ := hq; wp_walk using wpAny_loadPart' hl, wpAny_load hl; exact ⟨_, rfl, hr⟩
theorem list_eq_d (l b : Addr) (its : Array Value) (n : Nat) (dd : Option Addr) (sl : Array (Option Value)) (es : Array DictEntry) (ep : Nat) :
    Meets (Builtin.«list.__eq__» ⟨[.ref l, .ref b], []⟩) (fun _ R s => s.heap.get? l = some { cls := .type "list", dict := dd, data := .seq its n, slots := sl } ∧ s.heap.get? b = some (dObj es ep) ∧ R (.ok (.ret .notImplemented)) s) :=
  .of_wp fun prog w A R s hq => by obtain ⟨hp, g, d, tk, os⟩ := s; obtain ⟨hl, hb, hr⟩ := hq; have f1 := F.sub_dict_list; wp_walk using wpAny_loadPart' hl, wpAny_loadPart' hb; exact ⟨_, rfl, hr⟩
theorem list_ne_d (l b : Addr) (its : Array Value) (n : Nat) (dd : Option Addr) (sl : Array (Option Value)) (es : Array DictEntry) (ep : Nat) :
    Meets (Builtin.«list.__ne__» ⟨[.ref l, .ref b], []⟩) (fun _ R s => s.heap.get? l = some { cls := .type "list", dict := dd, data := .seq its n, slots := sl } ∧ s.heap.get? b = some (dObj es ep) ∧ R (.ok (.ret .notImplemented)) s) :=
  .of_wp fun prog w A R s hq => by obtain ⟨hp, g, d, tk, os⟩ := s; obtain ⟨hl, hb, hr⟩ := hq; have f1 := F.sub_dict_list; wp_walk using wpAny_loadPart' hl, wpAny_loadPart' hb; exact ⟨_, rfl, hr⟩
theorem tuple_eq_d (l b : Addr) (its : Array Value) (n : Nat) (dd : Option Addr) (sl : Array (Option Value)) (es : Array DictEntry) (ep : Nat) :
    Meets (Builtin.«tuple.__eq__» ⟨[.ref l, .ref b], []⟩) (fun _ R s => s.heap.get? l = some { cls := .type "tuple", dict := dd, data := .seq its n, slots := sl } ∧ s.heap.get? b = some (dObj es ep) ∧ R (.ok (.ret .notImplemented)) s) :=
  .of_wp fun prog w A R s hq => by obtain ⟨hp, g, d, tk, os⟩ := s; obtain ⟨hl, hb, hr⟩ := hq; have f1 := F.sub_dict_tuple; wp_walk using wpAny_loadPart' hl, wpAny_loadPart' hb; exact ⟨_, rfl, hr⟩
theorem tuple_ne_d (l b : Addr) (its : Array Value) (n : Nat) (dd : Option Addr) (sl : Array (Option Value)) (es : Array DictEntry) (ep : Nat) :
    Meets (Builtin.«tuple.__ne__» ⟨[.ref l, .ref b], []⟩) (fun _ R s => s.heap.get? l = some { cls := .type "tuple", dict := dd, data := .seq its n, slots := sl } ∧ s.heap.get? b = some (dObj es ep) ∧ R (.ok (.ret .notImplemented)) s) :=
  .of_wp fun prog w A R s hq => by obtain ⟨hp, g, d, tk, os⟩ := s; obtain ⟨hl, hb, hr⟩ := hq; have f1 := F.sub_dict_tuple; wp_walk using wpAny_loadPart' hl, wpAny_loadPart' hb; exact ⟨_, rfl, hr⟩
theorem same_no {M : Model} {E : Value → Shared → Prop} {x y : Addr} {ox oy : Obj} {R : Bool → Shared → Prop} (hxy : x ≠ y) (hx : s.heap.get? x = some ox) (hy : s.heap.get? y = some oy) (nt : ox.cls ≠ .type "tuple" ∨ oy.cls ≠ .type "tuple")
    (q : R false s) : wpAny M A (isSame (.ref x) (.ref y)) R E s := by
  show wpAny M A (if (x == y) = true then pure true else _) R E s
  rw [if_neg (by simpa using hxy)]
  refine wpAny_bind (wpAny_load hx (wpAny_bind (wpAny_load hy ?_)))
  split
  · rename_i h1 h2 _ _
    rcases nt with z | z
    · exact absurd h1 z
    · exact absurd h2 z
  · exact wpAny_pure q

/-- the comparison v op u answers b -/
def RcIn (P : Program) (w : World) (A : Around) (s : Shared) (op : CmpOp) (v u : Value) (b : Bool) : Prop :=
  ∀ (E Q : Value → Shared → Prop), Q (.bool b) s → wpAny (model P w) A (richCompare op v u) Q E s
theorem deq_or_eq {E : Value → Shared → Prop} {a : Addr} {u : Value} {T : String} {Q : Value → Shared → Prop} (ha : s.TypeIs (.ref a) "dict") (hu : s.TypeIs u T) (hs : isSubtype (.type T) (.type "dict") = pure false) (q : Q .notImplemented s) :
    wpAny (model P w) A (call (.builtin "dict.__eq__") [.ref a, u]) Q E s := deq_decl ha hu hs q
theorem deq_or_ne {E : Value → Shared → Prop} {a : Addr} {u : Value} {T : String} {Q : Value → Shared → Prop} (ha : s.TypeIs (.ref a) "dict") (hu : s.TypeIs u T) (hs : isSubtype (.type T) (.type "dict") = pure false) (q : Q .notImplemented s) :
    wpAny (model P w) A (call (.builtin "dict.__ne__") [.ref a, u]) Q E s := dne_decl ha hu hs q
theorem d_eq_none {a : Addr} {ks : List (Key × Value)} (p : s.heap.DictOf (mixKind P w) a ks) (hu : A.units < cLine) : RcIn P w A s .Eq (.ref a) .none false := fun E Q hx => by
  obtain ⟨es, ep, ho⟩ := dict_obj p
  exact SeqAt.rc_eq_decline_or (k := false) (Ta := "dict") (Tb := "NoneType") ⟨_, ho, rfl⟩ rfl (by decide) F.sub_NoneType_dict F.slot_dict_eq F.slot_NoneType_eq_refl
    (fun _ hq => deq_or_eq (T := "NoneType") ⟨_, ho, rfl⟩ rfl F.sub_NoneType_dict hq) (fun _ hq => call_gives F.slot_NoneType_eq_refl rfl F.entry_NoneType_eq (F.args_NoneType_eq_2 _ _) (SeqAt.NoneType___eq___none_ref_0 a) hq)
    (fun _ hq => wpAny_of_eq (rfl : isSame (.ref a) .none = pure false) hq) (.inr hu) hx
theorem none_eq_dd {a : Addr} {ks : List (Key × Value)} (p : s.heap.DictOf (mixKind P w) a ks) (hu : A.units < cLine) : RcIn P w A s .Eq .none (.ref a) false := fun E Q hx => by
  obtain ⟨es, ep, ho⟩ := dict_obj p
  exact SeqAt.rc_eq_decline_or (k := false) (Ta := "NoneType") (Tb := "dict") rfl ⟨_, ho, rfl⟩ (by decide) F.sub_dict_NoneType F.slot_NoneType_eq F.slot_dict_eq_refl
    (fun _ hq => call_gives F.slot_NoneType_eq rfl F.entry_NoneType_eq (F.args_NoneType_eq_2 _ _) (SeqAt.NoneType___eq___none_ref_0 a) hq) (fun _ hq => deq_or_eq (T := "NoneType") ⟨_, ho, rfl⟩ rfl F.sub_NoneType_dict hq)
    (fun _ hq => wpAny_of_eq (rfl : isSame .none (.ref a) = pure false) hq) (.inr hu) hx
theorem d_eq_bool (b : Bool) {a : Addr} {ks : List (Key × Value)} (p : s.heap.DictOf (mixKind P w) a ks) (hu : A.units < cLine) : RcIn P w A s .Eq (.ref a) (.bool b) false := fun E Q hx => by
  obtain ⟨es, ep, ho⟩ := dict_obj p
  exact SeqAt.rc_eq_decline_or (k := false) (Ta := "dict") (Tb := "bool") ⟨_, ho, rfl⟩ rfl (by decide) F.sub_bool_dict F.slot_dict_eq F.slot_bool_eq_refl
    (fun _ hq => deq_or_eq (T := "bool") ⟨_, ho, rfl⟩ rfl F.sub_bool_dict hq) (fun _ hq => call_meets F.slot_bool_eq_refl rfl F.entry_int_eq (F.args_int_eq_2 _ _) (bool_eq_d b a es ep) ⟨ho, hq⟩)
    (fun _ hq => wpAny_of_eq (rfl : isSame (.ref a) (.bool b) = pure false) hq) (.inr hu) hx
theorem bool_eq_dd (b : Bool) {a : Addr} {ks : List (Key × Value)} (p : s.heap.DictOf (mixKind P w) a ks) (hu : A.units < cLine) : RcIn P w A s .Eq (.bool b) (.ref a) false := fun E Q hx => by
  obtain ⟨es, ep, ho⟩ := dict_obj p
  exact SeqAt.rc_eq_decline_or (k := false) (Ta := "bool") (Tb := "dict") rfl ⟨_, ho, rfl⟩ (by decide) F.sub_dict_bool F.slot_bool_eq F.slot_dict_eq_refl
    (fun _ hq => call_meets F.slot_bool_eq rfl F.entry_int_eq (F.args_int_eq_2 _ _) (bool_eq_d b a es ep) ⟨ho, hq⟩) (fun _ hq => deq_or_eq (T := "bool") ⟨_, ho, rfl⟩ rfl F.sub_bool_dict hq)
    (fun _ hq => wpAny_of_eq (rfl : isSame (.bool b) (.ref a) = pure false) hq) (.inr hu) hx
theorem d_eq_int (b : Int) (t : Tok) {a : Addr} {ks : List (Key × Value)} (p : s.heap.DictOf (mixKind P w) a ks) (hu : A.units < cLine) : RcIn P w A s .Eq (.ref a) (.int b t) false := fun E Q hx => by
  obtain ⟨es, ep, ho⟩ := dict_obj p
  exact SeqAt.rc_eq_decline_or (k := false) (Ta := "dict") (Tb := "int") ⟨_, ho, rfl⟩ rfl (by decide) F.sub_int_dict F.slot_dict_eq F.slot_int_eq_refl
    (fun _ hq => deq_or_eq (T := "int") ⟨_, ho, rfl⟩ rfl F.sub_int_dict hq) (fun _ hq => call_meets F.slot_int_eq_refl rfl F.entry_int_eq (F.args_int_eq_2 _ _) (int_eq_d b t a es ep) ⟨ho, hq⟩)
    (fun _ hq => wpAny_of_eq (rfl : isSame (.ref a) (.int b t) = pure false) hq) (.inr hu) hx
theorem int_eq_dd (b : Int) (t : Tok) {a : Addr} {ks : List (Key × Value)} (p : s.heap.DictOf (mixKind P w) a ks) (hu : A.units < cLine) : RcIn P w A s .Eq (.int b t) (.ref a) false := fun E Q hx => by
  obtain ⟨es, ep, ho⟩ := dict_obj p
  exact SeqAt.rc_eq_decline_or (k := false) (Ta := "int") (Tb := "dict") rfl ⟨_, ho, rfl⟩ (by decide) F.sub_dict_int F.slot_int_eq F.slot_dict_eq_refl
    (fun _ hq => call_meets F.slot_int_eq rfl F.entry_int_eq (F.args_int_eq_2 _ _) (int_eq_d b t a es ep) ⟨ho, hq⟩) (fun _ hq => deq_or_eq (T := "int") ⟨_, ho, rfl⟩ rfl F.sub_int_dict hq)
    (fun _ hq => wpAny_of_eq (rfl : isSame (.int b t) (.ref a) = pure false) hq) (.inr hu) hx
theorem d_eq_str (b : Str) (t : Tok) {a : Addr} {ks : List (Key × Value)} (p : s.heap.DictOf (mixKind P w) a ks) (hu : A.units < cLine) : RcIn P w A s .Eq (.ref a) (.str b t) false := fun E Q hx => by
  obtain ⟨es, ep, ho⟩ := dict_obj p
  exact SeqAt.rc_eq_decline_or (k := false) (Ta := "dict") (Tb := "str") ⟨_, ho, rfl⟩ rfl (by decide) F.sub_str_dict F.slot_dict_eq F.slot_str_eq_refl
    (fun _ hq => deq_or_eq (T := "str") ⟨_, ho, rfl⟩ rfl F.sub_str_dict hq) (fun _ hq => call_meets F.slot_str_eq_refl rfl F.entry_str_eq (F.args_str_eq_2 _ _) (str_eq_d b t a es ep) ⟨ho, hq⟩)
    (fun _ hq => wpAny_of_eq (rfl : isSame (.ref a) (.str b t) = pure false) hq) (.inr hu) hx
theorem str_eq_dd (b : Str) (t : Tok) {a : Addr} {ks : List (Key × Value)} (p : s.heap.DictOf (mixKind P w) a ks) (hu : A.units < cLine) : RcIn P w A s .Eq (.str b t) (.ref a) false := fun E Q hx => by
  obtain ⟨es, ep, ho⟩ := dict_obj p
  exact SeqAt.rc_eq_decline_or (k := false) (Ta := "str") (Tb := "dict") rfl ⟨_, ho, rfl⟩ (by decide) F.sub_dict_str F.slot_str_eq F.slot_dict_eq_refl
    (fun _ hq => call_meets F.slot_str_eq rfl F.entry_str_eq (F.args_str_eq_2 _ _) (str_eq_d b t a es ep) ⟨ho, hq⟩) (fun _ hq => deq_or_eq (T := "str") ⟨_, ho, rfl⟩ rfl F.sub_str_dict hq)
    (fun _ hq => wpAny_of_eq (rfl : isSame (.str b t) (.ref a) = pure false) hq) (.inr hu) hx
theorem d_eq_list {a b : Addr} {ks : List (Key × Value)} {its : Array Value} (p : s.heap.DictOf (mixKind P w) a ks) (q : s.heap.IsList b its) (hu : A.units < cLine) : RcIn P w A s .Eq (.ref a) (.ref b) false := fun E Q hx => by
  have ne : a ≠ b := by rintro rfl; exact dict_not_list p q
  obtain ⟨es, ep, ho⟩ := dict_obj p
  obtain ⟨⟨cls, dd, data, sl⟩, hl, hc, n, hd⟩ := id q
  simp only at hc hd
  subst hc hd
  exact SeqAt.rc_eq_decline_or (k := false) (Ta := "dict") (Tb := "list") ⟨_, ho, rfl⟩ ⟨_, hl, rfl⟩ (by decide) F.sub_list_dict F.slot_dict_eq F.slot_list_eq_refl
    (fun _ hq => deq_or_eq (T := "list") ⟨_, ho, rfl⟩ ⟨_, hl, rfl⟩ F.sub_list_dict hq)
    (fun _ hq => call_meets F.slot_list_eq_refl ⟨_, hl, rfl⟩ F.entry_list_eq (F.args_list_eq_2 _ _) (list_eq_d b a its n dd sl es ep) ⟨hl, ho, hq⟩)
    (fun _ hq => same_no ne ho hl (.inl (show Value.type "dict" ≠ .type "tuple" by decide)) hq) (.inr hu) hx
theorem list_eq_dd {a b : Addr} {ks : List (Key × Value)} {its : Array Value} (p : s.heap.DictOf (mixKind P w) a ks) (q : s.heap.IsList b its) (hu : A.units < cLine) : RcIn P w A s .Eq (.ref b) (.ref a) false := fun E Q hx => by
  have ne : b ≠ a := by rintro rfl; exact dict_not_list p q
  obtain ⟨es, ep, ho⟩ := dict_obj p
  obtain ⟨⟨cls, dd, data, sl⟩, hl, hc, n, hd⟩ := id q
  simp only at hc hd
  subst hc hd
  exact SeqAt.rc_eq_decline_or (k := false) (Ta := "list") (Tb := "dict") ⟨_, hl, rfl⟩ ⟨_, ho, rfl⟩ (by decide) F.sub_dict_list F.slot_list_eq F.slot_dict_eq_refl
    (fun _ hq => call_meets F.slot_list_eq ⟨_, hl, rfl⟩ F.entry_list_eq (F.args_list_eq_2 _ _) (list_eq_d b a its n dd sl es ep) ⟨hl, ho, hq⟩)
    (fun _ hq => deq_or_eq (T := "list") ⟨_, ho, rfl⟩ ⟨_, hl, rfl⟩ F.sub_list_dict hq)
    (fun _ hq => same_no ne hl ho (.inr (show Value.type "dict" ≠ .type "tuple" by decide)) hq) (.inr hu) hx
theorem d_eq_tuple {a b : Addr} {ks : List (Key × Value)} {its : Array Value} (p : s.heap.DictOf (mixKind P w) a ks) (q : s.heap.IsTuple b its) (hu : A.units < cLine) : RcIn P w A s .Eq (.ref a) (.ref b) false := fun E Q hx => by
  have ne : a ≠ b := by rintro rfl; exact dict_not_tuple p q
  obtain ⟨es, ep, ho⟩ := dict_obj p
  obtain ⟨⟨cls, dd, data, sl⟩, hl, hc, n, hd⟩ := id q
  simp only at hc hd
  subst hc hd
  exact SeqAt.rc_eq_decline_or (k := false) (Ta := "dict") (Tb := "tuple") ⟨_, ho, rfl⟩ ⟨_, hl, rfl⟩ (by decide) F.sub_tuple_dict F.slot_dict_eq F.slot_tuple_eq_refl
    (fun _ hq => deq_or_eq (T := "tuple") ⟨_, ho, rfl⟩ ⟨_, hl, rfl⟩ F.sub_tuple_dict hq)
    (fun _ hq => call_meets F.slot_tuple_eq_refl ⟨_, hl, rfl⟩ F.entry_tuple_eq (F.args_tuple_eq_2 _ _) (tuple_eq_d b a its n dd sl es ep) ⟨hl, ho, hq⟩)
    (fun _ hq => same_no ne ho hl (.inl (show Value.type "dict" ≠ .type "tuple" by decide)) hq) (.inr hu) hx
theorem tuple_eq_dd {a b : Addr} {ks : List (Key × Value)} {its : Array Value} (p : s.heap.DictOf (mixKind P w) a ks) (q : s.heap.IsTuple b its) (hu : A.units < cLine) : RcIn P w A s .Eq (.ref b) (.ref a) false := fun E Q hx => by
  have ne : b ≠ a := by rintro rfl; exact dict_not_tuple p q
  obtain ⟨es, ep, ho⟩ := dict_obj p
  obtain ⟨⟨cls, dd, data, sl⟩, hl, hc, n, hd⟩ := id q
  simp only at hc hd
  subst hc hd
  exact SeqAt.rc_eq_decline_or (k := false) (Ta := "tuple") (Tb := "dict") ⟨_, hl, rfl⟩ ⟨_, ho, rfl⟩ (by decide) F.sub_dict_tuple F.slot_tuple_eq F.slot_dict_eq_refl
    (fun _ hq => call_meets F.slot_tuple_eq ⟨_, hl, rfl⟩ F.entry_tuple_eq (F.args_tuple_eq_2 _ _) (tuple_eq_d b a its n dd sl es ep) ⟨hl, ho, hq⟩)
    (fun _ hq => deq_or_eq (T := "tuple") ⟨_, ho, rfl⟩ ⟨_, hl, rfl⟩ F.sub_tuple_dict hq)
    (fun _ hq => same_no ne hl ho (.inr (show Value.type "dict" ≠ .type "tuple" by decide)) hq) (.inr hu) hx
theorem d_ne_none {a : Addr} {ks : List (Key × Value)} (p : s.heap.DictOf (mixKind P w) a ks) (hu : A.units < cLine) : RcIn P w A s .NotEq (.ref a) .none true := fun E Q hx => by
  obtain ⟨es, ep, ho⟩ := dict_obj p
  exact SeqAt.rc_ne_decline_or (k := false) (Ta := "dict") (Tb := "NoneType") ⟨_, ho, rfl⟩ rfl (by decide) F.sub_NoneType_dict F.slot_dict_ne F.slot_NoneType_ne_refl
    (fun _ hq => deq_or_ne (T := "NoneType") ⟨_, ho, rfl⟩ rfl F.sub_NoneType_dict hq) (fun _ hq => call_gives F.slot_NoneType_ne_refl rfl F.entry_NoneType_ne (F.args_NoneType_ne_2 _ _) (SeqAt.NoneType___ne___none_ref_0 a) hq)
    (fun _ hq => wpAny_of_eq (rfl : isSame (.ref a) .none = pure false) hq) (.inr hu) hx
theorem none_ne_dd {a : Addr} {ks : List (Key × Value)} (p : s.heap.DictOf (mixKind P w) a ks) (hu : A.units < cLine) : RcIn P w A s .NotEq .none (.ref a) true := fun E Q hx => by
  obtain ⟨es, ep, ho⟩ := dict_obj p
  exact SeqAt.rc_ne_decline_or (k := false) (Ta := "NoneType") (Tb := "dict") rfl ⟨_, ho, rfl⟩ (by decide) F.sub_dict_NoneType F.slot_NoneType_ne F.slot_dict_ne_refl
    (fun _ hq => call_gives F.slot_NoneType_ne rfl F.entry_NoneType_ne (F.args_NoneType_ne_2 _ _) (SeqAt.NoneType___ne___none_ref_0 a) hq) (fun _ hq => deq_or_ne (T := "NoneType") ⟨_, ho, rfl⟩ rfl F.sub_NoneType_dict hq)
    (fun _ hq => wpAny_of_eq (rfl : isSame .none (.ref a) = pure false) hq) (.inr hu) hx
theorem d_ne_bool (b : Bool) {a : Addr} {ks : List (Key × Value)} (p : s.heap.DictOf (mixKind P w) a ks) (hu : A.units < cLine) : RcIn P w A s .NotEq (.ref a) (.bool b) true := fun E Q hx => by
  obtain ⟨es, ep, ho⟩ := dict_obj p
  exact SeqAt.rc_ne_decline_or (k := false) (Ta := "dict") (Tb := "bool") ⟨_, ho, rfl⟩ rfl (by decide) F.sub_bool_dict F.slot_dict_ne F.slot_bool_ne_refl
    (fun _ hq => deq_or_ne (T := "bool") ⟨_, ho, rfl⟩ rfl F.sub_bool_dict hq) (fun _ hq => call_meets F.slot_bool_ne_refl rfl F.entry_int_ne (F.args_int_ne_2 _ _) (bool_ne_d b a es ep) ⟨ho, hq⟩)
    (fun _ hq => wpAny_of_eq (rfl : isSame (.ref a) (.bool b) = pure false) hq) (.inr hu) hx
theorem bool_ne_dd (b : Bool) {a : Addr} {ks : List (Key × Value)} (p : s.heap.DictOf (mixKind P w) a ks) (hu : A.units < cLine) : RcIn P w A s .NotEq (.bool b) (.ref a) true := fun E Q hx => by
  obtain ⟨es, ep, ho⟩ := dict_obj p
  exact SeqAt.rc_ne_decline_or (k := false) (Ta := "bool") (Tb := "dict") rfl ⟨_, ho, rfl⟩ (by decide) F.sub_dict_bool F.slot_bool_ne F.slot_dict_ne_refl
    (fun _ hq => call_meets F.slot_bool_ne rfl F.entry_int_ne (F.args_int_ne_2 _ _) (bool_ne_d b a es ep) ⟨ho, hq⟩) (fun _ hq => deq_or_ne (T := "bool") ⟨_, ho, rfl⟩ rfl F.sub_bool_dict hq)
    (fun _ hq => wpAny_of_eq (rfl : isSame (.bool b) (.ref a) = pure false) hq) (.inr hu) hx
theorem d_ne_int (b : Int) (t : Tok) {a : Addr} {ks : List (Key × Value)} (p : s.heap.DictOf (mixKind P w) a ks) (hu : A.units < cLine) : RcIn P w A s .NotEq (.ref a) (.int b t) true := fun E Q hx => by
  obtain ⟨es, ep, ho⟩ := dict_obj p
  exact SeqAt.rc_ne_decline_or (k := false) (Ta := "dict") (Tb := "int") ⟨_, ho, rfl⟩ rfl (by decide) F.sub_int_dict F.slot_dict_ne F.slot_int_ne_refl
    (fun _ hq => deq_or_ne (T := "int") ⟨_, ho, rfl⟩ rfl F.sub_int_dict hq) (fun _ hq => call_meets F.slot_int_ne_refl rfl F.entry_int_ne (F.args_int_ne_2 _ _) (int_ne_d b t a es ep) ⟨ho, hq⟩)
    (fun _ hq => wpAny_of_eq (rfl : isSame (.ref a) (.int b t) = pure false) hq) (.inr hu) hx
theorem int_ne_dd (b : Int) (t : Tok) {a : Addr} {ks : List (Key × Value)} (p : s.heap.DictOf (mixKind P w) a ks) (hu : A.units < cLine) : RcIn P w A s .NotEq (.int b t) (.ref a) true := fun E Q hx => by
  obtain ⟨es, ep, ho⟩ := dict_obj p
  exact SeqAt.rc_ne_decline_or (k := false) (Ta := "int") (Tb := "dict") rfl ⟨_, ho, rfl⟩ (by decide) F.sub_dict_int F.slot_int_ne F.slot_dict_ne_refl
    (fun _ hq => call_meets F.slot_int_ne rfl F.entry_int_ne (F.args_int_ne_2 _ _) (int_ne_d b t a es ep) ⟨ho, hq⟩) (fun _ hq => deq_or_ne (T := "int") ⟨_, ho, rfl⟩ rfl F.sub_int_dict hq)
    (fun _ hq => wpAny_of_eq (rfl : isSame (.int b t) (.ref a) = pure false) hq) (.inr hu) hx
theorem d_ne_str (b : Str) (t : Tok) {a : Addr} {ks : List (Key × Value)} (p : s.heap.DictOf (mixKind P w) a ks) (hu : A.units < cLine) : RcIn P w A s .NotEq (.ref a) (.str b t) true := fun E Q hx => by
  obtain ⟨es, ep, ho⟩ := dict_obj p
  exact SeqAt.rc_ne_decline_or (k := false) (Ta := "dict") (Tb := "str") ⟨_, ho, rfl⟩ rfl (by decide) F.sub_str_dict F.slot_dict_ne F.slot_str_ne_refl
    (fun _ hq => deq_or_ne (T := "str") ⟨_, ho, rfl⟩ rfl F.sub_str_dict hq) (fun _ hq => call_meets F.slot_str_ne_refl rfl F.entry_str_ne (F.args_str_ne_2 _ _) (str_ne_d b t a es ep) ⟨ho, hq⟩)
    (fun _ hq => wpAny_of_eq (rfl : isSame (.ref a) (.str b t) = pure false) hq) (.inr hu) hx
theorem str_ne_dd (b : Str) (t : Tok) {a : Addr} {ks : List (Key × Value)} (p : s.heap.DictOf (mixKind P w) a ks) (hu : A.units < cLine) : RcIn P w A s .NotEq (.str b t) (.ref a) true := fun E Q hx => by
  obtain ⟨es, ep, ho⟩ := dict_obj p
  exact SeqAt.rc_ne_decline_or (k := false) (Ta := "str") (Tb := "dict") rfl ⟨_, ho, rfl⟩ (by decide) F.sub_dict_str F.slot_str_ne F.slot_dict_ne_refl
    (fun _ hq => call_meets F.slot_str_ne rfl F.entry_str_ne (F.args_str_ne_2 _ _) (str_ne_d b t a es ep) ⟨ho, hq⟩) (fun _ hq => deq_or_ne (T := "str") ⟨_, ho, rfl⟩ rfl F.sub_str_dict hq)
    (fun _ hq => wpAny_of_eq (rfl : isSame (.str b t) (.ref a) = pure false) hq) (.inr hu) hx
theorem d_ne_list {a b : Addr} {ks : List (Key × Value)} {its : Array Value} (p : s.heap.DictOf (mixKind P w) a ks) (q : s.heap.IsList b its) (hu : A.units < cLine) : RcIn P w A s .NotEq (.ref a) (.ref b) true := fun E Q hx => by
  have ne : a ≠ b := by rintro rfl; exact dict_not_list p q
  obtain ⟨es, ep, ho⟩ := dict_obj p
  obtain ⟨⟨cls, dd, data, sl⟩, hl, hc, n, hd⟩ := id q
  simp only at hc hd
  subst hc hd
  exact SeqAt.rc_ne_decline_or (k := false) (Ta := "dict") (Tb := "list") ⟨_, ho, rfl⟩ ⟨_, hl, rfl⟩ (by decide) F.sub_list_dict F.slot_dict_ne F.slot_list_ne_refl
    (fun _ hq => deq_or_ne (T := "list") ⟨_, ho, rfl⟩ ⟨_, hl, rfl⟩ F.sub_list_dict hq)
    (fun _ hq => call_meets F.slot_list_ne_refl ⟨_, hl, rfl⟩ F.entry_list_ne (F.args_list_ne_2 _ _) (list_ne_d b a its n dd sl es ep) ⟨hl, ho, hq⟩)
    (fun _ hq => same_no ne ho hl (.inl (show Value.type "dict" ≠ .type "tuple" by decide)) hq) (.inr hu) hx
theorem list_ne_dd {a b : Addr} {ks : List (Key × Value)} {its : Array Value} (p : s.heap.DictOf (mixKind P w) a ks) (q : s.heap.IsList b its) (hu : A.units < cLine) : RcIn P w A s .NotEq (.ref b) (.ref a) true := fun E Q hx => by
  have ne : b ≠ a := by rintro rfl; exact dict_not_list p q
  obtain ⟨es, ep, ho⟩ := dict_obj p
  obtain ⟨⟨cls, dd, data, sl⟩, hl, hc, n, hd⟩ := id q
  simp only at hc hd
  subst hc hd
  exact SeqAt.rc_ne_decline_or (k := false) (Ta := "list") (Tb := "dict") ⟨_, hl, rfl⟩ ⟨_, ho, rfl⟩ (by decide) F.sub_dict_list F.slot_list_ne F.slot_dict_ne_refl
    (fun _ hq => call_meets F.slot_list_ne ⟨_, hl, rfl⟩ F.entry_list_ne (F.args_list_ne_2 _ _) (list_ne_d b a its n dd sl es ep) ⟨hl, ho, hq⟩)
    (fun _ hq => deq_or_ne (T := "list") ⟨_, ho, rfl⟩ ⟨_, hl, rfl⟩ F.sub_list_dict hq)
    (fun _ hq => same_no ne hl ho (.inr (show Value.type "dict" ≠ .type "tuple" by decide)) hq) (.inr hu) hx
theorem d_ne_tuple {a b : Addr} {ks : List (Key × Value)} {its : Array Value} (p : s.heap.DictOf (mixKind P w) a ks) (q : s.heap.IsTuple b its) (hu : A.units < cLine) : RcIn P w A s .NotEq (.ref a) (.ref b) true := fun E Q hx => by
  have ne : a ≠ b := by rintro rfl; exact dict_not_tuple p q
  obtain ⟨es, ep, ho⟩ := dict_obj p
  obtain ⟨⟨cls, dd, data, sl⟩, hl, hc, n, hd⟩ := id q
  simp only at hc hd
  subst hc hd
  exact SeqAt.rc_ne_decline_or (k := false) (Ta := "dict") (Tb := "tuple") ⟨_, ho, rfl⟩ ⟨_, hl, rfl⟩ (by decide) F.sub_tuple_dict F.slot_dict_ne F.slot_tuple_ne_refl
    (fun _ hq => deq_or_ne (T := "tuple") ⟨_, ho, rfl⟩ ⟨_, hl, rfl⟩ F.sub_tuple_dict hq)
    (fun _ hq => call_meets F.slot_tuple_ne_refl ⟨_, hl, rfl⟩ F.entry_tuple_ne (F.args_tuple_ne_2 _ _) (tuple_ne_d b a its n dd sl es ep) ⟨hl, ho, hq⟩)
    (fun _ hq => same_no ne ho hl (.inl (show Value.type "dict" ≠ .type "tuple" by decide)) hq) (.inr hu) hx
theorem tuple_ne_dd {a b : Addr} {ks : List (Key × Value)} {its : Array Value} (p : s.heap.DictOf (mixKind P w) a ks) (q : s.heap.IsTuple b its) (hu : A.units < cLine) : RcIn P w A s .NotEq (.ref b) (.ref a) true := fun E Q hx => by
  have ne : b ≠ a := by rintro rfl; exact dict_not_tuple p q
  obtain ⟨es, ep, ho⟩ := dict_obj p
  obtain ⟨⟨cls, dd, data, sl⟩, hl, hc, n, hd⟩ := id q
  simp only at hc hd
  subst hc hd
  exact SeqAt.rc_ne_decline_or (k := false) (Ta := "tuple") (Tb := "dict") ⟨_, hl, rfl⟩ ⟨_, ho, rfl⟩ (by decide) F.sub_dict_tuple F.slot_tuple_ne F.slot_dict_ne_refl
    (fun _ hq => call_meets F.slot_tuple_ne ⟨_, hl, rfl⟩ F.entry_tuple_ne (F.args_tuple_ne_2 _ _) (tuple_ne_d b a its n dd sl es ep) ⟨hl, ho, hq⟩)
    (fun _ hq => deq_or_ne (T := "tuple") ⟨_, ho, rfl⟩ ⟨_, hl, rfl⟩ F.sub_tuple_dict hq)
    (fun _ hq => same_no ne hl ho (.inr (show Value.type "dict" ≠ .type "tuple" by decide)) hq) (.inr hu) hx

/-! ### lists, tuples, dicts of things whose == is known -/
section
open MeetsSeq MeetsSeq2 MeetsSeq3 SeqRoads2 SeqAt
abbrev lObj (xs : Array Value) (n : Nat) (dd : Option Addr) (sl : Array (Option Value)) : Obj := { cls := .type "list", dict := dd, data := .seq xs n, slots := sl }
abbrev tObj (xs : Array Value) (n : Nat) (dd : Option Addr) (sl : Array (Option Value)) : Obj := { cls := .type "tuple", dict := dd, data := .seq xs n, slots := sl }
theorem neLoopI (l b : Addr) (xs ys : Array Value) (n m : Nat) (dx dy : Option Addr) (sx sy : Array (Option Value)) (hsz : xs.size = ys.size) (e : Nat → Bool) (k : Nat) :
    ∀ i : Nat, xs.size - i = k → MeetsIn P w (Builtin.«list.__eq__.loop» ⟨[.ref l, .ref b, rawInt i, rawInt 3], []⟩)
      (fun A R s => s.heap.get? l = some (lObj xs n dx sx) ∧ s.heap.get? b = some (lObj ys m dy sy) ∧
        (∀ j (h1 : j < xs.size) (h2 : j < ys.size), EqIn P w A.in1 s xs[j] ys[j] (e j)) ∧
        R (.ok (.ret (.bool (!((List.range xs.size).drop i).all e)))) s) := by
  induction k with
  | zero =>
    intro i hk A R s hq
    obtain ⟨hp, g, d, tk, os⟩ := s; obtain ⟨hl, hb, he, hr⟩ := hq
    wp_walk using wpAny_loadPart' hl, wpAny_loadPart' hb
    have o1 : xs[((i : Nat) : Int).toNat]? = none := by simp; omega
    have o2 : ys[((i : Nat) : Int).toNat]? = none := by simp; omega
    have dn : (List.range xs.size).drop i = [] := by simp; omega
    rw [dn] at hr
    rw [o1, o2]
    wp_walk using wpAny_loadPart' hl, wpAny_loadPart' hb
    show R (.ok (.ret (.bool (xs.size != ys.size)))) _
    rw [hsz]
    simpa using hr
  | succ k ih =>
    intro i hk A R s hq
    obtain ⟨hp, g, d, tk, os⟩ := s; obtain ⟨hl, hb, he, hr⟩ := hq
    wp_walk using wpAny_loadPart' hl, wpAny_loadPart' hb
    have l1 : i < xs.size := by omega
    have l2 : i < ys.size := by omega
    have o1 : xs[((i : Nat) : Int).toNat]? = some xs[i] := by simp [l1]
    have o2 : ys[((i : Nat) : Int).toNat]? = some ys[i] := by simp [l2]
    have dn : (List.range xs.size).drop i = i :: (List.range xs.size).drop (i + 1) := by simp [List.drop_eq_getElem_cons, l1]
    have ci : ((i : Int) + 1) = ((i + 1 : Nat) : Int) := by push_cast; rfl
    rw [dn, List.all_cons] at hr
    rw [o1, o2]
    refine wpAny_bind (he i l1 l2 _ _ ?_)
    cases be : e i with
    | true =>
      rw [be] at hr
      wp_walk
      rw [ci]
      exact ⟨plainId_quiet plain_eq_loop _, codeAny_builtin entry_eq_loop (by
        rw [Around.under_plainId plain_eq_loop _]
        exact ih (i + 1) (by omega) A R _ ⟨hl, hb, he, by simpa using hr⟩)⟩
    | false =>
      rw [be] at hr
      wp_walk using wpAny_loadPart' hl, wpAny_loadPart' hb
      rw [o1, o2]
      wp_walk
      simpa using hr
theorem listNeI (l b : Addr) (xs ys : Array Value) (n m : Nat) (dx dy : Option Addr) (sx sy : Array (Option Value)) (hsz : xs.size = ys.size) (e : Nat → Bool) :
    MeetsIn P w (Builtin.«list.__ne__» ⟨[.ref l, .ref b], []⟩)
      (fun A R s => s.heap.get? l = some (lObj xs n dx sx) ∧ s.heap.get? b = some (lObj ys m dy sy) ∧
        (∀ j (h1 : j < xs.size) (h2 : j < ys.size), EqIn P w A.in1 s xs[j] ys[j] (e j)) ∧
        R (.ok (.ret (.bool (!(List.range xs.size).all e)))) s) := by
  intro A R s hq
  obtain ⟨hp, g, d, tk, os⟩ := s; obtain ⟨hl, hb, he, hr⟩ := hq
  have f3 := AutoSeq1.sub_list_list
  have hne : ¬ (xs.size != ys.size) = true := by simp [hsz]
  wp_walk using wpAny_loadPart' hl, wpAny_loadPart' hb
  exact ⟨plainId_quiet plain_eq_loop _, codeAny_builtin entry_eq_loop (by
    rw [Around.under_plainId plain_eq_loop _]
    exact neLoopI l b xs ys n m dx dy sx sy hsz e _ 0 rfl A R _ ⟨hl, hb, he, by simpa using hr⟩)⟩
theorem tupleNeI (l b : Addr) (xs ys : Array Value) (n m : Nat) (dx dy : Option Addr) (sx sy : Array (Option Value)) (e : Nat → Bool) :
    MeetsIn P w (Builtin.«tuple.__ne__» ⟨[.ref l, .ref b], []⟩)
      (fun A R s => s.heap.get? l = some (tObj xs n dx sx) ∧ s.heap.get? b = some (tObj ys m dy sy) ∧
        (∀ j (h1 : j < xs.size) (h2 : j < ys.size), EqIn P w A.in1 s xs[j] ys[j] (e j)) ∧
        R (.ok (.ret (.bool (!((List.range (min xs.size ys.size)).all e && xs.size == ys.size))))) s) := by
  intro A R s hq
  obtain ⟨hp, g, d, tk, os⟩ := s; obtain ⟨hl, hb, he, hr⟩ := hq
  have f2 := AutoSeq1.sub_tuple_tuple
  have zl : (xs.toList.zip ys.toList).length = min xs.size ys.size := by simp
  wp_walk using wpAny_loadPart' hl, wpAny_loadPart' hb, wpAny_forIn_list _ (fun rest b s' => b.1 = none ∧ s' = ⟨hp, g, d, tk, os⟩ ∧ ∃ i, rest = (xs.toList.zip ys.toList).drop i ∧
    R (.ok (.ret (.bool (!(((List.range (min xs.size ys.size)).drop i).all e && xs.size == ys.size))))) ⟨hp, g, d, tk, os⟩) _
  case turn =>
    rintro ⟨y, x⟩ rest b s' ⟨eb, rfl, i, hz, hR⟩
    have lt : i < (xs.toList.zip ys.toList).length := by
      rcases Nat.lt_or_ge i (xs.toList.zip ys.toList).length with z | z
      · exact z
      · rw [List.drop_of_length_le z] at hz; cases hz
    have hm : i < min xs.size ys.size := zl ▸ lt
    have h1 : i < xs.size := Nat.lt_of_lt_of_le hm (Nat.min_le_left _ _)
    have h2 : i < ys.size := Nat.lt_of_lt_of_le hm (Nat.min_le_right _ _)
    rw [List.drop_eq_getElem_cons lt] at hz
    injection hz with hyx hrest
    have ey : y = xs[i] := by have := congrArg Prod.fst hyx; simpa using this
    have ex : x = ys[i] := by have := congrArg Prod.snd hyx; simpa using this
    subst ey ex
    have dn : (List.range (min xs.size ys.size)).drop i = i :: (List.range (min xs.size ys.size)).drop (i + 1) := by simp [List.drop_eq_getElem_cons, hm]
    rw [dn, List.all_cons] at hR
    refine wpAny_bind (he i h1 h2 _ _ ?_)
    cases be : e i with
    | true =>
      rw [be] at hR
      wp_walk
      exact ⟨rfl, rfl, i + 1, hrest, by simpa using hR⟩
    | false =>
      rw [be] at hR
      wp_walk
      simpa using hR
  case fin =>
    rintro ⟨b1, b2⟩ s' ⟨eb, rfl, i, hz, hR⟩
    simp only at eb
    subst eb
    have ge : min xs.size ys.size ≤ i := by
      rcases Nat.lt_or_ge i (xs.toList.zip ys.toList).length with z | z
      · rw [List.drop_eq_getElem_cons z] at hz; cases hz
      · exact zl ▸ z
    rw [List.drop_of_length_le (by simpa using ge)] at hR
    wp_walk
    simpa [Builtin.Tuple.tupleCompareSizes, bne] using hR
  case h =>
    exact ⟨rfl, rfl, 0, rfl, by simpa using hr⟩
end
theorem ne_lists {l b : Addr} {xs ys : Array Value} {e : Nat → Bool} (hl : s.heap.IsList l xs) (hb : s.heap.IsList b ys) (hsz : xs.size = ys.size) (hu : A.units < cLine)
    (he : ∀ j (h1 : j < xs.size) (h2 : j < ys.size), EqIn P w A.in1 s xs[j] ys[j] (e j)) : RcIn P w A s .NotEq (.ref l) (.ref b) (!(List.range xs.size).all e) := fun E Q hx => by
  obtain ⟨⟨c1, d1, dt1, s1⟩, o1, z1, n, y1⟩ := id hl
  obtain ⟨⟨c2, d2, dt2, s2⟩, o2, z2, m, y2⟩ := id hb
  simp only at z1 y1 z2 y2
  subst z1 y1 z2 y2
  exact wpAny_richCompare_same_room (T := "list") (op := .NotEq) ⟨_, o1, rfl⟩ ⟨_, o2, rfl⟩ F.slot_list_ne (call_meetsIn F.slot_list_ne ⟨_, o1, rfl⟩ F.entry_list_ne (F.args_list_ne_2 _ _) (listNeI l b xs ys n m d1 d2 s1 s2 hsz e)
    ⟨o1, o2, he, show Value.bool (!(List.range xs.size).all e) ≠ Value.notImplemented ∧ Q (.bool (!(List.range xs.size).all e)) s from ⟨(fun x => nomatch x), hx⟩⟩) hu
theorem ne_tuples {l b : Addr} {xs ys : Array Value} {e : Nat → Bool} (hl : s.heap.IsTuple l xs) (hb : s.heap.IsTuple b ys) (hu : A.units < cLine)
    (he : ∀ j (h1 : j < xs.size) (h2 : j < ys.size), EqIn P w A.in1 s xs[j] ys[j] (e j)) : RcIn P w A s .NotEq (.ref l) (.ref b) (!((List.range (min xs.size ys.size)).all e && xs.size == ys.size)) := fun E Q hx => by
  obtain ⟨⟨c1, d1, dt1, s1⟩, o1, z1, n, y1⟩ := id hl
  obtain ⟨⟨c2, d2, dt2, s2⟩, o2, z2, m, y2⟩ := id hb
  simp only at z1 y1 z2 y2
  subst z1 y1 z2 y2
  exact wpAny_richCompare_same_room (T := "tuple") (op := .NotEq) ⟨_, o1, rfl⟩ ⟨_, o2, rfl⟩ F.slot_tuple_ne (call_meetsIn F.slot_tuple_ne ⟨_, o1, rfl⟩ F.entry_tuple_ne (F.args_tuple_ne_2 _ _) (tupleNeI l b xs ys n m d1 d2 s1 s2 e)
    ⟨o1, o2, he, show Value.bool (!((List.range (min xs.size ys.size)).all e && xs.size == ys.size)) ≠ Value.notImplemented ∧ Q (.bool (!((List.range (min xs.size ys.size)).all e && xs.size == ys.size))) s from ⟨(fun x => nomatch x), hx⟩⟩) hu
theorem ne_dicts {a b : Addr} {ka kb : List (Key × Value)} {r : Bool} (ha : (a == sysModules) = false) (hb : (b == sysModules) = false) (da : s.heap.DictOf (mixKind P w) a ka) (db : s.heap.DictOf (mixKind P w) b kb)
    (hu : A.units < cLine) (hits : ka.length = kb.length → PySem.W.KeqHitsIn P w A.in1 s kb ka r) : RcIn P w A s .NotEq (.ref a) (.ref b) (!(ka.length == kb.length && r)) := fun E Q hx => by
  refine wpAny_richCompare_same_room (op := .NotEq) da.typeIs db.typeIs PySem.F.slot_dict_ne (wpAny_call_entry PySem.F.slot_dict_ne da.typeIs PySem.F.entry_dict_ne ?_ (PySem.F.args_dict_ne_2 _ _)) hu
  show wpAny _ _ (Builtin.Dict.dictSlotArgs "__ne__" ⟨[.ref a, .ref b], []⟩ >>= _) _ _ s
  refine wpAny_bind ?_
  unfold Builtin.Dict.dictSlotArgs
  refine wpAny_bind (wpAny_notOrdered_dict da.typeIs ?_)
  show wpAny _ _ (pure (Value.ref a, Value.ref b)) _ _ s
  refine wpAny_pure (wpAny_bind (wpAny_isInstance (T := "dict") db.typeIs PySem.F.sub_dict_dict ?_))
  simp only [Bool.not_true, Bool.false_eq_true, if_false]
  refine wpAny_bind (wpAny_pure (wpAny_bind (wpAny_pure (wpAny_bind (PySem.W.keq_samePairsIn ha hb da db hits ?_)))))
  refine wpAny_pure ⟨_, rfl, ?_, ?_⟩
  · exact fun z => nomatch z
  · simpa using hx

/-! ### the answer of a comparison is D.eqv -/
theorem eqIn_of_rc {d : D} {v u : Value} {b : Bool} (rd : Rep P w s.heap d v) (hs : v = u → b = true) (hr : RcIn P w A s .Eq v u b) : EqIn P w A s v u b := fun E Q q => by
  by_cases e : v = u
  · have z := hs e
    subst z e
    exact (SeqAt.EqAt.same v) P w E Q q
  · have nb : ¬ (v == u) = true := fun z => e (eq_of_beq z)
    cases d <;> unfold Rep at rd
    case non => subst rd; unfold eqBool; refine wpAny_holding (wpAny_ite_split (fun z => absurd z nb) fun _ => ?_); exact wpAny_bind (hr E _ (wpAny_truthy_bool q))
    case bl => subst rd; unfold eqBool; refine wpAny_holding (wpAny_ite_split (fun z => absurd z nb) fun _ => ?_); exact wpAny_bind (hr E _ (wpAny_truthy_bool q))
    case int => obtain ⟨_, rfl⟩ := rd; unfold eqBool; refine wpAny_holding (wpAny_ite_split (fun z => absurd z nb) fun _ => ?_); exact wpAny_bind (hr E _ (wpAny_truthy_bool q))
    case str => obtain ⟨_, rfl⟩ := rd; unfold eqBool; refine wpAny_holding (wpAny_ite_split (fun z => absurd z nb) fun _ => ?_); exact wpAny_bind (hr E _ (wpAny_truthy_bool q))
    case tup => obtain ⟨_, _, rfl, _⟩ := rd; unfold eqBool; refine wpAny_holding (wpAny_ite_split (fun z => absurd z nb) fun _ => ?_); exact wpAny_bind (hr E _ (wpAny_truthy_bool q))
    case lst => obtain ⟨_, _, rfl, _⟩ := rd; unfold eqBool; refine wpAny_holding (wpAny_ite_split (fun z => absurd z nb) fun _ => ?_); exact wpAny_bind (hr E _ (wpAny_truthy_bool q))
    case dic => obtain ⟨_, _, rfl, _⟩ := rd; unfold eqBool; refine wpAny_holding (wpAny_ite_split (fun z => absurd z nb) fun _ => ?_); exact wpAny_bind (hr E _ (wpAny_truthy_bool q))
theorem getD_at {xs : List D} {j : Nat} (hj : j < xs.length) : xs.getD j .non = xs[j] := by simp [List.getD, hj]
theorem valueAt_of_mem : ∀ {xs : List (Key × Value)} {k : Key} {v : Value}, (xs.map (·.1)).Nodup → (k, v) ∈ xs → valueAt xs k = some v
  | (j, x) :: xs, k, v, nd, m => by
    rw [valueAt_cons]
    rcases List.mem_cons.mp m with e | m
    · cases e; rw [if_pos rfl]
    · have nd' := List.nodup_cons.mp nd
      rw [if_neg fun e => nd'.1 (by subst e; exact List.mem_map.mpr ⟨(j, v), m, rfl⟩)]
      exact valueAt_of_mem nd'.2 m
theorem eqvL_range : ∀ (xs ys : List D), ((List.range (min xs.length ys.length)).all (fun j => D.eqv (xs.getD j .non) (ys.getD j .non)) && xs.length == ys.length) = D.eqvL xs ys
  | [], ys => by
    cases ys <;> simp [D.eqvL]
  | x :: xs, [] => by simp [D.eqvL]
  | x :: xs, y :: ys => by
    have ih := eqvL_range xs ys
    rw [D.eqvL, ← ih]
    have e : min (x :: xs).length (y :: ys).length = min xs.length ys.length + 1 := by simp only [List.length_cons]; omega
    rw [e, List.range_succ_eq_map, List.all_cons, List.all_map]
    have e2 : ((x :: xs).length == (y :: ys).length) = (xs.length == ys.length) := by simp
    rw [e2, Bool.and_assoc]
    rfl
theorem eqvL_range' {xs ys : List D} (h : xs.length = ys.length) : (List.range xs.length).all (fun j => D.eqv (xs.getD j .non) (ys.getD j .non)) = D.eqvL xs ys := by
  rw [← eqvL_range, h, Nat.min_self]; simp
theorem eqvL_len : ∀ {xs ys : List D}, xs.length ≠ ys.length → D.eqvL xs ys = false
  | [], [], h => absurd rfl h
  | [], _ :: _, _ => by simp [D.eqvL]
  | _ :: _, [], _ => by simp [D.eqvL]
  | x :: xs, y :: ys, h => by rw [D.eqvL, eqvL_len (by simpa using h), Bool.and_false]
/-- the answers for the keys -/
def eqAtKey (xs ys : List (Key × D)) (k : Key) : Bool := match look xs k, look ys k with
  | some x, some y => D.eqv x y
  | _, _ => true
theorem deepL_mem : ∀ {xs : List D} {d : D}, d ∈ xs → D.deep d ≤ D.deepL xs
  | x :: xs, d, m => by
    unfold D.deepL
    rcases List.mem_cons.mp m with e | m
    · subst e; omega
    · have := deepL_mem m; omega
theorem deepK_mem : ∀ {xs : List (Key × D)} {k : Key} {d : D}, (k, d) ∈ xs → D.deep d ≤ D.deepK xs
  | (j, x) :: xs, k, d, m => by
    unfold D.deepK
    rcases List.mem_cons.mp m with e | m
    · cases e; omega
    · have := deepK_mem m; omega
theorem eqvK_all {ys : List (Key × D)} {vs : List (Key × Value)} (r : RepK P w s.heap ys vs) : ∀ (pre xs : List (Key × D)) (us : List (Key × Value)), ((pre ++ xs).map (·.1)).Nodup → RepK P w s.heap xs us →
    (us.all fun p => (valueAt vs p.1).isSome && eqAtKey (pre ++ xs) ys p.1) = D.eqvK xs ys
  | _, [], us, _, q => by unfold RepK at q; subst q; simp [D.eqvK]
  | pre, (k, x) :: xs, us, nd, q => by
    unfold RepK at q
    obtain ⟨u, q', rfl, _, q⟩ := q
    have ih := eqvK_all r (pre ++ [(k, x)]) xs q' (by simpa using nd) q
    rw [List.all_cons, D.eqvK]
    rw [show pre ++ (k, x) :: xs = (pre ++ [(k, x)]) ++ xs by simp, ih]
    congr 1
    unfold eqAtKey
    rw [show (pre ++ [(k, x)]) ++ xs = pre ++ (k, x) :: xs by simp, look_of_tail nd]
    rcases r.look k with ⟨e1, e2⟩ | ⟨d, v, e1, e2, _⟩
    · rw [e1, e2]; simp
    · rw [e1, e2]; simp

def DepthOk (A : Around) (d : D) : Prop := A.units + D.deep d + 1 < cLine
theorem DepthOk.u {d : D} (h : DepthOk A d) : A.units < cLine := by unfold DepthOk at h; omega
theorem DepthOk.in_tup {xs : List D} {d : D} (h : DepthOk A (.tup xs)) (m : d ∈ xs) : DepthOk A.in1 d := by
  unfold DepthOk D.deep at *
  have := deepL_mem m
  show A.units + 1 + _ + 1 < _
  cases d <;> simp only [D.deep] at * <;> omega
theorem DepthOk.in_lst {xs : List D} {d : D} (h : DepthOk A (.lst xs)) (m : d ∈ xs) : DepthOk A.in1 d := by
  unfold DepthOk D.deep at *
  have := deepL_mem m
  show A.units + 1 + _ + 1 < _
  cases d <;> simp only [D.deep] at * <;> omega
theorem DepthOk.in_dic {xs : List (Key × D)} {k : Key} {d : D} (h : DepthOk A (.dic xs)) (m : (k, d) ∈ xs) : DepthOk A.in1 d := by
  unfold DepthOk D.deep at *
  have := deepK_mem m
  show A.units + 1 + _ + 1 < _
  cases d <;> simp only [D.deep] at * <;> omega
theorem sizeOf_snd {k : Key} {d : D} {xs : List (Key × D)} (m : (k, d) ∈ xs) : sizeOf d < sizeOf xs := by
  have a := List.sizeOf_lt_of_mem m
  have b : sizeOf (k, d) = 1 + sizeOf k + sizeOf d := rfl
  omega
mutual
theorem eqIn : ∀ (d e : D) (u v : Value) (A : Around), DepthOk A d → Rep P w s.heap d u → Rep P w s.heap e v → EqIn P w A s u v (D.eqv d e)
  | d, e, u, v, A, hu, ru, rv => by
    refine eqIn_of_rc ru (fun z => ?_) (rcEq d e u v A hu ru rv)
    subst z
    have z := Rep.uniq d e u ru rv
    subst z
    exact Rep.self d u ru
  termination_by d => (sizeOf d, 1)
theorem rcEq : ∀ (d e : D) (u v : Value) (A : Around), DepthOk A d → Rep P w s.heap d u → Rep P w s.heap e v → RcIn P w A s .Eq u v (D.eqv d e)
  | .non , e, u, v, A, hu, ru, rv => by
    unfold Rep at ru; subst ru
    cases e with
    | non  =>
      unfold Rep at rv; subst rv
      have zz := (fun E Q z => SeqAt.RcAt.none_none  P w E Q z : RcIn P w A s .Eq _ _ _)
      simp only [D.eqv, Bool.not_false, Bool.not_true]
      exact zz
    | bl y =>
      unfold Rep at rv; subst rv
      have zz := (fun E Q z => SeqAt.RcAt.none_bool y P w E Q z : RcIn P w A s .Eq _ _ _)
      simp only [D.eqv, Bool.not_false, Bool.not_true]
      exact zz
    | int y =>
      unfold Rep at rv; obtain ⟨qt, rfl⟩ := rv
      have zz := (fun E Q z => SeqAt.RcAt.none_int y qt P w E Q z : RcIn P w A s .Eq _ _ _)
      simp only [D.eqv, Bool.not_false, Bool.not_true]
      exact zz
    | str y =>
      unfold Rep at rv; obtain ⟨qt, rfl⟩ := rv
      have zz := (fun E Q z => SeqAt.RcAt.none_str y qt P w E Q z : RcIn P w A s .Eq _ _ _)
      simp only [D.eqv, Bool.not_false, Bool.not_true]
      exact zz
    | tup ys =>
      unfold Rep at rv; obtain ⟨qa, qi, rfl, qh, qr⟩ := rv
      have zz := (fun E Q z => SeqAt.RcAt.none_tuple qh hu.u P w E Q z : RcIn P w A s .Eq _ _ _)
      simp only [D.eqv, Bool.not_false, Bool.not_true]
      exact zz
    | lst ys =>
      unfold Rep at rv; obtain ⟨qa, qi, rfl, qh, qr⟩ := rv
      have zz := (fun E Q z => SeqAt.RcAt.none_list qh hu.u P w E Q z : RcIn P w A s .Eq _ _ _)
      simp only [D.eqv, Bool.not_false, Bool.not_true]
      exact zz
    | dic ys =>
      unfold Rep at rv; obtain ⟨qa, qi, rfl, qy, qh, qr⟩ := rv
      have zz := (none_eq_dd  qh hu.u : RcIn P w A s .Eq _ _ _)
      simp only [D.eqv, Bool.not_false, Bool.not_true]
      exact zz
  | .bl x, e, u, v, A, hu, ru, rv => by
    unfold Rep at ru; subst ru
    cases e with
    | non  =>
      unfold Rep at rv; subst rv
      have zz := (fun E Q z => SeqAt.RcAt.bool_none x P w E Q z : RcIn P w A s .Eq _ _ _)
      simp only [D.eqv, Bool.not_false, Bool.not_true]
      exact zz
    | bl y =>
      unfold Rep at rv; subst rv
      have zz := (fun E Q z => SeqAt.RcAt.bool_bool x y P w E Q z : RcIn P w A s .Eq _ _ _)
      simp only [D.eqv, Bool.not_false, Bool.not_true]
      exact zz
    | int y =>
      unfold Rep at rv; obtain ⟨qt, rfl⟩ := rv
      have zz := (fun E Q z => SeqAt.RcAt.bool_int x y qt P w E Q z : RcIn P w A s .Eq _ _ _)
      simp only [D.eqv, Bool.not_false, Bool.not_true]
      exact zz
    | str y =>
      unfold Rep at rv; obtain ⟨qt, rfl⟩ := rv
      have zz := (fun E Q z => SeqAt.RcAt.bool_str x y qt P w E Q z : RcIn P w A s .Eq _ _ _)
      simp only [D.eqv, Bool.not_false, Bool.not_true]
      exact zz
    | tup ys =>
      unfold Rep at rv; obtain ⟨qa, qi, rfl, qh, qr⟩ := rv
      have zz := (fun E Q z => SeqAt.RcAt.bool_tuple x qh hu.u P w E Q z : RcIn P w A s .Eq _ _ _)
      simp only [D.eqv, Bool.not_false, Bool.not_true]
      exact zz
    | lst ys =>
      unfold Rep at rv; obtain ⟨qa, qi, rfl, qh, qr⟩ := rv
      have zz := (fun E Q z => SeqAt.RcAt.bool_list x qh hu.u P w E Q z : RcIn P w A s .Eq _ _ _)
      simp only [D.eqv, Bool.not_false, Bool.not_true]
      exact zz
    | dic ys =>
      unfold Rep at rv; obtain ⟨qa, qi, rfl, qy, qh, qr⟩ := rv
      have zz := (bool_eq_dd x qh hu.u : RcIn P w A s .Eq _ _ _)
      simp only [D.eqv, Bool.not_false, Bool.not_true]
      exact zz
  | .int x, e, u, v, A, hu, ru, rv => by
    unfold Rep at ru; obtain ⟨pt, rfl⟩ := ru
    cases e with
    | non  =>
      unfold Rep at rv; subst rv
      have zz := (fun E Q z => SeqAt.RcAt.int_none x pt P w E Q z : RcIn P w A s .Eq _ _ _)
      simp only [D.eqv, Bool.not_false, Bool.not_true]
      exact zz
    | bl y =>
      unfold Rep at rv; subst rv
      have zz := (fun E Q z => SeqAt.RcAt.int_bool x pt y P w E Q z : RcIn P w A s .Eq _ _ _)
      simp only [D.eqv, Bool.not_false, Bool.not_true]
      exact zz
    | int y =>
      unfold Rep at rv; obtain ⟨qt, rfl⟩ := rv
      have zz := (fun E Q z => SeqAt.RcAt.int_int x pt y qt P w E Q z : RcIn P w A s .Eq _ _ _)
      simp only [D.eqv, Bool.not_false, Bool.not_true]
      exact zz
    | str y =>
      unfold Rep at rv; obtain ⟨qt, rfl⟩ := rv
      have zz := (fun E Q z => SeqAt.RcAt.int_str x pt y qt P w E Q z : RcIn P w A s .Eq _ _ _)
      simp only [D.eqv, Bool.not_false, Bool.not_true]
      exact zz
    | tup ys =>
      unfold Rep at rv; obtain ⟨qa, qi, rfl, qh, qr⟩ := rv
      have zz := (fun E Q z => SeqAt.RcAt.int_tuple x pt qh hu.u P w E Q z : RcIn P w A s .Eq _ _ _)
      simp only [D.eqv, Bool.not_false, Bool.not_true]
      exact zz
    | lst ys =>
      unfold Rep at rv; obtain ⟨qa, qi, rfl, qh, qr⟩ := rv
      have zz := (fun E Q z => SeqAt.RcAt.int_list x pt qh hu.u P w E Q z : RcIn P w A s .Eq _ _ _)
      simp only [D.eqv, Bool.not_false, Bool.not_true]
      exact zz
    | dic ys =>
      unfold Rep at rv; obtain ⟨qa, qi, rfl, qy, qh, qr⟩ := rv
      have zz := (int_eq_dd x pt qh hu.u : RcIn P w A s .Eq _ _ _)
      simp only [D.eqv, Bool.not_false, Bool.not_true]
      exact zz
  | .str x, e, u, v, A, hu, ru, rv => by
    unfold Rep at ru; obtain ⟨pt, rfl⟩ := ru
    cases e with
    | non  =>
      unfold Rep at rv; subst rv
      have zz := (fun E Q z => SeqAt.RcAt.str_none x pt P w E Q z : RcIn P w A s .Eq _ _ _)
      simp only [D.eqv, Bool.not_false, Bool.not_true]
      exact zz
    | bl y =>
      unfold Rep at rv; subst rv
      have zz := (fun E Q z => SeqAt.RcAt.str_bool x pt y P w E Q z : RcIn P w A s .Eq _ _ _)
      simp only [D.eqv, Bool.not_false, Bool.not_true]
      exact zz
    | int y =>
      unfold Rep at rv; obtain ⟨qt, rfl⟩ := rv
      have zz := (fun E Q z => SeqAt.RcAt.str_int x pt y qt P w E Q z : RcIn P w A s .Eq _ _ _)
      simp only [D.eqv, Bool.not_false, Bool.not_true]
      exact zz
    | str y =>
      unfold Rep at rv; obtain ⟨qt, rfl⟩ := rv
      have zz := (fun E Q z => SeqAt.RcAt.str_str x pt y qt P w E Q z : RcIn P w A s .Eq _ _ _)
      simp only [D.eqv, Bool.not_false, Bool.not_true]
      exact zz
    | tup ys =>
      unfold Rep at rv; obtain ⟨qa, qi, rfl, qh, qr⟩ := rv
      have zz := (fun E Q z => SeqAt.RcAt.str_tuple x pt qh hu.u P w E Q z : RcIn P w A s .Eq _ _ _)
      simp only [D.eqv, Bool.not_false, Bool.not_true]
      exact zz
    | lst ys =>
      unfold Rep at rv; obtain ⟨qa, qi, rfl, qh, qr⟩ := rv
      have zz := (fun E Q z => SeqAt.RcAt.str_list x pt qh hu.u P w E Q z : RcIn P w A s .Eq _ _ _)
      simp only [D.eqv, Bool.not_false, Bool.not_true]
      exact zz
    | dic ys =>
      unfold Rep at rv; obtain ⟨qa, qi, rfl, qy, qh, qr⟩ := rv
      have zz := (str_eq_dd x pt qh hu.u : RcIn P w A s .Eq _ _ _)
      simp only [D.eqv, Bool.not_false, Bool.not_true]
      exact zz
  | .tup xs, e, u, v, A, hu, ru, rv => by
    unfold Rep at ru; obtain ⟨pa, pi, rfl, ph, pr⟩ := ru
    cases e with
    | non  =>
      unfold Rep at rv; subst rv
      have zz := (fun E Q z => SeqAt.RcAt.tuple_none ph hu.u P w E Q z : RcIn P w A s .Eq _ _ _)
      simp only [D.eqv, Bool.not_false, Bool.not_true]
      exact zz
    | bl y =>
      unfold Rep at rv; subst rv
      have zz := (fun E Q z => SeqAt.RcAt.tuple_bool y ph hu.u P w E Q z : RcIn P w A s .Eq _ _ _)
      simp only [D.eqv, Bool.not_false, Bool.not_true]
      exact zz
    | int y =>
      unfold Rep at rv; obtain ⟨qt, rfl⟩ := rv
      have zz := (fun E Q z => SeqAt.RcAt.tuple_int y qt ph hu.u P w E Q z : RcIn P w A s .Eq _ _ _)
      simp only [D.eqv, Bool.not_false, Bool.not_true]
      exact zz
    | str y =>
      unfold Rep at rv; obtain ⟨qt, rfl⟩ := rv
      have zz := (fun E Q z => SeqAt.RcAt.tuple_str y qt ph hu.u P w E Q z : RcIn P w A s .Eq _ _ _)
      simp only [D.eqv, Bool.not_false, Bool.not_true]
      exact zz
    | tup ys =>
      unfold Rep at rv; obtain ⟨qa, qi, rfl, qh, qr⟩ := rv
      have he : ∀ j (h1 : j < pi.toArray.size) (h2 : j < qi.toArray.size), EqIn P w A.in1 s pi.toArray[j] qi.toArray[j] (D.eqv (xs.getD j .non) (ys.getD j .non)) := fun j h1 h2 => by
        have h1' : j < pi.length := by simpa using h1
        have h2' : j < qi.length := by simpa using h2
        have g1 : j < xs.length := by rw [pr.len]; exact h1'
        have g2 : j < ys.length := by rw [qr.len]; exact h2'
        have m : xs[j] ∈ xs := List.getElem_mem g1
        have z := eqIn xs[j] ys[j] _ _ A.in1 (hu.in_tup m) (pr.at j g1 h1') (qr.at j g2 h2')
        rw [getD_at g1, getD_at g2]
        simpa using z
      have e : ((List.range (min pi.toArray.size qi.toArray.size)).all (fun j => D.eqv (xs.getD j .non) (ys.getD j .non)) && pi.toArray.size == qi.toArray.size) = D.eqvL xs ys := by
        rw [List.size_toArray, List.size_toArray, ← pr.len, ← qr.len]; exact eqvL_range xs ys
      intro E Q z
      refine SeqAt.rcIn_tuples ph qh hu.u he ?_
      rw [e]
      simpa only [D.eqv] using z
    | lst ys =>
      unfold Rep at rv; obtain ⟨qa, qi, rfl, qh, qr⟩ := rv
      have zz := (fun E Q z => SeqAt.RcAt.tuple_list ph qh hu.u P w E Q z : RcIn P w A s .Eq _ _ _)
      simp only [D.eqv, Bool.not_false, Bool.not_true]
      exact zz
    | dic ys =>
      unfold Rep at rv; obtain ⟨qa, qi, rfl, qy, qh, qr⟩ := rv
      have zz := (tuple_eq_dd qh ph hu.u : RcIn P w A s .Eq _ _ _)
      simp only [D.eqv, Bool.not_false, Bool.not_true]
      exact zz
  | .lst xs, e, u, v, A, hu, ru, rv => by
    unfold Rep at ru; obtain ⟨pa, pi, rfl, ph, pr⟩ := ru
    cases e with
    | non  =>
      unfold Rep at rv; subst rv
      have zz := (fun E Q z => SeqAt.RcAt.list_none ph hu.u P w E Q z : RcIn P w A s .Eq _ _ _)
      simp only [D.eqv, Bool.not_false, Bool.not_true]
      exact zz
    | bl y =>
      unfold Rep at rv; subst rv
      have zz := (fun E Q z => SeqAt.RcAt.list_bool y ph hu.u P w E Q z : RcIn P w A s .Eq _ _ _)
      simp only [D.eqv, Bool.not_false, Bool.not_true]
      exact zz
    | int y =>
      unfold Rep at rv; obtain ⟨qt, rfl⟩ := rv
      have zz := (fun E Q z => SeqAt.RcAt.list_int y qt ph hu.u P w E Q z : RcIn P w A s .Eq _ _ _)
      simp only [D.eqv, Bool.not_false, Bool.not_true]
      exact zz
    | str y =>
      unfold Rep at rv; obtain ⟨qt, rfl⟩ := rv
      have zz := (fun E Q z => SeqAt.RcAt.list_str y qt ph hu.u P w E Q z : RcIn P w A s .Eq _ _ _)
      simp only [D.eqv, Bool.not_false, Bool.not_true]
      exact zz
    | tup ys =>
      unfold Rep at rv; obtain ⟨qa, qi, rfl, qh, qr⟩ := rv
      have zz := (fun E Q z => SeqAt.RcAt.list_tuple ph qh hu.u P w E Q z : RcIn P w A s .Eq _ _ _)
      simp only [D.eqv, Bool.not_false, Bool.not_true]
      exact zz
    | lst ys =>
      unfold Rep at rv; obtain ⟨qa, qi, rfl, qh, qr⟩ := rv
      by_cases hl : xs.length = ys.length
      · have he : ∀ j (h1 : j < pi.toArray.size) (h2 : j < qi.toArray.size), EqIn P w A.in1 s pi.toArray[j] qi.toArray[j] (D.eqv (xs.getD j .non) (ys.getD j .non)) := fun j h1 h2 => by
          have h1' : j < pi.length := by simpa using h1
          have h2' : j < qi.length := by simpa using h2
          have g1 : j < xs.length := by rw [pr.len]; exact h1'
          have g2 : j < ys.length := by rw [qr.len]; exact h2'
          have m : xs[j] ∈ xs := List.getElem_mem g1
          have z := eqIn xs[j] ys[j] _ _ A.in1 (hu.in_lst m) (pr.at j g1 h1') (qr.at j g2 h2')
          rw [getD_at g1, getD_at g2]
          simpa using z
        have e : (List.range pi.toArray.size).all (fun j => D.eqv (xs.getD j .non) (ys.getD j .non)) = D.eqvL xs ys := by
          rw [List.size_toArray, ← pr.len]; exact eqvL_range' hl
        have hz : pi.toArray.size = qi.toArray.size := by rw [List.size_toArray, List.size_toArray, ← pr.len, ← qr.len]; exact hl
        intro E Q z
        refine SeqAt.rcIn_lists ph qh hz hu.u he ?_
        rw [e]
        simpa only [D.eqv] using z
      · intro E Q z
        simp only [D.eqv, eqvL_len hl] at z
        exact SeqAt.RcAt.lists_lengths ph qh (by rw [List.size_toArray, List.size_toArray, ← pr.len, ← qr.len]; simpa using hl) hu.u P w E Q z
    | dic ys =>
      unfold Rep at rv; obtain ⟨qa, qi, rfl, qy, qh, qr⟩ := rv
      have zz := (list_eq_dd qh ph hu.u : RcIn P w A s .Eq _ _ _)
      simp only [D.eqv, Bool.not_false, Bool.not_true]
      exact zz
  | .dic xs, e, u, v, A, hu, ru, rv => by
    unfold Rep at ru; obtain ⟨pa, pi, rfl, py, ph, pr⟩ := ru
    cases e with
    | non  =>
      unfold Rep at rv; subst rv
      have zz := (d_eq_none  ph hu.u : RcIn P w A s .Eq _ _ _)
      simp only [D.eqv, Bool.not_false, Bool.not_true]
      exact zz
    | bl y =>
      unfold Rep at rv; subst rv
      have zz := (d_eq_bool y ph hu.u : RcIn P w A s .Eq _ _ _)
      simp only [D.eqv, Bool.not_false, Bool.not_true]
      exact zz
    | int y =>
      unfold Rep at rv; obtain ⟨qt, rfl⟩ := rv
      have zz := (d_eq_int y qt ph hu.u : RcIn P w A s .Eq _ _ _)
      simp only [D.eqv, Bool.not_false, Bool.not_true]
      exact zz
    | str y =>
      unfold Rep at rv; obtain ⟨qt, rfl⟩ := rv
      have zz := (d_eq_str y qt ph hu.u : RcIn P w A s .Eq _ _ _)
      simp only [D.eqv, Bool.not_false, Bool.not_true]
      exact zz
    | tup ys =>
      unfold Rep at rv; obtain ⟨qa, qi, rfl, qh, qr⟩ := rv
      have zz := (d_eq_tuple ph qh hu.u : RcIn P w A s .Eq _ _ _)
      simp only [D.eqv, Bool.not_false, Bool.not_true]
      exact zz
    | lst ys =>
      unfold Rep at rv; obtain ⟨qa, qi, rfl, qh, qr⟩ := rv
      have zz := (d_eq_list ph qh hu.u : RcIn P w A s .Eq _ _ _)
      simp only [D.eqv, Bool.not_false, Bool.not_true]
      exact zz
    | dic ys =>
      unfold Rep at rv; obtain ⟨qa, qi, rfl, qy, qh, qr⟩ := rv
      have nd : (xs.map (·.1)).Nodup := by rw [pr.keys]; obtain ⟨_, _, _, _, _, _, _, _, nd⟩ := ph; exact nd
      have hits : PySem.W.KeqHitsIn P w A.in1 s qi pi (pi.all fun p => (valueAt qi p.1).isSome && eqAtKey xs ys p.1) := PySem.W.KeqHitsIn.of pi fun k v y m hv => by
        have hk : k ∈ xs.map (·.1) := by rw [pr.keys]; exact List.mem_map.mpr ⟨(k, v), m, rfl⟩
        rcases pr.look k with ⟨n1, _⟩ | ⟨x, v', e1, e2, rx⟩
        · exact absurd hk (look_none.mp n1)
        rcases qr.look k with ⟨_, n2⟩ | ⟨y', w', e3, e4, ry⟩
        · rw [hv] at n2; cases n2
        rw [hv] at e4; cases e4
        have ev : valueAt pi k = some v := by
          have nd' : (pi.map (·.1)).Nodup := by rw [← pr.keys]; exact nd
          exact valueAt_of_mem nd' m
        rw [ev] at e2; cases e2
        have z := eqIn x y' v y A.in1 (hu.in_dic (look_mem e1)) rx ry
        have ez : eqAtKey xs ys k = D.eqv x y' := by unfold eqAtKey; rw [e1, e3]
        rw [ez]; exact z
      have e : (pi.length == qi.length && (pi.all fun p => (valueAt qi p.1).isSome && eqAtKey xs ys p.1)) = D.eqv (.dic xs) (.dic ys) := by
        rw [D.eqv, ← pr.len, ← qr.len]
        congr 1
        exact eqvK_all (s := s) qr [] xs pi nd pr
      intro E Q z
      refine PySem.W.keq_eqIn py qy ph qh hu.u (fun _ => hits) ?_
      rw [e]; exact z
  termination_by d => (sizeOf d, 0)
  decreasing_by
    all_goals simp_wf
    · exact Prod.Lex.left _ _ (by have := List.sizeOf_lt_of_mem m; omega)
    · exact Prod.Lex.left _ _ (by have := List.sizeOf_lt_of_mem m; omega)
    · exact Prod.Lex.left _ _ (by have := sizeOf_snd (look_mem e1); omega)
end
theorem rcNe : ∀ (d e : D) (u v : Value) (A : Around), DepthOk A d → Rep P w s.heap d u → Rep P w s.heap e v → RcIn P w A s .NotEq u v (!D.eqv d e)
  | .non , e, u, v, A, hu, ru, rv => by
    unfold Rep at ru; subst ru
    cases e with
    | non  =>
      unfold Rep at rv; subst rv
      have zz := (fun E Q z => SeqAt.RcNeAt.none_none  P w E Q z : RcIn P w A s .NotEq _ _ _)
      simp only [D.eqv, Bool.not_false, Bool.not_true]
      exact zz
    | bl y =>
      unfold Rep at rv; subst rv
      have zz := (fun E Q z => SeqAt.RcNeAt.none_bool y P w E Q z : RcIn P w A s .NotEq _ _ _)
      simp only [D.eqv, Bool.not_false, Bool.not_true]
      exact zz
    | int y =>
      unfold Rep at rv; obtain ⟨qt, rfl⟩ := rv
      have zz := (fun E Q z => SeqAt.RcNeAt.none_int y qt P w E Q z : RcIn P w A s .NotEq _ _ _)
      simp only [D.eqv, Bool.not_false, Bool.not_true]
      exact zz
    | str y =>
      unfold Rep at rv; obtain ⟨qt, rfl⟩ := rv
      have zz := (fun E Q z => SeqAt.RcNeAt.none_str y qt P w E Q z : RcIn P w A s .NotEq _ _ _)
      simp only [D.eqv, Bool.not_false, Bool.not_true]
      exact zz
    | tup ys =>
      unfold Rep at rv; obtain ⟨qa, qi, rfl, qh, qr⟩ := rv
      have zz := (fun E Q z => SeqAt.RcNeAt.none_tuple qh hu.u P w E Q z : RcIn P w A s .NotEq _ _ _)
      simp only [D.eqv, Bool.not_false, Bool.not_true]
      exact zz
    | lst ys =>
      unfold Rep at rv; obtain ⟨qa, qi, rfl, qh, qr⟩ := rv
      have zz := (fun E Q z => SeqAt.RcNeAt.none_list qh hu.u P w E Q z : RcIn P w A s .NotEq _ _ _)
      simp only [D.eqv, Bool.not_false, Bool.not_true]
      exact zz
    | dic ys =>
      unfold Rep at rv; obtain ⟨qa, qi, rfl, qy, qh, qr⟩ := rv
      have zz := (none_ne_dd  qh hu.u : RcIn P w A s .NotEq _ _ _)
      simp only [D.eqv, Bool.not_false, Bool.not_true]
      exact zz
  | .bl x, e, u, v, A, hu, ru, rv => by
    unfold Rep at ru; subst ru
    cases e with
    | non  =>
      unfold Rep at rv; subst rv
      have zz := (fun E Q z => SeqAt.RcNeAt.bool_none x P w E Q z : RcIn P w A s .NotEq _ _ _)
      simp only [D.eqv, Bool.not_false, Bool.not_true]
      exact zz
    | bl y =>
      unfold Rep at rv; subst rv
      have zz := (fun E Q z => SeqAt.RcNeAt.bool_bool x y P w E Q z : RcIn P w A s .NotEq _ _ _)
      simp only [D.eqv, Bool.not_false, Bool.not_true]
      exact zz
    | int y =>
      unfold Rep at rv; obtain ⟨qt, rfl⟩ := rv
      have zz := (fun E Q z => SeqAt.RcNeAt.bool_int x y qt P w E Q z : RcIn P w A s .NotEq _ _ _)
      simp only [D.eqv, Bool.not_false, Bool.not_true]
      exact zz
    | str y =>
      unfold Rep at rv; obtain ⟨qt, rfl⟩ := rv
      have zz := (fun E Q z => SeqAt.RcNeAt.bool_str x y qt P w E Q z : RcIn P w A s .NotEq _ _ _)
      simp only [D.eqv, Bool.not_false, Bool.not_true]
      exact zz
    | tup ys =>
      unfold Rep at rv; obtain ⟨qa, qi, rfl, qh, qr⟩ := rv
      have zz := (fun E Q z => SeqAt.RcNeAt.bool_tuple x qh hu.u P w E Q z : RcIn P w A s .NotEq _ _ _)
      simp only [D.eqv, Bool.not_false, Bool.not_true]
      exact zz
    | lst ys =>
      unfold Rep at rv; obtain ⟨qa, qi, rfl, qh, qr⟩ := rv
      have zz := (fun E Q z => SeqAt.RcNeAt.bool_list x qh hu.u P w E Q z : RcIn P w A s .NotEq _ _ _)
      simp only [D.eqv, Bool.not_false, Bool.not_true]
      exact zz
    | dic ys =>
      unfold Rep at rv; obtain ⟨qa, qi, rfl, qy, qh, qr⟩ := rv
      have zz := (bool_ne_dd x qh hu.u : RcIn P w A s .NotEq _ _ _)
      simp only [D.eqv, Bool.not_false, Bool.not_true]
      exact zz
  | .int x, e, u, v, A, hu, ru, rv => by
    unfold Rep at ru; obtain ⟨pt, rfl⟩ := ru
    cases e with
    | non  =>
      unfold Rep at rv; subst rv
      have zz := (fun E Q z => SeqAt.RcNeAt.int_none x pt P w E Q z : RcIn P w A s .NotEq _ _ _)
      simp only [D.eqv, Bool.not_false, Bool.not_true]
      exact zz
    | bl y =>
      unfold Rep at rv; subst rv
      have zz := (fun E Q z => SeqAt.RcNeAt.int_bool x pt y P w E Q z : RcIn P w A s .NotEq _ _ _)
      simp only [D.eqv, Bool.not_false, Bool.not_true]
      exact zz
    | int y =>
      unfold Rep at rv; obtain ⟨qt, rfl⟩ := rv
      have zz := (fun E Q z => SeqAt.RcNeAt.int_int x pt y qt P w E Q z : RcIn P w A s .NotEq _ _ _)
      simp only [D.eqv, Bool.not_false, Bool.not_true]
      exact zz
    | str y =>
      unfold Rep at rv; obtain ⟨qt, rfl⟩ := rv
      have zz := (fun E Q z => SeqAt.RcNeAt.int_str x pt y qt P w E Q z : RcIn P w A s .NotEq _ _ _)
      simp only [D.eqv, Bool.not_false, Bool.not_true]
      exact zz
    | tup ys =>
      unfold Rep at rv; obtain ⟨qa, qi, rfl, qh, qr⟩ := rv
      have zz := (fun E Q z => SeqAt.RcNeAt.int_tuple x pt qh hu.u P w E Q z : RcIn P w A s .NotEq _ _ _)
      simp only [D.eqv, Bool.not_false, Bool.not_true]
      exact zz
    | lst ys =>
      unfold Rep at rv; obtain ⟨qa, qi, rfl, qh, qr⟩ := rv
      have zz := (fun E Q z => SeqAt.RcNeAt.int_list x pt qh hu.u P w E Q z : RcIn P w A s .NotEq _ _ _)
      simp only [D.eqv, Bool.not_false, Bool.not_true]
      exact zz
    | dic ys =>
      unfold Rep at rv; obtain ⟨qa, qi, rfl, qy, qh, qr⟩ := rv
      have zz := (int_ne_dd x pt qh hu.u : RcIn P w A s .NotEq _ _ _)
      simp only [D.eqv, Bool.not_false, Bool.not_true]
      exact zz
  | .str x, e, u, v, A, hu, ru, rv => by
    unfold Rep at ru; obtain ⟨pt, rfl⟩ := ru
    cases e with
    | non  =>
      unfold Rep at rv; subst rv
      have zz := (fun E Q z => SeqAt.RcNeAt.str_none x pt P w E Q z : RcIn P w A s .NotEq _ _ _)
      simp only [D.eqv, Bool.not_false, Bool.not_true]
      exact zz
    | bl y =>
      unfold Rep at rv; subst rv
      have zz := (fun E Q z => SeqAt.RcNeAt.str_bool x pt y P w E Q z : RcIn P w A s .NotEq _ _ _)
      simp only [D.eqv, Bool.not_false, Bool.not_true]
      exact zz
    | int y =>
      unfold Rep at rv; obtain ⟨qt, rfl⟩ := rv
      have zz := (fun E Q z => SeqAt.RcNeAt.str_int x pt y qt P w E Q z : RcIn P w A s .NotEq _ _ _)
      simp only [D.eqv, Bool.not_false, Bool.not_true]
      exact zz
    | str y =>
      unfold Rep at rv; obtain ⟨qt, rfl⟩ := rv
      have zz := (fun E Q z => SeqAt.RcNeAt.str_str x pt y qt P w E Q z : RcIn P w A s .NotEq _ _ _)
      simp only [D.eqv, Bool.not_false, Bool.not_true]
      exact zz
    | tup ys =>
      unfold Rep at rv; obtain ⟨qa, qi, rfl, qh, qr⟩ := rv
      have zz := (fun E Q z => SeqAt.RcNeAt.str_tuple x pt qh hu.u P w E Q z : RcIn P w A s .NotEq _ _ _)
      simp only [D.eqv, Bool.not_false, Bool.not_true]
      exact zz
    | lst ys =>
      unfold Rep at rv; obtain ⟨qa, qi, rfl, qh, qr⟩ := rv
      have zz := (fun E Q z => SeqAt.RcNeAt.str_list x pt qh hu.u P w E Q z : RcIn P w A s .NotEq _ _ _)
      simp only [D.eqv, Bool.not_false, Bool.not_true]
      exact zz
    | dic ys =>
      unfold Rep at rv; obtain ⟨qa, qi, rfl, qy, qh, qr⟩ := rv
      have zz := (str_ne_dd x pt qh hu.u : RcIn P w A s .NotEq _ _ _)
      simp only [D.eqv, Bool.not_false, Bool.not_true]
      exact zz
  | .tup xs, e, u, v, A, hu, ru, rv => by
    unfold Rep at ru; obtain ⟨pa, pi, rfl, ph, pr⟩ := ru
    cases e with
    | non  =>
      unfold Rep at rv; subst rv
      have zz := (fun E Q z => SeqAt.RcNeAt.tuple_none ph hu.u P w E Q z : RcIn P w A s .NotEq _ _ _)
      simp only [D.eqv, Bool.not_false, Bool.not_true]
      exact zz
    | bl y =>
      unfold Rep at rv; subst rv
      have zz := (fun E Q z => SeqAt.RcNeAt.tuple_bool y ph hu.u P w E Q z : RcIn P w A s .NotEq _ _ _)
      simp only [D.eqv, Bool.not_false, Bool.not_true]
      exact zz
    | int y =>
      unfold Rep at rv; obtain ⟨qt, rfl⟩ := rv
      have zz := (fun E Q z => SeqAt.RcNeAt.tuple_int y qt ph hu.u P w E Q z : RcIn P w A s .NotEq _ _ _)
      simp only [D.eqv, Bool.not_false, Bool.not_true]
      exact zz
    | str y =>
      unfold Rep at rv; obtain ⟨qt, rfl⟩ := rv
      have zz := (fun E Q z => SeqAt.RcNeAt.tuple_str y qt ph hu.u P w E Q z : RcIn P w A s .NotEq _ _ _)
      simp only [D.eqv, Bool.not_false, Bool.not_true]
      exact zz
    | tup ys =>
      unfold Rep at rv; obtain ⟨qa, qi, rfl, qh, qr⟩ := rv
      have he : ∀ j (h1 : j < pi.toArray.size) (h2 : j < qi.toArray.size), EqIn P w A.in1 s pi.toArray[j] qi.toArray[j] (D.eqv (xs.getD j .non) (ys.getD j .non)) := fun j h1 h2 => by
        have h1' : j < pi.length := by simpa using h1
        have h2' : j < qi.length := by simpa using h2
        have g1 : j < xs.length := by rw [pr.len]; exact h1'
        have g2 : j < ys.length := by rw [qr.len]; exact h2'
        have m : xs[j] ∈ xs := List.getElem_mem g1
        have z := eqIn xs[j] ys[j] _ _ A.in1 (hu.in_tup m) (pr.at j g1 h1') (qr.at j g2 h2')
        rw [getD_at g1, getD_at g2]
        simpa using z
      have e : ((List.range (min pi.toArray.size qi.toArray.size)).all (fun j => D.eqv (xs.getD j .non) (ys.getD j .non)) && pi.toArray.size == qi.toArray.size) = D.eqvL xs ys := by
        rw [List.size_toArray, List.size_toArray, ← pr.len, ← qr.len]; exact eqvL_range xs ys
      have z := ne_tuples ph qh hu.u he
      rw [e] at z
      simpa only [D.eqv] using z
    | lst ys =>
      unfold Rep at rv; obtain ⟨qa, qi, rfl, qh, qr⟩ := rv
      have zz := (fun E Q z => SeqAt.RcNeAt.tuple_list ph qh hu.u P w E Q z : RcIn P w A s .NotEq _ _ _)
      simp only [D.eqv, Bool.not_false, Bool.not_true]
      exact zz
    | dic ys =>
      unfold Rep at rv; obtain ⟨qa, qi, rfl, qy, qh, qr⟩ := rv
      have zz := (tuple_ne_dd qh ph hu.u : RcIn P w A s .NotEq _ _ _)
      simp only [D.eqv, Bool.not_false, Bool.not_true]
      exact zz
  | .lst xs, e, u, v, A, hu, ru, rv => by
    unfold Rep at ru; obtain ⟨pa, pi, rfl, ph, pr⟩ := ru
    cases e with
    | non  =>
      unfold Rep at rv; subst rv
      have zz := (fun E Q z => SeqAt.RcNeAt.list_none ph hu.u P w E Q z : RcIn P w A s .NotEq _ _ _)
      simp only [D.eqv, Bool.not_false, Bool.not_true]
      exact zz
    | bl y =>
      unfold Rep at rv; subst rv
      have zz := (fun E Q z => SeqAt.RcNeAt.list_bool y ph hu.u P w E Q z : RcIn P w A s .NotEq _ _ _)
      simp only [D.eqv, Bool.not_false, Bool.not_true]
      exact zz
    | int y =>
      unfold Rep at rv; obtain ⟨qt, rfl⟩ := rv
      have zz := (fun E Q z => SeqAt.RcNeAt.list_int y qt ph hu.u P w E Q z : RcIn P w A s .NotEq _ _ _)
      simp only [D.eqv, Bool.not_false, Bool.not_true]
      exact zz
    | str y =>
      unfold Rep at rv; obtain ⟨qt, rfl⟩ := rv
      have zz := (fun E Q z => SeqAt.RcNeAt.list_str y qt ph hu.u P w E Q z : RcIn P w A s .NotEq _ _ _)
      simp only [D.eqv, Bool.not_false, Bool.not_true]
      exact zz
    | tup ys =>
      unfold Rep at rv; obtain ⟨qa, qi, rfl, qh, qr⟩ := rv
      have zz := (fun E Q z => SeqAt.RcNeAt.list_tuple ph qh hu.u P w E Q z : RcIn P w A s .NotEq _ _ _)
      simp only [D.eqv, Bool.not_false, Bool.not_true]
      exact zz
    | lst ys =>
      unfold Rep at rv; obtain ⟨qa, qi, rfl, qh, qr⟩ := rv
      by_cases hl : xs.length = ys.length
      · have he : ∀ j (h1 : j < pi.toArray.size) (h2 : j < qi.toArray.size), EqIn P w A.in1 s pi.toArray[j] qi.toArray[j] (D.eqv (xs.getD j .non) (ys.getD j .non)) := fun j h1 h2 => by
          have h1' : j < pi.length := by simpa using h1
          have h2' : j < qi.length := by simpa using h2
          have g1 : j < xs.length := by rw [pr.len]; exact h1'
          have g2 : j < ys.length := by rw [qr.len]; exact h2'
          have m : xs[j] ∈ xs := List.getElem_mem g1
          have z := eqIn xs[j] ys[j] _ _ A.in1 (hu.in_lst m) (pr.at j g1 h1') (qr.at j g2 h2')
          rw [getD_at g1, getD_at g2]
          simpa using z
        have e : (List.range pi.toArray.size).all (fun j => D.eqv (xs.getD j .non) (ys.getD j .non)) = D.eqvL xs ys := by
          rw [List.size_toArray, ← pr.len]; exact eqvL_range' hl
        have hz : pi.toArray.size = qi.toArray.size := by rw [List.size_toArray, List.size_toArray, ← pr.len, ← qr.len]; exact hl
        have z := ne_lists ph qh hz hu.u he
        rw [e] at z
        simpa only [D.eqv] using z
      · intro E Q z
        simp only [D.eqv, eqvL_len hl] at z
        exact SeqAt.RcNeAt.lists_lengths ph qh (by rw [List.size_toArray, List.size_toArray, ← pr.len, ← qr.len]; simpa using hl) hu.u P w E Q z
    | dic ys =>
      unfold Rep at rv; obtain ⟨qa, qi, rfl, qy, qh, qr⟩ := rv
      have zz := (list_ne_dd qh ph hu.u : RcIn P w A s .NotEq _ _ _)
      simp only [D.eqv, Bool.not_false, Bool.not_true]
      exact zz
  | .dic xs, e, u, v, A, hu, ru, rv => by
    unfold Rep at ru; obtain ⟨pa, pi, rfl, py, ph, pr⟩ := ru
    cases e with
    | non  =>
      unfold Rep at rv; subst rv
      have zz := (d_ne_none  ph hu.u : RcIn P w A s .NotEq _ _ _)
      simp only [D.eqv, Bool.not_false, Bool.not_true]
      exact zz
    | bl y =>
      unfold Rep at rv; subst rv
      have zz := (d_ne_bool y ph hu.u : RcIn P w A s .NotEq _ _ _)
      simp only [D.eqv, Bool.not_false, Bool.not_true]
      exact zz
    | int y =>
      unfold Rep at rv; obtain ⟨qt, rfl⟩ := rv
      have zz := (d_ne_int y qt ph hu.u : RcIn P w A s .NotEq _ _ _)
      simp only [D.eqv, Bool.not_false, Bool.not_true]
      exact zz
    | str y =>
      unfold Rep at rv; obtain ⟨qt, rfl⟩ := rv
      have zz := (d_ne_str y qt ph hu.u : RcIn P w A s .NotEq _ _ _)
      simp only [D.eqv, Bool.not_false, Bool.not_true]
      exact zz
    | tup ys =>
      unfold Rep at rv; obtain ⟨qa, qi, rfl, qh, qr⟩ := rv
      have zz := (d_ne_tuple ph qh hu.u : RcIn P w A s .NotEq _ _ _)
      simp only [D.eqv, Bool.not_false, Bool.not_true]
      exact zz
    | lst ys =>
      unfold Rep at rv; obtain ⟨qa, qi, rfl, qh, qr⟩ := rv
      have zz := (d_ne_list ph qh hu.u : RcIn P w A s .NotEq _ _ _)
      simp only [D.eqv, Bool.not_false, Bool.not_true]
      exact zz
    | dic ys =>
      unfold Rep at rv; obtain ⟨qa, qi, rfl, qy, qh, qr⟩ := rv
      have nd : (xs.map (·.1)).Nodup := by rw [pr.keys]; obtain ⟨_, _, _, _, _, _, _, _, nd⟩ := ph; exact nd
      have hits : PySem.W.KeqHitsIn P w A.in1 s qi pi (pi.all fun p => (valueAt qi p.1).isSome && eqAtKey xs ys p.1) := PySem.W.KeqHitsIn.of pi fun k v y m hv => by
        have hk : k ∈ xs.map (·.1) := by rw [pr.keys]; exact List.mem_map.mpr ⟨(k, v), m, rfl⟩
        rcases pr.look k with ⟨n1, _⟩ | ⟨x, v', e1, e2, rx⟩
        · exact absurd hk (look_none.mp n1)
        rcases qr.look k with ⟨_, n2⟩ | ⟨y', w', e3, e4, ry⟩
        · rw [hv] at n2; cases n2
        rw [hv] at e4; cases e4
        have ev : valueAt pi k = some v := by
          have nd' : (pi.map (·.1)).Nodup := by rw [← pr.keys]; exact nd
          exact valueAt_of_mem nd' m
        rw [ev] at e2; cases e2
        have z := eqIn x y' v y A.in1 (hu.in_dic (look_mem e1)) rx ry
        have ez : eqAtKey xs ys k = D.eqv x y' := by unfold eqAtKey; rw [e1, e3]
        rw [ez]; exact z
      have e : (pi.length == qi.length && (pi.all fun p => (valueAt qi p.1).isSome && eqAtKey xs ys p.1)) = D.eqv (.dic xs) (.dic ys) := by
        rw [D.eqv, ← pr.len, ← qr.len]
        congr 1
        exact eqvK_all (s := s) qr [] xs pi nd pr
      have z := ne_dicts py qy ph qh hu.u (fun _ => hits)
      rw [e] at z
      exact z
end
end Mp

set_option Elab.async false
set_option linter.all false
set_option maxRecDepth 100000
set_option maxHeartbeats 4000000
namespace Mp
open PySem L2

/-! ### a value holds a datum, in a ghost heap -/
/-- a tuple that stands in the written part, plain -/
def KTup (K : PySem.W.Frag) (a : Addr) (xs : List V) : Prop :=
  ∃ (o : Obj) (its : Array Value) (n : Nat), K.lookup a = some o ∧ o.cls = .type "tuple" ∧ o.dict = none ∧ o.data = .seq its n ∧ its.size ≤ sizeLine ∧ Vals xs its.toList
def TupAt (K : PySem.W.Frag) (G : Hp) (a : Addr) (xs : List V) : Prop := Rd G a (.tup xs) ∨ KTup K a xs
theorem TupAt.sq {K : PySem.W.Frag} {G : Hp} {a : Addr} {xs : List V} (h : TupAt K G a xs) : SqT K G a xs :=
  h.imp id fun ⟨o, its, n, h1, h2, _, h3⟩ => ⟨o, its, n, h1, h2, h3⟩
section
variable (K : PySem.W.Frag) (G : Hp)
mutual
def Has : D → V → Prop
  | .non, v => v = .non
  | .bl b, v => v = .bl b
  | .int i, v => v = .int i
  | .str x, v => v = .str x
  | .tup xs, v => ∃ a vs, v = .ref a ∧ TupAt K G a vs ∧ HasL xs vs
  | .lst xs, v => ∃ a vs, v = .ref a ∧ Rd G a (.lst vs) ∧ HasL xs vs
  | .dic ks, v => ∃ a ws, v = .ref a ∧ Rd G a (.dK ws) ∧ HasK ks ws
def HasL : List D → List V → Prop
  | [], vs => vs = []
  | d :: ds, vs => ∃ v r, vs = v :: r ∧ Has d v ∧ HasL ds r
def HasK : List (Key × D) → List (Key × V) → Prop
  | [], ws => ws = []
  | (k, d) :: ds, ws => ∃ v r, ws = (k, v) :: r ∧ Has d v ∧ HasK ds r
end
end
/-- what is readable stays readable -/
def Ge (G G' : Hp) : Prop := ∀ a u, Rd G a u → Rd G' a u
theorem Ge.refl (G : Hp) : Ge G G := fun _ _ h => h
theorem Ge.trans {G G1 G2 : Hp} (a : Ge G G1) (b : Ge G1 G2) : Ge G G2 := fun x u h => b x u (a x u h)
section
variable {K : PySem.W.Frag} {G G' : Hp}
theorem Ge.tup {a : Addr} {xs : List V} (e : Ge G G') (h : TupAt K G a xs) : TupAt K G' a xs := h.imp (e _ _) id
theorem Ge.lst {a : Addr} {xs : List V} (e : Ge G G') (h : SqL K G a xs) : SqL K G' a xs := h.imp (e _ _) id
mutual
theorem Has.mono (e : Ge G G') : ∀ (d : D) (v : V), Has K G d v → Has K G' d v
  | .non, _, h => by unfold Has at *; exact h
  | .bl _, _, h => by unfold Has at *; exact h
  | .int _, _, h => by unfold Has at *; exact h
  | .str _, _, h => by unfold Has at *; exact h
  | .tup xs, v, h => by
    unfold Has at *
    obtain ⟨a, vs, e1, h1, h2⟩ := h
    exact ⟨a, vs, e1, e.tup h1, HasL.mono e xs vs h2⟩
  | .lst xs, v, h => by
    unfold Has at *
    obtain ⟨a, vs, e1, h1, h2⟩ := h
    exact ⟨a, vs, e1, e _ _ h1, HasL.mono e xs vs h2⟩
  | .dic xs, v, h => by
    unfold Has at *
    obtain ⟨a, vs, e1, h1, h2⟩ := h
    exact ⟨a, vs, e1, e _ _ h1, HasK.mono e xs vs h2⟩
theorem HasL.mono (e : Ge G G') : ∀ (xs : List D) (vs : List V), HasL K G xs vs → HasL K G' xs vs
  | [], _, h => by unfold HasL at *; exact h
  | x :: xs, vs, h => by
    unfold HasL at *
    obtain ⟨v, r, e1, h1, h2⟩ := h
    exact ⟨v, r, e1, Has.mono e x v h1, HasL.mono e xs r h2⟩
theorem HasK.mono (e : Ge G G') : ∀ (xs : List (Key × D)) (vs : List (Key × V)), HasK K G xs vs → HasK K G' xs vs
  | [], _, h => by unfold HasK at *; exact h
  | (k, x) :: xs, vs, h => by
    unfold HasK at *
    obtain ⟨v, r, e1, h1, h2⟩ := h
    exact ⟨v, r, e1, Has.mono e x v h1, HasK.mono e xs r h2⟩
end
theorem HasL.len : ∀ {xs : List D} {vs : List V}, HasL K G xs vs → vs.length = xs.length
  | [], _, h => by unfold HasL at h; subst h; rfl
  | x :: xs, vs, h => by
    unfold HasL at h
    obtain ⟨v, r, rfl, _, h⟩ := h
    simp [HasL.len h]
theorem HasK.len : ∀ {xs : List (Key × D)} {vs : List (Key × V)}, HasK K G xs vs → vs.length = xs.length
  | [], _, h => by unfold HasK at h; subst h; rfl
  | x :: xs, vs, h => by
    unfold HasK at h
    obtain ⟨v, r, rfl, _, h⟩ := h
    simp [HasK.len h]
theorem HasL.get : ∀ {xs : List D} {vs : List V}, HasL K G xs vs → ∀ {i : Nat} {d : D}, xs[i]? = some d → ∃ v, vs[i]? = some v ∧ Has K G d v
  | [], _, _, i, d, e => by simp at e
  | x :: xs, vs, h, i, d, e => by
    unfold HasL at h
    obtain ⟨v, r, rfl, h1, h⟩ := h
    cases i with
    | zero => simp at e; subst e; exact ⟨v, rfl, h1⟩
    | succ i => simpa using HasL.get h (by simpa using e)
theorem HasL.get' : ∀ {xs : List D} {vs : List V}, HasL K G xs vs → ∀ {i : Nat} {v : V}, vs[i]? = some v → ∃ d, xs[i]? = some d ∧ Has K G d v
  | [], _, h, i, d, e => by unfold HasL at h; subst h; simp at e
  | x :: xs, vs, h, i, v, e => by
    unfold HasL at h
    obtain ⟨v', r, rfl, h1, h⟩ := h
    cases i with
    | zero => simp at e; subst e; exact ⟨x, rfl, h1⟩
    | succ i => simpa using HasL.get' h (by simpa using e)
theorem HasL.snoc : ∀ {xs : List D} {vs : List V} {d : D} {v : V}, HasL K G xs vs → Has K G d v → HasL K G (xs ++ [d]) (vs ++ [v])
  | [], vs, d, v, h, q => by
    unfold HasL at h; subst h
    show HasL K G [d] [v]
    unfold HasL
    exact ⟨v, [], rfl, q, by unfold HasL; rfl⟩
  | x :: xs, vs, d, v, h, q => by
    unfold HasL at h
    obtain ⟨u, r, rfl, h1, h⟩ := h
    show HasL K G (x :: (xs ++ [d])) (u :: (r ++ [v]))
    unfold HasL
    exact ⟨u, r ++ [v], rfl, h1, HasL.snoc h q⟩
theorem HasL.app : ∀ {xs : List D} {vs : List V} {ys : List D} {us : List V}, HasL K G xs vs → HasL K G ys us → HasL K G (xs ++ ys) (vs ++ us)
  | [], vs, ys, us, h, q => by unfold HasL at h; subst h; exact q
  | x :: xs, vs, ys, us, h, q => by
    unfold HasL at h
    obtain ⟨u, r, rfl, h1, h⟩ := h
    show HasL K G (x :: (xs ++ ys)) (u :: (r ++ us))
    unfold HasL
    exact ⟨u, r ++ us, rfl, h1, HasL.app h q⟩
theorem hasL_nil : HasL K G [] [] := by unfold HasL; rfl
theorem hasL_cons {d : D} {v : V} {xs : List D} {vs : List V} (h : Has K G d v) (q : HasL K G xs vs) : HasL K G (d :: xs) (v :: vs) := by
  rw [HasL]; exact ⟨v, vs, rfl, h, q⟩
theorem hasK_nil : HasK K G [] [] := by unfold HasK; rfl
theorem hasK_cons {k : Key} {d : D} {v : V} {xs : List (Key × D)} {vs : List (Key × V)} (h : Has K G d v) (q : HasK K G xs vs) : HasK K G ((k, d) :: xs) ((k, v) :: vs) := by
  rw [HasK]; exact ⟨v, vs, rfl, h, q⟩

/-! tables -/
def putD {α : Type} (xs : List (Key × α)) (k : Key) (d : α) : List (Key × α) :=
  if (xs.any fun p => decide (p.1 = k)) = true then xs.map (fun p => if p.1 = k then (p.1, d) else p) else xs ++ [(k, d)]
def dropD {α : Type} (xs : List (Key × α)) (k : Key) : List (Key × α) := xs.filter fun p => decide (p.1 ≠ k)
theorem HasK.look : ∀ {xs : List (Key × D)} {ws : List (Key × V)}, HasK K G xs ws → ∀ k, (look xs k = none ∧ valV ws k = none) ∨ ∃ d v, look xs k = some d ∧ valV ws k = some v ∧ Has K G d v
  | [], ws, r, k => by unfold HasK at r; subst r; exact .inl ⟨rfl, rfl⟩
  | (j, x) :: xs, ws, r, k => by
    unfold HasK at r
    obtain ⟨u, q, rfl, a, r⟩ := r
    unfold Mp.look
    by_cases e : j = k
    · rw [if_pos e, valV_pos (p := (j, u)) e]
      exact .inr ⟨x, u, rfl, rfl, a⟩
    · rw [if_neg e, valV_neg (p := (j, u)) e]
      exact HasK.look r k
theorem HasK.any : ∀ {xs : List (Key × D)} {ws : List (Key × V)}, HasK K G xs ws → ∀ k, (ws.any fun p => decide (p.1 = k)) = (xs.any fun p => decide (p.1 = k))
  | [], ws, r, k => by unfold HasK at r; subst r; rfl
  | (j, x) :: xs, ws, r, k => by
    unfold HasK at r
    obtain ⟨u, q, rfl, a, r⟩ := r
    rw [List.any_cons, List.any_cons, HasK.any r k]
theorem HasK.set : ∀ {xs : List (Key × D)} {ws : List (Key × V)} {k : Key} {d : D} {v : V}, HasK K G xs ws → Has K G d v →
    HasK K G (xs.map fun p => if p.1 = k then (p.1, d) else p) (ws.map fun p => if p.1 = k then (p.1, v) else p)
  | [], ws, k, d, v, r, q => by unfold HasK at r; subst r; exact hasK_nil
  | (j, x) :: xs, ws, k, d, v, r, q => by
    unfold HasK at r
    obtain ⟨u, s, rfl, a, r⟩ := r
    rw [List.map_cons, List.map_cons]
    by_cases e : j = k
    · rw [if_pos e, if_pos e]; exact hasK_cons q (HasK.set r q)
    · rw [if_neg e, if_neg e]; exact hasK_cons a (HasK.set r q)
theorem HasK.snoc : ∀ {xs : List (Key × D)} {ws : List (Key × V)} {k : Key} {d : D} {v : V}, HasK K G xs ws → Has K G d v → HasK K G (xs ++ [(k, d)]) (ws ++ [(k, v)])
  | [], ws, k, d, v, r, q => by unfold HasK at r; subst r; exact hasK_cons q hasK_nil
  | (j, x) :: xs, ws, k, d, v, r, q => by
    unfold HasK at r
    obtain ⟨u, s, rfl, a, r⟩ := r
    exact hasK_cons a (HasK.snoc r q)
theorem HasK.put {xs : List (Key × D)} {ws : List (Key × V)} {k : Key} {d : D} {v : V} (r : HasK K G xs ws) (q : Has K G d v) : HasK K G (putD xs k d) (putK ws k v) := by
  unfold putD putK
  rw [r.any k]
  split
  · exact HasK.set r q
  · exact HasK.snoc r q
theorem HasK.drop : ∀ {xs : List (Key × D)} {ws : List (Key × V)} {k : Key}, HasK K G xs ws → HasK K G (dropD xs k) (dropK ws k)
  | [], ws, k, r => by unfold HasK at r; subst r; exact hasK_nil
  | (j, x) :: xs, ws, k, r => by
    unfold HasK at r
    obtain ⟨u, s, rfl, a, r⟩ := r
    unfold dropD dropK
    rw [List.filter_cons, List.filter_cons]
    have z := HasK.drop (k := k) r
    by_cases e : j = k
    · simp only [e, ne_eq, not_true_eq_false, decide_false, Bool.false_eq_true, if_false]; exact z
    · simp only [e, ne_eq, not_false_eq_true, decide_true, if_true]; exact hasK_cons a z
theorem HasK.get : ∀ {xs : List (Key × D)} {ws : List (Key × V)}, HasK K G xs ws → ∀ {i : Nat} {k : Key} {d : D}, xs[i]? = some (k, d) → ∃ v, ws[i]? = some (k, v) ∧ Has K G d v
  | [], _, _, i, k, d, e => by simp at e
  | (j, x) :: xs, ws, h, i, k, d, e => by
    unfold HasK at h
    obtain ⟨v, r, rfl, h1, h⟩ := h
    cases i with
    | zero => simp at e; obtain ⟨rfl, rfl⟩ := e; exact ⟨v, rfl, h1⟩
    | succ i => simpa using HasK.get h (by simpa using e)
theorem HasK.keys : ∀ {xs : List (Key × D)} {ws : List (Key × V)}, HasK K G xs ws → ws.map (·.1) = xs.map (·.1)
  | [], _, h => by unfold HasK at h; subst h; rfl
  | (j, x) :: xs, ws, h => by
    unfold HasK at h
    obtain ⟨v, r, rfl, h1, h⟩ := h
    simp [HasK.keys h]
end

/-! ### the context: K, and perhaps the law's town and script -/
structure Cn where
  K : PySem.W.Frag
  tw : Option (Addr × Addr × List Int)
def Cn.pure (c : Cn) : Cn := ⟨c.K, none⟩
/-- the town's address -/
def Cn.T (c : Cn) (a : Addr) : Prop := ∃ q, c.tw = some (a, q)
def TwOk (t : Addr) (H : Hp) : Prop := ∃ p q : Int, 0 ≤ p ∧ H t = some (.lst [.int p, .int q])
def Cn.Iv (c : Cn) (H : Hp) : Prop := ∀ t q, c.tw = some (t, q) → TwOk t H
/-- the script is read, whatever is made -/
def KSeq (K : PySem.W.Frag) (s : Addr) (ns : List Int) : Prop := ∀ H : Hp, SqL K H s (ns.map V.int)
def ScOk (K : PySem.W.Frag) (s : Addr) (ns : List Int) (G H : Hp) : Prop := KSeq K s ns ∨ (Rd H s (.lst (ns.map V.int)) ∧ G s = none)
/-- what the ghost heap says stands: a tuple is known to its object -/
def At (H : Hp) (a : Addr) : HO → Prop
  | .tup vs => ∃ o, H a = some (.frz o (.tup vs)) ∧ o.dict = none
  | .lst vs => Rd H a (.lst vs)
  | .dK ws => Rd H a (.dK ws)
  | _ => False
theorem At.rd {H : Hp} {a : Addr} {u : HO} (h : At H a u) : Rd H a u := by
  cases u with
  | tup vs => obtain ⟨o, h, _⟩ := h; exact .inr ⟨o, h⟩
  | lst vs => exact h
  | dK vs => exact h
  | _ => exact h.elim
theorem At.nf {H : Hp} {a : Addr} {o : Obj} {u : HO} (h : At H a (.frz o u)) : False := h
theorem At.to {H H' : Hp} {a : Addr} {u : HO} (e : H' a = H a) (h : At H a u) : At H' a u := by
  cases u with
  | tup vs => obtain ⟨o, h, d⟩ := h; exact ⟨o, e.trans h, d⟩
  | lst vs =>
    rcases h with h | ⟨o, h⟩
    · exact .inl (e.trans h)
    · exact .inr ⟨o, e.trans h⟩
  | dK vs =>
    rcases h with h | ⟨o, h⟩
    · exact .inl (e.trans h)
    · exact .inr ⟨o, e.trans h⟩
  | _ => exact h.elim
structure Sub (c : Cn) (G H : Hp) : Prop where
  pl : ∀ a u, G a = some u → At H a u
  iv : c.Iv H
  tg : ∀ a, c.T a → G a = none
  sc : ∀ t s ns, c.tw = some (t, s, ns) → ScOk c.K s ns G H ∧ (KSeq c.K s ns ∨ s ≠ t)
theorem Sub.ge {c : Cn} {G H : Hp} (s : Sub c G H) : Ge G H := fun a u r => by
  rcases r with r | ⟨o, r⟩
  · exact (s.pl a u r).rd
  · exact (s.pl a _ r).nf.elim
theorem Sub.rd {c : Cn} {G H : Hp} (s : Sub c G H) {a : Addr} {u : HO} (r : Rd G a u) : G a = some u := by
  rcases r with r | ⟨o, r⟩
  · exact r
  · exact (s.pl a _ r).nf.elim
theorem Sub.there {c : Cn} {G H : Hp} (s : Sub c G H) {a : Addr} {u : HO} (h : G a = some u) : H a ≠ none := by
  rcases (s.pl a u h).rd with r | ⟨o, r⟩ <;> rw [r] <;> exact fun z => nomatch z
theorem Sub.free {c : Cn} {G H : Hp} (s : Sub c G H) {a : Addr} (h : H a = none) : G a = none := by
  cases q : G a with
  | none => rfl
  | some u => exact absurd h (s.there q)
structure Step (c : Cn) (G H G' H' : Hp) : Prop where
  gs : ∀ a u, G a = some u → G' a = some u
  sub : Sub c G' H'
  keep : ∀ a u, ¬ c.T a → G a = none → H a = some u → H' a = some u
  fr : ∀ a, H a ≠ none → G a = none → G' a = none
  fz : ∀ a o u, H a = some (.frz o u) → H' a = some (.frz o u)
section
variable {c : Cn} {G H G1 H1 G2 H2 : Hp}
theorem Cn.Iv.town (i : c.Iv H) {t : Addr} (h : c.T t) : H t ≠ none := by
  obtain ⟨q, h⟩ := h
  obtain ⟨p, q, _, z⟩ := i t _ h
  rw [z]; exact fun y => nomatch y
theorem Step.ge (s : Step c G H G1 H1) : Ge G G1 := fun a u r => r.imp (s.gs a u) fun ⟨o, r⟩ => ⟨o, s.gs a _ r⟩
theorem Step.refl (s : Sub c G H) : Step c G H G H := ⟨fun _ _ h => h, s, fun _ _ _ _ h => h, fun _ _ h => h, fun _ _ _ h => h⟩
theorem Step.trans (a : Step c G H G1 H1) (b : Step c G1 H1 G2 H2) : Step c G H G2 H2 :=
  ⟨fun x u h => b.gs x u (a.gs x u h), b.sub, fun x u t g h => b.keep x u t (a.fr x (by rw [h]; exact fun z => nomatch z) g) (a.keep x u t g h), fun x n g => b.fr x (fun z => by
    by_cases t : c.T x
    · exact a.sub.iv.town t z
    · cases q : H x with
      | none => exact n q
      | some u => rw [a.keep x u t g q] at z; cases z) (a.fr x n g), fun x o u h => b.fz x o u (a.fz x o u h)⟩
theorem Iv.upd (i : c.Iv H) {p : Addr} {o : HO} (hp : ¬ c.T p) : c.Iv (upd H p o) := fun t q h => by
  obtain ⟨x, y, h0, h1⟩ := i t q h
  have ne : t ≠ p := by rintro rfl; exact hp ⟨q, h⟩
  exact ⟨x, y, h0, by rw [upd_ne ne]; exact h1⟩
theorem rd_upd {p a : Addr} {o u : HO} (hp : H p = none) (r : Rd H a u) : Rd (upd H p o) a u := by
  rcases r with r | ⟨o', r⟩
  · exact .inl (by rw [upd_ne (ne_of_none r hp)]; exact r)
  · exact .inr ⟨o', by rw [upd_ne (ne_of_none r hp)]; exact r⟩
theorem not_town (i : c.Iv H) {p : Addr} (hp : H p = none) : ¬ c.T p := fun t => i.town t hp
theorem at_upd {p a : Addr} {o u : HO} (hp : H p = none) (r : At H a u) : At (upd H p o) a u := r.to (upd_ne (fun e => by
  subst e
  rcases r.rd with q | ⟨_, q⟩ <;> rw [hp] at q <;> cases q))
/-- a new object, to be read only from now on -/
theorem Step.new (s : Sub c G H) {p : Addr} {o u : HO} (hp : H p = none) (po : At (upd H p o) p u) : Step c G H (upd G p u) (upd H p o) where
  gs := fun a u h => by rw [upd_ne (ne_of_none h (s.free hp))]; exact h
  sub := {
    pl := fun a x h => by
      by_cases e : a = p
      · subst e; rw [upd_same] at h; cases h; exact po
      · rw [upd_ne e] at h; exact at_upd hp (s.pl a x h)
    iv := Iv.upd s.iv (not_town s.iv hp)
    tg := fun a t => by
      have e : a ≠ p := by rintro rfl; exact not_town s.iv hp t
      rw [upd_ne e]; exact s.tg a t
    sc := fun t a ns h => ⟨(s.sc t a ns h).1.imp id fun ⟨r, g⟩ => ⟨rd_upd hp r, by
      have e : a ≠ p := by rintro rfl; rcases r with r | ⟨_, r⟩ <;> rw [hp] at r <;> cases r
      rw [upd_ne e]; exact g⟩, (s.sc t a ns h).2⟩ }
  keep := fun a u _ _ h => by rw [upd_ne (ne_of_none h hp)]; exact h
  fr := fun a n g => by rw [upd_ne (fun e => n (by rw [e]; exact hp))]; exact g
  fz := fun a o u h => by rw [upd_ne (ne_of_none h hp)]; exact h
/-- a new object that is no datum (yet) -/
theorem Step.tmp (s : Sub c G H) {p : Addr} {o : HO} (hp : H p = none) : Step c G H G (upd H p o) where
  gs := fun a u h => h
  sub := { pl := fun a u h => at_upd hp (s.pl a u h), iv := Iv.upd s.iv (not_town s.iv hp), tg := s.tg, sc := fun t a ns h => ⟨(s.sc t a ns h).1.imp id fun ⟨r, g⟩ => ⟨rd_upd hp r, g⟩, (s.sc t a ns h).2⟩ }
  keep := fun a u _ _ h => by rw [upd_ne (ne_of_none h hp)]; exact h
  fr := fun a n g => g
  fz := fun a o u h => by rw [upd_ne (ne_of_none h hp)]; exact h
/-- an object that is no datum is changed -/
theorem Sub.mut (s : Sub c G H) {p : Addr} {o : HO} (hg : G p = none) (hi : ¬ c.T p) (hs : ∀ t ns, c.tw = some (t, p, ns) → KSeq c.K p ns) : Sub c G (upd H p o) where
  pl := fun a u h => by
    have ne : a ≠ p := by rintro rfl; rw [hg] at h; cases h
    exact (s.pl a u h).to (upd_ne ne)
  iv := Iv.upd s.iv hi
  tg := s.tg
  sc := fun t a ns h => by
    obtain ⟨h1, h2⟩ := s.sc t a ns h
    refine ⟨?_, h2⟩
    by_cases e : a = p
    · subst e; exact .inl (hs t ns h)
    · refine h1.imp id fun ⟨r, g⟩ => ⟨?_, g⟩
      rcases r with r | ⟨o', r⟩
      · exact .inl (by rw [upd_ne e]; exact r)
      · exact .inr ⟨o', by rw [upd_ne e]; exact r⟩
/-- a datum that is a dict is locked, for good -/
theorem Step.frz (s : Sub c G H) {p : Addr} {o : Obj} {ws : List (Key × V)} (hg : G p = some (.dK ws)) (hp : H p = some (.dK ws)) : Step c G H G (upd H p (.frz o (.dK ws))) where
  gs := fun a u h => h
  sub := {
    pl := fun a x h => by
      by_cases e : a = p
      · subst e; rw [hg] at h; cases h; exact .inr ⟨o, upd_same⟩
      · exact (s.pl a x h).to (upd_ne e)
    iv := Iv.upd s.iv fun t => by rw [s.tg p t] at hg; cases hg
    tg := s.tg
    sc := fun t a ns h => by
      obtain ⟨h1, h2⟩ := s.sc t a ns h
      refine ⟨h1.imp id fun ⟨r, g⟩ => ⟨?_, g⟩, h2⟩
      have e : a ≠ p := by rintro rfl; rw [g] at hg; cases hg
      rcases r with r | ⟨o', r⟩
      · exact .inl (by rw [upd_ne e]; exact r)
      · exact .inr ⟨o', by rw [upd_ne e]; exact r⟩ }
  keep := fun a x _ g h => by rw [upd_ne (fun e => by subst e; rw [hg] at g; cases g)]; exact h
  fr := fun a n g => g
  fz := fun a o' x h => by
    have ne : a ≠ p := by rintro rfl; rw [hp] at h; cases h
    rw [upd_ne ne]; exact h
/-- a pure step, within any context -/
theorem Sub.pure (s : Sub c G H) : Sub c.pure G H := ⟨s.pl, (fun t q z => by cases z), (fun a ⟨q, t⟩ => by cases t), (fun t a ns z => by cases z)⟩
theorem Step.lift (s : Sub c G H) (a : Step c.pure G H G1 H1) : Step c G H G1 H1 := by
  have k : ∀ a u, G a = none → H a = some u → H1 a = some u := fun x u g h => a.keep x u (fun ⟨q, e⟩ => by cases e) g h
  refine ⟨a.gs, ⟨a.sub.pl, fun t q h => ?_, fun x t => ?_, fun t x ns h => ?_⟩, fun x u _ g h => k x u g h, a.fr, a.fz⟩
  · obtain ⟨x, y, h0, h1⟩ := s.iv t q h
    exact ⟨x, y, h0, k t _ (s.tg t ⟨q, h⟩) h1⟩
  · exact a.fr x (s.iv.town t) (s.tg x t)
  · obtain ⟨h1, h2⟩ := s.sc t x ns h
    refine ⟨h1.imp id fun ⟨r, g⟩ => ?_, h2⟩
    rcases r with r | ⟨o, r⟩
    · exact ⟨.inl (k x _ g r), a.fr x (by rw [r]; exact fun z => nomatch z) g⟩
    · exact ⟨.inr ⟨o, k x _ g r⟩, a.fr x (by rw [r]; exact fun z => nomatch z) g⟩
end

/-! ### the slots -/
inductive Sl where
  | un | dat (d : D) | own (d : D) | raw (v : V)
/-- an object of the def's own, not yet a datum -/
def OwnAt (K : PySem.W.Frag) (G H : Hp) (r : Addr) : D → Prop
  | .lst xs => ∃ vs, H r = some (.lst vs) ∧ HasL K G xs vs
  | .dic xs => ∃ ws, H r = some (.dK ws) ∧ HasK K G xs ws
  | _ => False
structure EnvOk (c : Cn) (H0 G H : Hp) (σ : L2.St) (δ : List Sl) : Prop where
  len : σ.length = δ.length
  dat : ∀ (i : Nat) (d : D), δ[i]? = some (.dat d) → ∃ v, σ[i]? = some (some v) ∧ Has c.K G d v
  own : ∀ (i : Nat) (d : D), δ[i]? = some (.own d) → ∃ r, σ[i]? = some (some (.ref r)) ∧ H0 r = none ∧ G r = none ∧ OwnAt c.K G H r d
  raw : ∀ (i : Nat) (v : V), δ[i]? = some (.raw v) → σ[i]? = some (some v)
  sep : ∀ (i j : Nat) (d e : D) (r : Addr), i ≠ j → δ[i]? = some (.own d) → δ[j]? = some (.own e) → σ[i]? = some (some (.ref r)) → σ[j]? ≠ some (some (.ref r))
structure Bs (c : Cn) (G0 H0 G H : Hp) : Prop where
  s0 : Sub c G0 H0
  st : Step c G0 H0 G H
section
variable {c : Cn} {G0 H0 G H G1 H1 G2 H2 : Hp} {σ : L2.St} {δ : List Sl}
theorem OwnAt.mono {r : Addr} {d : D} (g : Ge G G1) (e : H1 r = H r) (h : OwnAt c.K G H r d) : OwnAt c.K G1 H1 r d := by
  cases d with
  | lst xs => obtain ⟨vs, h1, h2⟩ := h; exact ⟨vs, e.trans h1, h2.mono g⟩
  | dic xs => obtain ⟨vs, h1, h2⟩ := h; exact ⟨vs, e.trans h1, h2.mono g⟩
  | _ => exact h
theorem OwnAt.there {r : Addr} {d : D} (h : OwnAt c.K G H r d) : H r ≠ none := by
  cases d with
  | lst xs => obtain ⟨vs, h1, h2⟩ := h; rw [h1]; exact fun z => nomatch z
  | dic xs => obtain ⟨vs, h1, h2⟩ := h; rw [h1]; exact fun z => nomatch z
  | _ => exact h.elim
theorem Bs.sub (b : Bs c G0 H0 G H) : Sub c G H := b.st.sub
theorem Bs.iv (b : Bs c G0 H0 G H) : c.Iv H0 := b.s0.iv
theorem Bs.scr (b : Bs c G0 H0 G H) {r : Addr} (h0 : H0 r = none) : ∀ t ns, c.tw = some (t, r, ns) → KSeq c.K r ns := fun t ns h => by
  rcases (b.s0.sc t r ns h).1 with z | ⟨z | ⟨o, z⟩, _⟩
  · exact z
  · rw [h0] at z; cases z
  · rw [h0] at z; cases z
theorem Bs.next (b : Bs c G0 H0 G H) (s : Step c G H G1 H1) : Bs c G0 H0 G1 H1 := ⟨b.s0, b.st.trans s⟩
theorem EnvOk.step (e : EnvOk c H0 G H σ δ) (i0 : c.Iv H0) (s : Step c G H G1 H1) : EnvOk c H0 G1 H1 σ δ where
  len := e.len
  dat := fun i d h => by obtain ⟨v, h1, h2⟩ := e.dat i d h; exact ⟨v, h1, h2.mono s.ge⟩
  own := fun i d h => by
    obtain ⟨r, h1, h2, h3, h4⟩ := e.own i d h
    refine ⟨r, h1, h2, s.fr r h4.there h3, h4.mono s.ge ?_⟩
    cases q : H r with
    | none => exact absurd q h4.there
    | some u => exact s.keep r u (not_town i0 h2) h3 q
  raw := e.raw
  sep := e.sep
theorem get_set {α : Type} {l : List α} {i j : Nat} {x y : α} (h : (l.set i x)[j]? = some y) : (j = i ∧ x = y ∧ i < l.length) ∨ (j ≠ i ∧ l[j]? = some y) := by
  by_cases e : j = i
  · subst e
    by_cases hl : j < l.length
    · rw [List.getElem?_set_self hl] at h; cases h; exact .inl ⟨rfl, rfl, hl⟩
    · rw [List.getElem?_eq_none (by simpa using hl)] at h; cases h
  · rw [List.getElem?_set_ne (Ne.symm e)] at h; exact .inr ⟨e, h⟩
theorem EnvOk.setDat (e : EnvOk c H0 G H σ δ) {i : Nat} {d : D} {v : V} (h : Has c.K G d v) : EnvOk c H0 G H (σ.set i (some v)) (δ.set i (.dat d)) where
  len := by simp [e.len]
  dat := fun j x q => by
    rcases get_set q with ⟨rfl, z, hl⟩ | ⟨ne, q⟩
    · cases z; exact ⟨v, by rw [List.getElem?_set_self (by rw [e.len]; exact hl)], h⟩
    · obtain ⟨u, h1, h2⟩ := e.dat j x q; exact ⟨u, by rw [List.getElem?_set_ne (Ne.symm ne)]; exact h1, h2⟩
  own := fun j x q => by
    rcases get_set q with ⟨rfl, z, hl⟩ | ⟨ne, q⟩
    · cases z
    · obtain ⟨u, h1, h2⟩ := e.own j x q; exact ⟨u, by rw [List.getElem?_set_ne (Ne.symm ne)]; exact h1, h2⟩
  raw := fun j x q => by
    rcases get_set q with ⟨rfl, z, hl⟩ | ⟨ne, q⟩
    · cases z
    · rw [List.getElem?_set_ne (Ne.symm ne)]; exact e.raw j x q
  sep := fun j k x y r ne p q h1 => by
    rcases get_set p with ⟨rfl, z, hl⟩ | ⟨n1, p⟩
    · cases z
    rcases get_set q with ⟨rfl, z, hl⟩ | ⟨n2, q⟩
    · cases z
    rw [List.getElem?_set_ne (Ne.symm n1)] at h1
    rw [List.getElem?_set_ne (Ne.symm n2)]
    exact e.sep j k x y r ne p q h1
theorem EnvOk.setUn (e : EnvOk c H0 G H σ δ) {i : Nat} {o : Option V} : EnvOk c H0 G H (σ.set i o) (δ.set i .un) where
  len := by simp [e.len]
  dat := fun j x q => by
    rcases get_set q with ⟨rfl, z, hl⟩ | ⟨ne, q⟩
    · cases z
    · obtain ⟨u, h1, h2⟩ := e.dat j x q; exact ⟨u, by rw [List.getElem?_set_ne (Ne.symm ne)]; exact h1, h2⟩
  own := fun j x q => by
    rcases get_set q with ⟨rfl, z, hl⟩ | ⟨ne, q⟩
    · cases z
    · obtain ⟨u, h1, h2⟩ := e.own j x q; exact ⟨u, by rw [List.getElem?_set_ne (Ne.symm ne)]; exact h1, h2⟩
  raw := fun j x q => by
    rcases get_set q with ⟨rfl, z, hl⟩ | ⟨ne, q⟩
    · cases z
    · rw [List.getElem?_set_ne (Ne.symm ne)]; exact e.raw j x q
  sep := fun j k x y r ne p q h1 => by
    rcases get_set p with ⟨rfl, z, hl⟩ | ⟨n1, p⟩
    · cases z
    rcases get_set q with ⟨rfl, z, hl⟩ | ⟨n2, q⟩
    · cases z
    rw [List.getElem?_set_ne (Ne.symm n1)] at h1
    rw [List.getElem?_set_ne (Ne.symm n2)]
    exact e.sep j k x y r ne p q h1
/-- an own object is laid into slot i -/
theorem EnvOk.setOwn (e : EnvOk c H0 G H σ δ) {i : Nat} {d : D} {r : Addr} (hr : H0 r = none) (hg : G r = none) (h : OwnAt c.K G H r d) (hn : ∀ (j : Nat) (x : D), j ≠ i → δ[j]? = some (.own x) → σ[j]? ≠ some (some (.ref r))) :
    EnvOk c H0 G H (σ.set i (some (.ref r))) (δ.set i (.own d)) where
  len := by simp [e.len]
  dat := fun j x q => by
    rcases get_set q with ⟨rfl, z, hl⟩ | ⟨ne, q⟩
    · cases z
    · obtain ⟨u, h1, h2⟩ := e.dat j x q; exact ⟨u, by rw [List.getElem?_set_ne (Ne.symm ne)]; exact h1, h2⟩
  own := fun j x q => by
    rcases get_set q with ⟨rfl, z, hl⟩ | ⟨ne, q⟩
    · cases z; exact ⟨r, by rw [List.getElem?_set_self (by rw [e.len]; exact hl)], hr, hg, h⟩
    · obtain ⟨u, h1, h2⟩ := e.own j x q; exact ⟨u, by rw [List.getElem?_set_ne (Ne.symm ne)]; exact h1, h2⟩
  raw := fun j x q => by
    rcases get_set q with ⟨rfl, z, hl⟩ | ⟨ne, q⟩
    · cases z
    · rw [List.getElem?_set_ne (Ne.symm ne)]; exact e.raw j x q
  sep := fun j k x y a ne p q h1 => by
    rcases get_set p with ⟨e1, _, hl⟩ | ⟨n1, p'⟩
    · rw [e1, List.getElem?_set_self (by rw [e.len]; exact hl)] at h1
      cases h1
      rcases get_set q with ⟨e2, _, _⟩ | ⟨n2, q'⟩
      · exact absurd (e1.trans e2.symm) ne
      · rw [List.getElem?_set_ne (Ne.symm n2)]; exact hn k y n2 q'
    rw [List.getElem?_set_ne (Ne.symm n1)] at h1
    rcases get_set q with ⟨e2, _, hl⟩ | ⟨n2, q'⟩
    · rw [e2, List.getElem?_set_self (by rw [e.len]; exact hl)]
      intro z; cases z
      exact hn j x n1 p' h1
    · rw [List.getElem?_set_ne (Ne.symm n2)]
      exact e.sep j k x y a ne p' q' h1
/-- the own object in slot i has changed -/
theorem EnvOk.mutOwn (e : EnvOk c H0 G H σ δ) {i : Nat} {d d' : D} {r : Addr} {o : HO} (h : δ[i]? = some (.own d)) (hr : σ[i]? = some (some (.ref r))) (ho : OwnAt c.K G (upd H r o) r d') : EnvOk c H0 G (upd H r o) σ (δ.set i (.own d')) where
  len := by simp [e.len]
  dat := fun j x q => by
    rcases get_set q with ⟨rfl, z, hl⟩ | ⟨ne, q⟩
    · cases z
    · exact e.dat j x q
  own := fun j x q => by
    obtain ⟨r0, h1, h2, h3, h4⟩ := e.own i d h
    rw [hr] at h1; cases h1
    rcases get_set q with ⟨rfl, z, hl⟩ | ⟨ne, q⟩
    · cases z; exact ⟨r, hr, h2, h3, ho⟩
    · obtain ⟨u, g1, g2, g3, g4⟩ := e.own j x q
      have nr : u ≠ r := by rintro rfl; exact e.sep i j d x u (Ne.symm ne) h q hr g1
      exact ⟨u, g1, g2, g3, g4.mono (Ge.refl _) (upd_ne nr)⟩
  raw := fun j x q => by
    rcases get_set q with ⟨rfl, z, hl⟩ | ⟨ne, q⟩
    · cases z
    · exact e.raw j x q
  sep := fun j k x y a ne p q h1 => by
    have back : ∀ {m : Nat} {z : D}, (δ.set i (.own d'))[m]? = some (.own z) → ∃ z', δ[m]? = some (.own z') := fun {m z} q => by
      rcases get_set q with ⟨rfl, _, _⟩ | ⟨_, q⟩
      · exact ⟨d, h⟩
      · exact ⟨z, q⟩
    obtain ⟨x', p'⟩ := back p
    obtain ⟨y', q'⟩ := back q
    exact e.sep j k x' y' a ne p' q' h1
/-- the own object of slot i is a datum from now on -/
theorem own_pl {r : Addr} {d : D} (h : OwnAt c.K G H r d) : ∃ o, H r = some o ∧ At H r o := by
  cases d with
  | lst xs => obtain ⟨vs, h1, h2⟩ := h; exact ⟨_, h1, .inl h1⟩
  | dic xs => obtain ⟨vs, h1, h2⟩ := h; exact ⟨_, h1, .inl h1⟩
  | _ => exact h.elim
theorem Ge.upd {r : Addr} {o : HO} (hg : G r = none) : Ge G (upd G r o) := fun a u h => by
  have ne : a ≠ r := by rintro rfl; rcases h with h | ⟨_, h⟩ <;> rw [hg] at h <;> cases h
  rcases h with h | ⟨q, h⟩
  · exact .inl (by rw [upd_ne ne]; exact h)
  · exact .inr ⟨q, by rw [upd_ne ne]; exact h⟩
theorem own_has {r : Addr} {d : D} {o : HO} (hg : G r = none) (h : OwnAt c.K G H r d) (ho : H r = some o) : Has c.K (upd G r o) d (.ref r) := by
  cases d with
  | lst xs =>
    obtain ⟨vs, h1, h2⟩ := h
    rw [ho] at h1; cases h1
    unfold Has
    exact ⟨r, vs, rfl, .inl upd_same, h2.mono (Ge.upd hg)⟩
  | dic xs =>
    obtain ⟨vs, h1, h2⟩ := h
    rw [ho] at h1; cases h1
    unfold Has
    exact ⟨r, vs, rfl, .inl upd_same, h2.mono (Ge.upd hg)⟩
  | _ => exact h.elim
/-- the ghost grows by an object that stands -/
theorem Bs.pub (b : Bs c G0 H0 G H) {r : Addr} {o : HO} (h0 : H0 r = none) (hg : G r = none) (ho : H r = some o) (po : At H r o) : Bs c G0 H0 (upd G r o) H := by
  refine ⟨b.s0, ⟨fun a u h => ?_, ⟨fun a u h => ?_, b.sub.iv, fun a t => ?_, fun t a ns h => ?_⟩, b.st.keep, fun a n g => ?_, b.st.fz⟩⟩
  · have z := b.st.gs a u h
    have ne : a ≠ r := by rintro rfl; rw [hg] at z; cases z
    rw [upd_ne ne]; exact z
  · by_cases e : a = r
    · subst e; rw [upd_same] at h; cases h; exact po
    · rw [upd_ne e] at h; exact b.sub.pl a u h
  · have ne : a ≠ r := by rintro rfl; exact not_town b.iv h0 t
    rw [upd_ne ne]; exact b.sub.tg a t
  · obtain ⟨h1, h2⟩ := b.sub.sc t a ns h
    refine ⟨?_, h2⟩
    by_cases e : a = r
    · subst e; exact .inl (b.scr h0 t ns h)
    · exact h1.imp id fun ⟨q, g⟩ => ⟨q, by rw [upd_ne e]; exact g⟩
  · have ne : a ≠ r := by rintro rfl; exact n h0
    rw [upd_ne ne]; exact b.st.fr a n g
theorem EnvOk.pub (e : EnvOk c H0 G H σ δ) {i : Nat} {d : D} {r : Addr} {o : HO} (h : δ[i]? = some (.own d)) (hr : σ[i]? = some (some (.ref r))) (hg : G r = none) (ho : H r = some o) (oa : OwnAt c.K G H r d) :
    EnvOk c H0 (upd G r o) H σ (δ.set i (.dat d)) where
  len := by simp [e.len]
  dat := fun j x q => by
    rcases get_set q with ⟨rfl, z, hl⟩ | ⟨ne, q⟩
    · cases z; exact ⟨_, hr, own_has hg oa ho⟩
    · obtain ⟨v, h1, h2⟩ := e.dat j x q; exact ⟨v, h1, h2.mono (Ge.upd hg)⟩
  own := fun j x q => by
    rcases get_set q with ⟨rfl, z, hl⟩ | ⟨ne, q⟩
    · cases z
    · obtain ⟨u, g1, g2, g3, g4⟩ := e.own j x q
      have nr : u ≠ r := by rintro rfl; exact e.sep i j d x u (Ne.symm ne) h q hr g1
      exact ⟨u, g1, g2, by rw [upd_ne nr]; exact g3, g4.mono (Ge.upd hg) rfl⟩
  raw := fun j x q => by
    rcases get_set q with ⟨rfl, z, hl⟩ | ⟨ne, q⟩
    · cases z
    · exact e.raw j x q
  sep := fun j k x y a ne p q h1 => by
    rcases get_set p with ⟨rfl, z, hl⟩ | ⟨n1, p⟩
    · cases z
    rcases get_set q with ⟨rfl, z, hl⟩ | ⟨n2, q⟩
    · cases z
    exact e.sep j k x y a ne p q h1
theorem Bs.mut (b : Bs c G0 H0 G H) {r : Addr} {o : HO} (h0 : H0 r = none) (hg : G r = none) : Bs c G0 H0 G (upd H r o) :=
  ⟨b.s0, ⟨b.st.gs, b.sub.mut hg (not_town b.iv h0) (b.scr h0), fun a u t g h => by rw [upd_ne (ne_of_none h h0)]; exact b.st.keep a u t g h, b.st.fr, fun a o' u h => by rw [upd_ne (ne_of_none h h0)]; exact b.st.fz a o' u h⟩⟩
/-- later: the ghost has grown, what was locked is locked -/
structure Lat (G H G' H' : Hp) : Prop where
  gs : ∀ a u, G a = some u → G' a = some u
  fz : ∀ a o u, H a = some (.frz o u) → H' a = some (.frz o u)
theorem Lat.refl (G H : Hp) : Lat G H G H := ⟨fun _ _ h => h, fun _ _ _ h => h⟩
theorem Lat.trans (a : Lat G H G1 H1) (b : Lat G1 H1 G2 H2) : Lat G H G2 H2 := ⟨fun x u h => b.gs x u (a.gs x u h), fun x o u h => b.fz x o u (a.fz x o u h)⟩
theorem Step.lat (s : Step c G H G1 H1) : Lat G H G1 H1 := ⟨s.gs, s.fz⟩
theorem Lat.ge (s : Lat G H G1 H1) : Ge G G1 := fun a u r => r.imp (s.gs a u) fun ⟨o, r⟩ => ⟨o, s.gs a _ r⟩
theorem Lat.mut {r : Addr} {o : HO} (hf : ∀ o' u, H r ≠ some (.frz o' u)) : Lat G H G (upd H r o) := ⟨fun _ _ h => h, fun a o' u h => by
  have ne : a ≠ r := by rintro rfl; exact hf o' u h
  rw [upd_ne ne]; exact h⟩
theorem Lat.pub {r : Addr} {o : HO} (hg : G r = none) : Lat G H (upd G r o) H := ⟨fun a u h => by rw [upd_ne (ne_of_none h hg)]; exact h, fun _ _ _ h => h⟩
theorem OwnAt.nofrz {r : Addr} {d : D} (h : OwnAt c.K G H r d) : ∀ o u, H r ≠ some (.frz o u) := fun o u e => by
  obtain ⟨q, h1, h2⟩ := own_pl h
  rw [e] at h1; cases h1; exact h2.nf
end
end Mp

set_option Elab.async false
set_option linter.all false
set_option maxRecDepth 100000
set_option maxHeartbeats 4000000
namespace Mp
open PySem L2

/-! ### readings at the level of data -/
abbrev KE (c : Cn) (G H : Hp) (P : D → Prop) (Q : VK) : Prop := ∀ (d : D) (v : V) (G' H' : Hp), P d → Step c G H G' H' → Has c.K G' d v → Q v H'
/-- an expression: it gives a datum of which P holds -/
def DE (c : Cn) (te : TE) (δ : List Sl) (P : D → Prop) : Prop :=
  ∀ (G0 H0 G H : Hp) (σ : L2.St) (Q : VK), Bs c G0 H0 G H → EnvOk c H0 G H σ δ → KE c G H P Q → te σ H Q
/-- an expression that makes a new list or dict -/
def DN (c : Cn) (te : TE) (δ : List Sl) (P : D → Prop) : Prop :=
  ∀ (G0 H0 G H : Hp) (σ : L2.St) (Q : VK), Bs c G0 H0 G H → EnvOk c H0 G H σ δ →
    (∀ (d : D) (r : Addr) (G' H' : Hp), P d → Step c G H G' H' → H r = none → G' r = none → OwnAt c.K G' H' r d → Q (.ref r) H') → te σ H Q
def DT (c : Cn) (tt : TT) (δ : List Sl) (P : Bool → Prop) : Prop :=
  ∀ (G0 H0 G H : Hp) (σ : L2.St) (Q : Bool → Hp → Prop), Bs c G0 H0 G H → EnvOk c H0 G H σ δ → (∀ (b : Bool) (G' H' : Hp), P b → Step c G H G' H' → Q b H') → tt σ H Q
/-- an argument: a datum, or a value as it is -/
inductive Av where
  | dat (d : D) | raw (v : V)
def HasA (K : PySem.W.Frag) (G : Hp) : List Av → List V → Prop
  | [], vs => vs = []
  | .dat d :: r, vs => ∃ v s, vs = v :: s ∧ Has K G d v ∧ HasA K G r s
  | .raw v :: r, vs => ∃ s, vs = v :: s ∧ HasA K G r s
def DA (c : Cn) (ta : TA) (δ : List Sl) (P : List Av → Prop) : Prop :=
  ∀ (G0 H0 G H : Hp) (σ : L2.St) (Q : List V → Hp → Prop), Bs c G0 H0 G H → EnvOk c H0 G H σ δ →
    (∀ (as : List Av) (vs : List V) (G' H' : Hp), P as → Step c G H G' H' → HasA c.K G' as vs → Q vs H') → ta σ H Q
theorem HasA.mono {K : PySem.W.Frag} {G G' : Hp} (e : Ge G G') : ∀ {as : List Av} {vs : List V}, HasA K G as vs → HasA K G' as vs
  | [], _, h => h
  | .dat d :: r, vs, h => by
    obtain ⟨v, s, e1, h1, h2⟩ := h
    exact ⟨v, s, e1, h1.mono e, h2.mono e⟩
  | .raw v :: r, vs, h => by
    obtain ⟨s, e1, h2⟩ := h
    exact ⟨s, e1, h2.mono e⟩
theorem HasA.dats {K : PySem.W.Frag} {G : Hp} : ∀ {ds : List D} {vs : List V}, HasA K G (ds.map .dat) vs → HasL K G ds vs
  | [], _, h => by cases h; exact hasL_nil
  | d :: r, vs, h => by
    obtain ⟨v, s, rfl, h1, h2⟩ := h
    exact hasL_cons h1 h2.dats

section
variable {c : Cn} {te ta tb : TE} {tt tu : TT} {δ : List Sl} {P P' : D → Prop}
theorem DE.imp (h : DE c te δ P) (i : ∀ d, P d → P' d) : DE c te δ P' := fun G0 H0 G H σ Q b e k => h G0 H0 G H σ Q b e fun d v G' H' p => k d v G' H' (i d p)
theorem DN.imp (h : DN c te δ P) (i : ∀ d, P d → P' d) : DN c te δ P' := fun G0 H0 G H σ Q b e k => h G0 H0 G H σ Q b e fun d v G' H' p => k d v G' H' (i d p)
theorem DT.imp {P P' : Bool → Prop} (h : DT c tt δ P) (i : ∀ d, P d → P' d) : DT c tt δ P' := fun G0 H0 G H σ Q b e k => h G0 H0 G H σ Q b e fun d G' H' p => k d G' H' (i d p)
/-- what is new may be taken as a datum at once -/
theorem DN.de (h : DN c te δ P) : DE c te δ P := fun G0 H0 G H σ Q b e k => h G0 H0 G H σ Q b e fun d r G' H' p s hr gr oa => by
  obtain ⟨o, ho, po⟩ := own_pl oa
  refine k d _ (upd G' r o) H' p ?_ (own_has gr oa ho)
  refine ⟨fun a u x => ?_, ⟨fun a u x => ?_, s.sub.iv, fun a t => ?_, fun t a ns h => ?_⟩, s.keep, fun a n g => ?_, s.fz⟩
  · have ne : a ≠ r := by rintro rfl; rw [s.gs a u x] at gr; cases gr
    rw [upd_ne ne]; exact s.gs a u x
  · by_cases ea : a = r
    · subst ea; rw [upd_same] at x; cases x; exact po
    · rw [upd_ne ea] at x; exact s.sub.pl a u x
  · have ne : a ≠ r := by rintro rfl; exact not_town b.sub.iv hr t
    rw [upd_ne ne]; exact s.sub.tg a t
  · obtain ⟨h1, h2⟩ := s.sub.sc t a ns h
    refine ⟨?_, h2⟩
    by_cases e : a = r
    · subst e; exact .inl (Bs.scr (G0 := G) (H0 := H) ⟨b.sub, s⟩ hr t ns h)
    · exact h1.imp id fun ⟨q, g⟩ => ⟨q, by rw [upd_ne e]; exact g⟩
  · have ne : a ≠ r := by rintro rfl; exact n hr
    rw [upd_ne ne]; exact s.fr a n g

/-! names and constants -/
theorem de_var {i : Nat} {d : D} (h : δ[i]? = some (.dat d)) (p : P d) : DE c (tVar i) δ P := fun G0 H0 G H σ Q b e k => by
  obtain ⟨v, h1, h2⟩ := e.dat i d h
  exact ⟨v, h1, k d v G H p (.refl b.sub) h2⟩
theorem de_cst {v : V} {d : D} (h : ∀ G, Has c.K G d v) (p : P d) : DE c (tC v) δ P := fun G0 H0 G H σ Q b e k => k d v G H p (.refl b.sub) (h G)
theorem de_int {i : Int} (p : P (.int i)) : DE c (tC (.int i)) δ P := de_cst (fun G => by unfold Has; rfl) p
theorem de_str {i : Str} (p : P (.str i)) : DE c (tC (.str i)) δ P := de_cst (fun G => by unfold Has; rfl) p
theorem de_bl {i : Bool} (p : P (.bl i)) : DE c (tC (.bl i)) δ P := de_cst (fun G => by unfold Has; rfl) p
theorem de_non (p : P .non) : DE c (tC .non) δ P := de_cst (fun G => by unfold Has; rfl) p

/-! operators -/
/-- what an operation on two values does, at the level of data -/
def DOp (c : Cn) (r : R2) (F : D → D → (D → Prop) → Prop) : Prop :=
  ∀ (x y : D) (v u : V) (G H : Hp) (Q : VK) (P : D → Prop), Sub c G H → Has c.K G x v → Has c.K G y u → F x y P → KE c G H P Q → r v u H Q
theorem de_op {r : R2} {F : D → D → (D → Prop) → Prop} (hr : DOp c r F) (h : DE c ta δ fun x => DE c tb δ fun y => F x y P) : DE c (tOp r ta tb) δ P := fun G0 H0 G H σ Q b e k =>
  h G0 H0 G H σ _ b e fun x v G1 H1 px s1 hx => px G0 H0 G1 H1 σ _ (b.next s1) (e.step b.iv s1) fun y u G2 H2 py s2 hy =>
    hr x y v u G2 H2 Q P s2.sub (hx.mono s2.ge) hy py fun d w G3 H3 pd s3 hd => k d w G3 H3 pd ((s1.trans s2).trans s3) hd
def DUn (c : Cn) (r : V → Hp → VK → Prop) (F : D → (D → Prop) → Prop) : Prop :=
  ∀ (x : D) (v : V) (G H : Hp) (Q : VK) (P : D → Prop), Sub c G H → Has c.K G x v → F x P → KE c G H P Q → r v H Q
theorem de_un {r : V → Hp → VK → Prop} {F : D → (D → Prop) → Prop} (hr : DUn c r F) (h : DE c ta δ fun x => F x P) : DE c (tUn r ta) δ P := fun G0 H0 G H σ Q b e k =>
  h G0 H0 G H σ _ b e fun x v G1 H1 px s1 hx => hr x v G1 H1 Q P s1.sub hx px fun d w G3 H3 pd s3 hd => k d w G3 H3 pd (s1.trans s3) hd
/-- a value alone comes of it, the heap stays -/
theorem dop_val {r : R2} {F : D → D → (D → Prop) → Prop} (h : ∀ (x y : D) (v u : V) (G H : Hp) (P : D → Prop) (Q : VK), Sub c G H → Has c.K G x v → Has c.K G y u → F x y P → (∀ d w, P d → Has c.K G d w → Q w H) → r v u H Q) : DOp c r F :=
  fun x y v u G H Q P s hx hy f k => h x y v u G H P Q s hx hy f fun d w p q => k d w G H p (.refl s) q

/-! and, or, not, if -/
theorem de_if (h : DT c tt δ fun b => if b = true then DE c ta δ P else DE c tb δ P) : DE c (tIf tt ta tb) δ P := fun G0 H0 G H σ Q b e k =>
  h G0 H0 G H σ _ b e fun x G1 H1 p s1 => by
    cases x with
    | true => simp only [if_true] at p ⊢; exact p G0 H0 G1 H1 σ Q (b.next s1) (e.step b.iv s1) fun d v G2 H2 pd s2 hd => k d v G2 H2 pd (s1.trans s2) hd
    | false => simp only [Bool.false_eq_true, if_false] at p ⊢; exact p G0 H0 G1 H1 σ Q (b.next s1) (e.step b.iv s1) fun d v G2 H2 pd s2 hd => k d v G2 H2 pd (s1.trans s2) hd
theorem de_andV (h : DE c ta δ fun x => ∃ b, x = .bl b ∧ if b = true then DE c tb δ P else P (.bl false)) : DE c (tAndV ta tb) δ P := fun G0 H0 G H σ Q b e k =>
  h G0 H0 G H σ _ b e fun x v G1 H1 p s1 hx => by
    obtain ⟨w, rfl, p⟩ := p
    unfold Has at hx
    refine ⟨w, hx, ?_⟩
    cases w with
    | true => simp only [if_true] at p ⊢; exact p G0 H0 G1 H1 σ Q (b.next s1) (e.step b.iv s1) fun d v G2 H2 pd s2 hd => k d v G2 H2 pd (s1.trans s2) hd
    | false => simp only [Bool.false_eq_true, if_false] at p ⊢; exact k _ _ G1 H1 p s1 (by unfold Has; rfl)
theorem de_orV (h : DE c ta δ fun x => ∃ b, x = .bl b ∧ if b = true then P (.bl true) else DE c tb δ P) : DE c (tOrV ta tb) δ P := fun G0 H0 G H σ Q b e k =>
  h G0 H0 G H σ _ b e fun x v G1 H1 p s1 hx => by
    obtain ⟨w, rfl, p⟩ := p
    unfold Has at hx
    refine ⟨w, hx, ?_⟩
    cases w with
    | false => simp only [Bool.false_eq_true, if_false] at p ⊢; exact p G0 H0 G1 H1 σ Q (b.next s1) (e.step b.iv s1) fun d v G2 H2 pd s2 hd => k d v G2 H2 pd (s1.trans s2) hd
    | true => simp only [if_true] at p ⊢; exact k _ _ G1 H1 p s1 (by unfold Has; rfl)
theorem de_notV (h : DE c ta δ fun x => ∃ b, x = .bl b ∧ P (.bl (!b))) : DE c (tNotV ta) δ P := fun G0 H0 G H σ Q b e k =>
  h G0 H0 G H σ _ b e fun x v G1 H1 p s1 hx => by
    obtain ⟨w, rfl, p⟩ := p
    unfold Has at hx
    exact ⟨w, hx, k _ _ G1 H1 p s1 (by unfold Has; rfl)⟩
theorem dt_test {P : Bool → Prop} (h : DE c ta δ fun x => ∃ b, x = .bl b ∧ P b) : DT c (tTest ta) δ P := fun G0 H0 G H σ Q b e k =>
  h G0 H0 G H σ _ b e fun x v G1 H1 p s1 hx => by
    obtain ⟨w, rfl, p⟩ := p
    unfold Has at hx
    exact ⟨w, hx, k _ G1 H1 p s1⟩
theorem dt_B {P : Bool → Prop} (h : DE c ta δ fun x => ∃ b, x = .bl b ∧ P b) : DT c (tB ta) δ P := dt_test h
theorem dt_and {P : Bool → Prop} (h : DT c tt δ fun b => if b = true then DT c tu δ P else P false) : DT c (tAnd tt tu) δ P := fun G0 H0 G H σ Q b e k =>
  h G0 H0 G H σ _ b e fun x G1 H1 p s1 => by
    cases x with
    | true => simp only [if_true] at p ⊢; exact p G0 H0 G1 H1 σ Q (b.next s1) (e.step b.iv s1) fun d G2 H2 pd s2 => k d G2 H2 pd (s1.trans s2)
    | false => simp only [Bool.false_eq_true, if_false] at p ⊢; exact k _ G1 H1 p s1
theorem dt_or {P : Bool → Prop} (h : DT c tt δ fun b => if b = true then P true else DT c tu δ P) : DT c (tOr tt tu) δ P := fun G0 H0 G H σ Q b e k =>
  h G0 H0 G H σ _ b e fun x G1 H1 p s1 => by
    cases x with
    | false => simp only [Bool.false_eq_true, if_false] at p ⊢; exact p G0 H0 G1 H1 σ Q (b.next s1) (e.step b.iv s1) fun d G2 H2 pd s2 => k d G2 H2 pd (s1.trans s2)
    | true => simp only [if_true] at p ⊢; exact k _ G1 H1 p s1
theorem dt_not {P : Bool → Prop} (h : DT c tt δ fun b => P (!b)) : DT c (tNot tt) δ P := fun G0 H0 G H σ Q b e k =>
  h G0 H0 G H σ _ b e fun x G1 H1 p s1 => k _ G1 H1 p s1

/-! arguments, displays -/
theorem da_nil {P : List Av → Prop} (p : P []) : DA c tNil δ P := fun G0 H0 G H σ Q b e k => k [] [] G H p (.refl b.sub) rfl
theorem da_cons {tr : TA} {P : List Av → Prop} (h : DE c te δ fun d => DA c tr δ fun as => P (.dat d :: as)) : DA c (tCons te tr) δ P := fun G0 H0 G H σ Q b e k =>
  h G0 H0 G H σ _ b e fun x v G1 H1 px s1 hx => px G0 H0 G1 H1 σ _ (b.next s1) (e.step b.iv s1) fun as vs G2 H2 pa s2 ha =>
    k _ _ G2 H2 pa (s1.trans s2) ⟨v, vs, rfl, hx.mono s2.ge, ha⟩
theorem da_rawv {tr : TA} {P : List Av → Prop} {i : Nat} {v : V} (h : δ[i]? = some (.raw v)) (q : DA c tr δ fun as => P (.raw v :: as)) : DA c (tCons (tVar i) tr) δ P := fun G0 H0 G H σ Q b e k =>
  ⟨v, e.raw i v h, q G0 H0 G H σ _ b e fun as vs G2 H2 pa s2 ha => k _ _ G2 H2 pa s2 ⟨vs, rfl, ha⟩⟩
theorem da_rawc {tr : TA} {P : List Av → Prop} {v : V} (q : DA c tr δ fun as => P (.raw v :: as)) : DA c (tCons (tC v) tr) δ P := fun G0 H0 G H σ Q b e k =>
  q G0 H0 G H σ _ b e fun as vs G2 H2 pa s2 ha => k _ _ G2 H2 pa s2 ⟨vs, rfl, ha⟩
/-- a tuple display whose object is known -/
def tTupF (t : TA) : TE := fun σ H Q => t σ H fun xs H1 => xs.length ≤ sizeLine ∧ ∀ p o, H1 p = none → o.dict = none → Q (.ref p) (upd H1 p (.frz o (.tup xs)))
open PyProof.Rows in
theorem pe_tupF {X : Cx} {es : List Expr} {t : TA} {pos : Pos} {x1} (h : PA X es t) : PE X (.Tuple es x1 pos) (tTupF t) := by
  refine ⟨fun pins s σ H Q I hq => ?_⟩
  refine wpAny_Tuple_spliced (thn (h.run pos pins s σ H _ I hq) fun us s1 ⟨xs, H1, I1, r, z, q⟩ => ⟨by rw [← r.length]; exact z, ?_⟩)
  have hf : H1 s1.heap.objs.size = none := I1.hok.fresh (Nat.le_refl _)
  refine ⟨.ref s1.heap.objs.size, upd H1 s1.heap.objs.size (.frz _ (.tup xs)), I1.laid (t' := s1.toks) (fun b u e => Heap.get?_push_of_some _ e) (Nat.le_refl _) ⟨Heap.get?_push_size _ rfl, ?_⟩, rfl, q _ _ hf rfl⟩
  exact ⟨z, us, r, ⟨_, Heap.get?_push_size _ rfl, rfl, _, rfl⟩⟩
theorem has_tup {G : Hp} {p : Addr} {ds : List D} {vs : List V} (hg : G p = none) (h : HasL c.K G ds vs) : Has c.K (upd G p (.tup vs)) (.tup ds) (.ref p) := by
  unfold Has
  exact ⟨p, vs, rfl, .inl (.inl upd_same), h.mono (Ge.upd hg)⟩
theorem de_tup {t : TA} (h : DA c t δ fun as => ∃ ds, as = ds.map .dat ∧ ds.length ≤ 1000 ∧ P (.tup ds)) : DE c (tTupF t) δ P := fun G0 H0 G H σ Q b e k =>
  h G0 H0 G H σ _ b e fun as vs G1 H1 pa s1 ha => by
    obtain ⟨ds, rfl, hl, p⟩ := pa
    have hd := ha.dats
    refine ⟨Nat.le_of_lt (small1000 (by rw [hd.len]; exact hl)), fun q o hq ho => ?_⟩
    exact k _ _ (upd G1 q (.tup vs)) _ p (s1.trans (Step.new s1.sub hq ⟨o, upd_same, ho⟩)) (has_tup (s1.sub.free hq) hd)
theorem dn_lst {t : TA} (h : DA c t δ fun as => ∃ ds, as = ds.map .dat ∧ ds.length ≤ 1000 ∧ P (.lst ds)) : DN c (tLst t) δ P := fun G0 H0 G H σ Q b e k =>
  h G0 H0 G H σ _ b e fun as vs G1 H1 pa s1 ha => by
    obtain ⟨ds, rfl, hl, p⟩ := pa
    have hd := ha.dats
    refine ⟨Nat.le_of_lt (small1000 (by rw [hd.len]; exact hl)), fun q hq => ?_⟩
    refine k _ q G1 _ p (s1.trans (Step.tmp s1.sub hq)) ?_ (s1.sub.free hq) ⟨vs, upd_same, hd⟩
    cases z : H q with
    | none => rfl
    | some u =>
      by_cases g : G q = none
      · by_cases t : c.T q
        · exact absurd hq (s1.sub.iv.town t)
        · rw [s1.keep q u t g z] at hq; cases hq
      · cases g' : G q with
        | none => exact absurd g' g
        | some w => exact absurd hq (s1.sub.there (s1.gs q w g'))
theorem dn_dnew (p : P (.dic [])) : DN c tDNewK δ P := fun G0 H0 G H σ Q b e k => fun q hq =>
  k _ q G _ p (Step.tmp b.sub hq) hq (b.sub.free hq) ⟨[], upd_same, hasK_nil⟩
/-- what is free later was free before -/
theorem Step.back {G H G1 H1 : Hp} (s1 : Step c G H G1 H1) {q : Addr} (hq : H1 q = none) : H q = none := by
  cases z : H q with
  | none => rfl
  | some u =>
    by_cases g : G q = none
    · by_cases t : c.T q
      · exact absurd hq (s1.sub.iv.town t)
      · rw [s1.keep q u t g z] at hq; cases hq
    · cases g' : G q with
      | none => exact absurd g' g
      | some w => exact absurd hq (s1.sub.there (s1.gs q w g'))

/-! calls -/
def DCall (c : Cn) (r : List V → Hp → VK → Prop) (F : List Av → (D → Prop) → Prop) : Prop :=
  ∀ (as : List Av) (vs : List V) (G H : Hp) (Q : VK) (P : D → Prop), Sub c G H → HasA c.K G as vs → F as P → KE c G H P Q → r vs H Q
theorem de_cb {r : List V → Hp → VK → Prop} {F : List Av → (D → Prop) → Prop} {t : TA} (hr : DCall c r F) (h : DA c t δ fun as => F as P) : DE c (tCB r t) δ P := fun G0 H0 G H σ Q b e k =>
  h G0 H0 G H σ _ b e fun as vs G1 H1 pa s1 ha => hr as vs G1 H1 Q P s1.sub ha pa fun d w G3 H3 pd s3 hd => k d w G3 H3 pd (s1.trans s3) hd
/-- .. that makes a new list or dict -/
def DCallN (c : Cn) (r : List V → Hp → VK → Prop) (F : List Av → (D → Prop) → Prop) : Prop :=
  ∀ (as : List Av) (vs : List V) (G H : Hp) (Q : VK) (P : D → Prop), Sub c G H → HasA c.K G as vs → F as P →
    (∀ (d : D) (p : Addr) (G' H' : Hp), P d → Step c G H G' H' → H p = none → G' p = none → OwnAt c.K G' H' p d → Q (.ref p) H') → r vs H Q
theorem dn_cb {r : List V → Hp → VK → Prop} {F : List Av → (D → Prop) → Prop} {t : TA} (hr : DCallN c r F) (h : DA c t δ fun as => F as P) : DN c (tCB r t) δ P := fun G0 H0 G H σ Q b e k =>
  h G0 H0 G H σ _ b e fun as vs G1 H1 pa s1 ha => hr as vs G1 H1 Q P s1.sub ha pa fun d w G3 H3 pd s3 hw gw hd => k d w G3 H3 pd (s1.trans s3) (s1.back hw) gw hd
/-- a pure def's promise: from the data of its arguments to a datum -/
def SpP (K : PySem.W.Frag) (R : List D → D → Prop) : Sp := fun vs H Q _ => ∃ (G : Hp) (ds : List D) (d : D), Sub ⟨K, none⟩ G H ∧ HasL K G ds vs ∧ R ds d ∧
  ∀ (v : V) (G' H' : Hp), Step ⟨K, none⟩ G H G' H' → Has K G' d v → Q v H'
theorem de_call {R : List D → D → Prop} {E : XK} {t : TA} (h : DA c t δ fun as => ∃ ds d, as = ds.map .dat ∧ R ds d ∧ P d) : DE c (tCall (SpP c.K R) [] E t) δ P := fun G0 H0 G H σ Q b e k =>
  h G0 H0 G H σ _ b e fun as vs G1 H1 pa s1 ha => by
    obtain ⟨ds, d, rfl, r, p⟩ := pa
    show SpP c.K R (vs ++ []) H1 Q E
    rw [List.append_nil]
    exact ⟨G1, ds, d, s1.sub.pure, ha.dats, r, fun v G' H' s hv => k d v G' H' p (s1.trans (Step.lift s1.sub s)) hv⟩
/-- a def that draws from the town: some datum comes back -/
def SpT (K : PySem.W.Frag) (R : List Int → List D → (D → Prop) → Prop) : Sp := fun vs H Q _ => ∃ (t a : Addr) (ns : List Int) (G : Hp) (ds : List D) (us : List V) (S : D → Prop), Sub ⟨K, some (t, a, ns)⟩ G H ∧ vs = .ref a :: .ref t :: us ∧ HasL K G ds us ∧ R ns ds S ∧
  ∀ (d : D) (v : V) (G' H' : Hp), S d → Step ⟨K, some (t, a, ns)⟩ G H G' H' → Has K G' d v → Q v H'
theorem de_callT {R : List Int → List D → (D → Prop) → Prop} {E : XK} {ta : TA} {t a : Addr} {ns : List Int} (ht : c.tw = some (t, a, ns)) (h : DA c ta δ fun as => ∃ ds S, as = .raw (.ref a) :: .raw (.ref t) :: ds.map .dat ∧ R ns ds S ∧ ∀ d, S d → P d) : DE c (tCall (SpT c.K R) [] E ta) δ P := fun G0 H0 G H σ Q b e k =>
  h G0 H0 G H σ _ b e fun as vs G1 H1 pa s1 ha => by
    obtain ⟨ds, S, rfl, r, p⟩ := pa
    show SpT c.K R (vs ++ []) H1 Q E
    rw [List.append_nil]
    obtain ⟨r1, rfl, r2, rfl, ha⟩ := ha
    obtain ⟨K, tw⟩ := c
    cases ht
    exact ⟨t, a, ns, G1, ds, r2, S, s1.sub, rfl, ha.dats, r, fun d v G' H' sd s hv => k d v G' H' (p d sd) (s1.trans s) hv⟩

/-! targets -/
def DG (c : Cn) (g : TG) (js : List Nat) (δ : List Sl) (d : D) (P : List Sl → Prop) : Prop :=
  ∀ (G0 H0 G H : Hp) (σ : L2.St) (v : V) (Q : L2.St → Hp → Prop), Bs c G0 H0 G H → EnvOk c H0 G H σ δ → Has c.K G d v →
    (∀ (δ' : List Sl) (σ' : L2.St), P δ' → EnvOk c H0 G H σ' δ' → (∀ j, j ∉ js → σ'[j]? = σ[j]?) → σ'.length = σ.length → Q σ' H) → g v σ H Q
def DGs (c : Cn) (g : TGs) (js : List Nat) (δ : List Sl) (ds : List D) (P : List Sl → Prop) : Prop :=
  ∀ (G0 H0 G H : Hp) (σ : L2.St) (vs : List V) (Q : L2.St → Hp → Prop), Bs c G0 H0 G H → EnvOk c H0 G H σ δ → HasL c.K G ds vs →
    (∀ (δ' : List Sl) (σ' : L2.St), P δ' → EnvOk c H0 G H σ' δ' → (∀ j, j ∉ js → σ'[j]? = σ[j]?) → σ'.length = σ.length → Q σ' H) → g vs σ H Q
theorem dg_name {i : Nat} {d : D} {P : List Sl → Prop} (p : P (δ.set i (.dat d))) : DG c (gName i) [i] δ d P := fun G0 H0 G H σ v Q b e hv k =>
  k _ _ p (e.setDat hv) (fun j hj => List.getElem?_set_ne (by simp at hj; exact fun z => hj z.symm)) (by simp)
theorem dgs_nil {P : List Sl → Prop} (p : P δ) : DGs c gNil [] δ [] P := fun G0 H0 G H σ vs Q b e hv k => by
  unfold HasL at hv
  exact ⟨hv, k _ _ p e (fun _ _ => rfl) rfl⟩
theorem dgs_cons {g : TG} {gs : TGs} {js ks : List Nat} {d : D} {ds : List D} {P : List Sl → Prop} (h : DG c g js δ d fun δ' => DGs c gs ks δ' ds P) : DGs c (gCons g gs) (js ++ ks) δ (d :: ds) P := fun G0 H0 G H σ vs Q b e hv k => by
  unfold HasL at hv
  obtain ⟨v, r, rfl, h1, h2⟩ := hv
  refine ⟨v, r, rfl, h G0 H0 G H σ v _ b e h1 fun δ1 σ1 p1 e1 k1 l1 => p1 G0 H0 G H σ1 r Q b e1 h2 fun δ2 σ2 p2 e2 k2 l2 => k δ2 σ2 p2 e2 (fun j hj => ?_) (l2.trans l1)⟩
  rw [List.mem_append, not_or] at hj
  rw [k2 j hj.2, k1 j hj.1]
theorem dg_tup {gs : TGs} {js : List Nat} {n : Nat} {ds : List D} {P : List Sl → Prop} (hl : ds.length = n) (h : DGs c gs js δ ds P) : DG c (gTup c.K n gs) js δ (.tup ds) P := fun G0 H0 G H σ v Q b e hv k => by
  unfold Has at hv
  obtain ⟨a, vs, rfl, h1, h2⟩ := hv
  exact ⟨a, vs, rfl, (b.sub.ge.tup h1).sq, h2.len.trans hl, h G0 H0 G H σ vs Q b e h2 k⟩

/-! ### statements -/
inductive Out where
  | nx (δ : List Sl) | rt (d : D) | bk (δ : List Sl) | ct (δ : List Sl)
def Fin (c : Cn) (H0 G H : Hp) (D : Ends) : Out → Prop
  | .nx δ => ∀ σ, EnvOk c H0 G H σ δ → D.nx σ H
  | .rt d => ∀ v, Has c.K G d v → D.rt v H
  | .bk δ => ∀ σ, EnvOk c H0 G H σ δ → D.bk σ H
  | .ct δ => ∀ σ, EnvOk c H0 G H σ δ → D.ct σ H
def DS (c : Cn) (ts : TS) (δ : List Sl) (P : Out → Prop) : Prop :=
  ∀ (G0 H0 G H : Hp) (σ : L2.St) (D : Ends), Bs c G0 H0 G H → EnvOk c H0 G H σ δ →
    (∀ (o : Out) (G' H' : Hp), P o → Step c G0 H0 G' H' → Lat G H G' H' → Fin c H0 G' H' D o) → ts D σ H
variable {ts tv : TS} {R : Out → Prop}
theorem DS.imp {R' : Out → Prop} (h : DS c ts δ R) (i : ∀ o, R o → R' o) : DS c ts δ R' := fun G0 H0 G H σ D b e k => h G0 H0 G H σ D b e fun o G' H' p => k o G' H' (i o p)
theorem ds_next (p : R (.nx δ)) : DS c tNext δ R := fun G0 H0 G H σ D b e k => k _ G H p b.st (.refl _ _) σ e
theorem ds_brk (p : R (.bk δ)) : DS c tBreak δ R := fun G0 H0 G H σ D b e k => k _ G H p b.st (.refl _ _) σ e
theorem ds_cnt (p : R (.ct δ)) : DS c tCont δ R := fun G0 H0 G H σ D b e k => k _ G H p b.st (.refl _ _) σ e
/-- behind a statement -/
def Then (c : Cn) (tv : TS) (R : Out → Prop) : Out → Prop
  | .nx δ => DS c tv δ R
  | o => R o
theorem ds_seq (h : DS c ts δ (Then c tv R)) : DS c (tSeq ts tv) δ R := fun G0 H0 G H σ D b e k =>
  h G0 H0 G H σ { D with nx := tv D } b e fun o G1 H1 p s l => by
    cases o with
    | nx δ1 => exact fun σ1 e1 => p G0 H0 G1 H1 σ1 D ⟨b.s0, s⟩ e1 fun o G2 H2 p2 s2 l2 => k o G2 H2 p2 s2 (l.trans l2)
    | rt d => exact k (.rt d) G1 H1 p s l
    | bk δ1 => exact k (.bk δ1) G1 H1 p s l
    | ct δ1 => exact k (.ct δ1) G1 H1 p s l
theorem ds_ret (h : DE c te δ fun d => R (.rt d)) : DS c (tRet te) δ R := fun G0 H0 G H σ D b e k =>
  h G0 H0 G H σ _ b e fun d v G1 H1 p s hv => k (.rt d) G1 H1 p (b.st.trans s) s.lat v hv
theorem ds_retN (p : R (.rt .non)) : DS c tRetN δ R := fun G0 H0 G H σ D b e k => k (.rt .non) G H p b.st (.refl _ _) .non (by unfold Has; rfl)
theorem ds_if (h : DT c tt δ fun b => if b = true then DS c ts δ R else DS c tv δ R) : DS c (tIfS tt ts tv) δ R := fun G0 H0 G H σ D b e k =>
  h G0 H0 G H σ _ b e fun x G1 H1 p s => by
    cases x with
    | true => simp only [if_true] at p ⊢; exact p G0 H0 G1 H1 σ D (b.next s) (e.step b.iv s) fun o G2 H2 p2 s2 l2 => k o G2 H2 p2 s2 (s.lat.trans l2)
    | false => simp only [Bool.false_eq_true, if_false] at p ⊢; exact p G0 H0 G1 H1 σ D (b.next s) (e.step b.iv s) fun o G2 H2 p2 s2 l2 => k o G2 H2 p2 s2 (s.lat.trans l2)
theorem ds_asgG {g : TG} {js : List Nat} (h : DE c te δ fun d => DG c g js δ d fun δ' => R (.nx δ')) : DS c (tAsg te g) δ R := fun G0 H0 G H σ D b e k =>
  h G0 H0 G H σ _ b e fun d v G1 H1 p s hv => p G0 H0 G1 H1 σ v _ (b.next s) (e.step b.iv s) hv fun δ' σ' p' e' _ _ => k (.nx δ') G1 H1 p' (b.st.trans s) s.lat σ' e'
theorem ds_asg {i : Nat} (h : DE c te δ fun d => R (.nx (δ.set i (.dat d)))) : DS c (tAsg te (gName i)) δ R := ds_asgG (js := [i]) (h.imp fun d p => dg_name p)
theorem ds_asgN {i : Nat} (h : DN c te δ fun d => R (.nx (δ.set i (.own d)))) : DS c (tAsg te (gName i)) δ R := fun G0 H0 G H σ D b e k =>
  h G0 H0 G H σ _ b e fun d r G1 H1 p s hr gr oa => by
    have b1 := b.next s
    have e1 := e.step b.iv s
    have h0 : H0 r = none := b.st.back hr
    refine k (.nx (δ.set i (.own d))) G1 H1 p (b.st.trans s) s.lat _ (e1.setOwn h0 gr oa fun j x ne q z => ?_)
    obtain ⟨r', g1, g2, g3, g4⟩ := e.own j x q
    rw [g1] at z
    cases z
    exact g4.there hr
theorem ds_drop (h : DE c te δ fun _ => R (.nx δ)) : DS c (tDrop te) δ R := fun G0 H0 G H σ D b e k =>
  h G0 H0 G H σ _ b e fun d v G1 H1 p s hv => k (.nx δ) G1 H1 p (b.st.trans s) s.lat σ (e.step b.iv s)
/-- the own object of slot i is a datum from now on -/
theorem ds_pub (i : Nat) {d : D} (h : δ[i]? = some (.own d)) (q : DS c ts (δ.set i (.dat d)) R) : DS c ts δ R := fun G0 H0 G H σ D b e k => by
  obtain ⟨r, h1, h2, h3, h4⟩ := e.own i d h
  obtain ⟨o, ho, po⟩ := own_pl h4
  exact q G0 H0 (upd G r o) H σ D (b.pub h2 h3 ho po) (e.pub h h1 h3 ho h4) fun o G' H' p s l => k o G' H' p s ((Lat.pub h3).trans l)
end
end Mp

set_option Elab.async false
set_option linter.all false
set_option maxRecDepth 100000
set_option maxHeartbeats 4000000
namespace Mp
open PySem L2

/-! ### walks -/
/-- the iterator J, made at G, H, yields the data xs -/
structure Wk (c : Cn) (J : It) (xs : List D) (G H : Hp) : Prop where
  go : ∀ (G1 H1 : Hp) (i : Nat), Sub c G1 H1 → Lat G H G1 H1 → i < xs.length → J.go i H1
  stop : ∀ (G1 H1 : Hp), Sub c G1 H1 → Lat G H G1 H1 → J.stop xs.length H1
  yld : ∀ (G1 H1 : Hp) (i : Nat) (x : V) (H2 : Hp), Sub c G1 H1 → Lat G H G1 H1 → i < xs.length → J.yld i H1 x H2 → ∃ G2, Step c G1 H1 G2 H2 ∧ ∃ d, xs[i]? = some d ∧ Has c.K G2 d x
def DI (c : Cn) (wi : TI) (δ : List Sl) (P : List D → Prop) : Prop :=
  ∀ (G0 H0 G H : Hp) (σ : L2.St) (R : It → Hp → Prop), Bs c G0 H0 G H → EnvOk c H0 G H σ δ →
    (∀ (xs : List D) (J : It) (G' H' : Hp), P xs → Step c G H G' H' → Wk c J xs G' H' → R J H') → wi σ H R
section
variable {c : Cn} {δ : List Sl} {wi : TI}
theorem DI.imp {P P' : List D → Prop} (h : DI c wi δ P) (i : ∀ d, P d → P' d) : DI c wi δ P' := fun G0 H0 G H σ Q b e k => h G0 H0 G H σ Q b e fun d J G' H' p => k d J G' H' (i d p)

/-- for: a word of the turn and the slots -/
theorem ds_for {g : TG} {tb : TS} {js : List Nat} {R : Out → Prop} (h : DI c wi δ fun xs => ∃ W : Nat → List Sl → Prop, W 0 δ ∧
    (∀ (i : Nat) (d : D) (δ' : List Sl), xs[i]? = some d → W i δ' → DG c g js δ' d fun δ2 => DS c tb δ2 fun o => match o with
      | .nx δ3 => W (i + 1) δ3
      | .ct δ3 => W (i + 1) δ3
      | .bk δ3 => R (.nx δ3)
      | .rt d => R (.rt d)) ∧ ∀ δ', W xs.length δ' → R (.nx δ')) : DS c (tFor wi g tb) δ R := fun G0 H0 G H σ D b e k =>
  h G0 H0 G H σ _ b e fun xs J G1 H1 p s wk => by
    obtain ⟨W, w0, turn, done⟩ := p
    refine ⟨fun i m σ' H' => ∃ δ' G', m = xs.length - i ∧ i ≤ xs.length ∧ W i δ' ∧ Bs c G0 H0 G' H' ∧ EnvOk c H0 G' H' σ' δ' ∧ Lat G1 H1 G' H', ⟨xs.length, δ, G1, by simp, Nat.zero_le _, w0, b.next s, e.step b.iv s, .refl _ _⟩, ?_⟩
    rintro i m σ' H' ⟨δ', G', rfl, hi, w, b', e', l'⟩
    by_cases hlt : i < xs.length
    · refine .inr ⟨wk.go G' H' i b'.sub l' hlt, fun σ2 H2 => ∃ m', m' < xs.length - i ∧ ∃ δ' G', m' = xs.length - (i + 1) ∧ i + 1 ≤ xs.length ∧ W (i + 1) δ' ∧ Bs c G0 H0 G' H2 ∧ EnvOk c H0 G' H2 σ2 δ' ∧ Lat G1 H1 G' H2, fun _ _ z => z, fun x H2 y => ?_⟩
      obtain ⟨G2, s2, d, hd, hx⟩ := wk.yld G' H' i x H2 b'.sub l' hlt y
      have b2 := b'.next s2
      have e2 := e'.step b'.iv s2
      have l2 := l'.trans s2.lat
      refine turn i d δ' hd w G0 H0 G2 H2 σ' x _ b2 e2 hx fun δ3 σ3 p3 e3 _ _ => ?_
      refine p3 G0 H0 G2 H2 σ3 _ b2 e3 fun o G4 H4 p4 s4 l4 => ?_
      have l5 := l2.trans l4
      cases o with
      | nx δ4 => exact fun σ4 e4 => ⟨_, by omega, δ4, G4, rfl, hlt, p4, ⟨b.s0, s4⟩, e4, l5⟩
      | ct δ4 => exact fun σ4 e4 => ⟨_, by omega, δ4, G4, rfl, hlt, p4, ⟨b.s0, s4⟩, e4, l5⟩
      | bk δ4 => exact k (.nx δ4) G4 H4 p4 s4 (s.lat.trans l5)
      | rt d4 => exact k (.rt d4) G4 H4 p4 s4 (s.lat.trans l5)
    · have ei : i = xs.length := by omega
      subst ei
      exact .inl ⟨wk.stop G' H' b'.sub l', k (.nx δ') G' H' (done δ' w) b'.st (s.lat.trans l') σ' e'⟩

/-! ### comprehensions -/
def wipeD (δ : List Sl) : List Nat → List Sl
  | [] => δ
  | v :: vs => (wipeD δ vs).set v .un
theorem EnvOk.wipe {H0 G H : Hp} {σ : L2.St} (e : EnvOk c H0 G H σ δ) : ∀ vs : List Nat, EnvOk c H0 G H (wipe σ vs) (wipeD δ vs)
  | [] => e
  | v :: vs => (EnvOk.wipe e vs).setUn
theorem wipe_get {σ : L2.St} : ∀ {vs : List Nat} {j : Nat}, (wipe σ vs)[j]? = if j ∈ vs ∧ j < σ.length then some none else σ[j]?
  | [], j => by simp [wipe]
  | v :: vs, j => by
    unfold wipe
    by_cases e : v = j
    · subst e
      by_cases hl : v < σ.length
      · rw [List.getElem?_set_self (by rw [wipe_length]; exact hl), if_pos ⟨List.mem_cons_self, hl⟩]
      · rw [List.getElem?_eq_none (by rw [List.length_set, wipe_length]; omega), if_neg (fun z => hl z.2), List.getElem?_eq_none (by omega)]
    · rw [List.getElem?_set_ne e, wipe_get]
      have : (j ∈ v :: vs ∧ j < σ.length) ↔ (j ∈ vs ∧ j < σ.length) := by simp [Ne.symm e, List.mem_cons]
      by_cases q : j ∈ vs ∧ j < σ.length
      · rw [if_pos q, if_pos (this.mpr q)]
      · rw [if_neg q, if_neg (fun z => q (this.mp z))]
theorem wipe_same {σ σ' : L2.St} {vs js : List Nat} (hl : σ'.length = (L2.wipe σ vs).length) (h : ∀ j, j ∉ js → σ'[j]? = (L2.wipe σ vs)[j]?) (hs : ∀ j, j ∈ js → j ∈ vs) : L2.wipe σ' vs = L2.wipe σ vs := by
  have hl' : σ'.length = σ.length := by rw [hl, wipe_length]
  apply List.ext_getElem?
  intro j
  rw [wipe_get]
  by_cases q : j ∈ vs ∧ j < σ.length
  · rw [if_pos (by rw [hl']; exact q), wipe_get, if_pos q]
  · rw [if_neg (by rw [hl']; exact q)]
    by_cases z : j ∈ js
    · have hj : ¬ j < σ.length := fun y => q ⟨hs j z, y⟩
      rw [List.getElem?_eq_none (by omega), List.getElem?_eq_none (by rw [wipe_length]; omega)]
    · exact h j z

/-- an object that is laid apart and grows: the ghost and all else go on -/
theorem Step.grow {G H G1 H1 : Hp} (s : Step c G H G1 H1) {r : Addr} {o : HO} (hr : H r = none) (gr : G1 r = none) (iv : Sub c G H) : Step c G H G1 (upd H1 r o) :=
  (Bs.mut (G0 := G) (H0 := H) ⟨iv, s⟩ hr gr).st

theorem dn_lc {g : TG} {tt : TT} {te : TE} {vs js : List Nat} {P : D → Prop} (hjs : ∀ j, j ∈ js → j ∈ vs) (h : DI c wi δ fun xs => xs.length ≤ sizeLine ∧ ∃ W : Nat → List D → Prop, W 0 [] ∧
    (∀ (i : Nat) (d : D) (acc : List D), xs[i]? = some d → W i acc → DG c g js (wipeD δ vs) d fun δ2 => DT c tt δ2 fun b => if b = true then DE c te δ2 fun y => W (i + 1) (acc ++ [y]) else W (i + 1) acc) ∧
    ∀ acc, W xs.length acc → P (.lst acc)) : DN c (tLc wi g tt te vs) δ P := fun G0 H0 G H σ Q b e k =>
  h G0 H0 G H σ _ b e fun xs J G1 H1 p s wk => by
    obtain ⟨hz, W, w0, turn, done⟩ := p
    intro r hr
    have hr0 : H r = none := s.back hr
    have st0 := s.trans (Step.tmp (o := .lst []) s.sub hr)
    refine ⟨fun i m H' => ∃ acc avs G', m = xs.length - i ∧ i ≤ xs.length ∧ W i acc ∧ Step c G H G' H' ∧ Lat G1 H1 G' H' ∧ H' r = some (.lst avs) ∧ HasL c.K G' acc avs ∧ G' r = none ∧ acc.length ≤ i,
      ⟨xs.length, [], [], G1, by simp, Nat.zero_le _, w0, st0, (Step.tmp (o := .lst []) s.sub hr).lat, upd_same, hasL_nil, s.sub.free hr, Nat.le_refl _⟩, ?_⟩
    rintro i m H' ⟨acc, avs, G', rfl, hi, w, st, l', hD, ha, gr, la⟩
    have b' : Bs c G0 H0 G' H' := b.next st
    have e' := e.step b.iv st
    by_cases hlt : i < xs.length
    · refine .inr ⟨wk.go G' H' i b'.sub l' hlt, fun H2 => ∃ m', m' < xs.length - i ∧ ∃ acc avs G', m' = xs.length - (i + 1) ∧ i + 1 ≤ xs.length ∧ W (i + 1) acc ∧ Step c G H G' H2 ∧ Lat G1 H1 G' H2 ∧ H2 r = some (.lst avs) ∧ HasL c.K G' acc avs ∧ G' r = none ∧ acc.length ≤ i + 1,
        fun _ z => z, fun x H2 y => ?_⟩
      obtain ⟨G2, s2, d, hd, hx⟩ := wk.yld G' H' i x H2 b'.sub l' hlt y
      have nt : ¬ c.T r := not_town b.sub.iv hr0
      have hr' : H' r ≠ none := by rw [hD]; exact fun z => nomatch z
      refine turn i d acc hd w G0 H0 G2 H2 (L2.wipe σ vs) x _ (b'.next s2) ((e'.wipe vs).step b'.iv s2) hx fun δ3 σ3 p3 e3 k3 l3 => ?_
      refine ⟨wipe_same l3 k3 hjs, p3 G0 H0 G2 H2 σ3 _ (b'.next s2) e3 fun bb G3 H3 p4 s3 => ?_⟩
      have s23 := s2.trans s3
      cases bb with
      | true =>
        simp only [if_true] at p4 ⊢
        refine p4 G0 H0 G3 H3 σ3 _ ((b'.next s2).next s3) (e3.step b.iv s3) fun yd yv G4 H4 p5 s4 hy => ?_
        have s24 := s23.trans s4
        have hD4 := s24.keep r _ nt gr hD
        have gr4 := s24.fr r hr' gr
        refine ⟨avs, hD4, ?_, _, by omega, acc ++ [yd], avs ++ [yv], G4, rfl, hlt, p5, (st.trans s24).grow hr0 gr4 b.sub, (l'.trans s24.lat).trans (Lat.mut fun o u z => by rw [hD4] at z; cases z), upd_same, (ha.mono s24.ge).snoc hy, gr4, ?_⟩
        · rw [ha.len]; omega
        · rw [List.length_append, List.length_singleton]; omega
      | false =>
        simp only [Bool.false_eq_true, if_false] at p4 ⊢
        exact ⟨_, by omega, acc, avs, G3, rfl, hlt, p4, st.trans s23, l'.trans s23.lat, s23.keep r _ nt gr hD, ha.mono s23.ge, s23.fr r hr' gr, by omega⟩
    · have ei : i = xs.length := by omega
      subst ei
      exact .inl ⟨wk.stop G' H' b'.sub l', k _ r G' H' (done acc w) st hr0 gr ⟨avs, hD, ha⟩⟩

theorem dn_dc {g : TG} {tt : TT} {tk te : TE} {vs js : List Nat} {P : D → Prop} (hjs : ∀ j, j ∈ js → j ∈ vs) (h : DI c wi δ fun xs => xs.length ≤ sizeLine ∧ ∃ W : Nat → List (Key × D) → Prop, W 0 [] ∧
    (∀ (i : Nat) (d : D) (acc : List (Key × D)), xs[i]? = some d → W i acc → DG c g js (wipeD δ vs) d fun δ2 => DT c tt δ2 fun b => if b = true then DE c tk δ2 fun kd => DE c te δ2 fun y => ∃ x : Str, kd = .str x ∧ W (i + 1) (putD acc (.inr x) y) else W (i + 1) acc) ∧
    ∀ acc, W xs.length acc → P (.dic acc)) : DN c (tDc wi g tt tk te vs) δ P := fun G0 H0 G H σ Q b e k =>
  h G0 H0 G H σ _ b e fun xs J G1 H1 p s wk => by
    obtain ⟨hz, W, w0, turn, done⟩ := p
    intro r hr
    have hr0 : H r = none := s.back hr
    have st0 := s.trans (Step.tmp (o := .dK []) s.sub hr)
    refine ⟨fun i m H' => ∃ acc avs G', m = xs.length - i ∧ i ≤ xs.length ∧ W i acc ∧ Step c G H G' H' ∧ Lat G1 H1 G' H' ∧ H' r = some (.dK avs) ∧ HasK c.K G' acc avs ∧ G' r = none ∧ acc.length ≤ i,
      ⟨xs.length, [], [], G1, by simp, Nat.zero_le _, w0, st0, (Step.tmp (o := .dK []) s.sub hr).lat, upd_same, hasK_nil, s.sub.free hr, Nat.le_refl _⟩, ?_⟩
    rintro i m H' ⟨acc, avs, G', rfl, hi, w, st, l', hD, ha, gr, la⟩
    have b' : Bs c G0 H0 G' H' := b.next st
    have e' := e.step b.iv st
    by_cases hlt : i < xs.length
    · refine .inr ⟨wk.go G' H' i b'.sub l' hlt, fun H2 => ∃ m', m' < xs.length - i ∧ ∃ acc avs G', m' = xs.length - (i + 1) ∧ i + 1 ≤ xs.length ∧ W (i + 1) acc ∧ Step c G H G' H2 ∧ Lat G1 H1 G' H2 ∧ H2 r = some (.dK avs) ∧ HasK c.K G' acc avs ∧ G' r = none ∧ acc.length ≤ i + 1,
        fun _ z => z, fun x H2 y => ?_⟩
      obtain ⟨G2, s2, d, hd, hx⟩ := wk.yld G' H' i x H2 b'.sub l' hlt y
      have nt : ¬ c.T r := not_town b.sub.iv hr0
      have hr' : H' r ≠ none := by rw [hD]; exact fun z => nomatch z
      refine turn i d acc hd w G0 H0 G2 H2 (L2.wipe σ vs) x _ (b'.next s2) ((e'.wipe vs).step b'.iv s2) hx fun δ3 σ3 p3 e3 k3 l3 => ?_
      refine ⟨wipe_same l3 k3 hjs, p3 G0 H0 G2 H2 σ3 _ (b'.next s2) e3 fun bb G3 H3 p4 s3 => ?_⟩
      have s23 := s2.trans s3
      cases bb with
      | true =>
        simp only [if_true] at p4 ⊢
        have b3 := (b'.next s2).next s3
        have e4 := e3.step b.iv s3
        refine p4 G0 H0 G3 H3 σ3 _ b3 e4 fun kd kv G4 H4 p5 s4 hk => ?_
        refine p5 G0 H0 G4 H4 σ3 _ (b3.next s4) (e4.step b.iv s4) fun yd yv G5 H5 p6 s5 hy => ?_
        obtain ⟨x, rfl, p6⟩ := p6
        have s25 := (s23.trans s4).trans s5
        have hD5 := s25.keep r _ nt gr hD
        have gr5 := s25.fr r hr' gr
        unfold Has at hk
        subst hk
        refine ⟨avs, .inr x, rfl, hD5, ?_, _, by omega, putD acc (.inr x) yd, _, G5, rfl, hlt, p6, (st.trans s25).grow hr0 gr5 b.sub, (l'.trans s25.lat).trans (Lat.mut fun o u z => by rw [hD5] at z; cases z), upd_same, (ha.mono s25.ge).put hy, gr5, ?_⟩
        · rw [ha.len]; omega
        · unfold putD; split
          · rw [List.length_map]; omega
          · rw [List.length_append, List.length_singleton]; omega
      | false =>
        simp only [Bool.false_eq_true, if_false] at p4 ⊢
        exact ⟨_, by omega, acc, avs, G3, rfl, hlt, p4, st.trans s23, l'.trans s23.lat, s23.keep r _ nt gr hD, ha.mono s23.ge, s23.fr r hr' gr, by omega⟩
    · have ei : i = xs.length := by omega
      subst ei
      exact .inl ⟨wk.stop G' H' b'.sub l', k _ r G' H' (done acc w) st hr0 gr ⟨avs, hD, ha⟩⟩
end
end Mp

set_option Elab.async false
set_option linter.all false
set_option maxRecDepth 100000
set_option maxHeartbeats 4000000
namespace Mp
open PySem L2

/-! ### from the abstract heap to the machine's -/
section
variable {X : Cx} {pins : List (Addr × Obj)} {σ : L2.St} {H : Hp} {s : Shared}
mutual
theorem Has.rep (I : Inv X pins σ H s) : ∀ (d : D) (v : V) (u : Value), Has X.K H d v → RelV v u → Rep X.prog X.w s.heap d u
  | .non, v, u, h, r => by unfold Has at h; subst h; unfold Rep; exact r
  | .bl b, v, u, h, r => by unfold Has at h; subst h; unfold Rep; exact r
  | .int i, v, u, h, r => by unfold Has at h; subst h; unfold Rep; exact r
  | .str i, v, u, h, r => by unfold Has at h; subst h; unfold Rep; exact r
  | .tup xs, v, u, h, r => by
    unfold Has at h
    obtain ⟨a, vs, rfl, h1, h2⟩ := h
    obtain ⟨its, rv, ht, _⟩ := I.tuple h1.sq
    unfold Rep
    exact ⟨a, its, r, ht, HasL.rep I xs vs its h2 rv⟩
  | .lst xs, v, u, h, r => by
    unfold Has at h
    obtain ⟨a, vs, rfl, h1, h2⟩ := h
    obtain ⟨its, rv, ht, _⟩ := I.list (.inl h1)
    unfold Rep
    exact ⟨a, its, r, ht.isList, HasL.rep I xs vs its h2 rv⟩
  | .dic xs, v, u, h, r => by
    unfold Has at h
    obtain ⟨a, ws, rfl, h1, h2⟩ := h
    obtain ⟨_, hs, vs, kv, dd⟩ := dk_rd I.hok h1
    unfold Rep
    exact ⟨a, vs, r, hs, dd, HasK.rep I xs ws vs h2 kv⟩
theorem HasL.rep (I : Inv X pins σ H s) : ∀ (xs : List D) (vs : List V) (us : List Value), HasL X.K H xs vs → Vals vs us → RepL X.prog X.w s.heap xs us
  | [], vs, us, h, r => by unfold HasL at h; subst h; cases r; unfold RepL; rfl
  | x :: xs, vs, us, h, r => by
    unfold HasL at h
    obtain ⟨v, q, rfl, h1, h2⟩ := h
    cases r with
    | cons r1 r2 => unfold RepL; exact ⟨_, _, rfl, Has.rep I x v _ h1 r1, HasL.rep I xs q _ h2 r2⟩
theorem HasK.rep (I : Inv X pins σ H s) : ∀ (xs : List (Key × D)) (vs : List (Key × V)) (us : List (Key × Value)), HasK X.K H xs vs → KV vs us → RepK X.prog X.w s.heap xs us
  | [], vs, us, h, r => by unfold HasK at h; subst h; cases r; unfold RepK; rfl
  | (k, x) :: xs, vs, us, h, r => by
    unfold HasK at h
    obtain ⟨v, q, rfl, h1, h2⟩ := h
    cases r with
    | @cons _ b _ _ r1 r2 =>
      obtain ⟨k', u'⟩ := b
      obtain ⟨e1, e2⟩ := r1
      cases (show k = k' from e1)
      unfold RepK
      exact ⟨u', _, rfl, Has.rep I x v _ h1 e2, HasK.rep I xs q _ h2 r2⟩
end
end

/-! ### == and != of data -/
def rEqX (K : PySem.W.Frag) : R2 := fun x y H Q => ∃ d e, Has K H d x ∧ Has K H e y ∧ D.deep d ≤ 50 ∧ Q (.bl (D.eqv d e)) H
def rNeX (K : PySem.W.Frag) : R2 := fun x y H Q => ∃ d e, Has K H d x ∧ Has K H e y ∧ D.deep d ≤ 50 ∧ Q (.bl (!D.eqv d e)) H
section
variable {X : Cx}
theorem op_eqX (hu : X.A.units + 64 < cLine) : OpR X (compareOp .Eq) (rEqX X.K) := by
  intro pins s σ H x y v u Q I rx ry h
  obtain ⟨d, e, hd, he, dp, q⟩ := h
  exact rcEq d e v u X.A (by unfold DepthOk; omega) (hd.rep I d x v rx) (he.rep I e y u ry) _ _ ⟨.bl (D.eqv d e), H, I, rfl, q⟩
theorem op_neX (hu : X.A.units + 64 < cLine) : OpR X (compareOp .NotEq) (rNeX X.K) := by
  intro pins s σ H x y v u Q I rx ry h
  obtain ⟨d, e, hd, he, dp, q⟩ := h
  exact rcNe d e v u X.A (by unfold DepthOk; omega) (hd.rep I d x v rx) (he.rep I e y u ry) _ _ ⟨.bl (!D.eqv d e), H, I, rfl, q⟩
end
section
variable {c : Cn}
theorem dop_eq : DOp c (rEqX c.K) fun x y P => D.deep x ≤ 50 ∧ P (.bl (D.eqv x y)) := fun x y v u G H Q P s hx hy f k =>
  ⟨x, y, hx.mono s.ge, hy.mono s.ge, f.1, k _ _ G H f.2 (.refl s) (by unfold Has; rfl)⟩
theorem dop_ne : DOp c (rNeX c.K) fun x y P => D.deep x ≤ 50 ∧ P (.bl (!D.eqv x y)) := fun x y v u G H Q P s hx hy f k =>
  ⟨x, y, hx.mono s.ge, hy.mono s.ge, f.1, k _ _ G H f.2 (.refl s) (by unfold Has; rfl)⟩
end

/-! ### subscripts -/
/-- d[k] of a dict, by values -/
def rIxD : R2 := fun x y H Q => ∃ a v, x = .ref a ∧ DGet H a y (some v) ∧ Q v H
section
variable {X : Cx}
open PyProof.Rows in
theorem ix_dict (hu : X.A.units + 1 < cLine) : IxR X rIxD := by
  intro value slice pins s σ H x y v u Q I rx ry h hs
  obtain ⟨a, z, rfl, g, q⟩ := h
  cases (show v = Value.ref a from rx)
  unfold subscriptTail
  refine wpAny_bind ?_
  have hT : s.TypeIs (.ref a) "dict" := dict_typeIs I g
  rw [getitemInPython_of_ne hT.not_modules]
  refine wpAny_bind (wpAny_specialOf hT PySem.F.slot_dict_getitem.lookup ?_)
  have fin : wpAny (model X.prog X.w) X.A (subscripted slice false (.ref a) u) (fun r s₃ => wpAny (model X.prog X.w) X.A (letTemporaryGo value (.ref a) r >>= fun _ => pure r) (EP X pins σ Q) X.xe s₃) X.xe s := by
    rw [hs]
    exact wpAny_operating (d_getItem hu I g ry fun w' s' I' r' => wpAny_bind (wpAny_letTemporaryGo (wpAny_pure ⟨z, H, I', r', q⟩)))
  first
    | exact wpAny_pure (wpAny_bind fin)
    | exact wpAny_bind (wpAny_pure (wpAny_bind fin))
    | exact wpAny_bind fin
end
def rSub (K : PySem.W.Frag) : R2 := fun x y H Q => rIx K x y H Q ∨ rIxD x y H Q
theorem ix_any {X : Cx} (hu : X.A.units + 1 < cLine) : IxR X (rSub X.K) := ix_seq.or (ix_dict hu)
def D.sub : D → D → Option D
  | .tup xs, .int i => atI xs i
  | .lst xs, .int i => atI xs i
  | .dic ks, .str x => look ks (.inr x)
  | .dic ks, .int i => look ks (.inl i)
  | .str z, .int i => if z.length ≤ sizeLine then (atI z.cps.toList i).map fun n => .str ⟨#[n]⟩ else none
  | _, _ => none
section
variable {c : Cn}
theorem HasL.atI {G : Hp} {xs : List D} {vs : List V} (h : HasL c.K G xs vs) {i : Int} {d : D} (e : L2.atI xs i = some d) : ∃ v, L2.atI vs i = some v ∧ Has c.K G d v := by
  unfold L2.atI at *
  rw [h.len]
  cases q : ixN xs.length i with
  | none => rw [q] at e; cases e
  | some j => rw [q] at e; exact h.get e
theorem dget_of {G : Hp} {a : Addr} {ks : List (Key × D)} {ws : List (Key × V)} {k : Key} {H : Hp} (hr : Rd H a (.dK ws)) (h : HasK c.K G ks ws) : ∃ o, DGet H a (kV k) o ∧ ((look ks k = none ∧ o = none) ∨ ∃ d v, look ks k = some d ∧ o = some v ∧ Has c.K G d v) := by
  refine ⟨valV ws k, .inl ⟨ws, k, hr, rfl, rfl⟩, ?_⟩
  rcases h.look k with ⟨e1, e2⟩ | ⟨d, v, e1, e2, hv⟩
  · exact .inl ⟨e1, e2⟩
  · exact .inr ⟨d, v, e1, e2, hv⟩
theorem dop_sub : DOp c (rSub c.K) fun x y P => ∃ z, D.sub x y = some z ∧ P z := fun x y v u G H Q P s hx hy f k => by
  obtain ⟨z, e, p⟩ := f
  have fin : ∀ w, Has c.K G z w → Q w H := fun w hw => k z w G H p (.refl s) hw
  cases x <;> cases y <;> simp only [D.sub] at e <;> try contradiction
  case tup.int xs i =>
    unfold Has at hx hy
    obtain ⟨a, vs, rfl, h1, h2⟩ := hx
    subst hy
    obtain ⟨w, e1, hw⟩ := h2.atI e
    exact .inl (.inr (.inl ⟨a, vs, i, w, rfl, rfl, (s.ge.tup h1).sq, e1, fin w hw⟩))
  case lst.int xs i =>
    unfold Has at hx hy
    obtain ⟨a, vs, rfl, h1, h2⟩ := hx
    subst hy
    obtain ⟨w, e1, hw⟩ := h2.atI e
    exact .inl (.inl ⟨a, vs, i, w, rfl, rfl, .inl (s.ge _ _ h1), e1, fin w hw⟩)
  case str.int w i =>
    unfold Has at hx hy
    subst hx hy
    split at e <;> try contradiction
    rename_i hz
    obtain ⟨n, e1, e2⟩ := Option.map_eq_some_iff.mp e
    subst e2
    exact .inl (.inr (.inr ⟨w, i, n, rfl, rfl, hz, e1, fin _ (by unfold Has; rfl)⟩))
  case dic.str ks x =>
    unfold Has at hx hy
    obtain ⟨a, ws, rfl, h1, h2⟩ := hx
    subst hy
    obtain ⟨o, g, ⟨n, _⟩ | ⟨d, w, e1, e2, hw⟩⟩ := dget_of (k := .inr x) (s.ge _ _ h1) h2
    · rw [n] at e; cases e
    · rw [e1] at e; cases e; subst e2
      exact .inr ⟨a, w, rfl, g, fin w hw⟩
  case dic.int ks x =>
    unfold Has at hx hy
    obtain ⟨a, ws, rfl, h1, h2⟩ := hx
    subst hy
    obtain ⟨o, g, ⟨n, _⟩ | ⟨d, w, e1, e2, hw⟩⟩ := dget_of (k := .inl x) (s.ge _ _ h1) h2
    · rw [n] at e; cases e
    · rw [e1] at e; cases e; subst e2
      exact .inr ⟨a, w, rfl, g, fin w hw⟩
theorem de_sub {ta tb : TE} {δ : List Sl} {P : D → Prop} (h : DE c ta δ fun x => DE c tb δ fun y => ∃ z, D.sub x y = some z ∧ P z) : DE c (tOp (rSub c.K) ta tb) δ P := de_op dop_sub h
theorem de_eq {ta tb : TE} {δ : List Sl} {P : D → Prop} (h : DE c ta δ fun x => DE c tb δ fun y => D.deep x ≤ 50 ∧ P (.bl (D.eqv x y))) : DE c (tOp (rEqX c.K) ta tb) δ P := de_op dop_eq h
theorem de_ne {ta tb : TE} {δ : List Sl} {P : D → Prop} (h : DE c ta δ fun x => DE c tb δ fun y => D.deep x ≤ 50 ∧ P (.bl (!D.eqv x y))) : DE c (tOp (rNeX c.K) ta tb) δ P := de_op dop_ne h
end

/-! ### len -/
def rLenX (K : PySem.W.Frag) : List V → Hp → VK → Prop := fun xs H Q => (∃ p ys, xs = [.ref p] ∧ (SqL K H p ys ∨ SqT K H p ys) ∧ Q (.int ys.length) H) ∨ (∃ z, xs = [.str z] ∧ z.length ≤ sizeLine ∧ Q (.int z.length) H) ∨
  ∃ a kvs, xs = [.ref a] ∧ Rd H a (.dK kvs) ∧ Q (.int kvs.length) H
theorem call_lenX {X : Cx} : CallR X (.builtin "len") (rLenX X.K) := by
  refine call_len_seq.or (call_len_str.or ?_)
  intro pins s σ H xs us Q I r h
  obtain ⟨a, kvs, rfl, ha, q⟩ := h
  obtain ⟨u, rfl, ru⟩ := vals1 r
  cases ru
  exact d_len I ha fun t s' I' => ⟨.int kvs.length, H, I', ⟨t, rfl⟩, q⟩
def D.len : D → Option Nat
  | .str z => if z.length ≤ sizeLine then some z.length else none
  | .tup xs => some xs.length
  | .lst xs => some xs.length
  | .dic xs => some xs.length
  | _ => none
section
variable {c : Cn} {ta tb : TE} {δ : List Sl} {P : D → Prop}
theorem de_len (h : DE c ta δ fun x => ∃ n : Nat, D.len x = some n ∧ P (.int n)) : DE c (tCB (rLenX c.K) (tCons ta tNil)) δ P := by
  refine de_cb (F := fun as P => ∃ x n, as = [.dat x] ∧ D.len x = some n ∧ P (.int (n : Nat))) ?_ (da_cons (h.imp fun d p => da_nil (let ⟨n, e, q⟩ := p; ⟨d, n, rfl, e, q⟩)))
  intro as vs G H Q P s ha f k
  obtain ⟨x, n, rfl, e, p⟩ := f
  obtain ⟨v, r, rfl, hv, hr⟩ := ha
  cases hr
  have fin : Q (.int n) H := k _ _ G H p (.refl s) (by unfold Has; rfl)
  cases x <;> simp only [D.len] at e <;> try contradiction
  case str z =>
    unfold Has at hv
    subst hv
    split at e <;> cases e
    rename_i hz
    exact .inr (.inl ⟨z, rfl, hz, fin⟩)
  case tup xs =>
    unfold Has at hv
    obtain ⟨a, vs, rfl, h1, h2⟩ := hv
    cases e
    refine .inl ⟨a, vs, rfl, .inr (s.ge.tup h1).sq, ?_⟩
    rw [h2.len]; exact fin
  case lst xs =>
    unfold Has at hv
    obtain ⟨a, vs, rfl, h1, h2⟩ := hv
    cases e
    refine .inl ⟨a, vs, rfl, .inl (.inl (s.ge _ _ h1)), ?_⟩
    rw [h2.len]; exact fin
  case dic xs =>
    unfold Has at hv
    obtain ⟨a, vs, rfl, h1, h2⟩ := hv
    cases e
    refine .inr (.inr ⟨a, vs, rfl, s.ge _ _ h1, ?_⟩)
    rw [h2.len]; exact fin
end

/-! ### isinstance -/
inductive Ty where
  | str | int | bool | dict | tuple | list
def Ty.name : Ty → String
  | .str => "str" | .int => "int" | .bool => "bool" | .dict => "dict" | .tuple => "tuple" | .list => "list"
def D.ty : D → String
  | .non => "NoneType" | .bl _ => "bool" | .int _ => "int" | .str _ => "str" | .tup _ => "tuple" | .lst _ => "list" | .dic _ => "dict"
def D.isA : D → Ty → Bool
  | .bl _, .int => true | .bl _, .bool => true
  | .int _, .int => true | .str _, .str => true | .tup _, .tuple => true | .lst _, .list => true | .dic _, .dict => true
  | _, _ => false
theorem kit_isA (d : D) (t : Ty) : kitB d.ty t.name = some (d.isA t) := by
  cases d <;> cases t <;> simp only [D.ty, Ty.name, D.isA] <;> decide +kernel
theorem tyX_of {c : Cn} {G H : Hp} (s : Sub c G H) {d : D} {v : V} (h : Has c.K G d v) : TyX c.K H v (.type d.ty) := by
  cases d <;> unfold Has at h
  case non => subst h; exact .base (.non)
  case bl b => subst h; exact .base (.bl b)
  case int b => subst h; exact .base (.int b)
  case str b => subst h; exact .base (.str b)
  case tup xs =>
    obtain ⟨a, vs, rfl, h1, _⟩ := h
    rcases (s.ge.tup h1).sq with (r | ⟨o, r⟩) | ⟨o, its, n, r, cl, _⟩
    · exact .base (.tup r)
    · exact .fTuple r
    · exact .kTuple r cl
  case lst xs =>
    obtain ⟨a, vs, rfl, h1, _⟩ := h
    rcases s.ge _ _ h1 with r | ⟨o, r⟩
    · exact .base (.lst r)
    · exact .base (.frz r)
  case dic xs =>
    obtain ⟨a, vs, rfl, h1, _⟩ := h
    rcases s.ge _ _ h1 with r | ⟨o, r⟩
    · exact .base (.dK r)
    · exact .fDict r
section
variable {c : Cn} {ta tb : TE} {δ : List Sl} {P : D → Prop}
theorem de_isi (t : Ty) {T : String} (hT : t.name = T) (h : DE c ta δ fun x => P (.bl (x.isA t))) : DE c (tCB (rIsi c.K) (tCons ta (tCons (tC (.ty T)) tNil))) δ P := by
  subst hT
  refine de_cb (F := fun as P => ∃ x, as = [.dat x, .raw (.ty t.name)] ∧ P (.bl (x.isA t))) ?_ (da_cons (h.imp fun d p => da_rawc (da_nil ⟨d, rfl, p⟩)))
  intro as vs G H Q P s ha f k
  obtain ⟨x, rfl, p⟩ := f
  obtain ⟨v, r, rfl, hv, r', rfl, hr⟩ := ha
  cases hr
  exact ⟨v, .ty t.name, .type x.ty, .type t.name, x.isA t, rfl, .ty _, tyX_of s hv, kit_ty (kit_isA x t), k _ _ G H p (.refl s) (by unfold Has; rfl)⟩
end
end Mp

set_option Elab.async false
set_option linter.all false
set_option maxRecDepth 100000
set_option maxHeartbeats 4000000
namespace Mp
open PySem L2

/-! ### what a for walks: a list, a tuple, a text, a dict -/
def iAny (K : PySem.W.Frag) (tl : TE) : TI := fun σ H R => tl σ H fun x H1 =>
  (∃ a, x = .ref a ∧ (∃ xs, SqL K H1 a xs) ∧ R (Itl K a) H1) ∨ (∃ a, x = .ref a ∧ (∃ xs, SqT K H1 a xs) ∧ R (Itt K a) H1) ∨ (∃ z, x = .str z ∧ R (Its z) H1) ∨
  (∃ d o kvs, x = .ref d ∧ H1 d = some (.frz o (.dK kvs)) ∧ R (Itk d o kvs) H1) ∨ (∃ d kvs, x = .ref d ∧ H1 d = some (.dK kvs) ∧ ∀ o, R (Itk d o kvs) (upd H1 d (.frz o (.dK kvs))))
section
variable {X : Cx} {tg : Expr}
theorem keys_it {pins : List (Addr × Obj)} {σ : L2.St} {H : Hp} {s : Shared} {R : It → Hp → Prop} {E : Value → Shared → Prop} {d : Addr} {o : Obj} {kvs : List (Key × V)} (I : Inv X pins σ H s) (hd : H d = some (.frz o (.dK kvs))) (q : R (Itk d o kvs) H) :
    wpAny (model X.prog X.w) X.A (pyIter (.ref d)) (PIE X pins σ tg R) E s := by
  obtain ⟨hs, hgd, hx, es, ep, vs, hdt, hsz, kv, hm⟩ := I.frzK hd
  refine iter_keys hs hgd hx hdt (pi_one (tk := s.toks) I _ (turn_keys _ hdt) ⟨_, Heap.get?_push_size _ rfl, rfl, ?_⟩ q)
  rw [hsz] <;> rfl
open PyProof.Rows in
theorem pi_any {l : Expr} {tl : TE} (hl : PE X l tl) : PI X tg l (iAny X.K tl) := by
  refine ⟨fun pins s σ H R I h => ?_⟩
  refine thn (hl.run pins s σ H _ I h) fun v s1 ⟨x, H1, I1, r1, q1⟩ => ?_
  rcases q1 with ⟨a, rfl, ⟨xs, hq⟩, q⟩ | ⟨a, rfl, ⟨xs, hq⟩, q⟩ | ⟨z, rfl, q⟩ | ⟨d, o, kvs, rfl, hd, q⟩ | ⟨d, kvs, rfl, hd, q⟩
  · cases r1
    obtain ⟨its, rv, p, hz⟩ := I1.list hq
    exact wpAny_pyIter_list p.isList (pi_one (tk := s1.toks) I1 _ (turn_list a _) ⟨_, Heap.get?_push_size _ rfl, rfl, rfl⟩ q)
  · cases r1
    obtain ⟨its, rv, p, hz⟩ := I1.tuple hq
    exact wpAny_pyIter_tuple (show s1.heap.IsTuple a its.toArray from p) (pi_one (tk := s1.toks) I1 _ (turn_tuple a _) ⟨_, Heap.get?_push_size _ rfl, rfl, rfl⟩ q)
  · obtain ⟨t, rfl⟩ := r1
    cases ha : z.cps.all (· < 128)
    · exact wpAny_pyIter_wide ha (pi_one (tk := s1.toks) I1 _ (turn_str _ z t "str_iterator" (.inr rfl)) ⟨_, Heap.get?_push_size _ rfl, rfl, rfl⟩ q)
    · exact wpAny_pyIter_ascii ha (pi_one (tk := s1.toks) I1 _ (turn_str _ z t "str_ascii_iterator" (.inl rfl)) ⟨_, Heap.get?_push_size _ rfl, rfl, rfl⟩ q)
  · cases r1
    exact keys_it I1 hd q
  · cases r1
    obtain ⟨od, I2⟩ := I1.lock hd trivial
    exact keys_it I2 upd_same (q od)
end
/-- the items of a datum that is walked -/
def D.iter : D → Option (List D)
  | .lst xs => some xs
  | .tup xs => some xs
  | .str z => some (z.cps.toList.map fun n => .str ⟨#[n]⟩)
  | .dic ks => some (ks.map fun p => match p.1 with | .inl i => .int i | .inr x => .str x)
  | _ => none
def kD : Key → D
  | .inl i => .int i
  | .inr x => .str x
theorem has_key {K : PySem.W.Frag} {G : Hp} (k : Key) : Has K G (kD k) (kV k) := by cases k <;> unfold kD kV Has <;> rfl
section
variable {c : Cn} {δ : List Sl} {tl : TE}
theorem wk_list {G H : Hp} {a : Addr} {xs : List D} {vs : List V} (hr : Rd G a (.lst vs)) (hl : HasL c.K G xs vs) : Wk c (Itl c.K a) xs G H where
  go := fun G1 H1 i s l hi => by
    obtain ⟨v, e, _⟩ := hl.get (i := i) (d := xs[i]) (by simp [hi])
    exact ⟨vs, v, .inl (s.ge _ _ (l.ge _ _ hr)), e⟩
  stop := fun G1 H1 s l => ⟨vs, .inl (s.ge _ _ (l.ge _ _ hr)), by rw [hl.len]; exact Nat.le_refl _⟩
  yld := fun G1 H1 i x H2 s l hi y => by
    obtain ⟨rfl, y⟩ := y
    have e := y vs (.inl (s.ge _ _ (l.ge _ _ hr)))
    obtain ⟨d, e1, hd⟩ := hl.get' e
    exact ⟨G1, .refl s, d, e1, hd.mono l.ge⟩
theorem wk_tup {G H : Hp} {a : Addr} {xs : List D} {vs : List V} (hr : TupAt c.K G a vs) (hl : HasL c.K G xs vs) : Wk c (Itt c.K a) xs G H where
  go := fun G1 H1 i s l hi => by
    obtain ⟨v, e, _⟩ := hl.get (i := i) (d := xs[i]) (by simp [hi])
    exact ⟨vs, v, (s.ge.tup (l.ge.tup hr)).sq, e⟩
  stop := fun G1 H1 s l => ⟨vs, (s.ge.tup (l.ge.tup hr)).sq, by rw [hl.len]; exact Nat.le_refl _⟩
  yld := fun G1 H1 i x H2 s l hi y => by
    obtain ⟨rfl, y⟩ := y
    have e := y vs (s.ge.tup (l.ge.tup hr)).sq
    obtain ⟨d, e1, hd⟩ := hl.get' e
    exact ⟨G1, .refl s, d, e1, hd.mono l.ge⟩
theorem wk_str {G H : Hp} {z : Str} : Wk c (Its z) (z.cps.toList.map fun n => .str ⟨#[n]⟩) G H where
  go := fun G1 H1 i s l hi => by simpa [Its] using hi
  stop := fun G1 H1 s l => by simp [Its]
  yld := fun G1 H1 i x H2 s l hi y => by
    obtain ⟨rfl, n, e, rfl⟩ := y
    refine ⟨G1, .refl s, .str ⟨#[n]⟩, ?_, by unfold Has; rfl⟩
    rw [List.getElem?_map]
    have : z.cps.toList[i]? = some n := by simpa using e
    rw [this]; rfl
theorem wk_keys {G H : Hp} {a : Addr} {o : Obj} {ks : List (Key × D)} {ws : List (Key × V)} (hf : H a = some (.frz o (.dK ws))) (hl : HasK c.K G ks ws) : Wk c (Itk a o ws) (ks.map fun p => kD p.1) G H where
  go := fun G1 H1 i s l hi => ⟨l.fz _ _ _ hf, by rw [hl.len]; simpa using hi⟩
  stop := fun G1 H1 s l => ⟨l.fz _ _ _ hf, by rw [hl.len, List.length_map]; exact Nat.le_refl _⟩
  yld := fun G1 H1 i x H2 s l hi y => by
    obtain ⟨rfl, k, v, e, rfl⟩ := y
    refine ⟨G1, .refl s, kD k, ?_, has_key k⟩
    have e2 : (ws.map (·.1))[i]? = some k := by rw [List.getElem?_map, e]; rfl
    rw [hl.keys, List.getElem?_map] at e2
    rw [List.getElem?_map]
    cases q : ks[i]? with
    | none => rw [q] at e2; cases e2
    | some p => rw [q] at e2; cases e2; rfl
theorem di_any {P : List D → Prop} (h : DE c tl δ fun d => ∃ xs, D.iter d = some xs ∧ P xs) : DI c (iAny c.K tl) δ P := fun G0 H0 G H σ R b e k =>
  h G0 H0 G H σ _ b e fun d v G1 H1 p s hv => by
    obtain ⟨xs, ei, p⟩ := p
    cases d <;> simp only [D.iter] at ei <;> try contradiction
    case lst ys =>
      cases ei
      unfold Has at hv
      obtain ⟨a, vs, rfl, h1, h2⟩ := hv
      exact .inl ⟨a, rfl, ⟨vs, .inl (s.sub.ge _ _ h1)⟩, k _ _ G1 H1 p s (wk_list h1 h2)⟩
    case tup ys =>
      cases ei
      unfold Has at hv
      obtain ⟨a, vs, rfl, h1, h2⟩ := hv
      exact .inr (.inl ⟨a, rfl, ⟨vs, (s.sub.ge.tup h1).sq⟩, k _ _ G1 H1 p s (wk_tup h1 h2)⟩)
    case str z =>
      cases ei
      unfold Has at hv
      subst hv
      exact .inr (.inr (.inl ⟨z, rfl, k _ _ G1 H1 p s wk_str⟩))
    case dic ks =>
      have ek : (ks.map fun p => kD p.1) = xs := by
        injection ei
      subst ek
      unfold Has at hv
      obtain ⟨a, ws, rfl, h1, h2⟩ := hv
      have g1 := s.sub.rd h1
      rcases s.sub.ge _ _ h1 with r | ⟨o, r⟩
      · refine .inr (.inr (.inr (.inr ⟨a, ws, rfl, r, fun o => ?_⟩)))
        have s2 := Step.frz (o := o) s.sub g1 r
        exact k _ _ G1 _ p (s.trans s2) (wk_keys upd_same h2)
      · exact .inr (.inr (.inr (.inl ⟨a, o, ws, rfl, r, k _ _ G1 H1 p s (wk_keys r h2)⟩)))
/-- range(n) -/
theorem wk_rng {G H : Hp} {n : Nat} : Wk c (Itr 0 n) ((List.range n).map fun i => .int (i : Nat)) G H where
  go := fun G1 H1 i s l hi => by simpa [Itr] using hi
  stop := fun G1 H1 s l => by simp [Itr]
  yld := fun G1 H1 i x H2 s l hi y => by
    obtain ⟨rfl, rfl⟩ := y
    refine ⟨G1, .refl s, .int (i : Nat), ?_, by unfold Has; simp⟩
    have hi' : i < n := by simpa using hi
    simp [hi']
theorem di_rng {ta : TE} {P : List D → Prop} (h : DE c ta δ fun d => ∃ n : Nat, d = .int n ∧ n ≤ 1000 ∧ P ((List.range n).map fun i => .int (i : Nat))) : DI c (iRng1 (tCons ta tNil)) δ P := fun G0 H0 G H σ R b e k =>
  h G0 H0 G H σ _ b e fun d v G1 H1 p s hv => by
    obtain ⟨n, rfl, hn, p⟩ := p
    unfold Has at hv
    subst hv
    refine ⟨n, rfl, by omega, by omega, ?_⟩
    exact k _ _ G1 H1 p s wk_rng
end

/-! ### in -/
def rInD (neg : Bool) : R2 := fun x y H Q => ∃ a o, y = .ref a ∧ DGet H a x o ∧ Q (.bl (if neg then !o.isSome else o.isSome)) H
def rInS (neg : Bool) : R2 := fun x y H Q => ∃ (n : Nat) (z : Str), x = .str ⟨#[n]⟩ ∧ y = .str z ∧ Q (.bl (if neg then !decide (n ∈ z.cps.toList) else decide (n ∈ z.cps.toList))) H
def rInX (K : PySem.W.Frag) (neg : Bool) : R2 := fun x y H Q => rIn K neg x y H Q ∨ (rInD neg x y H Q ∨ rInS neg x y H Q)
section
variable {X : Cx}
theorem op_inX (hu : X.A.units + 1 < cLine) : OpR X (compareOp .In) (rInX X.K false) := by
  refine op_in_seq.or (OpR.or ?_ op_in_sign)
  intro pins s σ H x y v u Q I rx ry h
  obtain ⟨a, o, rfl, g, q⟩ := h
  cases (show u = Value.ref a from ry)
  exact d_in hu I g rx fun s' I' => ⟨.bl o.isSome, H, I', rfl, q⟩
theorem op_notInX (hu : X.A.units + 1 < cLine) : OpR X (compareOp .NotIn) (rInX X.K true) := by
  refine op_notIn_seq.or (OpR.or ?_ op_notIn_sign)
  intro pins s σ H x y v u Q I rx ry h
  obtain ⟨a, o, rfl, g, q⟩ := h
  cases (show u = Value.ref a from ry)
  exact d_notIn hu I g rx fun s' I' => ⟨.bl (!o.isSome), H, I', rfl, q⟩
end
def D.flat : D → Bool
  | .non => true | .bl _ => true | .int _ => true | .str _ => true | _ => false
def D.inn : D → D → Option Bool
  | x, .tup ys => if x.flat && ys.all D.flat then some (ys.any fun y => D.eqv y x) else none
  | x, .lst ys => if x.flat && ys.all D.flat then some (ys.any fun y => D.eqv y x) else none
  | .str k, .dic ks => some (look ks (.inr k)).isSome
  | .str k, .str z => match k.cps.toList with | [n] => some (decide (n ∈ z.cps.toList)) | _ => none
  | _, _ => none
section
variable {c : Cn} {δ : List Sl} {ta tb : TE} {P : D → Prop}
theorem has_flat {K : PySem.W.Frag} {G : Hp} {d : D} {v : V} (f : d.flat = true) (h : Has K G d v) : flatV v = true := by
  cases d <;> simp only [D.flat] at f <;> try contradiction
  all_goals unfold Has at h; subst h; rfl
theorem has_eqV {K : PySem.W.Frag} {G : Hp} {d e : D} {v u : V} (f : d.flat = true) (g : e.flat = true) (h : Has K G d v) (q : Has K G e u) : eqV v u = D.eqv d e := by
  cases d <;> simp only [D.flat] at f <;> try contradiction
  all_goals
    cases e <;> simp only [D.flat] at g <;> try contradiction
    all_goals unfold Has at h q; subst h q; simp [eqV, D.eqv]
theorem hasL_flat {K : PySem.W.Frag} {G : Hp} : ∀ {xs : List D} {vs : List V}, HasL K G xs vs → xs.all D.flat = true → vs.all flatV = true
  | [], _, h, _ => by unfold HasL at h; subst h; rfl
  | x :: xs, vs, h, f => by
    unfold HasL at h
    obtain ⟨v, r, rfl, h1, h2⟩ := h
    rw [List.all_cons, Bool.and_eq_true] at f ⊢
    exact ⟨has_flat f.1 h1, hasL_flat h2 f.2⟩
theorem hasL_inV {K : PySem.W.Frag} {G : Hp} {x : D} {u : V} (fx : x.flat = true) (hx : Has K G x u) : ∀ {xs : List D} {vs : List V}, HasL K G xs vs → xs.all D.flat = true → inV u vs = (xs.any fun y => D.eqv y x)
  | [], _, h, _ => by unfold HasL at h; subst h; rfl
  | y :: xs, vs, h, f => by
    unfold HasL at h
    obtain ⟨v, r, rfl, h1, h2⟩ := h
    rw [List.all_cons, Bool.and_eq_true] at f
    have ih := hasL_inV fx hx h2 f.2
    unfold inV at ih ⊢
    rw [List.any_cons, List.any_cons, has_eqV f.1 fx h1 hx, ih]
theorem dop_in {neg : Bool} : DOp c (rInX c.K neg) fun x y P => ∃ b, D.inn x y = some b ∧ P (.bl (if neg then !b else b)) := fun x y v u G H Q P s hx hy f k => by
  obtain ⟨b, e, p⟩ := f
  have fin : Q (.bl (if neg then !b else b)) H := k _ _ G H p (.refl s) (by unfold Has; rfl)
  cases y <;> try (cases x <;> simp only [D.inn] at e <;> contradiction)
  case tup ys =>
    simp only [D.inn] at e
    split at e <;> cases e
    rename_i ff
    rw [Bool.and_eq_true] at ff
    unfold Has at hy
    obtain ⟨a, vs, rfl, h1, h2⟩ := hy
    refine .inl ⟨a, vs, rfl, .inr (s.ge.tup h1).sq, has_flat ff.1 hx, hasL_flat h2 ff.2, ?_⟩
    rw [hasL_inV ff.1 hx h2 ff.2]; exact fin
  case lst ys =>
    simp only [D.inn] at e
    split at e <;> cases e
    rename_i ff
    rw [Bool.and_eq_true] at ff
    unfold Has at hy
    obtain ⟨a, vs, rfl, h1, h2⟩ := hy
    refine .inl ⟨a, vs, rfl, .inl (.inl (s.ge _ _ h1)), has_flat ff.1 hx, hasL_flat h2 ff.2, ?_⟩
    rw [hasL_inV ff.1 hx h2 ff.2]; exact fin
  case dic ks =>
    cases x <;> simp only [D.inn] at e <;> try contradiction
    rename_i kx
    cases e
    unfold Has at hx hy
    subst hx
    obtain ⟨a, ws, rfl, h1, h2⟩ := hy
    obtain ⟨o, g, ⟨n, rfl⟩ | ⟨d, w, e1, rfl, hw⟩⟩ := dget_of (k := .inr kx) (s.ge _ _ h1) h2
    · rw [n] at fin
      exact .inr (.inl ⟨a, none, rfl, g, fin⟩)
    · rw [e1] at fin
      exact .inr (.inl ⟨a, some w, rfl, g, fin⟩)
  case str z =>
    cases x <;> simp only [D.inn] at e <;> try contradiction
    rename_i kx
    unfold Has at hx hy
    subst hx hy
    split at e <;> cases e
    rename_i n en
    have ek : kx = ⟨#[n]⟩ := by
      obtain ⟨⟨l⟩⟩ := kx
      simp only at en
      subst en; rfl
    exact .inr (.inr ⟨n, z, by rw [ek], rfl, fin⟩)
theorem de_in {neg : Bool} (h : DE c ta δ fun x => DE c tb δ fun y => ∃ b, D.inn x y = some b ∧ P (.bl (if neg then !b else b))) : DE c (tOp (rInX c.K neg) ta tb) δ P := de_op dop_in h

/-! ### ints, texts, None -/
theorem dop_I0 {g : Int → Int → V} {f : Int → Int → D} (hg : ∀ i j G, Has c.K G (f i j) (g i j)) : DOp c (rI0 g) fun x y P => ∃ i j, x = .int i ∧ y = .int j ∧ P (f i j) := fun x y v u G H Q P s hx hy q k => by
  obtain ⟨i, j, rfl, rfl, p⟩ := q
  unfold Has at hx hy
  exact ⟨i, j, hx, hy, k _ _ G H p (.refl s) (hg i j G)⟩
theorem de_add (h : DE c ta δ fun x => DE c tb δ fun y => ∃ i j, x = .int i ∧ y = .int j ∧ P (.int (i + j))) : DE c (tOp (rI0 fun i j => .int (i + j)) ta tb) δ P := de_op (dop_I0 (f := fun i j => .int (i + j)) fun i j G => by unfold Has; rfl) h
theorem de_subI (h : DE c ta δ fun x => DE c tb δ fun y => ∃ i j, x = .int i ∧ y = .int j ∧ P (.int (i - j))) : DE c (tOp (rI0 fun i j => .int (i - j)) ta tb) δ P := de_op (dop_I0 (f := fun i j => .int (i - j)) fun i j G => by unfold Has; rfl) h
theorem de_lt (h : DE c ta δ fun x => DE c tb δ fun y => ∃ i j, x = .int i ∧ y = .int j ∧ P (.bl (decide (i < j)))) : DE c (tOp (rI0 fun i j => .bl (decide (i < j))) ta tb) δ P := de_op (dop_I0 (f := fun i j => .bl (decide (i < j))) fun i j G => by unfold Has; rfl) h
theorem de_le (h : DE c ta δ fun x => DE c tb δ fun y => ∃ i j, x = .int i ∧ y = .int j ∧ P (.bl (decide (i ≤ j)))) : DE c (tOp (rI0 fun i j => .bl (decide (i ≤ j))) ta tb) δ P := de_op (dop_I0 (f := fun i j => .bl (decide (i ≤ j))) fun i j G => by unfold Has; rfl) h
theorem de_gt (h : DE c ta δ fun x => DE c tb δ fun y => ∃ i j, x = .int i ∧ y = .int j ∧ P (.bl (decide (j < i)))) : DE c (tOp (rI0 fun i j => .bl (decide (j < i))) ta tb) δ P := de_op (dop_I0 (f := fun i j => .bl (decide (j < i))) fun i j G => by unfold Has; rfl) h
theorem de_ge (h : DE c ta δ fun x => DE c tb δ fun y => ∃ i j, x = .int i ∧ y = .int j ∧ P (.bl (decide (j ≤ i)))) : DE c (tOp (rI0 fun i j => .bl (decide (j ≤ i))) ta tb) δ P := de_op (dop_I0 (f := fun i j => .bl (decide (j ≤ i))) fun i j G => by unfold Has; rfl) h
theorem de_neg (h : DE c ta δ fun x => ∃ i, x = .int i ∧ P (.int (-i))) : DE c (tUn (rU fun i => .int (-i)) ta) δ P := de_un (F := fun x P => ∃ i, x = .int i ∧ P (.int (-i))) (fun x v G H Q P s hx q k => by
  obtain ⟨i, rfl, p⟩ := q
  unfold Has at hx
  exact ⟨i, hx, k _ _ G H p (.refl s) (by unfold Has; rfl)⟩) h
def D.isN : D → Bool
  | .non => true | _ => false
theorem has_isN {K : PySem.W.Frag} {G : Hp} {d : D} {v : V} (h : Has K G d v) : decide (v = .non) = d.isN := by
  cases d <;> unfold Has at h
  case non => subst h; rfl
  case bl => subst h; rfl
  case int => subst h; rfl
  case str => subst h; rfl
  case tup => obtain ⟨a, vs, rfl, _⟩ := h; rfl
  case lst => obtain ⟨a, vs, rfl, _⟩ := h; rfl
  case dic => obtain ⟨a, vs, rfl, _⟩ := h; rfl
theorem de_isN (h : DE c ta δ fun x => P (.bl x.isN)) : DE c (tOp (fun x y H Q => y = .non ∧ Q (.bl (decide (x = .non))) H) ta (tC .non)) δ P :=
  de_op (F := fun x y P => y = .non ∧ P (.bl x.isN)) (fun x y v u G H Q P s hx hy q k => by
    obtain ⟨rfl, p⟩ := q
    unfold Has at hy
    refine ⟨hy, ?_⟩
    rw [has_isN hx]
    exact k _ _ G H p (.refl s) (by unfold Has; rfl)) (h.imp fun d p => de_non ⟨rfl, p⟩)
theorem de_notN (h : DE c ta δ fun x => P (.bl (!x.isN))) : DE c (tOp (fun x y H Q => y = .non ∧ Q (.bl (!decide (x = .non))) H) ta (tC .non)) δ P :=
  de_op (F := fun x y P => y = .non ∧ P (.bl (!x.isN))) (fun x y v u G H Q P s hx hy q k => by
    obtain ⟨rfl, p⟩ := q
    unfold Has at hy
    refine ⟨hy, ?_⟩
    rw [has_isN hx]
    exact k _ _ G H p (.refl s) (by unfold Has; rfl)) (h.imp fun d p => de_non ⟨rfl, p⟩)
/-- a op1 b op2 c of ints -/
theorem de_chainII {tc : TE} {f g : Int → Int → Bool} (h : DE c ta δ fun x => DE c tb δ fun y => ∃ i j, x = .int i ∧ y = .int j ∧ if f i j = true then DE c tc δ fun z => ∃ k, z = .int k ∧ P (.bl (g j k)) else P (.bl false)) :
    DE c (tChain (rI0 fun i j => .bl (f i j)) (rI0 fun i j => .bl (g i j)) ta tb tc) δ P := fun G0 H0 G H σ Q b e k =>
  h G0 H0 G H σ _ b e fun x v G1 H1 px s1 hx => px G0 H0 G1 H1 σ _ (b.next s1) (e.step b.iv s1) fun y u G2 H2 py s2 hy => by
    obtain ⟨i, j, rfl, rfl, p⟩ := py
    unfold Has at hx hy
    subst hx hy
    refine ⟨i, j, rfl, rfl, f i j, rfl, ?_⟩
    have s12 := s1.trans s2
    by_cases q : f i j = true
    · rw [if_pos q] at p ⊢
      refine p G0 H0 G2 H2 σ _ (b.next s12) (e.step b.iv s12) fun z w G3 H3 pz s3 hz => ?_
      obtain ⟨n, rfl, pz⟩ := pz
      unfold Has at hz
      subst hz
      exact ⟨j, n, rfl, rfl, k _ _ G3 H3 pz (s12.trans s3) (by unfold Has; rfl)⟩
    · rw [if_neg q] at p ⊢
      exact k _ _ G2 H2 p s12 (by unfold Has; rfl)
end
end Mp

set_option Elab.async false
set_option linter.all false
set_option maxRecDepth 100000
set_option maxHeartbeats 4000000
namespace Mp
open PySem L2

/-! ### d.get -/
section
variable {c : Cn} {δ : List Sl} {ta tb td ty tx : TE} {P : D → Prop}
theorem isD_of {H : Hp} {a : Addr} {ws : List (Key × V)} (h : Rd H a (.dK ws)) : IsD H a := .inl ⟨ws, h⟩
theorem getD_of {G : Hp} {ks : List (Key × D)} {k : Key} {o : Option V} {z : V} {e : D} (q : (look ks k = none ∧ o = none) ∨ ∃ d v, look ks k = some d ∧ o = some v ∧ Has c.K G d v) (he : Has c.K G e z) : Has c.K G ((look ks k).getD e) (o.getD z) := by
  rcases q with ⟨n, rfl⟩ | ⟨d, v, n, rfl, hv⟩
  · rw [n]; exact he
  · rw [n]; exact hv
theorem de_get1 (h : DE c td δ fun d => ∃ ks, d = .dic ks ∧ DE c ty δ fun k => ∃ x, k = .str x ∧ P ((look ks (.inr x)).getD .non)) : DE c (tDGet1 td ty) δ P := fun G0 H0 G H σ Q b e k =>
  h G0 H0 G H σ _ b e fun d v G1 H1 p s hv => by
    obtain ⟨ks, rfl, p⟩ := p
    unfold Has at hv
    obtain ⟨a, ws, rfl, h1, h2⟩ := hv
    refine ⟨a, rfl, isD_of (s.sub.ge _ _ h1), p G0 H0 G1 H1 σ _ (b.next s) (e.step b.iv s) fun kd kv G2 H2 q s2 hk => ?_⟩
    obtain ⟨x, rfl, q⟩ := q
    unfold Has at hk
    subst hk
    obtain ⟨o, g, r⟩ := dget_of (k := .inr x) (s2.sub.ge _ _ (s2.ge _ _ h1)) (h2.mono s2.ge)
    exact ⟨o, g, k _ _ G2 H2 q (s.trans s2) (getD_of r (by unfold Has; rfl))⟩
theorem de_get2 (h : DE c td δ fun d => ∃ ks, d = .dic ks ∧ DE c ty δ fun k => DE c tx δ fun z => ∃ x, k = .str x ∧ P ((look ks (.inr x)).getD z)) : DE c (tDGet2 td ty tx) δ P := fun G0 H0 G H σ Q b e k =>
  h G0 H0 G H σ _ b e fun d v G1 H1 p s hv => by
    obtain ⟨ks, rfl, p⟩ := p
    unfold Has at hv
    obtain ⟨a, ws, rfl, h1, h2⟩ := hv
    have b1 := b.next s
    have e1 := e.step b.iv s
    refine ⟨a, rfl, isD_of (s.sub.ge _ _ h1), p G0 H0 G1 H1 σ _ b1 e1 fun kd kv G2 H2 q s2 hk => ?_⟩
    refine q G0 H0 G2 H2 σ _ (b1.next s2) (e1.step b.iv s2) fun z zv G3 H3 q3 s3 hz => ?_
    obtain ⟨x, rfl, q3⟩ := q3
    unfold Has at hk
    subst hk
    have s23 := s2.trans s3
    obtain ⟨o, g, r⟩ := dget_of (k := .inr x) (s3.sub.ge _ _ (s23.ge _ _ h1)) (h2.mono s23.ge)
    exact ⟨o, g, k _ _ G3 H3 q3 (s.trans s23) (getD_of r hz)⟩
/-- .. of an own dict -/
theorem de_get1_own {i : Nat} {ks : List (Key × D)} (hi : δ[i]? = some (.own (.dic ks))) (h : DE c ty δ fun k => ∃ x, k = .str x ∧ P ((look ks (.inr x)).getD .non)) : DE c (tDGet1 (tVar i) ty) δ P := fun G0 H0 G H σ Q b e k => by
  obtain ⟨r, h1, h2, h3, ws, h4, h5⟩ := e.own i _ hi
  refine ⟨.ref r, h1, r, rfl, isD_of (.inl h4), h G0 H0 G H σ _ b e fun kd kv G2 H2 q s2 hk => ?_⟩
  obtain ⟨x, rfl, q⟩ := q
  unfold Has at hk
  subst hk
  have h6 := s2.keep r _ (not_town b.iv h2) h3 h4
  obtain ⟨o, g, r⟩ := dget_of (k := .inr x) (.inl h6) (h5.mono s2.ge)
  exact ⟨o, g, k _ _ G2 H2 q s2 (getD_of r (by unfold Has; rfl))⟩
theorem de_in_own {neg : Bool} {i : Nat} {ks : List (Key × D)} (hi : δ[i]? = some (.own (.dic ks))) (h : DE c ta δ fun k => ∃ x, k = .str x ∧ P (.bl (if neg then !(look ks (.inr x)).isSome else (look ks (.inr x)).isSome))) : DE c (tOp (rInX c.K neg) ta (tVar i)) δ P := fun G0 H0 G H σ Q b e k =>
  h G0 H0 G H σ _ b e fun kd kv G2 H2 q s2 hk => by
    obtain ⟨r, h1, h2, h3, ws, h4, h5⟩ := e.own i _ hi
    obtain ⟨x, rfl, q⟩ := q
    unfold Has at hk
    subst hk
    have h6 := s2.keep r _ (not_town b.iv h2) h3 h4
    refine ⟨.ref r, h1, .inr (.inl ?_)⟩
    obtain ⟨o, g, z⟩ := dget_of (k := .inr x) (.inl h6) (h5.mono s2.ge)
    refine ⟨r, o, rfl, g, ?_⟩
    have eo : o.isSome = (look ks (.inr x)).isSome := by
      rcases z with ⟨n, rfl⟩ | ⟨d, v, n, rfl, _⟩ <;> rw [n] <;> rfl
    rw [eo]
    exact k _ _ G2 H2 q s2 (by unfold Has; rfl)

/-! ### all, any, sum -/
theorem hasL_bls {K : PySem.W.Frag} {G : Hp} : ∀ {bs : List Bool} {vs : List V}, HasL K G (bs.map .bl) vs → vs = bs.map .bl
  | [], _, h => by unfold HasL at h; exact h
  | b :: bs, vs, h => by
    rw [List.map_cons] at h
    unfold HasL at h
    obtain ⟨v, r, rfl, h1, h2⟩ := h
    unfold Has at h1
    rw [h1, hasL_bls h2]; rfl
theorem hasL_ints {K : PySem.W.Frag} {G : Hp} : ∀ {bs : List Int} {vs : List V}, HasL K G (bs.map .int) vs → vs = bs.map .int
  | [], _, h => by unfold HasL at h; exact h
  | b :: bs, vs, h => by
    rw [List.map_cons] at h
    unfold HasL at h
    obtain ⟨v, r, rfl, h1, h2⟩ := h
    unfold Has at h1
    rw [h1, hasL_ints h2]; rfl
theorem hasL_strs {K : PySem.W.Frag} {G : Hp} : ∀ {bs : List Str} {vs : List V}, HasL K G (bs.map .str) vs → vs = bs.map .str
  | [], _, h => by unfold HasL at h; exact h
  | b :: bs, vs, h => by
    rw [List.map_cons] at h
    unfold HasL at h
    obtain ⟨v, r, rfl, h1, h2⟩ := h
    unfold Has at h1
    rw [h1, hasL_strs h2]; rfl
theorem hasL_of_strs {K : PySem.W.Frag} {G : Hp} : ∀ bs : List Str, HasL K G (bs.map .str) (bs.map .str)
  | [] => hasL_nil
  | b :: bs => hasL_cons (by unfold Has; rfl) (hasL_of_strs bs)
theorem de_all (h : DE c ta δ fun d => ∃ bs : List Bool, d = .lst (bs.map .bl) ∧ P (.bl (bs.all id))) : DE c (tCB (rAll c.K) (tCons ta tNil)) δ P :=
  de_cb (F := fun as P => ∃ bs : List Bool, as = [.dat (.lst (bs.map .bl))] ∧ P (.bl (bs.all id))) (fun as vs G H Q P s ha f k => by
    obtain ⟨bs, rfl, p⟩ := f
    obtain ⟨v, r, rfl, hv, hr⟩ := ha
    cases hr
    unfold Has at hv
    obtain ⟨a, us, rfl, h1, h2⟩ := hv
    have e := hasL_bls h2
    subst e
    exact ⟨a, bs, rfl, .inl (s.ge _ _ h1), k _ _ G H p (.refl s) (by unfold Has; rfl)⟩) (da_cons (h.imp fun d p => da_nil (let ⟨bs, e, q⟩ := p; ⟨bs, by rw [e], q⟩)))
theorem de_any (h : DE c ta δ fun d => ∃ bs : List Bool, d = .lst (bs.map .bl) ∧ P (.bl (bs.any id))) : DE c (tCB (rAny c.K) (tCons ta tNil)) δ P :=
  de_cb (F := fun as P => ∃ bs : List Bool, as = [.dat (.lst (bs.map .bl))] ∧ P (.bl (bs.any id))) (fun as vs G H Q P s ha f k => by
    obtain ⟨bs, rfl, p⟩ := f
    obtain ⟨v, r, rfl, hv, hr⟩ := ha
    cases hr
    unfold Has at hv
    obtain ⟨a, us, rfl, h1, h2⟩ := hv
    have e := hasL_bls h2
    subst e
    exact ⟨a, bs, rfl, .inl (s.ge _ _ h1), k _ _ G H p (.refl s) (by unfold Has; rfl)⟩) (da_cons (h.imp fun d p => da_nil (let ⟨bs, e, q⟩ := p; ⟨bs, by rw [e], q⟩)))
theorem de_sum (h : DE c ta δ fun d => ∃ ns : List Int, d = .lst (ns.map .int) ∧ P (.int ns.sum)) : DE c (tCB (rSum c.K) (tCons ta tNil)) δ P :=
  de_cb (F := fun as P => ∃ ns : List Int, as = [.dat (.lst (ns.map .int))] ∧ P (.int ns.sum)) (fun as vs G H Q P s ha f k => by
    obtain ⟨ns, rfl, p⟩ := f
    obtain ⟨v, r, rfl, hv, hr⟩ := ha
    cases hr
    unfold Has at hv
    obtain ⟨a, us, rfl, h1, h2⟩ := hv
    have e := hasL_ints h2
    subst e
    exact ⟨a, ns, rfl, .inl (s.ge _ _ h1), k _ _ G H p (.refl s) (by unfold Has; rfl)⟩) (da_cons (h.imp fun d p => da_nil (let ⟨bs, e, q⟩ := p; ⟨bs, by rw [e], q⟩)))
end

/-! ### tuple(x), list(x) -/
def rTupleF (K : PySem.W.Frag) : List V → Hp → VK → Prop := fun xs H Q => ∃ p ys, xs = [.ref p] ∧ ((Rd H p (.lst ys) ∧ ∀ l o, H l = none → o.dict = none → Q (.ref l) (upd H l (.frz o (.tup ys)))) ∨ (SqT K H p ys ∧ Q (.ref p) H))
open PyProof.Rows in
theorem call_tupleF {X : Cx} : CallR X (.type "tuple") (rTupleF X.K) := by
  intro pins s σ H xs us Q I r h
  obtain ⟨p, ys, rfl, h⟩ := h
  obtain ⟨u, rfl, rx⟩ := vals1 r
  cases rx
  rcases h with ⟨hq, q⟩ | ⟨hq, q⟩
  · obtain ⟨its, rv, pl, hz⟩ := I.list (.inl hq)
    have ln := rv.length
    refine call_tuple_list pl.isList (fun h' kp => ?_) (by simp only [List.size_toArray] <;> omega)
    have I1 : Inv X pins σ H { s with heap := h' } := I.kept (t' := s.toks) kp
    refine ⟨.ref h'.objs.size, upd H h'.objs.size (.frz _ (.tup ys)), I1.laid (t' := s.toks) (fun b o e => Heap.get?_push_of_some _ e) (Nat.le_refl _) ⟨Heap.get?_push_size _ rfl, ?_⟩, rfl, q _ _ (I1.hok.fresh (Nat.le_refl _)) rfl⟩
    exact ⟨hz, its, rv, IsTup.new _ _⟩
  · obtain ⟨its, rv, pl, hz⟩ := I.tuple hq
    exact call_tuple_same pl ⟨.ref p, H, I, rfl, q⟩
def rListX (K : PySem.W.Frag) : List V → Hp → VK → Prop := fun xs H Q => (∃ p ys, xs = [.ref p] ∧ (SqL K H p ys ∨ SqT K H p ys) ∧ ∀ l, H l = none → Q (.ref l) (upd H l (.lst ys))) ∨
  ∃ p kvs, xs = [.ref p] ∧ Rd H p (.dK kvs) ∧ ∀ q, H q = none → Q (.ref q) (upd H q (.lst (kvs.map fun kv => kV kv.1)))
theorem call_listX {X : Cx} (hc : X.calm = true) : CallR X (.type "list") (rListX X.K) := by
  refine call_list_of.or ?_
  intro pins s σ H xs us Q I r h
  obtain ⟨p, kvs, rfl, hk, q⟩ := h
  obtain ⟨u, rfl, rx⟩ := vals1 r
  cases (show u = Value.ref p from rx)
  obtain ⟨z, lo, vs, rk, hd⟩ := dk_rd I.hok hk
  obtain ⟨ep, ha⟩ := hd.dictAt
  have ln : kvs.length = vs.length := Paired.length rk
  refine PySem.W.kdl_call (PySem.W.kdl_dict (knd := mixKind X.prog X.w) (kvs := vs) (ep := ep) lo) (I.ok.hd hc) ha (by rw [← ln]; exact z) fun h' tk ac cc kp hS hA => ?_
  refine ⟨.ref s.heap.objs.size, upd H s.heap.objs.size (.lst (kvs.map fun kv => kV kv.1)), I.laid kp (Nat.le_refl _) (show ObjOk X.prog X.w _ _ _ (.lst (kvs.map fun kv => kV kv.1)) from ⟨?_, ac.toList, cc, ?_, ?_⟩), rfl, q _ (I.hok.fresh (Nat.le_refl _))⟩
  · rw [List.length_map]; exact z
  · have el : ac.toList.length = ac.size := by simp
    refine vals_of_at (by rw [List.length_map, el, hA.1, ln]) fun j x w1 h1 h2 => ?_
    obtain ⟨k, y, hky, hi⟩ := hA.2 j w1 (by rw [← Array.getElem?_toList]; exact h2)
    have f1 : (kvs.map (·.1))[j]? = some k := by
      rw [KV.keys rk, List.getElem?_map, hky] <;> rfl
    have f2 : (kvs.map fun kv => kV kv.1)[j]? = some (kV k) := by
      have f3 : (kvs.map fun kv => kV kv.1) = (kvs.map (·.1)).map kV := by rw [List.map_map] <;> rfl
      rw [f3, List.getElem?_map, f1] <;> rfl
    rw [f2] at h1
    cases h1
    exact keyIs_rel hi
  · rw [Array.toArray_toList]; exact hS
section
variable {c : Cn} {δ : List Sl} {ta tb td ty tx : TE} {P : D → Prop}
def D.seq : D → Option (List D)
  | .lst xs => some xs | .tup xs => some xs | _ => none
theorem de_tuple (h : DE c ta δ fun d => ∃ xs, D.seq d = some xs ∧ P (.tup xs)) : DE c (tCB (rTupleF c.K) (tCons ta tNil)) δ P :=
  de_cb (F := fun as P => ∃ d xs, as = [.dat d] ∧ D.seq d = some xs ∧ P (.tup xs)) (fun as vs G H Q P s ha f k => by
    obtain ⟨d, xs, rfl, e, p⟩ := f
    obtain ⟨v, r, rfl, hv, hr⟩ := ha
    cases hr
    cases d <;> simp only [D.seq] at e <;> try contradiction
    case lst ys =>
      cases e
      unfold Has at hv
      obtain ⟨a, us, rfl, h1, h2⟩ := hv
      refine ⟨a, us, rfl, .inl ⟨s.ge _ _ h1, fun l o hl ho => ?_⟩⟩
      exact k _ _ (upd G l (.tup us)) _ p (Step.new s hl ⟨o, upd_same, ho⟩) (has_tup (s.free hl) h2)
    case tup ys =>
      cases e
      have hv' := hv
      unfold Has at hv
      obtain ⟨a, us, rfl, h1, h2⟩ := hv
      exact ⟨a, us, rfl, .inr ⟨(s.ge.tup h1).sq, k _ _ G H p (.refl s) hv'⟩⟩) (da_cons (h.imp fun d p => da_nil (let ⟨xs, e, q⟩ := p; ⟨d, xs, rfl, e, q⟩)))
theorem has_keys {K : PySem.W.Frag} {G : Hp} : ∀ {ks : List (Key × D)} {ws : List (Key × V)}, HasK K G ks ws → HasL K G (ks.map fun p => kD p.1) (ws.map fun p => kV p.1)
  | [], _, h => by unfold HasK at h; subst h; exact hasL_nil
  | (k, d) :: ks, ws, h => by
    unfold HasK at h
    obtain ⟨v, r, rfl, h1, h2⟩ := h
    exact hasL_cons (has_key k) (has_keys h2)
theorem dn_list (h : DE c ta δ fun d => ∃ xs, (D.seq d = some xs ∨ ∃ ks, d = .dic ks ∧ xs = ks.map fun p => kD p.1) ∧ P (.lst xs)) : DN c (tCB (rListX c.K) (tCons ta tNil)) δ P :=
  dn_cb (F := fun as P => ∃ d xs, as = [.dat d] ∧ (D.seq d = some xs ∨ ∃ ks, d = .dic ks ∧ xs = ks.map fun p => kD p.1) ∧ P (.lst xs)) (fun as vs G H Q P s ha f k => by
    obtain ⟨d, xs, rfl, e, p⟩ := f
    obtain ⟨v, r, rfl, hv, hr⟩ := ha
    cases hr
    rcases e with e | ⟨ks, rfl, rfl⟩
    · cases d <;> simp only [D.seq] at e <;> try contradiction
      case lst ys =>
        cases e
        unfold Has at hv
        obtain ⟨a, us, rfl, h1, h2⟩ := hv
        exact .inl ⟨a, us, rfl, .inl (.inl (s.ge _ _ h1)), fun l hl => k _ l G _ p (Step.tmp s hl) hl (s.free hl) ⟨us, upd_same, h2⟩⟩
      case tup ys =>
        cases e
        unfold Has at hv
        obtain ⟨a, us, rfl, h1, h2⟩ := hv
        exact .inl ⟨a, us, rfl, .inr (s.ge.tup h1).sq, fun l hl => k _ l G _ p (Step.tmp s hl) hl (s.free hl) ⟨us, upd_same, h2⟩⟩
    · unfold Has at hv
      obtain ⟨a, ws, rfl, h1, h2⟩ := hv
      exact .inr ⟨a, ws, rfl, s.ge _ _ h1, fun l hl => k _ l G _ p (Step.tmp s hl) hl (s.free hl) ⟨_, upd_same, has_keys h2⟩⟩) (da_cons (h.imp fun d p => da_nil (let ⟨xs, e, q⟩ := p; ⟨d, xs, rfl, e, q⟩)))
end
end Mp

set_option Elab.async false
set_option linter.all false
set_option maxRecDepth 100000
set_option maxHeartbeats 4000000
namespace Mp
open PySem L2

/-! ### dict(x) -/
def TupF (K : PySem.W.Frag) (H : Hp) (a : Addr) (vs : List V) : Prop := (∃ o, H a = some (.frz o (.tup vs)) ∧ o.dict = none) ∨ KTup K a vs
def rDictP (K : PySem.W.Frag) : List V → Hp → VK → Prop := fun xs H Q => ∃ (a : Addr) (ps : List Addr) (kvs : List (Key × V)), xs = [.ref a] ∧ (Rd H a (.lst (ps.map V.ref)) ∨ TupF K H a (ps.map V.ref)) ∧
  Paired (fun p kv => SqT K H p [kV kv.1, kv.2]) ps kvs ∧ ∀ p, H p = none → Q (.ref p) (upd H p (.dK (mergeK [] kvs)))
section
variable {X : Cx}
theorem call_dictS (hcalm : X.calm = true) : CallR X (.type "dict") (rDictP X.K) := by
  intro pins s σ H xs us Q I r q
  obtain ⟨a, ps, kvs, rfl, hq, hp, q⟩ := q
  obtain ⟨u, rfl, rx⟩ := vals1 r
  cases (show u = Value.ref a from rx)
  obtain ⟨prs, rel, hl, hpr⟩ := pairs_of I hp
  -- the sequence, plain
  have sq : ∃ (T : String) (its : List Value), (T = "list" ∨ T = "tuple") ∧ Vals (ps.map V.ref) its ∧ PlainSeq T s.heap a its.toArray ∧ ps.length ≤ sizeLine := by
    rcases hq with hq | ⟨o, ho, hd⟩ | ⟨o, its, n, hk, hc, hd, hdat, hz, rv⟩
    · obtain ⟨its, rv, ⟨o, n, p1, p2, p3, p4⟩, hz⟩ := I.list (.inl hq)
      exact ⟨"list", its, .inl rfl, rv, ⟨o, n, p1, p2, p3, p4⟩, by simpa using hz⟩
    · obtain ⟨e1, z, its, rv, o2, e2, hc, n, hdat⟩ := I.hok a _ ho
      rw [e1] at e2; cases e2
      exact ⟨"tuple", its, .inr rfl, rv, ⟨o, n, e1, hc, hd, hdat⟩, by simpa using z⟩
    · refine ⟨"tuple", its.toList, .inr rfl, rv, ⟨o, n, I.kIn a o hk, hc, hd, by rw [hdat]⟩, ?_⟩
      have := rv.length
      simp at this
      omega
  obtain ⟨T, its, hT, rv, pl, hz⟩ := sq
  have ei := refs_at rv
  subst ei
  have ln : prs.length = ps.length := hl
  -- the keys' own values
  have hkeys : ∃ qs : List (Value × Value), qs.length = prs.length ∧ ∀ (j : Nat) (k v : Value), qs[j]? = some (k, v) → (ps.map Value.ref).toArray[j]? = some (.ref (ps.getD j 0)) ∧ PairAt s.heap (ps.getD j 0) k v ∧ ∃ q : Key, prs[j]? = some (q, v) ∧ keyIs q k = true := by
    have hk : ∀ j : Nat, ∃ kk : Value, ∀ (h : j < prs.length), PairAt s.heap (ps.getD j 0) kk prs[j].2 ∧ keyIs prs[j].1 kk = true := fun j => by
      by_cases h : j < prs.length
      · obtain ⟨b, u, e1, e2, e3⟩ := hpr j prs[j] (by simp [h])
        refine ⟨u, fun _ => ⟨.inl ?_, e3⟩⟩
        have : ps.getD j 0 = b := by simp [List.getD, e1]
        rw [this]; exact e2
      · exact ⟨.none, fun z => absurd z h⟩
    let f : Nat → Value := fun j => Classical.choose (hk j)
    refine ⟨(List.range prs.length).map fun j => (f j, (prs.getD j (.inl 0, .none)).2), by simp, fun j k v e => ?_⟩
    have hj : j < prs.length := by
      have := (List.getElem?_eq_some_iff.mp e).1
      simpa using this
    rw [List.getElem?_map, List.getElem?_range hj] at e
    have e' : (f j, (prs.getD j (.inl 0, .none)).2) = (k, v) := Option.some.inj e
    have eg : prs.getD j (.inl 0, .none) = prs[j] := by simp [List.getD, hj]
    rw [eg] at e'
    injection e' with e1 e2
    subst e1 e2
    have z := Classical.choose_spec (hk j) hj
    have hj' : j < ps.length := by omega
    refine ⟨by simp [List.getD, hj'], z.1, prs[j].1, by simp [hj], z.2⟩
  obtain ⟨qs, lq, hqs⟩ := hkeys
  have items : PairItems s.heap (ps.map Value.ref).toArray (fun j => ps.getD j 0) qs := ⟨by simp; omega, fun j k v e => ⟨(hqs j k v e).1, (hqs j k v e).2.1⟩⟩
  have have_ : PairsHave (mixKind X.prog X.w) qs.length (PairRel qs) prs := ⟨lq.symm, fun i key v e => let ⟨q, e1, e2⟩ := (hqs i key v e).2.2; ⟨q, e1, e2⟩⟩
  have big : (s.heap.objs.size == sysModules) = false := beq_eq_false_iff_ne.mpr (Nat.ne_of_gt I.big)
  have lm : (mergeK [] kvs).length ≤ sizeLine := by
    refine Nat.le_trans (length_mergeK kvs []) ?_
    rw [List.length_nil, Nat.zero_add, rel.length, hl]
    exact hz
  have fin : ∀ (h' : Heap) (tk : Nat), h'.DictOf (mixKind X.prog X.w) s.heap.objs.size (merged [] prs) → (∀ b o, b ∉ ([] : List Addr) → s.heap.get? b = some o → h'.get? b = some o) → EP X pins σ Q (.ref s.heap.objs.size) { s with heap := h', toks := tk } := fun h' tk hd' kp =>
    ⟨.ref s.heap.objs.size, upd H s.heap.objs.size (.dK (mergeK [] kvs)), I.laid (t' := tk) (fun b o e => kp b o (by simp) e) (Nat.le_refl _) (show ObjOk X.prog X.w _ _ _ (.dK (mergeK [] kvs)) from ⟨lm, big, merged [] prs, KV.merge rel .nil, hd'⟩), rfl, q _ (I.hok.fresh (Nat.le_refl _))⟩
  rcases hT with rfl | rfl
  · exact PySem.call_dict_pairs (knd := mixKind X.prog X.w) (PairArg.list a _ (fun j => ps.getD j 0) qs) (I.ok.hd hcalm) ⟨pl, items⟩ have_ (by omega) fin
  · exact PySem.call_dict_pairs (knd := mixKind X.prog X.w) (PairArg.tuple a _ (fun j => ps.getD j 0) qs) (I.ok.hd hcalm) ⟨pl, items⟩ have_ (by omega) fin
def rDictC : List V → Hp → VK → Prop := fun xs H Q => ∃ a kvs, xs = [.ref a] ∧ Rd H a (.dK kvs) ∧ ∀ p, H p = none → Q (.ref p) (upd H p (.dK kvs))
theorem call_dictC : CallR X (.type "dict") rDictC := by
  intro pins s σ H xs us Q I r q
  obtain ⟨a, kvs, rfl, hq, q⟩ := q
  obtain ⟨u, rfl, rx⟩ := vals1 r
  cases (show u = Value.ref a from rx)
  exact d_copyOf I hq fun p s' hp I' => ⟨.ref p, _, I', rfl, q p hp⟩
def rDictX (K : PySem.W.Frag) : List V → Hp → VK → Prop := fun xs H Q => rDictP K xs H Q ∨ rDictC xs H Q
theorem call_dictX (hcalm : X.calm = true) : CallR X (.type "dict") (rDictX X.K) := (call_dictS hcalm).or call_dictC
end
def mergeD {α : Type} (ks more : List (Key × α)) : List (Key × α) := more.foldl (fun acc p => putD acc p.1 p.2) ks
/-- the pairs (key, value) of a sequence -/
def pairD (p : Key × D) : D := .tup [kD p.1, p.2]
def D.dict : D → Option (List (Key × D))
  | .dic ks => some ks
  | _ => none
section
variable {c : Cn} {δ : List Sl} {ta tb td ty tx : TE} {P : D → Prop}
theorem hasK_merge {K : PySem.W.Frag} {G : Hp} : ∀ {ms : List (Key × D)} {ws : List (Key × V)} {ks : List (Key × D)} {vs : List (Key × V)}, HasK K G ms ws → HasK K G ks vs → HasK K G (mergeD ks ms) (mergeK vs ws)
  | [], _, _, _, h, q => by unfold HasK at h; subst h; exact q
  | (k, d) :: ms, ws, ks, vs, h, q => by
    unfold HasK at h
    obtain ⟨v, r, rfl, h1, h2⟩ := h
    show HasK K G (mergeD (putD ks k d) ms) (mergeK (putK vs k v) r)
    exact hasK_merge h2 (q.put h1)
theorem has_pairs {K : PySem.W.Frag} {G : Hp} : ∀ {ms : List (Key × D)} {vs : List V}, HasL K G (ms.map pairD) vs → ∃ (ps : List Addr) (ws : List (Key × V)), vs = ps.map V.ref ∧ Paired (fun p kv => SqT K G p [kV kv.1, kv.2]) ps ws ∧ HasK K G ms ws
  | [], _, h => by rw [List.map_nil] at h; unfold HasL at h; subst h; exact ⟨[], [], rfl, .nil, hasK_nil⟩
  | (k, d) :: ms, vs, h => by
    rw [List.map_cons] at h
    unfold HasL at h
    obtain ⟨v, r, rfl, h1, h2⟩ := h
    obtain ⟨ps, ws, rfl, h3, h4⟩ := has_pairs h2
    unfold pairD Has at h1
    obtain ⟨a, us, rfl, h5, h6⟩ := h1
    unfold HasL at h6
    obtain ⟨x, xs, rfl, hx, h7⟩ := h6
    unfold HasL at h7
    obtain ⟨y, ys, rfl, hy, h8⟩ := h7
    unfold HasL at h8
    subst h8
    have ex : x = kV k := by
      cases k <;> unfold kD Has at hx <;> exact hx
    subst ex
    exact ⟨a :: ps, (k, y) :: ws, rfl, .cons h5.sq h3, hasK_cons hy h4⟩
theorem tupF_of {G H : Hp} (s : Sub c G H) {a : Addr} {vs : List V} (h : TupAt c.K G a vs) : TupF c.K H a vs := by
  rcases h with h | h
  · exact .inl (s.pl a _ (s.rd h))
  · exact .inr h
theorem dn_dict (h : DE c ta δ fun d => (∃ ms, D.seq d = some (ms.map pairD) ∧ P (.dic (mergeD [] ms))) ∨ ∃ ks, d = .dic ks ∧ P (.dic ks)) : DN c (tCB (rDictX c.K) (tCons ta tNil)) δ P :=
  dn_cb (F := fun as P => ∃ d, as = [.dat d] ∧ ((∃ ms, D.seq d = some (ms.map pairD) ∧ P (.dic (mergeD [] ms))) ∨ ∃ ks, d = .dic ks ∧ P (.dic ks))) (fun as vs G H Q P s ha f k => by
    obtain ⟨d, rfl, f⟩ := f
    obtain ⟨v, r, rfl, hv, hr⟩ := ha
    cases hr
    rcases f with ⟨ms, e, p⟩ | ⟨ks, rfl, p⟩
    · cases d <;> simp only [D.seq] at e <;> try contradiction
      case lst ys =>
        cases e
        unfold Has at hv
        obtain ⟨a, us, rfl, h1, h2⟩ := hv
        obtain ⟨ps, ws, rfl, h3, h4⟩ := has_pairs h2
        refine .inl ⟨a, ps, ws, rfl, .inl (s.ge _ _ h1), Paired.mapP h3 fun p q z => ?_, fun l hl => k _ l G _ p (Step.tmp s hl) hl (s.free hl) ⟨_, upd_same, hasK_merge h4 hasK_nil⟩⟩
        exact z.imp (s.ge _ _) id
      case tup ys =>
        cases e
        unfold Has at hv
        obtain ⟨a, us, rfl, h1, h2⟩ := hv
        obtain ⟨ps, ws, rfl, h3, h4⟩ := has_pairs h2
        refine .inl ⟨a, ps, ws, rfl, .inr (tupF_of s h1), Paired.mapP h3 fun p q z => ?_, fun l hl => k _ l G _ p (Step.tmp s hl) hl (s.free hl) ⟨_, upd_same, hasK_merge h4 hasK_nil⟩⟩
        exact z.imp (s.ge _ _) id
    · unfold Has at hv
      obtain ⟨a, ws, rfl, h1, h2⟩ := hv
      exact .inr ⟨a, ws, rfl, s.ge _ _ h1, fun l hl => k _ l G _ p (Step.tmp s hl) hl (s.free hl) ⟨_, upd_same, h2⟩⟩) (da_cons (h.imp fun d p => da_nil ⟨d, rfl, p⟩))

/-! ### sorted(d) of a dict with text keys -/
def rSortedDX : List V → Hp → VK → Prop := fun xs H Q => ∃ (a : Addr) (kvs : List (Key × V)) (ks : List Str), xs = [.ref a] ∧ Rd H a (.dK kvs) ∧ kvs.map (·.1) = ks.map Sum.inr ∧ ks.length < 64 ∧
    ∀ ys p, ys.Perm ks → PyProof.Rows.sortedS ys = true → H p = none → Q (.ref p) (upd H p (.lst (ys.map V.str)))
theorem call_sortedDX {X : Cx} (hcalm : X.calm = true) : CallR X (.builtin "sorted") rSortedDX := call_sortedD hcalm
theorem dn_sortedD (h : DE c ta δ fun d => ∃ (ks : List (Key × D)) (xs : List Str), d = .dic ks ∧ ks.map (·.1) = xs.map Sum.inr ∧ xs.length < 64 ∧ ∀ ys : List Str, ys.Perm xs → PyProof.Rows.sortedS ys = true → P (.lst (ys.map .str))) : DN c (tCB rSortedDX (tCons ta tNil)) δ P :=
  dn_cb (F := fun as P => ∃ (ks : List (Key × D)) (xs : List Str), as = [.dat (.dic ks)] ∧ ks.map (·.1) = xs.map Sum.inr ∧ xs.length < 64 ∧ ∀ ys : List Str, ys.Perm xs → PyProof.Rows.sortedS ys = true → P (.lst (ys.map .str))) (fun as vs G H Q P s ha f k => by
    obtain ⟨ks, xs, rfl, e, hl, p⟩ := f
    obtain ⟨v, r, rfl, hv, hr⟩ := ha
    cases hr
    unfold Has at hv
    obtain ⟨a, ws, rfl, h1, h2⟩ := hv
    exact ⟨a, ws, xs, rfl, s.ge _ _ h1, h2.keys.trans e, hl, fun ys q py sy hq => k _ q G _ (p ys py sy) (Step.tmp s hq) hq (s.free hq) ⟨_, upd_same, hasL_of_strs ys⟩⟩) (da_cons (h.imp fun d p => da_nil (let ⟨ks, xs, e, q⟩ := p; ⟨ks, xs, by rw [e], q⟩)))

/-! ### a + b of two new lists -/
theorem dn_cat {P : D → Prop} (h : DN c ta δ fun x => ∃ xs, x = .lst xs ∧ DN c tb δ fun y => ∃ ys, y = .lst ys ∧ xs.length + ys.length ≤ 1000 ∧ P (.lst (xs ++ ys))) : DN c (tOp rCat ta tb) δ P := fun G0 H0 G H σ Q b e k =>
  h G0 H0 G H σ _ b e fun x r1 G1 H1 px s1 hr1 gr1 o1 => by
    obtain ⟨xs, rfl, px⟩ := px
    obtain ⟨vs, h1, h2⟩ := o1
    refine px G0 H0 G1 H1 σ _ (b.next s1) (e.step b.iv s1) fun y r2 G2 H2 py s2 hr2 gr2 o2 => ?_
    obtain ⟨ys, rfl, hl, p⟩ := py
    obtain ⟨us, h3, h4⟩ := o2
    have h1' := s2.keep r1 _ (not_town b.sub.iv hr1) gr1 h1
    refine ⟨r1, r2, vs, us, rfl, rfl, h1', h3, ?_, fun q hq => ?_⟩
    · rw [h2.len, h4.len]; exact Nat.le_of_lt (small1000 hl)
    · have s12 := s1.trans s2
      exact k _ q G2 _ p (s12.trans (Step.tmp s12.sub hq)) (s12.back hq) (s12.sub.free hq) ⟨_, upd_same, (h2.mono s2.ge).app h4⟩

/-! ### a if t else b, new -/
theorem dn_if {tt : TT} (h : DT c tt δ fun b => if b = true then DN c ta δ P else DN c tb δ P) : DN c (tIf tt ta tb) δ P := fun G0 H0 G H σ Q b e k =>
  h G0 H0 G H σ _ b e fun x G1 H1 p s1 => by
    cases x with
    | true => simp only [if_true] at p ⊢; exact p G0 H0 G1 H1 σ Q (b.next s1) (e.step b.iv s1) fun d r G2 H2 pd s2 hr gr od => k d r G2 H2 pd (s1.trans s2) (s1.back hr) gr od
    | false => simp only [Bool.false_eq_true, if_false] at p ⊢; exact p G0 H0 G1 H1 σ Q (b.next s1) (e.step b.iv s1) fun d r G2 H2 pd s2 hr gr od => k d r G2 H2 pd (s1.trans s2) (s1.back hr) gr od

/-! ### an own dict or list is changed -/
variable {R : Out → Prop}
/-- d[k] = v -/
theorem ds_dput {i : Nat} {ks : List (Key × D)} (hi : δ[i]? = some (.own (.dic ks))) (hl : ks.length ≤ 1000) (h : DE c tx δ fun v => DE c ty δ fun k => ∃ x, k = .str x ∧ R (.nx (δ.set i (.own (.dic (putD ks (.inr x) v)))))) : DS c (sDPut (tVar i) ty tx) δ R := fun G0 H0 G H σ Dn b e k =>
  h G0 H0 G H σ _ b e fun v vv G1 H1 p1 s1 hv => by
    obtain ⟨r, h1, h2, h3, ws, h4, h5⟩ := e.own i _ hi
    refine ⟨.ref r, h1, p1 G0 H0 G1 H1 σ _ (b.next s1) (e.step b.iv s1) fun kd kv G2 H2 p2 s2 hk => ?_⟩
    obtain ⟨x, rfl, p2⟩ := p2
    unfold Has at hk
    subst hk
    have s12 := s1.trans s2
    have nt := not_town b.iv h2
    have h6 := s12.keep r _ nt h3 h4
    have g6 := s12.fr r (by rw [h4]; exact fun z => nomatch z) h3
    refine ⟨r, _, rfl, DPut.k (k := .inr x) h6 (by rw [h5.len]; exact small1000 hl), ?_⟩
    have b2 := (b.next s12).mut (o := .dK (putK ws (.inr x) vv)) h2 g6
    have e2 := (e.step b.iv s12).mutOwn (o := .dK (putK ws (.inr x) vv)) (d' := .dic (putD ks (.inr x) v)) hi h1 ⟨_, upd_same, (h5.mono s12.ge).put (hv.mono s2.ge)⟩
    exact k (.nx _) G2 _ p2 b2.st (s12.lat.trans (Lat.mut fun o u z => by rw [h6] at z; cases z)) σ e2
/-- d.pop(k, None) -/
theorem ds_dpop2 {i : Nat} {ks : List (Key × D)} (hi : δ[i]? = some (.own (.dic ks))) (h : DE c ty δ fun k => DE c tx δ fun _ => ∃ x, k = .str x ∧ R (.nx (δ.set i (.own (.dic (dropD ks (.inr x))))))) : DS c (tDrop (tDPop2 (tVar i) ty tx)) δ R := fun G0 H0 G H σ Dn b e k => by
  obtain ⟨r, h1, h2, h3, ws, h4, h5⟩ := e.own i _ hi
  refine ⟨.ref r, h1, r, rfl, isD_of (.inl h4), h G0 H0 G H σ _ b e fun kd kv G1 H1 p1 s1 hk => p1 G0 H0 G1 H1 σ _ (b.next s1) (e.step b.iv s1) fun z zv G2 H2 p2 s2 hz => ?_⟩
  obtain ⟨x, rfl, p2⟩ := p2
  unfold Has at hk
  subst hk
  have s12 := s1.trans s2
  have nt := not_town b.iv h2
  have h6 := s12.keep r _ nt h3 h4
  have g6 := s12.fr r (by rw [h4]; exact fun z => nomatch z) h3
  have h7 := h5.mono s12.ge
  refine ⟨ws, .inr x, h6, rfl, fun w hw => ?_, fun hw => ?_⟩
  · have b2 := (b.next s12).mut (o := .dK (dropK ws (.inr x))) h2 g6
    have e2 := (e.step b.iv s12).mutOwn (o := .dK (dropK ws (.inr x))) (d' := .dic (dropD ks (.inr x))) hi h1 ⟨_, upd_same, h7.drop⟩
    exact k (.nx _) G2 _ p2 b2.st (s12.lat.trans (Lat.mut fun o u z => by rw [h6] at z; cases z)) σ e2
  · have en : dropD ks (.inr x) = ks := by
      have hn : look ks (.inr x) = none := by
        rcases h7.look (.inr x) with ⟨n, _⟩ | ⟨d, v, n, n2, _⟩
        · exact n
        · rw [hw] at n2; cases n2
      unfold dropD
      refine List.filter_eq_self.mpr fun q hq => decide_eq_true fun z => ?_
      exact look_none.mp hn (List.mem_map.mpr ⟨q, hq, z⟩)
    rw [en] at p2
    have ed : δ.set i (.own (.dic ks)) = δ := by
      have hlt := (List.getElem?_eq_some_iff.mp hi).1
      have hge := (List.getElem?_eq_some_iff.mp hi).2
      rw [← hge, List.set_getElem_self]
    rw [ed] at p2
    exact k (.nx δ) G2 H2 p2 (b.next s12).st s12.lat σ (e.step b.iv s12)
/-- d.pop(k), the key is there -/
theorem ds_dpop1 {i : Nat} {ks : List (Key × D)} (hi : δ[i]? = some (.own (.dic ks))) (h : DE c ty δ fun k => ∃ x, k = .str x ∧ (look ks (.inr x)).isSome = true ∧ R (.nx (δ.set i (.own (.dic (dropD ks (.inr x))))))) : DS c (tDrop (tDPop1 (tVar i) ty)) δ R := fun G0 H0 G H σ Dn b e k => by
  obtain ⟨r, h1, h2, h3, ws, h4, h5⟩ := e.own i _ hi
  refine ⟨.ref r, h1, r, rfl, isD_of (.inl h4), h G0 H0 G H σ _ b e fun kd kv G2 H2 p2 s12 hk => ?_⟩
  obtain ⟨x, rfl, hx, p2⟩ := p2
  unfold Has at hk
  subst hk
  have nt := not_town b.iv h2
  have h6 := s12.keep r _ nt h3 h4
  have g6 := s12.fr r (by rw [h4]; exact fun z => nomatch z) h3
  have h7 := h5.mono s12.ge
  rcases h7.look (.inr x) with ⟨n, _⟩ | ⟨d, v, n, n2, _⟩
  · rw [n] at hx; cases hx
  · refine ⟨ws, .inr x, v, h6, rfl, n2, ?_⟩
    have b2 := (b.next s12).mut (o := .dK (dropK ws (.inr x))) h2 g6
    have e2 := (e.step b.iv s12).mutOwn (o := .dK (dropK ws (.inr x))) (d' := .dic (dropD ks (.inr x))) hi h1 ⟨_, upd_same, h7.drop⟩
    exact k (.nx _) G2 _ p2 b2.st (s12.lat.trans (Lat.mut fun o u z => by rw [h6] at z; cases z)) σ e2
/-- xs.append(e) -/
theorem ds_append {i : Nat} {xs : List D} (hi : δ[i]? = some (.own (.lst xs))) (hl : xs.length ≤ 1000) (h : DE c tx δ fun v => R (.nx (δ.set i (.own (.lst (xs ++ [v])))))) : DS c (tDrop (tBM c.K "list" rAppend (tVar i) (tCons tx tNil))) δ R := fun G0 H0 G H σ Dn b e k => by
  obtain ⟨r, h1, h2, h3, ws, h4, h5⟩ := e.own i _ hi
  refine ⟨.ref r, h1, .inl ⟨rfl, ws, SqL.of h4⟩, h G0 H0 G H σ _ b e fun v vv G2 H2 p2 s12 hv => ?_⟩
  have nt := not_town b.iv h2
  have h6 := s12.keep r _ nt h3 h4
  have g6 := s12.fr r (by rw [h4]; exact fun z => nomatch z) h3
  refine ⟨r, ws, vv, rfl, rfl, h6, by rw [h5.len]; exact small1000 hl, ?_⟩
  have b2 := (b.next s12).mut (o := .lst (ws ++ [vv])) h2 g6
  have e2 := (e.step b.iv s12).mutOwn (o := .lst (ws ++ [vv])) (d' := .lst (xs ++ [v])) hi h1 ⟨_, upd_same, (h5.mono s12.ge).snoc hv⟩
  exact k (.nx _) G2 _ p2 b2.st (s12.lat.trans (Lat.mut fun o u z => by rw [h6] at z; cases z)) σ e2
/-- xs.extend(ys), ys a new list -/
theorem ds_extend {i : Nat} {xs : List D} (hi : δ[i]? = some (.own (.lst xs))) (h : DN c tx δ fun v => ∃ ys, v = .lst ys ∧ xs.length + ys.length ≤ 1000 ∧ R (.nx (δ.set i (.own (.lst (xs ++ ys)))))) : DS c (tDrop (tBM c.K "list" rExtend (tVar i) (tCons tx tNil))) δ R := fun G0 H0 G H σ Dn b e k => by
  obtain ⟨r, h1, h2, h3, ws, h4, h5⟩ := e.own i _ hi
  refine ⟨.ref r, h1, .inl ⟨rfl, ws, SqL.of h4⟩, h G0 H0 G H σ _ b e fun v r2 G2 H2 p2 s12 hr2 gr2 o2 => ?_⟩
  obtain ⟨ys, rfl, hl, p2⟩ := p2
  obtain ⟨us, h7, h8⟩ := o2
  have nt := not_town b.iv h2
  have h6 := s12.keep r _ nt h3 h4
  have g6 := s12.fr r (by rw [h4]; exact fun z => nomatch z) h3
  refine ⟨r, r2, ws, us, rfl, rfl, h6, h7, by rw [h5.len, h8.len]; exact Nat.le_of_lt (small1000 hl), ?_⟩
  have b2 := (b.next s12).mut (o := .lst (ws ++ us)) h2 g6
  have e2 := (e.step b.iv s12).mutOwn (o := .lst (ws ++ us)) (d' := .lst (xs ++ ys)) hi h1 ⟨_, upd_same, (h5.mono s12.ge).app h8⟩
  exact k (.nx _) G2 _ p2 b2.st (s12.lat.trans (Lat.mut fun o u z => by rw [h6] at z; cases z)) σ e2
theorem ds_never (h : False) : DS c tNever δ R := h.elim
/-- a, b = x, y -/
theorem ds_par {i j : Nat} (h : DE c ta δ fun x => DE c tb δ fun y => R (.nx ((δ.set i (.dat x)).set j (.dat y)))) : DS c (tPar i j (tCons ta (tCons tb tNil))) δ R := fun G0 H0 G H σ Dn b e k =>
  h G0 H0 G H σ _ b e fun x v G1 H1 px s1 hx => px G0 H0 G1 H1 σ _ (b.next s1) (e.step b.iv s1) fun y u G2 H2 py s2 hy =>
    ⟨v, u, rfl, k (.nx _) G2 H2 py (b.st.trans (s1.trans s2)) (s1.trans s2).lat _ (((e.step b.iv (s1.trans s2)).setDat (hx.mono s2.ge)).setDat hy)⟩
/-- a, b = x, y, both new -/
theorem ds_parN {i j : Nat} (hij : i ≠ j) (h : DN c ta δ fun x => DN c tb δ fun y => R (.nx ((δ.set i (.own x)).set j (.own y)))) : DS c (tPar i j (tCons ta (tCons tb tNil))) δ R := fun G0 H0 G H σ Dn b e k =>
  h G0 H0 G H σ _ b e fun x r1 G1 H1 px s1 hr1 gr1 o1 => px G0 H0 G1 H1 σ _ (b.next s1) (e.step b.iv s1) fun y r2 G2 H2 py s2 hr2 gr2 o2 => by
    refine ⟨.ref r1, .ref r2, rfl, ?_⟩
    have s12 := s1.trans s2
    have n12 : r1 ≠ r2 := by rintro rfl; exact o1.there hr2
    have kp : H2 r1 = H1 r1 := by
      cases q : H1 r1 with
      | none => exact absurd q o1.there
      | some w => exact s2.keep r1 w (not_town b.sub.iv hr1) gr1 q
    have o1' : OwnAt c.K G2 H2 r1 x := o1.mono s2.ge kp
    have e2 := e.step b.iv s12
    have f1 := e2.setOwn (i := i) (b.st.back hr1) (s2.fr r1 o1.there gr1) o1' fun q x' ne hq z => by
      obtain ⟨r', g1, g2, g3, g4⟩ := e.own q x' hq
      rw [g1] at z; cases z
      exact g4.there hr1
    have f2 := f1.setOwn (i := j) (b.st.back (s1.back hr2)) gr2 o2 fun q x' ne hq z => by
      rcases get_set hq with ⟨rfl, _, hl⟩ | ⟨nq, hq'⟩
      · rw [List.getElem?_set_self (by rw [e.len]; exact hl)] at z; cases z; exact n12 rfl
      · rw [List.getElem?_set_ne (Ne.symm nq)] at z
        obtain ⟨r', g1, g2, g3, g4⟩ := e.own q x' hq'
        rw [g1] at z; cases z
        exact g4.there (s1.back hr2)
    exact k (.nx _) G2 H2 py (b.st.trans s12) s12.lat _ f2
end
end Mp

set_option Elab.async false
set_option linter.all false
set_option maxRecDepth 100000
set_option maxHeartbeats 4000000
namespace Mp
open PySem L2

/-! ### a def of the text, by the reading of its body -/
/-- the slots at the entry -/
def slots (N : List Str) (ds : List D) : List Sl := ds.map .dat ++ List.replicate (N.length - ds.length) .un
/-- the body gives d -/
def Gives (d : D) : Out → Prop
  | .rt e => e = d
  | .nx _ => d = .non
  | _ => False
theorem has_start {c : Cn} {G : Hp} : ∀ {ds : List D} {vs : List V}, HasL c.K G ds vs → ∀ (i : Nat) (d : D), (ds.map Sl.dat)[i]? = some (.dat d) → ∃ v, vs[i]? = some v ∧ Has c.K G d v := fun {ds vs} h i d e => by
  rw [List.getElem?_map] at e
  cases q : ds[i]? with
  | none => rw [q] at e; cases e
  | some x => rw [q] at e; cases e; exact h.get q
theorem env_start {c : Cn} {G H : Hp} {N : List Str} {ds : List D} {vs : List V} (h : HasL c.K G ds vs) (hl : ds.length ≤ N.length) : EnvOk c H G H (L2.start N vs) (slots N ds) := by
  have hv := h.len
  have low : ∀ (i : Nat) (x : Sl), (slots N ds)[i]? = some x → (i < ds.length ∧ (ds.map Sl.dat)[i]? = some x) ∨ x = .un := fun i x e => by
    unfold slots at e
    by_cases hi : i < ds.length
    · rw [List.getElem?_append_left (by simpa using hi)] at e; exact .inl ⟨hi, e⟩
    · rw [List.getElem?_append_right (by simpa using hi), List.getElem?_replicate] at e
      split at e
      · cases e; exact .inr rfl
      · cases e
  have isdat : ∀ (i : Nat) (x : Sl), (ds.map Sl.dat)[i]? = some x → ∃ d, x = .dat d := fun i x e => by
    rw [List.getElem?_map] at e
    cases q : ds[i]? with
    | none => rw [q] at e; cases e
    | some y => rw [q] at e; cases e; exact ⟨y, rfl⟩
  refine ⟨by unfold L2.start slots; simp; omega, fun i d e => ?_, fun i d e => ?_, fun i v e => ?_, fun i j d e r _ p => ?_⟩
  · rcases low i _ e with ⟨hi, e⟩ | z
    · obtain ⟨v, e1, hv'⟩ := has_start h i d e
      refine ⟨v, ?_, hv'⟩
      unfold L2.start
      rw [List.getElem?_append_left (by rw [List.length_map, hv]; exact hi), List.getElem?_map, e1]; rfl
    · cases z
  · rcases low i _ e with ⟨hi, e⟩ | z
    · obtain ⟨d', z⟩ := isdat i _ e; cases z
    · cases z
  · rcases low i _ e with ⟨hi, e⟩ | z
    · obtain ⟨d', z⟩ := isdat i _ e; cases z
    · cases z
  · rcases low i _ p with ⟨hi, e⟩ | z
    · obtain ⟨d', z⟩ := isdat i _ e; cases z
    · cases z
/-- a pure body keeps its promise -/
theorem pure_body {K : PySem.W.Frag} {N : List Str} {R : List D → D → Prop} {t : TS} (hl : ∀ ds d, R ds d → ds.length ≤ N.length) (h : ∀ ds d, R ds d → DS ⟨K, none⟩ t (slots N ds) (Gives d)) {vs : List V} {H : Hp} {Q : VK} {E : XK} (q : SpP K R vs H Q E) :
    t { nx := fun _ H' => Q .non H', rt := Q } (L2.start N vs) H := by
  obtain ⟨G, ds, d, s, hv, r, k⟩ := q
  refine h ds d r G H G H (L2.start N vs) _ ⟨s, .refl s⟩ (env_start hv (hl ds d r)) fun o G' H' p st _ => ?_
  cases o with
  | rt e => exact fun v hv => k v G' H' st (by cases (show e = d from p); exact hv)
  | nx δ => exact fun σ _ => k .non G' H' st (by cases (show d = .non from p); unfold Has; rfl)
  | bk δ => exact (show False from p).elim
  | ct δ => exact (show False from p).elim
section
variable {P : Program} {w : World} {K : PySem.W.Frag} {mg : Str → Option Value} {base : Heap}
/-- a def of the text as the head's facts tell it -/
abbrev FnP (K : PySem.W.Frag) (x : Str) (st : Stmt) (f : Addr) (fd : FuncData) : Prop := FunD K x x (defArgs st) (defBody st) (defScope st) [] [] f fd
theorem FnP.pure {x : Str} {st : Stmt} {f : Addr} {fd : FuncData} {N ps : List Str} {k : Nat} {R : List D → D → Prop} {t : TS} (F : FnP K x st f fd) (S : FnScope N ps (defScope st)) (hl : ∀ ds d, R ds d → ds.length = ps.length)
    (h : ∀ ds d, R ds d → DS ⟨K, none⟩ t (slots N ds) (Gives d))
    (hb : ∀ (cdv : Value) (A : Around) (outer : List Env) (s : Shared) (H : Hp) (E : XK), Room k (A.deeper (PyProof.Rows.envOfC x (defScope st) s.heap.objs.size f cdv)) → PSs (cxOf CX0 P w K mg base N x (defScope st) f cdv A outer s H E).nox (defBody st) t) :
    FnOk P w K mg base CX0 (k + 1) f fd ps (SpP K R) := by
  have hN : ps.length ≤ N.length := by have := congrArg List.length S.pre; rw [List.length_take] at this; omega
  refine F.ok S (fun vs H Q E q => ?_) fun cdv A outer s H vs Q E hr q => ⟨t, PSs.nox (hb cdv A outer s H E hr), pure_body (fun ds d r => by rw [hl ds d r]; exact hN) h q⟩
  obtain ⟨G, ds, d, _, hv, r, _⟩ := q
  rw [hv.len, hl ds d r]
end

/-! ### what a caller knows of a def -/
structure Cl (P : Program) (w : World) (K : PySem.W.Frag) (mg : Str → Option Value) (base : Heap) (x : Str) (k : Nat) (sp : Sp) : Prop where
  ex : ∃ (f : Addr) (fd : FuncData) (ps : List Str), FnOk P w K mg base CX0 k f fd ps sp ∧ Binds K fd ps [] ∧ PySem.W.keepIn K (.ref f) = true ∧ mg x = some (.ref f)
section
variable {P : Program} {w : World} {K : PySem.W.Frag} {mg : Str → Option Value} {base : Heap}
theorem Cl.mono {x : Str} {j k : Nat} {sp : Sp} (C : Cl P w K mg base x j sp) (h : j ≤ k) : Cl P w K mg base x k sp :=
  let ⟨f, fd, ps, F, r⟩ := C.ex
  ⟨f, fd, ps, F.mono h, r⟩
theorem Cl.imp {x : Str} {k : Nat} {sp sp' : Sp} (C : Cl P w K mg base x k sp) (h : ∀ vs H Q E, sp' vs H Q E → sp vs H Q E) : Cl P w K mg base x k sp' :=
  let ⟨f, fd, ps, F, r⟩ := C.ex
  ⟨f, fd, ps, F.imp h, r⟩
/-- nothing can be asked -/
theorem Cl.none {x : Str} {k : Nat} {sp sp' : Sp} {k' : Nat} (F : ∃ (f : Addr) (fd : FuncData) (ps : List Str), Binds K fd ps [] ∧ PySem.W.keepIn K (.ref f) = true ∧ mg x = some (.ref f)) (no : ∀ vs H Q E, ¬ sp vs H Q E) : Cl P w K mg base x k sp :=
  let ⟨f, fd, ps, r⟩ := F
  ⟨f, fd, ps, ⟨fun vs H Q E h => absurd h (no vs H Q E), fun A outer s H args us vs Q E _ _ _ _ h => absurd h (no vs H Q E)⟩, r⟩
end
section
variable {X : Cx} {k : Nat} {sp : Sp} {x : Str} {p pos : Pos} {e : Expr} {es : List Expr} {t : TA}
theorem pe_cl (C : Cl X.prog X.w X.K X.mg X.base x k sp) (hr : Room k X.A) (hg : Gl X x) (ha : PA X (e :: es) t) (hdb : (x == ("__debug__" : Str)) = false := by decide)
    (he : starEach (e :: es) X.env = (false, eval e X.env) :: starEach es X.env := by rfl) (hpl : (backTo pos (starEach es X.env)).any (·.1) = false := by rfl) : PE X (.Call (.Name x p) (e :: es) [] pos) (tCall sp [] E0 t) := by
  obtain ⟨f, fd, ps, F, b, kp, m⟩ := C.ex
  exact pe_call F hr hg m kp b .nil pass0 ha hdb he hpl
theorem pe_cl0 (C : Cl X.prog X.w X.K X.mg X.base x k sp) (hr : Room k X.A) (hg : Gl X x) (hdb : (x == ("__debug__" : Str)) = false := by decide) : PE X (.Call (.Name x p) [] [] pos) (tCall sp [] E0 tNil) := by
  obtain ⟨f, fd, ps, F, b, kp, m⟩ := C.ex
  exact pe_call0 F hr hg m kp b .nil pass0 hdb
theorem pe_gint {i : Int} (hg : Gl X x) (h : ∃ tk, X.mg x = some (.int i tk)) (hd : (x == ("__debug__" : Str)) = false := by decide) : PE X (.Name x pos) (tC (.int i)) :=
  let ⟨tk, h⟩ := h
  pe_glob hg h ⟨tk, rfl⟩ hd
theorem pe_gstr {i : Str} (hg : Gl X x) (h : ∃ tk, X.mg x = some (.str i tk)) (hd : (x == ("__debug__" : Str)) = false := by decide) : PE X (.Name x pos) (tC (.str i)) :=
  let ⟨tk, h⟩ := h
  pe_glob hg h ⟨tk, rfl⟩ hd
theorem pe_gref {a : Addr} (hg : Gl X x) (h : X.mg x = some (.ref a)) (hd : (x == ("__debug__" : Str)) = false := by decide) : PE X (.Name x pos) (tC (.ref a)) := pe_glob hg h rfl hd
theorem pe_gty {T : String} (hg : Gl X x) (hm : X.mg x = none) (hv : bootBuiltins x = some (.type T)) (hn : x ≠ "__name__" := by decide) (hd : (x == ("__debug__" : Str)) = false := by decide) : PE X (.Name x pos) (tC (.ty T)) := pe_bltn hg hm hv rfl hn hd
open PyProof.Rows in
/-- name = {k: v for ..} on one line, the name a local -/
theorem ps_setDc {i : Nat} {y : Str} {py : Pos} {kx vx tg iter : Expr} {ifs : List Expr} {scope : Scope} {own : List (Str × Nat)} {pos spos : Pos} {wi : TI} {g : TG} {tt : TT} {tk tv : TE} (hc : X.calm = true) (hN : X.N.Nodup) (hy : X.N[i]? = some y) (hyl : X.env.scope.names.lookup y = some .local)
    (hsw : swapsWith (.DictComp kx vx [⟨tg, iter, ifs, 0⟩] scope pos) (some (.Name y py)) spos.line X.env = pure true) (hi : PI X tg iter wi) (ok : BlkOk X.N X.env.scope scope own)
    (hg : ∀ (s : Shared) (H : Hp) (C : Addr) (cl : List (Str × Addr)) (fp : List Addr), PG (X.blk s H scope (compEnvC scope cl C X.env) fp) tg g) (ht : ∀ (s : Shared) (H : Hp) (C : Addr) (cl : List (Str × Addr)) (fp : List Addr), PTs (X.blk s H scope (compEnvC scope cl C X.env) fp) ifs tt)
    (hk : ∀ (s : Shared) (H : Hp) (C : Addr) (cl : List (Str × Addr)) (fp : List Addr), PE (X.blk s H scope (compEnvC scope cl C X.env) fp) kx tk)
    (he : ∀ (s : Shared) (H : Hp) (C : Addr) (cl : List (Str × Addr)) (fp : List Addr), PE (X.blk s H scope (compEnvC scope cl C X.env) fp) vx tv) (hs : ∀ x, foldedSetIterable iter X.env x = pure x := by intro _; rfl) :
    PS X (.Assign [.Name y py] (.DictComp kx vx [⟨tg, iter, ifs, 0⟩] scope pos) spos) (tAsg (tDc wi g tt tk tv (own.map (·.2))) (gName i)) := by
  refine ⟨fun pins s σ H D I h => ?_⟩
  rw [exec_Assign_Name_used _ _ _ _ hsw]
  refine wpAny_bind (wpAny_standAt (wpAny_bind ?_))
  show wpAny _ X.A (do let _ ← comprehension (.DictComp kx vx [⟨tg, iter, ifs, 0⟩] scope pos) scope X.env (firstIterPos [⟨tg, iter, ifs, 0⟩] pos) newDict false (eval iter X.env) (some (assign (.Name y py) X.env))) _ _ s
  have h : tDc wi g tt tk tv (own.map (·.2)) σ H (fun x H1 => gName i x σ H1 D.nx) := h
  refine wpAny_bind (thn (dc_core (Qf := fun _ s' => SP X pins D .next s') hc hN I hi ok hg ht hk he hs h fun L C s' m H' I' q hn f => ?_) fun _ s' hq => wpAny_pure (wpAny_pure hq))
  show wpAny _ _ (assign (.Name y py) X.env (.ref L)) _ _ _
  refine wpAny_assign_Name (store_ok2 (v := V.ref L) I' hN hy (.inl hyl) rfl (fun s2 I2 ⟨a, sb, ha⟩ => ?_) (.inr hyl))
  obtain ⟨f0, f1, f2, f3, f4, f5⟩ := f
  have ne : C ≠ a := by
    rcases ha with z | z
    · rw [z]; exact f1
    · exact fun e => f4 y a z e.symm
  refine ⟨m, hn.sameBut sb ne, fun h3 sb3 => ?_⟩
  exact ⟨_, H', I2.turned (t' := s2.toks) (fun b o hb e => (sb3.2 b hb).trans e) f0 f1 f3 f4 f5, q⟩
end
theorem swD_true {kx vx : Expr} {gs : List Comprehension} {scope : Scope} {pos py : Pos} {y : Str} {l : Nat} {env : Env} (hk : env.scope.kind = .function) (hy : env.scope.names.lookup y = some .local) (hl : (py.line == pos.line) = true)
    (hn : (scope.names.any fun (n, k) => n == y && (k == .local || k == .cell)) = false) : swapsWith (.DictComp kx vx gs scope pos) (some (.Name y py)) l env = pure true := by
  have k1 : env.kindOf y = some .local := hy
  have k2 : env.blockKind = .function := by unfold Env.blockKind; rw [hk]; rfl
  unfold swapsWith
  simp only [k2, k1, hn, Expr.pos, hl]
  rfl
end Mp

set_option Elab.async false
set_option linter.all false
set_option maxRecDepth 100000
set_option maxHeartbeats 4000000
namespace Mp
open PySem L2 PyProof.Rows

/-! ### enumerate(xs): the pairs known to their objects -/
def IteF (K : PySem.W.Frag) (a : Addr) : It :=
  ⟨fun i H => ∃ (zs : List V) (z : V), SqL K H a zs ∧ zs[i]? = some z, fun i H v H' => ∃ T z o, v = .ref T ∧ H T = none ∧ o.dict = none ∧ H' = upd H T (.frz o (.tup [.int (i : Nat), z])) ∧ ∀ zs, SqL K H a zs → zs[i]? = some z, fun i H => ∃ zs : List V, SqL K H a zs ∧ zs.length ≤ i⟩
theorem turn_enumF {P : Program} {w : World} {K : PySem.W.Frag} {elts : List Expr} {kk : Nat} {tpos : Pos} (a e it : Addr) :
    Turn P w K (.Tuple elts kk tpos) (IteF K a) [e, it] e (fun n hp => (∃ old, IsEnum hp e it ((n : Nat) : Int) old) ∧ hp.IsListIter it a n ∧ e ≠ it) where
  mem := by simp
  obj := fun n hp st b hb => by
    obtain ⟨⟨old, hen⟩, ⟨o, ho, hcl, hdt⟩, _⟩ := st
    have eb : b = e ∨ b = it := by simpa using hb
    rcases eb with z | z
    · rw [z]; exact ⟨_, hen, fun v q => nomatch q⟩
    · rw [z]; exact ⟨o, ho, fun v q => by rw [hdt] at q; cases q⟩
  keep := fun n hp hp' st k => let ⟨⟨old, hen⟩, hi, hne⟩ := st; ⟨⟨old, k e (by simp) _ hen⟩, hi.at fun o q => k it (by simp) o q, hne⟩
  item := by
    intro X hP hw hK hcm n pins s σ H E I hf st hgo
    subst hP hw hK
    obtain ⟨⟨old, hen⟩, hit, hne⟩ := st
    obtain ⟨zs, z, hsq, hz1⟩ := hgo
    obtain ⟨its, rvs, pl, hsl⟩ := I.list hsq
    obtain ⟨u, hu, ru⟩ := rvs.get hz1
    have hlt1 : e < s.heap.objs.size := Heap.lt_size hen
    have hlt2 : it < s.heap.objs.size := by obtain ⟨_, q, _⟩ := hit; exact Heap.lt_size q
    refine wpAny_pyNext_enum_item hen hit pl.isList (x := u) (by simpa using hu) hne fun h1 ho hit' hT hsz hk => ?_
    refine ⟨_, rfl, wpAny_letOwnedTupleGo_enum (s := { s with heap := h1, toks := s.toks + 1 }) ho fun h2 he2 sb => ?_⟩
    have hT2 : h2.get? s.heap.objs.size = some { cls := .type "tuple", data := .seq #[.int n s.toks, u] } := (sb.2 _ (Nat.ne_of_gt hlt1)).trans hT
    have newo : ObjOk X.prog X.w (upd H s.heap.objs.size (.frz { cls := .type "tuple", data := .seq #[.int n s.toks, u] } (.tup [.int (n : Nat), z]))) h2 s.heap.objs.size (.frz { cls := .type "tuple", data := .seq #[.int n s.toks, u] } (.tup [.int (n : Nat), z])) :=
      ⟨hT2, by show 2 ≤ sizeLine; decide, [.int n s.toks, u], .cons ⟨_, rfl⟩ (.cons ru .nil), ⟨_, hT2, rfl, _, rfl⟩⟩
    have I1 : Inv X pins σ (upd H s.heap.objs.size (.frz { cls := .type "tuple", data := .seq #[.int n s.toks, u] } (.tup [.int (n : Nat), z]))) { s with heap := h2, toks := s.toks + 1 } :=
      I.turnedNew (ch := [e, it]) (fun b ob hb q => (sb.2 b (fun z => hb (by simp [z]))).trans (hk b ob (fun z => hb (by simp [z])) (fun z => hb (by simp [z])) q)) hf (Nat.le_refl _) newo
    refine ⟨.ref s.heap.objs.size, _, I1, rfl, ⟨_, z, _, rfl, I.hok.fresh (Nat.le_refl _), rfl, rfl, fun ys hy => by rw [I.list_inj hy hsq]; exact hz1⟩, ⟨⟨u, ?_⟩, hit'.at fun o q => (sb.2 it (Ne.symm hne)).trans q, hne⟩, fun b hb => ?_⟩
    · have e1 : ((n + 1 : Nat) : Int) = (n : Int) + 1 := by omega
      rw [e1]; exact he2
    · have hb' : b < s.heap.objs.size := by
        have eb : b = e ∨ b = it := by simpa using hb
        rcases eb with z | z
        · rw [z]; exact hlt1
        · rw [z]; exact hlt2
      rw [upd_ne (Nat.ne_of_lt hb')]
      exact (hf b hb).1
  done := by
    intro X hP hw hK hcm n pins s σ H E I hf st hgo
    subst hP hw hK
    obtain ⟨⟨old, hen⟩, hit, hne⟩ := st
    obtain ⟨zs, hsq, hz1⟩ := hgo
    obtain ⟨its, rvs, pl, hsl⟩ := I.list hsq
    obtain ⟨f0, f1, f2, f3, f4, f5⟩ := hf it (by simp)
    have hln := rvs.length
    exact wpAny_pyNext_enum_end (I.ok.hd hcm) hen hit pl.isList (by simp; omega) fun h1 eb => ⟨rfl, I.turned (t' := s.toks) (fun b o hb q => eb b o hb q) f0 f1 f3 f4 f5⟩
  self := fun A n s Q E st h => let ⟨⟨_, hen⟩, _⟩ := st; wpAny_pyIter_enum hen h
def iEnumF (K : PySem.W.Frag) (ta : TA) : TI := fun σ H R => ta σ H fun us H1 => ∃ a zs, us = [.ref a] ∧ SqL K H1 a zs ∧ R (IteF K a) H1
theorem pi_enumF {X : Cx} {e : Expr} {ta : TA} {p pos tpos : Pos} {elts : List Expr} {kk : Nat} (hg : Gl X "enumerate") (hm : X.mg "enumerate" = none) (ha : PA X [e] ta) (hs : starEach [e] X.env = [(false, eval e X.env)] := by rfl) :
    PI X (.Tuple elts kk tpos) (.Call (.Name "enumerate" p) [e] [] pos) (iEnumF X.K ta) := by
  refine ⟨fun pins s σ H R I h => ?_⟩
  refine Call_ (ld_blt I hg hm boot_enumerate (PyProof.Rows.callWith_type1 (thn (ha.run pos pins s σ H _ I h) fun us s1 ⟨vs, H1, I1, r1, q1⟩ => ?_) hs rfl))
  obtain ⟨a, zs, ex, hsq, q⟩ := q1
  subst ex
  cases r1 with
  | cons r rr =>
    cases rr
    cases r
    obtain ⟨its, rvs, pl, hsl⟩ := I1.list hsq
    refine call_enumerate_list pl.isList fun h1 hen hit hsz hk => wpAny_pyIter_enum hen ?_
    have I2 : Inv X pins σ H1 { s1 with heap := h1 } := I1.kept (t' := s1.toks) hk
    refine ⟨s1.heap.objs.size + 1, [s1.heap.objs.size + 1, s1.heap.objs.size], _, _, H1, rfl, I2, turn_enumF a (s1.heap.objs.size + 1) s1.heap.objs.size, ⟨⟨.none, hen⟩, hit, Nat.succ_ne_self _⟩, fun b hb => ?_, q⟩
    have eb : b = s1.heap.objs.size + 1 ∨ b = s1.heap.objs.size := by simpa using hb
    have hle : s1.heap.objs.size ≤ b := by
      rcases eb with z | z
      · rw [z]; exact Nat.le_add_right _ _
      · rw [z]; exact Nat.le_refl _
    exact I1.fpOk hle (I1.hok.fresh hle)
section
variable {c : Cn} {δ : List Sl} {ta tb : TE}
theorem wk_enum {G H : Hp} {a : Addr} {xs : List D} {vs : List V} (hr : Rd G a (.lst vs)) (hl : HasL c.K G xs vs) : Wk c (IteF c.K a) (xs.zipIdx.map fun p => .tup [.int (p.2 : Nat), p.1]) G H where
  go := fun G1 H1 i s l hi => by
    have hi : i < xs.length := by simpa using hi
    obtain ⟨v, e, _⟩ := hl.get (i := i) (d := xs[i]) (by simp [hi])
    exact ⟨vs, v, .inl (s.ge _ _ (l.ge _ _ hr)), e⟩
  stop := fun G1 H1 s l => ⟨vs, .inl (s.ge _ _ (l.ge _ _ hr)), by rw [hl.len]; simp⟩
  yld := fun G1 H1 i x H2 s l hi y => by
    obtain ⟨T, z, o, rfl, hT, ho, rfl, y⟩ := y
    have e := y vs (.inl (s.ge _ _ (l.ge _ _ hr)))
    obtain ⟨d, e1, hd⟩ := hl.get' e
    refine ⟨upd G1 T (.tup [.int (i : Nat), z]), Step.new s hT ⟨o, upd_same, ho⟩, .tup [.int (i : Nat), d], ?_, has_tup (s.free hT) ?_⟩
    · rw [List.getElem?_map, List.getElem?_zipIdx, e1]; simp
    · unfold HasL
      refine ⟨_, _, rfl, by unfold Has; rfl, ?_⟩
      unfold HasL
      refine ⟨_, _, rfl, hd.mono l.ge, ?_⟩
      unfold HasL; rfl
theorem di_enum {P : List D → Prop} (h : DE c ta δ fun d => ∃ xs, d = .lst xs ∧ P (xs.zipIdx.map fun p => .tup [.int (p.2 : Nat), p.1])) : DI c (iEnumF c.K (tCons ta tNil)) δ P := fun G0 H0 G H σ R b e k =>
  h G0 H0 G H σ _ b e fun d v G1 H1 p s hv => by
    obtain ⟨xs, rfl, p⟩ := p
    unfold Has at hv
    obtain ⟨a, vs, rfl, hr, hl⟩ := hv
    exact ⟨a, vs, rfl, .inl (s.sub.ge _ _ hr), k _ _ G1 H1 p s (wk_enum hr hl)⟩
end

/-! ### sorted(xs), pairs of ints -/
/-- in order: by the first, then by the second -/
def leP (p q : Int × Int) : Prop := SrtO.lexB q p = false
def rSortPF (K : PySem.W.Frag) : List V → Hp → VK → Prop := fun us H Q => ∃ (a : Addr) (zs : List V) (ps : List (Int × Int)), us = [V.ref a] ∧ SqL K H a zs ∧ zs.length = ps.length ∧ (∀ p ∈ zs.zip ps, ∃ t, p.1 = V.ref t ∧ SqT K H t [.int p.2.1, .int p.2.2]) ∧
  ∀ (m : List (V × (Int × Int))) (p : Addr), m.Perm (zs.zip ps) → (m.map (·.2)).Pairwise leP → H p = none → Q (.ref p) (upd H p (.lst (m.map (·.1))))
theorem call_sortPF {X : Cx} : CallR X (.builtin "sorted") (rSortPF X.K) := by
  intro pins s σ H us vs Q I r h
  obtain ⟨a, zs, ps, rfl, hsq, hlen, hz1, q⟩ := h
  obtain ⟨its, rvs, hls, hsl⟩ := I.list hsq
  obtain ⟨u, rfl, ru⟩ := vals1 r
  obtain rfl : u = Value.ref a := ru
  obtain ⟨f, hf⟩ : ∃ f : V → Int × Int, ∀ t p, SqT X.K H t [.int p.1, .int p.2] → f (.ref t) = p := by
    classical
    refine ⟨fun z => if g : ∃ t p, z = V.ref t ∧ SqT X.K H t [.int (Prod.fst p : Int), .int (Prod.snd p)] then Classical.choose (Classical.choose_spec g) else (0, 0), fun t p ht => ?_⟩
    have g : ∃ t' p', V.ref t = V.ref t' ∧ SqT X.K H t' [.int (Prod.fst p' : Int), .int (Prod.snd p')] := ⟨t, p, rfl, ht⟩
    simp only [dif_pos g]
    obtain ⟨e, h2⟩ := Classical.choose_spec (Classical.choose_spec g)
    have e' := V.ref.inj e
    have ht' : SqT X.K H (Classical.choose g) [.int p.1, .int p.2] := e' ▸ ht
    have := I.tuple_inj h2 ht'
    simp only [List.cons.injEq, V.int.injEq, and_true] at this
    exact Prod.ext this.1 this.2
  have hzip : zs.zip ps = zs.map fun z => (z, f z) := by
    refine List.ext_getElem (by simp [hlen]) fun n h1 h2 => ?_
    have hm : (zs.zip ps)[n] ∈ zs.zip ps := List.getElem_mem h1
    obtain ⟨t, e, ht⟩ := hz1 _ hm
    have := hf t _ ht
    rw [List.getElem_zip] at e this ⊢
    simp only at e this
    rw [List.getElem_map, e, this]
  have hz2 : ∀ z ∈ zs, ∃ t, z = V.ref t ∧ SqT X.K H t [.int (f z).1, .int (f z).2] := fun z hz => by
    have : (z, f z) ∈ zs.zip ps := by rw [hzip]; exact List.mem_map.mpr ⟨z, hz, rfl⟩
    exact hz1 _ this
  obtain ⟨e1, e2⟩ := refs_back rvs fun z m => by
    obtain ⟨t, e, _⟩ := hz2 z m
    exact ⟨t, e⟩
  refine SrtO.sorted_pairsO (k := fun u => f (backV u)) hls.isList (by rw [← rvs.length]; exact hsl) (fun v hv => ?_) fun h1 d out so st kp hd hn => ?_
  · obtain ⟨t, rfl⟩ := e2 v hv
    have hm : V.ref t ∈ zs := by rw [e1]; exact List.mem_map.mpr ⟨_, hv, rfl⟩
    obtain ⟨t', e, ht⟩ := hz2 _ hm
    cases e
    obtain ⟨its2, r2, ⟨o, ho, hc, n, hd⟩, _⟩ := I.tuple ht
    obtain ⟨u1, u2, rfl, ri, rj⟩ := vals2 r2
    obtain ⟨t1, rfl⟩ := ri
    obtain ⟨t2, rfl⟩ := rj
    exact ⟨t, o, t1, t2, n, rfl, ho, hc, hd⟩
  · have h3 : ∀ u ∈ out, ∃ a, u = Value.ref a := fun u hu => e2 u (st.perm.mem_iff.mp hu)
    obtain ⟨n, hn⟩ := hn
    have hp : (out.map backV).Perm zs := by rw [e1]; exact st.perm.map _
    have hm := q ((out.map backV).map fun z => (z, f z)) d (by rw [hzip]; exact hp.map _) (by
      rw [List.map_map, List.map_map]; exact List.pairwise_map.mpr so) (I.hok.fresh hd)
    rw [List.map_map, show ((fun x : V × (Int × Int) => x.1) ∘ fun z => (z, f z)) = id from rfl, List.map_id] at hm
    refine ⟨.ref d, upd H d (.lst (out.map backV)), I.laid (t' := s.toks) kp hd ⟨?_, out, n, vals_back h3, hn⟩, rfl, hm⟩
    rw [hp.length_eq]
    exact hsl
section
variable {c : Cn} {δ : List Sl} {ta tb : TE} {P : D → Prop}
def pairI (p : Int × Int) : D := .tup [.int p.1, .int p.2]
theorem hasL_zip {K : PySem.W.Frag} {G : Hp} : ∀ {ps : List (Int × Int)} {vs : List V}, HasL K G (ps.map pairI) vs → vs.length = ps.length ∧ ∀ p ∈ vs.zip ps, Has K G (pairI p.2) p.1
  | [], vs, h => by unfold List.map HasL at h; subst h; exact ⟨rfl, fun p hp => by cases hp⟩
  | q :: ps, vs, h => by
    rw [List.map_cons] at h
    unfold HasL at h
    obtain ⟨v, r, rfl, hv, hr⟩ := h
    obtain ⟨h1, h2⟩ := hasL_zip hr
    refine ⟨by simp [h1], fun p hp => ?_⟩
    rcases List.mem_cons.mp hp with e | hp
    · subst e; exact hv
    · exact h2 p hp
theorem hasL_of {K : PySem.W.Frag} {G : Hp} : ∀ {m : List (V × (Int × Int))}, (∀ p ∈ m, Has K G (pairI p.2) p.1) → HasL K G (m.map fun p => pairI p.2) (m.map (·.1))
  | [], _ => by unfold List.map HasL; rfl
  | q :: m, h => by
    rw [List.map_cons, List.map_cons]
    unfold HasL
    exact ⟨_, _, rfl, h q List.mem_cons_self, hasL_of fun p hp => h p (List.mem_cons_of_mem _ hp)⟩
theorem dn_sortP (h : DE c ta δ fun d => ∃ ps : List (Int × Int), d = .lst (ps.map pairI) ∧ ∀ qs : List (Int × Int), qs.Perm ps → qs.Pairwise leP → P (.lst (qs.map pairI))) : DN c (tCB (rSortPF c.K) (tCons ta tNil)) δ P :=
  dn_cb (F := fun as P => ∃ ps : List (Int × Int), as = [.dat (.lst (ps.map pairI))] ∧ ∀ qs : List (Int × Int), qs.Perm ps → qs.Pairwise leP → P (.lst (qs.map pairI))) (fun as vs G H Q P s ha f k => by
    obtain ⟨ps, rfl, p⟩ := f
    obtain ⟨v, r, rfl, hv, hr⟩ := ha
    cases hr
    unfold Has at hv
    obtain ⟨a, zs, rfl, hr, hl⟩ := hv
    obtain ⟨hlen, hz⟩ := hasL_zip hl
    refine ⟨a, zs, ps, rfl, .inl (s.ge _ _ hr), hlen, fun p hp => ?_, fun m q hm hs hq => ?_⟩
    · have := hz p hp
      unfold pairI Has at this
      obtain ⟨t, us, e, ht, hl⟩ := this
      refine ⟨t, e, ?_⟩
      unfold HasL HasL HasL at hl
      obtain ⟨v1, r1, rfl, h1, v2, r2, rfl, h2, rfl⟩ := hl
      unfold Has at h1 h2
      subst h1; subst h2
      exact (s.ge.tup ht).sq
    · have hp2 : (m.map (·.2)).Perm ps := by
        have := hm.map (·.2)
        rwa [List.map_snd_zip (by rw [hlen]; exact Nat.le_refl _)] at this
      refine k _ q G _ (p _ hp2 hs) (Step.tmp s hq) hq (s.free hq) ⟨_, upd_same, ?_⟩
      rw [List.map_map]
      exact hasL_of fun p hp => hz p (hm.mem_iff.mp hp)) (da_cons (h.imp fun d ⟨ps, e, p⟩ => da_nil ⟨ps, by rw [e], p⟩))
end
end Mp

set_option Elab.async false
set_option linter.all false
set_option maxRecDepth 100000
set_option maxHeartbeats 4000000
namespace Mp
open PySem L2 PyProof.Rows

/-! ### xs[i] += v, the reading -/
def rGetL (K : PySem.W.Frag) : V → V → Hp → VK → Prop := fun o i H Q => ∃ p zs k z, o = .ref p ∧ i = .int k ∧ 0 ≤ k ∧ SqL K H p zs ∧ atI zs k = some z ∧ Q z H
theorem get_list {X : Cx} : PGet X (rGetL X.K) := by
  intro pins s σ H o i ov iv Q I ro ri h
  obtain ⟨p, zs, k, z, rfl, rfl, h0, hsq, he, q⟩ := h
  cases ro
  obtain ⟨t, rfl⟩ := ri
  obtain ⟨its, r, pl, hz⟩ := I.list hsq
  obtain ⟨j, h1, h2, h3, h4, h5⟩ := atI_get he
  obtain ⟨u, eu, ru⟩ := r.get h2
  have hj : k.toNat = j := by
    rw [seqIndex_of h0 h5] at h1
    exact Option.some.inj h1
  have hn := line63
  exact wpAny_getItem_list pl.isList h0 (by omega) (by rw [hj]; simpa using eu) ⟨z, H, I, ru, q⟩

/-! ### * of ints of any size that the machine takes -/
def MulOk (i j : Int) : Prop := CMul i j ∨ CMulW i j
theorem op_mulX {X : Cx} : OpR X (binaryOp .Mult) (rI (fun i j => MulOk i j) fun i j => .int (i * j)) := opI fun _ _ _ _ _ _ _ hc q => mul_int q (hc.elim CMul.ok CMulW.ok)

section
variable {c : Cn} {δ : List Sl} {ta tb : TE} {P : D → Prop}
/-! ### is True, is not True -/
theorem de_isB (h : DE c ta δ fun x => DE c tb δ fun y => ∃ a b, x = .bl a ∧ y = .bl b ∧ P (.bl (decide (a = b)))) : DE c (tOp rIsB ta tb) δ P :=
  de_op (F := fun x y P => ∃ a b, x = .bl a ∧ y = .bl b ∧ P (.bl (decide (a = b)))) (fun x y v u G H Q P s hx hy q k => by
    obtain ⟨a, b, rfl, rfl, p⟩ := q
    unfold Has at hx hy
    exact ⟨a, b, hx, hy, k _ _ G H p (.refl s) (by unfold Has; rfl)⟩) h
theorem de_notB (h : DE c ta δ fun x => DE c tb δ fun y => ∃ a b, x = .bl a ∧ y = .bl b ∧ P (.bl (!decide (a = b)))) : DE c (tOp rNotB ta tb) δ P :=
  de_op (F := fun x y P => ∃ a b, x = .bl a ∧ y = .bl b ∧ P (.bl (!decide (a = b)))) (fun x y v u G H Q P s hx hy q k => by
    obtain ⟨a, b, rfl, rfl, p⟩ := q
    unfold Has at hx hy
    exact ⟨a, b, hx, hy, k _ _ G H p (.refl s) (by unfold Has; rfl)⟩) h
/-! ### xs[:n] -/
def cutD (xs : List D) (lo hi : Option Int) : List D := (xs.drop (HT.sIx xs.length 0 lo)).take (HT.sIx xs.length xs.length hi - HT.sIx xs.length 0 lo)
theorem HasL.drop {K : PySem.W.Frag} {G : Hp} : ∀ {xs : List D} {vs : List V} (n : Nat), HasL K G xs vs → HasL K G (xs.drop n) (vs.drop n)
  | xs, vs, 0, h => h
  | [], vs, n + 1, h => by unfold HasL at h; subst h; unfold List.drop HasL; rfl
  | x :: xs, vs, n + 1, h => by
    unfold HasL at h
    obtain ⟨v, r, rfl, _, hr⟩ := h
    exact HasL.drop n hr
theorem HasL.take {K : PySem.W.Frag} {G : Hp} : ∀ {xs : List D} {vs : List V} (n : Nat), HasL K G xs vs → HasL K G (xs.take n) (vs.take n)
  | xs, vs, 0, h => by unfold List.take HasL; rfl
  | [], vs, n + 1, h => by unfold HasL at h; subst h; unfold List.take HasL; rfl
  | x :: xs, vs, n + 1, h => by
    unfold HasL at h
    obtain ⟨v, r, rfl, hv, hr⟩ := h
    rw [List.take_succ_cons, List.take_succ_cons]
    unfold HasL
    exact ⟨v, _, rfl, hv, HasL.take n hr⟩
theorem HasL.cut {K : PySem.W.Frag} {G : Hp} {xs : List D} {vs : List V} (h : HasL K G xs vs) (lo hi : Option Int) : HasL K G (cutD xs lo hi) (cutV vs lo hi) := by
  unfold cutD cutV
  rw [h.len]
  exact (h.drop _).take _
/-- a part of a slice, a number or nothing -/
def DO (c : Cn) (t : TO) (δ : List Sl) (P : Option Int → Prop) : Prop :=
  ∀ (G0 H0 G H : Hp) (σ : L2.St) (Q : Option Int → Hp → Prop), Bs c G0 H0 G H → EnvOk c H0 G H σ δ → (∀ i G' H', P i → Step c G H G' H' → Q i H') → t σ H Q
theorem do_none {P : Option Int → Prop} (p : P none) : DO c tNoPart δ P := fun G0 H0 G H σ Q b e k => k none G H p (.refl b.sub)
theorem do_some {P : Option Int → Prop} (h : DE c ta δ fun d => ∃ i, d = .int i ∧ P (some i)) : DO c (tPart ta) δ P := fun G0 H0 G H σ Q b e k =>
  h G0 H0 G H σ _ b e fun d v G1 H1 p s hv => by
    obtain ⟨i, rfl, p⟩ := p
    unfold Has at hv
    exact ⟨i, hv, k (some i) G1 H1 p s⟩
theorem dn_slL {tl th : TO} (h : DE c ta δ fun d => ∃ xs, d = .lst xs ∧ DO c tl δ fun lo => DO c th δ fun hi => P (.lst (cutD xs lo hi))) : DN c (tSl (rSlL c.K) ta tl th) δ P := fun G0 H0 G H σ Q b e k =>
  h G0 H0 G H σ _ b e fun d v G1 H1 p s1 hv => by
    obtain ⟨xs, rfl, p⟩ := p
    refine p G0 H0 G1 H1 σ _ (b.next s1) (e.step b.iv s1) fun lo G2 H2 p s2 => ?_
    have s12 := s1.trans s2
    refine p G0 H0 G2 H2 σ _ (b.next s12) (e.step b.iv s12) fun hi G3 H3 p s3 => ?_
    have s13 := s12.trans s3
    have hv3 := (hv.mono s2.ge).mono s3.ge
    unfold Has at hv3
    obtain ⟨a, vs, rfl, hr, hl⟩ := hv3
    refine ⟨a, vs, rfl, .inl (s3.sub.ge _ _ hr), fun q hq => ?_⟩
    exact k _ q G3 _ p (s13.trans (Step.tmp s13.sub hq)) (s13.back hq) (s13.sub.free hq) ⟨_, upd_same, hl.cut lo hi⟩
/-! ### {k: v, ..} -/
def DPs (c : Cn) (trs : List (TE × TE)) (δ : List Sl) (P : List (Key × D) → Prop) : Prop :=
  ∀ (G0 H0 G H : Hp) (σ : L2.St) (Q : List (V × V) → Hp → Prop), Bs c G0 H0 G H → EnvOk c H0 G H σ δ → (∀ ks ws G' H', P ks → Step c G H G' H' → HasK c.K G' ks ws → Q (ws.map fun kv => (kV kv.1, kv.2)) H') → tPairs trs σ H Q
theorem dps_nil {P : List (Key × D) → Prop} (p : P []) : DPs c [] δ P := fun G0 H0 G H σ Q b e k => k [] [] G H p (.refl b.sub) (by unfold HasK; rfl)
theorem dps_cons {trs : List (TE × TE)} {P : List (Key × D) → Prop} (h : DE c ta δ fun x => DE c tb δ fun y => ∃ k : Key, x = kD k ∧ DPs c trs δ fun ks => P ((k, y) :: ks)) : DPs c ((ta, tb) :: trs) δ P := fun G0 H0 G H σ Q b e k =>
  h G0 H0 G H σ _ b e fun x v G1 H1 px s1 hx => px G0 H0 G1 H1 σ _ (b.next s1) (e.step b.iv s1) fun y u G2 H2 py s2 hy => by
    obtain ⟨kk, rfl, p⟩ := py
    have s12 := s1.trans s2
    refine p G0 H0 G2 H2 σ _ (b.next s12) (e.step b.iv s12) fun ks ws G3 H3 p s3 hk => ?_
    have ev : v = kV kk := by cases kk <;> unfold kD Has at hx <;> exact hx
    subst ev
    exact k ((kk, y) :: ks) ((kk, u) :: ws) G3 H3 p (s12.trans s3) (by unfold HasK; exact ⟨_, _, rfl, hy.mono s3.ge, hk⟩)
theorem dn_disp {trs : List (TE × TE)} (h : DPs c trs δ fun ks => ks.length ≤ 15 ∧ P (.dic (mergeD [] ks))) : DN c (tDisp trs) δ P := fun G0 H0 G H σ Q b e k => fun q hq => by
  have st := Step.tmp (o := .dK []) b.sub hq
  refine h G0 H0 G _ σ _ (b.next st) (e.step b.iv st) fun ks ws G1 H1 p s1 hk => ?_
  have nt : ¬ c.T q := not_town b.sub.iv hq
  have hg := b.sub.free hq
  have h1 := s1.keep q _ nt hg upd_same
  have g1 := s1.fr q (by rw [upd_same]; exact fun z => nomatch z) hg
  refine ⟨h1, ws, rfl, by rw [hk.len]; exact p.1, ?_⟩
  refine k _ q G1 _ p.2 ((st.trans s1).grow hq g1 b.sub) hq g1 ⟨_, upd_same, hasK_merge hk (by unfold HasK; rfl)⟩
end
end Mp

set_option Elab.async false
set_option linter.all false
set_option maxRecDepth 100000
set_option maxHeartbeats 4000000
namespace Mp
open PySem L2 PyProof.Rows
/-! ### script == [] -/
def rEqS (K : PySem.W.Frag) : R2 := fun x y H Q => ∃ a b ns, x = .ref a ∧ y = .ref b ∧ SqL K H a (List.map V.int ns) ∧ SqL K H b [] ∧ Q (.bl ns.isEmpty) H
theorem repL_ints {P : Program} {w : World} {h : Heap} : ∀ {ns : List Int} {us : List Value}, Vals (ns.map V.int) us → RepL P w h (ns.map D.int) us
  | [], us, r => by cases r; unfold List.map RepL; rfl
  | n :: ns, us, r => by
    rw [List.map_cons] at r
    cases r with
    | cons r1 r2 => rw [List.map_cons]; unfold RepL; exact ⟨_, _, rfl, by unfold Rep; exact r1, repL_ints r2⟩
theorem deep_ints : ∀ ns : List Int, D.deepL (ns.map D.int) = 0
  | [] => by rw [List.map_nil, D.deepL]
  | n :: ns => by rw [List.map_cons, D.deepL, deep_ints ns]; rfl
theorem op_eqS {X : Cx} (hu : X.A.units + 64 < cLine) : OpR X (compareOp .Eq) (rEqS X.K) := by
  intro pins s σ H x y v u Q I rx ry h
  obtain ⟨a, b, ns, rfl, rfl, ha, hb, q⟩ := h
  obtain ⟨its, r1, p1, _⟩ := I.list ha
  obtain ⟨its2, r2, p2, _⟩ := I.list hb
  have h1 : Rep X.prog X.w s.heap (.lst (ns.map D.int)) v := by unfold Rep; exact ⟨a, its, rx, p1.isList, repL_ints r1⟩
  have h2 : Rep X.prog X.w s.heap (.lst []) u := by unfold Rep; exact ⟨b, its2, ry, p2.isList, by cases r2; unfold RepL; rfl⟩
  have hd : D.deep (.lst (ns.map D.int)) ≤ 1 := by
    rw [D.deep]
    have := deep_ints ns
    omega
  have e : D.eqv (.lst (ns.map D.int)) (.lst []) = ns.isEmpty := by
    rw [D.eqv]
    cases ns <;> simp [D.eqvL]
  refine rcEq _ _ v u X.A (by unfold DepthOk; omega) h1 h2 _ _ ⟨.bl _, H, I, rfl, ?_⟩
  rw [e]; exact q
end Mp

set_option Elab.async false
set_option linter.all false
set_option maxRecDepth 100000
set_option maxHeartbeats 4000000
namespace Mp
open PySem L2 PyProof.Rows
/-! ### d.update(e) -/
def rUpdD : V → List V → Hp → VK → Prop := fun x vs H Q => ∃ a b ka kb, x = .ref a ∧ vs = [.ref b] ∧ a ≠ b ∧ H a = some (.dK ka) ∧ Rd H b (.dK kb) ∧ ka.length + kb.length ≤ sizeLine ∧ Q .non (upd H a (.dK (mergeK ka kb)))
theorem mt_dupdate {X : Cx} : MtM X "dict.update" rUpdD := by
  intro pins s σ H x vs v us Q I rx rv h
  obtain ⟨a, b, ka, kb, rfl, rfl, hne, hH, hB, hz, q⟩ := h
  cases rx
  obtain ⟨u, rfl, ru⟩ := rv.one
  cases ru
  obtain ⟨z, hd, vs, rel, dd⟩ := dk_of I.hok hH
  obtain ⟨z2, hd2, vs2, rel2, dd2⟩ := dk_rd I.hok hB
  refine call_meetsIn PySem.F.slot_dict_update dd.typeIs PySem.F.entry_dict_update (PySem.F.args_dict_update_2 _ _) (meets_dict_update (mixKind X.prog X.w) a b hne hd2) ⟨vs, vs2, dd, dd2, by rw [← rel.length, ← rel2.length]; exact hz, fun h' dd' _ hs => ?_⟩
  have he : ∃ q, h'.get? a = some q := let ⟨q, _, _, hq, _⟩ := dd'; ⟨q, hq⟩
  exact ⟨.non, _, d_write I (by rw [hH]; exact True.intro) hs he (dk_new (Nat.le_trans (length_mergeK kb ka) hz) hd (rel2.merge rel) dd'), rfl, q⟩
section
variable {c : Cn} {δ : List Sl} {ta tb td ty tx : TE} {P : D → Prop} {R : Out → Prop}
theorem ds_update {i : Nat} {ks : List (Key × D)} (hi : δ[i]? = some (.own (.dic ks))) (h : DE c tx δ fun v => ∃ ms, v = .dic ms ∧ ks.length + ms.length ≤ 1000 ∧ R (.nx (δ.set i (.own (.dic (mergeD ks ms)))))) : DS c (tDrop (tBM c.K "dict" rUpdD (tVar i) (tCons tx tNil))) δ R := fun G0 H0 G H σ Dn b e k => by
  obtain ⟨r, h1, h2, h3, ws, h4, h5⟩ := e.own i _ hi
  refine ⟨.ref r, h1, .inr (.inr (.inl ⟨rfl, .inl ⟨ws, h4⟩⟩)), h G0 H0 G H σ _ b e fun v vv G2 H2 p2 s12 hv => ?_⟩
  obtain ⟨ms, rfl, hl, p2⟩ := p2
  unfold Has at hv
  obtain ⟨b2, us, rfl, hr2, hk2⟩ := hv
  have nt := not_town b.iv h2
  have h6 := s12.keep r _ nt h3 h4
  have g6 := s12.fr r (by rw [h4]; exact fun z => nomatch z) h3
  have b' := b.next s12
  have hne : r ≠ b2 := by rintro rfl; rw [b'.sub.rd hr2] at g6; cases g6
  refine ⟨r, b2, ws, us, rfl, rfl, hne, h6, b'.sub.ge _ _ hr2, by rw [h5.len, hk2.len]; exact Nat.le_of_lt (small1000 hl), ?_⟩
  have bb := b'.mut (o := .dK (mergeK ws us)) h2 g6
  have e2 := (e.step b.iv s12).mutOwn (o := .dK (mergeK ws us)) (d' := .dic (mergeD ks ms)) hi h1 ⟨_, upd_same, hasK_merge hk2 (h5.mono s12.ge)⟩
  exact k (.nx _) G2 _ p2 bb.st (s12.lat.trans (Lat.mut fun o u z => by rw [h6] at z; cases z)) σ e2
/-- a, b, c = x, y, z; the last one new -/
theorem ds_par3 {i j l : Nat} (hl : l ≠ i) (hl' : l ≠ j) {t1 t2 t3 : TE} (h : DE c t1 δ fun x => DE c t2 δ fun y => DN c t3 δ fun z => R (.nx (((δ.set i (.dat x)).set j (.dat y)).set l (.own z)))) : DS c (tPar3 i j l (tCons t1 (tCons t2 (tCons t3 tNil)))) δ R := fun G0 H0 G H σ Dn b e k =>
  h G0 H0 G H σ _ b e fun x v G1 H1 px s1 hx => px G0 H0 G1 H1 σ _ (b.next s1) (e.step b.iv s1) fun y u G2 H2 py s2 hy => py G0 H0 G2 H2 σ _ ((b.next s1).next s2) ((e.step b.iv s1).step b.iv s2) fun z r G3 H3 pz s3 hr gr o => by
    have s13 := (s1.trans s2).trans s3
    have e3 := (((e.step b.iv s13).setDat (i := i) (hx.mono (s2.trans s3).ge)).setDat (i := j) (hy.mono s3.ge))
    have hr0 : H0 r = none := (b.st.trans (s1.trans s2)).back hr
    have e2 := (((e.step b.iv (s1.trans s2)).setDat (i := i) (hx.mono s2.ge)).setDat (i := j) hy)
    refine ⟨v, u, .ref r, rfl, k (.nx _) G3 H3 pz (b.st.trans s13) s13.lat _ (e3.setOwn hr0 gr o fun m x hm hx' hc => ?_)⟩
    obtain ⟨q, hq, _, _, ho⟩ := e2.own m x hx'
    rw [hq] at hc
    cases hc
    exact ho.there hr
/-- a text and another -/
theorem de_addS (h : DE c ta δ fun x => DE c tb δ fun y => ∃ i j, x = .str i ∧ y = .str j ∧ i.length + j.length ≤ 1000 ∧ P (.str (i ++ j))) : DE c (tOp rAddS ta tb) δ P :=
  de_op (F := fun x y P => ∃ i j, x = .str i ∧ y = .str j ∧ i.length + j.length ≤ 1000 ∧ P (.str (i ++ j))) (dop_val fun x y v u G H P Q s hx hy f k => by
    obtain ⟨i, j, rfl, rfl, hl, p⟩ := f
    unfold Has at hx hy
    subst hx; subst hy
    exact ⟨i, j, rfl, rfl, Nat.le_of_lt (small1000 hl), k _ _ p (by unfold Has; rfl)⟩) h
theorem op_addS {X : Cx} : OpR X (binaryOp .Add) rAddS := op_add_str
end
section
variable {c : Cn} {δ : List Sl} {wi wi1 : TI}
def noOwn (δ : List Sl) : Bool := δ.all fun s => match s with | .own _ => false | _ => true
theorem noOwn_of {δ : List Sl} (h : noOwn δ = true) {m : Nat} {d : D} (e : δ[m]? = some (.own d)) : False := by
  have := List.all_eq_true.mp h _ (List.mem_of_getElem? e)
  cases this
theorem dn_lc2 {g g1 : TG} {tt tt1 : TT} {te : TE} {vs vs1 js js1 : List Nat} {P : D → Prop} (hjs : ∀ j, j ∈ js → j ∈ vs) (hjs1 : ∀ j, j ∈ js1 → j ∈ vs1) (h : DI c wi δ fun xs => ∃ W : Nat → List D → Prop, W 0 [] ∧
    (∀ (i : Nat) (d : D) (acc : List D), xs[i]? = some d → W i acc → DG c g js (wipeD δ vs) d fun δ2 => noOwn δ2 = true ∧ DT c tt δ2 fun b => if b = true then
      DI c wi1 δ2 (fun ys => ∃ W1 : Nat → List D → Prop, W1 0 acc ∧ (∀ j acc, W1 j acc → acc.length ≤ 1000) ∧
        (∀ (j : Nat) (e : D) (acc : List D), ys[j]? = some e → W1 j acc → DG c g1 js1 (wipeD δ2 vs1) e fun δ3 => DT c tt1 δ3 fun b => if b = true then DE c te δ3 fun y => W1 (j + 1) (acc ++ [y]) else W1 (j + 1) acc) ∧
        ∀ acc, W1 ys.length acc → W (i + 1) acc)
      else W (i + 1) acc) ∧
    ∀ acc, W xs.length acc → P (.lst acc)) : DN c (tLc2 wi g tt wi1 g1 tt1 te vs vs1) δ P := fun G0 H0 G H σ Q b e k =>
  h G0 H0 G H σ _ b e fun xs J G1 H1 p s wk => by
    obtain ⟨W, w0, turn, done⟩ := p
    intro r hr
    have hr0 : H r = none := s.back hr
    have st0 := s.trans (Step.tmp (o := .lst []) s.sub hr)
    have nt : ¬ c.T r := not_town b.sub.iv hr0
    refine ⟨fun i m H' => ∃ acc avs G', m = xs.length - i ∧ i ≤ xs.length ∧ W i acc ∧ Step c G H G' H' ∧ Lat G1 H1 G' H' ∧ H' r = some (.lst avs) ∧ HasL c.K G' acc avs ∧ G' r = none,
      ⟨xs.length, [], [], G1, by simp, Nat.zero_le _, w0, st0, (Step.tmp (o := .lst []) s.sub hr).lat, upd_same, hasL_nil, s.sub.free hr⟩, ?_⟩
    rintro i m H' ⟨acc, avs, G', rfl, hi, w, st, l', hD, ha, gr⟩
    have b' : Bs c G0 H0 G' H' := b.next st
    have e' := e.step b.iv st
    by_cases hlt : i < xs.length
    · refine .inr ⟨wk.go G' H' i b'.sub l' hlt, fun H2 => ∃ m', m' < xs.length - i ∧ ∃ acc avs G', m' = xs.length - (i + 1) ∧ i + 1 ≤ xs.length ∧ W (i + 1) acc ∧ Step c G H G' H2 ∧ Lat G1 H1 G' H2 ∧ H2 r = some (.lst avs) ∧ HasL c.K G' acc avs ∧ G' r = none,
        fun _ z => z, fun x H2 y => ?_⟩
      obtain ⟨G2, s2, d, hd, hx⟩ := wk.yld G' H' i x H2 b'.sub l' hlt y
      have hr' : H' r ≠ none := by rw [hD]; exact fun z => nomatch z
      refine turn i d acc hd w G0 H0 G2 H2 (L2.wipe σ vs) x _ (b'.next s2) ((e'.wipe vs).step b'.iv s2) hx fun δ3 σ3 p3 e3 k3 l3 => ?_
      obtain ⟨no3, p3⟩ := p3
      refine ⟨wipe_same l3 k3 hjs, p3 G0 H0 G2 H2 σ3 _ (b'.next s2) e3 fun bb G3 H3 p4 s3 => ?_⟩
      have s23 := s2.trans s3
      have b3 : Bs c G0 H0 G3 H3 := (b'.next s2).next s3
      have e33 := e3.step b.iv s3
      cases bb with
      | true =>
        simp only [if_true] at p4 ⊢
        refine p4 G0 H0 G3 H3 σ3 _ b3 e33 fun ys J1 G4 H4 pp s4 wk1 => ?_
        obtain ⟨W1, v0, vlen, turn1, done1⟩ := pp
        have s24 := s23.trans s4
        have b4 := b3.next s4
        refine ⟨fun j m H' => ∃ acc avs G', m = ys.length - j ∧ j ≤ ys.length ∧ W1 j acc ∧ Step c G H G' H' ∧ Lat G1 H1 G' H' ∧ Lat G4 H4 G' H' ∧ EnvOk c H0 G' H' σ3 δ3 ∧ H' r = some (.lst avs) ∧ HasL c.K G' acc avs ∧ G' r = none,
          ⟨ys.length, acc, avs, G4, by simp, Nat.zero_le _, v0, st.trans s24, l'.trans s24.lat, Lat.refl _ _, e33.step b.iv s4, s24.keep r _ nt gr hD, ha.mono s24.ge, s24.fr r hr' gr⟩, ?_⟩
        rintro j m H5 ⟨acc5, avs5, G5, rfl, hj, w5, st5, l5, l45, e5, hD5, ha5, gr5⟩
        have b5 : Bs c G0 H0 G5 H5 := b.next st5
        have hr5 : H5 r ≠ none := by rw [hD5]; exact fun z => nomatch z
        by_cases hlt1 : j < ys.length
        · refine .inr ⟨wk1.go G5 H5 j b5.sub l45 hlt1, fun H2 => ∃ m', m' < ys.length - j ∧ ∃ acc avs G', m' = ys.length - (j + 1) ∧ j + 1 ≤ ys.length ∧ W1 (j + 1) acc ∧ Step c G H G' H2 ∧ Lat G1 H1 G' H2 ∧ Lat G4 H4 G' H2 ∧ EnvOk c H0 G' H2 σ3 δ3 ∧ H2 r = some (.lst avs) ∧ HasL c.K G' acc avs ∧ G' r = none,
            fun _ z => z, fun x5 H6 y5 => ?_⟩
          obtain ⟨G6, s6, d6, hd6, hx6⟩ := wk1.yld G5 H5 j x5 H6 b5.sub l45 hlt1 y5
          refine turn1 j d6 acc5 hd6 w5 G0 H0 G6 H6 (L2.wipe σ3 vs1) x5 _ (b5.next s6) ((e5.wipe vs1).step b5.iv s6) hx6 fun δ7 σ7 p7 e7 k7 l7 => ?_
          refine ⟨wipe_same l7 k7 hjs1, p7 G0 H0 G6 H6 σ7 _ (b5.next s6) e7 fun bb G7 H7 p8 s7 => ?_⟩
          have s67 := s6.trans s7
          cases bb with
          | true =>
            simp only [if_true] at p8 ⊢
            refine p8 G0 H0 G7 H7 σ7 _ ((b5.next s6).next s7) (e7.step b.iv s7) fun yd yv G8 H8 p9 s8 hy => ?_
            have s68 := s67.trans s8
            have hD8 := s68.keep r _ nt gr5 hD5
            have gr8 := s68.fr r hr5 gr5
            have hl8 := vlen _ _ w5
            have stp := (st5.trans s68).grow (o := .lst (avs5 ++ [yv])) hr0 gr8 b.sub
            have lm : Lat G8 H8 G8 (upd H8 r (.lst (avs5 ++ [yv]))) := Lat.mut fun o u z => by rw [hD8] at z; cases z
            have hH0 : H0 r = none := b.st.back hr0
            refine ⟨avs5, hD8, ?_, _, by omega, acc5 ++ [yd], avs5 ++ [yv], G8, rfl, hlt1, p9, stp, (l5.trans s68.lat).trans lm, (l45.trans s68.lat).trans lm, ?_, upd_same, (ha5.mono s68.ge).snoc hy, gr8⟩
            · rw [ha5.len]; exact small1000 hl8
            · have e8 := e5.step b.iv s68
              refine ⟨e8.len, e8.dat, fun m dd hm => ?_, e8.raw, e8.sep⟩
              exact (noOwn_of no3 hm).elim
          | false =>
            simp only [Bool.false_eq_true, if_false] at p8 ⊢
            exact ⟨_, by omega, acc5, avs5, G7, rfl, hlt1, p8, st5.trans s67, l5.trans s67.lat, l45.trans s67.lat, e5.step b.iv s67, s67.keep r _ nt gr5 hD5, ha5.mono s67.ge, s67.fr r hr5 gr5⟩
        · have ej : j = ys.length := by omega
          subst ej
          exact .inl ⟨wk1.stop G5 H5 b5.sub l45, _, by omega, acc5, avs5, G5, rfl, hlt, done1 acc5 w5, st5, l5, hD5, ha5, gr5⟩
      | false =>
        simp only [Bool.false_eq_true, if_false] at p4 ⊢
        exact ⟨_, by omega, acc, avs, G3, rfl, hlt, p4, st.trans s23, l'.trans s23.lat, s23.keep r _ nt gr hD, ha.mono s23.ge, s23.fr r hr' gr⟩
    · have ei : i = xs.length := by omega
      subst ei
      exact .inl ⟨wk.stop G' H' b'.sub l', k _ r G' H' (done acc w) st hr0 gr ⟨avs, hD, ha⟩⟩
end
end Mp

set_option Elab.async false
set_option linter.all false
set_option maxRecDepth 100000
set_option maxHeartbeats 4000000
namespace Mp
open PySem L2
section
variable {c : Cn} {δ : List Sl} {ta tb : TE} {P : D → Prop}
/-- a, b = a list -/
theorem dg_unl {gs : TGs} {js : List Nat} {n : Nat} {ds : List D} {P : List Sl → Prop} (hl : ds.length = n) (h : DGs c gs js δ ds P) : DG c (gUnl c.K n gs) js δ (.lst ds) P := fun G0 H0 G H σ v Q b e hv k => by
  unfold Has at hv
  obtain ⟨a, vs, rfl, hr, hl'⟩ := hv
  exact ⟨a, vs, rfl, .inl (b.sub.ge _ _ hr), by rw [hl'.len]; exact hl, h G0 H0 G H σ vs Q b e hl' k⟩
/-- d[k] of a dict that is one's own -/
theorem de_sub_own {i : Nat} {ks : List (Key × D)} (hi : δ[i]? = some (.own (.dic ks))) (h : DE c tb δ fun k => ∃ x d, k = .str x ∧ look ks (.inr x) = some d ∧ P d) : DE c (tOp (rSub c.K) (tVar i) tb) δ P := fun G0 H0 G H σ Q b e k => by
  obtain ⟨r, h1, h2, h3, ws, h4, h5⟩ := e.own i _ hi
  refine ⟨.ref r, h1, h G0 H0 G H σ _ b e fun kd kv G2 H2 q s2 hk => ?_⟩
  obtain ⟨x, d, rfl, hl, q⟩ := q
  unfold Has at hk
  subst hk
  have h6 := s2.keep r _ (not_town b.iv h2) h3 h4
  obtain ⟨o, g, q2⟩ := dget_of (k := .inr x) (.inl h6) (h5.mono s2.ge)
  rcases q2 with ⟨z, _⟩ | ⟨d', v, z, eo, hv⟩
  · rw [hl] at z; cases z
  · rw [hl] at z
    cases z
    rw [eo] at g
    exact .inr ⟨r, v, rfl, g, k _ _ G2 H2 q s2 hv⟩
end
end Mp

set_option Elab.async false
set_option linter.all false
set_option maxRecDepth 100000
set_option maxHeartbeats 4000000
namespace Mp
open PySem L2 PyProof.Rows
section
variable {X : Cx}
/-! ### tuples joined, cut, turned, as objects that stay -/
def rCatF (K : PySem.W.Frag) : R2 := fun x y H Q => ∃ a b xs ys, x = .ref a ∧ y = .ref b ∧ SqT K H a xs ∧ SqT K H b ys ∧ xs.length + ys.length ≤ sizeLine ∧
  (xs = [] → Q (.ref b) H) ∧ (ys = [] → Q (.ref a) H) ∧ ∀ p o, H p = none → o.dict = none → Q (.ref p) (upd H p (.frz o (.tup (xs ++ ys))))
theorem op_catF : OpR X (binaryOp .Add) (rCatF X.K) := by
  intro pins s σ H x y v u Q I rx ry ⟨a, b, xs, ys, ex, ey, ha, hb, hz, q0, q1, q2⟩
  subst ex; subst ey
  cases rx; cases ry
  obtain ⟨i1, v1, t1, _⟩ := I.tuple ha
  obtain ⟨i2, v2, t2, _⟩ := I.tuple hb
  by_cases hx : xs = []
  · subst hx
    cases v1
    exact cat_tup0 t1 t2 ⟨.ref b, H, I, rfl, q0 rfl⟩
  · refine HT.cat_tup t1 t2 (fun z => hx (v1.nil_iff.mp z)) (fun z => ⟨.ref a, H, I, rfl, q1 (v2.nil_iff.mp z)⟩) (fun _ => ?_) (by have l1 := v1.length; have l2 := v2.length; omega)
    have fresh := I.hok.fresh (Nat.le_refl s.heap.objs.size)
    refine ⟨.ref s.heap.objs.size, upd H s.heap.objs.size (.frz _ (.tup (xs ++ ys))), I.laid (t' := s.toks) (fun c w e => Heap.get?_push_of_some _ e) (Nat.le_refl _) ⟨Heap.get?_push_size _ rfl, ?_⟩, rfl, q2 _ _ fresh rfl⟩
    exact ⟨by rw [List.length_append]; exact hz, i1 ++ i2, v1.append v2, IsTup.new _ _⟩
def rSlF (K : PySem.W.Frag) : V → Option Int → Option Int → Hp → VK → Prop := fun x lo hi H Q => ∃ a xs, x = .ref a ∧ SqT K H a xs ∧ (cutV xs lo hi = xs → Q (.ref a) H) ∧
  ∀ p o, H p = none → o.dict = none → Q (.ref p) (upd H p (.frz o (.tup (cutV xs lo hi))))
theorem cut_whole {xs : List V} {lo hi : Option Int} (h : HT.sIx xs.length 0 lo = 0 ∧ HT.sIx xs.length xs.length hi = xs.length) : cutV xs lo hi = xs := by
  show (xs.drop (HT.sIx xs.length 0 lo)).take (HT.sIx xs.length xs.length hi - HT.sIx xs.length 0 lo) = xs
  rw [h.1, h.2]; simp
theorem sl_tupF : SlR X (rSlF X.K) := by
  intro pins s σ H x v vl vu lo hi sl Q I rx hs pl pu ⟨a, xs, ex, hx, q1, q2⟩
  subst ex
  cases rx
  obtain ⟨its, rv, ht, hz⟩ := I.tuple hx
  have hn : its.toArray.size = xs.length := by rw [List.size_toArray]; exact rv.length.symm
  refine ⟨"tuple", _, PyProof.Rows.slot_tuple_getitem.lookup, ht.typeIs, ?_⟩
  by_cases hw : HT.sIx xs.length 0 lo = 0 ∧ HT.sIx xs.length xs.length hi = xs.length
  · exact getItem_tuple_whole ht hs pl pu (by rw [hn]; exact hw) ⟨.ref a, H, I, rfl, q1 (cut_whole hw)⟩
  · refine HT.getItem_tuple_cut ht hs pl pu (by rw [hn]; exact hw) ?_ (by rw [hn]; exact hz)
    rw [hn]
    refine ⟨.ref s.heap.objs.size, upd H s.heap.objs.size (.frz _ (.tup (cutV xs lo hi))), I.laid (t' := s.toks) (fun c w e => Heap.get?_push_of_some _ e) (Nat.le_refl _) ⟨Heap.get?_push_size _ rfl, ?_⟩, rfl, q2 _ _ (I.hok.fresh (Nat.le_refl _)) rfl⟩
    exact ⟨Nat.le_trans (cutV_length xs lo hi) hz, _, (rv.drop (HT.sIx xs.length 0 lo)).take (HT.sIx xs.length xs.length hi - HT.sIx xs.length 0 lo), IsTup.new _ _⟩
end
section
variable {prog : Program} {w : World} {A : Around} {E : Value → Shared → Prop} {s : Shared}
theorem turn_adjust (n : Nat) : Builtin.Slice.sliceAdjust none none (-1) (n : Int) = ((n : Int) - 1, -1) := by
  unfold Builtin.Slice.sliceAdjust
  simp only [show ((-1 : Int) < 0) from by decide, if_true]
theorem turn_places (n : Nat) : Builtin.Slice.slicePlaces ((n : Int) - 1) (-1) (-1) = n := by
  unfold Builtin.Slice.slicePlaces
  have h1 : ¬ ((-1 : Int) > 0) := by decide
  simp only [if_neg h1, show -(-1 : Int) = 1 from by decide, Int.ediv_one]
  split <;> omega
theorem fmap_same {f g : Nat → Option Value} : ∀ {l : List Nat}, (∀ m ∈ l, f m = g m) → l.filterMap f = l.filterMap g
  | [], _ => rfl
  | x :: r, h => by rw [List.filterMap_cons, List.filterMap_cons, h x (by simp), fmap_same fun m hm => h m (by simp [hm])]
theorem turn_pick (xs : List Value) : ((List.range xs.length).filterMap fun (m : Nat) => xs.toArray[(((xs.length : Int) - 1) + (m : Int) * (-1)).toNat]?).toArray = xs.reverse.toArray := by
  congr 1
  have e : ∀ m ∈ List.range xs.length, xs.toArray[(((xs.length : Int) - 1) + (m : Int) * (-1)).toNat]? = xs.reverse[m]? := fun m hm => by
    have hm := List.mem_range.mp hm
    have : (((xs.length : Int) - 1) + (m : Int) * (-1)).toNat = xs.length - 1 - m := by omega
    rw [this, List.getElem?_toArray, List.getElem?_reverse hm]
  rw [fmap_same e]
  have g : ∀ (ys : List Value), (List.range ys.length).filterMap (fun m => ys[m]?) = ys := fun ys => by
    induction ys with
    | nil => rfl
    | cons y r ih =>
      rw [List.length_cons, List.range_succ_eq_map, List.filterMap_cons, List.filterMap_map]
      simp only [List.getElem?_cons_zero]
      congr 1
  have := g xs.reverse
  rw [List.length_reverse] at this
  exact this
theorem item_turn {t sl : Addr} {xs : List Value} {tk : Tok} {Q : Value → Shared → Prop} (ht : IsTup s.heap t xs.toArray) (hs : s.heap.IsSliceOf sl .none .none (.int (-1) tk)) (hz : xs.length ≤ sizeLine)
    (h : Q (.ref s.heap.objs.size) { s with heap := s.heap.push { cls := .type "tuple", data := .seq xs.reverse.toArray } }) : wpAny (model prog w) A (getItem (.ref t) (.ref sl)) Q E s := by
  have hok : sizeOk (.seq xs.reverse.toArray) := by
    show xs.reverse.toArray.size ≤ sizeLine
    rw [List.size_toArray, List.length_reverse]; exact hz
  obtain ⟨os, o1, o2, o3⟩ := id hs
  have hty : s.TypeIs (.ref sl) "slice" := ⟨os, o1, o2⟩
  unfold getItem
  try with_reducible refine wpAny_holding ?_
  first | refine wpAny_bind (wpAny_pure ?_) | skip
  refine wpAny_bind (wpAny_sequenceKey ht.typeIs (by decide) (?_))
  refine wpAny_bind (wpAny_callSpecial?_slot (name := Str.ofString "__getitem__") ht.typeIs PyProof.Rows.slot_tuple_getitem (wpAny_call_entry PyProof.Rows.slot_tuple_getitem ht.typeIs entry_tuple_getitem ?_ (args_tuple_getitem _ _)))
  show wpAny _ _ (Builtin.Tuple.tupleItemsOf (Value.ref t) >>= _) _ _ s
  refine wpAny_bind (tupleItemsOf_ ht (wpAny_bind (wpAny_typeOf hty ?_)))
  rw [if_pos (by decide)]
  refine wpAny_bind (m := Builtin.Slice.sliceApplied (.ref sl) (pure (xs.toArray.size : Int))) ?_
  unfold Builtin.Slice.sliceApplied Builtin.Slice.sliceFields
  refine wpAny_bind (wpAny_bind (wpAny_field o1 o3 (x := .none) rfl (wpAny_bind (wpAny_field o1 o3 (x := .none) rfl (wpAny_bind (wpAny_field o1 o3 (x := .int (-1) tk) rfl (wpAny_pure ?_)))))))
  refine wpAny_bind (slicePart_int ?_)
  show wpAny _ _ (if ((-1 : Int) == 0) = true then _ else _) _ _ s
  rw [if_neg (by decide)]
  refine wpAny_bind (slicePart_none (wpAny_bind (slicePart_none (wpAny_bind (wpAny_pure ?_)))))
  show wpAny _ _ (match Builtin.Slice.sliceAdjust none none (-1) (xs.toArray.size : Int) with | (lo, hi) => pure (lo, (-1 : Int), Builtin.Slice.slicePlaces lo hi (-1))) _ _ s
  rw [turn_adjust]
  show wpAny _ _ (pure ((xs.toArray.size : Int) - 1, (-1 : Int), Builtin.Slice.slicePlaces ((xs.toArray.size : Int) - 1) (-1) (-1))) _ _ s
  rw [turn_places]
  refine wpAny_pure ?_
  show wpAny _ _ (if (((xs.toArray.size : Int) - 1 == 0 && (-1 : Int) == 1 && xs.toArray.size == xs.toArray.size) = true) then _ else _) _ _ s
  rw [if_neg (by simp), List.size_toArray, turn_pick]
  first
    | exact wpAny_bind (m := Builtin.Tuple.tupleExact xs.reverse.toArray) (wpAny_newObj_type (wpAny_pure ⟨_, rfl, wpAny_pure h⟩) hok)
    | exact wpAny_bind (wpAny_bind (m := Builtin.Tuple.tupleExact xs.reverse.toArray) (wpAny_newObj_type (wpAny_pure (wpAny_pure ⟨_, rfl, wpAny_pure h⟩)) hok))
    | exact wpAny_bind (m := Builtin.Tuple.tupleExact xs.reverse.toArray) (wpAny_newObj_type (wpAny_bind (wpAny_pure (wpAny_pure ⟨_, rfl, wpAny_pure h⟩))) hok)
    | exact wpAny_bind (wpAny_bind (m := Builtin.Tuple.tupleExact xs.reverse.toArray) (wpAny_newObj_type (wpAny_pure ⟨_, rfl, wpAny_pure h⟩) hok))
end
section
variable {X : Cx}
def tRevF (K : PySem.W.Frag) (te : TE) : TE := fun σ H Q => te σ H fun x H1 => ∃ a xs, x = .ref a ∧ SqT K H1 a xs ∧ ∀ p o, H1 p = none → o.dict = none → Q (.ref p) (upd H1 p (.frz o (.tup xs.reverse)))
theorem pe_revF {e : Expr} {te : TE} {k : Nat} {p1 p2 p3 pos : Pos} (he : PE X e te) : PE X (.Subscript e (.Slice none none (some (.UnaryOp .USub (.Constant (.int 1) k p1) p2)) p3) pos) (tRevF X.K te) := by
  refine ⟨fun pins s σ H Q I h => Subscript_ (thn (he.run pins s σ H _ I h) fun v s1 ⟨x, H1, I1, r1, a, xs, ex, hx, q⟩ => ?_)⟩
  subst ex
  cases r1
  have part : PO X (some (.UnaryOp .USub (.Constant (.int 1) k p1) p2)) (tPart (tUn (rU fun i => .int (-i)) (tC (.int 1)))) := po_some (pe_un un_neg pe_int)
  refine wpAny_Slice (thn (po_none.run pins s1 σ H1 (fun o H2 => o = none ∧ H2 = H1) I1 ⟨rfl, rfl⟩) fun vl s2 ⟨l, H2, I2, pl, el, e2⟩ => ?_)
  subst el; subst e2
  refine thn (po_none.run pins s2 σ H2 (fun o H3 => o = none ∧ H3 = H2) I2 ⟨rfl, rfl⟩) fun vu s3 ⟨u, H3, I3, pu, eu, e3⟩ => ?_
  subst eu; subst e3
  refine thn (part.run pins s3 σ H3 (fun o H4 => o = some (-1) ∧ H4 = H3) I3 ⟨1, rfl, -1, rfl, rfl, rfl⟩) fun vs s4 ⟨o, H4, I4, ps, eo, e4⟩ => ?_
  subst eo; subst e4
  cases pl
  cases pu
  cases ps with
  | int _ tk =>
  have I5 : Inv X pins σ H4 { s4 with heap := s4.heap.push { cls := .type "slice", data := .fields #[.none, .none, .int (-1) tk] } } := I4.kept (t' := s4.toks) fun b ob z => Heap.get?_push_of_some _ z
  obtain ⟨its, rv, ht, hz⟩ := I5.tuple hx
  have hl := rv.length
  show wpAny (model X.prog X.w) X.A (subscriptTail e (.Slice none none (some (.UnaryOp .USub (.Constant (.int 1) k p1) p2)) p3) (.ref a) (.ref s4.heap.objs.size)) (EP X pins σ Q) X.xe { s4 with heap := s4.heap.push { cls := .type "slice", data := .fields #[.none, .none, .int (-1) tk] } }
  refine tail_any (ops := [.ref a, .ref s4.heap.objs.size]) ht.typeIs (PyProof.Rows.slot_tuple_getitem.lookup) ?_ (by with_unfolding_all rfl)
  refine item_turn ht (Heap.IsSliceOf.new _ _ _ _) (by omega) ?_
  refine ⟨.ref _, upd H4 _ (.frz _ (.tup xs.reverse)), I5.laid (t' := s4.toks) (fun b ob z => Heap.get?_push_of_some _ z) (Nat.le_refl _) ⟨Heap.get?_push_size _ rfl, ?_⟩, rfl, q _ _ (I5.hok.fresh (Nat.le_refl _)) rfl⟩
  exact ⟨by rw [List.length_reverse]; exact hz, _, rv.reverse, IsTup.new _ _⟩
end
section
variable {c : Cn} {δ : List Sl} {ta tb : TE} {P : D → Prop}
theorem HasL.rev {K : PySem.W.Frag} {G : Hp} : ∀ {xs : List D} {vs : List V}, HasL K G xs vs → HasL K G xs.reverse vs.reverse
  | [], vs, h => by unfold HasL at h; subst h; exact hasL_nil
  | x :: r, vs, h => by
    obtain ⟨v, u, rfl, hv, hr⟩ := h
    rw [List.reverse_cons, List.reverse_cons]
    exact hr.rev.snoc hv
theorem de_catF (h : DE c ta δ fun x => DE c tb δ fun y => ∃ xs ys, x = .tup xs ∧ y = .tup ys ∧ xs.length + ys.length ≤ 1000 ∧ P (.tup (xs ++ ys))) : DE c (tOp (rCatF c.K) ta tb) δ P :=
  de_op (F := fun x y P => ∃ xs ys, x = .tup xs ∧ y = .tup ys ∧ xs.length + ys.length ≤ 1000 ∧ P (.tup (xs ++ ys))) (fun x y v u G H Q P s hx hy f k => by
    obtain ⟨xs, ys, rfl, rfl, hl, p⟩ := f
    have hx' := hx; have hy' := hy
    unfold Has at hx hy
    obtain ⟨a, us, rfl, h1, h2⟩ := hx
    obtain ⟨b, ws, rfl, h3, h4⟩ := hy
    refine ⟨a, b, us, ws, rfl, rfl, (s.ge.tup h1).sq, (s.ge.tup h3).sq, by rw [h2.len, h4.len]; exact Nat.le_of_lt (small1000 hl), fun e => ?_, fun e => ?_, fun q o hq ho => ?_⟩
    · subst e
      have : xs = [] := List.length_eq_zero_iff.mp (by rw [← h2.len]; rfl)
      subst this
      exact k _ _ G H p (.refl s) hy'
    · subst e
      have : ys = [] := List.length_eq_zero_iff.mp (by rw [← h4.len]; rfl)
      subst this
      rw [List.append_nil] at p
      exact k _ _ G H p (.refl s) hx'
    · exact k _ _ (upd G q (.tup (us ++ ws))) _ p (Step.new s hq ⟨o, upd_same, ho⟩) (has_tup (s.free hq) (h2.app h4))) h
theorem de_slF {tl th : TO} (h : DE c ta δ fun d => ∃ xs, d = .tup xs ∧ DO c tl δ fun lo => DO c th δ fun hi => P (.tup (cutD xs lo hi))) : DE c (tSl (rSlF c.K) ta tl th) δ P := fun G0 H0 G H σ Q b e k =>
  h G0 H0 G H σ _ b e fun d v G1 H1 hp s1 hd => by
    obtain ⟨xs, rfl, hp⟩ := hp
    refine hp G0 H0 G1 H1 σ _ (b.next s1) (e.step b.iv s1) fun lo G2 H2 hp s2 => hp G0 H0 G2 H2 σ _ ((b.next s1).next s2) ((e.step b.iv s1).step b.iv s2) fun hi G3 H3 hp s3 => ?_
    have hd' := hd.mono (s2.trans s3).ge
    have s13 := (s1.trans s2).trans s3
    have sb := (b.next s13).sub
    unfold Has at hd'
    obtain ⟨a, us, rfl, h1, h2⟩ := hd'
    refine ⟨a, us, rfl, (sb.ge.tup h1).sq, fun e => ?_, fun q o hq ho => ?_⟩
    · refine k _ _ G3 H3 hp s13 ?_
      have := h2.cut lo hi
      rw [e] at this
      unfold Has
      exact ⟨a, us, rfl, h1, this⟩
    · exact k _ _ (upd G3 q (.tup (cutV us lo hi))) _ hp (s13.trans (Step.new sb hq ⟨o, upd_same, ho⟩)) (has_tup (sb.free hq) (h2.cut lo hi))
theorem de_revF (h : DE c ta δ fun d => ∃ xs, d = .tup xs ∧ P (.tup xs.reverse)) : DE c (tRevF c.K ta) δ P := fun G0 H0 G H σ Q b e k =>
  h G0 H0 G H σ _ b e fun d v G1 H1 hp s1 hd => by
    obtain ⟨xs, rfl, hp⟩ := hp
    have sb := (b.next s1).sub
    unfold Has at hd
    obtain ⟨a, us, rfl, h1, h2⟩ := hd
    refine ⟨a, us, rfl, (sb.ge.tup h1).sq, fun q o hq ho => ?_⟩
    exact k _ _ (upd G1 q (.tup us.reverse)) _ hp (s1.trans (Step.new sb hq ⟨o, upd_same, ho⟩)) (has_tup (sb.free hq) h2.rev)
end
end Mp

set_option Elab.async false
set_option linter.all false
set_option maxRecDepth 100000
set_option maxHeartbeats 4000000
namespace Mp
open PySem L2 PyProof.Rows
/-! ### the order of tuples of texts -/
def keyI (xs : List Str) : List (Int ⊕ List Nat) := xs.map fun x => Sum.inr x.cps.toList
def ltP (xs ys : List Str) : Bool := lexLt itemOrd (keyI xs) (keyI ys)
theorem str_cps {x y : Str} (h : x.cps.toList = y.cps.toList) : x = y := by
  have hc : x.cps = y.cps := Array.toList_inj.mp h
  cases x; cases y
  simp only [Str.mk.injEq]
  exact hc
theorem keyI_inj : ∀ {xs ys : List Str}, keyI xs = keyI ys → xs = ys
  | [], [], _ => rfl
  | [], _ :: _, h => by cases h
  | _ :: _, [], h => by cases h
  | x :: xs, y :: ys, h => by
    unfold keyI at h
    rw [List.map_cons, List.map_cons] at h
    obtain ⟨h1, h2⟩ := List.cons.inj h
    rw [str_cps (Sum.inr.inj h1), keyI_inj (xs := xs) (ys := ys) h2]
theorem ltP_asym {x y : List Str} (h : ltP x y = true) : ltP y x = false := by
  cases e : ltP y x with
  | false => rfl
  | true => have := lex_trans _ _ _ h e; rw [lex_irrefl] at this; cases this
theorem ltP_tr {x y z : List Str} (h1 : ltP y x = false) (h2 : ltP z y = false) : ltP z x = false := by
  cases e : ltP z x with
  | false => rfl
  | true =>
    rcases lex_negTrans _ (keyI y) _ e with h | h
    · exact absurd (h2.symm.trans h) (by simp)
    · exact absurd (h1.symm.trans h) (by simp)
theorem ltP_total {x y : List Str} (h1 : ltP x y = false) (h2 : ltP y x = false) : x = y := keyI_inj (lex_total _ _ h1 h2)
theorem ltP_irrefl (x : List Str) : ltP x x = false := lex_irrefl _
theorem swo_txt (k : Value → List Str) : SrtO.Swo fun v u => ltP (k v) (k u) := ⟨fun _ _ h => ltP_asym h, fun _ _ _ h1 h2 => ltP_tr h1 h2⟩
abbrev shT : Nat → Bool := fun _ => true
theorem items_txt : ∀ {xs : List Str} {us : List Value} (i : Nat), Vals (xs.map V.str) us → tupItems shT i us = some (keyI xs)
  | [], us, i, h => by
    have : us = [] := by
      have := h.length
      exact List.length_eq_zero_iff.mp (by rw [← this]; rfl)
    subst this; rfl
  | x :: xs, us, i, h => by
    rw [List.map_cons] at h
    cases h with
    | cons hu hr =>
    obtain ⟨t, rfl⟩ := hu
    have := items_txt (i + 1) hr
    unfold tupItems
    rw [if_pos rfl, this]
    rfl
def IsTxt (h : Heap) (v : Value) (xs : List Str) : Prop := ∃ a o us n, v = .ref a ∧ h.get? a = some o ∧ o.cls = .type "tuple" ∧ o.data = .seq us n ∧ tupItems shT 0 us.toList = some (keyI xs)
theorem IsTxt.keeps {h h' : Heap} {v : Value} {xs : List Str} (t : IsTxt h v xs) (k : ∀ b o, h.get? b = some o → o.cls = .type "tuple" → h'.get? b = some o) : IsTxt h' v xs := by
  obtain ⟨a, o, us, n, e, ho, hc, r⟩ := t
  exact ⟨a, o, us, n, e, k a o ho hc, hc, r⟩
theorem IsTxt.key {h : Heap} {v : Value} {xs : List Str} (t : IsTxt h v xs) : (tupKind h shT).keyOf v = some (keyI xs) := by
  obtain ⟨a, o, us, n, rfl, ho, hc, hd, r⟩ := t
  show tupKey h shT (.ref a) = _
  simp only [tupKey, ho, hd]
  exact r
theorem IsTxt.tup {h : Heap} {v : Value} {xs : List Str} (t : IsTxt h v xs) (hx : xs ≠ []) : ∃ f, TupOf h shT v f := by
  obtain ⟨a, o, us, n, rfl, ho, hc, hd, r⟩ := t
  cases e : us.toList with
  | nil =>
    rw [e] at r
    unfold tupItems at r
    have := Option.some.inj r
    cases xs with
    | nil => exact (hx rfl).elim
    | cons x xs => cases this
  | cons u l =>
    rw [e] at r
    obtain ⟨x, t, l', rfl, _, _⟩ := tupItems_str rfl r
    refine ⟨.str x t, a, o, us, n, rfl, ho, hc, hd, ?_, fun z => (by cases z), fun _ => ⟨x, t, rfl⟩⟩
    rw [← Array.getElem?_toList, e]
    rfl
theorem tups_of {h : Heap} : ∀ {vs : List Value}, (∀ v ∈ vs, ∃ f, TupOf h shT v f) → ∃ fs, TupsOf h shT vs fs ∧ fs.length = vs.length
  | [], _ => ⟨[], .nil, rfl⟩
  | v :: vs, k => by
    obtain ⟨f, hf⟩ := k v (by simp)
    obtain ⟨fs, h1, h2⟩ := tups_of (vs := vs) fun u hu => k u (by simp [hu])
    exact ⟨f :: fs, .cons hf h1, by simp [h2]⟩
section
variable {prog : Program} {w : World} {A : Around} {E : Value → Shared → Prop} {s : Shared}
theorem txt_sortable {a : Addr} {vs : List Value} {k : Value → List Str} (h0 : 0 < vs.length) (hp : ∀ v ∈ vs, IsTxt s.heap v (k v)) (hne : ∀ v ∈ vs, k v ≠ []) (ha : ∀ o, s.heap.get? a = some o → o.cls ≠ .type "tuple") : SrtO.SortableO prog w A s a vs fun v u => ltP (k v) (k u) := by
  intro h' keep
  have hp' : ∀ v ∈ vs, IsTxt h' v (k v) := fun v hm => (hp v hm).keeps fun b o e c => keep b o (fun z => by subst z; exact ha o e c) e
  obtain ⟨fs, h1, h2⟩ := tups_of fun v hm => (hp' v hm).tup (hne v hm)
  refine ⟨tuples' true, fun Q E hq => tup_kind (s := { s with heap := h' }) (by omega) h1 hq, fun p q hm hm' => ?_⟩
  exact tup_ltAt (s := { s with heap := h' }) true A _ p.1 q.1 _ _ (hp' _ hm).key (hp' _ hm').key ⟨rfl, rfl⟩
theorem sorted_txt {l : Addr} {vs : List Value} {k : Value → List Str} {Q : Value → Shared → Prop} (hl : s.heap.IsList l vs.toArray) (hz : vs.length ≤ sizeLine) (hp : ∀ v ∈ vs, IsTxt s.heap v (k v)) (hne : 2 ≤ vs.length → ∀ v ∈ vs, k v ≠ [])
    (h : ∀ (h' : Heap) (d : Addr) (out : List Value), SrtO.Srtd (fun v u => ltP (k v) (k u)) out → SrtO.Stb (fun v u => ltP (k v) (k u)) out vs → (∀ b o, s.heap.get? b = some o → h'.get? b = some o) → s.heap.objs.size ≤ d → (∃ n, h'.get? d = some (seqObj "list" out.toArray n)) → Q (.ref d) { s with heap := h' }) :
    wpAny (model prog w) A (call (.builtin "sorted") [.ref l]) Q E s := by
  refine SrtO.sorted_ord (swo_txt k) hl hz (fun h2 h₁ a ha kk => ?_) fun out hs hb => ?_
  · refine txt_sortable (s := { s with heap := h₁ }) (by omega) (fun v hm => (hp v hm).keeps fun b o e _ => (kk b o e).2) (hne h2) fun o e => ?_
    have e' : some o = some (seqObj "list" vs.toArray 0) := e.symm.trans ha
    cases e'
    intro c
    exact absurd (Value.type.inj c) (by decide)
  · exact h _ _ out hs hb (fun b o e => PyProof.Rows.sortedAll_old e) (Nat.le_succ _) (PyProof.Rows.sortedAll_at s.heap vs out.toArray)
end
/-! ### sorted(xs), tuples of texts -/
def rSortTx (K : PySem.W.Frag) : List V → Hp → VK → Prop := fun us H Q => ∃ (a : Addr) (zs : List V) (ps : List (List Str)), us = [V.ref a] ∧ SqL K H a zs ∧ zs.length = ps.length ∧ (2 ≤ ps.length → ∀ p ∈ ps, p ≠ []) ∧ (∀ p ∈ zs.zip ps, ∃ t, p.1 = V.ref t ∧ SqT K H t (p.2.map V.str)) ∧
  ∀ (m : List (V × List Str)) (p : Addr), m.Perm (zs.zip ps) → (m.map (·.2)).Pairwise (fun x y => ltP y x = false) → H p = none → Q (.ref p) (upd H p (.lst (m.map (·.1))))
theorem strs_inj : ∀ {xs ys : List Str}, xs.map V.str = ys.map V.str → xs = ys
  | [], [], _ => rfl
  | [], _ :: _, h => by cases h
  | _ :: _, [], h => by cases h
  | x :: xs, y :: ys, h => by
    rw [List.map_cons, List.map_cons] at h
    obtain ⟨h1, h2⟩ := List.cons.inj h
    rw [V.str.inj h1, strs_inj h2]
theorem call_sortTx {X : Cx} : CallR X (.builtin "sorted") (rSortTx X.K) := by
  intro pins s σ H us vs Q I r h
  obtain ⟨a, zs, ps, rfl, hsq, hlen, hne, hz1, q⟩ := h
  obtain ⟨its, rvs, hls, hsl⟩ := I.list hsq
  obtain ⟨u, rfl, ru⟩ := vals1 r
  obtain rfl : u = Value.ref a := ru
  obtain ⟨f, hf⟩ : ∃ f : V → List Str, ∀ t p, SqT X.K H t (p.map V.str) → f (.ref t) = p := by
    classical
    refine ⟨fun z => if g : ∃ t p, z = V.ref t ∧ SqT X.K H t (List.map V.str p) then Classical.choose (Classical.choose_spec g) else [], fun t p ht => ?_⟩
    have g : ∃ t' p', V.ref t = V.ref t' ∧ SqT X.K H t' (List.map V.str p') := ⟨t, p, rfl, ht⟩
    simp only [dif_pos g]
    obtain ⟨e, h2⟩ := Classical.choose_spec (Classical.choose_spec g)
    have e' := V.ref.inj e
    have ht' : SqT X.K H (Classical.choose g) (p.map V.str) := e' ▸ ht
    exact strs_inj (I.tuple_inj h2 ht')
  have hzip : zs.zip ps = zs.map fun z => (z, f z) := by
    refine List.ext_getElem (by simp [hlen]) fun n h1 h2 => ?_
    have hm : (zs.zip ps)[n] ∈ zs.zip ps := List.getElem_mem h1
    obtain ⟨t, e, ht⟩ := hz1 _ hm
    have := hf t _ ht
    rw [List.getElem_zip] at e this ⊢
    simp only at e this
    rw [List.getElem_map, e, this]
  have hz2 : ∀ z ∈ zs, ∃ t, z = V.ref t ∧ SqT X.K H t ((f z).map V.str) ∧ f z ∈ ps := fun z hz => by
    have hm : (z, f z) ∈ zs.zip ps := by rw [hzip]; exact List.mem_map.mpr ⟨z, hz, rfl⟩
    obtain ⟨t, e, ht⟩ := hz1 _ hm
    exact ⟨t, e, ht, (List.of_mem_zip hm).2⟩
  obtain ⟨e1, e2⟩ := refs_back rvs fun z m => by
    obtain ⟨t, e, _⟩ := hz2 z m
    exact ⟨t, e⟩
  have back : ∀ v ∈ its, backV v ∈ zs := fun v hv => by rw [e1]; exact List.mem_map.mpr ⟨_, hv, rfl⟩
  refine sorted_txt (k := fun u => f (backV u)) hls.isList (by rw [← rvs.length]; exact hsl) (fun v hv => ?_) (fun h2 v hv => ?_) fun h1 d out so st kp hd hn => ?_
  · obtain ⟨t, rfl⟩ := e2 v hv
    obtain ⟨t', e, ht, _⟩ := hz2 _ (back _ hv)
    cases e
    obtain ⟨its2, r2, ⟨o, ho, hc, n, hd⟩, _⟩ := I.tuple ht
    exact ⟨t, o, _, n, rfl, ho, hc, hd, items_txt 0 r2⟩
  · obtain ⟨t', e, ht, hm⟩ := hz2 _ (back _ hv)
    exact hne (by rw [← hlen, rvs.length]; exact h2) _ hm
  · have h3 : ∀ u ∈ out, ∃ a, u = Value.ref a := fun u hu => e2 u (st.perm.mem_iff.mp hu)
    obtain ⟨n, hn⟩ := hn
    have hp : (out.map backV).Perm zs := by rw [e1]; exact st.perm.map _
    have hm := q ((out.map backV).map fun z => (z, f z)) d (by rw [hzip]; exact hp.map _) (by
      rw [List.map_map, List.map_map]; exact List.pairwise_map.mpr so) (I.hok.fresh hd)
    rw [List.map_map, show ((fun x : V × List Str => x.1) ∘ fun z => (z, f z)) = id from rfl, List.map_id] at hm
    refine ⟨.ref d, upd H d (.lst (out.map backV)), I.laid (t' := s.toks) kp hd ⟨?_, out, n, vals_back h3, hn⟩, rfl, hm⟩
    rw [hp.length_eq]
    exact hsl
def rMin2 : List V → Hp → VK → Prop := fun xs H Q => ∃ i j, xs = [.int i, .int j] ∧ Q (.int (if j < i then j else i)) H
theorem call_min2X {X : Cx} (hc : X.calm = true) : CallR X (.builtin "min") rMin2 := call_min2 hc
section
variable {c : Cn} {δ : List Sl} {ta tb : TE} {P : D → Prop}
def txD (xs : List Str) : D := .tup (xs.map .str)
theorem hasL_zipT {K : PySem.W.Frag} {G : Hp} : ∀ {ps : List (List Str)} {vs : List V}, HasL K G (ps.map txD) vs → vs.length = ps.length ∧ ∀ p ∈ vs.zip ps, Has K G (txD p.2) p.1
  | [], vs, h => by unfold List.map HasL at h; subst h; exact ⟨rfl, fun p hp => by cases hp⟩
  | q :: ps, vs, h => by
    rw [List.map_cons] at h
    unfold HasL at h
    obtain ⟨v, r, rfl, hv, hr⟩ := h
    obtain ⟨h1, h2⟩ := hasL_zipT hr
    refine ⟨by simp [h1], fun p hp => ?_⟩
    rcases List.mem_cons.mp hp with e | hp
    · subst e; exact hv
    · exact h2 p hp
theorem hasL_ofT {K : PySem.W.Frag} {G : Hp} : ∀ {m : List (V × List Str)}, (∀ p ∈ m, Has K G (txD p.2) p.1) → HasL K G (m.map fun p => txD p.2) (m.map (·.1))
  | [], _ => by unfold List.map HasL; rfl
  | q :: m, h => by
    rw [List.map_cons, List.map_cons]
    unfold HasL
    exact ⟨_, _, rfl, h q List.mem_cons_self, hasL_ofT fun p hp => h p (List.mem_cons_of_mem _ hp)⟩
theorem dn_sortT (h : DE c ta δ fun d => ∃ ps : List (List Str), d = .lst (ps.map txD) ∧ (2 ≤ ps.length → ∀ p ∈ ps, p ≠ []) ∧ ∀ qs : List (List Str), qs.Perm ps → qs.Pairwise (fun x y => ltP y x = false) → P (.lst (qs.map txD))) : DN c (tCB (rSortTx c.K) (tCons ta tNil)) δ P :=
  dn_cb (F := fun as P => ∃ ps : List (List Str), as = [.dat (.lst (ps.map txD))] ∧ (2 ≤ ps.length → ∀ p ∈ ps, p ≠ []) ∧ ∀ qs : List (List Str), qs.Perm ps → qs.Pairwise (fun x y => ltP y x = false) → P (.lst (qs.map txD))) (fun as vs G H Q P s ha f k => by
    obtain ⟨ps, rfl, hne, p⟩ := f
    obtain ⟨v, r, rfl, hv, hr⟩ := ha
    cases hr
    unfold Has at hv
    obtain ⟨a, zs, rfl, hr, hl⟩ := hv
    obtain ⟨hlen, hz⟩ := hasL_zipT hl
    refine ⟨a, zs, ps, rfl, .inl (s.ge _ _ hr), hlen, hne, fun p hp => ?_, fun m q hm hs hq => ?_⟩
    · have := hz p hp
      unfold txD Has at this
      obtain ⟨t, us, e, ht, hl⟩ := this
      refine ⟨t, e, ?_⟩
      rw [hasL_strs hl] at ht
      exact (s.ge.tup ht).sq
    · have hp2 : (m.map (·.2)).Perm ps := by
        have := hm.map (·.2)
        rwa [List.map_snd_zip (by rw [hlen]; exact Nat.le_refl _)] at this
      refine k _ q G _ (p _ hp2 hs) (Step.tmp s hq) hq (s.free hq) ⟨_, upd_same, ?_⟩
      rw [List.map_map]
      exact hasL_ofT fun p hp => hz p (hm.mem_iff.mp hp)) (da_cons (h.imp fun d ⟨ps, e, p⟩ => da_nil ⟨ps, by rw [e], p⟩))
theorem de_min2 (h : DE c ta δ fun x => DE c tb δ fun y => ∃ i j, x = .int i ∧ y = .int j ∧ P (.int (if j < i then j else i))) : DE c (tCB rMin2 (tCons ta (tCons tb tNil))) δ P :=
  de_cb (F := fun as P => ∃ i j, as = [.dat (.int i), .dat (.int j)] ∧ P (.int (if j < i then j else i))) (fun as vs G H Q P s ha f k => by
    obtain ⟨i, j, rfl, p⟩ := f
    obtain ⟨v, r, rfl, hv, hr⟩ := ha
    obtain ⟨v2, r2, rfl, hv2, hr2⟩ := hr
    cases hr2
    unfold Has at hv hv2
    subst hv; subst hv2
    exact ⟨i, j, rfl, k _ _ G H p (.refl s) (by unfold Has; rfl)⟩) (da_cons (h.imp fun x p => da_cons (p.imp fun y ⟨i, j, ex, ey, p⟩ => da_nil ⟨i, j, by rw [ex, ey], p⟩)))
end
end Mp

set_option Elab.async false
set_option linter.all false
set_option maxRecDepth 100000
set_option maxHeartbeats 4000000
namespace Mp
open PySem PySem.Spec L2 PyProof.Rows
/-! ### sets of texts, whose order is not told -/
def txK (e : Int × Value) : Str := match e.2 with | .str x _ => x | _ => Str.empty
def TxE (P : Program) (w : World) (e : Int × Value) : Prop := ∃ x tk, e.2 = Value.str x tk ∧ e.1 = (PySem.strKind P w).hash x
structure SX (P : Program) (w : World) (h : Heap) (a : Addr) (S : Str → Prop) (o : Obj) (es : Array (Int × Value)) (ep : Nat) (t : SetTable) : Prop where
  obj : h.get? a = some o
  ex : o.ExactSet
  dat : o.data = .set es ep t
  good : ∀ e ∈ es.toList, TxE P w e
  nd : (es.toList.map txK).Nodup
  mem : ∀ x, x ∈ es.toList.map txK ↔ S x
  few : es.size < scanBound
  fit : t.fits es.size = true
  ris : Ris t.place.toList
  led : w.params.followText "set-order" = true ∨ t.led = true
section
variable {P : Program} {w : World} {A : Around} {E : Value → Shared → Prop} {s : Shared} {a : Addr} {S : Str → Prop} {o : Obj} {es : Array (Int × Value)} {ep : Nat} {t : SetTable}
theorem txK_is {e : Int × Value} (g : TxE P w e) (x : Str) : (PySem.strKind P w).is x e.2 = true ↔ txK e = x := by
  obtain ⟨y, tk, h1, _⟩ := g
  have h0 := KeyKind.is_eq_decide (knd := PySem.strKind P w) (strKind_is P w y tk) x
  unfold txK
  rw [h1, h0]
  simp only [decide_eq_true_eq]
  exact eq_comm
theorem tx_elems {l : List (Int × Value)} (g : ∀ e ∈ l, TxE P w e) : ElemsOf (PySem.strKind P w) l := fun e m => by
  obtain ⟨y, tk, h1, h2⟩ := g e m
  rw [h1]
  exact ⟨⟨y, strKind_is P w y tk, h2⟩, rfl⟩
theorem SX.keep {h h' : Heap} (R : SX P w h a S o es ep t) (k : ∀ o, h.get? a = some o → h'.get? a = some o) : SX P w h' a S o es ep t := { R with obj := k _ R.obj }
theorem SX.to {S' : Str → Prop} {h : Heap} (R : SX P w h a S o es ep t) (k : ∀ x, S x ↔ S' x) : SX P w h a S' o es ep t := { R with mem := fun x => (R.mem x).trans (k x) }
/-- the tail of an add: the rows are stored, and laid anew where the table is too full -/
theorem sx_tail {g : Bool → Sem Unit} (hg : ∀ (b : Bool) (s₁ : Shared) (Q' : Unit → Shared → Prop), Q' () s₁ → wpAny (model P w) A (g b) Q' E s₁) (R0 : SX P w s.heap a S o es ep t) {S' : Str → Prop} {e1 : Array (Int × Value)} {t1 : SetTable}
    (good : ∀ e ∈ e1.toList, TxE P w e) (nd : (e1.toList.map txK).Nodup) (mem : ∀ x, x ∈ e1.toList.map txK ↔ S' x) (few : e1.size < scanBound) (fit : t1.fits e1.size = true) (ris : Ris t1.place.toList) (led : w.params.followText "set-order" = true ∨ t1.led = true)
    {was : Bool} {Z : Option Bool → Shared → Prop} (hZ : ∀ h' o' e' p' t', Heap.SameBut a s.heap h' → SX P w h' a S' o' e' p' t' → e'.size = e1.size → Z (some true) { s with heap := h' }) :
    wpAny (model P w) A (do storeSet a e1 t1; if (!was && t1.tooFull) = true then do { g (relayAll t1 e1 (SetTable.grown e1.size)).2.2; storeSet a (relayAll t1 e1 (SetTable.grown e1.size)).1 (relayAll t1 e1 (SetTable.grown e1.size)).2.1; pure (some true) } else pure (some true)) Z E s := by
  have b1 := Heap.SameBut.update s.heap a (Obj.putSet e1 t1)
  have l1 := L2.store_at (es' := e1) (t' := t1) R0.obj R0.dat
  refine wpAny_bind (wpAny_storeSet_of R0.obj R0.dat ?_ (fits_of_scanBound few))
  have c1 := relayAll_perm t1 e1 (SetTable.grown e1.size)
  have c2 := relayAll_fits t1 e1 (SetTable.grown e1.size)
  have c3 := relayAll_ris t1 e1 (SetTable.grown e1.size)
  have c4 := relayAll_led t1 e1 (SetTable.grown e1.size)
  by_cases full : (!was && t1.tooFull) = true
  · rw [if_pos full]
    revert c1 c2 c3 c4
    generalize relayAll t1 e1 (SetTable.grown e1.size) = V
    intro c1 c2 c3 c4
    obtain ⟨e2, t2, gw⟩ := V
    have sz : e2.size = e1.size := by simpa using c1.length_eq
    have few2 : e2.size < scanBound := sz ▸ few
    refine wpAny_bind (hg _ _ _ (wpAny_bind (wpAny_storeSet_of l1 rfl ?_ (fits_of_scanBound few2))))
    have l2 := L2.store_at (es' := e2) (t' := t2) l1 rfl
    refine wpAny_pure (hZ _ _ e2 _ t2 (b1.trans (Heap.SameBut.update _ a _)) ⟨l2, R0.ex, rfl, fun e m => good e (c1.mem_iff.mp m), (c1.map txK).nodup_iff.mpr nd, fun x => ((c1.map txK).mem_iff).trans (mem x), few2, c2, c3, ?_⟩ sz)
    rcases led with z | z
    · exact .inl z
    · exact .inr (by have c4 : t2.led = t1.led := c4; rw [c4]; exact z)
  · rw [if_neg full]
    exact wpAny_pure (hZ _ _ e1 _ t1 b1 ⟨l1, R0.ex, rfl, good, nd, mem, few, fit, ris, led⟩ rfl)
theorem sx_add {x : Str} {tk : Tok} {Q : Bool → Shared → Prop} (R : SX P w s.heap a S o es ep t) (room : es.size + 1 < scanBound)
    (hQ : ∀ b h' o' e' p' t', Heap.SameBut a s.heap h' → SX P w h' a (fun y => S y ∨ y = x) o' e' p' t' → e'.size ≤ es.size + 1 → Q b { s with heap := h' }) :
    wpAny (model P w) A (setAddHashed a (.str x tk) ((PySem.strKind P w).hash x)) Q E s := by
  have key := strKind_is P w x tk
  have sc : (Value.str x tk).scannable = true := rfl
  have el := tx_elems R.good
  unfold setAddHashed setAddHashedIn
  refine wpAny_holding (wpAny_bind (wpAny_setState_of R.obj R.dat R.fit ?_))
  dsimp only
  rw [byScan_of sc R.few el, if_pos rfl]
  unfold setAddByScan
  refine wpAny_bind (wpAny_bind (wpAny_rule (wpAny_bind (wpAny_setScan_of key R.obj R.dat R.fit el ?_))))
  cases found : List.findIdx? (fun e => (PySem.strKind P w).is x e.2) es.toList with
  | some j =>
    obtain ⟨hj, pj, _⟩ := List.findIdx?_eq_some_iff_getElem.mp found
    have hx : S x := (R.mem x).1 (List.mem_map.mpr ⟨es.toList[j], List.getElem_mem hj, (txK_is (R.good _ (List.getElem_mem hj)) x).1 pj⟩)
    dsimp only
    exact wpAny_pure (wpAny_pure (hQ _ s.heap o es ep t (Heap.SameBut.refl a s.heap) (R.to fun y => ⟨.inl, fun z => z.elim id fun e => e ▸ hx⟩) (Nat.le_succ _)))
  | none =>
    have hx : x ∉ es.toList.map txK := fun m => by
      obtain ⟨e, he, q⟩ := List.mem_map.mp m
      have c := List.findIdx?_eq_none_iff.mp found e he
      rw [(txK_is (R.good e he) x).2 q] at c
      cases c
    have gw : ∀ (b : Bool) {s₁ : Shared} {Q' : Unit → Shared → Prop}, Q' () s₁ → wpAny (model P w) A (match b with | true => rule "set.scan.the-table-gave-way" | false => pure ()) Q' E s₁ := fun b _ _ q => by
      cases b
      · exact wpAny_pure q
      · exact wpAny_rule q
    dsimp only
    have c1 := layNew_perm t es ((PySem.strKind P w).hash x) (.str x tk)
    have c2 := layNew_fits t es ((PySem.strKind P w).hash x) (.str x tk)
    have c3 := layNew_ris t es ((PySem.strKind P w).hash x) (.str x tk) R.ris
    have c4 := layNew_led t es ((PySem.strKind P w).hash x) (.str x tk)
    revert c1 c2 c3 c4
    generalize layNew t es ((PySem.strKind P w).hash x) (.str x tk) = V
    intro c1 c2 c3 c4
    obtain ⟨e1, t1, was, gave⟩ := V
    dsimp only at c1 c2 c3 c4 ⊢
    rw [Array.toList_push] at c1
    have pc := c1.trans (List.perm_append_singleton _ _)
    have pk := pc.map txK
    have sz : e1.size = es.size + 1 := by simpa using pc.length_eq
    have good : ∀ e ∈ e1.toList, TxE P w e := fun e he => by
      rcases List.mem_cons.mp (pc.mem_iff.mp he) with z | z
      · exact z ▸ ⟨x, tk, rfl, rfl⟩
      · exact R.good e z
    have nd : (e1.toList.map txK).Nodup := pk.nodup_iff.mpr (List.nodup_cons.mpr ⟨hx, R.nd⟩)
    have mem : ∀ y, y ∈ e1.toList.map txK ↔ S y ∨ y = x := fun y => by
      rw [pk.mem_iff, List.map_cons, List.mem_cons, R.mem y]
      exact Or.comm
    have few : e1.size < scanBound := by rw [sz]; exact room
    have led : w.params.followText "set-order" = true ∨ t1.led = true := R.led.imp id fun z => by rw [c4]; exact z
    refine wpAny_bind (gw _ ?_)
    split
    · refine wpAny_bind ?_
      rw [hashByValue_scannable 8 sc]
      refine wpAny_pure (sx_tail (S' := fun y => S y ∨ y = x) (fun b s₁ Q' q => ?_) R good nd mem few ?_ ?_ ?_ fun h' o' e' p' t' sb r z => ?_)
      · cases b
        · exact wpAny_pure q
        · exact wpAny_rule q
      · first | exact c2 | exact SetTable.fits_plain_off c2 | (split; all_goals first | exact c2 | exact SetTable.fits_plain_off c2)
      · first | exact c3 | (split; all_goals exact c3)
      · first | exact led | (split; all_goals exact led)
      · dsimp only; exact wpAny_pure (hQ _ h' o' e' p' t' sb r (by omega))
    · refine wpAny_bind (wpAny_pure ?_)
      rw [if_pos rfl]
      refine sx_tail (S' := fun y => S y ∨ y = x) (fun b s₁ Q' q => ?_) R good nd mem few c2 c3 led fun h' o' e' p' t' sb r z => ?_
      · cases b
        · exact wpAny_pure q
        · exact wpAny_rule q
      · dsimp only; exact wpAny_pure (hQ _ h' o' e' p' t' sb r (by omega))
/-! ### set(xs) of a list of texts -/
theorem txt_at : ∀ {us : List Value} {xs : List Str}, StrsAre us xs → ∀ (i : Nat) (v : Value), us[i]? = some v → ∃ x t, xs[i]? = some x ∧ v = .str x t
  | _, _, .nil, i, v, h => by simp at h
  | _, _, .cons x t r, 0, v, h => by simp at h; exact ⟨x, t, rfl, h.symm⟩
  | _, _, .cons x t r, i + 1, v, h => by simpa using txt_at r i v (by simpa using h)
abbrev setO0 (w : World) : Obj := { cls := .type "set", dict := none, data := .set #[] 0 (.fresh 0 0 (!w.params.followText "set-order")) }
def SXs (P : Program) (w : World) (h : Heap) (a : Addr) (S : Str → Prop) (n : Nat) : Prop := ∃ o es ep t, SX P w h a S o es ep t ∧ es.size ≤ n
theorem SXs.keep {h h' : Heap} {n : Nat} (R : SXs P w h a S n) (k : ∀ o, h.get? a = some o → h'.get? a = some o) : SXs P w h' a S n := by
  obtain ⟨o, es, ep, t, r, z⟩ := R
  exact ⟨o, es, ep, t, r.keep k, z⟩
theorem sx_none {h : Heap} (ho : h.get? a = some (setO0 w)) (ks : List Str) : SXs P w h a (fun y => y ∈ ks.take 0) 0 := by
  refine ⟨_, #[], 0, _, ⟨ho, ⟨rfl, rfl, rfl⟩, rfl, fun e he => ?_, ?_, fun x => ?_, by decide, rfl, List.Pairwise.nil, ?_⟩, Nat.le_refl _⟩
  · simp at he
  · simp
  · simp
  · cases w.params.followText "set-order"
    · exact Or.inr rfl
    · exact Or.inl rfl
theorem sx_loop {I : Addr} {fp wr : List Addr} {G : Array GenState → Array GenState → Prop} {n : Nat} {Pv : Nat → Value → Prop} {St : Nat → Shared → Prop} {R : Result → Shared → Prop} (W : WalksS P w A.in1 I fp wr G n Pv St) (Z : Addr) (hZ : Z ∉ fp) (ks : List Str)
    (hn : n = ks.length) (hb : ks.length + 1 < scanBound) (hval : ∀ i v, Pv i v → ∃ z t, ks[i]? = some z ∧ v = .str z t) :
    ∀ (m i : Nat) (s : Shared), n - i = m → i ≤ n → St i s → SXs P w s.heap Z (fun y => y ∈ ks.take i) i →
      (∀ s', Moved (Z :: wr) G s s' → SXs P w s'.heap Z (fun y => y ∈ ks) n → R (.ok (.ret .none)) s') → codeAny (model P w) A (.builtin "set.update.loop" ⟨[.ref Z, .ref I], []⟩) R s := by
  have nw : Z ∉ wr := fun z => hZ (W.sub _ z)
  have inc : ∀ b ∈ wr, b ∈ Z :: wr := fun b z => List.mem_cons_of_mem _ z
  intro m
  induction m with
  | zero =>
    intro i s e1 e2 st hS hR
    obtain rfl : i = n := by omega
    refine codeAny_builtin F.entry_set_update_loop ?_
    rw [Around.under_plainId F.plain_set_update_loop _]
    show wpAny _ A.in1 (pyNext (.ref I) >>= _) _ _ s
    refine wpAny_bind (W.done s _ _ st fun s' mv => ?_)
    show wpAny _ A.in1 (ret Value.none) _ _ s'
    rw [List.take_of_length_le (by omega)] at hS
    exact wpAny_pure (hR s' (mv.mono inc) (hS.keep fun o e => mv.heap Z o nw e))
  | succ m ih =>
    intro i s e1 e2 st hS hR
    have lt : i < n := by omega
    refine codeAny_builtin F.entry_set_update_loop ?_
    rw [Around.under_plainId F.plain_set_update_loop _]
    show wpAny _ A.in1 (pyNext (.ref I) >>= _) _ _ s
    refine wpAny_bind (W.item i s _ _ lt st fun v s' hp st' mv => ?_)
    obtain ⟨z, tk, hz, rfl⟩ := hval i v hp
    obtain ⟨o, es, ep, t, hX, hl⟩ := hS.keep (h' := s'.heap) fun o e => mv.heap Z o nw e
    show wpAny _ A.in1 (holding [Value.str z tk] (setAdd Z (.str z tk)) >>= _) _ _ s'
    refine wpAny_bind (wpAny_holding ?_)
    unfold setAdd
    refine wpAny_holding (wpAny_bind ((PySem.strKind P w).pyHash (k := z) (strKind_is _ _ _ _) ?_))
    refine sx_add (s := { s' with toks := s'.toks + 1 }) hX (by omega) fun b h' o' es' ep' t' sb hX' hl' => ?_
    have hS' : SXs P w h' Z (fun y => y ∈ ks.take (i + 1)) (i + 1) := ⟨o', es', ep', t', hX'.to fun y => by rw [List.take_add_one, hz]; simp [List.mem_append], by omega⟩
    refine wpAny_pure ⟨plainId_quiet F.plain_set_update_loop _, ih (i + 1) _ (by omega) lt (W.frame _ s' _ _ st' (Nat.le_succ _) fun b hb o e => ?_) hS' fun s2 mv2 hS2 => ?_⟩
    · rw [sb.2 b (fun h : b = Z => hZ (h ▸ hb))]; exact e
    · refine hR s2 (Moved.trans W.gtrans ((mv.mono inc).then_heap (Nat.le_succ _) fun b o hb e => ?_) mv2) hS2
      rw [sb.2 b (fun h : b = Z => hb (h ▸ List.mem_cons_self))]; exact e
set_option maxHeartbeats 3200000 in
theorem sx_call {l : Addr} {items : Array Value} (ks : List Str) {Q : Value → Shared → Prop} (hh : A.handled = none) (hl : s.heap.IsList l items) (hit : StrsAre items.toList ks) (hb : ks.length + 1 < scanBound)
    (h : ∀ (h' : Heap) (tk : Nat), SXs P w h' s.heap.objs.size (fun y => y ∈ ks) ks.length → (∀ b o, s.heap.get? b = some o → h'.get? b = some o) → Q (.ref s.heap.objs.size) { s with heap := h', toks := tk }) :
    wpAny (model P w) A (call (.type "set") [.ref l]) Q E s := by
  have isz : items.size = ks.length := by
    have q := hit.length
    rw [Array.length_toList] at q
    exact q
  obtain ⟨c, tl, hmro⟩ := F.called_set.mro
  have hmade := F.called_set.made
  have hsub := F.called_set.sub
  refine wpAny_call (codeAny_of_tree ?_)
  show wpAny _ _ (callAny (.type "set") _) _ _ _
  refine wpAny_pure ⟨Code.quiet_builtin _ (by decide +kernel), codeAny_builtin F.entry_type_call ?_⟩
  rw [Around.under_plain (weight_type_call_type "set" [.ref l] []) rfl]
  have h1 := F.called_set.notType
  have h2 := F.called_set.canCreate
  have hct := F.typeCall_set_1 (.ref l)
  repeat (any_goals (first | assumption | wp_step))
  refine codeAny_mono (code_set_led1 (.ref l) (E := E) (Q₁ := fun obj s₁ => obj = .ref s.heap.objs.size ∧ s₁ = { s with heap := s.heap.push (setO0 w) }) ⟨rfl, rfl⟩) fun r s₁ hr => ?_
  cases r with
  | error e => exact hr
  | ok fl =>
    cases fl with
    | ret obj =>
      obtain ⟨rfl, rfl⟩ := hr
      have hS : (s.heap.push (setO0 w)).get? s.heap.objs.size = some (setO0 w) := Heap.get?_push_size _ rfl
      have hT : Shared.TypeIs { s with heap := s.heap.push (setO0 w) } (.ref s.heap.objs.size) "set" := ⟨_, hS, rfl⟩
      have hli := F.called_set.init.lookup
      have hbi := F.called_set.init.bind (.ref s.heap.objs.size)
      repeat (any_goals (first | assumption | wp_step))
      refine codeAny_mono (codeAny_call_builtin (R := wants (fun r s₂ => r = .none ∧ ∃ h' tk, s₂ = { s with heap := h', toks := tk } ∧ SXs P w h' s.heap.objs.size (fun y => y ∈ ks) ks.length ∧ (∀ b o, s.heap.get? b = some o → h'.get? b = some o)) E) F.called_set.init.plain F.entry_set_init (check_set_init_1 hT ?_)) fun r₂ s₂ hr₂ => ?_
      · obtain ⟨ol, hol, hcl, nl, hdl⟩ := hl
        obtain ⟨ocls, odict, odata, oslots⟩ := ol
        simp only at hcl hdl
        subst hcl; subst hdl
        have hol' : (s.heap.push (setO0 w)).get? l = some { cls := .type "list", dict := odict, data := .seq items nl, slots := oslots } := Heap.get?_push_of_some _ hol
        have hsls := F.sub_list_set
        have hslf := F.sub_list_frozenset
        have hne : (Value.type "list" == Value.type "dict") = false := by decide
        have hl1 : (s.heap.push (setO0 w)).IsList l items := ⟨_, hol', rfl, nl, rfl⟩
        unfold Builtin.«set.__init__» noKeywords Builtin.Frozenset.updateFrom
        generalize hPI : pyIter = PI
        wp_walk
        subst hPI
        refine wpAny_pyIter_list hl1 (wpAny_bind (wpAny_runValue ?_))
        have lS : l < s.heap.objs.size := Heap.lt_size hol
        have hh3 : A.in1.in1.in1.handled = none := by simp [hh]
        have neI : l ≠ (s.heap.push (setO0 w)).objs.size := by rw [Heap.size_push]; exact Nat.ne_of_lt (Nat.lt_succ_of_lt lS)
        have nf : s.heap.objs.size ∉ [(s.heap.push (setO0 w)).objs.size, l] := by
          rw [Heap.size_push]
          intro z
          rcases List.mem_cons.mp z with z | z
          · exact Nat.lt_irrefl _ (Nat.lt_of_lt_of_eq (Nat.lt_succ_self _) z.symm)
          · exact Nat.lt_irrefl _ (Nat.lt_of_lt_of_eq lS (List.mem_singleton.mp z))
        refine sx_loop ((Walks.list hh3 _ l neI items).toS) s.heap.objs.size nf ks isz hb (fun i v hv => ?_) (items.size - 0) 0 _ (by omega) (Nat.zero_le _) ⟨⟨_, Heap.get?_push_size _ rfl, rfl, rfl⟩, (hl1.push _)⟩ (sx_none (Heap.get?_push_of_some _ hS) ks) ?_
        · have hi : i < ks.length := by rw [← isz]; exact (Array.getElem?_eq_some_iff.mp hv).1
          obtain ⟨x, t, e1, e2⟩ := txt_at hit i v (by rw [Array.getElem?_toList]; exact hv)
          exact ⟨x, t, e1, e2⟩
        · intro s' mv hS'
          obtain ⟨h', g2, d', tk', os'⟩ := s'
          have eg : g2 = s.gens := mv.gens
          have ed : d' = s.drawn := mv.drawn
          have eo : os' = s.os := mv.os
          subst eg; subst ed; subst eo
          show wpAny _ _ _ _ _ _
          refine wpAny_pure ?_
          show wpAny _ _ (ret Value.none) _ _ _
          rw [isz] at hS'
          refine wpAny_pure ⟨rfl, h', tk', rfl, hS', fun b o e => mv.heap b o (fun z => ?_) (Heap.get?_push_of_some _ (Heap.get?_push_of_some _ e))⟩
          have lb : b < s.heap.objs.size := Heap.lt_size e
          rcases List.mem_cons.mp z with z | z
          · exact Nat.lt_irrefl _ (Nat.lt_of_lt_of_eq lb z.symm)
          · have z := List.mem_singleton.mp z
            rw [Heap.size_push] at z
            exact Nat.lt_irrefl _ (Nat.lt_of_lt_of_eq (Nat.lt_succ_of_lt lb) z.symm)
      · cases r₂ with
        | error e => exact hr₂
        | ok fl₂ =>
          cases fl₂ with
          | ret r =>
            obtain ⟨rfl, h', tk, rfl, hS', hk'⟩ := hr₂
            repeat (any_goals (first | assumption | wp_step))
            exact h _ _ hS' hk'
          | _ => exact hr₂.elim
    | _ => exact hr.elim
/-! ### sorted of such a set -/
def txV (v : Value) : Str := match v with | .str x _ => x | _ => Str.empty
theorem strs_txV : ∀ vs : List Value, (∀ v ∈ vs, ∃ x t, v = Value.str x t) → StrsAre vs (vs.map txV)
  | [], _ => .nil
  | v :: r, h => by
    obtain ⟨x, t, rfl⟩ := h v (by simp)
    exact .cons x t (strs_txV r fun u hu => h u (by simp [hu]))
theorem sx_sorted {n : Nat} {Q : Value → Shared → Prop} (R : SXs P w s.heap a S n) (hh : A.handled = none) (h64 : n < 64)
    (hQ : ∀ s' p (out : Array Value) (c : Nat) (ys : List Str), (∀ b o, s.heap.get? b = some o → s'.heap.get? b = some o) → s'.gens = s.gens → s'.os = s.os → s.heap.objs.size ≤ p →
      s'.heap.get? p = some (seqObj "list" out c) → StrsAre out.toList ys → sortedS ys = true → ys.Nodup → (∀ x, x ∈ ys ↔ S x) → ys.length < 64 → Q (.ref p) s') :
    wpAny (model P w) A (call (.builtin "sorted") [.ref a]) Q E s := by
  obtain ⟨o, es, ep, t, R, hn⟩ := R
  refine Calls.call_function_entry kind_sorted plain_sorted entry_sorted (args_sorted1 _) ?_
  unfold Builtin.«sorted»
  refine wpAny_bind (m := checkCount "sorted" 1 1 _) (wpAny_pure ?_)
  refine wpAny_bind (collect_set (A := A.in1) hh ⟨o, R.obj, R.ex.1, R.dat⟩ R.fit R.few R.ris R.led fun s1 vs k1 hz g1 o1 pm => ?_)
  have hvl : vs.length < 64 := by
    rw [pm.length_eq, List.length_map, Array.length_toList]; omega
  have hI : StrsAre vs (vs.map txV) := strs_txV vs fun v hv => by
    obtain ⟨e, he, q⟩ := List.mem_map.mp (pm.mem_iff.mp hv)
    obtain ⟨x, tk, h1, _⟩ := R.good e he
    exact ⟨x, tk, by rw [← q]; exact h1⟩
  have pk : (vs.map txV).Perm (es.toList.map txK) := by
    have q := pm.map txV
    rw [List.map_map] at q
    exact q
  refine wpAny_bind (wpAny_newList ?_ (by rw [sizeLine_eq]; omega))
  have hoL : (s1.heap.push (seqObj "list" vs.toArray 0)).get? s1.heap.objs.size = some (seqObj "list" vs.toArray 0) := Heap.get?_push_size _ rfl
  refine wpAny_bind (wpAny_holding (wpAny_call_entry slot_list_sort ⟨_, hoL, rfl⟩ entry_list_sort
    (list_sort_treeK strKind_oneLt (s := { s1 with heap := s1.heap.push (seqObj "list" vs.toArray 0) }) hoL hI.keysOf (fun v₁ v₂ rest e => keyKind_strs (by rw [← e]; exact hI)) hvl fun st' hp hs => ⟨_, rfl, ?_⟩) (args_list_sort _)))
  obtain ⟨ys, q1, q2, q3⟩ := sorted_out_str hI hp hs
  obtain ⟨c, hc⟩ := sortedHeap_at (vs := vs) (out := (arrOf st').map (·.2)) hoL
  have pn : ys.Perm (es.toList.map txK) := q2.trans pk
  refine wpAny_pure ⟨_, rfl, hQ _ s1.heap.objs.size _ c ys (fun b u e => ?_) g1 o1 hz hc q1 q3 (pn.nodup_iff.mpr R.nd) (fun k => by rw [pn.mem_iff, R.mem k]) ?_⟩
  · have q := k1 b u e
    have lb := Heap.lt_size q
    show (sortedHeap (s1.heap.push (seqObj "list" vs.toArray 0)) s1.heap.objs.size vs _).get? b = some u
    rw [sortedHeap_old (Nat.ne_of_lt lb) (by rw [size_push']; exact Nat.lt_succ_of_lt lb)]
    exact Heap.get?_push_of_some _ q
  · rw [pn.length_eq, List.length_map, Array.length_toList]; omega
end
/-! ### over the layer -/
def SetXO (P : Program) (w : World) (a : Addr) (S : Str → Prop) (n : Nat) : HO := .ext fun h => SXs P w h a S n
theorem setXO_new {P : Program} {w : World} {H : Hp} {h : Heap} {a : Addr} {S : Str → Prop} {n : Nat} (R : SXs P w h a S n) : ObjOk P w H h a (SetXO P w a S n) := by
  refine ⟨R, ?_, fun h1 h2 p k => SXs.keep p k⟩
  obtain ⟨o, es, ep, t, r, _⟩ := R
  exact ⟨o, r.obj⟩
def rSetX (K : PySem.W.Frag) (P : Program) (w : World) : List V → Hp → VK → Prop := fun xs H Q => ∃ (l : Addr) (ks : List Str), xs = [V.ref l] ∧ SqL K H l (ks.map V.str) ∧ ks.length < 64 ∧ ∀ a, H a = none → Q (.ref a) (upd H a (SetXO P w a (fun y => y ∈ ks) ks.length))
theorem call_setX {X : Cx} (hc : X.calm = true) : CallR X (.type "set") (rSetX X.K X.prog X.w) := by
  intro pins s σ H xs us Q I r h
  obtain ⟨l, ks, rfl, hl, hf, q⟩ := h
  rw [Vals.ref1 r]
  obtain ⟨its, rv, pl, hz⟩ := I.list hl
  refine sx_call (P := X.prog) (w := X.w) ks (I.ok.hd hc) pl.isList (by simpa using rv.strs) (by unfold scanBound; omega) fun h' tk R k => ?_
  exact ⟨.ref s.heap.objs.size, _, I.laid (t' := tk) k (Nat.le_refl _) (setXO_new R), rfl, q _ (I.hok.fresh (Nat.le_refl _))⟩
def rSortedX (P : Program) (w : World) : List V → Hp → VK → Prop := fun vs H Q => ∃ (a : Addr) (S : Str → Prop) (n : Nat), vs = [V.ref a] ∧ H a = some (SetXO P w a S n) ∧ n < 64 ∧
  ∀ (ys : List Str) (p : Addr), sortedS ys = true → ys.Nodup → (∀ x, x ∈ ys ↔ S x) → H p = none → Q (.ref p) (upd H p (.lst (ys.map V.str)))
theorem call_sortedX {X : Cx} (hc : X.calm = true) : CallR X (.builtin "sorted") (rSortedX X.prog X.w) := by
  intro pins s σ H vs us Q I r h
  obtain ⟨a, S, n, rfl, ha, hn, q⟩ := h
  have R : SXs X.prog X.w s.heap a S n := (I.hok a _ ha).1
  rw [Vals.ref1 r]
  refine sx_sorted R (I.ok.hd hc) hn fun s' p out c ys k g o hp hg hout q1 q2 q3 q4 => ?_
  have hlen : (ys.map V.str).length ≤ sizeLine := by rw [List.length_map, sizeLine_eq]; omega
  have hn : H p = none := I.hok.fresh hp
  have J : Inv X pins σ (upd H p (.lst (ys.map V.str))) { s with heap := s'.heap, gens := s'.gens, drawn := s'.drawn, toks := s'.toks } :=
    I.call (ch := []) (Un.laid k hp hn) (I.hok.laid k hp ⟨hlen, out.toList, c, vals_of_strs hout, hg⟩) (by rw [g]; exact I.bare) (fun _ z => nomatch z)
  have e : s' = { s with heap := s'.heap, gens := s'.gens, drawn := s'.drawn, toks := s'.toks } := by
    cases s'
    cases s
    cases o
    rfl
  rw [e]
  exact ⟨.ref p, _, J, rfl, q ys p q1 q2 q3 hn⟩
/-- sorted(set(e)) -/
def tSortSet (K : PySem.W.Frag) (te : TE) : TE := fun σ H Q => ∀ (Pg : Program) (w : World), tCB (rSortedX Pg w) (tCons (tCB (rSetX K Pg w) (tCons te tNil)) tNil) σ H Q
theorem pe_sortSet {X : Cx} {e : Expr} {te : TE} {p1 p2 p3 p4 : Pos} (hc : X.calm = true) (hg : Gl X "sorted") (hm : X.mg "sorted" = none) (hg2 : Gl X "set") (hm2 : X.mg "set" = none) (h : PE X e te) (hs : starEach [e] X.env = (false, eval e X.env) :: starEach [] X.env := by rfl) :
    PE X (.Call (.Name "sorted" p1) [.Call (.Name "set" p2) [e] [] p3] [] p4) (tSortSet X.K te) := by
  have z := pe_callB (p := p1) (pos := p4) (call_sortedX hc) hg hm (by decide +kernel) (pa_cons (pe_callTy (p := p2) (pos := p3) (call_setX hc) hg2 hm2 (by decide +kernel) (pa_cons h pa_nil (hs := hs)) (he := hs)) pa_nil)
  exact ⟨fun pins s σ H Q I q => z.run pins s σ H Q I (q X.prog X.w)⟩
section
variable {c : Cn} {ta : TE} {δ : List Sl} {P : D → Prop}
theorem dn_sortSet (h : DE c ta δ fun d => ∃ xs : List Str, d = .lst (xs.map .str) ∧ xs.length < 64 ∧ ∀ ys : List Str, sortedS ys = true → ys.Nodup → (∀ x, x ∈ ys ↔ x ∈ xs) → P (.lst (ys.map .str))) :
    DN c (tSortSet c.K ta) δ P := fun G0 H0 G H σ Q b e k Pg w =>
  h G0 H0 G H σ _ b e fun d v G1 H1 p s1 hv => by
    obtain ⟨xs, rfl, hl, p⟩ := p
    unfold Has at hv
    obtain ⟨a, vs, rfl, hr, hx⟩ := hv
    have := hasL_strs hx
    subst this
    refine ⟨a, xs, rfl, .inl (s1.sub.ge _ _ hr), hl, fun q hq => ⟨q, _, _, rfl, upd_same, hl, fun ys r h1 h2 h3 hr2 => ?_⟩⟩
    have s2 := s1.trans (Step.tmp (o := SetXO Pg w q (fun y => y ∈ xs) xs.length) s1.sub hq)
    have s3 := s2.trans (Step.tmp (o := .lst (ys.map V.str)) s2.sub hr2)
    exact k _ r G1 _ (p ys h1 h2 h3) s3 (s2.back hr2) (s2.sub.free hr2) ⟨_, upd_same, hasL_of_strs ys⟩
end
end Mp

set_option Elab.async false
set_option linter.all false
set_option maxRecDepth 100000
set_option maxHeartbeats 4000000
namespace Mp
open PySem L2
def t__law_formed (K : PySem.W.Frag) (sp__law_formed : Sp) : TS :=
  (tSeq (tIfS (tTest (tOp (fun x y H Q => y = .non ∧ Q (.bl (decide (x = .non))) H) (tVar 1) (tC .non))) (tRet (tOp (rSub K) (tVar 0) (tC (.int 0)))) tNext)
    (tSeq (tIfS (tNot (tB (tCB (rIsi K) (tCons (tVar 1) (tCons (tC (.ty "dict")) tNil))))) (tRet (tIf (tTest (tOp (rEqX K) (tOp (rSub K) (tVar 0) (tC (.int 1))) (tTupF (tCons (tC (.str "same")) tNil)))) (tVar 1) (tOp (rSub K) (tOp (rSub K) (tVar 0) (tC (.int 1))) (tC (.int 1))))) tNext)
    (tSeq (tIfS (tTest (tOp (rEqX K) (tOp (rSub K) (tOp (rSub K) (tVar 0) (tC (.int 2))) (tC (.int 0))) (tC (.str "constant")))) (tRet (tOp (rSub K) (tOp (rSub K) (tVar 0) (tC (.int 2))) (tC (.int 1)))) tNext)
    (tSeq (tAsg (tCB (rDictX K) (tCons (tVar 1) tNil)) (gName 2))
    (tSeq (tFor (iAny K (tOp (rSub K) (tOp (rSub K) (tVar 0) (tC (.int 2))) (tC (.int 1)))) (gTup K 2 (gCons (gName 3) (gCons (gName 4) gNil))) (tSeq (tAsg (tCall sp__law_formed [] E0 (tCons (tVar 4) (tCons (tDGet1 (tVar 1) (tVar 3)) tNil))) (gName 5))
    (tIfS (tTest (tOp (fun x y H Q => y = .non ∧ Q (.bl (!decide (x = .non))) H) (tVar 5) (tC .non))) (sDPut (tVar 2) (tVar 3) (tVar 5)) (tIfS (tTest (tOp (rInX K false) (tVar 3) (tVar 2))) (tDrop (tDPop1 (tVar 2) (tVar 3))) tNext))))
    (tRet (tVar 2)))))))

def t__law_is_form (K : PySem.W.Frag) (sp__law_is_form : Sp) : TS :=
  (tSeq (tIfS (tOr (tNot (tB (tCB (rIsi K) (tCons (tVar 0) (tCons (tC (.ty "tuple")) tNil))))) (tOr (tTest (tOp (rNeX K) (tCB (rLenX K) (tCons (tVar 0) tNil)) (tC (.int 3)))) (tTest (tOp (rInX K true) (tOp (rSub K) (tOp (rSub K) (tVar 0) (tC (.int 1))) (tC (.int 0))) (tTupF (tCons (tC (.str "same")) (tCons (tC (.str "constant")) tNil))))))) (tRet (tC (.bl false))) tNext)
    (tSeq (tIfS (tOr (tTest (tOp (rNeX K) (tCB (rLenX K) (tCons (tOp (rSub K) (tVar 0) (tC (.int 1))) tNil)) (tIf (tTest (tOp (rEqX K) (tOp (rSub K) (tOp (rSub K) (tVar 0) (tC (.int 1))) (tC (.int 0))) (tC (.str "same")))) (tC (.int 1)) (tC (.int 2))))) (tTest (tOp (rNeX K) (tCB (rLenX K) (tCons (tOp (rSub K) (tVar 0) (tC (.int 2))) tNil)) (tC (.int 2))))) (tRet (tC (.bl false))) tNext)
    (tSeq (tIfS (tTest (tOp (rInX K true) (tOp (rSub K) (tOp (rSub K) (tVar 0) (tC (.int 2))) (tC (.int 0))) (tTupF (tCons (tC (.str "constant")) (tCons (tC (.str "entries")) tNil))))) (tRet (tC (.bl false))) tNext)
    (tSeq (tIfS (tTest (tOp (rEqX K) (tOp (rSub K) (tOp (rSub K) (tVar 0) (tC (.int 2))) (tC (.int 0))) (tC (.str "constant")))) (tRet (tC (.bl true))) tNext)
    (tSeq (tAsg (tLc (iAny K (tOp (rSub K) (tOp (rSub K) (tVar 0) (tC (.int 2))) (tC (.int 1)))) (gName 3) tYes (tOp (rSub K) (tVar 3) (tC (.int 0))) [3]) (gName 1))
    (tSeq (tIfS (tTest (tOp (rNeX K) (tVar 1) (tSortSet K (tVar 1)))) (tRet (tC (.bl false))) tNext)
    (tSeq (tAsg (tTupF (tCons (tC .non) (tCons (tTupF (tCons (tC (.str "same")) tNil)) (tCons (tTupF (tCons (tC (.str "entries")) (tCons (tTupF tNil) tNil))) tNil)))) (gName 2))
    (tRet (tCB (rAll K) (tCons (tLc (iAny K (tOp (rSub K) (tOp (rSub K) (tVar 0) (tC (.int 2))) (tC (.int 1)))) (gName 3) tYes (tAndV (tOp (rNeX K) (tOp (rSub K) (tVar 3) (tC (.int 1))) (tVar 2)) (tCall sp__law_is_form [] E0 (tCons (tOp (rSub K) (tVar 3) (tC (.int 1))) tNil))) [3]) tNil))))))))))
end Mp

set_option Elab.async false
set_option linter.all false
set_option maxRecDepth 100000
set_option maxHeartbeats 4000000
namespace Mp
open PySem L2

section
variable {c : Cn} {δ : List Sl} {wi : TI} {g : TG} {tt : TT} {te tk : TE} {vs js : List Nat} {P : D → Prop}
theorem dt_yes {P : Bool → Prop} (p : P true) : DT c tYes δ P := fun G0 H0 G H σ Q b e k => k true G H p (.refl b.sub)
theorem it_t {b : Bool} {A B : Prop} (e : b = true) (h : A) : if b = true then A else B := by rw [if_pos e]; exact h
theorem it_f {b : Bool} {A B : Prop} (e : b = false) (h : B) : if b = true then A else B := by rw [e, if_neg (by decide)]; exact h
theorem it_c {b : Bool} {A B : Prop} (h1 : b = true → A) (h2 : b = false → B) : if b = true then A else B := by
  cases b with
  | true => exact it_t rfl (h1 rfl)
  | false => exact it_f rfl (h2 rfl)
theorem take_snoc {α β : Type} {xs : List α} {f : α → β} {i : Nat} {d : α} (h : xs[i]? = some d) : (xs.take (i + 1)).map f = (xs.take i).map f ++ [f d] := by
  rw [List.take_succ, h, List.map_append]; rfl
/-- [f x for x in xs] -/
theorem dn_lcM (f : D → D) (hjs : ∀ j, j ∈ js → j ∈ vs) (h : DI c wi δ fun xs => xs.length ≤ sizeLine ∧ (∀ (i : Nat) (d : D), xs[i]? = some d → DG c g js (wipeD δ vs) d fun δ2 => DE c te δ2 fun y => y = f d) ∧ P (.lst (xs.map f))) : DN c (tLc wi g tYes te vs) δ P :=
  dn_lc hjs (h.imp fun xs ⟨hl, ht, p⟩ => ⟨hl, fun i acc => acc = (xs.take i).map f, rfl, fun i d acc hd w => fun G0 H0 G H σ v Q b e hv k =>
    ht i d hd G0 H0 G H σ v Q b e hv fun δ' σ' p' => k δ' σ' (dt_yes (it_t rfl (p'.imp fun y ey => by
      have w' : acc = (xs.take i).map f := w
      show acc ++ [y] = (xs.take (i + 1)).map f
      rw [take_snoc hd, ey, w']))), fun acc w => by
      have w' : acc = (xs.take xs.length).map f := w
      rw [w', List.take_length]; exact p⟩)
/-- [f x for x in xs if b x] -/
theorem dn_lcF (f : D → D) (t : D → Bool) (hjs : ∀ j, j ∈ js → j ∈ vs) (h : DI c wi δ fun xs => xs.length ≤ sizeLine ∧ (∀ (i : Nat) (d : D), xs[i]? = some d → DG c g js (wipeD δ vs) d fun δ2 => DT c tt δ2 fun b => b = t d ∧ (t d = true → DE c te δ2 fun y => y = f d)) ∧ P (.lst ((xs.filter t).map f))) : DN c (tLc wi g tt te vs) δ P :=
  dn_lc hjs (h.imp fun xs ⟨hl, ht, p⟩ => ⟨hl, fun i acc => acc = ((xs.take i).filter t).map f, rfl, fun i d acc hd w => fun G0 H0 G H σ v Q b e hv k =>
    ht i d hd G0 H0 G H σ v Q b e hv fun δ' σ' p' => k δ' σ' (p'.imp fun b' ⟨eb, q⟩ => by
      have e1 : (xs.take (i + 1)).filter t = (xs.take i).filter t ++ if t d = true then [d] else [] := by
        rw [List.take_succ, hd, List.filter_append]
        congr 1
        show List.filter t [d] = _
        rw [List.filter_cons]; split <;> rfl
      subst eb
      have w' : acc = ((xs.take i).filter t).map f := w
      refine it_c (fun z => (q z).imp fun y ey => ?_) fun z => ?_
      · show acc ++ [y] = ((xs.take (i + 1)).filter t).map f
        rw [e1, if_pos z, List.map_append, ey, w']; rfl
      · show acc = ((xs.take (i + 1)).filter t).map f
        rw [e1, if_neg (by rw [z]; decide), List.append_nil, w']), fun acc w => by
      have w' : acc = ((xs.take xs.length).filter t).map f := w
      rw [w', List.take_length]; exact p⟩)
theorem putD_new {α : Type} {xs : List (Key × α)} {k : Key} {d : α} (h : k ∉ xs.map (·.1)) : putD xs k d = xs ++ [(k, d)] := by
  unfold putD
  rw [if_neg]
  intro z
  obtain ⟨p, hp, e⟩ := List.any_eq_true.mp z
  exact h (List.mem_map.mpr ⟨p, hp, of_decide_eq_true e⟩)
/-- {k: f k for k in d}, the keys in their order -/
theorem dn_dcM (f : Str → D) (ks : List Str) (nd : ks.Nodup) (hjs : ∀ j, j ∈ js → j ∈ vs) (h : DI c wi δ fun xs => xs = ks.map .str ∧ xs.length ≤ sizeLine ∧ (∀ x ∈ ks, DG c g js (wipeD δ vs) (.str x) fun δ2 => DE c tk δ2 fun k => k = .str x ∧ DE c te δ2 fun y => y = f x) ∧ P (.dic (ks.map fun x => (.inr x, f x)))) : DN c (tDc wi g tYes tk te vs) δ P :=
  dn_dc hjs (h.imp fun xs ⟨ex, hl, ht, p⟩ => ⟨hl, fun i acc => acc = (ks.take i).map fun x => (.inr x, f x), rfl, fun i d acc hd w => by
    subst ex
    rw [List.getElem?_map] at hd
    cases q : ks[i]? with
    | none => rw [q] at hd; cases hd
    | some x =>
      rw [q] at hd
      cases hd
      refine fun G0 H0 G H σ v Q b e hv k => ht x (List.mem_of_getElem? q) G0 H0 G H σ v Q b e hv fun δ' σ' p' => k δ' σ' (dt_yes (it_t rfl (p'.imp fun kd ⟨ek, z⟩ => z.imp fun y ey => ⟨x, ek, ?_⟩)))
      have w' : acc = (ks.take i).map fun x => (.inr x, f x) := w
      show putD acc (.inr x) y = (ks.take (i + 1)).map fun x => (.inr x, f x)
      rw [w', take_snoc q, ey]
      refine putD_new fun m => ?_
      rw [List.map_map] at m
      obtain ⟨x', hx', e'⟩ := List.mem_map.mp m
      have e'' : x' = x := Sum.inr.inj e'
      subst e''
      obtain ⟨j, hj, ej⟩ := List.getElem_of_mem hx'
      have hj2 : j < i := by simp at hj; omega
      have : ks[j]? = ks[i]? := by
        rw [q]
        rw [List.getElem_take] at ej
        rw [← ej]; exact List.getElem?_eq_getElem (by simp at hj; omega)
      have := (List.getElem?_inj (by simp at hj; omega) nd).mp this
      omega, fun acc w => by
      subst ex
      have w' : acc = (ks.take (ks.map D.str).length).map fun x => (.inr x, f x) := w
      rw [w', List.length_map, List.take_length]; exact p⟩)
theorem sub_key {ks : List (Key × D)} {k : Key} {d : D} (nd : (ks.map (·.1)).Nodup) (m : (k, d) ∈ ks) : D.sub (.dic ks) (kD k) = some d := by
  cases k with
  | inl i => exact mem_look nd m
  | inr x => exact mem_look nd m
theorem getElem_mem_pair {ks : List (Key × D)} {i : Nat} {y : D} (h : (ks.map fun p => kD p.1)[i]? = some y) : ∃ k d, ks[i]? = some (k, d) ∧ y = kD k := by
  rw [List.getElem?_map] at h
  cases q : ks[i]? with
  | none => rw [q] at h; cases h
  | some p => rw [q] at h; cases h; exact ⟨p.1, p.2, rfl, rfl⟩
/-- [.. for key in d], over the pairs of a dict -/
theorem dn_lcK {tl : TE} {j : Nat} (f : Key → D → D) (h : DE c tl δ fun d => ∃ ks, d = .dic ks ∧ (ks.map (·.1)).Nodup ∧ ks.length ≤ 1000 ∧ (∀ k d, (k, d) ∈ ks → DE c te ((wipeD δ [j]).set j (.dat (kD k))) fun y => y = f k d) ∧ P (.lst (ks.map fun p => f p.1 p.2))) : DN c (tLc (iAny c.K tl) (gName j) tYes te [j]) δ P :=
  dn_lc (js := [j]) (fun _ h => h) (di_any (h.imp fun d ⟨ks, e, nd, hl, ht, p⟩ => by
    subst e
    refine ⟨ks.map fun p => kD p.1, rfl, by rw [List.length_map]; exact Nat.le_of_lt (small1000 hl), fun i acc => acc = (ks.take i).map fun p => f p.1 p.2, rfl, fun i d acc hd w => ?_, fun acc w => ?_⟩
    · obtain ⟨k, x, q, rfl⟩ := getElem_mem_pair hd
      refine dg_name (dt_yes (it_t rfl ((ht k x (List.mem_of_getElem? q)).imp fun y ey => ?_)))
      have w' : acc = (ks.take i).map fun p => f p.1 p.2 := w
      show acc ++ [y] = (ks.take (i + 1)).map fun p => f p.1 p.2
      rw [take_snoc q, w', ey]
    · have w' : acc = (ks.take (ks.map fun p => kD p.1).length).map fun p => f p.1 p.2 := w
      rw [w', List.length_map, List.take_length]; exact p))
/-- {key: .. for key in d}, over the pairs of a dict with text keys -/
theorem dn_dcK {tl : TE} {j : Nat} (f : Key → D → D) (h : DE c tl δ fun d => ∃ ks, d = .dic ks ∧ (ks.map (·.1)).Nodup ∧ ks.length ≤ 1000 ∧ (∀ p ∈ ks, ∃ x, p.1 = .inr x) ∧
    (∀ x d, (.inr x, d) ∈ ks → DE c tk ((wipeD δ [j]).set j (.dat (.str x))) fun k => k = .str x ∧ DE c te ((wipeD δ [j]).set j (.dat (.str x))) fun y => y = f (.inr x) d) ∧ P (.dic (ks.map fun p => (p.1, f p.1 p.2)))) : DN c (tDc (iAny c.K tl) (gName j) tYes tk te [j]) δ P :=
  dn_dc (js := [j]) (fun _ h => h) (di_any (h.imp fun d ⟨ks, e, nd, hl, hx, ht, p⟩ => by
    subst e
    refine ⟨ks.map fun p => kD p.1, rfl, by rw [List.length_map]; exact Nat.le_of_lt (small1000 hl), fun i acc => acc = (ks.take i).map fun p => (p.1, f p.1 p.2), rfl, fun i d acc hd w => ?_, fun acc w => ?_⟩
    · obtain ⟨k, y, q, rfl⟩ := getElem_mem_pair hd
      obtain ⟨x, ex⟩ := hx _ (List.mem_of_getElem? q)
      simp only at ex
      subst ex
      refine dg_name (dt_yes (it_t rfl ((ht x y (List.mem_of_getElem? q)).imp fun kd ⟨ek, z⟩ => z.imp fun y' ey => ⟨x, ek, ?_⟩)))
      have w' : acc = (ks.take i).map fun p => (p.1, f p.1 p.2) := w
      show putD acc (.inr x) y' = (ks.take (i + 1)).map fun p => (p.1, f p.1 p.2)
      rw [take_snoc q, w', ey]
      refine putD_new fun m => ?_
      rw [List.map_map] at m
      obtain ⟨p', hp', e'⟩ := List.mem_map.mp m
      obtain ⟨n, hn, en⟩ := List.getElem_of_mem hp'
      have hn2 : n < i := by simp at hn; omega
      have hnl : n < ks.length := by simp at hn; omega
      rw [List.getElem_take] at en
      have e1 : (ks.map (·.1))[n]? = (ks.map (·.1))[i]? := by
        rw [List.getElem?_map, List.getElem?_map, q, List.getElem?_eq_getElem hnl, en]
        exact congrArg some e'
      have := (List.getElem?_inj (by rw [List.length_map]; exact hnl) nd).mp e1
      omega
    · have w' : acc = (ks.take (ks.map fun p => kD p.1).length).map fun p => (p.1, f p.1 p.2) := w
      rw [w', List.length_map, List.take_length]; exact p))
end
end Mp

set_option Elab.async false
set_option linter.all false
set_option maxRecDepth 100000
set_option maxHeartbeats 4000000
namespace Mp
open PySem L2
def t_is_text (K : PySem.W.Frag) : TS :=
  (tRet (tAndV (tCB (rIsi K) (tCons (tVar 0) (tCons (tC (.ty "str")) tNil))) (tAndV (tChain (rI0 fun i j => .bl (decide (i ≤ j))) (rI0 fun i j => .bl (decide (i ≤ j))) (tVar 1) (tCB (rLenX K) (tCons (tVar 0) tNil)) (tC (.int 6))) (tCB (rAll K) (tCons (tLc (iAny K (tVar 0)) (gName 2) tYes (tOp (rInX K false) (tVar 2) (tC (.str "abcdefghijklmnopqrstuvwxyz"))) [2]) tNil)))))

def t_is_scalar (K : PySem.W.Frag) (sp_is_text : Sp) : TS :=
  (tSeq (tIfS (tAnd (tB (tCB (rIsi K) (tCons (tVar 0) (tCons (tC (.ty "int")) tNil)))) (tNot (tB (tCB (rIsi K) (tCons (tVar 0) (tCons (tC (.ty "bool")) tNil)))))) (tRet (tChain (rI0 fun i j => .bl (decide (i ≤ j))) (rI0 fun i j => .bl (decide (i ≤ j))) (tUn (rU fun i => .int (-i)) (tC (.int 999))) (tVar 0) (tC (.int 999)))) tNext)
    (tRet (tCall sp_is_text [] E0 (tCons (tVar 0) (tCons (tC (.int 0)) tNil)))))

def t_is_document (K : PySem.W.Frag) (sp_is_document sp_is_text sp_is_scalar : Sp) : TS :=
  (tSeq (tIfS (tNot (tB (tCB (rIsi K) (tCons (tVar 0) (tCons (tC (.ty "dict")) tNil))))) (tRet (tCall sp_is_scalar [] E0 (tCons (tVar 0) tNil))) tNext)
    (tSeq (tIfS (tOr (tTest (tOp (rEqX K) (tVar 1) (tC (.int 0)))) (tOr (tTest (tOp (rI0 fun i j => .bl (decide (j < i))) (tCB (rLenX K) (tCons (tVar 0) tNil)) (tC (.int 6)))) (tNot (tB (tCB (rAll K) (tCons (tLc (iAny K (tVar 0)) (gName 2) tYes (tCall sp_is_text [] E0 (tCons (tVar 2) (tCons (tC (.int 1)) tNil))) [2]) tNil)))))) (tRet (tC (.bl false))) tNext)
    (tRet (tCB (rAll K) (tCons (tLc (iAny K (tVar 0)) (gName 2) tYes (tCall sp_is_document [] E0 (tCons (tOp (rSub K) (tVar 0) (tVar 2)) (tCons (tOp (rI0 fun i j => .int (i - j)) (tVar 1) (tC (.int 1))) tNil))) [2]) tNil)))))

def t_is_state (K : PySem.W.Frag) (sp_is_document : Sp) : TS :=
  (tRet (tOrV (tOp (fun x y H Q => y = .non ∧ Q (.bl (decide (x = .non))) H) (tVar 0) (tC .non)) (tCall sp_is_document [] E0 (tCons (tVar 0) (tCons (tC (.int 5)) tNil)))))

def t_need_state (K : PySem.W.Frag) (sp_is_state : Sp) : TS :=
  (tIfS (tNot (tB (tCall sp_is_state [] E0 (tCons (tVar 0) tNil)))) tNever tNext)

def t_need_path (K : PySem.W.Frag) (sp_is_text : Sp) : TS :=
  (tIfS (tOr (tNot (tB (tCB (rIsi K) (tCons (tVar 0) (tCons (tC (.ty "tuple")) tNil))))) (tOr (tTest (tOp (rI0 fun i j => .bl (decide (j < i))) (tCB (rLenX K) (tCons (tVar 0) tNil)) (tC (.int 6)))) (tNot (tB (tCB (rAll K) (tCons (tLc (iAny K (tVar 0)) (gName 1) tYes (tCall sp_is_text [] E0 (tCons (tVar 1) (tCons (tC (.int 1)) tNil))) [1]) tNil)))))) tNever tNext)

def t_copied (K : PySem.W.Frag) (sp_copied : Sp) : TS :=
  (tRet (tIf (tB (tCB (rIsi K) (tCons (tVar 0) (tCons (tC (.ty "dict")) tNil)))) (tDc (iAny K (tVar 0)) (gName 1) tYes (tVar 1) (tCall sp_copied [] E0 (tCons (tOp (rSub K) (tVar 0) (tVar 1)) tNil)) [1]) (tVar 0)))

def t_size_of (K : PySem.W.Frag) (sp_size_of : Sp) : TS :=
  (tSeq (tIfS (tB (tCB (rIsi K) (tCons (tVar 0) (tCons (tC (.ty "dict")) tNil)))) (tRet (tOp (rI0 fun i j => .int (i + j)) (tC (.int 1)) (tCB (rSum K) (tCons (tLc (iAny K (tVar 0)) (gName 1) tYes (tCall sp_size_of [] E0 (tCons (tOp (rSub K) (tVar 0) (tVar 1)) tNil)) [1]) tNil)))) tNext)
    (tRet (tIf (tTest (tOp (fun x y H Q => y = .non ∧ Q (.bl (decide (x = .non))) H) (tVar 0) (tC .non))) (tC (.int 0)) (tC (.int 1)))))

def t_size (K : PySem.W.Frag) (sp_size_of sp_need_state : Sp) : TS :=
  (tSeq (tDrop (tCall sp_need_state [] E0 (tCons (tVar 0) tNil)))
    (tRet (tCall sp_size_of [] E0 (tCons (tVar 0) tNil))))

def t_found_at (K : PySem.W.Frag) : TS :=
  (tSeq (tFor (iAny K (tVar 1)) (gName 2) (tAsg (tIf (tB (tCB (rIsi K) (tCons (tVar 0) (tCons (tC (.ty "dict")) tNil)))) (tDGet1 (tVar 0) (tVar 2)) (tC .non)) (gName 0)))
    (tRet (tVar 0)))

def t_value_at (K : PySem.W.Frag) (sp_copied sp_found_at sp_need_path sp_need_state : Sp) : TS :=
  (tSeq (tDrop (tCall sp_need_state [] E0 (tCons (tVar 0) tNil)))
    (tSeq (tDrop (tCall sp_need_path [] E0 (tCons (tVar 1) tNil)))
    (tRet (tCall sp_copied [] E0 (tCons (tCall sp_found_at [] E0 (tCons (tVar 0) (tCons (tVar 1) tNil))) tNil)))))

def t_constant_form (K : PySem.W.Frag) : TS :=
  (tRet (tTupF (tCons (tVar 0) (tCons (tTupF (tCons (tC (.str "constant")) (tCons (tVar 0) tNil))) (tCons (tTupF (tCons (tC (.str "constant")) (tCons (tVar 0) tNil))) tNil)))))

def t_with_entries (K : PySem.W.Frag) (sp_run : Sp) : TS :=
  (tSeq (tAsg (tDc (iAny K (tVar 0)) (gName 3) tYes (tVar 3) (tOp (rSub K) (tVar 0) (tVar 3)) [3]) (gName 2))
    (tSeq (tFor (iAny K (tVar 1)) (gTup K 2 (gCons (gName 3) (gCons (gName 4) gNil))) (tSeq (tAsg (tCall sp_run [] E0 (tCons (tVar 4) (tCons (tDGet1 (tVar 0) (tVar 3)) tNil))) (gName 5))
    (tIfS (tTest (tOp (fun x y H Q => y = .non ∧ Q (.bl (decide (x = .non))) H) (tVar 5) (tC .non))) (tDrop (tDPop2 (tVar 2) (tVar 3) (tC .non))) (sDPut (tVar 2) (tVar 3) (tVar 5)))))
    (tRet (tVar 2))))

def t_run (K : PySem.W.Frag) (sp_with_entries : Sp) : TS :=
  (tSeq (tAsg (tVar 0) (gTup K 3 (gCons (gName 2) (gCons (gName 3) (gCons (gName 4) gNil)))))
    (tSeq (tIfS (tTest (tOp (fun x y H Q => y = .non ∧ Q (.bl (decide (x = .non))) H) (tVar 1) (tC .non))) (tRet (tVar 2)) tNext)
    (tSeq (tIfS (tNot (tB (tCB (rIsi K) (tCons (tVar 1) (tCons (tC (.ty "dict")) tNil))))) (tRet (tIf (tTest (tOp (rEqX K) (tVar 3) (tTupF (tCons (tC (.str "same")) tNil)))) (tVar 1) (tOp (rSub K) (tVar 3) (tC (.int 1))))) tNext)
    (tRet (tIf (tTest (tOp (rEqX K) (tOp (rSub K) (tVar 4) (tC (.int 0))) (tC (.str "constant")))) (tOp (rSub K) (tVar 4) (tC (.int 1))) (tCall sp_with_entries [] E0 (tCons (tVar 1) (tCons (tOp (rSub K) (tVar 4) (tC (.int 1))) tNil))))))))

def t_pairs_of (K : PySem.W.Frag) (a_KEEP : Addr) : TS :=
  (tRet (tCB (rTupleF K) (tCons (tLc (iAny K (tCB rSortedDX (tCons (tVar 0) tNil))) (gName 1) (tTest (tOp (rNeX K) (tOp (rSub K) (tVar 0) (tVar 1)) (tC (.ref a_KEEP)))) (tTupF (tCons (tVar 1) (tCons (tOp (rSub K) (tVar 0) (tVar 1)) tNil))) [1]) tNil)))

def t_merge_form (K : PySem.W.Frag) (sp_with_entries : Sp) : TS :=
  (tSeq (tAsg (tCall sp_with_entries [] E0 (tCons tDNewK (tCons (tVar 0) tNil))) (gName 1))
    (tRet (tTupF (tCons (tVar 1) (tCons (tTupF (tCons (tC (.str "constant")) (tCons (tVar 1) tNil))) (tCons (tTupF (tCons (tC (.str "entries")) (tCons (tVar 0) tNil))) tNil))))))

def t_inside_form (K : PySem.W.Frag) : TS :=
  (tRet (tTupF (tCons (tC .non) (tCons (tTupF (tCons (tC (.str "same")) tNil)) (tCons (tTupF (tCons (tC (.str "entries")) (tCons (tVar 0) tNil))) tNil)))))

def t_chained (K : PySem.W.Frag) (a_KEEP : Addr) (sp_run sp_pairs_of sp_chained : Sp) : TS :=
  (tSeq (tPar 2 3 (tCons (tOp (rSub K) (tVar 1) (tC (.int 1))) (tCons (tOp (rSub K) (tVar 1) (tC (.int 2))) tNil)))
    (tSeq (tIfS (tTest (tOp (rEqX K) (tOp (rSub K) (tOp (rSub K) (tVar 0) (tC (.int 1))) (tC (.int 0))) (tC (.str "constant")))) (tAsg (tTupF (tCons (tC (.str "constant")) (tCons (tCall sp_run [] E0 (tCons (tVar 1) (tCons (tOp (rSub K) (tOp (rSub K) (tVar 0) (tC (.int 1))) (tC (.int 1))) tNil))) tNil))) (gName 2)) tNext)
    (tSeq (tIfS (tTest (tOp (rEqX K) (tOp (rSub K) (tOp (rSub K) (tVar 0) (tC (.int 2))) (tC (.int 0))) (tC (.str "constant")))) (tAsg (tTupF (tCons (tC (.str "constant")) (tCons (tCall sp_run [] E0 (tCons (tVar 1) (tCons (tOp (rSub K) (tOp (rSub K) (tVar 0) (tC (.int 2))) (tC (.int 1))) tNil))) tNil))) (gName 3)) (tIfS (tTest (tOp (rEqX K) (tOp (rSub K) (tOp (rSub K) (tVar 1) (tC (.int 2))) (tC (.int 0))) (tC (.str "entries")))) (tSeq (tAsg (tTupF (tCons (tCB (rDictX K) (tCons (tOp (rSub K) (tOp (rSub K) (tVar 0) (tC (.int 2))) (tC (.int 1))) tNil)) (tCons (tCB (rDictX K) (tCons (tOp (rSub K) (tOp (rSub K) (tVar 1) (tC (.int 2))) (tC (.int 1))) tNil)) tNil))) (gTup K 2 (gCons (gName 4) (gCons (gName 5) gNil))))
    (tSeq (tAsg (tDc (iAny K (tOp rCat (tCB (rListX K) (tCons (tVar 4) tNil)) (tCB (rListX K) (tCons (tVar 5) tNil)))) (gName 7) tYes (tVar 7) (tCall sp_chained [] E0 (tCons (tDGet2 (tVar 4) (tVar 7) (tC (.ref a_KEEP))) (tCons (tDGet2 (tVar 5) (tVar 7) (tC (.ref a_KEEP))) tNil))) [7]) (gName 6))
    (tAsg (tTupF (tCons (tC (.str "entries")) (tCons (tCall sp_pairs_of [] E0 (tCons (tVar 6) tNil)) tNil))) (gName 3)))) tNext))
    (tRet (tTupF (tCons (tCall sp_run [] E0 (tCons (tVar 1) (tCons (tOp (rSub K) (tVar 0) (tC (.int 0))) tNil))) (tCons (tVar 2) (tCons (tVar 3) tNil))))))))

def t_are_entries (K : PySem.W.Frag) (sp_is_nested sp_is_text : Sp) : TS :=
  (tSeq (tIfS (tOr (tNot (tB (tCB (rIsi K) (tCons (tVar 0) (tCons (tC (.ty "dict")) tNil))))) (tOr (tTest (tOp (rI0 fun i j => .bl (decide (j < i))) (tCB (rLenX K) (tCons (tVar 0) tNil)) (tC (.int 6)))) (tNot (tB (tCB (rAll K) (tCons (tLc (iAny K (tVar 0)) (gName 2) tYes (tCall sp_is_text [] E0 (tCons (tVar 2) (tCons (tC (.int 1)) tNil))) [2]) tNil)))))) (tRet (tC (.bl false))) tNext)
    (tRet (tCB (rAll K) (tCons (tLc (iAny K (tVar 0)) (gName 2) tYes (tCall sp_is_nested [] E0 (tCons (tOp (rSub K) (tVar 0) (tVar 2)) (tCons (tVar 1) tNil))) [2]) tNil))))

def t_is_nested (K : PySem.W.Frag) (sp_is_nested sp_are_entries sp_is_document : Sp) : TS :=
  (tSeq (tIfS (tOr (tNot (tB (tCB (rIsi K) (tCons (tVar 0) (tCons (tC (.ty "tuple")) tNil))))) (tOr (tTest (tOp (rEqX K) (tVar 0) (tTupF tNil))) (tNot (tB (tCB (rIsi K) (tCons (tOp (rSub K) (tVar 0) (tC (.int 0))) (tCons (tC (.ty "str")) tNil))))))) (tRet (tC (.bl false))) tNext)
    (tSeq (tAsg (tOp (rSub K) (tVar 0) (tC (.int 0))) (gName 2))
    (tSeq (tIfS (tTest (tOp (rInX K false) (tVar 2) (tTupF (tCons (tC (.str "keep")) (tCons (tC (.str "drop")) tNil))))) (tRet (tOp (rEqX K) (tCB (rLenX K) (tCons (tVar 0) tNil)) (tC (.int 1)))) tNext)
    (tSeq (tIfS (tTest (tOp (rNeX K) (tCB (rLenX K) (tCons (tVar 0) tNil)) (tC (.int 2)))) (tRet (tC (.bl false))) tNext)
    (tSeq (tIfS (tTest (tOp (rInX K false) (tVar 2) (tTupF (tCons (tC (.str "set")) (tCons (tC (.str "default")) tNil))))) (tRet (tCall sp_is_document [] E0 (tCons (tOp (rSub K) (tVar 0) (tC (.int 1))) (tCons (tC (.int 5)) tNil)))) tNext)
    (tSeq (tIfS (tTest (tOp (rEqX K) (tVar 1) (tC (.int 0)))) (tRet (tC (.bl false))) tNext)
    (tSeq (tIfS (tTest (tOp (rInX K false) (tVar 2) (tTupF (tCons (tC (.str "merge")) (tCons (tC (.str "inside")) tNil))))) (tRet (tCall sp_are_entries [] E0 (tCons (tOp (rSub K) (tVar 0) (tC (.int 1))) (tCons (tOp (rI0 fun i j => .int (i - j)) (tVar 1) (tC (.int 1))) tNil)))) tNext)
    (tSeq (tIfS (tOr (tTest (tOp (rNeX K) (tVar 2) (tC (.str "chain")))) (tOr (tNot (tB (tCB (rIsi K) (tCons (tOp (rSub K) (tVar 0) (tC (.int 1))) (tCons (tC (.ty "tuple")) tNil))))) (tTest (tOp (rI0 fun i j => .bl (decide (j < i))) (tCB (rLenX K) (tCons (tOp (rSub K) (tVar 0) (tC (.int 1))) tNil)) (tC (.int 6)))))) (tRet (tC (.bl false))) tNext)
    (tRet (tCB (rAll K) (tCons (tLc (iAny K (tOp (rSub K) (tVar 0) (tC (.int 1)))) (gName 3) tYes (tCall sp_is_nested [] E0 (tCons (tVar 3) (tCons (tOp (rI0 fun i j => .int (i - j)) (tVar 1) (tC (.int 1))) tNil))) [3]) tNil)))))))))))

def t_is_patch (K : PySem.W.Frag) (sp_is_nested : Sp) : TS :=
  (tRet (tCall sp_is_nested [] E0 (tCons (tVar 0) (tCons (tC (.int 6)) tNil))))

def t_need_patch (K : PySem.W.Frag) (sp_is_patch : Sp) : TS :=
  (tIfS (tNot (tB (tCall sp_is_patch [] E0 (tCons (tVar 0) tNil)))) tNever tNext)

def t_form_of (K : PySem.W.Frag) (a_KEEP : Addr) (sp_merge_form sp_inside_form sp_pairs_of sp_form_of sp_chained sp_constant_form : Sp) : TS :=
  (tSeq (tAsg (tOp (rSub K) (tVar 0) (tC (.int 0))) (gName 1))
    (tSeq (tIfS (tTest (tOp (rEqX K) (tVar 1) (tC (.str "keep")))) (tRet (tC (.ref a_KEEP))) tNext)
    (tSeq (tIfS (tTest (tOp (rEqX K) (tVar 1) (tC (.str "drop")))) (tRet (tCall sp_constant_form [] E0 (tCons (tC .non) tNil))) tNext)
    (tSeq (tIfS (tTest (tOp (rEqX K) (tVar 1) (tC (.str "set")))) (tRet (tCall sp_constant_form [] E0 (tCons (tOp (rSub K) (tVar 0) (tC (.int 1))) tNil))) tNext)
    (tSeq (tIfS (tTest (tOp (rEqX K) (tVar 1) (tC (.str "default")))) (tRet (tTupF (tCons (tOp (rSub K) (tVar 0) (tC (.int 1))) (tCons (tTupF (tCons (tC (.str "same")) tNil)) (tCons (tTupF (tCons (tC (.str "entries")) (tCons (tTupF tNil) tNil))) tNil))))) tNext)
    (tSeq (tIfS (tTest (tOp (rEqX K) (tVar 1) (tC (.str "chain")))) (tSeq (tAsg (tC (.ref a_KEEP)) (gName 2))
    (tSeq (tFor (iAny K (tOp (rSub K) (tVar 0) (tC (.int 1)))) (gName 3) (tAsg (tCall sp_chained [] E0 (tCons (tVar 2) (tCons (tCall sp_form_of [] E0 (tCons (tVar 3) tNil)) tNil))) (gName 2)))
    (tRet (tVar 2)))) tNext)
    (tSeq (tAsg (tCall sp_pairs_of [] E0 (tCons (tDc (iAny K (tOp (rSub K) (tVar 0) (tC (.int 1)))) (gName 5) tYes (tVar 5) (tCall sp_form_of [] E0 (tCons (tOp (rSub K) (tOp (rSub K) (tVar 0) (tC (.int 1))) (tVar 5)) tNil)) [5]) tNil)) (gName 4))
    (tRet (tIf (tTest (tOp (rEqX K) (tVar 1) (tC (.str "merge")))) (tCall sp_merge_form [] E0 (tCons (tVar 4) tNil)) (tCall sp_inside_form [] E0 (tCons (tVar 4) tNil)))))))))))

def t_apply (K : PySem.W.Frag) (sp_copied sp_run sp_form_of sp_need_state sp_need_patch : Sp) : TS :=
  (tSeq (tDrop (tCall sp_need_patch [] E0 (tCons (tVar 0) tNil)))
    (tSeq (tDrop (tCall sp_need_state [] E0 (tCons (tVar 1) tNil)))
    (tRet (tCall sp_copied [] E0 (tCons (tCall sp_run [] E0 (tCons (tCall sp_form_of [] E0 (tCons (tVar 0) tNil)) (tCons (tVar 1) tNil))) tNil)))))
end Mp

set_option Elab.async false
set_option linter.all false
set_option maxRecDepth 100000
set_option maxHeartbeats 4000000
namespace Mp
open PySem L2

theorem then_nx {c : Cn} {tv : TS} {R : Out → Prop} {δ : List Sl} (h : DS c tv δ R) : Then c tv R (.nx δ) := h
theorem then_rt {c : Cn} {tv : TS} {R : Out → Prop} {d : D} (h : R (.rt d)) : Then c tv R (.rt d) := h
theorem gives_rt {d e : D} (h : e = d) : Gives d (.rt e) := h
theorem gives_nx {δ : List Sl} : Gives .non (.nx δ) := rfl
theorem ex_bl {b : Bool} {P : Bool → Prop} (h : P b) : ∃ x, D.bl b = .bl x ∧ P x := ⟨b, rfl, h⟩
theorem ex_ii {i j : Int} {P : Int → Int → Prop} (h : P i j) : ∃ a b, D.int i = .int a ∧ D.int j = .int b ∧ P a b := ⟨i, j, rfl, rfl, h⟩
theorem ex_sub {x y z : D} {P : D → Prop} (e : D.sub x y = some z) (h : P z) : ∃ z, D.sub x y = some z ∧ P z := ⟨z, e, h⟩

local macro_rules | `(tactic| walk_at "s") => `(tactic| first
  | with_reducible refine ds_seq ?_
  | with_reducible refine ds_ret ?_
  | with_reducible refine ds_if ?_
  | with_reducible refine ds_asg ?_
  | with_reducible refine ds_drop ?_
  | with_reducible refine ds_next ?_
  | with_reducible refine ds_retN ?_
  | with_reducible refine then_nx ?_
  | with_reducible refine then_rt ?_
  | with_reducible refine gives_rt ?_
  | with_reducible refine gives_nx
  | with_reducible refine dt_not ?_
  | with_reducible refine dt_test ?_
  | with_reducible refine dt_B ?_
  | with_reducible refine dt_and ?_
  | with_reducible refine dt_or ?_
  | with_reducible refine dt_yes ?_
  | with_reducible refine ex_bl ?_
  | with_reducible refine ex_ii ?_
  | ((with_reducible show DE _ (tVar _) _ _); refine de_var rfl ?_)
  | with_reducible refine de_int ?_
  | with_reducible refine de_str ?_
  | with_reducible refine de_bl ?_
  | with_reducible refine de_non ?_
  | with_reducible refine de_sub ?_
  | with_reducible refine de_eq ?_
  | with_reducible refine de_ne ?_
  | with_reducible refine de_in ?_
  | with_reducible refine de_add ?_
  | with_reducible refine de_subI ?_
  | with_reducible refine de_lt ?_
  | with_reducible refine de_le ?_
  | with_reducible refine de_gt ?_
  | with_reducible refine de_ge ?_
  | with_reducible refine de_neg ?_
  | with_reducible refine de_isN ?_
  | with_reducible refine de_notN ?_
  | with_reducible refine de_chainII ?_
  | with_reducible refine de_len ?_
  | with_reducible refine de_isi .str rfl ?_
  | with_reducible refine de_isi .int rfl ?_
  | with_reducible refine de_isi .bool rfl ?_
  | with_reducible refine de_isi .dict rfl ?_
  | with_reducible refine de_isi .tuple rfl ?_
  | with_reducible refine de_isi .list rfl ?_
  | with_reducible refine de_all ?_
  | with_reducible refine de_sum ?_
  | with_reducible refine de_if ?_
  | with_reducible refine de_andV ?_
  | with_reducible refine de_orV ?_
  | with_reducible refine de_notV ?_
  | with_reducible refine de_tuple ?_
  | with_reducible refine de_get1 ?_
  | with_reducible refine de_get2 ?_
  | with_reducible refine de_tup ?_
  | with_reducible refine de_call ?_
  | with_reducible refine da_nil ?_
  | with_reducible refine da_cons ?_)

def letters : Str := "abcdefghijklmnopqrstuvwxyz"
def isTextD : D → Int → Bool
  | .str s, l => decide (l ≤ s.length) && (decide ((s.length : Int) ≤ 6) && s.cps.toList.all fun n => decide (n ∈ letters.cps.toList))
  | _, _ => false
def R_is_text (ds : List D) (d : D) : Prop := ∃ v l, ds = [v, .int l] ∧ (∀ s, v = .str s → s.length ≤ 1000) ∧ d = .bl (isTextD v l)

theorem len_str {s : Str} (h : s.length ≤ 1000) : D.len (.str s) = some s.length := by
  show (if s.length ≤ sizeLine then some s.length else none) = _
  rw [if_pos (Nat.le_of_lt (small1000 h))]
/-- the sign of a text of one sign is a letter -/
def isLet : D → Bool
  | .str x => match x.cps.toList with
    | [n] => decide (n ∈ letters.cps.toList)
    | _ => false
  | _ => false
theorem p_is_text {K : PySem.W.Frag} (ds : List D) (d : D) (h : R_is_text ds d) : DS ⟨K, none⟩ (t_is_text K) (slots ["value", "least", "char"] ds) (Gives d) := by
  obtain ⟨v, l, rfl, hs, rfl⟩ := h
  show DS _ _ [.dat v, .dat (.int l), .un] _
  unfold t_is_text
  repeat walk_at "s"
  cases v with
  | str s =>
    have hl := hs s rfl
    refine it_t rfl ?_
    repeat walk_at "s"
    refine ⟨_, len_str hl, ?_⟩
    repeat walk_at "s"
    refine it_c (fun h1 => ?_) fun h1 => ?_
    · repeat walk_at "s"
      refine ⟨6, rfl, ?_⟩
      repeat walk_at "s"
      refine it_c (fun h2 => ?_) fun h2 => ?_
      · repeat walk_at "s"
        refine (dn_lcM (js := [2]) (fun d => .bl (isLet d)) (by simp) (di_any ?_)).de
        repeat walk_at "s"
        refine ⟨_, rfl, ?_, fun i d hd => ?_, ?_⟩
        · rw [List.length_map]; exact Nat.le_of_lt (small1000 hl)
        · rw [List.getElem?_map] at hd
          cases q : s.cps.toList[i]? with
          | none => rw [q] at hd; cases hd
          | some n =>
            rw [q] at hd; cases hd
            refine dg_name ?_
            repeat walk_at "s"
            exact ⟨decide (n ∈ letters.cps.toList), rfl, rfl⟩
        · refine ⟨s.cps.toList.map fun n => decide (n ∈ letters.cps.toList), ?_, ?_⟩
          · rw [List.map_map, List.map_map]; rfl
          · repeat walk_at "s"
            simp only [isTextD, h1, h2, Bool.true_and, List.all_map]
            rfl
      · repeat walk_at "s"
        simp only [isTextD, h1, h2, Bool.false_and, Bool.true_and]
    · repeat walk_at "s"
      refine it_f rfl ?_
      repeat walk_at "s"
      simp only [isTextD, h1, Bool.false_and]
  | _ =>
    refine it_f rfl ?_
    repeat walk_at "s"
    rfl

/-! ### documents: the answers, over data -/
def isScalarD : D → Bool
  | .int i => decide (-999 ≤ i) && decide (i ≤ 999)
  | .str s => isTextD (.str s) 0
  | _ => false
mutual
def isDocD : D → Int → Bool
  | .dic ks, n => !(n == 0) && (decide (ks.length ≤ 6) && (ks.all fun p => isTextD (kD p.1) 1)) && isDocK ks (n - 1)
  | .non, _ => false
  | .bl _, _ => false
  | .int i, _ => isScalarD (.int i)
  | .str s, _ => isScalarD (.str s)
  | .tup _, _ => false
  | .lst _, _ => false
def isDocK : List (Key × D) → Int → Bool
  | [], _ => true
  | (_, d) :: r, n => isDocD d n && isDocK r n
end
theorem isDocK_all : ∀ (ks : List (Key × D)) (n : Int), isDocK ks n = (ks.map fun p => isDocD p.2 n).all id
  | [], _ => by rw [isDocK]; rfl
  | (k, d) :: r, n => by rw [isDocK, isDocK_all r n]; rfl
mutual
/-- data of modest size, the keys of a dict apart -/
def D.wf : D → Prop
  | .str s => s.length ≤ 1000
  | .tup xs => xs.length ≤ 1000 ∧ D.wfL xs
  | .lst xs => xs.length ≤ 1000 ∧ D.wfL xs
  | .dic ks => ks.length ≤ 60 ∧ (ks.map (·.1)).Nodup ∧ D.wfK ks
  | .non => True
  | .bl _ => True
  | .int _ => True
def D.wfL : List D → Prop
  | [] => True
  | x :: xs => D.wf x ∧ D.wfL xs
def D.wfK : List (Key × D) → Prop
  | [] => True
  | (k, x) :: xs => (∀ s, k = .inr s → s.length ≤ 1000) ∧ D.wf x ∧ D.wfK xs
end
theorem wfK_mem : ∀ {ks : List (Key × D)} {k : Key} {d : D}, D.wfK ks → (k, d) ∈ ks → (∀ s, k = .inr s → s.length ≤ 1000) ∧ D.wf d
  | (j, x) :: ks, k, d, h, m => by
    rw [D.wfK] at h
    rcases List.mem_cons.mp m with e | m
    · cases e; exact ⟨h.1, h.2.1⟩
    · exact wfK_mem h.2.2 m
theorem wfL_mem : ∀ {xs : List D} {d : D}, D.wfL xs → d ∈ xs → D.wf d
  | x :: xs, d, h, m => by
    rw [D.wfL] at h
    rcases List.mem_cons.mp m with e | m
    · cases e; exact h.1
    · exact wfL_mem h.2 m
theorem wf_str {v : D} (h : v.wf) : ∀ s, v = .str s → s.length ≤ 1000 := fun s e => by subst e; rw [D.wf] at h; exact h
theorem wf_key {ks : List (Key × D)} {k : Key} {d : D} (h : D.wfK ks) (m : (k, d) ∈ ks) : ∀ s, kD k = .str s → s.length ≤ 1000 := fun s e => by
  cases k with
  | inl i => cases e
  | inr x => cases e; exact (wfK_mem h m).1 s rfl

def R_is_scalar (ds : List D) (d : D) : Prop := ∃ v, ds = [v] ∧ (∀ s, v = .str s → s.length ≤ 1000) ∧ v.isA .dict = false ∧ d = .bl (isScalarD v)
theorem p_is_scalar {K : PySem.W.Frag} (ds : List D) (d : D) (h : R_is_scalar ds d) : DS ⟨K, none⟩ (t_is_scalar K (SpP K R_is_text)) (slots ["value"] ds) (Gives d) := by
  obtain ⟨v, rfl, hs, hd, rfl⟩ := h
  show DS _ _ [.dat v] _
  unfold t_is_scalar
  repeat walk_at "s"
  have tail : ∀ v : D, (∀ s, v = .str s → s.length ≤ 1000) → isScalarD v = isTextD v 0 → DS ⟨K, none⟩ (tRet (tCall (SpP K R_is_text) [] E0 (tCons (tVar 0) (tCons (tC (.int 0)) tNil)))) [.dat v] (Gives (.bl (isScalarD v))) := fun v hs e => by
    repeat walk_at "s"
    refine ⟨[v, .int 0], .bl (isTextD v 0), rfl, ⟨v, 0, rfl, hs, rfl⟩, ?_⟩
    repeat walk_at "s"
    rw [e]
  cases v with
  | int i =>
    refine it_t rfl ?_
    repeat walk_at "s"
    refine it_t rfl ?_
    repeat walk_at "s"
    refine ⟨999, rfl, ?_⟩
    repeat walk_at "s"
    refine it_c (fun h1 => ?_) fun h1 => ?_
    · repeat walk_at "s"
      refine ⟨999, rfl, ?_⟩
      repeat walk_at "s"
      simp only [isScalarD, h1, Bool.true_and]
    · repeat walk_at "s"
      simp only [isScalarD, h1, Bool.false_and]
  | bl b =>
    refine it_t rfl ?_
    repeat walk_at "s"
    refine it_f rfl ?_
    refine ds_next (then_nx ?_)
    exact tail (.bl b) hs rfl
  | dic ks => cases hd
  | non => refine it_f rfl (it_f rfl (ds_next (then_nx (tail _ hs rfl))))
  | str x => refine it_f rfl (it_f rfl (ds_next (then_nx (tail _ hs rfl))))
  | tup x => refine it_f rfl (it_f rfl (ds_next (then_nx (tail _ hs rfl))))
  | lst x => refine it_f rfl (it_f rfl (ds_next (then_nx (tail _ hs rfl))))

def R_is_document : Nat → List D → D → Prop
  | 0, _, _ => False
  | n + 1, ds, d => ∃ v k, ds = [v, .int k] ∧ v.wf ∧ v.deep ≤ n ∧ d = .bl (isDocD v k)
theorem deep_dic {ks : List (Key × D)} {k : Key} {d : D} (m : (k, d) ∈ ks) : d.deep < (D.dic ks).deep := by
  rw [D.deep]; have := deepK_mem m; omega
theorem p_is_document {K : PySem.W.Frag} (n : Nat) (ds : List D) (d : D) (h : R_is_document (n + 1) ds d) : DS ⟨K, none⟩ (t_is_document K (SpP K (R_is_document n)) (SpP K R_is_text) (SpP K R_is_scalar)) (slots ["value", "depth", "key"] ds) (Gives d) := by
  obtain ⟨v, l, rfl, hw, hdp, rfl⟩ := h
  show DS _ _ [.dat v, .dat (.int l), .un] _
  unfold t_is_document
  repeat walk_at "s"
  have sc : v.isA .dict = false → isDocD v l = isScalarD v → ∀ t, DS ⟨K, none⟩ (tRet (tCall (SpP K R_is_scalar) [] E0 (tCons (tVar 0) tNil))) [.dat v, .dat (.int l), .un] (Then ⟨K, none⟩ t (Gives (.bl (isDocD v l)))) := fun h1 h2 t => by
    repeat walk_at "s"
    refine ⟨[v], .bl (isScalarD v), rfl, ⟨v, rfl, wf_str hw, h1, rfl⟩, ?_⟩
    repeat walk_at "s"
    rw [h2]
  cases v with
  | dic ks =>
    rw [D.wf] at hw
    obtain ⟨hl, nd, hk⟩ := hw
    refine it_f rfl ?_
    repeat walk_at "s"
    refine ⟨Nat.zero_le _, ?_⟩
    repeat walk_at "s"
    have e0 : (D.int l).eqv (.int 0) = (l == 0) := by rw [D.eqv]
    rw [e0]
    refine it_c (fun h1 => ?_) fun h1 => ?_
    · refine it_t rfl ?_
      repeat walk_at "s"
      rw [isDocD, h1]; rfl
    · repeat walk_at "s"
      refine ⟨ks.length, rfl, ?_⟩
      repeat walk_at "s"
      refine it_c (fun h2 => ?_) fun h2 => ?_
      · refine it_t rfl ?_
        repeat walk_at "s"
        have : ¬ ks.length ≤ 6 := by simp at h2; omega
        rw [isDocD, decide_eq_false this, h1]; rfl
      · have h2' : ks.length ≤ 6 := by simp at h2; omega
        repeat walk_at "s"
        refine (dn_lcK (fun k d => .bl (isTextD (kD k) 1)) ?_).de
        repeat walk_at "s"
        refine ⟨ks, rfl, nd, by omega, fun k d hkd => ?_, ?_⟩
        · repeat walk_at "s"
          exact ⟨[kD k, .int 1], _, rfl, ⟨kD k, 1, rfl, wf_key hk hkd, rfl⟩, rfl⟩
        refine ⟨ks.map fun p => isTextD (kD p.1) 1, by rw [List.map_map]; rfl, ?_⟩
        rw [List.all_map]
        repeat walk_at "s"
        show if (!ks.all fun p => isTextD (kD p.1) 1) = true then _ else _
        refine it_c (fun h3 => ?_) fun h3 => ?_
        · repeat walk_at "s"
          have h3' : (ks.all fun p => isTextD (kD p.1) 1) = false := by simpa using h3
          rw [isDocD, h3', h1]; simp
        · have h3' : (ks.all fun p => isTextD (kD p.1) 1) = true := by simpa using h3
          repeat walk_at "s"
          refine (dn_lcK (fun k d => .bl (isDocD d (l - 1))) ?_).de
          repeat walk_at "s"
          refine ⟨ks, rfl, nd, by omega, fun k d hkd => ?_, ?_⟩
          · repeat walk_at "s"
            refine ⟨d, sub_key nd hkd, ?_⟩
            repeat walk_at "s"
            have := deep_dic hkd
            refine ⟨[d, .int (l - 1)], _, rfl, ?_, rfl⟩
            cases n with
            | zero => omega
            | succ n => exact ⟨d, l - 1, rfl, (wfK_mem hk hkd).2, by omega, rfl⟩
          · refine ⟨ks.map fun p => isDocD p.2 (l - 1), by rw [List.map_map]; rfl, ?_⟩
            repeat walk_at "s"
            rw [isDocD, ← isDocK_all, h1, h3', decide_eq_true h2']; rfl
  | non => exact it_t rfl (sc rfl (by rw [isDocD]; rfl) _)
  | bl b => exact it_t rfl (sc rfl (by rw [isDocD]; rfl) _)
  | int b => exact it_t rfl (sc rfl (by rw [isDocD]) _)
  | str b => exact it_t rfl (sc rfl (by rw [isDocD]) _)
  | tup b => exact it_t rfl (sc rfl (by rw [isDocD]; rfl) _)
  | lst b => exact it_t rfl (sc rfl (by rw [isDocD]; rfl) _)
def isStateD : D → Bool
  | .non => true
  | d => isDocD d 5
def R_is_state (ds : List D) (d : D) : Prop := ∃ v, ds = [v] ∧ v.wf ∧ v.deep ≤ 40 ∧ d = .bl (isStateD v)
theorem p_is_state {K : PySem.W.Frag} (ds : List D) (d : D) (h : R_is_state ds d) : DS ⟨K, none⟩ (t_is_state K (SpP K (R_is_document 41))) (slots ["value"] ds) (Gives d) := by
  obtain ⟨v, rfl, hw, hd, rfl⟩ := h
  show DS _ _ [.dat v] _
  unfold t_is_state
  repeat walk_at "s"
  refine it_c (fun h => ?_) fun h => ?_
  · repeat walk_at "s"
    cases v <;> first | rfl | cases h
  · repeat walk_at "s"
    refine ⟨[v, .int 5], _, rfl, ⟨v, 5, rfl, hw, hd, rfl⟩, ?_⟩
    repeat walk_at "s"
    cases v <;> first | rfl | cases h
def R_need_state (ds : List D) (d : D) : Prop := ∃ v, ds = [v] ∧ v.wf ∧ v.deep ≤ 40 ∧ isStateD v = true ∧ d = .non
theorem p_need_state {K : PySem.W.Frag} (ds : List D) (d : D) (h : R_need_state ds d) : DS ⟨K, none⟩ (t_need_state K (SpP K R_is_state)) (slots ["value"] ds) (Gives d) := by
  obtain ⟨v, rfl, hw, hd, hs, rfl⟩ := h
  show DS _ _ [.dat v] _
  unfold t_need_state
  repeat walk_at "s"
  refine ⟨[v], .bl true, rfl, ⟨v, rfl, hw, hd, by rw [hs]⟩, ?_⟩
  repeat walk_at "s"
  refine it_f rfl ?_
  repeat walk_at "s"
/-- a path: texts of 1 to 6 letters, at most six -/
def pathD (xs : List Str) : D := .tup (xs.map .str)
def isPath (xs : List Str) : Prop := xs.length ≤ 6 ∧ ∀ x ∈ xs, isTextD (.str x) 1 = true
theorem text_len {x : Str} {l : Int} (h : isTextD (.str x) l = true) : x.length ≤ 1000 := by
  simp only [isTextD, Bool.and_eq_true, decide_eq_true_eq] at h
  omega
def R_need_path (ds : List D) (d : D) : Prop := ∃ xs, ds = [pathD xs] ∧ isPath xs ∧ d = .non
theorem p_need_path {K : PySem.W.Frag} (ds : List D) (d : D) (h : R_need_path ds d) : DS ⟨K, none⟩ (t_need_path K (SpP K R_is_text)) (slots ["value", "key"] ds) (Gives d) := by
  obtain ⟨xs, rfl, hp, rfl⟩ := h
  show DS _ _ [.dat (pathD xs), .un] _
  unfold t_need_path
  repeat walk_at "s"
  refine it_f rfl ?_
  repeat walk_at "s"
  refine ⟨(xs.map D.str).length, rfl, ?_⟩
  rw [List.length_map]
  have h6 := hp.1
  repeat walk_at "s"
  refine it_f (by simp; omega) ?_
  repeat walk_at "s"
  refine (dn_lcM (js := [1]) (fun d => .bl (isTextD d 1)) (by simp) (di_any ?_)).de
  repeat walk_at "s"
  refine ⟨_, rfl, ?_, fun i d hd => ?_, ?_⟩
  · rw [List.length_map]; exact Nat.le_of_lt (small1000 (by omega))
  · refine dg_name ?_
    repeat walk_at "s"
    rw [List.getElem?_map] at hd
    cases q : xs[i]? with
    | none => rw [q] at hd; cases hd
    | some x =>
      rw [q] at hd; cases hd
      exact ⟨[.str x, .int 1], _, rfl, ⟨.str x, 1, rfl, fun s e => by cases e; exact text_len (hp.2 x (List.mem_of_getElem? q)), rfl⟩, rfl⟩
  · refine ⟨xs.map fun x => isTextD (.str x) 1, by rw [List.map_map, List.map_map]; rfl, ?_⟩
    repeat walk_at "s"
    have : (xs.map fun x => isTextD (.str x) 1).all id = true := by
      rw [List.all_map]; exact List.all_eq_true.mpr fun x hx => hp.2 x hx
    rw [this]
    refine it_f rfl ?_
    repeat walk_at "s"
end Mp

set_option Elab.async false
set_option linter.all false
set_option maxRecDepth 100000
set_option maxHeartbeats 4000000
namespace Mp
open PySem L2
local macro_rules | `(tactic| walk_at "s") => `(tactic| first
  | with_reducible refine ds_seq ?_
  | with_reducible refine ds_ret ?_
  | with_reducible refine ds_if ?_
  | with_reducible refine ds_asg ?_
  | with_reducible refine ds_drop ?_
  | with_reducible refine ds_next ?_
  | with_reducible refine ds_retN ?_
  | with_reducible refine then_nx ?_
  | with_reducible refine then_rt ?_
  | with_reducible refine gives_rt ?_
  | with_reducible refine gives_nx
  | with_reducible refine dt_not ?_
  | with_reducible refine dt_test ?_
  | with_reducible refine dt_B ?_
  | with_reducible refine dt_and ?_
  | with_reducible refine dt_or ?_
  | with_reducible refine dt_yes ?_
  | with_reducible refine ex_bl ?_
  | with_reducible refine ex_ii ?_
  | ((with_reducible show DE _ (tVar _) _ _); refine de_var rfl ?_)
  | with_reducible refine de_int ?_
  | with_reducible refine de_str ?_
  | with_reducible refine de_bl ?_
  | with_reducible refine de_non ?_
  | with_reducible refine de_sub ?_
  | with_reducible refine de_eq ?_
  | with_reducible refine de_ne ?_
  | with_reducible refine de_in ?_
  | with_reducible refine de_add ?_
  | with_reducible refine de_subI ?_
  | with_reducible refine de_lt ?_
  | with_reducible refine de_le ?_
  | with_reducible refine de_gt ?_
  | with_reducible refine de_ge ?_
  | with_reducible refine de_neg ?_
  | with_reducible refine de_isN ?_
  | with_reducible refine de_notN ?_
  | with_reducible refine de_chainII ?_
  | with_reducible refine de_len ?_
  | with_reducible refine de_isi .str rfl ?_
  | with_reducible refine de_isi .int rfl ?_
  | with_reducible refine de_isi .bool rfl ?_
  | with_reducible refine de_isi .dict rfl ?_
  | with_reducible refine de_isi .tuple rfl ?_
  | with_reducible refine de_isi .list rfl ?_
  | with_reducible refine de_all ?_
  | with_reducible refine de_sum ?_
  | with_reducible refine de_if ?_
  | with_reducible refine de_andV ?_
  | with_reducible refine de_orV ?_
  | with_reducible refine de_notV ?_
  | with_reducible refine de_tuple ?_
  | with_reducible refine de_get1 ?_
  | with_reducible refine de_get2 ?_
  | with_reducible refine de_tup ?_
  | with_reducible refine de_call ?_
  | with_reducible refine da_nil ?_
  | with_reducible refine da_cons ?_)


/-! ### documents over an alphabet of keys, of bounded depth -/
/-- the alphabet of keys: texts that are valid keys, fewer than 60 -/
structure Alp (A : List Str) : Prop where
  few : A.length ≤ 60
  key : ∀ x ∈ A, isTextD (.str x) 1 = true
inductive Doc (A : List Str) : Nat → D → Prop
  | int (n : Nat) {i : Int} : isScalarD (.int i) = true → Doc A n (.int i)
  | str (n : Nat) {s : Str} : isScalarD (.str s) = true → Doc A n (.str s)
  | dic {n : Nat} {ks : List (Key × D)} : (ks.map (·.1)).Nodup → (∀ p ∈ ks, ∃ x ∈ A, p.1 = .inr x) → (∀ p ∈ ks, Doc A n p.2) → Doc A (n + 1) (.dic ks)
def St (A : List Str) (n : Nat) (d : D) : Prop := d = .non ∨ Doc A n d

theorem len_le_alp {α : Type} [DecidableEq α] : ∀ {xs ys : List α}, xs.Nodup → (∀ x ∈ xs, x ∈ ys) → xs.length ≤ ys.length
  | [], _, _, _ => Nat.zero_le _
  | x :: xs, ys, nd, h => by
    have hx := h x (List.mem_cons_self)
    rw [List.nodup_cons] at nd
    have := len_le_alp (xs := xs) (ys := ys.erase x) nd.2 fun y hy => by
      have hne : y ≠ x := fun e => nd.1 (e ▸ hy)
      exact (List.mem_erase_of_ne hne).mpr (h y (List.mem_cons_of_mem _ hy))
    rw [List.length_erase_of_mem hx] at this
    have : 0 < ys.length := List.length_pos_of_mem hx
    simp only [List.length_cons]; omega
theorem keys_le {α : Type} {A : List Str} {ks : List (Key × α)} (nd : (ks.map (·.1)).Nodup) (h : ∀ p ∈ ks, ∃ x ∈ A, p.1 = .inr x) : ks.length ≤ A.length := by
  have := len_le_alp (ys := A.map Sum.inr) nd fun k hk => by
    obtain ⟨p, hp, e⟩ := List.mem_map.mp hk
    obtain ⟨x, hx, e'⟩ := h p hp
    exact List.mem_map.mpr ⟨x, hx, by rw [← e, e']⟩
  simpa using this
theorem Doc.mono {A : List Str} {n m : Nat} {d : D} (h : Doc A n d) (l : n ≤ m) : Doc A m d := by
  induction h generalizing m with
  | int n h => exact .int m h
  | str n h => exact .str m h
  | dic nd hk hd ih =>
    cases m with
    | zero => omega
    | succ m => exact .dic nd hk fun p hp => ih p hp (by omega)
theorem St.mono {A : List Str} {n m : Nat} {d : D} (h : St A n d) (l : n ≤ m) : St A m d := h.imp id fun h => h.mono l
theorem wfK_of : ∀ {ks : List (Key × D)}, (∀ p ∈ ks, (∀ s, p.1 = .inr s → s.length ≤ 1000) ∧ D.wf p.2) → D.wfK ks
  | [], _ => by rw [D.wfK]; trivial
  | (k, x) :: xs, h => by
    rw [D.wfK]
    exact ⟨(h (k, x) (List.mem_cons_self)).1, (h (k, x) (List.mem_cons_self)).2, wfK_of fun p hp => h p (List.mem_cons_of_mem _ hp)⟩
theorem deepK_le {n : Nat} : ∀ {ks : List (Key × D)}, (∀ p ∈ ks, D.deep p.2 ≤ n) → D.deepK ks ≤ n
  | [], _ => by rw [D.deepK]; omega
  | (k, x) :: xs, h => by
    rw [D.deepK]
    have : D.deep x ≤ n := h (k, x) (List.mem_cons_self)
    have := deepK_le fun p hp => h p (List.mem_cons_of_mem _ hp)
    omega
theorem deepL_le {n : Nat} : ∀ {ks : List D}, (∀ p ∈ ks, D.deep p ≤ n) → D.deepL ks ≤ n
  | [], _ => by rw [D.deepL]; omega
  | x :: xs, h => by
    rw [D.deepL]
    have := h x (List.mem_cons_self)
    have := deepL_le fun p hp => h p (List.mem_cons_of_mem _ hp)
    omega
theorem Doc.wf {A : List Str} (hA : Alp A) {n : Nat} {d : D} (h : Doc A n d) : d.wf := by
  induction h with
  | int n h => rw [D.wf]; trivial
  | str n h => rw [D.wf]; exact text_len (l := 0) h
  | dic nd hk hd ih =>
    rw [D.wf]
    refine ⟨Nat.le_trans (keys_le nd hk) hA.few, nd, wfK_of fun p hp => ⟨fun s e => ?_, ih p hp⟩⟩
    obtain ⟨x, hx, e'⟩ := hk p hp
    rw [e] at e'; cases e'
    exact text_len (hA.key s hx)
theorem Doc.deep {A : List Str} {n : Nat} {d : D} (h : Doc A n d) : d.deep ≤ n := by
  induction h with
  | int n h => rw [D.deep] <;> simp
  | str n h => rw [D.deep] <;> simp
  | dic nd hk hd ih => rw [D.deep]; have := deepK_le ih; omega
theorem St.wf {A : List Str} (hA : Alp A) {n : Nat} {d : D} (h : St A n d) : d.wf := by
  rcases h with rfl | h
  · rw [D.wf]; trivial
  · exact h.wf hA
theorem St.deep {A : List Str} {n : Nat} {d : D} (h : St A n d) : d.deep ≤ n := by
  rcases h with rfl | h
  · exact Nat.zero_le _
  · exact h.deep
/-- with at most six keys in all, a document is valid -/
theorem Doc.valid {A : List Str} (hA : Alp A) (h6 : A.length ≤ 6) {n : Nat} {d : D} (h : Doc A n d) : ∀ {k : Int}, (n : Int) ≤ k → isDocD d k = true := by
  induction h with
  | int n h => intro k _; rw [isDocD]; exact h
  | str n h => intro k _; rw [isDocD]; exact h
  | @dic n ks nd hk hd ih =>
    intro k hk2
    rw [isDocD, isDocK_all, List.all_map]
    have h0 : (k == 0) = false := by simp; omega
    have h1 : ks.length ≤ 6 := Nat.le_trans (keys_le nd hk) h6
    have h2 : (ks.all fun p => isTextD (kD p.1) 1) = true := List.all_eq_true.mpr fun p hp => by
      obtain ⟨x, hx, e'⟩ := hk p hp
      rw [e']; exact hA.key x hx
    have h3 : (ks.all (id ∘ fun p => isDocD p.2 (k - 1))) = true := List.all_eq_true.mpr fun p hp => ih p hp (by omega)
    rw [h0, h2, h3, decide_eq_true h1]; rfl
theorem St.valid {A : List Str} (hA : Alp A) (h6 : A.length ≤ 6) {n : Nat} {d : D} (h : St A n d) (h5 : n ≤ 5) : isStateD d = true := by
  rcases h with rfl | h
  · rfl
  · have := h.valid hA h6 (k := 5) (by omega)
    cases d <;> first | rfl | exact this
theorem Doc.dict {A : List Str} {n : Nat} {ks : List (Key × D)} (h : Doc A n (.dic ks)) : ∃ m, n = m + 1 ∧ (ks.map (·.1)).Nodup ∧ (∀ p ∈ ks, ∃ x ∈ A, p.1 = .inr x) ∧ ∀ p ∈ ks, Doc A m p.2 := by
  cases h with
  | dic a b c => exact ⟨_, rfl, a, b, c⟩
theorem St.dict {A : List Str} {n : Nat} {ks : List (Key × D)} (h : St A n (.dic ks)) : ∃ m, n = m + 1 ∧ (ks.map (·.1)).Nodup ∧ (∀ p ∈ ks, ∃ x ∈ A, p.1 = .inr x) ∧ ∀ p ∈ ks, Doc A m p.2 := by
  rcases h with h | h
  · cases h
  · exact h.dict
theorem St.get {A : List Str} {n : Nat} {ks : List (Key × D)} (h : St A (n + 1) (.dic ks)) (k : Key) : St A n ((look ks k).getD .non) := by
  obtain ⟨m, e, _, _, hd⟩ := h.dict
  cases e
  cases q : look ks k with
  | none => exact .inl rfl
  | some d => exact .inr (hd _ (look_mem q))

section
variable {A : List Str} {K : PySem.W.Frag}
def R_copied (A : List Str) : Nat → List D → D → Prop
  | 0, _, _ => False
  | n + 1, ds, d => ∃ s, ds = [s] ∧ St A n s ∧ d = s
theorem p_copied (hA : Alp A) (n : Nat) (ds : List D) (d : D) (h : R_copied A (n + 1) ds d) : DS ⟨K, none⟩ (t_copied K (SpP K (R_copied A n))) (slots ["state", "key"] ds) (Gives d) := by
  obtain ⟨s, rfl, hs, rfl⟩ := h
  show DS _ _ [.dat d, .un] _
  unfold t_copied
  repeat walk_at "s"
  cases d with
  | dic ks =>
    refine it_t rfl ?_
    obtain ⟨m, rfl, nd, hk, hd⟩ := hs.dict
    have hl := Nat.le_trans (keys_le nd hk) hA.few
    refine (dn_dcK (fun k d => d) ?_).de
    repeat walk_at "s"
    refine ⟨ks, rfl, nd, by omega, fun p hp => let ⟨x, _, e⟩ := hk p hp; ⟨x, e⟩, fun x d hx => ?_, ?_⟩
    · repeat walk_at "s"
      refine ⟨rfl, ?_⟩
      repeat walk_at "s"
      refine ⟨d, sub_key nd hx, ?_⟩
      repeat walk_at "s"
      exact ⟨[d], d, rfl, ⟨d, rfl, .inr (hd _ hx), rfl⟩, rfl⟩
    · repeat walk_at "s"
      simp
  | _ =>
    refine it_f rfl ?_
    repeat walk_at "s"
    rfl

mutual
def sizeD : D → Int
  | .dic ks => 1 + sizeK ks
  | .non => 0
  | .bl _ => 1
  | .int _ => 1
  | .str _ => 1
  | .tup _ => 1
  | .lst _ => 1
def sizeK : List (Key × D) → Int
  | [] => 0
  | (_, d) :: r => sizeD d + sizeK r
end
theorem sizeK_sum : ∀ ks : List (Key × D), sizeK ks = (ks.map fun p => sizeD p.2).sum
  | [] => by rw [sizeK]; rfl
  | (k, d) :: r => by rw [sizeK, sizeK_sum r, List.map_cons, List.sum_cons]
def R_size_of (A : List Str) : Nat → List D → D → Prop
  | 0, _, _ => False
  | n + 1, ds, d => ∃ s, ds = [s] ∧ St A n s ∧ d = .int (sizeD s)
theorem p_size_of (hA : Alp A) (n : Nat) (ds : List D) (d : D) (h : R_size_of A (n + 1) ds d) : DS ⟨K, none⟩ (t_size_of K (SpP K (R_size_of A n))) (slots ["state", "key"] ds) (Gives d) := by
  obtain ⟨s, rfl, hs, rfl⟩ := h
  show DS _ _ [.dat s, .un] _
  unfold t_size_of
  repeat walk_at "s"
  cases s with
  | dic ks =>
    refine it_t rfl ?_
    obtain ⟨m, rfl, nd, hk, hd⟩ := hs.dict
    have hl := Nat.le_trans (keys_le nd hk) hA.few
    repeat walk_at "s"
    refine (dn_lcK (fun k d => .int (sizeD d)) ?_).de
    repeat walk_at "s"
    refine ⟨ks, rfl, nd, by omega, fun x d hx => ?_, ?_⟩
    · repeat walk_at "s"
      refine ⟨d, sub_key nd hx, ?_⟩
      repeat walk_at "s"
      exact ⟨[d], _, rfl, ⟨d, rfl, .inr (hd _ hx), rfl⟩, rfl⟩
    · refine ⟨ks.map fun p => sizeD p.2, by rw [List.map_map]; rfl, ?_⟩
      repeat walk_at "s"
      rw [sizeD, sizeK_sum]
  | non =>
    refine it_f rfl ?_
    repeat walk_at "s"
    refine it_t rfl ?_
    repeat walk_at "s"
    rw [sizeD]
  | _ =>
    refine it_f rfl ?_
    repeat walk_at "s"
    refine it_f rfl ?_
    repeat walk_at "s"
    rw [sizeD]
def R_size (A : List Str) (ds : List D) (d : D) : Prop := ∃ s, ds = [s] ∧ St A 9 s ∧ isStateD s = true ∧ d = .int (sizeD s)
theorem p_size (hA : Alp A) (ds : List D) (d : D) (h : R_size A ds d) : DS ⟨K, none⟩ (t_size K (SpP K (R_size_of A 10)) (SpP K R_need_state)) (slots ["state"] ds) (Gives d) := by
  obtain ⟨s, rfl, hs, hv, rfl⟩ := h
  show DS _ _ [.dat s] _
  unfold t_size
  repeat walk_at "s"
  refine ⟨[s], .non, rfl, ⟨s, rfl, hs.wf hA, Nat.le_trans hs.deep (by omega), hv, rfl⟩, ?_⟩
  repeat walk_at "s"
  exact ⟨[s], _, rfl, ⟨s, rfl, hs, rfl⟩, rfl⟩

def getD' : D → Str → D
  | .dic ks, x => (look ks (.inr x)).getD .non
  | _, _ => .non
def walkD (s : D) (xs : List Str) : D := xs.foldl getD' s
theorem St.getD' {n : Nat} {s : D} (h : St A n s) (x : Str) : St A n (getD' s x) := by
  cases s with
  | dic ks =>
    obtain ⟨m, rfl, _⟩ := h.dict
    exact (h.get _).mono (by omega)
  | _ => exact .inl rfl
theorem St.walk {n : Nat} : ∀ {xs : List Str} {s : D}, St A n s → St A n (walkD s xs)
  | [], _, h => h
  | x :: xs, s, h => St.walk (xs := xs) (h.getD' x)
def R_found_at (A : List Str) (ds : List D) (d : D) : Prop := ∃ s xs, ds = [s, pathD xs] ∧ xs.length ≤ 60 ∧ St A 9 s ∧ d = walkD s xs
theorem p_found_at (ds : List D) (d : D) (h : R_found_at A ds d) : DS ⟨K, none⟩ (t_found_at K) (slots ["state", "path", "key"] ds) (Gives d) := by
  obtain ⟨s, xs, rfl, hl, hs, rfl⟩ := h
  show DS _ _ [.dat s, .dat (pathD xs), .un] _
  unfold t_found_at
  repeat walk_at "s"
  refine ds_for (js := [2]) (di_any ?_)
  repeat walk_at "s"
  refine ⟨xs.map .str, rfl, ?_⟩
  refine ⟨fun i δ => ∃ z, δ = [.dat (walkD s (xs.take i)), .dat (pathD xs), z], ⟨.un, rfl⟩, fun i d δ' hd w => ?_, fun δ' w => ?_⟩
  · obtain ⟨z, rfl⟩ := w
    rw [List.getElem?_map] at hd
    cases q : xs[i]? with
    | none => rw [q] at hd; cases hd
    | some x =>
      rw [q] at hd; cases hd
      refine dg_name ?_
      repeat walk_at "s"
      have e : walkD s (xs.take (i + 1)) = getD' (walkD s (xs.take i)) x := by
        rw [List.take_succ, q]; show List.foldl _ _ (_ ++ [x]) = _; rw [List.foldl_append]; rfl
      simp only [e]
      cases walkD s (xs.take i) with
      | dic ks =>
        refine it_t rfl ?_
        repeat walk_at "s"
        refine ⟨ks, rfl, ?_⟩
        repeat walk_at "s"
        exact ⟨x, rfl, _, rfl⟩
      | _ =>
        refine it_f rfl ?_
        repeat walk_at "s"
        exact ⟨_, rfl⟩
  · obtain ⟨z, rfl⟩ := w
    rw [List.length_map, List.take_length]
    repeat walk_at "s"
    rfl
def R_value_at (A : List Str) (ds : List D) (d : D) : Prop := ∃ s xs, ds = [s, pathD xs] ∧ isPath xs ∧ St A 9 s ∧ isStateD s = true ∧ d = walkD s xs
theorem p_value_at (hA : Alp A) (ds : List D) (d : D) (h : R_value_at A ds d) : DS ⟨K, none⟩ (t_value_at K (SpP K (R_copied A 10)) (SpP K (R_found_at A)) (SpP K R_need_path) (SpP K R_need_state)) (slots ["state", "path"] ds) (Gives d) := by
  obtain ⟨s, xs, rfl, hp, hs, hv, rfl⟩ := h
  show DS _ _ [.dat s, .dat (pathD xs)] _
  unfold t_value_at
  repeat walk_at "s"
  refine ⟨[s], .non, rfl, ⟨s, rfl, hs.wf hA, Nat.le_trans hs.deep (by omega), hv, rfl⟩, ?_⟩
  repeat walk_at "s"
  refine ⟨[pathD xs], .non, rfl, ⟨xs, rfl, hp, rfl⟩, ?_⟩
  repeat walk_at "s"
  refine ⟨[s, pathD xs], _, rfl, ⟨s, xs, rfl, by have := hp.1; omega, hs, rfl⟩, ?_⟩
  repeat walk_at "s"
  exact ⟨[walkD s xs], _, rfl, ⟨_, rfl, hs.walk, rfl⟩, rfl⟩
end
end Mp

set_option Elab.async false
set_option linter.all false
set_option maxRecDepth 100000
set_option maxHeartbeats 4000000
namespace Mp
open PySem L2
local macro_rules | `(tactic| walk_at "s") => `(tactic| first
  | with_reducible refine ds_seq ?_
  | with_reducible refine ds_ret ?_
  | with_reducible refine ds_if ?_
  | with_reducible refine ds_asg ?_
  | with_reducible refine ds_drop ?_
  | with_reducible refine ds_next ?_
  | with_reducible refine ds_retN ?_
  | with_reducible refine then_nx ?_
  | with_reducible refine then_rt ?_
  | with_reducible refine gives_rt ?_
  | with_reducible refine gives_nx
  | with_reducible refine dt_not ?_
  | with_reducible refine dt_test ?_
  | with_reducible refine dt_B ?_
  | with_reducible refine dt_and ?_
  | with_reducible refine dt_or ?_
  | with_reducible refine dt_yes ?_
  | with_reducible refine ex_bl ?_
  | with_reducible refine ex_ii ?_
  | ((with_reducible show DE _ (tVar _) _ _); refine de_var rfl ?_)
  | with_reducible refine de_int ?_
  | with_reducible refine de_str ?_
  | with_reducible refine de_bl ?_
  | with_reducible refine de_non ?_
  | with_reducible refine de_sub ?_
  | with_reducible refine de_eq ?_
  | with_reducible refine de_ne ?_
  | with_reducible refine de_in ?_
  | with_reducible refine de_add ?_
  | with_reducible refine de_subI ?_
  | with_reducible refine de_lt ?_
  | with_reducible refine de_le ?_
  | with_reducible refine de_gt ?_
  | with_reducible refine de_ge ?_
  | with_reducible refine de_neg ?_
  | with_reducible refine de_isN ?_
  | with_reducible refine de_notN ?_
  | with_reducible refine de_chainII ?_
  | with_reducible refine de_len ?_
  | with_reducible refine de_isi .str rfl ?_
  | with_reducible refine de_isi .int rfl ?_
  | with_reducible refine de_isi .bool rfl ?_
  | with_reducible refine de_isi .dict rfl ?_
  | with_reducible refine de_isi .tuple rfl ?_
  | with_reducible refine de_isi .list rfl ?_
  | with_reducible refine de_all ?_
  | with_reducible refine de_sum ?_
  | with_reducible refine de_if ?_
  | with_reducible refine de_andV ?_
  | with_reducible refine de_orV ?_
  | with_reducible refine de_notV ?_
  | with_reducible refine de_tuple ?_
  | with_reducible refine de_get1 ?_
  | with_reducible refine de_get2 ?_
  | with_reducible refine de_tup ?_
  | with_reducible refine de_call ?_
  | with_reducible refine da_nil ?_
  | with_reducible refine da_cons ?_)

/-! ### texts in order -/
def leS (x y : Str) : Bool := decide (x.cps.toList ≤ y.cps.toList)
def sortS (xs : List Str) : List Str := xs.mergeSort leS
theorem leS_trans (a b c : Str) (h : leS a b = true) (g : leS b c = true) : leS a c = true := by
  unfold leS at *; rw [decide_eq_true_eq] at *; exact List.le_trans h g
theorem leS_total (a b : Str) : (leS a b || leS b a) = true := by
  unfold leS; rw [Bool.or_eq_true, decide_eq_true_eq, decide_eq_true_eq]; exact List.le_total _ _
theorem leS_anti {a b : Str} (h : leS a b = true) (g : leS b a = true) : a = b := by
  unfold leS at *; rw [decide_eq_true_eq] at *
  have e := List.le_antisymm h g
  cases a with
  | mk a => cases b with
    | mk b => cases a; cases b; cases e; rfl
theorem sortS_perm (xs : List Str) : (sortS xs).Perm xs := List.mergeSort_perm _ _
theorem sortS_pw (xs : List Str) : (sortS xs).Pairwise fun a b => leS a b = true := List.pairwise_mergeSort leS_trans leS_total xs
theorem rising_pw : ∀ (xs : List Str) (p : Str), PyProof.Rows.risingS p xs = true → (p :: xs).Pairwise fun a b => leS a b = true
  | [], p, _ => List.pairwise_singleton _ _
  | x :: r, p, h => by
    unfold PyProof.Rows.risingS at h
    rw [Bool.and_eq_true] at h
    have ih := rising_pw r x h.2
    have hpx : leS p x = true := by
      have h1 := h.1
      rw [PyProof.Rows.ltCps_eq] at h1
      unfold leS
      rw [decide_eq_true_eq, ← List.not_lt]
      simpa using h1
    rw [List.pairwise_cons]
    refine ⟨fun y hy => ?_, ih⟩
    rcases List.mem_cons.mp hy with e | hy
    · rw [e]; exact hpx
    · exact leS_trans _ _ _ hpx ((List.pairwise_cons.mp ih).1 y hy)
theorem sorted_pw : ∀ {xs : List Str}, PyProof.Rows.sortedS xs = true → xs.Pairwise fun a b => leS a b = true
  | [], _ => List.Pairwise.nil
  | x :: r, h => rising_pw r x h
theorem sort_unique {xs ys : List Str} (p : ys.Perm xs) (s : PyProof.Rows.sortedS ys = true) : ys = sortS xs :=
  List.Perm.eq_of_pairwise (fun a b _ _ => leS_anti) (sorted_pw s) (sortS_pw xs) (p.trans (sortS_perm xs).symm)
theorem sortS_mem {xs : List Str} {x : Str} : x ∈ sortS xs ↔ x ∈ xs := (sortS_perm xs).mem_iff
theorem sortS_nodup {xs : List Str} (h : xs.Nodup) : (sortS xs).Nodup := (sortS_perm xs).symm.nodup h
theorem sortS_len (xs : List Str) : (sortS xs).length = xs.length := (sortS_perm xs).length_eq

/-! ### keys once -/
def addK (ks : List Str) (k : Str) : List Str := if k ∈ ks then ks else ks ++ [k]
def uniq (xs : List Str) : List Str := xs.foldl addK []
theorem uniq_snoc (xs : List Str) (x : Str) : uniq (xs ++ [x]) = addK (uniq xs) x := by
  unfold uniq; rw [List.foldl_append]; rfl
theorem addK_mem {ks : List Str} {k x : Str} : x ∈ addK ks k ↔ x ∈ ks ∨ x = k := by
  unfold addK; split
  · next h => exact ⟨.inl, fun h' => h'.elim id fun e => e ▸ h⟩
  · simp
theorem addK_nodup {ks : List Str} {k : Str} (h : ks.Nodup) : (addK ks k).Nodup := by
  unfold addK; split
  · exact h
  · next hk =>
    rw [List.nodup_append]
    exact ⟨h, by simp, fun a ha b hb => by rw [List.mem_singleton.mp hb]; exact fun e => hk (e ▸ ha)⟩
theorem foldl_addK : ∀ (xs acc : List Str), acc.Nodup → (xs.foldl addK acc).Nodup ∧ ∀ x, x ∈ xs.foldl addK acc ↔ x ∈ acc ∨ x ∈ xs
  | [], acc, h => ⟨h, fun x => by simp⟩
  | y :: ys, acc, h => by
    obtain ⟨a, b⟩ := foldl_addK ys (addK acc y) (addK_nodup h)
    refine ⟨a, fun x => (b x).trans ?_⟩
    rw [addK_mem, List.mem_cons]
    constructor
    · rintro ((h | h) | h)
      · exact .inl h
      · exact .inr (.inl h)
      · exact .inr (.inr h)
    · rintro (h | h | h)
      · exact .inl (.inl h)
      · exact .inl (.inr h)
      · exact .inr h
theorem uniq_nodup (xs : List Str) : (uniq xs).Nodup := (foldl_addK xs [] List.nodup_nil).1
theorem uniq_mem {xs : List Str} {x : Str} : x ∈ uniq xs ↔ x ∈ xs := ((foldl_addK xs [] List.nodup_nil).2 x).trans (by simp)
/-- writing f k at k over the keys in turn -/
theorem putD_addK {f : Str → D} (ks : List Str) (k : Str) : putD (ks.map fun x => (.inr x, f x)) (.inr k) (f k) = (addK ks k).map fun x => (.inr x, f x) := by
  unfold addK
  split
  · next h =>
    unfold putD
    rw [if_pos (by rw [List.any_map]; exact List.any_eq_true.mpr ⟨k, h, by simp⟩), List.map_map]
    refine List.map_congr_left fun x hx => ?_
    show (if (Sum.inr x : Key) = .inr k then ((.inr x : Key), f k) else (.inr x, f x)) = (.inr x, f x)
    split
    · next e => cases Sum.inr.inj e; rfl
    · rfl
  · next h =>
    rw [putD_new, List.map_append]; rfl
    rw [List.map_map]
    intro m
    obtain ⟨x, hx, e⟩ := List.mem_map.mp m
    exact h (Sum.inr.inj e ▸ hx)
section
variable {c : Cn} {δ : List Sl} {t1 t2 t3 t4 : TE} {P : D → Prop}
theorem de_tup0 (h : P (.tup [])) : DE c (tTupF tNil) δ P := de_tup (da_nil ⟨[], rfl, by simp, h⟩)
theorem de_tup1 (h : DE c t1 δ fun x => P (.tup [x])) : DE c (tTupF (tCons t1 tNil)) δ P := de_tup (da_cons (h.imp fun x p => da_nil ⟨[x], rfl, by simp, p⟩))
theorem de_tup2 (h : DE c t1 δ fun x => DE c t2 δ fun y => P (.tup [x, y])) : DE c (tTupF (tCons t1 (tCons t2 tNil))) δ P :=
  de_tup (da_cons (h.imp fun x p => da_cons (p.imp fun y p => da_nil ⟨[x, y], rfl, by simp, p⟩)))
theorem de_tup3 (h : DE c t1 δ fun x => DE c t2 δ fun y => DE c t3 δ fun z => P (.tup [x, y, z])) : DE c (tTupF (tCons t1 (tCons t2 (tCons t3 tNil)))) δ P :=
  de_tup (da_cons (h.imp fun x p => da_cons (p.imp fun y p => da_cons (p.imp fun z p => da_nil ⟨[x, y, z], rfl, by simp, p⟩))))
theorem de_tup4 (h : DE c t1 δ fun x => DE c t2 δ fun y => DE c t3 δ fun z => DE c t4 δ fun w => P (.tup [x, y, z, w])) : DE c (tTupF (tCons t1 (tCons t2 (tCons t3 (tCons t4 tNil))))) δ P :=
  de_tup (da_cons (h.imp fun x p => da_cons (p.imp fun y p => da_cons (p.imp fun z p => da_cons (p.imp fun w p => da_nil ⟨[x, y, z, w], rfl, by simp, p⟩)))))
end
section
variable {c : Cn} {δ : List Sl} {wi : TI} {g : TG} {te tk : TE} {vs js : List Nat} {P : D → Prop}
/-- {k: f k for k in xs}, the keys with repeats -/
theorem dn_dcU (f : Str → D) (hjs : ∀ j, j ∈ js → j ∈ vs) (h : DI c wi δ fun xs => ∃ ks : List Str, xs = ks.map .str ∧ xs.length ≤ 1000 ∧ (∀ x ∈ ks, DG c g js (wipeD δ vs) (.str x) fun δ2 => DE c tk δ2 fun k => k = .str x ∧ DE c te δ2 fun y => y = f x) ∧ P (.dic ((uniq ks).map fun x => (.inr x, f x)))) : DN c (tDc wi g tYes tk te vs) δ P :=
  dn_dc hjs (h.imp fun xs ⟨ks, ex, hl, ht, p⟩ => ⟨Nat.le_of_lt (small1000 hl), fun i acc => acc = (uniq (ks.take i)).map fun x => (.inr x, f x), rfl, fun i d acc hd w => by
    subst ex
    rw [List.getElem?_map] at hd
    cases q : ks[i]? with
    | none => rw [q] at hd; cases hd
    | some x =>
      rw [q] at hd
      cases hd
      refine fun G0 H0 G H σ v Q b e hv k => ht x (List.mem_of_getElem? q) G0 H0 G H σ v Q b e hv fun δ' σ' p' => k δ' σ' (dt_yes (it_t rfl (p'.imp fun kd ⟨ek, z⟩ => z.imp fun y ey => ⟨x, ek, ?_⟩)))
      have w' : acc = (uniq (ks.take i)).map fun x => (.inr x, f x) := w
      show putD acc (.inr x) y = (uniq (ks.take (i + 1))).map fun x => (.inr x, f x)
      rw [w', ey, putD_addK, List.take_succ, q]
      show _ = (uniq (ks.take i ++ [x])).map _
      rw [uniq_snoc], fun acc w => by
      subst ex
      have w' : acc = (uniq (ks.take (ks.map D.str).length)).map fun x => (.inr x, f x) := w
      rw [w', List.length_map, List.take_length]; exact p⟩)
end

/-! ### forms -/
inductive Fm
  | con (no : D) (sc : Option D) (d : D)
  | ent (no : D) (sc : Option D) (ps : List (Str × Fm))
def Fm.no : Fm → D
  | .con no _ _ => no
  | .ent no _ _ => no
def Fm.sc : Fm → Option D
  | .con _ sc _ => sc
  | .ent _ sc _ => sc
def Fm.keep : Fm := .ent .non none []
def scD : Option D → D
  | none => .tup [.str "same"]
  | some d => .tup [.str "constant", d]
mutual
def Fm.toD : Fm → D
  | .con no sc d => .tup [no, scD sc, .tup [.str "constant", d]]
  | .ent no sc ps => .tup [no, scD sc, .tup [.str "entries", .tup (psD ps)]]
def psD : List (Str × Fm) → List D
  | [] => []
  | (k, f) :: r => .tup [.str k, f.toD] :: psD r
end
theorem psD_map : ∀ ps : List (Str × Fm), psD ps = ps.map fun p => .tup [.str p.1, p.2.toD]
  | [] => by rw [psD]; rfl
  | (k, f) :: r => by rw [psD, psD_map r]; rfl
def entD : Fm → D
  | .con _ _ d => .tup [.str "constant", d]
  | .ent _ _ ps => .tup [.str "entries", .tup (psD ps)]
theorem toD_eq (f : Fm) : f.toD = .tup [f.no, scD f.sc, entD f] := by cases f <;> rw [Fm.toD] <;> rfl
def lookF : List (Str × Fm) → Str → Option Fm
  | [], _ => none
  | (j, f) :: r, k => if j = k then some f else lookF r k
def putV (acc : List (Key × D)) (k : Str) : D → List (Key × D)
  | .non => dropD acc (.inr k)
  | v => putD acc (.inr k) v
mutual
def Fm.run : Fm → D → D
  | .con no sc d, s => match s with
    | .non => no
    | .dic _ => d
    | s => sc.getD s
  | .ent no sc ps, s => match s with
    | .non => no
    | .dic ks => .dic (entsRun ps ks ks)
    | s => sc.getD s
def entsRun : List (Str × Fm) → List (Key × D) → List (Key × D) → List (Key × D)
  | [], _, acc => acc
  | (k, f) :: r, ks, acc => entsRun r ks (putV acc k (f.run ((look ks (.inr k)).getD .non)))
end
inductive FmOk (A : List Str) : Nat → Fm → Prop
  | con {n : Nat} {no : D} {sc : Option D} {d : D} : St A n no → (∀ e, sc = some e → St A n e) → St A n d → FmOk A n (.con no sc d)
  | ent {n : Nat} {no : D} {sc : Option D} {ps : List (Str × Fm)} : St A (n + 1) no → (∀ e, sc = some e → St A (n + 1) e) → (ps.map (·.1)).Nodup → (∀ p ∈ ps, p.1 ∈ A) → (∀ p ∈ ps, FmOk A n p.2) → FmOk A (n + 1) (.ent no sc ps)
  | nil {n : Nat} {no : D} {sc : Option D} : St A n no → (∀ e, sc = some e → St A n e) → FmOk A n (.ent no sc [])
structure PsOk (A : List Str) (n : Nat) (ps : List (Str × Fm)) : Prop where
  nd : (ps.map (·.1)).Nodup
  mem : ∀ p ∈ ps, p.1 ∈ A
  ok : ∀ p ∈ ps, FmOk A n p.2
section
variable {A : List Str} {K : PySem.W.Frag}
theorem FmOk.mono {n m : Nat} {f : Fm} (h : FmOk A n f) (l : n ≤ m) : FmOk A m f := by
  induction h generalizing m with
  | con a b c => exact .con (a.mono l) (fun e h => (b e h).mono l) (c.mono l)
  | ent a b nd hk hd ih =>
    cases m with
    | zero => omega
    | succ m => exact .ent (a.mono l) (fun e h => (b e h).mono l) nd hk fun p hp => ih p hp (by omega)
  | nil a b => exact .nil (a.mono l) fun e h => (b e h).mono l
theorem PsOk.mono {n m : Nat} {ps : List (Str × Fm)} (h : PsOk A n ps) (l : n ≤ m) : PsOk A m ps := ⟨h.nd, h.mem, fun p hp => (h.ok p hp).mono l⟩
theorem PsOk.nil {n : Nat} : PsOk A n [] := ⟨List.nodup_nil, (fun p h => by cases h), (fun p h => by cases h)⟩
theorem FmOk.ps {n : Nat} {no : D} {sc : Option D} {ps : List (Str × Fm)} (h : FmOk A (n + 1) (.ent no sc ps)) : PsOk A n ps := by
  cases h with
  | ent a b c d e => exact ⟨c, d, e⟩
  | nil a b => exact .nil
theorem FmOk.ps0 {no : D} {sc : Option D} {ps : List (Str × Fm)} (h : FmOk A 0 (.ent no sc ps)) : ps = [] := by
  cases h; rfl
theorem FmOk.hno {n : Nat} {f : Fm} (h : FmOk A n f) : St A n f.no := by cases h <;> assumption
theorem FmOk.hsc {n : Nat} {f : Fm} (h : FmOk A n f) : ∀ e, f.sc = some e → St A n e := by cases h <;> assumption
theorem FmOk.hcon {n : Nat} {no : D} {sc : Option D} {d : D} (h : FmOk A n (.con no sc d)) : St A n d := by cases h; assumption
theorem PsOk.len {n : Nat} {ps : List (Str × Fm)} (h : PsOk A n ps) : ps.length ≤ A.length := by
  have := len_le_alp h.nd fun x hx => by
    obtain ⟨p, hp, e⟩ := List.mem_map.mp hx
    rw [← e]; exact h.mem p hp
  simpa using this
theorem PsOk.tail {n : Nat} {p : Str × Fm} {ps : List (Str × Fm)} (h : PsOk A n (p :: ps)) : PsOk A n ps :=
  ⟨(List.nodup_cons.mp h.nd).2, fun q hq => h.mem q (List.mem_cons_of_mem _ hq), fun q hq => h.ok q (List.mem_cons_of_mem _ hq)⟩
/-- the pairs of a dict that is a document -/
structure KsOk (A : List Str) (n : Nat) (ks : List (Key × D)) : Prop where
  nd : (ks.map (·.1)).Nodup
  mem : ∀ p ∈ ks, ∃ x ∈ A, p.1 = .inr x
  ok : ∀ p ∈ ks, Doc A n p.2
theorem KsOk.doc {n : Nat} {ks : List (Key × D)} (h : KsOk A n ks) : Doc A (n + 1) (.dic ks) := .dic h.nd h.mem h.ok
theorem KsOk.st {n : Nat} {ks : List (Key × D)} (h : KsOk A n ks) : St A (n + 1) (.dic ks) := .inr h.doc
theorem KsOk.of {n : Nat} {ks : List (Key × D)} (h : St A n (.dic ks)) : ∃ m, n = m + 1 ∧ KsOk A m ks :=
  let ⟨m, e, a, b, c⟩ := h.dict; ⟨m, e, a, b, c⟩
theorem KsOk.len {n : Nat} {ks : List (Key × D)} (h : KsOk A n ks) : ks.length ≤ A.length := keys_le h.nd h.mem
theorem KsOk.drop {n : Nat} {ks : List (Key × D)} (h : KsOk A n ks) (k : Key) : KsOk A n (dropD ks k) := by
  have sub : ∀ p, p ∈ dropD ks k → p ∈ ks := fun p hp => (List.mem_filter.mp hp).1
  refine ⟨?_, fun p hp => h.mem p (sub p hp), fun p hp => h.ok p (sub p hp)⟩
  exact List.Nodup.sublist (List.filter_sublist.map _) h.nd
theorem KsOk.put {n : Nat} {ks : List (Key × D)} (h : KsOk A n ks) {x : Str} (hx : x ∈ A) {d : D} (hd : Doc A n d) : KsOk A n (putD ks (.inr x) d) := by
  unfold putD
  split
  · refine ⟨?_, fun p hp => ?_, fun p hp => ?_⟩
    · have : (ks.map fun p => if p.1 = .inr x then (p.1, d) else p).map (·.1) = ks.map (·.1) := by
        rw [List.map_map]; refine List.map_congr_left fun p _ => ?_
        show (if p.1 = .inr x then (p.1, d) else p).1 = p.1
        split <;> rfl
      rw [this]; exact h.nd
    · obtain ⟨q, hq, e⟩ := List.mem_map.mp hp
      have := h.mem q hq
      split at e <;> subst e <;> exact this
    · obtain ⟨q, hq, e⟩ := List.mem_map.mp hp
      have := h.ok q hq
      split at e <;> subst e
      · exact hd
      · exact this
  · next hn =>
    refine ⟨?_, fun p hp => ?_, fun p hp => ?_⟩
    · rw [List.map_append, List.nodup_append]
      refine ⟨h.nd, by simp, fun a ha b hb => ?_⟩
      simp only [List.map_cons, List.map_nil, List.mem_singleton] at hb
      subst hb
      intro e
      subst e
      obtain ⟨p, hp, e⟩ := List.mem_map.mp ha
      exact hn (List.any_eq_true.mpr ⟨p, hp, by simpa using e⟩)
    · rcases List.mem_append.mp hp with hp | hp
      · exact h.mem p hp
      · rw [List.mem_singleton.mp hp]; exact ⟨x, hx, rfl⟩
    · rcases List.mem_append.mp hp with hp | hp
      · exact h.ok p hp
      · rw [List.mem_singleton.mp hp]; exact hd
theorem KsOk.putV {n : Nat} {ks : List (Key × D)} (h : KsOk A n ks) {x : Str} (hx : x ∈ A) {d : D} (hd : St A n d) : KsOk A n (putV ks x d) := by
  rcases hd with rfl | hd
  · exact h.drop _
  · cases d <;> first | exact h.put hx hd | exact h.drop _
theorem KsOk.get {n : Nat} {ks : List (Key × D)} (h : KsOk A n ks) (k : Key) : St A n ((look ks k).getD .non) := h.st.get k
mutual
theorem run_ok : ∀ (f : Fm) {n : Nat} {s : D}, FmOk A n f → St A n s → St A n (f.run s)
  | .con no sc d, n, s, hf, hs => by
    have e : ∀ s', St A n s' → St A n (sc.getD s') := fun s' h => by
      cases q : sc with
      | none => exact h
      | some x => exact hf.hsc x q
    rw [Fm.run.eq_def]
    cases s with
    | non => exact hf.hno
    | dic ks => exact hf.hcon
    | _ => exact e _ hs
  | .ent no sc ps, n, s, hf, hs => by
    have e : ∀ s', St A n s' → St A n (sc.getD s') := fun s' h => by
      cases q : sc with
      | none => exact h
      | some x => exact hf.hsc x q
    rw [Fm.run.eq_def]
    cases s with
    | non => exact hf.hno
    | dic ks =>
      obtain ⟨m', rfl, hk⟩ := KsOk.of hs
      have hp := hf.ps
      exact (ents_ok ps hp hk hk).st
    | _ => exact e _ hs
theorem ents_ok : ∀ (ps : List (Str × Fm)) {n : Nat} {ks acc : List (Key × D)}, PsOk A n ps → KsOk A n ks → KsOk A n acc → KsOk A n (entsRun ps ks acc)
  | [], n, ks, acc, _, _, h => by rw [entsRun]; exact h
  | (k, f) :: r, n, ks, acc, hp, hk, h => by
    rw [entsRun]
    exact ents_ok r hp.tail hk (h.putV (hp.mem (k, f) List.mem_cons_self) (run_ok f (hp.ok (k, f) List.mem_cons_self) (hk.get _)))
end
theorem entsRun_snoc : ∀ (ps : List (Str × Fm)) (k : Str) (f : Fm) (ks acc : List (Key × D)), entsRun (ps ++ [(k, f)]) ks acc = putV (entsRun ps ks acc) k (f.run ((look ks (.inr k)).getD .non))
  | [], k, f, ks, acc => by rw [List.nil_append, entsRun, entsRun, entsRun]
  | (j, g) :: r, k, f, ks, acc => by rw [List.cons_append, entsRun, entsRun_snoc r, entsRun]
end
end Mp

set_option Elab.async false
set_option linter.all false
set_option maxRecDepth 100000
set_option maxHeartbeats 4000000
namespace Mp
open PySem L2
local macro_rules | `(tactic| walk_at "s") => `(tactic| first
  | with_reducible refine ds_seq ?_
  | with_reducible refine ds_ret ?_
  | with_reducible refine ds_if ?_
  | with_reducible refine ds_asg ?_
  | with_reducible refine ds_drop ?_
  | with_reducible refine ds_next ?_
  | with_reducible refine ds_retN ?_
  | with_reducible refine then_nx ?_
  | with_reducible refine then_rt ?_
  | with_reducible refine gives_rt ?_
  | with_reducible refine gives_nx
  | with_reducible refine dt_not ?_
  | with_reducible refine dt_test ?_
  | with_reducible refine dt_B ?_
  | with_reducible refine dt_and ?_
  | with_reducible refine dt_or ?_
  | with_reducible refine dt_yes ?_
  | with_reducible refine ex_bl ?_
  | with_reducible refine ex_ii ?_
  | ((with_reducible show DE _ (tVar _) _ _); refine de_var rfl ?_)
  | with_reducible refine de_int ?_
  | with_reducible refine de_str ?_
  | with_reducible refine de_bl ?_
  | with_reducible refine de_non ?_
  | with_reducible refine de_sub ?_
  | with_reducible refine de_eq ?_
  | with_reducible refine de_ne ?_
  | with_reducible refine de_in ?_
  | with_reducible refine de_add ?_
  | with_reducible refine de_subI ?_
  | with_reducible refine de_lt ?_
  | with_reducible refine de_le ?_
  | with_reducible refine de_gt ?_
  | with_reducible refine de_ge ?_
  | with_reducible refine de_neg ?_
  | with_reducible refine de_isN ?_
  | with_reducible refine de_notN ?_
  | with_reducible refine de_chainII ?_
  | with_reducible refine de_len ?_
  | with_reducible refine de_isi .str rfl ?_
  | with_reducible refine de_isi .int rfl ?_
  | with_reducible refine de_isi .bool rfl ?_
  | with_reducible refine de_isi .dict rfl ?_
  | with_reducible refine de_isi .tuple rfl ?_
  | with_reducible refine de_isi .list rfl ?_
  | with_reducible refine de_all ?_
  | with_reducible refine de_sum ?_
  | with_reducible refine de_if ?_
  | with_reducible refine de_andV ?_
  | with_reducible refine de_orV ?_
  | with_reducible refine de_notV ?_
  | with_reducible refine de_tuple ?_
  | with_reducible refine de_get1 ?_
  | with_reducible refine de_get2 ?_
  | with_reducible refine de_tup0 ?_
  | with_reducible refine de_tup1 ?_
  | with_reducible refine de_tup2 ?_
  | with_reducible refine de_tup3 ?_
  | with_reducible refine de_tup4 ?_
  | with_reducible refine de_tup ?_
  | with_reducible refine de_call ?_
  | with_reducible refine da_nil ?_
  | with_reducible refine da_cons ?_)

section
variable {A : List Str} {K : PySem.W.Frag}
def R_constant_form (ds : List D) (d : D) : Prop := ∃ s, ds = [s] ∧ d = (Fm.con s (some s) s).toD
theorem p_constant_form (ds : List D) (d : D) (h : R_constant_form ds d) : DS ⟨K, none⟩ (t_constant_form K) (slots ["state"] ds) (Gives d) := by
  obtain ⟨s, rfl, rfl⟩ := h
  show DS _ _ [.dat s] _
  unfold t_constant_form
  repeat walk_at "s"
  rw [Fm.toD]; rfl

def R_run (A : List Str) : Nat → List D → D → Prop
  | 0, _, _ => False
  | n + 1, ds, d => ∃ f s, ds = [Fm.toD f, s] ∧ FmOk A n f ∧ St A n s ∧ d = f.run s
def R_with (A : List Str) : Nat → List D → D → Prop
  | 0, _, _ => False
  | n + 1, ds, d => ∃ ps ks, ds = [.dic ks, .tup (psD ps)] ∧ PsOk A n ps ∧ KsOk A n ks ∧ d = .dic (entsRun ps ks ks)
theorem dg_pair {c : Cn} {δ : List Sl} {x y : D} {i j : Nat} {P : List Sl → Prop} (p : P ((δ.set i (.dat x)).set j (.dat y))) : DG c (gTup c.K 2 (gCons (gName i) (gCons (gName j) gNil))) [i, j] δ (.tup [x, y]) P :=
  dg_tup rfl (dgs_cons (js := [i]) (ks := [j]) (dg_name (dgs_cons (js := [j]) (ks := []) (dg_name (dgs_nil p)))))
theorem p_with_entries (hA : Alp A) (n : Nat) (ds : List D) (d : D) (h : R_with A (n + 1) ds d) : DS ⟨K, none⟩ (t_with_entries K (SpP K (R_run A (n + 1)))) (slots ["state", "pairs", "result", "key", "form", "value"] ds) (Gives d) := by
  obtain ⟨ps, ks, rfl, hp, hk, rfl⟩ := h
  show DS _ _ [.dat (.dic ks), .dat (.tup (psD ps)), .un, .un, .un, .un] _
  unfold t_with_entries
  have hl := Nat.le_trans hk.len hA.few
  have hpl := Nat.le_trans hp.len hA.few
  refine ds_seq (ds_asgN (dn_dcK (fun k d => d) ?_))
  repeat walk_at "s"
  refine ⟨ks, rfl, hk.nd, by omega, fun p hp => let ⟨x, _, e⟩ := hk.mem p hp; ⟨x, e⟩, fun x d hx => ?_, ?_⟩
  · repeat walk_at "s"
    refine ⟨rfl, ?_⟩
    repeat walk_at "s"
    exact ⟨d, sub_key hk.nd hx, rfl⟩
  have e0 : (ks.map fun p => (p.1, p.2)) = ks := by simp
  rw [e0]
  refine then_nx (ds_seq (ds_for (js := [3, 4]) (di_any ?_)))
  repeat walk_at "s"
  refine ⟨psD ps, rfl, fun i δ => ∃ z1 z2 z3, δ = [.dat (.dic ks), .dat (.tup (psD ps)), .own (.dic (entsRun (ps.take i) ks ks)), z1, z2, z3], ⟨.un, .un, .un, ?_⟩, fun i d δ' hd w => ?_, fun δ' w => ?_⟩
  · rw [List.take_zero, entsRun]; rfl
  · obtain ⟨z1, z2, z3, rfl⟩ := w
    rw [psD_map, List.getElem?_map] at hd
    cases q : ps[i]? with
    | none => rw [q] at hd; cases hd
    | some p =>
      rw [q] at hd; cases hd
      obtain ⟨k, f⟩ := p
      have hm := List.mem_of_getElem? q
      have hti : PsOk A n (ps.take i) := ⟨List.Nodup.sublist ((List.take_sublist i ps).map _) hp.nd, fun p h => hp.mem p (List.mem_of_mem_take h), fun p h => hp.ok p (List.mem_of_mem_take h)⟩
      have hacc := ents_ok _ hti hk hk
      refine dg_pair ?_
      refine ds_seq (ds_asg ?_)
      repeat walk_at "s"
      refine ⟨ks, rfl, ?_⟩
      repeat walk_at "s"
      refine ⟨k, rfl, ?_⟩
      repeat walk_at "s"
      have hs := hk.get (.inr k)
      refine ⟨[f.toD, (look ks (.inr k)).getD .non], _, rfl, ⟨f, _, rfl, hp.ok _ hm, hs, rfl⟩, ?_⟩
      repeat walk_at "s"
      have e1 : entsRun (ps.take (i + 1)) ks ks = putV (entsRun (ps.take i) ks ks) k (f.run ((look ks (.inr k)).getD .non)) := by
        rw [List.take_succ, q]; exact entsRun_snoc _ _ _ _ _
      simp only [e1]
      have hr := run_ok f (hp.ok _ hm) hs
      generalize f.run ((look ks (.inr k)).getD .non) = v at hr ⊢
      cases v with
      | non =>
        refine it_t rfl (ds_dpop2 rfl ?_)
        repeat walk_at "s"
        exact ⟨k, rfl, _, _, _, rfl⟩
      | _ =>
        refine it_f rfl (ds_dput rfl (Nat.le_trans (Nat.le_trans hacc.len hA.few) (by omega)) ?_)
        repeat walk_at "s"
        exact ⟨k, rfl, _, _, _, rfl⟩
  · obtain ⟨z1, z2, z3, rfl⟩ := w
    rw [psD_map, List.length_map, List.take_length]
    refine then_nx (ds_pub 2 rfl ?_)
    repeat walk_at "s"
    rfl
theorem scD_eqv (sc : Option D) : D.eqv (scD sc) (.tup [.str "same"]) = sc.isNone := by
  cases sc with
  | none =>
    show D.eqv (.tup [.str "same"]) _ = true
    simp only [D.eqv, D.eqvL]; decide
  | some d =>
    show D.eqv (.tup [.str "constant", d]) _ = false
    simp only [D.eqv, D.eqvL]
    have : ((("constant" : Str)) == "same") = false := by decide
    rw [this]; rfl
theorem scD_deep {n : Nat} {sc : Option D} (h : ∀ e, sc = some e → St A n e) : (scD sc).deep ≤ n + 1 := by
  cases sc with
  | none => show D.deep (.tup [.str "same"]) ≤ _; simp only [D.deep, D.deepL]; omega
  | some d => show D.deep (.tup [.str "constant", d]) ≤ _; have := (h d rfl).deep; simp only [D.deep, D.deepL]; omega
theorem eqv_str (x y : Str) : D.eqv (.str x) (.str y) = (x == y) := by rw [D.eqv]
theorem dg_three {c : Cn} {δ : List Sl} {x y z : D} {i j k : Nat} {P : List Sl → Prop} (p : P (((δ.set i (.dat x)).set j (.dat y)).set k (.dat z))) : DG c (gTup c.K 3 (gCons (gName i) (gCons (gName j) (gCons (gName k) gNil)))) [i, j, k] δ (.tup [x, y, z]) P :=
  dg_tup rfl (dgs_cons (js := [i]) (ks := [j, k]) (dg_name (dgs_cons (js := [j]) (ks := [k]) (dg_name (dgs_cons (js := [k]) (ks := []) (dg_name (dgs_nil p)))))))
theorem p_run (hA : Alp A) (n : Nat) (hn : n ≤ 40) (ds : List D) (d : D) (h : R_run A (n + 1) ds d) : DS ⟨K, none⟩ (t_run K (SpP K (R_with A n))) (slots ["form", "state", "nothing", "scalar", "entries"] ds) (Gives d) := by
  obtain ⟨f, s, rfl, hf, hs, rfl⟩ := h
  show DS _ _ [.dat f.toD, .dat s, .un, .un, .un] _
  unfold t_run
  rw [toD_eq]
  refine ds_seq (ds_asgG (js := [2, 3, 4]) ?_)
  repeat walk_at "s"
  refine dg_three (then_nx ?_)
  repeat walk_at "s"
  have hsc : s.isA .dict = false → s.isN = false → f.run s = f.sc.getD s := fun h1 h2 => by
    cases f <;> rw [Fm.run.eq_def] <;> cases s <;> first | (cases h1; done) | (cases h2; done) | rfl
  have scal : s.isA .dict = false → s.isN = false → ∀ t, DS ⟨K, none⟩ (tRet (tIf (tTest (tOp (rEqX K) (tVar 3) (tTupF (tCons (tC (.str "same")) tNil)))) (tVar 1) (tOp (rSub K) (tVar 3) (tC (.int 1))))) [.dat (.tup [f.no, scD f.sc, entD f]), .dat s, .dat f.no, .dat (scD f.sc), .dat (entD f)] (Then ⟨K, none⟩ t (Gives (f.run s))) := fun h1 h2 t => by
    repeat walk_at "s"
    have hd := scD_deep hf.hsc
    refine ⟨by omega, ?_⟩
    repeat walk_at "s"
    rw [scD_eqv, hsc h1 h2]
    cases f.sc with
    | none =>
      refine it_t rfl ?_
      repeat walk_at "s"
      rfl
    | some e =>
      refine it_f rfl ?_
      repeat walk_at "s"
      exact ⟨e, rfl, rfl⟩
  cases s with
  | non =>
    refine it_t rfl ?_
    repeat walk_at "s"
    cases f <;> rw [Fm.run.eq_def] <;> rfl
  | dic ks =>
    refine it_f rfl ?_
    repeat walk_at "s"
    refine it_f rfl ?_
    repeat walk_at "s"
    cases f with
    | con no sc d =>
      refine ⟨.str "constant", rfl, ?_⟩
      repeat walk_at "s"
      refine ⟨Nat.zero_le _, ?_⟩
      repeat walk_at "s"
      refine it_t (by rw [eqv_str]; decide) ?_
      repeat walk_at "s"
      refine ⟨d, rfl, ?_⟩
      repeat walk_at "s"
      rw [Fm.run.eq_def]
    | ent no sc ps =>
      obtain ⟨m', rfl, hk⟩ := KsOk.of hs
      have hp := hf.ps
      refine ⟨.str "entries", rfl, ?_⟩
      repeat walk_at "s"
      refine ⟨Nat.zero_le _, ?_⟩
      repeat walk_at "s"
      refine it_f (by rw [eqv_str]; decide) ?_
      repeat walk_at "s"
      refine ⟨.tup (psD ps), rfl, ?_⟩
      repeat walk_at "s"
      refine ⟨[.dic ks, .tup (psD ps)], _, rfl, ⟨ps, ks, rfl, hp, hk, rfl⟩, ?_⟩
      repeat walk_at "s"
      rw [Fm.run.eq_def]
  | _ =>
    refine it_f rfl ?_
    repeat walk_at "s"
    refine it_t rfl (scal rfl rfl _)

def R_inside_form (ds : List D) (d : D) : Prop := ∃ ps, ds = [.tup (psD ps)] ∧ d = (Fm.ent .non none ps).toD
theorem p_inside_form (ds : List D) (d : D) (h : R_inside_form ds d) : DS ⟨K, none⟩ (t_inside_form K) (slots ["pairs"] ds) (Gives d) := by
  obtain ⟨ps, rfl, rfl⟩ := h
  show DS _ _ [.dat _] _
  unfold t_inside_form
  repeat walk_at "s"
  rw [Fm.toD]; rfl
def mergeFm (ps : List (Str × Fm)) : Fm := .ent (.dic (entsRun ps [] [])) (some (.dic (entsRun ps [] []))) ps
def R_merge_form (A : List Str) (n : Nat) (ds : List D) (d : D) : Prop := ∃ ps, ds = [.tup (psD ps)] ∧ PsOk A n ps ∧ d = (mergeFm ps).toD
theorem KsOk.nil {n : Nat} : KsOk A n [] := ⟨List.nodup_nil, (fun p h => by cases h), (fun p h => by cases h)⟩
theorem p_merge_form (n : Nat) (ds : List D) (d : D) (h : R_merge_form A n ds d) : DS ⟨K, none⟩ (t_merge_form K (SpP K (R_with A (n + 1)))) (slots ["pairs", "start"] ds) (Gives d) := by
  obtain ⟨ps, rfl, hp, rfl⟩ := h
  show DS _ _ [.dat _, .un] _
  unfold t_merge_form
  repeat walk_at "s"
  refine (dn_dnew ?_).de
  repeat walk_at "s"
  refine ⟨[.dic [], .tup (psD ps)], _, rfl, ⟨ps, [], rfl, hp, .nil, rfl⟩, ?_⟩
  repeat walk_at "s"
  unfold mergeFm
  rw [Fm.toD]; rfl
end
end Mp

set_option Elab.async false
set_option linter.all false
set_option maxRecDepth 100000
set_option maxHeartbeats 4000000
namespace Mp
open PySem L2
local macro_rules | `(tactic| walk_at "s") => `(tactic| first
  | with_reducible refine ds_seq ?_
  | with_reducible refine ds_ret ?_
  | with_reducible refine ds_if ?_
  | with_reducible refine ds_asg ?_
  | with_reducible refine ds_drop ?_
  | with_reducible refine ds_next ?_
  | with_reducible refine ds_retN ?_
  | with_reducible refine then_nx ?_
  | with_reducible refine then_rt ?_
  | with_reducible refine gives_rt ?_
  | with_reducible refine gives_nx
  | with_reducible refine dt_not ?_
  | with_reducible refine dt_test ?_
  | with_reducible refine dt_B ?_
  | with_reducible refine dt_and ?_
  | with_reducible refine dt_or ?_
  | with_reducible refine dt_yes ?_
  | with_reducible refine ex_bl ?_
  | with_reducible refine ex_ii ?_
  | ((with_reducible show DE _ (tVar _) _ _); refine de_var rfl ?_)
  | with_reducible refine de_int ?_
  | with_reducible refine de_str ?_
  | with_reducible refine de_bl ?_
  | with_reducible refine de_non ?_
  | with_reducible refine de_sub ?_
  | with_reducible refine de_eq ?_
  | with_reducible refine de_ne ?_
  | with_reducible refine de_in ?_
  | with_reducible refine de_add ?_
  | with_reducible refine de_subI ?_
  | with_reducible refine de_lt ?_
  | with_reducible refine de_le ?_
  | with_reducible refine de_gt ?_
  | with_reducible refine de_ge ?_
  | with_reducible refine de_neg ?_
  | with_reducible refine de_isN ?_
  | with_reducible refine de_notN ?_
  | with_reducible refine de_chainII ?_
  | with_reducible refine de_len ?_
  | with_reducible refine de_isi .str rfl ?_
  | with_reducible refine de_isi .int rfl ?_
  | with_reducible refine de_isi .bool rfl ?_
  | with_reducible refine de_isi .dict rfl ?_
  | with_reducible refine de_isi .tuple rfl ?_
  | with_reducible refine de_isi .list rfl ?_
  | with_reducible refine de_all ?_
  | with_reducible refine de_sum ?_
  | with_reducible refine de_if ?_
  | with_reducible refine de_andV ?_
  | with_reducible refine de_orV ?_
  | with_reducible refine de_notV ?_
  | with_reducible refine de_tuple ?_
  | with_reducible refine de_get1 ?_
  | with_reducible refine de_get2 ?_
  | with_reducible refine de_tup0 ?_
  | with_reducible refine de_tup1 ?_
  | with_reducible refine de_tup2 ?_
  | with_reducible refine de_tup3 ?_
  | with_reducible refine de_tup4 ?_
  | with_reducible refine de_tup ?_
  | with_reducible refine de_call ?_
  | with_reducible refine da_nil ?_
  | with_reducible refine da_cons ?_)

def Fm.isKeep : Fm → Bool
  | .ent .non none [] => true
  | _ => false
def getF (ps : List (Str × Fm)) (k : Str) : Fm := (lookF ps k).getD Fm.keep
def pairsOf (ks : List Str) (g : Str → Fm) : List (Str × Fm) := ((sortS ks).filter fun k => !(g k).isKeep).map fun k => (k, g k)
def keysU (ps qs : List (Str × Fm)) : List Str := uniq (ps.map (·.1) ++ qs.map (·.1))
def chain : Nat → Fm → Fm → Fm
  | 0, _, g => g
  | n + 1, f, g =>
    let no := g.run f.no
    let sc := match f.sc with
      | some d => some (g.run d)
      | none => g.sc
    match f, g with
    | .con _ _ d, g => .con no sc (g.run d)
    | .ent _ _ _, .con _ _ e => .con no sc e
    | .ent _ _ ps, .ent _ _ qs => .ent no sc (pairsOf (keysU ps qs) fun k => chain n (getF ps k) (getF qs k))
section
variable {A : List Str} {K : PySem.W.Frag}
theorem toD_deep {n : Nat} {f : Fm} (h : FmOk A n f) : f.toD.deep ≤ 4 * n + 3 := by
  induction h with
  | con a b c =>
    rw [Fm.toD]
    have := a.deep; have := scD_deep b; have := c.deep
    simp only [D.deep, D.deepL]; omega
  | @ent n no sc ps a b nd hk hd ih =>
    rw [Fm.toD]
    have := a.deep; have := scD_deep b
    have : D.deepL (psD ps) ≤ 4 * n + 4 := by
      rw [psD_map]
      refine deepL_le fun d hd => ?_
      obtain ⟨p, hp, rfl⟩ := List.mem_map.mp hd
      have := ih p hp
      simp only [D.deep, D.deepL]; omega
    simp only [D.deep, D.deepL]; omega
  | nil a b =>
    rw [Fm.toD, psD]
    have := a.deep; have := scD_deep b
    simp only [D.deep, D.deepL]; omega
theorem St.eqv_non {n : Nat} {d : D} (h : St A n d) : D.eqv d .non = d.isN := by
  cases d <;> simp [D.eqv, D.isN]
theorem keep_eqv {n : Nat} {f : Fm} (h : FmOk A n f) : D.eqv f.toD Fm.keep.toD = f.isKeep := by
  have e2 : Fm.keep.toD = .tup [.non, .tup [.str "same"], .tup [.str "entries", .tup []]] := by
    unfold Fm.keep; rw [Fm.toD, psD]; rfl
  have h1 := h.hno.eqv_non
  have h2 := scD_eqv f.sc
  rw [e2, toD_eq]
  rw [D.eqv]; simp only [D.eqvL]
  rw [h1, h2]
  cases f with
  | con no sc d =>
    have : D.eqv (entD (.con no sc d)) (.tup [.str "entries", .tup []]) = false := by
      unfold entD; rw [D.eqv]; simp only [D.eqvL]; rw [eqv_str]
      have : ((("constant" : Str)) == "entries") = false := by decide
      rw [this]; rfl
    rw [this]
    simp [Fm.isKeep]
  | ent no sc ps =>
    have : D.eqv (entD (.ent no sc ps)) (.tup [.str "entries", .tup []]) = ps.isEmpty := by
      unfold entD; rw [D.eqv]; simp only [D.eqvL]; rw [eqv_str]
      have : ((("entries" : Str)) == "entries") = true := by decide
      rw [this, D.eqv, psD_map]
      cases ps <;> simp [D.eqvL]
    rw [this]
    simp only [Fm.no, Fm.sc]
    cases no <;> cases sc <;> cases ps <;> rfl
theorem FmOk.keep {n : Nat} : FmOk A n Fm.keep := .nil (.inl rfl) (fun e h => by cases h)
theorem lookF_mem : ∀ {ps : List (Str × Fm)} {k : Str} {f : Fm}, lookF ps k = some f → (k, f) ∈ ps
  | (j, g) :: r, k, f, h => by
    rw [lookF] at h
    split at h
    · next e => cases h; subst e; exact List.mem_cons_self
    · exact List.mem_cons_of_mem _ (lookF_mem h)
theorem mem_lookF : ∀ {ps : List (Str × Fm)} {k : Str} {f : Fm}, (ps.map (·.1)).Nodup → (k, f) ∈ ps → lookF ps k = some f
  | (j, g) :: r, k, f, nd, m => by
    rw [List.map_cons, List.nodup_cons] at nd
    rw [lookF]
    rcases List.mem_cons.mp m with e | m
    · cases e; rw [if_pos rfl]
    · have : j ≠ k := fun e => nd.1 (e ▸ List.mem_map.mpr ⟨(k, f), m, rfl⟩)
      rw [if_neg this]; exact mem_lookF nd.2 m
/-- a pair that holds no form, or the whole keeps it -/
theorem PsOk.get {n : Nat} {ps : List (Str × Fm)} (h : PsOk A n ps) (k : Str) : FmOk A n (getF ps k) := by
  unfold getF
  cases q : lookF ps k with
  | none => exact .keep
  | some f => exact h.ok _ (lookF_mem q)
theorem keysU_mem {ps qs : List (Str × Fm)} {k : Str} : k ∈ keysU ps qs ↔ k ∈ ps.map (·.1) ∨ k ∈ qs.map (·.1) := by
  unfold keysU; rw [uniq_mem, List.mem_append]
theorem keysU_nodup (ps qs : List (Str × Fm)) : (keysU ps qs).Nodup := uniq_nodup _
theorem keysU_in {n m : Nat} {ps qs : List (Str × Fm)} (hp : PsOk A n ps) (hq : PsOk A m qs) : ∀ k ∈ keysU ps qs, k ∈ A := fun k hk => by
  rcases keysU_mem.mp hk with h | h <;> obtain ⟨p, hm, rfl⟩ := List.mem_map.mp h
  · exact hp.mem p hm
  · exact hq.mem p hm
theorem pairsOf_ok {n : Nat} {ks : List Str} {g : Str → Fm} (nd : ks.Nodup) (hk : ∀ k ∈ ks, k ∈ A) (hg : ∀ k ∈ ks, FmOk A n (g k)) : PsOk A n (pairsOf ks g) := by
  have e : (pairsOf ks g).map (·.1) = (sortS ks).filter fun k => !(g k).isKeep := by
    unfold pairsOf; rw [List.map_map]; exact List.map_id' _
  have m : ∀ p ∈ pairsOf ks g, p.1 ∈ ks ∧ p.2 = g p.1 := fun p hp => by
    obtain ⟨k, hk, rfl⟩ := List.mem_map.mp hp
    exact ⟨sortS_mem.mp (List.mem_filter.mp hk).1, rfl⟩
  refine ⟨by rw [e]; exact List.Nodup.sublist List.filter_sublist (sortS_nodup nd), fun p hp => hk _ (m p hp).1, fun p hp => ?_⟩
  rw [(m p hp).2]; exact hg _ (m p hp).1
theorem chain_eq (n : Nat) (f g : Fm) : chain (n + 1) f g = match f, g with
    | .con _ _ d, g => .con (g.run f.no) (match f.sc with | some d => some (g.run d) | none => g.sc) (g.run d)
    | .ent _ _ _, .con _ _ e => .con (g.run f.no) (match f.sc with | some d => some (g.run d) | none => g.sc) e
    | .ent _ _ ps, .ent _ _ qs => .ent (g.run f.no) (match f.sc with | some d => some (g.run d) | none => g.sc) (pairsOf (keysU ps qs) fun k => chain n (getF ps k) (getF qs k)) := by
  cases f <;> cases g <;> rfl
theorem chain_okk : ∀ {n k : Nat} {f g : Fm}, n ≤ k → FmOk A n f → FmOk A n g → FmOk A n (chain (k + 1) f g) := fun {n} => by
  induction n with
  | zero =>
    intro k f g hk hf hg
    rw [chain_eq]
    have h1 := run_ok g hg hf.hno
    have h2 : ∀ e, (match f.sc with | some d => some (g.run d) | none => g.sc) = some e → St A 0 e := fun e h => by
      cases q : f.sc with
      | none => rw [q] at h; exact hg.hsc e h
      | some x => rw [q] at h; cases h; exact run_ok g hg (hf.hsc x q)
    cases f with
    | con no sc d => exact .con h1 h2 (run_ok g hg hf.hcon)
    | ent no sc ps =>
      cases g with
      | con no' sc' d' => exact .con h1 h2 hg.hcon
      | ent no' sc' qs =>
        cases hf.ps0; cases hg.ps0
        have e : ∀ g, pairsOf (keysU [] []) g = [] := fun g => by
          unfold pairsOf; rw [show keysU [] [] = [] from rfl, show sortS [] = [] from by simp [sortS]]; rfl
        show FmOk A 0 (.ent _ _ (pairsOf (keysU [] []) _))
        rw [e]
        exact .nil h1 h2
  | succ n ih =>
    intro k f g hk hf hg
    rw [chain_eq]
    have h1 := run_ok g hg hf.hno
    have h2 : ∀ e, (match f.sc with | some d => some (g.run d) | none => g.sc) = some e → St A (n + 1) e := fun e h => by
      cases q : f.sc with
      | none => rw [q] at h; exact hg.hsc e h
      | some x => rw [q] at h; cases h; exact run_ok g hg (hf.hsc x q)
    cases f with
    | con no sc d => exact .con h1 h2 (run_ok g hg hf.hcon)
    | ent no sc ps =>
      cases g with
      | con no' sc' d' => exact .con h1 h2 hg.hcon
      | ent no' sc' qs =>
        have hp := hf.ps
        have hq := hg.ps
        cases k with
        | zero => omega
        | succ k =>
          have := pairsOf_ok (g := fun x => chain (k + 1) (getF ps x) (getF qs x)) (n := n) (keysU_nodup ps qs) (keysU_in hp hq) fun x hx => ih (by omega) (hp.get x) (hq.get x)
          exact .ent h1 h2 this.nd this.mem this.ok
theorem chain_ok {n : Nat} {f g : Fm} (hf : FmOk A n f) (hg : FmOk A n g) : FmOk A n (chain (n + 1) f g) := chain_okk (Nat.le_refl n) hf hg

/-! ### pairs_of -/
def R_pairs_of (A : List Str) (n : Nat) (ds : List D) (d : D) : Prop := ∃ ks g, ds = [.dic (ks.map fun k => (.inr k, (g k).toD))] ∧ ks.Nodup ∧ (∀ k ∈ ks, k ∈ A) ∧ (∀ k ∈ ks, FmOk A n (g k)) ∧ d = .tup (psD (pairsOf ks g))
def nkD (g : Str → Fm) : D → Bool
  | .str k => !(g k).isKeep
  | _ => false
def kgD (g : Str → Fm) : D → D
  | .str k => .tup [.str k, (g k).toD]
  | _ => .non
theorem look_kg {g : Str → D} : ∀ {ks : List Str} {k : Str}, k ∈ ks → look (ks.map fun k => ((.inr k : Key), g k)) (.inr k) = some (g k)
  | j :: r, k, h => by
    rw [List.map_cons, look]
    split
    · next e => cases Sum.inr.inj e; rfl
    · next e =>
      rcases List.mem_cons.mp h with z | h
      · subst z; exact absurd rfl e
      · exact look_kg h
theorem p_pairs_of (hA : Alp A) {a : Addr} (hK : ∀ G, Has K G Fm.keep.toD (.ref a)) (n : Nat) (hn : n ≤ 11) (ds : List D) (d : D) (h : R_pairs_of A n ds d) : DS ⟨K, none⟩ (t_pairs_of K a) (slots ["forms", "key"] ds) (Gives d) := by
  obtain ⟨ks, g, rfl, nd, hk, hg, rfl⟩ := h
  show DS _ _ [.dat _, .un] _
  unfold t_pairs_of
  repeat walk_at "s"
  have hl : ks.length ≤ 60 := Nat.le_trans (len_le_alp nd hk) hA.few
  refine (dn_lcF (js := [1]) (kgD g) (nkD g) (by simp) (di_any (dn_sortedD ?_).de)).de
  repeat walk_at "s"
  refine ⟨_, ks, rfl, by rw [List.map_map, ]; rfl, by omega, fun ys hp hs => ?_⟩
  rw [sort_unique hp hs]
  refine ⟨_, rfl, ?_, fun i d hd => ?_, ?_⟩
  · rw [List.length_map, sortS_len]; exact Nat.le_of_lt (small1000 (by omega))
  · rw [List.getElem?_map] at hd
    cases q : (sortS ks)[i]? with
    | none => rw [q] at hd; cases hd
    | some k =>
      rw [q] at hd; cases hd
      have hm : k ∈ ks := sortS_mem.mp (List.mem_of_getElem? q)
      refine dg_name ?_
      repeat walk_at "s"
      refine ⟨(g k).toD, look_kg (g := fun k => (g k).toD) hm, ?_⟩
      refine de_cst hK ?_
      have hd := toD_deep (hg k hm)
      refine ⟨by omega, ?_⟩
      repeat walk_at "s"
      rw [keep_eqv (hg k hm)]
      refine ⟨rfl, fun _ => ?_⟩
      repeat walk_at "s"
      exact ⟨(g k).toD, look_kg (g := fun k => (g k).toD) hm, rfl⟩
  · refine ⟨_, rfl, ?_⟩
    repeat walk_at "s"
    rw [psD_map, pairsOf, List.map_map, List.filter_map, List.map_map]
    rfl

/-! ### chained -/
def R_chained (A : List Str) : Nat → List D → D → Prop
  | 0, _, _ => False
  | n + 1, ds, d => ∃ f g, ds = [Fm.toD f, Fm.toD g] ∧ FmOk A n f ∧ FmOk A n g ∧ d = (chain (n + 1) f g).toD
theorem mergeD_nil {ms : List (Key × D)} : ∀ (acc : List (Key × D)), ((acc ++ ms).map (·.1)).Nodup → mergeD acc ms = acc ++ ms := by
  induction ms with
  | nil => intro acc _; unfold mergeD; simp
  | cons p r ih =>
    intro acc nd
    have : p.1 ∉ acc.map (·.1) := fun h => by
      rw [List.map_append, List.nodup_append] at nd
      exact nd.2.2 _ h p.1 (by simp) rfl
    have e : mergeD acc (p :: r) = mergeD (putD acc p.1 p.2) r := rfl
    rw [e, putD_new this, ih (acc ++ [(p.1, p.2)]) (by rw [List.append_assoc]; exact nd), List.append_assoc]; rfl
theorem psD_dict {n : Nat} {ps : List (Str × Fm)} (h : PsOk A n ps) : D.seq (.tup (psD ps)) = some ((ps.map fun p => ((.inr p.1 : Key), p.2.toD)).map pairD) ∧ mergeD [] (ps.map fun p => ((.inr p.1 : Key), p.2.toD)) = ps.map fun p => ((.inr p.1 : Key), p.2.toD) := by
  refine ⟨by rw [psD_map, List.map_map]; rfl, mergeD_nil [] ?_⟩
  rw [List.nil_append, List.map_map]
  have := h.nd
  have e : ps.map ((·.1) ∘ fun p => ((.inr p.1 : Key), p.2.toD)) = (ps.map (·.1)).map Sum.inr := by rw [List.map_map]; rfl
  rw [e]
  exact List.Pairwise.map _ (fun a b h e => h (Sum.inr.inj e)) this
theorem look_ps : ∀ (ps : List (Str × Fm)) (k : Str), look (ps.map fun p => ((.inr p.1 : Key), p.2.toD)) (.inr k) = (lookF ps k).map Fm.toD
  | [], _ => rfl
  | (j, f) :: r, k => by
    rw [List.map_cons, look, lookF, look_ps r k]
    by_cases e : j = k
    · subst e; simp
    · rw [if_neg e, if_neg fun z => e (Sum.inr.inj z)]
theorem get_ps (ps : List (Str × Fm)) (k : Str) : (look (ps.map fun p => ((.inr p.1 : Key), p.2.toD)) (.inr k)).getD Fm.keep.toD = (getF ps k).toD := by
  rw [look_ps]; unfold getF; cases lookF ps k <;> rfl
theorem p_chained (hA : Alp A) {a : Addr} (hK : ∀ G, Has K G Fm.keep.toD (.ref a)) (n : Nat) (hn : n ≤ 11) (ds : List D) (d : D) (h : R_chained A (n + 1) ds d) :
    DS ⟨K, none⟩ (t_chained K a (SpP K (R_run A (n + 1))) (SpP K (R_pairs_of A (n - 1))) (SpP K (R_chained A n))) (slots ["first", "second", "scalar", "entries", "one", "other", "forms", "key"] ds) (Gives d) := by
  obtain ⟨f, g, rfl, hf, hg, rfl⟩ := h
  show DS _ _ [.dat f.toD, .dat g.toD, .un, .un, .un, .un, .un, .un] _
  unfold t_chained
  have ef := toD_eq f
  have eg := toD_eq g
  rw [ef, eg]
  refine ds_seq (ds_par ?_)
  repeat walk_at "s"
  refine ⟨scD g.sc, rfl, ?_⟩
  repeat walk_at "s"
  refine ⟨entD g, rfl, ?_⟩
  repeat walk_at "s"
  refine ⟨scD f.sc, rfl, ?_⟩
  have run : ∀ s, St A n s → R_run A (n + 1) [.tup [g.no, scD g.sc, entD g], s] (g.run s) := fun s hs => ⟨g, s, by rw [eg], hg, hs, rfl⟩
  -- the end, from scalar and entries
  have fin : ∀ (x5 x6 x7 x8 : Sl) (h' : Fm), h'.no = g.run f.no → DS ⟨K, none⟩ (tRet (tTupF (tCons (tCall (SpP K (R_run A (n + 1))) [] E0 (tCons (tVar 1) (tCons (tOp (rSub K) (tVar 0) (tC (.int 0))) tNil))) (tCons (tVar 2) (tCons (tVar 3) tNil))))) [.dat (.tup [f.no, scD f.sc, entD f]), .dat (.tup [g.no, scD g.sc, entD g]), .dat (scD h'.sc), .dat (entD h'), x5, x6, x7, x8] (Gives h'.toD) := fun x5 x6 x7 x8 h' e => by
    repeat walk_at "s"
    refine ⟨f.no, rfl, ?_⟩
    repeat walk_at "s"
    refine ⟨_, _, rfl, run _ hf.hno, ?_⟩
    repeat walk_at "s"
    rw [toD_eq h', e]
  obtain ⟨z, hz⟩ : ∃ z, z = (match f.sc with | some d => some (g.run d) | none => g.sc) := ⟨_, rfl⟩
  have e1 : ((("constant" : Str)) == "constant") = true := by decide
  have e2 : ((("same" : Str)) == "constant") = false := by decide
  have e3 : ((("entries" : Str)) == "constant") = false := by decide
  have e4 : ((("entries" : Str)) == "entries") = true := by decide
  have e5 : ((("constant" : Str)) == "entries") = false := by decide
  have to : ∀ {t : TS} {δ : List Sl}, DS ⟨K, none⟩ t [.dat (.tup [f.no, scD f.sc, entD f]), .dat (.tup [g.no, scD g.sc, entD g]), .dat (scD z), .dat (entD g), .un, .un, .un, .un] (Gives (chain (n + 1) f g).toD) → ∀ y, y = f.sc →
      (∃ z', D.sub (scD y) (.int 0) = some z' ∧ DE ⟨K, none⟩ (tC (.str "constant")) [.dat (.tup [f.no, scD f.sc, entD f]), .dat (.tup [g.no, scD g.sc, entD g]), .dat (scD g.sc), .dat (entD g), .un, .un, .un, .un] fun y => D.deep z' ≤ 50 ∧ ∃ b, D.bl (D.eqv z' y) = .bl b ∧ if b = true then DS ⟨K, none⟩ (tAsg (tTupF (tCons (tC (.str "constant")) (tCons (tCall (SpP K (R_run A (n + 1))) [] E0 (tCons (tVar 1) (tCons (tOp (rSub K) (tOp (rSub K) (tVar 0) (tC (.int 1))) (tC (.int 1))) tNil))) tNil))) (gName 2)) [.dat (.tup [f.no, scD f.sc, entD f]), .dat (.tup [g.no, scD g.sc, entD g]), .dat (scD g.sc), .dat (entD g), .un, .un, .un, .un] (Then ⟨K, none⟩ t (Gives (chain (n + 1) f g).toD)) else DS ⟨K, none⟩ tNext [.dat (.tup [f.no, scD f.sc, entD f]), .dat (.tup [g.no, scD g.sc, entD g]), .dat (scD g.sc), .dat (entD g), .un, .un, .un, .un] (Then ⟨K, none⟩ t (Gives (chain (n + 1) f g).toD))) := fun {t δ} h y hy => by
    cases y with
    | none =>
      refine ⟨.str "same", rfl, de_str ⟨Nat.zero_le _, _, rfl, it_f (by rw [eqv_str]; exact e2) (ds_next (then_nx ?_))⟩⟩
      rw [← hy] at hz
      rw [hz] at h
      exact h
    | some x =>
      refine ⟨.str "constant", rfl, de_str ⟨Nat.zero_le _, _, rfl, it_t (by rw [eqv_str]; exact e1) ?_⟩⟩
      refine ds_asg ?_
      repeat walk_at "s"
      refine ⟨scD f.sc, rfl, ?_⟩
      repeat walk_at "s"
      refine ⟨x, by rw [← hy]; rfl, ?_⟩
      repeat walk_at "s"
      refine ⟨_, _, rfl, run x (hf.hsc x hy.symm), ?_⟩
      refine then_nx ?_
      rw [← hy] at hz
      rw [hz] at h
      exact h
  repeat walk_at "s"
  refine to (δ := []) ?_ f.sc rfl
  repeat walk_at "s"
  refine ⟨entD f, rfl, ?_⟩
  repeat walk_at "s"
  cases f with
  | con no sc d =>
    refine ⟨.str "constant", rfl, ?_⟩
    repeat walk_at "s"
    refine ⟨Nat.zero_le _, ?_⟩
    repeat walk_at "s"
    refine it_t (by rw [eqv_str]; exact e1) ?_
    refine ds_asg ?_
    repeat walk_at "s"
    refine ⟨entD (.con no sc d), rfl, ?_⟩
    repeat walk_at "s"
    refine ⟨d, rfl, ?_⟩
    repeat walk_at "s"
    refine ⟨_, _, rfl, run d hf.hcon, then_nx ?_⟩
    have hc : chain (n + 1) (.con no sc d) g = .con (g.run no) z (g.run d) := by rw [hz, chain_eq]; rfl
    rw [hc]
    exact fin _ _ _ _ (.con (g.run no) z (g.run d)) rfl
  | ent no sc ps =>
    refine ⟨.str "entries", rfl, ?_⟩
    repeat walk_at "s"
    refine ⟨Nat.zero_le _, ?_⟩
    repeat walk_at "s"
    refine it_f (by rw [eqv_str]; exact e3) ?_
    repeat walk_at "s"
    refine ⟨entD g, rfl, ?_⟩
    repeat walk_at "s"
    cases g with
    | con no' sc' e =>
      refine ⟨.str "constant", rfl, ?_⟩
      repeat walk_at "s"
      refine ⟨Nat.zero_le _, ?_⟩
      repeat walk_at "s"
      refine it_f (by rw [eqv_str]; exact e5) (ds_next (then_nx ?_))
      have hc : chain (n + 1) (.ent no sc ps) (.con no' sc' e) = .con (Fm.run (.con no' sc' e) no) z e := by rw [hz, chain_eq]; rfl
      rw [hc]
      exact fin _ _ _ _ (.con _ z e) rfl
    | ent no' sc' qs =>
      refine ⟨.str "entries", rfl, ?_⟩
      repeat walk_at "s"
      refine ⟨Nat.zero_le _, ?_⟩
      repeat walk_at "s"
      refine it_t (by rw [eqv_str]; exact e4) ?_
      have hc : chain (n + 1) (.ent no sc ps) (.ent no' sc' qs) = .ent (Fm.run (.ent no' sc' qs) no) z (pairsOf (keysU ps qs) fun k => chain n (getF ps k) (getF qs k)) := by rw [hz, chain_eq]; rfl
      rw [hc]
      have hps : PsOk A (n - 1) ps := by
        cases n with
        | zero => rw [hf.ps0]; exact .nil
        | succ n => exact hf.ps
      have hqs : PsOk A (n - 1) qs := by
        cases n with
        | zero => rw [hg.ps0]; exact .nil
        | succ n => exact hg.ps
      obtain ⟨dp1, dp2⟩ := psD_dict hps
      obtain ⟨dq1, dq2⟩ := psD_dict hqs
      refine ds_seq (ds_asgG (js := [4, 5]) (de_tup2 (dn_dict ?_).de))
      repeat walk_at "s"
      refine ⟨entD (.ent no sc ps), rfl, ?_⟩
      repeat walk_at "s"
      refine ⟨.tup (psD ps), rfl, .inl ⟨_, dp1, ?_⟩⟩
      rw [dp2]
      refine (dn_dict ?_).de
      repeat walk_at "s"
      refine ⟨entD (.ent no' sc' qs), rfl, ?_⟩
      repeat walk_at "s"
      refine ⟨.tup (psD qs), rfl, .inl ⟨_, dq1, ?_⟩⟩
      rw [dq2]
      refine dg_pair (then_nx ?_)
      refine ds_seq (ds_asg (dn_dcU (js := [7]) (fun k => (chain n (getF ps k) (getF qs k)).toD) (by simp) (di_any (dn_cat (dn_list ?_)).de)).de)
      have lp := Nat.le_trans hps.len hA.few
      have lq := Nat.le_trans hqs.len hA.few
      repeat walk_at "s"
      refine ⟨_, .inr ⟨_, rfl, rfl⟩, _, rfl, dn_list ?_⟩
      repeat walk_at "s"
      refine ⟨_, .inr ⟨_, rfl, rfl⟩, _, rfl, by simp; omega, _, rfl, ps.map (·.1) ++ qs.map (·.1), ?_, by simp; omega, fun k hk => dg_name ?_, ?_⟩
      · rw [List.map_append, List.map_map, List.map_map, List.map_map, List.map_map]; rfl
      · repeat walk_at "s"
        refine ⟨rfl, ?_⟩
        repeat walk_at "s"
        refine ⟨_, rfl, ?_⟩
        repeat walk_at "s"
        refine de_cst hK ⟨k, rfl, ?_⟩
        repeat walk_at "s"
        refine ⟨_, rfl, ?_⟩
        repeat walk_at "s"
        refine de_cst hK ⟨k, rfl, ?_⟩
        repeat walk_at "s"
        rw [get_ps, get_ps]
        refine ⟨[(getF ps k).toD, (getF qs k).toD], _, rfl, ?_, rfl⟩
        cases n with
        | zero =>
          rw [hf.ps0, hg.ps0] at hk
          cases hk
        | succ n => exact ⟨_, _, rfl, hps.get k, hqs.get k, rfl⟩
      · refine then_nx (ds_asg ?_)
        repeat walk_at "s"
        refine ⟨[_], _, rfl, ⟨keysU ps qs, fun k => chain n (getF ps k) (getF qs k), rfl, keysU_nodup ps qs, keysU_in hps hqs, fun k hk => ?_, rfl⟩, ?_⟩
        · cases n with
          | zero =>
            rw [hf.ps0, hg.ps0] at hk
            cases hk
          | succ n => exact chain_ok (hps.get k) (hqs.get k)
        · refine then_nx ?_
          exact fin _ _ _ _ (.ent _ z (pairsOf (keysU ps qs) fun k => chain n (getF ps k) (getF qs k))) rfl
end
end Mp

set_option Elab.async false
set_option linter.all false
set_option maxRecDepth 100000
set_option maxHeartbeats 4000000
namespace Mp
open PySem L2
local macro_rules | `(tactic| walk_at "s") => `(tactic| first
  | with_reducible refine ds_seq ?_
  | with_reducible refine ds_ret ?_
  | with_reducible refine ds_if ?_
  | with_reducible refine ds_asg ?_
  | with_reducible refine ds_drop ?_
  | with_reducible refine ds_next ?_
  | with_reducible refine ds_retN ?_
  | with_reducible refine then_nx ?_
  | with_reducible refine then_rt ?_
  | with_reducible refine gives_rt ?_
  | with_reducible refine gives_nx
  | with_reducible refine dt_not ?_
  | with_reducible refine dt_test ?_
  | with_reducible refine dt_B ?_
  | with_reducible refine dt_and ?_
  | with_reducible refine dt_or ?_
  | with_reducible refine dt_yes ?_
  | with_reducible refine ex_bl ?_
  | with_reducible refine ex_ii ?_
  | ((with_reducible show DE _ (tVar _) _ _); refine de_var rfl ?_)
  | with_reducible refine de_int ?_
  | with_reducible refine de_str ?_
  | with_reducible refine de_bl ?_
  | with_reducible refine de_non ?_
  | with_reducible refine de_sub ?_
  | with_reducible refine de_eq ?_
  | with_reducible refine de_ne ?_
  | with_reducible refine de_in ?_
  | with_reducible refine de_add ?_
  | with_reducible refine de_subI ?_
  | with_reducible refine de_lt ?_
  | with_reducible refine de_le ?_
  | with_reducible refine de_gt ?_
  | with_reducible refine de_ge ?_
  | with_reducible refine de_neg ?_
  | with_reducible refine de_isN ?_
  | with_reducible refine de_notN ?_
  | with_reducible refine de_chainII ?_
  | with_reducible refine de_len ?_
  | with_reducible refine de_isi .str rfl ?_
  | with_reducible refine de_isi .int rfl ?_
  | with_reducible refine de_isi .bool rfl ?_
  | with_reducible refine de_isi .dict rfl ?_
  | with_reducible refine de_isi .tuple rfl ?_
  | with_reducible refine de_isi .list rfl ?_
  | with_reducible refine de_all ?_
  | with_reducible refine de_sum ?_
  | with_reducible refine de_if ?_
  | with_reducible refine de_andV ?_
  | with_reducible refine de_orV ?_
  | with_reducible refine de_notV ?_
  | with_reducible refine de_tuple ?_
  | with_reducible refine de_get1 ?_
  | with_reducible refine de_get2 ?_
  | with_reducible refine de_tup0 ?_
  | with_reducible refine de_tup1 ?_
  | with_reducible refine de_tup2 ?_
  | with_reducible refine de_tup3 ?_
  | with_reducible refine de_tup4 ?_
  | with_reducible refine de_tup ?_
  | with_reducible refine de_call ?_
  | with_reducible refine da_nil ?_
  | with_reducible refine da_cons ?_)

section
variable {A : List Str} {K : PySem.W.Frag}
mutual
def isNestD : D → Int → Bool
  | .tup xs, n => match xs with
    | .str name :: rest =>
      if name = "keep" ∨ name = "drop" then rest.isEmpty
      else match rest with
        | [x] =>
          if name = "set" ∨ name = "default" then isDocD x 5
          else if n = 0 then false
          else if name = "merge" ∨ name = "inside" then isEntsD x (n - 1)
          else if name ≠ "chain" then false
          else isChD x (n - 1)
        | _ => false
    | _ => false
  | _, _ => false
def isChD : D → Int → Bool
  | .tup ys, n => decide (ys.length ≤ 6) && isNestL ys n
  | _, _ => false
def isEntsD : D → Int → Bool
  | .dic ks, n => decide (ks.length ≤ 6) && ((ks.all fun p => isTextD (kD p.1) 1) && isNestK ks n)
  | _, _ => false
def isNestL : List D → Int → Bool
  | [], _ => true
  | x :: r, n => isNestD x n && isNestL r n
def isNestK : List (Key × D) → Int → Bool
  | [], _ => true
  | (_, x) :: r, n => isNestD x n && isNestK r n
end
theorem isNestL_all : ∀ (ks : List D) (n : Int), isNestL ks n = (ks.map fun p => isNestD p n).all id
  | [], _ => by rw [isNestL]; rfl
  | d :: r, n => by rw [isNestL, isNestL_all r n]; rfl
theorem isNestK_all : ∀ (ks : List (Key × D)) (n : Int), isNestK ks n = (ks.map fun p => isNestD p.2 n).all id
  | [], _ => by rw [isNestK]; rfl
  | (k, d) :: r, n => by rw [isNestK, isNestK_all r n]; rfl
def R_is_nested : Nat → List D → D → Prop
  | 0, _, _ => False
  | n + 1, ds, d => ∃ v k, ds = [v, .int k] ∧ v.wf ∧ v.deep ≤ n ∧ d = .bl (isNestD v k)
def R_are_entries : Nat → List D → D → Prop
  | 0, _, _ => False
  | n + 1, ds, d => ∃ v k, ds = [v, .int k] ∧ v.wf ∧ v.deep ≤ n ∧ d = .bl (isEntsD v k)
theorem p_are_entries (n : Nat) (ds : List D) (d : D) (h : R_are_entries (n + 1) ds d) : DS ⟨K, none⟩ (t_are_entries K (SpP K (R_is_nested n)) (SpP K R_is_text)) (slots ["value", "depth", "key"] ds) (Gives d) := by
  obtain ⟨v, l, rfl, hw, hdp, rfl⟩ := h
  show DS _ _ [.dat v, .dat (.int l), .un] _
  unfold t_are_entries
  repeat walk_at "s"
  cases v with
  | dic ks =>
    rw [D.wf] at hw
    obtain ⟨hl, nd, hk⟩ := hw
    refine it_f rfl ?_
    repeat walk_at "s"
    refine ⟨ks.length, rfl, ?_⟩
    repeat walk_at "s"
    refine it_c (fun h2 => ?_) fun h2 => ?_
    · refine it_t rfl ?_
      repeat walk_at "s"
      have : ¬ ks.length ≤ 6 := by simp at h2; omega
      rw [isEntsD, decide_eq_false this]; rfl
    · have h2' : ks.length ≤ 6 := by simp at h2; omega
      repeat walk_at "s"
      refine (dn_lcK (fun k d => .bl (isTextD (kD k) 1)) ?_).de
      repeat walk_at "s"
      refine ⟨ks, rfl, nd, by omega, fun k d hkd => ?_, ?_⟩
      · repeat walk_at "s"
        exact ⟨[kD k, .int 1], _, rfl, ⟨kD k, 1, rfl, wf_key hk hkd, rfl⟩, rfl⟩
      refine ⟨ks.map fun p => isTextD (kD p.1) 1, by rw [List.map_map]; rfl, ?_⟩
      rw [List.all_map]
      repeat walk_at "s"
      show if (!ks.all fun p => isTextD (kD p.1) 1) = true then _ else _
      refine it_c (fun h3 => ?_) fun h3 => ?_
      · repeat walk_at "s"
        have h3' : (ks.all fun p => isTextD (kD p.1) 1) = false := by simpa using h3
        rw [isEntsD, h3']; simp
      · have h3' : (ks.all fun p => isTextD (kD p.1) 1) = true := by simpa using h3
        repeat walk_at "s"
        refine (dn_lcK (fun k d => .bl (isNestD d l)) ?_).de
        repeat walk_at "s"
        refine ⟨ks, rfl, nd, by omega, fun k d hkd => ?_, ?_⟩
        · repeat walk_at "s"
          refine ⟨d, sub_key nd hkd, ?_⟩
          repeat walk_at "s"
          have := deep_dic hkd
          refine ⟨[d, .int l], _, rfl, ?_, rfl⟩
          cases n with
          | zero => omega
          | succ n => exact ⟨d, l, rfl, (wfK_mem hk hkd).2, by omega, rfl⟩
        · refine ⟨ks.map fun p => isNestD p.2 l, by rw [List.map_map]; rfl, ?_⟩
          repeat walk_at "s"
          rw [isEntsD, ← isNestK_all, h3', decide_eq_true h2']; rfl
  | _ =>
    refine it_t rfl (it_t rfl ?_)
    repeat walk_at "s"
    rw [isEntsD] <;> simp
theorem inn2 (x a b : Str) : D.inn (.str x) (.tup [.str a, .str b]) = some (decide (x = a ∨ x = b)) := by
  unfold D.inn
  simp only [D.flat, List.all_cons, List.all_nil, Bool.and_true, if_true, List.any_cons, List.any_nil, D.eqv, Bool.or_false]
  congr 1
  by_cases h1 : x = a
  · subst h1; simp
  · by_cases h2 : x = b
    · subst h2; simp
    · have e1 : (a == x) = false := by simpa using fun e => h1 e.symm
      have e2 : (b == x) = false := by simpa using fun e => h2 e.symm
      rw [e1, e2]; simp [h1, h2]
theorem deep_tup {xs : List D} {d : D} (m : d ∈ xs) : d.deep < (D.tup xs).deep := by
  rw [D.deep]; have := deepL_mem m; omega
theorem sub_tup0 {x : D} {r : List D} : D.sub (.tup (x :: r)) (.int 0) = some x := by
  show L2.atI (x :: r) 0 = some x
  unfold L2.atI L2.ixN
  simp
theorem eqv_nat (x y : Int) : D.eqv (.int x) (.int y) = (x == y) := by rw [D.eqv]
theorem p_is_nested (n : Nat) (hn : n ≤ 40) (ds : List D) (d : D) (h : R_is_nested (n + 1) ds d) : DS ⟨K, none⟩ (t_is_nested K (SpP K (R_is_nested n)) (SpP K (R_are_entries n)) (SpP K (R_is_document 41))) (slots ["value", "depth", "name", "one"] ds) (Gives d) := by
  obtain ⟨v, l, rfl, hw, hdp, rfl⟩ := h
  show DS _ _ [.dat v, .dat (.int l), .un, .un] _
  unfold t_is_nested
  repeat walk_at "s"
  cases v with
  | tup xs =>
    rw [D.wf] at hw
    obtain ⟨hl, hx⟩ := hw
    refine it_f rfl ?_
    repeat walk_at "s"
    refine ⟨by omega, ?_⟩
    repeat walk_at "s"
    cases xs with
    | nil =>
      refine it_t (by rw [D.eqv]; simp [D.eqvL]) (it_t rfl ?_)
      repeat walk_at "s"
      rw [isNestD] <;> simp
    | cons x rest =>
      refine it_f (by rw [D.eqv]; simp [D.eqvL]) ?_
      repeat walk_at "s"
      refine ⟨x, sub_tup0, ?_⟩
      repeat walk_at "s"
      cases x with
      | str name =>
        refine it_f rfl ?_
        repeat walk_at "s"
        refine ⟨.str name, sub_tup0, ?_⟩
        repeat walk_at "s"
        refine ⟨_, inn2 _ _ _, ?_⟩
        repeat walk_at "s"
        refine it_c (fun h1 => ?_) fun h1 => ?_
        · have h1' : name = "keep" ∨ name = "drop" := of_decide_eq_true h1
          repeat walk_at "s"
          refine ⟨(D.str name :: rest).length, rfl, ?_⟩
          repeat walk_at "s"
          refine ⟨Nat.zero_le _, ?_⟩
          repeat walk_at "s"
          rw [isNestD.eq_def]
          simp only [if_pos h1', eqv_nat]
          cases rest with
          | nil => rfl
          | cons y r => simp; omega
        · have h1' : ¬ (name = "keep" ∨ name = "drop") := of_decide_eq_false h1
          repeat walk_at "s"
          refine ⟨(D.str name :: rest).length, rfl, ?_⟩
          repeat walk_at "s"
          refine ⟨Nat.zero_le _, ?_⟩
          repeat walk_at "s"
          rw [eqv_nat]
          rw [isNestD.eq_def]
          simp only [if_neg h1']
          cases rest with
          | nil =>
            refine it_t rfl ?_
            repeat walk_at "s"
            rfl
          | cons y r =>
          cases r with
          | cons y2 r =>
            refine it_t (by simp; omega) ?_
            repeat walk_at "s"
            rfl
          | nil =>
          refine it_f rfl ?_
          have hy : D.wf y := wfL_mem hx (by simp)
          have hdp : (D.tup [D.str name, y]).deep ≤ n := hdp
          have hyd : y.deep < (D.tup [D.str name, y]).deep := deep_tup (by simp)
          repeat walk_at "s"
          refine ⟨_, inn2 _ _ _, ?_⟩
          repeat walk_at "s"
          refine it_c (fun h2 => ?_) fun h2 => ?_
          · have h2' : name = "set" ∨ name = "default" := of_decide_eq_true h2
            repeat walk_at "s"
            refine ⟨y, rfl, ?_⟩
            repeat walk_at "s"
            refine ⟨[y, .int 5], _, rfl, ⟨y, 5, rfl, hy, Nat.le_trans (Nat.le_of_lt (Nat.lt_of_lt_of_le hyd hdp)) hn, rfl⟩, ?_⟩
            repeat walk_at "s"
            simp only [if_pos h2']
          · have h2' : ¬ (name = "set" ∨ name = "default") := of_decide_eq_false h2
            simp only [if_neg h2']
            repeat walk_at "s"
            refine ⟨Nat.zero_le _, ?_⟩
            repeat walk_at "s"
            rw [eqv_nat]
            refine it_c (fun h3 => ?_) fun h3 => ?_
            · have h3' : l = 0 := by simpa using h3
              repeat walk_at "s"
              rw [if_pos h3']
            · have h3' : ¬ l = 0 := by simpa using h3
              rw [if_neg h3']
              repeat walk_at "s"
              refine ⟨_, inn2 _ _ _, ?_⟩
              repeat walk_at "s"
              refine it_c (fun h4 => ?_) fun h4 => ?_
              · have h4' : name = "merge" ∨ name = "inside" := of_decide_eq_true h4
                rw [if_pos h4']
                repeat walk_at "s"
                refine ⟨y, rfl, ?_⟩
                repeat walk_at "s"
                refine ⟨[y, .int (l - 1)], _, rfl, ?_, rfl⟩
                cases n with
                | zero => omega
                | succ n => exact ⟨y, l - 1, rfl, hy, by omega, rfl⟩
              · have h4' : ¬ (name = "merge" ∨ name = "inside") := of_decide_eq_false h4
                rw [if_neg h4']
                repeat walk_at "s"
                refine ⟨Nat.zero_le _, ?_⟩
                repeat walk_at "s"
                rw [eqv_str]
                refine it_c (fun h5 => ?_) fun h5 => ?_
                · have h5' : name ≠ "chain" := by simpa using h5
                  rw [if_pos h5']
                  refine it_t rfl ?_
                  repeat walk_at "s"
                  rfl
                · have h5' : ¬ name ≠ "chain" := by simpa using h5
                  rw [if_neg h5']
                  repeat walk_at "s"
                  refine ⟨y, rfl, ?_⟩
                  repeat walk_at "s"
                  cases y with
                  | tup ys =>
                    rw [D.wf] at hy
                    refine it_f rfl ?_
                    repeat walk_at "s"
                    refine ⟨.tup ys, rfl, ?_⟩
                    refine ⟨ys.length, rfl, ?_⟩
                    repeat walk_at "s"
                    refine it_c (fun h6 => ?_) fun h6 => ?_
                    · have : ¬ ys.length ≤ 6 := by simp at h6; omega
                      repeat walk_at "s"
                      rw [isChD, decide_eq_false this]; rfl
                    · have h6' : ys.length ≤ 6 := by simp at h6; omega
                      repeat walk_at "s"
                      refine (dn_lcM (js := [3]) (fun d => .bl (isNestD d (l - 1))) (by simp) (di_any ?_)).de
                      repeat walk_at "s"
                      refine ⟨.tup ys, rfl, _, rfl, Nat.le_of_lt (small1000 (by omega)), fun i d hd => dg_name ?_, ?_⟩
                      · have hm := List.mem_of_getElem? hd
                        have hd2 : d.deep < (D.tup ys).deep := deep_tup hm
                        repeat walk_at "s"
                        refine ⟨[d, .int (l - 1)], _, rfl, ?_, rfl⟩
                        cases n with
                        | zero => omega
                        | succ n => exact ⟨d, l - 1, rfl, wfL_mem hy.2 hm, by omega, rfl⟩
                      · refine ⟨ys.map fun p => isNestD p (l - 1), by rw [List.map_map]; rfl, ?_⟩
                        repeat walk_at "s"
                        rw [isChD, ← isNestL_all, decide_eq_true h6']; rfl
                  | _ =>
                    refine it_t rfl (it_t rfl ?_)
                    repeat walk_at "s"
                    rw [isChD] <;> simp
      | _ =>
        refine it_t rfl ?_
        repeat walk_at "s"
        rw [isNestD] <;> simp
  | _ =>
    refine it_t rfl (it_t rfl ?_)
    repeat walk_at "s"
    rw [isNestD] <;> simp
def R_is_patch (ds : List D) (d : D) : Prop := ∃ v, ds = [v] ∧ v.wf ∧ v.deep ≤ 40 ∧ d = .bl (isNestD v 6)
theorem p_is_patch (ds : List D) (d : D) (h : R_is_patch ds d) : DS ⟨K, none⟩ (t_is_patch K (SpP K (R_is_nested 41))) (slots ["value"] ds) (Gives d) := by
  obtain ⟨v, rfl, hw, hd, rfl⟩ := h
  show DS _ _ [.dat v] _
  unfold t_is_patch
  repeat walk_at "s"
  exact ⟨[v, .int 6], _, rfl, ⟨v, 6, rfl, hw, hd, rfl⟩, rfl⟩
def R_need_patch (ds : List D) (d : D) : Prop := ∃ v, ds = [v] ∧ v.wf ∧ v.deep ≤ 40 ∧ isNestD v 6 = true ∧ d = .non
theorem p_need_patch (ds : List D) (d : D) (h : R_need_patch ds d) : DS ⟨K, none⟩ (t_need_patch K (SpP K R_is_patch)) (slots ["value"] ds) (Gives d) := by
  obtain ⟨v, rfl, hw, hd, hs, rfl⟩ := h
  show DS _ _ [.dat v] _
  unfold t_need_patch
  repeat walk_at "s"
  refine ⟨[v], .bl true, rfl, ⟨v, rfl, hw, hd, by rw [hs]⟩, ?_⟩
  repeat walk_at "s"
  refine it_f rfl ?_
  repeat walk_at "s"
end
end Mp

set_option Elab.async false
set_option linter.all false
set_option maxRecDepth 100000
set_option maxHeartbeats 4000000
namespace Mp
open PySem L2
local macro_rules | `(tactic| walk_at "s") => `(tactic| first
  | with_reducible refine ds_seq ?_
  | with_reducible refine ds_ret ?_
  | with_reducible refine ds_if ?_
  | with_reducible refine ds_asg ?_
  | with_reducible refine ds_drop ?_
  | with_reducible refine ds_next ?_
  | with_reducible refine ds_retN ?_
  | with_reducible refine then_nx ?_
  | with_reducible refine then_rt ?_
  | with_reducible refine gives_rt ?_
  | with_reducible refine gives_nx
  | with_reducible refine dt_not ?_
  | with_reducible refine dt_test ?_
  | with_reducible refine dt_B ?_
  | with_reducible refine dt_and ?_
  | with_reducible refine dt_or ?_
  | with_reducible refine dt_yes ?_
  | with_reducible refine ex_bl ?_
  | with_reducible refine ex_ii ?_
  | ((with_reducible show DE _ (tVar _) _ _); refine de_var rfl ?_)
  | with_reducible refine de_int ?_
  | with_reducible refine de_str ?_
  | with_reducible refine de_bl ?_
  | with_reducible refine de_non ?_
  | with_reducible refine de_sub ?_
  | with_reducible refine de_eq ?_
  | with_reducible refine de_ne ?_
  | with_reducible refine de_in ?_
  | with_reducible refine de_add ?_
  | with_reducible refine de_subI ?_
  | with_reducible refine de_lt ?_
  | with_reducible refine de_le ?_
  | with_reducible refine de_gt ?_
  | with_reducible refine de_ge ?_
  | with_reducible refine de_neg ?_
  | with_reducible refine de_isN ?_
  | with_reducible refine de_notN ?_
  | with_reducible refine de_chainII ?_
  | with_reducible refine de_len ?_
  | with_reducible refine de_isi .str rfl ?_
  | with_reducible refine de_isi .int rfl ?_
  | with_reducible refine de_isi .bool rfl ?_
  | with_reducible refine de_isi .dict rfl ?_
  | with_reducible refine de_isi .tuple rfl ?_
  | with_reducible refine de_isi .list rfl ?_
  | with_reducible refine de_all ?_
  | with_reducible refine de_sum ?_
  | with_reducible refine de_if ?_
  | with_reducible refine de_andV ?_
  | with_reducible refine de_orV ?_
  | with_reducible refine de_notV ?_
  | with_reducible refine de_tuple ?_
  | with_reducible refine de_get1 ?_
  | with_reducible refine de_get2 ?_
  | with_reducible refine de_tup0 ?_
  | with_reducible refine de_tup1 ?_
  | with_reducible refine de_tup2 ?_
  | with_reducible refine de_tup3 ?_
  | with_reducible refine de_tup4 ?_
  | with_reducible refine de_tup ?_
  | with_reducible refine de_call ?_
  | with_reducible refine da_nil ?_
  | with_reducible refine da_cons ?_)

/-! ### patches -/
inductive Pt
  | keep | drop
  | set (d : D) | dflt (d : D)
  | merge (es : List (Str × Pt)) | inside (es : List (Str × Pt))
  | chn (ps : List Pt)
mutual
def Pt.toD : Pt → D
  | .keep => .tup [.str "keep"]
  | .drop => .tup [.str "drop"]
  | .set d => .tup [.str "set", d]
  | .dflt d => .tup [.str "default", d]
  | .merge es => .tup [.str "merge", .dic (esD es)]
  | .inside es => .tup [.str "inside", .dic (esD es)]
  | .chn ps => .tup [.str "chain", .tup (ptsD ps)]
def esD : List (Str × Pt) → List (Key × D)
  | [] => []
  | (k, p) :: r => (.inr k, p.toD) :: esD r
def ptsD : List Pt → List D
  | [] => []
  | p :: r => p.toD :: ptsD r
end
theorem esD_map : ∀ es : List (Str × Pt), esD es = es.map fun p => (.inr p.1, p.2.toD)
  | [] => by rw [esD]; rfl
  | (k, f) :: r => by rw [esD, esD_map r]; rfl
theorem ptsD_map : ∀ es : List Pt, ptsD es = es.map Pt.toD
  | [] => by rw [ptsD]; rfl
  | f :: r => by rw [ptsD, ptsD_map r]; rfl
mutual
def formOf : Pt → Fm
  | .keep => .keep
  | .drop => .con .non (some .non) .non
  | .set d => .con d (some d) d
  | .dflt d => .ent d none []
  | .merge es => mergeFm (pairsOf ((esF es).map (·.1)) (getF (esF es)))
  | .inside es => .ent .non none (pairsOf ((esF es).map (·.1)) (getF (esF es)))
  | .chn ps => chnF .keep ps
def esF : List (Str × Pt) → List (Str × Fm)
  | [] => []
  | (k, p) :: r => (k, formOf p) :: esF r
def chnF : Fm → List Pt → Fm
  | f, [] => f
  | f, p :: r => chnF (chain 12 f (formOf p)) r
end
theorem esF_map : ∀ es : List (Str × Pt), esF es = es.map fun p => (p.1, formOf p.2)
  | [] => by rw [esF]; rfl
  | (k, f) :: r => by rw [esF, esF_map r]; rfl
theorem esF_keys (es : List (Str × Pt)) : (esF es).map (·.1) = es.map (·.1) := by rw [esF_map, List.map_map]; rfl
theorem chnF_snoc : ∀ (ps : List Pt) (f : Fm) (p : Pt), chnF f (ps ++ [p]) = chain 12 (chnF f ps) (formOf p)
  | [], f, p => by rw [List.nil_append, chnF, chnF, chnF]
  | q :: r, f, p => by rw [List.cons_append, chnF, chnF_snoc r, chnF]
/-- documents of depth m, nested n deep -/
inductive PtOk (A : List Str) (m : Nat) : Nat → Pt → Prop
  | keep {n : Nat} : PtOk A m n .keep
  | drop {n : Nat} : PtOk A m n .drop
  | set {n : Nat} {d : D} : Doc A m d → PtOk A m n (.set d)
  | dflt {n : Nat} {d : D} : Doc A m d → PtOk A m n (.dflt d)
  | merge {n : Nat} {es : List (Str × Pt)} : (es.map (·.1)).Nodup → (∀ p ∈ es, p.1 ∈ A) → (∀ p ∈ es, PtOk A m n p.2) → PtOk A m (n + 1) (.merge es)
  | inside {n : Nat} {es : List (Str × Pt)} : (es.map (·.1)).Nodup → (∀ p ∈ es, p.1 ∈ A) → (∀ p ∈ es, PtOk A m n p.2) → PtOk A m (n + 1) (.inside es)
  | chn {n : Nat} {ps : List Pt} : ps.length ≤ 6 → (∀ p ∈ ps, PtOk A m n p) → PtOk A m (n + 1) (.chn ps)
section
variable {A : List Str} {K : PySem.W.Frag}
theorem PtOk.mono {m n m' n' : Nat} {p : Pt} (h : PtOk A m n p) (l1 : m ≤ m') (l : n ≤ n') : PtOk A m' n' p := by
  induction h generalizing n' with
  | keep => exact .keep
  | drop => exact .drop
  | set h => exact .set (h.mono l1)
  | dflt h => exact .dflt (h.mono l1)
  | merge nd hk hp ih =>
    cases n' with
    | zero => omega
    | succ n' => exact .merge nd hk fun p h => ih p h (by omega)
  | inside nd hk hp ih =>
    cases n' with
    | zero => omega
    | succ n' => exact .inside nd hk fun p h => ih p h (by omega)
  | chn hl hp ih =>
    cases n' with
    | zero => omega
    | succ n' => exact .chn hl fun p h => ih p h (by omega)
theorem chnF_ok {N : Nat} (hN : N ≤ 11) : ∀ (ps : List Pt) {f : Fm}, FmOk A N f → (∀ p ∈ ps, FmOk A N (formOf p)) → FmOk A N (chnF f ps)
  | [], f, hf, _ => by rw [chnF]; exact hf
  | p :: r, f, hf, h => by
    rw [chnF]
    exact chnF_ok hN r (chain_okk hN hf (h p List.mem_cons_self)) fun q hq => h q (List.mem_cons_of_mem _ hq)
theorem esF_ok {N : Nat} {es : List (Str × Pt)} (nd : (es.map (·.1)).Nodup) (hk : ∀ p ∈ es, p.1 ∈ A) (h : ∀ p ∈ es, FmOk A N (formOf p.2)) : PsOk A N (pairsOf ((esF es).map (·.1)) (getF (esF es))) := by
  have hp : PsOk A N (esF es) := by
    refine ⟨by rw [esF_keys]; exact nd, fun p hp => ?_, fun p hp => ?_⟩ <;> rw [esF_map] at hp <;> obtain ⟨q, hq, rfl⟩ := List.mem_map.mp hp
    · exact hk q hq
    · exact h q hq
  refine pairsOf_ok hp.nd (fun k hk => ?_) fun k _ => hp.get k
  obtain ⟨q, hq, rfl⟩ := List.mem_map.mp hk
  exact hp.mem q hq
theorem mergeFm_ok {N : Nat} {ps : List (Str × Fm)} (h : PsOk A N ps) : FmOk A (N + 1) (mergeFm ps) := by
  have := (ents_ok ps h KsOk.nil KsOk.nil).st
  exact .ent this (fun e he => by cases he; exact this) h.nd h.mem h.ok
theorem formOf_ok {m n : Nat} (hN : m + n ≤ 11) {p : Pt} (h : PtOk A m n p) : FmOk A (m + n) (formOf p) := by
  induction h with
  | keep => rw [formOf]; exact .keep
  | drop => rw [formOf]; exact .con (.inl rfl) (fun e h => by cases h; exact .inl rfl) (.inl rfl)
  | @set n d h =>
    have := St.mono (m := m + n) (Or.inr h : St A m _) (Nat.le_add_right _ _)
    rw [formOf]; exact .con this (fun e h => by cases h; exact this) this
  | dflt h => rw [formOf]; exact .nil (St.mono (.inr h) (by omega)) (fun e h => by cases h)
  | merge nd hk hp ih => rw [formOf]; exact mergeFm_ok (esF_ok nd hk fun p h => ih p h (by omega))
  | inside nd hk hp ih =>
    have := esF_ok nd hk fun p h => ih p h (by omega)
    rw [formOf]; exact .ent (.inl rfl) (fun e h => by cases h) this.nd this.mem this.ok
  | chn hl hp ih => rw [formOf]; exact chnF_ok hN _ .keep fun p h => (ih p h (by omega)).mono (by omega)
theorem PtOk.wf (hA : Alp A) {m n : Nat} {p : Pt} (h : PtOk A m n p) : p.toD.wf := by
  have h2 : ∀ x y : D, x.wf → y.wf → (D.tup [x, y]).wf := fun x y hx hy => by rw [D.wf, D.wfL, D.wfL, D.wfL]; exact ⟨by simp, hx, hy, trivial⟩
  have es : ∀ es : List (Str × Pt), (es.map (·.1)).Nodup → (∀ p ∈ es, p.1 ∈ A) → (∀ p ∈ es, p.2.toD.wf) → (D.dic (esD es)).wf := fun es nd hk ih => by
    rw [D.wf, esD_map]
    refine ⟨?_, ?_, wfK_of fun p hp => ?_⟩
    · rw [List.length_map]
      have := len_le_alp nd fun x hx => by
        obtain ⟨p, hp, e⟩ := List.mem_map.mp hx
        rw [← e]; exact hk p hp
      rw [List.length_map] at this
      exact Nat.le_trans this hA.few
    · have e : (es.map fun p => ((.inr p.1 : Key), p.2.toD)).map (·.1) = (es.map (·.1)).map Sum.inr := by rw [List.map_map, List.map_map]; rfl
      rw [e]
      exact List.Pairwise.map _ (fun a b h e => h (Sum.inr.inj e)) nd
    · obtain ⟨q, hq, rfl⟩ := List.mem_map.mp hp
      exact ⟨fun s e => by cases e; exact text_len (hA.key _ (hk q hq)), ih q hq⟩
  have st : ∀ s : Str, s.length ≤ 1000 → (D.str s).wf := fun s h => by rw [D.wf]; exact h
  induction h with
  | keep => rw [Pt.toD, D.wf, D.wfL, D.wfL]; exact ⟨by simp, st _ (by decide), trivial⟩
  | drop => rw [Pt.toD, D.wf, D.wfL, D.wfL]; exact ⟨by simp, st _ (by decide), trivial⟩
  | set h => rw [Pt.toD]; exact h2 _ _ (st _ (by decide)) (h.wf hA)
  | dflt h => rw [Pt.toD]; exact h2 _ _ (st _ (by decide)) (h.wf hA)
  | merge nd hk hp ih => rw [Pt.toD]; exact h2 _ _ (st _ (by decide)) (es _ nd hk ih)
  | inside nd hk hp ih => rw [Pt.toD]; exact h2 _ _ (st _ (by decide)) (es _ nd hk ih)
  | @chn n ps hl hp ih =>
    rw [Pt.toD]
    refine h2 _ _ (st _ (by decide)) ?_
    rw [D.wf, ptsD_map, List.length_map]
    refine ⟨by omega, ?_⟩
    have : ∀ xs : List Pt, (∀ p ∈ xs, p.toD.wf) → D.wfL (xs.map Pt.toD) := fun xs => by
      induction xs with
      | nil => intro _; rw [List.map_nil, D.wfL]; trivial
      | cons x r ih => intro h; rw [List.map_cons, D.wfL]; exact ⟨h x List.mem_cons_self, ih fun p hp => h p (List.mem_cons_of_mem _ hp)⟩
    exact this ps ih
theorem PtOk.deep {m n : Nat} {p : Pt} (h : PtOk A m n p) : p.toD.deep ≤ 2 * n + m + 1 := by
  have es : ∀ (n : Nat) (es : List (Str × Pt)), (∀ p ∈ es, p.2.toD.deep ≤ n) → D.deepK (esD es) ≤ n := fun n es ih => by
    rw [esD_map]
    refine deepK_le fun p hp => ?_
    obtain ⟨q, hq, rfl⟩ := List.mem_map.mp hp
    exact ih q hq
  induction h with
  | keep => rw [Pt.toD]; simp only [D.deep, D.deepL]; omega
  | drop => rw [Pt.toD]; simp only [D.deep, D.deepL]; omega
  | set h => rw [Pt.toD]; have := h.deep; simp only [D.deep, D.deepL]; omega
  | dflt h => rw [Pt.toD]; have := h.deep; simp only [D.deep, D.deepL]; omega
  | merge nd hk hp ih => rw [Pt.toD]; have := es _ _ ih; simp only [D.deep, D.deepL]; omega
  | inside nd hk hp ih => rw [Pt.toD]; have := es _ _ ih; simp only [D.deep, D.deepL]; omega
  | @chn n ps hl hp ih =>
    rw [Pt.toD]
    have : D.deepL (ptsD ps) ≤ 2 * n + m + 1 := by
      rw [ptsD_map]
      refine deepL_le fun p hp => ?_
      obtain ⟨q, hq, rfl⟩ := List.mem_map.mp hp
      exact ih q hq
    simp only [D.deep, D.deepL]; omega
theorem PtOk.valid (hA : Alp A) (h6 : A.length ≤ 6) {m n : Nat} (hm : m ≤ 5) {p : Pt} (h : PtOk A m n p) : ∀ {k : Int}, (n : Int) ≤ k → isNestD p.toD k = true := by
  have es : ∀ (k : Int) (es : List (Str × Pt)), (es.map (·.1)).Nodup → (∀ p ∈ es, p.1 ∈ A) → (∀ p ∈ es, isNestD p.2.toD k = true) → isEntsD (.dic (esD es)) k = true := fun k es nd hk ih => by
    have hl : es.length ≤ 6 := by
      have := len_le_alp nd fun x hx => by
        obtain ⟨p, hp, e⟩ := List.mem_map.mp hx
        rw [← e]; exact hk p hp
      rw [List.length_map] at this
      omega
    rw [isEntsD, isNestK_all, esD_map, List.length_map, List.all_map, List.map_map, List.all_map, decide_eq_true hl, Bool.true_and, Bool.and_eq_true]
    exact ⟨List.all_eq_true.mpr fun p hp => hA.key _ (hk p hp), List.all_eq_true.mpr fun p hp => ih p hp⟩
  induction h with
  | keep => intro k _; rw [Pt.toD, isNestD.eq_def]; simp only [if_pos (show (("keep" : Str) = "keep" ∨ ("keep" : Str) = "drop") by decide)]; rfl
  | drop => intro k _; rw [Pt.toD, isNestD.eq_def]; simp only [if_pos (show (("drop" : Str) = "keep" ∨ ("drop" : Str) = "drop") by decide)]; rfl
  | set h =>
    intro k _; rw [Pt.toD, isNestD.eq_def]
    simp only [if_neg (show ¬ (("set" : Str) = "keep" ∨ ("set" : Str) = "drop") by decide), if_pos (show (("set" : Str) = "set" ∨ ("set" : Str) = "default") by decide)]
    exact h.valid hA h6 (by omega)
  | dflt h =>
    intro k _; rw [Pt.toD, isNestD.eq_def]
    simp only [if_neg (show ¬ (("default" : Str) = "keep" ∨ ("default" : Str) = "drop") by decide), if_pos (show (("default" : Str) = "set" ∨ ("default" : Str) = "default") by decide)]
    exact h.valid hA h6 (by omega)
  | @merge n e nd hk hp ih =>
    intro k hkk; rw [Pt.toD, isNestD.eq_def]
    simp only [if_neg (show ¬ (("merge" : Str) = "keep" ∨ ("merge" : Str) = "drop") by decide), if_neg (show ¬ (("merge" : Str) = "set" ∨ ("merge" : Str) = "default") by decide), if_neg (show ¬ k = 0 by omega), if_pos (show (("merge" : Str) = "merge" ∨ ("merge" : Str) = "inside") by decide)]
    exact es _ _ nd hk fun p h => ih p h (by omega)
  | @inside n e nd hk hp ih =>
    intro k hkk; rw [Pt.toD, isNestD.eq_def]
    simp only [if_neg (show ¬ (("inside" : Str) = "keep" ∨ ("inside" : Str) = "drop") by decide), if_neg (show ¬ (("inside" : Str) = "set" ∨ ("inside" : Str) = "default") by decide), if_neg (show ¬ k = 0 by omega), if_pos (show (("inside" : Str) = "merge" ∨ ("inside" : Str) = "inside") by decide)]
    exact es _ _ nd hk fun p h => ih p h (by omega)
  | @chn n ps hl hp ih =>
    intro k hkk; rw [Pt.toD, isNestD.eq_def]
    simp only [if_neg (show ¬ (("chain" : Str) = "keep" ∨ ("chain" : Str) = "drop") by decide), if_neg (show ¬ (("chain" : Str) = "set" ∨ ("chain" : Str) = "default") by decide), if_neg (show ¬ k = 0 by omega), if_neg (show ¬ (("chain" : Str) = "merge" ∨ ("chain" : Str) = "inside") by decide), if_neg (show ¬ (("chain" : Str) ≠ "chain") by decide)]
    rw [isChD, ptsD_map, List.length_map, decide_eq_true hl, isNestL_all, List.map_map, List.all_map, Bool.true_and]
    exact List.all_eq_true.mpr fun p h => ih p h (by omega)

def R_form_of (A : List Str) : Nat → List D → D → Prop
  | 0, _, _ => False
  | n + 1, ds, d => ∃ p, ds = [Pt.toD p] ∧ PtOk A 5 n p ∧ d = (formOf p).toD
theorem getF_esF {es : List (Str × Pt)} (nd : (es.map (·.1)).Nodup) {k : Str} {p : Pt} (h : (k, p) ∈ es) : getF (esF es) k = formOf p := by
  unfold getF
  rw [mem_lookF (f := formOf p) (by rw [esF_keys]; exact nd) (by rw [esF_map]; exact List.mem_map.mpr ⟨(k, p), h, rfl⟩)]; rfl
theorem nodup_inr {α : Type} {es : List (Str × α)} {f : α → D} (nd : (es.map (·.1)).Nodup) : ((es.map fun p => ((.inr p.1 : Key), f p.2)).map (·.1)).Nodup := by
  have e : (es.map fun p => ((.inr p.1 : Key), f p.2)).map (·.1) = (es.map (·.1)).map Sum.inr := by rw [List.map_map, List.map_map]; rfl
  rw [e]
  exact List.Pairwise.map _ (fun a b h e => h (Sum.inr.inj e)) nd
theorem p_form_of (hA : Alp A) {a : Addr} (hK : ∀ G, Has K G Fm.keep.toD (.ref a)) (n : Nat) (hn : n ≤ 6) (ds : List D) (d : D) (h : R_form_of A (n + 1) ds d) :
    DS ⟨K, none⟩ (t_form_of K a (SpP K (R_merge_form A 10)) (SpP K R_inside_form) (SpP K (R_pairs_of A 10)) (SpP K (R_form_of A n)) (SpP K (R_chained A 12)) (SpP K R_constant_form)) (slots ["patch", "name", "form", "one", "pairs", "key"] ds) (Gives d) := by
  obtain ⟨p, rfl, hp, rfl⟩ := h
  show DS _ _ [.dat p.toD, .un, .un, .un, .un, .un] _
  have eq : ∀ (x y : Str) (b : Bool), decide (x = y) = b → D.eqv (.str x) (.str y) = b := fun x y b h => by
    rw [eqv_str, ← h]; rfl
  have big : ∀ (nm : Str) (es : List (Str × Pt)) (out : D) (q : Bool), (es.map (·.1)).Nodup → (∀ p ∈ es, p.1 ∈ A) → (∀ p ∈ es, 0 < n ∧ PtOk A 5 (n - 1) p.2) →
      (nm == "keep") = false → (nm == "drop") = false → (nm == "set") = false → (nm == "default") = false → (nm == "chain") = false → (nm == "merge") = q →
      (out = if q = true then (mergeFm (pairsOf ((esF es).map (·.1)) (getF (esF es)))).toD else (Fm.ent .non none (pairsOf ((esF es).map (·.1)) (getF (esF es)))).toD) →
      DS ⟨K, none⟩ (t_form_of K a (SpP K (R_merge_form A 10)) (SpP K R_inside_form) (SpP K (R_pairs_of A 10)) (SpP K (R_form_of A n)) (SpP K (R_chained A 12)) (SpP K R_constant_form)) [.dat (.tup [.str nm, .dic (esD es)]), .un, .un, .un, .un, .un] (Gives out) := fun nm es out q nd hk hes h1 h2 h3 h4 h5 h6 ho => by
    unfold t_form_of
    repeat walk_at "s"
    refine ⟨.str nm, sub_tup0, ?_⟩
    repeat walk_at "s"
    refine ⟨Nat.zero_le _, ?_⟩
    repeat walk_at "s"
    refine it_f (by rw [eqv_str]; exact h1) ?_
    repeat walk_at "s"
    refine ⟨Nat.zero_le _, ?_⟩
    repeat walk_at "s"
    refine it_f (by rw [eqv_str]; exact h2) ?_
    repeat walk_at "s"
    refine ⟨Nat.zero_le _, ?_⟩
    repeat walk_at "s"
    refine it_f (by rw [eqv_str]; exact h3) ?_
    repeat walk_at "s"
    refine ⟨Nat.zero_le _, ?_⟩
    repeat walk_at "s"
    refine it_f (by rw [eqv_str]; exact h4) ?_
    repeat walk_at "s"
    refine ⟨Nat.zero_le _, ?_⟩
    repeat walk_at "s"
    refine it_f (by rw [eqv_str]; exact h5) ?_
    repeat walk_at "s"
    refine (dn_dcK (fun k d => match k with | .inr x => (getF (esF es) x).toD | _ => .non) ?_).de
    repeat walk_at "s"
    have hl : es.length ≤ 60 := by
      have := len_le_alp nd fun x hx => by
        obtain ⟨p, hp, e⟩ := List.mem_map.mp hx
        rw [← e]; exact hk p hp
      rw [List.length_map] at this
      exact Nat.le_trans this hA.few
    refine ⟨.dic (esD es), rfl, esD es, rfl, by rw [esD_map]; exact nodup_inr nd, by rw [esD_map, List.length_map]; omega, fun p hp => ?_, fun x d hx => ?_, ?_⟩
    · rw [esD_map] at hp; obtain ⟨q, _, rfl⟩ := List.mem_map.mp hp; exact ⟨q.1, rfl⟩
    · have hx' := hx
      rw [esD_map] at hx
      obtain ⟨⟨x', p⟩, hq, e⟩ := List.mem_map.mp hx
      cases e
      repeat walk_at "s"
      refine ⟨rfl, ?_⟩
      repeat walk_at "s"
      refine ⟨.dic (esD es), rfl, ?_⟩
      repeat walk_at "s"
      refine ⟨p.toD, sub_key (ks := esD es) (k := .inr x') (by rw [esD_map]; exact nodup_inr nd) hx', ?_⟩
      repeat walk_at "s"
      refine ⟨[p.toD], (formOf p).toD, rfl, ?_, by show _ = (getF (esF es) x').toD; rw [getF_esF nd hq]⟩
      obtain ⟨h0, hp⟩ := hes _ hq
      cases n with
      | zero => omega
      | succ n => exact ⟨p, rfl, hp, rfl⟩
    · have hok : PsOk A 10 (esF es) := by
        refine ⟨by rw [esF_keys]; exact nd, fun p hp => ?_, fun p hp => ?_⟩ <;> rw [esF_map] at hp <;> obtain ⟨q, hq, rfl⟩ := List.mem_map.mp hp
        · exact hk q hq
        · obtain ⟨h0, hp⟩ := hes _ hq
          exact (formOf_ok (by omega) hp).mono (by omega)
      have hin : ∀ k ∈ (esF es).map (·.1), k ∈ A := fun k hk => by
        obtain ⟨q, hq, rfl⟩ := List.mem_map.mp hk
        exact hok.mem q hq
      have hpo : PsOk A 10 (pairsOf ((esF es).map (·.1)) (getF (esF es))) := pairsOf_ok hok.nd hin fun k _ => hok.get k
      repeat walk_at "s"
      refine ⟨[_], _, rfl, ⟨(esF es).map (·.1), getF (esF es), ?_, hok.nd, hin, fun k _ => hok.get k, rfl⟩, ?_⟩
      · rw [esF_keys, esD_map, List.map_map, List.map_map]; rfl
      repeat walk_at "s"
      refine ⟨Nat.zero_le _, ?_⟩
      repeat walk_at "s"
      rw [eqv_str, h6]
      cases q with
      | true =>
        refine it_t rfl ?_
        repeat walk_at "s"
        refine ⟨[_], _, rfl, ⟨_, rfl, hpo, rfl⟩, ?_⟩
        rw [ho]; rfl
      | false =>
        refine it_f rfl ?_
        repeat walk_at "s"
        refine ⟨[_], _, rfl, ⟨_, rfl, rfl⟩, ?_⟩
        rw [ho]; rfl
  cases p with
  | keep =>
    rw [Pt.toD]
    unfold t_form_of
    repeat walk_at "s"
    refine ⟨_, sub_tup0, ?_⟩
    repeat walk_at "s"
    refine ⟨Nat.zero_le _, ?_⟩
    repeat walk_at "s"
    refine it_t (eq _ _ _ (by decide)) ?_
    refine ds_ret (de_cst hK ?_)
    repeat walk_at "s"
    rw [formOf]
  | drop =>
    rw [Pt.toD]
    unfold t_form_of
    repeat walk_at "s"
    refine ⟨_, sub_tup0, ?_⟩
    repeat walk_at "s"
    refine ⟨Nat.zero_le _, ?_⟩
    repeat walk_at "s"
    refine it_f (eq _ _ _ (by decide)) ?_
    repeat walk_at "s"
    refine ⟨Nat.zero_le _, ?_⟩
    repeat walk_at "s"
    refine it_t (eq _ _ _ (by decide)) ?_
    repeat walk_at "s"
    exact ⟨[.non], _, rfl, ⟨.non, rfl, rfl⟩, by rw [formOf]; rfl⟩
  | set d =>
    rw [Pt.toD]
    unfold t_form_of
    repeat walk_at "s"
    refine ⟨_, sub_tup0, ?_⟩
    repeat walk_at "s"
    refine ⟨Nat.zero_le _, ?_⟩
    repeat walk_at "s"
    refine it_f (eq _ _ _ (by decide)) ?_
    repeat walk_at "s"
    refine ⟨Nat.zero_le _, ?_⟩
    repeat walk_at "s"
    refine it_f (eq _ _ _ (by decide)) ?_
    repeat walk_at "s"
    refine ⟨Nat.zero_le _, ?_⟩
    repeat walk_at "s"
    refine it_t (eq _ _ _ (by decide)) ?_
    repeat walk_at "s"
    refine ⟨d, rfl, ?_⟩
    repeat walk_at "s"
    exact ⟨[d], _, rfl, ⟨d, rfl, rfl⟩, by rw [formOf]; rfl⟩
  | dflt d =>
    rw [Pt.toD]
    unfold t_form_of
    repeat walk_at "s"
    refine ⟨_, sub_tup0, ?_⟩
    repeat walk_at "s"
    refine ⟨Nat.zero_le _, ?_⟩
    repeat walk_at "s"
    refine it_f (eq _ _ _ (by decide)) ?_
    repeat walk_at "s"
    refine ⟨Nat.zero_le _, ?_⟩
    repeat walk_at "s"
    refine it_f (eq _ _ _ (by decide)) ?_
    repeat walk_at "s"
    refine ⟨Nat.zero_le _, ?_⟩
    repeat walk_at "s"
    refine it_f (eq _ _ _ (by decide)) ?_
    repeat walk_at "s"
    refine ⟨Nat.zero_le _, ?_⟩
    repeat walk_at "s"
    refine it_t (eq _ _ _ (by decide)) ?_
    repeat walk_at "s"
    refine ⟨d, rfl, ?_⟩
    repeat walk_at "s"
    rw [formOf, Fm.toD, psD]; rfl
  | merge es =>
    cases hp with
    | merge nd hk hes =>
      have := big "merge" es (formOf (.merge es)).toD true nd hk (fun p h => ⟨by omega, hes p h⟩) (by decide) (by decide) (by decide) (by decide) (by decide) (by decide) (by rw [formOf]; rfl)
      rw [Pt.toD]
      exact this
  | inside es =>
    cases hp with
    | inside nd hk hes =>
      have := big "inside" es (formOf (.inside es)).toD false nd hk (fun p h => ⟨by omega, hes p h⟩) (by decide) (by decide) (by decide) (by decide) (by decide) (by decide) (by rw [formOf]; rfl)
      rw [Pt.toD]
      exact this
  | chn ps =>
    rw [Pt.toD]
    unfold t_form_of
    repeat walk_at "s"
    refine ⟨_, sub_tup0, ?_⟩
    repeat walk_at "s"
    refine ⟨Nat.zero_le _, ?_⟩
    repeat walk_at "s"
    refine it_f (eq _ _ _ (by decide)) ?_
    repeat walk_at "s"
    refine ⟨Nat.zero_le _, ?_⟩
    repeat walk_at "s"
    refine it_f (eq _ _ _ (by decide)) ?_
    repeat walk_at "s"
    refine ⟨Nat.zero_le _, ?_⟩
    repeat walk_at "s"
    refine it_f (eq _ _ _ (by decide)) ?_
    repeat walk_at "s"
    refine ⟨Nat.zero_le _, ?_⟩
    repeat walk_at "s"
    refine it_f (eq _ _ _ (by decide)) ?_
    repeat walk_at "s"
    refine ⟨Nat.zero_le _, ?_⟩
    repeat walk_at "s"
    refine it_t (eq _ _ _ (by decide)) ?_
    cases hp with
    | @chn n _ hl hps =>
    refine ds_seq (ds_asg (de_cst hK (then_nx (ds_seq (ds_for (js := [3]) (di_any ?_))))))
    repeat walk_at "s"
    refine ⟨.tup (ptsD ps), rfl, ptsD ps, rfl, fun i δ => ∃ z, δ = [.dat (.tup [.str "chain", .tup (ptsD ps)]), .dat (.str "chain"), .dat (chnF .keep (ps.take i)).toD, z, .un, .un], ⟨.un, ?_⟩, fun i d δ' hd w => ?_, fun δ' w => ?_⟩
    · rw [List.take_zero, chnF]; rfl
    · obtain ⟨z, rfl⟩ := w
      rw [ptsD_map, List.getElem?_map] at hd
      cases q : ps[i]? with
      | none => rw [q] at hd; cases hd
      | some p =>
        rw [q] at hd; cases hd
        have hm := List.mem_of_getElem? q
        refine dg_name ?_
        repeat walk_at "s"
        refine ⟨[p.toD], _, rfl, ⟨p, rfl, hps p hm, rfl⟩, ?_⟩
        repeat walk_at "s"
        have h1 : FmOk A 11 (chnF .keep (ps.take i)) := chnF_ok (Nat.le_refl _) _ .keep fun p h => (formOf_ok (by omega) (hps p (List.mem_of_mem_take h))).mono (by omega)
        have h2 : FmOk A 11 (formOf p) := (formOf_ok (by omega) (hps p hm)).mono (by omega)
        refine ⟨[_, _], _, rfl, ⟨_, _, rfl, h1, h2, rfl⟩, ?_⟩
        refine ⟨.dat p.toD, ?_⟩
        rw [List.take_succ, q]
        show _ = [_, _, Sl.dat (chnF .keep (ps.take i ++ [p])).toD, _, _, _]
        rw [chnF_snoc]; rfl
    · obtain ⟨z, rfl⟩ := w
      rw [ptsD_map, List.length_map, List.take_length]
      repeat walk_at "s"
      rw [formOf]
/-- a patch that is valid, with its depths -/
structure PtV (A : List Str) (p : Pt) : Prop where
  ok : PtOk A 5 6 p
  valid : isNestD p.toD 6 = true
structure StV (A : List Str) (s : D) : Prop where
  ok : St A 5 s
  valid : isStateD s = true
theorem PtV.of (hA : Alp A) (h6 : A.length ≤ 6) {m n : Nat} {p : Pt} (h : PtOk A m n p) (hm : m ≤ 5) (hn : n ≤ 6) : PtV A p := ⟨h.mono hm hn, h.valid hA h6 hm (by omega)⟩
theorem StV.of (hA : Alp A) (h6 : A.length ≤ 6) {n : Nat} {s : D} (h : St A n s) (hn : n ≤ 5) : StV A s := ⟨h.mono hn, h.valid hA h6 hn⟩
def R_apply (A : List Str) (ds : List D) (d : D) : Prop := ∃ p s, ds = [Pt.toD p, s] ∧ PtV A p ∧ StV A s ∧ d = (formOf p).run s
theorem p_apply (hA : Alp A) (ds : List D) (d : D) (h : R_apply A ds d) :
    DS ⟨K, none⟩ (t_apply K (SpP K (R_copied A 12)) (SpP K (R_run A 12)) (SpP K (R_form_of A 7)) (SpP K R_need_state) (SpP K R_need_patch)) (slots ["patch", "state"] ds) (Gives d) := by
  obtain ⟨p, s, rfl, hp, hs, rfl⟩ := h
  show DS _ _ [.dat p.toD, .dat s] _
  unfold t_apply
  repeat walk_at "s"
  refine ⟨[p.toD], .non, rfl, ⟨_, rfl, hp.ok.wf hA, Nat.le_trans hp.ok.deep (by omega), hp.valid, rfl⟩, ?_⟩
  repeat walk_at "s"
  refine ⟨[s], .non, rfl, ⟨s, rfl, hs.ok.wf hA, Nat.le_trans hs.ok.deep (by omega), hs.valid, rfl⟩, ?_⟩
  repeat walk_at "s"
  refine ⟨[p.toD], _, rfl, ⟨p, rfl, hp.ok, rfl⟩, ?_⟩
  repeat walk_at "s"
  have hf : FmOk A 11 (formOf p) := formOf_ok (by omega) hp.ok
  have hs' : St A 11 s := hs.ok.mono (by omega)
  refine ⟨[(formOf p).toD, s], _, rfl, ⟨_, s, rfl, hf, hs', rfl⟩, ?_⟩
  repeat walk_at "s"
  exact ⟨[_], _, rfl, ⟨_, rfl, run_ok _ hf hs', rfl⟩, rfl⟩
end
end Mp

set_option Elab.async false
set_option linter.all false
set_option maxRecDepth 100000
set_option maxHeartbeats 4000000
namespace Mp
open PySem L2
/-! ### trees: what a state means, with plain equality -/
inductive T
  | no | int (i : Int) | str (s : Str) | nd (m : Str → T)
mutual
def sem : D → T
  | .non => .no
  | .int i => .int i
  | .str s => .str s
  | .dic ks => .nd (semK ks)
  | .bl _ => .no
  | .tup _ => .no
  | .lst _ => .no
def semK : List (Key × D) → Str → T
  | [], _ => .no
  | (k, d) :: r, x => if k = .inr x then sem d else semK r x
end
section
variable {A : List Str}
theorem sem_non : sem .non = .no := by rw [sem]
theorem semK_look : ∀ (ks : List (Key × D)) (x : Str), semK ks x = sem ((look ks (.inr x)).getD .non)
  | [], x => by rw [semK, look, Option.getD_none, sem_non]
  | (k, d) :: r, x => by
    rw [semK, look, semK_look r x]
    split <;> rfl
theorem Doc.sem_ne {n : Nat} {d : D} (h : Doc A n d) : sem d ≠ .no := by
  cases h <;> rw [sem] <;> exact fun e => by cases e
theorem look_none_of {α : Type} : ∀ {ks : List (Key × α)} {k : Key}, k ∉ ks.map (·.1) → look ks k = none
  | [], _, _ => rfl
  | (j, x) :: r, k, h => by
    rw [List.map_cons, List.mem_cons, not_or] at h
    rw [look, if_neg fun e => h.1 e.symm]; exact look_none_of h.2
theorem look_some_of {α : Type} : ∀ {ks : List (Key × α)} {k : Key}, k ∈ ks.map (·.1) → ∃ d, look ks k = some d
  | (j, x) :: r, k, h => by
    rw [look]
    split
    · exact ⟨x, rfl⟩
    · next e =>
      rw [List.map_cons, List.mem_cons] at h
      exact look_some_of (h.resolve_left fun z => e z.symm)
theorem look_key {α : Type} {ks : List (Key × α)} {k : Key} {d : α} (h : look ks k = some d) : k ∈ ks.map (·.1) := List.mem_map.mpr ⟨(k, d), look_mem h, rfl⟩
theorem eqvK_iff : ∀ (ks js : List (Key × D)), D.eqvK ks js = true ↔ ∀ p ∈ ks, ∃ y, look js p.1 = some y ∧ D.eqv p.2 y = true
  | [], js => by rw [D.eqvK]; simp
  | (k, x) :: r, js => by
    rw [D.eqvK, Bool.and_eq_true, eqvK_iff r js]
    constructor
    · rintro ⟨h1, h2⟩ p hp
      rcases List.mem_cons.mp hp with e | hp
      · subst e
        cases q : look js k with
        | none => simp only [q] at h1; cases h1
        | some y => simp only [q] at h1; exact ⟨y, rfl, h1⟩
      · exact h2 p hp
    · intro h
      obtain ⟨y, e, h1⟩ := h (k, x) List.mem_cons_self
      refine ⟨?_, fun p hp => h p (List.mem_cons_of_mem _ hp)⟩
      simp only at e
      rw [e]; exact h1
theorem Doc.eqv_iff {n m : Nat} {d e : D} (h : Doc A n d) (g : Doc A m e) : D.eqv d e = true ↔ sem d = sem e := by
  induction h generalizing m e with
  | int n h => cases g <;> rw [D.eqv] <;> simp [sem]
  | str n h => cases g <;> rw [D.eqv] <;> simp [sem]
  | @dic n ks nd hk hd ih =>
    cases g with
    | int _ _ => rw [D.eqv] <;> simp [sem]
    | str _ _ => rw [D.eqv] <;> simp [sem]
    | @dic m js nd' hk' hd' =>
      rw [D.eqv, Bool.and_eq_true, eqvK_iff, sem, sem]
      constructor
      · rintro ⟨hl, h⟩
        have hl : ks.length = js.length := by simpa using hl
        congr 1
        funext x
        rw [semK_look, semK_look]
        cases q : look ks (.inr x) with
        | some d =>
          have hm := look_mem q
          obtain ⟨y, e, hy⟩ := h _ hm
          simp only at e hy
          rw [e]
          exact (ih _ hm (hd' _ (look_mem e))).mp hy
        | none =>
          cases q' : look js (.inr x) with
          | none => rfl
          | some y =>
            exfalso
            have := len_le_alp (xs := .inr x :: ks.map (·.1)) (ys := js.map (·.1)) (List.nodup_cons.mpr ⟨(fun hx => by
              obtain ⟨d, e⟩ := look_some_of hx; rw [q] at e; cases e), nd⟩) fun k hk => by
                rcases List.mem_cons.mp hk with e | hk
                · rw [e]; exact look_key q'
                · obtain ⟨p, hp, e⟩ := List.mem_map.mp hk
                  obtain ⟨y, e2, _⟩ := h p hp
                  rw [← e]; exact look_key e2
            simp at this; omega
      · intro h
        have h : semK ks = semK js := by injection h
        have key : ∀ (x : Str), (look ks (.inr x)).isSome = (look js (.inr x)).isSome := fun x => by
          have hx := congrFun h x
          rw [semK_look, semK_look] at hx
          cases q : look ks (.inr x) with
          | none =>
            cases q' : look js (.inr x) with
            | none => rfl
            | some y => rw [q, q', Option.getD_none, sem_non] at hx; exact absurd hx.symm (hd' _ (look_mem q')).sem_ne
          | some y =>
            cases q' : look js (.inr x) with
            | some _ => rfl
            | none => rw [q, q', Option.getD_none, sem_non] at hx; exact absurd hx (hd _ (look_mem q)).sem_ne
        have sub1 : ∀ k ∈ ks.map (·.1), k ∈ js.map (·.1) := fun k hkk => by
          obtain ⟨p, hp, e⟩ := List.mem_map.mp hkk
          obtain ⟨x, _, ex⟩ := hk p hp
          obtain ⟨d, ed⟩ := look_some_of hkk
          rw [← e, ex] at ed ⊢
          have := key x
          rw [ed] at this
          cases q : look js (.inr x) with
          | none => rw [q] at this; cases this
          | some y => exact look_key q
        have sub2 : ∀ k ∈ js.map (·.1), k ∈ ks.map (·.1) := fun k hkk => by
          obtain ⟨p, hp, e⟩ := List.mem_map.mp hkk
          obtain ⟨x, _, ex⟩ := hk' p hp
          obtain ⟨d, ed⟩ := look_some_of hkk
          rw [← e, ex] at ed ⊢
          have := key x
          rw [ed] at this
          cases q : look ks (.inr x) with
          | none => rw [q] at this; cases this
          | some y => exact look_key q
        refine ⟨?_, fun p hp => ?_⟩
        · have a := len_le_alp nd sub1
          have b := len_le_alp nd' sub2
          simp at a b ⊢; omega
        · obtain ⟨x, _, ex⟩ := hk p hp
          obtain ⟨y, e⟩ := look_some_of (sub1 p.1 (List.mem_map.mpr ⟨p, hp, rfl⟩))
          refine ⟨y, e, (ih p hp (hd' _ (look_mem e))).mpr ?_⟩
          have hx := congrFun h x
          rw [semK_look, semK_look, ← ex, e, mem_look nd (show (p.1, p.2) ∈ ks from hp)] at hx
          exact hx
theorem St.eqv_iff {n m : Nat} {d e : D} (h : St A n d) (g : St A m e) : D.eqv d e = true ↔ sem d = sem e := by
  rcases h with rfl | h
  · rcases g with rfl | g
    · rw [D.eqv]; simp
    · have := g.sem_ne
      cases g <;> simp [sem, D.eqv]
  · rcases g with rfl | g
    · have := h.sem_ne
      cases h <;> rw [D.eqv] <;> simp [sem]
    · exact h.eqv_iff g
theorem St.eqv_sem {n m : Nat} {d e : D} (h : St A n d) (g : St A m e) (q : sem d = sem e) : D.eqv d e = true := (h.eqv_iff g).mpr q

/-! ### forms -/
mutual
def Fm.fs : Fm → T → T
  | .con no sc d, t => match t with
    | .no => sem no
    | .nd _ => sem d
    | t => match sc with
      | none => t
      | some e => sem e
  | .ent no sc ps, t => match t with
    | .no => sem no
    | .nd m => .nd (fsK ps m)
    | t => match sc with
      | none => t
      | some e => sem e
def fsK : List (Str × Fm) → (Str → T) → Str → T
  | [], m, x => m x
  | (k, f) :: r, m, x => if k = x then f.fs (m x) else fsK r m x
end
theorem look_put {α : Type} (ks : List (Key × α)) (k j : Key) (d : α) : look (putD ks k d) j = if k = j then some d else look ks j := by
  unfold putD
  split
  · next h =>
    induction ks with
    | nil => simp at h
    | cons p r ih =>
      obtain ⟨i, x⟩ := p
      rw [List.map_cons]
      by_cases hi : i = k
      · subst hi
        rw [if_pos rfl, look, look]
        by_cases hj : i = j
        · rw [if_pos hj, if_pos hj]
        · rw [if_neg hj, if_neg hj, if_neg hj]
          have : ∀ r : List (Key × α), look (r.map fun p => if p.1 = i then (p.1, d) else p) j = look r j := fun r => by
            induction r with
            | nil => rfl
            | cons p r ih =>
              obtain ⟨i', x'⟩ := p
              rw [List.map_cons, look]
              by_cases hi : i' = i
              · rw [if_pos hi, look, if_neg (hi ▸ hj), if_neg (hi ▸ hj), ih]
              · rw [if_neg hi, look, ih]
          exact this r
      · rw [if_neg hi, look, look]
        have h' : (r.any fun p => decide (p.1 = k)) = true := by
          simp only [List.any_cons, Bool.or_eq_true] at h
          exact h.resolve_left (by simpa using hi)
        by_cases hj : i = j
        · rw [if_pos hj, if_pos hj, if_neg fun e => hi (hj.trans e.symm)]
        · rw [if_neg hj, if_neg hj]; exact ih h'
  · next h =>
    induction ks with
    | nil => rw [List.nil_append, look]; rfl
    | cons p r ih =>
      obtain ⟨i, x⟩ := p
      have hi : ¬ i = k := fun e => h (by simp [e])
      rw [List.cons_append, look, look, ih fun z => h (by simp only [List.any_cons, Bool.or_eq_true]; exact .inr z)]
      by_cases hj : i = j
      · rw [if_pos hj, if_pos hj, if_neg fun e => hi (hj.trans e.symm)]
      · rw [if_neg hj, if_neg hj]
theorem look_drop {α : Type} : ∀ (ks : List (Key × α)) (k j : Key), look (dropD ks k) j = if k = j then none else look ks j
  | [], k, j => by unfold dropD; simp [look]
  | (i, x) :: r, k, j => by
    have ih := look_drop r k j
    unfold dropD at ih ⊢
    rw [List.filter_cons]
    by_cases hi : i = k
    · subst hi
      rw [if_neg (by simp), ih, look]
      by_cases hj : i = j
      · rw [if_pos hj, if_pos hj]
      · rw [if_neg hj, if_neg hj, if_neg hj]
    · rw [if_pos (by simpa using hi), look, look, ih]
      by_cases hj : i = j
      · rw [if_pos hj, if_pos hj, if_neg fun e => hi (hj.trans e.symm)]
      · rw [if_neg hj, if_neg hj]
theorem semK_putV (acc : List (Key × D)) (k : Str) (v : D) (x : Str) : semK (putV acc k v) x = if k = x then sem v else semK acc x := by
  have hp : ∀ d, semK (putD acc (.inr k) d) x = if k = x then sem d else semK acc x := fun d => by
    rw [semK_look, look_put, semK_look]
    by_cases h : k = x
    · subst h; rw [if_pos rfl, if_pos rfl]; rfl
    · rw [if_neg h, if_neg fun e => h (Sum.inr.inj e)]
  cases v with
  | non =>
    show semK (dropD acc (.inr k)) x = _
    rw [semK_look, look_drop, semK_look]
    by_cases h : k = x
    · subst h; rw [if_pos rfl, if_pos rfl]; rfl
    · rw [if_neg h, if_neg fun e => h (Sum.inr.inj e)]
  | _ => exact hp _
theorem lookF_none_of : ∀ {ps : List (Str × Fm)} {k : Str}, k ∉ ps.map (·.1) → lookF ps k = none
  | [], _, _ => rfl
  | (j, x) :: r, k, h => by
    rw [List.map_cons, List.mem_cons, not_or] at h
    rw [lookF, if_neg fun e => h.1 e.symm]; exact lookF_none_of h.2
theorem fsK_look : ∀ (ps : List (Str × Fm)) (m : Str → T) (x : Str), fsK ps m x = match lookF ps x with | some f => f.fs (m x) | none => m x
  | [], m, x => by rw [fsK]; rfl
  | (k, f) :: r, m, x => by
    rw [fsK, lookF, fsK_look r m x]
    by_cases h : k = x
    · rw [if_pos h, if_pos h]
    · rw [if_neg h, if_neg h]
theorem keep_fs (t : T) : Fm.keep.fs t = t := by
  unfold Fm.keep
  rw [Fm.fs.eq_def]
  cases t with
  | no => exact sem_non
  | nd m => show T.nd (fsK [] m) = T.nd m; congr 1
  | _ => rfl
theorem isKeep_eq {f : Fm} (h : f.isKeep = true) : f = .keep := by
  cases f with
  | con no sc d => cases h
  | ent no sc ps => cases no <;> cases sc <;> cases ps <;> first | rfl | cases h
theorem fsK_get (ps : List (Str × Fm)) (m : Str → T) (x : Str) : fsK ps m x = (getF ps x).fs (m x) := by
  rw [fsK_look]; unfold getF
  cases lookF ps x with
  | some f => rfl
  | none => exact (keep_fs _).symm
mutual
theorem sem_run : ∀ (f : Fm) {n : Nat} {s : D}, FmOk A n f → St A n s → sem (f.run s) = f.fs (sem s)
  | .con no sc d, n, s, hf, hs => by
    rw [Fm.run.eq_def, Fm.fs.eq_def]
    rcases hs with rfl | hs
    · rw [sem]
    · cases hs with
      | int n h => rw [sem]; cases sc <;> first | rfl | (simp only [Option.getD]; rw [sem])
      | str n h => rw [sem]; cases sc <;> first | rfl | (simp only [Option.getD]; rw [sem])
      | dic a b c => rw [sem]
  | .ent no sc ps, n, s, hf, hs => by
    rw [Fm.run.eq_def, Fm.fs.eq_def]
    have hs' := hs
    rcases hs with rfl | hs
    · rw [sem]
    · cases hs with
      | int n h => rw [sem]; cases sc <;> first | rfl | (simp only [Option.getD]; rw [sem])
      | str n h => rw [sem]; cases sc <;> first | rfl | (simp only [Option.getD]; rw [sem])
      | dic a b c =>
        obtain ⟨m, e, hk⟩ := KsOk.of hs'
        cases e
        simp only [sem]
        congr 1
        funext x
        rw [sem_ents ps hf.ps hk, fsK_look]
theorem sem_ents : ∀ (ps : List (Str × Fm)) {n : Nat} {ks acc : List (Key × D)} {x : Str}, PsOk A n ps → KsOk A n ks → semK (entsRun ps ks acc) x = match lookF ps x with | some f => f.fs (semK ks x) | none => semK acc x
  | [], n, ks, acc, x, _, _ => by rw [entsRun]; rfl
  | (k, f) :: r, n, ks, acc, x, hp, hk => by
    rw [entsRun, sem_ents r hp.tail hk, lookF]
    have hr := sem_run f (hp.ok (k, f) List.mem_cons_self) (hk.get (.inr k))
    rw [← semK_look] at hr
    by_cases h : k = x
    · subst h
      rw [if_pos rfl, lookF_none_of (List.nodup_cons.mp hp.nd).1]
      simp only
      rw [semK_putV, if_pos rfl, hr]
    · rw [if_neg h]
      cases lookF r x with
      | some g => rfl
      | none => simp only; rw [semK_putV, if_neg h]
end
theorem lookF_pairs (g : Str → Fm) (x : Str) : ∀ ks : List Str, lookF (ks.map fun k => (k, g k)) x = if x ∈ ks then some (g x) else none
  | [] => by simp [lookF]
  | k :: r => by
    rw [List.map_cons, lookF, lookF_pairs g x r]
    by_cases h : k = x
    · subst h; simp
    · rw [if_neg h]
      have : x ∈ k :: r ↔ x ∈ r := by simp [Ne.symm h]
      simp [this]
theorem fsK_pairs (ks : List Str) (g : Str → Fm) (m : Str → T) (x : Str) : fsK (pairsOf ks g) m x = if x ∈ ks then (g x).fs (m x) else m x := by
  rw [fsK_look]; unfold pairsOf
  rw [lookF_pairs]
  by_cases h : x ∈ ks
  · rw [if_pos h]
    by_cases hk : (g x).isKeep = true
    · rw [if_neg (by simp [hk]), isKeep_eq hk, keep_fs]
    · rw [if_pos (List.mem_filter.mpr ⟨sortS_mem.mpr h, by simpa using hk⟩)]
  · rw [if_neg h, if_neg fun z => h (sortS_mem.mp (List.mem_filter.mp z).1)]
theorem getF_none {ps : List (Str × Fm)} {x : Str} (h : x ∉ ps.map (·.1)) : getF ps x = .keep := by unfold getF; rw [lookF_none_of h]; rfl
theorem con_fs_no (no : D) (sc : Option D) (d : D) : (Fm.con no sc d).fs .no = sem no := by rw [Fm.fs.eq_def]
theorem fs_no (f : Fm) : f.fs .no = sem f.no := by cases f <;> rw [Fm.fs.eq_def] <;> rfl
theorem fs_int (f : Fm) (i : Int) : f.fs (.int i) = match f.sc with | none => .int i | some e => sem e := by cases f <;> rw [Fm.fs.eq_def] <;> rfl
theorem fs_str (f : Fm) (i : Str) : f.fs (.str i) = match f.sc with | none => .str i | some e => sem e := by cases f <;> rw [Fm.fs.eq_def] <;> rfl
theorem con_nd (no : D) (sc : Option D) (d : D) (m : Str → T) : (Fm.con no sc d).fs (.nd m) = sem d := by rw [Fm.fs.eq_def]
theorem ent_nd (no : D) (sc : Option D) (ps : List (Str × Fm)) (m : Str → T) : (Fm.ent no sc ps).fs (.nd m) = .nd (fsK ps m) := by rw [Fm.fs.eq_def]
theorem chain_no (k : Nat) (f g : Fm) : (chain (k + 1) f g).no = g.run f.no := by rw [chain_eq]; cases f <;> cases g <;> rfl
theorem chain_sc (k : Nat) (f g : Fm) : (chain (k + 1) f g).sc = match f.sc with | some d => some (g.run d) | none => g.sc := by rw [chain_eq]; cases f <;> cases g <;> rfl
theorem sem_chain : ∀ {n k : Nat} {f g : Fm}, n ≤ k → FmOk A n f → FmOk A n g → ∀ t, (chain (k + 1) f g).fs t = g.fs (f.fs t) := fun {n} => by
  have base : ∀ {n k : Nat} {f g : Fm}, FmOk A n f → FmOk A n g → (∀ m, (chain (k + 1) f g).fs (.nd m) = g.fs (f.fs (.nd m))) → ∀ t, (chain (k + 1) f g).fs t = g.fs (f.fs t) := fun {n k f g} hf hg h t => by
    cases t with
    | no => rw [fs_no, fs_no, chain_no, sem_run g hg hf.hno]
    | int i =>
      rw [fs_int, fs_int, chain_sc]
      cases q : f.sc with
      | none => simp only; rw [fs_int]
      | some e => simp only; rw [sem_run g hg (hf.hsc e q)]
    | str i =>
      rw [fs_str, fs_str, chain_sc]
      cases q : f.sc with
      | none => simp only; rw [fs_str]
      | some e => simp only; rw [sem_run g hg (hf.hsc e q)]
    | nd m => exact h m
  induction n with
  | zero =>
    intro k f g hk hf hg
    refine base hf hg fun m => ?_
    cases f with
    | con no sc d => rw [chain_eq]; simp only; rw [con_nd, con_nd, sem_run g hg hf.hcon]
    | ent no sc ps =>
      cases g with
      | con no' sc' d' => rw [chain_eq]; simp only; rw [con_nd, ent_nd, con_nd]
      | ent no' sc' qs =>
        cases hf.ps0; cases hg.ps0
        rw [chain_eq]; simp only
        rw [ent_nd, ent_nd, ent_nd]
        congr 1; funext x
        rw [fsK_pairs, if_neg (by rw [keysU_mem]; simp), fsK, fsK]
  | succ n ih =>
    intro k f g hk hf hg
    refine base hf hg fun m => ?_
    cases f with
    | con no sc d => rw [chain_eq]; simp only; rw [con_nd, con_nd, sem_run g hg hf.hcon]
    | ent no sc ps =>
      cases g with
      | con no' sc' d' => rw [chain_eq]; simp only; rw [con_nd, ent_nd, con_nd]
      | ent no' sc' qs =>
        cases k with
        | zero => omega
        | succ k =>
        have hp := hf.ps
        have hq := hg.ps
        rw [chain_eq]; simp only
        rw [ent_nd, ent_nd, ent_nd]
        congr 1; funext x
        rw [fsK_pairs, fsK_get qs, fsK_get ps]
        by_cases h : x ∈ keysU ps qs
        · rw [if_pos h]
          exact ih (by omega) (hp.get x) (hq.get x) (m x)
        · rw [if_neg h]
          rw [keysU_mem, not_or] at h
          rw [getF_none h.1, getF_none h.2, keep_fs, keep_fs]

/-! ### patches -/
def kids : T → Str → T
  | .nd m => m
  | _ => fun _ => .no
mutual
def pden : Pt → T → T
  | .keep, t => t
  | .drop, _ => .no
  | .set d, _ => sem d
  | .dflt d, t => match t with
    | .no => sem d
    | t => t
  | .merge es, t => .nd (pdK es (kids t))
  | .inside es, t => match t with
    | .nd m => .nd (pdK es m)
    | t => t
  | .chn ps, t => pdL ps t
def pdK : List (Str × Pt) → (Str → T) → Str → T
  | [], m, x => m x
  | (k, p) :: r, m, x => if k = x then pden p (m x) else pdK r m x
def pdL : List Pt → T → T
  | [], t => t
  | p :: r, t => pdL r (pden p t)
end
theorem pdK_esF (m : Str → T) (x : Str) : ∀ (es : List (Str × Pt)), (∀ p ∈ es, ∀ t, (formOf p.2).fs t = pden p.2 t) → (getF (esF es) x).fs (m x) = pdK es m x
  | [], _ => by rw [esF, pdK]; exact keep_fs _
  | (k, p) :: r, h => by
    rw [esF, pdK]
    have ih := pdK_esF m x r fun q hq => h q (List.mem_cons_of_mem _ hq)
    by_cases e : k = x
    · rw [if_pos e]; unfold getF; rw [lookF, if_pos e]; exact h (k, p) List.mem_cons_self _
    · rw [if_neg e, ← ih]; unfold getF; rw [lookF, if_neg e]
theorem fsK_es {es : List (Str × Pt)} (h : ∀ p ∈ es, ∀ t, (formOf p.2).fs t = pden p.2 t) (m : Str → T) : fsK (pairsOf ((esF es).map (·.1)) (getF (esF es))) m = pdK es m := by
  funext x
  rw [fsK_pairs, ← pdK_esF m x es h]
  by_cases e : x ∈ (esF es).map (·.1)
  · rw [if_pos e]
  · rw [if_neg e, getF_none e, keep_fs]
theorem sem_chnF {N : Nat} (hN : N ≤ 11) : ∀ (ps : List Pt) {f : Fm}, FmOk A N f → (∀ p ∈ ps, FmOk A N (formOf p)) → (∀ p ∈ ps, ∀ t, (formOf p).fs t = pden p t) → ∀ t, (chnF f ps).fs t = pdL ps (f.fs t)
  | [], f, hf, _, _, t => by rw [chnF, pdL]
  | p :: r, f, hf, h, hs, t => by
    have hp := h p List.mem_cons_self
    rw [chnF, sem_chnF hN r (chain_okk hN hf hp) (fun q hq => h q (List.mem_cons_of_mem _ hq)) (fun q hq => hs q (List.mem_cons_of_mem _ hq)), sem_chain hN hf hp, hs p List.mem_cons_self, pdL]
theorem sem_form {m n : Nat} (hN : m + n ≤ 11) {p : Pt} (h : PtOk A m n p) : ∀ t, (formOf p).fs t = pden p t := by
  induction h with
  | keep => intro t; rw [formOf, pden]; exact keep_fs t
  | drop => intro t; rw [formOf, pden, Fm.fs.eq_def]; cases t <;> exact sem_non
  | set h => intro t; rw [formOf, pden, Fm.fs.eq_def]; cases t <;> rfl
  | dflt h =>
    intro t; rw [formOf, pden.eq_def, Fm.fs.eq_def]
    cases t with
    | nd m => show T.nd (fsK [] m) = T.nd m; congr 1
    | _ => rfl
  | @merge n es nd hk hp ih =>
    intro t
    have hes := esF_ok nd hk fun p h => formOf_ok (show m + n ≤ 11 by omega) (hp p h)
    have e := fun m => fsK_es (fun p h => ih p h (by omega)) m
    have hz : sem (.dic (entsRun (pairsOf ((esF es).map (·.1)) (getF (esF es))) [] [])) = .nd (pdK es fun _ => .no) := by
      have h0 : semK [] = fun _ => T.no := by funext x; rw [semK]
      rw [sem]; congr 1; funext x
      rw [sem_ents _ hes KsOk.nil, ← fsK_look, e, h0]
    rw [formOf, pden]
    unfold mergeFm
    rw [Fm.fs.eq_def]
    cases t with
    | nd m => show T.nd _ = T.nd _; rw [e]; rfl
    | _ => exact hz
  | @inside n es nd hk hp ih =>
    intro t
    have e := fun m => fsK_es (fun p h => ih p h (by omega)) m
    rw [formOf, pden.eq_def, Fm.fs.eq_def]
    cases t with
    | nd m => show T.nd _ = T.nd _; rw [e]
    | no => exact sem_non
    | _ => rfl
  | @chn n ps hl hp ih =>
    intro t
    rw [formOf, pden, sem_chnF (N := m + n) (by omega) ps .keep (fun p h => formOf_ok (by omega) (hp p h)) (fun p h => ih p h (by omega)), keep_fs]
end
end Mp

set_option Elab.async false
set_option linter.all false
set_option maxRecDepth 100000
set_option maxHeartbeats 4000000
namespace Mp
open PySem L2
def t__law_draw (K : PySem.W.Frag) : TS :=
  (tSeq (tIfS (tTest (tOp (rI0 fun i j => .bl (decide (j < i))) (tOp (rSub K) (tVar 1) (tC (.int 1))) (tC (.int 0)))) (tSeq (tAsg (tOp (rI (fun _ j => 0 < j) fun i j => .int (i % j)) (tOp (rSub K) (tVar 1) (tC (.int 1))) (tVar 2)) (gName 3))
    (tSeq (tAsg (tOp (rI CDiv fun i j => .int (i / j)) (tOp (rSub K) (tVar 1) (tC (.int 1))) (tVar 2)) (gSub (tVar 1) (tC (.int 1)) rSetL))
    (tRet (tVar 3)))) tNext)
    (tSeq (tAsg (tOp (rSub K) (tVar 1) (tC (.int 0))) (gName 4))
    (tSeq (tAugS (tVar 1) (tC (.int 0)) (tC (.int 1)) (rGetL K) (ipI fun i j => i + j) rSetL)
    (tSeq (tIfS (tTest (tOp (rEqS K) (tVar 0) (tLst tNil))) (tRet (tOp (rI (fun _ j => 0 < j) fun i j => .int (i % j)) (tVar 4) (tVar 2))) tNext)
    (tSeq (tIfS (tAnd (tTest (tOp (rI0 fun i j => .bl (decide (i < j))) (tVar 4) (tCB (rLenX K) (tCons (tVar 0) tNil)))) (tTest (tOp (rI0 fun i j => .bl (decide (j ≤ i))) (tOp (rSub K) (tVar 0) (tVar 4)) (tOp (rI CPow fun i j => .int (i ^ j.toNat)) (tC (.int 10)) (tC (.int 18)))))) (tSeq (tAsg (tOp (rI (fun _ j => 0 < j) fun i j => .int (i % j)) (tOp (rI CDiv fun i j => .int (i / j)) (tOp (rSub K) (tVar 0) (tVar 4)) (tVar 2)) (tOp (rI (fun i j => MulOk i j) fun i j => .int (i * j)) (tOp (rI CPow fun i j => .int (i ^ j.toNat)) (tC (.int 10)) (tC (.int 60))) (tOp (rI CPow fun i j => .int (i ^ j.toNat)) (tC (.int 10)) (tC (.int 60))))) (gSub (tVar 1) (tC (.int 1)) rSetL))
    (tRet (tOp (rI (fun _ j => 0 < j) fun i j => .int (i % j)) (tOp (rSub K) (tVar 0) (tVar 4)) (tVar 2)))) tNext)
    (tSeq (tAsg (tOp (rI (fun _ j => 0 < j) fun i j => .int (i % j)) (tOp (rI0 fun i j => .int (i + j)) (tOp (rI0 fun i j => .int (i + j)) (tOp (rI (fun i j => MulOk i j) fun i j => .int (i * j)) (tOp (rSub K) (tVar 0) (tOp (rI (fun _ j => 0 < j) fun i j => .int (i % j)) (tVar 4) (tCB (rLenX K) (tCons (tVar 0) tNil)))) (tC (.int 1103515245))) (tOp (rI (fun i j => MulOk i j) fun i j => .int (i * j)) (tC (.int 7919)) (tVar 4))) (tC (.int 12345))) (tC (.int 2147483647))) (gName 5))
    (tRet (tOp (rI (fun _ j => 0 < j) fun i j => .int (i % j)) (tOp (rI (fun _ j => 0 < j) fun i j => .int (i % j)) (tOp (rI (fun _ j => 0 < j) fun i j => .int (i % j)) (tOp (rI CPow fun i j => .int (i ^ j.toNat)) (tVar 5) (tC (.int 5))) (tC (.int 2147483647))) (tC (.int 999983))) (tVar 2)))))))))

def t__law_pick (K : PySem.W.Frag) (sp__law_draw : Sp) : TS :=
  (tRet (tOp (rSub K) (tVar 2) (tCall sp__law_draw [] E0 (tCons (tVar 0) (tCons (tVar 1) (tCons (tCB (rLenX K) (tCons (tVar 2) tNil)) tNil))))))

def t__law_document (K : PySem.W.Frag) (sp__law_document sp__law_pick sp__law_draw : Sp) : TS :=
  (tSeq (tIfS (tOr (tTest (tOp (rEqX K) (tVar 2) (tC (.int 0)))) (tTest (tOp (rI0 fun i j => .bl (decide (i < j))) (tCall sp__law_draw [] E0 (tCons (tVar 0) (tCons (tVar 1) (tCons (tC (.int 5)) tNil)))) (tC (.int 2))))) (tRet (tCall sp__law_pick [] E0 (tCons (tVar 0) (tCons (tVar 1) (tCons (tLst (tCons (tC (.int 0)) (tCons (tC (.int 1)) (tCons (tC (.int 2)) (tCons (tUn (rU fun i => .int (-i)) (tC (.int 7))) (tCons (tC (.str "")) (tCons (tC (.str "x")) (tCons (tC (.str "yes")) tNil)))))))) tNil))))) tNext)
    (tSeq (tAsg (tCall sp__law_pick [] E0 (tCons (tVar 0) (tCons (tVar 1) (tCons (tLst (tCons (tC (.str "")) (tCons (tC (.str "a")) (tCons (tC (.str "b")) (tCons (tC (.str "ab")) (tCons (tC (.str "ab")) (tCons (tC (.str "bc")) (tCons (tC (.str "abc")) tNil)))))))) tNil)))) (gName 3))
    (tRet (tCB (rDictX K) (tCons (tLc (iAny K (tVar 3)) (gName 4) tYes (tTupF (tCons (tVar 4) (tCons (tCall sp__law_document [] E0 (tCons (tVar 0) (tCons (tVar 1) (tCons (tOp (rI0 fun i j => .int (i - j)) (tVar 2) (tC (.int 1))) tNil)))) tNil))) [4]) tNil)))))

def t__law_state (K : PySem.W.Frag) (sp__law_draw sp__law_document : Sp) : TS :=
  (tRet (tIf (tTest (tOp (rEqX K) (tCall sp__law_draw [] E0 (tCons (tVar 0) (tCons (tVar 1) (tCons (tC (.int 6)) tNil)))) (tC (.int 0)))) (tC .non) (tCall sp__law_document [] E0 (tCons (tVar 0) (tCons (tVar 1) (tCons (tVar 2) tNil))))))

def t__law_patch (K : PySem.W.Frag) (sp__law_patch sp__law_pick sp__law_draw sp__law_document : Sp) : TS :=
  (tSeq (tAsg (tCall sp__law_pick [] E0 (tCons (tVar 0) (tCons (tVar 1) (tCons (tLst (tCons (tC (.str "keep")) (tCons (tC (.str "set")) (tCons (tC (.str "drop")) (tCons (tC (.str "default")) (tCons (tC (.str "merge")) (tCons (tC (.str "merge")) (tCons (tC (.str "inside")) (tCons (tC (.str "inside")) (tCons (tC (.str "chain")) tNil)))))))))) tNil)))) (gName 3))
    (tSeq (tIfS (tTest (tOp (rInX K false) (tVar 3) (tTupF (tCons (tC (.str "keep")) (tCons (tC (.str "drop")) tNil))))) (tRet (tTupF (tCons (tVar 3) tNil))) tNext)
    (tSeq (tIfS (tOr (tTest (tOp (rInX K false) (tVar 3) (tTupF (tCons (tC (.str "set")) (tCons (tC (.str "default")) tNil))))) (tTest (tOp (rEqX K) (tVar 2) (tC (.int 0))))) (tRet (tTupF (tCons (tCall sp__law_pick [] E0 (tCons (tVar 0) (tCons (tVar 1) (tCons (tLst (tCons (tC (.str "set")) (tCons (tC (.str "default")) tNil))) tNil)))) (tCons (tCall sp__law_document [] E0 (tCons (tVar 0) (tCons (tVar 1) (tCons (tC (.int 2)) tNil)))) tNil)))) tNext)
    (tSeq (tIfS (tTest (tOp (rEqX K) (tVar 3) (tC (.str "chain")))) (tRet (tTupF (tCons (tVar 3) (tCons (tCB (rTupleF K) (tCons (tLc (iRng1 (tCons (tCall sp__law_draw [] E0 (tCons (tVar 0) (tCons (tVar 1) (tCons (tC (.int 4)) tNil)))) tNil)) (gName 5) tYes (tCall sp__law_patch [] E0 (tCons (tVar 0) (tCons (tVar 1) (tCons (tOp (rI0 fun i j => .int (i - j)) (tVar 2) (tC (.int 1))) tNil)))) [5]) tNil)) tNil)))) tNext)
    (tSeq (tAsg (tCall sp__law_pick [] E0 (tCons (tVar 0) (tCons (tVar 1) (tCons (tLst (tCons (tC (.str "")) (tCons (tC (.str "a")) (tCons (tC (.str "b")) (tCons (tC (.str "ab")) (tCons (tC (.str "bc")) tNil)))))) tNil)))) (gName 4))
    (tRet (tTupF (tCons (tVar 3) (tCons (tCB (rDictX K) (tCons (tLc (iAny K (tVar 4)) (gName 6) tYes (tTupF (tCons (tVar 6) (tCons (tCall sp__law_patch [] E0 (tCons (tVar 0) (tCons (tVar 1) (tCons (tOp (rI0 fun i j => .int (i - j)) (tVar 2) (tC (.int 1))) tNil)))) tNil))) [6]) tNil)) tNil)))))))))

def t__law_run (K : PySem.W.Frag) (sp__law_run : Sp) : TS :=
  (tSeq (tAsg (tOp (rSub K) (tVar 0) (tC (.int 0))) (gName 2))
    (tSeq (tIfS (tOr (tTest (tOp (rEqX K) (tVar 2) (tC (.str "keep")))) (tOr (tAnd (tTest (tOp (rEqX K) (tVar 2) (tC (.str "default")))) (tTest (tOp (fun x y H Q => y = .non ∧ Q (.bl (!decide (x = .non))) H) (tVar 1) (tC .non)))) (tAnd (tTest (tOp (rEqX K) (tVar 2) (tC (.str "inside")))) (tNot (tB (tCB (rIsi K) (tCons (tVar 1) (tCons (tC (.ty "dict")) tNil)))))))) (tRet (tVar 1)) tNext)
    (tSeq (tIfS (tTest (tOp (rEqX K) (tVar 2) (tC (.str "drop")))) (tRet (tC .non)) tNext)
    (tSeq (tIfS (tTest (tOp (rInX K false) (tVar 2) (tTupF (tCons (tC (.str "set")) (tCons (tC (.str "default")) tNil))))) (tRet (tOp (rSub K) (tVar 0) (tC (.int 1)))) tNext)
    (tSeq (tIfS (tTest (tOp (rEqX K) (tVar 2) (tC (.str "chain")))) (tSeq (tFor (iAny K (tOp (rSub K) (tVar 0) (tC (.int 1)))) (gName 3) (tAsg (tCall sp__law_run [] E0 (tCons (tVar 3) (tCons (tVar 1) tNil))) (gName 1)))
    (tRet (tVar 1))) tNext)
    (tSeq (tAsg (tIf (tB (tCB (rIsi K) (tCons (tVar 1) (tCons (tC (.ty "dict")) tNil)))) (tCB (rDictX K) (tCons (tVar 1) tNil)) tDNewK) (gName 4))
    (tSeq (tFor (iAny K (tOp (rSub K) (tVar 0) (tC (.int 1)))) (gName 5) (tSeq (tAsg (tCall sp__law_run [] E0 (tCons (tOp (rSub K) (tOp (rSub K) (tVar 0) (tC (.int 1))) (tVar 5)) (tCons (tDGet1 (tVar 4) (tVar 5)) tNil))) (gName 6))
    (tIfS (tTest (tOp (fun x y H Q => y = .non ∧ Q (.bl (!decide (x = .non))) H) (tVar 6) (tC .non))) (sDPut (tVar 4) (tVar 5) (tVar 6)) (tIfS (tTest (tOp (rInX K false) (tVar 5) (tVar 4))) (tDrop (tDPop1 (tVar 4) (tVar 5))) tNext))))
    (tRet (tVar 4)))))))))

def t__law_size (K : PySem.W.Frag) (sp__law_size : Sp) : TS :=
  (tSeq (tIfS (tB (tCB (rIsi K) (tCons (tVar 0) (tCons (tC (.ty "dict")) tNil)))) (tRet (tOp (rI0 fun i j => .int (i + j)) (tC (.int 1)) (tCB (rSum K) (tCons (tLc (iAny K (tVar 0)) (gName 1) tYes (tCall sp__law_size [] E0 (tCons (tOp (rSub K) (tVar 0) (tVar 1)) tNil)) [1]) tNil)))) tNext)
    (tRet (tIf (tTest (tOp (fun x y H Q => y = .non ∧ Q (.bl (decide (x = .non))) H) (tVar 0) (tC .non))) (tC (.int 0)) (tC (.int 1)))))

def t__law_value (K : PySem.W.Frag) : TS :=
  (tSeq (tFor (iAny K (tVar 1)) (gName 2) (tAsg (tIf (tB (tCB (rIsi K) (tCons (tVar 0) (tCons (tC (.ty "dict")) tNil)))) (tDGet1 (tVar 0) (tVar 2)) (tC .non)) (gName 0)))
    (tRet (tVar 0)))

def t__law_small (K : PySem.W.Frag) (sp__law_size : Sp) : TS :=
  (tSeq (tAsg (tLst (tCons (tC .non) (tCons (tC (.int 0)) (tCons (tC (.int 1)) (tCons (tC (.int 2)) (tCons (tC (.str "x")) (tCons tDNewK (tCons (tDisp [((tC (.str "a")), (tC (.int 0)))]) (tCons (tDisp [((tC (.str "a")), (tC (.int 1)))]) (tCons (tDisp [((tC (.str "b")), (tC (.int 1)))]) (tCons (tDisp [((tC (.str "z")), (tC (.int 0)))]) (tCons (tDisp [((tC (.str "a")), tDNewK)]) tNil)))))))))))) (gName 0))
    (tSeq (tAsg (tLst (tCons (tC .non) (tCons (tC (.int 0)) (tCons (tC (.int 1)) (tCons (tC (.int 2)) (tCons (tC (.str "x")) (tCons (tC (.str "")) tNil))))))) (gName 1))
    (tSeq (tFor (iAny K (tVar 0)) (gName 2) (tFor (iAny K (tVar 0)) (gName 3) (tSeq (tAsg (tLst (tCons (tTupF (tCons (tC (.str "a")) (tCons (tVar 2) tNil))) (tCons (tTupF (tCons (tC (.str "b")) (tCons (tVar 3) tNil))) tNil))) (gName 4))
    (tDrop (tBM K "list" rAppend (tVar 1) (tCons (tCB (rDictX K) (tCons (tLc (iAny K (tVar 4)) (gTup K 2 (gCons (gName 6) (gCons (gName 7) gNil))) (tTest (tOp (fun x y H Q => y = .non ∧ Q (.bl (!decide (x = .non))) H) (tVar 7) (tC .non))) (tTupF (tCons (tVar 6) (tCons (tVar 7) tNil))) [6, 7]) tNil)) tNil))))))
    (tSeq (tDrop (tBM K "list" rExtend (tVar 1) (tCons (tLst (tCons (tDisp [((tC (.str "z")), (tC (.int 0)))]) (tCons (tDisp [((tC (.str "a")), (tC (.int 1))), ((tC (.str "z")), (tC (.int 0)))]) (tCons (tDisp [((tC (.str "c")), (tC (.int 1)))]) (tCons (tDisp [((tC (.str "c")), tDNewK)]) (tCons (tDisp [((tC (.str "a")), (tDisp [((tC (.str "b")), (tDisp [((tC (.str "c")), (tC (.int 1)))]))]))]) tNil)))))) tNil)))
    (tSeq (tDrop (tBM K "list" rExtend (tVar 1) (tCons (tLst (tCons (tDisp [((tC (.str "a")), (tDisp [((tC (.str "a")), (tDisp [((tC (.str "a")), tDNewK)]))]))]) tNil)) tNil)))
    (tSeq (tAsg (tCB (rSortPF K) (tCons (tLc (iEnumF K (tCons (tVar 1) tNil)) (gTup K 2 (gCons (gName 8) (gCons (gName 2) gNil))) tYes (tTupF (tCons (tCall sp__law_size [] E0 (tCons (tVar 2) tNil)) (tCons (tVar 8) tNil))) [8, 2]) tNil)) (gName 5))
    (tRet (tLc (iAny K (tVar 5)) (gTup K 2 (gCons (gName 9) (gCons (gName 8) gNil))) tYes (tOp (rSub K) (tVar 1) (tVar 8)) [9, 8]))))))))

def t_law (K : PySem.W.Frag) (sp__law_small sp_apply sp__law_run sp_value_at sp__law_value sp__law_draw sp__law_pick sp_size sp__law_size sp_is_state sp__law_state sp_is_patch sp__law_patch : Sp) : TS :=
  (tSeq (tAsg (tLst (tCons (tC (.int 0)) (tCons (tC (.int 0)) tNil))) (gName 1))
    (tSeq (tAsg (tCall sp__law_patch [] E0 (tCons (tVar 0) (tCons (tVar 1) (tCons (tC (.int 4)) tNil)))) (gName 2))
    (tSeq (tIfS (tTest (tOp rNotB (tCall sp_is_patch [] E0 (tCons (tVar 2) tNil)) (tC (.bl true)))) (tRet (tC (.bl false))) tNext)
    (tSeq (tFor (iRng1 (tCons (tC (.int 6)) tNil)) (gName 3) (tSeq (tAsg (tCall sp__law_state [] E0 (tCons (tVar 0) (tCons (tVar 1) (tCons (tC (.int 3)) tNil)))) (gName 4))
    (tSeq (tIfS (tOr (tTest (tOp rNotB (tCall sp_is_state [] E0 (tCons (tVar 4) tNil)) (tC (.bl true)))) (tTest (tOp (rNeX K) (tCall sp_apply [] E0 (tCons (tVar 2) (tCons (tVar 4) tNil))) (tCall sp__law_run [] E0 (tCons (tVar 2) (tCons (tVar 4) tNil)))))) (tRet (tC (.bl false))) tNext)
    (tSeq (tIfS (tTest (tOp (rNeX K) (tCall sp_size [] E0 (tCons (tVar 4) tNil)) (tCall sp__law_size [] E0 (tCons (tVar 4) tNil)))) (tRet (tC (.bl false))) tNext)
    (tSeq (tAsg (tCB (rTupleF K) (tCons (tLc (iRng1 (tCons (tCall sp__law_draw [] E0 (tCons (tVar 0) (tCons (tVar 1) (tCons (tC (.int 4)) tNil)))) tNil)) (gName 6) tYes (tCall sp__law_pick [] E0 (tCons (tVar 0) (tCons (tVar 1) (tCons (tLst (tCons (tC (.str "a")) (tCons (tC (.str "b")) (tCons (tC (.str "c")) (tCons (tC (.str "abcdef")) tNil))))) tNil)))) [6]) tNil)) (gName 5))
    (tIfS (tTest (tOp (rNeX K) (tCall sp_value_at [] E0 (tCons (tVar 4) (tCons (tVar 5) tNil))) (tCall sp__law_value [] E0 (tCons (tVar 4) (tCons (tVar 5) tNil))))) (tRet (tC (.bl false))) tNext))))))
    (tRet (tCB (rAll K) (tCons (tLc (iAny K (tSl (rSlL K) (tCall sp__law_small [] E0 tNil) tNoPart (tPart (tC (.int 20))))) (gName 4) tYes (tOp (rEqX K) (tCall sp_apply [] E0 (tCons (tVar 2) (tCons (tVar 4) tNil))) (tCall sp__law_run [] E0 (tCons (tVar 2) (tCons (tVar 4) tNil)))) [4]) tNil)))))))
end Mp

set_option Elab.async false
set_option linter.all false
set_option maxRecDepth 100000
set_option maxHeartbeats 4000000
namespace Mp
open PySem L2

/-! ### a def that draws from the town -/
def slotsT (N : List Str) (a t : Addr) (ds : List D) : List Sl := .raw (.ref a) :: .raw (.ref t) :: (ds.map .dat ++ List.replicate (N.length - 2 - ds.length) .un)
def GivesS (S : D → Prop) : Out → Prop
  | .rt e => S e
  | .nx _ => S .non
  | _ => False
theorem env_startT {c : Cn} {G H : Hp} {N : List Str} {ds : List D} {us : List V} {a t : Addr} (h : HasL c.K G ds us) (hl : ds.length + 2 ≤ N.length) : EnvOk c H G H (L2.start N (.ref a :: .ref t :: us)) (slotsT N a t ds) := by
  have hv := h.len
  have low : ∀ (i : Nat) (x : Sl), (slotsT N a t ds)[i]? = some x → (i = 0 ∧ x = .raw (.ref a)) ∨ (i = 1 ∧ x = .raw (.ref t)) ∨ (∃ j d, i = j + 2 ∧ x = .dat d ∧ ds[j]? = some d) ∨ x = .un := fun i x e => by
    unfold slotsT at e
    match i, e with
    | 0, e => exact .inl ⟨rfl, by cases e; rfl⟩
    | 1, e => exact .inr (.inl ⟨rfl, by cases e; rfl⟩)
    | j + 2, e =>
      rw [List.getElem?_cons_succ, List.getElem?_cons_succ] at e
      by_cases hj : j < ds.length
      · rw [List.getElem?_append_left (by simpa using hj), List.getElem?_map] at e
        cases q : ds[j]? with
        | none => rw [q] at e; cases e
        | some d => rw [q] at e; cases e; exact .inr (.inr (.inl ⟨j, d, rfl, rfl, q⟩))
      · rw [List.getElem?_append_right (by simpa using hj), List.getElem?_replicate] at e
        split at e
        · cases e; exact .inr (.inr (.inr rfl))
        · cases e
  have sig : ∀ (j : Nat) (d : D), ds[j]? = some d → ∃ v, (L2.start N (.ref a :: .ref t :: us))[j + 2]? = some (some v) ∧ Has c.K G d v := fun j d e => by
    obtain ⟨v, e1, hv1⟩ := h.get e
    refine ⟨v, ?_, hv1⟩
    have hj : j < us.length := by rw [hv]; exact (List.getElem?_eq_some_iff.mp e).1
    unfold L2.start
    rw [List.getElem?_append_left (by simp; omega), List.map_cons, List.map_cons, List.getElem?_cons_succ, List.getElem?_cons_succ, List.getElem?_map, e1]; rfl
  refine ⟨by unfold L2.start slotsT; simp; omega, fun i d e => ?_, fun i d e => ?_, fun i v e => ?_, fun i j d e r _ p => ?_⟩
  · rcases low i _ e with ⟨_, z⟩ | ⟨_, z⟩ | ⟨j, d', rfl, z, q⟩ | z
    · cases z
    · cases z
    · cases z; exact sig j d q
    · cases z
  · rcases low i _ e with ⟨_, z⟩ | ⟨_, z⟩ | ⟨j, d', rfl, z, q⟩ | z <;> cases z
  · rcases low i _ e with ⟨rfl, z⟩ | ⟨rfl, z⟩ | ⟨j, d', rfl, z, q⟩ | z
    · cases z; rfl
    · cases z; rfl
    · cases z
    · cases z
  · rcases low i _ p with ⟨_, z⟩ | ⟨_, z⟩ | ⟨j, d', rfl, z, q⟩ | z <;> cases z
theorem town_body {K : PySem.W.Frag} {N : List Str} {R : List Int → List D → (D → Prop) → Prop} {ts : TS} (hl : ∀ ns ds S, R ns ds S → ds.length + 2 ≤ N.length) (h : ∀ t a ns ds S, R ns ds S → DS ⟨K, some (t, a, ns)⟩ ts (slotsT N a t ds) (GivesS S)) {vs : List V} {H : Hp} {Q : VK} {E : XK} (q : SpT K R vs H Q E) :
    ts { nx := fun _ H' => Q .non H', rt := Q } (L2.start N vs) H := by
  obtain ⟨t, a, ns, G, ds, us, S, s, rfl, hv, r, k⟩ := q
  refine h t a ns ds S r G H G H _ _ ⟨s, .refl s⟩ (env_startT hv (hl ns ds S r)) fun o G' H' p st _ => ?_
  cases o with
  | rt e => exact fun v hv => k e v G' H' p st hv
  | nx δ => exact fun σ _ => k .non .non G' H' p st (by unfold Has; rfl)
  | bk δ => exact (show False from p).elim
  | ct δ => exact (show False from p).elim
section
variable {P : Program} {w : World} {K : PySem.W.Frag} {mg : Str → Option Value} {base : Heap}
/-- from the body to the promise, for a def with the town -/
theorem FnP.townB {x : Str} {st : Stmt} {f : Addr} {fd : FuncData} {N ps : List Str} {k : Nat} {R : List Int → List D → (D → Prop) → Prop} {t : TS} (F : FnP K x st f fd) (S : FnScope N ps (defScope st)) (hl : ∀ ns ds S, R ns ds S → ds.length + 2 = ps.length)
    (h : ∀ vs H Q E, SpT K R vs H Q E → t { nx := fun _ H' => Q .non H', rt := Q } (L2.start N vs) H)
    (hb : ∀ (cdv : Value) (A : Around) (outer : List Env) (s : Shared) (H : Hp) (E : XK), Room k (A.deeper (PyProof.Rows.envOfC x (defScope st) s.heap.objs.size f cdv)) → PSs (cxOf CX0 P w K mg base N x (defScope st) f cdv A outer s H E).nox (defBody st) t) :
    FnOk P w K mg base CX0 (k + 1) f fd ps (SpT K R) := by
  refine F.ok S (fun vs H Q E q => ?_) fun cdv A outer s H vs Q E hr q => ⟨t, PSs.nox (hb cdv A outer s H E hr), h vs H Q E q⟩
  obtain ⟨t, a, ns, G, ds, us, S, s, rfl, hv, r, k⟩ := q
  rw [List.length_cons, List.length_cons, hv.len, hl ns ds S r]
theorem FnP.town {x : Str} {st : Stmt} {f : Addr} {fd : FuncData} {N ps : List Str} {k : Nat} {R : List Int → List D → (D → Prop) → Prop} {t : TS} (F : FnP K x st f fd) (S : FnScope N ps (defScope st)) (hl : ∀ ns ds S, R ns ds S → ds.length + 2 = ps.length)
    (h : ∀ tw a ns ds S, R ns ds S → DS ⟨K, some (tw, a, ns)⟩ t (slotsT N a tw ds) (GivesS S))
    (hb : ∀ (cdv : Value) (A : Around) (outer : List Env) (s : Shared) (H : Hp) (E : XK), Room k (A.deeper (PyProof.Rows.envOfC x (defScope st) s.heap.objs.size f cdv)) → PSs (cxOf CX0 P w K mg base N x (defScope st) f cdv A outer s H E).nox (defBody st) t) :
    FnOk P w K mg base CX0 (k + 1) f fd ps (SpT K R) := by
  have hN : ps.length ≤ N.length := by have := congrArg List.length S.pre; rw [List.length_take] at this; omega
  exact F.townB S hl (fun vs H Q E q => town_body (fun ns ds S r => by rw [hl ns ds S r]; exact hN) h q) hb
end
section
variable {c : Cn} {δ : List Sl} {P : D → Prop}
theorem DA.imp {ta : TA} {P P' : List Av → Prop} (h : DA c ta δ P) (i : ∀ as, P as → P' as) : DA c ta δ P' := fun G0 H0 G H σ Q b e k => h G0 H0 G H σ Q b e fun as vs G' H' p => k as vs G' H' (i as p)
/-- f(script, town, ..), the script and the town in the first two slots -/
theorem de_ct {R : List Int → List D → (D → Prop) → Prop} {t a : Addr} {ns : List Int} {K : PySem.W.Frag} {δ : List Sl} {rest : TA} (h0 : δ[0]? = some (.raw (.ref a))) (h1 : δ[1]? = some (.raw (.ref t))) (h : DA ⟨K, some (t, a, ns)⟩ rest δ fun as => ∃ ds S, as = ds.map .dat ∧ R ns ds S ∧ ∀ d, S d → P d) :
    DE ⟨K, some (t, a, ns)⟩ (tCall (SpT K R) [] E0 (tCons (tVar 0) (tCons (tVar 1) rest))) δ P :=
  de_callT (c := ⟨K, some (t, a, ns)⟩) rfl (da_rawv h0 (da_rawv h1 (h.imp fun as ⟨ds, S, e, r, p⟩ => ⟨ds, S, by rw [e], r, p⟩)))

/-! ### comprehensions with some answer a turn -/
def All2 (S : D → D → Prop) : List D → List D → Prop
  | [], ys => ys = []
  | x :: xs, ys => ∃ y r, ys = y :: r ∧ S x y ∧ All2 S xs r
theorem All2.snoc {S : D → D → Prop} : ∀ {xs ys : List D} {x y : D}, All2 S xs ys → S x y → All2 S (xs ++ [x]) (ys ++ [y])
  | [], ys, x, y, h, s => by unfold All2 at h; subst h; exact ⟨y, [], rfl, s, rfl⟩
  | x' :: xs, ys, x, y, h, s => by
    obtain ⟨y', r, rfl, h1, h2⟩ := h
    exact ⟨y', r ++ [y], rfl, h1, All2.snoc h2 s⟩
theorem All2.len {S : D → D → Prop} : ∀ {xs ys : List D}, All2 S xs ys → ys.length = xs.length
  | [], ys, h => by unfold All2 at h; subst h; rfl
  | x :: xs, ys, h => by obtain ⟨y, r, rfl, _, h⟩ := h; simp [h.len]
theorem All2.mem {S : D → D → Prop} : ∀ {xs ys : List D}, All2 S xs ys → ∀ y ∈ ys, ∃ x ∈ xs, S x y
  | [], ys, h, y, hy => by unfold All2 at h; subst h; cases hy
  | x :: xs, ys, h, y, hy => by
    obtain ⟨y', r, rfl, s, h⟩ := h
    rcases List.mem_cons.mp hy with e | hy
    · subst e; exact ⟨x, List.mem_cons_self, s⟩
    · obtain ⟨x', hx, s'⟩ := h.mem y hy; exact ⟨x', List.mem_cons_of_mem _ hx, s'⟩
theorem dn_lcS {wi : TI} {g : TG} {te : TE} {vs js : List Nat} (S : D → D → Prop) (hjs : ∀ j, j ∈ js → j ∈ vs) (h : DI c wi δ fun xs => xs.length ≤ sizeLine ∧ (∀ (i : Nat) (d : D), xs[i]? = some d → DG c g js (wipeD δ vs) d fun δ2 => DE c te δ2 fun y => S d y) ∧ ∀ ys, All2 S xs ys → P (.lst ys)) : DN c (tLc wi g tYes te vs) δ P :=
  dn_lc hjs (h.imp fun xs ⟨hl, ht, p⟩ => ⟨hl, fun i acc => All2 S (xs.take i) acc, rfl, fun i d acc hd w => fun G0 H0 G H σ v Q b e hv k =>
    ht i d hd G0 H0 G H σ v Q b e hv fun δ' σ' p' => k δ' σ' (fun G0 H0 G H σ Q b e k => k true G H (by
      show if true = true then _ else _
      rw [if_pos rfl]
      refine p'.imp fun y sy => ?_
      show All2 S (xs.take (i + 1)) (acc ++ [y])
      rw [List.take_succ, hd]
      exact All2.snoc w sy) (.refl b.sub)), fun acc w => by
      have w' : All2 S (xs.take xs.length) acc := w
      rw [List.take_length] at w'; exact p acc w'⟩)
/-- the pairs (key, value) of a comprehension -/
def SPair (S : D → Prop) (x y : D) : Prop := ∃ (k : Str) (d : D), x = .str k ∧ y = .tup [.str k, d] ∧ S d
theorem pairs_ms {S : D → Prop} : ∀ {ks : List Str} {ys : List D}, All2 (SPair S) (ks.map .str) ys → ∃ ms : List (Str × D), ys = (ms.map fun p => ((.inr p.1 : Key), p.2)).map pairD ∧ ms.map (·.1) = ks ∧ ∀ p ∈ ms, S p.2
  | [], ys, h => by unfold List.map All2 at h; subst h; exact ⟨[], rfl, rfl, fun p hp => by cases hp⟩
  | k :: ks, ys, h => by
    rw [List.map_cons] at h
    obtain ⟨y, r, rfl, ⟨k', d, e1, rfl, hs⟩, h⟩ := h
    cases e1
    obtain ⟨ms, rfl, h2, h3⟩ := pairs_ms h
    refine ⟨(k, d) :: ms, rfl, by rw [List.map_cons, h2], fun p hp => ?_⟩
    rcases List.mem_cons.mp hp with e | hp
    · subst e; exact hs
    · exact h3 p hp
end
end Mp

set_option Elab.async false
set_option linter.all false
set_option maxRecDepth 100000
set_option maxHeartbeats 4000000
namespace Mp
open PySem L2
local macro_rules | `(tactic| walk_at "s") => `(tactic| first
  | with_reducible refine ds_seq ?_
  | with_reducible refine ds_ret ?_
  | with_reducible refine ds_if ?_
  | with_reducible refine ds_asg ?_
  | with_reducible refine ds_drop ?_
  | with_reducible refine ds_next ?_
  | with_reducible refine ds_retN ?_
  | with_reducible refine then_nx ?_
  | with_reducible refine then_rt ?_
  | with_reducible refine gives_rt ?_
  | with_reducible refine gives_nx
  | with_reducible refine dt_not ?_
  | with_reducible refine dt_test ?_
  | with_reducible refine dt_B ?_
  | with_reducible refine dt_and ?_
  | with_reducible refine dt_or ?_
  | with_reducible refine dt_yes ?_
  | with_reducible refine ex_bl ?_
  | with_reducible refine ex_ii ?_
  | ((with_reducible show DE _ (tVar _) _ _); refine de_var rfl ?_)
  | with_reducible refine de_int ?_
  | with_reducible refine de_str ?_
  | with_reducible refine de_bl ?_
  | with_reducible refine de_non ?_
  | with_reducible refine de_sub ?_
  | with_reducible refine de_eq ?_
  | with_reducible refine de_ne ?_
  | with_reducible refine de_in ?_
  | with_reducible refine de_add ?_
  | with_reducible refine de_subI ?_
  | with_reducible refine de_lt ?_
  | with_reducible refine de_le ?_
  | with_reducible refine de_gt ?_
  | with_reducible refine de_ge ?_
  | with_reducible refine de_neg ?_
  | with_reducible refine de_isN ?_
  | with_reducible refine de_notN ?_
  | with_reducible refine de_chainII ?_
  | with_reducible refine de_len ?_
  | with_reducible refine de_isi .str rfl ?_
  | with_reducible refine de_isi .int rfl ?_
  | with_reducible refine de_isi .bool rfl ?_
  | with_reducible refine de_isi .dict rfl ?_
  | with_reducible refine de_isi .tuple rfl ?_
  | with_reducible refine de_isi .list rfl ?_
  | with_reducible refine de_all ?_
  | with_reducible refine de_sum ?_
  | with_reducible refine de_if ?_
  | with_reducible refine de_andV ?_
  | with_reducible refine de_orV ?_
  | with_reducible refine de_notV ?_
  | with_reducible refine de_tuple ?_
  | with_reducible refine de_get1 ?_
  | with_reducible refine de_get2 ?_
  | with_reducible refine de_tup0 ?_
  | with_reducible refine de_tup1 ?_
  | with_reducible refine de_tup2 ?_
  | with_reducible refine de_tup3 ?_
  | with_reducible refine de_tup4 ?_
  | with_reducible refine de_tup ?_
  | with_reducible refine de_call ?_
  | with_reducible refine da_nil ?_
  | with_reducible refine da_cons ?_)

/-! ### _law_draw -/
def R_draw (ns : List Int) (ds : List D) (S : D → Prop) : Prop := ∃ m : Int, ds = [.int m] ∧ 0 < m ∧ m ≤ 1000 ∧ S = fun d => ∃ i : Int, d = .int i ∧ 0 ≤ i ∧ i < m
section
variable {K : PySem.W.Frag}
theorem sub_tw {H : Hp} {t : Addr} {p q : Int} {Q : VK} (h : H t = some (.lst [.int p, .int q])) : (Q (.int p) H → rSub K (.ref t) (.int 0) H Q) ∧ (Q (.int q) H → rSub K (.ref t) (.int 1) H Q) :=
  ⟨fun z => .inl (.inl ⟨t, _, 0, _, rfl, rfl, .inl (.inl h), rfl, z⟩), fun z => .inl (.inl ⟨t, _, 1, _, rfl, rfl, .inl (.inl h), rfl, z⟩)⟩
theorem sub_sc {H : Hp} {a : Addr} {ns : List Int} {i : Int} {Q : VK} (h : SqL K H a (ns.map V.int)) (h0 : 0 ≤ i) (h1 : i < ns.length) : ∃ n : Int, (Q (.int n) H → rSub K (.ref a) (.int i) H Q) := by
  have hl : i.toNat < ns.length := by omega
  refine ⟨ns[i.toNat], fun z => .inl (.inl ⟨a, _, i, _, rfl, rfl, h, ?_, z⟩)⟩
  unfold L2.atI L2.ixN
  rw [if_pos h0, if_pos (by rw [List.length_map]; exact h1)]
  simp [hl]
theorem Sub.scr {t a : Addr} {ns : List Int} {G H : Hp} (s : Sub ⟨K, some (t, a, ns)⟩ G H) (p q : Int) : SqL K H a (ns.map V.int) ∧ SqL K (upd H t (.lst [.int p, .int q])) a (ns.map V.int) := by
  obtain ⟨h, ne⟩ := s.sc t a ns rfl
  rcases ne with z | ne
  · exact ⟨z _, z _⟩
  rcases h with h | ⟨h, _⟩
  · exact ⟨h _, h _⟩
  · refine ⟨.inl h, .inl ?_⟩
    rcases h with h | ⟨o, h⟩
    · exact .inl (by rw [upd_ne ne]; exact h)
    · exact .inr ⟨o, by rw [upd_ne ne]; exact h⟩
/-- the town is written: a step -/
theorem Step.town {t a : Addr} {ns : List Int} {G H : Hp} (s : Sub ⟨K, some (t, a, ns)⟩ G H) {p q : Int} (hp : 0 ≤ p) : Step ⟨K, some (t, a, ns)⟩ G H G (upd H t (.lst [.int p, .int q])) := by
  have tt : Cn.T ⟨K, some (t, a, ns)⟩ t := ⟨_, rfl⟩
  have gt := s.tg t tt
  refine ⟨fun _ _ h => h, ⟨fun x u h => ?_, fun t' q' e => ?_, s.tg, fun t' a' ns' e => ?_⟩, fun x u hT hg h => ?_, fun x _ h => h, fun x o u h => ?_⟩
  · have ne : x ≠ t := by rintro rfl; rw [gt] at h; cases h
    exact At.to (upd_ne ne) (s.pl x u h)
  · cases e; exact ⟨p, q, hp, upd_same⟩
  · cases e
    obtain ⟨h, ne⟩ := s.sc t a ns rfl
    rcases ne with z | ne
    · exact ⟨.inl z, .inl z⟩
    refine ⟨h.imp id fun ⟨r, g⟩ => ⟨?_, g⟩, .inr ne⟩
    rcases r with r | ⟨o, r⟩
    · exact .inl (by rw [upd_ne ne]; exact r)
    · exact .inr ⟨o, by rw [upd_ne ne]; exact r⟩
  · have ne : x ≠ t := by rintro rfl; exact hT tt
    rw [upd_ne ne]; exact h
  · have ne : x ≠ t := by
      rintro rfl
      obtain ⟨p', q', _, e⟩ := s.iv x _ rfl
      rw [e] at h; cases h
    rw [upd_ne ne]; exact h
theorem Sub.sq {t a : Addr} {ns : List Int} {G H : Hp} (s : Sub ⟨K, some (t, a, ns)⟩ G H) : SqL K H a (ns.map V.int) :=
  (s.sc t a ns rfl).1.elim (fun h => h H) fun h => .inl h.1
theorem body_draw {vs : List V} {H : Hp} {Q : VK} {E : XK} (q : SpT K R_draw vs H Q E) : t__law_draw K { nx := fun _ H' => Q .non H', rt := Q } (L2.start ["script", "town", "many", "one", "at", "mixed"] vs) H := by
  obtain ⟨t, a, ns, G, ds, us, S, s, rfl, hu, ⟨m, rfl, h0, h1, rfl⟩, k⟩ := q
  unfold HasL HasL at hu
  obtain ⟨v, r, rfl, hv, rfl⟩ := hu
  unfold Has at hv
  subst hv
  obtain ⟨p, q, hp, ht⟩ := s.iv t _ rfl
  have fin : ∀ (i : Int) (Hc : Hp), Step ⟨K, some (t, a, ns)⟩ G H G Hc → 0 ≤ i → i < m → Q (.int i) Hc := fun i Hc st hi0 hi1 => k (.int i) (.int i) G _ ⟨i, rfl, hi0, hi1⟩ st (by unfold Has; rfl)
  have mod : ∀ i : Int, 0 ≤ i % m ∧ i % m < m := fun i => ⟨Int.emod_nonneg _ (by omega), Int.emod_lt_of_pos _ h0⟩
  refine ⟨_, rfl, (sub_tw ht).2 ⟨_, _, rfl, rfl, _, rfl, ?_⟩⟩
  by_cases hq : 0 < q
  · refine it_t (decide_eq_true hq) ?_
    refine ⟨_, rfl, (sub_tw ht).2 ⟨_, rfl, q, m, rfl, rfl, h0, ?_⟩⟩
    refine ⟨_, rfl, (sub_tw ht).2 ⟨_, rfl, q, m, rfl, rfl, ⟨h0, by omega⟩, ?_⟩⟩
    refine ⟨_, rfl, t, _, 1, 1, rfl, rfl, ht, rfl, ?_⟩
    exact ⟨_, rfl, fin _ _ (Step.town s hp) (mod q).1 (mod q).2⟩
  · refine it_f (decide_eq_false hq) ?_
    refine ⟨_, rfl, (sub_tw ht).1 ?_⟩
    refine ⟨_, rfl, t, _, 0, _, rfl, rfl, Int.le_refl _, .inl (.inl ht), rfl, ?_⟩
    refine ⟨p, 1, rfl, rfl, t, _, 0, 0, rfl, rfl, ht, rfl, ?_⟩
    have st1 : Step ⟨K, some (t, a, ns)⟩ G H G (upd H t (.lst [.int (p + 1), .int q])) := Step.town s (by omega)
    have s1 := st1.sub
    refine ⟨_, rfl, ?_⟩
    refine ⟨by decide, fun l hl => ?_⟩
    have st2 := st1.trans (Step.tmp (o := .lst []) s1 hl)
    have s2 := st2.sub
    refine ⟨a, l, ns, rfl, rfl, s2.sq, .inl (.inl upd_same), ?_⟩
    refine ⟨_, rfl, ?_⟩
    by_cases hne : ns = []
    · refine it_t (by rw [hne]; rfl) ?_
      exact ⟨_, rfl, _, rfl, p, m, rfl, rfl, h0, fin _ _ st2 (mod p).1 (mod p).2⟩
    · refine it_f (by cases ns with | nil => exact absurd rfl hne | cons _ _ => rfl) ?_
      have hlen : 0 < ns.length := List.length_pos_iff.mpr hne
      have sq := s2.sq
      have slen : ((ns.map V.int).length : Int) = ns.length := by rw [List.length_map]
      have last : ∀ (n : Int), tSeq (tAsg (tOp (rI (fun _ j => 0 < j) fun i j => .int (i % j)) (tOp (rI0 fun i j => .int (i + j)) (tOp (rI0 fun i j => .int (i + j)) (tOp (rI (fun i j => MulOk i j) fun i j => .int (i * j)) (tOp (rSub K) (tVar 0) (tOp (rI (fun _ j => 0 < j) fun i j => .int (i % j)) (tVar 4) (tCB (rLenX K) (tCons (tVar 0) tNil)))) (tC (.int 1103515245))) (tOp (rI (fun i j => MulOk i j) fun i j => .int (i * j)) (tC (.int 7919)) (tVar 4))) (tC (.int 12345))) (tC (.int 2147483647))) (gName 5)) (tRet (tOp (rI (fun _ j => 0 < j) fun i j => .int (i % j)) (tOp (rI (fun _ j => 0 < j) fun i j => .int (i % j)) (tOp (rI (fun _ j => 0 < j) fun i j => .int (i % j)) (tOp (rI CPow fun i j => .int (i ^ j.toNat)) (tVar 5) (tC (.int 5))) (tC (.int 2147483647))) (tC (.int 999983))) (tVar 2))) { nx := fun _ H' => Q .non H', rt := Q } [some (.ref a), some (.ref t), some (.int m), none, some (.int p), none] (upd (upd H t (.lst [.int (p + 1), .int q])) l (.lst [])) := fun _ => by
        have hm1 : 0 ≤ p % ((ns.map V.int).length : Int) := Int.emod_nonneg _ (by omega)
        have hm2 : p % ((ns.map V.int).length : Int) < ns.length := by have := Int.emod_lt_of_pos p (b := ((ns.map V.int).length : Int)) (by omega); omega
        refine ⟨_, rfl, _, rfl, _, rfl, .inl ⟨a, _, rfl, .inl sq, p, _, rfl, rfl, by omega, ?_⟩⟩
        obtain ⟨n, hn⟩ := sub_sc (K := K) (Q := fun x H1 => tC (.int 1103515245) [some (.ref a), some (.ref t), some (.int m), none, some (.int p), none] H1 fun y H2 => (rI (fun i j => MulOk i j) fun i j => .int (i * j)) x y H2 _) sq hm1 hm2
        refine hn ⟨n, 1103515245, rfl, rfl, .inl (.inr ⟨by decide, by decide⟩), ?_⟩
        refine ⟨_, rfl, 7919, p, rfl, rfl, .inl (.inl ⟨by decide, by decide⟩), ?_⟩
        refine ⟨_, _, rfl, rfl, ?_⟩
        refine ⟨_, _, rfl, rfl, ?_⟩
        refine ⟨_, _, rfl, rfl, (by show (0 : Int) < _; decide), ?_⟩
        refine ⟨_, rfl, _, 5, rfl, rfl, ⟨by decide, by decide, ?_⟩, ?_⟩
        · have b1 := Int.emod_nonneg (n * 1103515245 + 7919 * p + 12345) (b := 2147483647) (by decide)
          have b2 := Int.emod_lt_of_pos (n * 1103515245 + 7919 * p + 12345) (b := 2147483647) (by decide)
          omega
        · refine ⟨_, _, rfl, rfl, (by show (0 : Int) < _; decide), ?_⟩
          refine ⟨_, _, rfl, rfl, (by show (0 : Int) < _; decide), ?_⟩
          exact ⟨_, rfl, _, m, rfl, rfl, h0, fin _ _ st2 (mod _).1 (mod _).2⟩
      refine ⟨_, rfl, _, rfl, .inl ⟨a, _, rfl, .inl sq, p, _, rfl, rfl, _, rfl, ?_⟩⟩
      by_cases hpl : p < ((ns.map V.int).length : Int)
      · refine it_t (decide_eq_true hpl) ?_
        have hpl' : p < (ns.length : Int) := by omega
        obtain ⟨n, hn⟩ : ∃ n : Int, ∀ (Q : VK), Q (.int n) (upd (upd H t (.lst [.int (p + 1), .int q])) l (.lst [])) → rSub K (.ref a) (.int p) (upd (upd H t (.lst [.int (p + 1), .int q])) l (.lst [])) Q := by
          have hl2 : p.toNat < ns.length := by omega
          refine ⟨ns[p.toNat], fun Q z => .inl (.inl ⟨a, _, p, _, rfl, rfl, sq, ?_, z⟩)⟩
          unfold L2.atI L2.ixN
          rw [if_pos hp, if_pos hpl]
          simp [hl2]
        refine ⟨_, rfl, _, rfl, hn _ ⟨10, 18, rfl, rfl, ⟨by decide, by decide, by decide⟩, n, _, rfl, rfl, _, rfl, ?_⟩⟩
        by_cases hbig : (10 : Int) ^ (18 : Int).toNat ≤ n
        · refine it_t (decide_eq_true hbig) ?_
          refine ⟨_, rfl, _, rfl, hn _ ⟨_, rfl, n, m, rfl, rfl, ⟨h0, by omega⟩, ?_⟩⟩
          refine ⟨10, 60, rfl, rfl, ⟨by decide, by decide, by decide⟩, 10, 60, rfl, rfl, ⟨by decide, by decide, by decide⟩, _, _, rfl, rfl, .inr (by unfold CMulW; decide +kernel), ?_⟩
          refine ⟨_, _, rfl, rfl, (by show (0 : Int) < _; decide), ?_⟩
          obtain ⟨p2, q2, hp2, ht2⟩ := s2.iv t _ rfl
          refine ⟨_, rfl, t, _, 1, 1, rfl, rfl, ht2, rfl, ?_⟩
          have st3 := st2.trans (Step.town (q := n / m % (10 ^ (60 : Int).toNat * 10 ^ (60 : Int).toNat)) s2 hp2)
          have sq3 := st3.sub.sq
          obtain ⟨n', hn'⟩ := sub_sc (Q := fun x H1 => tVar 2 [some (.ref a), some (.ref t), some (.int m), none, some (.int p), none] H1 fun y H2 => (rI (fun _ j => 0 < j) fun i j => .int (i % j)) x y H2 Q) sq3 hp hpl'
          exact ⟨_, rfl, _, rfl, hn' ⟨_, rfl, _, m, rfl, rfl, h0, fin _ _ st3 (mod _).1 (mod _).2⟩⟩
        · refine it_f (decide_eq_false hbig) ?_
          exact last 0
      · refine it_f (decide_eq_false hpl) (it_f rfl ?_)
        exact last 0
end
end Mp

set_option Elab.async false
set_option linter.all false
set_option maxRecDepth 100000
set_option maxHeartbeats 4000000
namespace Mp
open PySem L2
local macro_rules | `(tactic| walk_at "s") => `(tactic| first
  | with_reducible refine ds_seq ?_
  | with_reducible refine ds_ret ?_
  | with_reducible refine ds_if ?_
  | with_reducible refine ds_asg ?_
  | with_reducible refine ds_drop ?_
  | with_reducible refine ds_next ?_
  | with_reducible refine ds_retN ?_
  | with_reducible refine then_nx ?_
  | with_reducible refine then_rt ?_
  | with_reducible refine gives_rt ?_
  | with_reducible refine gives_nx
  | with_reducible refine dt_not ?_
  | with_reducible refine dt_test ?_
  | with_reducible refine dt_B ?_
  | with_reducible refine dt_and ?_
  | with_reducible refine dt_or ?_
  | with_reducible refine dt_yes ?_
  | with_reducible refine ex_bl ?_
  | with_reducible refine ex_ii ?_
  | ((with_reducible show DE _ (tVar _) _ _); refine de_var rfl ?_)
  | with_reducible refine de_int ?_
  | with_reducible refine de_str ?_
  | with_reducible refine de_bl ?_
  | with_reducible refine de_non ?_
  | with_reducible refine de_sub ?_
  | with_reducible refine de_eq ?_
  | with_reducible refine de_ne ?_
  | with_reducible refine de_in ?_
  | with_reducible refine de_add ?_
  | with_reducible refine de_subI ?_
  | with_reducible refine de_lt ?_
  | with_reducible refine de_le ?_
  | with_reducible refine de_gt ?_
  | with_reducible refine de_ge ?_
  | with_reducible refine de_neg ?_
  | with_reducible refine de_isN ?_
  | with_reducible refine de_notN ?_
  | with_reducible refine de_chainII ?_
  | with_reducible refine de_len ?_
  | with_reducible refine de_isi .str rfl ?_
  | with_reducible refine de_isi .int rfl ?_
  | with_reducible refine de_isi .bool rfl ?_
  | with_reducible refine de_isi .dict rfl ?_
  | with_reducible refine de_isi .tuple rfl ?_
  | with_reducible refine de_isi .list rfl ?_
  | with_reducible refine de_all ?_
  | with_reducible refine de_sum ?_
  | with_reducible refine de_if ?_
  | with_reducible refine de_andV ?_
  | with_reducible refine de_orV ?_
  | with_reducible refine de_notV ?_
  | with_reducible refine de_tuple ?_
  | with_reducible refine de_get1 ?_
  | with_reducible refine de_get2 ?_
  | with_reducible refine de_tup0 ?_
  | with_reducible refine de_tup1 ?_
  | with_reducible refine de_tup2 ?_
  | with_reducible refine de_tup3 ?_
  | with_reducible refine de_tup4 ?_
  | with_reducible refine de_tup ?_
  | with_reducible refine de_isB ?_
  | with_reducible refine de_notB ?_
  | ((with_reducible show DE _ (tCall (SpT _ _) _ _ _) _ _); refine de_ct rfl rfl ?_)
  | with_reducible refine de_call ?_
  | with_reducible refine da_nil ?_
  | with_reducible refine da_cons ?_)

section
variable {K : PySem.W.Frag} {A : List Str}
def R_pick (ns : List Int) (ds : List D) (S : D → Prop) : Prop := ∃ xs : List D, ds = [.lst xs] ∧ 0 < xs.length ∧ xs.length ≤ 1000 ∧ S = fun d => d ∈ xs
theorem p_pick (t a : Addr) (ns : List Int) (ds : List D) (S : D → Prop) (h : R_pick ns ds S) : DS ⟨K, some (t, a, ns)⟩ (t__law_pick K (SpT K R_draw)) (slotsT ["script", "town", "some"] a t ds) (GivesS S) := by
  obtain ⟨xs, rfl, h0, h1, rfl⟩ := h
  show DS _ _ [.raw (.ref a), .raw (.ref t), .dat (.lst xs)] _
  unfold t__law_pick
  repeat walk_at "s"
  refine ⟨xs.length, rfl, ?_⟩
  repeat walk_at "s"
  refine ⟨[.int xs.length], _, rfl, ⟨xs.length, rfl, by omega, by omega, rfl⟩, ?_⟩
  rintro d ⟨i, rfl, hi0, hi1⟩
  have hl : i.toNat < xs.length := by omega
  refine ⟨xs[i.toNat], ?_, List.getElem_mem hl⟩
  show L2.atI xs i = _
  unfold L2.atI L2.ixN
  rw [if_pos hi0, if_pos hi1]
  simp [hl]
/-- the names of a draw: texts whose signs are keys, each once -/
def NamesOk (A : List Str) (x : D) : Prop := ∃ z : Str, x = .str z ∧ z.length ≤ 1000 ∧ (z.cps.toList.map fun n => (⟨#[n]⟩ : Str)).Nodup ∧ ∀ n ∈ z.cps.toList, (⟨#[n]⟩ : Str) ∈ A
theorem ksOk_of {n : Nat} {ms : List (Str × D)} {ks : List Str} (e : ms.map (·.1) = ks) (nd : ks.Nodup) (hk : ∀ k ∈ ks, k ∈ A) (hd : ∀ p ∈ ms, Doc A n p.2) : KsOk A n (ms.map fun p => ((.inr p.1 : Key), p.2)) := by
  refine ⟨?_, fun p hp => ?_, fun p hp => ?_⟩
  · have := nodup_inr (f := id) (es := ms) (by rw [e]; exact nd)
    exact this
  · obtain ⟨q, hq, rfl⟩ := List.mem_map.mp hp
    exact ⟨q.1, hk _ (e ▸ List.mem_map.mpr ⟨q, hq, rfl⟩), rfl⟩
  · obtain ⟨q, hq, rfl⟩ := List.mem_map.mp hp
    exact hd q hq
/-- dict([(key, f(key)) for key in names]) -/
theorem dn_named {c : Cn} {δ : List Sl} {te : TE} {tx : TE} {j : Nat} {P : D → Prop} (S : D → Prop) (h : DE c tx δ fun x => ∃ z : Str, x = .str z ∧ z.length ≤ 1000 ∧ (z.cps.toList.map fun n => (⟨#[n]⟩ : Str)).Nodup ∧
    (∀ n ∈ z.cps.toList, DE c te ((wipeD δ [j]).set j (.dat (.str ⟨#[n]⟩))) fun y => SPair S (.str ⟨#[n]⟩) y) ∧ ∀ ms : List (Str × D), ms.map (·.1) = (z.cps.toList.map fun n => (⟨#[n]⟩ : Str)) → (∀ p ∈ ms, S p.2) → P (.dic (ms.map fun p => ((.inr p.1 : Key), p.2)))) :
    DN c (tCB (rDictX c.K) (tCons (tLc (iAny c.K tx) (gName j) tYes te [j]) tNil)) δ P :=
  dn_dict ((dn_lcS (js := [j]) (SPair S) (fun _ h => h) (di_any (h.imp fun x ⟨z, e, hl, nd, ht, p⟩ => by
    subst e
    refine ⟨_, rfl, by rw [List.length_map]; exact Nat.le_of_lt (small1000 hl), fun i d hd => ?_, fun ys hy => ?_⟩
    · rw [List.getElem?_map] at hd
      cases q : z.cps.toList[i]? with
      | none => rw [q] at hd; cases hd
      | some n =>
        rw [q] at hd; cases hd
        exact dg_name (ht n (List.mem_of_getElem? q))
    · have e : (z.cps.toList.map fun n => D.str ⟨#[n]⟩) = (z.cps.toList.map fun n => (⟨#[n]⟩ : Str)).map .str := by rw [List.map_map]; rfl
      rw [e] at hy
      obtain ⟨ms, rfl, hk, hs⟩ := pairs_ms hy
      refine .inl ⟨_, rfl, ?_⟩
      rw [mergeD_nil [] (by rw [List.nil_append]; exact nodup_inr (f := id) (by rw [hk]; exact nd)), List.nil_append]
      exact p ms hk hs))).de)
def R_doc (A : List Str) (m : Nat) (ns : List Int) (ds : List D) (S : D → Prop) : Prop := ∃ n : Nat, ds = [.int n] ∧ n ≤ m ∧ S = Doc A n
def R_document (A : List Str) : Nat → List Int → List D → (D → Prop) → Prop
  | 0, _, _, _ => False
  | n + 1, ns, ds, S => R_doc A n ns ds S
theorem names_ok {xs : List D} {x : D} (h : ∀ x ∈ xs, NamesOk A x) (m : x ∈ xs) : NamesOk A x := h x m
theorem p_document (hN : ∀ x ∈ [D.str "", .str "a", .str "b", .str "ab", .str "ab", .str "bc", .str "abc"], NamesOk A x) (N : Nat) (t a : Addr) (ns : List Int) (ds : List D) (S : D → Prop) (h : R_document A (N + 1) ns ds S) :
    DS ⟨K, some (t, a, ns)⟩ (t__law_document K (SpT K (R_document A N)) (SpT K R_pick) (SpT K R_draw)) (slotsT ["script", "town", "depth", "names", "key"] a t ds) (GivesS S) := by
  obtain ⟨n, rfl, hnN, rfl⟩ := h
  show DS _ _ [.raw (.ref a), .raw (.ref t), .dat (.int n), .un, .un] _
  unfold t__law_document
  repeat walk_at "s"
  refine ⟨Nat.zero_le _, ?_⟩
  repeat walk_at "s"
  rw [eqv_nat]
  have pick : ∀ tt, DS ⟨K, some (t, a, ns)⟩ (tRet (tCall (SpT K R_pick) [] E0 (tCons (tVar 0) (tCons (tVar 1) (tCons (tLst (tCons (tC (.int 0)) (tCons (tC (.int 1)) (tCons (tC (.int 2)) (tCons (tUn (rU fun i => .int (-i)) (tC (.int 7))) (tCons (tC (.str "")) (tCons (tC (.str "x")) (tCons (tC (.str "yes")) tNil)))))))) tNil))))) [.raw (.ref a), .raw (.ref t), .dat (.int n), .un, .un] (Then ⟨K, some (t, a, ns)⟩ tt (GivesS (Doc A n))) := fun tt => by
    repeat walk_at "s"
    refine (dn_lst ?_).de
    repeat walk_at "s"
    refine ⟨7, rfl, ?_⟩
    repeat walk_at "s"
    refine ⟨[.int 0, .int 1, .int 2, .int (-7), .str "", .str "x", .str "yes"], rfl, by simp, ?_⟩
    repeat walk_at "s"
    refine ⟨[_], _, rfl, ⟨_, rfl, by simp, by simp, rfl⟩, fun d hd => ?_⟩
    refine then_rt ?_
    show Doc A n d
    simp only [List.mem_cons, List.not_mem_nil, or_false] at hd
    rcases hd with rfl | rfl | rfl | rfl | rfl | rfl | rfl
    · exact .int _ (by decide)
    · exact .int _ (by decide)
    · exact .int _ (by decide)
    · exact .int _ (by decide)
    · exact .str _ (by decide)
    · exact .str _ (by decide)
    · exact .str _ (by decide)
  refine it_c (fun h1 => it_t rfl (pick _)) fun h1 => ?_
  have hn : n ≠ 0 := by rintro rfl; simp at h1
  repeat walk_at "s"
  refine ⟨[.int 5], _, rfl, ⟨5, rfl, by decide, by decide, rfl⟩, ?_⟩
  rintro _ ⟨i, rfl, hi0, hi1⟩
  repeat walk_at "s"
  refine it_c (fun h2 => pick _) fun h2 => ?_
  repeat walk_at "s"
  refine (dn_lst ?_).de
  repeat walk_at "s"
  refine ⟨[.str "", .str "a", .str "b", .str "ab", .str "ab", .str "bc", .str "abc"], rfl, by simp, ?_⟩
  repeat walk_at "s"
  refine ⟨[_], _, rfl, ⟨_, rfl, by simp, by simp, rfl⟩, fun d hd => ?_⟩
  obtain ⟨z, rfl, hl, nd, hz⟩ := hN d hd
  repeat walk_at "s"
  obtain ⟨n, rfl⟩ : ∃ m, n = m + 1 := ⟨n - 1, by omega⟩
  refine (dn_named (Doc A n) ?_).de
  repeat walk_at "s"
  refine ⟨z, rfl, hl, nd, fun k hk => ?_, fun ms hm hs => ?_⟩
  · repeat walk_at "s"
    obtain ⟨N, rfl⟩ : ∃ M, N = M + 1 := ⟨N - 1, by omega⟩
    exact ⟨[.int n], _, by simp, ⟨n, rfl, by omega, rfl⟩, fun d hd => ⟨_, d, rfl, rfl, hd⟩⟩
  · exact (ksOk_of hm nd (fun k hk => by obtain ⟨n, hn, rfl⟩ := List.mem_map.mp hk; exact hz n hn) hs).doc
end
end Mp

set_option Elab.async false
set_option linter.all false
set_option maxRecDepth 100000
set_option maxHeartbeats 4000000
namespace Mp
open PySem L2
local macro_rules | `(tactic| walk_at "s") => `(tactic| first
  | with_reducible refine ds_seq ?_
  | with_reducible refine ds_ret ?_
  | with_reducible refine ds_if ?_
  | with_reducible refine ds_asg ?_
  | with_reducible refine ds_drop ?_
  | with_reducible refine ds_next ?_
  | with_reducible refine ds_retN ?_
  | with_reducible refine then_nx ?_
  | with_reducible refine then_rt ?_
  | with_reducible refine gives_rt ?_
  | with_reducible refine gives_nx
  | with_reducible refine dt_not ?_
  | with_reducible refine dt_test ?_
  | with_reducible refine dt_B ?_
  | with_reducible refine dt_and ?_
  | with_reducible refine dt_or ?_
  | with_reducible refine dt_yes ?_
  | with_reducible refine ex_bl ?_
  | with_reducible refine ex_ii ?_
  | ((with_reducible show DE _ (tVar _) _ _); refine de_var rfl ?_)
  | with_reducible refine de_int ?_
  | with_reducible refine de_str ?_
  | with_reducible refine de_bl ?_
  | with_reducible refine de_non ?_
  | with_reducible refine de_sub ?_
  | with_reducible refine de_eq ?_
  | with_reducible refine de_ne ?_
  | with_reducible refine de_in ?_
  | with_reducible refine de_add ?_
  | with_reducible refine de_subI ?_
  | with_reducible refine de_lt ?_
  | with_reducible refine de_le ?_
  | with_reducible refine de_gt ?_
  | with_reducible refine de_ge ?_
  | with_reducible refine de_neg ?_
  | with_reducible refine de_isN ?_
  | with_reducible refine de_notN ?_
  | with_reducible refine de_chainII ?_
  | with_reducible refine de_len ?_
  | with_reducible refine de_isi .str rfl ?_
  | with_reducible refine de_isi .int rfl ?_
  | with_reducible refine de_isi .bool rfl ?_
  | with_reducible refine de_isi .dict rfl ?_
  | with_reducible refine de_isi .tuple rfl ?_
  | with_reducible refine de_isi .list rfl ?_
  | with_reducible refine de_all ?_
  | with_reducible refine de_sum ?_
  | with_reducible refine de_if ?_
  | with_reducible refine de_andV ?_
  | with_reducible refine de_orV ?_
  | with_reducible refine de_notV ?_
  | with_reducible refine de_tuple ?_
  | with_reducible refine de_get1 ?_
  | with_reducible refine de_get2 ?_
  | with_reducible refine de_tup0 ?_
  | with_reducible refine de_tup1 ?_
  | with_reducible refine de_tup2 ?_
  | with_reducible refine de_tup3 ?_
  | with_reducible refine de_tup4 ?_
  | with_reducible refine de_tup ?_
  | with_reducible refine de_isB ?_
  | with_reducible refine de_notB ?_
  | ((with_reducible show DE _ (tCall (SpT _ _) _ _ _) _ _); refine de_ct rfl rfl ?_)
  | with_reducible refine de_call ?_
  | with_reducible refine da_nil ?_
  | with_reducible refine da_cons ?_)

section
variable {K : PySem.W.Frag} {A : List Str}
def R_state (A : List Str) (m : Nat) (ns : List Int) (ds : List D) (S : D → Prop) : Prop := ∃ n : Nat, ds = [.int n] ∧ n ≤ m ∧ S = St A n
theorem p_state (m : Nat) (t a : Addr) (ns : List Int) (ds : List D) (S : D → Prop) (h : R_state A m ns ds S) :
    DS ⟨K, some (t, a, ns)⟩ (t__law_state K (SpT K R_draw) (SpT K (R_doc A m))) (slotsT ["script", "town", "depth"] a t ds) (GivesS S) := by
  obtain ⟨n, rfl, hn, rfl⟩ := h
  show DS _ _ [.raw (.ref a), .raw (.ref t), .dat (.int n)] _
  unfold t__law_state
  repeat walk_at "s"
  refine ⟨[.int 6], _, rfl, ⟨6, rfl, by decide, by decide, rfl⟩, ?_⟩
  rintro _ ⟨i, rfl, hi0, hi1⟩
  repeat walk_at "s"
  refine ⟨Nat.zero_le _, ?_⟩
  repeat walk_at "s"
  refine it_c (fun h2 => ?_) fun h2 => ?_
  · repeat walk_at "s"
    exact .inl rfl
  · repeat walk_at "s"
    exact ⟨[.int n], _, rfl, ⟨n, rfl, hn, rfl⟩, fun d hd => .inr hd⟩
def IsPt (A : List Str) (m n : Nat) (d : D) : Prop := ∃ p, d = Pt.toD p ∧ PtOk A m n p
def R_patch (A : List Str) : Nat → List Int → List D → (D → Prop) → Prop
  | 0, _, _, _ => False
  | n + 1, ns, ds, S => ∃ m : Nat, ds = [.int m] ∧ m ≤ n ∧ S = IsPt A 2 m
theorem all2_pts {m n : Nat} {xs : List D} : ∀ {ys : List D}, All2 (fun _ y => IsPt A m n y) xs ys → ∃ ps : List Pt, ys = ptsD ps ∧ ps.length = xs.length ∧ ∀ p ∈ ps, PtOk A m n p := by
  induction xs with
  | nil => intro ys h; unfold All2 at h; subst h; exact ⟨[], by rw [ptsD], rfl, fun p hp => by cases hp⟩
  | cons x xs ih =>
    intro ys h
    obtain ⟨y, r, rfl, ⟨p, rfl, hp⟩, h⟩ := h
    obtain ⟨ps, rfl, h1, h2⟩ := ih h
    refine ⟨p :: ps, by rw [ptsD], by simp [h1], fun q hq => ?_⟩
    rcases List.mem_cons.mp hq with e | hq
    · subst e; exact hp
    · exact h2 q hq
theorem ms_pts {m n : Nat} : ∀ {ms : List (Str × D)}, (∀ p ∈ ms, IsPt A m n p.2) → ∃ es : List (Str × Pt), (ms.map fun p => ((.inr p.1 : Key), p.2)) = esD es ∧ es.map (·.1) = ms.map (·.1) ∧ ∀ p ∈ es, PtOk A m n p.2
  | [], _ => ⟨[], by rw [esD]; rfl, rfl, fun p hp => by cases hp⟩
  | (k, d) :: ms, h => by
    obtain ⟨p, e, hp⟩ := h (k, d) List.mem_cons_self
    obtain ⟨es, h1, h2, h3⟩ := ms_pts fun q hq => h q (List.mem_cons_of_mem _ hq)
    refine ⟨(k, p) :: es, ?_, ?_, fun q hq => ?_⟩
    · rw [esD, List.map_cons, h1]; simp only at e; rw [e]
    · rw [List.map_cons, List.map_cons, h2]
    · rcases List.mem_cons.mp hq with e | hq
      · subst e; exact hp
      · exact h3 q hq
theorem p_patch (hN : ∀ x ∈ [D.str "", .str "a", .str "b", .str "ab", .str "bc"], NamesOk A x) (N : Nat) (t a : Addr) (ns : List Int) (ds : List D) (S : D → Prop) (h : R_patch A (N + 1) ns ds S) :
    DS ⟨K, some (t, a, ns)⟩ (t__law_patch K (SpT K (R_patch A N)) (SpT K R_pick) (SpT K R_draw) (SpT K (R_doc A 2))) (slotsT ["script", "town", "depth", "name", "names", "k", "key"] a t ds) (GivesS S) := by
  obtain ⟨n, rfl, hnN, rfl⟩ := h
  show DS _ _ [.raw (.ref a), .raw (.ref t), .dat (.int n), .un, .un, .un, .un] _
  unfold t__law_patch
  repeat walk_at "s"
  refine (dn_lst ?_).de
  repeat walk_at "s"
  refine ⟨[.str "keep", .str "set", .str "drop", .str "default", .str "merge", .str "merge", .str "inside", .str "inside", .str "chain"], rfl, by simp, ?_⟩
  repeat walk_at "s"
  refine ⟨[_], _, rfl, ⟨_, rfl, by simp, by simp, rfl⟩, fun d hd => ?_⟩
  obtain ⟨nm, rfl, hnm⟩ : ∃ nm : Str, d = .str nm ∧ nm ∈ (["keep", "drop", "set", "default", "merge", "inside", "chain"] : List Str) := by
    simp only [List.mem_cons, List.not_mem_nil, or_false] at hd
    rcases hd with rfl | rfl | rfl | rfl | rfl | rfl | rfl | rfl | rfl <;> exact ⟨_, rfl, by decide⟩
  clear hd
  repeat walk_at "s"
  refine ⟨_, inn2 _ _ _, ?_⟩
  repeat walk_at "s"
  refine it_c (fun h1 => ?_) fun h1 => ?_
  · repeat walk_at "s"
    rcases of_decide_eq_true h1 with rfl | rfl
    · exact ⟨.keep, by rw [Pt.toD], .keep⟩
    · exact ⟨.drop, by rw [Pt.toD], .drop⟩
  have h1' : ¬ (nm = "keep" ∨ nm = "drop") := of_decide_eq_false h1
  repeat walk_at "s"
  refine ⟨_, inn2 _ _ _, ?_⟩
  repeat walk_at "s"
  have sd : ∀ tt, DS ⟨K, some (t, a, ns)⟩ (tRet (tTupF (tCons (tCall (SpT K R_pick) [] E0 (tCons (tVar 0) (tCons (tVar 1) (tCons (tLst (tCons (tC (.str "set")) (tCons (tC (.str "default")) tNil))) tNil)))) (tCons (tCall (SpT K (R_doc A 2)) [] E0 (tCons (tVar 0) (tCons (tVar 1) (tCons (tC (.int 2)) tNil)))) tNil)))) [.raw (.ref a), .raw (.ref t), .dat (.int n), .dat (.str nm), .un, .un, .un] (Then ⟨K, some (t, a, ns)⟩ tt (GivesS (IsPt A 2 n))) := fun tt => by
    repeat walk_at "s"
    refine (dn_lst ?_).de
    repeat walk_at "s"
    refine ⟨[.str "set", .str "default"], rfl, by simp, ?_⟩
    repeat walk_at "s"
    refine ⟨[_], _, rfl, ⟨_, rfl, by simp, by simp, rfl⟩, fun d hd => ?_⟩
    repeat walk_at "s"
    refine ⟨[.int 2], _, rfl, ⟨2, rfl, by decide, rfl⟩, fun e he => ?_⟩
    refine then_rt ?_
    show IsPt A 2 n _
    simp only [List.mem_cons, List.not_mem_nil, or_false] at hd
    rcases hd with rfl | rfl
    · exact ⟨.set e, by rw [Pt.toD], .set he⟩
    · exact ⟨.dflt e, by rw [Pt.toD], .dflt he⟩
  refine it_c (fun h2 => it_t rfl (sd _)) fun h2 => ?_
  have h2' : ¬ (nm = "set" ∨ nm = "default") := of_decide_eq_false h2
  repeat walk_at "s"
  refine ⟨Nat.zero_le _, ?_⟩
  repeat walk_at "s"
  rw [eqv_nat]
  refine it_c (fun h3 => sd _) fun h3 => ?_
  have hn : n ≠ 0 := by rintro rfl; simp at h3
  obtain ⟨n, rfl⟩ : ∃ m, n = m + 1 := ⟨n - 1, by omega⟩
  obtain ⟨N, rfl⟩ : ∃ M, N = M + 1 := ⟨N - 1, by omega⟩
  repeat walk_at "s"
  refine ⟨Nat.zero_le _, ?_⟩
  repeat walk_at "s"
  rw [eqv_str]
  refine it_c (fun h4 => ?_) fun h4 => ?_
  · have h4' : nm = "chain" := by simpa using h4
    subst h4'
    repeat walk_at "s"
    refine (dn_lcS (js := [5]) (fun _ y => IsPt A 2 n y) (by simp) (di_rng ?_)).de
    repeat walk_at "s"
    refine ⟨[.int 4], _, rfl, ⟨4, rfl, by decide, by decide, rfl⟩, ?_⟩
    rintro _ ⟨i, rfl, hi0, hi1⟩
    refine ⟨i.toNat, by rw [Int.toNat_of_nonneg hi0], by omega, ?_, fun j d hd => dg_name ?_, fun ys hy => ?_⟩
    · rw [List.length_map, List.length_range]; exact Nat.le_of_lt (small1000 (n := i.toNat) (by omega))
    · repeat walk_at "s"
      exact ⟨[.int n], _, by simp, ⟨n, rfl, by omega, rfl⟩, fun d hd => hd⟩
    · obtain ⟨ps, rfl, hl, hp⟩ := all2_pts hy
      refine ⟨_, rfl, ?_⟩
      repeat walk_at "s"
      refine ⟨.chn ps, by rw [Pt.toD], .chn ?_ hp⟩
      simp at hl; omega
  · have h4' : ¬ nm = "chain" := by simpa using h4
    have hmi : nm = "merge" ∨ nm = "inside" := by
      simp only [List.mem_cons, List.not_mem_nil, or_false] at hnm
      rcases hnm with rfl | rfl | rfl | rfl | rfl | rfl | rfl
      · exact absurd (.inl rfl) h1'
      · exact absurd (.inr rfl) h1'
      · exact absurd (.inl rfl) h2'
      · exact absurd (.inr rfl) h2'
      · exact .inl rfl
      · exact .inr rfl
      · exact absurd rfl h4'
    repeat walk_at "s"
    refine (dn_lst ?_).de
    repeat walk_at "s"
    refine ⟨[.str "", .str "a", .str "b", .str "ab", .str "bc"], rfl, by simp, ?_⟩
    repeat walk_at "s"
    refine ⟨[_], _, rfl, ⟨_, rfl, by simp, by simp, rfl⟩, fun d hd => ?_⟩
    obtain ⟨z, rfl, hl, nd, hz⟩ := hN d hd
    repeat walk_at "s"
    refine (dn_named (IsPt A 2 n) ?_).de
    repeat walk_at "s"
    refine ⟨z, rfl, hl, nd, fun k hk => ?_, fun ms hm hs => ?_⟩
    · repeat walk_at "s"
      exact ⟨[.int n], _, by simp, ⟨n, rfl, by omega, rfl⟩, fun d hd => ⟨_, d, rfl, rfl, hd⟩⟩
    · repeat walk_at "s"
      obtain ⟨es, e1, e2, e3⟩ := ms_pts hs
      have nd' : (es.map (·.1)).Nodup := by rw [e2, hm]; exact nd
      have hin : ∀ p ∈ es, p.1 ∈ A := fun p hp => by
        have : p.1 ∈ z.cps.toList.map fun n => (⟨#[n]⟩ : Str) := by rw [← hm, ← e2]; exact List.mem_map.mpr ⟨p, hp, rfl⟩
        obtain ⟨n, hn, e⟩ := List.mem_map.mp this
        rw [← e]; exact hz n hn
      rw [e1]
      rcases hmi with rfl | rfl
      · exact ⟨.merge es, by rw [Pt.toD], .merge nd' hin e3⟩
      · exact ⟨.inside es, by rw [Pt.toD], .inside nd' hin e3⟩
end
end Mp

set_option Elab.async false
set_option linter.all false
set_option maxRecDepth 100000
set_option maxHeartbeats 4000000
namespace Mp
open PySem L2
local macro_rules | `(tactic| walk_at "s") => `(tactic| first
  | with_reducible refine ds_seq ?_
  | with_reducible refine ds_ret ?_
  | with_reducible refine ds_if ?_
  | with_reducible refine ds_asg ?_
  | with_reducible refine ds_drop ?_
  | with_reducible refine ds_next ?_
  | with_reducible refine ds_retN ?_
  | with_reducible refine then_nx ?_
  | with_reducible refine then_rt ?_
  | with_reducible refine gives_rt ?_
  | with_reducible refine gives_nx
  | with_reducible refine dt_not ?_
  | with_reducible refine dt_test ?_
  | with_reducible refine dt_B ?_
  | with_reducible refine dt_and ?_
  | with_reducible refine dt_or ?_
  | with_reducible refine dt_yes ?_
  | with_reducible refine ex_bl ?_
  | with_reducible refine ex_ii ?_
  | ((with_reducible show DE _ (tVar _) _ _); refine de_var rfl ?_)
  | with_reducible refine de_int ?_
  | with_reducible refine de_str ?_
  | with_reducible refine de_bl ?_
  | with_reducible refine de_non ?_
  | with_reducible refine de_sub ?_
  | with_reducible refine de_eq ?_
  | with_reducible refine de_ne ?_
  | with_reducible refine de_in ?_
  | with_reducible refine de_add ?_
  | with_reducible refine de_subI ?_
  | with_reducible refine de_lt ?_
  | with_reducible refine de_le ?_
  | with_reducible refine de_gt ?_
  | with_reducible refine de_ge ?_
  | with_reducible refine de_neg ?_
  | with_reducible refine de_isN ?_
  | with_reducible refine de_notN ?_
  | with_reducible refine de_chainII ?_
  | with_reducible refine de_len ?_
  | with_reducible refine de_isi .str rfl ?_
  | with_reducible refine de_isi .int rfl ?_
  | with_reducible refine de_isi .bool rfl ?_
  | with_reducible refine de_isi .dict rfl ?_
  | with_reducible refine de_isi .tuple rfl ?_
  | with_reducible refine de_isi .list rfl ?_
  | with_reducible refine de_all ?_
  | with_reducible refine de_sum ?_
  | with_reducible refine de_if ?_
  | with_reducible refine de_andV ?_
  | with_reducible refine de_orV ?_
  | with_reducible refine de_notV ?_
  | with_reducible refine de_tuple ?_
  | with_reducible refine de_get1 ?_
  | with_reducible refine de_get2 ?_
  | with_reducible refine de_tup0 ?_
  | with_reducible refine de_tup1 ?_
  | with_reducible refine de_tup2 ?_
  | with_reducible refine de_tup3 ?_
  | with_reducible refine de_tup4 ?_
  | with_reducible refine de_tup ?_
  | with_reducible refine de_isB ?_
  | with_reducible refine de_notB ?_
  | ((with_reducible show DE _ (tCall (SpT _ _) _ _ _) _ _); refine de_ct rfl rfl ?_)
  | with_reducible refine de_call ?_
  | with_reducible refine da_nil ?_
  | with_reducible refine da_cons ?_)

mutual
def lawRun : Pt → D → D
  | .keep, s => s
  | .drop, _ => .non
  | .set d, _ => d
  | .dflt d, s => match s with
    | .non => d
    | s => s
  | .merge es, s => match s with
    | .dic ks => .dic (lawEs es ks)
    | _ => .dic (lawEs es [])
  | .inside es, s => match s with
    | .dic ks => .dic (lawEs es ks)
    | s => s
  | .chn ps, s => lawPs ps s
def lawEs : List (Str × Pt) → List (Key × D) → List (Key × D)
  | [], acc => acc
  | (k, p) :: r, acc => lawEs r (putV acc k (lawRun p ((look acc (.inr k)).getD .non)))
def lawPs : List Pt → D → D
  | [], s => s
  | p :: r, s => lawPs r (lawRun p s)
end
theorem lawEs_snoc : ∀ (es : List (Str × Pt)) (k : Str) (p : Pt) (acc : List (Key × D)), lawEs (es ++ [(k, p)]) acc = putV (lawEs es acc) k (lawRun p ((look (lawEs es acc) (.inr k)).getD .non))
  | [], k, p, acc => by rw [List.nil_append, lawEs, lawEs, lawEs]
  | (j, q) :: r, k, p, acc => by rw [List.cons_append, lawEs, lawEs_snoc r, lawEs]
theorem lawPs_snoc : ∀ (ps : List Pt) (p : Pt) (s : D), lawPs (ps ++ [p]) s = lawRun p (lawPs ps s)
  | [], p, s => by rw [List.nil_append, lawPs, lawPs, lawPs]
  | q :: r, p, s => by rw [List.cons_append, lawPs, lawPs_snoc r, lawPs]
section
variable {K : PySem.W.Frag} {A : List Str}
theorem lawEs_ok {N : Nat} : ∀ (es : List (Str × Pt)) {acc : List (Key × D)}, (∀ p ∈ es, p.1 ∈ A) → (∀ p ∈ es, ∀ s, St A N s → St A N (lawRun p.2 s)) → KsOk A N acc → KsOk A N (lawEs es acc)
  | [], acc, _, _, h => by rw [lawEs]; exact h
  | (k, p) :: r, acc, hk, hp, h => by
    rw [lawEs]
    exact lawEs_ok r (fun q hq => hk q (List.mem_cons_of_mem _ hq)) (fun q hq => hp q (List.mem_cons_of_mem _ hq)) (h.putV (hk (k, p) List.mem_cons_self) (hp (k, p) List.mem_cons_self _ (h.get _)))
theorem lawPs_ok {N : Nat} : ∀ (ps : List Pt) {s : D}, (∀ p ∈ ps, ∀ s, St A N s → St A N (lawRun p s)) → St A N s → St A N (lawPs ps s)
  | [], s, _, h => by rw [lawPs]; exact h
  | p :: r, s, hp, h => by
    rw [lawPs]
    exact lawPs_ok r (fun q hq => hp q (List.mem_cons_of_mem _ hq)) (hp p List.mem_cons_self _ h)
theorem lawRun_ok {m n : Nat} {p : Pt} (h : PtOk A m n p) : ∀ {N : Nat} {s : D}, m + n ≤ N → St A N s → St A N (lawRun p s) := by
  induction h with
  | keep => intro N s _ hs; rw [lawRun]; exact hs
  | drop => intro N s _ hs; rw [lawRun]; exact .inl rfl
  | set h => intro N s hN hs; rw [lawRun]; exact .inr (h.mono (by omega))
  | dflt h =>
    intro N s hN hs; rw [lawRun.eq_def]
    cases s with
    | non => exact .inr (h.mono (by omega))
    | _ => exact hs
  | merge nd hk hp ih =>
    intro N s hN hs
    cases N with
    | zero => omega
    | succ N =>
      have hp' := fun p h s hs => ih p h (N := N) (s := s) (by omega) hs
      rw [lawRun.eq_def]
      cases s with
      | dic ks =>
        obtain ⟨m', e, hk'⟩ := KsOk.of hs
        cases e
        exact (lawEs_ok _ hk hp' hk').st
      | _ => exact (lawEs_ok _ hk hp' .nil).st
  | inside nd hk hp ih =>
    intro N s hN hs
    cases N with
    | zero => omega
    | succ N =>
      have hp' := fun p h s hs => ih p h (N := N) (s := s) (by omega) hs
      rw [lawRun.eq_def]
      cases s with
      | dic ks =>
        obtain ⟨m', e, hk'⟩ := KsOk.of hs
        cases e
        exact (lawEs_ok _ hk hp' hk').st
      | _ => exact hs
  | chn hl hp ih =>
    intro N s hN hs
    rw [lawRun]
    exact lawPs_ok _ (fun p h s hs => ih p h (by omega) hs) hs
theorem lawEs_sem : ∀ (es : List (Str × Pt)) {acc : List (Key × D)} {N : Nat}, (es.map (·.1)).Nodup → (∀ p ∈ es, p.1 ∈ A) → (∀ p ∈ es, ∀ s, St A N s → St A N (lawRun p.2 s) ∧ sem (lawRun p.2 s) = pden p.2 (sem s)) → KsOk A N acc → semK (lawEs es acc) = pdK es (semK acc)
  | [], acc, N, _, _, _, _ => by funext x; rw [lawEs, pdK]
  | (k, p) :: r, acc, N, nd, hk, hp, h => by
    rw [List.map_cons, List.nodup_cons] at nd
    obtain ⟨h1, h2⟩ := hp (k, p) List.mem_cons_self _ (h.get (.inr k))
    rw [lawEs, lawEs_sem r nd.2 (fun q hq => hk q (List.mem_cons_of_mem _ hq)) (fun q hq => hp q (List.mem_cons_of_mem _ hq)) (h.putV (hk (k, p) List.mem_cons_self) h1)]
    funext x
    rw [← semK_look] at h2
    simp only at h2
    have key : ∀ (es : List (Str × Pt)) (m m' : Str → T) (x : Str), m x = m' x → pdK es m x = pdK es m' x := fun es => by
      induction es with
      | nil => intro m m' x e; rw [pdK, pdK, e]
      | cons q r ih => intro m m' x e; obtain ⟨j, q⟩ := q; rw [pdK, pdK, e, ih m m' x e]
    have none : ∀ (es : List (Str × Pt)) (m : Str → T) (x : Str), x ∉ es.map (·.1) → pdK es m x = m x := fun es => by
      induction es with
      | nil => intro m x _; rw [pdK]
      | cons q r ih =>
        intro m x e; obtain ⟨j, q⟩ := q
        rw [List.map_cons, List.mem_cons, not_or] at e
        rw [pdK, if_neg fun z => e.1 z.symm, ih m x e.2]
    by_cases e : k = x
    · subst e
      rw [pdK, if_pos rfl, none r _ k nd.1, semK_putV, if_pos rfl, h2]
    · rw [pdK, if_neg e]
      exact key r _ _ x (by rw [semK_putV, if_neg e])
theorem lawPs_sem {N : Nat} : ∀ (ps : List Pt) {s : D}, (∀ p ∈ ps, ∀ s, St A N s → St A N (lawRun p s) ∧ sem (lawRun p s) = pden p (sem s)) → St A N s → sem (lawPs ps s) = pdL ps (sem s)
  | [], s, _, h => by rw [lawPs, pdL]
  | p :: r, s, hp, h => by
    obtain ⟨h1, h2⟩ := hp p List.mem_cons_self _ h
    rw [lawPs, lawPs_sem r (fun q hq => hp q (List.mem_cons_of_mem _ hq)) h1, h2, pdL]
theorem lawRun_sem {m n : Nat} {p : Pt} (h : PtOk A m n p) : ∀ {N : Nat} {s : D}, m + n ≤ N → St A N s → sem (lawRun p s) = pden p (sem s) := by
  induction h with
  | keep => intro N s _ hs; rw [lawRun, pden]
  | drop => intro N s _ hs; rw [lawRun, pden, sem]
  | set h => intro N s hN hs; rw [lawRun, pden]
  | dflt h =>
    intro N s hN hs
    rcases hs with rfl | hs
    · rw [lawRun.eq_def, sem, pden]
    · cases hs <;> (rw [lawRun.eq_def]; simp only; rw [sem, pden.eq_def])
  | merge nd hk hp ih =>
    intro N s hN hs
    cases N with
    | zero => omega
    | succ N =>
      have hp' := fun p h s hs => And.intro (lawRun_ok (hp p h) (N := N) (s := s) (by omega) hs) (ih p h (N := N) (s := s) (by omega) hs)
      have h0 : semK [] = fun _ => T.no := by funext x; rw [semK]
      have hs' := hs
      rcases hs with rfl | hs
      · rw [lawRun.eq_def, sem, sem, pden, lawEs_sem _ nd hk hp' .nil, h0]; rfl
      · cases hs with
        | int _ h => rw [lawRun.eq_def, sem, sem, pden, lawEs_sem _ nd hk hp' .nil, h0]; rfl
        | str _ h => rw [lawRun.eq_def, sem, sem, pden, lawEs_sem _ nd hk hp' .nil, h0]; rfl
        | dic a b c =>
          obtain ⟨m', e, hk'⟩ := KsOk.of hs'
          cases e
          rw [lawRun.eq_def, sem, sem, pden, lawEs_sem _ nd hk hp' hk']; rfl
  | inside nd hk hp ih =>
    intro N s hN hs
    cases N with
    | zero => omega
    | succ N =>
      have hp' := fun p h s hs => And.intro (lawRun_ok (hp p h) (N := N) (s := s) (by omega) hs) (ih p h (N := N) (s := s) (by omega) hs)
      have hs' := hs
      rcases hs with rfl | hs
      · rw [lawRun.eq_def, sem, pden.eq_def]
      · cases hs with
        | int _ h => rw [lawRun.eq_def, sem, pden.eq_def]
        | str _ h => rw [lawRun.eq_def, sem, pden.eq_def]
        | dic a b c =>
          obtain ⟨m', e, hk'⟩ := KsOk.of hs'
          cases e
          rw [lawRun.eq_def, sem, sem, pden.eq_def]
          simp only
          rw [lawEs_sem _ nd hk hp' hk']
  | chn hl hp ih =>
    intro N s hN hs
    rw [lawRun, pden]
    exact lawPs_sem _ (fun p h s hs => ⟨lawRun_ok (hp p h) (by omega) hs, ih p h (by omega) hs⟩) hs
/-- what the program's apply gives and what the law's reading gives, are equal -/
theorem apply_sem {p : Pt} {s : D} (hp : PtOk A 5 6 p) (hs : St A 11 s) : sem ((formOf p).run s) = sem (lawRun p s) := by
  rw [sem_run _ (formOf_ok (by omega) hp) hs, sem_form (by omega) hp, lawRun_sem hp (by omega) hs]
theorem apply_eqv {p : Pt} {s : D} (hp : PtOk A 5 6 p) (hs : St A 11 s) : D.eqv ((formOf p).run s) (lawRun p s) = true :=
  (run_ok _ (formOf_ok (by omega) hp) hs).eqv_sem (lawRun_ok hp (by omega) hs) (apply_sem hp hs)

theorem dropD_none {α : Type} {ks : List (Key × α)} {k : Key} (h : look ks k = none) : dropD ks k = ks := by
  unfold dropD
  refine List.filter_eq_self.mpr fun p hp => ?_
  have : p.1 ≠ k := fun e => by
    obtain ⟨d, e'⟩ := look_some_of (List.mem_map.mpr ⟨p, hp, e⟩)
    rw [h] at e'; cases e'
  simpa using this
def R_law_run (A : List Str) : Nat → List D → D → Prop
  | 0, _, _ => False
  | n + 1, ds, d => ∃ p s, ds = [Pt.toD p, s] ∧ PtOk A 5 n p ∧ St A 11 s ∧ d = lawRun p s
end
end Mp

set_option Elab.async false
set_option linter.all false
set_option maxRecDepth 100000
set_option maxHeartbeats 4000000
namespace Mp
open PySem L2
local macro_rules | `(tactic| walk_at "s") => `(tactic| first
  | with_reducible refine ds_seq ?_
  | with_reducible refine ds_ret ?_
  | with_reducible refine ds_if ?_
  | with_reducible refine ds_asg ?_
  | with_reducible refine ds_drop ?_
  | with_reducible refine ds_next ?_
  | with_reducible refine ds_retN ?_
  | with_reducible refine then_nx ?_
  | with_reducible refine then_rt ?_
  | with_reducible refine gives_rt ?_
  | with_reducible refine gives_nx
  | with_reducible refine dt_not ?_
  | with_reducible refine dt_test ?_
  | with_reducible refine dt_B ?_
  | with_reducible refine dt_and ?_
  | with_reducible refine dt_or ?_
  | with_reducible refine dt_yes ?_
  | with_reducible refine ex_bl ?_
  | with_reducible refine ex_ii ?_
  | ((with_reducible show DE _ (tVar _) _ _); refine de_var rfl ?_)
  | with_reducible refine de_int ?_
  | with_reducible refine de_str ?_
  | with_reducible refine de_bl ?_
  | with_reducible refine de_non ?_
  | with_reducible refine de_sub ?_
  | with_reducible refine de_eq ?_
  | with_reducible refine de_ne ?_
  | with_reducible refine de_in ?_
  | with_reducible refine de_add ?_
  | with_reducible refine de_subI ?_
  | with_reducible refine de_lt ?_
  | with_reducible refine de_le ?_
  | with_reducible refine de_gt ?_
  | with_reducible refine de_ge ?_
  | with_reducible refine de_neg ?_
  | with_reducible refine de_isN ?_
  | with_reducible refine de_notN ?_
  | with_reducible refine de_chainII ?_
  | with_reducible refine de_len ?_
  | with_reducible refine de_isi .str rfl ?_
  | with_reducible refine de_isi .int rfl ?_
  | with_reducible refine de_isi .bool rfl ?_
  | with_reducible refine de_isi .dict rfl ?_
  | with_reducible refine de_isi .tuple rfl ?_
  | with_reducible refine de_isi .list rfl ?_
  | with_reducible refine de_all ?_
  | with_reducible refine de_sum ?_
  | with_reducible refine de_if ?_
  | with_reducible refine de_andV ?_
  | with_reducible refine de_orV ?_
  | with_reducible refine de_notV ?_
  | with_reducible refine de_tuple ?_
  | with_reducible refine de_get1 ?_
  | with_reducible refine de_get2 ?_
  | with_reducible refine de_tup0 ?_
  | with_reducible refine de_tup1 ?_
  | with_reducible refine de_tup2 ?_
  | with_reducible refine de_tup3 ?_
  | with_reducible refine de_tup4 ?_
  | with_reducible refine de_tup ?_
  | with_reducible refine de_isB ?_
  | with_reducible refine de_notB ?_
  | ((with_reducible show DE _ (tCall (SpT _ _) _ _ _) _ _); refine de_ct rfl rfl ?_)
  | with_reducible refine de_call ?_
  | with_reducible refine da_nil ?_
  | with_reducible refine da_cons ?_)

section
variable {K : PySem.W.Frag} {A : List Str}
theorem inn2f {x a b : Str} (h : x ≠ a) (g : x ≠ b) : D.inn (.str x) (.tup [.str a, .str b]) = some false := by
  rw [inn2, decide_eq_false fun z => z.elim h g]
theorem inn2t {x a b : Str} (h : x = a ∨ x = b) : D.inn (.str x) (.tup [.str a, .str b]) = some true := by
  rw [inn2, decide_eq_true h]
theorem eqs_f {x y : Str} (h : x ≠ y) : D.eqv (.str x) (.str y) = false := by rw [eqv_str]; simpa using h
theorem eqs_t (x : Str) : D.eqv (.str x) (.str x) = true := by rw [eqv_str]; simp
/-- the branches of a merge or an inside of dicts, from the dict at hand -/
theorem p_law_run (hA : Alp A) (n : Nat) (hn : n ≤ 6) (ds : List D) (d : D) (h : R_law_run A (n + 1) ds d) :
    DS ⟨K, none⟩ (t__law_run K (SpP K (R_law_run A n))) (slots ["patch", "state", "name", "one", "result", "key", "value"] ds) (Gives d) := by
  obtain ⟨p, s, rfl, hp, hs, rfl⟩ := h
  show DS _ _ [.dat p.toD, .dat s, .un, .un, .un, .un, .un] _
  -- the last part: from the dict to begin with
  have big : ∀ (nm : Str) (es : List (Str × Pt)) (k0 : List (Key × D)) (z : Sl), (es.map (·.1)).Nodup → (∀ p ∈ es, p.1 ∈ A) → (∀ p ∈ es, 0 < n ∧ PtOk A 5 (n - 1) p.2) → KsOk A 10 k0 →
      DS ⟨K, none⟩ (tSeq (tFor (iAny K (tOp (rSub K) (tVar 0) (tC (.int 1)))) (gName 5) (tSeq (tAsg (tCall (SpP K (R_law_run A n)) [] E0 (tCons (tOp (rSub K) (tOp (rSub K) (tVar 0) (tC (.int 1))) (tVar 5)) (tCons (tDGet1 (tVar 4) (tVar 5)) tNil))) (gName 6))
        (tIfS (tTest (tOp (fun x y H Q => y = .non ∧ Q (.bl (!decide (x = .non))) H) (tVar 6) (tC .non))) (sDPut (tVar 4) (tVar 5) (tVar 6)) (tIfS (tTest (tOp (rInX K false) (tVar 5) (tVar 4))) (tDrop (tDPop1 (tVar 4) (tVar 5))) tNext))))
        (tRet (tVar 4))) [.dat (.tup [.str nm, .dic (esD es)]), .dat s, .dat (.str nm), z, .own (.dic k0), .un, .un] (Gives (.dic (lawEs es k0))) := fun nm es k0 z nd hk hes h0 => by
    refine ds_seq (ds_for (js := [5]) (di_any ?_))
    repeat walk_at "s"
    refine ⟨.dic (esD es), rfl, _, rfl, fun i δ => ∃ z1 z2, δ = [.dat (.tup [.str nm, .dic (esD es)]), .dat s, .dat (.str nm), z, .own (.dic (lawEs (es.take i) k0)), z1, z2], ⟨.un, .un, ?_⟩, fun i d δ' hd w => ?_, fun δ' w => ?_⟩
    · rw [List.take_zero, lawEs]
    · obtain ⟨z1, z2, rfl⟩ := w
      rw [esD_map, List.map_map, List.getElem?_map] at hd
      cases q : es[i]? with
      | none => rw [q] at hd; cases hd
      | some p =>
        rw [q] at hd; cases hd
        obtain ⟨k, p⟩ := p
        have hm := List.mem_of_getElem? q
        obtain ⟨hn0, hpk⟩ := hes _ hm
        have run : ∀ q ∈ es, ∀ s, St A 10 s → St A 10 (lawRun q.2 s) := fun q hq s hs => lawRun_ok (hes q hq).2 (by omega) hs
        have hacc : KsOk A 10 (lawEs (es.take i) k0) := lawEs_ok _ (fun q hq => hk q (List.mem_of_mem_take hq)) (fun q hq => run q (List.mem_of_mem_take hq)) h0
        have hget := hacc.get (.inr k)
        refine dg_name ?_
        refine ds_seq (ds_asg ?_)
        refine de_call (da_cons ?_)
        repeat walk_at "s"
        refine ⟨.dic (esD es), rfl, ?_⟩
        repeat walk_at "s"
        refine ⟨p.toD, sub_key (ks := esD es) (k := .inr k) (by rw [esD_map]; exact nodup_inr nd) (by rw [esD_map]; exact List.mem_map.mpr ⟨(k, p), hm, rfl⟩), ?_⟩
        refine da_cons (de_get1_own rfl ?_)
        repeat walk_at "s"
        refine ⟨k, rfl, ?_⟩
        repeat walk_at "s"
        refine ⟨[p.toD, (look (lawEs (es.take i) k0) (.inr k)).getD .non], lawRun p ((look (lawEs (es.take i) k0) (.inr k)).getD .non), rfl, ?_, ?_⟩
        · cases n with
          | zero => omega
          | succ n => exact ⟨p, _, rfl, hpk, hget.mono (by omega), rfl⟩
        have e1 : lawEs (es.take (i + 1)) k0 = putV (lawEs (es.take i) k0) k (lawRun p ((look (lawEs (es.take i) k0) (.inr k)).getD .non)) := by
          rw [List.take_succ, q]; exact lawEs_snoc _ _ _ _
        simp only [e1]
        generalize lawRun p ((look (lawEs (es.take i) k0) (.inr k)).getD .non) = v
        repeat walk_at "s"
        cases v with
        | non =>
          refine it_f rfl (ds_if (dt_test (de_in_own rfl ?_)))
          repeat walk_at "s"
          refine ⟨k, rfl, _, rfl, ?_⟩
          cases ql : look (lawEs (es.take i) k0) (.inr k) with
          | none =>
            refine it_f rfl (ds_next ?_)
            have e2 : putV (lawEs (es.take i) k0) k .non = lawEs (es.take i) k0 := dropD_none ql
            simp only [e2]
            exact ⟨_, _, rfl⟩
          | some x =>
            refine it_t rfl (ds_dpop1 rfl ?_)
            repeat walk_at "s"
            exact ⟨k, rfl, by rw [ql]; rfl, _, _, rfl⟩
        | _ =>
          refine it_t rfl (ds_dput rfl (Nat.le_trans (Nat.le_trans hacc.len hA.few) (by omega)) ?_)
          repeat walk_at "s"
          exact ⟨k, rfl, _, _, rfl⟩
    · obtain ⟨z1, z2, rfl⟩ := w
      rw [List.length_map, esD_map, List.length_map, List.take_length]
      refine then_nx (ds_pub 4 rfl ?_)
      repeat walk_at "s"
      rfl
  cases p with
  | keep =>
    rw [Pt.toD]
    unfold t__law_run
    repeat walk_at "s"
    refine ⟨_, sub_tup0, ?_⟩
    repeat walk_at "s"
    refine ⟨Nat.zero_le _, ?_⟩
    repeat walk_at "s"
    refine it_t (eqs_t _) ?_
    refine it_t rfl ?_
    repeat walk_at "s"
    rw [lawRun]
  | drop =>
    rw [Pt.toD]
    unfold t__law_run
    repeat walk_at "s"
    refine ⟨_, sub_tup0, ?_⟩
    repeat walk_at "s"
    refine ⟨Nat.zero_le _, ?_⟩
    repeat walk_at "s"
    refine it_f (eqs_f (by decide)) ?_
    repeat walk_at "s"
    refine ⟨Nat.zero_le _, ?_⟩
    repeat walk_at "s"
    refine it_f (eqs_f (by decide)) ?_
    refine it_f rfl ?_
    repeat walk_at "s"
    refine ⟨Nat.zero_le _, ?_⟩
    repeat walk_at "s"
    refine it_f (eqs_f (by decide)) ?_
    refine it_f rfl ?_
    repeat walk_at "s"
    refine ⟨Nat.zero_le _, ?_⟩
    repeat walk_at "s"
    refine it_t (eqs_t _) ?_
    repeat walk_at "s"
    rw [lawRun]
  | set d =>
    rw [Pt.toD]
    unfold t__law_run
    repeat walk_at "s"
    refine ⟨_, sub_tup0, ?_⟩
    repeat walk_at "s"
    refine ⟨Nat.zero_le _, ?_⟩
    repeat walk_at "s"
    refine it_f (eqs_f (by decide)) ?_
    repeat walk_at "s"
    refine ⟨Nat.zero_le _, ?_⟩
    repeat walk_at "s"
    refine it_f (eqs_f (by decide)) ?_
    refine it_f rfl ?_
    repeat walk_at "s"
    refine ⟨Nat.zero_le _, ?_⟩
    repeat walk_at "s"
    refine it_f (eqs_f (by decide)) ?_
    refine it_f rfl ?_
    repeat walk_at "s"
    refine ⟨Nat.zero_le _, ?_⟩
    repeat walk_at "s"
    refine it_f (eqs_f (by decide)) ?_
    repeat walk_at "s"
    refine ⟨_, inn2t (by decide), ?_⟩
    repeat walk_at "s"
    refine it_t rfl ?_
    repeat walk_at "s"
    refine ⟨d, rfl, ?_⟩
    repeat walk_at "s"
    rw [lawRun]
  | dflt d =>
    rw [Pt.toD]
    unfold t__law_run
    repeat walk_at "s"
    refine ⟨_, sub_tup0, ?_⟩
    repeat walk_at "s"
    refine ⟨Nat.zero_le _, ?_⟩
    repeat walk_at "s"
    refine it_f (eqs_f (by decide)) ?_
    repeat walk_at "s"
    refine ⟨Nat.zero_le _, ?_⟩
    repeat walk_at "s"
    refine it_t (eqs_t _) ?_
    repeat walk_at "s"
    cases s with
    | non =>
      refine it_f rfl ?_
      repeat walk_at "s"
      refine ⟨Nat.zero_le _, ?_⟩
      repeat walk_at "s"
      refine it_f (eqs_f (by decide)) ?_
      refine it_f rfl ?_
      repeat walk_at "s"
      refine ⟨Nat.zero_le _, ?_⟩
      repeat walk_at "s"
      refine it_f (eqs_f (by decide)) ?_
      repeat walk_at "s"
      refine ⟨_, inn2t (by decide), ?_⟩
      repeat walk_at "s"
      refine it_t rfl ?_
      repeat walk_at "s"
      refine ⟨d, rfl, ?_⟩
      repeat walk_at "s"
      rw [lawRun.eq_def]
    | _ =>
      refine it_t rfl (it_t rfl ?_)
      repeat walk_at "s"
      rw [lawRun.eq_def]
  | chn ps =>
    cases hp with
    | @chn n _ hl hps =>
    rw [Pt.toD]
    unfold t__law_run
    repeat walk_at "s"
    refine ⟨_, sub_tup0, ?_⟩
    repeat walk_at "s"
    refine ⟨Nat.zero_le _, ?_⟩
    repeat walk_at "s"
    refine it_f (eqs_f (by decide)) ?_
    repeat walk_at "s"
    refine ⟨Nat.zero_le _, ?_⟩
    repeat walk_at "s"
    refine it_f (eqs_f (by decide)) ?_
    refine it_f rfl ?_
    repeat walk_at "s"
    refine ⟨Nat.zero_le _, ?_⟩
    repeat walk_at "s"
    refine it_f (eqs_f (by decide)) ?_
    refine it_f rfl ?_
    repeat walk_at "s"
    refine ⟨Nat.zero_le _, ?_⟩
    repeat walk_at "s"
    refine it_f (eqs_f (by decide)) ?_
    repeat walk_at "s"
    refine ⟨_, inn2f (by decide) (by decide), ?_⟩
    repeat walk_at "s"
    refine it_f rfl ?_
    repeat walk_at "s"
    refine ⟨Nat.zero_le _, ?_⟩
    repeat walk_at "s"
    refine it_t (eqs_t _) ?_
    refine ds_seq (ds_for (js := [3]) (di_any ?_))
    repeat walk_at "s"
    refine ⟨.tup (ptsD ps), rfl, _, rfl, fun i δ => ∃ z, δ = [.dat (.tup [.str "chain", .tup (ptsD ps)]), .dat (lawPs (ps.take i) s), .dat (.str "chain"), z, .un, .un, .un], ⟨.un, ?_⟩, fun i d δ' hd w => ?_, fun δ' w => ?_⟩
    · rw [List.take_zero, lawPs]; rfl
    · obtain ⟨z, rfl⟩ := w
      rw [ptsD_map, List.getElem?_map] at hd
      cases q : ps[i]? with
      | none => rw [q] at hd; cases hd
      | some p =>
        rw [q] at hd; cases hd
        have hm := List.mem_of_getElem? q
        have hacc : St A 11 (lawPs (ps.take i) s) := lawPs_ok _ (fun q hq s hs => lawRun_ok (hps q (List.mem_of_mem_take hq)) (by omega) hs) hs
        refine dg_name ?_
        repeat walk_at "s"
        refine ⟨[p.toD, lawPs (ps.take i) s], _, rfl, ⟨p, _, rfl, hps p hm, hacc, rfl⟩, ?_⟩
        refine ⟨.dat p.toD, ?_⟩
        rw [List.take_succ, q]
        show _ = [_, Sl.dat (lawPs (ps.take i ++ [p]) s), _, _, _, _, _]
        rw [lawPs_snoc]; rfl
    · obtain ⟨z, rfl⟩ := w
      rw [ptsD_map, List.length_map, List.take_length]
      repeat walk_at "s"
      rw [lawRun]
  | merge es =>
    cases hp with
    | merge nd hk hes =>
    rw [Pt.toD]
    unfold t__law_run
    repeat walk_at "s"
    refine ⟨_, sub_tup0, ?_⟩
    repeat walk_at "s"
    refine ⟨Nat.zero_le _, ?_⟩
    repeat walk_at "s"
    refine it_f (eqs_f (by decide)) ?_
    repeat walk_at "s"
    refine ⟨Nat.zero_le _, ?_⟩
    repeat walk_at "s"
    refine it_f (eqs_f (by decide)) ?_
    refine it_f rfl ?_
    repeat walk_at "s"
    refine ⟨Nat.zero_le _, ?_⟩
    repeat walk_at "s"
    refine it_f (eqs_f (by decide)) ?_
    refine it_f rfl ?_
    repeat walk_at "s"
    refine ⟨Nat.zero_le _, ?_⟩
    repeat walk_at "s"
    refine it_f (eqs_f (by decide)) ?_
    repeat walk_at "s"
    refine ⟨_, inn2f (by decide) (by decide), ?_⟩
    repeat walk_at "s"
    refine it_f rfl ?_
    repeat walk_at "s"
    refine ⟨Nat.zero_le _, ?_⟩
    repeat walk_at "s"
    refine it_f (eqs_f (by decide)) ?_
    refine ds_next (then_nx (ds_seq (ds_asgN (dn_if ?_))))
    repeat walk_at "s"
    rw [lawRun.eq_def]
    cases s with
    | dic ks =>
      obtain ⟨m', e, hk'⟩ := KsOk.of hs
      cases e
      refine it_t rfl (dn_dict ?_)
      repeat walk_at "s"
      exact .inr ⟨ks, rfl, then_nx (big "merge" es ks _ nd hk (fun p h => ⟨by omega, hes p h⟩) hk')⟩
    | _ =>
      refine it_f rfl (dn_dnew ?_)
      exact then_nx (big "merge" es [] _ nd hk (fun p h => ⟨by omega, hes p h⟩) .nil)
  | inside es =>
    cases hp with
    | inside nd hk hes =>
    rw [Pt.toD]
    unfold t__law_run
    repeat walk_at "s"
    refine ⟨_, sub_tup0, ?_⟩
    repeat walk_at "s"
    refine ⟨Nat.zero_le _, ?_⟩
    repeat walk_at "s"
    refine it_f (eqs_f (by decide)) ?_
    repeat walk_at "s"
    refine ⟨Nat.zero_le _, ?_⟩
    repeat walk_at "s"
    refine it_f (eqs_f (by decide)) ?_
    refine it_f rfl ?_
    repeat walk_at "s"
    refine ⟨Nat.zero_le _, ?_⟩
    repeat walk_at "s"
    refine it_t (eqs_t _) ?_
    repeat walk_at "s"
    rw [lawRun.eq_def]
    cases s with
    | dic ks =>
      obtain ⟨m', e, hk'⟩ := KsOk.of hs
      cases e
      refine it_f rfl ?_
      repeat walk_at "s"
      refine ⟨Nat.zero_le _, ?_⟩
      repeat walk_at "s"
      refine it_f (eqs_f (by decide)) ?_
      repeat walk_at "s"
      refine ⟨_, inn2f (by decide) (by decide), ?_⟩
      repeat walk_at "s"
      refine it_f rfl ?_
      repeat walk_at "s"
      refine ⟨Nat.zero_le _, ?_⟩
      repeat walk_at "s"
      refine it_f (eqs_f (by decide)) ?_
      refine ds_next (then_nx (ds_seq (ds_asgN (dn_if ?_))))
      repeat walk_at "s"
      refine it_t rfl (dn_dict ?_)
      repeat walk_at "s"
      exact .inr ⟨ks, rfl, then_nx (big "inside" es ks _ nd hk (fun p h => ⟨by omega, hes p h⟩) hk')⟩
    | _ =>
      refine it_t rfl ?_
      repeat walk_at "s"
      rfl
theorem p_law_size (hA : Alp A) (n : Nat) (ds : List D) (d : D) (h : R_size_of A (n + 1) ds d) : DS ⟨K, none⟩ (t__law_size K (SpP K (R_size_of A n))) (slots ["state", "key"] ds) (Gives d) := p_size_of hA n ds d h
theorem p_law_value (ds : List D) (d : D) (h : R_found_at A ds d) : DS ⟨K, none⟩ (t__law_value K) (slots ["state", "path", "key"] ds) (Gives d) := p_found_at ds d h
end
end Mp

set_option Elab.async false
set_option linter.all false
set_option maxRecDepth 100000
set_option maxHeartbeats 4000000
namespace Mp
open PySem L2
local macro_rules | `(tactic| walk_at "s") => `(tactic| first
  | with_reducible refine ds_seq ?_
  | with_reducible refine ds_ret ?_
  | with_reducible refine ds_if ?_
  | with_reducible refine ds_asg ?_
  | with_reducible refine ds_drop ?_
  | with_reducible refine ds_next ?_
  | with_reducible refine ds_retN ?_
  | with_reducible refine then_nx ?_
  | with_reducible refine then_rt ?_
  | with_reducible refine gives_rt ?_
  | with_reducible refine gives_nx
  | with_reducible refine dt_not ?_
  | with_reducible refine dt_test ?_
  | with_reducible refine dt_B ?_
  | with_reducible refine dt_and ?_
  | with_reducible refine dt_or ?_
  | with_reducible refine dt_yes ?_
  | with_reducible refine ex_bl ?_
  | with_reducible refine ex_ii ?_
  | ((with_reducible show DE _ (tVar _) _ _); refine de_var rfl ?_)
  | with_reducible refine de_int ?_
  | with_reducible refine de_str ?_
  | with_reducible refine de_bl ?_
  | with_reducible refine de_non ?_
  | with_reducible refine de_sub ?_
  | with_reducible refine de_eq ?_
  | with_reducible refine de_ne ?_
  | with_reducible refine de_in ?_
  | with_reducible refine de_add ?_
  | with_reducible refine de_subI ?_
  | with_reducible refine de_lt ?_
  | with_reducible refine de_le ?_
  | with_reducible refine de_gt ?_
  | with_reducible refine de_ge ?_
  | with_reducible refine de_neg ?_
  | with_reducible refine de_isN ?_
  | with_reducible refine de_notN ?_
  | with_reducible refine de_chainII ?_
  | with_reducible refine de_len ?_
  | with_reducible refine de_isi .str rfl ?_
  | with_reducible refine de_isi .int rfl ?_
  | with_reducible refine de_isi .bool rfl ?_
  | with_reducible refine de_isi .dict rfl ?_
  | with_reducible refine de_isi .tuple rfl ?_
  | with_reducible refine de_isi .list rfl ?_
  | with_reducible refine de_all ?_
  | with_reducible refine de_sum ?_
  | with_reducible refine de_if ?_
  | with_reducible refine de_andV ?_
  | with_reducible refine de_orV ?_
  | with_reducible refine de_notV ?_
  | with_reducible refine de_tuple ?_
  | with_reducible refine de_get1 ?_
  | with_reducible refine de_get2 ?_
  | with_reducible refine de_tup0 ?_
  | with_reducible refine de_tup1 ?_
  | with_reducible refine de_tup2 ?_
  | with_reducible refine de_tup3 ?_
  | with_reducible refine de_tup4 ?_
  | with_reducible refine de_tup ?_
  | with_reducible refine de_isB ?_
  | with_reducible refine de_notB ?_
  | ((with_reducible show DE _ (tCall (SpT _ _) _ _ _) _ _); refine de_ct rfl rfl ?_)
  | with_reducible refine de_call ?_
  | with_reducible refine da_nil ?_
  | with_reducible refine da_cons ?_)

/-! ### _law_small -/
def dk (x : Str) (d : D) : Key × D := (.inr x, d)
def smInner : List D := [.non, .int 0, .int 1, .int 2, .str "x", .dic [], .dic [dk "a" (.int 0)], .dic [dk "a" (.int 1)], .dic [dk "b" (.int 1)], .dic [dk "z" (.int 0)], .dic [dk "a" (.dic [])]]
def smMk (one other : D) : D := .dic ((if one.isN then [] else [dk "a" one]) ++ (if other.isN then [] else [dk "b" other]))
def smBase : List D := [.non, .int 0, .int 1, .int 2, .str "x", .str ""]
def smMore : List D := [.dic [dk "z" (.int 0)], .dic [dk "a" (.int 1), dk "z" (.int 0)], .dic [dk "c" (.int 1)], .dic [dk "c" (.dic [])], .dic [dk "a" (.dic [dk "b" (.dic [dk "c" (.int 1)])])]]
def smLast : List D := [.dic [dk "a" (.dic [dk "a" (.dic [dk "a" (.dic [])])])]]
def smStates : List D := smBase ++ smInner.flatMap (fun one => smInner.map (smMk one)) ++ smMore ++ smLast
def smPairs : List (Int × Int) := smStates.zipIdx.map fun p => (sizeD p.1, (p.2 : Int))
def leB (p q : Int × Int) : Bool := !SrtO.lexB q p
def smOrder : List (Int × Int) := smPairs.mergeSort leB
def smAll : List D := smOrder.map fun p => (smStates[p.2.toNat]?).getD .non
theorem leB_trans (a b c : Int × Int) (h : leB a b = true) (g : leB b c = true) : leB a c = true := by
  unfold leB at *
  simp only [Bool.not_eq_true'] at *
  rw [SrtO.lexB_no] at *
  omega
theorem leB_total (a b : Int × Int) : (leB a b || leB b a) = true := by
  unfold leB
  cases h : SrtO.lexB b a with
  | false => rfl
  | true =>
    rw [SrtO.lexB_iff] at h
    have : SrtO.lexB a b = false := by rw [SrtO.lexB_no]; omega
    rw [this]; rfl
theorem smOrder_of {qs : List (Int × Int)} (hp : qs.Perm smPairs) (hs : qs.Pairwise leP) : qs = smOrder := by
  refine List.Perm.eq_of_pairwise (le := leP) (fun a b _ _ h g => ?_) hs ?_ (hp.trans (List.mergeSort_perm _ _).symm)
  · unfold leP at h g
    rw [SrtO.lexB_no] at h g
    exact Prod.ext (by omega) (by omega)
  · refine (List.pairwise_mergeSort leB_trans leB_total smPairs).imp fun {a b} h => ?_
    unfold leB at h; unfold leP
    simpa using h
theorem smOrder_mem {p : Int × Int} (h : p ∈ smOrder) : ∃ (i : Nat) (d : D), smStates[i]? = some d ∧ p = (sizeD d, (i : Int)) := by
  have h := (List.mergeSort_perm smPairs leB).mem_iff.mp h
  obtain ⟨q, hq, rfl⟩ := List.mem_map.mp h
  obtain ⟨d, i⟩ := q
  exact ⟨i, d, List.mk_mem_zipIdx_iff_getElem?.mp hq, rfl⟩
theorem smAll_mem {d : D} (h : d ∈ smAll) : d ∈ smStates := by
  obtain ⟨p, hp, rfl⟩ := List.mem_map.mp h
  obtain ⟨i, d, hd, rfl⟩ := smOrder_mem hp
  simp only [Int.toNat_natCast, hd, Option.getD_some]
  exact List.mem_of_getElem? hd
/-! ### a document, decided -/
mutual
def docB (A : List Str) : Nat → D → Bool
  | _, .int i => isScalarD (.int i)
  | _, .str s => isScalarD (.str s)
  | 0, .dic _ => false
  | n + 1, .dic ks => decide ((ks.map (·.1)).Nodup) && docKB A n ks
  | _, _ => false
def docKB (A : List Str) : Nat → List (Key × D) → Bool
  | _, [] => true
  | n, (k, d) :: r => (match k with | .inr x => A.contains x | _ => false) && (docB A n d && docKB A n r)
end
section
variable {A : List Str}
mutual
theorem docB_ok : ∀ (n : Nat) (d : D), docB A n d = true → Doc A n d
  | n, .int i, h => .int n (by rw [docB] at h; exact h)
  | n, .str s, h => .str n (by rw [docB] at h; exact h)
  | 0, .dic ks, h => by rw [docB] at h; cases h
  | n + 1, .dic ks, h => by
    rw [docB, Bool.and_eq_true] at h
    obtain ⟨a, b⟩ := docKB_ok n ks h.2
    exact .dic (of_decide_eq_true h.1) a b
  | n, .non, h => by rw [docB] at h <;> first | cases h | simp
  | n, .bl _, h => by rw [docB] at h <;> first | cases h | simp
  | n, .tup _, h => by rw [docB] at h <;> first | cases h | simp
  | n, .lst _, h => by rw [docB] at h <;> first | cases h | simp
theorem docKB_ok : ∀ (n : Nat) (ks : List (Key × D)), docKB A n ks = true → (∀ p ∈ ks, ∃ x ∈ A, p.1 = .inr x) ∧ ∀ p ∈ ks, Doc A n p.2
  | n, [], h => ⟨(fun p hp => by cases hp), (fun p hp => by cases hp)⟩
  | n, (k, d) :: r, h => by
    rw [docKB.eq_def] at h
    simp only [Bool.and_eq_true] at h
    obtain ⟨a, b⟩ := docKB_ok n r h.2.2
    have hd := docB_ok n d h.2.1
    refine ⟨fun p hp => ?_, fun p hp => ?_⟩
    · rcases List.mem_cons.mp hp with e | hp
      · subst e
        cases k with
        | inl i => cases h.1
        | inr x => exact ⟨x, by simpa using h.1, rfl⟩
      · exact a p hp
    · rcases List.mem_cons.mp hp with e | hp
      · subst e; exact hd
      · exact b p hp
end
def stB (A : List Str) (n : Nat) (d : D) : Bool := d.isN || docB A n d
theorem stB_ok {n : Nat} {d : D} (h : stB A n d = true) : St A n d := by
  unfold stB at h
  rw [Bool.or_eq_true] at h
  rcases h with h | h
  · cases d <;> first | exact .inl rfl | cases h
  · exact .inr (docB_ok n d h)
end
theorem Doc.sub {A B : List Str} (h : ∀ x ∈ A, x ∈ B) {n : Nat} {d : D} (g : Doc A n d) : Doc B n d := by
  induction g with
  | int n h => exact .int n h
  | str n h => exact .str n h
  | dic nd hk hd ih => exact .dic nd (fun p hp => let ⟨x, hx, e⟩ := hk p hp; ⟨x, h x hx, e⟩) ih
theorem St.sub {A B : List Str} (h : ∀ x ∈ A, x ∈ B) {n : Nat} {d : D} (g : St A n d) : St B n d := g.imp id fun g => g.sub h
def abcz : List Str := ["a", "b", "c", "z"]
theorem smStates_st : ∀ d ∈ smStates, St abcz 4 d := by
  have h : (smStates.all fun d => stB abcz 4 d) = true := by decide +kernel
  exact fun d hd => stB_ok (List.all_eq_true.mp h d hd)
theorem smAll_st : ∀ d ∈ smAll, St abcz 4 d := fun d hd => smStates_st d (smAll_mem hd)
theorem smAll_len : smAll.length = 133 := by
  unfold smAll smOrder
  rw [List.length_map, List.length_mergeSort]
  decide +kernel

section
variable {K : PySem.W.Frag}
def R_law_small (ds : List D) (d : D) : Prop := ds = [] ∧ d = .lst smAll
def nnD : D → Bool
  | .tup [_, v] => !v.isN
  | _ => false
def szD : D → D
  | .tup [.int i, d] => .tup [.int (sizeD d), .int i]
  | d => d
def atD : D → D
  | .tup [_, .int i] => (smStates[i.toNat]?).getD .non
  | d => d
theorem dn_pairs {c : Cn} {δ : List Sl} {one other : D} {P : D → Prop} (h : P (smMk one other)) (hl : 8 ≤ δ.length) (h4 : δ[4]? = some (.dat (.lst [.tup [.str "a", one], .tup [.str "b", other]]))) :
    DN c (tCB (rDictX c.K) (tCons (tLc (iAny c.K (tVar 4)) (gTup c.K 2 (gCons (gName 6) (gCons (gName 7) gNil))) (tTest (tOp (fun x y H Q => y = .non ∧ Q (.bl (!decide (x = .non))) H) (tVar 7) (tC .non))) (tTupF (tCons (tVar 6) (tCons (tVar 7) tNil))) [6, 7]) tNil)) δ P := by
  refine dn_dict ((dn_lcF (js := [6, 7]) id nnD (by simp) (di_any (de_var h4 ⟨_, rfl, by simp; decide, fun i d hd => ?_, ?_⟩))).de)
  · have get6 : ∀ x y : D, (((wipeD δ [6, 7]).set 6 (.dat x)).set 7 (.dat y))[6]? = some (.dat x) := fun x y => by
      rw [List.getElem?_set_ne (by decide), List.getElem?_set_self (by simp [wipeD]; omega)]
    have get7 : ∀ x y : D, (((wipeD δ [6, 7]).set 6 (.dat x)).set 7 (.dat y))[7]? = some (.dat y) := fun x y => by
      rw [List.getElem?_set_self (by simp [wipeD]; omega)]
    have go : ∀ x y : D, DG c (gTup c.K 2 (gCons (gName 6) (gCons (gName 7) gNil))) [6, 7] (wipeD δ [6, 7]) (.tup [x, y]) fun δ2 => DT c (tTest (tOp (fun x y H Q => y = .non ∧ Q (.bl (!decide (x = .non))) H) (tVar 7) (tC .non))) δ2 fun b => b = nnD (.tup [x, y]) ∧ (nnD (.tup [x, y]) = true → DE c (tTupF (tCons (tVar 6) (tCons (tVar 7) tNil))) δ2 fun z => z = id (.tup [x, y])) := fun x y => by
      refine dg_pair (dt_test (de_notN (de_var (get7 x y) ⟨_, rfl, rfl, fun _ => ?_⟩)))
      exact de_tup2 (de_var (get6 x y) (de_var (get7 x y) rfl))
    match i, hd with
    | 0, hd => cases hd; exact go _ _
    | 1, hd => cases hd; exact go _ _
    | n + 2, hd => cases hd
  · left
    have key : ∀ ms : List (Key × D), (ms.map pairD) = (List.filter nnD [D.tup [.str "a", one], .tup [.str "b", other]]).map id → (ms.map (·.1)).Nodup → smMk one other = .dic ms → ∃ ms, D.seq (.lst ((List.filter nnD [D.tup [.str "a", one], .tup [.str "b", other]]).map id)) = some (ms.map pairD) ∧ P (.dic (mergeD [] ms)) := fun ms e nd e2 =>
      ⟨ms, by rw [e]; rfl, by rw [mergeD_nil [] (by rw [List.nil_append]; exact nd), List.nil_append, ← e2]; exact h⟩
    cases h1 : one.isN <;> cases h2 : other.isN
    · refine key [dk "a" one, dk "b" other] ?_ (by simp [dk]; decide) (by unfold smMk; rw [h1, h2]; rfl)
      simp [nnD, h1, h2]; exact ⟨rfl, rfl⟩
    · refine key [dk "a" one] ?_ (by simp) (by unfold smMk; rw [h1, h2]; rfl)
      simp [nnD, h1, h2]; rfl
    · refine key [dk "b" other] ?_ (by simp) (by unfold smMk; rw [h1, h2]; rfl)
      simp [nnD, h1, h2]; rfl
    · refine key [] ?_ (by simp) (by unfold smMk; rw [h1, h2]; rfl)
      simp [nnD, h1, h2]
theorem dn_one {c : Cn} {δ : List Sl} {x : Str} {tv : TE} {P : D → Prop} (h : DE c tv δ fun d => P (.dic [dk x d])) : DN c (tDisp [((tC (.str x)), tv)]) δ P :=
  dn_disp (dps_cons (de_str (h.imp fun d p => ⟨.inr x, rfl, dps_nil ⟨by simp, p⟩⟩)))
theorem flat_take {α β : Type} {xs : List α} {f : α → List β} {i : Nat} {d : α} (h : xs[i]? = some d) : (xs.take (i + 1)).flatMap f = (xs.take i).flatMap f ++ f d := by
  rw [List.take_succ, h, List.flatMap_append]; simp
theorem p_law_small {A : List Str} (hA : Alp A) (hz : ∀ x ∈ abcz, x ∈ A) (ds : List D) (d : D) (h : R_law_small ds d) :
    DS ⟨K, none⟩ (t__law_small K (SpP K (R_size_of A 10))) (slots ["inner", "states", "one", "other", "pairs", "order", "key", "value", "at", "weight"] ds) (Gives d) := by
  obtain ⟨rfl, rfl⟩ := h
  show DS _ _ [.un, .un, .un, .un, .un, .un, .un, .un, .un, .un] _
  unfold t__law_small
  refine ds_seq (ds_asg (dn_lst ?_).de)
  repeat walk_at "s"
  refine (dn_dnew ?_).de
  repeat walk_at "s"
  refine (dn_one ?_).de
  repeat walk_at "s"
  refine (dn_one ?_).de
  repeat walk_at "s"
  refine (dn_one ?_).de
  repeat walk_at "s"
  refine (dn_one ?_).de
  repeat walk_at "s"
  refine (dn_one (dn_dnew ?_).de).de
  repeat walk_at "s"
  refine ⟨smInner, rfl, by decide, then_nx ?_⟩
  refine ds_seq (ds_asgN (dn_lst ?_))
  repeat walk_at "s"
  refine ⟨smBase, rfl, by decide, then_nx ?_⟩
  refine ds_seq (ds_for (js := [2]) (di_any ?_))
  refine de_var rfl ⟨smInner, rfl, fun i δ => ∃ z2 z3 z4, δ = [.dat (.lst smInner), .own (.lst (smBase ++ (smInner.take i).flatMap fun one => smInner.map (smMk one))), z2, z3, z4, .un, .un, .un, .un, .un], ⟨.un, .un, .un, rfl⟩, fun i one δ' hd w => ?_, fun δ' w => ?_⟩
  · obtain ⟨z2, z3, z4, rfl⟩ := w
    have hi : i < 11 := by
      have := (List.getElem?_eq_some_iff.mp hd).1
      exact this
    refine dg_name ?_
    refine ds_for (js := [3]) (di_any ?_)
    refine de_var rfl ⟨smInner, rfl, fun j δ => ∃ z3 z4, δ = [.dat (.lst smInner), .own (.lst (smBase ++ ((smInner.take i).flatMap fun one => smInner.map (smMk one)) ++ (smInner.take j).map (smMk one))), .dat one, z3, z4, .un, .un, .un, .un, .un], ⟨z3, z4, ?_⟩, fun j other δ' hd' w => ?_, fun δ' w => ?_⟩
    · rw [List.take_zero, List.map_nil, List.append_nil]; rfl
    · obtain ⟨z3, z4, rfl⟩ := w
      have hj : j < 11 := (List.getElem?_eq_some_iff.mp hd').1
      refine dg_name ?_
      refine ds_seq (ds_asg (dn_lst ?_).de)
      repeat walk_at "s"
      refine ⟨[.tup [.str "a", one], .tup [.str "b", other]], rfl, by simp, then_nx ?_⟩
      refine ds_append rfl ?_ (dn_pairs (one := one) (other := other) ?_ (by simp) rfl).de
      · have : ∀ xs : List D, ((xs.flatMap fun one => smInner.map (smMk one)).length = xs.length * 11) := fun xs => by
          induction xs with
          | nil => rfl
          | cons x xs ih => rw [List.flatMap_cons, List.length_append, ih, List.length_map]; show 11 + _ = _; rw [List.length_cons]; omega
        rw [List.length_append, List.length_append, this, List.length_map, List.length_take, List.length_take]
        show 6 + min i 11 * 11 + min j 11 ≤ 1000
        omega
      · refine ⟨.dat other, .dat (.lst [.tup [.str "a", one], .tup [.str "b", other]]), ?_⟩
        rw [take_snoc hd', ← List.append_assoc]; rfl
    · obtain ⟨z3, z4, rfl⟩ := w
      refine ⟨.dat one, z3, z4, ?_⟩
      rw [flat_take hd, List.take_length, List.append_assoc]
  · obtain ⟨z2, z3, z4, rfl⟩ := w
    rw [List.take_length]
    refine then_nx (ds_seq (ds_extend rfl (dn_lst ?_)))
    refine da_cons (dn_one ?_).de
    repeat walk_at "s"
    refine (dn_disp (dps_cons ?_)).de
    repeat walk_at "s"
    refine ⟨.inr "a", rfl, dps_cons ?_⟩
    repeat walk_at "s"
    refine ⟨.inr "z", rfl, dps_nil ⟨by decide, ?_⟩⟩
    repeat walk_at "s"
    refine (dn_one ?_).de
    repeat walk_at "s"
    refine (dn_one (dn_dnew ?_).de).de
    repeat walk_at "s"
    refine (dn_one (dn_one (dn_one ?_).de).de).de
    repeat walk_at "s"
    refine ⟨smMore, rfl, by decide, smMore, rfl, ?_, then_nx ?_⟩
    · decide +kernel
    refine ds_seq (ds_extend rfl (dn_lst ?_))
    refine da_cons (dn_one (dn_one (dn_one (dn_dnew ?_).de).de).de).de
    repeat walk_at "s"
    refine ⟨smLast, rfl, by decide, smLast, rfl, ?_, then_nx ?_⟩
    · decide +kernel
    refine ds_pub 1 rfl ?_
    show DS _ _ [.dat (.lst smInner), .dat (.lst smStates), z2, z3, z4, .un, .un, .un, .un, .un] _
    have hsl : smStates.length = 133 := by decide +kernel
    refine ds_seq (ds_asg (dn_sortP (dn_lcM (js := [8, 2]) szD (by simp) (di_enum (de_var rfl ⟨smStates, rfl, ?_, fun i d hd => ?_, ?_⟩))).de).de)
    · rw [List.length_map, List.length_zipIdx, hsl]; decide
    · rw [List.getElem?_map, List.getElem?_zipIdx] at hd
      cases q : smStates[i]? with
      | none => rw [q] at hd; cases hd
      | some s =>
        rw [q] at hd; cases hd
        have hs := smStates_st s (List.mem_of_getElem? q)
        refine dg_pair ?_
        repeat walk_at "s"
        refine ⟨[s], _, rfl, ⟨s, rfl, (hs.sub hz).mono (m := 9) (by decide), rfl⟩, ?_⟩
        repeat walk_at "s"
        simp [szD]
    · refine ⟨smPairs, ?_, fun qs hp hs => ?_⟩
      · unfold smPairs; rw [List.map_map, List.map_map]; rfl
      · rw [smOrder_of hp hs]
        refine then_nx (ds_ret ((dn_lcM (js := [9, 8]) atD (by simp) (di_any (de_var rfl ⟨_, rfl, ?_, fun i d hd => ?_, ?_⟩))).de))
        · rw [List.length_map]
          have : smOrder.length = 133 := by
            unfold smOrder; rw [List.length_mergeSort]; decide +kernel
          rw [this]; decide
        · rw [List.getElem?_map] at hd
          cases q : smOrder[i]? with
          | none => rw [q] at hd; cases hd
          | some p =>
            rw [q] at hd; cases hd
            obtain ⟨k, s, hs, rfl⟩ := smOrder_mem (List.mem_of_getElem? q)
            refine dg_pair ?_
            repeat walk_at "s"
            have hk : k < smStates.length := (List.getElem?_eq_some_iff.mp hs).1
            refine ⟨s, ?_, ?_⟩
            · show L2.atI smStates (k : Int) = some s
              unfold L2.atI L2.ixN
              rw [if_pos (by omega), if_pos (by omega)]
              simpa using hs
            · show s = (smStates[(k : Int).toNat]?).getD .non
              rw [Int.toNat_natCast, hs]; rfl
        · repeat walk_at "s"
          unfold smAll
          rw [List.map_map]; rfl
end
end Mp

set_option Elab.async false
set_option linter.all false
set_option maxRecDepth 100000
set_option maxHeartbeats 4000000
namespace Mp
open PySem L2
def t_smallest (K : PySem.W.Frag) (sp_size_of : Sp) : TS :=
  (tSeq (tAsg (tC .non) (gName 1))
    (tSeq (tFor (iAny K (tVar 0)) (gName 2) (tIfS (tOr (tTest (tOp (fun x y H Q => y = .non ∧ Q (.bl (decide (x = .non))) H) (tVar 1) (tC .non))) (tTest (tOp (rI0 fun i j => .bl (decide (i < j))) (tCall sp_size_of [] E0 (tCons (tVar 2) tNil)) (tCall sp_size_of [] E0 (tCons (tOp (rSub K) (tVar 1) (tC (.int 0))) tNil))))) (tAsg (tTupF (tCons (tVar 2) tNil)) (gName 1)) tNext))
    (tRet (tVar 1))))

def t_dict_source (K : PySem.W.Frag) (sp_source_of : Sp) : TS :=
  (tSeq (tAsg (tDc (iAny K (tVar 1)) (gName 3) tYes (tVar 3) (tOp (rSub K) (tVar 1) (tVar 3)) [3]) (gName 2))
    (tSeq (tFor (iAny K (tVar 0)) (gTup K 2 (gCons (gName 3) (gCons (gName 4) gNil))) (tSeq (tAsg (tCall sp_source_of [] E0 (tCons (tVar 4) (tCons (tDGet1 (tVar 1) (tVar 3)) tNil))) (gName 5))
    (tSeq (tIfS (tTest (tOp (fun x y H Q => y = .non ∧ Q (.bl (decide (x = .non))) H) (tVar 5) (tC .non))) (tRet (tC .non)) tNext)
    (tIfS (tTest (tOp (fun x y H Q => y = .non ∧ Q (.bl (decide (x = .non))) H) (tOp (rSub K) (tVar 5) (tC (.int 0))) (tC .non))) (tDrop (tDPop2 (tVar 2) (tVar 3) (tC .non))) (sDPut (tVar 2) (tVar 3) (tOp (rSub K) (tVar 5) (tC (.int 0))))))))
    (tRet (tVar 2))))

def t_source_of (K : PySem.W.Frag) (sp_smallest sp_dict_source : Sp) : TS :=
  (tSeq (tAsg (tVar 0) (gTup K 3 (gCons (gName 2) (gCons (gName 3) (gCons (gName 4) gNil)))))
    (tSeq (tAsg (tLst tNil) (gName 5))
    (tSeq (tIfS (tTest (tOp (rEqX K) (tVar 2) (tVar 1))) (tDrop (tBM K "list" rAppend (tVar 5) (tCons (tC .non) tNil))) tNext)
    (tSeq (tIfS (tAnd (tTest (tOp (rEqX K) (tVar 3) (tTupF (tCons (tC (.str "same")) tNil)))) (tAnd (tTest (tOp (fun x y H Q => y = .non ∧ Q (.bl (!decide (x = .non))) H) (tVar 1) (tC .non))) (tNot (tB (tCB (rIsi K) (tCons (tVar 1) (tCons (tC (.ty "dict")) tNil))))))) (tDrop (tBM K "list" rAppend (tVar 5) (tCons (tVar 1) tNil))) tNext)
    (tSeq (tIfS (tAnd (tTest (tOp (rEqX K) (tOp (rSub K) (tVar 3) (tC (.int 0))) (tC (.str "constant")))) (tTest (tOp (rEqX K) (tOp (rSub K) (tVar 3) (tC (.int 1))) (tVar 1)))) (tDrop (tBM K "list" rAppend (tVar 5) (tCons (tC (.int 0)) tNil))) tNext)
    (tSeq (tIfS (tAnd (tTest (tOp (rEqX K) (tOp (rSub K) (tVar 4) (tC (.int 0))) (tC (.str "constant")))) (tTest (tOp (rEqX K) (tOp (rSub K) (tVar 4) (tC (.int 1))) (tVar 1)))) (tDrop (tBM K "list" rAppend (tVar 5) (tCons tDNewK tNil))) tNext)
    (tSeq (tIfS (tAnd (tTest (tOp (rEqX K) (tOp (rSub K) (tVar 4) (tC (.int 0))) (tC (.str "entries")))) (tB (tCB (rIsi K) (tCons (tVar 1) (tCons (tC (.ty "dict")) tNil))))) (tSeq (tAsg (tCall sp_dict_source [] E0 (tCons (tOp (rSub K) (tVar 4) (tC (.int 1))) (tCons (tVar 1) tNil))) (gName 6))
    (tIfS (tTest (tOp (fun x y H Q => y = .non ∧ Q (.bl (!decide (x = .non))) H) (tVar 6) (tC .non))) (tDrop (tBM K "list" rAppend (tVar 5) (tCons (tVar 6) tNil))) tNext)) tNext)
    (tRet (tCall sp_smallest [] E0 (tCons (tVar 5) tNil))))))))))

def t_source (K : PySem.W.Frag) (sp_copied sp_source_of sp_form_of sp_need_state sp_need_patch : Sp) : TS :=
  (tSeq (tDrop (tCall sp_need_patch [] E0 (tCons (tVar 0) tNil)))
    (tSeq (tDrop (tCall sp_need_state [] E0 (tCons (tVar 1) tNil)))
    (tSeq (tAsg (tCall sp_source_of [] E0 (tCons (tCall sp_form_of [] E0 (tCons (tVar 0) tNil)) (tCons (tVar 1) tNil))) (gName 2))
    (tRet (tIf (tTest (tOp (fun x y H Q => y = .non ∧ Q (.bl (decide (x = .non))) H) (tVar 2) (tC .non))) (tC .non) (tTupF (tCons (tCall sp_copied [] E0 (tCons (tOp (rSub K) (tVar 2) (tC (.int 0))) tNil)) tNil)))))))

def t_fixed_of (K : PySem.W.Frag) (sp_smallest sp_fixed_of : Sp) : TS :=
  (tSeq (tAsg (tVar 0) (gTup K 3 (gCons (gName 1) (gCons (gName 2) (gCons (gName 3) gNil)))))
    (tSeq (tAsg (tLst tNil) (gName 4))
    (tSeq (tIfS (tTest (tOp (fun x y H Q => y = .non ∧ Q (.bl (decide (x = .non))) H) (tVar 1) (tC .non))) (tDrop (tBM K "list" rAppend (tVar 4) (tCons (tC .non) tNil))) tNext)
    (tSeq (tIfS (tTest (tOp (rEqX K) (tVar 2) (tTupF (tCons (tC (.str "same")) tNil)))) (tDrop (tBM K "list" rAppend (tVar 4) (tCons (tC (.int 0)) tNil))) (tIfS (tAnd (tTest (tOp (fun x y H Q => y = .non ∧ Q (.bl (!decide (x = .non))) H) (tOp (rSub K) (tVar 2) (tC (.int 1))) (tC .non))) (tNot (tB (tCB (rIsi K) (tCons (tOp (rSub K) (tVar 2) (tC (.int 1))) (tCons (tC (.ty "dict")) tNil)))))) (tDrop (tBM K "list" rAppend (tVar 4) (tCons (tOp (rSub K) (tVar 2) (tC (.int 1))) tNil))) tNext))
    (tSeq (tIfS (tTest (tOp (rEqX K) (tOp (rSub K) (tVar 3) (tC (.int 0))) (tC (.str "constant")))) (tIfS (tB (tCB (rIsi K) (tCons (tOp (rSub K) (tVar 3) (tC (.int 1))) (tCons (tC (.ty "dict")) tNil)))) (tDrop (tBM K "list" rAppend (tVar 4) (tCons (tOp (rSub K) (tVar 3) (tC (.int 1))) tNil))) tNext) (tSeq (tAsg (tLc (iAny K (tOp (rSub K) (tVar 3) (tC (.int 1)))) (gTup K 2 (gCons (gName 6) (gCons (gName 7) gNil))) tYes (tTupF (tCons (tVar 6) (tCons (tCall sp_fixed_of [] E0 (tCons (tVar 7) tNil)) tNil))) [6, 7]) (gName 5))
    (tIfS (tB (tCB (rAll K) (tCons (tLc (iAny K (tVar 5)) (gTup K 2 (gCons (gName 6) (gCons (gName 8) gNil))) tYes (tOp (fun x y H Q => y = .non ∧ Q (.bl (!decide (x = .non))) H) (tVar 8) (tC .non)) [6, 8]) tNil))) (tDrop (tBM K "list" rAppend (tVar 4) (tCons (tDc (iAny K (tVar 5)) (gTup K 2 (gCons (gName 6) (gCons (gName 8) gNil))) (tTest (tOp (fun x y H Q => y = .non ∧ Q (.bl (!decide (x = .non))) H) (tOp (rSub K) (tVar 8) (tC (.int 0))) (tC .non))) (tVar 6) (tOp (rSub K) (tVar 8) (tC (.int 0))) [6, 8]) tNil))) tNext)))
    (tRet (tCall sp_smallest [] E0 (tCons (tVar 4) tNil))))))))

def t_fixed (K : PySem.W.Frag) (sp_copied sp_fixed_of sp_form_of sp_need_patch : Sp) : TS :=
  (tSeq (tDrop (tCall sp_need_patch [] E0 (tCons (tVar 0) tNil)))
    (tSeq (tAsg (tCall sp_fixed_of [] E0 (tCons (tCall sp_form_of [] E0 (tCons (tVar 0) tNil)) tNil)) (gName 1))
    (tRet (tIf (tTest (tOp (fun x y H Q => y = .non ∧ Q (.bl (decide (x = .non))) H) (tVar 1) (tC .non))) (tC .non) (tTupF (tCons (tCall sp_copied [] E0 (tCons (tOp (rSub K) (tVar 1) (tC (.int 0))) tNil)) tNil))))))
end Mp

set_option Elab.async false
set_option linter.all false
set_option maxRecDepth 100000
set_option maxHeartbeats 4000000
namespace Mp
open PySem L2
local macro_rules | `(tactic| walk_at "s") => `(tactic| first
  | with_reducible refine ds_seq ?_
  | with_reducible refine ds_ret ?_
  | with_reducible refine ds_if ?_
  | with_reducible refine ds_asg ?_
  | with_reducible refine ds_drop ?_
  | with_reducible refine ds_next ?_
  | with_reducible refine ds_retN ?_
  | with_reducible refine then_nx ?_
  | with_reducible refine then_rt ?_
  | with_reducible refine gives_rt ?_
  | with_reducible refine gives_nx
  | with_reducible refine dt_not ?_
  | with_reducible refine dt_test ?_
  | with_reducible refine dt_B ?_
  | with_reducible refine dt_and ?_
  | with_reducible refine dt_or ?_
  | with_reducible refine dt_yes ?_
  | with_reducible refine ex_bl ?_
  | with_reducible refine ex_ii ?_
  | ((with_reducible show DE _ (tVar _) _ _); refine de_var rfl ?_)
  | with_reducible refine de_int ?_
  | with_reducible refine de_str ?_
  | with_reducible refine de_bl ?_
  | with_reducible refine de_non ?_
  | with_reducible refine de_sub ?_
  | with_reducible refine de_eq ?_
  | with_reducible refine de_ne ?_
  | with_reducible refine de_in ?_
  | with_reducible refine de_add ?_
  | with_reducible refine de_subI ?_
  | with_reducible refine de_lt ?_
  | with_reducible refine de_le ?_
  | with_reducible refine de_gt ?_
  | with_reducible refine de_ge ?_
  | with_reducible refine de_neg ?_
  | with_reducible refine de_isN ?_
  | with_reducible refine de_notN ?_
  | with_reducible refine de_chainII ?_
  | with_reducible refine de_len ?_
  | with_reducible refine de_isi .str rfl ?_
  | with_reducible refine de_isi .int rfl ?_
  | with_reducible refine de_isi .bool rfl ?_
  | with_reducible refine de_isi .dict rfl ?_
  | with_reducible refine de_isi .tuple rfl ?_
  | with_reducible refine de_isi .list rfl ?_
  | with_reducible refine de_all ?_
  | with_reducible refine de_sum ?_
  | with_reducible refine de_if ?_
  | with_reducible refine de_andV ?_
  | with_reducible refine de_orV ?_
  | with_reducible refine de_notV ?_
  | with_reducible refine de_tuple ?_
  | with_reducible refine de_get1 ?_
  | with_reducible refine de_get2 ?_
  | with_reducible refine de_tup0 ?_
  | with_reducible refine de_tup1 ?_
  | with_reducible refine de_tup2 ?_
  | with_reducible refine de_tup3 ?_
  | with_reducible refine de_tup4 ?_
  | with_reducible refine de_tup ?_
  | with_reducible refine de_isB ?_
  | with_reducible refine de_notB ?_
  | ((with_reducible show DE _ (tCall (SpT _ _) _ _ _) _ _); refine de_ct rfl rfl ?_)
  | with_reducible refine de_call ?_
  | with_reducible refine da_nil ?_
  | with_reducible refine da_cons ?_)

/-! ### smallest, source -/
def optD : Option D → D
  | none => .non
  | some s => .tup [s]
def smStep (b : Option D) (s : D) : Option D := match b with
  | none => some s
  | some t => if sizeD s < sizeD t then some s else some t
def smallestD (xs : List D) : Option D := xs.foldl smStep none
def opts1 (no : D) (sc : Option D) (t : D) : List D := (if D.eqv no t then [.non] else []) ++ (match sc with
  | none => if !t.isN && !t.isA .dict then [t] else []
  | some e => if D.eqv e t then [.int 0] else [])
mutual
def srcOf : Fm → D → Option D
  | .con no sc d, t => smallestD (opts1 no sc t ++ (if D.eqv d t then [.dic []] else []))
  | .ent no sc ps, t => smallestD (opts1 no sc t ++ (match t with
    | .dic ks => (match srcEs ps ks ks with
      | some r => [.dic r]
      | none => [])
    | _ => []))
def srcEs : List (Str × Fm) → List (Key × D) → List (Key × D) → Option (List (Key × D))
  | [], _, acc => some acc
  | (k, f) :: r, ks, acc => match srcOf f ((look ks (.inr k)).getD .non) with
    | none => none
    | some s => srcEs r ks (putV acc k s)
end
section
variable {K : PySem.W.Frag} {A : List Str}
theorem sm_mem : ∀ {xs : List D} {b : Option D} {s : D}, xs.foldl smStep b = some s → s ∈ xs ∨ b = some s
  | [], b, s, h => .inr h
  | x :: xs, b, s, h => by
    rcases sm_mem (xs := xs) (b := smStep b x) h with h | h
    · exact .inl (List.mem_cons_of_mem _ h)
    · unfold smStep at h
      split at h
      · cases h; exact .inl List.mem_cons_self
      · split at h
        · cases h; exact .inl List.mem_cons_self
        · exact .inr h
theorem smallest_mem {xs : List D} {s : D} (h : smallestD xs = some s) : s ∈ xs := (sm_mem h).resolve_right fun e => by cases e
theorem sm_le : ∀ {xs : List D} {b : Option D}, (∀ t, b = some t → ∃ s, xs.foldl smStep b = some s ∧ sizeD s ≤ sizeD t) ∧ ∀ t ∈ xs, ∃ s, xs.foldl smStep b = some s ∧ sizeD s ≤ sizeD t
  | [], b => ⟨fun t e => ⟨t, e, Int.le_refl _⟩, fun t h => by cases h⟩
  | x :: xs, b => by
    obtain ⟨ih1, ih2⟩ := sm_le (xs := xs) (b := smStep b x)
    have key : ∃ s, smStep b x = some s ∧ sizeD s ≤ sizeD x ∧ ∀ t, b = some t → sizeD s ≤ sizeD t := by
      unfold smStep
      cases b with
      | none => exact ⟨x, rfl, Int.le_refl _, fun t e => by cases e⟩
      | some t =>
        simp only
        split
        · exact ⟨x, rfl, Int.le_refl _, fun t' e => by cases e; omega⟩
        · exact ⟨t, rfl, by omega, fun t' e => by cases e; omega⟩
    obtain ⟨s, e, h1, h2⟩ := key
    obtain ⟨s', e', h'⟩ := ih1 s e
    refine ⟨fun t ht => ⟨s', e', Int.le_trans h' (h2 t ht)⟩, fun t ht => ?_⟩
    rcases List.mem_cons.mp ht with z | ht
    · subst z; exact ⟨s', e', Int.le_trans h' h1⟩
    · exact ih2 t ht
theorem smallest_le {xs : List D} {t : D} (h : t ∈ xs) : ∃ s, smallestD xs = some s ∧ sizeD s ≤ sizeD t := (sm_le (xs := xs) (b := none)).2 t h
theorem smallest_none {xs : List D} (h : smallestD xs = none) : xs = [] := by
  cases xs with
  | nil => rfl
  | cons x xs => obtain ⟨s, e, _⟩ := smallest_le (xs := x :: xs) List.mem_cons_self; rw [h] at e; cases e

def R_smallest (A : List Str) (N : Nat) (ds : List D) (d : D) : Prop := ∃ xs, ds = [.lst xs] ∧ xs.length ≤ 1000 ∧ (∀ x ∈ xs, St A N x) ∧ d = optD (smallestD xs)
theorem p_smallest (N : Nat) (ds : List D) (d : D) (h : R_smallest A N ds d) : DS ⟨K, none⟩ (t_smallest K (SpP K (R_size_of A (N + 1)))) (slots ["options", "best", "state"] ds) (Gives d) := by
  obtain ⟨xs, rfl, hl, hx, rfl⟩ := h
  show DS _ _ [.dat (.lst xs), .un, .un] _
  unfold t_smallest
  repeat walk_at "s"
  refine ds_for (js := [2]) (di_any ?_)
  repeat walk_at "s"
  refine ⟨xs, rfl, fun i δ => ∃ z, δ = [.dat (.lst xs), .dat (optD (smallestD (xs.take i))), z], ⟨.un, rfl⟩, fun i s δ' hd w => ?_, fun δ' w => ?_⟩
  · obtain ⟨z, rfl⟩ := w
    have hs := hx s (List.mem_of_getElem? hd)
    have e1 : smallestD (xs.take (i + 1)) = smStep (smallestD (xs.take i)) s := by
      unfold smallestD; rw [List.take_succ, hd, List.foldl_append]; rfl
    have hb : ∀ t, smallestD (xs.take i) = some t → St A N t := fun t e => hx t (List.mem_of_mem_take (smallest_mem e))
    refine dg_name ?_
    simp only [e1]
    cases q : smallestD (xs.take i) with
    | none =>
      repeat walk_at "s"
      refine it_t rfl (it_t rfl ?_)
      repeat walk_at "s"
      exact ⟨_, rfl⟩
    | some b =>
      repeat walk_at "s"
      refine it_f rfl ?_
      repeat walk_at "s"
      refine ⟨[s], _, rfl, ⟨s, rfl, hs, rfl⟩, ?_⟩
      repeat walk_at "s"
      refine ⟨b, rfl, ?_⟩
      repeat walk_at "s"
      refine ⟨[b], _, rfl, ⟨b, rfl, hb b q, rfl⟩, _, _, rfl, rfl, _, rfl, ?_⟩
      unfold smStep
      simp only
      refine it_c (fun h1 => ?_) fun h1 => ?_
      · rw [if_pos (of_decide_eq_true h1)]
        repeat walk_at "s"
        exact ⟨_, rfl⟩
      · rw [if_neg (of_decide_eq_false h1)]
        repeat walk_at "s"
        exact ⟨_, rfl⟩
  · obtain ⟨z, rfl⟩ := w
    rw [List.take_length]
    repeat walk_at "s"
    rfl
theorem srcEs_snoc : ∀ (ps : List (Str × Fm)) (k : Str) (f : Fm) (ks acc : List (Key × D)), srcEs (ps ++ [(k, f)]) ks acc = match srcEs ps ks acc with
    | none => none
    | some r => (match srcOf f ((look ks (.inr k)).getD .non) with
      | none => none
      | some s => some (putV r k s))
  | [], k, f, ks, acc => by
    rw [List.nil_append, srcEs, srcEs]
    simp only
    cases srcOf f ((look ks (.inr k)).getD .non) with
    | none => rfl
    | some s => simp only; rw [srcEs]
  | (j, g) :: r, k, f, ks, acc => by
    rw [List.cons_append, srcEs, srcEs]
    cases srcOf g ((look ks (.inr j)).getD .non) with
    | none => rfl
    | some s => simp only; exact srcEs_snoc r k f ks _
theorem St.scalar {n m : Nat} {t : D} (h : St A n t) (h1 : t.isN = false) (h2 : t.isA .dict = false) : St A m t := by
  rcases h with rfl | h
  · cases h1
  · cases h with
    | int _ h => exact .inr (.int _ h)
    | str _ h => exact .inr (.str _ h)
    | dic _ _ _ => cases h2
theorem opts1_ok {n : Nat} {no : D} {sc : Option D} {t s : D} (ht : St A n t) (h : s ∈ opts1 no sc t) : St A (n + 1) s := by
  unfold opts1 at h
  rcases List.mem_append.mp h with h | h
  · split at h
    · rw [List.mem_singleton.mp h]; exact .inl rfl
    · cases h
  · cases sc with
    | none =>
      simp only at h
      split at h
      · rw [List.mem_singleton.mp h]; exact ht.mono (by omega)
      · cases h
    | some e =>
      simp only at h
      split at h
      · rw [List.mem_singleton.mp h]; exact .inr (.int _ (by decide))
      · cases h
mutual
theorem src_ok : ∀ (f : Fm) {n : Nat} {t s : D}, FmOk A n f → St A n t → srcOf f t = some s → St A (n + 1) s
  | .con no sc d, n, t, s, hf, ht, h => by
    rw [srcOf] at h
    rcases List.mem_append.mp (smallest_mem h) with h | h
    · exact opts1_ok ht h
    · split at h
      · rw [List.mem_singleton.mp h]; exact (KsOk.nil (n := n)).st
      · cases h
  | .ent no sc ps, n, t, s, hf, ht, h => by
    rw [srcOf.eq_def] at h
    simp only at h
    rcases List.mem_append.mp (smallest_mem h) with h | h
    · exact opts1_ok ht h
    · cases t with
      | dic ks =>
        obtain ⟨m, rfl, hk⟩ := KsOk.of ht
        simp only at h
        cases q : srcEs ps ks ks with
        | none => rw [q] at h; cases h
        | some r =>
          rw [q] at h
          rw [List.mem_singleton.mp h]
          exact (srcEs_ok ps hf.ps hk (acc := ks) ⟨hk.nd, hk.mem, fun p hp => (hk.ok p hp).mono (by omega)⟩ q).st
      | _ => cases h
theorem srcEs_ok : ∀ (ps : List (Str × Fm)) {n : Nat} {ks acc r : List (Key × D)}, PsOk A n ps → KsOk A n ks → KsOk A (n + 1) acc → srcEs ps ks acc = some r → KsOk A (n + 1) r
  | [], n, ks, acc, r, _, _, h, e => by rw [srcEs] at e; cases e; exact h
  | (k, f) :: ps, n, ks, acc, r, hp, hk, h, e => by
    rw [srcEs] at e
    cases q : srcOf f ((look ks (.inr k)).getD .non) with
    | none => rw [q] at e; cases e
    | some s =>
      rw [q] at e
      have hs := src_ok f (hp.ok (k, f) List.mem_cons_self) (hk.get (.inr k)) q
      exact srcEs_ok ps hp.tail hk (h.putV (hp.mem (k, f) List.mem_cons_self) hs) e
end
def R_source_of (A : List Str) : Nat → List D → D → Prop
  | 0, _, _ => False
  | n + 1, ds, d => ∃ f t, ds = [Fm.toD f, t] ∧ FmOk A n f ∧ St A n t ∧ d = optD (srcOf f t)
def dicO : Option (List (Key × D)) → D
  | none => .non
  | some r => .dic r
def R_dict_source (A : List Str) : Nat → List D → D → Prop
  | 0, _, _ => False
  | n + 1, ds, d => ∃ ps ks, ds = [.tup (psD ps), .dic ks] ∧ PsOk A n ps ∧ KsOk A n ks ∧ d = dicO (srcEs ps ks ks)
theorem srcEs_take {ps : List (Str × Fm)} {ks acc : List (Key × D)} {r : List (Key × D)} : ∀ (i : Nat), srcEs (ps.take i) ks acc = none → srcEs ps ks acc = none := fun i => by
  induction ps generalizing acc i with
  | nil => intro h; rw [List.take_nil] at h; exact h
  | cons p ps ih =>
    obtain ⟨k, f⟩ := p
    cases i with
    | zero => intro h; rw [List.take_zero, srcEs] at h; cases h
    | succ i =>
      intro h
      rw [List.take_succ_cons, srcEs] at h
      rw [srcEs]
      cases q : srcOf f ((look ks (.inr k)).getD .non) with
      | none => rfl
      | some s => rw [q] at h; exact ih i h
theorem p_dict_source (hA : Alp A) (n : Nat) (ds : List D) (d : D) (h : R_dict_source A (n + 1) ds d) : DS ⟨K, none⟩ (t_dict_source K (SpP K (R_source_of A (n + 1)))) (slots ["pairs", "target", "result", "key", "form", "found"] ds) (Gives d) := by
  obtain ⟨ps, ks, rfl, hp, hk, rfl⟩ := h
  show DS _ _ [.dat (.tup (psD ps)), .dat (.dic ks), .un, .un, .un, .un] _
  unfold t_dict_source
  have hl := Nat.le_trans hk.len hA.few
  have hpl := Nat.le_trans hp.len hA.few
  have hk1 : KsOk A (n + 1) ks := ⟨hk.nd, hk.mem, fun p hp => (hk.ok p hp).mono (by omega)⟩
  refine ds_seq (ds_asgN (dn_dcK (fun k d => d) ?_))
  repeat walk_at "s"
  refine ⟨ks, rfl, hk.nd, by omega, fun p hp => let ⟨x, _, e⟩ := hk.mem p hp; ⟨x, e⟩, fun x d hx => ?_, ?_⟩
  · repeat walk_at "s"
    refine ⟨rfl, ?_⟩
    repeat walk_at "s"
    exact ⟨d, sub_key hk.nd hx, rfl⟩
  have e0 : (ks.map fun p => (p.1, p.2)) = ks := by simp
  rw [e0]
  refine then_nx (ds_seq (ds_for (js := [3, 4]) (di_any ?_)))
  repeat walk_at "s"
  refine ⟨psD ps, rfl, fun i δ => ∃ r z1 z2 z3, srcEs (ps.take i) ks ks = some r ∧ δ = [.dat (.tup (psD ps)), .dat (.dic ks), .own (.dic r), z1, z2, z3], ⟨ks, .un, .un, .un, ?_, rfl⟩, fun i d δ' hd w => ?_, fun δ' w => ?_⟩
  · rw [List.take_zero, srcEs]
  · obtain ⟨r, z1, z2, z3, er, rfl⟩ := w
    rw [psD_map, List.getElem?_map] at hd
    cases q : ps[i]? with
    | none => rw [q] at hd; cases hd
    | some p =>
      rw [q] at hd; cases hd
      obtain ⟨k, f⟩ := p
      have hm := List.mem_of_getElem? q
      have hti : PsOk A n (ps.take i) := ⟨List.Nodup.sublist ((List.take_sublist i ps).map _) hp.nd, fun p h => hp.mem p (List.mem_of_mem_take h), fun p h => hp.ok p (List.mem_of_mem_take h)⟩
      have hacc := srcEs_ok _ hti hk hk1 er
      have e1 : srcEs (ps.take (i + 1)) ks ks = (match srcOf f ((look ks (.inr k)).getD .non) with | none => none | some s => some (putV r k s)) := by
        rw [List.take_succ, q]
        have := srcEs_snoc (ps.take i) k f ks ks
        rw [er] at this
        exact this
      refine dg_pair ?_
      refine ds_seq (ds_asg ?_)
      repeat walk_at "s"
      refine ⟨ks, rfl, ?_⟩
      repeat walk_at "s"
      refine ⟨k, rfl, ?_⟩
      repeat walk_at "s"
      have hs := hk.get (.inr k)
      refine ⟨[f.toD, (look ks (.inr k)).getD .non], _, rfl, ⟨f, _, rfl, hp.ok _ hm, hs, rfl⟩, ?_⟩
      repeat walk_at "s"
      cases qs : srcOf f ((look ks (.inr k)).getD .non) with
      | none =>
        refine it_t rfl ?_
        rw [qs] at e1
        have := srcEs_take (r := []) (i + 1) e1
        repeat walk_at "s"
        rw [this]; rfl
      | some v =>
        rw [qs] at e1
        refine it_f rfl ?_
        repeat walk_at "s"
        refine ⟨v, rfl, ?_⟩
        cases v with
        | non =>
          repeat walk_at "s"
          refine it_t rfl (ds_dpop2 rfl ?_)
          repeat walk_at "s"
          exact ⟨k, rfl, _, _, _, _, e1, rfl⟩
        | _ =>
          repeat walk_at "s"
          refine it_f rfl (ds_dput rfl (Nat.le_trans (Nat.le_trans hacc.len hA.few) (by omega)) ?_)
          repeat walk_at "s"
          refine ⟨_, rfl, ?_⟩
          repeat walk_at "s"
          exact ⟨k, rfl, _, _, _, _, e1, rfl⟩
  · obtain ⟨r, z1, z2, z3, er, rfl⟩ := w
    rw [psD_map, List.length_map, List.take_length] at er
    refine then_nx (ds_pub 2 rfl ?_)
    repeat walk_at "s"
    rw [er]; rfl
end
end Mp

set_option Elab.async false
set_option linter.all false
set_option maxRecDepth 100000
set_option maxHeartbeats 4000000
namespace Mp
open PySem L2
local macro_rules | `(tactic| walk_at "s") => `(tactic| first
  | with_reducible refine ds_seq ?_
  | with_reducible refine ds_ret ?_
  | with_reducible refine ds_if ?_
  | with_reducible refine ds_asg ?_
  | with_reducible refine ds_drop ?_
  | with_reducible refine ds_next ?_
  | with_reducible refine ds_retN ?_
  | with_reducible refine then_nx ?_
  | with_reducible refine then_rt ?_
  | with_reducible refine gives_rt ?_
  | with_reducible refine gives_nx
  | with_reducible refine dt_not ?_
  | with_reducible refine dt_test ?_
  | with_reducible refine dt_B ?_
  | with_reducible refine dt_and ?_
  | with_reducible refine dt_or ?_
  | with_reducible refine dt_yes ?_
  | with_reducible refine ex_bl ?_
  | with_reducible refine ex_ii ?_
  | ((with_reducible show DE _ (tVar _) _ _); refine de_var rfl ?_)
  | with_reducible refine de_int ?_
  | with_reducible refine de_str ?_
  | with_reducible refine de_bl ?_
  | with_reducible refine de_non ?_
  | with_reducible refine de_sub ?_
  | with_reducible refine de_eq ?_
  | with_reducible refine de_ne ?_
  | with_reducible refine de_in ?_
  | with_reducible refine de_add ?_
  | with_reducible refine de_subI ?_
  | with_reducible refine de_lt ?_
  | with_reducible refine de_le ?_
  | with_reducible refine de_gt ?_
  | with_reducible refine de_ge ?_
  | with_reducible refine de_neg ?_
  | with_reducible refine de_isN ?_
  | with_reducible refine de_notN ?_
  | with_reducible refine de_chainII ?_
  | with_reducible refine de_len ?_
  | with_reducible refine de_isi .str rfl ?_
  | with_reducible refine de_isi .int rfl ?_
  | with_reducible refine de_isi .bool rfl ?_
  | with_reducible refine de_isi .dict rfl ?_
  | with_reducible refine de_isi .tuple rfl ?_
  | with_reducible refine de_isi .list rfl ?_
  | with_reducible refine de_all ?_
  | with_reducible refine de_sum ?_
  | with_reducible refine de_if ?_
  | with_reducible refine de_andV ?_
  | with_reducible refine de_orV ?_
  | with_reducible refine de_notV ?_
  | with_reducible refine de_tuple ?_
  | with_reducible refine de_get1 ?_
  | with_reducible refine de_get2 ?_
  | with_reducible refine de_tup0 ?_
  | with_reducible refine de_tup1 ?_
  | with_reducible refine de_tup2 ?_
  | with_reducible refine de_tup3 ?_
  | with_reducible refine de_tup4 ?_
  | with_reducible refine de_tup ?_
  | with_reducible refine de_isB ?_
  | with_reducible refine de_notB ?_
  | ((with_reducible show DE _ (tCall (SpT _ _) _ _ _) _ _); refine de_ct rfl rfl ?_)
  | with_reducible refine de_call ?_
  | with_reducible refine da_nil ?_
  | with_reducible refine da_cons ?_)

section
variable {K : PySem.W.Frag} {A : List Str}
theorem St.of_scalar {n : Nat} {t : D} (h : St A n t) : (!t.isN && !t.isA .dict) = true ∨ t = .non ∨ ∃ ks, t = .dic ks := by
  rcases h with rfl | h
  · exact .inr (.inl rfl)
  · cases h with
    | int _ _ => exact .inl rfl
    | str _ _ => exact .inl rfl
    | dic _ _ _ => exact .inr (.inr ⟨_, rfl⟩)
/-- append behind a test -/
theorem ds_appIf {c : Cn} {δ : List Sl} {i : Nat} {xs : List D} {b : Bool} {v : D} {tx : TE} {R : Out → Prop} (hi : δ[i]? = some (.own (.lst xs))) (hl : xs.length ≤ 1000) (ht : b = true → DE c tx δ fun d => d = v)
    (h : R (.nx (δ.set i (.own (.lst (xs ++ (if b = true then [v] else []))))))) : if b = true then DS c (tDrop (tBM c.K "list" rAppend (tVar i) (tCons tx tNil))) δ R else DS c tNext δ R := by
  cases b with
  | true =>
    rw [if_pos rfl] at h ⊢
    exact ds_append hi hl ((ht rfl).imp fun d e => by rw [e]; exact h)
  | false =>
    rw [if_neg (by decide)] at h ⊢
    rw [List.append_nil] at h
    refine ds_next ?_
    have e : δ.set i (.own (.lst xs)) = δ := by
      refine List.ext_getElem? fun j => ?_
      by_cases hj : i = j
      · subst hj; rw [List.getElem?_set_self (List.getElem?_eq_some_iff.mp hi).1, hi]
      · rw [List.getElem?_set_ne hj]
    rw [e] at h; exact h
theorem p_source_of (hA : Alp A) (n : Nat) (hn : n ≤ 40) (ds : List D) (d : D) (h : R_source_of A (n + 1) ds d) :
    DS ⟨K, none⟩ (t_source_of K (SpP K (R_smallest A (n + 1))) (SpP K (R_dict_source A n))) (slots ["form", "target", "nothing", "scalar", "entries", "options", "found"] ds) (Gives d) := by
  obtain ⟨f, t, rfl, hf, ht, rfl⟩ := h
  show DS _ _ [.dat f.toD, .dat t, .un, .un, .un, .un, .un] _
  unfold t_source_of
  rw [toD_eq]
  refine ds_seq (ds_asgG (js := [2, 3, 4]) ?_)
  repeat walk_at "s"
  refine dg_three (then_nx ?_)
  refine ds_seq (ds_asgN (dn_lst (da_nil ⟨[], rfl, by simp, then_nx ?_⟩)))
  refine ds_seq (ds_if ?_)
  repeat walk_at "s"
  refine ⟨Nat.le_trans hf.hno.deep (by omega), _, rfl, ?_⟩
  refine ds_appIf rfl (by simp) (v := .non) (fun _ => de_non rfl) (then_nx ?_)
  -- the scalar
  have sc2 : ∀ (tt : TS) (xs : List D), xs.length ≤ 3 → DS ⟨K, none⟩ tt [.dat (.tup [f.no, scD f.sc, entD f]), .dat t, .dat f.no, .dat (scD f.sc), .dat (entD f), .own (.lst (xs ++ (match f.sc with | none => if !t.isN && !t.isA .dict then [t] else [] | some e => if D.eqv e t then [.int 0] else []))), .un] (Gives (optD (srcOf f t))) →
      DS ⟨K, none⟩ (tSeq (tIfS (tAnd (tTest (tOp (rEqX K) (tVar 3) (tTupF (tCons (tC (.str "same")) tNil)))) (tAnd (tTest (tOp (fun x y H Q => y = .non ∧ Q (.bl (!decide (x = .non))) H) (tVar 1) (tC .non))) (tNot (tB (tCB (rIsi K) (tCons (tVar 1) (tCons (tC (.ty "dict")) tNil))))))) (tDrop (tBM K "list" rAppend (tVar 5) (tCons (tVar 1) tNil))) tNext)
        (tSeq (tIfS (tAnd (tTest (tOp (rEqX K) (tOp (rSub K) (tVar 3) (tC (.int 0))) (tC (.str "constant")))) (tTest (tOp (rEqX K) (tOp (rSub K) (tVar 3) (tC (.int 1))) (tVar 1)))) (tDrop (tBM K "list" rAppend (tVar 5) (tCons (tC (.int 0)) tNil))) tNext) tt))
        [.dat (.tup [f.no, scD f.sc, entD f]), .dat t, .dat f.no, .dat (scD f.sc), .dat (entD f), .own (.lst xs), .un] (Gives (optD (srcOf f t))) := fun tt xs hxl h => by
    have hsd := scD_deep hf.hsc
    refine ds_seq (ds_if ?_)
    repeat walk_at "s"
    refine ⟨by omega, _, rfl, ?_⟩
    rw [scD_eqv]
    cases q : f.sc with
    | none =>
      rw [q] at h
      refine it_t rfl ?_
      have nx : ∀ ys : List D, DS ⟨K, none⟩ tt [.dat (.tup [f.no, scD none, entD f]), .dat t, .dat f.no, .dat (scD none), .dat (entD f), .own (.lst ys), .un] (Gives (optD (srcOf f t))) → DS ⟨K, none⟩ (tSeq (tIfS (tAnd (tTest (tOp (rEqX K) (tOp (rSub K) (tVar 3) (tC (.int 0))) (tC (.str "constant")))) (tTest (tOp (rEqX K) (tOp (rSub K) (tVar 3) (tC (.int 1))) (tVar 1)))) (tDrop (tBM K "list" rAppend (tVar 5) (tCons (tC (.int 0)) tNil))) tNext) tt) [.dat (.tup [f.no, scD none, entD f]), .dat t, .dat f.no, .dat (scD none), .dat (entD f), .own (.lst ys), .un] (Gives (optD (srcOf f t))) := fun ys h => by
        refine ds_seq (ds_if ?_)
        repeat walk_at "s"
        refine ⟨.str "same", rfl, ?_⟩
        repeat walk_at "s"
        refine ⟨Nat.zero_le _, _, rfl, it_f (eqs_f (by decide)) (it_f rfl (ds_next (then_nx h)))⟩
      rcases ht.of_scalar with e | e | ⟨ks, e⟩
      · rw [if_pos e] at h
        simp only [Bool.and_eq_true] at e
        repeat walk_at "s"
        refine it_t e.1 ?_
        repeat walk_at "s"
        exact it_t e.2 (ds_append rfl (by omega) (de_var rfl (then_nx (nx _ h))))
      · subst e
        repeat walk_at "s"
        refine it_f rfl (it_f rfl (ds_next (then_nx (nx _ ?_))))
        rw [if_neg (by decide), List.append_nil] at h
        exact h
      · subst e
        repeat walk_at "s"
        refine it_t rfl ?_
        repeat walk_at "s"
        refine it_f rfl (ds_next (then_nx (nx _ ?_)))
        have e0 : (!(D.dic ks).isN && !(D.dic ks).isA .dict) = false := rfl
        rw [e0, if_neg (by decide), List.append_nil] at h
        exact h
    | some e =>
      rw [q] at h
      have he := hf.hsc e q
      refine it_f rfl (it_f rfl (ds_next (then_nx ?_)))
      refine ds_seq (ds_if ?_)
      repeat walk_at "s"
      refine ⟨.str "constant", rfl, ?_⟩
      repeat walk_at "s"
      refine ⟨Nat.zero_le _, _, rfl, it_t (eqs_t _) ?_⟩
      repeat walk_at "s"
      refine ⟨e, rfl, ?_⟩
      repeat walk_at "s"
      refine ⟨Nat.le_trans he.deep (by omega), _, rfl, ?_⟩
      exact ds_appIf rfl (by omega) (v := .int 0) (fun _ => de_int rfl) (then_nx h)
  refine sc2 _ _ (by split <;> simp) ?_
  have elist : ([] : List D) ++ (if D.eqv f.no t then [D.non] else []) ++ (match f.sc with | none => if !t.isN && !t.isA .dict then [t] else [] | some e => if D.eqv e t then [.int 0] else []) = opts1 f.no f.sc t := by
    unfold opts1; rw [List.nil_append] <;> cases f.sc <;> rfl
  rw [elist]
  have o3 : (opts1 f.no f.sc t).length ≤ 3 := by
    unfold opts1
    cases f.sc <;> (simp only; split <;> split <;> simp)
  have fin : ∀ (xs : List D) (z : Sl), xs.length ≤ 1000 → (∀ x ∈ xs, St A (n + 1) x) → srcOf f t = smallestD xs → DS ⟨K, none⟩ (tRet (tCall (SpP K (R_smallest A (n + 1))) [] E0 (tCons (tVar 5) tNil))) [.dat (.tup [f.no, scD f.sc, entD f]), .dat t, .dat f.no, .dat (scD f.sc), .dat (entD f), .own (.lst xs), z] (Gives (optD (srcOf f t))) := fun xs z hl hx e => by
    refine ds_pub 5 rfl ?_
    repeat walk_at "s"
    exact ⟨[.lst xs], _, rfl, ⟨xs, rfl, hl, hx, rfl⟩, by rw [e]; rfl⟩
  cases f with
  | con no sc d =>
    refine ds_seq (ds_if ?_)
    repeat walk_at "s"
    refine ⟨.str "constant", rfl, ?_⟩
    repeat walk_at "s"
    refine ⟨Nat.zero_le _, _, rfl, it_t (eqs_t _) ?_⟩
    repeat walk_at "s"
    refine ⟨d, rfl, ?_⟩
    repeat walk_at "s"
    refine ⟨Nat.le_trans hf.hcon.deep (by omega), _, rfl, ?_⟩
    refine ds_appIf rfl (by omega) (v := .dic []) (fun _ => (dn_dnew (P := fun x => x = .dic []) rfl).de) (then_nx ?_)
    refine ds_seq (ds_if ?_)
    repeat walk_at "s"
    refine ⟨.str "constant", rfl, ?_⟩
    repeat walk_at "s"
    refine ⟨Nat.zero_le _, _, rfl, it_f (eqs_f (by decide)) (it_f rfl (ds_next (then_nx ?_)))⟩
    refine fin _ _ ?_ (fun x hx => ?_) (by rw [srcOf]; rfl)
    · rw [List.length_append]
      have : (if D.eqv d t = true then [D.dic []] else []).length ≤ 1 := by split <;> simp
      omega
    · rcases List.mem_append.mp hx with h | h
      · exact opts1_ok ht h
      · split at h
        · rw [List.mem_singleton.mp h]; exact (KsOk.nil (n := n)).st
        · cases h
  | ent no sc ps =>
    refine ds_seq (ds_if ?_)
    repeat walk_at "s"
    refine ⟨.str "entries", rfl, ?_⟩
    repeat walk_at "s"
    refine ⟨Nat.zero_le _, _, rfl, it_f (eqs_f (by decide)) (it_f rfl (ds_next (then_nx ?_)))⟩
    refine ds_seq (ds_if ?_)
    repeat walk_at "s"
    refine ⟨.str "entries", rfl, ?_⟩
    repeat walk_at "s"
    refine ⟨Nat.zero_le _, _, rfl, it_t (eqs_t _) ?_⟩
    repeat walk_at "s"
    have nodic : t.isA .dict = false → srcOf (.ent no sc ps) t = smallestD (opts1 no sc t) := fun h => by
      rw [srcOf.eq_def]; simp only
      cases t <;> first | (cases h; done) | rw [List.append_nil]
    rcases ht.of_scalar with e | e | ⟨ks, e⟩
    · have e2 : t.isA .dict = false := by simp only [Bool.and_eq_true] at e; simpa using e.2
      refine it_f e2 (ds_next (then_nx ?_))
      exact fin _ _ (by omega) (fun x hx => opts1_ok ht hx) (nodic e2)
    · subst e
      refine it_f rfl (ds_next (then_nx ?_))
      exact fin _ _ (by omega) (fun x hx => opts1_ok ht hx) (nodic rfl)
    · subst e
      obtain ⟨m, rfl, hk⟩ := KsOk.of ht
      refine it_t rfl ?_
      repeat walk_at "s"
      refine ⟨.tup (psD ps), rfl, ?_⟩
      repeat walk_at "s"
      refine ⟨[.tup (psD ps), .dic ks], _, rfl, ⟨ps, ks, rfl, hf.ps, hk, rfl⟩, ?_⟩
      have es : srcOf (.ent no sc ps) (.dic ks) = smallestD (opts1 no sc (.dic ks) ++ (match srcEs ps ks ks with | some r => [.dic r] | none => [])) := by rw [srcOf.eq_def] <;> rfl
      cases q : srcEs ps ks ks with
      | none =>
        rw [q] at es
        repeat walk_at "s"
        refine it_f rfl (ds_next (then_nx ?_))
        exact fin _ _ (by omega) (fun x hx => opts1_ok ht hx) (by rw [es, List.append_nil]; rfl)
      | some r =>
        rw [q] at es
        repeat walk_at "s"
        refine it_t rfl (ds_append rfl (by omega) (de_var rfl (then_nx ?_)))
        refine fin _ _ (by rw [List.length_append]; simp; omega) (fun x hx => ?_) es
        rcases List.mem_append.mp hx with h | h
        · exact opts1_ok ht h
        · rw [List.mem_singleton.mp h]
          exact (srcEs_ok ps hf.ps hk (acc := ks) ⟨hk.nd, hk.mem, fun p hp => (hk.ok p hp).mono (by omega)⟩ q).st
end
end Mp

set_option Elab.async false
set_option linter.all false
set_option maxRecDepth 100000
set_option maxHeartbeats 4000000
namespace Mp
open PySem L2
local macro_rules | `(tactic| walk_at "s") => `(tactic| first
  | with_reducible refine ds_seq ?_
  | with_reducible refine ds_ret ?_
  | with_reducible refine ds_if ?_
  | with_reducible refine ds_asg ?_
  | with_reducible refine ds_drop ?_
  | with_reducible refine ds_next ?_
  | with_reducible refine ds_retN ?_
  | with_reducible refine then_nx ?_
  | with_reducible refine then_rt ?_
  | with_reducible refine gives_rt ?_
  | with_reducible refine gives_nx
  | with_reducible refine dt_not ?_
  | with_reducible refine dt_test ?_
  | with_reducible refine dt_B ?_
  | with_reducible refine dt_and ?_
  | with_reducible refine dt_or ?_
  | with_reducible refine dt_yes ?_
  | with_reducible refine ex_bl ?_
  | with_reducible refine ex_ii ?_
  | ((with_reducible show DE _ (tVar _) _ _); refine de_var rfl ?_)
  | with_reducible refine de_int ?_
  | with_reducible refine de_str ?_
  | with_reducible refine de_bl ?_
  | with_reducible refine de_non ?_
  | with_reducible refine de_sub ?_
  | with_reducible refine de_eq ?_
  | with_reducible refine de_ne ?_
  | with_reducible refine de_in ?_
  | with_reducible refine de_add ?_
  | with_reducible refine de_subI ?_
  | with_reducible refine de_lt ?_
  | with_reducible refine de_le ?_
  | with_reducible refine de_gt ?_
  | with_reducible refine de_ge ?_
  | with_reducible refine de_neg ?_
  | with_reducible refine de_isN ?_
  | with_reducible refine de_notN ?_
  | with_reducible refine de_chainII ?_
  | with_reducible refine de_len ?_
  | with_reducible refine de_isi .str rfl ?_
  | with_reducible refine de_isi .int rfl ?_
  | with_reducible refine de_isi .bool rfl ?_
  | with_reducible refine de_isi .dict rfl ?_
  | with_reducible refine de_isi .tuple rfl ?_
  | with_reducible refine de_isi .list rfl ?_
  | with_reducible refine de_all ?_
  | with_reducible refine de_sum ?_
  | with_reducible refine de_if ?_
  | with_reducible refine de_andV ?_
  | with_reducible refine de_orV ?_
  | with_reducible refine de_notV ?_
  | with_reducible refine de_tuple ?_
  | with_reducible refine de_get1 ?_
  | with_reducible refine de_get2 ?_
  | with_reducible refine de_tup0 ?_
  | with_reducible refine de_tup1 ?_
  | with_reducible refine de_tup2 ?_
  | with_reducible refine de_tup3 ?_
  | with_reducible refine de_tup4 ?_
  | with_reducible refine de_tup ?_
  | with_reducible refine de_isB ?_
  | with_reducible refine de_notB ?_
  | ((with_reducible show DE _ (tCall (SpT _ _) _ _ _) _ _); refine de_ct rfl rfl ?_)
  | with_reducible refine de_call ?_
  | with_reducible refine da_nil ?_
  | with_reducible refine da_cons ?_)

section
variable {K : PySem.W.Frag} {A : List Str}
def R_source (A : List Str) (ds : List D) (d : D) : Prop := ∃ p s, ds = [Pt.toD p, s] ∧ PtV A p ∧ StV A s ∧ d = optD (srcOf (formOf p) s)
theorem p_source (hA : Alp A) (ds : List D) (d : D) (h : R_source A ds d) :
    DS ⟨K, none⟩ (t_source K (SpP K (R_copied A 13)) (SpP K (R_source_of A 12)) (SpP K (R_form_of A 7)) (SpP K R_need_state) (SpP K R_need_patch)) (slots ["patch", "state", "found"] ds) (Gives d) := by
  obtain ⟨p, s, rfl, hp, hs, rfl⟩ := h
  show DS _ _ [.dat p.toD, .dat s, .un] _
  unfold t_source
  repeat walk_at "s"
  refine ⟨[p.toD], .non, rfl, ⟨_, rfl, hp.ok.wf hA, Nat.le_trans hp.ok.deep (by omega), hp.valid, rfl⟩, ?_⟩
  repeat walk_at "s"
  refine ⟨[s], .non, rfl, ⟨s, rfl, hs.ok.wf hA, Nat.le_trans hs.ok.deep (by omega), hs.valid, rfl⟩, ?_⟩
  repeat walk_at "s"
  refine ⟨[p.toD], _, rfl, ⟨p, rfl, hp.ok, rfl⟩, ?_⟩
  repeat walk_at "s"
  have hf : FmOk A 11 (formOf p) := formOf_ok (by omega) hp.ok
  have hs' : St A 11 s := hs.ok.mono (by omega)
  refine ⟨[(formOf p).toD, s], _, rfl, ⟨_, s, rfl, hf, hs', rfl⟩, ?_⟩
  repeat walk_at "s"
  cases q : srcOf (formOf p) s with
  | none =>
    refine it_t rfl ?_
    repeat walk_at "s"
    rfl
  | some t =>
    refine it_f rfl ?_
    repeat walk_at "s"
    refine ⟨t, rfl, ?_⟩
    repeat walk_at "s"
    exact ⟨[t], t, rfl, ⟨t, rfl, src_ok _ hf hs' q, rfl⟩, rfl⟩

/-! ### fixed -/
def fo1 (no : D) (sc : Option D) : List D := (if no.isN then [.non] else []) ++ (match sc with
  | none => [.int 0]
  | some e => if !e.isN && !e.isA .dict then [e] else [])
mutual
def fixOf : Fm → Option D
  | .con no sc d => smallestD (fo1 no sc ++ (if d.isA .dict then [d] else []))
  | .ent no sc ps => smallestD (fo1 no sc ++ (match fixEs ps with
    | some r => [.dic r]
    | none => []))
def fixEs : List (Str × Fm) → Option (List (Key × D))
  | [] => some []
  | (k, f) :: r => match fixOf f, fixEs r with
    | some s, some t => some (if s.isN then t else (.inr k, s) :: t)
    | _, _ => none
end
theorem fo1_ok {n : Nat} {no : D} {sc : Option D} {s : D} (hsc : ∀ e, sc = some e → St A n e) (h : s ∈ fo1 no sc) : St A n s := by
  unfold fo1 at h
  rcases List.mem_append.mp h with h | h
  · split at h
    · rw [List.mem_singleton.mp h]; exact .inl rfl
    · cases h
  · cases sc with
    | none => simp only at h; rw [List.mem_singleton.mp h]; exact .inr (.int _ (by decide))
    | some e =>
      simp only at h
      split at h
      · rw [List.mem_singleton.mp h]; exact hsc e rfl
      · cases h
mutual
theorem fix_ok : ∀ (f : Fm) {n : Nat} {s : D}, FmOk A n f → fixOf f = some s → St A (n + 1) s
  | .con no sc d, n, s, hf, h => by
    rw [fixOf] at h
    rcases List.mem_append.mp (smallest_mem h) with h | h
    · exact (fo1_ok hf.hsc h).mono (by omega)
    · split at h
      · rw [List.mem_singleton.mp h]; exact hf.hcon.mono (by omega)
      · cases h
  | .ent no sc ps, n, s, hf, h => by
    rw [fixOf.eq_def] at h
    simp only at h
    rcases List.mem_append.mp (smallest_mem h) with h | h
    · exact (fo1_ok hf.hsc h).mono (by omega)
    · cases q : fixEs ps with
      | none => rw [q] at h; cases h
      | some r =>
        rw [q] at h
        rw [List.mem_singleton.mp h]
        cases n with
        | zero => cases hf.ps0; rw [fixEs] at q; cases q; exact (KsOk.nil (n := 0)).st
        | succ n => exact (fixEs_ok ps hf.ps q).1.st
theorem fixEs_ok : ∀ (ps : List (Str × Fm)) {n : Nat} {r : List (Key × D)}, PsOk A n ps → fixEs ps = some r → KsOk A (n + 1) r ∧ ∀ p ∈ r, ∃ q ∈ ps, p.1 = .inr q.1
  | [], n, r, _, e => by rw [fixEs] at e; cases e; exact ⟨.nil, fun p hp => by cases hp⟩
  | (k, f) :: ps, n, r, hp, e => by
    rw [fixEs] at e
    cases q1 : fixOf f with
    | none => rw [q1] at e; cases e
    | some s =>
      cases q2 : fixEs ps with
      | none => rw [q1, q2] at e; cases e
      | some t =>
        rw [q1, q2] at e
        have hs := fix_ok f (hp.ok (k, f) List.mem_cons_self) q1
        obtain ⟨ht, hk⟩ := fixEs_ok ps hp.tail q2
        simp only [Option.some.injEq] at e
        split at e
        · subst e; exact ⟨ht, fun p hp => let ⟨q, hq, e⟩ := hk p hp; ⟨q, List.mem_cons_of_mem _ hq, e⟩⟩
        · next hn =>
          subst e
          have hd : Doc A (n + 1) s := hs.resolve_left fun z => hn (by rw [z]; rfl)
          refine ⟨⟨?_, fun p hp' => ?_, fun p hp' => ?_⟩, fun p hp' => ?_⟩
          · rw [List.map_cons, List.nodup_cons]
            refine ⟨fun m => ?_, ht.nd⟩
            obtain ⟨p, hp', e⟩ := List.mem_map.mp m
            obtain ⟨q, hq, e2⟩ := hk p hp'
            rw [e] at e2
            have nd := hp.nd
            rw [List.map_cons, List.nodup_cons] at nd
            exact nd.1 (Sum.inr.inj e2 ▸ List.mem_map.mpr ⟨q, hq, rfl⟩)
          · rcases List.mem_cons.mp hp' with e | hp'
            · subst e; exact ⟨k, hp.mem (k, f) List.mem_cons_self, rfl⟩
            · exact ht.mem p hp'
          · rcases List.mem_cons.mp hp' with e | hp'
            · subst e; exact hd
            · exact ht.ok p hp'
          · rcases List.mem_cons.mp hp' with e | hp'
            · subst e; exact ⟨(k, f), List.mem_cons_self, rfl⟩
            · obtain ⟨q, hq, e⟩ := hk p hp'; exact ⟨q, List.mem_cons_of_mem _ hq, e⟩
end
def R_fixed_of (A : List Str) : Nat → List D → D → Prop
  | 0, _, _ => False
  | n + 1, ds, d => ∃ f, ds = [Fm.toD f] ∧ FmOk A n f ∧ d = optD (fixOf f)
def R_fixed (A : List Str) (ds : List D) (d : D) : Prop := ∃ p, ds = [Pt.toD p] ∧ PtV A p ∧ d = optD (fixOf (formOf p))
theorem p_fixed (hA : Alp A) (ds : List D) (d : D) (h : R_fixed A ds d) :
    DS ⟨K, none⟩ (t_fixed K (SpP K (R_copied A 13)) (SpP K (R_fixed_of A 12)) (SpP K (R_form_of A 7)) (SpP K R_need_patch)) (slots ["patch", "found"] ds) (Gives d) := by
  obtain ⟨p, rfl, hp, rfl⟩ := h
  show DS _ _ [.dat p.toD, .un] _
  unfold t_fixed
  repeat walk_at "s"
  refine ⟨[p.toD], .non, rfl, ⟨_, rfl, hp.ok.wf hA, Nat.le_trans hp.ok.deep (by omega), hp.valid, rfl⟩, ?_⟩
  repeat walk_at "s"
  refine ⟨[p.toD], _, rfl, ⟨p, rfl, hp.ok, rfl⟩, ?_⟩
  repeat walk_at "s"
  have hf : FmOk A 11 (formOf p) := formOf_ok (by omega) hp.ok
  refine ⟨[(formOf p).toD], _, rfl, ⟨_, rfl, hf, rfl⟩, ?_⟩
  repeat walk_at "s"
  cases q : fixOf (formOf p) with
  | none =>
    refine it_t rfl ?_
    repeat walk_at "s"
    rfl
  | some t =>
    refine it_f rfl ?_
    repeat walk_at "s"
    refine ⟨t, rfl, ?_⟩
    repeat walk_at "s"
    exact ⟨[t], t, rfl, ⟨t, rfl, fix_ok _ hf q, rfl⟩, rfl⟩
end
end Mp

set_option Elab.async false
set_option linter.all false
set_option maxRecDepth 100000
set_option maxHeartbeats 4000000
namespace Mp
open PySem L2
local macro_rules | `(tactic| walk_at "s") => `(tactic| first
  | with_reducible refine ds_seq ?_
  | with_reducible refine ds_ret ?_
  | with_reducible refine ds_if ?_
  | with_reducible refine ds_asg ?_
  | with_reducible refine ds_drop ?_
  | with_reducible refine ds_next ?_
  | with_reducible refine ds_retN ?_
  | with_reducible refine then_nx ?_
  | with_reducible refine then_rt ?_
  | with_reducible refine gives_rt ?_
  | with_reducible refine gives_nx
  | with_reducible refine dt_not ?_
  | with_reducible refine dt_test ?_
  | with_reducible refine dt_B ?_
  | with_reducible refine dt_and ?_
  | with_reducible refine dt_or ?_
  | with_reducible refine dt_yes ?_
  | with_reducible refine ex_bl ?_
  | with_reducible refine ex_ii ?_
  | ((with_reducible show DE _ (tVar _) _ _); refine de_var rfl ?_)
  | with_reducible refine de_int ?_
  | with_reducible refine de_str ?_
  | with_reducible refine de_bl ?_
  | with_reducible refine de_non ?_
  | with_reducible refine de_sub ?_
  | with_reducible refine de_eq ?_
  | with_reducible refine de_ne ?_
  | with_reducible refine de_in ?_
  | with_reducible refine de_add ?_
  | with_reducible refine de_subI ?_
  | with_reducible refine de_lt ?_
  | with_reducible refine de_le ?_
  | with_reducible refine de_gt ?_
  | with_reducible refine de_ge ?_
  | with_reducible refine de_neg ?_
  | with_reducible refine de_isN ?_
  | with_reducible refine de_notN ?_
  | with_reducible refine de_chainII ?_
  | with_reducible refine de_len ?_
  | with_reducible refine de_isi .str rfl ?_
  | with_reducible refine de_isi .int rfl ?_
  | with_reducible refine de_isi .bool rfl ?_
  | with_reducible refine de_isi .dict rfl ?_
  | with_reducible refine de_isi .tuple rfl ?_
  | with_reducible refine de_isi .list rfl ?_
  | with_reducible refine de_all ?_
  | with_reducible refine de_sum ?_
  | with_reducible refine de_if ?_
  | with_reducible refine de_andV ?_
  | with_reducible refine de_orV ?_
  | with_reducible refine de_notV ?_
  | with_reducible refine de_tuple ?_
  | with_reducible refine de_get1 ?_
  | with_reducible refine de_get2 ?_
  | with_reducible refine de_tup0 ?_
  | with_reducible refine de_tup1 ?_
  | with_reducible refine de_tup2 ?_
  | with_reducible refine de_tup3 ?_
  | with_reducible refine de_tup4 ?_
  | with_reducible refine de_tup ?_
  | with_reducible refine de_isB ?_
  | with_reducible refine de_notB ?_
  | ((with_reducible show DE _ (tCall (SpT _ _) _ _ _) _ _); refine de_ct rfl rfl ?_)
  | with_reducible refine de_call ?_
  | with_reducible refine da_nil ?_
  | with_reducible refine da_cons ?_)

section
variable {K : PySem.W.Frag} {A : List Str}
theorem fixEs_some : ∀ ps : List (Str × Fm), (fixEs ps).isSome = ps.all fun p => (fixOf p.2).isSome
  | [] => by rw [fixEs]; rfl
  | (k, f) :: r => by
    rw [fixEs, List.all_cons, ← fixEs_some r]
    cases fixOf f <;> cases fixEs r <;> rfl
theorem fixEs_snoc : ∀ (ps : List (Str × Fm)) (k : Str) (f : Fm), fixEs (ps ++ [(k, f)]) = match fixEs ps, fixOf f with
    | some r, some s => some (r ++ if s.isN then [] else [(.inr k, s)])
    | _, _ => none
  | [], k, f => by
    simp only [List.nil_append, fixEs]
    cases fixOf f <;> simp
  | (j, g) :: r, k, f => by
    rw [List.cons_append, fixEs, fixEs, fixEs_snoc r k f]
    cases fixOf g with
    | none => rfl
    | some s =>
      cases fixEs r with
      | none => rfl
      | some t =>
        cases fixOf f with
        | none => rfl
        | some u => simp only; split <;> rfl
def fxD (p : Str × Fm) : D := .tup [.str p.1, optD (fixOf p.2)]
def nnF : D → D
  | .tup [_, v] => .bl (!v.isN)
  | _ => .non
def fkF (ps : List (Str × Fm)) : D → D
  | .tup [.str k, f] => .tup [.str k, optD (fixOf (getF ps k))]
  | d => d
theorem p_fixed_of (hA : Alp A) (n : Nat) (hn : n ≤ 40) (ds : List D) (d : D) (h : R_fixed_of A (n + 1) ds d) :
    DS ⟨K, none⟩ (t_fixed_of K (SpP K (R_smallest A (n + 1))) (SpP K (R_fixed_of A n))) (slots ["form", "nothing", "scalar", "entries", "options", "inner", "key", "one", "found"] ds) (Gives d) := by
  obtain ⟨f, rfl, hf, rfl⟩ := h
  show DS _ _ [.dat f.toD, .un, .un, .un, .un, .un, .un, .un, .un] _
  unfold t_fixed_of
  rw [toD_eq]
  refine ds_seq (ds_asgG (js := [1, 2, 3]) ?_)
  repeat walk_at "s"
  refine dg_three (then_nx ?_)
  refine ds_seq (ds_asgN (dn_lst (da_nil ⟨[], rfl, by simp, then_nx ?_⟩)))
  refine ds_seq (ds_if ?_)
  repeat walk_at "s"
  refine ds_appIf rfl (by simp) (v := .non) (fun _ => de_non rfl) (then_nx ?_)
  have fin : ∀ (xs : List D) (z : Sl), xs.length ≤ 1000 → (∀ x ∈ xs, St A (n + 1) x) → fixOf f = smallestD xs → DS ⟨K, none⟩ (tRet (tCall (SpP K (R_smallest A (n + 1))) [] E0 (tCons (tVar 4) tNil))) [.dat (.tup [f.no, scD f.sc, entD f]), .dat f.no, .dat (scD f.sc), .dat (entD f), .own (.lst xs), z, .un, .un, .un] (Gives (optD (fixOf f))) := fun xs z hl hx e => by
    refine ds_pub 4 rfl ?_
    repeat walk_at "s"
    exact ⟨[.lst xs], _, rfl, ⟨xs, rfl, hl, hx, rfl⟩, by rw [e]; rfl⟩
  have hsd := scD_deep hf.hsc
  have o2 : (fo1 f.no f.sc).length ≤ 2 := by
    unfold fo1
    cases f.sc with
    | none => simp only; split <;> simp
    | some e => simp only; split <;> split <;> simp
  have mid : ∀ tt : TS, DS ⟨K, none⟩ tt [.dat (.tup [f.no, scD f.sc, entD f]), .dat f.no, .dat (scD f.sc), .dat (entD f), .own (.lst (fo1 f.no f.sc)), .un, .un, .un, .un] (Gives (optD (fixOf f))) →
      DS ⟨K, none⟩ (tSeq (tIfS (tTest (tOp (rEqX K) (tVar 2) (tTupF (tCons (tC (.str "same")) tNil)))) (tDrop (tBM K "list" rAppend (tVar 4) (tCons (tC (.int 0)) tNil))) (tIfS (tAnd (tTest (tOp (fun x y H Q => y = .non ∧ Q (.bl (!decide (x = .non))) H) (tOp (rSub K) (tVar 2) (tC (.int 1))) (tC .non))) (tNot (tB (tCB (rIsi K) (tCons (tOp (rSub K) (tVar 2) (tC (.int 1))) (tCons (tC (.ty "dict")) tNil)))))) (tDrop (tBM K "list" rAppend (tVar 4) (tCons (tOp (rSub K) (tVar 2) (tC (.int 1))) tNil))) tNext)) tt)
      [.dat (.tup [f.no, scD f.sc, entD f]), .dat f.no, .dat (scD f.sc), .dat (entD f), .own (.lst ([] ++ if f.no.isN then [D.non] else [])), .un, .un, .un, .un] (Gives (optD (fixOf f))) := fun tt h => by
    refine ds_seq (ds_if ?_)
    repeat walk_at "s"
    refine ⟨by omega, _, rfl, ?_⟩
    rw [scD_eqv]
    have l1 : ([] ++ if f.no.isN then [D.non] else []).length ≤ 1000 := by split <;> simp
    cases q : f.sc with
    | none =>
      rw [q] at h
      refine it_t rfl (ds_append rfl l1 (de_int (then_nx ?_)))
      rw [List.nil_append]
      exact h
    | some e =>
      rw [q] at h
      have he := hf.hsc e q
      refine it_f rfl ?_
      have nope : (!e.isN && !e.isA .dict) = false → DS ⟨K, none⟩ tt [.dat (.tup [f.no, scD (some e), entD f]), .dat f.no, .dat (scD (some e)), .dat (entD f), .own (.lst ([] ++ if f.no.isN then [D.non] else [])), .un, .un, .un, .un] (Gives (optD (fixOf f))) := fun z => by
        have e2 : fo1 f.no (some e) = [] ++ if f.no.isN then [D.non] else [] := by
          unfold fo1; simp [z]
        rw [e2] at h; exact h
      refine ds_if ?_
      repeat walk_at "s"
      refine ⟨e, rfl, ?_⟩
      repeat walk_at "s"
      rcases he.of_scalar with z | z | ⟨ks, z⟩
      · have e2 : fo1 f.no (some e) = ([] ++ if f.no.isN then [D.non] else []) ++ [e] := by
          unfold fo1; simp only; rw [z, List.nil_append]; rfl
        rw [e2] at h
        simp only [Bool.and_eq_true] at z
        refine it_t z.1 ?_
        repeat walk_at "s"
        refine ⟨e, rfl, ?_⟩
        repeat walk_at "s"
        refine it_t z.2 (ds_append rfl l1 ?_)
        repeat walk_at "s"
        refine ⟨e, rfl, then_nx h⟩
      · subst z
        refine it_f rfl (it_f rfl (ds_next (then_nx (nope rfl))))
      · subst z
        refine it_t rfl ?_
        repeat walk_at "s"
        refine ⟨.dic ks, rfl, ?_⟩
        repeat walk_at "s"
        refine it_f rfl (ds_next (then_nx (nope rfl)))
  refine mid _ ?_
  cases f with
  | con no sc d =>
    refine ds_seq (ds_if ?_)
    repeat walk_at "s"
    refine ⟨.str "constant", rfl, ?_⟩
    repeat walk_at "s"
    refine ⟨Nat.zero_le _, _, rfl, it_t (eqs_t _) (ds_if ?_)⟩
    repeat walk_at "s"
    refine ⟨d, rfl, ?_⟩
    repeat walk_at "s"
    refine ds_appIf rfl (by omega) (v := d) (fun _ => ?_) (then_nx ?_)
    · repeat walk_at "s"
      exact ⟨d, rfl, rfl⟩
    · refine fin _ _ ?_ (fun x hx => ?_) (by rw [fixOf]; rfl)
      · rw [List.length_append]
        have : (if d.isA .dict = true then [d] else []).length ≤ 1 := by split <;> simp
        omega
      · rcases List.mem_append.mp hx with h | h
        · exact (fo1_ok hf.hsc h).mono (by omega)
        · split at h
          · rw [List.mem_singleton.mp h]; exact hf.hcon.mono (by omega)
          · cases h
  | ent no sc ps =>
    have hp : PsOk A (n - 1) ps := by
      cases n with
      | zero => rw [hf.ps0]; exact .nil
      | succ n => exact hf.ps
    have hpl := Nat.le_trans hp.len hA.few
    refine ds_seq (ds_if ?_)
    repeat walk_at "s"
    refine ⟨.str "entries", rfl, ?_⟩
    repeat walk_at "s"
    refine ⟨Nat.zero_le _, _, rfl, it_f (eqs_f (by decide)) ?_⟩
    refine ds_seq (ds_asg (dn_lcM (js := [6, 7]) (fkF ps) (by simp) (di_any ?_)).de)
    repeat walk_at "s"
    refine ⟨.tup (psD ps), rfl, psD ps, rfl, ?_, fun i d hd => ?_, ?_⟩
    · rw [psD_map, List.length_map]; exact Nat.le_of_lt (small1000 (by omega))
    · rw [psD_map, List.getElem?_map] at hd
      cases q : ps[i]? with
      | none => rw [q] at hd; cases hd
      | some p =>
        rw [q] at hd; cases hd
        obtain ⟨k, g⟩ := p
        have hm := List.mem_of_getElem? q
        refine dg_pair ?_
        repeat walk_at "s"
        refine ⟨[g.toD], optD (fixOf g), rfl, ?_, ?_⟩
        · cases n with
          | zero => rw [hf.ps0] at hm; cases hm
          | succ n => exact ⟨g, rfl, hp.ok _ hm, rfl⟩
        · show _ = D.tup [.str k, optD (fixOf (getF ps k))]
          have : getF ps k = g := by unfold getF; rw [mem_lookF hp.nd hm]; rfl
          rw [this]
    have ein : (psD ps).map (fkF ps) = ps.map fxD := by
      rw [psD_map, List.map_map]
      refine List.map_congr_left fun p hp' => ?_
      show D.tup [.str p.1, optD (fixOf (getF ps p.1))] = _
      have : getF ps p.1 = p.2 := by unfold getF; rw [mem_lookF hp.nd (show (p.1, p.2) ∈ ps from hp')]; rfl
      rw [this]; rfl
    rw [ein]
    refine then_nx (ds_if ?_)
    repeat walk_at "s"
    refine (dn_lcM (js := [6, 8]) nnF (by simp) (di_any ?_)).de
    repeat walk_at "s"
    refine ⟨ps.map fxD, rfl, ?_, fun i d hd => ?_, ?_⟩
    · rw [List.length_map]; exact Nat.le_of_lt (small1000 (by omega))
    · rw [List.getElem?_map] at hd
      cases q : ps[i]? with
      | none => rw [q] at hd; cases hd
      | some p =>
        rw [q] at hd; cases hd
        refine dg_pair ?_
        repeat walk_at "s"
        rfl
    · refine ⟨ps.map fun p => (fixOf p.2).isSome, ?_, ?_⟩
      · rw [List.map_map, List.map_map]
        congr 1
        refine List.map_congr_left fun p _ => ?_
        show D.bl (!(optD (fixOf p.2)).isN) = D.bl (fixOf p.2).isSome
        cases fixOf p.2 <;> rfl
      · have eb : (ps.map fun p => (fixOf p.2).isSome).all id = (fixEs ps).isSome := by rw [fixEs_some, List.all_map]; rfl
        rw [eb]
        refine ⟨_, rfl, ?_⟩
        have ef : fixOf (.ent no sc ps) = smallestD (fo1 no sc ++ (match fixEs ps with | some r => [.dic r] | none => [])) := by rw [fixOf.eq_def] <;> rfl
        cases q : fixEs ps with
        | none =>
          rw [q] at ef
          refine it_f rfl (ds_next (then_nx ?_))
          exact fin _ _ (by omega) (fun x hx => (fo1_ok hf.hsc hx).mono (by omega)) (by rw [ef, List.append_nil]; rfl)
        | some r =>
          rw [q] at ef
          refine it_t rfl (ds_append rfl (by omega) (dn_dc (js := [6, 8]) (by simp) (di_any (de_var rfl ⟨ps.map fxD, rfl, ?_, fun i acc => fixEs (ps.take i) = some acc, ?_, fun i d acc hd w => ?_, fun acc w => ?_⟩))).de)
          · rw [List.length_map]; exact Nat.le_of_lt (small1000 (by omega))
          · show fixEs (ps.take 0) = _; rw [List.take_zero, fixEs]
          · rw [List.getElem?_map] at hd
            cases qi : ps[i]? with
            | none => rw [qi] at hd; cases hd
            | some p =>
              rw [qi] at hd; cases hd
              obtain ⟨k, g⟩ := p
              have hm := List.mem_of_getElem? qi
              have hsome : (fixOf g).isSome = true := by
                have := fixEs_some ps
                rw [q] at this
                exact List.all_eq_true.mp this.symm (k, g) hm
              have w' : fixEs (ps.take i) = some acc := w
              have e1 : ∀ s, fixOf g = some s → fixEs (ps.take (i + 1)) = some (acc ++ if s.isN then [] else [(.inr k, s)]) := fun s hs => by
                rw [List.take_succ, qi]
                have := fixEs_snoc (ps.take i) k g
                rw [w', hs] at this
                exact this
              have hti : PsOk A (n - 1) (ps.take i) := ⟨List.Nodup.sublist ((List.take_sublist i ps).map _) hp.nd, fun p h => hp.mem p (List.mem_of_mem_take h), fun p h => hp.ok p (List.mem_of_mem_take h)⟩
              have hkeys := (fixEs_ok _ hti w').2
              cases qg : fixOf g with
              | none => rw [qg] at hsome; cases hsome
              | some s =>
                have e1 := e1 s qg
                have efx : fxD (k, g) = .tup [.str k, .tup [s]] := by unfold fxD; simp only; rw [qg]; rfl
                rw [efx]
                refine dg_pair ?_
                repeat walk_at "s"
                refine ⟨s, rfl, ?_⟩
                cases hsn : s.isN with
                | true =>
                  rw [hsn, if_pos rfl, List.append_nil] at e1
                  refine ⟨_, rfl, it_f rfl e1⟩
                | false =>
                  rw [hsn, if_neg (by decide)] at e1
                  refine ⟨_, rfl, it_t rfl ?_⟩
                  repeat walk_at "s"
                  refine ⟨s, rfl, k, rfl, ?_⟩
                  show fixEs (ps.take (i + 1)) = some (putD acc (.inr k) s)
                  rw [e1, putD_new]
                  intro m
                  obtain ⟨p', hp', e'⟩ := List.mem_map.mp m
                  obtain ⟨q', hq', e''⟩ := hkeys p' hp'
                  rw [e'] at e''
                  have ek : k = q'.1 := Sum.inr.inj e''
                  obtain ⟨j, hj, ej⟩ := List.getElem_of_mem hq'
                  have hj2 : j < i := by simp at hj; omega
                  have hjl : j < ps.length := by simp at hj; omega
                  rw [List.getElem_take] at ej
                  have e3 : (ps.map (·.1))[j]? = (ps.map (·.1))[i]? := by
                    rw [List.getElem?_map, List.getElem?_map, qi, List.getElem?_eq_getElem hjl, ej]
                    exact congrArg some ek.symm
                  have := (List.getElem?_inj (by rw [List.length_map]; exact hjl) hp.nd).mp e3
                  omega
          · have w' : fixEs (ps.take (ps.map fxD).length) = some acc := w
            rw [List.length_map, List.take_length, q] at w'
            cases w'
            refine then_nx (fin _ _ (by rw [List.length_append]; simp; omega) (fun x hx => ?_) ef)
            rcases List.mem_append.mp hx with h | h
            · exact (fo1_ok hf.hsc h).mono (by omega)
            · rw [List.mem_singleton.mp h]
              cases n with
              | zero => cases hf.ps0; rw [fixEs] at q; cases q; exact (KsOk.nil (n := 0)).st
              | succ n => exact (fixEs_ok ps hf.ps q).1.st
end
end Mp

set_option Elab.async false
set_option linter.all false
set_option maxRecDepth 100000
set_option maxHeartbeats 4000000
namespace Mp
open PySem L2
/-! ### sizes, by the keys of the alphabet -/
def gK (ks : List (Key × D)) (x : Str) : D := (look ks (.inr x)).getD .non
section
variable {A : List Str}
theorem sem_gK (ks : List (Key × D)) (x : Str) : semK ks x = sem (gK ks x) := semK_look ks x
theorem sum_one {k : Str} {v : Int} {f : Str → Int} : ∀ {A : List Str}, A.Nodup → k ∈ A → (A.map fun x => if k = x then v else f x).sum = (A.map f).sum + v - f k
  | [], _, h => by cases h
  | a :: A, nd, h => by
    rw [List.nodup_cons] at nd
    rw [List.map_cons, List.sum_cons, List.map_cons, List.sum_cons]
    by_cases e : k = a
    · subst e
      rw [if_pos rfl]
      have : (A.map fun x => if k = x then v else f x) = A.map f := List.map_congr_left fun x hx => by
        have ne : ¬ k = x := fun z => nd.1 (by rw [z]; exact hx)
        show (if k = x then v else f x) = f x
        rw [if_neg ne]
      rw [this]; omega
    · rw [if_neg e, sum_one nd.2 ((List.mem_cons.mp h).resolve_left e)]; omega
theorem sum_le {f g : Str → Int} : ∀ {A : List Str}, (∀ x ∈ A, f x ≤ g x) → (A.map f).sum ≤ (A.map g).sum
  | [], _ => Int.le_refl _
  | a :: A, h => by
    rw [List.map_cons, List.sum_cons, List.map_cons, List.sum_cons]
    have := h a List.mem_cons_self
    have := sum_le fun x hx => h x (List.mem_cons_of_mem a hx)
    omega
theorem sum_zero : ∀ A : List Str, (A.map fun _ => (0 : Int)).sum = 0
  | [] => rfl
  | a :: A => by rw [List.map_cons, List.sum_cons, sum_zero A]; rfl
theorem size_non : sizeD .non = 0 := by rw [sizeD]
theorem KsOk.size (hN : A.Nodup) {n : Nat} : ∀ {ks : List (Key × D)}, KsOk A n ks → sizeK ks = (A.map fun x => sizeD (gK ks x)).sum
  | [], _ => by
    rw [sizeK]
    have : (A.map fun x => sizeD (gK [] x)) = A.map fun _ => (0 : Int) := List.map_congr_left fun x _ => size_non
    rw [this, sum_zero]
  | (k, d) :: r, h => by
    obtain ⟨x, hx, e⟩ := h.mem (k, d) List.mem_cons_self
    simp only at e
    subst e
    have nd := h.nd
    rw [List.map_cons, List.nodup_cons] at nd
    have hr : KsOk A n r := ⟨nd.2, fun p hp => h.mem p (List.mem_cons_of_mem _ hp), fun p hp => h.ok p (List.mem_cons_of_mem _ hp)⟩
    have e1 : (A.map fun y => sizeD (gK ((.inr x, d) :: r) y)) = A.map fun y => if x = y then sizeD d else sizeD (gK r y) := List.map_congr_left fun y _ => by
      unfold gK; rw [look]
      by_cases z : x = y
      · subst z; rw [if_pos rfl, if_pos rfl]; rfl
      · rw [if_neg z, if_neg fun w => z (Sum.inr.inj w)]
    have e2 : gK r x = .non := by unfold gK; rw [look_none_of nd.1]; rfl
    rw [sizeK, hr.size hN, e1, sum_one hN hx, e2, size_non]; omega
theorem Doc.size_sem (hN : A.Nodup) {n m : Nat} {d e : D} (h : Doc A n d) (g : Doc A m e) (q : sem d = sem e) : sizeD d = sizeD e := by
  induction h generalizing m e with
  | int n h => cases g <;> simp only [sem] at q <;> first | (cases q; done) | (rw [sizeD, sizeD])
  | str n h => cases g <;> simp only [sem] at q <;> first | (cases q; done) | (rw [sizeD, sizeD])
  | @dic n ks nd hk hd ih =>
    cases g with
    | int _ _ => simp only [sem] at q; cases q
    | str _ _ => simp only [sem] at q; cases q
    | @dic m js nd' hk' hd' =>
      simp only [sem] at q
      have q : semK ks = semK js := by injection q
      rw [sizeD, sizeD, KsOk.size hN (n := n) ⟨nd, hk, hd⟩, KsOk.size hN (n := m) ⟨nd', hk', hd'⟩]
      congr 2
      refine List.map_congr_left fun x _ => ?_
      have hx := congrFun q x
      rw [sem_gK, sem_gK] at hx
      unfold gK at *
      cases q1 : look ks (.inr x) with
      | none =>
        cases q2 : look js (.inr x) with
        | none => rfl
        | some y => rw [q1, q2, Option.getD_none, sem_non] at hx; exact absurd hx.symm (hd' _ (look_mem q2)).sem_ne
      | some y =>
        cases q2 : look js (.inr x) with
        | none => rw [q1, q2, Option.getD_none, sem_non] at hx; exact absurd hx (hd _ (look_mem q1)).sem_ne
        | some z => rw [q1, q2] at hx; exact ih _ (look_mem q1) (hd' _ (look_mem q2)) hx
theorem St.size_sem (hN : A.Nodup) {n m : Nat} {d e : D} (h : St A n d) (g : St A m e) (q : sem d = sem e) : sizeD d = sizeD e := by
  rcases h with rfl | h
  · rcases g with rfl | g
    · rfl
    · rw [sem_non] at q; exact absurd q.symm g.sem_ne
  · rcases g with rfl | g
    · rw [sem_non] at q; exact absurd q h.sem_ne
    · exact h.size_sem hN g q
mutual
theorem size_nn : ∀ d : D, 0 ≤ sizeD d
  | .non => by rw [sizeD]; omega
  | .bl _ => by rw [sizeD]; omega
  | .int _ => by rw [sizeD]; omega
  | .str _ => by rw [sizeD]; omega
  | .tup _ => by rw [sizeD]; omega
  | .lst _ => by rw [sizeD]; omega
  | .dic ks => by rw [sizeD]; have := sizeK_nn ks; omega
theorem sizeK_nn : ∀ ks : List (Key × D), 0 ≤ sizeK ks
  | [] => by rw [sizeK]; omega
  | (k, d) :: r => by rw [sizeK]; have := size_nn d; have := sizeK_nn r; omega
end
theorem gK_putV (acc : List (Key × D)) (k : Str) (v : D) (x : Str) : gK (putV acc k v) x = if k = x then v else gK acc x := by
  unfold gK
  have hp : ∀ d, (look (putD acc (.inr k) d) (.inr x)).getD .non = if k = x then d else (look acc (.inr x)).getD .non := fun d => by
    rw [look_put]
    by_cases h : k = x
    · subst h; rw [if_pos rfl, if_pos rfl]; rfl
    · rw [if_neg h, if_neg fun e => h (Sum.inr.inj e)]
  cases v with
  | non =>
    show (look (dropD acc (.inr k)) (.inr x)).getD .non = _
    rw [look_drop]
    by_cases h : k = x
    · subst h; rw [if_pos rfl, if_pos rfl]; rfl
    · rw [if_neg h, if_neg fun e => h (Sum.inr.inj e)]
  | _ => exact hp _
theorem srcEs_get : ∀ (ps : List (Str × Fm)) {ks acc r : List (Key × D)}, (ps.map (·.1)).Nodup → srcEs ps ks acc = some r → ∀ x, match lookF ps x with
    | some f => ∃ s, srcOf f (gK ks x) = some s ∧ gK r x = s
    | none => gK r x = gK acc x
  | [], ks, acc, r, _, e, x => by rw [srcEs] at e; cases e; rfl
  | (k, f) :: ps, ks, acc, r, nd, e, x => by
    rw [List.map_cons, List.nodup_cons] at nd
    rw [srcEs] at e
    cases q : srcOf f ((look ks (.inr k)).getD .non) with
    | none => rw [q] at e; cases e
    | some s =>
      rw [q] at e
      have ih := srcEs_get ps nd.2 e x
      rw [lookF]
      by_cases h : k = x
      · subst h
        rw [if_pos rfl]
        rw [lookF_none_of nd.1] at ih
        simp only at ih ⊢
        exact ⟨s, q, by rw [ih, gK_putV, if_pos rfl]⟩
      · rw [if_neg h]
        cases ql : lookF ps x with
        | some g => rw [ql] at ih; exact ih
        | none => rw [ql] at ih; simp only at ih ⊢; rw [ih, gK_putV, if_neg h]
theorem srcEs_ex : ∀ (ps : List (Str × Fm)) {ks acc : List (Key × D)}, (∀ p ∈ ps, ∃ s, srcOf p.2 (gK ks p.1) = some s) → ∃ r, srcEs ps ks acc = some r
  | [], ks, acc, _ => ⟨acc, by rw [srcEs]⟩
  | (k, f) :: ps, ks, acc, h => by
    obtain ⟨s, e⟩ := h (k, f) List.mem_cons_self
    have e' : srcOf f ((look ks (.inr k)).getD .non) = some s := e
    rw [srcEs, e']
    exact srcEs_ex ps fun p hp => h p (List.mem_cons_of_mem _ hp)
/-! ### source: sound, least -/
theorem opts1_sound {n : Nat} {f : Fm} {t s : D} (hf : FmOk A n f) (ht : St A n t) (h : s ∈ opts1 f.no f.sc t) : f.fs (sem s) = sem t := by
  unfold opts1 at h
  rcases List.mem_append.mp h with h | h
  · split at h
    · next e => rw [List.mem_singleton.mp h, sem_non, fs_no]; exact (hf.hno.eqv_iff ht).mp e
    · cases h
  · cases q : f.sc with
    | none =>
      rw [q] at h
      simp only at h
      split at h
      · next e =>
        rw [List.mem_singleton.mp h]
        rcases ht with rfl | ht
        · cases e
        · cases ht with
          | int _ _ => rw [sem, fs_int, q]
          | str _ _ => rw [sem, fs_str, q]
          | dic _ _ _ => cases e
      · cases h
    | some e =>
      rw [q] at h
      simp only at h
      split at h
      · next z => rw [List.mem_singleton.mp h, sem, fs_int, q]; exact ((hf.hsc e q).eqv_iff ht).mp z
      · cases h
theorem src_sound : ∀ {n : Nat} {f : Fm} {t s : D}, FmOk A n f → St A n t → srcOf f t = some s → f.fs (sem s) = sem t := fun {n} => by
  induction n with
  | zero =>
    intro f t s hf ht h
    cases f with
    | con no sc d =>
      rw [srcOf] at h
      rcases List.mem_append.mp (smallest_mem h) with h | h
      · exact opts1_sound hf ht h
      · split at h
        · next e => rw [List.mem_singleton.mp h, sem, con_nd]; exact (hf.hcon.eqv_iff ht).mp e
        · cases h
    | ent no sc ps =>
      rw [srcOf.eq_def] at h
      simp only at h
      rcases List.mem_append.mp (smallest_mem h) with h | h
      · exact opts1_sound hf ht h
      · cases t with
        | dic ks => obtain ⟨m, e, _⟩ := KsOk.of ht; cases e
        | _ => cases h
  | succ n ih =>
    intro f t s hf ht h
    cases f with
    | con no sc d =>
      rw [srcOf] at h
      rcases List.mem_append.mp (smallest_mem h) with h | h
      · exact opts1_sound hf ht h
      · split at h
        · next e => rw [List.mem_singleton.mp h, sem, con_nd]; exact (hf.hcon.eqv_iff ht).mp e
        · cases h
    | ent no sc ps =>
      rw [srcOf.eq_def] at h
      simp only at h
      rcases List.mem_append.mp (smallest_mem h) with h | h
      · exact opts1_sound hf ht h
      · cases t with
        | dic ks =>
          obtain ⟨m, e, hk⟩ := KsOk.of ht
          cases e
          simp only at h
          cases q : srcEs ps ks ks with
          | none => rw [q] at h; cases h
          | some r =>
            rw [q] at h
            have hp := hf.ps
            rw [List.mem_singleton.mp h, sem, ent_nd, sem]
            congr 1
            funext x
            rw [fsK_look, sem_gK, sem_gK]
            have hg := srcEs_get ps hp.nd q x
            cases ql : lookF ps x with
            | none => rw [ql] at hg; simp only at hg ⊢; rw [hg]
            | some f =>
              rw [ql] at hg
              simp only at hg ⊢
              obtain ⟨s', e1, e2⟩ := hg
              rw [e2]
              exact ih (hp.ok _ (lookF_mem ql)) (hk.get (.inr x)) e1
        | _ => cases h
theorem opts1_least {n N : Nat} {f : Fm} {t s' : D} (hf : FmOk A n f) (ht : St A n t) (hs : St A N s') (hd : s'.isA .dict = false) (h : f.fs (sem s') = sem t) : ∃ s ∈ opts1 f.no f.sc t, sizeD s ≤ sizeD s' := by
  unfold opts1
  rcases hs with rfl | hs
  · rw [sem_non, fs_no] at h
    refine ⟨.non, List.mem_append.mpr (.inl ?_), by rw [size_non]; omega⟩
    rw [if_pos ((hf.hno.eqv_iff ht).mpr h)]; simp
  · have key : ∀ u : T, f.fs u = (match f.sc with | none => u | some e => sem e) → sem s' = u → sizeD s' = 1 → (f.sc = none → (!t.isN && !t.isA .dict) = true ∧ sizeD t = 1) →
        ∃ s ∈ (if D.eqv f.no t then [D.non] else []) ++ (match f.sc with | none => if !t.isN && !t.isA .dict then [t] else [] | some e => if D.eqv e t then [.int 0] else []), sizeD s ≤ sizeD s' := fun u h1 h2 h3 h4 => by
      rw [h2, h1] at h
      cases q : f.sc with
      | none =>
        obtain ⟨a, b⟩ := h4 q
        refine ⟨t, List.mem_append.mpr (.inr ?_), by omega⟩
        simp only; rw [if_pos a]; simp
      | some e =>
        rw [q] at h
        refine ⟨.int 0, List.mem_append.mpr (.inr ?_), by rw [h3, sizeD]; omega⟩
        simp only; rw [if_pos (((hf.hsc e q).eqv_iff ht).mpr h)]; simp
    cases hs with
    | @int _ i hi =>
      refine key (.int i) (fs_int f i) (by rw [sem]) (by rw [sizeD]) fun q => ?_
      rw [sem, fs_int, q] at h
      simp only at h
      rcases ht with rfl | ht
      · rw [sem_non] at h; cases h
      · cases ht with
        | int _ _ => exact ⟨rfl, by rw [sizeD]⟩
        | str _ _ => exact ⟨rfl, by rw [sizeD]⟩
        | dic _ _ _ => rw [sem] at h; cases h
    | @str _ i hi =>
      refine key (.str i) (fs_str f i) (by rw [sem]) (by rw [sizeD]) fun q => ?_
      rw [sem, fs_str, q] at h
      simp only at h
      rcases ht with rfl | ht
      · rw [sem_non] at h; cases h
      · cases ht with
        | int _ _ => exact ⟨rfl, by rw [sizeD]⟩
        | str _ _ => exact ⟨rfl, by rw [sizeD]⟩
        | dic _ _ _ => rw [sem] at h; cases h
    | dic _ _ _ => cases hd
end
end Mp

set_option Elab.async false
set_option linter.all false
set_option maxRecDepth 100000
set_option maxHeartbeats 4000000
namespace Mp
open PySem L2
section
variable {A : List Str}
theorem least_of {xs ys : List D} {s : D} (h : s ∈ xs) : ∃ r, smallestD (xs ++ ys) = some r ∧ sizeD r ≤ sizeD s := smallest_le (List.mem_append.mpr (.inl h))
theorem least_of' {xs ys : List D} {s : D} (h : s ∈ ys) : ∃ r, smallestD (xs ++ ys) = some r ∧ sizeD r ≤ sizeD s := smallest_le (List.mem_append.mpr (.inr h))
theorem dict_or {n : Nat} {s : D} (h : St A n s) : s.isA .dict = false ∨ ∃ ks, s = .dic ks := by
  rcases h with rfl | h
  · exact .inl rfl
  · cases h with
    | int _ _ => exact .inl rfl
    | str _ _ => exact .inl rfl
    | dic _ _ _ => exact .inr ⟨_, rfl⟩
theorem src_least (hN : A.Nodup) : ∀ {n : Nat} {f : Fm} {t : D}, FmOk A n f → St A n t → ∀ {N : Nat} {s' : D}, St A N s' → f.fs (sem s') = sem t → ∃ s, srcOf f t = some s ∧ sizeD s ≤ sizeD s' := fun {n} => by
  have flat : ∀ {n : Nat} {f : Fm} {t : D}, FmOk A n f → St A n t → ∀ {N : Nat} {s' : D}, St A N s' → s'.isA .dict = false → f.fs (sem s') = sem t → ∃ s, srcOf f t = some s ∧ sizeD s ≤ sizeD s' := fun {n f t} hf ht {N s'} hs hd h => by
    obtain ⟨s, hm, hl⟩ := opts1_least hf ht hs hd h
    cases f with
    | con no sc d => obtain ⟨r, e, h2⟩ := least_of (ys := (if D.eqv d t then [.dic []] else [])) hm; exact ⟨r, by rw [srcOf]; exact e, Int.le_trans h2 hl⟩
    | ent no sc ps => obtain ⟨r, e, h2⟩ := least_of hm; exact ⟨r, by rw [srcOf.eq_def]; exact e, Int.le_trans h2 hl⟩
  have con : ∀ {n : Nat} {no : D} {sc : Option D} {d t : D}, FmOk A n (.con no sc d) → St A n t → ∀ {ks : List (Key × D)}, (Fm.con no sc d).fs (sem (.dic ks)) = sem t → ∃ s, srcOf (.con no sc d) t = some s ∧ sizeD s ≤ sizeD (.dic ks) := fun {n no sc d t} hf ht {ks} h => by
    rw [sem, con_nd] at h
    have e : D.eqv d t = true := (hf.hcon.eqv_iff ht).mpr h
    obtain ⟨r, e1, h2⟩ := least_of' (xs := opts1 no sc t) (ys := (if D.eqv d t then [.dic []] else [])) (s := .dic []) (by rw [if_pos e]; simp)
    refine ⟨r, by rw [srcOf]; exact e1, Int.le_trans h2 ?_⟩
    rw [sizeD, sizeD, sizeK]
    have := sizeK_nn ks; omega
  induction n with
  | zero =>
    intro f t hf ht N s' hs h
    rcases dict_or hs with hd | ⟨ks', rfl⟩
    · exact flat hf ht hs hd h
    · cases f with
      | con no sc d => exact con hf ht h
      | ent no sc ps =>
        rw [sem, ent_nd] at h
        rcases ht with rfl | ht
        · rw [sem_non] at h; cases h
        · cases ht <;> rw [sem] at h <;> cases h
  | succ n ih =>
    intro f t hf ht N s' hs h
    rcases dict_or hs with hd | ⟨ks', rfl⟩
    · exact flat hf ht hs hd h
    · cases f with
      | con no sc d => exact con hf ht h
      | ent no sc ps =>
        rw [sem, ent_nd] at h
        rcases dict_or ht with hd | ⟨ks, rfl⟩
        · rcases ht with rfl | ht
          · rw [sem_non] at h; cases h
          · cases ht with
            | int _ _ => rw [sem] at h; cases h
            | str _ _ => rw [sem] at h; cases h
            | dic _ _ _ => cases hd
        · obtain ⟨m, e, hk⟩ := KsOk.of ht
          cases e
          obtain ⟨m', e', hk'⟩ := KsOk.of hs
          cases e'
          have hp := hf.ps
          rw [sem] at h
          have h : fsK ps (semK ks') = semK ks := by injection h
          have hx : ∀ x, (match lookF ps x with | some f => f.fs (sem (gK ks' x)) | none => sem (gK ks' x)) = sem (gK ks x) := fun x => by
            have := congrFun h x
            rw [fsK_look, sem_gK, sem_gK] at this
            exact this
          have each : ∀ p ∈ ps, ∃ s, srcOf p.2 (gK ks p.1) = some s ∧ sizeD s ≤ sizeD (gK ks' p.1) := fun p hp' => by
            have := hx p.1
            rw [mem_lookF hp.nd (show (p.1, p.2) ∈ ps from hp')] at this
            exact ih (hp.ok p hp') (hk.get (.inr p.1)) (hk'.get (.inr p.1)) this
          obtain ⟨r, er⟩ := srcEs_ex ps (ks := ks) (acc := ks) fun p hp' => let ⟨s, e, _⟩ := each p hp'; ⟨s, e⟩
          have hr := srcEs_ok ps hp hk (acc := ks) ⟨hk.nd, hk.mem, fun p hp => (hk.ok p hp).mono (by omega)⟩ er
          obtain ⟨s, e1, h2⟩ := least_of' (xs := opts1 no sc (.dic ks)) (ys := [.dic r]) (s := .dic r) (by simp)
          refine ⟨s, ?_, Int.le_trans h2 ?_⟩
          · rw [srcOf.eq_def]; simp only; rw [er]; exact e1
          · rw [sizeD, sizeD, hr.size hN, hk'.size hN]
            have : (A.map fun x => sizeD (gK r x)).sum ≤ (A.map fun x => sizeD (gK ks' x)).sum := sum_le fun x _ => by
              have hg := srcEs_get ps hp.nd er x
              cases ql : lookF ps x with
              | none =>
                rw [ql] at hg
                simp only at hg
                have := hx x
                rw [ql] at this
                simp only at this
                rw [hg]
                exact Int.le_of_eq ((hk.get (.inr x)).size_sem hN (hk'.get (.inr x)) this.symm)
              | some f =>
                rw [ql] at hg
                simp only at hg
                obtain ⟨s1, q1, q2⟩ := hg
                obtain ⟨s2, q3, q4⟩ := each (x, f) (lookF_mem ql)
                rw [q2]
                have : s1 = s2 := Option.some.inj (q1.symm.trans q3)
                rw [this]; exact q4
            omega

/-! ### fixed: sound, least -/
theorem fixEs_get : ∀ (ps : List (Str × Fm)) {r : List (Key × D)}, (ps.map (·.1)).Nodup → fixEs ps = some r → ∀ x, match lookF ps x with
    | some f => fixOf f = some (gK r x)
    | none => gK r x = .non
  | [], r, _, e, x => by rw [fixEs] at e; cases e; rfl
  | (k, f) :: ps, r, nd, e, x => by
    rw [List.map_cons, List.nodup_cons] at nd
    rw [fixEs] at e
    cases q1 : fixOf f with
    | none => rw [q1] at e; cases e
    | some s =>
      cases q2 : fixEs ps with
      | none => rw [q1, q2] at e; cases e
      | some t =>
        rw [q1, q2] at e
        have ih := fixEs_get ps nd.2 q2 x
        simp only [Option.some.injEq] at e
        have eg : gK r x = if k = x then s else gK t x := by
          split at e
          · next hn =>
            subst e
            by_cases h : k = x
            · subst h
              rw [lookF_none_of nd.1] at ih
              simp only at ih
              rw [if_pos rfl, ih]
              cases s <;> first | rfl | cases hn
            · rw [if_neg h]
          · subst e
            unfold gK; rw [look]
            by_cases h : k = x
            · subst h; rw [if_pos rfl, if_pos rfl]; rfl
            · rw [if_neg h, if_neg fun z => h (Sum.inr.inj z)]
        rw [lookF, eg]
        by_cases h : k = x
        · rw [if_pos h, if_pos h]; exact q1
        · rw [if_neg h, if_neg h]; exact ih
theorem fo1_sound {n : Nat} {f : Fm} {s : D} (hf : FmOk A n f) (h : s ∈ fo1 f.no f.sc) : f.fs (sem s) = sem s := by
  unfold fo1 at h
  rcases List.mem_append.mp h with h | h
  · split at h
    · next e =>
      rw [List.mem_singleton.mp h, sem_non, fs_no]
      have : f.no = .non := by cases q : f.no <;> rw [q] at e <;> first | rfl | cases e
      rw [this, sem_non]
    · cases h
  · cases q : f.sc with
    | none => rw [q] at h; simp only at h; rw [List.mem_singleton.mp h, sem, fs_int, q]
    | some e =>
      rw [q] at h
      simp only at h
      split at h
      · next z =>
        rw [List.mem_singleton.mp h]
        rcases hf.hsc e q with rfl | he
        · cases z
        · cases he with
          | int _ _ => rw [sem, fs_int, q]; simp only; rw [sem]
          | str _ _ => rw [sem, fs_str, q]; simp only; rw [sem]
          | dic _ _ _ => cases z
      · cases h
theorem fix_sound : ∀ {n : Nat} {f : Fm} {s : D}, FmOk A n f → fixOf f = some s → f.fs (sem s) = sem s := fun {n} => by
  have con : ∀ {n : Nat} {no : D} {sc : Option D} {d s : D}, FmOk A n (.con no sc d) → fixOf (.con no sc d) = some s → (Fm.con no sc d).fs (sem s) = sem s := fun {n no sc d s} hf h => by
    rw [fixOf] at h
    rcases List.mem_append.mp (smallest_mem h) with h | h
    · exact fo1_sound hf h
    · split at h
      · next e =>
        rw [List.mem_singleton.mp h]
        cases d <;> first | (cases e; done) | (rw [sem, con_nd, sem])
      · cases h
  induction n with
  | zero =>
    intro f s hf h
    cases f with
    | con no sc d => exact con hf h
    | ent no sc ps =>
      rw [fixOf.eq_def] at h
      simp only at h
      cases hf.ps0
      rw [fixEs] at h
      rcases List.mem_append.mp (smallest_mem h) with h | h
      · exact fo1_sound hf h
      · rw [List.mem_singleton.mp h, sem, ent_nd]; congr 1
  | succ n ih =>
    intro f s hf h
    cases f with
    | con no sc d => exact con hf h
    | ent no sc ps =>
      have hp := hf.ps
      rw [fixOf.eq_def] at h
      simp only at h
      rcases List.mem_append.mp (smallest_mem h) with h | h
      · exact fo1_sound hf h
      · cases q : fixEs ps with
        | none => rw [q] at h; cases h
        | some r =>
          rw [q] at h
          rw [List.mem_singleton.mp h, sem, ent_nd]
          congr 1
          funext x
          rw [fsK_look, sem_gK]
          have hg := fixEs_get ps hp.nd q x
          cases ql : lookF ps x with
          | none => rfl
          | some f => rw [ql] at hg; exact ih (hp.ok _ (lookF_mem ql)) hg
theorem fixEs_ex {ps : List (Str × Fm)} (h : ∀ p ∈ ps, ∃ s, fixOf p.2 = some s) : ∃ r, fixEs ps = some r := by
  have : (fixEs ps).isSome = true := by
    rw [fixEs_some]; exact List.all_eq_true.mpr fun p hp => by obtain ⟨s, e⟩ := h p hp; rw [e]; rfl
  exact Option.isSome_iff_exists.mp this
theorem fix_least (hN : A.Nodup) : ∀ {n : Nat} {f : Fm}, FmOk A n f → ∀ {N : Nat} {s' : D}, St A N s' → f.fs (sem s') = sem s' → ∃ s, fixOf f = some s ∧ sizeD s ≤ sizeD s' := fun {n} => by
  have flat : ∀ {n : Nat} {f : Fm}, FmOk A n f → ∀ {N : Nat} {s' : D}, St A N s' → s'.isA .dict = false → f.fs (sem s') = sem s' → ∃ s ∈ fo1 f.no f.sc, sizeD s ≤ sizeD s' := fun {n f} hf {N s'} hs hd h => by
    unfold fo1
    rcases hs with rfl | hs
    · rw [sem_non, fs_no] at h
      have : f.no = .non := by
        rcases hf.hno with z | z
        · exact z
        · exact absurd h z.sem_ne
      refine ⟨.non, List.mem_append.mpr (.inl ?_), Int.le_refl _⟩
      rw [this]; simp [D.isN]
    · have key : ∀ u : T, f.fs u = (match f.sc with | none => u | some e => sem e) → sem s' = u → sizeD s' = 1 → (∀ e, f.sc = some e → sem e = u → (!e.isN && !e.isA .dict) = true ∧ sizeD e = 1) →
          ∃ s ∈ (if f.no.isN then [D.non] else []) ++ (match f.sc with | none => [.int 0] | some e => if !e.isN && !e.isA .dict then [e] else []), sizeD s ≤ sizeD s' := fun u h1 h2 h3 h4 => by
        rw [h2, h1] at h
        cases q : f.sc with
        | none => exact ⟨.int 0, List.mem_append.mpr (.inr (by simp)), by rw [h3, sizeD]; omega⟩
        | some e =>
          rw [q] at h
          obtain ⟨a, b⟩ := h4 e q h
          refine ⟨e, List.mem_append.mpr (.inr ?_), by omega⟩
          simp only; rw [if_pos a]; simp
      cases hs with
      | @int _ i hi =>
        refine key (.int i) (fs_int f i) (by rw [sem]) (by rw [sizeD]) fun e q z => ?_
        rcases hf.hsc e q with rfl | he
        · rw [sem_non] at z; cases z
        · cases he with
          | int _ _ => exact ⟨rfl, by rw [sizeD]⟩
          | str _ _ => exact ⟨rfl, by rw [sizeD]⟩
          | dic _ _ _ => rw [sem] at z; cases z
      | @str _ i hi =>
        refine key (.str i) (fs_str f i) (by rw [sem]) (by rw [sizeD]) fun e q z => ?_
        rcases hf.hsc e q with rfl | he
        · rw [sem_non] at z; cases z
        · cases he with
          | int _ _ => exact ⟨rfl, by rw [sizeD]⟩
          | str _ _ => exact ⟨rfl, by rw [sizeD]⟩
          | dic _ _ _ => rw [sem] at z; cases z
      | dic _ _ _ => cases hd
  have con : ∀ {n : Nat} {no : D} {sc : Option D} {d : D}, FmOk A n (.con no sc d) → ∀ {N : Nat} {ks : List (Key × D)}, St A N (.dic ks) → (Fm.con no sc d).fs (sem (.dic ks)) = sem (.dic ks) → ∃ s, fixOf (.con no sc d) = some s ∧ sizeD s ≤ sizeD (.dic ks) := fun {n no sc d} hf {N ks} hs h => by
    have e2 : (Fm.con no sc d).fs (sem (.dic ks)) = sem d := by rw [sem, con_nd]
    rw [e2] at h
    have hd : d.isA .dict = true := by
      rcases hf.hcon with z | hd
      · subst z; rw [sem_non, sem] at h; cases h
      · cases hd with
        | int _ _ => rw [sem, sem] at h; cases h
        | str _ _ => rw [sem, sem] at h; cases h
        | dic _ _ _ => rfl
    obtain ⟨r, e1, h2⟩ := least_of' (xs := fo1 no sc) (ys := (if d.isA .dict then [d] else [])) (s := d) (by rw [if_pos hd]; simp)
    exact ⟨r, by rw [fixOf]; exact e1, Int.le_trans h2 (Int.le_of_eq (hf.hcon.size_sem hN hs h))⟩
  have flat' : ∀ {n : Nat} {f : Fm}, FmOk A n f → ∀ {N : Nat} {s' : D}, St A N s' → s'.isA .dict = false → f.fs (sem s') = sem s' → ∃ s, fixOf f = some s ∧ sizeD s ≤ sizeD s' := fun {n f} hf {N s'} hs hd h => by
    obtain ⟨s, hm, hl⟩ := flat hf hs hd h
    cases f with
    | con no sc d => obtain ⟨r, e, h2⟩ := least_of hm; exact ⟨r, by rw [fixOf]; exact e, Int.le_trans h2 hl⟩
    | ent no sc ps => obtain ⟨r, e, h2⟩ := least_of hm; exact ⟨r, by rw [fixOf.eq_def]; exact e, Int.le_trans h2 hl⟩
  induction n with
  | zero =>
    intro f hf N s' hs h
    rcases dict_or hs with hd | ⟨ks', rfl⟩
    · exact flat' hf hs hd h
    · cases f with
      | con no sc d => exact con hf hs h
      | ent no sc ps =>
        cases hf.ps0
        obtain ⟨r, e1, h2⟩ := least_of' (xs := fo1 no sc) (ys := [.dic []]) (s := .dic []) (by simp)
        refine ⟨r, by rw [fixOf.eq_def]; simp only; rw [fixEs]; exact e1, Int.le_trans h2 ?_⟩
        rw [sizeD, sizeD, sizeK]; have := sizeK_nn ks'; omega
  | succ n ih =>
    intro f hf N s' hs h
    rcases dict_or hs with hd | ⟨ks', rfl⟩
    · exact flat' hf hs hd h
    · cases f with
      | con no sc d => exact con hf hs h
      | ent no sc ps =>
        have hp := hf.ps
        obtain ⟨m', e', hk'⟩ := KsOk.of hs
        cases e'
        rw [sem, ent_nd] at h
        have h : fsK ps (semK ks') = semK ks' := by injection h
        have each : ∀ p ∈ ps, ∃ s, fixOf p.2 = some s ∧ sizeD s ≤ sizeD (gK ks' p.1) := fun p hp' => by
          have := congrFun h p.1
          rw [fsK_look, sem_gK, mem_lookF hp.nd (show (p.1, p.2) ∈ ps from hp')] at this
          exact ih (hp.ok p hp') (hk'.get (.inr p.1)) this
        obtain ⟨r, er⟩ := fixEs_ex fun p hp' => let ⟨s, e, _⟩ := each p hp'; ⟨s, e⟩
        have hr := (fixEs_ok ps hp er).1
        obtain ⟨s, e1, h2⟩ := least_of' (xs := fo1 no sc) (ys := [.dic r]) (s := .dic r) (by simp)
        refine ⟨s, ?_, Int.le_trans h2 ?_⟩
        · rw [fixOf.eq_def]; simp only; rw [er]; exact e1
        · rw [sizeD, sizeD, hr.size hN, hk'.size hN]
          have : (A.map fun x => sizeD (gK r x)).sum ≤ (A.map fun x => sizeD (gK ks' x)).sum := sum_le fun x _ => by
            have hg := fixEs_get ps hp.nd er x
            cases ql : lookF ps x with
            | none => rw [ql] at hg; simp only at hg; rw [hg, size_non]; exact size_nn _
            | some f =>
              rw [ql] at hg
              simp only at hg
              obtain ⟨s2, q3, q4⟩ := each (x, f) (lookF_mem ql)
              simp only at q3 q4
              rw [hg] at q3
              cases q3
              exact q4
          omega
end
end Mp

set_option Elab.async false
set_option linter.all false
set_option maxRecDepth 100000
set_option maxHeartbeats 4000000
namespace Mp
open PySem L2
/-! ### normal forms -/
mutual
def Fm.nf : Fm → Prop
  | .con _ _ _ => True
  | .ent _ _ ps => (ps.map (·.1)).Pairwise (fun a b => leS a b = true) ∧ (ps.map (·.1)).Nodup ∧ nfK ps
def nfK : List (Str × Fm) → Prop
  | [] => True
  | (_, f) :: r => f.isKeep = false ∧ f.nf ∧ nfK r
end
theorem nfK_mem : ∀ {ps : List (Str × Fm)} {k : Str} {f : Fm}, nfK ps → (k, f) ∈ ps → f.isKeep = false ∧ f.nf
  | [], _, _, _, m => nomatch m
  | (j, g) :: r, k, f, h, m => by
    rw [nfK] at h
    rcases List.mem_cons.mp m with e | m
    · cases e; exact ⟨h.1, h.2.1⟩
    · exact nfK_mem h.2.2 m
theorem nfK_of : ∀ {ps : List (Str × Fm)}, (∀ p ∈ ps, p.2.isKeep = false ∧ p.2.nf) → nfK ps
  | [], _ => by rw [nfK]; trivial
  | (j, g) :: r, h => by
    rw [nfK]
    have h1 := h (j, g) (by simp)
    exact ⟨h1.1, h1.2, nfK_of fun p hp => h p (by simp [hp])⟩
theorem keep_nf : Fm.keep.nf := by unfold Fm.keep; rw [Fm.nf, nfK]; simp
theorem con_nf (a : D) (b : Option D) (c : D) : (Fm.con a b c).nf := by rw [Fm.nf]; trivial
theorem getF_nf {no : D} {sc : Option D} {ps : List (Str × Fm)} (h : (Fm.ent no sc ps).nf) (k : Str) : (getF ps k).nf := by
  rw [Fm.nf] at h
  unfold getF
  cases e : lookF ps k with
  | none => exact keep_nf
  | some f => exact (nfK_mem h.2.2 (lookF_mem e)).2
theorem pairsOf_nf {no : D} {sc : Option D} {ks : List Str} {g : Str → Fm} (nd : ks.Nodup) (hg : ∀ k ∈ ks, (g k).nf) : (Fm.ent no sc (pairsOf ks g)).nf := by
  rw [Fm.nf]
  unfold pairsOf
  have e : (((sortS ks).filter fun k => !(g k).isKeep).map fun k => (k, g k)).map (·.1) = (sortS ks).filter fun k => !(g k).isKeep := by
    rw [List.map_map]; exact List.map_id _
  rw [e]
  refine ⟨(sortS_pw ks).sublist List.filter_sublist, (sortS_nodup nd).sublist List.filter_sublist, nfK_of fun p hp => ?_⟩
  obtain ⟨k, hk, rfl⟩ := List.mem_map.mp hp
  obtain ⟨h1, h2⟩ := List.mem_filter.mp hk
  exact ⟨by simpa using h2, hg k (sortS_mem.mp h1)⟩
theorem chain_nf : ∀ (n : Nat) {f g : Fm}, f.nf → g.nf → (chain n f g).nf
  | 0, f, g, hf, hg => by rw [chain]; exact hg
  | n + 1, f, g, hf, hg => by
    rw [chain_eq]
    cases f with
    | con a b c => exact con_nf _ _ _
    | ent a b ps =>
      cases g with
      | con _ _ _ => exact con_nf _ _ _
      | ent a' b' qs => exact pairsOf_nf (keysU_nodup ps qs) fun k _ => chain_nf n (getF_nf hf k) (getF_nf hg k)
theorem chnF_nf : ∀ (ps : List Pt) {f : Fm}, f.nf → (∀ p ∈ ps, (formOf p).nf) → (chnF f ps).nf
  | [], f, hf, _ => by rw [chnF]; exact hf
  | p :: r, f, hf, h => by rw [chnF]; exact chnF_nf r (chain_nf 12 hf (h p (by simp))) fun q hq => h q (by simp [hq])
theorem esF_nf {no : D} {sc : Option D} {es : List (Str × Pt)} (nd : (es.map (·.1)).Nodup) (h : ∀ p ∈ es, (formOf p.2).nf) : (Fm.ent no sc (pairsOf ((esF es).map (·.1)) (getF (esF es)))).nf := by
  refine pairsOf_nf (by rw [esF_keys]; exact nd) fun k hk => ?_
  rw [esF_keys] at hk
  obtain ⟨p, hp, rfl⟩ := List.mem_map.mp hk
  rw [getF_esF nd hp]
  exact h p hp
theorem formOf_nf {A : List Str} {m n : Nat} {p : Pt} (h : PtOk A m n p) : (formOf p).nf := by
  induction h with
  | keep => rw [formOf]; exact keep_nf
  | drop => rw [formOf]; exact con_nf _ _ _
  | set _ => rw [formOf]; exact con_nf _ _ _
  | dflt _ => rw [formOf, Fm.nf, nfK]; simp
  | merge nd _ _ ih => rw [formOf]; exact esF_nf nd ih
  | inside nd _ _ ih => rw [formOf]; exact esF_nf nd ih
  | chn _ _ ih => rw [formOf]; exact chnF_nf _ keep_nf ih
/-! ### equal forms -/
section
variable {A : List Str}
theorem eqv_tup3 (a b c a' b' c' : D) : D.eqv (.tup [a, b, c]) (.tup [a', b', c']) = (D.eqv a a' && (D.eqv b b' && D.eqv c c')) := by
  rw [D.eqv]; simp only [D.eqvL, List.isEmpty, Bool.and_true]
theorem eqv_tup2 (a b a' b' : D) : D.eqv (.tup [a, b]) (.tup [a', b']) = (D.eqv a a' && D.eqv b b') := by
  rw [D.eqv]; simp only [D.eqvL, List.isEmpty, Bool.and_true]
def scEq : Option D → Option D → Bool
  | none, none => true
  | some d, some e => D.eqv d e
  | _, _ => false
theorem scD_eqv2 (a b : Option D) : D.eqv (scD a) (scD b) = scEq a b := by
  cases a <;> cases b
  · rfl
  · simp only [scD, scEq]; rw [D.eqv]; simp [D.eqvL, eqv_str]
  · simp only [scD, scEq]; rw [D.eqv]; simp [D.eqvL, eqv_str]
  · simp only [scD, scEq]; rw [eqv_tup2]; simp [eqv_str]
theorem fm_eqv (f g : Fm) : D.eqv f.toD g.toD = (D.eqv f.no g.no && (scEq f.sc g.sc && D.eqv (entD f) (entD g))) := by
  rw [toD_eq, toD_eq, eqv_tup3, scD_eqv2]
theorem entD_con (a : D) (b : Option D) (c a' : D) (b' : Option D) (c' : D) : D.eqv (entD (.con a b c)) (entD (.con a' b' c')) = D.eqv c c' := by
  simp only [entD]; rw [eqv_tup2]; simp [eqv_str]
theorem entD_ce (a : D) (b : Option D) (c a' : D) (b' : Option D) (ps : List (Str × Fm)) : D.eqv (entD (.con a b c)) (entD (.ent a' b' ps)) = false := by
  simp only [entD]; rw [eqv_tup2]; simp only [eqs_f (show ("constant" : Str) ≠ "entries" by decide), Bool.false_and]
theorem entD_ec (a : D) (b : Option D) (c a' : D) (b' : Option D) (ps : List (Str × Fm)) : D.eqv (entD (.ent a' b' ps)) (entD (.con a b c)) = false := by
  simp only [entD]; rw [eqv_tup2]; simp only [eqs_f (show ("entries" : Str) ≠ "constant" by decide), Bool.false_and]
theorem entD_ee (a : D) (b : Option D) (a' : D) (b' : Option D) (ps qs : List (Str × Fm)) : D.eqv (entD (.ent a b ps)) (entD (.ent a' b' qs)) = D.eqvL (psD ps) (psD qs) := by
  simp only [entD]; rw [eqv_tup2, D.eqv.eq_def (.tup (psD ps))]; simp [eqv_str]
theorem eqvPs_get : ∀ {ps qs : List (Str × Fm)}, D.eqvL (psD ps) (psD qs) = true → ∀ x, (lookF ps x = none ∧ lookF qs x = none) ∨ ∃ f g, lookF ps x = some f ∧ lookF qs x = some g ∧ D.eqv f.toD g.toD = true
  | [], [], _, x => .inl ⟨rfl, rfl⟩
  | [], (k, g) :: r, h, x => by rw [psD, psD] at h; simp [D.eqvL] at h
  | (k, f) :: r, [], h, x => by rw [psD, psD] at h; simp [D.eqvL] at h
  | (k, f) :: r, (j, g) :: q, h, x => by
    rw [psD, psD] at h
    simp only [D.eqvL, eqv_tup2, eqv_str, Bool.and_eq_true, beq_iff_eq] at h
    obtain ⟨⟨rfl, h1⟩, h2⟩ := h
    unfold lookF
    by_cases e : k = x
    · simp only [if_pos e]; exact .inr ⟨f, g, rfl, rfl, h1⟩
    · simp only [if_neg e]; exact eqvPs_get h2 x
theorem eqvPs_of : ∀ {ps qs : List (Str × Fm)}, ps.map (·.1) = qs.map (·.1) → (ps.map (·.1)).Nodup → (∀ k f g, lookF ps k = some f → lookF qs k = some g → D.eqv f.toD g.toD = true) → D.eqvL (psD ps) (psD qs) = true
  | [], [], _, _, _ => by rw [psD]; rfl
  | [], (k, g) :: r, h, _, _ => by cases h
  | (k, f) :: r, [], h, _, _ => by cases h
  | (k, f) :: r, (j, g) :: q, h, nd, he => by
    obtain ⟨e1, e2⟩ := List.cons.inj h
    have e1 : k = j := e1
    subst e1
    rw [List.map_cons, List.nodup_cons] at nd
    rw [psD, psD]
    simp only [D.eqvL, eqv_tup2, eqv_str, Bool.and_eq_true, beq_iff_eq]
    refine ⟨⟨trivial, he k f g (by simp [lookF]) (by simp [lookF])⟩, eqvPs_of e2 nd.2 fun x f' g' h1 h2 => he x f' g' ?_ ?_⟩
    · have : k ≠ x := fun z => nd.1 (by rw [z]; exact List.mem_map.mpr ⟨_, lookF_mem h1, rfl⟩)
      simp [lookF, this, h1]
    · have : k ≠ x := fun z => nd.1 (by rw [z]; exact List.mem_map.mpr ⟨_, lookF_mem h1, rfl⟩)
      simp [lookF, this, h2]
theorem scEq_fs {n m : Nat} {f g : Fm} (hf : FmOk A n f) (hg : FmOk A m g) (h : scEq f.sc g.sc = true) : (∀ i, f.fs (.int i) = g.fs (.int i)) ∧ ∀ i, f.fs (.str i) = g.fs (.str i) := by
  simp only [fs_int, fs_str]
  cases e1 : f.sc <;> cases e2 : g.sc <;> rw [e1, e2] at h
  · exact ⟨fun _ => rfl, fun _ => rfl⟩
  · cases h
  · cases h
  · have := ((hf.hsc _ e1).eqv_iff (hg.hsc _ e2)).1 h
    exact ⟨fun _ => this, fun _ => this⟩
theorem fm_eqv_fs : ∀ {n m : Nat} {f g : Fm}, FmOk A n f → FmOk A m g → D.eqv f.toD g.toD = true → ∀ t, f.fs t = g.fs t
  | n, m, f, g, hf, hg, h, t => by
    rw [fm_eqv] at h
    simp only [Bool.and_eq_true] at h
    obtain ⟨h1, h2, h3⟩ := h
    obtain ⟨si, ss⟩ := scEq_fs hf hg h2
    cases t with
    | no => rw [fs_no, fs_no]; exact (hf.hno.eqv_iff hg.hno).1 h1
    | int i => exact si i
    | str i => exact ss i
    | nd u =>
      cases f with
      | con a b c =>
        cases g with
        | con a' b' c' => rw [entD_con] at h3; rw [con_nd, con_nd]; exact (hf.hcon.eqv_iff hg.hcon).1 h3
        | ent _ _ _ => rw [entD_ce] at h3; cases h3
      | ent a b ps =>
        cases g with
        | con _ _ _ => rw [entD_ec] at h3; cases h3
        | ent a' b' qs =>
          rw [entD_ee] at h3
          rw [ent_nd, ent_nd]
          refine congrArg T.nd (funext fun x => ?_)
          rw [fsK_look, fsK_look]
          rcases eqvPs_get h3 x with ⟨e1, e2⟩ | ⟨f', g', e1, e2, e3⟩
          · rw [e1, e2]
          · rw [e1, e2]
            have hps : ps ≠ [] := by rintro rfl; cases e1
            have hqs : qs ≠ [] := by rintro rfl; cases e2
            cases n with
            | zero => exact (hps hf.ps0).elim
            | succ n =>
              cases m with
              | zero => exact (hqs hg.ps0).elim
              | succ m => exact fm_eqv_fs (hf.ps.ok _ (lookF_mem e1)) (hg.ps.ok _ (lookF_mem e2)) e3 (u x)
termination_by n => n
theorem keep_eqv' {n : Nat} {f : Fm} (h : FmOk A n f) (e : D.eqv Fm.keep.toD f.toD = true) : f.isKeep = true := by
  rw [fm_eqv] at e
  simp only [Bool.and_eq_true] at e
  obtain ⟨h1, h2, h3⟩ := e
  cases f with
  | con a b c => unfold Fm.keep at h3; rw [entD_ec] at h3; cases h3
  | ent a b ps =>
    unfold Fm.keep at h1 h2 h3
    rw [entD_ee] at h3
    have e1 : a = .non := by
      have : (D.eqv D.non a) = true := h1
      rcases h.hno with z | z
      · exact z
      · have z' : Doc A n a := z
        cases z' <;> simp [D.eqv] at this
    have e2 : b = none := by
      cases b with
      | none => rfl
      | some _ => cases h2
    have e3 : ps = [] := by
      cases ps with
      | nil => rfl
      | cons p r => obtain ⟨k, f⟩ := p; rw [psD, psD] at h3; simp [D.eqvL] at h3
    subst e1; subst e2; subst e3; rfl
end
end Mp

set_option Elab.async false
set_option linter.all false
set_option maxRecDepth 100000
set_option maxHeartbeats 4000000
namespace Mp
open PySem L2
/-! ### differences -/
def wrapK (k : Str) (s : D) : D := if s.isN then .dic [] else .dic [(.inr k, s)]
def dOpts (r : Fm → Fm → Option D) (ps qs : List (Str × Fm)) : List D := (ps.map (·.1) ++ qs.map (·.1)).filterMap fun k => (r (getF ps k) (getF qs k)).map (wrapK k)
def isCon : Fm → Bool
  | .con _ _ _ => true
  | _ => false
def psOf : Fm → List (Str × Fm)
  | .con _ _ _ => []
  | .ent _ _ ps => ps
def dictDiff (r : Fm → Fm → Option D) (f g : Fm) : Option D :=
  if D.eqv (f.run (.dic [])) (g.run (.dic [])) = false then some (.dic [])
  else if D.eqv (entD f) (entD g) = true then none
  else if (isCon f || isCon g) = true then some (.dic [(.inr "aa", .int 0)])
  else smallestD (dOpts r (psOf f) (psOf g))
def scaDiff (f g : Fm) : Option Int := [0, 1, 2].find? fun i => !D.eqv (f.run (.int i)) (g.run (.int i))
def diffOf : Nat → Fm → Fm → Option D
  | 0, _, _ => none
  | n + 1, f, g =>
    if D.eqv f.toD g.toD = true then none
    else if D.eqv f.no g.no = false then some .non
    else match scaDiff f g with
      | some i => some (.int i)
      | none => dictDiff (diffOf n) f g
/-- keys that are no pair of letters -/
def NoAA (B : List Str) : Prop := ("aa" : Str) ∉ B
section
variable {A B : List Str}
theorem run_eqv {n : Nat} {f g : Fm} {s : D} (hf : FmOk A n f) (hg : FmOk A n g) (hs : St A n s) : D.eqv (f.run s) (g.run s) = true ↔ f.fs (sem s) = g.fs (sem s) := by
  rw [(run_ok f hf hs).eqv_iff (run_ok g hg hs), sem_run f hf hs, sem_run g hg hs]
theorem st_int {n : Nat} {i : Int} (h : isScalarD (.int i) = true) : St A n (.int i) := .inr (.int n h)
theorem sca_mem {f g : Fm} {i : Int} (h : scaDiff f g = some i) : (i = 0 ∨ i = 1 ∨ i = 2) ∧ D.eqv (f.run (.int i)) (g.run (.int i)) = false := by
  have h1 := List.mem_of_find?_eq_some h
  have h2 := List.find?_some h
  exact ⟨by simpa using h1, by simpa using h2⟩
theorem sca_none {f g : Fm} (h : scaDiff f g = none) : ∀ i : Int, i = 0 ∨ i = 1 ∨ i = 2 → D.eqv (f.run (.int i)) (g.run (.int i)) = true := fun i hi => by
  have := List.find?_eq_none.mp h i (by simpa using hi)
  simpa using this
theorem sca_ok {i : Int} (h : i = 0 ∨ i = 1 ∨ i = 2) : isScalarD (.int i) = true := by rcases h with rfl | rfl | rfl <;> rfl
theorem sc_of_none {n : Nat} {f g : Fm} (hf : FmOk A n f) (hg : FmOk A n g) (h : scaDiff f g = none) : scEq f.sc g.sc = true := by
  have hq : ∀ i : Int, i = 0 ∨ i = 1 ∨ i = 2 → f.fs (.int i) = g.fs (.int i) := fun i hi => by
    have := (run_eqv hf hg (st_int (sca_ok hi))).1 (sca_none h i hi)
    rw [sem] at this; exact this
  have h0 := hq 0 (by simp)
  have h1 := hq 1 (by simp)
  simp only [fs_int] at h0 h1
  cases e1 : f.sc <;> cases e2 : g.sc <;> rw [e1, e2] at h0 h1
  · rfl
  · simp only at h0 h1; rw [← h0] at h1; cases h1
  · simp only at h0 h1; rw [h0] at h1; cases h1
  · exact ((hf.hsc _ e1).eqv_iff (hg.hsc _ e2)).2 h0
theorem st_nil {n : Nat} : St A (n + 1) (.dic []) := KsOk.nil.st
theorem dOpts_mem {r : Fm → Fm → Option D} {ps qs : List (Str × Fm)} {s : D} (h : s ∈ dOpts r ps qs) : ∃ k u, (k ∈ ps.map (·.1) ∨ k ∈ qs.map (·.1)) ∧ r (getF ps k) (getF qs k) = some u ∧ s = wrapK k u := by
  obtain ⟨k, hk, e⟩ := List.mem_filterMap.mp h
  obtain ⟨u, hu, rfl⟩ := Option.map_eq_some_iff.mp e
  exact ⟨k, u, List.mem_append.mp hk, hu, rfl⟩
theorem wrap_sem {n : Nat} {k : Str} {u : D} (hu : St A n u) (x : Str) : ∃ m, sem (wrapK k u) = .nd m ∧ m k = sem u ∧ ∀ x, x ≠ k → m x = .no := by
  unfold wrapK
  rcases hu with rfl | hu
  · refine ⟨semK [], by rw [show D.non.isN = true from rfl, if_pos rfl, sem], by rw [semK, sem_non], fun x _ => by rw [semK]⟩
  · have : u.isN = false := by cases hu <;> rfl
    refine ⟨semK [(.inr k, u)], by rw [this, if_neg (by simp), sem], by rw [semK, if_pos rfl], fun x hx => ?_⟩
    rw [semK, if_neg (fun z => hx (Sum.inr.inj z).symm), semK]
theorem wrap_ok {n : Nat} {k : Str} {u : D} (hk : k ∈ A) (hu : St A n u) : St A (n + 1) (wrapK k u) := by
  unfold wrapK
  rcases hu with rfl | hu
  · rw [show D.non.isN = true from rfl, if_pos rfl]; exact st_nil
  · have : u.isN = false := by cases hu <;> rfl
    rw [this, if_neg (by simp)]
    exact .inr (.dic (by simp) (by intro p hp; simp at hp; subst hp; exact ⟨k, hk, rfl⟩) (by intro p hp; simp at hp; subst hp; exact hu))
theorem wrap_size (k : Str) (u : D) : sizeD (wrapK k u) = 1 + sizeD u := by
  unfold wrapK
  split
  · next h => cases u <;> first | (cases h; done) | (rw [sizeD, sizeK, sizeD])
  · rw [sizeD, sizeK, sizeK]; omega
theorem ps_of_ok {n : Nat} {f : Fm} (hf : FmOk A (n + 1) f) (hc : isCon f = false) : PsOk A n (psOf f) := by
  cases f with
  | con _ _ _ => cases hc
  | ent no sc ps => exact hf.ps
/-- where a form of entries keeps the other keys -/
theorem ent_get {f : Fm} (hc : isCon f = false) (m : Str → T) : f.fs (.nd m) = .nd fun x => (getF (psOf f) x).fs (m x) := by
  cases f with
  | con _ _ _ => cases hc
  | ent no sc ps => rw [ent_nd]; exact congrArg T.nd (funext fun x => fsK_get ps m x)
theorem getF_keep {n : Nat} {f : Fm} (hf : FmOk B n f) {x : Str} (hx : x ∉ B) : getF (psOf f) x = .keep := by
  cases f with
  | con _ _ _ => exact getF_none (by simp [psOf])
  | ent no sc ps =>
    refine getF_none fun h => ?_
    obtain ⟨p, hp, rfl⟩ := List.mem_map.mp h
    cases n with
    | zero => rw [hf.ps0] at hp; cases hp
    | succ n => exact hx (hf.ps.mem p hp)
theorem con_run {f : Fm} (hc : isCon f = true) : ∃ no sc d, f = .con no sc d := by
  cases f with
  | con a b c => exact ⟨a, b, c, rfl⟩
  | ent _ _ _ => cases hc
theorem con_nokey {n : Nat} {d : D} (hd : St B n d) {x : Str} (hx : x ∉ B) {m : Str → T} (h : sem d = .nd m) : m x = .no := by
  rcases hd with rfl | hd
  · rw [sem] at h; cases h
  · cases hd with
    | int _ _ => rw [sem] at h; cases h
    | str _ _ => rw [sem] at h; cases h
    | dic nd hm hd =>
      rw [sem] at h
      cases h
      rw [semK_look, look_none_of]
      · exact sem_non
      · intro hk
        obtain ⟨p, hp, e⟩ := List.mem_map.mp hk
        obtain ⟨y, hy, e2⟩ := hm p hp
        rw [e] at e2
        cases e2
        exact hx hy
theorem aa_sem : ∃ m, sem (.dic [(.inr "aa", .int 0)]) = .nd m ∧ m "aa" = .int 0 := ⟨semK [(.inr "aa", .int 0)], by rw [sem], by rw [semK, if_pos rfl, sem]⟩
theorem diff_ok (hB : ∀ x ∈ B, x ∈ A) (haa : ("aa" : Str) ∈ A) : ∀ {k n : Nat} {f g : Fm} {s : D}, n ≤ k → FmOk B n f → FmOk B n g → diffOf (k + 1) f g = some s → St A (n + 1) s
  | k, n, f, g, s, hk, hf, hg, h => by
    rw [diffOf] at h
    split at h
    · cases h
    split at h
    · cases h; exact .inl rfl
    split at h
    · next i e => cases h; exact st_int (sca_ok (sca_mem e).1)
    unfold dictDiff at h
    split at h
    · cases h; exact st_nil
    split at h
    · cases h
    split at h
    · cases h
      exact .inr (.dic (by simp) (by intro p hp; simp at hp; subst hp; exact ⟨_, haa, rfl⟩) (by intro p hp; simp at hp; subst hp; exact .int _ rfl))
    · next hc =>
      simp only [Bool.or_eq_true, not_or, Bool.not_eq_true] at hc
      obtain ⟨j, u, hj, e, rfl⟩ := dOpts_mem (smallest_mem h)
      cases n with
      | zero =>
        have z1 : psOf f = [] := by cases f with | con _ _ _ => rfl | ent _ _ _ => exact hf.ps0
        have z2 : psOf g = [] := by cases g with | con _ _ _ => rfl | ent _ _ _ => exact hg.ps0
        rw [z1, z2] at hj; simp at hj
      | succ n =>
        have p1 := ps_of_ok hf hc.1
        have p2 := ps_of_ok hg hc.2
        have hjA : j ∈ A := by
          rcases hj with z | z <;> obtain ⟨p, hp, rfl⟩ := List.mem_map.mp z
          · exact hB _ (p1.mem p hp)
          · exact hB _ (p2.mem p hp)
        cases k with
        | zero => omega
        | succ k => exact wrap_ok hjA (diff_ok hB haa (by omega) (p1.get j) (p2.get j) e)
theorem diff_sound (haa : NoAA B) : ∀ {k n : Nat} {f g : Fm} {s : D}, n ≤ k → FmOk B n f → FmOk B n g → diffOf (k + 1) f g = some s → f.fs (sem s) ≠ g.fs (sem s)
  | k, n, f, g, s, hk, hf, hg, h => by
    rw [diffOf] at h
    split at h
    · cases h
    split at h
    · next e =>
      cases h
      rw [sem, fs_no, fs_no]
      intro z
      rw [hf.hno.eqv_sem hg.hno z] at e; cases e
    split at h
    · next i e =>
      cases h
      obtain ⟨e1, e2⟩ := sca_mem e
      intro z
      rw [(run_eqv hf hg (st_int (sca_ok e1))).2 z] at e2; cases e2
    unfold dictDiff at h
    split at h
    · next e =>
      cases h
      intro z
      rw [(run_eqv (hf.mono (Nat.le_succ n)) (hg.mono (Nat.le_succ n)) st_nil).2 z] at e; cases e
    split at h
    · cases h
    split at h
    · next e1 e2 hc =>
      cases h
      obtain ⟨m, em, e0⟩ := aa_sem
      rw [em]
      have key : ∀ {f g : Fm}, FmOk B n f → FmOk B n g → isCon f = true → isCon g = false → f.fs (.nd m) ≠ g.fs (.nd m) := fun hf hg hcf hcg z => by
        obtain ⟨no, sc, d, rfl⟩ := con_run hcf
        rw [con_nd, ent_get hcg] at z
        have := con_nokey hf.hcon haa z
        rw [getF_keep hg haa, keep_fs, e0] at this
        cases this
      cases c1 : isCon f <;> cases c2 : isCon g
      · rw [c1, c2] at hc; cases hc
      · exact fun z => key hg hf c2 c1 z.symm
      · exact key hf hg c1 c2
      · obtain ⟨no, sc, d, rfl⟩ := con_run c1
        obtain ⟨no', sc', d', rfl⟩ := con_run c2
        rw [Fm.run.eq_def, Fm.run.eq_def] at e1
        rw [entD_con] at e2
        simp only [e2] at e1
        exact (e1 trivial).elim
    · next hc =>
      simp only [Bool.or_eq_true, not_or, Bool.not_eq_true] at hc
      obtain ⟨j, u, hj, e, rfl⟩ := dOpts_mem (smallest_mem h)
      cases n with
      | zero =>
        have z1 : psOf f = [] := by cases f with | con _ _ _ => rfl | ent _ _ _ => exact hf.ps0
        have z2 : psOf g = [] := by cases g with | con _ _ _ => rfl | ent _ _ _ => exact hg.ps0
        rw [z1, z2] at hj; simp at hj
      | succ n =>
        have p1 := ps_of_ok hf hc.1
        have p2 := ps_of_ok hg hc.2
        cases k with
        | zero => omega
        | succ k =>
          have ih := diff_sound haa (by omega) (p1.get j) (p2.get j) e
          obtain ⟨m, em, e0, _⟩ := wrap_sem (k := j) (diff_ok (A := ("aa" : Str) :: B) (B := B) (fun x hx => by simp [hx]) (by simp) (by omega) (p1.get j) (p2.get j) e) j
          rw [em, ent_get hc.1, ent_get hc.2]
          intro z
          have := congrFun (T.nd.inj z) j
          simp only [e0] at this
          exact ih this
theorem size_mem : ∀ {ks : List (Key × D)} {k : Key} {d : D}, (k, d) ∈ ks → sizeD d ≤ sizeK ks
  | [], _, _, m => nomatch m
  | (j, e) :: r, k, d, m => by
    rw [sizeK]
    rcases List.mem_cons.mp m with z | m
    · cases z; have := sizeK_nn r; omega
    · have := size_mem m; have := size_nn e; omega
theorem diff_least (hN : A.Nodup) : ∀ {k n : Nat} {f g : Fm} {s' : D} {N : Nat}, n ≤ k → FmOk B n f → FmOk B n g → St A N s' → f.fs (sem s') ≠ g.fs (sem s') → ∃ s, diffOf (k + 1) f g = some s ∧ sizeD s ≤ sizeD s'
  | k, n, f, g, s', N, hk, hf, hg, hs, hne => by
    rw [diffOf]
    have ne1 : ¬ D.eqv f.toD g.toD = true := fun z => hne (fm_eqv_fs hf hg z _)
    rw [if_neg ne1]
    by_cases h1 : D.eqv f.no g.no = false
    · rw [if_pos h1]; exact ⟨.non, rfl, by rw [sizeD]; exact size_nn s'⟩
    rw [if_neg h1]
    have h1' : f.fs .no = g.fs .no := by
      rw [fs_no, fs_no]; exact (hf.hno.eqv_iff hg.hno).1 (by simpa using h1)
    have hs1 : s' ≠ .non := by rintro rfl; rw [sem] at hne; exact hne h1'
    have hp : 1 ≤ sizeD s' := by
      rcases hs with rfl | hd
      · exact (hs1 rfl).elim
      · cases hd with
        | int _ _ => rw [sizeD]; omega
        | str _ _ => rw [sizeD]; omega
        | @dic _ ks _ _ _ => rw [sizeD]; have := sizeK_nn ks; omega
    cases e : scaDiff f g with
    | some i => exact ⟨.int i, rfl, by rw [sizeD]; exact hp⟩
    | none =>
      obtain ⟨si, ss⟩ := scEq_fs hf hg (sc_of_none hf hg e)
      show ∃ s, dictDiff (diffOf k) f g = some s ∧ _
      unfold dictDiff
      by_cases h2 : D.eqv (f.run (.dic [])) (g.run (.dic [])) = false
      · rw [if_pos h2]; exact ⟨.dic [], rfl, by rw [sizeD, sizeK]; exact hp⟩
      rw [if_neg h2]
      rcases hs with rfl | hd
      · exact (hs1 rfl).elim
      cases hd with
      | int _ _ => rw [sem] at hne; exact (hne (si _)).elim
      | str _ _ => rw [sem] at hne; exact (hne (ss _)).elim
      | dic nd hm hdd =>
        rename_i M ks
        have h3 : ¬ D.eqv (entD f) (entD g) = true := fun z => ne1 (by
          rw [fm_eqv]; simp only [Bool.and_eq_true]
          exact ⟨by simpa using h1, sc_of_none hf hg e, z⟩)
        rw [if_neg h3]
        by_cases hc : (isCon f || isCon g) = true
        · rw [if_pos hc]
          refine ⟨_, rfl, ?_⟩
          have : ks ≠ [] := by
            rintro rfl
            exact hne ((run_eqv (hf.mono (Nat.le_succ n)) (hg.mono (Nat.le_succ n)) st_nil).1 (by simpa using h2))
          cases ks with
          | nil => exact (this rfl).elim
          | cons p r =>
            have h4 := hdd p (by simp)
            have h5 : 1 ≤ sizeD p.2 := by
              generalize p.2 = q at h4
              cases h4 with
              | int _ _ => rw [sizeD]; omega
              | str _ _ => rw [sizeD]; omega
              | @dic _ ks _ _ _ => rw [sizeD]; have := sizeK_nn ks; omega
            rw [sizeD, sizeK, sizeK, sizeD, sizeD, sizeK]
            have := sizeK_nn r
            omega
        · rw [if_neg hc]
          simp only [Bool.or_eq_true, not_or, Bool.not_eq_true] at hc
          rw [sem, ent_get hc.1, ent_get hc.2] at hne
          have : ∃ x, (getF (psOf f) x).fs (semK ks x) ≠ (getF (psOf g) x).fs (semK ks x) := by
            refine Classical.byContradiction fun z => hne (congrArg T.nd (funext fun x => ?_))
            exact Classical.byContradiction fun y => z ⟨x, y⟩
          obtain ⟨x, hx⟩ := this
          have hin : x ∈ (psOf f).map (·.1) ++ (psOf g).map (·.1) := by
            refine Classical.byContradiction fun z => hx ?_
            rw [List.mem_append, not_or] at z
            rw [getF_none z.1, getF_none z.2]
          cases n with
          | zero =>
            have z1 : psOf f = [] := by cases f with | con _ _ _ => rfl | ent _ _ _ => exact hf.ps0
            have z2 : psOf g = [] := by cases g with | con _ _ _ => rfl | ent _ _ _ => exact hg.ps0
            rw [z1, z2] at hin; simp at hin
          | succ n =>
            have p1 := ps_of_ok hf hc.1
            have p2 := ps_of_ok hg hc.2
            cases k with
            | zero => omega
            | succ k =>
              have kok : KsOk A M ks := ⟨nd, hm, hdd⟩
              rw [sem_gK] at hx
              obtain ⟨u, eu, hu⟩ := diff_least hN (k := k) (n := n) (by omega) (p1.get x) (p2.get x) (kok.get (.inr x)) hx
              have hmem : wrapK x u ∈ dOpts (diffOf (k + 1)) (psOf f) (psOf g) := List.mem_filterMap.mpr ⟨x, hin, by rw [eu]; rfl⟩
              obtain ⟨s, es, hle⟩ := smallest_le hmem
              refine ⟨s, es, Int.le_trans hle ?_⟩
              rw [wrap_size, sizeD]
              replace hu : sizeD u ≤ sizeD (gK ks x) := hu
              have : sizeD (gK ks x) ≤ sizeK ks := by
                unfold gK
                cases el : look ks (.inr x) with
                | none => show sizeD .non ≤ _; rw [sizeD]; exact sizeK_nn ks
                | some d =>
                  show sizeD d ≤ _
                  exact size_mem (look_mem el)
              omega
theorem diff_none : ∀ {k n : Nat} {f g : Fm}, n ≤ k → FmOk B n f → FmOk B n g → f.nf → g.nf → diffOf (k + 1) f g = none → D.eqv f.toD g.toD = true
  | k, n, f, g, hk, hf, hg, nf, ng, h => by
    rw [diffOf] at h
    split at h
    · assumption
    split at h
    · cases h
    next h1 =>
    split at h
    · cases h
    next e =>
    unfold dictDiff at h
    split at h
    · cases h
    split at h
    · next h3 =>
      rw [fm_eqv]; simp only [Bool.and_eq_true]
      exact ⟨by simpa using h1, sc_of_none hf hg e, h3⟩
    split at h
    · cases h
    · next hc =>
      simp only [Bool.or_eq_true, not_or, Bool.not_eq_true] at hc
      have hall : ∀ k', k' ∈ (psOf f).map (·.1) ∨ k' ∈ (psOf g).map (·.1) → diffOf k (getF (psOf f) k') (getF (psOf g) k') = none := fun k' hk' => by
        cases ed : diffOf k (getF (psOf f) k') (getF (psOf g) k') with
        | none => rfl
        | some u =>
          have hmem : wrapK k' u ∈ dOpts (diffOf k) (psOf f) (psOf g) := List.mem_filterMap.mpr ⟨k', List.mem_append.mpr hk', by rw [ed]; rfl⟩
          rw [smallest_none h] at hmem; cases hmem
      rw [fm_eqv]; simp only [Bool.and_eq_true]
      refine ⟨by simpa using h1, sc_of_none hf hg e, ?_⟩
      cases f with
      | con _ _ _ => cases hc.1
      | ent a b ps =>
        cases g with
        | con _ _ _ => cases hc.2
        | ent a' b' qs =>
          rw [entD_ee]
          have nps := nf; have nqs := ng
          rw [Fm.nf] at nps nqs
          cases n with
          | zero =>
            have z1 : ps = [] := hf.ps0
            have z2 : qs = [] := hg.ps0
            subst z1; subst z2; rw [psD]; rfl
          | succ n =>
            cases k with
            | zero => omega
            | succ k =>
              have heq : ∀ k', k' ∈ ps.map (·.1) ∨ k' ∈ qs.map (·.1) → D.eqv (getF ps k').toD (getF qs k').toD = true := fun k' hk' =>
                diff_none (by omega) (hf.ps.get k') (hg.ps.get k') (getF_nf nf k') (getF_nf ng k') (hall k' hk')
              have kk : ∀ x, x ∈ ps.map (·.1) ↔ x ∈ qs.map (·.1) := fun x => by
                constructor
                · intro hx
                  refine Classical.byContradiction fun z => ?_
                  have e1 := heq x (.inl hx)
                  rw [getF_none z, keep_eqv (hf.ps.get x)] at e1
                  obtain ⟨p, hp, rfl⟩ := List.mem_map.mp hx
                  have e2 := (nfK_mem nps.2.2 hp).1
                  have : getF ps p.1 = p.2 := by unfold getF; rw [mem_lookF nps.2.1 hp]; rfl
                  rw [this, e2] at e1; cases e1
                · intro hx
                  refine Classical.byContradiction fun z => ?_
                  have e1 := heq x (.inr hx)
                  rw [getF_none z] at e1
                  have e1 := keep_eqv' (hg.ps.get x) e1
                  obtain ⟨p, hp, rfl⟩ := List.mem_map.mp hx
                  have e2 := (nfK_mem nqs.2.2 hp).1
                  have : getF qs p.1 = p.2 := by unfold getF; rw [mem_lookF nqs.2.1 hp]; rfl
                  rw [this, e2] at e1; cases e1
              have keq : ps.map (·.1) = qs.map (·.1) := by
                have perm : (ps.map (·.1)).Perm (qs.map (·.1)) := (List.perm_ext_iff_of_nodup nps.2.1 nqs.2.1).2 kk
                exact perm.eq_of_pairwise (fun a b _ _ h1 h2 => leS_anti h1 h2) nps.1 nqs.1
              refine eqvPs_of keq nps.2.1 fun x f' g' h1 h2 => ?_
              have := heq x (.inl (List.mem_map.mpr ⟨_, lookF_mem h1, rfl⟩))
              unfold getF at this
              rw [h1, h2] at this
              exact this
end
end Mp

set_option Elab.async false
set_option linter.all false
set_option maxRecDepth 100000
set_option maxHeartbeats 4000000
namespace Mp
open PySem L2
def t_fresh_key (K : PySem.W.Frag) : TS :=
  (tSeq (tAsg tDNewK (gName 3))
    (tSeq (tFor (iAny K (tTupF (tCons (tVar 0) (tCons (tVar 1) tNil)))) (gName 4) (tIfS (tTest (tOp (rEqX K) (tOp (rSub K) (tOp (rSub K) (tVar 4) (tC (.int 2))) (tC (.int 0))) (tC (.str "entries")))) (tDrop (tBM K "dict" rUpdD (tVar 3) (tCons (tCB (rDictX K) (tCons (tOp (rSub K) (tOp (rSub K) (tVar 4) (tC (.int 2))) (tC (.int 1))) tNil)) tNil))) tNext))
    (tSeq (tFor (iAny K (tVar 2)) (gName 5) (tIfS (tB (tCB (rIsi K) (tCons (tVar 5) (tCons (tC (.ty "dict")) tNil)))) (tDrop (tBM K "dict" rUpdD (tVar 3) (tCons (tVar 5) tNil))) tNext))
    (tSeq (tAsg (tC (.str "abcdefghijklmnopqrstuvwxyz")) (gName 6))
    (tRet (tOp (rSub K) (tLc2 (iAny K (tVar 6)) (gName 4) tYes (iAny K (tVar 6)) (gName 7) (tTest (tOp (rInX K true) (tOp rAddS (tVar 4) (tVar 7)) (tVar 3))) (tOp rAddS (tVar 4) (tVar 7)) [4, 7] [7]) (tC (.int 0))))))))

def t_dict_difference (K : PySem.W.Frag) (a_KEEP : Addr) (sp_smallest sp_difference_of sp_fresh_key sp_run : Sp) : TS :=
  (tSeq (tPar 2 3 (tCons (tOp (rSub K) (tVar 0) (tC (.int 2))) (tCons (tOp (rSub K) (tVar 1) (tC (.int 2))) tNil)))
    (tSeq (tIfS (tTest (tOp (rNeX K) (tCall sp_run [] E0 (tCons (tVar 0) (tCons tDNewK tNil))) (tCall sp_run [] E0 (tCons (tVar 1) (tCons tDNewK tNil))))) (tRet (tTupF (tCons tDNewK tNil))) tNext)
    (tSeq (tIfS (tTest (tOp (rEqX K) (tVar 2) (tVar 3))) (tRet (tC .non)) tNext)
    (tSeq (tIfS (tOr (tTest (tOp (rEqX K) (tOp (rSub K) (tVar 2) (tC (.int 0))) (tC (.str "constant")))) (tTest (tOp (rEqX K) (tOp (rSub K) (tVar 3) (tC (.int 0))) (tC (.str "constant"))))) (tRet (tTupF (tCons (tDisp [((tCall sp_fresh_key [] E0 (tCons (tVar 0) (tCons (tVar 1) (tCons (tLst (tCons (tOp (rSub K) (tVar 2) (tC (.int 1))) (tCons (tOp (rSub K) (tVar 3) (tC (.int 1))) tNil))) tNil)))), (tC (.int 0)))]) tNil))) tNext)
    (tSeq (tPar3 4 5 6 (tCons (tCB (rDictX K) (tCons (tOp (rSub K) (tVar 2) (tC (.int 1))) tNil)) (tCons (tCB (rDictX K) (tCons (tOp (rSub K) (tVar 3) (tC (.int 1))) tNil)) (tCons (tLst tNil) tNil))))
    (tSeq (tFor (iAny K (tOp rCat (tCB (rListX K) (tCons (tVar 4) tNil)) (tCB (rListX K) (tCons (tVar 5) tNil)))) (gName 7) (tSeq (tAsg (tCall sp_difference_of [] E0 (tCons (tDGet2 (tVar 4) (tVar 7) (tC (.ref a_KEEP))) (tCons (tDGet2 (tVar 5) (tVar 7) (tC (.ref a_KEEP))) tNil))) (gName 8))
    (tIfS (tTest (tOp (fun x y H Q => y = .non ∧ Q (.bl (!decide (x = .non))) H) (tVar 8) (tC .non))) (tDrop (tBM K "list" rAppend (tVar 6) (tCons (tIf (tTest (tOp (fun x y H Q => y = .non ∧ Q (.bl (decide (x = .non))) H) (tOp (rSub K) (tVar 8) (tC (.int 0))) (tC .non))) tDNewK (tDisp [((tVar 7), (tOp (rSub K) (tVar 8) (tC (.int 0))))])) tNil))) tNext)))
    (tRet (tCall sp_smallest [] E0 (tCons (tVar 6) tNil)))))))))

def t_difference_of (K : PySem.W.Frag) (a_SCALARS : Addr) (sp_dict_difference sp_run : Sp) : TS :=
  (tSeq (tIfS (tTest (tOp (rEqX K) (tVar 0) (tVar 1))) (tRet (tC .non)) tNext)
    (tSeq (tIfS (tTest (tOp (rNeX K) (tOp (rSub K) (tVar 0) (tC (.int 0))) (tOp (rSub K) (tVar 1) (tC (.int 0))))) (tRet (tTupF (tCons (tC .non) tNil))) tNext)
    (tSeq (tFor (iAny K (tC (.ref a_SCALARS))) (gName 2) (tIfS (tTest (tOp (rNeX K) (tCall sp_run [] E0 (tCons (tVar 0) (tCons (tVar 2) tNil))) (tCall sp_run [] E0 (tCons (tVar 1) (tCons (tVar 2) tNil))))) (tRet (tTupF (tCons (tVar 2) tNil))) tNext))
    (tRet (tCall sp_dict_difference [] E0 (tCons (tVar 0) (tCons (tVar 1) tNil)))))))

def t_difference (K : PySem.W.Frag) (sp_copied sp_difference_of sp_form_of sp_need_both : Sp) : TS :=
  (tSeq (tDrop (tCall sp_need_both [] E0 (tCons (tVar 0) (tCons (tVar 1) tNil))))
    (tSeq (tAsg (tCall sp_difference_of [] E0 (tCons (tCall sp_form_of [] E0 (tCons (tVar 0) tNil)) (tCons (tCall sp_form_of [] E0 (tCons (tVar 1) tNil)) tNil))) (gName 2))
    (tRet (tIf (tTest (tOp (fun x y H Q => y = .non ∧ Q (.bl (decide (x = .non))) H) (tVar 2) (tC .non))) (tC .non) (tTupF (tCons (tCall sp_copied [] E0 (tCons (tOp (rSub K) (tVar 2) (tC (.int 0))) tNil)) tNil))))))

def t_copied_form (K : PySem.W.Frag) (sp_copied sp_copied_form : Sp) : TS :=
  (tSeq (tAsg (tVar 0) (gTup K 3 (gCons (gName 1) (gCons (gName 2) (gCons (gName 3) gNil)))))
    (tSeq (tIfS (tTest (tOp (rEqX K) (tOp (rSub K) (tVar 2) (tC (.int 0))) (tC (.str "constant")))) (tAsg (tTupF (tCons (tC (.str "constant")) (tCons (tCall sp_copied [] E0 (tCons (tOp (rSub K) (tVar 2) (tC (.int 1))) tNil)) tNil))) (gName 2)) tNext)
    (tSeq (tIfS (tTest (tOp (rEqX K) (tOp (rSub K) (tVar 3) (tC (.int 0))) (tC (.str "constant")))) (tAsg (tTupF (tCons (tC (.str "constant")) (tCons (tCall sp_copied [] E0 (tCons (tOp (rSub K) (tVar 3) (tC (.int 1))) tNil)) tNil))) (gName 3)) (tAsg (tTupF (tCons (tC (.str "entries")) (tCons (tCB (rTupleF K) (tCons (tLc (iAny K (tOp (rSub K) (tVar 3) (tC (.int 1)))) (gTup K 2 (gCons (gName 4) (gCons (gName 5) gNil))) tYes (tTupF (tCons (tVar 4) (tCons (tCall sp_copied_form [] E0 (tCons (tVar 5) tNil)) tNil))) [4, 5]) tNil)) tNil))) (gName 3)))
    (tRet (tTupF (tCons (tCall sp_copied [] E0 (tCons (tVar 1) tNil)) (tCons (tVar 2) (tCons (tVar 3) tNil))))))))

def t_normal_form (K : PySem.W.Frag) (sp_copied_form sp_form_of sp_need_patch : Sp) : TS :=
  (tSeq (tDrop (tCall sp_need_patch [] E0 (tCons (tVar 0) tNil)))
    (tRet (tCall sp_copied_form [] E0 (tCons (tCall sp_form_of [] E0 (tCons (tVar 0) tNil)) tNil))))
end Mp

set_option Elab.async false
set_option linter.all false
set_option maxRecDepth 100000
set_option maxHeartbeats 4000000
namespace Mp
open PySem L2
def t_commute (K : PySem.W.Frag) (sp_chained sp_form_of sp_need_both : Sp) : TS :=
  (tSeq (tDrop (tCall sp_need_both [] E0 (tCons (tVar 0) (tCons (tVar 1) tNil))))
    (tSeq (tPar 2 3 (tCons (tCall sp_form_of [] E0 (tCons (tVar 0) tNil)) (tCons (tCall sp_form_of [] E0 (tCons (tVar 1) tNil)) tNil)))
    (tRet (tOp (rEqX K) (tCall sp_chained [] E0 (tCons (tVar 2) (tCons (tVar 3) tNil))) (tCall sp_chained [] E0 (tCons (tVar 3) (tCons (tVar 2) tNil)))))))

def t_absorbs (K : PySem.W.Frag) (sp_chained sp_form_of sp_need_both : Sp) : TS :=
  (tSeq (tDrop (tCall sp_need_both [] E0 (tCons (tVar 0) (tCons (tVar 1) tNil))))
    (tSeq (tAsg (tCall sp_form_of [] E0 (tCons (tVar 0) tNil)) (gName 2))
    (tRet (tOp (rEqX K) (tCall sp_chained [] E0 (tCons (tCall sp_form_of [] E0 (tCons (tVar 1) tNil)) (tCons (tVar 2) tNil))) (tVar 2)))))

def t_idempotent (K : PySem.W.Frag) (sp_chained sp_form_of sp_need_patch : Sp) : TS :=
  (tSeq (tDrop (tCall sp_need_patch [] E0 (tCons (tVar 0) tNil)))
    (tSeq (tAsg (tCall sp_form_of [] E0 (tCons (tVar 0) tNil)) (gName 1))
    (tRet (tOp (rEqX K) (tCall sp_chained [] E0 (tCons (tVar 1) (tCons (tVar 1) tNil))) (tVar 1)))))

def t_need_both (K : PySem.W.Frag) (sp_need_patch : Sp) : TS :=
  (tSeq (tDrop (tCall sp_need_patch [] E0 (tCons (tVar 0) tNil)))
    (tDrop (tCall sp_need_patch [] E0 (tCons (tVar 1) tNil))))
end Mp

set_option Elab.async false
set_option linter.all false
set_option maxRecDepth 100000
set_option maxHeartbeats 4000000
namespace Mp
open PySem L2
local macro_rules | `(tactic| walk_at "s") => `(tactic| first
  | with_reducible refine ds_seq ?_
  | with_reducible refine ds_ret ?_
  | with_reducible refine ds_if ?_
  | with_reducible refine ds_asg ?_
  | with_reducible refine ds_drop ?_
  | with_reducible refine ds_next ?_
  | with_reducible refine ds_retN ?_
  | with_reducible refine then_nx ?_
  | with_reducible refine then_rt ?_
  | with_reducible refine gives_rt ?_
  | with_reducible refine gives_nx
  | with_reducible refine dt_not ?_
  | with_reducible refine dt_test ?_
  | with_reducible refine dt_B ?_
  | with_reducible refine dt_and ?_
  | with_reducible refine dt_or ?_
  | with_reducible refine dt_yes ?_
  | with_reducible refine ex_bl ?_
  | with_reducible refine ex_ii ?_
  | ((with_reducible show DE _ (tVar _) _ _); refine de_var rfl ?_)
  | with_reducible refine de_int ?_
  | with_reducible refine de_str ?_
  | with_reducible refine de_bl ?_
  | with_reducible refine de_non ?_
  | with_reducible refine de_sub ?_
  | with_reducible refine de_eq ?_
  | with_reducible refine de_ne ?_
  | with_reducible refine de_in ?_
  | with_reducible refine de_add ?_
  | with_reducible refine de_subI ?_
  | with_reducible refine de_lt ?_
  | with_reducible refine de_le ?_
  | with_reducible refine de_gt ?_
  | with_reducible refine de_ge ?_
  | with_reducible refine de_neg ?_
  | with_reducible refine de_isN ?_
  | with_reducible refine de_notN ?_
  | with_reducible refine de_chainII ?_
  | with_reducible refine de_len ?_
  | with_reducible refine de_isi .str rfl ?_
  | with_reducible refine de_isi .int rfl ?_
  | with_reducible refine de_isi .bool rfl ?_
  | with_reducible refine de_isi .dict rfl ?_
  | with_reducible refine de_isi .tuple rfl ?_
  | with_reducible refine de_isi .list rfl ?_
  | with_reducible refine de_all ?_
  | with_reducible refine de_sum ?_
  | with_reducible refine de_if ?_
  | with_reducible refine de_andV ?_
  | with_reducible refine de_orV ?_
  | with_reducible refine de_notV ?_
  | with_reducible refine de_tuple ?_
  | with_reducible refine de_get1 ?_
  | with_reducible refine de_get2 ?_
  | with_reducible refine de_tup0 ?_
  | with_reducible refine de_tup1 ?_
  | with_reducible refine de_tup2 ?_
  | with_reducible refine de_tup3 ?_
  | with_reducible refine de_tup4 ?_
  | with_reducible refine de_tup ?_
  | with_reducible refine de_isB ?_
  | with_reducible refine de_notB ?_
  | ((with_reducible show DE _ (tCall (SpT _ _) _ _ _) _ _); refine de_ct rfl rfl ?_)
  | with_reducible refine de_call ?_
  | with_reducible refine da_nil ?_
  | with_reducible refine da_cons ?_)

def NoTwo (B : List Str) : Prop := ∀ x ∈ B, x.length ≠ 2
theorem NoTwo.aa {B : List Str} (h : NoTwo B) : NoAA B := fun m => h _ m (by decide)
structure UsOk (B : List Str) (us : List (Key × D)) : Prop where
  nd : (us.map (·.1)).Nodup
  mem : ∀ p ∈ us, ∃ x ∈ B, p.1 = .inr x
section
variable {A B : List Str} {K : PySem.W.Frag}
theorem UsOk.nil : UsOk B [] := ⟨by simp, fun p h => nomatch h⟩
theorem putD_keys {α : Type} {xs : List (Key × α)} {k : Key} (d : α) (h : k ∈ xs.map (·.1)) : (putD xs k d).map (·.1) = xs.map (·.1) := by
  unfold putD
  rw [if_pos, List.map_map]
  · refine List.map_congr_left fun p _ => ?_
    show (if p.1 = k then (p.1, d) else p).1 = p.1
    split <;> rfl
  · obtain ⟨p, hp, e⟩ := List.mem_map.mp h
    exact List.any_eq_true.mpr ⟨p, hp, decide_eq_true e⟩
theorem UsOk.ofKeys {us vs : List (Key × D)} (e : us.map (·.1) = vs.map (·.1)) (h : UsOk B us) : UsOk B vs := ⟨e ▸ h.nd, fun p hp => by
  have : p.1 ∈ us.map (·.1) := by rw [e]; exact List.mem_map.mpr ⟨p, hp, rfl⟩
  obtain ⟨q, hq, e2⟩ := List.mem_map.mp this
  rw [← e2]
  exact h.mem q hq⟩
theorem UsOk.put {us : List (Key × D)} (h : UsOk B us) {x : Str} (hx : x ∈ B) (d : D) : UsOk B (putD us (.inr x) d) := by
  by_cases hk : (.inr x : Key) ∈ us.map (·.1)
  · exact h.ofKeys (by rw [putD_keys d hk])
  · rw [putD_new hk]
    refine ⟨?_, fun p hp => ?_⟩
    · rw [List.map_append, List.nodup_append]
      refine ⟨h.nd, by simp, fun a ha b hb => ?_⟩
      simp at hb
      rintro rfl
      rw [hb] at ha
      exact hk ha
    · rcases List.mem_append.mp hp with z | z
      · exact h.mem p z
      · simp at z; subst z; exact ⟨x, hx, rfl⟩
theorem UsOk.merge : ∀ {ms us : List (Key × D)}, UsOk B us → (∀ p ∈ ms, ∃ x ∈ B, p.1 = .inr x) → UsOk B (mergeD us ms)
  | [], us, h, _ => h
  | (k, d) :: r, us, h, g => by
    obtain ⟨x, hx, e⟩ := g (k, d) (by simp)
    have e : k = .inr x := e
    subst e
    show UsOk B (mergeD (putD us (.inr x) d) r)
    exact UsOk.merge (h.put hx d) fun p hp => g p (by simp [hp])
theorem UsOk.len {us : List (Key × D)} (h : UsOk B us) : us.length ≤ B.length := keys_le h.nd h.mem
theorem UsOk.no {us : List (Key × D)} (h : UsOk B us) {x : Str} (hx : x ∉ B) : look us (.inr x) = none := by
  refine look_none_of fun hk => ?_
  obtain ⟨p, hp, e⟩ := List.mem_map.mp hk
  obtain ⟨y, hy, e2⟩ := h.mem p hp
  rw [e] at e2
  cases e2
  exact hx hy
def UsX (B : List Str) (x : D) : Prop := ∀ ks, x = .dic ks → UsOk B ks
def R_fresh_key (B : List Str) (n : Nat) (ds : List D) (d : D) : Prop := ∃ f g x y, ds = [Fm.toD f, Fm.toD g, .lst [x, y]] ∧ FmOk B n f ∧ FmOk B n g ∧ UsX B x ∧ UsX B y ∧ d = .str "aa"
theorem FmOk.psAny {n : Nat} {no : D} {sc : Option D} {ps : List (Str × Fm)} (h : FmOk A n (.ent no sc ps)) : PsOk A (n - 1) ps := by
  cases n with
  | zero => rw [h.ps0]; exact .nil
  | succ n => exact h.ps
theorem let_at {i : Nat} {d : D} (h : (letters.cps.toList.map fun n => D.str ⟨#[n]⟩)[i]? = some d) : ∃ c, d = .str ⟨#[c]⟩ ∧ (i = 0 → c = 97) ∧ i < 26 := by
  have hl : i < (letters.cps.toList.map fun n => D.str ⟨#[n]⟩).length := (List.getElem?_eq_some_iff.mp h).1
  have hl : i < 26 := hl
  rw [List.getElem?_map] at h
  obtain ⟨c, hc, rfl⟩ := Option.map_eq_some_iff.mp h
  refine ⟨c, rfl, fun z => ?_, hl⟩
  subst z
  have : letters.cps.toList[0]? = some 97 := by decide
  rw [this] at hc
  cases hc; rfl
theorem two_len (a b : Nat) : ((⟨#[a]⟩ : Str) ++ (⟨#[b]⟩ : Str)).length = 2 := rfl
theorem p_fresh_key (hB : B.length ≤ 60) (h2 : NoTwo B) (n : Nat) (ds : List D) (d : D) (h : R_fresh_key B n ds d) : DS ⟨K, none⟩ (t_fresh_key K) (slots ["form", "other", "states", "used", "one", "state", "letters", "two"] ds) (Gives d) := by
  obtain ⟨f, g, x, y, rfl, hf, hg, hx, hy, rfl⟩ := h
  show DS _ _ [.dat f.toD, .dat g.toD, .dat (.lst [x, y]), .un, .un, .un, .un, .un] _
  unfold t_fresh_key
  refine ds_seq (ds_asgN (dn_dnew (then_nx (ds_seq (ds_for (js := [4]) (di_any ?_))))))
  repeat walk_at "s"
  refine ⟨[f.toD, g.toD], rfl, fun i δ => ∃ us z4, UsOk B us ∧ δ = [.dat f.toD, .dat g.toD, .dat (.lst [x, y]), .own (.dic us), z4, .un, .un, .un], ⟨[], .un, .nil, rfl⟩, fun i d δ' hd w => ?_, fun δ' w => ?_⟩
  · obtain ⟨us, z4, hu, rfl⟩ := w
    obtain ⟨q, rfl, hq⟩ : ∃ q : Fm, d = q.toD ∧ FmOk B n q := by
      rcases i with _ | _ | i
      · cases hd; exact ⟨f, rfl, hf⟩
      · cases hd; exact ⟨g, rfl, hg⟩
      · cases hd
    refine dg_name ?_
    have eq := toD_eq q
    repeat walk_at "s"
    refine ⟨entD q, by rw [eq]; rfl, ?_⟩
    repeat walk_at "s"
    cases q with
    | con a b c =>
      refine ⟨.str "constant", rfl, ?_⟩
      repeat walk_at "s"
      refine ⟨Nat.zero_le _, _, rfl, it_f (eqs_f (by decide)) (ds_next ⟨us, _, hu, rfl⟩)⟩
    | ent a b ps =>
      have hp := hq.psAny
      refine ⟨.str "entries", rfl, ?_⟩
      repeat walk_at "s"
      refine ⟨Nat.zero_le _, _, rfl, it_t (eqs_t _) (ds_update rfl (dn_dict ?_).de)⟩
      repeat walk_at "s"
      refine ⟨entD (.ent a b ps), by rw [eq]; rfl, ?_⟩
      repeat walk_at "s"
      obtain ⟨e1, e2⟩ := psD_dict hp
      refine ⟨.tup (psD ps), rfl, .inl ⟨_, e1, _, rfl, ?_, _, _, ?_, rfl⟩⟩
      · have := hu.len; have := hp.len; rw [e2, List.length_map]; omega
      · rw [e2]
        refine hu.merge fun p hp' => ?_
        obtain ⟨r, hr, rfl⟩ := List.mem_map.mp hp'
        exact ⟨r.1, hp.mem r hr, rfl⟩
  · obtain ⟨us, z4, hu, rfl⟩ := w
    refine then_nx (ds_seq (ds_for (js := [5]) (di_any ?_)))
    repeat walk_at "s"
    refine ⟨[x, y], rfl, fun i δ => ∃ us z5, UsOk B us ∧ noOwn [z5] = true ∧ δ = [.dat f.toD, .dat g.toD, .dat (.lst [x, y]), .own (.dic us), z4, z5, .un, .un], ⟨us, .un, hu, rfl, rfl⟩, fun i d δ' hd w => ?_, fun δ' w => ?_⟩
    · obtain ⟨us, z5, hu, _, rfl⟩ := w
      have hd' : UsX B d := by
        rcases i with _ | _ | i
        · cases hd; exact hx
        · cases hd; exact hy
        · cases hd
      refine dg_name ?_
      repeat walk_at "s"
      refine it_c (fun e => ?_) fun e => ds_next ⟨us, _, hu, rfl, rfl⟩
      obtain ⟨ks, rfl⟩ : ∃ ks, d = .dic ks := by cases d <;> first | (cases e; done) | exact ⟨_, rfl⟩
      have hk := hd' ks rfl
      refine ds_update rfl ?_
      repeat walk_at "s"
      refine ⟨ks, rfl, ?_, _, _, hu.merge hk.mem, rfl, rfl⟩
      have := hu.len; have := hk.len; omega
    · obtain ⟨us, z5, hu, hz5, rfl⟩ := w
      refine then_nx (ds_seq (ds_asg (de_str (then_nx (ds_pub 3 rfl (ds_ret (de_sub (dn_lc2 (js := [4]) (js1 := [7]) (by simp) (by simp) (di_any (de_var rfl ?_))).de)))))))
      refine ⟨_, rfl, fun i acc => acc.length = 26 * i ∧ (0 < i → acc[0]? = some (.str "aa")), ⟨rfl, fun h => absurd h (by simp)⟩, fun i d acc hd w => ?_, fun acc w => ?_⟩
      · obtain ⟨c, rfl, hc, hi⟩ := let_at hd
        refine dg_name ⟨by simpa [noOwn, wipeD] using hz5, dt_yes (it_t rfl (di_any (de_var rfl ⟨_, rfl, fun j acc => acc.length = 26 * i + j ∧ j ≤ 26 ∧ (0 < i ∨ 0 < j → acc[0]? = some (.str "aa")), ⟨by rw [w.1]; rfl, by omega, fun h => w.2 (by omega)⟩, fun j acc h => by omega, fun j e acc he w1 => ?_, fun acc w1 => ?_⟩)))⟩
        · obtain ⟨c1, rfl, hc1, hj⟩ := let_at he
          have hno : look us (.inr ((⟨#[c]⟩ : Str) ++ (⟨#[c1]⟩ : Str))) = none := hu.no fun m => h2 _ m (two_len c c1)
          refine dg_name (dt_test (de_in (de_addS (de_var rfl (de_var rfl ⟨_, _, rfl, rfl, (by show 2 ≤ 1000; omega), de_var rfl ⟨(look us (.inr ((⟨#[c]⟩ : Str) ++ (⟨#[c1]⟩ : Str)))).isSome, rfl, ?_⟩⟩)))))
          rw [hno]
          refine ⟨_, rfl, it_t rfl (de_addS (de_var rfl (de_var rfl ⟨_, _, rfl, rfl, (by show 2 ≤ 1000; omega), ?_⟩)))⟩
          refine ⟨by rw [List.length_append, w1.1]; rfl, by omega, fun _ => ?_⟩
          by_cases hz : 0 < i ∨ 0 < j
          · have := w1.2.2 hz
            rw [List.getElem?_append_left]
            · exact this
            · exact (List.getElem?_eq_some_iff.mp this).1
          · have i0 : i = 0 := by omega
            have j0 : j = 0 := by omega
            have : acc = [] := List.length_eq_zero_iff.mp (by rw [w1.1, i0, j0])
            rw [this, hc i0, hc1 j0]
            rfl
        · have hl : (letters.cps.toList.map fun n => D.str ⟨#[n]⟩).length = 26 := by decide
          obtain ⟨a1, a2, a3⟩ := w1
          replace a1 : acc.length = 26 * i + 26 := a1
          replace a3 : 0 < i ∨ 0 < 26 → acc[0]? = some (.str "aa") := a3
          exact ⟨by omega, fun _ => a3 (.inr (by omega))⟩
      · have hl : (letters.cps.toList.map fun n => D.str ⟨#[n]⟩).length = 26 := by decide
        have a3 := w.2 (by decide)
        repeat walk_at "s"
        refine ⟨.str "aa", ?_, rfl⟩
        show atI acc 0 = _
        rw [show (0 : Int) = ((0 : Nat) : Int) from rfl]
        exact atI_nat a3
end
end Mp

set_option Elab.async false
set_option linter.all false
set_option maxRecDepth 100000
set_option maxHeartbeats 4000000
namespace Mp
open PySem L2
local macro_rules | `(tactic| walk_at "s") => `(tactic| first
  | with_reducible refine ds_seq ?_
  | with_reducible refine ds_ret ?_
  | with_reducible refine ds_if ?_
  | with_reducible refine ds_asg ?_
  | with_reducible refine ds_drop ?_
  | with_reducible refine ds_next ?_
  | with_reducible refine ds_retN ?_
  | with_reducible refine then_nx ?_
  | with_reducible refine then_rt ?_
  | with_reducible refine gives_rt ?_
  | with_reducible refine gives_nx
  | with_reducible refine dt_not ?_
  | with_reducible refine dt_test ?_
  | with_reducible refine dt_B ?_
  | with_reducible refine dt_and ?_
  | with_reducible refine dt_or ?_
  | with_reducible refine dt_yes ?_
  | with_reducible refine ex_bl ?_
  | with_reducible refine ex_ii ?_
  | ((with_reducible show DE _ (tVar _) _ _); refine de_var rfl ?_)
  | with_reducible refine de_int ?_
  | with_reducible refine de_str ?_
  | with_reducible refine de_bl ?_
  | with_reducible refine de_non ?_
  | with_reducible refine de_sub ?_
  | with_reducible refine de_eq ?_
  | with_reducible refine de_ne ?_
  | with_reducible refine de_in ?_
  | with_reducible refine de_add ?_
  | with_reducible refine de_subI ?_
  | with_reducible refine de_lt ?_
  | with_reducible refine de_le ?_
  | with_reducible refine de_gt ?_
  | with_reducible refine de_ge ?_
  | with_reducible refine de_neg ?_
  | with_reducible refine de_isN ?_
  | with_reducible refine de_notN ?_
  | with_reducible refine de_chainII ?_
  | with_reducible refine de_len ?_
  | with_reducible refine de_isi .str rfl ?_
  | with_reducible refine de_isi .int rfl ?_
  | with_reducible refine de_isi .bool rfl ?_
  | with_reducible refine de_isi .dict rfl ?_
  | with_reducible refine de_isi .tuple rfl ?_
  | with_reducible refine de_isi .list rfl ?_
  | with_reducible refine de_all ?_
  | with_reducible refine de_sum ?_
  | with_reducible refine de_if ?_
  | with_reducible refine de_andV ?_
  | with_reducible refine de_orV ?_
  | with_reducible refine de_notV ?_
  | with_reducible refine de_tuple ?_
  | with_reducible refine de_get1 ?_
  | with_reducible refine de_get2 ?_
  | with_reducible refine de_tup0 ?_
  | with_reducible refine de_tup1 ?_
  | with_reducible refine de_tup2 ?_
  | with_reducible refine de_tup3 ?_
  | with_reducible refine de_tup4 ?_
  | with_reducible refine de_tup ?_
  | with_reducible refine de_isB ?_
  | with_reducible refine de_notB ?_
  | ((with_reducible show DE _ (tCall (SpT _ _) _ _ _) _ _); refine de_ct rfl rfl ?_)
  | with_reducible refine de_call ?_
  | with_reducible refine da_nil ?_
  | with_reducible refine da_cons ?_)

section
variable {A B : List Str} {K : PySem.W.Frag}
theorem FmOk.sub (h : ∀ x ∈ A, x ∈ B) {n : Nat} {f : Fm} (g : FmOk A n f) : FmOk B n f := by
  induction g with
  | con a b c => exact .con (a.sub h) (fun e he => (b e he).sub h) (c.sub h)
  | ent a b nd mem _ ih => exact .ent (a.sub h) (fun e he => (b e he).sub h) nd (fun p hp => h _ (mem p hp)) ih
  | nil a b => exact .nil (a.sub h) fun e he => (b e he).sub h
theorem PtOk.sub (h : ∀ x ∈ A, x ∈ B) {m n : Nat} {p : Pt} (g : PtOk A m n p) : PtOk B m n p := by
  induction g with
  | keep => exact .keep
  | drop => exact .drop
  | set d => exact .set (d.sub h)
  | dflt d => exact .dflt (d.sub h)
  | merge nd mem _ ih => exact .merge nd (fun p hp => h _ (mem p hp)) ih
  | inside nd mem _ ih => exact .inside nd (fun p hp => h _ (mem p hp)) ih
  | chn l _ ih => exact .chn l ih
def R_dict_difference (B : List Str) : Nat → List D → D → Prop
  | 0, _, _ => False
  | n + 1, ds, d => ∃ f g, ds = [Fm.toD f, Fm.toD g] ∧ FmOk B n f ∧ FmOk B n g ∧ d = optD (dictDiff (diffOf n) f g)
def R_difference_of (B : List Str) : Nat → List D → D → Prop
  | 0, _, _ => False
  | n + 1, ds, d => ∃ f g, ds = [Fm.toD f, Fm.toD g] ∧ FmOk B n f ∧ FmOk B n g ∧ d = optD (diffOf (n + 1) f g)
theorem isCon_str (f : Fm) : ∃ s, D.sub (entD f) (.int 0) = some (.str s) ∧ D.eqv (.str s) (.str "constant") = isCon f := by
  cases f with
  | con _ _ _ => exact ⟨"constant", rfl, eqs_t _⟩
  | ent _ _ _ => exact ⟨"entries", rfl, eqs_f (by decide)⟩
def entX : Fm → D
  | .con _ _ d => d
  | .ent _ _ ps => .tup (psD ps)
theorem entX_sub (f : Fm) : D.sub (entD f) (.int 1) = some (entX f) := by cases f <;> rfl
theorem entX_us {n : Nat} {f : Fm} (h : FmOk B n f) : UsX B (entX f) := by
  intro ks e
  cases f with
  | con a b d =>
    have hd := h.hcon
    have e : d = .dic ks := e
    subst e
    obtain ⟨m, _, nd, mem, _⟩ := hd.dict
    exact ⟨nd, mem⟩
  | ent _ _ _ => cases e
theorem entD_deep {n : Nat} {f : Fm} (h : FmOk B n f) (hn : n ≤ 11) : (entD f).deep ≤ 50 := by
  have h1 := toD_deep h
  rw [toD_eq] at h1
  have := deep_tup (xs := [f.no, scD f.sc, entD f]) (d := entD f) (by simp)
  omega
theorem fm_deep {n : Nat} {f : Fm} (h : FmOk B n f) (hn : n ≤ 11) : f.toD.deep ≤ 50 := Nat.le_trans (toD_deep h) (by omega)
def nextOpts (r : Fm → Fm → Option D) (ps qs : List (Str × Fm)) (k : Str) : List D := match r (getF ps k) (getF qs k) with
  | none => []
  | some u => [wrapK k u]
theorem filterMap_take {α β : Type} {xs : List α} {f : α → Option β} {i : Nat} {d : α} (h : xs[i]? = some d) : (xs.take (i + 1)).filterMap f = (xs.take i).filterMap f ++ (match f d with | none => [] | some y => [y]) := by
  rw [List.take_succ, h, List.filterMap_append]
  cases e : f d <;> simp [e]
theorem fmap_len {α β : Type} (f : α → Option β) : ∀ xs : List α, (xs.filterMap f).length ≤ xs.length := fun xs => List.length_filterMap_le f xs
theorem p_dict_difference (hA : Alp A) (hB : ∀ x ∈ B, x ∈ A) (haa : ("aa" : Str) ∈ A) {a : Addr} (hK : ∀ G, Has K G Fm.keep.toD (.ref a)) (n : Nat) (hn : n ≤ 10) (ds : List D) (d : D) (h : R_dict_difference B (n + 1) ds d) :
    DS ⟨K, none⟩ (t_dict_difference K a (SpP K (R_smallest A (n + 1))) (SpP K (R_difference_of B n)) (SpP K (R_fresh_key B n)) (SpP K (R_run A (n + 2)))) (slots ["form", "other", "one", "two", "first", "second", "options", "key", "found"] ds) (Gives d) := by
  obtain ⟨f, g, rfl, hf, hg, rfl⟩ := h
  show DS _ _ [.dat f.toD, .dat g.toD, .un, .un, .un, .un, .un, .un, .un] _
  unfold t_dict_difference
  have hf1 : FmOk A (n + 1) f := (hf.sub hB).mono (by omega)
  have hg1 : FmOk A (n + 1) g := (hg.sub hB).mono (by omega)
  have r1 := run_ok f hf1 st_nil
  have r2 := run_ok g hg1 st_nil
  refine ds_seq (ds_par ?_)
  repeat walk_at "s"
  refine ⟨entD f, by rw [toD_eq]; rfl, ?_⟩
  repeat walk_at "s"
  refine ⟨entD g, by rw [toD_eq]; rfl, ?_⟩
  repeat walk_at "s"
  refine (dn_dnew ?_).de
  repeat walk_at "s"
  refine ⟨[f.toD, .dic []], _, rfl, ⟨f, .dic [], rfl, hf1, st_nil, rfl⟩, ?_⟩
  repeat walk_at "s"
  refine (dn_dnew ?_).de
  repeat walk_at "s"
  refine ⟨[g.toD, .dic []], _, rfl, ⟨g, .dic [], rfl, hg1, st_nil, rfl⟩, Nat.le_trans r1.deep (by omega), _, rfl, ?_⟩
  unfold dictDiff
  cases q1 : D.eqv (f.run (.dic [])) (g.run (.dic [])) with
  | false =>
    refine it_t rfl ?_
    repeat walk_at "s"
    refine (dn_dnew ?_).de
    rfl
  | true =>
    refine it_f rfl ?_
    rw [if_neg (by simp)]
    repeat walk_at "s"
    refine ⟨entD_deep hf (by omega), _, rfl, it_c (fun q2 => ?_) fun q2 => ?_⟩
    · rw [if_pos q2]
      repeat walk_at "s"
      rfl
    rw [if_neg (by rw [q2]; simp)]
    obtain ⟨s1, e1, c1⟩ := isCon_str f
    obtain ⟨s2, e2, c2⟩ := isCon_str g
    have fr : DS ⟨K, none⟩ (tRet (tTupF (tCons (tDisp [((tCall (SpP K (R_fresh_key B n)) [] E0 (tCons (tVar 0) (tCons (tVar 1) (tCons (tLst (tCons (tOp (rSub K) (tVar 2) (tC (.int 1))) (tCons (tOp (rSub K) (tVar 3) (tC (.int 1))) tNil))) tNil)))), (tC (.int 0)))]) tNil))) [.dat f.toD, .dat g.toD, .dat (entD f), .dat (entD g), .un, .un, .un, .un, .un] (fun o => o = .rt (optD (some (.dic [(.inr "aa", .int 0)])))) := by
      repeat walk_at "s"
      refine (dn_disp (dps_cons ?_)).de
      repeat walk_at "s"
      refine (dn_lst ?_).de
      repeat walk_at "s"
      refine ⟨entX f, entX_sub f, ?_⟩
      repeat walk_at "s"
      refine ⟨entX g, entX_sub g, ?_⟩
      repeat walk_at "s"
      refine ⟨[entX f, entX g], rfl, by simp, ?_⟩
      repeat walk_at "s"
      refine ⟨[f.toD, g.toD, .lst [entX f, entX g]], _, rfl, ⟨f, g, _, _, rfl, hf, hg, entX_us hf, entX_us hg, rfl⟩, ?_⟩
      repeat walk_at "s"
      exact ⟨.inr "aa", rfl, dps_nil ⟨by simp, rfl⟩⟩
    have fr := fun {R : Out → Prop} (z : R (.rt (optD (some (.dic [(.inr "aa", .int 0)]))))) => fr.imp (R' := R) fun o e => by rw [e]; exact z
    repeat walk_at "s"
    refine ⟨_, e1, ?_⟩
    repeat walk_at "s"
    refine ⟨Nat.zero_le _, _, rfl, ?_⟩
    rw [c1]
    cases k1 : isCon f with
    | true =>
      refine it_t rfl (it_t rfl ?_)
      simp only [Bool.true_or, if_true]
      exact fr (then_rt (gives_rt rfl))
    | false =>
      refine it_f rfl ?_
      repeat walk_at "s"
      refine ⟨_, e2, ?_⟩
      repeat walk_at "s"
      refine ⟨Nat.zero_le _, _, rfl, ?_⟩
      rw [c2]
      cases k2 : isCon g with
      | true =>
        refine it_t rfl ?_
        simp only [Bool.or_true, if_true]
        exact fr (then_rt (gives_rt rfl))
      | false =>
        refine it_f rfl ?_
        simp only [Bool.or_self, Bool.false_eq_true, if_false]
        cases f with
        | con _ _ _ => cases k1
        | ent na sa ps =>
        cases g with
        | con _ _ _ => cases k2
        | ent nb sb qs =>
        have hp := hf.psAny
        have hq := hg.psAny
        obtain ⟨e3, e4⟩ := psD_dict hp
        obtain ⟨e5, e6⟩ := psD_dict hq
        have lp : ps.length ≤ 60 := Nat.le_trans (len_le_alp (xs := ps.map (·.1)) (ys := A) hp.nd fun x hx => by obtain ⟨r, hr, rfl⟩ := List.mem_map.mp hx; exact hB _ (hp.mem r hr)) hA.few |> fun h => by simpa using h
        have lq : qs.length ≤ 60 := Nat.le_trans (len_le_alp (xs := qs.map (·.1)) (ys := A) hq.nd fun x hx => by obtain ⟨r, hr, rfl⟩ := List.mem_map.mp hx; exact hB _ (hq.mem r hr)) hA.few |> fun h => by simpa using h
        refine ds_next (then_nx (ds_seq (ds_par3 (by decide) (by decide) (dn_dict ?_).de)))
        repeat walk_at "s"
        refine ⟨.tup (psD ps), rfl, .inl ⟨_, e3, (dn_dict ?_).de⟩⟩
        repeat walk_at "s"
        refine ⟨.tup (psD qs), rfl, .inl ⟨_, e5, dn_lst (da_nil ⟨[], rfl, by simp, then_nx ?_⟩)⟩⟩
        rw [e4, e6]
        have ek : ∀ ps : List (Str × Fm), ((ps.map fun p => ((.inr p.1 : Key), p.2.toD)).map fun p => kD p.1) = (ps.map (·.1)).map .str := fun ps => by rw [List.map_map, List.map_map]; rfl
        refine ds_seq (ds_for (js := [7]) (di_any (dn_cat (dn_list (de_var rfl ⟨_, .inr ⟨_, rfl, rfl⟩, _, rfl, dn_list (de_var rfl ⟨_, .inr ⟨_, rfl, rfl⟩, _, rfl, ?_, ?_⟩)⟩))).de))
        · simp only [List.length_map]; omega
        rw [ek, ek, ← List.map_append]
        refine ⟨_, rfl, fun i δ => ∃ z7 z8, δ = [.dat (Fm.ent na sa ps).toD, .dat (Fm.ent nb sb qs).toD, .dat (entD (.ent na sa ps)), .dat (entD (.ent nb sb qs)), .dat (.dic (ps.map fun p => (.inr p.1, p.2.toD))), .dat (.dic (qs.map fun p => (.inr p.1, p.2.toD))), .own (.lst (((ps.map (·.1) ++ qs.map (·.1)).take i).filterMap fun k => (diffOf n (getF ps k) (getF qs k)).map (wrapK k))), z7, z8],
          ⟨.un, .un, rfl⟩, fun i d δ' hd w => ?_, fun δ' w => ?_⟩
        · obtain ⟨z7, z8, rfl⟩ := w
          rw [List.getElem?_map] at hd
          obtain ⟨x, hx, rfl⟩ := Option.map_eq_some_iff.mp hd
          have hmem := List.mem_append.mp (List.mem_of_getElem? hx)
          have hpo : ∃ m, n = m + 1 ∧ PsOk B m ps ∧ PsOk B m qs := by
            cases n with
            | zero =>
              have z1 : ps = [] := hf.ps0
              have z2 : qs = [] := hg.ps0
              subst z1; subst z2; simp at hmem
            | succ m => exact ⟨m, rfl, hp, hq⟩
          obtain ⟨m, rfl, hpm, hqm⟩ := hpo
          refine dg_name ?_
          refine ds_seq (ds_asg ?_)
          repeat walk_at "s"
          refine ⟨_, rfl, ?_⟩
          repeat walk_at "s"
          refine de_cst hK ⟨x, rfl, ?_⟩
          rw [get_ps]
          repeat walk_at "s"
          refine ⟨_, rfl, ?_⟩
          repeat walk_at "s"
          refine de_cst hK ⟨x, rfl, ?_⟩
          rw [get_ps]
          repeat walk_at "s"
          refine ⟨[(getF ps x).toD, (getF qs x).toD], _, rfl, ⟨_, _, rfl, hpm.get x, hqm.get x, rfl⟩, then_nx ?_⟩
          have en := filterMap_take (f := fun k => (diffOf (m + 1) (getF ps k) (getF qs k)).map (wrapK k)) hx
          have hlen : (((ps.map (·.1) ++ qs.map (·.1)).take i).filterMap fun k => (diffOf (m + 1) (getF ps k) (getF qs k)).map (wrapK k)).length ≤ 1000 := by
            refine Nat.le_trans (fmap_len _ _) ?_
            rw [List.length_take, List.length_append, List.length_map, List.length_map]
            omega
          cases qd : diffOf (m + 1) (getF ps x) (getF qs x) with
          | none =>
            rw [qd] at en
            repeat walk_at "s"
            refine it_f rfl (ds_next ⟨.dat (.str x), .dat (optD none), ?_⟩)
            rw [en]
            simp only [Option.map_none, List.append_nil]
            rfl
          | some u =>
            rw [qd] at en
            repeat walk_at "s"
            refine it_t rfl (ds_append rfl hlen ?_)
            repeat walk_at "s"
            refine ⟨u, rfl, ?_⟩
            repeat walk_at "s"
            refine it_c (fun hu => ?_) fun hu => ?_
            · refine (dn_dnew ⟨.dat (.str x), .dat (optD (some u)), ?_⟩).de
              rw [en]
              simp only [Option.map_some, wrapK, hu, if_true]
              rfl
            · refine (dn_disp (dps_cons ?_)).de
              repeat walk_at "s"
              refine ⟨u, rfl, .inr x, rfl, dps_nil ⟨by simp, .dat (.str x), .dat (optD (some u)), ?_⟩⟩
              rw [en]
              simp only [Option.map_some, wrapK, hu, Bool.false_eq_true, if_false]
              rfl
        · obtain ⟨z7, z8, rfl⟩ := w
          rw [List.length_map, List.take_length]
          refine then_nx (ds_pub 6 rfl ?_)
          repeat walk_at "s"
          refine ⟨[.lst (dOpts (diffOf n) ps qs)], _, rfl, ⟨dOpts (diffOf n) ps qs, rfl, ?_, fun s hs => ?_, rfl⟩, rfl⟩
          · refine Nat.le_trans (fmap_len _ _) ?_
            rw [List.length_append, List.length_map, List.length_map]
            omega
          · obtain ⟨j, u, hj, e, rfl⟩ := dOpts_mem hs
            cases n with
            | zero => rw [diffOf] at e; cases e
            | succ m =>
              have hjA : j ∈ A := by
                rcases hj with z | z <;> obtain ⟨p, hp', rfl⟩ := List.mem_map.mp z
                · exact hB _ (hp.mem p hp')
                · exact hB _ (hq.mem p hp')
              exact wrap_ok hjA ((diff_ok hB haa (Nat.le_refl m) (hp.get j) (hq.get j) e))
end
end Mp

set_option Elab.async false
set_option linter.all false
set_option maxRecDepth 100000
set_option maxHeartbeats 4000000
namespace Mp
open PySem L2
local macro_rules | `(tactic| walk_at "s") => `(tactic| first
  | with_reducible refine ds_seq ?_
  | with_reducible refine ds_ret ?_
  | with_reducible refine ds_if ?_
  | with_reducible refine ds_asg ?_
  | with_reducible refine ds_drop ?_
  | with_reducible refine ds_next ?_
  | with_reducible refine ds_retN ?_
  | with_reducible refine then_nx ?_
  | with_reducible refine then_rt ?_
  | with_reducible refine gives_rt ?_
  | with_reducible refine gives_nx
  | with_reducible refine dt_not ?_
  | with_reducible refine dt_test ?_
  | with_reducible refine dt_B ?_
  | with_reducible refine dt_and ?_
  | with_reducible refine dt_or ?_
  | with_reducible refine dt_yes ?_
  | with_reducible refine ex_bl ?_
  | with_reducible refine ex_ii ?_
  | ((with_reducible show DE _ (tVar _) _ _); refine de_var rfl ?_)
  | with_reducible refine de_int ?_
  | with_reducible refine de_str ?_
  | with_reducible refine de_bl ?_
  | with_reducible refine de_non ?_
  | with_reducible refine de_sub ?_
  | with_reducible refine de_eq ?_
  | with_reducible refine de_ne ?_
  | with_reducible refine de_in ?_
  | with_reducible refine de_add ?_
  | with_reducible refine de_subI ?_
  | with_reducible refine de_lt ?_
  | with_reducible refine de_le ?_
  | with_reducible refine de_gt ?_
  | with_reducible refine de_ge ?_
  | with_reducible refine de_neg ?_
  | with_reducible refine de_isN ?_
  | with_reducible refine de_notN ?_
  | with_reducible refine de_chainII ?_
  | with_reducible refine de_len ?_
  | with_reducible refine de_isi .str rfl ?_
  | with_reducible refine de_isi .int rfl ?_
  | with_reducible refine de_isi .bool rfl ?_
  | with_reducible refine de_isi .dict rfl ?_
  | with_reducible refine de_isi .tuple rfl ?_
  | with_reducible refine de_isi .list rfl ?_
  | with_reducible refine de_all ?_
  | with_reducible refine de_sum ?_
  | with_reducible refine de_if ?_
  | with_reducible refine de_andV ?_
  | with_reducible refine de_orV ?_
  | with_reducible refine de_notV ?_
  | with_reducible refine de_tuple ?_
  | with_reducible refine de_get1 ?_
  | with_reducible refine de_get2 ?_
  | with_reducible refine de_tup0 ?_
  | with_reducible refine de_tup1 ?_
  | with_reducible refine de_tup2 ?_
  | with_reducible refine de_tup3 ?_
  | with_reducible refine de_tup4 ?_
  | with_reducible refine de_tup ?_
  | with_reducible refine de_isB ?_
  | with_reducible refine de_notB ?_
  | ((with_reducible show DE _ (tCall (SpT _ _) _ _ _) _ _); refine de_ct rfl rfl ?_)
  | with_reducible refine de_call ?_
  | with_reducible refine da_nil ?_
  | with_reducible refine da_cons ?_)

section
variable {A B : List Str} {K : PySem.W.Frag}
theorem find_take {p : Int → Bool} {i : Nat} {x : Int} (h : ([0, 1, 2] : List Int)[i]? = some x) (h0 : ∀ j y, j < i → ([0, 1, 2] : List Int)[j]? = some y → p y = false) (hx : p x = true) : ([0, 1, 2] : List Int).find? p = some x := by
  rcases i with _ | _ | _ | i
  · cases h; simp [hx]
  · cases h; have := h0 0 0 (by omega) rfl; simp [hx, this]
  · cases h; have := h0 0 0 (by omega) rfl; have := h0 1 1 (by omega) rfl; simp [*]
  · cases h
theorem p_difference_of (hB : ∀ x ∈ B, x ∈ A) {a : Addr} (hS : ∀ G, Has K G (.tup [.int 0, .int 1, .int 2]) (.ref a)) (n : Nat) (hn : n ≤ 10) (ds : List D) (d : D) (h : R_difference_of B (n + 1) ds d) :
    DS ⟨K, none⟩ (t_difference_of K a (SpP K (R_dict_difference B (n + 1))) (SpP K (R_run A (n + 2)))) (slots ["form", "other", "scalar"] ds) (Gives d) := by
  obtain ⟨f, g, rfl, hf, hg, rfl⟩ := h
  show DS _ _ [.dat f.toD, .dat g.toD, .un] _
  unfold t_difference_of
  have hf1 : FmOk A (n + 1) f := (hf.sub hB).mono (by omega)
  have hg1 : FmOk A (n + 1) g := (hg.sub hB).mono (by omega)
  repeat walk_at "s"
  refine ⟨fm_deep hf (by omega), _, rfl, it_c (fun q1 => ?_) fun q1 => ?_⟩
  · repeat walk_at "s"
    rw [diffOf, if_pos q1]; rfl
  repeat walk_at "s"
  refine ⟨f.no, by rw [toD_eq]; rfl, ?_⟩
  repeat walk_at "s"
  refine ⟨g.no, by rw [toD_eq]; rfl, Nat.le_trans hf.hno.deep (by omega), _, rfl, ?_⟩
  cases q2 : D.eqv f.no g.no with
  | false =>
    refine it_t rfl ?_
    repeat walk_at "s"
    rw [diffOf, if_neg (by rw [q1]; simp), if_pos q2]; rfl
  | true =>
    refine it_f rfl (ds_next (then_nx (ds_seq (ds_for (js := [2]) (di_any (de_cst hS ⟨_, rfl, fun i δ => (∃ z, δ = [.dat f.toD, .dat g.toD, z]) ∧ ∀ j y, j < i → ([0, 1, 2] : List Int)[j]? = some y → (!D.eqv (f.run (.int y)) (g.run (.int y))) = false, ⟨⟨.un, rfl⟩, fun j y h => absurd h (by omega)⟩, fun i d δ' hd w => ?_, fun δ' w => ?_⟩))))))
    · obtain ⟨⟨z, rfl⟩, w⟩ := w
      obtain ⟨y, hy, rfl⟩ : ∃ y, ([0, 1, 2] : List Int)[i]? = some y ∧ d = .int y := by
        rcases i with _ | _ | _ | i <;> cases hd <;> exact ⟨_, rfl, rfl⟩
      have hsy : isScalarD (.int y) = true := sca_ok (by
        have := List.mem_of_getElem? hy
        simpa using this)
      have r1 := run_ok f hf1 (st_int (n := n + 1) hsy)
      refine dg_name ?_
      repeat walk_at "s"
      refine ⟨[f.toD, .int y], _, rfl, ⟨f, .int y, rfl, hf1, st_int hsy, rfl⟩, ?_⟩
      repeat walk_at "s"
      refine ⟨[g.toD, .int y], _, rfl, ⟨g, .int y, rfl, hg1, st_int hsy, rfl⟩, Nat.le_trans r1.deep (by omega), _, rfl, it_c (fun q3 => ?_) fun q3 => ?_⟩
      · have e : scaDiff f g = some y := find_take hy w q3
        repeat walk_at "s"
        refine gives_rt ?_
        rw [diffOf, if_neg (by rw [q1]; simp), if_neg (by rw [q2]; simp), e]; rfl
      · refine ds_next ⟨⟨_, rfl⟩, fun j y' hj hy' => ?_⟩
        by_cases hij : j < i
        · exact w j y' hij hy'
        · have : j = i := by omega
          subst this
          rw [hy] at hy'
          cases hy'
          exact q3
    · obtain ⟨⟨z, rfl⟩, w⟩ := w
      have e : scaDiff f g = none := List.find?_eq_none.mpr fun x hx => by
        simp at hx
        rcases hx with rfl | rfl | rfl
        · exact Bool.not_eq_true _ |>.mpr (w 0 0 (by simp) rfl)
        · exact Bool.not_eq_true _ |>.mpr (w 1 1 (by simp) rfl)
        · exact Bool.not_eq_true _ |>.mpr (w 2 2 (by simp) rfl)
      refine then_nx ?_
      repeat walk_at "s"
      refine ⟨[f.toD, g.toD], _, rfl, ⟨f, g, rfl, hf, hg, rfl⟩, ?_⟩
      refine gives_rt ?_
      rw [diffOf, if_neg (by rw [q1]; simp), if_neg (by rw [q2]; simp), e]
/-- a patch over B, valid -/
def R_need_both (A : List Str) (ds : List D) (d : D) : Prop := ∃ p q, ds = [Pt.toD p, Pt.toD q] ∧ PtV A p ∧ PtV A q ∧ d = .non
theorem p_need_both (hA : Alp A) (ds : List D) (d : D) (h : R_need_both A ds d) : DS ⟨K, none⟩ (t_need_both K (SpP K R_need_patch)) (slots ["patch", "other"] ds) (Gives d) := by
  obtain ⟨p, q, rfl, hp, hq, rfl⟩ := h
  show DS _ _ [.dat p.toD, .dat q.toD] _
  unfold t_need_both
  repeat walk_at "s"
  refine ⟨[p.toD], _, rfl, ⟨p.toD, rfl, hp.ok.wf hA, Nat.le_trans hp.ok.deep (by omega), hp.valid, rfl⟩, ?_⟩
  repeat walk_at "s"
  refine ⟨[q.toD], _, rfl, ⟨q.toD, rfl, hq.ok.wf hA, Nat.le_trans hq.ok.deep (by omega), hq.valid, rfl⟩, ?_⟩
  exact gives_nx
/-- patches over B of total depth 10 at most -/
structure PtB (B : List Str) (p : Pt) : Prop where
  ok : ∃ m n, m + n ≤ 10 ∧ m ≤ 5 ∧ n ≤ 6 ∧ PtOk B m n p
theorem PtB.fm {p : Pt} (h : PtB B p) : FmOk B 10 (formOf p) := by
  obtain ⟨m, n, h1, _, _, h2⟩ := h.ok
  exact (formOf_ok (by omega) h2).mono h1
theorem PtB.nf {p : Pt} (h : PtB B p) : (formOf p).nf := by
  obtain ⟨m, n, h1, _, _, h2⟩ := h.ok
  exact formOf_nf h2
theorem PtB.fs {p : Pt} (h : PtB B p) (t : T) : (formOf p).fs t = pden p t := by
  obtain ⟨m, n, h1, _, _, h2⟩ := h.ok
  exact sem_form (by omega) h2 t
def R_difference (A B : List Str) (ds : List D) (d : D) : Prop := ∃ p q, ds = [Pt.toD p, Pt.toD q] ∧ PtV A p ∧ PtV A q ∧ PtB B p ∧ PtB B q ∧ d = optD (diffOf 11 (formOf p) (formOf q))
theorem p_difference (hA : Alp A) (hB : ∀ x ∈ B, x ∈ A) (haa : ("aa" : Str) ∈ A) (ds : List D) (d : D) (h : R_difference A B ds d) :
    DS ⟨K, none⟩ (t_difference K (SpP K (R_copied A 12)) (SpP K (R_difference_of B 11)) (SpP K (R_form_of A 7)) (SpP K (R_need_both A))) (slots ["patch", "other", "found"] ds) (Gives d) := by
  obtain ⟨p, q, rfl, hp, hq, bp, bq, rfl⟩ := h
  show DS _ _ [.dat p.toD, .dat q.toD, .un] _
  unfold t_difference
  repeat walk_at "s"
  refine ⟨[p.toD, q.toD], _, rfl, ⟨p, q, rfl, hp, hq, rfl⟩, ?_⟩
  repeat walk_at "s"
  refine ⟨[p.toD], _, rfl, ⟨p, rfl, hp.ok, rfl⟩, ?_⟩
  repeat walk_at "s"
  refine ⟨[q.toD], _, rfl, ⟨q, rfl, hq.ok, rfl⟩, ?_⟩
  repeat walk_at "s"
  refine ⟨[(formOf p).toD, (formOf q).toD], _, rfl, ⟨_, _, rfl, bp.fm, bq.fm, rfl⟩, ?_⟩
  cases e : diffOf 11 (formOf p) (formOf q) with
  | none =>
    repeat walk_at "s"
    refine it_t rfl ?_
    repeat walk_at "s"
    rfl
  | some s =>
    have hs := diff_ok hB haa (Nat.le_refl 10) bp.fm bq.fm e
    repeat walk_at "s"
    refine it_f rfl ?_
    repeat walk_at "s"
    refine ⟨s, rfl, ?_⟩
    repeat walk_at "s"
    refine ⟨[s], _, rfl, ⟨s, rfl, hs, rfl⟩, ?_⟩
    repeat walk_at "s"
    rfl
/-! ### copies of forms -/
def R_copied_form (A : List Str) : Nat → List D → D → Prop
  | 0, _, _ => False
  | n + 1, ds, d => ∃ f, ds = [Fm.toD f] ∧ FmOk A n f ∧ d = f.toD
def cfD : D → D
  | .tup [k, f] => .tup [k, f]
  | d => d
theorem p_copied_form (hA : Alp A) (n : Nat) (ds : List D) (d : D) (h : R_copied_form A (n + 1) ds d) :
    DS ⟨K, none⟩ (t_copied_form K (SpP K (R_copied A (n + 1))) (SpP K (R_copied_form A n))) (slots ["form", "nothing", "scalar", "entries", "key", "one"] ds) (Gives d) := by
  obtain ⟨f, rfl, hf, rfl⟩ := h
  show DS _ _ [.dat f.toD, .un, .un, .un, .un, .un] _
  unfold t_copied_form
  have ef := toD_eq f
  rw [ef]
  refine ds_seq (ds_asgG (js := [1, 2, 3]) ?_)
  repeat walk_at "s"
  refine dg_three ?_
  refine then_nx ?_
  have fin : ∀ (x4 x5 : Sl), DS ⟨K, none⟩ (tRet (tTupF (tCons (tCall (SpP K (R_copied A (n + 1))) [] E0 (tCons (tVar 1) tNil)) (tCons (tVar 2) (tCons (tVar 3) tNil))))) [.dat (.tup [f.no, scD f.sc, entD f]), .dat f.no, .dat (scD f.sc), .dat (entD f), x4, x5] (Gives (.tup [f.no, scD f.sc, entD f])) := fun x4 x5 => by
    repeat walk_at "s"
    refine ⟨[f.no], _, rfl, ⟨f.no, rfl, hf.hno, rfl⟩, ?_⟩
    repeat walk_at "s"
    rfl
  have ent : DS ⟨K, none⟩ (tSeq (tIfS (tTest (tOp (rEqX K) (tOp (rSub K) (tVar 3) (tC (.int 0))) (tC (.str "constant")))) (tAsg (tTupF (tCons (tC (.str "constant")) (tCons (tCall (SpP K (R_copied A (n + 1))) [] E0 (tCons (tOp (rSub K) (tVar 3) (tC (.int 1))) tNil)) tNil))) (gName 3)) (tAsg (tTupF (tCons (tC (.str "entries")) (tCons (tCB (rTupleF K) (tCons (tLc (iAny K (tOp (rSub K) (tVar 3) (tC (.int 1)))) (gTup K 2 (gCons (gName 4) (gCons (gName 5) gNil))) tYes (tTupF (tCons (tVar 4) (tCons (tCall (SpP K (R_copied_form A n)) [] E0 (tCons (tVar 5) tNil)) tNil))) [4, 5]) tNil)) tNil))) (gName 3)))
      (tRet (tTupF (tCons (tCall (SpP K (R_copied A (n + 1))) [] E0 (tCons (tVar 1) tNil)) (tCons (tVar 2) (tCons (tVar 3) tNil)))))) [.dat (.tup [f.no, scD f.sc, entD f]), .dat f.no, .dat (scD f.sc), .dat (entD f), .un, .un] (Gives (.tup [f.no, scD f.sc, entD f])) := by
    cases f with
    | con no sc e =>
      repeat walk_at "s"
      refine ⟨.str "constant", rfl, ?_⟩
      repeat walk_at "s"
      refine ⟨Nat.zero_le _, _, rfl, it_t (eqs_t _) ?_⟩
      repeat walk_at "s"
      refine ⟨e, rfl, ?_⟩
      repeat walk_at "s"
      refine ⟨[e], _, rfl, ⟨e, rfl, hf.hcon, rfl⟩, then_nx (fin _ _)⟩
    | ent no sc ps =>
      repeat walk_at "s"
      refine ⟨.str "entries", rfl, ?_⟩
      repeat walk_at "s"
      refine ⟨Nat.zero_le _, _, rfl, it_f (eqs_f (by decide)) ?_⟩
      repeat walk_at "s"
      refine (dn_lcM (js := [4, 5]) cfD (by simp) (di_any ?_)).de
      repeat walk_at "s"
      refine ⟨.tup (psD ps), rfl, psD ps, rfl, ?_, fun i d hd => ?_, ?_⟩
      · have := hf.psAny.len; have := hA.few; rw [psD_map, List.length_map]; exact Nat.le_of_lt (small1000 (by omega))
      · rw [psD_map, List.getElem?_map] at hd
        obtain ⟨p, hp, rfl⟩ := Option.map_eq_some_iff.mp hd
        have hm := List.mem_of_getElem? hp
        have hpo : ∃ m, n = m + 1 ∧ PsOk A m ps := by
          cases n with
          | zero => have z1 : ps = [] := hf.ps0; subst z1; cases hm
          | succ m => exact ⟨m, rfl, hf.ps⟩
        obtain ⟨m, rfl, hpm⟩ := hpo
        refine dg_pair ?_
        repeat walk_at "s"
        refine ⟨[p.2.toD], _, rfl, ⟨p.2, rfl, hpm.ok p hm, rfl⟩, ?_⟩
        repeat walk_at "s"
        rfl
      · refine ⟨_, rfl, then_nx ?_⟩
        have e : (psD ps).map cfD = psD ps := by
          rw [psD_map, List.map_map]; exact List.map_congr_left fun p _ => rfl
        rw [e]
        exact fin _ _
  repeat walk_at "s"
  cases es : f.sc with
  | none =>
    refine ⟨.str "same", rfl, ?_⟩
    repeat walk_at "s"
    refine ⟨Nat.zero_le _, _, rfl, it_f (eqs_f (by decide)) (ds_next (then_nx ?_))⟩
    rw [es] at ent
    exact ent
  | some e =>
    refine ⟨.str "constant", rfl, ?_⟩
    repeat walk_at "s"
    refine ⟨Nat.zero_le _, _, rfl, it_t (eqs_t _) ?_⟩
    refine ds_asg ?_
    repeat walk_at "s"
    refine ⟨e, rfl, ?_⟩
    repeat walk_at "s"
    refine ⟨[e], _, rfl, ⟨e, rfl, hf.hsc e es, rfl⟩, then_nx ?_⟩
    rw [es] at ent
    exact ent
def R_normal_form (A : List Str) (ds : List D) (d : D) : Prop := ∃ p, ds = [Pt.toD p] ∧ PtV A p ∧ d = (formOf p).toD
theorem p_normal_form (hA : Alp A) (ds : List D) (d : D) (h : R_normal_form A ds d) :
    DS ⟨K, none⟩ (t_normal_form K (SpP K (R_copied_form A 12)) (SpP K (R_form_of A 7)) (SpP K R_need_patch)) (slots ["patch"] ds) (Gives d) := by
  obtain ⟨p, rfl, hp, rfl⟩ := h
  show DS _ _ [.dat p.toD] _
  unfold t_normal_form
  repeat walk_at "s"
  refine ⟨[p.toD], _, rfl, ⟨p.toD, rfl, hp.ok.wf hA, Nat.le_trans hp.ok.deep (by omega), hp.valid, rfl⟩, ?_⟩
  repeat walk_at "s"
  refine ⟨[p.toD], _, rfl, ⟨p, rfl, hp.ok, rfl⟩, ?_⟩
  repeat walk_at "s"
  refine ⟨[(formOf p).toD], _, rfl, ⟨formOf p, rfl, formOf_ok (by omega) hp.ok, rfl⟩, ?_⟩
  repeat walk_at "s"
  rfl
/-! ### relations -/
def R_commute (A : List Str) (ds : List D) (d : D) : Prop := ∃ p q, ds = [Pt.toD p, Pt.toD q] ∧ PtV A p ∧ PtV A q ∧ d = .bl (D.eqv (chain 12 (formOf p) (formOf q)).toD (chain 12 (formOf q) (formOf p)).toD)
def R_absorbs (A : List Str) (ds : List D) (d : D) : Prop := ∃ p q, ds = [Pt.toD p, Pt.toD q] ∧ PtV A p ∧ PtV A q ∧ d = .bl (D.eqv (chain 12 (formOf q) (formOf p)).toD (formOf p).toD)
def R_idempotent (A : List Str) (ds : List D) (d : D) : Prop := ∃ p, ds = [Pt.toD p] ∧ PtV A p ∧ d = .bl (D.eqv (chain 12 (formOf p) (formOf p)).toD (formOf p).toD)
theorem PtV.fm {p : Pt} (h : PtV A p) : FmOk A 11 (formOf p) := formOf_ok (by omega) h.ok
theorem p_commute (hA : Alp A) (ds : List D) (d : D) (h : R_commute A ds d) :
    DS ⟨K, none⟩ (t_commute K (SpP K (R_chained A 12)) (SpP K (R_form_of A 7)) (SpP K (R_need_both A))) (slots ["patch", "other", "one", "two"] ds) (Gives d) := by
  obtain ⟨p, q, rfl, hp, hq, rfl⟩ := h
  show DS _ _ [.dat p.toD, .dat q.toD, .un, .un] _
  unfold t_commute
  repeat walk_at "s"
  refine ⟨[p.toD, q.toD], _, rfl, ⟨p, q, rfl, hp, hq, rfl⟩, ?_⟩
  refine then_nx (ds_seq (ds_par ?_))
  repeat walk_at "s"
  refine ⟨[p.toD], _, rfl, ⟨p, rfl, hp.ok, rfl⟩, ?_⟩
  repeat walk_at "s"
  refine ⟨[q.toD], _, rfl, ⟨q, rfl, hq.ok, rfl⟩, ?_⟩
  repeat walk_at "s"
  refine ⟨[(formOf p).toD, (formOf q).toD], _, rfl, ⟨_, _, rfl, hp.fm, hq.fm, rfl⟩, ?_⟩
  repeat walk_at "s"
  refine ⟨[(formOf q).toD, (formOf p).toD], _, rfl, ⟨_, _, rfl, hq.fm, hp.fm, rfl⟩, fm_deep (chain_ok hp.fm hq.fm) (Nat.le_refl 11), ?_⟩
  rfl
theorem p_absorbs (hA : Alp A) (ds : List D) (d : D) (h : R_absorbs A ds d) :
    DS ⟨K, none⟩ (t_absorbs K (SpP K (R_chained A 12)) (SpP K (R_form_of A 7)) (SpP K (R_need_both A))) (slots ["patch", "other", "form"] ds) (Gives d) := by
  obtain ⟨p, q, rfl, hp, hq, rfl⟩ := h
  show DS _ _ [.dat p.toD, .dat q.toD, .un] _
  unfold t_absorbs
  repeat walk_at "s"
  refine ⟨[p.toD, q.toD], _, rfl, ⟨p, q, rfl, hp, hq, rfl⟩, ?_⟩
  repeat walk_at "s"
  refine ⟨[p.toD], _, rfl, ⟨p, rfl, hp.ok, rfl⟩, ?_⟩
  repeat walk_at "s"
  refine ⟨[q.toD], _, rfl, ⟨q, rfl, hq.ok, rfl⟩, ?_⟩
  repeat walk_at "s"
  refine ⟨[(formOf q).toD, (formOf p).toD], _, rfl, ⟨_, _, rfl, hq.fm, hp.fm, rfl⟩, ?_⟩
  repeat walk_at "s"
  refine ⟨fm_deep (chain_ok hq.fm hp.fm) (Nat.le_refl 11), ?_⟩
  rfl
theorem p_idempotent (hA : Alp A) (ds : List D) (d : D) (h : R_idempotent A ds d) :
    DS ⟨K, none⟩ (t_idempotent K (SpP K (R_chained A 12)) (SpP K (R_form_of A 7)) (SpP K R_need_patch)) (slots ["patch", "form"] ds) (Gives d) := by
  obtain ⟨p, rfl, hp, rfl⟩ := h
  show DS _ _ [.dat p.toD, .un] _
  unfold t_idempotent
  repeat walk_at "s"
  refine ⟨[p.toD], _, rfl, ⟨p.toD, rfl, hp.ok.wf hA, Nat.le_trans hp.ok.deep (by omega), hp.valid, rfl⟩, ?_⟩
  repeat walk_at "s"
  refine ⟨[p.toD], _, rfl, ⟨p, rfl, hp.ok, rfl⟩, ?_⟩
  repeat walk_at "s"
  refine ⟨[(formOf p).toD, (formOf p).toD], _, rfl, ⟨_, _, rfl, hp.fm, hp.fm, rfl⟩, ?_⟩
  repeat walk_at "s"
  refine ⟨fm_deep (chain_ok hp.fm hp.fm) (Nat.le_refl 11), ?_⟩
  rfl
end
end Mp

set_option Elab.async false
set_option linter.all false
set_option maxRecDepth 100000
set_option maxHeartbeats 4000000
namespace Mp
open PySem L2
/-! ### the law: it makes its town, then it answers True -/
def spLaw (K : PySem.W.Frag) : Sp := fun vs H Q _ => ∃ (a : Addr) (ns : List Int), vs = [.ref a] ∧ SqL K H a (ns.map V.int) ∧ ∀ H', Q (.bl true) H'
theorem law_body {K : PySem.W.Frag} {N : List Str} {rest : TS} (hN : 2 ≤ N.length) (h : ∀ t a ns, DS ⟨K, some (t, a, ns)⟩ rest (slotsT N a t []) (GivesS fun d => d = .bl true)) {vs : List V} {H : Hp} {Q : VK} {E : XK} (q : spLaw K vs H Q E) :
    tSeq (tAsg (tLst (tCons (tC (.int 0)) (tCons (tC (.int 0)) tNil))) (gName 1)) rest { nx := fun _ H' => Q .non H', rt := Q } (L2.start N vs) H := by
  obtain ⟨a, ns, rfl, hs, k⟩ := q
  refine ⟨by decide, fun p hp => ?_⟩
  have sub : Sub ⟨K, some (p, a, ns)⟩ (fun _ => none) (upd H p (.lst [.int 0, .int 0])) := by
    refine ⟨(fun x u e => by cases e), fun t q e => ?_, fun x t => rfl, fun t s ms e => ?_⟩
    · cases e; exact ⟨0, 0, Int.le_refl _, upd_same⟩
    · cases e
      rcases hs with r | z
      · have ne : a ≠ p := by
          rintro rfl
          rcases r with r | ⟨o, r⟩ <;> rw [hp] at r <;> cases r
        refine ⟨.inr ⟨?_, rfl⟩, .inr ne⟩
        rcases r with r | ⟨o, r⟩
        · exact .inl (by rw [upd_ne ne]; exact r)
        · exact .inr ⟨o, by rw [upd_ne ne]; exact r⟩
      · exact ⟨.inl fun H => .inr z, .inl fun H => .inr z⟩
  have es : (L2.start N [V.ref a]).set 1 (some (.ref p)) = L2.start N [.ref a, .ref p] := by
    obtain ⟨x, y, N, rfl⟩ : ∃ x y M, N = x :: y :: M := by
      match N, hN with
      | x :: y :: M, _ => exact ⟨x, y, M, rfl⟩
    rfl
  show rest _ ((L2.start N [V.ref a]).set 1 (some (.ref p))) _
  rw [es]
  refine h p a ns (fun _ => none) _ (fun _ => none) _ _ _ ⟨sub, .refl sub⟩ (env_startT (ds := []) (us := []) (by unfold HasL; rfl) (by simpa using hN)) fun o G' H' p st _ => ?_
  cases o with
  | rt e => exact fun v hv => by cases (show e = .bl true from p); unfold Has at hv; subst hv; exact k H'
  | nx δ => exact (by cases (show D.non = .bl true from p))
  | bk δ => exact (show False from p).elim
  | ct δ => exact (show False from p).elim
section
variable {P : Program} {w : World} {K : PySem.W.Frag} {mg : Str → Option Value} {base : Heap}
theorem FnP.law {x : Str} {st : Stmt} {f : Addr} {fd : FuncData} {N : List Str} {k : Nat} {rest : TS} (F : FnP K x st f fd) (S : FnScope N ["script"] (defScope st)) (hN : 2 ≤ N.length)
    (h : ∀ t a ns, DS ⟨K, some (t, a, ns)⟩ rest (slotsT N a t []) (GivesS fun d => d = .bl true))
    (hb : ∀ (cdv : Value) (A : Around) (outer : List Env) (s : Shared) (H : Hp) (E : XK), Room k (A.deeper (PyProof.Rows.envOfC x (defScope st) s.heap.objs.size f cdv)) → PSs (cxOf CX0 P w K mg base N x (defScope st) f cdv A outer s H E).nox (defBody st) (tSeq (tAsg (tLst (tCons (tC (.int 0)) (tCons (tC (.int 0)) tNil))) (gName 1)) rest)) :
    FnOk P w K mg base CX0 (k + 1) f fd ["script"] (spLaw K) := by
  refine F.ok S (fun vs H Q E q => ?_) fun cdv A outer s H vs Q E hr q => ⟨_, PSs.nox (hb cdv A outer s H E hr), law_body hN h q⟩
  obtain ⟨a, ns, rfl, _⟩ := q
  rfl
end
end Mp

set_option Elab.async false
set_option linter.all false
set_option maxRecDepth 100000
set_option maxHeartbeats 4000000
namespace Mp
open PySem L2
local macro_rules | `(tactic| walk_at "s") => `(tactic| first
  | with_reducible refine ds_seq ?_
  | with_reducible refine ds_ret ?_
  | with_reducible refine ds_if ?_
  | with_reducible refine ds_asg ?_
  | with_reducible refine ds_drop ?_
  | with_reducible refine ds_next ?_
  | with_reducible refine ds_retN ?_
  | with_reducible refine then_nx ?_
  | with_reducible refine then_rt ?_
  | with_reducible refine gives_rt ?_
  | with_reducible refine gives_nx
  | with_reducible refine dt_not ?_
  | with_reducible refine dt_test ?_
  | with_reducible refine dt_B ?_
  | with_reducible refine dt_and ?_
  | with_reducible refine dt_or ?_
  | with_reducible refine dt_yes ?_
  | with_reducible refine ex_bl ?_
  | with_reducible refine ex_ii ?_
  | ((with_reducible show DE _ (tVar _) _ _); refine de_var rfl ?_)
  | with_reducible refine de_int ?_
  | with_reducible refine de_str ?_
  | with_reducible refine de_bl ?_
  | with_reducible refine de_non ?_
  | with_reducible refine de_sub ?_
  | with_reducible refine de_eq ?_
  | with_reducible refine de_ne ?_
  | with_reducible refine de_in ?_
  | with_reducible refine de_add ?_
  | with_reducible refine de_subI ?_
  | with_reducible refine de_lt ?_
  | with_reducible refine de_le ?_
  | with_reducible refine de_gt ?_
  | with_reducible refine de_ge ?_
  | with_reducible refine de_neg ?_
  | with_reducible refine de_isN ?_
  | with_reducible refine de_notN ?_
  | with_reducible refine de_chainII ?_
  | with_reducible refine de_len ?_
  | with_reducible refine de_isi .str rfl ?_
  | with_reducible refine de_isi .int rfl ?_
  | with_reducible refine de_isi .bool rfl ?_
  | with_reducible refine de_isi .dict rfl ?_
  | with_reducible refine de_isi .tuple rfl ?_
  | with_reducible refine de_isi .list rfl ?_
  | with_reducible refine de_all ?_
  | with_reducible refine de_sum ?_
  | with_reducible refine de_if ?_
  | with_reducible refine de_andV ?_
  | with_reducible refine de_orV ?_
  | with_reducible refine de_notV ?_
  | with_reducible refine de_tuple ?_
  | with_reducible refine de_get1 ?_
  | with_reducible refine de_get2 ?_
  | with_reducible refine de_tup0 ?_
  | with_reducible refine de_tup1 ?_
  | with_reducible refine de_tup2 ?_
  | with_reducible refine de_tup3 ?_
  | with_reducible refine de_tup4 ?_
  | with_reducible refine de_tup ?_
  | with_reducible refine de_isB ?_
  | with_reducible refine de_notB ?_
  | ((with_reducible show DE _ (tCall (SpT _ _) _ _ _) _ _); refine de_ct rfl rfl ?_)
  | with_reducible refine de_call ?_
  | with_reducible refine da_nil ?_
  | with_reducible refine da_cons ?_)

theorem alp_abcz : Alp abcz := ⟨by decide, by decide⟩
theorem namesOk_of {A : List Str} {z : Str} (h : (decide (z.length ≤ 1000) && (decide ((z.cps.toList.map fun n => (⟨#[n]⟩ : Str)).Nodup) && z.cps.toList.all fun n => A.contains (⟨#[n]⟩ : Str))) = true) : NamesOk A (.str z) := by
  rw [Bool.and_eq_true, Bool.and_eq_true] at h
  exact ⟨z, rfl, of_decide_eq_true h.1, of_decide_eq_true h.2.1, fun n hn => by simpa using List.all_eq_true.mp h.2.2 n hn⟩
theorem names7 : ∀ x ∈ [D.str "", .str "a", .str "b", .str "ab", .str "ab", .str "bc", .str "abc"], NamesOk abcz x := by
  intro x hx
  simp only [List.mem_cons, List.not_mem_nil, or_false] at hx
  rcases hx with rfl | rfl | rfl | rfl | rfl | rfl | rfl <;> exact namesOk_of (by decide)
theorem names5 : ∀ x ∈ [D.str "", .str "a", .str "b", .str "ab", .str "bc"], NamesOk abcz x := by
  intro x hx
  simp only [List.mem_cons, List.not_mem_nil, or_false] at hx
  rcases hx with rfl | rfl | rfl | rfl | rfl <;> exact namesOk_of (by decide)
section
variable {K : PySem.W.Frag}
theorem St.eqv_refl {A : List Str} {n : Nat} {d : D} (h : St A n d) : D.eqv d d = true := h.eqv_sem h rfl
theorem all2_path {S : D → D → Prop} (hS : ∀ x y, S x y → ∃ k : Str, y = .str k ∧ isTextD (.str k) 1 = true) : ∀ {xs ys : List D}, All2 S xs ys → ∃ ks : List Str, ys = ks.map .str ∧ ks.length = xs.length ∧ ∀ k ∈ ks, isTextD (.str k) 1 = true
  | [], ys, h => by unfold All2 at h; subst h; exact ⟨[], rfl, rfl, fun k hk => by cases hk⟩
  | x :: xs, ys, h => by
    obtain ⟨y, r, rfl, hs, h⟩ := h
    obtain ⟨k, rfl, hk⟩ := hS x y hs
    obtain ⟨ks, rfl, h1, h2⟩ := all2_path hS h
    refine ⟨k :: ks, rfl, by simp [h1], fun j hj => ?_⟩
    rcases List.mem_cons.mp hj with e | hj
    · subst e; exact hk
    · exact h2 j hj
theorem cutD_mem {xs : List D} {lo hi : Option Int} {d : D} (h : d ∈ cutD xs lo hi) : d ∈ xs := List.mem_of_mem_drop (List.mem_of_mem_take h)
theorem cutD_len {xs : List D} {lo hi : Option Int} : (cutD xs lo hi).length ≤ xs.length := by
  unfold cutD; rw [List.length_take, List.length_drop]; omega
def rest01 (K : PySem.W.Frag) (A : List Str) : TS := 
  (tSeq (tAsg (tCall (SpT K (R_patch A 5)) [] E0 (tCons (tVar 0) (tCons (tVar 1) (tCons (tC (.int 4)) tNil)))) (gName 2))
    (tSeq (tIfS (tTest (tOp rNotB (tCall (SpP K R_is_patch) [] E0 (tCons (tVar 2) tNil)) (tC (.bl true)))) (tRet (tC (.bl false))) tNext)
    (tSeq (tFor (iRng1 (tCons (tC (.int 6)) tNil)) (gName 3) (tSeq (tAsg (tCall (SpT K (R_state A 3)) [] E0 (tCons (tVar 0) (tCons (tVar 1) (tCons (tC (.int 3)) tNil)))) (gName 4))
    (tSeq (tIfS (tOr (tTest (tOp rNotB (tCall (SpP K R_is_state) [] E0 (tCons (tVar 4) tNil)) (tC (.bl true)))) (tTest (tOp (rNeX K) (tCall (SpP K (R_apply A)) [] E0 (tCons (tVar 2) (tCons (tVar 4) tNil))) (tCall (SpP K (R_law_run A 7)) [] E0 (tCons (tVar 2) (tCons (tVar 4) tNil)))))) (tRet (tC (.bl false))) tNext)
    (tSeq (tIfS (tTest (tOp (rNeX K) (tCall (SpP K (R_size A)) [] E0 (tCons (tVar 4) tNil)) (tCall (SpP K (R_size_of A 10)) [] E0 (tCons (tVar 4) tNil)))) (tRet (tC (.bl false))) tNext)
    (tSeq (tAsg (tCB (rTupleF K) (tCons (tLc (iRng1 (tCons (tCall (SpT K R_draw) [] E0 (tCons (tVar 0) (tCons (tVar 1) (tCons (tC (.int 4)) tNil)))) tNil)) (gName 6) tYes (tCall (SpT K R_pick) [] E0 (tCons (tVar 0) (tCons (tVar 1) (tCons (tLst (tCons (tC (.str "a")) (tCons (tC (.str "b")) (tCons (tC (.str "c")) (tCons (tC (.str "abcdef")) tNil))))) tNil)))) [6]) tNil)) (gName 5))
    (tIfS (tTest (tOp (rNeX K) (tCall (SpP K (R_value_at A)) [] E0 (tCons (tVar 4) (tCons (tVar 5) tNil))) (tCall (SpP K (R_found_at A)) [] E0 (tCons (tVar 4) (tCons (tVar 5) tNil))))) (tRet (tC (.bl false))) tNext))))))
    (tRet (tCB (rAll K) (tCons (tLc (iAny K (tSl (rSlL K) (tCall (SpP K R_law_small) [] E0 tNil) tNoPart (tPart (tC (.int 20))))) (gName 4) tYes (tOp (rEqX K) (tCall (SpP K (R_apply A)) [] E0 (tCons (tVar 2) (tCons (tVar 4) tNil))) (tCall (SpP K (R_law_run A 7)) [] E0 (tCons (tVar 2) (tCons (tVar 4) tNil)))) [4]) tNil))))))
theorem p_law (t a : Addr) (ns : List Int) : DS ⟨K, some (t, a, ns)⟩ (rest01 K abcz) (slotsT ["script", "town", "patch", "k", "state", "path", "step"] a t []) (GivesS fun d => d = .bl true) := by
  show DS _ _ [.raw (.ref a), .raw (.ref t), .un, .un, .un, .un, .un] _
  have hA := alp_abcz
  unfold rest01
  repeat walk_at "s"
  refine ⟨[.int 4], _, rfl, ⟨4, rfl, Nat.le_refl _, rfl⟩, ?_⟩
  rintro _ ⟨p, rfl, hp⟩
  replace hp : PtOk abcz 2 4 p := hp
  have hv : PtV abcz p := .of hA (by decide) hp (by omega) (by omega)
  repeat walk_at "s"
  refine ⟨[p.toD], .bl true, rfl, ⟨_, rfl, hp.wf hA, Nat.le_trans hp.deep (by omega), by rw [hv.valid]⟩, ?_⟩
  repeat walk_at "s"
  refine ⟨true, true, rfl, rfl, _, rfl, it_f rfl ?_⟩
  repeat walk_at "s"
  refine ds_for (js := [3]) (di_rng ?_)
  repeat walk_at "s"
  refine ⟨6, rfl, by decide, fun i δ => ∃ z3 z4 z5, δ = [.raw (.ref a), .raw (.ref t), .dat p.toD, z3, z4, z5, .un], ⟨.un, .un, .un, rfl⟩, fun i d δ' hd w => ?_, fun δ' w => ?_⟩
  · obtain ⟨z3, z4, z5, rfl⟩ := w
    refine dg_name ?_
    repeat walk_at "s"
    refine ⟨[.int 3], _, rfl, ⟨3, rfl, by decide, rfl⟩, fun s hs => ?_⟩
    have hsv : StV abcz s := .of hA (by decide) hs (by omega)
    have hs11 : St abcz 11 s := hs.mono (by omega)
    have hs9 : St abcz 9 s := hs.mono (by omega)
    repeat walk_at "s"
    refine ⟨[s], .bl true, rfl, ⟨_, rfl, hs.wf hA, Nat.le_trans hs.deep (by omega), by rw [hsv.valid]⟩, ?_⟩
    repeat walk_at "s"
    refine ⟨true, true, rfl, rfl, _, rfl, it_f rfl ?_⟩
    repeat walk_at "s"
    refine ⟨[p.toD, s], _, rfl, ⟨p, s, rfl, hv, hsv, rfl⟩, ?_⟩
    repeat walk_at "s"
    refine ⟨[p.toD, s], _, rfl, ⟨p, s, rfl, hv.ok, hs11, rfl⟩, ?_⟩
    refine ⟨Nat.le_trans (run_ok _ (formOf_ok (by omega) hv.ok) hs11).deep (by omega), ?_⟩
    rw [apply_eqv hv.ok hs11]
    refine ⟨_, rfl, it_f rfl ?_⟩
    repeat walk_at "s"
    refine ⟨[s], _, rfl, ⟨s, rfl, hs9, hsv.valid, rfl⟩, ?_⟩
    repeat walk_at "s"
    refine ⟨[s], _, rfl, ⟨s, rfl, hs9, rfl⟩, Nat.zero_le _, ?_⟩
    rw [eqv_nat]
    refine ⟨_, rfl, it_f (by simp) ?_⟩
    repeat walk_at "s"
    refine (dn_lcS (js := [6]) (fun _ y => y ∈ [D.str "a", .str "b", .str "c", .str "abcdef"]) (by simp) (di_rng ?_)).de
    repeat walk_at "s"
    refine ⟨[.int 4], _, rfl, ⟨4, rfl, by decide, by decide, rfl⟩, ?_⟩
    rintro _ ⟨j, rfl, hj0, hj1⟩
    refine ⟨j.toNat, by rw [Int.toNat_of_nonneg hj0], by omega, ?_, fun j d hd => dg_name ?_, fun ys hy => ?_⟩
    · rw [List.length_map, List.length_range]; exact Nat.le_of_lt (small1000 (n := j.toNat) (by omega))
    · repeat walk_at "s"
      refine (dn_lst ?_).de
      repeat walk_at "s"
      refine ⟨[.str "a", .str "b", .str "c", .str "abcdef"], rfl, by simp, ?_⟩
      repeat walk_at "s"
      exact ⟨[_], _, rfl, ⟨_, rfl, by simp, by simp, rfl⟩, fun d hd => hd⟩
    · obtain ⟨ks, rfl, hl, hk⟩ := all2_path (fun x y h => by
        simp only [List.mem_cons, List.not_mem_nil, or_false] at h
        rcases h with rfl | rfl | rfl | rfl <;> exact ⟨_, rfl, by decide⟩) hy
      have hl6 : ks.length ≤ 6 := by rw [hl]; simp; omega
      refine ⟨ks.map .str, rfl, ?_⟩
      repeat walk_at "s"
      refine ⟨[s, pathD ks], _, rfl, ⟨s, ks, rfl, ⟨hl6, hk⟩, hs9, hsv.valid, rfl⟩, ?_⟩
      repeat walk_at "s"
      refine ⟨[s, pathD ks], _, rfl, ⟨s, ks, rfl, by omega, hs9, rfl⟩, ?_⟩
      have hw := hs9.walk (xs := ks)
      refine ⟨Nat.le_trans hw.deep (by omega), ?_⟩
      rw [hw.eqv_refl]
      refine ⟨_, rfl, it_f rfl ?_⟩
      repeat walk_at "s"
      exact ⟨_, _, _, rfl⟩
  · obtain ⟨z3, z4, z5, rfl⟩ := w
    repeat walk_at "s"
    refine (dn_lcM (js := [4]) (fun _ => .bl true) (by simp) (di_any (dn_slL ?_).de)).de
    refine de_call (da_nil ⟨[], _, rfl, ⟨rfl, rfl⟩, smAll, rfl, do_none (do_some ?_)⟩)
    repeat walk_at "s"
    refine ⟨20, rfl, _, rfl, Nat.le_of_lt (small1000 (Nat.le_trans cutD_len (by rw [smAll_len]; decide))), fun i s hs => dg_name ?_, ?_⟩
    · have hs4 := smAll_st s (cutD_mem (List.mem_of_getElem? hs))
      have hsv : StV abcz s := .of hA (by decide) hs4 (by omega)
      have hs11 : St abcz 11 s := hs4.mono (by omega)
      repeat walk_at "s"
      refine ⟨[p.toD, s], _, rfl, ⟨p, s, rfl, hv, hsv, rfl⟩, ?_⟩
      repeat walk_at "s"
      refine ⟨[p.toD, s], _, rfl, ⟨p, s, rfl, hv.ok, hs11, rfl⟩, ?_⟩
      refine ⟨Nat.le_trans (run_ok _ (formOf_ok (by omega) hv.ok) hs11).deep (by omega), ?_⟩
      rw [apply_eqv hv.ok hs11]
    · refine ⟨(cutD smAll none (some 20)).map fun _ => true, by rw [List.map_map]; rfl, ?_⟩
      repeat walk_at "s"
      show D.bl _ = D.bl true
      congr 1
      rw [List.all_map]
      exact List.all_eq_true.mpr fun _ _ => rfl
end
end Mp

set_option Elab.async false
set_option linter.all false
set_option maxRecDepth 100000
set_option maxHeartbeats 4000000
namespace Mp
open PySem L2
section
variable {c : Cn} {δ : List Sl} {t1 t2 : TE} {P : D → Prop}
theorem de_disp1 {k : Str} (h : DE c t1 δ fun d => P (.dic [(.inr k, d)])) : DE c (tDisp [((tC (.str k)), t1)]) δ P :=
  (dn_disp (dps_cons (de_str (h.imp fun d p => ⟨.inr k, rfl, dps_nil ⟨by simp, p⟩⟩)))).de
theorem mergeD2 {k j : Str} (h : k ≠ j) (d e : D) : mergeD [] [((.inr k : Key), d), (.inr j, e)] = [(.inr k, d), (.inr j, e)] := mergeD_nil [] (by simp [h])
theorem de_disp2 {k j : Str} (hkj : k ≠ j) (h : DE c t1 δ fun d => DE c t2 δ fun e => P (.dic [(.inr k, d), (.inr j, e)])) : DE c (tDisp [((tC (.str k)), t1), ((tC (.str j)), t2)]) δ P :=
  (dn_disp (dps_cons (de_str (h.imp fun d p => ⟨.inr k, rfl, dps_cons (de_str (p.imp fun e p => ⟨.inr j, rfl, dps_nil ⟨by simp, by rw [mergeD2 hkj]; exact p⟩⟩))⟩)))).de
theorem de_dnew (h : P (.dic [])) : DE c tDNewK δ P := (dn_dnew h).de
theorem de_lst0 (h : P (.lst [])) : DE c (tLst tNil) δ P := (dn_lst (da_nil ⟨[], rfl, by simp, h⟩)).de
end
/-! ### the laws' alphabets -/
structure Lab (A B : List Str) : Prop where
  hA : Alp A
  h6 : A.length ≤ 6
  sub : ∀ x ∈ B, x ∈ A
  aa : ("aa" : Str) ∈ A
  two : NoTwo B
  nd : A.Nodup
  z : ∀ x ∈ abcz, x ∈ B
def abq : List Str := ["a", "b", "c", "z", "q"]
def abqA : List Str := ["a", "b", "c", "z", "q", "aa"]
theorem lab_q : Lab abqA abq := ⟨⟨by decide, by decide⟩, by decide, by decide, by decide, by unfold NoTwo; decide, by decide, by decide⟩
theorem alp_abqA : Alp abqA := lab_q.hA
def abk : List Str := ["a", "b", "c", "z", "k"]
def abkA : List Str := ["a", "b", "c", "z", "k", "aa"]
theorem lab_k : Lab abkA abk := ⟨⟨by decide, by decide⟩, by decide, by decide, by decide, by unfold NoTwo; decide, by decide, by decide⟩
theorem alp_abkA : Alp abkA := lab_k.hA
noncomputable def cd (P : Prop) : Bool := @decide P (Classical.propDecidable P)
theorem cd_true {P : Prop} : cd P = true ↔ P := by unfold cd; exact @decide_eq_true_iff P (Classical.propDecidable P)
theorem cd_false {P : Prop} : cd P = false ↔ ¬ P := by unfold cd; exact @decide_eq_false_iff_not P (Classical.propDecidable P)
theorem cd_of {b : Bool} {P : Prop} (h : b = true ↔ P) : b = cd P := by
  cases b
  · exact (cd_false.mpr fun p => by cases h.2 p).symm
  · exact (cd_true.mpr (h.1 rfl)).symm
theorem cd_congr {P Q : Prop} (h : P ↔ Q) : cd P = cd Q := by rw [propext h]
/-- a patch and its datum -/
def PD (B : List Str) (n : Nat) (x : D) (p : Pt) : Prop := x = p.toD ∧ PtOk B 4 n p
section
variable {A B : List Str} {n m : Nat} {x y z : D} {p q r : Pt}
theorem PD.eq (h : PD B n x p) : x = p.toD := h.1
theorem PD.v (L : Lab A B) (h : PD B n x p) (hn : n ≤ 6) : PtV A p := .of L.hA L.h6 (h.2.sub L.sub) (by omega) hn
theorem PD.b (h : PD B n x p) (hn : n ≤ 6) : PtB B p := ⟨4, n, by omega, by omega, hn, h.2⟩
theorem PD.mono (h : PD B n x p) (hn : n ≤ m) : PD B m x p := ⟨h.1, h.2.mono (Nat.le_refl _) hn⟩
theorem PD.of {k : Nat} (hz : ∀ x ∈ abcz, x ∈ B) (hk : k ≤ 4) (h : PtOk abcz k n p) : PD B n p.toD p := ⟨rfl, (h.sub hz).mono hk (Nat.le_refl _)⟩
theorem PD.keep : PD B 0 (.tup [.str "keep"]) .keep := ⟨by rw [Pt.toD], .keep⟩
theorem PD.drop : PD B 0 (.tup [.str "drop"]) .drop := ⟨by rw [Pt.toD], .drop⟩
theorem PD.set {d : D} (h : Doc B 4 d) : PD B 0 (.tup [.str "set", d]) (.set d) := ⟨by rw [Pt.toD], .set h⟩
theorem PD.dflt {d : D} (h : Doc B 4 d) : PD B 0 (.tup [.str "default", d]) (.dflt d) := ⟨by rw [Pt.toD], .dflt h⟩
theorem PD.chn0 : PD B 1 (.tup [.str "chain", .tup []]) (.chn []) := ⟨by rw [Pt.toD, ptsD], .chn (by simp) (by simp)⟩
theorem PD.chn1 (hx : PD B n x p) : PD B (n + 1) (.tup [.str "chain", .tup [x]]) (.chn [p]) := ⟨by rw [Pt.toD, ptsD, ptsD, hx.1], .chn (by simp) (by simp; exact hx.2)⟩
theorem PD.chn2 (hx : PD B n x p) (hy : PD B m y q) : PD B (max n m + 1) (.tup [.str "chain", .tup [x, y]]) (.chn [p, q]) := ⟨by rw [Pt.toD, ptsD, ptsD, ptsD, hx.1, hy.1], .chn (by simp) (by
  simp only [List.mem_cons, List.not_mem_nil, or_false]
  rintro r (rfl | rfl)
  · exact hx.2.mono (Nat.le_refl _) (Nat.le_max_left _ _)
  · exact hy.2.mono (Nat.le_refl _) (Nat.le_max_right _ _))⟩
theorem PD.chn3 {l : Nat} (hx : PD B n x p) (hy : PD B m y q) (hz : PD B l z r) : PD B (max n (max m l) + 1) (.tup [.str "chain", .tup [x, y, z]]) (.chn [p, q, r]) := ⟨by rw [Pt.toD, ptsD, ptsD, ptsD, ptsD, hx.1, hy.1, hz.1], .chn (by simp) (by
  simp only [List.mem_cons, List.not_mem_nil, or_false]
  rintro s (rfl | rfl | rfl)
  · exact hx.2.mono (Nat.le_refl _) (by omega)
  · exact hy.2.mono (Nat.le_refl _) (by omega)
  · exact hz.2.mono (Nat.le_refl _) (by omega))⟩
theorem PD.in0 : PD B 1 (.tup [.str "inside", .dic []]) (.inside []) := ⟨by rw [Pt.toD, esD], .inside (by simp) (by simp) (by simp)⟩
theorem PD.me0 : PD B 1 (.tup [.str "merge", .dic []]) (.merge []) := ⟨by rw [Pt.toD, esD], .merge (by simp) (by simp) (by simp)⟩
theorem PD.in1 {k : Str} (hk : k ∈ B) (hx : PD B n x p) : PD B (n + 1) (.tup [.str "inside", .dic [(.inr k, x)]]) (.inside [(k, p)]) := ⟨by rw [Pt.toD, esD, esD, hx.1], .inside (by simp) (by simp [hk]) (by simp; exact hx.2)⟩
theorem PD.me1 {k : Str} (hk : k ∈ B) (hx : PD B n x p) : PD B (n + 1) (.tup [.str "merge", .dic [(.inr k, x)]]) (.merge [(k, p)]) := ⟨by rw [Pt.toD, esD, esD, hx.1], .merge (by simp) (by simp [hk]) (by simp; exact hx.2)⟩
theorem PD.in2 {k j : Str} (hkj : k ≠ j) (hk : k ∈ B) (hj : j ∈ B) (hx : PD B n x p) (hy : PD B m y q) : PD B (max n m + 1) (.tup [.str "inside", .dic [(.inr k, x), (.inr j, y)]]) (.inside [(k, p), (j, q)]) := ⟨by rw [Pt.toD, esD, esD, esD, hx.1, hy.1], .inside (by simp [hkj]) (by simp [hk, hj]) (by
  simp only [List.mem_cons, List.not_mem_nil, or_false]
  rintro s (rfl | rfl)
  · exact hx.2.mono (Nat.le_refl _) (by omega)
  · exact hy.2.mono (Nat.le_refl _) (by omega))⟩
theorem PD.me2 {k j : Str} (hkj : k ≠ j) (hk : k ∈ B) (hj : j ∈ B) (hx : PD B n x p) (hy : PD B m y q) : PD B (max n m + 1) (.tup [.str "merge", .dic [(.inr k, x), (.inr j, y)]]) (.merge [(k, p), (j, q)]) := ⟨by rw [Pt.toD, esD, esD, esD, hx.1, hy.1], .merge (by simp [hkj]) (by simp [hk, hj]) (by
  simp only [List.mem_cons, List.not_mem_nil, or_false]
  rintro s (rfl | rfl)
  · exact hx.2.mono (Nat.le_refl _) (by omega)
  · exact hy.2.mono (Nat.le_refl _) (by omega))⟩
end
section
variable {A B : List Str} {n m : Nat} {x y z : D} {p q r : Pt}
/-! ### what the decisions say -/
def difP (p q : Pt) : Option D := diffOf 11 (formOf p) (formOf q)
theorem nf_eqv_iff {f g : Fm} (ha : NoAA B) (hf : FmOk B n f) (hg : FmOk B n g) (nf : f.nf) (ng : g.nf) : D.eqv f.toD g.toD = true ↔ ∀ t, f.fs t = g.fs t := by
  constructor
  · exact fm_eqv_fs hf hg
  · intro h
    cases e : diffOf (n + 1) f g with
    | none => exact diff_none (Nat.le_refl n) hf hg nf ng e
    | some s => exact (diff_sound ha (Nat.le_refl n) hf hg e (h _)).elim
theorem dif_none (L : Lab A B) (hp : PtB B p) (hq : PtB B q) : difP p q = none ↔ ∀ t, pden p t = pden q t := by
  constructor
  · intro e t
    rw [← hp.fs, ← hq.fs]
    exact fm_eqv_fs hp.fm hq.fm (diff_none (Nat.le_refl 10) hp.fm hq.fm hp.nf hq.nf e) t
  · intro h
    cases e : difP p q with
    | none => rfl
    | some s => exact (diff_sound L.two.aa (Nat.le_refl 10) hp.fm hq.fm e (by rw [hp.fs, hq.fs, h])).elim
theorem dif_some (L : Lab A B) (hp : PtB B p) (hq : PtB B q) {s : D} (e : difP p q = some s) : St A 11 s ∧ pden p (sem s) ≠ pden q (sem s) ∧ ∀ {N : Nat} {s' : D}, St A N s' → pden p (sem s') ≠ pden q (sem s') → sizeD s ≤ sizeD s' := by
  refine ⟨diff_ok L.sub L.aa (Nat.le_refl 10) hp.fm hq.fm e, ?_, fun hs hne => ?_⟩
  · rw [← hp.fs, ← hq.fs]; exact diff_sound L.two.aa (Nat.le_refl 10) hp.fm hq.fm e
  · rw [← hp.fs, ← hq.fs] at hne
    obtain ⟨u, eu, hu⟩ := diff_least L.nd (Nat.le_refl 10) hp.fm hq.fm hs hne
    have : diffOf 11 (formOf p) (formOf q) = some s := e
    rw [this] at eu
    cases eu
    exact hu
theorem dif_ex (L : Lab A B) (hp : PtB B p) (hq : PtB B q) {N : Nat} {s' : D} (hs : St A N s') (hne : pden p (sem s') ≠ pden q (sem s')) : ∃ s, difP p q = some s ∧ sizeD s ≤ sizeD s' := by
  rw [← hp.fs, ← hq.fs] at hne
  exact diff_least L.nd (Nat.le_refl 10) hp.fm hq.fm hs hne
theorem isN_opt (o : Option D) : (optD o).isN = o.isNone := by cases o <;> rfl
theorem dif_isN (L : Lab A B) (hp : PtB B p) (hq : PtB B q) : (optD (difP p q)).isN = cd (∀ t, pden p t = pden q t) := by
  rw [isN_opt]
  refine cd_of ?_
  rw [← dif_none L hp hq, Option.isNone_iff_eq_none]
theorem chn_fm (hp : PtB B p) (hq : PtB B q) : FmOk B 10 (chain 12 (formOf p) (formOf q)) := chain_okk (by omega) hp.fm hq.fm
theorem chn_nf (hp : PtB B p) (hq : PtB B q) : (chain 12 (formOf p) (formOf q)).nf := chain_nf 12 hp.nf hq.nf
theorem chn_fs (hp : PtB B p) (hq : PtB B q) (t : T) : (chain 12 (formOf p) (formOf q)).fs t = pden q (pden p t) := by
  rw [sem_chain (n := 10) (k := 11) (by omega) hp.fm hq.fm, hp.fs, hq.fs]
theorem com_val (L : Lab A B) (hp : PtB B p) (hq : PtB B q) : D.eqv (chain 12 (formOf p) (formOf q)).toD (chain 12 (formOf q) (formOf p)).toD = cd (∀ t, pden q (pden p t) = pden p (pden q t)) := by
  refine cd_of ?_
  rw [nf_eqv_iff L.two.aa (chn_fm hp hq) (chn_fm hq hp) (chn_nf hp hq) (chn_nf hq hp)]
  simp only [chn_fs hp hq, chn_fs hq hp]
theorem abs_val (L : Lab A B) (hp : PtB B p) (hq : PtB B q) : D.eqv (chain 12 (formOf q) (formOf p)).toD (formOf p).toD = cd (∀ t, pden p (pden q t) = pden p t) := by
  refine cd_of ?_
  rw [nf_eqv_iff L.two.aa (chn_fm hq hp) hp.fm (chn_nf hq hp) hp.nf]
  simp only [chn_fs hq hp, hp.fs]
theorem nf_val (L : Lab A B) (hp : PtB B p) (hq : PtB B q) : D.eqv (formOf p).toD (formOf q).toD = cd (∀ t, pden p t = pden q t) := by
  refine cd_of ?_
  rw [nf_eqv_iff L.two.aa hp.fm hq.fm hp.nf hq.nf]
  simp only [hp.fs, hq.fs]
/-! ### calls, on data -/
variable {P : D → Prop}
theorem call_dif (L : Lab A B) (hx : PD B n x p) (hn : n ≤ 6) (hy : PD B m y q) (hm : m ≤ 6) (h : P (optD (difP p q))) : ∃ ds d, [Av.dat x, .dat y] = ds.map .dat ∧ R_difference A B ds d ∧ P d :=
  ⟨[x, y], _, rfl, ⟨p, q, by rw [hx.1, hy.1], hx.v L hn, hy.v L hm, hx.b hn, hy.b hm, rfl⟩, h⟩
theorem call_com (L : Lab A B) (hx : PD B n x p) (hn : n ≤ 6) (hy : PD B m y q) (hm : m ≤ 6) (h : P (.bl (cd (∀ t, pden q (pden p t) = pden p (pden q t))))) : ∃ ds d, [Av.dat x, .dat y] = ds.map .dat ∧ R_commute A ds d ∧ P d :=
  ⟨[x, y], _, rfl, ⟨p, q, by rw [hx.1, hy.1], hx.v L hn, hy.v L hm, by rw [com_val L (hx.b hn) (hy.b hm)]⟩, h⟩
theorem call_abs (L : Lab A B) (hx : PD B n x p) (hn : n ≤ 6) (hy : PD B m y q) (hm : m ≤ 6) (h : P (.bl (cd (∀ t, pden p (pden q t) = pden p t)))) : ∃ ds d, [Av.dat x, .dat y] = ds.map .dat ∧ R_absorbs A ds d ∧ P d :=
  ⟨[x, y], _, rfl, ⟨p, q, by rw [hx.1, hy.1], hx.v L hn, hy.v L hm, by rw [abs_val L (hx.b hn) (hy.b hm)]⟩, h⟩
theorem call_idem (L : Lab A B) (hx : PD B n x p) (hn : n ≤ 6) (h : P (.bl (cd (∀ t, pden p (pden p t) = pden p t)))) : ∃ ds d, [Av.dat x] = ds.map .dat ∧ R_idempotent A ds d ∧ P d :=
  ⟨[x], _, rfl, ⟨p, by rw [hx.1], hx.v L hn, by rw [abs_val L (hx.b hn) (hx.b hn)]⟩, h⟩
theorem call_nf (L : Lab A B) (hx : PD B n x p) (hn : n ≤ 6) (h : P ((formOf p).toD)) : ∃ ds d, [Av.dat x] = ds.map .dat ∧ R_normal_form A ds d ∧ P d :=
  ⟨[x], _, rfl, ⟨p, by rw [hx.1], hx.v L hn, rfl⟩, h⟩
theorem call_fixed (L : Lab A B) (hx : PD B n x p) (hn : n ≤ 6) (h : P (optD (fixOf (formOf p)))) : ∃ ds d, [Av.dat x] = ds.map .dat ∧ R_fixed A ds d ∧ P d :=
  ⟨[x], _, rfl, ⟨p, by rw [hx.1], hx.v L hn, rfl⟩, h⟩
theorem call_source (L : Lab A B) {l : Nat} (hx : PD B n x p) (hn : n ≤ 6) (hs : St A l y) (hl : l ≤ 5) (h : P (optD (srcOf (formOf p) y))) : ∃ ds d, [Av.dat x, .dat y] = ds.map .dat ∧ R_source A ds d ∧ P d :=
  ⟨[x, y], _, rfl, ⟨p, y, by rw [hx.1], hx.v L hn, .of L.hA L.h6 hs hl, rfl⟩, h⟩
/-- states and what they mean -/
def SM (A : List Str) (n : Nat) (x : D) (t : T) : Prop := St A n x ∧ sem x = t
theorem SM.of (h : St A n x) : SM A n x (sem x) := ⟨h, rfl⟩
theorem SM.mono {t : T} (h : SM A n x t) (l : n ≤ m) : SM A m x t := ⟨h.1.mono l, h.2⟩
theorem call_lrun (L : Lab A B) {l : Nat} {t : T} (hx : PD B n x p) (hn : n ≤ 6) (hs : SM A l y t) (hl : l ≤ 11) (h : ∀ u, SM A 11 u (pden p t) → P u) : ∃ ds d, [Av.dat x, .dat y] = ds.map .dat ∧ R_law_run A 7 ds d ∧ P d :=
  ⟨[x, y], _, rfl, ⟨p, y, by rw [hx.1], (hx.v L hn).ok, hs.1.mono hl, rfl⟩, h _ ⟨lawRun_ok (hx.v L hn).ok (by omega) (hs.1.mono hl), by rw [lawRun_sem (hx.v L hn).ok (N := 11) (by omega) (hs.1.mono hl), hs.2]⟩⟩
theorem call_app (L : Lab A B) {l : Nat} {t : T} (hx : PD B n x p) (hn : n ≤ 6) (hs : SM A l y t) (hl : l ≤ 5) (h : ∀ u, SM A 11 u (pden p t) → P u) : ∃ ds d, [Av.dat x, .dat y] = ds.map .dat ∧ R_apply A ds d ∧ P d := by
  have hv := hx.v L hn
  have h11 := hs.1.mono (show l ≤ 11 by omega)
  refine ⟨[x, y], _, rfl, ⟨p, y, by rw [hx.1], hv, .of L.hA L.h6 hs.1 hl, rfl⟩, h _ ⟨run_ok _ hv.fm h11, ?_⟩⟩
  rw [sem_run _ hv.fm h11, hs.2, (hx.b hn).fs]
theorem call_size (L : Lab A B) {l : Nat} {t : T} (hs : SM A l y t) (hl : l ≤ 13) (h : P (.int (sizeD y))) : ∃ ds d, [Av.dat y] = ds.map .dat ∧ R_size_of A 14 ds d ∧ P d :=
  ⟨[y], _, rfl, ⟨y, rfl, hs.1.mono hl, rfl⟩, h⟩
theorem SM.eqv {t u : T} (h : SM A n x t) (g : SM A m y u) : D.eqv x y = cd (t = u) := by
  refine cd_of ?_
  rw [h.1.eqv_iff g.1, h.2, g.2]
theorem SM.deep {t : T} (h : SM A n x t) (hn : n ≤ 50) : D.deep x ≤ 50 := Nat.le_trans h.1.deep hn
/-- x != y, x == y of states -/
theorem ne_sm {t u : T} {Q : Bool → Prop} (h : SM A n x t) (hn : n ≤ 50) (g : SM A m y u) (q : Q (!cd (t = u))) : D.deep x ≤ 50 ∧ ∃ b, D.bl (!D.eqv x y) = .bl b ∧ Q b := ⟨h.deep hn, _, rfl, by rw [h.eqv g]; exact q⟩
theorem eq_sm {t u : T} {Q : Bool → Prop} (h : SM A n x t) (hn : n ≤ 50) (g : SM A m y u) (q : Q (cd (t = u))) : D.deep x ≤ 50 ∧ ∃ b, D.bl (D.eqv x y) = .bl b ∧ Q b := ⟨h.deep hn, _, rfl, by rw [h.eqv g]; exact q⟩
theorem ne_bl {a b : Bool} {Q : Bool → Prop} (h : a = b) (q : Q false) : D.deep (.bl a) ≤ 50 ∧ ∃ c, D.bl (!D.eqv (.bl a) (.bl b)) = .bl c ∧ Q c := by
  subst h
  exact ⟨Nat.zero_le _, _, rfl, by rw [D.eqv]; simpa using q⟩
theorem chn2_den (t : T) : pden (.chn [p, q]) t = pden q (pden p t) := by rw [pden, pdL, pdL, pdL]
theorem chn1_den (t : T) : pden (.chn [p]) t = pden p t := by rw [pden, pdL, pdL]
theorem chn0_den (t : T) : pden (.chn []) t = t := by rw [pden, pdL]
theorem chn3_den (t : T) : pden (.chn [p, q, r]) t = pden r (pden q (pden p t)) := by rw [pden, pdL, pdL, pdL, pdL]
theorem keep_den (t : T) : pden .keep t = t := by rw [pden]
theorem drop_den (t : T) : pden .drop t = .no := by rw [pden]
theorem set_den {d : D} (t : T) : pden (.set d) t = sem d := by rw [pden]
theorem in_nd {es : List (Str × Pt)} (m : Str → T) : pden (.inside es) (.nd m) = .nd (pdK es m) := by rw [pden]
theorem in_ne {es : List (Str × Pt)} {t : T} (h : ∀ m, t ≠ .nd m) : pden (.inside es) t = t := by
  rw [pden.eq_def]; cases t <;> first | rfl | exact (h _ rfl).elim
theorem me_any {es : List (Str × Pt)} (t : T) : pden (.merge es) t = .nd (pdK es (kids t)) := by rw [pden]
theorem pdK_nil (m : Str → T) (x : Str) : pdK [] m x = m x := by rw [pdK]
theorem pdK_cons (k : Str) (p : Pt) (es : List (Str × Pt)) (m : Str → T) (x : Str) : pdK ((k, p) :: es) m x = if k = x then pden p (m x) else pdK es m x := by rw [pdK]
theorem dflt_no {d : D} : pden (.dflt d) .no = sem d := by rw [pden.eq_def]
theorem dflt_ne {d : D} {t : T} (h : t ≠ .no) : pden (.dflt d) t = t := by
  rw [pden.eq_def]; cases t <;> first | rfl | exact (h rfl).elim
end
end Mp

set_option Elab.async false
set_option linter.all false
set_option maxRecDepth 100000
set_option maxHeartbeats 4000000
namespace Mp
open PySem L2
local macro_rules | `(tactic| walk_at "s") => `(tactic| first
  | with_reducible refine ds_seq ?_
  | with_reducible refine ds_ret ?_
  | with_reducible refine ds_if ?_
  | with_reducible refine ds_asg ?_
  | with_reducible refine ds_drop ?_
  | with_reducible refine ds_next ?_
  | with_reducible refine ds_retN ?_
  | with_reducible refine then_nx ?_
  | with_reducible refine then_rt ?_
  | with_reducible refine gives_rt ?_
  | with_reducible refine gives_nx
  | with_reducible refine dt_not ?_
  | with_reducible refine dt_test ?_
  | with_reducible refine dt_B ?_
  | with_reducible refine dt_and ?_
  | with_reducible refine dt_or ?_
  | with_reducible refine dt_yes ?_
  | with_reducible refine ex_bl ?_
  | with_reducible refine ex_ii ?_
  | ((with_reducible show DE _ (tVar _) _ _); refine de_var rfl ?_)
  | with_reducible refine de_int ?_
  | with_reducible refine de_str ?_
  | with_reducible refine de_bl ?_
  | with_reducible refine de_non ?_
  | with_reducible refine de_sub ?_
  | with_reducible refine de_eq ?_
  | with_reducible refine de_ne ?_
  | with_reducible refine de_in ?_
  | with_reducible refine de_add ?_
  | with_reducible refine de_subI ?_
  | with_reducible refine de_lt ?_
  | with_reducible refine de_le ?_
  | with_reducible refine de_gt ?_
  | with_reducible refine de_ge ?_
  | with_reducible refine de_neg ?_
  | with_reducible refine de_isN ?_
  | with_reducible refine de_notN ?_
  | with_reducible refine de_chainII ?_
  | with_reducible refine de_len ?_
  | with_reducible refine de_isi .str rfl ?_
  | with_reducible refine de_isi .int rfl ?_
  | with_reducible refine de_isi .bool rfl ?_
  | with_reducible refine de_isi .dict rfl ?_
  | with_reducible refine de_isi .tuple rfl ?_
  | with_reducible refine de_isi .list rfl ?_
  | with_reducible refine de_all ?_
  | with_reducible refine de_sum ?_
  | with_reducible refine de_if ?_
  | with_reducible refine de_andV ?_
  | with_reducible refine de_orV ?_
  | with_reducible refine de_notV ?_
  | with_reducible refine de_tuple ?_
  | with_reducible refine de_get1 ?_
  | with_reducible refine de_get2 ?_
  | with_reducible refine de_tup0 ?_
  | with_reducible refine de_tup1 ?_
  | with_reducible refine de_tup2 ?_
  | with_reducible refine de_tup3 ?_
  | with_reducible refine de_tup4 ?_
  | with_reducible refine de_tup ?_
  | with_reducible refine de_isB ?_
  | with_reducible refine de_notB ?_
  | ((with_reducible show DE _ (tCall (SpT _ _) _ _ _) _ _); refine de_ct rfl rfl ?_)
  | with_reducible refine de_call ?_
  | with_reducible refine da_nil ?_
  | with_reducible refine da_cons ?_)

section
variable {A : List Str} {K : PySem.W.Frag} {c : Cn} {δ : List Sl}
theorem ds_noif {tt : TT} {ts : TS} {R : Out → Prop} (h : DT c tt δ fun b => b = false) (k : R (.nx δ)) : DS c (tIfS tt ts tNext) δ R := ds_if (h.imp fun b hb => it_f hb (ds_next k))
theorem p_law_formed (hA : Alp A) (n : Nat) (hn : n ≤ 40) (ds : List D) (d : D) (h : R_run A (n + 1) ds d) : DS ⟨K, none⟩ (t__law_formed K (SpP K (R_run A n))) (slots ["form", "state", "result", "key", "inner", "value"] ds) (Gives d) := by
  obtain ⟨f, s, rfl, hf, hs, rfl⟩ := h
  show DS _ _ [.dat f.toD, .dat s, .un, .un, .un, .un] _
  unfold t__law_formed
  rw [toD_eq]
  repeat walk_at "s"
  have hsc : s.isA .dict = false → s.isN = false → f.run s = f.sc.getD s := fun h1 h2 => by
    cases f <;> rw [Fm.run.eq_def] <;> cases s <;> first | (cases h1; done) | (cases h2; done) | rfl
  have scal : s.isA .dict = false → s.isN = false → ∀ t, DS ⟨K, none⟩ (tRet (tIf (tTest (tOp (rEqX K) (tOp (rSub K) (tVar 0) (tC (.int 1))) (tTupF (tCons (tC (.str "same")) tNil)))) (tVar 1) (tOp (rSub K) (tOp (rSub K) (tVar 0) (tC (.int 1))) (tC (.int 1))))) [.dat (.tup [f.no, scD f.sc, entD f]), .dat s, .un, .un, .un, .un] (Then ⟨K, none⟩ t (Gives (f.run s))) := fun h1 h2 t => by
    repeat walk_at "s"
    have hd := scD_deep hf.hsc
    refine ⟨scD f.sc, rfl, ?_⟩
    repeat walk_at "s"
    refine ⟨by omega, ?_⟩
    repeat walk_at "s"
    rw [scD_eqv, hsc h1 h2]
    cases f.sc with
    | none =>
      refine it_t rfl ?_
      repeat walk_at "s"
      rfl
    | some e =>
      refine it_f rfl ?_
      repeat walk_at "s"
      refine ⟨scD (some e), rfl, ?_⟩
      repeat walk_at "s"
      exact ⟨e, rfl, rfl⟩
  cases s with
  | non =>
    refine it_t rfl ?_
    repeat walk_at "s"
    refine ⟨f.no, rfl, ?_⟩
    repeat walk_at "s"
    cases f <;> rw [Fm.run.eq_def] <;> rfl
  | dic ks =>
    refine it_f rfl ?_
    repeat walk_at "s"
    refine it_f rfl ?_
    repeat walk_at "s"
    refine ⟨entD f, rfl, ?_⟩
    repeat walk_at "s"
    cases f with
    | con no sc d =>
      refine ⟨.str "constant", rfl, ?_⟩
      repeat walk_at "s"
      refine ⟨Nat.zero_le _, ?_⟩
      repeat walk_at "s"
      refine it_t (eqs_t _) ?_
      repeat walk_at "s"
      refine ⟨entD (.con no sc d), rfl, ?_⟩
      repeat walk_at "s"
      refine ⟨d, rfl, ?_⟩
      repeat walk_at "s"
      rw [Fm.run.eq_def]
    | ent no sc ps =>
      obtain ⟨m', rfl, hk⟩ := KsOk.of hs
      have hp := hf.ps
      refine ⟨.str "entries", rfl, ?_⟩
      repeat walk_at "s"
      refine ⟨Nat.zero_le _, ?_⟩
      repeat walk_at "s"
      refine it_f (eqs_f (by decide)) (ds_next (then_nx ?_))
      refine ds_seq (ds_asgN (dn_dict (de_var rfl (.inr ⟨ks, rfl, then_nx ?_⟩))))
      refine ds_seq (ds_for (js := [3, 4]) (di_any ?_))
      repeat walk_at "s"
      refine ⟨entD (.ent no sc ps), rfl, ?_⟩
      repeat walk_at "s"
      refine ⟨.tup (psD ps), rfl, psD ps, rfl, fun i δ => ∃ z1 z2 z3, δ = [.dat (.tup [no, scD sc, entD (.ent no sc ps)]), .dat (.dic ks), .own (.dic (entsRun (ps.take i) ks ks)), z1, z2, z3], ⟨.un, .un, .un, ?_⟩, fun i d δ' hd w => ?_, fun δ' w => ?_⟩
      · rw [List.take_zero, entsRun]; rfl
      · obtain ⟨z1, z2, z3, rfl⟩ := w
        rw [psD_map, List.getElem?_map] at hd
        cases q : ps[i]? with
        | none => rw [q] at hd; cases hd
        | some p =>
          rw [q] at hd; cases hd
          obtain ⟨k, g⟩ := p
          have hm := List.mem_of_getElem? q
          have hti : PsOk A m' (ps.take i) := ⟨List.Nodup.sublist ((List.take_sublist i ps).map _) hp.nd, fun p h => hp.mem p (List.mem_of_mem_take h), fun p h => hp.ok p (List.mem_of_mem_take h)⟩
          have hacc := ents_ok _ hti hk hk
          refine dg_pair (ds_seq (ds_asg ?_))
          repeat walk_at "s"
          refine ⟨ks, rfl, ?_⟩
          repeat walk_at "s"
          refine ⟨k, rfl, ?_⟩
          repeat walk_at "s"
          have hs := hk.get (.inr k)
          refine ⟨[g.toD, (look ks (.inr k)).getD .non], _, rfl, ⟨g, _, rfl, hp.ok _ hm, hs, rfl⟩, ?_⟩
          repeat walk_at "s"
          have e1 : entsRun (ps.take (i + 1)) ks ks = putV (entsRun (ps.take i) ks ks) k (g.run ((look ks (.inr k)).getD .non)) := by
            rw [List.take_succ, q]; exact entsRun_snoc _ _ _ _ _
          simp only [e1]
          generalize g.run ((look ks (.inr k)).getD .non) = v
          cases v with
          | non =>
            refine it_f rfl (ds_if (dt_test (de_in_own rfl ?_)))
            repeat walk_at "s"
            refine ⟨k, rfl, _, rfl, ?_⟩
            cases ql : look (entsRun (ps.take i) ks ks) (.inr k) with
            | none =>
              refine it_f rfl (ds_next ?_)
              have e2 : putV (entsRun (ps.take i) ks ks) k .non = entsRun (ps.take i) ks ks := dropD_none ql
              simp only [e2]
              exact ⟨_, _, _, rfl⟩
            | some x =>
              refine it_t rfl (ds_dpop1 rfl ?_)
              repeat walk_at "s"
              exact ⟨k, rfl, by rw [ql]; rfl, _, _, _, rfl⟩
          | _ =>
            refine it_t rfl (ds_dput rfl (Nat.le_trans (Nat.le_trans hacc.len hA.few) (by omega)) ?_)
            repeat walk_at "s"
            exact ⟨k, rfl, _, _, _, rfl⟩
      · obtain ⟨z1, z2, z3, rfl⟩ := w
        rw [psD_map, List.length_map, List.take_length]
        refine then_nx (ds_pub 2 rfl ?_)
        repeat walk_at "s"
        rw [Fm.run.eq_def]
  | _ =>
    refine it_f rfl ?_
    repeat walk_at "s"
    refine it_t rfl (scal rfl rfl _)
/-! ### the shape of a normal form -/
def R_is_form (A : List Str) : Nat → List D → D → Prop
  | 0, _, _ => False
  | n + 1, ds, d => ∃ f, ds = [Fm.toD f] ∧ FmOk A n f ∧ f.nf ∧ d = .bl true
theorem getE_map {α β : Type} {f : α → β} {xs : List α} {i : Nat} {y : β} (h : (xs.map f)[i]? = some y) : ∃ x, xs[i]? = some x ∧ y = f x := by
  rw [List.getElem?_map] at h
  obtain ⟨x, hx, rfl⟩ := Option.map_eq_some_iff.mp h
  exact ⟨x, hx, rfl⟩
theorem eqvL_strs : ∀ xs : List Str, D.eqvL (xs.map .str) (xs.map .str) = true
  | [] => rfl
  | x :: r => by rw [List.map_cons, D.eqvL, eqs_t, eqvL_strs r] <;> rfl
theorem sorted_set_id {xs ys : List Str} (nd : xs.Nodup) (pw : xs.Pairwise fun a b => leS a b = true) (h1 : PyProof.Rows.sortedS ys = true) (h2 : ys.Nodup) (h3 : ∀ x, x ∈ ys ↔ x ∈ xs) : ys = xs := by
  have p : ys.Perm xs := (List.perm_ext_iff_of_nodup h2 nd).mpr h3
  exact List.Perm.eq_of_pairwise (fun a b _ _ => leS_anti) (sorted_pw h1) pw p
theorem p_law_is_form (hA : Alp A) (n : Nat) (hn : n ≤ 11) (ds : List D) (d : D) (h : R_is_form A (n + 1) ds d) : DS ⟨K, none⟩ (t__law_is_form K (SpP K (R_is_form A n))) (slots ["form", "names", "keep", "pair"] ds) (Gives d) := by
  obtain ⟨f, rfl, hf, nf, rfl⟩ := h
  show DS _ _ [.dat f.toD, .un, .un, .un] _
  unfold t__law_is_form
  have e0 : f.toD = .tup [f.no, scD f.sc, entD f] := toD_eq f
  rw [e0]
  have s1 : D.sub (.tup [f.no, scD f.sc, entD f]) (.int 1) = some (scD f.sc) := rfl
  have s2 : D.sub (.tup [f.no, scD f.sc, entD f]) (.int 2) = some (entD f) := rfl
  obtain ⟨nm, r, esc, hnm, hlen⟩ : ∃ (nm : Str) (r : List D), scD f.sc = .tup (.str nm :: r) ∧ (nm = "same" ∨ nm = "constant") ∧ ((r.length + 1 : Nat) : Int) = if D.eqv (.str nm) (.str "same") = true then 1 else 2 := by
    cases f.sc with
    | none => exact ⟨"same", [], rfl, .inl rfl, by rw [eqs_t] <;> rfl⟩
    | some e => exact ⟨"constant", [e], rfl, .inr rfl, by rw [eqs_f (by decide)] <;> rfl⟩
  rw [esc] at s1 ⊢
  refine ds_seq (ds_noif ?_ (then_nx ?_))
  · repeat walk_at "s"
    refine it_f rfl ?_
    repeat walk_at "s"
    refine ⟨3, rfl, ?_⟩
    repeat walk_at "s"
    refine ⟨Nat.zero_le _, _, rfl, it_f (by rw [D.eqv]; rfl) ?_⟩
    repeat walk_at "s"
    refine ⟨_, s1, ?_⟩
    repeat walk_at "s"
    refine ⟨.str nm, sub_tup0, ?_⟩
    repeat walk_at "s"
    exact ⟨true, inn2t hnm, _, rfl, rfl⟩
  refine ds_seq (ds_noif ?_ (then_nx ?_))
  · repeat walk_at "s"
    refine ⟨_, s1, ?_⟩
    repeat walk_at "s"
    refine ⟨r.length + 1, rfl, ?_⟩
    repeat walk_at "s"
    refine ⟨_, s1, ?_⟩
    repeat walk_at "s"
    refine ⟨.str nm, sub_tup0, ?_⟩
    repeat walk_at "s"
    refine ⟨Nat.zero_le _, _, rfl, ?_⟩
    have fin : ∀ i : Int, ((r.length + 1 : Nat) : Int) = i → D.deep (.int ((r.length + 1 : Nat) : Int)) ≤ 50 ∧ ∃ b, D.bl (!D.eqv (.int ((r.length + 1 : Nat) : Int)) (.int i)) = .bl b ∧ if b = true then true = false else
        DT ⟨K, none⟩ (tTest (tOp (rNeX K) (tCB (rLenX K) (tCons (tOp (rSub K) (tVar 0) (tC (.int 2))) tNil)) (tC (.int 2)))) [.dat (.tup [f.no, .tup (.str nm :: r), entD f]), .un, .un, .un] (fun b => b = false) := fun i hi => by
      subst hi
      refine ⟨Nat.zero_le _, _, rfl, it_f (by rw [D.eqv]; simp) ?_⟩
      repeat walk_at "s"
      refine ⟨_, s2, ?_⟩
      repeat walk_at "s"
      refine ⟨2, by cases f <;> rfl, ?_⟩
      repeat walk_at "s"
      exact ⟨Nat.zero_le _, _, rfl, by rw [D.eqv] <;> rfl⟩
    refine it_c (fun e => ?_) fun e => ?_
    · rw [if_pos e] at hlen
      repeat walk_at "s"
      exact fin 1 hlen
    · rw [if_neg (by rw [e]; decide)] at hlen
      repeat walk_at "s"
      exact fin 2 hlen
  refine ds_seq (ds_noif ?_ (then_nx ?_))
  · repeat walk_at "s"
    refine ⟨_, s2, ?_⟩
    repeat walk_at "s"
    refine ⟨.str (if isCon f then "constant" else "entries"), by cases f <;> rfl, ?_⟩
    repeat walk_at "s"
    refine ⟨true, inn2t ?_, _, rfl, rfl⟩
    cases f
    · exact .inl rfl
    · exact .inr rfl
  repeat walk_at "s"
  refine ⟨_, s2, ?_⟩
  repeat walk_at "s"
  cases f with
  | con no sc d =>
    refine ⟨.str "constant", rfl, ?_⟩
    repeat walk_at "s"
    refine ⟨Nat.zero_le _, _, rfl, it_t (eqs_t _) ?_⟩
    repeat walk_at "s"
    rfl
  | ent no sc ps =>
    rw [Fm.nf] at nf
    obtain ⟨pw, nd, nk⟩ := nf
    refine ⟨.str "entries", rfl, ?_⟩
    repeat walk_at "s"
    refine ⟨Nat.zero_le _, _, rfl, it_f (eqs_f (by decide)) (ds_next (then_nx ?_))⟩
    have hps : PsOk A (n - 1) ps ∧ (ps ≠ [] → 0 < n) := by
      cases n with
      | zero => have := hf.ps0; subst this; exact ⟨⟨by simp, by simp, by simp⟩, fun z => (z rfl).elim⟩
      | succ n => exact ⟨hf.ps, fun _ => by omega⟩
    obtain ⟨hp, hn0⟩ := hps
    have hpl := Nat.le_trans hp.len hA.few
    refine ds_seq (ds_asg (dn_lcM (js := [3]) (fun d => match d with | .tup (x :: _) => x | _ => .non) (by simp) (di_any ?_)).de)
    repeat walk_at "s"
    refine ⟨_, s2, ?_⟩
    repeat walk_at "s"
    refine ⟨.tup (psD ps), rfl, psD ps, rfl, ?_, fun i d hd => ?_, ?_⟩
    · rw [psD_map, List.length_map]; exact Nat.le_of_lt (small1000 (by omega))
    · rw [psD_map] at hd
      obtain ⟨⟨k, g⟩, hg, rfl⟩ := getE_map hd
      refine dg_name ?_
      repeat walk_at "s"
      exact ⟨.str k, rfl, rfl⟩
    have en : (psD ps).map (fun d => match d with | .tup (x :: _) => x | _ => .non) = (ps.map (·.1)).map D.str := by
      rw [psD_map, List.map_map, List.map_map]; rfl
    rw [en]
    refine then_nx (ds_seq (ds_noif ?_ (then_nx ?_)))
    · repeat walk_at "s"
      refine (dn_sortSet ?_).de
      repeat walk_at "s"
      refine ⟨ps.map (·.1), rfl, by rw [List.length_map]; omega, fun ys h1 h2 h3 => ?_⟩
      rw [sorted_set_id nd pw h1 h2 h3]
      refine ⟨?_, _, rfl, ?_⟩
      · rw [D.deep]
        have := deepL_le (n := 0) (ks := (ps.map (·.1)).map D.str) fun d hd => by
          obtain ⟨x, _, rfl⟩ := List.mem_map.mp hd
          exact Nat.le_refl _
        omega
      · rw [D.eqv, eqvL_strs] <;> rfl
    repeat walk_at "s"
    refine (dn_lcM (js := [3]) (fun _ => .bl true) (by simp) (di_any ?_)).de
    repeat walk_at "s"
    refine ⟨_, s2, ?_⟩
    repeat walk_at "s"
    refine ⟨.tup (psD ps), rfl, psD ps, rfl, ?_, fun i d hd => ?_, ?_⟩
    · rw [psD_map, List.length_map]; exact Nat.le_of_lt (small1000 (by omega))
    · rw [psD_map] at hd
      obtain ⟨⟨k, g⟩, hg, rfl⟩ := getE_map hd
      have hm := List.mem_of_getElem? hg
      obtain ⟨hkeep, hnf⟩ := nfK_mem nk hm
      have hgo := hp.ok _ hm
      have h0 := hn0 (by rintro rfl; cases hm)
      refine dg_name ?_
      repeat walk_at "s"
      refine ⟨g.toD, rfl, ?_⟩
      repeat walk_at "s"
      refine ⟨fm_deep hgo (by omega), _, rfl, it_t ?_ ?_⟩
      · show (!D.eqv g.toD (.tup [.non, .tup [.str "same"], .tup [.str "entries", .tup []]])) = true
        have e1 := keep_eqv hgo
        rw [show Fm.keep.toD = .tup [.non, .tup [.str "same"], .tup [.str "entries", .tup []]] by unfold Fm.keep; rw [Fm.toD, psD]; rfl] at e1
        rw [e1, hkeep]; rfl
      repeat walk_at "s"
      refine ⟨g.toD, rfl, ?_⟩
      repeat walk_at "s"
      refine ⟨[g.toD], .bl true, rfl, ?_, rfl⟩
      obtain ⟨m, rfl⟩ : ∃ m, n = m + 1 := ⟨n - 1, by omega⟩
      exact ⟨g, rfl, hgo, hnf, rfl⟩
    · refine ⟨(psD ps).map fun _ => true, by rw [List.map_map] <;> rfl, ?_⟩
      repeat walk_at "s"
      rw [show ((psD ps).map fun _ => true).all id = true by simp]
end
end Mp

set_option Elab.async false
set_option linter.all false
set_option maxRecDepth 100000
set_option maxHeartbeats 4000000
namespace Mp
open PySem L2
section
variable {A B : List Str} {n : Nat} {x y : D} {p : Pt} {P : D → Prop}
/-- _law_formed of a patch's normal form -/
theorem call_formed (L : Lab A B) {l : Nat} {t : T} (hx : PD B n x p) (hn : n ≤ 6) (hs : SM A l y t) (hl : l ≤ 11) (h : ∀ u, SM A 11 u (pden p t) → P u) : ∃ ds d, [Av.dat (formOf p).toD, .dat y] = ds.map .dat ∧ R_run A 12 ds d ∧ P d := by
  have hv := hx.v L hn
  have h11 := hs.1.mono hl
  refine ⟨[(formOf p).toD, y], _, rfl, ⟨formOf p, y, rfl, hv.fm, h11, rfl⟩, h _ ⟨run_ok _ hv.fm h11, ?_⟩⟩
  rw [sem_run _ hv.fm h11, hs.2, (hx.b hn).fs]
theorem call_isform (L : Lab A B) (hx : PD B n x p) (hn : n ≤ 6) (h : P (.bl true)) : ∃ ds d, [Av.dat (formOf p).toD] = ds.map .dat ∧ R_is_form A 12 ds d ∧ P d :=
  ⟨[(formOf p).toD], _, rfl, ⟨formOf p, rfl, (hx.v L hn).fm, (hx.b hn).nf, rfl⟩, h⟩
end
local macro_rules | `(tactic| walk_at "pd") => `(tactic| first
  | assumption
  | exact PD.keep | exact PD.drop | exact PD.chn0 | exact PD.in0 | exact PD.me0
  | (with_reducible apply PD.chn2 <;> walk_at "pd")
  | (with_reducible apply PD.chn1 <;> walk_at "pd")
  | (with_reducible apply PD.chn3 <;> walk_at "pd")
  | (with_reducible apply PD.set <;> assumption)
  | (with_reducible apply PD.dflt <;> assumption)
  | (with_reducible apply PD.in1 <;> first | decide | walk_at "pd")
  | (with_reducible apply PD.me1 <;> first | decide | walk_at "pd")
  | (with_reducible apply PD.in2 <;> first | decide | walk_at "pd")
  | (with_reducible apply PD.me2 <;> first | decide | walk_at "pd"))
local macro_rules | `(tactic| walk_at "s") => `(tactic| first
  | with_reducible refine ds_seq ?_
  | with_reducible refine ds_ret ?_
  | with_reducible refine ds_if ?_
  | with_reducible refine ds_asg ?_
  | with_reducible refine ds_drop ?_
  | with_reducible refine ds_next ?_
  | with_reducible refine ds_retN ?_
  | with_reducible refine then_nx ?_
  | with_reducible refine then_rt ?_
  | with_reducible refine gives_rt ?_
  | with_reducible refine gives_nx
  | with_reducible refine dt_not ?_
  | with_reducible refine dt_test ?_
  | with_reducible refine dt_B ?_
  | with_reducible refine dt_and ?_
  | with_reducible refine dt_or ?_
  | with_reducible refine dt_yes ?_
  | with_reducible refine ex_bl ?_
  | with_reducible refine ex_ii ?_
  | ((with_reducible show DE _ (tVar _) _ _); refine de_var rfl ?_)
  | with_reducible refine de_int ?_
  | with_reducible refine de_str ?_
  | with_reducible refine de_bl ?_
  | with_reducible refine de_non ?_
  | with_reducible refine de_sub ?_
  | with_reducible refine de_eq ?_
  | with_reducible refine de_ne ?_
  | with_reducible refine de_in ?_
  | with_reducible refine de_add ?_
  | with_reducible refine de_subI ?_
  | with_reducible refine de_lt ?_
  | with_reducible refine de_le ?_
  | with_reducible refine de_gt ?_
  | with_reducible refine de_ge ?_
  | with_reducible refine de_neg ?_
  | with_reducible refine de_isN ?_
  | with_reducible refine de_notN ?_
  | with_reducible refine de_chainII ?_
  | with_reducible refine de_len ?_
  | with_reducible refine de_isi .str rfl ?_
  | with_reducible refine de_isi .int rfl ?_
  | with_reducible refine de_isi .bool rfl ?_
  | with_reducible refine de_isi .dict rfl ?_
  | with_reducible refine de_isi .tuple rfl ?_
  | with_reducible refine de_isi .list rfl ?_
  | with_reducible refine de_all ?_
  | with_reducible refine de_sum ?_
  | with_reducible refine de_if ?_
  | with_reducible refine de_andV ?_
  | with_reducible refine de_orV ?_
  | with_reducible refine de_notV ?_
  | with_reducible refine de_tuple ?_
  | with_reducible refine de_get1 ?_
  | with_reducible refine de_get2 ?_
  | with_reducible refine de_tup0 ?_
  | with_reducible refine de_tup1 ?_
  | with_reducible refine de_tup2 ?_
  | with_reducible refine de_tup3 ?_
  | with_reducible refine de_tup4 ?_
  | with_reducible refine de_tup ?_
  | with_reducible refine de_isB ?_
  | with_reducible refine de_notB ?_
  | ((with_reducible show DE _ (tCall (SpT _ _) _ _ _) _ _); refine de_ct rfl rfl ?_)
  | with_reducible refine de_disp1 ?_
  | with_reducible refine de_disp2 (by decide) ?_
  | with_reducible refine de_dnew ?_
  | with_reducible refine de_lst0 ?_
  | with_reducible refine de_call ?_
  | with_reducible refine da_nil ?_
  | with_reducible refine da_cons ?_
  | with_reducible refine call_dif ‹Lab _ _› (by walk_at "pd") (by omega) (by walk_at "pd") (by omega) ?_
  | with_reducible refine call_com ‹Lab _ _› (by walk_at "pd") (by omega) (by walk_at "pd") (by omega) ?_
  | with_reducible refine call_abs ‹Lab _ _› (by walk_at "pd") (by omega) (by walk_at "pd") (by omega) ?_
  | with_reducible refine call_idem ‹Lab _ _› (by walk_at "pd") (by omega) ?_
  | with_reducible refine call_nf ‹Lab _ _› (by walk_at "pd") (by omega) ?_
  | with_reducible refine call_same ‹Lab _ _› (by walk_at "pd") (by omega) (by walk_at "pd") (by omega) ?_
  | with_reducible refine call_fixed ‹Lab _ _› (by walk_at "pd") (by omega) ?_
  | with_reducible refine call_lrun ‹Lab _ _› (by walk_at "pd") (by omega) (by assumption) (by omega) (fun _ _ => ?_)
  | with_reducible refine call_app ‹Lab _ _› (by walk_at "pd") (by omega) (by assumption) (by omega) (fun _ _ => ?_)
  | with_reducible refine call_size ‹Lab _ _› (by assumption) (by omega) ?_
  | with_reducible refine ne_sm (by assumption) (by decide) (by assumption) ?_
  | with_reducible refine eq_sm (by assumption) (by decide) (by assumption) ?_)
def rest03 (K : PySem.W.Frag) (sp_normal_form sp__law_formed sp__law_run sp__law_small sp__law_state sp__law_is_form sp__law_patch : Sp) : TS :=
  (tSeq (tPar 2 3 (tCons (tCall sp__law_patch [] E0 (tCons (tVar 0) (tCons (tVar 1) (tCons (tC (.int 4)) tNil)))) (tCons (tCall sp__law_patch [] E0 (tCons (tVar 0) (tCons (tVar 1) (tCons (tC (.int 2)) tNil)))) tNil)))
    (tSeq (tPar 4 5 (tCons (tCall sp_normal_form [] E0 (tCons (tVar 2) tNil)) (tCons (tCall sp_normal_form [] E0 (tCons (tTupF (tCons (tC (.str "chain")) (tCons (tTupF (tCons (tVar 2) (tCons (tVar 3) tNil))) tNil))) tNil)) tNil)))
    (tSeq (tIfS (tOr (tNot (tB (tCall sp__law_is_form [] E0 (tCons (tVar 4) tNil)))) (tNot (tB (tCall sp__law_is_form [] E0 (tCons (tVar 5) tNil))))) (tRet (tC (.bl false))) tNext)
    (tSeq (tAsg (tOp rCat (tSl (rSlL K) (tCall sp__law_small [] E0 tNil) tNoPart (tPart (tC (.int 60)))) (tLc (iRng1 (tCons (tC (.int 10)) tNil)) (gName 9) tYes (tCall sp__law_state [] E0 (tCons (tVar 0) (tCons (tVar 1) (tCons (tC (.int 3)) tNil)))) [9])) (gName 6))
    (tSeq (tFor (iAny K (tVar 6)) (gName 7) (tSeq (tAsg (tCall sp__law_run [] E0 (tCons (tVar 2) (tCons (tVar 7) tNil))) (gName 8))
    (tIfS (tOr (tTest (tOp (rNeX K) (tCall sp__law_formed [] E0 (tCons (tVar 4) (tCons (tVar 7) tNil))) (tVar 8))) (tTest (tOp (rNeX K) (tCall sp__law_formed [] E0 (tCons (tVar 5) (tCons (tVar 7) tNil))) (tCall sp__law_run [] E0 (tCons (tVar 3) (tCons (tVar 8) tNil)))))) (tRet (tC (.bl false))) tNext)))
    (tRet (tOp (rEqX K) (tCall sp_normal_form [] E0 (tCons (tTupF (tCons (tC (.str "chain")) (tCons (tTupF (tCons (tTupF (tCons (tC (.str "keep")) tNil)) (tCons (tVar 2) (tCons (tTupF (tCons (tC (.str "chain")) (tCons (tTupF tNil) tNil))) tNil)))) tNil))) tNil)) (tVar 4))))))))
section
variable {K : PySem.W.Frag} {A B : List Str}
theorem p_law03 (L : Lab A B) (t a : Addr) (ns : List Int) : DS ⟨K, some (t, a, ns)⟩ (rest03 K (SpP K (R_normal_form A)) (SpP K (R_run A 12)) (SpP K (R_law_run A 7)) (SpP K R_law_small) (SpT K (R_state abcz 3)) (SpP K (R_is_form A 12)) (SpT K (R_patch abcz 5))) (slotsT ["script", "town", "patch", "other", "form", "both", "states", "state", "once", "k"] a t []) (GivesS fun d => d = .bl true) := by
  show DS _ _ [.raw (.ref a), .raw (.ref t), .un, .un, .un, .un, .un, .un, .un, .un] _
  unfold rest03
  have sA : ∀ x ∈ abcz, x ∈ A := fun x hx => L.sub x (L.z x hx)
  refine ds_seq (ds_par ?_)
  repeat walk_at "s"
  refine ⟨[.int 4], _, rfl, ⟨4, rfl, by decide, rfl⟩, ?_⟩
  rintro _ ⟨p, rfl, hp0⟩
  replace hp0 : PtOk abcz 2 4 p := hp0
  have hp : PD B 4 p.toD p := PD.of L.z (by decide) hp0
  repeat walk_at "s"
  refine ⟨[.int 2], _, rfl, ⟨2, rfl, by decide, rfl⟩, ?_⟩
  rintro _ ⟨q, rfl, hq0⟩
  replace hq0 : PtOk abcz 2 2 q := hq0
  have hq : PD B 2 q.toD q := PD.of L.z (by decide) hq0
  have hpq := PD.chn2 hp hq
  refine then_nx (ds_seq (ds_par ?_))
  repeat walk_at "s"
  refine call_isform L hp (by decide) ?_
  repeat walk_at "s"
  refine it_f rfl ?_
  repeat walk_at "s"
  refine call_isform L hpq (by decide) ?_
  repeat walk_at "s"
  refine it_f rfl (ds_next (then_nx ?_))
  refine ds_seq (ds_asg (dn_cat (dn_slL (de_call (da_nil ⟨[], _, rfl, ⟨rfl, rfl⟩, smAll, rfl, do_none (do_some (de_int ⟨60, rfl, _, rfl, ?_⟩))⟩)))).de)
  refine dn_lcS (js := [9]) (fun _ y => St abcz 3 y) (by simp) (di_rng (de_int ⟨10, rfl, by decide, ?_, fun j d hd => dg_name ?_, fun ys hy => ⟨ys, rfl, ?_, then_nx ?_⟩⟩))
  · rw [List.length_map, List.length_range]; exact Nat.le_of_lt (small1000 (by decide))
  · repeat walk_at "s"
    exact ⟨[.int 3], _, rfl, ⟨3, rfl, by decide, rfl⟩, fun s hs => hs⟩
  · have := hy.len
    rw [List.length_map, List.length_range] at this
    rw [this]
    unfold cutD
    rw [List.length_take]
    have : smAll.length ≤ 200 := by rw [smAll_len]; decide
    simp only [List.length_drop]
    omega
  have hst : ∀ s ∈ cutD smAll none (some 60) ++ ys, St A 4 s := fun s hs => by
    rcases List.mem_append.mp hs with hs | hs
    · unfold cutD at hs
      exact (smAll_st s (List.mem_of_mem_drop (List.mem_of_mem_take hs))).sub sA
    · obtain ⟨_, _, h⟩ := hy.mem s hs
      exact (h.sub sA).mono (by decide)
  refine ds_seq (ds_for (js := [7]) (di_any (de_var rfl ⟨_, rfl, fun i δ => ∃ z7 z8, δ = [.raw (.ref a), .raw (.ref t), .dat p.toD, .dat q.toD, .dat (formOf p).toD, .dat (formOf (.chn [p, q])).toD, .dat (.lst (cutD smAll none (some 60) ++ ys)), z7, z8, .un], ⟨.un, .un, rfl⟩, fun i s δ' hd w => ?_, fun δ' w => ?_⟩)))
  · obtain ⟨z7, z8, rfl⟩ := w
    have hs := SM.of (hst s (List.mem_of_getElem? hd))
    refine dg_name ?_
    repeat walk_at "s"
    rename_i u hu
    refine call_formed L hp (by decide) hs (by decide) fun v hv => ?_
    repeat walk_at "s"
    refine it_f (by rw [cd_true.mpr rfl]; rfl) ?_
    repeat walk_at "s"
    refine call_formed L hpq (by decide) hs (by decide) fun v hv => ?_
    repeat walk_at "s"
    rename_i u2 hu2
    refine it_f (by rw [cd_true.mpr (chn2_den _)]; rfl) (ds_next ⟨_, _, rfl⟩)
  · obtain ⟨z7, z8, rfl⟩ := w
    repeat walk_at "s"
    have h3 := PD.chn3 (B := B) PD.keep hp PD.chn0
    refine ⟨fm_deep (h3.b (by decide)).fm (by decide), ?_⟩
    rw [nf_val L (h3.b (by decide)) (hp.b (by decide)), cd_true.mpr fun t => by rw [chn3_den, keep_den, chn0_den]]
    rfl
end
end Mp

set_option Elab.async false
set_option linter.all false
set_option maxRecDepth 100000
set_option maxHeartbeats 4000000
namespace Mp
open PySem L2
/-! ### data of the top: tuples in the written part -/
def vOf : Value → V
  | .bool b => .bl b
  | .int i _ => .int i
  | .str x _ => .str x
  | .ref a => .ref a
  | _ => .non
mutual
def kHas (K : PySem.W.Frag) : D → Value → Bool
  | .non, u => (match u with | .none => true | _ => false)
  | .bl b, u => (match u with | .bool c => decide (b = c) | _ => false)
  | .int i, u => (match u with | .int j _ => decide (i = j) | _ => false)
  | .str x, u => (match u with | .str y _ => decide (x = y) | _ => false)
  | .tup xs, u => (match u with
    | .ref a => (match K.lookup a with
      | some ⟨.type c, none, .seq its _, _⟩ => decide (c = "tuple") && (decide (its.size ≤ sizeLine) && kHasL K xs its.toList)
      | _ => false)
    | _ => false)
  | .lst _, _ => false
  | .dic _, _ => false
def kHasL (K : PySem.W.Frag) : List D → List Value → Bool
  | [], us => us.isEmpty
  | d :: ds, us => (match us with
    | [] => false
    | u :: r => kHas K d u && kHasL K ds r)
end
mutual
theorem kHas_ok {K : PySem.W.Frag} {G : Hp} : ∀ (d : D) (u : Value), kHas K d u = true → Has K G d (vOf u) ∧ RelV (vOf u) u
  | .non, u, h => by
    rw [kHas.eq_def] at h
    cases u with
    | none => exact ⟨by unfold Has; rfl, rfl⟩
    | _ => simp at h
  | .bl b, u, h => by
    rw [kHas.eq_def] at h
    cases u with
    | bool c => simp at h; subst h; exact ⟨by unfold Has; rfl, rfl⟩
    | _ => simp at h
  | .int i, u, h => by
    rw [kHas.eq_def] at h
    cases u with
    | int j t => simp at h; subst h; exact ⟨by unfold Has; rfl, ⟨t, rfl⟩⟩
    | _ => simp at h
  | .str i, u, h => by
    rw [kHas.eq_def] at h
    cases u with
    | str j t => simp at h; subst h; exact ⟨by unfold Has; rfl, ⟨t, rfl⟩⟩
    | _ => simp at h
  | .tup xs, u, h => by
    rw [kHas.eq_def] at h
    cases u with
    | ref a =>
      simp only at h
      cases q : K.lookup a with
      | none => rw [q] at h; cases h
      | some o =>
        rw [q] at h
        obtain ⟨oc, od, dt, osl⟩ := o
        cases oc with
        | type c =>
          cases od with
          | none =>
            cases dt with
            | seq its n =>
              have h : (decide (c = "tuple") && (decide (its.size ≤ sizeLine) && kHasL K xs its.toList)) = true := h
              rw [Bool.and_eq_true, Bool.and_eq_true] at h
              obtain ⟨h1, h2, h3⟩ := h
              obtain ⟨vs, hl, hv⟩ := kHasL_ok (G := G) xs its.toList h3
              refine ⟨?_, rfl⟩
              unfold Has
              exact ⟨a, vs, rfl, .inr ⟨_, its, n, q, congrArg Value.type (of_decide_eq_true h1), rfl, rfl, of_decide_eq_true h2, hv⟩, hl⟩
            | _ => cases h
          | some b => cases dt <;> cases h
        | _ => cases od <;> cases dt <;> cases h
    | _ => simp at h
  | .lst _, u, h => by rw [kHas.eq_def] at h; simp at h
  | .dic _, u, h => by rw [kHas.eq_def] at h; simp at h
theorem kHasL_ok {K : PySem.W.Frag} {G : Hp} : ∀ (ds : List D) (us : List Value), kHasL K ds us = true → ∃ vs, HasL K G ds vs ∧ Vals vs us
  | [], us, h => by
    rw [kHasL.eq_def] at h
    cases us with
    | nil => exact ⟨[], by unfold HasL; rfl, .nil⟩
    | cons _ _ => simp at h
  | d :: ds, us, h => by
    rw [kHasL.eq_def] at h
    cases us with
    | nil => simp at h
    | cons u r =>
      have h : (kHas K d u && kHasL K ds r) = true := h
      rw [Bool.and_eq_true] at h
      obtain ⟨a, b⟩ := kHas_ok (G := G) d u h.1
      obtain ⟨vs, hl, hv⟩ := kHasL_ok (G := G) ds r h.2
      exact ⟨vOf u :: vs, by unfold HasL; exact ⟨_, _, rfl, a, hl⟩, .cons b hv⟩
end
/-! ### the hook: facts by names, defs, and data of the top -/
def datB (K : PySem.W.Frag) (ts : List (Str × D)) : Bool := ts.all fun p => kHas K p.2 (.ref (He.ga K p.1))
abbrev AlM : Type := Bool × He.AlD
def obsM (fa : List He.Fa) (fn : List He.DefD) (ts : List (Str × D)) (K : PySem.W.Frag) : AlM := (datB K ts, He.obsD fa fn K)
def SaysM (fa : List He.Fa) (fn : List He.DefD) (ts : List (Str × D)) (K : PySem.W.Frag) : Prop := obsM fa fn ts K = (true, He.valD fn)
def obsMG (n : Nat) (fa : List He.Fa) (fn : List He.DefD) (ts : List (Str × D)) (g : Addr → Option Obj) : AlM := obsM fa fn ts (He.frG g (He.asD g n))
def hookM (n : Nat) (fa : List He.Fa) (fn : List He.DefD) (ts : List (Str × D)) : PySem.W.Hook where
  α := AlM
  obs := fun s => obsMG n fa fn ts s.heap.get?
  val := fun _ => (true, He.valD fn)
  says := fun _ h => ∃ K : PySem.W.Frag, K.In h ∧ SaysM fa fn ts K
  of := fun _ _ e => ⟨_, He.frG_in, e⟩
  keeps := fun _ _ _ ⟨K, hK, c⟩ k => ⟨K, PySem.W.Frag.In.keeps hK k, c⟩
theorem obsMG_eq {n : Nat} {fa : List He.Fa} {fn : List He.DefD} {ts : List (Str × D)} {g : Addr → Option Obj} {s : Shared} (h : ∀ a, g a = s.heap.get? a) : obsMG n fa fn ts g = (hookM n fa fn ts).obs s := by
  have e : g = s.heap.get? := funext h
  rw [e] <;> rfl
theorem SaysM.says {fa : List He.Fa} {fn : List He.DefD} {ts : List (Str × D)} {K : PySem.W.Frag} (c : SaysM fa fn ts K) : He.SaysD fa fn K := congrArg Prod.snd c
theorem SaysM.dat {fa : List He.Fa} {fn : List He.DefD} {ts : List (Str × D)} {K : PySem.W.Frag} (c : SaysM fa fn ts K) {x : Str} {d : D} (h : (x, d) ∈ ts) (G : Hp) : Has K G d (.ref (He.ga K x)) :=
  (kHas_ok (G := G) d _ (List.all_eq_true.mp (show datB K ts = true from congrArg Prod.fst c) _ h)).1
end Mp

set_option Elab.async false
set_option linter.all false
set_option maxRecDepth 100000
set_option maxHeartbeats 4000000
namespace Mp
open PySem L2
def t_law03 (K : PySem.W.Frag) (sp_normal_form sp__law_formed sp__law_run sp__law_small sp__law_state sp__law_is_form sp__law_patch : Sp) : TS :=
  (tSeq (tAsg (tLst (tCons (tC (.int 0)) (tCons (tC (.int 0)) tNil))) (gName 1))
    (tSeq (tPar 2 3 (tCons (tCall sp__law_patch [] E0 (tCons (tVar 0) (tCons (tVar 1) (tCons (tC (.int 4)) tNil)))) (tCons (tCall sp__law_patch [] E0 (tCons (tVar 0) (tCons (tVar 1) (tCons (tC (.int 2)) tNil)))) tNil)))
    (tSeq (tPar 4 5 (tCons (tCall sp_normal_form [] E0 (tCons (tVar 2) tNil)) (tCons (tCall sp_normal_form [] E0 (tCons (tTupF (tCons (tC (.str "chain")) (tCons (tTupF (tCons (tVar 2) (tCons (tVar 3) tNil))) tNil))) tNil)) tNil)))
    (tSeq (tIfS (tOr (tNot (tB (tCall sp__law_is_form [] E0 (tCons (tVar 4) tNil)))) (tNot (tB (tCall sp__law_is_form [] E0 (tCons (tVar 5) tNil))))) (tRet (tC (.bl false))) tNext)
    (tSeq (tAsg (tOp rCat (tSl (rSlL K) (tCall sp__law_small [] E0 tNil) tNoPart (tPart (tC (.int 60)))) (tLc (iRng1 (tCons (tC (.int 10)) tNil)) (gName 9) tYes (tCall sp__law_state [] E0 (tCons (tVar 0) (tCons (tVar 1) (tCons (tC (.int 3)) tNil)))) [9])) (gName 6))
    (tSeq (tFor (iAny K (tVar 6)) (gName 7) (tSeq (tAsg (tCall sp__law_run [] E0 (tCons (tVar 2) (tCons (tVar 7) tNil))) (gName 8))
    (tIfS (tOr (tTest (tOp (rNeX K) (tCall sp__law_formed [] E0 (tCons (tVar 4) (tCons (tVar 7) tNil))) (tVar 8))) (tTest (tOp (rNeX K) (tCall sp__law_formed [] E0 (tCons (tVar 5) (tCons (tVar 7) tNil))) (tCall sp__law_run [] E0 (tCons (tVar 3) (tCons (tVar 8) tNil)))))) (tRet (tC (.bl false))) tNext)))
    (tRet (tOp (rEqX K) (tCall sp_normal_form [] E0 (tCons (tTupF (tCons (tC (.str "chain")) (tCons (tTupF (tCons (tTupF (tCons (tC (.str "keep")) tNil)) (tCons (tVar 2) (tCons (tTupF (tCons (tC (.str "chain")) (tCons (tTupF tNil) tNil))) tNil)))) tNil))) tNil)) (tVar 4)))))))))
def topS (i : Nat) : Stmt := PySem.Challenge.pw_mergepatch_k03_whole_normal_form.main.body.getD i (.Pass ⟨0, 0, 0, 0⟩)
section
variable {P : Program} {w : World} {K : PySem.W.Frag} {mg : Str → Option Value} {base : Heap}
abbrev s_is_text : Stmt := topS 9
theorem sc_is_text : FnScope ["value", "least", "char"] ["value", "least"] (defScope s_is_text) := ⟨rfl, rfl, rfl, by decide +kernel, rfl, by decide +kernel, by decide +kernel⟩
theorem w_is_text {k : Nat} (g_LONGEST : ∃ tk, mg "LONGEST" = some (.int 6 tk)) (g_LETTERS : ∃ tk, mg "LETTERS" = some (.str "abcdefghijklmnopqrstuvwxyz" tk)) (m_isinstance : mg "isinstance" = none) (m_str : mg "str" = none) (m_len : mg "len" = none) (m_all : mg "all" = none) : ∀ (f : Addr) (cdv : Value) (A : Around) (outer : List Env) (s : Shared) (H : Hp) (E : XK), Room k (A.deeper (PyProof.Rows.envOfC "is_text" (defScope s_is_text) s.heap.objs.size f cdv)) →
    PSs (cxOf CX0 P w K mg base ["value", "least", "char"] "is_text" (defScope s_is_text) f cdv A outer s H E).nox (defBody s_is_text) (t_is_text K) := fun f cdv A outer s H E hr => by
  have nd := sc_is_text.nd
  have hu : (A.deeper (PyProof.Rows.envOfC "is_text" (defScope s_is_text) s.heap.objs.size f cdv)).units + 1 < cLine := hu_of hr
  have h64 : (A.deeper (PyProof.Rows.envOfC "is_text" (defScope s_is_text) s.heap.objs.size f cdv)).units + 64 < cLine := hr.units
  exact (pss_one (ps_ret (pe_and (pe_callB call_isi (by rfl) m_isinstance (by decide +kernel) (pa_cons (pv 0) (pa_cons (pe_gty rfl m_str (by decide +kernel)) pa_nil))) (pe_and (pe_chain op_le op_le (pv 1) (pe_callB call_lenX (by rfl) m_len PySem.boot_len (pa_cons (pv 0) pa_nil)) (pe_gint rfl g_LONGEST)) (pe_one (pe_callB (cr_all rfl) (by rfl) m_all (by decide +kernel) (pa_cons (pe_lc (own := [("char", 2)]) (by rfl) nd (pi_any (pv 0)) (blkOk_by (own := [("char", 2)]) (N := ["value", "least", "char"]) (sc := defScope s_is_text) (by decide +kernel)) (fun _ _ _ _ _ => (pg_name (i := 2) nd rfl (by first | exact Or.inl rfl | exact Or.inr rfl))) (fun _ _ _ _ _ => pts_nil) (fun _ _ _ _ _ => (pe_cmpR (op_inX hu) (pv 2) (pe_gstr rfl g_LETTERS) (by rfl)))) pa_nil)))))))

abbrev s_is_scalar : Stmt := topS 10
theorem sc_is_scalar : FnScope ["value"] ["value"] (defScope s_is_scalar) := ⟨rfl, rfl, rfl, by decide +kernel, rfl, by decide +kernel, by decide +kernel⟩
theorem w_is_scalar {k : Nat} {sp_is_text : Sp} (g_LARGEST : ∃ tk, mg "LARGEST" = some (.int 999 tk)) (m_isinstance : mg "isinstance" = none) (m_int : mg "int" = none) (m_bool : mg "bool" = none) (c_is_text : Cl P w K mg base "is_text" k sp_is_text) : ∀ (f : Addr) (cdv : Value) (A : Around) (outer : List Env) (s : Shared) (H : Hp) (E : XK), Room k (A.deeper (PyProof.Rows.envOfC "is_scalar" (defScope s_is_scalar) s.heap.objs.size f cdv)) →
    PSs (cxOf CX0 P w K mg base ["value"] "is_scalar" (defScope s_is_scalar) f cdv A outer s H E).nox (defBody s_is_scalar) (t_is_scalar K sp_is_text) := fun f cdv A outer s H E hr => by
  have nd := sc_is_scalar.nd
  have hu : (A.deeper (PyProof.Rows.envOfC "is_scalar" (defScope s_is_scalar) s.heap.objs.size f cdv)).units + 1 < cLine := hu_of hr
  have h64 : (A.deeper (PyProof.Rows.envOfC "is_scalar" (defScope s_is_scalar) s.heap.objs.size f cdv)).units + 64 < cLine := hr.units
  exact (pss_cons (ps_if (PW.pt (pw_and (pt_val (pe_callB call_isi (by rfl) m_isinstance (by decide +kernel) (pa_cons (pv 0) (pa_cons (pe_gty rfl m_int (by decide +kernel)) pa_nil)))) (pw_and1 (pt_not (pt_val (pe_callB call_isi (by rfl) m_isinstance (by decide +kernel) (pa_cons (pv 0) (pa_cons (pe_gty rfl m_bool (by decide +kernel)) pa_nil)))))))) (pss_one (ps_ret (pe_chain op_le op_le (pe_un un_neg (pe_gint rfl g_LARGEST)) (pv 0) (pe_gint rfl g_LARGEST)))) pss_nil)
    (pss_one (ps_ret (pe_cl c_is_text hr rfl (pa_cons (pv 0) (pa_cons pe_int pa_nil))))))

abbrev s_is_document : Stmt := topS 11
theorem sc_is_document : FnScope ["value", "depth", "key"] ["value", "depth"] (defScope s_is_document) := ⟨rfl, rfl, rfl, by decide +kernel, rfl, by decide +kernel, by decide +kernel⟩
theorem w_is_document {k : Nat} {sp_is_document sp_is_text sp_is_scalar : Sp} (g_ENTRIES : ∃ tk, mg "ENTRIES" = some (.int 6 tk)) (m_all : mg "all" = none) (m_len : mg "len" = none) (m_isinstance : mg "isinstance" = none) (m_dict : mg "dict" = none) (c_is_document : Cl P w K mg base "is_document" k sp_is_document) (c_is_text : Cl P w K mg base "is_text" k sp_is_text) (c_is_scalar : Cl P w K mg base "is_scalar" k sp_is_scalar) : ∀ (f : Addr) (cdv : Value) (A : Around) (outer : List Env) (s : Shared) (H : Hp) (E : XK), Room k (A.deeper (PyProof.Rows.envOfC "is_document" (defScope s_is_document) s.heap.objs.size f cdv)) →
    PSs (cxOf CX0 P w K mg base ["value", "depth", "key"] "is_document" (defScope s_is_document) f cdv A outer s H E).nox (defBody s_is_document) (t_is_document K sp_is_document sp_is_text sp_is_scalar) := fun f cdv A outer s H E hr => by
  have nd := sc_is_document.nd
  have hu : (A.deeper (PyProof.Rows.envOfC "is_document" (defScope s_is_document) s.heap.objs.size f cdv)).units + 1 < cLine := hu_of hr
  have h64 : (A.deeper (PyProof.Rows.envOfC "is_document" (defScope s_is_document) s.heap.objs.size f cdv)).units + 64 < cLine := hr.units
  exact (pss_cons (ps_if (pt_not (pt_val (pe_callB call_isi (by rfl) m_isinstance (by decide +kernel) (pa_cons (pv 0) (pa_cons (pe_gty rfl m_dict (by decide +kernel)) pa_nil))))) (pss_one (ps_ret (pe_cl c_is_scalar hr rfl (pa_cons (pv 0) pa_nil)))) pss_nil)
    (pss_cons (ps_if (PW.pt (pw_or (pt_cmpR (op_eqX h64) (pv 1) pe_int (nomark _)) (pw_or (pt_cmpR op_gt (pe_callB call_lenX (by rfl) m_len PySem.boot_len (pa_cons (pv 0) pa_nil)) (pe_gint rfl g_ENTRIES) (nomark _)) (pw_or1 (pt_not (pt_val (pe_callB (cr_all rfl) (by rfl) m_all (by decide +kernel) (pa_cons (pe_lc (own := [("key", 2)]) (by rfl) nd (pi_any (pv 0)) (blkOk_by (own := [("key", 2)]) (N := ["value", "depth", "key"]) (sc := defScope s_is_document) (by decide +kernel)) (fun _ _ _ _ _ => (pg_name (i := 2) nd rfl (by first | exact Or.inl rfl | exact Or.inr rfl))) (fun _ _ _ _ _ => pts_nil) (fun _ _ _ _ _ => (pe_cl c_is_text hr rfl (pa_cons (pv 2) (pa_cons pe_int pa_nil))))) pa_nil)))))))) (pss_one (ps_ret pe_bl)) pss_nil)
    (pss_one (ps_ret (pe_callB (cr_all rfl) (by rfl) m_all (by decide +kernel) (pa_cons (pe_lc (own := [("key", 2)]) (by rfl) nd (pi_any (pv 0)) (blkOk_by (own := [("key", 2)]) (N := ["value", "depth", "key"]) (sc := defScope s_is_document) (by decide +kernel)) (fun _ _ _ _ _ => (pg_name (i := 2) nd rfl (by first | exact Or.inl rfl | exact Or.inr rfl))) (fun _ _ _ _ _ => pts_nil) (fun _ _ _ _ _ => (pe_cl c_is_document hr rfl (pa_cons (pe_ix (ix_any hu) (pv 0) (pv 2) (fun _ _ => rfl)) (pa_cons (pe_op op_sub (pv 1) pe_int) pa_nil))))) pa_nil))))))

abbrev s_copied : Stmt := topS 12
theorem sc_copied : FnScope ["state", "key"] ["state"] (defScope s_copied) := ⟨rfl, rfl, rfl, by decide +kernel, rfl, by decide +kernel, by decide +kernel⟩
theorem w_copied {k : Nat} {sp_copied : Sp} (m_isinstance : mg "isinstance" = none) (m_dict : mg "dict" = none) (c_copied : Cl P w K mg base "copied" k sp_copied) : ∀ (f : Addr) (cdv : Value) (A : Around) (outer : List Env) (s : Shared) (H : Hp) (E : XK), Room k (A.deeper (PyProof.Rows.envOfC "copied" (defScope s_copied) s.heap.objs.size f cdv)) →
    PSs (cxOf CX0 P w K mg base ["state", "key"] "copied" (defScope s_copied) f cdv A outer s H E).nox (defBody s_copied) (t_copied K sp_copied) := fun f cdv A outer s H E hr => by
  have nd := sc_copied.nd
  have hu : (A.deeper (PyProof.Rows.envOfC "copied" (defScope s_copied) s.heap.objs.size f cdv)).units + 1 < cLine := hu_of hr
  have h64 : (A.deeper (PyProof.Rows.envOfC "copied" (defScope s_copied) s.heap.objs.size f cdv)).units + 64 < cLine := hr.units
  exact (pss_one (ps_ret (pe_ifExp (pt_val (pe_callB call_isi (by rfl) m_isinstance (by decide +kernel) (pa_cons (pv 0) (pa_cons (pe_gty rfl m_dict (by decide +kernel)) pa_nil)))) (pe_dc (own := [("key", 1)]) (by rfl) nd (pi_any (pv 0)) (blkOk_by (own := [("key", 1)]) (N := ["state", "key"]) (sc := defScope s_copied) (by decide +kernel)) (fun _ _ _ _ _ => (pg_name (i := 1) nd rfl (by first | exact Or.inl rfl | exact Or.inr rfl))) (fun _ _ _ _ _ => pts_nil) (fun _ _ _ _ _ => (pv 1)) (fun _ _ _ _ _ => (pe_cl c_copied hr rfl (pa_cons (pe_ix (ix_any hu) (pv 0) (pv 1) (fun _ _ => rfl)) pa_nil)))) (pv 0))))

abbrev s_constant_form : Stmt := topS 15
theorem sc_constant_form : FnScope ["state"] ["state"] (defScope s_constant_form) := ⟨rfl, rfl, rfl, by decide +kernel, rfl, by decide +kernel, by decide +kernel⟩
theorem w_constant_form {k : Nat} : ∀ (f : Addr) (cdv : Value) (A : Around) (outer : List Env) (s : Shared) (H : Hp) (E : XK), Room k (A.deeper (PyProof.Rows.envOfC "constant_form" (defScope s_constant_form) s.heap.objs.size f cdv)) →
    PSs (cxOf CX0 P w K mg base ["state"] "constant_form" (defScope s_constant_form) f cdv A outer s H E).nox (defBody s_constant_form) (t_constant_form K) := fun f cdv A outer s H E hr => by
  have nd := sc_constant_form.nd
  have hu : (A.deeper (PyProof.Rows.envOfC "constant_form" (defScope s_constant_form) s.heap.objs.size f cdv)).units + 1 < cLine := hu_of hr
  have h64 : (A.deeper (PyProof.Rows.envOfC "constant_form" (defScope s_constant_form) s.heap.objs.size f cdv)).units + 64 < cLine := hr.units
  exact (pss_one (ps_ret (pe_tupF (pa_cons (pv 0) (pa_cons (pe_tupF (pa_cons pe_str (pa_cons (pv 0) pa_nil))) (pa_cons (pe_tupF (pa_cons pe_str (pa_cons (pv 0) pa_nil))) pa_nil))))))

abbrev s_with_entries : Stmt := topS 16
theorem sc_with_entries : FnScope ["state", "pairs", "result", "key", "form", "value"] ["state", "pairs"] (defScope s_with_entries) := ⟨rfl, rfl, rfl, by decide +kernel, rfl, by decide +kernel, by decide +kernel⟩
theorem w_with_entries {k : Nat} {sp_run : Sp} (c_run : Cl P w K mg base "run" k sp_run) : ∀ (f : Addr) (cdv : Value) (A : Around) (outer : List Env) (s : Shared) (H : Hp) (E : XK), Room k (A.deeper (PyProof.Rows.envOfC "with_entries" (defScope s_with_entries) s.heap.objs.size f cdv)) →
    PSs (cxOf CX0 P w K mg base ["state", "pairs", "result", "key", "form", "value"] "with_entries" (defScope s_with_entries) f cdv A outer s H E).nox (defBody s_with_entries) (t_with_entries K sp_run) := fun f cdv A outer s H E hr => by
  have nd := sc_with_entries.nd
  have hu : (A.deeper (PyProof.Rows.envOfC "with_entries" (defScope s_with_entries) s.heap.objs.size f cdv)).units + 1 < cLine := hu_of hr
  have h64 : (A.deeper (PyProof.Rows.envOfC "with_entries" (defScope s_with_entries) s.heap.objs.size f cdv)).units + 64 < cLine := hr.units
  exact (pss_cons (ps_setDc (i := 2) (own := [("key", 3)]) (by rfl) nd rfl rfl (swD_true rfl rfl rfl (by decide +kernel)) (pi_any (pv 0)) (blkOk_by (own := [("key", 3)]) (N := ["state", "pairs", "result", "key", "form", "value"]) (sc := defScope s_with_entries) (by decide +kernel)) (fun _ _ _ _ _ => (pg_name (i := 3) nd rfl (by first | exact Or.inl rfl | exact Or.inr rfl))) (fun _ _ _ _ _ => pts_nil) (fun _ _ _ _ _ => (pv 3)) (fun _ _ _ _ _ => (pe_ix (ix_any hu) (pv 0) (pv 3) (fun _ _ => rfl))))
    (pss_cons (ps_for PassesOwn.never rfl (pi_any (pv 1)) (pg_tup rfl (pgs_cons (pg_name (i := 3) nd rfl (by first | exact Or.inl rfl | exact Or.inr rfl)) (pgs_cons (pg_name (i := 4) nd rfl (by first | exact Or.inl rfl | exact Or.inr rfl)) pgs_nil))) (pss_cons (ps_set (i := 5) nd rfl (by first | exact Or.inl rfl | exact Or.inr rfl) (pe_cl c_run hr rfl (pa_cons (pv 4) (pa_cons (pe_dget1 hu (pv 0) (pv 3) ⟨rfl, rfl, rfl, rfl⟩) pa_nil))))
    (pss_one (ps_if (pt_cmpR op_isN (pv 5) pe_non (nomark _)) (pss_one (ps_expr (pe_dpop2 (pv 2) (pv 3) pe_non ⟨rfl, rfl, rfl, rfl⟩))) (pss_one (ps_dput hu (pv 2) (pv 3) (pv 5) rfl))))))
    (pss_one (ps_ret (pv 2)))))

abbrev s_run : Stmt := topS 17
theorem sc_run : FnScope ["form", "state", "nothing", "scalar", "entries"] ["form", "state"] (defScope s_run) := ⟨rfl, rfl, rfl, by decide +kernel, rfl, by decide +kernel, by decide +kernel⟩
theorem w_run {k : Nat} {sp_with_entries : Sp} (m_isinstance : mg "isinstance" = none) (m_dict : mg "dict" = none) (c_with_entries : Cl P w K mg base "with_entries" k sp_with_entries) : ∀ (f : Addr) (cdv : Value) (A : Around) (outer : List Env) (s : Shared) (H : Hp) (E : XK), Room k (A.deeper (PyProof.Rows.envOfC "run" (defScope s_run) s.heap.objs.size f cdv)) →
    PSs (cxOf CX0 P w K mg base ["form", "state", "nothing", "scalar", "entries"] "run" (defScope s_run) f cdv A outer s H E).nox (defBody s_run) (t_run K sp_with_entries) := fun f cdv A outer s H E hr => by
  have nd := sc_run.nd
  have hu : (A.deeper (PyProof.Rows.envOfC "run" (defScope s_run) s.heap.objs.size f cdv)).units + 1 < cLine := hu_of hr
  have h64 : (A.deeper (PyProof.Rows.envOfC "run" (defScope s_run) s.heap.objs.size f cdv)).units + 64 < cLine := hr.units
  exact (pss_cons (ps_asg (pv 0) (pg_tup rfl (pgs_cons (pg_name (i := 2) nd rfl (by first | exact Or.inl rfl | exact Or.inr rfl)) (pgs_cons (pg_name (i := 3) nd rfl (by first | exact Or.inl rfl | exact Or.inr rfl)) (pgs_cons (pg_name (i := 4) nd rfl (by first | exact Or.inl rfl | exact Or.inr rfl)) pgs_nil)))))
    (pss_cons (ps_if (pt_cmpR op_isN (pv 1) pe_non (nomark _)) (pss_one (ps_ret (pv 2))) pss_nil)
    (pss_cons (ps_if (pt_not (pt_val (pe_callB call_isi (by rfl) m_isinstance (by decide +kernel) (pa_cons (pv 1) (pa_cons (pe_gty rfl m_dict (by decide +kernel)) pa_nil))))) (pss_one (ps_ret (pe_ifExp (pt_cmpR (op_eqX h64) (pv 3) (pe_tupF (pa_cons pe_str pa_nil)) (nomark _)) (pv 1) (pe_ix (ix_any hu) (pv 3) pe_int (fun _ _ => rfl))))) pss_nil)
    (pss_one (ps_ret (pe_ifExp (pt_cmpR (op_eqX h64) (pe_ix (ix_any hu) (pv 4) pe_int (fun _ _ => rfl)) pe_str (nomark _)) (pe_ix (ix_any hu) (pv 4) pe_int (fun _ _ => rfl)) (pe_cl c_with_entries hr rfl (pa_cons (pv 1) (pa_cons (pe_ix (ix_any hu) (pv 4) pe_int (fun _ _ => rfl)) pa_nil)))))))))

abbrev s_pairs_of : Stmt := topS 18
theorem sc_pairs_of : FnScope ["forms", "key"] ["forms"] (defScope s_pairs_of) := ⟨rfl, rfl, rfl, by decide +kernel, rfl, by decide +kernel, by decide +kernel⟩
theorem w_pairs_of {k : Nat} {a_KEEP : Addr} (g_KEEP : mg "KEEP" = some (.ref a_KEEP)) (m_tuple : mg "tuple" = none) (m_sorted : mg "sorted" = none) : ∀ (f : Addr) (cdv : Value) (A : Around) (outer : List Env) (s : Shared) (H : Hp) (E : XK), Room k (A.deeper (PyProof.Rows.envOfC "pairs_of" (defScope s_pairs_of) s.heap.objs.size f cdv)) →
    PSs (cxOf CX0 P w K mg base ["forms", "key"] "pairs_of" (defScope s_pairs_of) f cdv A outer s H E).nox (defBody s_pairs_of) (t_pairs_of K a_KEEP) := fun f cdv A outer s H E hr => by
  have nd := sc_pairs_of.nd
  have hu : (A.deeper (PyProof.Rows.envOfC "pairs_of" (defScope s_pairs_of) s.heap.objs.size f cdv)).units + 1 < cLine := hu_of hr
  have h64 : (A.deeper (PyProof.Rows.envOfC "pairs_of" (defScope s_pairs_of) s.heap.objs.size f cdv)).units + 64 < cLine := hr.units
  exact (pss_one (ps_ret (pe_callTy call_tupleF (by rfl) m_tuple (by decide +kernel) (pa_cons (pe_lc (own := [("key", 1)]) (by rfl) nd (pi_any (pe_callB (call_sortedDX rfl) (by rfl) m_sorted (by decide +kernel) (pa_cons (pv 0) pa_nil))) (blkOk_by (own := [("key", 1)]) (N := ["forms", "key"]) (sc := defScope s_pairs_of) (by decide +kernel)) (fun _ _ _ _ _ => (pg_name (i := 1) nd rfl (by first | exact Or.inl rfl | exact Or.inr rfl))) (fun _ _ _ _ _ => (pts_one (pt_cmpR (op_neX h64) (pe_ix (ix_any hu) (pv 0) (pv 1) (fun _ _ => rfl)) (pe_gref rfl g_KEEP) (nomark _)))) (fun _ _ _ _ _ => (pe_tupF (pa_cons (pv 1) (pa_cons (pe_ix (ix_any hu) (pv 0) (pv 1) (fun _ _ => rfl)) pa_nil))))) pa_nil))))

abbrev s_merge_form : Stmt := topS 19
theorem sc_merge_form : FnScope ["pairs", "start"] ["pairs"] (defScope s_merge_form) := ⟨rfl, rfl, rfl, by decide +kernel, rfl, by decide +kernel, by decide +kernel⟩
theorem w_merge_form {k : Nat} {sp_with_entries : Sp} (c_with_entries : Cl P w K mg base "with_entries" k sp_with_entries) : ∀ (f : Addr) (cdv : Value) (A : Around) (outer : List Env) (s : Shared) (H : Hp) (E : XK), Room k (A.deeper (PyProof.Rows.envOfC "merge_form" (defScope s_merge_form) s.heap.objs.size f cdv)) →
    PSs (cxOf CX0 P w K mg base ["pairs", "start"] "merge_form" (defScope s_merge_form) f cdv A outer s H E).nox (defBody s_merge_form) (t_merge_form K sp_with_entries) := fun f cdv A outer s H E hr => by
  have nd := sc_merge_form.nd
  have hu : (A.deeper (PyProof.Rows.envOfC "merge_form" (defScope s_merge_form) s.heap.objs.size f cdv)).units + 1 < cLine := hu_of hr
  have h64 : (A.deeper (PyProof.Rows.envOfC "merge_form" (defScope s_merge_form) s.heap.objs.size f cdv)).units + 64 < cLine := hr.units
  exact (pss_cons (ps_set (i := 1) nd rfl (by first | exact Or.inl rfl | exact Or.inr rfl) (pe_cl c_with_entries hr rfl (pa_cons pe_dnewK (pa_cons (pv 0) pa_nil))))
    (pss_one (ps_ret (pe_tupF (pa_cons (pv 1) (pa_cons (pe_tupF (pa_cons pe_str (pa_cons (pv 1) pa_nil))) (pa_cons (pe_tupF (pa_cons pe_str (pa_cons (pv 0) pa_nil))) pa_nil)))))))

abbrev s_inside_form : Stmt := topS 20
theorem sc_inside_form : FnScope ["pairs"] ["pairs"] (defScope s_inside_form) := ⟨rfl, rfl, rfl, by decide +kernel, rfl, by decide +kernel, by decide +kernel⟩
theorem w_inside_form {k : Nat} : ∀ (f : Addr) (cdv : Value) (A : Around) (outer : List Env) (s : Shared) (H : Hp) (E : XK), Room k (A.deeper (PyProof.Rows.envOfC "inside_form" (defScope s_inside_form) s.heap.objs.size f cdv)) →
    PSs (cxOf CX0 P w K mg base ["pairs"] "inside_form" (defScope s_inside_form) f cdv A outer s H E).nox (defBody s_inside_form) (t_inside_form K) := fun f cdv A outer s H E hr => by
  have nd := sc_inside_form.nd
  have hu : (A.deeper (PyProof.Rows.envOfC "inside_form" (defScope s_inside_form) s.heap.objs.size f cdv)).units + 1 < cLine := hu_of hr
  have h64 : (A.deeper (PyProof.Rows.envOfC "inside_form" (defScope s_inside_form) s.heap.objs.size f cdv)).units + 64 < cLine := hr.units
  exact (pss_one (ps_ret (pe_tupF (pa_cons pe_non (pa_cons (pe_tupF (pa_cons pe_str pa_nil)) (pa_cons (pe_tupF (pa_cons pe_str (pa_cons (pv 0) pa_nil))) pa_nil))))))

abbrev s_chained : Stmt := topS 21
theorem sc_chained : FnScope ["first", "second", "scalar", "entries", "one", "other", "forms", "key"] ["first", "second"] (defScope s_chained) := ⟨rfl, rfl, rfl, by decide +kernel, rfl, by decide +kernel, by decide +kernel⟩
theorem w_chained {k : Nat} {sp_run sp_pairs_of sp_chained : Sp} {a_KEEP : Addr} (g_KEEP : mg "KEEP" = some (.ref a_KEEP)) (m_list : mg "list" = none) (m_dict : mg "dict" = none) (c_run : Cl P w K mg base "run" k sp_run) (c_pairs_of : Cl P w K mg base "pairs_of" k sp_pairs_of) (c_chained : Cl P w K mg base "chained" k sp_chained) : ∀ (f : Addr) (cdv : Value) (A : Around) (outer : List Env) (s : Shared) (H : Hp) (E : XK), Room k (A.deeper (PyProof.Rows.envOfC "chained" (defScope s_chained) s.heap.objs.size f cdv)) →
    PSs (cxOf CX0 P w K mg base ["first", "second", "scalar", "entries", "one", "other", "forms", "key"] "chained" (defScope s_chained) f cdv A outer s H E).nox (defBody s_chained) (t_chained K a_KEEP sp_run sp_pairs_of sp_chained) := fun f cdv A outer s H E hr => by
  have nd := sc_chained.nd
  have hu : (A.deeper (PyProof.Rows.envOfC "chained" (defScope s_chained) s.heap.objs.size f cdv)).units + 1 < cLine := hu_of hr
  have h64 : (A.deeper (PyProof.Rows.envOfC "chained" (defScope s_chained) s.heap.objs.size f cdv)).units + 64 < cLine := hr.units
  exact (pss_cons (ps_par (i := 2) (j := 3) (by rfl) nd rfl rfl (by decide) rfl rfl (pa_cons (pe_ix (ix_any hu) (pv 1) pe_int (fun _ _ => rfl)) (pa_cons (pe_ix (ix_any hu) (pv 1) pe_int (fun _ _ => rfl)) pa_nil)) (by rfl))
    (pss_cons (ps_if (pt_cmpR (op_eqX h64) (pe_ix (ix_any hu) (pe_ix (ix_any hu) (pv 0) pe_int (fun _ _ => rfl)) pe_int (fun _ _ => rfl)) pe_str (nomark _)) (pss_one (ps_set (i := 2) nd rfl (by first | exact Or.inl rfl | exact Or.inr rfl) (pe_tupF (pa_cons pe_str (pa_cons (pe_cl c_run hr rfl (pa_cons (pv 1) (pa_cons (pe_ix (ix_any hu) (pe_ix (ix_any hu) (pv 0) pe_int (fun _ _ => rfl)) pe_int (fun _ _ => rfl)) pa_nil))) pa_nil))))) pss_nil)
    (pss_cons (ps_if (pt_cmpR (op_eqX h64) (pe_ix (ix_any hu) (pe_ix (ix_any hu) (pv 0) pe_int (fun _ _ => rfl)) pe_int (fun _ _ => rfl)) pe_str (nomark _)) (pss_one (ps_set (i := 3) nd rfl (by first | exact Or.inl rfl | exact Or.inr rfl) (pe_tupF (pa_cons pe_str (pa_cons (pe_cl c_run hr rfl (pa_cons (pv 1) (pa_cons (pe_ix (ix_any hu) (pe_ix (ix_any hu) (pv 0) pe_int (fun _ _ => rfl)) pe_int (fun _ _ => rfl)) pa_nil))) pa_nil))))) (pss_one (ps_if (pt_cmpR (op_eqX h64) (pe_ix (ix_any hu) (pe_ix (ix_any hu) (pv 1) pe_int (fun _ _ => rfl)) pe_int (fun _ _ => rfl)) pe_str (nomark _)) (pss_cons (ps_asg (pe_tupF (pa_cons (pe_callTy (call_dictX rfl) (by rfl) m_dict (by decide +kernel) (pa_cons (pe_ix (ix_any hu) (pe_ix (ix_any hu) (pv 0) pe_int (fun _ _ => rfl)) pe_int (fun _ _ => rfl)) pa_nil)) (pa_cons (pe_callTy (call_dictX rfl) (by rfl) m_dict (by decide +kernel) (pa_cons (pe_ix (ix_any hu) (pe_ix (ix_any hu) (pv 1) pe_int (fun _ _ => rfl)) pe_int (fun _ _ => rfl)) pa_nil)) pa_nil))) (pg_tup rfl (pgs_cons (pg_name (i := 4) nd rfl (by first | exact Or.inl rfl | exact Or.inr rfl)) (pgs_cons (pg_name (i := 5) nd rfl (by first | exact Or.inl rfl | exact Or.inr rfl)) pgs_nil))))
    (pss_cons (ps_setDc (i := 6) (own := [("key", 7)]) (by rfl) nd rfl rfl (swD_true rfl rfl rfl (by decide +kernel)) (pi_any (pe_op op_cat (pe_callTy (call_listX rfl) (by rfl) m_list (by decide +kernel) (pa_cons (pv 4) pa_nil)) (pe_callTy (call_listX rfl) (by rfl) m_list (by decide +kernel) (pa_cons (pv 5) pa_nil)))) (blkOk_by (own := [("key", 7)]) (N := ["first", "second", "scalar", "entries", "one", "other", "forms", "key"]) (sc := defScope s_chained) (by decide +kernel)) (fun _ _ _ _ _ => (pg_name (i := 7) nd rfl (by first | exact Or.inl rfl | exact Or.inr rfl))) (fun _ _ _ _ _ => pts_nil) (fun _ _ _ _ _ => (pv 7)) (fun _ _ _ _ _ => (pe_cl c_chained hr rfl (pa_cons (pe_dget2 hu (pv 4) (pv 7) (pe_gref rfl g_KEEP) ⟨rfl, rfl, rfl, rfl⟩) (pa_cons (pe_dget2 hu (pv 5) (pv 7) (pe_gref rfl g_KEEP) ⟨rfl, rfl, rfl, rfl⟩) pa_nil)))))
    (pss_one (ps_set (i := 3) nd rfl (by first | exact Or.inl rfl | exact Or.inr rfl) (pe_tupF (pa_cons pe_str (pa_cons (pe_cl c_pairs_of hr rfl (pa_cons (pv 6) pa_nil)) pa_nil))))))) pss_nil)))
    (pss_one (ps_ret (pe_tupF (pa_cons (pe_cl c_run hr rfl (pa_cons (pv 1) (pa_cons (pe_ix (ix_any hu) (pv 0) pe_int (fun _ _ => rfl)) pa_nil))) (pa_cons (pv 2) (pa_cons (pv 3) pa_nil)))))))))

abbrev s_are_entries : Stmt := topS 26
theorem sc_are_entries : FnScope ["value", "depth", "key"] ["value", "depth"] (defScope s_are_entries) := ⟨rfl, rfl, rfl, by decide +kernel, rfl, by decide +kernel, by decide +kernel⟩
theorem w_are_entries {k : Nat} {sp_is_nested sp_is_text : Sp} (g_ENTRIES : ∃ tk, mg "ENTRIES" = some (.int 6 tk)) (m_all : mg "all" = none) (m_isinstance : mg "isinstance" = none) (m_dict : mg "dict" = none) (m_len : mg "len" = none) (c_is_nested : Cl P w K mg base "is_nested" k sp_is_nested) (c_is_text : Cl P w K mg base "is_text" k sp_is_text) : ∀ (f : Addr) (cdv : Value) (A : Around) (outer : List Env) (s : Shared) (H : Hp) (E : XK), Room k (A.deeper (PyProof.Rows.envOfC "are_entries" (defScope s_are_entries) s.heap.objs.size f cdv)) →
    PSs (cxOf CX0 P w K mg base ["value", "depth", "key"] "are_entries" (defScope s_are_entries) f cdv A outer s H E).nox (defBody s_are_entries) (t_are_entries K sp_is_nested sp_is_text) := fun f cdv A outer s H E hr => by
  have nd := sc_are_entries.nd
  have hu : (A.deeper (PyProof.Rows.envOfC "are_entries" (defScope s_are_entries) s.heap.objs.size f cdv)).units + 1 < cLine := hu_of hr
  have h64 : (A.deeper (PyProof.Rows.envOfC "are_entries" (defScope s_are_entries) s.heap.objs.size f cdv)).units + 64 < cLine := hr.units
  exact (pss_cons (ps_if (PW.pt (pw_or (pt_not (pt_val (pe_callB call_isi (by rfl) m_isinstance (by decide +kernel) (pa_cons (pv 0) (pa_cons (pe_gty rfl m_dict (by decide +kernel)) pa_nil))))) (pw_or (pt_cmpR op_gt (pe_callB call_lenX (by rfl) m_len PySem.boot_len (pa_cons (pv 0) pa_nil)) (pe_gint rfl g_ENTRIES) (nomark _)) (pw_or1 (pt_not (pt_val (pe_callB (cr_all rfl) (by rfl) m_all (by decide +kernel) (pa_cons (pe_lc (own := [("key", 2)]) (by rfl) nd (pi_any (pv 0)) (blkOk_by (own := [("key", 2)]) (N := ["value", "depth", "key"]) (sc := defScope s_are_entries) (by decide +kernel)) (fun _ _ _ _ _ => (pg_name (i := 2) nd rfl (by first | exact Or.inl rfl | exact Or.inr rfl))) (fun _ _ _ _ _ => pts_nil) (fun _ _ _ _ _ => (pe_cl c_is_text hr rfl (pa_cons (pv 2) (pa_cons pe_int pa_nil))))) pa_nil)))))))) (pss_one (ps_ret pe_bl)) pss_nil)
    (pss_one (ps_ret (pe_callB (cr_all rfl) (by rfl) m_all (by decide +kernel) (pa_cons (pe_lc (own := [("key", 2)]) (by rfl) nd (pi_any (pv 0)) (blkOk_by (own := [("key", 2)]) (N := ["value", "depth", "key"]) (sc := defScope s_are_entries) (by decide +kernel)) (fun _ _ _ _ _ => (pg_name (i := 2) nd rfl (by first | exact Or.inl rfl | exact Or.inr rfl))) (fun _ _ _ _ _ => pts_nil) (fun _ _ _ _ _ => (pe_cl c_is_nested hr rfl (pa_cons (pe_ix (ix_any hu) (pv 0) (pv 2) (fun _ _ => rfl)) (pa_cons (pv 1) pa_nil))))) pa_nil)))))

abbrev s_is_nested : Stmt := topS 27
theorem sc_is_nested : FnScope ["value", "depth", "name", "one"] ["value", "depth"] (defScope s_is_nested) := ⟨rfl, rfl, rfl, by decide +kernel, rfl, by decide +kernel, by decide +kernel⟩
theorem w_is_nested {k : Nat} {sp_is_nested sp_are_entries sp_is_document : Sp} (g_CHAIN : ∃ tk, mg "CHAIN" = some (.int 6 tk)) (g_DEPTH : ∃ tk, mg "DEPTH" = some (.int 5 tk)) (m_all : mg "all" = none) (m_isinstance : mg "isinstance" = none) (m_tuple : mg "tuple" = none) (m_len : mg "len" = none) (m_str : mg "str" = none) (c_is_nested : Cl P w K mg base "is_nested" k sp_is_nested) (c_are_entries : Cl P w K mg base "are_entries" k sp_are_entries) (c_is_document : Cl P w K mg base "is_document" k sp_is_document) : ∀ (f : Addr) (cdv : Value) (A : Around) (outer : List Env) (s : Shared) (H : Hp) (E : XK), Room k (A.deeper (PyProof.Rows.envOfC "is_nested" (defScope s_is_nested) s.heap.objs.size f cdv)) →
    PSs (cxOf CX0 P w K mg base ["value", "depth", "name", "one"] "is_nested" (defScope s_is_nested) f cdv A outer s H E).nox (defBody s_is_nested) (t_is_nested K sp_is_nested sp_are_entries sp_is_document) := fun f cdv A outer s H E hr => by
  have nd := sc_is_nested.nd
  have hu : (A.deeper (PyProof.Rows.envOfC "is_nested" (defScope s_is_nested) s.heap.objs.size f cdv)).units + 1 < cLine := hu_of hr
  have h64 : (A.deeper (PyProof.Rows.envOfC "is_nested" (defScope s_is_nested) s.heap.objs.size f cdv)).units + 64 < cLine := hr.units
  exact (pss_cons (ps_if (PW.pt (pw_or (pt_not (pt_val (pe_callB call_isi (by rfl) m_isinstance (by decide +kernel) (pa_cons (pv 0) (pa_cons (pe_gty rfl m_tuple (by decide +kernel)) pa_nil))))) (pw_or (pt_cmpR (op_eqX h64) (pv 0) (pe_tupF pa_nil) (nomark _)) (pw_or1 (pt_not (pt_val (pe_callB call_isi (by rfl) m_isinstance (by decide +kernel) (pa_cons (pe_ix (ix_any hu) (pv 0) pe_int (fun _ _ => rfl)) (pa_cons (pe_gty rfl m_str (by decide +kernel)) pa_nil))))))))) (pss_one (ps_ret pe_bl)) pss_nil)
    (pss_cons (ps_set (i := 2) nd rfl (by first | exact Or.inl rfl | exact Or.inr rfl) (pe_ix (ix_any hu) (pv 0) pe_int (fun _ _ => rfl)))
    (pss_cons (ps_if (pt_cmpR (op_inX hu) (pv 2) (pe_tupF (pa_cons pe_str (pa_cons pe_str pa_nil))) (by rfl)) (pss_one (ps_ret (pe_cmpR (op_eqX h64) (pe_callB call_lenX (by rfl) m_len PySem.boot_len (pa_cons (pv 0) pa_nil)) pe_int (nomark _)))) pss_nil)
    (pss_cons (ps_if (pt_cmpR (op_neX h64) (pe_callB call_lenX (by rfl) m_len PySem.boot_len (pa_cons (pv 0) pa_nil)) pe_int (nomark _)) (pss_one (ps_ret pe_bl)) pss_nil)
    (pss_cons (ps_if (pt_cmpR (op_inX hu) (pv 2) (pe_tupF (pa_cons pe_str (pa_cons pe_str pa_nil))) (by rfl)) (pss_one (ps_ret (pe_cl c_is_document hr rfl (pa_cons (pe_ix (ix_any hu) (pv 0) pe_int (fun _ _ => rfl)) (pa_cons (pe_gint rfl g_DEPTH) pa_nil))))) pss_nil)
    (pss_cons (ps_if (pt_cmpR (op_eqX h64) (pv 1) pe_int (nomark _)) (pss_one (ps_ret pe_bl)) pss_nil)
    (pss_cons (ps_if (pt_cmpR (op_inX hu) (pv 2) (pe_tupF (pa_cons pe_str (pa_cons pe_str pa_nil))) (by rfl)) (pss_one (ps_ret (pe_cl c_are_entries hr rfl (pa_cons (pe_ix (ix_any hu) (pv 0) pe_int (fun _ _ => rfl)) (pa_cons (pe_op op_sub (pv 1) pe_int) pa_nil))))) pss_nil)
    (pss_cons (ps_if (PW.pt (pw_or (pt_cmpR (op_neX h64) (pv 2) pe_str (nomark _)) (pw_or (pt_not (pt_val (pe_callB call_isi (by rfl) m_isinstance (by decide +kernel) (pa_cons (pe_ix (ix_any hu) (pv 0) pe_int (fun _ _ => rfl)) (pa_cons (pe_gty rfl m_tuple (by decide +kernel)) pa_nil))))) (pw_or1 (pt_cmpR op_gt (pe_callB call_lenX (by rfl) m_len PySem.boot_len (pa_cons (pe_ix (ix_any hu) (pv 0) pe_int (fun _ _ => rfl)) pa_nil)) (pe_gint rfl g_CHAIN) (nomark _)))))) (pss_one (ps_ret pe_bl)) pss_nil)
    (pss_one (ps_ret (pe_callB (cr_all rfl) (by rfl) m_all (by decide +kernel) (pa_cons (pe_lc (own := [("one", 3)]) (by rfl) nd (pi_any (pe_ix (ix_any hu) (pv 0) pe_int (fun _ _ => rfl))) (blkOk_by (own := [("one", 3)]) (N := ["value", "depth", "name", "one"]) (sc := defScope s_is_nested) (by decide +kernel)) (fun _ _ _ _ _ => (pg_name (i := 3) nd rfl (by first | exact Or.inl rfl | exact Or.inr rfl))) (fun _ _ _ _ _ => pts_nil) (fun _ _ _ _ _ => (pe_cl c_is_nested hr rfl (pa_cons (pv 3) (pa_cons (pe_op op_sub (pv 1) pe_int) pa_nil))))) pa_nil))))))))))))

abbrev s_is_patch : Stmt := topS 28
theorem sc_is_patch : FnScope ["value"] ["value"] (defScope s_is_patch) := ⟨rfl, rfl, rfl, by decide +kernel, rfl, by decide +kernel, by decide +kernel⟩
theorem w_is_patch {k : Nat} {sp_is_nested : Sp} (g_NESTED : ∃ tk, mg "NESTED" = some (.int 6 tk)) (c_is_nested : Cl P w K mg base "is_nested" k sp_is_nested) : ∀ (f : Addr) (cdv : Value) (A : Around) (outer : List Env) (s : Shared) (H : Hp) (E : XK), Room k (A.deeper (PyProof.Rows.envOfC "is_patch" (defScope s_is_patch) s.heap.objs.size f cdv)) →
    PSs (cxOf CX0 P w K mg base ["value"] "is_patch" (defScope s_is_patch) f cdv A outer s H E).nox (defBody s_is_patch) (t_is_patch K sp_is_nested) := fun f cdv A outer s H E hr => by
  have nd := sc_is_patch.nd
  have hu : (A.deeper (PyProof.Rows.envOfC "is_patch" (defScope s_is_patch) s.heap.objs.size f cdv)).units + 1 < cLine := hu_of hr
  have h64 : (A.deeper (PyProof.Rows.envOfC "is_patch" (defScope s_is_patch) s.heap.objs.size f cdv)).units + 64 < cLine := hr.units
  exact (pss_one (ps_ret (pe_cl c_is_nested hr rfl (pa_cons (pv 0) (pa_cons (pe_gint rfl g_NESTED) pa_nil)))))

abbrev s_need_patch : Stmt := topS 29
theorem sc_need_patch : FnScope ["value"] ["value"] (defScope s_need_patch) := ⟨rfl, rfl, rfl, by decide +kernel, rfl, by decide +kernel, by decide +kernel⟩
theorem w_need_patch {k : Nat} {sp_is_patch : Sp} (c_is_patch : Cl P w K mg base "is_patch" k sp_is_patch) : ∀ (f : Addr) (cdv : Value) (A : Around) (outer : List Env) (s : Shared) (H : Hp) (E : XK), Room k (A.deeper (PyProof.Rows.envOfC "need_patch" (defScope s_need_patch) s.heap.objs.size f cdv)) →
    PSs (cxOf CX0 P w K mg base ["value"] "need_patch" (defScope s_need_patch) f cdv A outer s H E).nox (defBody s_need_patch) (t_need_patch K sp_is_patch) := fun f cdv A outer s H E hr => by
  have nd := sc_need_patch.nd
  have hu : (A.deeper (PyProof.Rows.envOfC "need_patch" (defScope s_need_patch) s.heap.objs.size f cdv)).units + 1 < cLine := hu_of hr
  have h64 : (A.deeper (PyProof.Rows.envOfC "need_patch" (defScope s_need_patch) s.heap.objs.size f cdv)).units + 64 < cLine := hr.units
  exact (pss_one (ps_if (pt_not (pt_val (pe_cl c_is_patch hr rfl (pa_cons (pv 0) pa_nil)))) (pss_one ps_never) pss_nil))

abbrev s_form_of : Stmt := topS 30
theorem sc_form_of : FnScope ["patch", "name", "form", "one", "pairs", "key"] ["patch"] (defScope s_form_of) := ⟨rfl, rfl, rfl, by decide +kernel, rfl, by decide +kernel, by decide +kernel⟩
theorem w_form_of {k : Nat} {sp_merge_form sp_inside_form sp_pairs_of sp_form_of sp_chained sp_constant_form : Sp} {a_KEEP : Addr} (g_KEEP : mg "KEEP" = some (.ref a_KEEP)) (c_merge_form : Cl P w K mg base "merge_form" k sp_merge_form) (c_inside_form : Cl P w K mg base "inside_form" k sp_inside_form) (c_pairs_of : Cl P w K mg base "pairs_of" k sp_pairs_of) (c_form_of : Cl P w K mg base "form_of" k sp_form_of) (c_chained : Cl P w K mg base "chained" k sp_chained) (c_constant_form : Cl P w K mg base "constant_form" k sp_constant_form) : ∀ (f : Addr) (cdv : Value) (A : Around) (outer : List Env) (s : Shared) (H : Hp) (E : XK), Room k (A.deeper (PyProof.Rows.envOfC "form_of" (defScope s_form_of) s.heap.objs.size f cdv)) →
    PSs (cxOf CX0 P w K mg base ["patch", "name", "form", "one", "pairs", "key"] "form_of" (defScope s_form_of) f cdv A outer s H E).nox (defBody s_form_of) (t_form_of K a_KEEP sp_merge_form sp_inside_form sp_pairs_of sp_form_of sp_chained sp_constant_form) := fun f cdv A outer s H E hr => by
  have nd := sc_form_of.nd
  have hu : (A.deeper (PyProof.Rows.envOfC "form_of" (defScope s_form_of) s.heap.objs.size f cdv)).units + 1 < cLine := hu_of hr
  have h64 : (A.deeper (PyProof.Rows.envOfC "form_of" (defScope s_form_of) s.heap.objs.size f cdv)).units + 64 < cLine := hr.units
  exact (pss_cons (ps_set (i := 1) nd rfl (by first | exact Or.inl rfl | exact Or.inr rfl) (pe_ix (ix_any hu) (pv 0) pe_int (fun _ _ => rfl)))
    (pss_cons (ps_if (pt_cmpR (op_eqX h64) (pv 1) pe_str (nomark _)) (pss_one (ps_ret (pe_gref rfl g_KEEP))) pss_nil)
    (pss_cons (ps_if (pt_cmpR (op_eqX h64) (pv 1) pe_str (nomark _)) (pss_one (ps_ret (pe_cl c_constant_form hr rfl (pa_cons pe_non pa_nil)))) pss_nil)
    (pss_cons (ps_if (pt_cmpR (op_eqX h64) (pv 1) pe_str (nomark _)) (pss_one (ps_ret (pe_cl c_constant_form hr rfl (pa_cons (pe_ix (ix_any hu) (pv 0) pe_int (fun _ _ => rfl)) pa_nil)))) pss_nil)
    (pss_cons (ps_if (pt_cmpR (op_eqX h64) (pv 1) pe_str (nomark _)) (pss_one (ps_ret (pe_tupF (pa_cons (pe_ix (ix_any hu) (pv 0) pe_int (fun _ _ => rfl)) (pa_cons (pe_tupF (pa_cons pe_str pa_nil)) (pa_cons (pe_tupF (pa_cons pe_str (pa_cons (pe_tupF pa_nil) pa_nil))) pa_nil)))))) pss_nil)
    (pss_cons (ps_if (pt_cmpR (op_eqX h64) (pv 1) pe_str (nomark _)) (pss_cons (ps_set (i := 2) nd rfl (by first | exact Or.inl rfl | exact Or.inr rfl) (pe_gref rfl g_KEEP))
    (pss_cons (ps_for PassesOwn.never rfl (pi_any (pe_ix (ix_any hu) (pv 0) pe_int (fun _ _ => rfl))) (pg_name (i := 3) nd rfl (by first | exact Or.inl rfl | exact Or.inr rfl)) (pss_one (ps_set (i := 2) nd rfl (by first | exact Or.inl rfl | exact Or.inr rfl) (pe_cl c_chained hr rfl (pa_cons (pv 2) (pa_cons (pe_cl c_form_of hr rfl (pa_cons (pv 3) pa_nil)) pa_nil))))))
    (pss_one (ps_ret (pv 2))))) pss_nil)
    (pss_cons (ps_set (i := 4) nd rfl (by first | exact Or.inl rfl | exact Or.inr rfl) (pe_cl c_pairs_of hr rfl (pa_cons (pe_dc (own := [("key", 5)]) (by rfl) nd (pi_any (pe_ix (ix_any hu) (pv 0) pe_int (fun _ _ => rfl))) (blkOk_by (own := [("key", 5)]) (N := ["patch", "name", "form", "one", "pairs", "key"]) (sc := defScope s_form_of) (by decide +kernel)) (fun _ _ _ _ _ => (pg_name (i := 5) nd rfl (by first | exact Or.inl rfl | exact Or.inr rfl))) (fun _ _ _ _ _ => pts_nil) (fun _ _ _ _ _ => (pv 5)) (fun _ _ _ _ _ => (pe_cl c_form_of hr rfl (pa_cons (pe_ix (ix_any hu) (pe_ix (ix_any hu) (pv 0) pe_int (fun _ _ => rfl)) (pv 5) (fun _ _ => rfl)) pa_nil)))) pa_nil)))
    (pss_one (ps_ret (pe_ifExp (pt_cmpR (op_eqX h64) (pv 1) pe_str (nomark _)) (pe_cl c_merge_form hr rfl (pa_cons (pv 4) pa_nil)) (pe_cl c_inside_form hr rfl (pa_cons (pv 4) pa_nil))))))))))))

abbrev s_copied_form : Stmt := topS 22
theorem sc_copied_form : FnScope ["form", "nothing", "scalar", "entries", "key", "one"] ["form"] (defScope s_copied_form) := ⟨rfl, rfl, rfl, by decide +kernel, rfl, by decide +kernel, by decide +kernel⟩
theorem w_copied_form {k : Nat} {sp_copied sp_copied_form : Sp} (m_tuple : mg "tuple" = none) (c_copied : Cl P w K mg base "copied" k sp_copied) (c_copied_form : Cl P w K mg base "copied_form" k sp_copied_form) : ∀ (f : Addr) (cdv : Value) (A : Around) (outer : List Env) (s : Shared) (H : Hp) (E : XK), Room k (A.deeper (PyProof.Rows.envOfC "copied_form" (defScope s_copied_form) s.heap.objs.size f cdv)) →
    PSs (cxOf CX0 P w K mg base ["form", "nothing", "scalar", "entries", "key", "one"] "copied_form" (defScope s_copied_form) f cdv A outer s H E).nox (defBody s_copied_form) (t_copied_form K sp_copied sp_copied_form) := fun f cdv A outer s H E hr => by
  have nd := sc_copied_form.nd
  have hu : (A.deeper (PyProof.Rows.envOfC "copied_form" (defScope s_copied_form) s.heap.objs.size f cdv)).units + 1 < cLine := hu_of hr
  have h64 : (A.deeper (PyProof.Rows.envOfC "copied_form" (defScope s_copied_form) s.heap.objs.size f cdv)).units + 64 < cLine := hr.units
  exact (pss_cons (ps_asg (pv 0) (pg_tup rfl (pgs_cons (pg_name (i := 1) nd rfl (by first | exact Or.inl rfl | exact Or.inr rfl)) (pgs_cons (pg_name (i := 2) nd rfl (by first | exact Or.inl rfl | exact Or.inr rfl)) (pgs_cons (pg_name (i := 3) nd rfl (by first | exact Or.inl rfl | exact Or.inr rfl)) pgs_nil)))))
    (pss_cons (ps_if (pt_cmpR (op_eqX h64) (pe_ix (ix_any hu) (pv 2) pe_int (fun _ _ => rfl)) pe_str (nomark _)) (pss_one (ps_set (i := 2) nd rfl (by first | exact Or.inl rfl | exact Or.inr rfl) (pe_tupF (pa_cons pe_str (pa_cons (pe_cl c_copied hr rfl (pa_cons (pe_ix (ix_any hu) (pv 2) pe_int (fun _ _ => rfl)) pa_nil)) pa_nil))))) pss_nil)
    (pss_cons (ps_if (pt_cmpR (op_eqX h64) (pe_ix (ix_any hu) (pv 3) pe_int (fun _ _ => rfl)) pe_str (nomark _)) (pss_one (ps_set (i := 3) nd rfl (by first | exact Or.inl rfl | exact Or.inr rfl) (pe_tupF (pa_cons pe_str (pa_cons (pe_cl c_copied hr rfl (pa_cons (pe_ix (ix_any hu) (pv 3) pe_int (fun _ _ => rfl)) pa_nil)) pa_nil))))) (pss_one (ps_set (i := 3) nd rfl (by first | exact Or.inl rfl | exact Or.inr rfl) (pe_tupF (pa_cons pe_str (pa_cons (pe_callTy call_tupleF (by rfl) m_tuple (by decide +kernel) (pa_cons (pe_lc (own := [("key", 4), ("one", 5)]) (by rfl) nd (pi_any (pe_ix (ix_any hu) (pv 3) pe_int (fun _ _ => rfl))) (blkOk_by (own := [("key", 4), ("one", 5)]) (N := ["form", "nothing", "scalar", "entries", "key", "one"]) (sc := defScope s_copied_form) (by decide +kernel)) (fun _ _ _ _ _ => (pg_tup rfl (pgs_cons (pg_name (i := 4) nd rfl (by first | exact Or.inl rfl | exact Or.inr rfl)) (pgs_cons (pg_name (i := 5) nd rfl (by first | exact Or.inl rfl | exact Or.inr rfl)) pgs_nil)))) (fun _ _ _ _ _ => pts_nil) (fun _ _ _ _ _ => (pe_tupF (pa_cons (pv 4) (pa_cons (pe_cl c_copied_form hr rfl (pa_cons (pv 5) pa_nil)) pa_nil))))) pa_nil)) pa_nil))))))
    (pss_one (ps_ret (pe_tupF (pa_cons (pe_cl c_copied hr rfl (pa_cons (pv 1) pa_nil)) (pa_cons (pv 2) (pa_cons (pv 3) pa_nil)))))))))

abbrev s_normal_form : Stmt := topS 31
theorem sc_normal_form : FnScope ["patch"] ["patch"] (defScope s_normal_form) := ⟨rfl, rfl, rfl, by decide +kernel, rfl, by decide +kernel, by decide +kernel⟩
theorem w_normal_form {k : Nat} {sp_copied_form sp_form_of sp_need_patch : Sp} (c_copied_form : Cl P w K mg base "copied_form" k sp_copied_form) (c_form_of : Cl P w K mg base "form_of" k sp_form_of) (c_need_patch : Cl P w K mg base "need_patch" k sp_need_patch) : ∀ (f : Addr) (cdv : Value) (A : Around) (outer : List Env) (s : Shared) (H : Hp) (E : XK), Room k (A.deeper (PyProof.Rows.envOfC "normal_form" (defScope s_normal_form) s.heap.objs.size f cdv)) →
    PSs (cxOf CX0 P w K mg base ["patch"] "normal_form" (defScope s_normal_form) f cdv A outer s H E).nox (defBody s_normal_form) (t_normal_form K sp_copied_form sp_form_of sp_need_patch) := fun f cdv A outer s H E hr => by
  have nd := sc_normal_form.nd
  have hu : (A.deeper (PyProof.Rows.envOfC "normal_form" (defScope s_normal_form) s.heap.objs.size f cdv)).units + 1 < cLine := hu_of hr
  have h64 : (A.deeper (PyProof.Rows.envOfC "normal_form" (defScope s_normal_form) s.heap.objs.size f cdv)).units + 64 < cLine := hr.units
  exact (pss_cons (ps_expr (pe_cl c_need_patch hr rfl (pa_cons (pv 0) pa_nil)))
    (pss_one (ps_ret (pe_cl c_copied_form hr rfl (pa_cons (pe_cl c_form_of hr rfl (pa_cons (pv 0) pa_nil)) pa_nil)))))

abbrev s__law_draw : Stmt := topS 33
theorem sc__law_draw : FnScope ["script", "town", "many", "one", "at", "mixed"] ["script", "town", "many"] (defScope s__law_draw) := ⟨rfl, rfl, rfl, by decide +kernel, rfl, by decide +kernel, by decide +kernel⟩
theorem w__law_draw {k : Nat} (m_len : mg "len" = none) : ∀ (f : Addr) (cdv : Value) (A : Around) (outer : List Env) (s : Shared) (H : Hp) (E : XK), Room k (A.deeper (PyProof.Rows.envOfC "_law_draw" (defScope s__law_draw) s.heap.objs.size f cdv)) →
    PSs (cxOf CX0 P w K mg base ["script", "town", "many", "one", "at", "mixed"] "_law_draw" (defScope s__law_draw) f cdv A outer s H E).nox (defBody s__law_draw) (t__law_draw K) := fun f cdv A outer s H E hr => by
  have nd := sc__law_draw.nd
  have hu : (A.deeper (PyProof.Rows.envOfC "_law_draw" (defScope s__law_draw) s.heap.objs.size f cdv)).units + 1 < cLine := hu_of hr
  have h64 : (A.deeper (PyProof.Rows.envOfC "_law_draw" (defScope s__law_draw) s.heap.objs.size f cdv)).units + 64 < cLine := hr.units
  exact (pss_cons (ps_if (pt_cmpR op_gt (pe_ix (ix_any hu) (pv 1) pe_int (fun _ _ => rfl)) pe_int (nomark _)) (pss_cons (ps_set (i := 3) nd rfl (by first | exact Or.inl rfl | exact Or.inr rfl) (pe_op op_mod (pe_ix (ix_any hu) (pv 1) pe_int (fun _ _ => rfl)) (pv 2)))
    (pss_cons (ps_asg (pe_op op_fdiv (pe_ix (ix_any hu) (pv 1) pe_int (fun _ _ => rfl)) (pv 2)) (pg_sub (pv 1) pe_int set_list))
    (pss_one (ps_ret (pv 3))))) pss_nil)
    (pss_cons (ps_set (i := 4) nd rfl (by first | exact Or.inl rfl | exact Or.inr rfl) (pe_ix (ix_any hu) (pv 1) pe_int (fun _ _ => rfl)))
    (pss_cons (ps_augS (pv 1) pe_int get_list pe_int ip_add set_list)
    (pss_cons (ps_if (pt_cmpR (op_eqS h64) (pv 0) (pe_lst pa_nil) (nomark _)) (pss_one (ps_ret (pe_op op_mod (pv 4) (pv 2)))) pss_nil)
    (pss_cons (ps_if (PW.pt (pw_and (pt_cmpR op_lt (pv 4) (pe_callB call_lenX (by rfl) m_len PySem.boot_len (pa_cons (pv 0) pa_nil)) (nomark _)) (pw_and1 (pt_cmpR op_ge (pe_ix (ix_any hu) (pv 0) (pv 4) (fun _ _ => rfl)) (pe_op op_pow pe_int pe_int) (nomark _))))) (pss_cons (ps_asg (pe_op op_mod (pe_op op_fdiv (pe_ix (ix_any hu) (pv 0) (pv 4) (fun _ _ => rfl)) (pv 2)) (pe_op op_mulX (pe_op op_pow pe_int pe_int) (pe_op op_pow pe_int pe_int))) (pg_sub (pv 1) pe_int set_list))
    (pss_one (ps_ret (pe_op op_mod (pe_ix (ix_any hu) (pv 0) (pv 4) (fun _ _ => rfl)) (pv 2))))) pss_nil)
    (pss_cons (ps_set (i := 5) nd rfl (by first | exact Or.inl rfl | exact Or.inr rfl) (pe_op op_mod (pe_op op_add (pe_op op_add (pe_op op_mulX (pe_ix (ix_any hu) (pv 0) (pe_op op_mod (pv 4) (pe_callB call_lenX (by rfl) m_len PySem.boot_len (pa_cons (pv 0) pa_nil))) (fun _ _ => rfl)) pe_int) (pe_op op_mulX pe_int (pv 4))) pe_int) pe_int))
    (pss_one (ps_ret (pe_op op_mod (pe_op op_mod (pe_op op_mod (pe_op op_pow (pv 5) pe_int) pe_int) pe_int) (pv 2))))))))))

abbrev s__law_pick : Stmt := topS 34
theorem sc__law_pick : FnScope ["script", "town", "some"] ["script", "town", "some"] (defScope s__law_pick) := ⟨rfl, rfl, rfl, by decide +kernel, rfl, by decide +kernel, by decide +kernel⟩
theorem w__law_pick {k : Nat} {sp__law_draw : Sp} (m_len : mg "len" = none) (c__law_draw : Cl P w K mg base "_law_draw" k sp__law_draw) : ∀ (f : Addr) (cdv : Value) (A : Around) (outer : List Env) (s : Shared) (H : Hp) (E : XK), Room k (A.deeper (PyProof.Rows.envOfC "_law_pick" (defScope s__law_pick) s.heap.objs.size f cdv)) →
    PSs (cxOf CX0 P w K mg base ["script", "town", "some"] "_law_pick" (defScope s__law_pick) f cdv A outer s H E).nox (defBody s__law_pick) (t__law_pick K sp__law_draw) := fun f cdv A outer s H E hr => by
  have nd := sc__law_pick.nd
  have hu : (A.deeper (PyProof.Rows.envOfC "_law_pick" (defScope s__law_pick) s.heap.objs.size f cdv)).units + 1 < cLine := hu_of hr
  have h64 : (A.deeper (PyProof.Rows.envOfC "_law_pick" (defScope s__law_pick) s.heap.objs.size f cdv)).units + 64 < cLine := hr.units
  exact (pss_one (ps_ret (pe_ix (ix_any hu) (pv 2) (pe_cl c__law_draw hr rfl (pa_cons (pv 0) (pa_cons (pv 1) (pa_cons (pe_callB call_lenX (by rfl) m_len PySem.boot_len (pa_cons (pv 2) pa_nil)) pa_nil)))) (fun _ _ => rfl))))

abbrev s__law_document : Stmt := topS 35
theorem sc__law_document : FnScope ["script", "town", "depth", "names", "key"] ["script", "town", "depth"] (defScope s__law_document) := ⟨rfl, rfl, rfl, by decide +kernel, rfl, by decide +kernel, by decide +kernel⟩
theorem w__law_document {k : Nat} {sp__law_document sp__law_pick sp__law_draw : Sp} (m_dict : mg "dict" = none) (c__law_document : Cl P w K mg base "_law_document" k sp__law_document) (c__law_pick : Cl P w K mg base "_law_pick" k sp__law_pick) (c__law_draw : Cl P w K mg base "_law_draw" k sp__law_draw) : ∀ (f : Addr) (cdv : Value) (A : Around) (outer : List Env) (s : Shared) (H : Hp) (E : XK), Room k (A.deeper (PyProof.Rows.envOfC "_law_document" (defScope s__law_document) s.heap.objs.size f cdv)) →
    PSs (cxOf CX0 P w K mg base ["script", "town", "depth", "names", "key"] "_law_document" (defScope s__law_document) f cdv A outer s H E).nox (defBody s__law_document) (t__law_document K sp__law_document sp__law_pick sp__law_draw) := fun f cdv A outer s H E hr => by
  have nd := sc__law_document.nd
  have hu : (A.deeper (PyProof.Rows.envOfC "_law_document" (defScope s__law_document) s.heap.objs.size f cdv)).units + 1 < cLine := hu_of hr
  have h64 : (A.deeper (PyProof.Rows.envOfC "_law_document" (defScope s__law_document) s.heap.objs.size f cdv)).units + 64 < cLine := hr.units
  exact (pss_cons (ps_if (PW.pt (pw_or (pt_cmpR (op_eqX h64) (pv 2) pe_int (nomark _)) (pw_or1 (pt_cmpR op_lt (pe_cl c__law_draw hr rfl (pa_cons (pv 0) (pa_cons (pv 1) (pa_cons pe_int pa_nil)))) pe_int (nomark _))))) (pss_one (ps_ret (pe_cl c__law_pick hr rfl (pa_cons (pv 0) (pa_cons (pv 1) (pa_cons (pe_lst (pa_cons pe_int (pa_cons pe_int (pa_cons pe_int (pa_cons (pe_un un_neg pe_int) (pa_cons pe_str (pa_cons pe_str (pa_cons pe_str pa_nil)))))))) pa_nil)))))) pss_nil)
    (pss_cons (ps_set (i := 3) nd rfl (by first | exact Or.inl rfl | exact Or.inr rfl) (pe_cl c__law_pick hr rfl (pa_cons (pv 0) (pa_cons (pv 1) (pa_cons (pe_lst (pa_cons pe_str (pa_cons pe_str (pa_cons pe_str (pa_cons pe_str (pa_cons pe_str (pa_cons pe_str (pa_cons pe_str pa_nil)))))))) pa_nil)))))
    (pss_one (ps_ret (pe_callTy (call_dictX rfl) (by rfl) m_dict (by decide +kernel) (pa_cons (pe_lc (own := [("key", 4)]) (by rfl) nd (pi_any (pv 3)) (blkOk_by (own := [("key", 4)]) (N := ["script", "town", "depth", "names", "key"]) (sc := defScope s__law_document) (by decide +kernel)) (fun _ _ _ _ _ => (pg_name (i := 4) nd rfl (by first | exact Or.inl rfl | exact Or.inr rfl))) (fun _ _ _ _ _ => pts_nil) (fun _ _ _ _ _ => (pe_tupF (pa_cons (pv 4) (pa_cons (pe_cl c__law_document hr rfl (pa_cons (pv 0) (pa_cons (pv 1) (pa_cons (pe_op op_sub (pv 2) pe_int) pa_nil)))) pa_nil))))) pa_nil))))))

abbrev s__law_state : Stmt := topS 36
theorem sc__law_state : FnScope ["script", "town", "depth"] ["script", "town", "depth"] (defScope s__law_state) := ⟨rfl, rfl, rfl, by decide +kernel, rfl, by decide +kernel, by decide +kernel⟩
theorem w__law_state {k : Nat} {sp__law_draw sp__law_document : Sp} (c__law_draw : Cl P w K mg base "_law_draw" k sp__law_draw) (c__law_document : Cl P w K mg base "_law_document" k sp__law_document) : ∀ (f : Addr) (cdv : Value) (A : Around) (outer : List Env) (s : Shared) (H : Hp) (E : XK), Room k (A.deeper (PyProof.Rows.envOfC "_law_state" (defScope s__law_state) s.heap.objs.size f cdv)) →
    PSs (cxOf CX0 P w K mg base ["script", "town", "depth"] "_law_state" (defScope s__law_state) f cdv A outer s H E).nox (defBody s__law_state) (t__law_state K sp__law_draw sp__law_document) := fun f cdv A outer s H E hr => by
  have nd := sc__law_state.nd
  have hu : (A.deeper (PyProof.Rows.envOfC "_law_state" (defScope s__law_state) s.heap.objs.size f cdv)).units + 1 < cLine := hu_of hr
  have h64 : (A.deeper (PyProof.Rows.envOfC "_law_state" (defScope s__law_state) s.heap.objs.size f cdv)).units + 64 < cLine := hr.units
  exact (pss_one (ps_ret (pe_ifExp (pt_cmpR (op_eqX h64) (pe_cl c__law_draw hr rfl (pa_cons (pv 0) (pa_cons (pv 1) (pa_cons pe_int pa_nil)))) pe_int (nomark _)) pe_non (pe_cl c__law_document hr rfl (pa_cons (pv 0) (pa_cons (pv 1) (pa_cons (pv 2) pa_nil)))))))

abbrev s__law_patch : Stmt := topS 37
theorem sc__law_patch : FnScope ["script", "town", "depth", "name", "names", "k", "key"] ["script", "town", "depth"] (defScope s__law_patch) := ⟨rfl, rfl, rfl, by decide +kernel, rfl, by decide +kernel, by decide +kernel⟩
theorem w__law_patch {k : Nat} {sp__law_patch sp__law_pick sp__law_draw sp__law_document : Sp} (m_dict : mg "dict" = none) (m_tuple : mg "tuple" = none) (m_range : mg "range" = none) (c__law_patch : Cl P w K mg base "_law_patch" k sp__law_patch) (c__law_pick : Cl P w K mg base "_law_pick" k sp__law_pick) (c__law_draw : Cl P w K mg base "_law_draw" k sp__law_draw) (c__law_document : Cl P w K mg base "_law_document" k sp__law_document) : ∀ (f : Addr) (cdv : Value) (A : Around) (outer : List Env) (s : Shared) (H : Hp) (E : XK), Room k (A.deeper (PyProof.Rows.envOfC "_law_patch" (defScope s__law_patch) s.heap.objs.size f cdv)) →
    PSs (cxOf CX0 P w K mg base ["script", "town", "depth", "name", "names", "k", "key"] "_law_patch" (defScope s__law_patch) f cdv A outer s H E).nox (defBody s__law_patch) (t__law_patch K sp__law_patch sp__law_pick sp__law_draw sp__law_document) := fun f cdv A outer s H E hr => by
  have nd := sc__law_patch.nd
  have hu : (A.deeper (PyProof.Rows.envOfC "_law_patch" (defScope s__law_patch) s.heap.objs.size f cdv)).units + 1 < cLine := hu_of hr
  have h64 : (A.deeper (PyProof.Rows.envOfC "_law_patch" (defScope s__law_patch) s.heap.objs.size f cdv)).units + 64 < cLine := hr.units
  exact (pss_cons (ps_set (i := 3) nd rfl (by first | exact Or.inl rfl | exact Or.inr rfl) (pe_cl c__law_pick hr rfl (pa_cons (pv 0) (pa_cons (pv 1) (pa_cons (pe_lst (pa_cons pe_str (pa_cons pe_str (pa_cons pe_str (pa_cons pe_str (pa_cons pe_str (pa_cons pe_str (pa_cons pe_str (pa_cons pe_str (pa_cons pe_str pa_nil)))))))))) pa_nil)))))
    (pss_cons (ps_if (pt_cmpR (op_inX hu) (pv 3) (pe_tupF (pa_cons pe_str (pa_cons pe_str pa_nil))) (by rfl)) (pss_one (ps_ret (pe_tupF (pa_cons (pv 3) pa_nil)))) pss_nil)
    (pss_cons (ps_if (PW.pt (pw_or (pt_cmpR (op_inX hu) (pv 3) (pe_tupF (pa_cons pe_str (pa_cons pe_str pa_nil))) (by rfl)) (pw_or1 (pt_cmpR (op_eqX h64) (pv 2) pe_int (nomark _))))) (pss_one (ps_ret (pe_tupF (pa_cons (pe_cl c__law_pick hr rfl (pa_cons (pv 0) (pa_cons (pv 1) (pa_cons (pe_lst (pa_cons pe_str (pa_cons pe_str pa_nil))) pa_nil)))) (pa_cons (pe_cl c__law_document hr rfl (pa_cons (pv 0) (pa_cons (pv 1) (pa_cons pe_int pa_nil)))) pa_nil))))) pss_nil)
    (pss_cons (ps_if (pt_cmpR (op_eqX h64) (pv 3) pe_str (nomark _)) (pss_one (ps_ret (pe_tupF (pa_cons (pv 3) (pa_cons (pe_callTy call_tupleF (by rfl) m_tuple (by decide +kernel) (pa_cons (pe_lc (own := [("k", 5)]) (by rfl) nd (pi_range1 rfl m_range (pa_cons (pe_cl c__law_draw hr rfl (pa_cons (pv 0) (pa_cons (pv 1) (pa_cons pe_int pa_nil)))) pa_nil)) (blkOk_by (own := [("k", 5)]) (N := ["script", "town", "depth", "name", "names", "k", "key"]) (sc := defScope s__law_patch) (by decide +kernel)) (fun _ _ _ _ _ => (pg_name (i := 5) nd rfl (by first | exact Or.inl rfl | exact Or.inr rfl))) (fun _ _ _ _ _ => pts_nil) (fun _ _ _ _ _ => (pe_cl c__law_patch hr rfl (pa_cons (pv 0) (pa_cons (pv 1) (pa_cons (pe_op op_sub (pv 2) pe_int) pa_nil)))))) pa_nil)) pa_nil))))) pss_nil)
    (pss_cons (ps_set (i := 4) nd rfl (by first | exact Or.inl rfl | exact Or.inr rfl) (pe_cl c__law_pick hr rfl (pa_cons (pv 0) (pa_cons (pv 1) (pa_cons (pe_lst (pa_cons pe_str (pa_cons pe_str (pa_cons pe_str (pa_cons pe_str (pa_cons pe_str pa_nil)))))) pa_nil)))))
    (pss_one (ps_ret (pe_tupF (pa_cons (pv 3) (pa_cons (pe_callTy (call_dictX rfl) (by rfl) m_dict (by decide +kernel) (pa_cons (pe_lc (own := [("key", 6)]) (by rfl) nd (pi_any (pv 4)) (blkOk_by (own := [("key", 6)]) (N := ["script", "town", "depth", "name", "names", "k", "key"]) (sc := defScope s__law_patch) (by decide +kernel)) (fun _ _ _ _ _ => (pg_name (i := 6) nd rfl (by first | exact Or.inl rfl | exact Or.inr rfl))) (fun _ _ _ _ _ => pts_nil) (fun _ _ _ _ _ => (pe_tupF (pa_cons (pv 6) (pa_cons (pe_cl c__law_patch hr rfl (pa_cons (pv 0) (pa_cons (pv 1) (pa_cons (pe_op op_sub (pv 2) pe_int) pa_nil)))) pa_nil))))) pa_nil)) pa_nil))))))))))

abbrev s__law_run : Stmt := topS 38
theorem sc__law_run : FnScope ["patch", "state", "name", "one", "result", "key", "value"] ["patch", "state"] (defScope s__law_run) := ⟨rfl, rfl, rfl, by decide +kernel, rfl, by decide +kernel, by decide +kernel⟩
theorem w__law_run {k : Nat} {sp__law_run : Sp} (m_isinstance : mg "isinstance" = none) (m_dict : mg "dict" = none) (c__law_run : Cl P w K mg base "_law_run" k sp__law_run) : ∀ (f : Addr) (cdv : Value) (A : Around) (outer : List Env) (s : Shared) (H : Hp) (E : XK), Room k (A.deeper (PyProof.Rows.envOfC "_law_run" (defScope s__law_run) s.heap.objs.size f cdv)) →
    PSs (cxOf CX0 P w K mg base ["patch", "state", "name", "one", "result", "key", "value"] "_law_run" (defScope s__law_run) f cdv A outer s H E).nox (defBody s__law_run) (t__law_run K sp__law_run) := fun f cdv A outer s H E hr => by
  have nd := sc__law_run.nd
  have hu : (A.deeper (PyProof.Rows.envOfC "_law_run" (defScope s__law_run) s.heap.objs.size f cdv)).units + 1 < cLine := hu_of hr
  have h64 : (A.deeper (PyProof.Rows.envOfC "_law_run" (defScope s__law_run) s.heap.objs.size f cdv)).units + 64 < cLine := hr.units
  exact (pss_cons (ps_set (i := 2) nd rfl (by first | exact Or.inl rfl | exact Or.inr rfl) (pe_ix (ix_any hu) (pv 0) pe_int (fun _ _ => rfl)))
    (pss_cons (ps_if (PW.pt (pw_or (pt_cmpR (op_eqX h64) (pv 2) pe_str (nomark _)) (pw_or (PW.pt (pw_and (pt_cmpR (op_eqX h64) (pv 2) pe_str (nomark _)) (pw_and1 (pt_cmpR op_notN (pv 1) pe_non (nomark _))))) (pw_or1 (PW.pt (pw_and (pt_cmpR (op_eqX h64) (pv 2) pe_str (nomark _)) (pw_and1 (pt_not (pt_val (pe_callB call_isi (by rfl) m_isinstance (by decide +kernel) (pa_cons (pv 1) (pa_cons (pe_gty rfl m_dict (by decide +kernel)) pa_nil)))))))))))) (pss_one (ps_ret (pv 1))) pss_nil)
    (pss_cons (ps_if (pt_cmpR (op_eqX h64) (pv 2) pe_str (nomark _)) (pss_one (ps_ret pe_non)) pss_nil)
    (pss_cons (ps_if (pt_cmpR (op_inX hu) (pv 2) (pe_tupF (pa_cons pe_str (pa_cons pe_str pa_nil))) (by rfl)) (pss_one (ps_ret (pe_ix (ix_any hu) (pv 0) pe_int (fun _ _ => rfl)))) pss_nil)
    (pss_cons (ps_if (pt_cmpR (op_eqX h64) (pv 2) pe_str (nomark _)) (pss_cons (ps_for PassesOwn.never rfl (pi_any (pe_ix (ix_any hu) (pv 0) pe_int (fun _ _ => rfl))) (pg_name (i := 3) nd rfl (by first | exact Or.inl rfl | exact Or.inr rfl)) (pss_one (ps_set (i := 1) nd rfl (by first | exact Or.inl rfl | exact Or.inr rfl) (pe_cl c__law_run hr rfl (pa_cons (pv 3) (pa_cons (pv 1) pa_nil))))))
    (pss_one (ps_ret (pv 1)))) pss_nil)
    (pss_cons (ps_set (i := 4) nd rfl (by first | exact Or.inl rfl | exact Or.inr rfl) (pe_ifExp (pt_val (pe_callB call_isi (by rfl) m_isinstance (by decide +kernel) (pa_cons (pv 1) (pa_cons (pe_gty rfl m_dict (by decide +kernel)) pa_nil)))) (pe_callTy (call_dictX rfl) (by rfl) m_dict (by decide +kernel) (pa_cons (pv 1) pa_nil)) pe_dnewK))
    (pss_cons (ps_for PassesOwn.never rfl (pi_any (pe_ix (ix_any hu) (pv 0) pe_int (fun _ _ => rfl))) (pg_name (i := 5) nd rfl (by first | exact Or.inl rfl | exact Or.inr rfl)) (pss_cons (ps_set (i := 6) nd rfl (by first | exact Or.inl rfl | exact Or.inr rfl) (pe_cl c__law_run hr rfl (pa_cons (pe_ix (ix_any hu) (pe_ix (ix_any hu) (pv 0) pe_int (fun _ _ => rfl)) (pv 5) (fun _ _ => rfl)) (pa_cons (pe_dget1 hu (pv 4) (pv 5) ⟨rfl, rfl, rfl, rfl⟩) pa_nil))))
    (pss_one (ps_if (pt_cmpR op_notN (pv 6) pe_non (nomark _)) (pss_one (ps_dput hu (pv 4) (pv 5) (pv 6) rfl)) (pss_one (ps_if (pt_cmpR (op_inX hu) (pv 5) (pv 4) (by rfl)) (pss_one (ps_expr (pe_dpop1 (pv 4) (pv 5) ⟨rfl, rfl, rfl, rfl⟩))) pss_nil))))))
    (pss_one (ps_ret (pv 4))))))))))

abbrev s__law_size : Stmt := topS 39
theorem sc__law_size : FnScope ["state", "key"] ["state"] (defScope s__law_size) := ⟨rfl, rfl, rfl, by decide +kernel, rfl, by decide +kernel, by decide +kernel⟩
theorem w__law_size {k : Nat} {sp__law_size : Sp} (m_isinstance : mg "isinstance" = none) (m_dict : mg "dict" = none) (m_sum : mg "sum" = none) (c__law_size : Cl P w K mg base "_law_size" k sp__law_size) : ∀ (f : Addr) (cdv : Value) (A : Around) (outer : List Env) (s : Shared) (H : Hp) (E : XK), Room k (A.deeper (PyProof.Rows.envOfC "_law_size" (defScope s__law_size) s.heap.objs.size f cdv)) →
    PSs (cxOf CX0 P w K mg base ["state", "key"] "_law_size" (defScope s__law_size) f cdv A outer s H E).nox (defBody s__law_size) (t__law_size K sp__law_size) := fun f cdv A outer s H E hr => by
  have nd := sc__law_size.nd
  have hu : (A.deeper (PyProof.Rows.envOfC "_law_size" (defScope s__law_size) s.heap.objs.size f cdv)).units + 1 < cLine := hu_of hr
  have h64 : (A.deeper (PyProof.Rows.envOfC "_law_size" (defScope s__law_size) s.heap.objs.size f cdv)).units + 64 < cLine := hr.units
  exact (pss_cons (ps_if (pt_val (pe_callB call_isi (by rfl) m_isinstance (by decide +kernel) (pa_cons (pv 0) (pa_cons (pe_gty rfl m_dict (by decide +kernel)) pa_nil)))) (pss_one (ps_ret (pe_op op_add pe_int (pe_callB (cr_sum rfl) (by rfl) m_sum (by decide +kernel) (pa_cons (pe_lc (own := [("key", 1)]) (by rfl) nd (pi_any (pv 0)) (blkOk_by (own := [("key", 1)]) (N := ["state", "key"]) (sc := defScope s__law_size) (by decide +kernel)) (fun _ _ _ _ _ => (pg_name (i := 1) nd rfl (by first | exact Or.inl rfl | exact Or.inr rfl))) (fun _ _ _ _ _ => pts_nil) (fun _ _ _ _ _ => (pe_cl c__law_size hr rfl (pa_cons (pe_ix (ix_any hu) (pv 0) (pv 1) (fun _ _ => rfl)) pa_nil)))) pa_nil))))) pss_nil)
    (pss_one (ps_ret (pe_ifExp (pt_cmpR op_isN (pv 0) pe_non (nomark _)) pe_int pe_int))))

abbrev s__law_value : Stmt := topS 40
theorem sc__law_value : FnScope ["state", "path", "key"] ["state", "path"] (defScope s__law_value) := ⟨rfl, rfl, rfl, by decide +kernel, rfl, by decide +kernel, by decide +kernel⟩
theorem w__law_value {k : Nat} (m_isinstance : mg "isinstance" = none) (m_dict : mg "dict" = none) : ∀ (f : Addr) (cdv : Value) (A : Around) (outer : List Env) (s : Shared) (H : Hp) (E : XK), Room k (A.deeper (PyProof.Rows.envOfC "_law_value" (defScope s__law_value) s.heap.objs.size f cdv)) →
    PSs (cxOf CX0 P w K mg base ["state", "path", "key"] "_law_value" (defScope s__law_value) f cdv A outer s H E).nox (defBody s__law_value) (t__law_value K) := fun f cdv A outer s H E hr => by
  have nd := sc__law_value.nd
  have hu : (A.deeper (PyProof.Rows.envOfC "_law_value" (defScope s__law_value) s.heap.objs.size f cdv)).units + 1 < cLine := hu_of hr
  have h64 : (A.deeper (PyProof.Rows.envOfC "_law_value" (defScope s__law_value) s.heap.objs.size f cdv)).units + 64 < cLine := hr.units
  exact (pss_cons (ps_for PassesOwn.never rfl (pi_any (pv 1)) (pg_name (i := 2) nd rfl (by first | exact Or.inl rfl | exact Or.inr rfl)) (pss_one (ps_set (i := 0) nd rfl (by first | exact Or.inl rfl | exact Or.inr rfl) (pe_ifExp (pt_val (pe_callB call_isi (by rfl) m_isinstance (by decide +kernel) (pa_cons (pv 0) (pa_cons (pe_gty rfl m_dict (by decide +kernel)) pa_nil)))) (pe_dget1 hu (pv 0) (pv 2) ⟨rfl, rfl, rfl, rfl⟩) pe_non))))
    (pss_one (ps_ret (pv 0))))

abbrev s__law_small : Stmt := topS 41
theorem sc__law_small : FnScope ["inner", "states", "one", "other", "pairs", "order", "key", "value", "at", "weight"] [] (defScope s__law_small) := ⟨rfl, rfl, rfl, by decide +kernel, rfl, by decide +kernel, by decide +kernel⟩
theorem w__law_small {k : Nat} {sp__law_size : Sp} (m_sorted : mg "sorted" = none) (m_enumerate : mg "enumerate" = none) (m_dict : mg "dict" = none) (c__law_size : Cl P w K mg base "_law_size" k sp__law_size) : ∀ (f : Addr) (cdv : Value) (A : Around) (outer : List Env) (s : Shared) (H : Hp) (E : XK), Room k (A.deeper (PyProof.Rows.envOfC "_law_small" (defScope s__law_small) s.heap.objs.size f cdv)) →
    PSs (cxOf CX0 P w K mg base ["inner", "states", "one", "other", "pairs", "order", "key", "value", "at", "weight"] "_law_small" (defScope s__law_small) f cdv A outer s H E).nox (defBody s__law_small) (t__law_small K sp__law_size) := fun f cdv A outer s H E hr => by
  have nd := sc__law_small.nd
  have hu : (A.deeper (PyProof.Rows.envOfC "_law_small" (defScope s__law_small) s.heap.objs.size f cdv)).units + 1 < cLine := hu_of hr
  have h64 : (A.deeper (PyProof.Rows.envOfC "_law_small" (defScope s__law_small) s.heap.objs.size f cdv)).units + 64 < cLine := hr.units
  exact (pss_cons (ps_set (i := 0) nd rfl (by first | exact Or.inl rfl | exact Or.inr rfl) (pe_lst (pa_cons pe_non (pa_cons pe_int (pa_cons pe_int (pa_cons pe_int (pa_cons pe_str (pa_cons pe_dnewK (pa_cons (pe_disp (pps_cons pe_str pe_int pps_nil) (by rfl) (by rfl) (fun z => by cases z) (by decide)) (pa_cons (pe_disp (pps_cons pe_str pe_int pps_nil) (by rfl) (by rfl) (fun z => by cases z) (by decide)) (pa_cons (pe_disp (pps_cons pe_str pe_int pps_nil) (by rfl) (by rfl) (fun z => by cases z) (by decide)) (pa_cons (pe_disp (pps_cons pe_str pe_int pps_nil) (by rfl) (by rfl) (fun z => by cases z) (by decide)) (pa_cons (pe_disp (pps_cons pe_str pe_dnewK pps_nil) (by rfl) (by rfl) (fun z => by cases z) (by decide)) pa_nil)))))))))))))
    (pss_cons (ps_set (i := 1) nd rfl (by first | exact Or.inl rfl | exact Or.inr rfl) (pe_lst (pa_cons pe_non (pa_cons pe_int (pa_cons pe_int (pa_cons pe_int (pa_cons pe_str (pa_cons pe_str pa_nil))))))))
    (pss_cons (ps_for PassesOwn.never rfl (pi_any (pv 0)) (pg_name (i := 2) nd rfl (by first | exact Or.inl rfl | exact Or.inr rfl)) (pss_one (ps_for PassesOwn.never rfl (pi_any (pv 0)) (pg_name (i := 3) nd rfl (by first | exact Or.inl rfl | exact Or.inr rfl)) (pss_cons (ps_set (i := 4) nd rfl (by first | exact Or.inl rfl | exact Or.inr rfl) (pe_lst (pa_cons (pe_tupF (pa_cons pe_str (pa_cons (pv 2) pa_nil))) (pa_cons (pe_tupF (pa_cons pe_str (pa_cons (pv 3) pa_nil))) pa_nil))))
    (pss_one (ps_expr (pe_bm PySem.F.plainAttrs_list PySem.F.slot_list_append PySem.F.type_list_append mt_append (pv 1) (pa_cons (pe_callTy (call_dictX rfl) (by rfl) m_dict (by decide +kernel) (pa_cons (pe_lc (own := [("key", 6), ("value", 7)]) (by rfl) nd (pi_any (pv 4)) (blkOk_by (own := [("key", 6), ("value", 7)]) (N := ["inner", "states", "one", "other", "pairs", "order", "key", "value", "at", "weight"]) (sc := defScope s__law_small) (by decide +kernel)) (fun _ _ _ _ _ => (pg_tup rfl (pgs_cons (pg_name (i := 6) nd rfl (by first | exact Or.inl rfl | exact Or.inr rfl)) (pgs_cons (pg_name (i := 7) nd rfl (by first | exact Or.inl rfl | exact Or.inr rfl)) pgs_nil)))) (fun _ _ _ _ _ => (pts_one (pt_cmpR op_notN (pv 7) pe_non (nomark _)))) (fun _ _ _ _ _ => (pe_tupF (pa_cons (pv 6) (pa_cons (pv 7) pa_nil))))) pa_nil)) pa_nil))))))))
    (pss_cons (ps_expr (pe_bm PySem.F.plainAttrs_list PySem.F.slot_list_extend PySem.F.type_list_extend mt_extend (pv 1) (pa_cons (pe_lst (pa_cons (pe_disp (pps_cons pe_str pe_int pps_nil) (by rfl) (by rfl) (fun z => by cases z) (by decide)) (pa_cons (pe_disp (pps_cons pe_str pe_int (pps_cons pe_str pe_int pps_nil)) (by rfl) (by rfl) (fun z => by cases z) (by decide)) (pa_cons (pe_disp (pps_cons pe_str pe_int pps_nil) (by rfl) (by rfl) (fun z => by cases z) (by decide)) (pa_cons (pe_disp (pps_cons pe_str pe_dnewK pps_nil) (by rfl) (by rfl) (fun z => by cases z) (by decide)) (pa_cons (pe_disp (pps_cons pe_str (pe_disp (pps_cons pe_str (pe_disp (pps_cons pe_str pe_int pps_nil) (by rfl) (by rfl) (fun z => by cases z) (by decide)) pps_nil) (by rfl) (by rfl) (fun z => by cases z) (by decide)) pps_nil) (by rfl) (by rfl) (fun z => by cases z) (by decide)) pa_nil)))))) pa_nil)))
    (pss_cons (ps_expr (pe_bm PySem.F.plainAttrs_list PySem.F.slot_list_extend PySem.F.type_list_extend mt_extend (pv 1) (pa_cons (pe_lst (pa_cons (pe_disp (pps_cons pe_str (pe_disp (pps_cons pe_str (pe_disp (pps_cons pe_str pe_dnewK pps_nil) (by rfl) (by rfl) (fun z => by cases z) (by decide)) pps_nil) (by rfl) (by rfl) (fun z => by cases z) (by decide)) pps_nil) (by rfl) (by rfl) (fun z => by cases z) (by decide)) pa_nil)) pa_nil)))
    (pss_cons (ps_set (i := 5) nd rfl (by first | exact Or.inl rfl | exact Or.inr rfl) (pe_callB call_sortPF (by rfl) m_sorted (by decide +kernel) (pa_cons (pe_lc (own := [("at", 8), ("one", 2)]) (by rfl) nd (pi_enumF rfl m_enumerate (pa_cons (pv 1) pa_nil)) (blkOk_by (own := [("at", 8), ("one", 2)]) (N := ["inner", "states", "one", "other", "pairs", "order", "key", "value", "at", "weight"]) (sc := defScope s__law_small) (by decide +kernel)) (fun _ _ _ _ _ => (pg_tup rfl (pgs_cons (pg_name (i := 8) nd rfl (by first | exact Or.inl rfl | exact Or.inr rfl)) (pgs_cons (pg_name (i := 2) nd rfl (by first | exact Or.inl rfl | exact Or.inr rfl)) pgs_nil)))) (fun _ _ _ _ _ => pts_nil) (fun _ _ _ _ _ => (pe_tupF (pa_cons (pe_cl c__law_size hr rfl (pa_cons (pv 2) pa_nil)) (pa_cons (pv 8) pa_nil))))) pa_nil)))
    (pss_one (ps_ret (pe_lc (own := [("weight", 9), ("at", 8)]) (by rfl) nd (pi_any (pv 5)) (blkOk_by (own := [("weight", 9), ("at", 8)]) (N := ["inner", "states", "one", "other", "pairs", "order", "key", "value", "at", "weight"]) (sc := defScope s__law_small) (by decide +kernel)) (fun _ _ _ _ _ => (pg_tup rfl (pgs_cons (pg_name (i := 9) nd rfl (by first | exact Or.inl rfl | exact Or.inr rfl)) (pgs_cons (pg_name (i := 8) nd rfl (by first | exact Or.inl rfl | exact Or.inr rfl)) pgs_nil)))) (fun _ _ _ _ _ => pts_nil) (fun _ _ _ _ _ => (pe_ix (ix_any hu) (pv 1) (pv 8) (fun _ _ => rfl))))))))))))

abbrev s__law_formed : Stmt := topS 42
theorem sc__law_formed : FnScope ["form", "state", "result", "key", "inner", "value"] ["form", "state"] (defScope s__law_formed) := ⟨rfl, rfl, rfl, by decide +kernel, rfl, by decide +kernel, by decide +kernel⟩
theorem w__law_formed {k : Nat} {sp__law_formed : Sp} (m_dict : mg "dict" = none) (m_isinstance : mg "isinstance" = none) (c__law_formed : Cl P w K mg base "_law_formed" k sp__law_formed) : ∀ (f : Addr) (cdv : Value) (A : Around) (outer : List Env) (s : Shared) (H : Hp) (E : XK), Room k (A.deeper (PyProof.Rows.envOfC "_law_formed" (defScope s__law_formed) s.heap.objs.size f cdv)) →
    PSs (cxOf CX0 P w K mg base ["form", "state", "result", "key", "inner", "value"] "_law_formed" (defScope s__law_formed) f cdv A outer s H E).nox (defBody s__law_formed) (t__law_formed K sp__law_formed) := fun f cdv A outer s H E hr => by
  have nd := sc__law_formed.nd
  have hu : (A.deeper (PyProof.Rows.envOfC "_law_formed" (defScope s__law_formed) s.heap.objs.size f cdv)).units + 1 < cLine := hu_of hr
  have h64 : (A.deeper (PyProof.Rows.envOfC "_law_formed" (defScope s__law_formed) s.heap.objs.size f cdv)).units + 64 < cLine := hr.units
  exact (pss_cons (ps_if (pt_cmpR op_isN (pv 1) pe_non (nomark _)) (pss_one (ps_ret (pe_ix (ix_any hu) (pv 0) pe_int (fun _ _ => rfl)))) pss_nil)
    (pss_cons (ps_if (pt_not (pt_val (pe_callB call_isi (by rfl) m_isinstance (by decide +kernel) (pa_cons (pv 1) (pa_cons (pe_gty rfl m_dict (by decide +kernel)) pa_nil))))) (pss_one (ps_ret (pe_ifExp (pt_cmpR (op_eqX h64) (pe_ix (ix_any hu) (pv 0) pe_int (fun _ _ => rfl)) (pe_tupF (pa_cons pe_str pa_nil)) (nomark _)) (pv 1) (pe_ix (ix_any hu) (pe_ix (ix_any hu) (pv 0) pe_int (fun _ _ => rfl)) pe_int (fun _ _ => rfl))))) pss_nil)
    (pss_cons (ps_if (pt_cmpR (op_eqX h64) (pe_ix (ix_any hu) (pe_ix (ix_any hu) (pv 0) pe_int (fun _ _ => rfl)) pe_int (fun _ _ => rfl)) pe_str (nomark _)) (pss_one (ps_ret (pe_ix (ix_any hu) (pe_ix (ix_any hu) (pv 0) pe_int (fun _ _ => rfl)) pe_int (fun _ _ => rfl)))) pss_nil)
    (pss_cons (ps_set (i := 2) nd rfl (by first | exact Or.inl rfl | exact Or.inr rfl) (pe_callTy (call_dictX rfl) (by rfl) m_dict (by decide +kernel) (pa_cons (pv 1) pa_nil)))
    (pss_cons (ps_for PassesOwn.never rfl (pi_any (pe_ix (ix_any hu) (pe_ix (ix_any hu) (pv 0) pe_int (fun _ _ => rfl)) pe_int (fun _ _ => rfl))) (pg_tup rfl (pgs_cons (pg_name (i := 3) nd rfl (by first | exact Or.inl rfl | exact Or.inr rfl)) (pgs_cons (pg_name (i := 4) nd rfl (by first | exact Or.inl rfl | exact Or.inr rfl)) pgs_nil))) (pss_cons (ps_set (i := 5) nd rfl (by first | exact Or.inl rfl | exact Or.inr rfl) (pe_cl c__law_formed hr rfl (pa_cons (pv 4) (pa_cons (pe_dget1 hu (pv 1) (pv 3) ⟨rfl, rfl, rfl, rfl⟩) pa_nil))))
    (pss_one (ps_if (pt_cmpR op_notN (pv 5) pe_non (nomark _)) (pss_one (ps_dput hu (pv 2) (pv 3) (pv 5) rfl)) (pss_one (ps_if (pt_cmpR (op_inX hu) (pv 3) (pv 2) (by rfl)) (pss_one (ps_expr (pe_dpop1 (pv 2) (pv 3) ⟨rfl, rfl, rfl, rfl⟩))) pss_nil))))))
    (pss_one (ps_ret (pv 2))))))))

abbrev s__law_is_form : Stmt := topS 43
theorem sc__law_is_form : FnScope ["form", "names", "keep", "pair"] ["form"] (defScope s__law_is_form) := ⟨rfl, rfl, rfl, by decide +kernel, rfl, by decide +kernel, by decide +kernel⟩
theorem w__law_is_form {k : Nat} {sp__law_is_form : Sp} (m_all : mg "all" = none) (m_sorted : mg "sorted" = none) (m_set : mg "set" = none) (m_len : mg "len" = none) (m_isinstance : mg "isinstance" = none) (m_tuple : mg "tuple" = none) (c__law_is_form : Cl P w K mg base "_law_is_form" k sp__law_is_form) : ∀ (f : Addr) (cdv : Value) (A : Around) (outer : List Env) (s : Shared) (H : Hp) (E : XK), Room k (A.deeper (PyProof.Rows.envOfC "_law_is_form" (defScope s__law_is_form) s.heap.objs.size f cdv)) →
    PSs (cxOf CX0 P w K mg base ["form", "names", "keep", "pair"] "_law_is_form" (defScope s__law_is_form) f cdv A outer s H E).nox (defBody s__law_is_form) (t__law_is_form K sp__law_is_form) := fun f cdv A outer s H E hr => by
  have nd := sc__law_is_form.nd
  have hu : (A.deeper (PyProof.Rows.envOfC "_law_is_form" (defScope s__law_is_form) s.heap.objs.size f cdv)).units + 1 < cLine := hu_of hr
  have h64 : (A.deeper (PyProof.Rows.envOfC "_law_is_form" (defScope s__law_is_form) s.heap.objs.size f cdv)).units + 64 < cLine := hr.units
  exact (pss_cons (ps_if (PW.pt (pw_or (pt_not (pt_val (pe_callB call_isi (by rfl) m_isinstance (by decide +kernel) (pa_cons (pv 0) (pa_cons (pe_gty rfl m_tuple (by decide +kernel)) pa_nil))))) (pw_or (pt_cmpR (op_neX h64) (pe_callB call_lenX (by rfl) m_len PySem.boot_len (pa_cons (pv 0) pa_nil)) pe_int (nomark _)) (pw_or1 (pt_cmpR (op_notInX hu) (pe_ix (ix_any hu) (pe_ix (ix_any hu) (pv 0) pe_int (fun _ _ => rfl)) pe_int (fun _ _ => rfl)) (pe_tupF (pa_cons pe_str (pa_cons pe_str pa_nil))) (by rfl)))))) (pss_one (ps_ret pe_bl)) pss_nil)
    (pss_cons (ps_if (PW.pt (pw_or (pt_cmpR (op_neX h64) (pe_callB call_lenX (by rfl) m_len PySem.boot_len (pa_cons (pe_ix (ix_any hu) (pv 0) pe_int (fun _ _ => rfl)) pa_nil)) (pe_ifExp (pt_cmpR (op_eqX h64) (pe_ix (ix_any hu) (pe_ix (ix_any hu) (pv 0) pe_int (fun _ _ => rfl)) pe_int (fun _ _ => rfl)) pe_str (nomark _)) pe_int pe_int) (nomark _)) (pw_or1 (pt_cmpR (op_neX h64) (pe_callB call_lenX (by rfl) m_len PySem.boot_len (pa_cons (pe_ix (ix_any hu) (pv 0) pe_int (fun _ _ => rfl)) pa_nil)) pe_int (nomark _))))) (pss_one (ps_ret pe_bl)) pss_nil)
    (pss_cons (ps_if (pt_cmpR (op_notInX hu) (pe_ix (ix_any hu) (pe_ix (ix_any hu) (pv 0) pe_int (fun _ _ => rfl)) pe_int (fun _ _ => rfl)) (pe_tupF (pa_cons pe_str (pa_cons pe_str pa_nil))) (by rfl)) (pss_one (ps_ret pe_bl)) pss_nil)
    (pss_cons (ps_if (pt_cmpR (op_eqX h64) (pe_ix (ix_any hu) (pe_ix (ix_any hu) (pv 0) pe_int (fun _ _ => rfl)) pe_int (fun _ _ => rfl)) pe_str (nomark _)) (pss_one (ps_ret pe_bl)) pss_nil)
    (pss_cons (ps_setLc (i := 1) (own := [("pair", 3)]) (by rfl) nd rfl rfl (sw_true rfl rfl rfl (by decide +kernel)) (pi_any (pe_ix (ix_any hu) (pe_ix (ix_any hu) (pv 0) pe_int (fun _ _ => rfl)) pe_int (fun _ _ => rfl))) (blkOk_by (own := [("pair", 3)]) (N := ["form", "names", "keep", "pair"]) (sc := defScope s__law_is_form) (by decide +kernel)) (fun _ _ _ _ _ => (pg_name (i := 3) nd rfl (by first | exact Or.inl rfl | exact Or.inr rfl))) (fun _ _ _ _ _ => pts_nil) (fun _ _ _ _ _ => (pe_ix (ix_any hu) (pv 3) pe_int (fun _ _ => rfl))))
    (pss_cons (ps_if (pt_cmpR (op_neX h64) (pv 1) (pe_sortSet rfl rfl m_sorted rfl m_set (pv 1)) (nomark _)) (pss_one (ps_ret pe_bl)) pss_nil)
    (pss_cons (ps_set (i := 2) nd rfl (by first | exact Or.inl rfl | exact Or.inr rfl) (pe_tupF (pa_cons pe_non (pa_cons (pe_tupF (pa_cons pe_str pa_nil)) (pa_cons (pe_tupF (pa_cons pe_str (pa_cons (pe_tupF pa_nil) pa_nil))) pa_nil)))))
    (pss_one (ps_ret (pe_callB (cr_all rfl) (by rfl) m_all (by decide +kernel) (pa_cons (pe_lc (own := [("pair", 3)]) (by rfl) nd (pi_any (pe_ix (ix_any hu) (pe_ix (ix_any hu) (pv 0) pe_int (fun _ _ => rfl)) pe_int (fun _ _ => rfl))) (blkOk_by (own := [("pair", 3)]) (N := ["form", "names", "keep", "pair"]) (sc := defScope s__law_is_form) (by decide +kernel)) (fun _ _ _ _ _ => (pg_name (i := 3) nd rfl (by first | exact Or.inl rfl | exact Or.inr rfl))) (fun _ _ _ _ _ => pts_nil) (fun _ _ _ _ _ => (pe_and (pe_cmpR (op_neX h64) (pe_ix (ix_any hu) (pv 3) pe_int (fun _ _ => rfl)) (pv 2) (nomark _)) (pe_one (pe_cl c__law_is_form hr rfl (pa_cons (pe_ix (ix_any hu) (pv 3) pe_int (fun _ _ => rfl)) pa_nil)))))) pa_nil)))))))))))

abbrev s_law : Stmt := topS 44
theorem sc_law : FnScope ["script", "town", "patch", "other", "form", "both", "states", "state", "once", "k"] ["script"] (defScope s_law) := ⟨rfl, rfl, rfl, by decide +kernel, rfl, by decide +kernel, by decide +kernel⟩
theorem w_law {k : Nat} {sp_normal_form sp__law_formed sp__law_run sp__law_small sp__law_state sp__law_is_form sp__law_patch : Sp} (m_range : mg "range" = none) (c_normal_form : Cl P w K mg base "normal_form" k sp_normal_form) (c__law_formed : Cl P w K mg base "_law_formed" k sp__law_formed) (c__law_run : Cl P w K mg base "_law_run" k sp__law_run) (c__law_small : Cl P w K mg base "_law_small" k sp__law_small) (c__law_state : Cl P w K mg base "_law_state" k sp__law_state) (c__law_is_form : Cl P w K mg base "_law_is_form" k sp__law_is_form) (c__law_patch : Cl P w K mg base "_law_patch" k sp__law_patch) : ∀ (f : Addr) (cdv : Value) (A : Around) (outer : List Env) (s : Shared) (H : Hp) (E : XK), Room k (A.deeper (PyProof.Rows.envOfC "law" (defScope s_law) s.heap.objs.size f cdv)) →
    PSs (cxOf CX0 P w K mg base ["script", "town", "patch", "other", "form", "both", "states", "state", "once", "k"] "law" (defScope s_law) f cdv A outer s H E).nox (defBody s_law) (t_law03 K sp_normal_form sp__law_formed sp__law_run sp__law_small sp__law_state sp__law_is_form sp__law_patch) := fun f cdv A outer s H E hr => by
  have nd := sc_law.nd
  have hu : (A.deeper (PyProof.Rows.envOfC "law" (defScope s_law) s.heap.objs.size f cdv)).units + 1 < cLine := hu_of hr
  have h64 : (A.deeper (PyProof.Rows.envOfC "law" (defScope s_law) s.heap.objs.size f cdv)).units + 64 < cLine := hr.units
  exact (pss_cons (ps_set (i := 1) nd rfl (by first | exact Or.inl rfl | exact Or.inr rfl) (pe_lst (pa_cons pe_int (pa_cons pe_int pa_nil))))
    (pss_cons (ps_par (i := 2) (j := 3) (by rfl) nd rfl rfl (by decide) rfl rfl (pa_cons (pe_cl c__law_patch hr rfl (pa_cons (pv 0) (pa_cons (pv 1) (pa_cons pe_int pa_nil)))) (pa_cons (pe_cl c__law_patch hr rfl (pa_cons (pv 0) (pa_cons (pv 1) (pa_cons pe_int pa_nil)))) pa_nil)) (by rfl))
    (pss_cons (ps_par (i := 4) (j := 5) (by rfl) nd rfl rfl (by decide) rfl rfl (pa_cons (pe_cl c_normal_form hr rfl (pa_cons (pv 2) pa_nil)) (pa_cons (pe_cl c_normal_form hr rfl (pa_cons (pe_tupF (pa_cons pe_str (pa_cons (pe_tupF (pa_cons (pv 2) (pa_cons (pv 3) pa_nil))) pa_nil))) pa_nil)) pa_nil)) (by rfl))
    (pss_cons (ps_if (PW.pt (pw_or (pt_not (pt_val (pe_cl c__law_is_form hr rfl (pa_cons (pv 4) pa_nil)))) (pw_or1 (pt_not (pt_val (pe_cl c__law_is_form hr rfl (pa_cons (pv 5) pa_nil))))))) (pss_one (ps_ret pe_bl)) pss_nil)
    (pss_cons (ps_set (i := 6) nd rfl (by first | exact Or.inl rfl | exact Or.inr rfl) (pe_op op_cat (pe_slice sl_list (pe_cl0 c__law_small hr rfl) po_none (po_some pe_int)) (pe_lc (own := [("k", 9)]) (by rfl) nd (pi_range1 rfl m_range (pa_cons pe_int pa_nil)) (blkOk_by (own := [("k", 9)]) (N := ["script", "town", "patch", "other", "form", "both", "states", "state", "once", "k"]) (sc := defScope s_law) (by decide +kernel)) (fun _ _ _ _ _ => (pg_name (i := 9) nd rfl (by first | exact Or.inl rfl | exact Or.inr rfl))) (fun _ _ _ _ _ => pts_nil) (fun _ _ _ _ _ => (pe_cl c__law_state hr rfl (pa_cons (pv 0) (pa_cons (pv 1) (pa_cons pe_int pa_nil))))))))
    (pss_cons (ps_for PassesOwn.never rfl (pi_any (pv 6)) (pg_name (i := 7) nd rfl (by first | exact Or.inl rfl | exact Or.inr rfl)) (pss_cons (ps_set (i := 8) nd rfl (by first | exact Or.inl rfl | exact Or.inr rfl) (pe_cl c__law_run hr rfl (pa_cons (pv 2) (pa_cons (pv 7) pa_nil))))
    (pss_one (ps_if (PW.pt (pw_or (pt_cmpR (op_neX h64) (pe_cl c__law_formed hr rfl (pa_cons (pv 4) (pa_cons (pv 7) pa_nil))) (pv 8) (nomark _)) (pw_or1 (pt_cmpR (op_neX h64) (pe_cl c__law_formed hr rfl (pa_cons (pv 5) (pa_cons (pv 7) pa_nil))) (pe_cl c__law_run hr rfl (pa_cons (pv 3) (pa_cons (pv 8) pa_nil))) (nomark _))))) (pss_one (ps_ret pe_bl)) pss_nil))))
    (pss_one (ps_ret (pe_cmpR (op_eqX h64) (pe_cl c_normal_form hr rfl (pa_cons (pe_tupF (pa_cons pe_str (pa_cons (pe_tupF (pa_cons (pe_tupF (pa_cons pe_str pa_nil)) (pa_cons (pv 2) (pa_cons (pe_tupF (pa_cons pe_str (pa_cons (pe_tupF pa_nil) pa_nil))) pa_nil)))) pa_nil))) pa_nil)) (pv 4) (nomark _))))))))))
end
end Mp

set_option Elab.async false
set_option linter.all false
set_option maxRecDepth 100000
set_option maxHeartbeats 4000000
namespace Mp
open PySem L2
def dD_is_text : He.DefD := ⟨("is_text", none), "is_text", "is_text", defArgs s_is_text, defBody s_is_text, defScope s_is_text, [], []⟩
def dD_is_scalar : He.DefD := ⟨("is_scalar", none), "is_scalar", "is_scalar", defArgs s_is_scalar, defBody s_is_scalar, defScope s_is_scalar, [], []⟩
def dD_is_document : He.DefD := ⟨("is_document", none), "is_document", "is_document", defArgs s_is_document, defBody s_is_document, defScope s_is_document, [], []⟩
def dD_copied : He.DefD := ⟨("copied", none), "copied", "copied", defArgs s_copied, defBody s_copied, defScope s_copied, [], []⟩
def dD_constant_form : He.DefD := ⟨("constant_form", none), "constant_form", "constant_form", defArgs s_constant_form, defBody s_constant_form, defScope s_constant_form, [], []⟩
def dD_with_entries : He.DefD := ⟨("with_entries", none), "with_entries", "with_entries", defArgs s_with_entries, defBody s_with_entries, defScope s_with_entries, [], []⟩
def dD_run : He.DefD := ⟨("run", none), "run", "run", defArgs s_run, defBody s_run, defScope s_run, [], []⟩
def dD_pairs_of : He.DefD := ⟨("pairs_of", none), "pairs_of", "pairs_of", defArgs s_pairs_of, defBody s_pairs_of, defScope s_pairs_of, [], []⟩
def dD_merge_form : He.DefD := ⟨("merge_form", none), "merge_form", "merge_form", defArgs s_merge_form, defBody s_merge_form, defScope s_merge_form, [], []⟩
def dD_inside_form : He.DefD := ⟨("inside_form", none), "inside_form", "inside_form", defArgs s_inside_form, defBody s_inside_form, defScope s_inside_form, [], []⟩
def dD_chained : He.DefD := ⟨("chained", none), "chained", "chained", defArgs s_chained, defBody s_chained, defScope s_chained, [], []⟩
def dD_are_entries : He.DefD := ⟨("are_entries", none), "are_entries", "are_entries", defArgs s_are_entries, defBody s_are_entries, defScope s_are_entries, [], []⟩
def dD_is_nested : He.DefD := ⟨("is_nested", none), "is_nested", "is_nested", defArgs s_is_nested, defBody s_is_nested, defScope s_is_nested, [], []⟩
def dD_is_patch : He.DefD := ⟨("is_patch", none), "is_patch", "is_patch", defArgs s_is_patch, defBody s_is_patch, defScope s_is_patch, [], []⟩
def dD_need_patch : He.DefD := ⟨("need_patch", none), "need_patch", "need_patch", defArgs s_need_patch, defBody s_need_patch, defScope s_need_patch, [], []⟩
def dD_form_of : He.DefD := ⟨("form_of", none), "form_of", "form_of", defArgs s_form_of, defBody s_form_of, defScope s_form_of, [], []⟩
def dD_copied_form : He.DefD := ⟨("copied_form", none), "copied_form", "copied_form", defArgs s_copied_form, defBody s_copied_form, defScope s_copied_form, [], []⟩
def dD_normal_form : He.DefD := ⟨("normal_form", none), "normal_form", "normal_form", defArgs s_normal_form, defBody s_normal_form, defScope s_normal_form, [], []⟩
def dD__law_draw : He.DefD := ⟨("_law_draw", none), "_law_draw", "_law_draw", defArgs s__law_draw, defBody s__law_draw, defScope s__law_draw, [], []⟩
def dD__law_pick : He.DefD := ⟨("_law_pick", none), "_law_pick", "_law_pick", defArgs s__law_pick, defBody s__law_pick, defScope s__law_pick, [], []⟩
def dD__law_document : He.DefD := ⟨("_law_document", none), "_law_document", "_law_document", defArgs s__law_document, defBody s__law_document, defScope s__law_document, [], []⟩
def dD__law_state : He.DefD := ⟨("_law_state", none), "_law_state", "_law_state", defArgs s__law_state, defBody s__law_state, defScope s__law_state, [], []⟩
def dD__law_patch : He.DefD := ⟨("_law_patch", none), "_law_patch", "_law_patch", defArgs s__law_patch, defBody s__law_patch, defScope s__law_patch, [], []⟩
def dD__law_run : He.DefD := ⟨("_law_run", none), "_law_run", "_law_run", defArgs s__law_run, defBody s__law_run, defScope s__law_run, [], []⟩
def dD__law_size : He.DefD := ⟨("_law_size", none), "_law_size", "_law_size", defArgs s__law_size, defBody s__law_size, defScope s__law_size, [], []⟩
def dD__law_value : He.DefD := ⟨("_law_value", none), "_law_value", "_law_value", defArgs s__law_value, defBody s__law_value, defScope s__law_value, [], []⟩
def dD__law_small : He.DefD := ⟨("_law_small", none), "_law_small", "_law_small", defArgs s__law_small, defBody s__law_small, defScope s__law_small, [], []⟩
def dD__law_formed : He.DefD := ⟨("_law_formed", none), "_law_formed", "_law_formed", defArgs s__law_formed, defBody s__law_formed, defScope s__law_formed, [], []⟩
def dD__law_is_form : He.DefD := ⟨("_law_is_form", none), "_law_is_form", "_law_is_form", defArgs s__law_is_form, defBody s__law_is_form, defScope s__law_is_form, [], []⟩
def dD_law : He.DefD := ⟨("law", none), "law", "law", defArgs s_law, defBody s_law, defScope s_law, [], []⟩
def fnL : List He.DefD := ([dD_is_text, dD_is_scalar, dD_is_document, dD_copied, dD_constant_form, dD_with_entries, dD_run, dD_pairs_of, dD_merge_form, dD_inside_form, dD_chained, dD_are_entries, dD_is_nested, dD_is_patch, dD_need_patch, dD_form_of, dD_copied_form, dD_normal_form, dD__law_draw, dD__law_pick, dD__law_document, dD__law_state, dD__law_patch, dD__law_run, dD__law_size, dD__law_value, dD__law_small, dD__law_formed, dD__law_is_form, dD_law] : List He.DefD)
def faL : List He.Fa := ([.glo "is_text", .glo "is_scalar", .glo "is_document", .glo "copied", .glo "constant_form", .glo "with_entries", .glo "run", .glo "pairs_of", .glo "merge_form", .glo "inside_form", .glo "chained", .glo "are_entries", .glo "is_nested", .glo "is_patch", .glo "need_patch", .glo "form_of", .glo "copied_form", .glo "normal_form", .glo "_law_draw", .glo "_law_pick", .glo "_law_document", .glo "_law_state", .glo "_law_patch", .glo "_law_run", .glo "_law_size", .glo "_law_value", .glo "_law_small", .glo "_law_formed", .glo "_law_is_form", .glo "law"] : List He.Fa) ++ ([.free "isinstance", .free "str", .free "len", .free "all", .free "int", .free "bool", .free "dict", .free "tuple", .free "sorted", .free "list", .free "range", .free "sum", .free "enumerate", .free "set", .int "LONGEST" 6, .str "LETTERS" "abcdefghijklmnopqrstuvwxyz", .int "LARGEST" 999, .int "ENTRIES" 6, .glo "KEEP", .int "CHAIN" 6, .int "DEPTH" 5, .int "NESTED" 6] : List He.Fa)
def tsL : List (Str × D) := [("KEEP", Fm.keep.toD)]
def loL : List Str := (["__name__", "PatchError", "InvalidPatch", "LETTERS", "LARGEST", "LONGEST", "ENTRIES", "DEPTH", "is_text", "is_scalar", "is_document", "copied", "KEEP", "constant_form", "with_entries", "run", "pairs_of", "merge_form", "inside_form", "chained", "copied_form", "NESTED", "CHAIN", "are_entries", "is_nested", "is_patch", "need_patch", "form_of", "normal_form", "_law_draw"] : List Str) ++ (["_law_pick", "_law_document", "_law_state", "_law_patch", "_law_run", "_law_size", "_law_value", "_law_small", "_law_formed", "_law_is_form"] : List Str)
abbrev rowL : PySem.W.OpenRow := PySem.W.OpenLaw.row PySem.Challenge.rw_mergepatch_k03_whole_normal_form
abbrev hkL : PySem.W.Hook := hookM 5 faL fnL tsL
def obL (s : PySem.W.SharedT) : AlM := obsMG 5 faL fnL tsL (HandSHeadRun.getT s)
theorem ob_eqL (s : PySem.W.SharedT) : obL s = hkL.obs s.abs := obsMG_eq (HandSHeadRun.getT_eq s)
theorem runL (w : World) : HandSHeadRun.RunEq rowL (PySem.W.view rowL.prog [44]) hkL obL 6000 loL w := by
  intro os
  kernel_rfl
end Mp

set_option Elab.async false
set_option linter.all false
set_option maxRecDepth 100000
set_option maxHeartbeats 4000000
namespace Mp
open PySem L2
theorem factsL {P : Program} {w : World} {K : PySem.W.Frag} {h : Heap} {mg : Str → Option Value} {f : Addr} (X : K.In h) (G : h.Ns mainGlobals mg) (hfa : mg ("law" : Str) = some (.ref f)) (c : SaysM faL fnL tsL K) :
    ∃ fd : FuncData, (∀ (s : Shared) (v : Value), BindsTo s fd ⟨[v], []⟩ [("script", v)]) ∧ ∀ base : Heap, K.In base → base.Ns mainGlobals mg → FnOk P w K mg base CX0 90 f fd ["script"] (spLaw K) := by
  have cs := c.says
  obtain ⟨fd_is_text, F_is_text⟩ := cs.def_ 0 (d := dD_is_text) rfl
  replace F_is_text : FnP K "is_text" s_is_text (He.ga K "is_text") fd_is_text := F_is_text
  have g_is_text : mg "is_text" = some (.ref (He.ga K "is_text")) := He.glo_ok X G (cs.fact 0 (f := .glo "is_text") rfl)
  have b_is_text : Binds K fd_is_text ["value", "least"] [] := FunD.bindsN F_is_text fun _ _ _ _ _ _ us hl => match us, hl with | [_, _], _ => rfl
  obtain ⟨fd_is_scalar, F_is_scalar⟩ := cs.def_ 1 (d := dD_is_scalar) rfl
  replace F_is_scalar : FnP K "is_scalar" s_is_scalar (He.ga K "is_scalar") fd_is_scalar := F_is_scalar
  have g_is_scalar : mg "is_scalar" = some (.ref (He.ga K "is_scalar")) := He.glo_ok X G (cs.fact 1 (f := .glo "is_scalar") rfl)
  have b_is_scalar : Binds K fd_is_scalar ["value"] [] := FunD.bindsN F_is_scalar fun _ _ _ _ _ _ us hl => match us, hl with | [_], _ => rfl
  obtain ⟨fd_is_document, F_is_document⟩ := cs.def_ 2 (d := dD_is_document) rfl
  replace F_is_document : FnP K "is_document" s_is_document (He.ga K "is_document") fd_is_document := F_is_document
  have g_is_document : mg "is_document" = some (.ref (He.ga K "is_document")) := He.glo_ok X G (cs.fact 2 (f := .glo "is_document") rfl)
  have b_is_document : Binds K fd_is_document ["value", "depth"] [] := FunD.bindsN F_is_document fun _ _ _ _ _ _ us hl => match us, hl with | [_, _], _ => rfl
  obtain ⟨fd_copied, F_copied⟩ := cs.def_ 3 (d := dD_copied) rfl
  replace F_copied : FnP K "copied" s_copied (He.ga K "copied") fd_copied := F_copied
  have g_copied : mg "copied" = some (.ref (He.ga K "copied")) := He.glo_ok X G (cs.fact 3 (f := .glo "copied") rfl)
  have b_copied : Binds K fd_copied ["state"] [] := FunD.bindsN F_copied fun _ _ _ _ _ _ us hl => match us, hl with | [_], _ => rfl
  obtain ⟨fd_constant_form, F_constant_form⟩ := cs.def_ 4 (d := dD_constant_form) rfl
  replace F_constant_form : FnP K "constant_form" s_constant_form (He.ga K "constant_form") fd_constant_form := F_constant_form
  have g_constant_form : mg "constant_form" = some (.ref (He.ga K "constant_form")) := He.glo_ok X G (cs.fact 4 (f := .glo "constant_form") rfl)
  have b_constant_form : Binds K fd_constant_form ["state"] [] := FunD.bindsN F_constant_form fun _ _ _ _ _ _ us hl => match us, hl with | [_], _ => rfl
  obtain ⟨fd_with_entries, F_with_entries⟩ := cs.def_ 5 (d := dD_with_entries) rfl
  replace F_with_entries : FnP K "with_entries" s_with_entries (He.ga K "with_entries") fd_with_entries := F_with_entries
  have g_with_entries : mg "with_entries" = some (.ref (He.ga K "with_entries")) := He.glo_ok X G (cs.fact 5 (f := .glo "with_entries") rfl)
  have b_with_entries : Binds K fd_with_entries ["state", "pairs"] [] := FunD.bindsN F_with_entries fun _ _ _ _ _ _ us hl => match us, hl with | [_, _], _ => rfl
  obtain ⟨fd_run, F_run⟩ := cs.def_ 6 (d := dD_run) rfl
  replace F_run : FnP K "run" s_run (He.ga K "run") fd_run := F_run
  have g_run : mg "run" = some (.ref (He.ga K "run")) := He.glo_ok X G (cs.fact 6 (f := .glo "run") rfl)
  have b_run : Binds K fd_run ["form", "state"] [] := FunD.bindsN F_run fun _ _ _ _ _ _ us hl => match us, hl with | [_, _], _ => rfl
  obtain ⟨fd_pairs_of, F_pairs_of⟩ := cs.def_ 7 (d := dD_pairs_of) rfl
  replace F_pairs_of : FnP K "pairs_of" s_pairs_of (He.ga K "pairs_of") fd_pairs_of := F_pairs_of
  have g_pairs_of : mg "pairs_of" = some (.ref (He.ga K "pairs_of")) := He.glo_ok X G (cs.fact 7 (f := .glo "pairs_of") rfl)
  have b_pairs_of : Binds K fd_pairs_of ["forms"] [] := FunD.bindsN F_pairs_of fun _ _ _ _ _ _ us hl => match us, hl with | [_], _ => rfl
  obtain ⟨fd_merge_form, F_merge_form⟩ := cs.def_ 8 (d := dD_merge_form) rfl
  replace F_merge_form : FnP K "merge_form" s_merge_form (He.ga K "merge_form") fd_merge_form := F_merge_form
  have g_merge_form : mg "merge_form" = some (.ref (He.ga K "merge_form")) := He.glo_ok X G (cs.fact 8 (f := .glo "merge_form") rfl)
  have b_merge_form : Binds K fd_merge_form ["pairs"] [] := FunD.bindsN F_merge_form fun _ _ _ _ _ _ us hl => match us, hl with | [_], _ => rfl
  obtain ⟨fd_inside_form, F_inside_form⟩ := cs.def_ 9 (d := dD_inside_form) rfl
  replace F_inside_form : FnP K "inside_form" s_inside_form (He.ga K "inside_form") fd_inside_form := F_inside_form
  have g_inside_form : mg "inside_form" = some (.ref (He.ga K "inside_form")) := He.glo_ok X G (cs.fact 9 (f := .glo "inside_form") rfl)
  have b_inside_form : Binds K fd_inside_form ["pairs"] [] := FunD.bindsN F_inside_form fun _ _ _ _ _ _ us hl => match us, hl with | [_], _ => rfl
  obtain ⟨fd_chained, F_chained⟩ := cs.def_ 10 (d := dD_chained) rfl
  replace F_chained : FnP K "chained" s_chained (He.ga K "chained") fd_chained := F_chained
  have g_chained : mg "chained" = some (.ref (He.ga K "chained")) := He.glo_ok X G (cs.fact 10 (f := .glo "chained") rfl)
  have b_chained : Binds K fd_chained ["first", "second"] [] := FunD.bindsN F_chained fun _ _ _ _ _ _ us hl => match us, hl with | [_, _], _ => rfl
  obtain ⟨fd_are_entries, F_are_entries⟩ := cs.def_ 11 (d := dD_are_entries) rfl
  replace F_are_entries : FnP K "are_entries" s_are_entries (He.ga K "are_entries") fd_are_entries := F_are_entries
  have g_are_entries : mg "are_entries" = some (.ref (He.ga K "are_entries")) := He.glo_ok X G (cs.fact 11 (f := .glo "are_entries") rfl)
  have b_are_entries : Binds K fd_are_entries ["value", "depth"] [] := FunD.bindsN F_are_entries fun _ _ _ _ _ _ us hl => match us, hl with | [_, _], _ => rfl
  obtain ⟨fd_is_nested, F_is_nested⟩ := cs.def_ 12 (d := dD_is_nested) rfl
  replace F_is_nested : FnP K "is_nested" s_is_nested (He.ga K "is_nested") fd_is_nested := F_is_nested
  have g_is_nested : mg "is_nested" = some (.ref (He.ga K "is_nested")) := He.glo_ok X G (cs.fact 12 (f := .glo "is_nested") rfl)
  have b_is_nested : Binds K fd_is_nested ["value", "depth"] [] := FunD.bindsN F_is_nested fun _ _ _ _ _ _ us hl => match us, hl with | [_, _], _ => rfl
  obtain ⟨fd_is_patch, F_is_patch⟩ := cs.def_ 13 (d := dD_is_patch) rfl
  replace F_is_patch : FnP K "is_patch" s_is_patch (He.ga K "is_patch") fd_is_patch := F_is_patch
  have g_is_patch : mg "is_patch" = some (.ref (He.ga K "is_patch")) := He.glo_ok X G (cs.fact 13 (f := .glo "is_patch") rfl)
  have b_is_patch : Binds K fd_is_patch ["value"] [] := FunD.bindsN F_is_patch fun _ _ _ _ _ _ us hl => match us, hl with | [_], _ => rfl
  obtain ⟨fd_need_patch, F_need_patch⟩ := cs.def_ 14 (d := dD_need_patch) rfl
  replace F_need_patch : FnP K "need_patch" s_need_patch (He.ga K "need_patch") fd_need_patch := F_need_patch
  have g_need_patch : mg "need_patch" = some (.ref (He.ga K "need_patch")) := He.glo_ok X G (cs.fact 14 (f := .glo "need_patch") rfl)
  have b_need_patch : Binds K fd_need_patch ["value"] [] := FunD.bindsN F_need_patch fun _ _ _ _ _ _ us hl => match us, hl with | [_], _ => rfl
  obtain ⟨fd_form_of, F_form_of⟩ := cs.def_ 15 (d := dD_form_of) rfl
  replace F_form_of : FnP K "form_of" s_form_of (He.ga K "form_of") fd_form_of := F_form_of
  have g_form_of : mg "form_of" = some (.ref (He.ga K "form_of")) := He.glo_ok X G (cs.fact 15 (f := .glo "form_of") rfl)
  have b_form_of : Binds K fd_form_of ["patch"] [] := FunD.bindsN F_form_of fun _ _ _ _ _ _ us hl => match us, hl with | [_], _ => rfl
  obtain ⟨fd_copied_form, F_copied_form⟩ := cs.def_ 16 (d := dD_copied_form) rfl
  replace F_copied_form : FnP K "copied_form" s_copied_form (He.ga K "copied_form") fd_copied_form := F_copied_form
  have g_copied_form : mg "copied_form" = some (.ref (He.ga K "copied_form")) := He.glo_ok X G (cs.fact 16 (f := .glo "copied_form") rfl)
  have b_copied_form : Binds K fd_copied_form ["form"] [] := FunD.bindsN F_copied_form fun _ _ _ _ _ _ us hl => match us, hl with | [_], _ => rfl
  obtain ⟨fd_normal_form, F_normal_form⟩ := cs.def_ 17 (d := dD_normal_form) rfl
  replace F_normal_form : FnP K "normal_form" s_normal_form (He.ga K "normal_form") fd_normal_form := F_normal_form
  have g_normal_form : mg "normal_form" = some (.ref (He.ga K "normal_form")) := He.glo_ok X G (cs.fact 17 (f := .glo "normal_form") rfl)
  have b_normal_form : Binds K fd_normal_form ["patch"] [] := FunD.bindsN F_normal_form fun _ _ _ _ _ _ us hl => match us, hl with | [_], _ => rfl
  obtain ⟨fd__law_draw, F__law_draw⟩ := cs.def_ 18 (d := dD__law_draw) rfl
  replace F__law_draw : FnP K "_law_draw" s__law_draw (He.ga K "_law_draw") fd__law_draw := F__law_draw
  have g__law_draw : mg "_law_draw" = some (.ref (He.ga K "_law_draw")) := He.glo_ok X G (cs.fact 18 (f := .glo "_law_draw") rfl)
  have b__law_draw : Binds K fd__law_draw ["script", "town", "many"] [] := FunD.bindsN F__law_draw fun _ _ _ _ _ _ us hl => match us, hl with | [_, _, _], _ => rfl
  obtain ⟨fd__law_pick, F__law_pick⟩ := cs.def_ 19 (d := dD__law_pick) rfl
  replace F__law_pick : FnP K "_law_pick" s__law_pick (He.ga K "_law_pick") fd__law_pick := F__law_pick
  have g__law_pick : mg "_law_pick" = some (.ref (He.ga K "_law_pick")) := He.glo_ok X G (cs.fact 19 (f := .glo "_law_pick") rfl)
  have b__law_pick : Binds K fd__law_pick ["script", "town", "some"] [] := FunD.bindsN F__law_pick fun _ _ _ _ _ _ us hl => match us, hl with | [_, _, _], _ => rfl
  obtain ⟨fd__law_document, F__law_document⟩ := cs.def_ 20 (d := dD__law_document) rfl
  replace F__law_document : FnP K "_law_document" s__law_document (He.ga K "_law_document") fd__law_document := F__law_document
  have g__law_document : mg "_law_document" = some (.ref (He.ga K "_law_document")) := He.glo_ok X G (cs.fact 20 (f := .glo "_law_document") rfl)
  have b__law_document : Binds K fd__law_document ["script", "town", "depth"] [] := FunD.bindsN F__law_document fun _ _ _ _ _ _ us hl => match us, hl with | [_, _, _], _ => rfl
  obtain ⟨fd__law_state, F__law_state⟩ := cs.def_ 21 (d := dD__law_state) rfl
  replace F__law_state : FnP K "_law_state" s__law_state (He.ga K "_law_state") fd__law_state := F__law_state
  have g__law_state : mg "_law_state" = some (.ref (He.ga K "_law_state")) := He.glo_ok X G (cs.fact 21 (f := .glo "_law_state") rfl)
  have b__law_state : Binds K fd__law_state ["script", "town", "depth"] [] := FunD.bindsN F__law_state fun _ _ _ _ _ _ us hl => match us, hl with | [_, _, _], _ => rfl
  obtain ⟨fd__law_patch, F__law_patch⟩ := cs.def_ 22 (d := dD__law_patch) rfl
  replace F__law_patch : FnP K "_law_patch" s__law_patch (He.ga K "_law_patch") fd__law_patch := F__law_patch
  have g__law_patch : mg "_law_patch" = some (.ref (He.ga K "_law_patch")) := He.glo_ok X G (cs.fact 22 (f := .glo "_law_patch") rfl)
  have b__law_patch : Binds K fd__law_patch ["script", "town", "depth"] [] := FunD.bindsN F__law_patch fun _ _ _ _ _ _ us hl => match us, hl with | [_, _, _], _ => rfl
  obtain ⟨fd__law_run, F__law_run⟩ := cs.def_ 23 (d := dD__law_run) rfl
  replace F__law_run : FnP K "_law_run" s__law_run (He.ga K "_law_run") fd__law_run := F__law_run
  have g__law_run : mg "_law_run" = some (.ref (He.ga K "_law_run")) := He.glo_ok X G (cs.fact 23 (f := .glo "_law_run") rfl)
  have b__law_run : Binds K fd__law_run ["patch", "state"] [] := FunD.bindsN F__law_run fun _ _ _ _ _ _ us hl => match us, hl with | [_, _], _ => rfl
  obtain ⟨fd__law_size, F__law_size⟩ := cs.def_ 24 (d := dD__law_size) rfl
  replace F__law_size : FnP K "_law_size" s__law_size (He.ga K "_law_size") fd__law_size := F__law_size
  have g__law_size : mg "_law_size" = some (.ref (He.ga K "_law_size")) := He.glo_ok X G (cs.fact 24 (f := .glo "_law_size") rfl)
  have b__law_size : Binds K fd__law_size ["state"] [] := FunD.bindsN F__law_size fun _ _ _ _ _ _ us hl => match us, hl with | [_], _ => rfl
  obtain ⟨fd__law_value, F__law_value⟩ := cs.def_ 25 (d := dD__law_value) rfl
  replace F__law_value : FnP K "_law_value" s__law_value (He.ga K "_law_value") fd__law_value := F__law_value
  have g__law_value : mg "_law_value" = some (.ref (He.ga K "_law_value")) := He.glo_ok X G (cs.fact 25 (f := .glo "_law_value") rfl)
  have b__law_value : Binds K fd__law_value ["state", "path"] [] := FunD.bindsN F__law_value fun _ _ _ _ _ _ us hl => match us, hl with | [_, _], _ => rfl
  obtain ⟨fd__law_small, F__law_small⟩ := cs.def_ 26 (d := dD__law_small) rfl
  replace F__law_small : FnP K "_law_small" s__law_small (He.ga K "_law_small") fd__law_small := F__law_small
  have g__law_small : mg "_law_small" = some (.ref (He.ga K "_law_small")) := He.glo_ok X G (cs.fact 26 (f := .glo "_law_small") rfl)
  have b__law_small : Binds K fd__law_small [] [] := FunD.bindsN F__law_small fun _ _ _ _ _ _ us hl => match us, hl with | [], _ => rfl
  obtain ⟨fd__law_formed, F__law_formed⟩ := cs.def_ 27 (d := dD__law_formed) rfl
  replace F__law_formed : FnP K "_law_formed" s__law_formed (He.ga K "_law_formed") fd__law_formed := F__law_formed
  have g__law_formed : mg "_law_formed" = some (.ref (He.ga K "_law_formed")) := He.glo_ok X G (cs.fact 27 (f := .glo "_law_formed") rfl)
  have b__law_formed : Binds K fd__law_formed ["form", "state"] [] := FunD.bindsN F__law_formed fun _ _ _ _ _ _ us hl => match us, hl with | [_, _], _ => rfl
  obtain ⟨fd__law_is_form, F__law_is_form⟩ := cs.def_ 28 (d := dD__law_is_form) rfl
  replace F__law_is_form : FnP K "_law_is_form" s__law_is_form (He.ga K "_law_is_form") fd__law_is_form := F__law_is_form
  have g__law_is_form : mg "_law_is_form" = some (.ref (He.ga K "_law_is_form")) := He.glo_ok X G (cs.fact 28 (f := .glo "_law_is_form") rfl)
  have b__law_is_form : Binds K fd__law_is_form ["form"] [] := FunD.bindsN F__law_is_form fun _ _ _ _ _ _ us hl => match us, hl with | [_], _ => rfl
  obtain ⟨fd_law, F_law⟩ := cs.def_ 29 (d := dD_law) rfl
  replace F_law : FnP K "law" s_law (He.ga K "law") fd_law := F_law
  have g_law : mg "law" = some (.ref (He.ga K "law")) := He.glo_ok X G (cs.fact 29 (f := .glo "law") rfl)
  have m_isinstance : mg "isinstance" = none := He.free_ok X G (cs.fact 30 (f := .free "isinstance") rfl)
  have m_str : mg "str" = none := He.free_ok X G (cs.fact 31 (f := .free "str") rfl)
  have m_len : mg "len" = none := He.free_ok X G (cs.fact 32 (f := .free "len") rfl)
  have m_all : mg "all" = none := He.free_ok X G (cs.fact 33 (f := .free "all") rfl)
  have m_int : mg "int" = none := He.free_ok X G (cs.fact 34 (f := .free "int") rfl)
  have m_bool : mg "bool" = none := He.free_ok X G (cs.fact 35 (f := .free "bool") rfl)
  have m_dict : mg "dict" = none := He.free_ok X G (cs.fact 36 (f := .free "dict") rfl)
  have m_tuple : mg "tuple" = none := He.free_ok X G (cs.fact 37 (f := .free "tuple") rfl)
  have m_sorted : mg "sorted" = none := He.free_ok X G (cs.fact 38 (f := .free "sorted") rfl)
  have m_list : mg "list" = none := He.free_ok X G (cs.fact 39 (f := .free "list") rfl)
  have m_range : mg "range" = none := He.free_ok X G (cs.fact 40 (f := .free "range") rfl)
  have m_sum : mg "sum" = none := He.free_ok X G (cs.fact 41 (f := .free "sum") rfl)
  have m_enumerate : mg "enumerate" = none := He.free_ok X G (cs.fact 42 (f := .free "enumerate") rfl)
  have m_set : mg "set" = none := He.free_ok X G (cs.fact 43 (f := .free "set") rfl)
  have g_LONGEST := He.int_ok X G (cs.fact 44 (f := .int "LONGEST" 6) rfl)
  have g_LETTERS := He.str_ok X G (cs.fact 45 (f := .str "LETTERS" "abcdefghijklmnopqrstuvwxyz") rfl)
  have g_LARGEST := He.int_ok X G (cs.fact 46 (f := .int "LARGEST" 999) rfl)
  have g_ENTRIES := He.int_ok X G (cs.fact 47 (f := .int "ENTRIES" 6) rfl)
  have g_KEEP : mg "KEEP" = some (.ref (He.ga K "KEEP")) := He.glo_ok X G (cs.fact 48 (f := .glo "KEEP") rfl)
  have g_CHAIN := He.int_ok X G (cs.fact 49 (f := .int "CHAIN" 6) rfl)
  have g_DEPTH := He.int_ok X G (cs.fact 50 (f := .int "DEPTH" 5) rfl)
  have g_NESTED := He.int_ok X G (cs.fact 51 (f := .int "NESTED" 6) rfl)
  have hK : ∀ G, Has K G Fm.keep.toD (.ref (He.ga K "KEEP")) := fun G => c.dat (x := "KEEP") (by unfold tsL; simp) G
  have e := hfa.symm.trans g_law
  cases e
  have bA := FunD.bindsA (ps := ["script"]) F_law fun _ _ _ _ _ _ us hl => match us, hl with | [_], _ => rfl
  refine ⟨fd_law, fun s v => bA s [v] rfl, fun base _ _ => ?_⟩
  have hA := alp_abqA
  have hL := lab_q
  have c_is_text : Cl P w K mg base "is_text" 1 (SpP K R_is_text) := ⟨⟨_, _, _, FnP.pure F_is_text sc_is_text (fun ds d h => by first | (obtain ⟨_, rfl, _⟩ := h; rfl) | (obtain ⟨_, _, rfl, _⟩ := h; rfl) | (obtain ⟨_, _, _, rfl, _⟩ := h; rfl) | (obtain ⟨_, _, _, _, rfl, _⟩ := h; rfl) | (obtain ⟨_, _, _, _, _, rfl, _⟩ := h; rfl) | (obtain ⟨_, _, _, _, _, _, rfl, _⟩ := h; rfl) | (obtain ⟨rfl, _⟩ := h; rfl)) p_is_text (fun cdv A outer s H E hr => w_is_text (k := 0) g_LONGEST g_LETTERS m_isinstance m_str m_len m_all _ cdv A outer s H E hr), b_is_text, F_is_text.kp, g_is_text⟩⟩
  have c_is_scalar : Cl P w K mg base "is_scalar" 2 (SpP K R_is_scalar) := ⟨⟨_, _, _, FnP.pure F_is_scalar sc_is_scalar (fun ds d h => by first | (obtain ⟨_, rfl, _⟩ := h; rfl) | (obtain ⟨_, _, rfl, _⟩ := h; rfl) | (obtain ⟨_, _, _, rfl, _⟩ := h; rfl) | (obtain ⟨_, _, _, _, rfl, _⟩ := h; rfl) | (obtain ⟨_, _, _, _, _, rfl, _⟩ := h; rfl) | (obtain ⟨_, _, _, _, _, _, rfl, _⟩ := h; rfl) | (obtain ⟨rfl, _⟩ := h; rfl)) p_is_scalar (fun cdv A outer s H E hr => w_is_scalar (k := 1) g_LARGEST m_isinstance m_int m_bool (c_is_text) _ cdv A outer s H E hr), b_is_scalar, F_is_scalar.kp, g_is_scalar⟩⟩
  have c_is_document : ∀ n, Cl P w K mg base "is_document" (2 + n) (SpP K (R_is_document n)) := fun n => by
    induction n with
    | zero => exact Cl.none (sp' := fun _ _ _ _ => False) (k' := 0) ⟨_, _, _, b_is_document, F_is_document.kp, g_is_document⟩ (fun vs H Q E ⟨_, _, _, _, _, r, _⟩ => r)
    | succ n ih => exact ⟨⟨_, _, _, FnP.pure F_is_document sc_is_document (fun ds d h => by first | (obtain ⟨_, rfl, _⟩ := h; rfl) | (obtain ⟨_, _, rfl, _⟩ := h; rfl) | (obtain ⟨_, _, _, rfl, _⟩ := h; rfl) | (obtain ⟨_, _, _, _, rfl, _⟩ := h; rfl) | (obtain ⟨_, _, _, _, _, rfl, _⟩ := h; rfl) | (obtain ⟨_, _, _, _, _, _, rfl, _⟩ := h; rfl) | (obtain ⟨rfl, _⟩ := h; rfl)) (p_is_document n) (fun cdv A outer s H E hr => w_is_document g_ENTRIES m_all m_len m_isinstance m_dict (ih) (c_is_text.mono (by omega)) (c_is_scalar.mono (by omega)) _ cdv A outer s H E hr), b_is_document, F_is_document.kp, g_is_document⟩⟩
  have c_copied : ∀ n, Cl P w K mg base "copied" (0 + n) (SpP K ((R_copied abqA) n)) := fun n => by
    induction n with
    | zero => exact Cl.none (sp' := fun _ _ _ _ => False) (k' := 0) ⟨_, _, _, b_copied, F_copied.kp, g_copied⟩ (fun vs H Q E ⟨_, _, _, _, _, r, _⟩ => r)
    | succ n ih => exact ⟨⟨_, _, _, FnP.pure F_copied sc_copied (fun ds d h => by first | (obtain ⟨_, rfl, _⟩ := h; rfl) | (obtain ⟨_, _, rfl, _⟩ := h; rfl) | (obtain ⟨_, _, _, rfl, _⟩ := h; rfl) | (obtain ⟨_, _, _, _, rfl, _⟩ := h; rfl) | (obtain ⟨_, _, _, _, _, rfl, _⟩ := h; rfl) | (obtain ⟨_, _, _, _, _, _, rfl, _⟩ := h; rfl) | (obtain ⟨rfl, _⟩ := h; rfl)) (p_copied hA n) (fun cdv A outer s H E hr => w_copied m_isinstance m_dict (ih) _ cdv A outer s H E hr), b_copied, F_copied.kp, g_copied⟩⟩
  have c_constant_form : Cl P w K mg base "constant_form" 1 (SpP K R_constant_form) := ⟨⟨_, _, _, FnP.pure F_constant_form sc_constant_form (fun ds d h => by first | (obtain ⟨_, rfl, _⟩ := h; rfl) | (obtain ⟨_, _, rfl, _⟩ := h; rfl) | (obtain ⟨_, _, _, rfl, _⟩ := h; rfl) | (obtain ⟨_, _, _, _, rfl, _⟩ := h; rfl) | (obtain ⟨_, _, _, _, _, rfl, _⟩ := h; rfl) | (obtain ⟨_, _, _, _, _, _, rfl, _⟩ := h; rfl) | (obtain ⟨rfl, _⟩ := h; rfl)) p_constant_form (fun cdv A outer s H E hr => w_constant_form (k := 0)  _ cdv A outer s H E hr), b_constant_form, F_constant_form.kp, g_constant_form⟩⟩
  have c_wr : ∀ n, n ≤ 40 → Cl P w K mg base "with_entries" (2 * n) (SpP K (R_with abqA n)) ∧ Cl P w K mg base "run" (2 * n + 1) (SpP K (R_run abqA (n + 1))) := fun n => by
    have run : ∀ n, n ≤ 40 → Cl P w K mg base "with_entries" (2 * n) (SpP K (R_with abqA n)) → Cl P w K mg base "run" (2 * n + 1) (SpP K (R_run abqA (n + 1))) := fun n hn ih => ⟨⟨_, _, _, FnP.pure F_run sc_run (fun ds d h => by first | (obtain ⟨_, rfl, _⟩ := h; rfl) | (obtain ⟨_, _, rfl, _⟩ := h; rfl) | (obtain ⟨_, _, _, rfl, _⟩ := h; rfl) | (obtain ⟨_, _, _, _, rfl, _⟩ := h; rfl) | (obtain ⟨_, _, _, _, _, rfl, _⟩ := h; rfl) | (obtain ⟨_, _, _, _, _, _, rfl, _⟩ := h; rfl) | (obtain ⟨rfl, _⟩ := h; rfl)) (p_run hA n hn) (fun cdv A outer s H E hr => w_run m_isinstance m_dict (ih) _ cdv A outer s H E hr), b_run, F_run.kp, g_run⟩⟩
    induction n with
    | zero => intro _; have z : Cl P w K mg base "with_entries" (2 * 0) (SpP K (R_with abqA 0)) := Cl.none (sp' := fun _ _ _ _ => False) (k' := 0) ⟨_, _, _, b_with_entries, F_with_entries.kp, g_with_entries⟩ (fun vs H Q E ⟨_, _, _, _, _, r, _⟩ => r); exact ⟨z, run 0 (by omega) z⟩
    | succ n ih =>
      intro hn
      have ih := (ih (by omega)).2
      have z : Cl P w K mg base "with_entries" (2 * (n + 1)) (SpP K (R_with abqA (n + 1))) := ⟨⟨_, _, _, FnP.pure (k := 2 * n + 1) F_with_entries sc_with_entries (fun ds d h => by first | (obtain ⟨_, rfl, _⟩ := h; rfl) | (obtain ⟨_, _, rfl, _⟩ := h; rfl) | (obtain ⟨_, _, _, rfl, _⟩ := h; rfl) | (obtain ⟨_, _, _, _, rfl, _⟩ := h; rfl) | (obtain ⟨_, _, _, _, _, rfl, _⟩ := h; rfl) | (obtain ⟨_, _, _, _, _, _, rfl, _⟩ := h; rfl) | (obtain ⟨rfl, _⟩ := h; rfl)) (p_with_entries hA n) (fun cdv A outer s H E hr => w_with_entries (ih) _ cdv A outer s H E hr), b_with_entries, F_with_entries.kp, g_with_entries⟩⟩
      exact ⟨z, run (n + 1) hn z⟩
  have c_pairs_of : ∀ (n : Nat) (hn : n ≤ 11), Cl P w K mg base "pairs_of" 1 (SpP K (R_pairs_of abqA n)) := fun n hn => ⟨⟨_, _, _, FnP.pure F_pairs_of sc_pairs_of (fun ds d h => by first | (obtain ⟨_, rfl, _⟩ := h; rfl) | (obtain ⟨_, _, rfl, _⟩ := h; rfl) | (obtain ⟨_, _, _, rfl, _⟩ := h; rfl) | (obtain ⟨_, _, _, _, rfl, _⟩ := h; rfl) | (obtain ⟨_, _, _, _, _, rfl, _⟩ := h; rfl) | (obtain ⟨_, _, _, _, _, _, rfl, _⟩ := h; rfl) | (obtain ⟨rfl, _⟩ := h; rfl)) (p_pairs_of hA hK n hn) (fun cdv A outer s H E hr => w_pairs_of (k := 0) g_KEEP m_tuple m_sorted _ cdv A outer s H E hr), b_pairs_of, F_pairs_of.kp, g_pairs_of⟩⟩
  have c_merge_form : Cl P w K mg base "merge_form" 23 (SpP K (R_merge_form abqA 10)) := ⟨⟨_, _, _, FnP.pure F_merge_form sc_merge_form (fun ds d h => by first | (obtain ⟨_, rfl, _⟩ := h; rfl) | (obtain ⟨_, _, rfl, _⟩ := h; rfl) | (obtain ⟨_, _, _, rfl, _⟩ := h; rfl) | (obtain ⟨_, _, _, _, rfl, _⟩ := h; rfl) | (obtain ⟨_, _, _, _, _, rfl, _⟩ := h; rfl) | (obtain ⟨_, _, _, _, _, _, rfl, _⟩ := h; rfl) | (obtain ⟨rfl, _⟩ := h; rfl)) (p_merge_form 10) (fun cdv A outer s H E hr => w_merge_form (k := 22) ((c_wr 11 (by omega)).1) _ cdv A outer s H E hr), b_merge_form, F_merge_form.kp, g_merge_form⟩⟩
  have c_inside_form : Cl P w K mg base "inside_form" 1 (SpP K R_inside_form) := ⟨⟨_, _, _, FnP.pure F_inside_form sc_inside_form (fun ds d h => by first | (obtain ⟨_, rfl, _⟩ := h; rfl) | (obtain ⟨_, _, rfl, _⟩ := h; rfl) | (obtain ⟨_, _, _, rfl, _⟩ := h; rfl) | (obtain ⟨_, _, _, _, rfl, _⟩ := h; rfl) | (obtain ⟨_, _, _, _, _, rfl, _⟩ := h; rfl) | (obtain ⟨_, _, _, _, _, _, rfl, _⟩ := h; rfl) | (obtain ⟨rfl, _⟩ := h; rfl)) p_inside_form (fun cdv A outer s H E hr => w_inside_form (k := 0)  _ cdv A outer s H E hr), b_inside_form, F_inside_form.kp, g_inside_form⟩⟩
  have c_chained : ∀ n, n ≤ 12 → Cl P w K mg base "chained" (24 + n) (SpP K ((R_chained abqA) n)) := fun n => by
    induction n with
    | zero => intro _; exact Cl.none (sp' := fun _ _ _ _ => False) (k' := 0) ⟨_, _, _, b_chained, F_chained.kp, g_chained⟩ (fun vs H Q E ⟨_, _, _, _, _, r, _⟩ => r)
    | succ n ih => intro hn; have ih := ih (by omega); exact ⟨⟨_, _, _, FnP.pure F_chained sc_chained (fun ds d h => by first | (obtain ⟨_, rfl, _⟩ := h; rfl) | (obtain ⟨_, _, rfl, _⟩ := h; rfl) | (obtain ⟨_, _, _, rfl, _⟩ := h; rfl) | (obtain ⟨_, _, _, _, rfl, _⟩ := h; rfl) | (obtain ⟨_, _, _, _, _, rfl, _⟩ := h; rfl) | (obtain ⟨_, _, _, _, _, _, rfl, _⟩ := h; rfl) | (obtain ⟨rfl, _⟩ := h; rfl)) (p_chained hA hK n (by omega)) (fun cdv A outer s H E hr => w_chained g_KEEP m_list m_dict ((c_wr n (by omega)).2.mono (by omega)) ((c_pairs_of (n - 1) (by omega)).mono (by omega)) (ih) _ cdv A outer s H E hr), b_chained, F_chained.kp, g_chained⟩⟩
  have c_en : ∀ n, n ≤ 41 → Cl P w K mg base "are_entries" (43 + n) (SpP K (R_are_entries n)) ∧ Cl P w K mg base "is_nested" (43 + n) (SpP K (R_is_nested n)) := fun n => by
    induction n with
    | zero => intro _; exact ⟨Cl.none (sp' := fun _ _ _ _ => False) (k' := 0) ⟨_, _, _, b_are_entries, F_are_entries.kp, g_are_entries⟩ (fun vs H Q E ⟨_, _, _, _, _, r, _⟩ => r), Cl.none (sp' := fun _ _ _ _ => False) (k' := 0) ⟨_, _, _, b_is_nested, F_is_nested.kp, g_is_nested⟩ (fun vs H Q E ⟨_, _, _, _, _, r, _⟩ => r)⟩
    | succ n ih =>
      intro hn
      obtain ⟨ih1, ih2⟩ := ih (by omega)
      exact ⟨⟨⟨_, _, _, FnP.pure F_are_entries sc_are_entries (fun ds d h => by first | (obtain ⟨_, rfl, _⟩ := h; rfl) | (obtain ⟨_, _, rfl, _⟩ := h; rfl) | (obtain ⟨_, _, _, rfl, _⟩ := h; rfl) | (obtain ⟨_, _, _, _, rfl, _⟩ := h; rfl) | (obtain ⟨_, _, _, _, _, rfl, _⟩ := h; rfl) | (obtain ⟨_, _, _, _, _, _, rfl, _⟩ := h; rfl) | (obtain ⟨rfl, _⟩ := h; rfl)) (p_are_entries n) (fun cdv A outer s H E hr => w_are_entries g_ENTRIES m_all m_isinstance m_dict m_len (ih2) (c_is_text.mono (by omega)) _ cdv A outer s H E hr), b_are_entries, F_are_entries.kp, g_are_entries⟩⟩, ⟨⟨_, _, _, FnP.pure F_is_nested sc_is_nested (fun ds d h => by first | (obtain ⟨_, rfl, _⟩ := h; rfl) | (obtain ⟨_, _, rfl, _⟩ := h; rfl) | (obtain ⟨_, _, _, rfl, _⟩ := h; rfl) | (obtain ⟨_, _, _, _, rfl, _⟩ := h; rfl) | (obtain ⟨_, _, _, _, _, rfl, _⟩ := h; rfl) | (obtain ⟨_, _, _, _, _, _, rfl, _⟩ := h; rfl) | (obtain ⟨rfl, _⟩ := h; rfl)) (p_is_nested n (by omega)) (fun cdv A outer s H E hr => w_is_nested g_CHAIN g_DEPTH m_all m_isinstance m_tuple m_len m_str (ih2) (ih1) ((c_is_document 41).mono (by omega)) _ cdv A outer s H E hr), b_is_nested, F_is_nested.kp, g_is_nested⟩⟩⟩
  have c_is_patch : Cl P w K mg base "is_patch" 85 (SpP K R_is_patch) := ⟨⟨_, _, _, FnP.pure F_is_patch sc_is_patch (fun ds d h => by first | (obtain ⟨_, rfl, _⟩ := h; rfl) | (obtain ⟨_, _, rfl, _⟩ := h; rfl) | (obtain ⟨_, _, _, rfl, _⟩ := h; rfl) | (obtain ⟨_, _, _, _, rfl, _⟩ := h; rfl) | (obtain ⟨_, _, _, _, _, rfl, _⟩ := h; rfl) | (obtain ⟨_, _, _, _, _, _, rfl, _⟩ := h; rfl) | (obtain ⟨rfl, _⟩ := h; rfl)) p_is_patch (fun cdv A outer s H E hr => w_is_patch (k := 84) g_NESTED ((c_en 41 (by omega)).2) _ cdv A outer s H E hr), b_is_patch, F_is_patch.kp, g_is_patch⟩⟩
  have c_need_patch : Cl P w K mg base "need_patch" 86 (SpP K R_need_patch) := ⟨⟨_, _, _, FnP.pure F_need_patch sc_need_patch (fun ds d h => by first | (obtain ⟨_, rfl, _⟩ := h; rfl) | (obtain ⟨_, _, rfl, _⟩ := h; rfl) | (obtain ⟨_, _, _, rfl, _⟩ := h; rfl) | (obtain ⟨_, _, _, _, rfl, _⟩ := h; rfl) | (obtain ⟨_, _, _, _, _, rfl, _⟩ := h; rfl) | (obtain ⟨_, _, _, _, _, _, rfl, _⟩ := h; rfl) | (obtain ⟨rfl, _⟩ := h; rfl)) p_need_patch (fun cdv A outer s H E hr => w_need_patch (k := 85) (c_is_patch) _ cdv A outer s H E hr), b_need_patch, F_need_patch.kp, g_need_patch⟩⟩
  have c_form_of : ∀ n, n ≤ 7 → Cl P w K mg base "form_of" (36 + n) (SpP K ((R_form_of abqA) n)) := fun n => by
    induction n with
    | zero => intro _; exact Cl.none (sp' := fun _ _ _ _ => False) (k' := 0) ⟨_, _, _, b_form_of, F_form_of.kp, g_form_of⟩ (fun vs H Q E ⟨_, _, _, _, _, r, _⟩ => r)
    | succ n ih => intro hn; have ih := ih (by omega); exact ⟨⟨_, _, _, FnP.pure F_form_of sc_form_of (fun ds d h => by first | (obtain ⟨_, rfl, _⟩ := h; rfl) | (obtain ⟨_, _, rfl, _⟩ := h; rfl) | (obtain ⟨_, _, _, rfl, _⟩ := h; rfl) | (obtain ⟨_, _, _, _, rfl, _⟩ := h; rfl) | (obtain ⟨_, _, _, _, _, rfl, _⟩ := h; rfl) | (obtain ⟨_, _, _, _, _, _, rfl, _⟩ := h; rfl) | (obtain ⟨rfl, _⟩ := h; rfl)) (p_form_of hA hK n (by omega)) (fun cdv A outer s H E hr => w_form_of g_KEEP (c_merge_form.mono (by omega)) (c_inside_form.mono (by omega)) ((c_pairs_of 10 (by omega)).mono (by omega)) (ih) ((c_chained 12 (by omega)).mono (by omega)) (c_constant_form.mono (by omega)) _ cdv A outer s H E hr), b_form_of, F_form_of.kp, g_form_of⟩⟩
  have c_copied_form : ∀ n, n ≤ 12 → Cl P w K mg base "copied_form" (14 + n) (SpP K ((R_copied_form abqA) n)) := fun n => by
    induction n with
    | zero => intro _; exact Cl.none (sp' := fun _ _ _ _ => False) (k' := 0) ⟨_, _, _, b_copied_form, F_copied_form.kp, g_copied_form⟩ (fun vs H Q E ⟨_, _, _, _, _, r, _⟩ => r)
    | succ n ih => intro hn; have ih := ih (by omega); exact ⟨⟨_, _, _, FnP.pure F_copied_form sc_copied_form (fun ds d h => by first | (obtain ⟨_, rfl, _⟩ := h; rfl) | (obtain ⟨_, _, rfl, _⟩ := h; rfl) | (obtain ⟨_, _, _, rfl, _⟩ := h; rfl) | (obtain ⟨_, _, _, _, rfl, _⟩ := h; rfl) | (obtain ⟨_, _, _, _, _, rfl, _⟩ := h; rfl) | (obtain ⟨_, _, _, _, _, _, rfl, _⟩ := h; rfl) | (obtain ⟨rfl, _⟩ := h; rfl)) (p_copied_form hA n) (fun cdv A outer s H E hr => w_copied_form m_tuple ((c_copied (n + 1)).mono (by omega)) (ih) _ cdv A outer s H E hr), b_copied_form, F_copied_form.kp, g_copied_form⟩⟩
  have c_normal_form : Cl P w K mg base "normal_form" 87 (SpP K (R_normal_form abqA)) := ⟨⟨_, _, _, FnP.pure F_normal_form sc_normal_form (fun ds d h => by first | (obtain ⟨_, rfl, _⟩ := h; rfl) | (obtain ⟨_, _, rfl, _⟩ := h; rfl) | (obtain ⟨_, _, _, rfl, _⟩ := h; rfl) | (obtain ⟨_, _, _, _, rfl, _⟩ := h; rfl) | (obtain ⟨_, _, _, _, _, rfl, _⟩ := h; rfl) | (obtain ⟨_, _, _, _, _, _, rfl, _⟩ := h; rfl) | (obtain ⟨rfl, _⟩ := h; rfl)) (p_normal_form hA) (fun cdv A outer s H E hr => w_normal_form (k := 86) ((c_copied_form 12 (by omega)).mono (by omega)) ((c_form_of 7 (by omega)).mono (by omega)) (c_need_patch.mono (by omega)) _ cdv A outer s H E hr), b_normal_form, F_normal_form.kp, g_normal_form⟩⟩
  have c__law_draw : Cl P w K mg base "_law_draw" 1 (SpT K R_draw) := ⟨⟨_, _, _, FnP.townB F__law_draw sc__law_draw (fun ns ds S h => by first | (obtain ⟨_, rfl, _⟩ := h; rfl) | (obtain ⟨rfl, _⟩ := h; rfl) | (obtain ⟨_, _, rfl, _⟩ := h; rfl) | (obtain ⟨_, _, _, rfl, _⟩ := h; rfl)) (fun vs H Q E q => body_draw q) (fun cdv A outer s H E hr => w__law_draw (k := 0) m_len _ cdv A outer s H E hr), b__law_draw, F__law_draw.kp, g__law_draw⟩⟩
  have c__law_pick : Cl P w K mg base "_law_pick" 2 (SpT K R_pick) := ⟨⟨_, _, _, FnP.town F__law_pick sc__law_pick (fun ns ds S h => by first | (obtain ⟨_, rfl, _⟩ := h; rfl) | (obtain ⟨rfl, _⟩ := h; rfl) | (obtain ⟨_, _, rfl, _⟩ := h; rfl) | (obtain ⟨_, _, _, rfl, _⟩ := h; rfl)) p_pick (fun cdv A outer s H E hr => w__law_pick (k := 1) m_len (c__law_draw) _ cdv A outer s H E hr), b__law_pick, F__law_pick.kp, g__law_pick⟩⟩
  have c__law_document : ∀ n, Cl P w K mg base "_law_document" (2 + n) (SpT K ((R_document abcz) n)) := fun n => by
    induction n with
    | zero => exact Cl.none (sp' := fun _ _ _ _ => False) (k' := 0) ⟨_, _, _, b__law_document, F__law_document.kp, g__law_document⟩ (fun vs H Q E ⟨_, _, _, _, _, _, _, _, _, _, r, _⟩ => r)
    | succ n ih => exact ⟨⟨_, _, _, FnP.town F__law_document sc__law_document (fun ns ds S h => by first | (obtain ⟨_, rfl, _⟩ := h; rfl) | (obtain ⟨rfl, _⟩ := h; rfl) | (obtain ⟨_, _, rfl, _⟩ := h; rfl) | (obtain ⟨_, _, _, rfl, _⟩ := h; rfl)) (p_document names7 n) (fun cdv A outer s H E hr => w__law_document m_dict (ih) (c__law_pick.mono (by omega)) (c__law_draw.mono (by omega)) _ cdv A outer s H E hr), b__law_document, F__law_document.kp, g__law_document⟩⟩
  have c_doc : ∀ m, Cl P w K mg base "_law_document" (3 + m) (SpT K (R_doc abcz m)) := fun m => (c__law_document (m + 1)).mono (by omega)
  have c__law_state : ∀ m, Cl P w K mg base "_law_state" (3 + m + 1) (SpT K (R_state abcz m)) := fun m => ⟨⟨_, _, _, FnP.town (k := 3 + m) F__law_state sc__law_state (fun ns ds S h => by first | (obtain ⟨_, rfl, _⟩ := h; rfl) | (obtain ⟨rfl, _⟩ := h; rfl) | (obtain ⟨_, _, rfl, _⟩ := h; rfl) | (obtain ⟨_, _, _, rfl, _⟩ := h; rfl)) (p_state m) (fun cdv A outer s H E hr => w__law_state (c__law_draw.mono (by omega)) (c_doc m) _ cdv A outer s H E hr), b__law_state, F__law_state.kp, g__law_state⟩⟩
  have c__law_patch : ∀ n, Cl P w K mg base "_law_patch" (5 + n) (SpT K ((R_patch abcz) n)) := fun n => by
    induction n with
    | zero => exact Cl.none (sp' := fun _ _ _ _ => False) (k' := 0) ⟨_, _, _, b__law_patch, F__law_patch.kp, g__law_patch⟩ (fun vs H Q E ⟨_, _, _, _, _, _, _, _, _, _, r, _⟩ => r)
    | succ n ih => exact ⟨⟨_, _, _, FnP.town F__law_patch sc__law_patch (fun ns ds S h => by first | (obtain ⟨_, rfl, _⟩ := h; rfl) | (obtain ⟨rfl, _⟩ := h; rfl) | (obtain ⟨_, _, rfl, _⟩ := h; rfl) | (obtain ⟨_, _, _, rfl, _⟩ := h; rfl)) (p_patch names5 n) (fun cdv A outer s H E hr => w__law_patch m_dict m_tuple m_range (ih) (c__law_pick.mono (by omega)) (c__law_draw.mono (by omega)) ((c_doc 2).mono (by omega)) _ cdv A outer s H E hr), b__law_patch, F__law_patch.kp, g__law_patch⟩⟩
  have c__law_run : ∀ n, n ≤ 7 → Cl P w K mg base "_law_run" (0 + n) (SpP K ((R_law_run abqA) n)) := fun n => by
    induction n with
    | zero => intro _; exact Cl.none (sp' := fun _ _ _ _ => False) (k' := 0) ⟨_, _, _, b__law_run, F__law_run.kp, g__law_run⟩ (fun vs H Q E ⟨_, _, _, _, _, r, _⟩ => r)
    | succ n ih => intro hn; have ih := ih (by omega); exact ⟨⟨_, _, _, FnP.pure F__law_run sc__law_run (fun ds d h => by first | (obtain ⟨_, rfl, _⟩ := h; rfl) | (obtain ⟨_, _, rfl, _⟩ := h; rfl) | (obtain ⟨_, _, _, rfl, _⟩ := h; rfl) | (obtain ⟨_, _, _, _, rfl, _⟩ := h; rfl) | (obtain ⟨_, _, _, _, _, rfl, _⟩ := h; rfl) | (obtain ⟨_, _, _, _, _, _, rfl, _⟩ := h; rfl) | (obtain ⟨rfl, _⟩ := h; rfl)) (p_law_run hA n (by omega)) (fun cdv A outer s H E hr => w__law_run m_isinstance m_dict (ih) _ cdv A outer s H E hr), b__law_run, F__law_run.kp, g__law_run⟩⟩
  have c__law_size : ∀ n, Cl P w K mg base "_law_size" (0 + n) (SpP K ((R_size_of abqA) n)) := fun n => by
    induction n with
    | zero => exact Cl.none (sp' := fun _ _ _ _ => False) (k' := 0) ⟨_, _, _, b__law_size, F__law_size.kp, g__law_size⟩ (fun vs H Q E ⟨_, _, _, _, _, r, _⟩ => r)
    | succ n ih => exact ⟨⟨_, _, _, FnP.pure F__law_size sc__law_size (fun ds d h => by first | (obtain ⟨_, rfl, _⟩ := h; rfl) | (obtain ⟨_, _, rfl, _⟩ := h; rfl) | (obtain ⟨_, _, _, rfl, _⟩ := h; rfl) | (obtain ⟨_, _, _, _, rfl, _⟩ := h; rfl) | (obtain ⟨_, _, _, _, _, rfl, _⟩ := h; rfl) | (obtain ⟨_, _, _, _, _, _, rfl, _⟩ := h; rfl) | (obtain ⟨rfl, _⟩ := h; rfl)) (p_law_size hA n) (fun cdv A outer s H E hr => w__law_size m_isinstance m_dict m_sum (ih) _ cdv A outer s H E hr), b__law_size, F__law_size.kp, g__law_size⟩⟩
  have c__law_value : Cl P w K mg base "_law_value" 1 (SpP K (R_found_at abqA)) := ⟨⟨_, _, _, FnP.pure F__law_value sc__law_value (fun ds d h => by first | (obtain ⟨_, rfl, _⟩ := h; rfl) | (obtain ⟨_, _, rfl, _⟩ := h; rfl) | (obtain ⟨_, _, _, rfl, _⟩ := h; rfl) | (obtain ⟨_, _, _, _, rfl, _⟩ := h; rfl) | (obtain ⟨_, _, _, _, _, rfl, _⟩ := h; rfl) | (obtain ⟨_, _, _, _, _, _, rfl, _⟩ := h; rfl) | (obtain ⟨rfl, _⟩ := h; rfl)) p_law_value (fun cdv A outer s H E hr => w__law_value (k := 0) m_isinstance m_dict _ cdv A outer s H E hr), b__law_value, F__law_value.kp, g__law_value⟩⟩
  have c__law_small : Cl P w K mg base "_law_small" 11 (SpP K R_law_small) := ⟨⟨_, _, _, FnP.pure F__law_small sc__law_small (fun ds d h => by first | (obtain ⟨_, rfl, _⟩ := h; rfl) | (obtain ⟨_, _, rfl, _⟩ := h; rfl) | (obtain ⟨_, _, _, rfl, _⟩ := h; rfl) | (obtain ⟨_, _, _, _, rfl, _⟩ := h; rfl) | (obtain ⟨_, _, _, _, _, rfl, _⟩ := h; rfl) | (obtain ⟨_, _, _, _, _, _, rfl, _⟩ := h; rfl) | (obtain ⟨rfl, _⟩ := h; rfl)) (p_law_small hA (by decide)) (fun cdv A outer s H E hr => w__law_small (k := 10) m_sorted m_enumerate m_dict ((c__law_size 10).mono (by omega)) _ cdv A outer s H E hr), b__law_small, F__law_small.kp, g__law_small⟩⟩
  have c__law_formed : ∀ n, n ≤ 40 → Cl P w K mg base "_law_formed" (0 + n) (SpP K ((R_run abqA) n)) := fun n => by
    induction n with
    | zero => intro _; exact Cl.none (sp' := fun _ _ _ _ => False) (k' := 0) ⟨_, _, _, b__law_formed, F__law_formed.kp, g__law_formed⟩ (fun vs H Q E ⟨_, _, _, _, _, r, _⟩ => r)
    | succ n ih => intro hn; have ih := ih (by omega); exact ⟨⟨_, _, _, FnP.pure F__law_formed sc__law_formed (fun ds d h => by first | (obtain ⟨_, rfl, _⟩ := h; rfl) | (obtain ⟨_, _, rfl, _⟩ := h; rfl) | (obtain ⟨_, _, _, rfl, _⟩ := h; rfl) | (obtain ⟨_, _, _, _, rfl, _⟩ := h; rfl) | (obtain ⟨_, _, _, _, _, rfl, _⟩ := h; rfl) | (obtain ⟨_, _, _, _, _, _, rfl, _⟩ := h; rfl) | (obtain ⟨rfl, _⟩ := h; rfl)) (p_law_formed hA n (by omega)) (fun cdv A outer s H E hr => w__law_formed m_dict m_isinstance (ih) _ cdv A outer s H E hr), b__law_formed, F__law_formed.kp, g__law_formed⟩⟩
  have c__law_is_form : ∀ n, n ≤ 12 → Cl P w K mg base "_law_is_form" (0 + n) (SpP K ((R_is_form abqA) n)) := fun n => by
    induction n with
    | zero => intro _; exact Cl.none (sp' := fun _ _ _ _ => False) (k' := 0) ⟨_, _, _, b__law_is_form, F__law_is_form.kp, g__law_is_form⟩ (fun vs H Q E ⟨_, _, _, _, _, r, _⟩ => r)
    | succ n ih => intro hn; have ih := ih (by omega); exact ⟨⟨_, _, _, FnP.pure F__law_is_form sc__law_is_form (fun ds d h => by first | (obtain ⟨_, rfl, _⟩ := h; rfl) | (obtain ⟨_, _, rfl, _⟩ := h; rfl) | (obtain ⟨_, _, _, rfl, _⟩ := h; rfl) | (obtain ⟨_, _, _, _, rfl, _⟩ := h; rfl) | (obtain ⟨_, _, _, _, _, rfl, _⟩ := h; rfl) | (obtain ⟨_, _, _, _, _, _, rfl, _⟩ := h; rfl) | (obtain ⟨rfl, _⟩ := h; rfl)) (p_law_is_form hA n (by omega)) (fun cdv A outer s H E hr => w__law_is_form m_all m_sorted m_set m_len m_isinstance m_tuple (ih) _ cdv A outer s H E hr), b__law_is_form, F__law_is_form.kp, g__law_is_form⟩⟩
  exact FnP.law F_law sc_law (by decide) (p_law03 hL) (fun cdv A outer s H E hr => w_law (k := 89) m_range (c_normal_form.mono (by omega)) ((c__law_formed 12 (by omega)).mono (by omega)) ((c__law_run 7 (by omega)).mono (by omega)) (c__law_small.mono (by omega)) ((c__law_state 3).mono (by omega)) ((c__law_is_form 12 (by omega)).mono (by omega)) ((c__law_patch 5).mono (by omega)) _ cdv A outer s H E hr)
end Mp

set_option maxRecDepth 100000
set_option maxHeartbeats 0
open PySem PySem.W PySem.Calls PyProof.Rows in
theorem PySem.Challenge.cw_mergepatch_k03_whole_normal_form_holds : PySem.Challenge.rw_mergepatch_k03_whole_normal_form.Holds := by
  w_on; o_law
  refine HandSHeadRun.head_any (r := OpenLaw.row PySem.Challenge.rw_mergepatch_k03_whole_normal_form) (q := view (OpenLaw.row PySem.Challenge.rw_mergepatch_k03_whole_normal_form).prog [44]) (H := Mp.hkL) (ob := Mp.obL) (M := 6000) (loose := Mp.loL) (d := HandSHeadRun.topDef (OpenLaw.row PySem.Challenge.rw_mergepatch_k03_whole_normal_form).prog 44) (kwd := []) Mp.ob_eqL
    (by kernel_rfl) (fun s => by kernel_rfl) Mp.runL (by kernel_rfl) (by kernel_rfl) (by kernel_rfl) (by rfl) (by first | assumption | decide +kernel) (by decide +kernel) ⟨rfl, rfl, rfl, rfl, rfl, by decide +kernel⟩ ?hw ?hc
  case hw => w_witness2
  case hc =>
    refine L2.walk_ofE (l := PySem.Challenge.rw_mergepatch_k03_whole_normal_form) (n := 63) (k := 90) (x := "script") (CX := L2.CX0) rfl (by decide) (by kernel_rfl) ⟨rfl, by decide, by decide⟩ ?F (fun _ _ _ _ z => z)
    intro w mg fa h Y G hmg0
    obtain ⟨K, KX, c⟩ := Y
    have hmg : mg ("law" : PySem.Str) = some (.ref fa) := by
      have e : (HandSHeadRun.topDef (OpenLaw.row PySem.Challenge.rw_mergepatch_k03_whole_normal_form).prog 44).name = ("law" : PySem.Str) := by kernel_rfl
      rw [← e]
      exact hmg0
    obtain ⟨fd, hb, hF⟩ := Mp.factsL (P := (PySem.Challenge.rw_mergepatch_k03_whole_normal_form).prog) (w := w) KX G hmg c
    exact ⟨K, fd, Mp.spLaw K, KX, hb, fun H a ns hl _ hS => ⟨a, ns, rfl, hS, fun _ => rfl⟩, hF⟩

