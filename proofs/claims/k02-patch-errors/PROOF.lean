import PyProof.Rows.All
import Wide.All
import OpenK.AllK
import Wide.FinOn
import KE.KStateDown
import HandS.ForMost
import HandS.DictComp
import HandS.IsInst
import HandS.DeepEq
import KE.KEqNest
import HandS.Style
import HandS.Conv
import HandS.More
import HandS.Text
import HandS.Wide
import HandS.TupAny
import HandS.WordsExc
import KE.KDictPairs
import HandS.Defaults
import HandS.Iter
import HandS.SortRule
import HandS.HeadHook1
import HandS.HeadHook2
import HandS.Head0
import HandS.Head1
import HandS.Head2
import HandS.HeadEnd
import HandS.Steps
import HandS.NoneIn
import HandS.SortOrd
import KE.KSortTupAny
import HandS.Set
import HandS.SetFor
import HandS.Strs
import HandS.ListItems
import HandS.Exc
import HandS.ExcInit
import HandS.ExcField
import HandS.ExcOwn
import HandS.HotCalls
import HandS.ExcIs
import PySem.Challenge.RW_mergepatch_k02_patch_errors
import KE.KDictZip
import PyProof.StrLoop
import HandS.TryOnly
import HandS.StrMore
import HandS.Codes
import HandS.TupLen
import HandS.TupMul
import KE.KDictDisplayH
set_option Elab.async false
set_option linter.all false
set_option maxRecDepth 100000
set_option maxHeartbeats 4000000
namespace Mp
open PySem L2 PyProof.Rows
/-- python data as a tree -/
inductive D where
  | non | bl (b : Bool) | int (i : Int) | str (x : Str)
  | tup (xs : List D) | lst (xs : List D) | dic (kvs : List (Key × D))
def look {α : Type} : List (Key × α) → Key → Option α
  | [], _ => none
  | (j, d) :: r, k => if j = k then some d else look r k
mutual
def D.eqv : D → D → Bool
  | .non, e => match e with | .non => true | _ => false
  | .bl a, e => match e with | .bl b => a == b | .int b => (if a then 1 else 0) == b | _ => false
  | .int a, e => match e with | .bl b => a == (if b then 1 else 0) | .int b => a == b | _ => false
  | .str a, e => match e with | .str b => a == b | _ => false
  | .tup xs, e => match e with | .tup ys => D.eqvL xs ys | _ => false
  | .lst xs, e => match e with | .lst ys => D.eqvL xs ys | _ => false
  | .dic xs, e => match e with | .dic ys => xs.length == ys.length && D.eqvK xs ys | _ => false
def D.eqvL : List D → List D → Bool
  | [], ys => ys.isEmpty
  | x :: xs, ys => match ys with | [] => false | y :: ys => D.eqv x y && D.eqvL xs ys
def D.eqvK : List (Key × D) → List (Key × D) → Bool
  | [], _ => true
  | (k, x) :: xs, ys => (match look ys k with | some y => D.eqv x y | none => false) && D.eqvK xs ys
end
mutual
def D.deep : D → Nat
  | .tup xs => D.deepL xs + 1
  | .lst xs => D.deepL xs + 1
  | .dic xs => D.deepK xs + 1
  | _ => 0
def D.deepL : List D → Nat
  | [] => 0
  | x :: xs => max (D.deep x) (D.deepL xs)
def D.deepK : List (Key × D) → Nat
  | [] => 0
  | (_, x) :: xs => max (D.deep x) (D.deepK xs)
end
section
variable (P : Program) (w : World) (h : Heap)
mutual
/-- the value u holds the datum, in the machine's heap -/
def Rep : D → Value → Prop
  | .non, u => u = .none
  | .bl b, u => u = .bool b
  | .int i, u => ∃ t, u = .int i t
  | .str x, u => ∃ t, u = .str x t
  | .tup xs, u => ∃ a its, u = .ref a ∧ h.IsTuple a its.toArray ∧ RepL xs its
  | .lst xs, u => ∃ a its, u = .ref a ∧ h.IsList a its.toArray ∧ RepL xs its
  | .dic ks, u => ∃ a vs, u = .ref a ∧ (a == sysModules) = false ∧ h.DictOf (mixKind P w) a vs ∧ RepK ks vs
def RepL : List D → List Value → Prop
  | [], us => us = []
  | d :: ds, us => ∃ u r, us = u :: r ∧ Rep d u ∧ RepL ds r
def RepK : List (Key × D) → List (Key × Value) → Prop
  | [], us => us = []
  | (k, d) :: ds, us => ∃ u r, us = (k, u) :: r ∧ Rep d u ∧ RepK ds r
end
end
section
variable {P : Program} {w : World} {h : Heap}
theorem RepL.len : ∀ {xs : List D} {us : List Value}, RepL P w h xs us → xs.length = us.length
  | [], us, r => by unfold RepL at r; subst r; rfl
  | x :: xs, us, r => by
    unfold RepL at r
    obtain ⟨u, q, rfl, _, r⟩ := r
    simp [RepL.len r]
theorem RepL.at : ∀ {xs : List D} {us : List Value}, RepL P w h xs us → ∀ (j : Nat) (h1 : j < xs.length) (h2 : j < us.length), Rep P w h xs[j] us[j]
  | [], _, _, j, h1, _ => absurd h1 (Nat.not_lt_zero j)
  | x :: xs, us, r, j, h1, h2 => by
    unfold RepL at r
    obtain ⟨u, q, rfl, a, r⟩ := r
    cases j with
    | zero => exact a
    | succ j => exact RepL.at r j (Nat.lt_of_succ_lt_succ h1) (Nat.lt_of_succ_lt_succ h2)
theorem RepK.len : ∀ {xs : List (Key × D)} {us : List (Key × Value)}, RepK P w h xs us → xs.length = us.length
  | [], us, r => by unfold RepK at r; subst r; rfl
  | x :: xs, us, r => by
    unfold RepK at r
    obtain ⟨u, q, rfl, _, r⟩ := r
    simp [RepK.len r]
theorem RepK.keys : ∀ {xs : List (Key × D)} {us : List (Key × Value)}, RepK P w h xs us → xs.map (·.1) = us.map (·.1)
  | [], us, r => by unfold RepK at r; subst r; rfl
  | (k, x) :: xs, us, r => by
    unfold RepK at r
    obtain ⟨u, q, rfl, _, r⟩ := r
    simp [RepK.keys r]
theorem valueAt_cons {k j : Key} {u : Value} {r : List (Key × Value)} : valueAt ((j, u) :: r) k = if j = k then some u else valueAt r k := by
  unfold valueAt
  rw [List.find?_cons]
  by_cases e : j = k
  · simp [e]
  · simp [e]
theorem RepK.look : ∀ {xs : List (Key × D)} {us : List (Key × Value)}, RepK P w h xs us → ∀ k, (look xs k = none ∧ valueAt us k = none) ∨ ∃ d u, look xs k = some d ∧ valueAt us k = some u ∧ Rep P w h d u
  | [], us, r, k => by unfold RepK at r; subst r; exact .inl ⟨rfl, rfl⟩
  | (j, x) :: xs, us, r, k => by
    unfold RepK at r
    obtain ⟨u, q, rfl, a, r⟩ := r
    rw [valueAt_cons, Mp.look]
    by_cases e : j = k
    · rw [if_pos e, if_pos e]
      exact .inr ⟨x, u, rfl, rfl, a⟩
    · rw [if_neg e, if_neg e]
      exact RepK.look r k
theorem look_mem {α : Type} : ∀ {xs : List (Key × α)} {k : Key} {d : α}, look xs k = some d → (k, d) ∈ xs
  | (j, x) :: xs, k, d, e => by
    unfold look at e
    split at e
    · rename_i z; subst z; cases e; exact List.mem_cons_self
    · exact List.mem_cons_of_mem _ (look_mem e)
theorem mem_look {α : Type} : ∀ {xs : List (Key × α)} {k : Key} {d : α}, (xs.map (·.1)).Nodup → (k, d) ∈ xs → look xs k = some d
  | (j, x) :: xs, k, d, nd, m => by
    unfold look
    rcases List.mem_cons.mp m with e | m
    · cases e; rw [if_pos rfl]
    · have nd' := List.nodup_cons.mp nd
      have ne : j ≠ k := fun e => nd'.1 (by subst e; exact List.mem_map.mpr ⟨(j, d), m, rfl⟩)
      rw [if_neg ne]
      exact mem_look nd'.2 m
theorem look_none {α : Type} : ∀ {xs : List (Key × α)} {k : Key}, look xs k = none ↔ k ∉ xs.map (·.1)
  | [], k => by simp [look]
  | (j, x) :: xs, k => by
    unfold look
    by_cases e : j = k
    · simp [e]
    · rw [if_neg e, look_none]
      simp [Ne.symm e, eq_comm]
theorem isTuple_uniq {a : Addr} {x y : Array Value} (p : h.IsTuple a x) (q : h.IsTuple a y) : x = y := by
  obtain ⟨o, h1, _, n, h2⟩ := p
  obtain ⟨o', h1', _, n', h2'⟩ := q
  rw [h1] at h1'; cases h1'
  rw [h2] at h2'; cases h2'; rfl
theorem isList_uniq {a : Addr} {x y : Array Value} (p : h.IsList a x) (q : h.IsList a y) : x = y := by
  obtain ⟨o, h1, _, n, h2⟩ := p
  obtain ⟨o', h1', _, n', h2'⟩ := q
  rw [h1] at h1'; cases h1'
  rw [h2] at h2'; cases h2'; rfl
theorem pairs_uniq : ∀ {es : List DictEntry} {x y : List (Key × Value)}, Pairs (mixKind P w) es x → Pairs (mixKind P w) es y → x = y
  | [], _, _, p, q => by cases p; cases q; rfl
  | e :: es, _, _, p, q => by
    cases p with
    | cons k1 v1 r1 =>
      cases q with
      | cons k2 v2 r2 =>
        have ek := (mixKind P w).inj _ _ _ k1 k2
        rw [pairs_uniq r1 r2, Prod.ext ek (v1.symm.trans v2)]
theorem dictOf_uniq {a : Addr} {x y : List (Key × Value)} (p : h.DictOf (mixKind P w) a x) (q : h.DictOf (mixKind P w) a y) : x = y := by
  obtain ⟨o, es, ep, h1, _, h2, _, h3, _⟩ := p
  obtain ⟨o', es', ep', h1', _, h2', _, h3', _⟩ := q
  rw [h1] at h1'; cases h1'
  rw [h2] at h2'; cases h2'
  exact pairs_uniq h3 h3'
theorem list_not_tuple {a : Addr} {x y : Array Value} (p : h.IsList a x) (q : h.IsTuple a y) : False := by
  obtain ⟨o, h1, c, _⟩ := p
  obtain ⟨o', h1', c', _⟩ := q
  rw [h1] at h1'; cases h1'
  rw [c] at c'; exact absurd c' (by decide)
theorem dict_not_tuple {a : Addr} {x : List (Key × Value)} {y : Array Value} (p : h.DictOf (mixKind P w) a x) (q : h.IsTuple a y) : False := by
  obtain ⟨o, es, ep, h1, c, _⟩ := p
  obtain ⟨o', h1', c', _⟩ := q
  rw [h1] at h1'; cases h1'
  rw [c.1] at c'; exact absurd c' (by decide)
theorem dict_not_list {a : Addr} {x : List (Key × Value)} {y : Array Value} (p : h.DictOf (mixKind P w) a x) (q : h.IsList a y) : False := by
  obtain ⟨o, es, ep, h1, c, _⟩ := p
  obtain ⟨o', h1', c', _⟩ := q
  rw [h1] at h1'; cases h1'
  rw [c.1] at c'; exact absurd c' (by decide)
mutual
theorem Rep.uniq : ∀ (d e : D) (u : Value), Rep P w h d u → Rep P w h e u → d = e
  | .non, e, u, p, q => by
    unfold Rep at p; subst p
    cases e <;> unfold Rep at q <;> first | rfl | (exfalso; simp at q)
  | .bl b, e, u, p, q => by
    unfold Rep at p; subst p
    cases e <;> unfold Rep at q <;> first | (simp at q; try subst q; try rfl) | (exfalso; simp at q)
  | .int i, e, u, p, q => by
    unfold Rep at p; obtain ⟨t, rfl⟩ := p
    cases e <;> unfold Rep at q <;> first | (simp at q; try subst q; try rfl) | (exfalso; simp at q)
  | .str i, e, u, p, q => by
    unfold Rep at p; obtain ⟨t, rfl⟩ := p
    cases e <;> unfold Rep at q <;> first | (simp at q; try subst q; try rfl) | (exfalso; simp at q)
  | .tup xs, e, u, p, q => by
    unfold Rep at p; obtain ⟨a, its, rfl, ha, r⟩ := p
    cases e with
    | tup ys =>
      unfold Rep at q; obtain ⟨b, jts, eb, hb, r'⟩ := q
      cases eb
      have z := isTuple_uniq ha hb
      have z : its = jts := by simpa using z
      subst z
      rw [RepL.uniq xs ys its r r']
    | lst ys => unfold Rep at q; obtain ⟨b, jts, eb, hb, r'⟩ := q; cases eb; exact (list_not_tuple hb ha).elim
    | dic ys => unfold Rep at q; obtain ⟨b, jts, eb, _, hb, r'⟩ := q; cases eb; exact (dict_not_tuple hb ha).elim
    | _ => unfold Rep at q; simp at q
  | .lst xs, e, u, p, q => by
    unfold Rep at p; obtain ⟨a, its, rfl, ha, r⟩ := p
    cases e with
    | lst ys =>
      unfold Rep at q; obtain ⟨b, jts, eb, hb, r'⟩ := q
      cases eb
      have z := isList_uniq ha hb
      have z : its = jts := by simpa using z
      subst z
      rw [RepL.uniq xs ys its r r']
    | tup ys => unfold Rep at q; obtain ⟨b, jts, eb, hb, r'⟩ := q; cases eb; exact (list_not_tuple ha hb).elim
    | dic ys => unfold Rep at q; obtain ⟨b, jts, eb, _, hb, r'⟩ := q; cases eb; exact (dict_not_list hb ha).elim
    | _ => unfold Rep at q; simp at q
  | .dic xs, e, u, p, q => by
    unfold Rep at p; obtain ⟨a, its, rfl, _, ha, r⟩ := p
    cases e with
    | dic ys =>
      unfold Rep at q; obtain ⟨b, jts, eb, _, hb, r'⟩ := q
      cases eb
      have z := dictOf_uniq ha hb
      subst z
      rw [RepK.uniq xs ys its r r']
    | tup ys => unfold Rep at q; obtain ⟨b, jts, eb, hb, r'⟩ := q; cases eb; exact (dict_not_tuple ha hb).elim
    | lst ys => unfold Rep at q; obtain ⟨b, jts, eb, hb, r'⟩ := q; cases eb; exact (dict_not_list ha hb).elim
    | _ => unfold Rep at q; simp at q
theorem RepL.uniq : ∀ (xs ys : List D) (us : List Value), RepL P w h xs us → RepL P w h ys us → xs = ys
  | [], ys, us, p, q => by
    unfold RepL at p; subst p
    cases ys with
    | nil => rfl
    | cons y ys => unfold RepL at q; obtain ⟨_, _, z, _⟩ := q; cases z
  | x :: xs, ys, us, p, q => by
    unfold RepL at p; obtain ⟨u, r, rfl, a, p⟩ := p
    cases ys with
    | nil => unfold RepL at q; cases q
    | cons y ys =>
      unfold RepL at q; obtain ⟨u', r', z, a', q⟩ := q
      cases z
      rw [Rep.uniq x y u a a', RepL.uniq xs ys r p q]
theorem RepK.uniq : ∀ (xs ys : List (Key × D)) (us : List (Key × Value)), RepK P w h xs us → RepK P w h ys us → xs = ys
  | [], ys, us, p, q => by
    unfold RepK at p; subst p
    cases ys with
    | nil => rfl
    | cons y ys => unfold RepK at q; obtain ⟨_, _, z, _⟩ := q; cases z
  | (k, x) :: xs, ys, us, p, q => by
    unfold RepK at p; obtain ⟨u, r, rfl, a, p⟩ := p
    cases ys with
    | nil => unfold RepK at q; cases q
    | cons y ys =>
      obtain ⟨j, y⟩ := y
      unfold RepK at q; obtain ⟨u', r', z, a', q⟩ := q
      cases z
      rw [Rep.uniq x y u a a', RepK.uniq xs ys r p q]
end
theorem look_of_tail {α : Type} {k : Key} {x : α} {xs pre : List (Key × α)} (nd : ((pre ++ (k, x) :: xs).map (·.1)).Nodup) : look (pre ++ (k, x) :: xs) k = some x :=
  mem_look nd (List.mem_append_right _ List.mem_cons_self)
mutual
theorem Rep.self : ∀ (d : D) (u : Value), Rep P w h d u → D.eqv d d = true
  | .non, _, _ => by simp [D.eqv]
  | .bl b, _, _ => by simp [D.eqv]
  | .int i, _, _ => by simp [D.eqv]
  | .str i, _, _ => by simp [D.eqv]
  | .tup xs, u, p => by
    unfold Rep at p; obtain ⟨a, its, rfl, ha, r⟩ := p
    simp only [D.eqv]; exact RepL.self xs its r
  | .lst xs, u, p => by
    unfold Rep at p; obtain ⟨a, its, rfl, ha, r⟩ := p
    simp only [D.eqv]; exact RepL.self xs its r
  | .dic xs, u, p => by
    unfold Rep at p; obtain ⟨a, its, rfl, _, ha, r⟩ := p
    obtain ⟨_, _, _, _, _, _, _, _, nd⟩ := ha
    simp only [D.eqv, beq_self_eq_true, Bool.true_and]
    exact RepK.self [] xs its (by rw [List.nil_append, r.keys]; exact nd) r
theorem RepL.self : ∀ (xs : List D) (us : List Value), RepL P w h xs us → D.eqvL xs xs = true
  | [], _, _ => by simp [D.eqvL]
  | x :: xs, us, p => by
    unfold RepL at p; obtain ⟨u, r, rfl, a, p⟩ := p
    simp only [D.eqvL, Rep.self x u a, RepL.self xs r p, Bool.and_self]
theorem RepK.self : ∀ (pre xs : List (Key × D)) (us : List (Key × Value)), ((pre ++ xs).map (·.1)).Nodup → RepK P w h xs us → D.eqvK xs (pre ++ xs) = true
  | _, [], _, _, _ => by simp [D.eqvK]
  | pre, (k, x) :: xs, us, nd, p => by
    unfold RepK at p; obtain ⟨u, r, rfl, a, p⟩ := p
    have z := RepK.self (pre ++ [(k, x)]) xs r (by simpa using nd) p
    simp only [D.eqvK, look_of_tail nd, Rep.self x u a, Bool.true_and]
    simpa using z
end
end
/-! ### == at any depth -/
section
variable {P : Program} {w : World} {s : Shared} {A : Around}
open PySem.SeqAt (EqAt EqIn RcAt RcNeAt rc_eq_decline_or rc_ne_decline_or)
theorem dict_obj {a : Addr} {ks : List (Key × Value)} (p : s.heap.DictOf (mixKind P w) a ks) : ∃ es ep, s.heap.get? a = some { cls := .type "dict", dict := none, data := .dict es ep, slots := #[] } := by
  obtain ⟨⟨c, d, dt, sl⟩, es, ep, h1, ⟨c1, c2, c3⟩, h2, _⟩ := p
  simp only at c1 c2 c3 h2
  subst c1 c2 c3 h2
  exact ⟨es, ep, h1⟩
/-- dict.__eq__, dict.__ne__ of a thing that is no dict -/
theorem deq_decl {E : Value → Shared → Prop} {a : Addr} {u : Value} {T : String} {Q : Value → Shared → Prop} (ha : s.TypeIs (.ref a) "dict") (hu : s.TypeIs u T) (hs : isSubtype (.type T) (.type "dict") = pure false) (q : Q .notImplemented s) :
    wpAny (model P w) A (call (.builtin "dict.__eq__") [.ref a, u]) Q E s := by
  refine wpAny_call_entry PySem.F.slot_dict_eq ha PySem.F.entry_dict_eq ?_ (PySem.F.args_dict_eq_2 _ _)
  show wpAny _ _ (Builtin.Dict.dictSlotArgs "__eq__" ⟨[.ref a, u], []⟩ >>= _) _ _ s
  refine wpAny_bind ?_
  unfold Builtin.Dict.dictSlotArgs
  refine wpAny_bind (wpAny_notOrdered_dict ha ?_)
  show wpAny _ _ (pure (Value.ref a, u)) _ _ s
  refine wpAny_pure ?_
  refine wpAny_bind (wpAny_isInstance (T := T) hu hs ?_)
  simp only [Bool.not_false, if_true]
  exact wpAny_bind (wpAny_rule (wpAny_pure ⟨_, rfl, q⟩))
theorem dne_decl {E : Value → Shared → Prop} {a : Addr} {u : Value} {T : String} {Q : Value → Shared → Prop} (ha : s.TypeIs (.ref a) "dict") (hu : s.TypeIs u T) (hs : isSubtype (.type T) (.type "dict") = pure false) (q : Q .notImplemented s) :
    wpAny (model P w) A (call (.builtin "dict.__ne__") [.ref a, u]) Q E s := by
  refine wpAny_call_entry PySem.F.slot_dict_ne ha PySem.F.entry_dict_ne ?_ (PySem.F.args_dict_ne_2 _ _)
  show wpAny _ _ (Builtin.Dict.dictSlotArgs "__ne__" ⟨[.ref a, u], []⟩ >>= _) _ _ s
  refine wpAny_bind ?_
  unfold Builtin.Dict.dictSlotArgs
  refine wpAny_bind (wpAny_notOrdered_dict ha ?_)
  show wpAny _ _ (pure (Value.ref a, u)) _ _ s
  refine wpAny_pure ?_
  refine wpAny_bind (wpAny_isInstance (T := T) hu hs ?_)
  simp only [Bool.not_false, if_true]
  exact wpAny_bind (wpAny_rule (wpAny_pure ⟨_, rfl, q⟩))
abbrev dObj (es : Array DictEntry) (ep : Nat) : Obj := { cls := .type "dict", dict := none, data := .dict es ep, slots := #[] }
open PySem.AutoSeq1 (wpAny_loadPart')
theorem int_eq_d (b : Int) (u : Tok) (l : Addr) (es : Array DictEntry) (ep : Nat) :
    Meets (Builtin.«int.__eq__» ⟨[.int b u, .ref l], []⟩) (fun _ R s => s.heap.get? l = some (dObj es ep) ∧ R (.ok (.ret .notImplemented)) s) :=
  .of_wp fun prog w A R s hq => by obtain ⟨hp, g, d, tk, os⟩ := s; obtain ⟨hl, hr⟩ := hq; wp_walk using wpAny_loadPart' hl, wpAny_load hl; exact ⟨_, rfl, hr⟩
theorem int_ne_d (b : Int) (u : Tok) (l : Addr) (es : Array DictEntry) (ep : Nat) :
    Meets (Builtin.«int.__ne__» ⟨[.int b u, .ref l], []⟩) (fun _ R s => s.heap.get? l = some (dObj es ep) ∧ R (.ok (.ret .notImplemented)) s) :=
  .of_wp fun prog w A R s hq => by obtain ⟨hp, g, d, tk, os⟩ := s; obtain ⟨hl, hr⟩ := hq; wp_walk using wpAny_loadPart' hl, wpAny_load hl; exact ⟨_, rfl, hr⟩
theorem bool_eq_d (b : Bool) (l : Addr) (es : Array DictEntry) (ep : Nat) :
    Meets (Builtin.«int.__eq__» ⟨[.bool b, .ref l], []⟩) (fun _ R s => s.heap.get? l = some (dObj es ep) ∧ R (.ok (.ret .notImplemented)) s) :=
  .of_wp fun prog w A R s hq => by obtain ⟨hp, g, d, tk, os⟩ := s; obtain ⟨hl, hr⟩ := hq; wp_walk using wpAny_loadPart' hl, wpAny_load hl; exact ⟨_, rfl, hr⟩
theorem bool_ne_d (b : Bool) (l : Addr) (es : Array DictEntry) (ep : Nat) :
    Meets (Builtin.«int.__ne__» ⟨[.bool b, .ref l], []⟩) (fun _ R s => s.heap.get? l = some (dObj es ep) ∧ R (.ok (.ret .notImplemented)) s) :=
  .of_wp fun prog w A R s hq => by obtain ⟨hp, g, d, tk, os⟩ := s; obtain ⟨hl, hr⟩ := hq; wp_walk using wpAny_loadPart' hl, wpAny_load hl; exact ⟨_, rfl, hr⟩
theorem str_eq_d (b : Str) (u : Tok) (l : Addr) (es : Array DictEntry) (ep : Nat) :
    Meets (Builtin.«str.__eq__» ⟨[.str b u, .ref l], []⟩) (fun _ R s => s.heap.get? l = some (dObj es ep) ∧ R (.ok (.ret .notImplemented)) s) :=
  .of_wp fun prog w A R s hq => by obtain ⟨hp, g, d, tk, os⟩ := s; obtain ⟨hl, hr⟩ := hq; wp_walk using wpAny_loadPart' hl, wpAny_load hl; exact ⟨_, rfl, hr⟩
theorem str_ne_d (b : Str) (u : Tok) (l : Addr) (es : Array DictEntry) (ep : Nat) :
    Meets (Builtin.«str.__ne__» ⟨[.str b u, .ref l], []⟩) (fun _ R s => s.heap.get? l = some (dObj es ep) ∧ R (.ok (.ret .notImplemented)) s) :=
  .of_wp fun prog w A R s hq => by obtain ⟨hp, g, d, tk, os⟩ := s; obtain ⟨hl, hr⟩ := hq; wp_walk using wpAny_loadPart' hl, wpAny_load hl; exact ⟨_, rfl, hr⟩
theorem list_eq_d (l b : Addr) (its : Array Value) (n : Nat) (dd : Option Addr) (sl : Array (Option Value)) (es : Array DictEntry) (ep : Nat) :
    Meets (Builtin.«list.__eq__» ⟨[.ref l, .ref b], []⟩) (fun _ R s => s.heap.get? l = some { cls := .type "list", dict := dd, data := .seq its n, slots := sl } ∧ s.heap.get? b = some (dObj es ep) ∧ R (.ok (.ret .notImplemented)) s) :=
  .of_wp fun prog w A R s hq => by obtain ⟨hp, g, d, tk, os⟩ := s; obtain ⟨hl, hb, hr⟩ := hq; have f1 := F.sub_dict_list; wp_walk using wpAny_loadPart' hl, wpAny_loadPart' hb; exact ⟨_, rfl, hr⟩
theorem list_ne_d (l b : Addr) (its : Array Value) (n : Nat) (dd : Option Addr) (sl : Array (Option Value)) (es : Array DictEntry) (ep : Nat) :
    Meets (Builtin.«list.__ne__» ⟨[.ref l, .ref b], []⟩) (fun _ R s => s.heap.get? l = some { cls := .type "list", dict := dd, data := .seq its n, slots := sl } ∧ s.heap.get? b = some (dObj es ep) ∧ R (.ok (.ret .notImplemented)) s) :=
  .of_wp fun prog w A R s hq => by obtain ⟨hp, g, d, tk, os⟩ := s; obtain ⟨hl, hb, hr⟩ := hq; have f1 := F.sub_dict_list; wp_walk using wpAny_loadPart' hl, wpAny_loadPart' hb; exact ⟨_, rfl, hr⟩
theorem tuple_eq_d (l b : Addr) (its : Array Value) (n : Nat) (dd : Option Addr) (sl : Array (Option Value)) (es : Array DictEntry) (ep : Nat) :
    Meets (Builtin.«tuple.__eq__» ⟨[.ref l, .ref b], []⟩) (fun _ R s => s.heap.get? l = some { cls := .type "tuple", dict := dd, data := .seq its n, slots := sl } ∧ s.heap.get? b = some (dObj es ep) ∧ R (.ok (.ret .notImplemented)) s) :=
  .of_wp fun prog w A R s hq => by obtain ⟨hp, g, d, tk, os⟩ := s; obtain ⟨hl, hb, hr⟩ := hq; have f1 := F.sub_dict_tuple; wp_walk using wpAny_loadPart' hl, wpAny_loadPart' hb; exact ⟨_, rfl, hr⟩
theorem tuple_ne_d (l b : Addr) (its : Array Value) (n : Nat) (dd : Option Addr) (sl : Array (Option Value)) (es : Array DictEntry) (ep : Nat) :
    Meets (Builtin.«tuple.__ne__» ⟨[.ref l, .ref b], []⟩) (fun _ R s => s.heap.get? l = some { cls := .type "tuple", dict := dd, data := .seq its n, slots := sl } ∧ s.heap.get? b = some (dObj es ep) ∧ R (.ok (.ret .notImplemented)) s) :=
  .of_wp fun prog w A R s hq => by obtain ⟨hp, g, d, tk, os⟩ := s; obtain ⟨hl, hb, hr⟩ := hq; have f1 := F.sub_dict_tuple; wp_walk using wpAny_loadPart' hl, wpAny_loadPart' hb; exact ⟨_, rfl, hr⟩
theorem same_no {M : Model} {E : Value → Shared → Prop} {x y : Addr} {ox oy : Obj} {R : Bool → Shared → Prop} (hxy : x ≠ y) (hx : s.heap.get? x = some ox) (hy : s.heap.get? y = some oy) (nt : ox.cls ≠ .type "tuple" ∨ oy.cls ≠ .type "tuple")
    (q : R false s) : wpAny M A (isSame (.ref x) (.ref y)) R E s := by
  show wpAny M A (if (x == y) = true then pure true else _) R E s
  rw [if_neg (by simpa using hxy)]
  refine wpAny_bind (wpAny_load hx (wpAny_bind (wpAny_load hy ?_)))
  split
  · rename_i h1 h2 _ _
    rcases nt with z | z
    · exact absurd h1 z
    · exact absurd h2 z
  · exact wpAny_pure q
/-- the comparison v op u answers b -/
def RcIn (P : Program) (w : World) (A : Around) (s : Shared) (op : CmpOp) (v u : Value) (b : Bool) : Prop :=
  ∀ (E Q : Value → Shared → Prop), Q (.bool b) s → wpAny (model P w) A (richCompare op v u) Q E s
theorem deq_or_eq {E : Value → Shared → Prop} {a : Addr} {u : Value} {T : String} {Q : Value → Shared → Prop} (ha : s.TypeIs (.ref a) "dict") (hu : s.TypeIs u T) (hs : isSubtype (.type T) (.type "dict") = pure false) (q : Q .notImplemented s) :
    wpAny (model P w) A (call (.builtin "dict.__eq__") [.ref a, u]) Q E s := deq_decl ha hu hs q
theorem deq_or_ne {E : Value → Shared → Prop} {a : Addr} {u : Value} {T : String} {Q : Value → Shared → Prop} (ha : s.TypeIs (.ref a) "dict") (hu : s.TypeIs u T) (hs : isSubtype (.type T) (.type "dict") = pure false) (q : Q .notImplemented s) :
    wpAny (model P w) A (call (.builtin "dict.__ne__") [.ref a, u]) Q E s := dne_decl ha hu hs q
theorem d_eq_none {a : Addr} {ks : List (Key × Value)} (p : s.heap.DictOf (mixKind P w) a ks) (hu : A.units < cLine) : RcIn P w A s .Eq (.ref a) .none false := fun E Q hx => by
  obtain ⟨es, ep, ho⟩ := dict_obj p
  exact SeqAt.rc_eq_decline_or (k := false) (Ta := "dict") (Tb := "NoneType") ⟨_, ho, rfl⟩ rfl (by decide) F.sub_NoneType_dict F.slot_dict_eq F.slot_NoneType_eq_refl
    (fun _ hq => deq_or_eq (T := "NoneType") ⟨_, ho, rfl⟩ rfl F.sub_NoneType_dict hq) (fun _ hq => call_gives F.slot_NoneType_eq_refl rfl F.entry_NoneType_eq (F.args_NoneType_eq_2 _ _) (SeqAt.NoneType___eq___none_ref_0 a) hq)
    (fun _ hq => wpAny_of_eq (rfl : isSame (.ref a) .none = pure false) hq) (.inr hu) hx
theorem none_eq_dd {a : Addr} {ks : List (Key × Value)} (p : s.heap.DictOf (mixKind P w) a ks) (hu : A.units < cLine) : RcIn P w A s .Eq .none (.ref a) false := fun E Q hx => by
  obtain ⟨es, ep, ho⟩ := dict_obj p
  exact SeqAt.rc_eq_decline_or (k := false) (Ta := "NoneType") (Tb := "dict") rfl ⟨_, ho, rfl⟩ (by decide) F.sub_dict_NoneType F.slot_NoneType_eq F.slot_dict_eq_refl
    (fun _ hq => call_gives F.slot_NoneType_eq rfl F.entry_NoneType_eq (F.args_NoneType_eq_2 _ _) (SeqAt.NoneType___eq___none_ref_0 a) hq) (fun _ hq => deq_or_eq (T := "NoneType") ⟨_, ho, rfl⟩ rfl F.sub_NoneType_dict hq)
    (fun _ hq => wpAny_of_eq (rfl : isSame .none (.ref a) = pure false) hq) (.inr hu) hx
theorem d_eq_bool (b : Bool) {a : Addr} {ks : List (Key × Value)} (p : s.heap.DictOf (mixKind P w) a ks) (hu : A.units < cLine) : RcIn P w A s .Eq (.ref a) (.bool b) false := fun E Q hx => by
  obtain ⟨es, ep, ho⟩ := dict_obj p
  exact SeqAt.rc_eq_decline_or (k := false) (Ta := "dict") (Tb := "bool") ⟨_, ho, rfl⟩ rfl (by decide) F.sub_bool_dict F.slot_dict_eq F.slot_bool_eq_refl
    (fun _ hq => deq_or_eq (T := "bool") ⟨_, ho, rfl⟩ rfl F.sub_bool_dict hq) (fun _ hq => call_meets F.slot_bool_eq_refl rfl F.entry_int_eq (F.args_int_eq_2 _ _) (bool_eq_d b a es ep) ⟨ho, hq⟩)
    (fun _ hq => wpAny_of_eq (rfl : isSame (.ref a) (.bool b) = pure false) hq) (.inr hu) hx
theorem bool_eq_dd (b : Bool) {a : Addr} {ks : List (Key × Value)} (p : s.heap.DictOf (mixKind P w) a ks) (hu : A.units < cLine) : RcIn P w A s .Eq (.bool b) (.ref a) false := fun E Q hx => by
  obtain ⟨es, ep, ho⟩ := dict_obj p
  exact SeqAt.rc_eq_decline_or (k := false) (Ta := "bool") (Tb := "dict") rfl ⟨_, ho, rfl⟩ (by decide) F.sub_dict_bool F.slot_bool_eq F.slot_dict_eq_refl
    (fun _ hq => call_meets F.slot_bool_eq rfl F.entry_int_eq (F.args_int_eq_2 _ _) (bool_eq_d b a es ep) ⟨ho, hq⟩) (fun _ hq => deq_or_eq (T := "bool") ⟨_, ho, rfl⟩ rfl F.sub_bool_dict hq)
    (fun _ hq => wpAny_of_eq (rfl : isSame (.bool b) (.ref a) = pure false) hq) (.inr hu) hx
theorem d_eq_int (b : Int) (t : Tok) {a : Addr} {ks : List (Key × Value)} (p : s.heap.DictOf (mixKind P w) a ks) (hu : A.units < cLine) : RcIn P w A s .Eq (.ref a) (.int b t) false := fun E Q hx => by
  obtain ⟨es, ep, ho⟩ := dict_obj p
  exact SeqAt.rc_eq_decline_or (k := false) (Ta := "dict") (Tb := "int") ⟨_, ho, rfl⟩ rfl (by decide) F.sub_int_dict F.slot_dict_eq F.slot_int_eq_refl
    (fun _ hq => deq_or_eq (T := "int") ⟨_, ho, rfl⟩ rfl F.sub_int_dict hq) (fun _ hq => call_meets F.slot_int_eq_refl rfl F.entry_int_eq (F.args_int_eq_2 _ _) (int_eq_d b t a es ep) ⟨ho, hq⟩)
    (fun _ hq => wpAny_of_eq (rfl : isSame (.ref a) (.int b t) = pure false) hq) (.inr hu) hx
theorem int_eq_dd (b : Int) (t : Tok) {a : Addr} {ks : List (Key × Value)} (p : s.heap.DictOf (mixKind P w) a ks) (hu : A.units < cLine) : RcIn P w A s .Eq (.int b t) (.ref a) false := fun E Q hx => by
  obtain ⟨es, ep, ho⟩ := dict_obj p
  exact SeqAt.rc_eq_decline_or (k := false) (Ta := "int") (Tb := "dict") rfl ⟨_, ho, rfl⟩ (by decide) F.sub_dict_int F.slot_int_eq F.slot_dict_eq_refl
    (fun _ hq => call_meets F.slot_int_eq rfl F.entry_int_eq (F.args_int_eq_2 _ _) (int_eq_d b t a es ep) ⟨ho, hq⟩) (fun _ hq => deq_or_eq (T := "int") ⟨_, ho, rfl⟩ rfl F.sub_int_dict hq)
    (fun _ hq => wpAny_of_eq (rfl : isSame (.int b t) (.ref a) = pure false) hq) (.inr hu) hx
theorem d_eq_str (b : Str) (t : Tok) {a : Addr} {ks : List (Key × Value)} (p : s.heap.DictOf (mixKind P w) a ks) (hu : A.units < cLine) : RcIn P w A s .Eq (.ref a) (.str b t) false := fun E Q hx => by
  obtain ⟨es, ep, ho⟩ := dict_obj p
  exact SeqAt.rc_eq_decline_or (k := false) (Ta := "dict") (Tb := "str") ⟨_, ho, rfl⟩ rfl (by decide) F.sub_str_dict F.slot_dict_eq F.slot_str_eq_refl
    (fun _ hq => deq_or_eq (T := "str") ⟨_, ho, rfl⟩ rfl F.sub_str_dict hq) (fun _ hq => call_meets F.slot_str_eq_refl rfl F.entry_str_eq (F.args_str_eq_2 _ _) (str_eq_d b t a es ep) ⟨ho, hq⟩)
    (fun _ hq => wpAny_of_eq (rfl : isSame (.ref a) (.str b t) = pure false) hq) (.inr hu) hx
theorem str_eq_dd (b : Str) (t : Tok) {a : Addr} {ks : List (Key × Value)} (p : s.heap.DictOf (mixKind P w) a ks) (hu : A.units < cLine) : RcIn P w A s .Eq (.str b t) (.ref a) false := fun E Q hx => by
  obtain ⟨es, ep, ho⟩ := dict_obj p
  exact SeqAt.rc_eq_decline_or (k := false) (Ta := "str") (Tb := "dict") rfl ⟨_, ho, rfl⟩ (by decide) F.sub_dict_str F.slot_str_eq F.slot_dict_eq_refl
    (fun _ hq => call_meets F.slot_str_eq rfl F.entry_str_eq (F.args_str_eq_2 _ _) (str_eq_d b t a es ep) ⟨ho, hq⟩) (fun _ hq => deq_or_eq (T := "str") ⟨_, ho, rfl⟩ rfl F.sub_str_dict hq)
    (fun _ hq => wpAny_of_eq (rfl : isSame (.str b t) (.ref a) = pure false) hq) (.inr hu) hx
theorem d_eq_list {a b : Addr} {ks : List (Key × Value)} {its : Array Value} (p : s.heap.DictOf (mixKind P w) a ks) (q : s.heap.IsList b its) (hu : A.units < cLine) : RcIn P w A s .Eq (.ref a) (.ref b) false := fun E Q hx => by
  have ne : a ≠ b := by rintro rfl; exact dict_not_list p q
  obtain ⟨es, ep, ho⟩ := dict_obj p
  obtain ⟨⟨cls, dd, data, sl⟩, hl, hc, n, hd⟩ := id q
  simp only at hc hd
  subst hc hd
  exact SeqAt.rc_eq_decline_or (k := false) (Ta := "dict") (Tb := "list") ⟨_, ho, rfl⟩ ⟨_, hl, rfl⟩ (by decide) F.sub_list_dict F.slot_dict_eq F.slot_list_eq_refl
    (fun _ hq => deq_or_eq (T := "list") ⟨_, ho, rfl⟩ ⟨_, hl, rfl⟩ F.sub_list_dict hq)
    (fun _ hq => call_meets F.slot_list_eq_refl ⟨_, hl, rfl⟩ F.entry_list_eq (F.args_list_eq_2 _ _) (list_eq_d b a its n dd sl es ep) ⟨hl, ho, hq⟩)
    (fun _ hq => same_no ne ho hl (.inl (show Value.type "dict" ≠ .type "tuple" by decide)) hq) (.inr hu) hx
theorem list_eq_dd {a b : Addr} {ks : List (Key × Value)} {its : Array Value} (p : s.heap.DictOf (mixKind P w) a ks) (q : s.heap.IsList b its) (hu : A.units < cLine) : RcIn P w A s .Eq (.ref b) (.ref a) false := fun E Q hx => by
  have ne : b ≠ a := by rintro rfl; exact dict_not_list p q
  obtain ⟨es, ep, ho⟩ := dict_obj p
  obtain ⟨⟨cls, dd, data, sl⟩, hl, hc, n, hd⟩ := id q
  simp only at hc hd
  subst hc hd
  exact SeqAt.rc_eq_decline_or (k := false) (Ta := "list") (Tb := "dict") ⟨_, hl, rfl⟩ ⟨_, ho, rfl⟩ (by decide) F.sub_dict_list F.slot_list_eq F.slot_dict_eq_refl
    (fun _ hq => call_meets F.slot_list_eq ⟨_, hl, rfl⟩ F.entry_list_eq (F.args_list_eq_2 _ _) (list_eq_d b a its n dd sl es ep) ⟨hl, ho, hq⟩)
    (fun _ hq => deq_or_eq (T := "list") ⟨_, ho, rfl⟩ ⟨_, hl, rfl⟩ F.sub_list_dict hq)
    (fun _ hq => same_no ne hl ho (.inr (show Value.type "dict" ≠ .type "tuple" by decide)) hq) (.inr hu) hx
theorem d_eq_tuple {a b : Addr} {ks : List (Key × Value)} {its : Array Value} (p : s.heap.DictOf (mixKind P w) a ks) (q : s.heap.IsTuple b its) (hu : A.units < cLine) : RcIn P w A s .Eq (.ref a) (.ref b) false := fun E Q hx => by
  have ne : a ≠ b := by rintro rfl; exact dict_not_tuple p q
  obtain ⟨es, ep, ho⟩ := dict_obj p
  obtain ⟨⟨cls, dd, data, sl⟩, hl, hc, n, hd⟩ := id q
  simp only at hc hd
  subst hc hd
  exact SeqAt.rc_eq_decline_or (k := false) (Ta := "dict") (Tb := "tuple") ⟨_, ho, rfl⟩ ⟨_, hl, rfl⟩ (by decide) F.sub_tuple_dict F.slot_dict_eq F.slot_tuple_eq_refl
    (fun _ hq => deq_or_eq (T := "tuple") ⟨_, ho, rfl⟩ ⟨_, hl, rfl⟩ F.sub_tuple_dict hq)
    (fun _ hq => call_meets F.slot_tuple_eq_refl ⟨_, hl, rfl⟩ F.entry_tuple_eq (F.args_tuple_eq_2 _ _) (tuple_eq_d b a its n dd sl es ep) ⟨hl, ho, hq⟩)
    (fun _ hq => same_no ne ho hl (.inl (show Value.type "dict" ≠ .type "tuple" by decide)) hq) (.inr hu) hx
theorem tuple_eq_dd {a b : Addr} {ks : List (Key × Value)} {its : Array Value} (p : s.heap.DictOf (mixKind P w) a ks) (q : s.heap.IsTuple b its) (hu : A.units < cLine) : RcIn P w A s .Eq (.ref b) (.ref a) false := fun E Q hx => by
  have ne : b ≠ a := by rintro rfl; exact dict_not_tuple p q
  obtain ⟨es, ep, ho⟩ := dict_obj p
  obtain ⟨⟨cls, dd, data, sl⟩, hl, hc, n, hd⟩ := id q
  simp only at hc hd
  subst hc hd
  exact SeqAt.rc_eq_decline_or (k := false) (Ta := "tuple") (Tb := "dict") ⟨_, hl, rfl⟩ ⟨_, ho, rfl⟩ (by decide) F.sub_dict_tuple F.slot_tuple_eq F.slot_dict_eq_refl
    (fun _ hq => call_meets F.slot_tuple_eq ⟨_, hl, rfl⟩ F.entry_tuple_eq (F.args_tuple_eq_2 _ _) (tuple_eq_d b a its n dd sl es ep) ⟨hl, ho, hq⟩)
    (fun _ hq => deq_or_eq (T := "tuple") ⟨_, ho, rfl⟩ ⟨_, hl, rfl⟩ F.sub_tuple_dict hq)
    (fun _ hq => same_no ne hl ho (.inr (show Value.type "dict" ≠ .type "tuple" by decide)) hq) (.inr hu) hx
theorem d_ne_none {a : Addr} {ks : List (Key × Value)} (p : s.heap.DictOf (mixKind P w) a ks) (hu : A.units < cLine) : RcIn P w A s .NotEq (.ref a) .none true := fun E Q hx => by
  obtain ⟨es, ep, ho⟩ := dict_obj p
  exact SeqAt.rc_ne_decline_or (k := false) (Ta := "dict") (Tb := "NoneType") ⟨_, ho, rfl⟩ rfl (by decide) F.sub_NoneType_dict F.slot_dict_ne F.slot_NoneType_ne_refl
    (fun _ hq => deq_or_ne (T := "NoneType") ⟨_, ho, rfl⟩ rfl F.sub_NoneType_dict hq) (fun _ hq => call_gives F.slot_NoneType_ne_refl rfl F.entry_NoneType_ne (F.args_NoneType_ne_2 _ _) (SeqAt.NoneType___ne___none_ref_0 a) hq)
    (fun _ hq => wpAny_of_eq (rfl : isSame (.ref a) .none = pure false) hq) (.inr hu) hx
theorem none_ne_dd {a : Addr} {ks : List (Key × Value)} (p : s.heap.DictOf (mixKind P w) a ks) (hu : A.units < cLine) : RcIn P w A s .NotEq .none (.ref a) true := fun E Q hx => by
  obtain ⟨es, ep, ho⟩ := dict_obj p
  exact SeqAt.rc_ne_decline_or (k := false) (Ta := "NoneType") (Tb := "dict") rfl ⟨_, ho, rfl⟩ (by decide) F.sub_dict_NoneType F.slot_NoneType_ne F.slot_dict_ne_refl
    (fun _ hq => call_gives F.slot_NoneType_ne rfl F.entry_NoneType_ne (F.args_NoneType_ne_2 _ _) (SeqAt.NoneType___ne___none_ref_0 a) hq) (fun _ hq => deq_or_ne (T := "NoneType") ⟨_, ho, rfl⟩ rfl F.sub_NoneType_dict hq)
    (fun _ hq => wpAny_of_eq (rfl : isSame .none (.ref a) = pure false) hq) (.inr hu) hx
theorem d_ne_bool (b : Bool) {a : Addr} {ks : List (Key × Value)} (p : s.heap.DictOf (mixKind P w) a ks) (hu : A.units < cLine) : RcIn P w A s .NotEq (.ref a) (.bool b) true := fun E Q hx => by
  obtain ⟨es, ep, ho⟩ := dict_obj p
  exact SeqAt.rc_ne_decline_or (k := false) (Ta := "dict") (Tb := "bool") ⟨_, ho, rfl⟩ rfl (by decide) F.sub_bool_dict F.slot_dict_ne F.slot_bool_ne_refl
    (fun _ hq => deq_or_ne (T := "bool") ⟨_, ho, rfl⟩ rfl F.sub_bool_dict hq) (fun _ hq => call_meets F.slot_bool_ne_refl rfl F.entry_int_ne (F.args_int_ne_2 _ _) (bool_ne_d b a es ep) ⟨ho, hq⟩)
    (fun _ hq => wpAny_of_eq (rfl : isSame (.ref a) (.bool b) = pure false) hq) (.inr hu) hx
theorem bool_ne_dd (b : Bool) {a : Addr} {ks : List (Key × Value)} (p : s.heap.DictOf (mixKind P w) a ks) (hu : A.units < cLine) : RcIn P w A s .NotEq (.bool b) (.ref a) true := fun E Q hx => by
  obtain ⟨es, ep, ho⟩ := dict_obj p
  exact SeqAt.rc_ne_decline_or (k := false) (Ta := "bool") (Tb := "dict") rfl ⟨_, ho, rfl⟩ (by decide) F.sub_dict_bool F.slot_bool_ne F.slot_dict_ne_refl
    (fun _ hq => call_meets F.slot_bool_ne rfl F.entry_int_ne (F.args_int_ne_2 _ _) (bool_ne_d b a es ep) ⟨ho, hq⟩) (fun _ hq => deq_or_ne (T := "bool") ⟨_, ho, rfl⟩ rfl F.sub_bool_dict hq)
    (fun _ hq => wpAny_of_eq (rfl : isSame (.bool b) (.ref a) = pure false) hq) (.inr hu) hx
theorem d_ne_int (b : Int) (t : Tok) {a : Addr} {ks : List (Key × Value)} (p : s.heap.DictOf (mixKind P w) a ks) (hu : A.units < cLine) : RcIn P w A s .NotEq (.ref a) (.int b t) true := fun E Q hx => by
  obtain ⟨es, ep, ho⟩ := dict_obj p
  exact SeqAt.rc_ne_decline_or (k := false) (Ta := "dict") (Tb := "int") ⟨_, ho, rfl⟩ rfl (by decide) F.sub_int_dict F.slot_dict_ne F.slot_int_ne_refl
    (fun _ hq => deq_or_ne (T := "int") ⟨_, ho, rfl⟩ rfl F.sub_int_dict hq) (fun _ hq => call_meets F.slot_int_ne_refl rfl F.entry_int_ne (F.args_int_ne_2 _ _) (int_ne_d b t a es ep) ⟨ho, hq⟩)
    (fun _ hq => wpAny_of_eq (rfl : isSame (.ref a) (.int b t) = pure false) hq) (.inr hu) hx
theorem int_ne_dd (b : Int) (t : Tok) {a : Addr} {ks : List (Key × Value)} (p : s.heap.DictOf (mixKind P w) a ks) (hu : A.units < cLine) : RcIn P w A s .NotEq (.int b t) (.ref a) true := fun E Q hx => by
  obtain ⟨es, ep, ho⟩ := dict_obj p
  exact SeqAt.rc_ne_decline_or (k := false) (Ta := "int") (Tb := "dict") rfl ⟨_, ho, rfl⟩ (by decide) F.sub_dict_int F.slot_int_ne F.slot_dict_ne_refl
    (fun _ hq => call_meets F.slot_int_ne rfl F.entry_int_ne (F.args_int_ne_2 _ _) (int_ne_d b t a es ep) ⟨ho, hq⟩) (fun _ hq => deq_or_ne (T := "int") ⟨_, ho, rfl⟩ rfl F.sub_int_dict hq)
    (fun _ hq => wpAny_of_eq (rfl : isSame (.int b t) (.ref a) = pure false) hq) (.inr hu) hx
theorem d_ne_str (b : Str) (t : Tok) {a : Addr} {ks : List (Key × Value)} (p : s.heap.DictOf (mixKind P w) a ks) (hu : A.units < cLine) : RcIn P w A s .NotEq (.ref a) (.str b t) true := fun E Q hx => by
  obtain ⟨es, ep, ho⟩ := dict_obj p
  exact SeqAt.rc_ne_decline_or (k := false) (Ta := "dict") (Tb := "str") ⟨_, ho, rfl⟩ rfl (by decide) F.sub_str_dict F.slot_dict_ne F.slot_str_ne_refl
    (fun _ hq => deq_or_ne (T := "str") ⟨_, ho, rfl⟩ rfl F.sub_str_dict hq) (fun _ hq => call_meets F.slot_str_ne_refl rfl F.entry_str_ne (F.args_str_ne_2 _ _) (str_ne_d b t a es ep) ⟨ho, hq⟩)
    (fun _ hq => wpAny_of_eq (rfl : isSame (.ref a) (.str b t) = pure false) hq) (.inr hu) hx
theorem str_ne_dd (b : Str) (t : Tok) {a : Addr} {ks : List (Key × Value)} (p : s.heap.DictOf (mixKind P w) a ks) (hu : A.units < cLine) : RcIn P w A s .NotEq (.str b t) (.ref a) true := fun E Q hx => by
  obtain ⟨es, ep, ho⟩ := dict_obj p
  exact SeqAt.rc_ne_decline_or (k := false) (Ta := "str") (Tb := "dict") rfl ⟨_, ho, rfl⟩ (by decide) F.sub_dict_str F.slot_str_ne F.slot_dict_ne_refl
    (fun _ hq => call_meets F.slot_str_ne rfl F.entry_str_ne (F.args_str_ne_2 _ _) (str_ne_d b t a es ep) ⟨ho, hq⟩) (fun _ hq => deq_or_ne (T := "str") ⟨_, ho, rfl⟩ rfl F.sub_str_dict hq)
    (fun _ hq => wpAny_of_eq (rfl : isSame (.str b t) (.ref a) = pure false) hq) (.inr hu) hx
theorem d_ne_list {a b : Addr} {ks : List (Key × Value)} {its : Array Value} (p : s.heap.DictOf (mixKind P w) a ks) (q : s.heap.IsList b its) (hu : A.units < cLine) : RcIn P w A s .NotEq (.ref a) (.ref b) true := fun E Q hx => by
  have ne : a ≠ b := by rintro rfl; exact dict_not_list p q
  obtain ⟨es, ep, ho⟩ := dict_obj p
  obtain ⟨⟨cls, dd, data, sl⟩, hl, hc, n, hd⟩ := id q
  simp only at hc hd
  subst hc hd
  exact SeqAt.rc_ne_decline_or (k := false) (Ta := "dict") (Tb := "list") ⟨_, ho, rfl⟩ ⟨_, hl, rfl⟩ (by decide) F.sub_list_dict F.slot_dict_ne F.slot_list_ne_refl
    (fun _ hq => deq_or_ne (T := "list") ⟨_, ho, rfl⟩ ⟨_, hl, rfl⟩ F.sub_list_dict hq)
    (fun _ hq => call_meets F.slot_list_ne_refl ⟨_, hl, rfl⟩ F.entry_list_ne (F.args_list_ne_2 _ _) (list_ne_d b a its n dd sl es ep) ⟨hl, ho, hq⟩)
    (fun _ hq => same_no ne ho hl (.inl (show Value.type "dict" ≠ .type "tuple" by decide)) hq) (.inr hu) hx
theorem list_ne_dd {a b : Addr} {ks : List (Key × Value)} {its : Array Value} (p : s.heap.DictOf (mixKind P w) a ks) (q : s.heap.IsList b its) (hu : A.units < cLine) : RcIn P w A s .NotEq (.ref b) (.ref a) true := fun E Q hx => by
  have ne : b ≠ a := by rintro rfl; exact dict_not_list p q
  obtain ⟨es, ep, ho⟩ := dict_obj p
  obtain ⟨⟨cls, dd, data, sl⟩, hl, hc, n, hd⟩ := id q
  simp only at hc hd
  subst hc hd
  exact SeqAt.rc_ne_decline_or (k := false) (Ta := "list") (Tb := "dict") ⟨_, hl, rfl⟩ ⟨_, ho, rfl⟩ (by decide) F.sub_dict_list F.slot_list_ne F.slot_dict_ne_refl
    (fun _ hq => call_meets F.slot_list_ne ⟨_, hl, rfl⟩ F.entry_list_ne (F.args_list_ne_2 _ _) (list_ne_d b a its n dd sl es ep) ⟨hl, ho, hq⟩)
    (fun _ hq => deq_or_ne (T := "list") ⟨_, ho, rfl⟩ ⟨_, hl, rfl⟩ F.sub_list_dict hq)
    (fun _ hq => same_no ne hl ho (.inr (show Value.type "dict" ≠ .type "tuple" by decide)) hq) (.inr hu) hx
theorem d_ne_tuple {a b : Addr} {ks : List (Key × Value)} {its : Array Value} (p : s.heap.DictOf (mixKind P w) a ks) (q : s.heap.IsTuple b its) (hu : A.units < cLine) : RcIn P w A s .NotEq (.ref a) (.ref b) true := fun E Q hx => by
  have ne : a ≠ b := by rintro rfl; exact dict_not_tuple p q
  obtain ⟨es, ep, ho⟩ := dict_obj p
  obtain ⟨⟨cls, dd, data, sl⟩, hl, hc, n, hd⟩ := id q
  simp only at hc hd
  subst hc hd
  exact SeqAt.rc_ne_decline_or (k := false) (Ta := "dict") (Tb := "tuple") ⟨_, ho, rfl⟩ ⟨_, hl, rfl⟩ (by decide) F.sub_tuple_dict F.slot_dict_ne F.slot_tuple_ne_refl
    (fun _ hq => deq_or_ne (T := "tuple") ⟨_, ho, rfl⟩ ⟨_, hl, rfl⟩ F.sub_tuple_dict hq)
    (fun _ hq => call_meets F.slot_tuple_ne_refl ⟨_, hl, rfl⟩ F.entry_tuple_ne (F.args_tuple_ne_2 _ _) (tuple_ne_d b a its n dd sl es ep) ⟨hl, ho, hq⟩)
    (fun _ hq => same_no ne ho hl (.inl (show Value.type "dict" ≠ .type "tuple" by decide)) hq) (.inr hu) hx
theorem tuple_ne_dd {a b : Addr} {ks : List (Key × Value)} {its : Array Value} (p : s.heap.DictOf (mixKind P w) a ks) (q : s.heap.IsTuple b its) (hu : A.units < cLine) : RcIn P w A s .NotEq (.ref b) (.ref a) true := fun E Q hx => by
  have ne : b ≠ a := by rintro rfl; exact dict_not_tuple p q
  obtain ⟨es, ep, ho⟩ := dict_obj p
  obtain ⟨⟨cls, dd, data, sl⟩, hl, hc, n, hd⟩ := id q
  simp only at hc hd
  subst hc hd
  exact SeqAt.rc_ne_decline_or (k := false) (Ta := "tuple") (Tb := "dict") ⟨_, hl, rfl⟩ ⟨_, ho, rfl⟩ (by decide) F.sub_dict_tuple F.slot_tuple_ne F.slot_dict_ne_refl
    (fun _ hq => call_meets F.slot_tuple_ne ⟨_, hl, rfl⟩ F.entry_tuple_ne (F.args_tuple_ne_2 _ _) (tuple_ne_d b a its n dd sl es ep) ⟨hl, ho, hq⟩)
    (fun _ hq => deq_or_ne (T := "tuple") ⟨_, ho, rfl⟩ ⟨_, hl, rfl⟩ F.sub_tuple_dict hq)
    (fun _ hq => same_no ne hl ho (.inr (show Value.type "dict" ≠ .type "tuple" by decide)) hq) (.inr hu) hx
/-! ### lists, tuples, dicts of things whose == is known -/
section
open MeetsSeq MeetsSeq2 MeetsSeq3 SeqRoads2 SeqAt
abbrev lObj (xs : Array Value) (n : Nat) (dd : Option Addr) (sl : Array (Option Value)) : Obj := { cls := .type "list", dict := dd, data := .seq xs n, slots := sl }
abbrev tObj (xs : Array Value) (n : Nat) (dd : Option Addr) (sl : Array (Option Value)) : Obj := { cls := .type "tuple", dict := dd, data := .seq xs n, slots := sl }
theorem neLoopI (l b : Addr) (xs ys : Array Value) (n m : Nat) (dx dy : Option Addr) (sx sy : Array (Option Value)) (hsz : xs.size = ys.size) (e : Nat → Bool) (k : Nat) :
    ∀ i : Nat, xs.size - i = k → MeetsIn P w (Builtin.«list.__eq__.loop» ⟨[.ref l, .ref b, rawInt i, rawInt 3], []⟩)
      (fun A R s => s.heap.get? l = some (lObj xs n dx sx) ∧ s.heap.get? b = some (lObj ys m dy sy) ∧
        (∀ j (h1 : j < xs.size) (h2 : j < ys.size), EqIn P w A.in1 s xs[j] ys[j] (e j)) ∧
        R (.ok (.ret (.bool (!((List.range xs.size).drop i).all e)))) s) := by
  induction k with
  | zero =>
    intro i hk A R s hq
    obtain ⟨hp, g, d, tk, os⟩ := s; obtain ⟨hl, hb, he, hr⟩ := hq
    wp_walk using wpAny_loadPart' hl, wpAny_loadPart' hb
    have o1 : xs[((i : Nat) : Int).toNat]? = none := by simp; omega
    have o2 : ys[((i : Nat) : Int).toNat]? = none := by simp; omega
    have dn : (List.range xs.size).drop i = [] := by simp; omega
    rw [dn] at hr
    rw [o1, o2]
    wp_walk using wpAny_loadPart' hl, wpAny_loadPart' hb
    show R (.ok (.ret (.bool (xs.size != ys.size)))) _
    rw [hsz]
    simpa using hr
  | succ k ih =>
    intro i hk A R s hq
    obtain ⟨hp, g, d, tk, os⟩ := s; obtain ⟨hl, hb, he, hr⟩ := hq
    wp_walk using wpAny_loadPart' hl, wpAny_loadPart' hb
    have l1 : i < xs.size := by omega
    have l2 : i < ys.size := by omega
    have o1 : xs[((i : Nat) : Int).toNat]? = some xs[i] := by simp [l1]
    have o2 : ys[((i : Nat) : Int).toNat]? = some ys[i] := by simp [l2]
    have dn : (List.range xs.size).drop i = i :: (List.range xs.size).drop (i + 1) := by simp [List.drop_eq_getElem_cons, l1]
    have ci : ((i : Int) + 1) = ((i + 1 : Nat) : Int) := by push_cast; rfl
    rw [dn, List.all_cons] at hr
    rw [o1, o2]
    refine wpAny_bind (he i l1 l2 _ _ ?_)
    cases be : e i with
    | true =>
      rw [be] at hr
      wp_walk
      rw [ci]
      exact ⟨plainId_quiet plain_eq_loop _, codeAny_builtin entry_eq_loop (by
        rw [Around.under_plainId plain_eq_loop _]
        exact ih (i + 1) (by omega) A R _ ⟨hl, hb, he, by simpa using hr⟩)⟩
    | false =>
      rw [be] at hr
      wp_walk using wpAny_loadPart' hl, wpAny_loadPart' hb
      rw [o1, o2]
      wp_walk
      simpa using hr
theorem listNeI (l b : Addr) (xs ys : Array Value) (n m : Nat) (dx dy : Option Addr) (sx sy : Array (Option Value)) (hsz : xs.size = ys.size) (e : Nat → Bool) :
    MeetsIn P w (Builtin.«list.__ne__» ⟨[.ref l, .ref b], []⟩)
      (fun A R s => s.heap.get? l = some (lObj xs n dx sx) ∧ s.heap.get? b = some (lObj ys m dy sy) ∧
        (∀ j (h1 : j < xs.size) (h2 : j < ys.size), EqIn P w A.in1 s xs[j] ys[j] (e j)) ∧
        R (.ok (.ret (.bool (!(List.range xs.size).all e)))) s) := by
  intro A R s hq
  obtain ⟨hp, g, d, tk, os⟩ := s; obtain ⟨hl, hb, he, hr⟩ := hq
  have f3 := AutoSeq1.sub_list_list
  have hne : ¬ (xs.size != ys.size) = true := by simp [hsz]
  wp_walk using wpAny_loadPart' hl, wpAny_loadPart' hb
  exact ⟨plainId_quiet plain_eq_loop _, codeAny_builtin entry_eq_loop (by
    rw [Around.under_plainId plain_eq_loop _]
    exact neLoopI l b xs ys n m dx dy sx sy hsz e _ 0 rfl A R _ ⟨hl, hb, he, by simpa using hr⟩)⟩
theorem tupleNeI (l b : Addr) (xs ys : Array Value) (n m : Nat) (dx dy : Option Addr) (sx sy : Array (Option Value)) (e : Nat → Bool) :
    MeetsIn P w (Builtin.«tuple.__ne__» ⟨[.ref l, .ref b], []⟩)
      (fun A R s => s.heap.get? l = some (tObj xs n dx sx) ∧ s.heap.get? b = some (tObj ys m dy sy) ∧
        (∀ j (h1 : j < xs.size) (h2 : j < ys.size), EqIn P w A.in1 s xs[j] ys[j] (e j)) ∧
        R (.ok (.ret (.bool (!((List.range (min xs.size ys.size)).all e && xs.size == ys.size))))) s) := by
  intro A R s hq
  obtain ⟨hp, g, d, tk, os⟩ := s; obtain ⟨hl, hb, he, hr⟩ := hq
  have f2 := AutoSeq1.sub_tuple_tuple
  have zl : (xs.toList.zip ys.toList).length = min xs.size ys.size := by simp
  wp_walk using wpAny_loadPart' hl, wpAny_loadPart' hb, wpAny_forIn_list _ (fun rest b s' => b.1 = none ∧ s' = ⟨hp, g, d, tk, os⟩ ∧ ∃ i, rest = (xs.toList.zip ys.toList).drop i ∧
    R (.ok (.ret (.bool (!(((List.range (min xs.size ys.size)).drop i).all e && xs.size == ys.size))))) ⟨hp, g, d, tk, os⟩) _
  case turn =>
    rintro ⟨y, x⟩ rest b s' ⟨eb, rfl, i, hz, hR⟩
    have lt : i < (xs.toList.zip ys.toList).length := by
      rcases Nat.lt_or_ge i (xs.toList.zip ys.toList).length with z | z
      · exact z
      · rw [List.drop_of_length_le z] at hz; cases hz
    have hm : i < min xs.size ys.size := zl ▸ lt
    have h1 : i < xs.size := Nat.lt_of_lt_of_le hm (Nat.min_le_left _ _)
    have h2 : i < ys.size := Nat.lt_of_lt_of_le hm (Nat.min_le_right _ _)
    rw [List.drop_eq_getElem_cons lt] at hz
    injection hz with hyx hrest
    have ey : y = xs[i] := by have := congrArg Prod.fst hyx; simpa using this
    have ex : x = ys[i] := by have := congrArg Prod.snd hyx; simpa using this
    subst ey ex
    have dn : (List.range (min xs.size ys.size)).drop i = i :: (List.range (min xs.size ys.size)).drop (i + 1) := by simp [List.drop_eq_getElem_cons, hm]
    rw [dn, List.all_cons] at hR
    refine wpAny_bind (he i h1 h2 _ _ ?_)
    cases be : e i with
    | true =>
      rw [be] at hR
      wp_walk
      exact ⟨rfl, rfl, i + 1, hrest, by simpa using hR⟩
    | false =>
      rw [be] at hR
      wp_walk
      simpa using hR
  case fin =>
    rintro ⟨b1, b2⟩ s' ⟨eb, rfl, i, hz, hR⟩
    simp only at eb
    subst eb
    have ge : min xs.size ys.size ≤ i := by
      rcases Nat.lt_or_ge i (xs.toList.zip ys.toList).length with z | z
      · rw [List.drop_eq_getElem_cons z] at hz; cases hz
      · exact zl ▸ z
    rw [List.drop_of_length_le (by simpa using ge)] at hR
    wp_walk
    simpa [Builtin.Tuple.tupleCompareSizes, bne] using hR
  case h =>
    exact ⟨rfl, rfl, 0, rfl, by simpa using hr⟩
end
theorem ne_lists {l b : Addr} {xs ys : Array Value} {e : Nat → Bool} (hl : s.heap.IsList l xs) (hb : s.heap.IsList b ys) (hsz : xs.size = ys.size) (hu : A.units < cLine)
    (he : ∀ j (h1 : j < xs.size) (h2 : j < ys.size), EqIn P w A.in1 s xs[j] ys[j] (e j)) : RcIn P w A s .NotEq (.ref l) (.ref b) (!(List.range xs.size).all e) := fun E Q hx => by
  obtain ⟨⟨c1, d1, dt1, s1⟩, o1, z1, n, y1⟩ := id hl
  obtain ⟨⟨c2, d2, dt2, s2⟩, o2, z2, m, y2⟩ := id hb
  simp only at z1 y1 z2 y2
  subst z1 y1 z2 y2
  exact wpAny_richCompare_same_room (T := "list") (op := .NotEq) ⟨_, o1, rfl⟩ ⟨_, o2, rfl⟩ F.slot_list_ne (call_meetsIn F.slot_list_ne ⟨_, o1, rfl⟩ F.entry_list_ne (F.args_list_ne_2 _ _) (listNeI l b xs ys n m d1 d2 s1 s2 hsz e)
    ⟨o1, o2, he, show Value.bool (!(List.range xs.size).all e) ≠ Value.notImplemented ∧ Q (.bool (!(List.range xs.size).all e)) s from ⟨(fun x => nomatch x), hx⟩⟩) hu
theorem ne_tuples {l b : Addr} {xs ys : Array Value} {e : Nat → Bool} (hl : s.heap.IsTuple l xs) (hb : s.heap.IsTuple b ys) (hu : A.units < cLine)
    (he : ∀ j (h1 : j < xs.size) (h2 : j < ys.size), EqIn P w A.in1 s xs[j] ys[j] (e j)) : RcIn P w A s .NotEq (.ref l) (.ref b) (!((List.range (min xs.size ys.size)).all e && xs.size == ys.size)) := fun E Q hx => by
  obtain ⟨⟨c1, d1, dt1, s1⟩, o1, z1, n, y1⟩ := id hl
  obtain ⟨⟨c2, d2, dt2, s2⟩, o2, z2, m, y2⟩ := id hb
  simp only at z1 y1 z2 y2
  subst z1 y1 z2 y2
  exact wpAny_richCompare_same_room (T := "tuple") (op := .NotEq) ⟨_, o1, rfl⟩ ⟨_, o2, rfl⟩ F.slot_tuple_ne (call_meetsIn F.slot_tuple_ne ⟨_, o1, rfl⟩ F.entry_tuple_ne (F.args_tuple_ne_2 _ _) (tupleNeI l b xs ys n m d1 d2 s1 s2 e)
    ⟨o1, o2, he, show Value.bool (!((List.range (min xs.size ys.size)).all e && xs.size == ys.size)) ≠ Value.notImplemented ∧ Q (.bool (!((List.range (min xs.size ys.size)).all e && xs.size == ys.size))) s from ⟨(fun x => nomatch x), hx⟩⟩) hu
theorem ne_dicts {a b : Addr} {ka kb : List (Key × Value)} {r : Bool} (ha : (a == sysModules) = false) (hb : (b == sysModules) = false) (da : s.heap.DictOf (mixKind P w) a ka) (db : s.heap.DictOf (mixKind P w) b kb)
    (hu : A.units < cLine) (hits : ka.length = kb.length → PySem.W.KeqHitsIn P w A.in1 s kb ka r) : RcIn P w A s .NotEq (.ref a) (.ref b) (!(ka.length == kb.length && r)) := fun E Q hx => by
  refine wpAny_richCompare_same_room (op := .NotEq) da.typeIs db.typeIs PySem.F.slot_dict_ne (wpAny_call_entry PySem.F.slot_dict_ne da.typeIs PySem.F.entry_dict_ne ?_ (PySem.F.args_dict_ne_2 _ _)) hu
  show wpAny _ _ (Builtin.Dict.dictSlotArgs "__ne__" ⟨[.ref a, .ref b], []⟩ >>= _) _ _ s
  refine wpAny_bind ?_
  unfold Builtin.Dict.dictSlotArgs
  refine wpAny_bind (wpAny_notOrdered_dict da.typeIs ?_)
  show wpAny _ _ (pure (Value.ref a, Value.ref b)) _ _ s
  refine wpAny_pure (wpAny_bind (wpAny_isInstance (T := "dict") db.typeIs PySem.F.sub_dict_dict ?_))
  simp only [Bool.not_true, Bool.false_eq_true, if_false]
  refine wpAny_bind (wpAny_pure (wpAny_bind (wpAny_pure (wpAny_bind (PySem.W.keq_samePairsIn ha hb da db hits ?_)))))
  refine wpAny_pure ⟨_, rfl, ?_, ?_⟩
  · exact fun z => nomatch z
  · simpa using hx
/-! ### the answer of a comparison is D.eqv -/
theorem eqIn_of_rc {d : D} {v u : Value} {b : Bool} (rd : Rep P w s.heap d v) (hs : v = u → b = true) (hr : RcIn P w A s .Eq v u b) : EqIn P w A s v u b := fun E Q q => by
  by_cases e : v = u
  · have z := hs e
    subst z e
    exact (SeqAt.EqAt.same v) P w E Q q
  · have nb : ¬ (v == u) = true := fun z => e (eq_of_beq z)
    cases d <;> unfold Rep at rd
    case non => subst rd; unfold eqBool; refine wpAny_holding (wpAny_ite_split (fun z => absurd z nb) fun _ => ?_); exact wpAny_bind (hr E _ (wpAny_truthy_bool q))
    case bl => subst rd; unfold eqBool; refine wpAny_holding (wpAny_ite_split (fun z => absurd z nb) fun _ => ?_); exact wpAny_bind (hr E _ (wpAny_truthy_bool q))
    case int => obtain ⟨_, rfl⟩ := rd; unfold eqBool; refine wpAny_holding (wpAny_ite_split (fun z => absurd z nb) fun _ => ?_); exact wpAny_bind (hr E _ (wpAny_truthy_bool q))
    case str => obtain ⟨_, rfl⟩ := rd; unfold eqBool; refine wpAny_holding (wpAny_ite_split (fun z => absurd z nb) fun _ => ?_); exact wpAny_bind (hr E _ (wpAny_truthy_bool q))
    case tup => obtain ⟨_, _, rfl, _⟩ := rd; unfold eqBool; refine wpAny_holding (wpAny_ite_split (fun z => absurd z nb) fun _ => ?_); exact wpAny_bind (hr E _ (wpAny_truthy_bool q))
    case lst => obtain ⟨_, _, rfl, _⟩ := rd; unfold eqBool; refine wpAny_holding (wpAny_ite_split (fun z => absurd z nb) fun _ => ?_); exact wpAny_bind (hr E _ (wpAny_truthy_bool q))
    case dic => obtain ⟨_, _, rfl, _⟩ := rd; unfold eqBool; refine wpAny_holding (wpAny_ite_split (fun z => absurd z nb) fun _ => ?_); exact wpAny_bind (hr E _ (wpAny_truthy_bool q))
theorem getD_at {xs : List D} {j : Nat} (hj : j < xs.length) : xs.getD j .non = xs[j] := by simp [List.getD, hj]
theorem valueAt_of_mem : ∀ {xs : List (Key × Value)} {k : Key} {v : Value}, (xs.map (·.1)).Nodup → (k, v) ∈ xs → valueAt xs k = some v
  | (j, x) :: xs, k, v, nd, m => by
    rw [valueAt_cons]
    rcases List.mem_cons.mp m with e | m
    · cases e; rw [if_pos rfl]
    · have nd' := List.nodup_cons.mp nd
      rw [if_neg fun e => nd'.1 (by subst e; exact List.mem_map.mpr ⟨(j, v), m, rfl⟩)]
      exact valueAt_of_mem nd'.2 m
theorem eqvL_range : ∀ (xs ys : List D), ((List.range (min xs.length ys.length)).all (fun j => D.eqv (xs.getD j .non) (ys.getD j .non)) && xs.length == ys.length) = D.eqvL xs ys
  | [], ys => by
    cases ys <;> simp [D.eqvL]
  | x :: xs, [] => by simp [D.eqvL]
  | x :: xs, y :: ys => by
    have ih := eqvL_range xs ys
    rw [D.eqvL, ← ih]
    have e : min (x :: xs).length (y :: ys).length = min xs.length ys.length + 1 := by simp only [List.length_cons]; omega
    rw [e, List.range_succ_eq_map, List.all_cons, List.all_map]
    have e2 : ((x :: xs).length == (y :: ys).length) = (xs.length == ys.length) := by simp
    rw [e2, Bool.and_assoc]
    rfl
theorem eqvL_range' {xs ys : List D} (h : xs.length = ys.length) : (List.range xs.length).all (fun j => D.eqv (xs.getD j .non) (ys.getD j .non)) = D.eqvL xs ys := by
  rw [← eqvL_range, h, Nat.min_self]; simp
theorem eqvL_len : ∀ {xs ys : List D}, xs.length ≠ ys.length → D.eqvL xs ys = false
  | [], [], h => absurd rfl h
  | [], _ :: _, _ => by simp [D.eqvL]
  | _ :: _, [], _ => by simp [D.eqvL]
  | x :: xs, y :: ys, h => by rw [D.eqvL, eqvL_len (by simpa using h), Bool.and_false]
/-- the answers for the keys -/
def eqAtKey (xs ys : List (Key × D)) (k : Key) : Bool := match look xs k, look ys k with
  | some x, some y => D.eqv x y
  | _, _ => true
theorem deepL_mem : ∀ {xs : List D} {d : D}, d ∈ xs → D.deep d ≤ D.deepL xs
  | x :: xs, d, m => by
    unfold D.deepL
    rcases List.mem_cons.mp m with e | m
    · subst e; omega
    · have := deepL_mem m; omega
theorem deepK_mem : ∀ {xs : List (Key × D)} {k : Key} {d : D}, (k, d) ∈ xs → D.deep d ≤ D.deepK xs
  | (j, x) :: xs, k, d, m => by
    unfold D.deepK
    rcases List.mem_cons.mp m with e | m
    · cases e; omega
    · have := deepK_mem m; omega
theorem eqvK_all {ys : List (Key × D)} {vs : List (Key × Value)} (r : RepK P w s.heap ys vs) : ∀ (pre xs : List (Key × D)) (us : List (Key × Value)), ((pre ++ xs).map (·.1)).Nodup → RepK P w s.heap xs us →
    (us.all fun p => (valueAt vs p.1).isSome && eqAtKey (pre ++ xs) ys p.1) = D.eqvK xs ys
  | _, [], us, _, q => by unfold RepK at q; subst q; simp [D.eqvK]
  | pre, (k, x) :: xs, us, nd, q => by
    unfold RepK at q
    obtain ⟨u, q', rfl, _, q⟩ := q
    have ih := eqvK_all r (pre ++ [(k, x)]) xs q' (by simpa using nd) q
    rw [List.all_cons, D.eqvK]
    rw [show pre ++ (k, x) :: xs = (pre ++ [(k, x)]) ++ xs by simp, ih]
    congr 1
    unfold eqAtKey
    rw [show (pre ++ [(k, x)]) ++ xs = pre ++ (k, x) :: xs by simp, look_of_tail nd]
    rcases r.look k with ⟨e1, e2⟩ | ⟨d, v, e1, e2, _⟩
    · rw [e1, e2]; simp
    · rw [e1, e2]; simp
def DepthOk (A : Around) (d : D) : Prop := A.units + D.deep d + 1 < cLine
theorem DepthOk.u {d : D} (h : DepthOk A d) : A.units < cLine := by unfold DepthOk at h; omega
theorem DepthOk.in_tup {xs : List D} {d : D} (h : DepthOk A (.tup xs)) (m : d ∈ xs) : DepthOk A.in1 d := by
  unfold DepthOk D.deep at *
  have := deepL_mem m
  show A.units + 1 + _ + 1 < _
  cases d <;> simp only [D.deep] at * <;> omega
theorem DepthOk.in_lst {xs : List D} {d : D} (h : DepthOk A (.lst xs)) (m : d ∈ xs) : DepthOk A.in1 d := by
  unfold DepthOk D.deep at *
  have := deepL_mem m
  show A.units + 1 + _ + 1 < _
  cases d <;> simp only [D.deep] at * <;> omega
theorem DepthOk.in_dic {xs : List (Key × D)} {k : Key} {d : D} (h : DepthOk A (.dic xs)) (m : (k, d) ∈ xs) : DepthOk A.in1 d := by
  unfold DepthOk D.deep at *
  have := deepK_mem m
  show A.units + 1 + _ + 1 < _
  cases d <;> simp only [D.deep] at * <;> omega
theorem sizeOf_snd {k : Key} {d : D} {xs : List (Key × D)} (m : (k, d) ∈ xs) : sizeOf d < sizeOf xs := by
  have a := List.sizeOf_lt_of_mem m
  have b : sizeOf (k, d) = 1 + sizeOf k + sizeOf d := rfl
  omega
mutual
theorem eqIn : ∀ (d e : D) (u v : Value) (A : Around), DepthOk A d → Rep P w s.heap d u → Rep P w s.heap e v → EqIn P w A s u v (D.eqv d e)
  | d, e, u, v, A, hu, ru, rv => by
    refine eqIn_of_rc ru (fun z => ?_) (rcEq d e u v A hu ru rv)
    subst z
    have z := Rep.uniq d e u ru rv
    subst z
    exact Rep.self d u ru
  termination_by d => (sizeOf d, 1)
theorem rcEq : ∀ (d e : D) (u v : Value) (A : Around), DepthOk A d → Rep P w s.heap d u → Rep P w s.heap e v → RcIn P w A s .Eq u v (D.eqv d e)
  | .non , e, u, v, A, hu, ru, rv => by
    unfold Rep at ru; subst ru
    cases e with
    | non  =>
      unfold Rep at rv; subst rv
      have zz := (fun E Q z => SeqAt.RcAt.none_none  P w E Q z : RcIn P w A s .Eq _ _ _)
      simp only [D.eqv, Bool.not_false, Bool.not_true]
      exact zz
    | bl y =>
      unfold Rep at rv; subst rv
      have zz := (fun E Q z => SeqAt.RcAt.none_bool y P w E Q z : RcIn P w A s .Eq _ _ _)
      simp only [D.eqv, Bool.not_false, Bool.not_true]
      exact zz
    | int y =>
      unfold Rep at rv; obtain ⟨qt, rfl⟩ := rv
      have zz := (fun E Q z => SeqAt.RcAt.none_int y qt P w E Q z : RcIn P w A s .Eq _ _ _)
      simp only [D.eqv, Bool.not_false, Bool.not_true]
      exact zz
    | str y =>
      unfold Rep at rv; obtain ⟨qt, rfl⟩ := rv
      have zz := (fun E Q z => SeqAt.RcAt.none_str y qt P w E Q z : RcIn P w A s .Eq _ _ _)
      simp only [D.eqv, Bool.not_false, Bool.not_true]
      exact zz
    | tup ys =>
      unfold Rep at rv; obtain ⟨qa, qi, rfl, qh, qr⟩ := rv
      have zz := (fun E Q z => SeqAt.RcAt.none_tuple qh hu.u P w E Q z : RcIn P w A s .Eq _ _ _)
      simp only [D.eqv, Bool.not_false, Bool.not_true]
      exact zz
    | lst ys =>
      unfold Rep at rv; obtain ⟨qa, qi, rfl, qh, qr⟩ := rv
      have zz := (fun E Q z => SeqAt.RcAt.none_list qh hu.u P w E Q z : RcIn P w A s .Eq _ _ _)
      simp only [D.eqv, Bool.not_false, Bool.not_true]
      exact zz
    | dic ys =>
      unfold Rep at rv; obtain ⟨qa, qi, rfl, qy, qh, qr⟩ := rv
      have zz := (none_eq_dd  qh hu.u : RcIn P w A s .Eq _ _ _)
      simp only [D.eqv, Bool.not_false, Bool.not_true]
      exact zz
  | .bl x, e, u, v, A, hu, ru, rv => by
    unfold Rep at ru; subst ru
    cases e with
    | non  =>
      unfold Rep at rv; subst rv
      have zz := (fun E Q z => SeqAt.RcAt.bool_none x P w E Q z : RcIn P w A s .Eq _ _ _)
      simp only [D.eqv, Bool.not_false, Bool.not_true]
      exact zz
    | bl y =>
      unfold Rep at rv; subst rv
      have zz := (fun E Q z => SeqAt.RcAt.bool_bool x y P w E Q z : RcIn P w A s .Eq _ _ _)
      simp only [D.eqv, Bool.not_false, Bool.not_true]
      exact zz
    | int y =>
      unfold Rep at rv; obtain ⟨qt, rfl⟩ := rv
      have zz := (fun E Q z => SeqAt.RcAt.bool_int x y qt P w E Q z : RcIn P w A s .Eq _ _ _)
      simp only [D.eqv, Bool.not_false, Bool.not_true]
      exact zz
    | str y =>
      unfold Rep at rv; obtain ⟨qt, rfl⟩ := rv
      have zz := (fun E Q z => SeqAt.RcAt.bool_str x y qt P w E Q z : RcIn P w A s .Eq _ _ _)
      simp only [D.eqv, Bool.not_false, Bool.not_true]
      exact zz
    | tup ys =>
      unfold Rep at rv; obtain ⟨qa, qi, rfl, qh, qr⟩ := rv
      have zz := (fun E Q z => SeqAt.RcAt.bool_tuple x qh hu.u P w E Q z : RcIn P w A s .Eq _ _ _)
      simp only [D.eqv, Bool.not_false, Bool.not_true]
      exact zz
    | lst ys =>
      unfold Rep at rv; obtain ⟨qa, qi, rfl, qh, qr⟩ := rv
      have zz := (fun E Q z => SeqAt.RcAt.bool_list x qh hu.u P w E Q z : RcIn P w A s .Eq _ _ _)
      simp only [D.eqv, Bool.not_false, Bool.not_true]
      exact zz
    | dic ys =>
      unfold Rep at rv; obtain ⟨qa, qi, rfl, qy, qh, qr⟩ := rv
      have zz := (bool_eq_dd x qh hu.u : RcIn P w A s .Eq _ _ _)
      simp only [D.eqv, Bool.not_false, Bool.not_true]
      exact zz
  | .int x, e, u, v, A, hu, ru, rv => by
    unfold Rep at ru; obtain ⟨pt, rfl⟩ := ru
    cases e with
    | non  =>
      unfold Rep at rv; subst rv
      have zz := (fun E Q z => SeqAt.RcAt.int_none x pt P w E Q z : RcIn P w A s .Eq _ _ _)
      simp only [D.eqv, Bool.not_false, Bool.not_true]
      exact zz
    | bl y =>
      unfold Rep at rv; subst rv
      have zz := (fun E Q z => SeqAt.RcAt.int_bool x pt y P w E Q z : RcIn P w A s .Eq _ _ _)
      simp only [D.eqv, Bool.not_false, Bool.not_true]
      exact zz
    | int y =>
      unfold Rep at rv; obtain ⟨qt, rfl⟩ := rv
      have zz := (fun E Q z => SeqAt.RcAt.int_int x pt y qt P w E Q z : RcIn P w A s .Eq _ _ _)
      simp only [D.eqv, Bool.not_false, Bool.not_true]
      exact zz
    | str y =>
      unfold Rep at rv; obtain ⟨qt, rfl⟩ := rv
      have zz := (fun E Q z => SeqAt.RcAt.int_str x pt y qt P w E Q z : RcIn P w A s .Eq _ _ _)
      simp only [D.eqv, Bool.not_false, Bool.not_true]
      exact zz
    | tup ys =>
      unfold Rep at rv; obtain ⟨qa, qi, rfl, qh, qr⟩ := rv
      have zz := (fun E Q z => SeqAt.RcAt.int_tuple x pt qh hu.u P w E Q z : RcIn P w A s .Eq _ _ _)
      simp only [D.eqv, Bool.not_false, Bool.not_true]
      exact zz
    | lst ys =>
      unfold Rep at rv; obtain ⟨qa, qi, rfl, qh, qr⟩ := rv
      have zz := (fun E Q z => SeqAt.RcAt.int_list x pt qh hu.u P w E Q z : RcIn P w A s .Eq _ _ _)
      simp only [D.eqv, Bool.not_false, Bool.not_true]
      exact zz
    | dic ys =>
      unfold Rep at rv; obtain ⟨qa, qi, rfl, qy, qh, qr⟩ := rv
      have zz := (int_eq_dd x pt qh hu.u : RcIn P w A s .Eq _ _ _)
      simp only [D.eqv, Bool.not_false, Bool.not_true]
      exact zz
  | .str x, e, u, v, A, hu, ru, rv => by
    unfold Rep at ru; obtain ⟨pt, rfl⟩ := ru
    cases e with
    | non  =>
      unfold Rep at rv; subst rv
      have zz := (fun E Q z => SeqAt.RcAt.str_none x pt P w E Q z : RcIn P w A s .Eq _ _ _)
      simp only [D.eqv, Bool.not_false, Bool.not_true]
      exact zz
    | bl y =>
      unfold Rep at rv; subst rv
      have zz := (fun E Q z => SeqAt.RcAt.str_bool x pt y P w E Q z : RcIn P w A s .Eq _ _ _)
      simp only [D.eqv, Bool.not_false, Bool.not_true]
      exact zz
    | int y =>
      unfold Rep at rv; obtain ⟨qt, rfl⟩ := rv
      have zz := (fun E Q z => SeqAt.RcAt.str_int x pt y qt P w E Q z : RcIn P w A s .Eq _ _ _)
      simp only [D.eqv, Bool.not_false, Bool.not_true]
      exact zz
    | str y =>
      unfold Rep at rv; obtain ⟨qt, rfl⟩ := rv
      have zz := (fun E Q z => SeqAt.RcAt.str_str x pt y qt P w E Q z : RcIn P w A s .Eq _ _ _)
      simp only [D.eqv, Bool.not_false, Bool.not_true]
      exact zz
    | tup ys =>
      unfold Rep at rv; obtain ⟨qa, qi, rfl, qh, qr⟩ := rv
      have zz := (fun E Q z => SeqAt.RcAt.str_tuple x pt qh hu.u P w E Q z : RcIn P w A s .Eq _ _ _)
      simp only [D.eqv, Bool.not_false, Bool.not_true]
      exact zz
    | lst ys =>
      unfold Rep at rv; obtain ⟨qa, qi, rfl, qh, qr⟩ := rv
      have zz := (fun E Q z => SeqAt.RcAt.str_list x pt qh hu.u P w E Q z : RcIn P w A s .Eq _ _ _)
      simp only [D.eqv, Bool.not_false, Bool.not_true]
      exact zz
    | dic ys =>
      unfold Rep at rv; obtain ⟨qa, qi, rfl, qy, qh, qr⟩ := rv
      have zz := (str_eq_dd x pt qh hu.u : RcIn P w A s .Eq _ _ _)
      simp only [D.eqv, Bool.not_false, Bool.not_true]
      exact zz
  | .tup xs, e, u, v, A, hu, ru, rv => by
    unfold Rep at ru; obtain ⟨pa, pi, rfl, ph, pr⟩ := ru
    cases e with
    | non  =>
      unfold Rep at rv; subst rv
      have zz := (fun E Q z => SeqAt.RcAt.tuple_none ph hu.u P w E Q z : RcIn P w A s .Eq _ _ _)
      simp only [D.eqv, Bool.not_false, Bool.not_true]
      exact zz
    | bl y =>
      unfold Rep at rv; subst rv
      have zz := (fun E Q z => SeqAt.RcAt.tuple_bool y ph hu.u P w E Q z : RcIn P w A s .Eq _ _ _)
      simp only [D.eqv, Bool.not_false, Bool.not_true]
      exact zz
    | int y =>
      unfold Rep at rv; obtain ⟨qt, rfl⟩ := rv
      have zz := (fun E Q z => SeqAt.RcAt.tuple_int y qt ph hu.u P w E Q z : RcIn P w A s .Eq _ _ _)
      simp only [D.eqv, Bool.not_false, Bool.not_true]
      exact zz
    | str y =>
      unfold Rep at rv; obtain ⟨qt, rfl⟩ := rv
      have zz := (fun E Q z => SeqAt.RcAt.tuple_str y qt ph hu.u P w E Q z : RcIn P w A s .Eq _ _ _)
      simp only [D.eqv, Bool.not_false, Bool.not_true]
      exact zz
    | tup ys =>
      unfold Rep at rv; obtain ⟨qa, qi, rfl, qh, qr⟩ := rv
      have he : ∀ j (h1 : j < pi.toArray.size) (h2 : j < qi.toArray.size), EqIn P w A.in1 s pi.toArray[j] qi.toArray[j] (D.eqv (xs.getD j .non) (ys.getD j .non)) := fun j h1 h2 => by
        have h1' : j < pi.length := by simpa using h1
        have h2' : j < qi.length := by simpa using h2
        have g1 : j < xs.length := by rw [pr.len]; exact h1'
        have g2 : j < ys.length := by rw [qr.len]; exact h2'
        have m : xs[j] ∈ xs := List.getElem_mem g1
        have z := eqIn xs[j] ys[j] _ _ A.in1 (hu.in_tup m) (pr.at j g1 h1') (qr.at j g2 h2')
        rw [getD_at g1, getD_at g2]
        simpa using z
      have e : ((List.range (min pi.toArray.size qi.toArray.size)).all (fun j => D.eqv (xs.getD j .non) (ys.getD j .non)) && pi.toArray.size == qi.toArray.size) = D.eqvL xs ys := by
        rw [List.size_toArray, List.size_toArray, ← pr.len, ← qr.len]; exact eqvL_range xs ys
      intro E Q z
      refine SeqAt.rcIn_tuples ph qh hu.u he ?_
      rw [e]
      simpa only [D.eqv] using z
    | lst ys =>
      unfold Rep at rv; obtain ⟨qa, qi, rfl, qh, qr⟩ := rv
      have zz := (fun E Q z => SeqAt.RcAt.tuple_list ph qh hu.u P w E Q z : RcIn P w A s .Eq _ _ _)
      simp only [D.eqv, Bool.not_false, Bool.not_true]
      exact zz
    | dic ys =>
      unfold Rep at rv; obtain ⟨qa, qi, rfl, qy, qh, qr⟩ := rv
      have zz := (tuple_eq_dd qh ph hu.u : RcIn P w A s .Eq _ _ _)
      simp only [D.eqv, Bool.not_false, Bool.not_true]
      exact zz
  | .lst xs, e, u, v, A, hu, ru, rv => by
    unfold Rep at ru; obtain ⟨pa, pi, rfl, ph, pr⟩ := ru
    cases e with
    | non  =>
      unfold Rep at rv; subst rv
      have zz := (fun E Q z => SeqAt.RcAt.list_none ph hu.u P w E Q z : RcIn P w A s .Eq _ _ _)
      simp only [D.eqv, Bool.not_false, Bool.not_true]
      exact zz
    | bl y =>
      unfold Rep at rv; subst rv
      have zz := (fun E Q z => SeqAt.RcAt.list_bool y ph hu.u P w E Q z : RcIn P w A s .Eq _ _ _)
      simp only [D.eqv, Bool.not_false, Bool.not_true]
      exact zz
    | int y =>
      unfold Rep at rv; obtain ⟨qt, rfl⟩ := rv
      have zz := (fun E Q z => SeqAt.RcAt.list_int y qt ph hu.u P w E Q z : RcIn P w A s .Eq _ _ _)
      simp only [D.eqv, Bool.not_false, Bool.not_true]
      exact zz
    | str y =>
      unfold Rep at rv; obtain ⟨qt, rfl⟩ := rv
      have zz := (fun E Q z => SeqAt.RcAt.list_str y qt ph hu.u P w E Q z : RcIn P w A s .Eq _ _ _)
      simp only [D.eqv, Bool.not_false, Bool.not_true]
      exact zz
    | tup ys =>
      unfold Rep at rv; obtain ⟨qa, qi, rfl, qh, qr⟩ := rv
      have zz := (fun E Q z => SeqAt.RcAt.list_tuple ph qh hu.u P w E Q z : RcIn P w A s .Eq _ _ _)
      simp only [D.eqv, Bool.not_false, Bool.not_true]
      exact zz
    | lst ys =>
      unfold Rep at rv; obtain ⟨qa, qi, rfl, qh, qr⟩ := rv
      by_cases hl : xs.length = ys.length
      · have he : ∀ j (h1 : j < pi.toArray.size) (h2 : j < qi.toArray.size), EqIn P w A.in1 s pi.toArray[j] qi.toArray[j] (D.eqv (xs.getD j .non) (ys.getD j .non)) := fun j h1 h2 => by
          have h1' : j < pi.length := by simpa using h1
          have h2' : j < qi.length := by simpa using h2
          have g1 : j < xs.length := by rw [pr.len]; exact h1'
          have g2 : j < ys.length := by rw [qr.len]; exact h2'
          have m : xs[j] ∈ xs := List.getElem_mem g1
          have z := eqIn xs[j] ys[j] _ _ A.in1 (hu.in_lst m) (pr.at j g1 h1') (qr.at j g2 h2')
          rw [getD_at g1, getD_at g2]
          simpa using z
        have e : (List.range pi.toArray.size).all (fun j => D.eqv (xs.getD j .non) (ys.getD j .non)) = D.eqvL xs ys := by
          rw [List.size_toArray, ← pr.len]; exact eqvL_range' hl
        have hz : pi.toArray.size = qi.toArray.size := by rw [List.size_toArray, List.size_toArray, ← pr.len, ← qr.len]; exact hl
        intro E Q z
        refine SeqAt.rcIn_lists ph qh hz hu.u he ?_
        rw [e]
        simpa only [D.eqv] using z
      · intro E Q z
        simp only [D.eqv, eqvL_len hl] at z
        exact SeqAt.RcAt.lists_lengths ph qh (by rw [List.size_toArray, List.size_toArray, ← pr.len, ← qr.len]; simpa using hl) hu.u P w E Q z
    | dic ys =>
      unfold Rep at rv; obtain ⟨qa, qi, rfl, qy, qh, qr⟩ := rv
      have zz := (list_eq_dd qh ph hu.u : RcIn P w A s .Eq _ _ _)
      simp only [D.eqv, Bool.not_false, Bool.not_true]
      exact zz
  | .dic xs, e, u, v, A, hu, ru, rv => by
    unfold Rep at ru; obtain ⟨pa, pi, rfl, py, ph, pr⟩ := ru
    cases e with
    | non  =>
      unfold Rep at rv; subst rv
      have zz := (d_eq_none  ph hu.u : RcIn P w A s .Eq _ _ _)
      simp only [D.eqv, Bool.not_false, Bool.not_true]
      exact zz
    | bl y =>
      unfold Rep at rv; subst rv
      have zz := (d_eq_bool y ph hu.u : RcIn P w A s .Eq _ _ _)
      simp only [D.eqv, Bool.not_false, Bool.not_true]
      exact zz
    | int y =>
      unfold Rep at rv; obtain ⟨qt, rfl⟩ := rv
      have zz := (d_eq_int y qt ph hu.u : RcIn P w A s .Eq _ _ _)
      simp only [D.eqv, Bool.not_false, Bool.not_true]
      exact zz
    | str y =>
      unfold Rep at rv; obtain ⟨qt, rfl⟩ := rv
      have zz := (d_eq_str y qt ph hu.u : RcIn P w A s .Eq _ _ _)
      simp only [D.eqv, Bool.not_false, Bool.not_true]
      exact zz
    | tup ys =>
      unfold Rep at rv; obtain ⟨qa, qi, rfl, qh, qr⟩ := rv
      have zz := (d_eq_tuple ph qh hu.u : RcIn P w A s .Eq _ _ _)
      simp only [D.eqv, Bool.not_false, Bool.not_true]
      exact zz
    | lst ys =>
      unfold Rep at rv; obtain ⟨qa, qi, rfl, qh, qr⟩ := rv
      have zz := (d_eq_list ph qh hu.u : RcIn P w A s .Eq _ _ _)
      simp only [D.eqv, Bool.not_false, Bool.not_true]
      exact zz
    | dic ys =>
      unfold Rep at rv; obtain ⟨qa, qi, rfl, qy, qh, qr⟩ := rv
      have nd : (xs.map (·.1)).Nodup := by rw [pr.keys]; obtain ⟨_, _, _, _, _, _, _, _, nd⟩ := ph; exact nd
      have hits : PySem.W.KeqHitsIn P w A.in1 s qi pi (pi.all fun p => (valueAt qi p.1).isSome && eqAtKey xs ys p.1) := PySem.W.KeqHitsIn.of pi fun k v y m hv => by
        have hk : k ∈ xs.map (·.1) := by rw [pr.keys]; exact List.mem_map.mpr ⟨(k, v), m, rfl⟩
        rcases pr.look k with ⟨n1, _⟩ | ⟨x, v', e1, e2, rx⟩
        · exact absurd hk (look_none.mp n1)
        rcases qr.look k with ⟨_, n2⟩ | ⟨y', w', e3, e4, ry⟩
        · rw [hv] at n2; cases n2
        rw [hv] at e4; cases e4
        have ev : valueAt pi k = some v := by
          have nd' : (pi.map (·.1)).Nodup := by rw [← pr.keys]; exact nd
          exact valueAt_of_mem nd' m
        rw [ev] at e2; cases e2
        have z := eqIn x y' v y A.in1 (hu.in_dic (look_mem e1)) rx ry
        have ez : eqAtKey xs ys k = D.eqv x y' := by unfold eqAtKey; rw [e1, e3]
        rw [ez]; exact z
      have e : (pi.length == qi.length && (pi.all fun p => (valueAt qi p.1).isSome && eqAtKey xs ys p.1)) = D.eqv (.dic xs) (.dic ys) := by
        rw [D.eqv, ← pr.len, ← qr.len]
        congr 1
        exact eqvK_all (s := s) qr [] xs pi nd pr
      intro E Q z
      refine PySem.W.keq_eqIn py qy ph qh hu.u (fun _ => hits) ?_
      rw [e]; exact z
  termination_by d => (sizeOf d, 0)
  decreasing_by
    all_goals simp_wf
    · exact Prod.Lex.left _ _ (by have := List.sizeOf_lt_of_mem m; omega)
    · exact Prod.Lex.left _ _ (by have := List.sizeOf_lt_of_mem m; omega)
    · exact Prod.Lex.left _ _ (by have := sizeOf_snd (look_mem e1); omega)
end
theorem rcNe : ∀ (d e : D) (u v : Value) (A : Around), DepthOk A d → Rep P w s.heap d u → Rep P w s.heap e v → RcIn P w A s .NotEq u v (!D.eqv d e)
  | .non , e, u, v, A, hu, ru, rv => by
    unfold Rep at ru; subst ru
    cases e with
    | non  =>
      unfold Rep at rv; subst rv
      have zz := (fun E Q z => SeqAt.RcNeAt.none_none  P w E Q z : RcIn P w A s .NotEq _ _ _)
      simp only [D.eqv, Bool.not_false, Bool.not_true]
      exact zz
    | bl y =>
      unfold Rep at rv; subst rv
      have zz := (fun E Q z => SeqAt.RcNeAt.none_bool y P w E Q z : RcIn P w A s .NotEq _ _ _)
      simp only [D.eqv, Bool.not_false, Bool.not_true]
      exact zz
    | int y =>
      unfold Rep at rv; obtain ⟨qt, rfl⟩ := rv
      have zz := (fun E Q z => SeqAt.RcNeAt.none_int y qt P w E Q z : RcIn P w A s .NotEq _ _ _)
      simp only [D.eqv, Bool.not_false, Bool.not_true]
      exact zz
    | str y =>
      unfold Rep at rv; obtain ⟨qt, rfl⟩ := rv
      have zz := (fun E Q z => SeqAt.RcNeAt.none_str y qt P w E Q z : RcIn P w A s .NotEq _ _ _)
      simp only [D.eqv, Bool.not_false, Bool.not_true]
      exact zz
    | tup ys =>
      unfold Rep at rv; obtain ⟨qa, qi, rfl, qh, qr⟩ := rv
      have zz := (fun E Q z => SeqAt.RcNeAt.none_tuple qh hu.u P w E Q z : RcIn P w A s .NotEq _ _ _)
      simp only [D.eqv, Bool.not_false, Bool.not_true]
      exact zz
    | lst ys =>
      unfold Rep at rv; obtain ⟨qa, qi, rfl, qh, qr⟩ := rv
      have zz := (fun E Q z => SeqAt.RcNeAt.none_list qh hu.u P w E Q z : RcIn P w A s .NotEq _ _ _)
      simp only [D.eqv, Bool.not_false, Bool.not_true]
      exact zz
    | dic ys =>
      unfold Rep at rv; obtain ⟨qa, qi, rfl, qy, qh, qr⟩ := rv
      have zz := (none_ne_dd  qh hu.u : RcIn P w A s .NotEq _ _ _)
      simp only [D.eqv, Bool.not_false, Bool.not_true]
      exact zz
  | .bl x, e, u, v, A, hu, ru, rv => by
    unfold Rep at ru; subst ru
    cases e with
    | non  =>
      unfold Rep at rv; subst rv
      have zz := (fun E Q z => SeqAt.RcNeAt.bool_none x P w E Q z : RcIn P w A s .NotEq _ _ _)
      simp only [D.eqv, Bool.not_false, Bool.not_true]
      exact zz
    | bl y =>
      unfold Rep at rv; subst rv
      have zz := (fun E Q z => SeqAt.RcNeAt.bool_bool x y P w E Q z : RcIn P w A s .NotEq _ _ _)
      simp only [D.eqv, Bool.not_false, Bool.not_true]
      exact zz
    | int y =>
      unfold Rep at rv; obtain ⟨qt, rfl⟩ := rv
      have zz := (fun E Q z => SeqAt.RcNeAt.bool_int x y qt P w E Q z : RcIn P w A s .NotEq _ _ _)
      simp only [D.eqv, Bool.not_false, Bool.not_true]
      exact zz
    | str y =>
      unfold Rep at rv; obtain ⟨qt, rfl⟩ := rv
      have zz := (fun E Q z => SeqAt.RcNeAt.bool_str x y qt P w E Q z : RcIn P w A s .NotEq _ _ _)
      simp only [D.eqv, Bool.not_false, Bool.not_true]
      exact zz
    | tup ys =>
      unfold Rep at rv; obtain ⟨qa, qi, rfl, qh, qr⟩ := rv
      have zz := (fun E Q z => SeqAt.RcNeAt.bool_tuple x qh hu.u P w E Q z : RcIn P w A s .NotEq _ _ _)
      simp only [D.eqv, Bool.not_false, Bool.not_true]
      exact zz
    | lst ys =>
      unfold Rep at rv; obtain ⟨qa, qi, rfl, qh, qr⟩ := rv
      have zz := (fun E Q z => SeqAt.RcNeAt.bool_list x qh hu.u P w E Q z : RcIn P w A s .NotEq _ _ _)
      simp only [D.eqv, Bool.not_false, Bool.not_true]
      exact zz
    | dic ys =>
      unfold Rep at rv; obtain ⟨qa, qi, rfl, qy, qh, qr⟩ := rv
      have zz := (bool_ne_dd x qh hu.u : RcIn P w A s .NotEq _ _ _)
      simp only [D.eqv, Bool.not_false, Bool.not_true]
      exact zz
  | .int x, e, u, v, A, hu, ru, rv => by
    unfold Rep at ru; obtain ⟨pt, rfl⟩ := ru
    cases e with
    | non  =>
      unfold Rep at rv; subst rv
      have zz := (fun E Q z => SeqAt.RcNeAt.int_none x pt P w E Q z : RcIn P w A s .NotEq _ _ _)
      simp only [D.eqv, Bool.not_false, Bool.not_true]
      exact zz
    | bl y =>
      unfold Rep at rv; subst rv
      have zz := (fun E Q z => SeqAt.RcNeAt.int_bool x pt y P w E Q z : RcIn P w A s .NotEq _ _ _)
      simp only [D.eqv, Bool.not_false, Bool.not_true]
      exact zz
    | int y =>
      unfold Rep at rv; obtain ⟨qt, rfl⟩ := rv
      have zz := (fun E Q z => SeqAt.RcNeAt.int_int x pt y qt P w E Q z : RcIn P w A s .NotEq _ _ _)
      simp only [D.eqv, Bool.not_false, Bool.not_true]
      exact zz
    | str y =>
      unfold Rep at rv; obtain ⟨qt, rfl⟩ := rv
      have zz := (fun E Q z => SeqAt.RcNeAt.int_str x pt y qt P w E Q z : RcIn P w A s .NotEq _ _ _)
      simp only [D.eqv, Bool.not_false, Bool.not_true]
      exact zz
    | tup ys =>
      unfold Rep at rv; obtain ⟨qa, qi, rfl, qh, qr⟩ := rv
      have zz := (fun E Q z => SeqAt.RcNeAt.int_tuple x pt qh hu.u P w E Q z : RcIn P w A s .NotEq _ _ _)
      simp only [D.eqv, Bool.not_false, Bool.not_true]
      exact zz
    | lst ys =>
      unfold Rep at rv; obtain ⟨qa, qi, rfl, qh, qr⟩ := rv
      have zz := (fun E Q z => SeqAt.RcNeAt.int_list x pt qh hu.u P w E Q z : RcIn P w A s .NotEq _ _ _)
      simp only [D.eqv, Bool.not_false, Bool.not_true]
      exact zz
    | dic ys =>
      unfold Rep at rv; obtain ⟨qa, qi, rfl, qy, qh, qr⟩ := rv
      have zz := (int_ne_dd x pt qh hu.u : RcIn P w A s .NotEq _ _ _)
      simp only [D.eqv, Bool.not_false, Bool.not_true]
      exact zz
  | .str x, e, u, v, A, hu, ru, rv => by
    unfold Rep at ru; obtain ⟨pt, rfl⟩ := ru
    cases e with
    | non  =>
      unfold Rep at rv; subst rv
      have zz := (fun E Q z => SeqAt.RcNeAt.str_none x pt P w E Q z : RcIn P w A s .NotEq _ _ _)
      simp only [D.eqv, Bool.not_false, Bool.not_true]
      exact zz
    | bl y =>
      unfold Rep at rv; subst rv
      have zz := (fun E Q z => SeqAt.RcNeAt.str_bool x pt y P w E Q z : RcIn P w A s .NotEq _ _ _)
      simp only [D.eqv, Bool.not_false, Bool.not_true]
      exact zz
    | int y =>
      unfold Rep at rv; obtain ⟨qt, rfl⟩ := rv
      have zz := (fun E Q z => SeqAt.RcNeAt.str_int x pt y qt P w E Q z : RcIn P w A s .NotEq _ _ _)
      simp only [D.eqv, Bool.not_false, Bool.not_true]
      exact zz
    | str y =>
      unfold Rep at rv; obtain ⟨qt, rfl⟩ := rv
      have zz := (fun E Q z => SeqAt.RcNeAt.str_str x pt y qt P w E Q z : RcIn P w A s .NotEq _ _ _)
      simp only [D.eqv, Bool.not_false, Bool.not_true]
      exact zz
    | tup ys =>
      unfold Rep at rv; obtain ⟨qa, qi, rfl, qh, qr⟩ := rv
      have zz := (fun E Q z => SeqAt.RcNeAt.str_tuple x pt qh hu.u P w E Q z : RcIn P w A s .NotEq _ _ _)
      simp only [D.eqv, Bool.not_false, Bool.not_true]
      exact zz
    | lst ys =>
      unfold Rep at rv; obtain ⟨qa, qi, rfl, qh, qr⟩ := rv
      have zz := (fun E Q z => SeqAt.RcNeAt.str_list x pt qh hu.u P w E Q z : RcIn P w A s .NotEq _ _ _)
      simp only [D.eqv, Bool.not_false, Bool.not_true]
      exact zz
    | dic ys =>
      unfold Rep at rv; obtain ⟨qa, qi, rfl, qy, qh, qr⟩ := rv
      have zz := (str_ne_dd x pt qh hu.u : RcIn P w A s .NotEq _ _ _)
      simp only [D.eqv, Bool.not_false, Bool.not_true]
      exact zz
  | .tup xs, e, u, v, A, hu, ru, rv => by
    unfold Rep at ru; obtain ⟨pa, pi, rfl, ph, pr⟩ := ru
    cases e with
    | non  =>
      unfold Rep at rv; subst rv
      have zz := (fun E Q z => SeqAt.RcNeAt.tuple_none ph hu.u P w E Q z : RcIn P w A s .NotEq _ _ _)
      simp only [D.eqv, Bool.not_false, Bool.not_true]
      exact zz
    | bl y =>
      unfold Rep at rv; subst rv
      have zz := (fun E Q z => SeqAt.RcNeAt.tuple_bool y ph hu.u P w E Q z : RcIn P w A s .NotEq _ _ _)
      simp only [D.eqv, Bool.not_false, Bool.not_true]
      exact zz
    | int y =>
      unfold Rep at rv; obtain ⟨qt, rfl⟩ := rv
      have zz := (fun E Q z => SeqAt.RcNeAt.tuple_int y qt ph hu.u P w E Q z : RcIn P w A s .NotEq _ _ _)
      simp only [D.eqv, Bool.not_false, Bool.not_true]
      exact zz
    | str y =>
      unfold Rep at rv; obtain ⟨qt, rfl⟩ := rv
      have zz := (fun E Q z => SeqAt.RcNeAt.tuple_str y qt ph hu.u P w E Q z : RcIn P w A s .NotEq _ _ _)
      simp only [D.eqv, Bool.not_false, Bool.not_true]
      exact zz
    | tup ys =>
      unfold Rep at rv; obtain ⟨qa, qi, rfl, qh, qr⟩ := rv
      have he : ∀ j (h1 : j < pi.toArray.size) (h2 : j < qi.toArray.size), EqIn P w A.in1 s pi.toArray[j] qi.toArray[j] (D.eqv (xs.getD j .non) (ys.getD j .non)) := fun j h1 h2 => by
        have h1' : j < pi.length := by simpa using h1
        have h2' : j < qi.length := by simpa using h2
        have g1 : j < xs.length := by rw [pr.len]; exact h1'
        have g2 : j < ys.length := by rw [qr.len]; exact h2'
        have m : xs[j] ∈ xs := List.getElem_mem g1
        have z := eqIn xs[j] ys[j] _ _ A.in1 (hu.in_tup m) (pr.at j g1 h1') (qr.at j g2 h2')
        rw [getD_at g1, getD_at g2]
        simpa using z
      have e : ((List.range (min pi.toArray.size qi.toArray.size)).all (fun j => D.eqv (xs.getD j .non) (ys.getD j .non)) && pi.toArray.size == qi.toArray.size) = D.eqvL xs ys := by
        rw [List.size_toArray, List.size_toArray, ← pr.len, ← qr.len]; exact eqvL_range xs ys
      have z := ne_tuples ph qh hu.u he
      rw [e] at z
      simpa only [D.eqv] using z
    | lst ys =>
      unfold Rep at rv; obtain ⟨qa, qi, rfl, qh, qr⟩ := rv
      have zz := (fun E Q z => SeqAt.RcNeAt.tuple_list ph qh hu.u P w E Q z : RcIn P w A s .NotEq _ _ _)
      simp only [D.eqv, Bool.not_false, Bool.not_true]
      exact zz
    | dic ys =>
      unfold Rep at rv; obtain ⟨qa, qi, rfl, qy, qh, qr⟩ := rv
      have zz := (tuple_ne_dd qh ph hu.u : RcIn P w A s .NotEq _ _ _)
      simp only [D.eqv, Bool.not_false, Bool.not_true]
      exact zz
  | .lst xs, e, u, v, A, hu, ru, rv => by
    unfold Rep at ru; obtain ⟨pa, pi, rfl, ph, pr⟩ := ru
    cases e with
    | non  =>
      unfold Rep at rv; subst rv
      have zz := (fun E Q z => SeqAt.RcNeAt.list_none ph hu.u P w E Q z : RcIn P w A s .NotEq _ _ _)
      simp only [D.eqv, Bool.not_false, Bool.not_true]
      exact zz
    | bl y =>
      unfold Rep at rv; subst rv
      have zz := (fun E Q z => SeqAt.RcNeAt.list_bool y ph hu.u P w E Q z : RcIn P w A s .NotEq _ _ _)
      simp only [D.eqv, Bool.not_false, Bool.not_true]
      exact zz
    | int y =>
      unfold Rep at rv; obtain ⟨qt, rfl⟩ := rv
      have zz := (fun E Q z => SeqAt.RcNeAt.list_int y qt ph hu.u P w E Q z : RcIn P w A s .NotEq _ _ _)
      simp only [D.eqv, Bool.not_false, Bool.not_true]
      exact zz
    | str y =>
      unfold Rep at rv; obtain ⟨qt, rfl⟩ := rv
      have zz := (fun E Q z => SeqAt.RcNeAt.list_str y qt ph hu.u P w E Q z : RcIn P w A s .NotEq _ _ _)
      simp only [D.eqv, Bool.not_false, Bool.not_true]
      exact zz
    | tup ys =>
      unfold Rep at rv; obtain ⟨qa, qi, rfl, qh, qr⟩ := rv
      have zz := (fun E Q z => SeqAt.RcNeAt.list_tuple ph qh hu.u P w E Q z : RcIn P w A s .NotEq _ _ _)
      simp only [D.eqv, Bool.not_false, Bool.not_true]
      exact zz
    | lst ys =>
      unfold Rep at rv; obtain ⟨qa, qi, rfl, qh, qr⟩ := rv
      by_cases hl : xs.length = ys.length
      · have he : ∀ j (h1 : j < pi.toArray.size) (h2 : j < qi.toArray.size), EqIn P w A.in1 s pi.toArray[j] qi.toArray[j] (D.eqv (xs.getD j .non) (ys.getD j .non)) := fun j h1 h2 => by
          have h1' : j < pi.length := by simpa using h1
          have h2' : j < qi.length := by simpa using h2
          have g1 : j < xs.length := by rw [pr.len]; exact h1'
          have g2 : j < ys.length := by rw [qr.len]; exact h2'
          have m : xs[j] ∈ xs := List.getElem_mem g1
          have z := eqIn xs[j] ys[j] _ _ A.in1 (hu.in_lst m) (pr.at j g1 h1') (qr.at j g2 h2')
          rw [getD_at g1, getD_at g2]
          simpa using z
        have e : (List.range pi.toArray.size).all (fun j => D.eqv (xs.getD j .non) (ys.getD j .non)) = D.eqvL xs ys := by
          rw [List.size_toArray, ← pr.len]; exact eqvL_range' hl
        have hz : pi.toArray.size = qi.toArray.size := by rw [List.size_toArray, List.size_toArray, ← pr.len, ← qr.len]; exact hl
        have z := ne_lists ph qh hz hu.u he
        rw [e] at z
        simpa only [D.eqv] using z
      · intro E Q z
        simp only [D.eqv, eqvL_len hl] at z
        exact SeqAt.RcNeAt.lists_lengths ph qh (by rw [List.size_toArray, List.size_toArray, ← pr.len, ← qr.len]; simpa using hl) hu.u P w E Q z
    | dic ys =>
      unfold Rep at rv; obtain ⟨qa, qi, rfl, qy, qh, qr⟩ := rv
      have zz := (list_ne_dd qh ph hu.u : RcIn P w A s .NotEq _ _ _)
      simp only [D.eqv, Bool.not_false, Bool.not_true]
      exact zz
  | .dic xs, e, u, v, A, hu, ru, rv => by
    unfold Rep at ru; obtain ⟨pa, pi, rfl, py, ph, pr⟩ := ru
    cases e with
    | non  =>
      unfold Rep at rv; subst rv
      have zz := (d_ne_none  ph hu.u : RcIn P w A s .NotEq _ _ _)
      simp only [D.eqv, Bool.not_false, Bool.not_true]
      exact zz
    | bl y =>
      unfold Rep at rv; subst rv
      have zz := (d_ne_bool y ph hu.u : RcIn P w A s .NotEq _ _ _)
      simp only [D.eqv, Bool.not_false, Bool.not_true]
      exact zz
    | int y =>
      unfold Rep at rv; obtain ⟨qt, rfl⟩ := rv
      have zz := (d_ne_int y qt ph hu.u : RcIn P w A s .NotEq _ _ _)
      simp only [D.eqv, Bool.not_false, Bool.not_true]
      exact zz
    | str y =>
      unfold Rep at rv; obtain ⟨qt, rfl⟩ := rv
      have zz := (d_ne_str y qt ph hu.u : RcIn P w A s .NotEq _ _ _)
      simp only [D.eqv, Bool.not_false, Bool.not_true]
      exact zz
    | tup ys =>
      unfold Rep at rv; obtain ⟨qa, qi, rfl, qh, qr⟩ := rv
      have zz := (d_ne_tuple ph qh hu.u : RcIn P w A s .NotEq _ _ _)
      simp only [D.eqv, Bool.not_false, Bool.not_true]
      exact zz
    | lst ys =>
      unfold Rep at rv; obtain ⟨qa, qi, rfl, qh, qr⟩ := rv
      have zz := (d_ne_list ph qh hu.u : RcIn P w A s .NotEq _ _ _)
      simp only [D.eqv, Bool.not_false, Bool.not_true]
      exact zz
    | dic ys =>
      unfold Rep at rv; obtain ⟨qa, qi, rfl, qy, qh, qr⟩ := rv
      have nd : (xs.map (·.1)).Nodup := by rw [pr.keys]; obtain ⟨_, _, _, _, _, _, _, _, nd⟩ := ph; exact nd
      have hits : PySem.W.KeqHitsIn P w A.in1 s qi pi (pi.all fun p => (valueAt qi p.1).isSome && eqAtKey xs ys p.1) := PySem.W.KeqHitsIn.of pi fun k v y m hv => by
        have hk : k ∈ xs.map (·.1) := by rw [pr.keys]; exact List.mem_map.mpr ⟨(k, v), m, rfl⟩
        rcases pr.look k with ⟨n1, _⟩ | ⟨x, v', e1, e2, rx⟩
        · exact absurd hk (look_none.mp n1)
        rcases qr.look k with ⟨_, n2⟩ | ⟨y', w', e3, e4, ry⟩
        · rw [hv] at n2; cases n2
        rw [hv] at e4; cases e4
        have ev : valueAt pi k = some v := by
          have nd' : (pi.map (·.1)).Nodup := by rw [← pr.keys]; exact nd
          exact valueAt_of_mem nd' m
        rw [ev] at e2; cases e2
        have z := eqIn x y' v y A.in1 (hu.in_dic (look_mem e1)) rx ry
        have ez : eqAtKey xs ys k = D.eqv x y' := by unfold eqAtKey; rw [e1, e3]
        rw [ez]; exact z
      have e : (pi.length == qi.length && (pi.all fun p => (valueAt qi p.1).isSome && eqAtKey xs ys p.1)) = D.eqv (.dic xs) (.dic ys) := by
        rw [D.eqv, ← pr.len, ← qr.len]
        congr 1
        exact eqvK_all (s := s) qr [] xs pi nd pr
      have z := ne_dicts py qy ph qh hu.u (fun _ => hits)
      rw [e] at z
      exact z
end
end Mp
set_option maxRecDepth 100000
set_option maxHeartbeats 4000000
namespace Mp
open PySem L2
/-! ### a value holds a datum, in a ghost heap -/
/-- a tuple that stands in the written part, plain -/
def KTup (K : PySem.W.Frag) (a : Addr) (xs : List V) : Prop :=
  ∃ (o : Obj) (its : Array Value) (n : Nat), K.lookup a = some o ∧ o.cls = .type "tuple" ∧ o.dict = none ∧ o.data = .seq its n ∧ its.size ≤ sizeLine ∧ Vals xs its.toList
def TupAt (K : PySem.W.Frag) (G : Hp) (a : Addr) (xs : List V) : Prop := Rd G a (.tup xs) ∨ KTup K a xs
theorem TupAt.sq {K : PySem.W.Frag} {G : Hp} {a : Addr} {xs : List V} (h : TupAt K G a xs) : SqT K G a xs :=
  h.imp id fun ⟨o, its, n, h1, h2, _, h3⟩ => ⟨o, its, n, h1, h2, h3⟩
section
variable (K : PySem.W.Frag) (G : Hp)
mutual
def Has : D → V → Prop
  | .non, v => v = .non
  | .bl b, v => v = .bl b
  | .int i, v => v = .int i
  | .str x, v => v = .str x
  | .tup xs, v => ∃ a vs, v = .ref a ∧ TupAt K G a vs ∧ HasL xs vs
  | .lst xs, v => ∃ a vs, v = .ref a ∧ Rd G a (.lst vs) ∧ HasL xs vs
  | .dic ks, v => ∃ a ws, v = .ref a ∧ Rd G a (.dK ws) ∧ HasK ks ws
def HasL : List D → List V → Prop
  | [], vs => vs = []
  | d :: ds, vs => ∃ v r, vs = v :: r ∧ Has d v ∧ HasL ds r
def HasK : List (Key × D) → List (Key × V) → Prop
  | [], ws => ws = []
  | (k, d) :: ds, ws => ∃ v r, ws = (k, v) :: r ∧ Has d v ∧ HasK ds r
end
end
/-- what is readable stays readable -/
def Ge (G G' : Hp) : Prop := ∀ a u, Rd G a u → Rd G' a u
theorem Ge.refl (G : Hp) : Ge G G := fun _ _ h => h
theorem Ge.trans {G G1 G2 : Hp} (a : Ge G G1) (b : Ge G1 G2) : Ge G G2 := fun x u h => b x u (a x u h)
section
variable {K : PySem.W.Frag} {G G' : Hp}
theorem Ge.tup {a : Addr} {xs : List V} (e : Ge G G') (h : TupAt K G a xs) : TupAt K G' a xs := h.imp (e _ _) id
theorem Ge.lst {a : Addr} {xs : List V} (e : Ge G G') (h : SqL K G a xs) : SqL K G' a xs := h.imp (e _ _) id
mutual
theorem Has.mono (e : Ge G G') : ∀ (d : D) (v : V), Has K G d v → Has K G' d v
  | .non, _, h => by unfold Has at *; exact h
  | .bl _, _, h => by unfold Has at *; exact h
  | .int _, _, h => by unfold Has at *; exact h
  | .str _, _, h => by unfold Has at *; exact h
  | .tup xs, v, h => by
    unfold Has at *
    obtain ⟨a, vs, e1, h1, h2⟩ := h
    exact ⟨a, vs, e1, e.tup h1, HasL.mono e xs vs h2⟩
  | .lst xs, v, h => by
    unfold Has at *
    obtain ⟨a, vs, e1, h1, h2⟩ := h
    exact ⟨a, vs, e1, e _ _ h1, HasL.mono e xs vs h2⟩
  | .dic xs, v, h => by
    unfold Has at *
    obtain ⟨a, vs, e1, h1, h2⟩ := h
    exact ⟨a, vs, e1, e _ _ h1, HasK.mono e xs vs h2⟩
theorem HasL.mono (e : Ge G G') : ∀ (xs : List D) (vs : List V), HasL K G xs vs → HasL K G' xs vs
  | [], _, h => by unfold HasL at *; exact h
  | x :: xs, vs, h => by
    unfold HasL at *
    obtain ⟨v, r, e1, h1, h2⟩ := h
    exact ⟨v, r, e1, Has.mono e x v h1, HasL.mono e xs r h2⟩
theorem HasK.mono (e : Ge G G') : ∀ (xs : List (Key × D)) (vs : List (Key × V)), HasK K G xs vs → HasK K G' xs vs
  | [], _, h => by unfold HasK at *; exact h
  | (k, x) :: xs, vs, h => by
    unfold HasK at *
    obtain ⟨v, r, e1, h1, h2⟩ := h
    exact ⟨v, r, e1, Has.mono e x v h1, HasK.mono e xs r h2⟩
end
theorem HasL.len : ∀ {xs : List D} {vs : List V}, HasL K G xs vs → vs.length = xs.length
  | [], _, h => by unfold HasL at h; subst h; rfl
  | x :: xs, vs, h => by
    unfold HasL at h
    obtain ⟨v, r, rfl, _, h⟩ := h
    simp [HasL.len h]
theorem HasK.len : ∀ {xs : List (Key × D)} {vs : List (Key × V)}, HasK K G xs vs → vs.length = xs.length
  | [], _, h => by unfold HasK at h; subst h; rfl
  | x :: xs, vs, h => by
    unfold HasK at h
    obtain ⟨v, r, rfl, _, h⟩ := h
    simp [HasK.len h]
theorem HasL.get : ∀ {xs : List D} {vs : List V}, HasL K G xs vs → ∀ {i : Nat} {d : D}, xs[i]? = some d → ∃ v, vs[i]? = some v ∧ Has K G d v
  | [], _, _, i, d, e => by simp at e
  | x :: xs, vs, h, i, d, e => by
    unfold HasL at h
    obtain ⟨v, r, rfl, h1, h⟩ := h
    cases i with
    | zero => simp at e; subst e; exact ⟨v, rfl, h1⟩
    | succ i => simpa using HasL.get h (by simpa using e)
theorem HasL.get' : ∀ {xs : List D} {vs : List V}, HasL K G xs vs → ∀ {i : Nat} {v : V}, vs[i]? = some v → ∃ d, xs[i]? = some d ∧ Has K G d v
  | [], _, h, i, d, e => by unfold HasL at h; subst h; simp at e
  | x :: xs, vs, h, i, v, e => by
    unfold HasL at h
    obtain ⟨v', r, rfl, h1, h⟩ := h
    cases i with
    | zero => simp at e; subst e; exact ⟨x, rfl, h1⟩
    | succ i => simpa using HasL.get' h (by simpa using e)
theorem HasL.snoc : ∀ {xs : List D} {vs : List V} {d : D} {v : V}, HasL K G xs vs → Has K G d v → HasL K G (xs ++ [d]) (vs ++ [v])
  | [], vs, d, v, h, q => by
    unfold HasL at h; subst h
    show HasL K G [d] [v]
    unfold HasL
    exact ⟨v, [], rfl, q, by unfold HasL; rfl⟩
  | x :: xs, vs, d, v, h, q => by
    unfold HasL at h
    obtain ⟨u, r, rfl, h1, h⟩ := h
    show HasL K G (x :: (xs ++ [d])) (u :: (r ++ [v]))
    unfold HasL
    exact ⟨u, r ++ [v], rfl, h1, HasL.snoc h q⟩
theorem HasL.app : ∀ {xs : List D} {vs : List V} {ys : List D} {us : List V}, HasL K G xs vs → HasL K G ys us → HasL K G (xs ++ ys) (vs ++ us)
  | [], vs, ys, us, h, q => by unfold HasL at h; subst h; exact q
  | x :: xs, vs, ys, us, h, q => by
    unfold HasL at h
    obtain ⟨u, r, rfl, h1, h⟩ := h
    show HasL K G (x :: (xs ++ ys)) (u :: (r ++ us))
    unfold HasL
    exact ⟨u, r ++ us, rfl, h1, HasL.app h q⟩
theorem hasL_nil : HasL K G [] [] := by unfold HasL; rfl
theorem hasL_cons {d : D} {v : V} {xs : List D} {vs : List V} (h : Has K G d v) (q : HasL K G xs vs) : HasL K G (d :: xs) (v :: vs) := by
  rw [HasL]; exact ⟨v, vs, rfl, h, q⟩
theorem hasK_nil : HasK K G [] [] := by unfold HasK; rfl
theorem hasK_cons {k : Key} {d : D} {v : V} {xs : List (Key × D)} {vs : List (Key × V)} (h : Has K G d v) (q : HasK K G xs vs) : HasK K G ((k, d) :: xs) ((k, v) :: vs) := by
  rw [HasK]; exact ⟨v, vs, rfl, h, q⟩
/-! tables -/
def putD {α : Type} (xs : List (Key × α)) (k : Key) (d : α) : List (Key × α) :=
  if (xs.any fun p => decide (p.1 = k)) = true then xs.map (fun p => if p.1 = k then (p.1, d) else p) else xs ++ [(k, d)]
def dropD {α : Type} (xs : List (Key × α)) (k : Key) : List (Key × α) := xs.filter fun p => decide (p.1 ≠ k)
theorem HasK.look : ∀ {xs : List (Key × D)} {ws : List (Key × V)}, HasK K G xs ws → ∀ k, (look xs k = none ∧ valV ws k = none) ∨ ∃ d v, look xs k = some d ∧ valV ws k = some v ∧ Has K G d v
  | [], ws, r, k => by unfold HasK at r; subst r; exact .inl ⟨rfl, rfl⟩
  | (j, x) :: xs, ws, r, k => by
    unfold HasK at r
    obtain ⟨u, q, rfl, a, r⟩ := r
    unfold Mp.look
    by_cases e : j = k
    · rw [if_pos e, valV_pos (p := (j, u)) e]
      exact .inr ⟨x, u, rfl, rfl, a⟩
    · rw [if_neg e, valV_neg (p := (j, u)) e]
      exact HasK.look r k
theorem HasK.any : ∀ {xs : List (Key × D)} {ws : List (Key × V)}, HasK K G xs ws → ∀ k, (ws.any fun p => decide (p.1 = k)) = (xs.any fun p => decide (p.1 = k))
  | [], ws, r, k => by unfold HasK at r; subst r; rfl
  | (j, x) :: xs, ws, r, k => by
    unfold HasK at r
    obtain ⟨u, q, rfl, a, r⟩ := r
    rw [List.any_cons, List.any_cons, HasK.any r k]
theorem HasK.set : ∀ {xs : List (Key × D)} {ws : List (Key × V)} {k : Key} {d : D} {v : V}, HasK K G xs ws → Has K G d v →
    HasK K G (xs.map fun p => if p.1 = k then (p.1, d) else p) (ws.map fun p => if p.1 = k then (p.1, v) else p)
  | [], ws, k, d, v, r, q => by unfold HasK at r; subst r; exact hasK_nil
  | (j, x) :: xs, ws, k, d, v, r, q => by
    unfold HasK at r
    obtain ⟨u, s, rfl, a, r⟩ := r
    rw [List.map_cons, List.map_cons]
    by_cases e : j = k
    · rw [if_pos e, if_pos e]; exact hasK_cons q (HasK.set r q)
    · rw [if_neg e, if_neg e]; exact hasK_cons a (HasK.set r q)
theorem HasK.snoc : ∀ {xs : List (Key × D)} {ws : List (Key × V)} {k : Key} {d : D} {v : V}, HasK K G xs ws → Has K G d v → HasK K G (xs ++ [(k, d)]) (ws ++ [(k, v)])
  | [], ws, k, d, v, r, q => by unfold HasK at r; subst r; exact hasK_cons q hasK_nil
  | (j, x) :: xs, ws, k, d, v, r, q => by
    unfold HasK at r
    obtain ⟨u, s, rfl, a, r⟩ := r
    exact hasK_cons a (HasK.snoc r q)
theorem HasK.put {xs : List (Key × D)} {ws : List (Key × V)} {k : Key} {d : D} {v : V} (r : HasK K G xs ws) (q : Has K G d v) : HasK K G (putD xs k d) (putK ws k v) := by
  unfold putD putK
  rw [r.any k]
  split
  · exact HasK.set r q
  · exact HasK.snoc r q
theorem HasK.drop : ∀ {xs : List (Key × D)} {ws : List (Key × V)} {k : Key}, HasK K G xs ws → HasK K G (dropD xs k) (dropK ws k)
  | [], ws, k, r => by unfold HasK at r; subst r; exact hasK_nil
  | (j, x) :: xs, ws, k, r => by
    unfold HasK at r
    obtain ⟨u, s, rfl, a, r⟩ := r
    unfold dropD dropK
    rw [List.filter_cons, List.filter_cons]
    have z := HasK.drop (k := k) r
    by_cases e : j = k
    · simp only [e, ne_eq, not_true_eq_false, decide_false, Bool.false_eq_true, if_false]; exact z
    · simp only [e, ne_eq, not_false_eq_true, decide_true, if_true]; exact hasK_cons a z
theorem HasK.get : ∀ {xs : List (Key × D)} {ws : List (Key × V)}, HasK K G xs ws → ∀ {i : Nat} {k : Key} {d : D}, xs[i]? = some (k, d) → ∃ v, ws[i]? = some (k, v) ∧ Has K G d v
  | [], _, _, i, k, d, e => by simp at e
  | (j, x) :: xs, ws, h, i, k, d, e => by
    unfold HasK at h
    obtain ⟨v, r, rfl, h1, h⟩ := h
    cases i with
    | zero => simp at e; obtain ⟨rfl, rfl⟩ := e; exact ⟨v, rfl, h1⟩
    | succ i => simpa using HasK.get h (by simpa using e)
theorem HasK.keys : ∀ {xs : List (Key × D)} {ws : List (Key × V)}, HasK K G xs ws → ws.map (·.1) = xs.map (·.1)
  | [], _, h => by unfold HasK at h; subst h; rfl
  | (j, x) :: xs, ws, h => by
    unfold HasK at h
    obtain ⟨v, r, rfl, h1, h⟩ := h
    simp [HasK.keys h]
end
/-! ### the context: K, and perhaps the law's town and script -/
structure Cn where
  K : PySem.W.Frag
  tw : Option (Addr × Addr × List Int)
def Cn.pure (c : Cn) : Cn := ⟨c.K, none⟩
/-- the town's address -/
def Cn.T (c : Cn) (a : Addr) : Prop := ∃ q, c.tw = some (a, q)
def TwOk (t : Addr) (H : Hp) : Prop := ∃ p q : Int, 0 ≤ p ∧ H t = some (.lst [.int p, .int q])
def Cn.Iv (c : Cn) (H : Hp) : Prop := ∀ t q, c.tw = some (t, q) → TwOk t H
/-- the script is read, whatever is made -/
def KSeq (K : PySem.W.Frag) (s : Addr) (ns : List Int) : Prop := ∀ H : Hp, SqL K H s (ns.map V.int)
def ScOk (K : PySem.W.Frag) (s : Addr) (ns : List Int) (G H : Hp) : Prop := KSeq K s ns ∨ (Rd H s (.lst (ns.map V.int)) ∧ G s = none)
/-- what the ghost heap says stands: a tuple is known to its object -/
def At (H : Hp) (a : Addr) : HO → Prop
  | .tup vs => ∃ o, H a = some (.frz o (.tup vs)) ∧ o.dict = none
  | .lst vs => Rd H a (.lst vs)
  | .dK ws => Rd H a (.dK ws)
  | _ => False
theorem At.rd {H : Hp} {a : Addr} {u : HO} (h : At H a u) : Rd H a u := by
  cases u with
  | tup vs => obtain ⟨o, h, _⟩ := h; exact .inr ⟨o, h⟩
  | lst vs => exact h
  | dK vs => exact h
  | _ => exact h.elim
theorem At.nf {H : Hp} {a : Addr} {o : Obj} {u : HO} (h : At H a (.frz o u)) : False := h
theorem At.to {H H' : Hp} {a : Addr} {u : HO} (e : H' a = H a) (h : At H a u) : At H' a u := by
  cases u with
  | tup vs => obtain ⟨o, h, d⟩ := h; exact ⟨o, e.trans h, d⟩
  | lst vs =>
    rcases h with h | ⟨o, h⟩
    · exact .inl (e.trans h)
    · exact .inr ⟨o, e.trans h⟩
  | dK vs =>
    rcases h with h | ⟨o, h⟩
    · exact .inl (e.trans h)
    · exact .inr ⟨o, e.trans h⟩
  | _ => exact h.elim
structure Sub (c : Cn) (G H : Hp) : Prop where
  pl : ∀ a u, G a = some u → At H a u
  iv : c.Iv H
  tg : ∀ a, c.T a → G a = none
  sc : ∀ t s ns, c.tw = some (t, s, ns) → ScOk c.K s ns G H ∧ (KSeq c.K s ns ∨ s ≠ t)
theorem Sub.ge {c : Cn} {G H : Hp} (s : Sub c G H) : Ge G H := fun a u r => by
  rcases r with r | ⟨o, r⟩
  · exact (s.pl a u r).rd
  · exact (s.pl a _ r).nf.elim
theorem Sub.rd {c : Cn} {G H : Hp} (s : Sub c G H) {a : Addr} {u : HO} (r : Rd G a u) : G a = some u := by
  rcases r with r | ⟨o, r⟩
  · exact r
  · exact (s.pl a _ r).nf.elim
theorem Sub.there {c : Cn} {G H : Hp} (s : Sub c G H) {a : Addr} {u : HO} (h : G a = some u) : H a ≠ none := by
  rcases (s.pl a u h).rd with r | ⟨o, r⟩ <;> rw [r] <;> exact fun z => nomatch z
theorem Sub.free {c : Cn} {G H : Hp} (s : Sub c G H) {a : Addr} (h : H a = none) : G a = none := by
  cases q : G a with
  | none => rfl
  | some u => exact absurd h (s.there q)
structure Step (c : Cn) (G H G' H' : Hp) : Prop where
  gs : ∀ a u, G a = some u → G' a = some u
  sub : Sub c G' H'
  keep : ∀ a u, ¬ c.T a → G a = none → H a = some u → H' a = some u
  fr : ∀ a, H a ≠ none → G a = none → G' a = none
  fz : ∀ a o u, H a = some (.frz o u) → H' a = some (.frz o u)
section
variable {c : Cn} {G H G1 H1 G2 H2 : Hp}
theorem Cn.Iv.town (i : c.Iv H) {t : Addr} (h : c.T t) : H t ≠ none := by
  obtain ⟨q, h⟩ := h
  obtain ⟨p, q, _, z⟩ := i t _ h
  rw [z]; exact fun y => nomatch y
theorem Step.ge (s : Step c G H G1 H1) : Ge G G1 := fun a u r => r.imp (s.gs a u) fun ⟨o, r⟩ => ⟨o, s.gs a _ r⟩
theorem Step.refl (s : Sub c G H) : Step c G H G H := ⟨fun _ _ h => h, s, fun _ _ _ _ h => h, fun _ _ h => h, fun _ _ _ h => h⟩
theorem Step.trans (a : Step c G H G1 H1) (b : Step c G1 H1 G2 H2) : Step c G H G2 H2 :=
  ⟨fun x u h => b.gs x u (a.gs x u h), b.sub, fun x u t g h => b.keep x u t (a.fr x (by rw [h]; exact fun z => nomatch z) g) (a.keep x u t g h), fun x n g => b.fr x (fun z => by
    by_cases t : c.T x
    · exact a.sub.iv.town t z
    · cases q : H x with
      | none => exact n q
      | some u => rw [a.keep x u t g q] at z; cases z) (a.fr x n g), fun x o u h => b.fz x o u (a.fz x o u h)⟩
theorem Iv.upd (i : c.Iv H) {p : Addr} {o : HO} (hp : ¬ c.T p) : c.Iv (upd H p o) := fun t q h => by
  obtain ⟨x, y, h0, h1⟩ := i t q h
  have ne : t ≠ p := by rintro rfl; exact hp ⟨q, h⟩
  exact ⟨x, y, h0, by rw [upd_ne ne]; exact h1⟩
theorem rd_upd {p a : Addr} {o u : HO} (hp : H p = none) (r : Rd H a u) : Rd (upd H p o) a u := by
  rcases r with r | ⟨o', r⟩
  · exact .inl (by rw [upd_ne (ne_of_none r hp)]; exact r)
  · exact .inr ⟨o', by rw [upd_ne (ne_of_none r hp)]; exact r⟩
theorem not_town (i : c.Iv H) {p : Addr} (hp : H p = none) : ¬ c.T p := fun t => i.town t hp
theorem at_upd {p a : Addr} {o u : HO} (hp : H p = none) (r : At H a u) : At (upd H p o) a u := r.to (upd_ne (fun e => by
  subst e
  rcases r.rd with q | ⟨_, q⟩ <;> rw [hp] at q <;> cases q))
/-- a new object, to be read only from now on -/
theorem Step.new (s : Sub c G H) {p : Addr} {o u : HO} (hp : H p = none) (po : At (upd H p o) p u) : Step c G H (upd G p u) (upd H p o) where
  gs := fun a u h => by rw [upd_ne (ne_of_none h (s.free hp))]; exact h
  sub := {
    pl := fun a x h => by
      by_cases e : a = p
      · subst e; rw [upd_same] at h; cases h; exact po
      · rw [upd_ne e] at h; exact at_upd hp (s.pl a x h)
    iv := Iv.upd s.iv (not_town s.iv hp)
    tg := fun a t => by
      have e : a ≠ p := by rintro rfl; exact not_town s.iv hp t
      rw [upd_ne e]; exact s.tg a t
    sc := fun t a ns h => ⟨(s.sc t a ns h).1.imp id fun ⟨r, g⟩ => ⟨rd_upd hp r, by
      have e : a ≠ p := by rintro rfl; rcases r with r | ⟨_, r⟩ <;> rw [hp] at r <;> cases r
      rw [upd_ne e]; exact g⟩, (s.sc t a ns h).2⟩ }
  keep := fun a u _ _ h => by rw [upd_ne (ne_of_none h hp)]; exact h
  fr := fun a n g => by rw [upd_ne (fun e => n (by rw [e]; exact hp))]; exact g
  fz := fun a o u h => by rw [upd_ne (ne_of_none h hp)]; exact h
/-- a new object that is no datum (yet) -/
theorem Step.tmp (s : Sub c G H) {p : Addr} {o : HO} (hp : H p = none) : Step c G H G (upd H p o) where
  gs := fun a u h => h
  sub := { pl := fun a u h => at_upd hp (s.pl a u h), iv := Iv.upd s.iv (not_town s.iv hp), tg := s.tg, sc := fun t a ns h => ⟨(s.sc t a ns h).1.imp id fun ⟨r, g⟩ => ⟨rd_upd hp r, g⟩, (s.sc t a ns h).2⟩ }
  keep := fun a u _ _ h => by rw [upd_ne (ne_of_none h hp)]; exact h
  fr := fun a n g => g
  fz := fun a o u h => by rw [upd_ne (ne_of_none h hp)]; exact h
/-- an object that is no datum is changed -/
theorem Sub.mut (s : Sub c G H) {p : Addr} {o : HO} (hg : G p = none) (hi : ¬ c.T p) (hs : ∀ t ns, c.tw = some (t, p, ns) → KSeq c.K p ns) : Sub c G (upd H p o) where
  pl := fun a u h => by
    have ne : a ≠ p := by rintro rfl; rw [hg] at h; cases h
    exact (s.pl a u h).to (upd_ne ne)
  iv := Iv.upd s.iv hi
  tg := s.tg
  sc := fun t a ns h => by
    obtain ⟨h1, h2⟩ := s.sc t a ns h
    refine ⟨?_, h2⟩
    by_cases e : a = p
    · subst e; exact .inl (hs t ns h)
    · refine h1.imp id fun ⟨r, g⟩ => ⟨?_, g⟩
      rcases r with r | ⟨o', r⟩
      · exact .inl (by rw [upd_ne e]; exact r)
      · exact .inr ⟨o', by rw [upd_ne e]; exact r⟩
/-- a datum that is a dict is locked, for good -/
theorem Step.frz (s : Sub c G H) {p : Addr} {o : Obj} {ws : List (Key × V)} (hg : G p = some (.dK ws)) (hp : H p = some (.dK ws)) : Step c G H G (upd H p (.frz o (.dK ws))) where
  gs := fun a u h => h
  sub := {
    pl := fun a x h => by
      by_cases e : a = p
      · subst e; rw [hg] at h; cases h; exact .inr ⟨o, upd_same⟩
      · exact (s.pl a x h).to (upd_ne e)
    iv := Iv.upd s.iv fun t => by rw [s.tg p t] at hg; cases hg
    tg := s.tg
    sc := fun t a ns h => by
      obtain ⟨h1, h2⟩ := s.sc t a ns h
      refine ⟨h1.imp id fun ⟨r, g⟩ => ⟨?_, g⟩, h2⟩
      have e : a ≠ p := by rintro rfl; rw [g] at hg; cases hg
      rcases r with r | ⟨o', r⟩
      · exact .inl (by rw [upd_ne e]; exact r)
      · exact .inr ⟨o', by rw [upd_ne e]; exact r⟩ }
  keep := fun a x _ g h => by rw [upd_ne (fun e => by subst e; rw [hg] at g; cases g)]; exact h
  fr := fun a n g => g
  fz := fun a o' x h => by
    have ne : a ≠ p := by rintro rfl; rw [hp] at h; cases h
    rw [upd_ne ne]; exact h
/-- a pure step, within any context -/
theorem Sub.pure (s : Sub c G H) : Sub c.pure G H := ⟨s.pl, (fun t q z => by cases z), (fun a ⟨q, t⟩ => by cases t), (fun t a ns z => by cases z)⟩
theorem Step.lift (s : Sub c G H) (a : Step c.pure G H G1 H1) : Step c G H G1 H1 := by
  have k : ∀ a u, G a = none → H a = some u → H1 a = some u := fun x u g h => a.keep x u (fun ⟨q, e⟩ => by cases e) g h
  refine ⟨a.gs, ⟨a.sub.pl, fun t q h => ?_, fun x t => ?_, fun t x ns h => ?_⟩, fun x u _ g h => k x u g h, a.fr, a.fz⟩
  · obtain ⟨x, y, h0, h1⟩ := s.iv t q h
    exact ⟨x, y, h0, k t _ (s.tg t ⟨q, h⟩) h1⟩
  · exact a.fr x (s.iv.town t) (s.tg x t)
  · obtain ⟨h1, h2⟩ := s.sc t x ns h
    refine ⟨h1.imp id fun ⟨r, g⟩ => ?_, h2⟩
    rcases r with r | ⟨o, r⟩
    · exact ⟨.inl (k x _ g r), a.fr x (by rw [r]; exact fun z => nomatch z) g⟩
    · exact ⟨.inr ⟨o, k x _ g r⟩, a.fr x (by rw [r]; exact fun z => nomatch z) g⟩
end
/-! ### the slots -/
inductive Sl where
  | un | dat (d : D) | own (d : D) | raw (v : V)
/-- an object of the def's own, not yet a datum -/
def OwnAt (K : PySem.W.Frag) (G H : Hp) (r : Addr) : D → Prop
  | .lst xs => ∃ vs, H r = some (.lst vs) ∧ HasL K G xs vs
  | .dic xs => ∃ ws, H r = some (.dK ws) ∧ HasK K G xs ws
  | _ => False
structure EnvOk (c : Cn) (H0 G H : Hp) (σ : L2.St) (δ : List Sl) : Prop where
  len : σ.length = δ.length
  dat : ∀ (i : Nat) (d : D), δ[i]? = some (.dat d) → ∃ v, σ[i]? = some (some v) ∧ Has c.K G d v
  own : ∀ (i : Nat) (d : D), δ[i]? = some (.own d) → ∃ r, σ[i]? = some (some (.ref r)) ∧ H0 r = none ∧ G r = none ∧ OwnAt c.K G H r d
  raw : ∀ (i : Nat) (v : V), δ[i]? = some (.raw v) → σ[i]? = some (some v)
  sep : ∀ (i j : Nat) (d e : D) (r : Addr), i ≠ j → δ[i]? = some (.own d) → δ[j]? = some (.own e) → σ[i]? = some (some (.ref r)) → σ[j]? ≠ some (some (.ref r))
structure Bs (c : Cn) (G0 H0 G H : Hp) : Prop where
  s0 : Sub c G0 H0
  st : Step c G0 H0 G H
section
variable {c : Cn} {G0 H0 G H G1 H1 G2 H2 : Hp} {σ : L2.St} {δ : List Sl}
theorem OwnAt.mono {r : Addr} {d : D} (g : Ge G G1) (e : H1 r = H r) (h : OwnAt c.K G H r d) : OwnAt c.K G1 H1 r d := by
  cases d with
  | lst xs => obtain ⟨vs, h1, h2⟩ := h; exact ⟨vs, e.trans h1, h2.mono g⟩
  | dic xs => obtain ⟨vs, h1, h2⟩ := h; exact ⟨vs, e.trans h1, h2.mono g⟩
  | _ => exact h
theorem OwnAt.there {r : Addr} {d : D} (h : OwnAt c.K G H r d) : H r ≠ none := by
  cases d with
  | lst xs => obtain ⟨vs, h1, h2⟩ := h; rw [h1]; exact fun z => nomatch z
  | dic xs => obtain ⟨vs, h1, h2⟩ := h; rw [h1]; exact fun z => nomatch z
  | _ => exact h.elim
theorem Bs.sub (b : Bs c G0 H0 G H) : Sub c G H := b.st.sub
theorem Bs.iv (b : Bs c G0 H0 G H) : c.Iv H0 := b.s0.iv
theorem Bs.scr (b : Bs c G0 H0 G H) {r : Addr} (h0 : H0 r = none) : ∀ t ns, c.tw = some (t, r, ns) → KSeq c.K r ns := fun t ns h => by
  rcases (b.s0.sc t r ns h).1 with z | ⟨z | ⟨o, z⟩, _⟩
  · exact z
  · rw [h0] at z; cases z
  · rw [h0] at z; cases z
theorem Bs.next (b : Bs c G0 H0 G H) (s : Step c G H G1 H1) : Bs c G0 H0 G1 H1 := ⟨b.s0, b.st.trans s⟩
theorem EnvOk.step (e : EnvOk c H0 G H σ δ) (i0 : c.Iv H0) (s : Step c G H G1 H1) : EnvOk c H0 G1 H1 σ δ where
  len := e.len
  dat := fun i d h => by obtain ⟨v, h1, h2⟩ := e.dat i d h; exact ⟨v, h1, h2.mono s.ge⟩
  own := fun i d h => by
    obtain ⟨r, h1, h2, h3, h4⟩ := e.own i d h
    refine ⟨r, h1, h2, s.fr r h4.there h3, h4.mono s.ge ?_⟩
    cases q : H r with
    | none => exact absurd q h4.there
    | some u => exact s.keep r u (not_town i0 h2) h3 q
  raw := e.raw
  sep := e.sep
theorem get_set {α : Type} {l : List α} {i j : Nat} {x y : α} (h : (l.set i x)[j]? = some y) : (j = i ∧ x = y ∧ i < l.length) ∨ (j ≠ i ∧ l[j]? = some y) := by
  by_cases e : j = i
  · subst e
    by_cases hl : j < l.length
    · rw [List.getElem?_set_self hl] at h; cases h; exact .inl ⟨rfl, rfl, hl⟩
    · rw [List.getElem?_eq_none (by simpa using hl)] at h; cases h
  · rw [List.getElem?_set_ne (Ne.symm e)] at h; exact .inr ⟨e, h⟩
theorem EnvOk.setDat (e : EnvOk c H0 G H σ δ) {i : Nat} {d : D} {v : V} (h : Has c.K G d v) : EnvOk c H0 G H (σ.set i (some v)) (δ.set i (.dat d)) where
  len := by simp [e.len]
  dat := fun j x q => by
    rcases get_set q with ⟨rfl, z, hl⟩ | ⟨ne, q⟩
    · cases z; exact ⟨v, by rw [List.getElem?_set_self (by rw [e.len]; exact hl)], h⟩
    · obtain ⟨u, h1, h2⟩ := e.dat j x q; exact ⟨u, by rw [List.getElem?_set_ne (Ne.symm ne)]; exact h1, h2⟩
  own := fun j x q => by
    rcases get_set q with ⟨rfl, z, hl⟩ | ⟨ne, q⟩
    · cases z
    · obtain ⟨u, h1, h2⟩ := e.own j x q; exact ⟨u, by rw [List.getElem?_set_ne (Ne.symm ne)]; exact h1, h2⟩
  raw := fun j x q => by
    rcases get_set q with ⟨rfl, z, hl⟩ | ⟨ne, q⟩
    · cases z
    · rw [List.getElem?_set_ne (Ne.symm ne)]; exact e.raw j x q
  sep := fun j k x y r ne p q h1 => by
    rcases get_set p with ⟨rfl, z, hl⟩ | ⟨n1, p⟩
    · cases z
    rcases get_set q with ⟨rfl, z, hl⟩ | ⟨n2, q⟩
    · cases z
    rw [List.getElem?_set_ne (Ne.symm n1)] at h1
    rw [List.getElem?_set_ne (Ne.symm n2)]
    exact e.sep j k x y r ne p q h1
theorem EnvOk.setUn (e : EnvOk c H0 G H σ δ) {i : Nat} {o : Option V} : EnvOk c H0 G H (σ.set i o) (δ.set i .un) where
  len := by simp [e.len]
  dat := fun j x q => by
    rcases get_set q with ⟨rfl, z, hl⟩ | ⟨ne, q⟩
    · cases z
    · obtain ⟨u, h1, h2⟩ := e.dat j x q; exact ⟨u, by rw [List.getElem?_set_ne (Ne.symm ne)]; exact h1, h2⟩
  own := fun j x q => by
    rcases get_set q with ⟨rfl, z, hl⟩ | ⟨ne, q⟩
    · cases z
    · obtain ⟨u, h1, h2⟩ := e.own j x q; exact ⟨u, by rw [List.getElem?_set_ne (Ne.symm ne)]; exact h1, h2⟩
  raw := fun j x q => by
    rcases get_set q with ⟨rfl, z, hl⟩ | ⟨ne, q⟩
    · cases z
    · rw [List.getElem?_set_ne (Ne.symm ne)]; exact e.raw j x q
  sep := fun j k x y r ne p q h1 => by
    rcases get_set p with ⟨rfl, z, hl⟩ | ⟨n1, p⟩
    · cases z
    rcases get_set q with ⟨rfl, z, hl⟩ | ⟨n2, q⟩
    · cases z
    rw [List.getElem?_set_ne (Ne.symm n1)] at h1
    rw [List.getElem?_set_ne (Ne.symm n2)]
    exact e.sep j k x y r ne p q h1
/-- an own object is laid into slot i -/
theorem EnvOk.setOwn (e : EnvOk c H0 G H σ δ) {i : Nat} {d : D} {r : Addr} (hr : H0 r = none) (hg : G r = none) (h : OwnAt c.K G H r d) (hn : ∀ (j : Nat) (x : D), j ≠ i → δ[j]? = some (.own x) → σ[j]? ≠ some (some (.ref r))) :
    EnvOk c H0 G H (σ.set i (some (.ref r))) (δ.set i (.own d)) where
  len := by simp [e.len]
  dat := fun j x q => by
    rcases get_set q with ⟨rfl, z, hl⟩ | ⟨ne, q⟩
    · cases z
    · obtain ⟨u, h1, h2⟩ := e.dat j x q; exact ⟨u, by rw [List.getElem?_set_ne (Ne.symm ne)]; exact h1, h2⟩
  own := fun j x q => by
    rcases get_set q with ⟨rfl, z, hl⟩ | ⟨ne, q⟩
    · cases z; exact ⟨r, by rw [List.getElem?_set_self (by rw [e.len]; exact hl)], hr, hg, h⟩
    · obtain ⟨u, h1, h2⟩ := e.own j x q; exact ⟨u, by rw [List.getElem?_set_ne (Ne.symm ne)]; exact h1, h2⟩
  raw := fun j x q => by
    rcases get_set q with ⟨rfl, z, hl⟩ | ⟨ne, q⟩
    · cases z
    · rw [List.getElem?_set_ne (Ne.symm ne)]; exact e.raw j x q
  sep := fun j k x y a ne p q h1 => by
    rcases get_set p with ⟨e1, _, hl⟩ | ⟨n1, p'⟩
    · rw [e1, List.getElem?_set_self (by rw [e.len]; exact hl)] at h1
      cases h1
      rcases get_set q with ⟨e2, _, _⟩ | ⟨n2, q'⟩
      · exact absurd (e1.trans e2.symm) ne
      · rw [List.getElem?_set_ne (Ne.symm n2)]; exact hn k y n2 q'
    rw [List.getElem?_set_ne (Ne.symm n1)] at h1
    rcases get_set q with ⟨e2, _, hl⟩ | ⟨n2, q'⟩
    · rw [e2, List.getElem?_set_self (by rw [e.len]; exact hl)]
      intro z; cases z
      exact hn j x n1 p' h1
    · rw [List.getElem?_set_ne (Ne.symm n2)]
      exact e.sep j k x y a ne p' q' h1
/-- the own object in slot i has changed -/
theorem EnvOk.mutOwn (e : EnvOk c H0 G H σ δ) {i : Nat} {d d' : D} {r : Addr} {o : HO} (h : δ[i]? = some (.own d)) (hr : σ[i]? = some (some (.ref r))) (ho : OwnAt c.K G (upd H r o) r d') : EnvOk c H0 G (upd H r o) σ (δ.set i (.own d')) where
  len := by simp [e.len]
  dat := fun j x q => by
    rcases get_set q with ⟨rfl, z, hl⟩ | ⟨ne, q⟩
    · cases z
    · exact e.dat j x q
  own := fun j x q => by
    obtain ⟨r0, h1, h2, h3, h4⟩ := e.own i d h
    rw [hr] at h1; cases h1
    rcases get_set q with ⟨rfl, z, hl⟩ | ⟨ne, q⟩
    · cases z; exact ⟨r, hr, h2, h3, ho⟩
    · obtain ⟨u, g1, g2, g3, g4⟩ := e.own j x q
      have nr : u ≠ r := by rintro rfl; exact e.sep i j d x u (Ne.symm ne) h q hr g1
      exact ⟨u, g1, g2, g3, g4.mono (Ge.refl _) (upd_ne nr)⟩
  raw := fun j x q => by
    rcases get_set q with ⟨rfl, z, hl⟩ | ⟨ne, q⟩
    · cases z
    · exact e.raw j x q
  sep := fun j k x y a ne p q h1 => by
    have back : ∀ {m : Nat} {z : D}, (δ.set i (.own d'))[m]? = some (.own z) → ∃ z', δ[m]? = some (.own z') := fun {m z} q => by
      rcases get_set q with ⟨rfl, _, _⟩ | ⟨_, q⟩
      · exact ⟨d, h⟩
      · exact ⟨z, q⟩
    obtain ⟨x', p'⟩ := back p
    obtain ⟨y', q'⟩ := back q
    exact e.sep j k x' y' a ne p' q' h1
/-- the own object of slot i is a datum from now on -/
theorem own_pl {r : Addr} {d : D} (h : OwnAt c.K G H r d) : ∃ o, H r = some o ∧ At H r o := by
  cases d with
  | lst xs => obtain ⟨vs, h1, h2⟩ := h; exact ⟨_, h1, .inl h1⟩
  | dic xs => obtain ⟨vs, h1, h2⟩ := h; exact ⟨_, h1, .inl h1⟩
  | _ => exact h.elim
theorem Ge.upd {r : Addr} {o : HO} (hg : G r = none) : Ge G (upd G r o) := fun a u h => by
  have ne : a ≠ r := by rintro rfl; rcases h with h | ⟨_, h⟩ <;> rw [hg] at h <;> cases h
  rcases h with h | ⟨q, h⟩
  · exact .inl (by rw [upd_ne ne]; exact h)
  · exact .inr ⟨q, by rw [upd_ne ne]; exact h⟩
theorem own_has {r : Addr} {d : D} {o : HO} (hg : G r = none) (h : OwnAt c.K G H r d) (ho : H r = some o) : Has c.K (upd G r o) d (.ref r) := by
  cases d with
  | lst xs =>
    obtain ⟨vs, h1, h2⟩ := h
    rw [ho] at h1; cases h1
    unfold Has
    exact ⟨r, vs, rfl, .inl upd_same, h2.mono (Ge.upd hg)⟩
  | dic xs =>
    obtain ⟨vs, h1, h2⟩ := h
    rw [ho] at h1; cases h1
    unfold Has
    exact ⟨r, vs, rfl, .inl upd_same, h2.mono (Ge.upd hg)⟩
  | _ => exact h.elim
theorem Bs.mut (b : Bs c G0 H0 G H) {r : Addr} {o : HO} (h0 : H0 r = none) (hg : G r = none) : Bs c G0 H0 G (upd H r o) :=
  ⟨b.s0, ⟨b.st.gs, b.sub.mut hg (not_town b.iv h0) (b.scr h0), fun a u t g h => by rw [upd_ne (ne_of_none h h0)]; exact b.st.keep a u t g h, b.st.fr, fun a o' u h => by rw [upd_ne (ne_of_none h h0)]; exact b.st.fz a o' u h⟩⟩
/-- later: the ghost has grown, what was locked is locked -/
structure Lat (G H G' H' : Hp) : Prop where
  gs : ∀ a u, G a = some u → G' a = some u
  fz : ∀ a o u, H a = some (.frz o u) → H' a = some (.frz o u)
theorem Lat.refl (G H : Hp) : Lat G H G H := ⟨fun _ _ h => h, fun _ _ _ h => h⟩
theorem Lat.trans (a : Lat G H G1 H1) (b : Lat G1 H1 G2 H2) : Lat G H G2 H2 := ⟨fun x u h => b.gs x u (a.gs x u h), fun x o u h => b.fz x o u (a.fz x o u h)⟩
theorem Step.lat (s : Step c G H G1 H1) : Lat G H G1 H1 := ⟨s.gs, s.fz⟩
theorem Lat.ge (s : Lat G H G1 H1) : Ge G G1 := fun a u r => r.imp (s.gs a u) fun ⟨o, r⟩ => ⟨o, s.gs a _ r⟩
theorem Lat.mut {r : Addr} {o : HO} (hf : ∀ o' u, H r ≠ some (.frz o' u)) : Lat G H G (upd H r o) := ⟨fun _ _ h => h, fun a o' u h => by
  have ne : a ≠ r := by rintro rfl; exact hf o' u h
  rw [upd_ne ne]; exact h⟩
theorem OwnAt.nofrz {r : Addr} {d : D} (h : OwnAt c.K G H r d) : ∀ o u, H r ≠ some (.frz o u) := fun o u e => by
  obtain ⟨q, h1, h2⟩ := own_pl h
  rw [e] at h1; cases h1; exact h2.nf
end
end Mp
set_option maxRecDepth 100000
set_option maxHeartbeats 4000000
namespace Mp
open PySem L2
/-! ### readings at the level of data -/
abbrev KE (c : Cn) (G H : Hp) (P : D → Prop) (Q : VK) : Prop := ∀ (d : D) (v : V) (G' H' : Hp), P d → Step c G H G' H' → Has c.K G' d v → Q v H'
/-- an expression: it gives a datum of which P holds -/
def DE (c : Cn) (te : TE) (δ : List Sl) (P : D → Prop) : Prop :=
  ∀ (G0 H0 G H : Hp) (σ : L2.St) (Q : VK), Bs c G0 H0 G H → EnvOk c H0 G H σ δ → KE c G H P Q → te σ H Q
/-- an expression that makes a new list or dict -/
def DN (c : Cn) (te : TE) (δ : List Sl) (P : D → Prop) : Prop :=
  ∀ (G0 H0 G H : Hp) (σ : L2.St) (Q : VK), Bs c G0 H0 G H → EnvOk c H0 G H σ δ →
    (∀ (d : D) (r : Addr) (G' H' : Hp), P d → Step c G H G' H' → H r = none → G' r = none → OwnAt c.K G' H' r d → Q (.ref r) H') → te σ H Q
def DT (c : Cn) (tt : TT) (δ : List Sl) (P : Bool → Prop) : Prop :=
  ∀ (G0 H0 G H : Hp) (σ : L2.St) (Q : Bool → Hp → Prop), Bs c G0 H0 G H → EnvOk c H0 G H σ δ → (∀ (b : Bool) (G' H' : Hp), P b → Step c G H G' H' → Q b H') → tt σ H Q
/-- an argument: a datum, or a value as it is -/
inductive Av where
  | dat (d : D) | raw (v : V)
def HasA (K : PySem.W.Frag) (G : Hp) : List Av → List V → Prop
  | [], vs => vs = []
  | .dat d :: r, vs => ∃ v s, vs = v :: s ∧ Has K G d v ∧ HasA K G r s
  | .raw v :: r, vs => ∃ s, vs = v :: s ∧ HasA K G r s
def DA (c : Cn) (ta : TA) (δ : List Sl) (P : List Av → Prop) : Prop :=
  ∀ (G0 H0 G H : Hp) (σ : L2.St) (Q : List V → Hp → Prop), Bs c G0 H0 G H → EnvOk c H0 G H σ δ →
    (∀ (as : List Av) (vs : List V) (G' H' : Hp), P as → Step c G H G' H' → HasA c.K G' as vs → Q vs H') → ta σ H Q
theorem HasA.mono {K : PySem.W.Frag} {G G' : Hp} (e : Ge G G') : ∀ {as : List Av} {vs : List V}, HasA K G as vs → HasA K G' as vs
  | [], _, h => h
  | .dat d :: r, vs, h => by
    obtain ⟨v, s, e1, h1, h2⟩ := h
    exact ⟨v, s, e1, h1.mono e, h2.mono e⟩
  | .raw v :: r, vs, h => by
    obtain ⟨s, e1, h2⟩ := h
    exact ⟨s, e1, h2.mono e⟩
theorem HasA.dats {K : PySem.W.Frag} {G : Hp} : ∀ {ds : List D} {vs : List V}, HasA K G (ds.map .dat) vs → HasL K G ds vs
  | [], _, h => by cases h; exact hasL_nil
  | d :: r, vs, h => by
    obtain ⟨v, s, rfl, h1, h2⟩ := h
    exact hasL_cons h1 h2.dats
section
variable {c : Cn} {te ta tb : TE} {tt tu : TT} {δ : List Sl} {P P' : D → Prop}
theorem DE.imp (h : DE c te δ P) (i : ∀ d, P d → P' d) : DE c te δ P' := fun G0 H0 G H σ Q b e k => h G0 H0 G H σ Q b e fun d v G' H' p => k d v G' H' (i d p)
theorem DN.imp (h : DN c te δ P) (i : ∀ d, P d → P' d) : DN c te δ P' := fun G0 H0 G H σ Q b e k => h G0 H0 G H σ Q b e fun d v G' H' p => k d v G' H' (i d p)
theorem DT.imp {P P' : Bool → Prop} (h : DT c tt δ P) (i : ∀ d, P d → P' d) : DT c tt δ P' := fun G0 H0 G H σ Q b e k => h G0 H0 G H σ Q b e fun d G' H' p => k d G' H' (i d p)
/-- what is new may be taken as a datum at once -/
theorem DN.de (h : DN c te δ P) : DE c te δ P := fun G0 H0 G H σ Q b e k => h G0 H0 G H σ Q b e fun d r G' H' p s hr gr oa => by
  obtain ⟨o, ho, po⟩ := own_pl oa
  refine k d _ (upd G' r o) H' p ?_ (own_has gr oa ho)
  refine ⟨fun a u x => ?_, ⟨fun a u x => ?_, s.sub.iv, fun a t => ?_, fun t a ns h => ?_⟩, s.keep, fun a n g => ?_, s.fz⟩
  · have ne : a ≠ r := by rintro rfl; rw [s.gs a u x] at gr; cases gr
    rw [upd_ne ne]; exact s.gs a u x
  · by_cases ea : a = r
    · subst ea; rw [upd_same] at x; cases x; exact po
    · rw [upd_ne ea] at x; exact s.sub.pl a u x
  · have ne : a ≠ r := by rintro rfl; exact not_town b.sub.iv hr t
    rw [upd_ne ne]; exact s.sub.tg a t
  · obtain ⟨h1, h2⟩ := s.sub.sc t a ns h
    refine ⟨?_, h2⟩
    by_cases e : a = r
    · subst e; exact .inl (Bs.scr (G0 := G) (H0 := H) ⟨b.sub, s⟩ hr t ns h)
    · exact h1.imp id fun ⟨q, g⟩ => ⟨q, by rw [upd_ne e]; exact g⟩
  · have ne : a ≠ r := by rintro rfl; exact n hr
    rw [upd_ne ne]; exact s.fr a n g
/-! names and constants -/
theorem de_var {i : Nat} {d : D} (h : δ[i]? = some (.dat d)) (p : P d) : DE c (tVar i) δ P := fun G0 H0 G H σ Q b e k => by
  obtain ⟨v, h1, h2⟩ := e.dat i d h
  exact ⟨v, h1, k d v G H p (.refl b.sub) h2⟩
theorem de_cst {v : V} {d : D} (h : ∀ G, Has c.K G d v) (p : P d) : DE c (tC v) δ P := fun G0 H0 G H σ Q b e k => k d v G H p (.refl b.sub) (h G)
theorem de_int {i : Int} (p : P (.int i)) : DE c (tC (.int i)) δ P := de_cst (fun G => by unfold Has; rfl) p
theorem de_str {i : Str} (p : P (.str i)) : DE c (tC (.str i)) δ P := de_cst (fun G => by unfold Has; rfl) p
theorem de_bl {i : Bool} (p : P (.bl i)) : DE c (tC (.bl i)) δ P := de_cst (fun G => by unfold Has; rfl) p
theorem de_non (p : P .non) : DE c (tC .non) δ P := de_cst (fun G => by unfold Has; rfl) p
/-! operators -/
/-- what an operation on two values does, at the level of data -/
def DOp (c : Cn) (r : R2) (F : D → D → (D → Prop) → Prop) : Prop :=
  ∀ (x y : D) (v u : V) (G H : Hp) (Q : VK) (P : D → Prop), Sub c G H → Has c.K G x v → Has c.K G y u → F x y P → KE c G H P Q → r v u H Q
theorem de_op {r : R2} {F : D → D → (D → Prop) → Prop} (hr : DOp c r F) (h : DE c ta δ fun x => DE c tb δ fun y => F x y P) : DE c (tOp r ta tb) δ P := fun G0 H0 G H σ Q b e k =>
  h G0 H0 G H σ _ b e fun x v G1 H1 px s1 hx => px G0 H0 G1 H1 σ _ (b.next s1) (e.step b.iv s1) fun y u G2 H2 py s2 hy =>
    hr x y v u G2 H2 Q P s2.sub (hx.mono s2.ge) hy py fun d w G3 H3 pd s3 hd => k d w G3 H3 pd ((s1.trans s2).trans s3) hd
def DUn (c : Cn) (r : V → Hp → VK → Prop) (F : D → (D → Prop) → Prop) : Prop :=
  ∀ (x : D) (v : V) (G H : Hp) (Q : VK) (P : D → Prop), Sub c G H → Has c.K G x v → F x P → KE c G H P Q → r v H Q
theorem de_un {r : V → Hp → VK → Prop} {F : D → (D → Prop) → Prop} (hr : DUn c r F) (h : DE c ta δ fun x => F x P) : DE c (tUn r ta) δ P := fun G0 H0 G H σ Q b e k =>
  h G0 H0 G H σ _ b e fun x v G1 H1 px s1 hx => hr x v G1 H1 Q P s1.sub hx px fun d w G3 H3 pd s3 hd => k d w G3 H3 pd (s1.trans s3) hd
/-- a value alone comes of it, the heap stays -/
theorem dop_val {r : R2} {F : D → D → (D → Prop) → Prop} (h : ∀ (x y : D) (v u : V) (G H : Hp) (P : D → Prop) (Q : VK), Sub c G H → Has c.K G x v → Has c.K G y u → F x y P → (∀ d w, P d → Has c.K G d w → Q w H) → r v u H Q) : DOp c r F :=
  fun x y v u G H Q P s hx hy f k => h x y v u G H P Q s hx hy f fun d w p q => k d w G H p (.refl s) q
/-! and, or, not, if -/
theorem de_if (h : DT c tt δ fun b => if b = true then DE c ta δ P else DE c tb δ P) : DE c (tIf tt ta tb) δ P := fun G0 H0 G H σ Q b e k =>
  h G0 H0 G H σ _ b e fun x G1 H1 p s1 => by
    cases x with
    | true => simp only [if_true] at p ⊢; exact p G0 H0 G1 H1 σ Q (b.next s1) (e.step b.iv s1) fun d v G2 H2 pd s2 hd => k d v G2 H2 pd (s1.trans s2) hd
    | false => simp only [Bool.false_eq_true, if_false] at p ⊢; exact p G0 H0 G1 H1 σ Q (b.next s1) (e.step b.iv s1) fun d v G2 H2 pd s2 hd => k d v G2 H2 pd (s1.trans s2) hd
theorem de_andV (h : DE c ta δ fun x => ∃ b, x = .bl b ∧ if b = true then DE c tb δ P else P (.bl false)) : DE c (tAndV ta tb) δ P := fun G0 H0 G H σ Q b e k =>
  h G0 H0 G H σ _ b e fun x v G1 H1 p s1 hx => by
    obtain ⟨w, rfl, p⟩ := p
    unfold Has at hx
    refine ⟨w, hx, ?_⟩
    cases w with
    | true => simp only [if_true] at p ⊢; exact p G0 H0 G1 H1 σ Q (b.next s1) (e.step b.iv s1) fun d v G2 H2 pd s2 hd => k d v G2 H2 pd (s1.trans s2) hd
    | false => simp only [Bool.false_eq_true, if_false] at p ⊢; exact k _ _ G1 H1 p s1 (by unfold Has; rfl)
theorem de_orV (h : DE c ta δ fun x => ∃ b, x = .bl b ∧ if b = true then P (.bl true) else DE c tb δ P) : DE c (tOrV ta tb) δ P := fun G0 H0 G H σ Q b e k =>
  h G0 H0 G H σ _ b e fun x v G1 H1 p s1 hx => by
    obtain ⟨w, rfl, p⟩ := p
    unfold Has at hx
    refine ⟨w, hx, ?_⟩
    cases w with
    | false => simp only [Bool.false_eq_true, if_false] at p ⊢; exact p G0 H0 G1 H1 σ Q (b.next s1) (e.step b.iv s1) fun d v G2 H2 pd s2 hd => k d v G2 H2 pd (s1.trans s2) hd
    | true => simp only [if_true] at p ⊢; exact k _ _ G1 H1 p s1 (by unfold Has; rfl)
theorem de_notV (h : DE c ta δ fun x => ∃ b, x = .bl b ∧ P (.bl (!b))) : DE c (tNotV ta) δ P := fun G0 H0 G H σ Q b e k =>
  h G0 H0 G H σ _ b e fun x v G1 H1 p s1 hx => by
    obtain ⟨w, rfl, p⟩ := p
    unfold Has at hx
    exact ⟨w, hx, k _ _ G1 H1 p s1 (by unfold Has; rfl)⟩
theorem dt_test {P : Bool → Prop} (h : DE c ta δ fun x => ∃ b, x = .bl b ∧ P b) : DT c (tTest ta) δ P := fun G0 H0 G H σ Q b e k =>
  h G0 H0 G H σ _ b e fun x v G1 H1 p s1 hx => by
    obtain ⟨w, rfl, p⟩ := p
    unfold Has at hx
    exact ⟨w, hx, k _ G1 H1 p s1⟩
theorem dt_B {P : Bool → Prop} (h : DE c ta δ fun x => ∃ b, x = .bl b ∧ P b) : DT c (tB ta) δ P := dt_test h
theorem dt_and {P : Bool → Prop} (h : DT c tt δ fun b => if b = true then DT c tu δ P else P false) : DT c (tAnd tt tu) δ P := fun G0 H0 G H σ Q b e k =>
  h G0 H0 G H σ _ b e fun x G1 H1 p s1 => by
    cases x with
    | true => simp only [if_true] at p ⊢; exact p G0 H0 G1 H1 σ Q (b.next s1) (e.step b.iv s1) fun d G2 H2 pd s2 => k d G2 H2 pd (s1.trans s2)
    | false => simp only [Bool.false_eq_true, if_false] at p ⊢; exact k _ G1 H1 p s1
theorem dt_or {P : Bool → Prop} (h : DT c tt δ fun b => if b = true then P true else DT c tu δ P) : DT c (tOr tt tu) δ P := fun G0 H0 G H σ Q b e k =>
  h G0 H0 G H σ _ b e fun x G1 H1 p s1 => by
    cases x with
    | false => simp only [Bool.false_eq_true, if_false] at p ⊢; exact p G0 H0 G1 H1 σ Q (b.next s1) (e.step b.iv s1) fun d G2 H2 pd s2 => k d G2 H2 pd (s1.trans s2)
    | true => simp only [if_true] at p ⊢; exact k _ G1 H1 p s1
theorem dt_not {P : Bool → Prop} (h : DT c tt δ fun b => P (!b)) : DT c (tNot tt) δ P := fun G0 H0 G H σ Q b e k =>
  h G0 H0 G H σ _ b e fun x G1 H1 p s1 => k _ G1 H1 p s1
/-! arguments, displays -/
theorem da_nil {P : List Av → Prop} (p : P []) : DA c tNil δ P := fun G0 H0 G H σ Q b e k => k [] [] G H p (.refl b.sub) rfl
theorem da_cons {tr : TA} {P : List Av → Prop} (h : DE c te δ fun d => DA c tr δ fun as => P (.dat d :: as)) : DA c (tCons te tr) δ P := fun G0 H0 G H σ Q b e k =>
  h G0 H0 G H σ _ b e fun x v G1 H1 px s1 hx => px G0 H0 G1 H1 σ _ (b.next s1) (e.step b.iv s1) fun as vs G2 H2 pa s2 ha =>
    k _ _ G2 H2 pa (s1.trans s2) ⟨v, vs, rfl, hx.mono s2.ge, ha⟩
theorem da_rawv {tr : TA} {P : List Av → Prop} {i : Nat} {v : V} (h : δ[i]? = some (.raw v)) (q : DA c tr δ fun as => P (.raw v :: as)) : DA c (tCons (tVar i) tr) δ P := fun G0 H0 G H σ Q b e k =>
  ⟨v, e.raw i v h, q G0 H0 G H σ _ b e fun as vs G2 H2 pa s2 ha => k _ _ G2 H2 pa s2 ⟨vs, rfl, ha⟩⟩
theorem da_rawc {tr : TA} {P : List Av → Prop} {v : V} (q : DA c tr δ fun as => P (.raw v :: as)) : DA c (tCons (tC v) tr) δ P := fun G0 H0 G H σ Q b e k =>
  q G0 H0 G H σ _ b e fun as vs G2 H2 pa s2 ha => k _ _ G2 H2 pa s2 ⟨vs, rfl, ha⟩
/-- a tuple display whose object is known -/
def tTupF (t : TA) : TE := fun σ H Q => t σ H fun xs H1 => xs.length ≤ sizeLine ∧ ∀ p o, H1 p = none → o.dict = none → Q (.ref p) (upd H1 p (.frz o (.tup xs)))
open PyProof.Rows in
theorem pe_tupF {X : Cx} {es : List Expr} {t : TA} {pos : Pos} {x1} (h : PA X es t) : PE X (.Tuple es x1 pos) (tTupF t) := by
  refine ⟨fun pins s σ H Q I hq => ?_⟩
  refine wpAny_Tuple_spliced (thn (h.run pos pins s σ H _ I hq) fun us s1 ⟨xs, H1, I1, r, z, q⟩ => ⟨by rw [← r.length]; exact z, ?_⟩)
  have hf : H1 s1.heap.objs.size = none := I1.hok.fresh (Nat.le_refl _)
  refine ⟨.ref s1.heap.objs.size, upd H1 s1.heap.objs.size (.frz _ (.tup xs)), I1.laid (t' := s1.toks) (fun b u e => Heap.get?_push_of_some _ e) (Nat.le_refl _) ⟨Heap.get?_push_size _ rfl, ?_⟩, rfl, q _ _ hf rfl⟩
  exact ⟨z, us, r, ⟨_, Heap.get?_push_size _ rfl, rfl, _, rfl⟩⟩
theorem has_tup {G : Hp} {p : Addr} {ds : List D} {vs : List V} (hg : G p = none) (h : HasL c.K G ds vs) : Has c.K (upd G p (.tup vs)) (.tup ds) (.ref p) := by
  unfold Has
  exact ⟨p, vs, rfl, .inl (.inl upd_same), h.mono (Ge.upd hg)⟩
theorem de_tup {t : TA} (h : DA c t δ fun as => ∃ ds, as = ds.map .dat ∧ ds.length ≤ 1000 ∧ P (.tup ds)) : DE c (tTupF t) δ P := fun G0 H0 G H σ Q b e k =>
  h G0 H0 G H σ _ b e fun as vs G1 H1 pa s1 ha => by
    obtain ⟨ds, rfl, hl, p⟩ := pa
    have hd := ha.dats
    refine ⟨Nat.le_of_lt (small1000 (by rw [hd.len]; exact hl)), fun q o hq ho => ?_⟩
    exact k _ _ (upd G1 q (.tup vs)) _ p (s1.trans (Step.new s1.sub hq ⟨o, upd_same, ho⟩)) (has_tup (s1.sub.free hq) hd)
theorem dn_lst {t : TA} (h : DA c t δ fun as => ∃ ds, as = ds.map .dat ∧ ds.length ≤ 1000 ∧ P (.lst ds)) : DN c (tLst t) δ P := fun G0 H0 G H σ Q b e k =>
  h G0 H0 G H σ _ b e fun as vs G1 H1 pa s1 ha => by
    obtain ⟨ds, rfl, hl, p⟩ := pa
    have hd := ha.dats
    refine ⟨Nat.le_of_lt (small1000 (by rw [hd.len]; exact hl)), fun q hq => ?_⟩
    refine k _ q G1 _ p (s1.trans (Step.tmp s1.sub hq)) ?_ (s1.sub.free hq) ⟨vs, upd_same, hd⟩
    cases z : H q with
    | none => rfl
    | some u =>
      by_cases g : G q = none
      · by_cases t : c.T q
        · exact absurd hq (s1.sub.iv.town t)
        · rw [s1.keep q u t g z] at hq; cases hq
      · cases g' : G q with
        | none => exact absurd g' g
        | some w => exact absurd hq (s1.sub.there (s1.gs q w g'))
theorem dn_dnew (p : P (.dic [])) : DN c tDNewK δ P := fun G0 H0 G H σ Q b e k => fun q hq =>
  k _ q G _ p (Step.tmp b.sub hq) hq (b.sub.free hq) ⟨[], upd_same, hasK_nil⟩
/-- what is free later was free before -/
theorem Step.back {G H G1 H1 : Hp} (s1 : Step c G H G1 H1) {q : Addr} (hq : H1 q = none) : H q = none := by
  cases z : H q with
  | none => rfl
  | some u =>
    by_cases g : G q = none
    · by_cases t : c.T q
      · exact absurd hq (s1.sub.iv.town t)
      · rw [s1.keep q u t g z] at hq; cases hq
    · cases g' : G q with
      | none => exact absurd g' g
      | some w => exact absurd hq (s1.sub.there (s1.gs q w g'))
/-! calls -/
def DCall (c : Cn) (r : List V → Hp → VK → Prop) (F : List Av → (D → Prop) → Prop) : Prop :=
  ∀ (as : List Av) (vs : List V) (G H : Hp) (Q : VK) (P : D → Prop), Sub c G H → HasA c.K G as vs → F as P → KE c G H P Q → r vs H Q
theorem de_cb {r : List V → Hp → VK → Prop} {F : List Av → (D → Prop) → Prop} {t : TA} (hr : DCall c r F) (h : DA c t δ fun as => F as P) : DE c (tCB r t) δ P := fun G0 H0 G H σ Q b e k =>
  h G0 H0 G H σ _ b e fun as vs G1 H1 pa s1 ha => hr as vs G1 H1 Q P s1.sub ha pa fun d w G3 H3 pd s3 hd => k d w G3 H3 pd (s1.trans s3) hd
/-- .. that makes a new list or dict -/
def DCallN (c : Cn) (r : List V → Hp → VK → Prop) (F : List Av → (D → Prop) → Prop) : Prop :=
  ∀ (as : List Av) (vs : List V) (G H : Hp) (Q : VK) (P : D → Prop), Sub c G H → HasA c.K G as vs → F as P →
    (∀ (d : D) (p : Addr) (G' H' : Hp), P d → Step c G H G' H' → H p = none → G' p = none → OwnAt c.K G' H' p d → Q (.ref p) H') → r vs H Q
theorem dn_cb {r : List V → Hp → VK → Prop} {F : List Av → (D → Prop) → Prop} {t : TA} (hr : DCallN c r F) (h : DA c t δ fun as => F as P) : DN c (tCB r t) δ P := fun G0 H0 G H σ Q b e k =>
  h G0 H0 G H σ _ b e fun as vs G1 H1 pa s1 ha => hr as vs G1 H1 Q P s1.sub ha pa fun d w G3 H3 pd s3 hw gw hd => k d w G3 H3 pd (s1.trans s3) (s1.back hw) gw hd
/-- a pure def's promise: from the data of its arguments to a datum -/
def SpP (K : PySem.W.Frag) (R : List D → D → Prop) : Sp := fun vs H Q _ => ∃ (G : Hp) (ds : List D) (d : D), Sub ⟨K, none⟩ G H ∧ HasL K G ds vs ∧ R ds d ∧
  ∀ (v : V) (G' H' : Hp), Step ⟨K, none⟩ G H G' H' → Has K G' d v → Q v H'
theorem de_call {R : List D → D → Prop} {E : XK} {t : TA} (h : DA c t δ fun as => ∃ ds d, as = ds.map .dat ∧ R ds d ∧ P d) : DE c (tCall (SpP c.K R) [] E t) δ P := fun G0 H0 G H σ Q b e k =>
  h G0 H0 G H σ _ b e fun as vs G1 H1 pa s1 ha => by
    obtain ⟨ds, d, rfl, r, p⟩ := pa
    show SpP c.K R (vs ++ []) H1 Q E
    rw [List.append_nil]
    exact ⟨G1, ds, d, s1.sub.pure, ha.dats, r, fun v G' H' s hv => k d v G' H' p (s1.trans (Step.lift s1.sub s)) hv⟩
/-- a def that draws from the town: some datum comes back -/
def SpT (K : PySem.W.Frag) (R : List Int → List D → (D → Prop) → Prop) : Sp := fun vs H Q _ => ∃ (t a : Addr) (ns : List Int) (G : Hp) (ds : List D) (us : List V) (S : D → Prop), Sub ⟨K, some (t, a, ns)⟩ G H ∧ vs = .ref a :: .ref t :: us ∧ HasL K G ds us ∧ R ns ds S ∧
  ∀ (d : D) (v : V) (G' H' : Hp), S d → Step ⟨K, some (t, a, ns)⟩ G H G' H' → Has K G' d v → Q v H'
theorem de_callT {R : List Int → List D → (D → Prop) → Prop} {E : XK} {ta : TA} {t a : Addr} {ns : List Int} (ht : c.tw = some (t, a, ns)) (h : DA c ta δ fun as => ∃ ds S, as = .raw (.ref a) :: .raw (.ref t) :: ds.map .dat ∧ R ns ds S ∧ ∀ d, S d → P d) : DE c (tCall (SpT c.K R) [] E ta) δ P := fun G0 H0 G H σ Q b e k =>
  h G0 H0 G H σ _ b e fun as vs G1 H1 pa s1 ha => by
    obtain ⟨ds, S, rfl, r, p⟩ := pa
    show SpT c.K R (vs ++ []) H1 Q E
    rw [List.append_nil]
    obtain ⟨r1, rfl, r2, rfl, ha⟩ := ha
    obtain ⟨K, tw⟩ := c
    cases ht
    exact ⟨t, a, ns, G1, ds, r2, S, s1.sub, rfl, ha.dats, r, fun d v G' H' sd s hv => k d v G' H' (p d sd) (s1.trans s) hv⟩
/-! targets -/
def DG (c : Cn) (g : TG) (js : List Nat) (δ : List Sl) (d : D) (P : List Sl → Prop) : Prop :=
  ∀ (G0 H0 G H : Hp) (σ : L2.St) (v : V) (Q : L2.St → Hp → Prop), Bs c G0 H0 G H → EnvOk c H0 G H σ δ → Has c.K G d v →
    (∀ (δ' : List Sl) (σ' : L2.St), P δ' → EnvOk c H0 G H σ' δ' → (∀ j, j ∉ js → σ'[j]? = σ[j]?) → σ'.length = σ.length → Q σ' H) → g v σ H Q
def DGs (c : Cn) (g : TGs) (js : List Nat) (δ : List Sl) (ds : List D) (P : List Sl → Prop) : Prop :=
  ∀ (G0 H0 G H : Hp) (σ : L2.St) (vs : List V) (Q : L2.St → Hp → Prop), Bs c G0 H0 G H → EnvOk c H0 G H σ δ → HasL c.K G ds vs →
    (∀ (δ' : List Sl) (σ' : L2.St), P δ' → EnvOk c H0 G H σ' δ' → (∀ j, j ∉ js → σ'[j]? = σ[j]?) → σ'.length = σ.length → Q σ' H) → g vs σ H Q
theorem dg_name {i : Nat} {d : D} {P : List Sl → Prop} (p : P (δ.set i (.dat d))) : DG c (gName i) [i] δ d P := fun G0 H0 G H σ v Q b e hv k =>
  k _ _ p (e.setDat hv) (fun j hj => List.getElem?_set_ne (by simp at hj; exact fun z => hj z.symm)) (by simp)
theorem dgs_nil {P : List Sl → Prop} (p : P δ) : DGs c gNil [] δ [] P := fun G0 H0 G H σ vs Q b e hv k => by
  unfold HasL at hv
  exact ⟨hv, k _ _ p e (fun _ _ => rfl) rfl⟩
theorem dgs_cons {g : TG} {gs : TGs} {js ks : List Nat} {d : D} {ds : List D} {P : List Sl → Prop} (h : DG c g js δ d fun δ' => DGs c gs ks δ' ds P) : DGs c (gCons g gs) (js ++ ks) δ (d :: ds) P := fun G0 H0 G H σ vs Q b e hv k => by
  unfold HasL at hv
  obtain ⟨v, r, rfl, h1, h2⟩ := hv
  refine ⟨v, r, rfl, h G0 H0 G H σ v _ b e h1 fun δ1 σ1 p1 e1 k1 l1 => p1 G0 H0 G H σ1 r Q b e1 h2 fun δ2 σ2 p2 e2 k2 l2 => k δ2 σ2 p2 e2 (fun j hj => ?_) (l2.trans l1)⟩
  rw [List.mem_append, not_or] at hj
  rw [k2 j hj.2, k1 j hj.1]
theorem dg_tup {gs : TGs} {js : List Nat} {n : Nat} {ds : List D} {P : List Sl → Prop} (hl : ds.length = n) (h : DGs c gs js δ ds P) : DG c (gTup c.K n gs) js δ (.tup ds) P := fun G0 H0 G H σ v Q b e hv k => by
  unfold Has at hv
  obtain ⟨a, vs, rfl, h1, h2⟩ := hv
  exact ⟨a, vs, rfl, (b.sub.ge.tup h1).sq, h2.len.trans hl, h G0 H0 G H σ vs Q b e h2 k⟩
/-! ### statements -/
inductive Out where
  | nx (δ : List Sl) | rt (d : D) | bk (δ : List Sl) | ct (δ : List Sl)
def Fin (c : Cn) (H0 G H : Hp) (D : Ends) : Out → Prop
  | .nx δ => ∀ σ, EnvOk c H0 G H σ δ → D.nx σ H
  | .rt d => ∀ v, Has c.K G d v → D.rt v H
  | .bk δ => ∀ σ, EnvOk c H0 G H σ δ → D.bk σ H
  | .ct δ => ∀ σ, EnvOk c H0 G H σ δ → D.ct σ H
def DS (c : Cn) (ts : TS) (δ : List Sl) (P : Out → Prop) : Prop :=
  ∀ (G0 H0 G H : Hp) (σ : L2.St) (D : Ends), Bs c G0 H0 G H → EnvOk c H0 G H σ δ →
    (∀ (o : Out) (G' H' : Hp), P o → Step c G0 H0 G' H' → Lat G H G' H' → Fin c H0 G' H' D o) → ts D σ H
variable {ts tv : TS} {R : Out → Prop}
theorem DS.imp {R' : Out → Prop} (h : DS c ts δ R) (i : ∀ o, R o → R' o) : DS c ts δ R' := fun G0 H0 G H σ D b e k => h G0 H0 G H σ D b e fun o G' H' p => k o G' H' (i o p)
theorem ds_next (p : R (.nx δ)) : DS c tNext δ R := fun G0 H0 G H σ D b e k => k _ G H p b.st (.refl _ _) σ e
/-- behind a statement -/
def Then (c : Cn) (tv : TS) (R : Out → Prop) : Out → Prop
  | .nx δ => DS c tv δ R
  | o => R o
theorem ds_seq (h : DS c ts δ (Then c tv R)) : DS c (tSeq ts tv) δ R := fun G0 H0 G H σ D b e k =>
  h G0 H0 G H σ { D with nx := tv D } b e fun o G1 H1 p s l => by
    cases o with
    | nx δ1 => exact fun σ1 e1 => p G0 H0 G1 H1 σ1 D ⟨b.s0, s⟩ e1 fun o G2 H2 p2 s2 l2 => k o G2 H2 p2 s2 (l.trans l2)
    | rt d => exact k (.rt d) G1 H1 p s l
    | bk δ1 => exact k (.bk δ1) G1 H1 p s l
    | ct δ1 => exact k (.ct δ1) G1 H1 p s l
theorem ds_ret (h : DE c te δ fun d => R (.rt d)) : DS c (tRet te) δ R := fun G0 H0 G H σ D b e k =>
  h G0 H0 G H σ _ b e fun d v G1 H1 p s hv => k (.rt d) G1 H1 p (b.st.trans s) s.lat v hv
theorem ds_retN (p : R (.rt .non)) : DS c tRetN δ R := fun G0 H0 G H σ D b e k => k (.rt .non) G H p b.st (.refl _ _) .non (by unfold Has; rfl)
theorem ds_if (h : DT c tt δ fun b => if b = true then DS c ts δ R else DS c tv δ R) : DS c (tIfS tt ts tv) δ R := fun G0 H0 G H σ D b e k =>
  h G0 H0 G H σ _ b e fun x G1 H1 p s => by
    cases x with
    | true => simp only [if_true] at p ⊢; exact p G0 H0 G1 H1 σ D (b.next s) (e.step b.iv s) fun o G2 H2 p2 s2 l2 => k o G2 H2 p2 s2 (s.lat.trans l2)
    | false => simp only [Bool.false_eq_true, if_false] at p ⊢; exact p G0 H0 G1 H1 σ D (b.next s) (e.step b.iv s) fun o G2 H2 p2 s2 l2 => k o G2 H2 p2 s2 (s.lat.trans l2)
theorem ds_asgG {g : TG} {js : List Nat} (h : DE c te δ fun d => DG c g js δ d fun δ' => R (.nx δ')) : DS c (tAsg te g) δ R := fun G0 H0 G H σ D b e k =>
  h G0 H0 G H σ _ b e fun d v G1 H1 p s hv => p G0 H0 G1 H1 σ v _ (b.next s) (e.step b.iv s) hv fun δ' σ' p' e' _ _ => k (.nx δ') G1 H1 p' (b.st.trans s) s.lat σ' e'
theorem ds_asg {i : Nat} (h : DE c te δ fun d => R (.nx (δ.set i (.dat d)))) : DS c (tAsg te (gName i)) δ R := ds_asgG (js := [i]) (h.imp fun d p => dg_name p)
theorem ds_asgN {i : Nat} (h : DN c te δ fun d => R (.nx (δ.set i (.own d)))) : DS c (tAsg te (gName i)) δ R := fun G0 H0 G H σ D b e k =>
  h G0 H0 G H σ _ b e fun d r G1 H1 p s hr gr oa => by
    have b1 := b.next s
    have e1 := e.step b.iv s
    have h0 : H0 r = none := b.st.back hr
    refine k (.nx (δ.set i (.own d))) G1 H1 p (b.st.trans s) s.lat _ (e1.setOwn h0 gr oa fun j x ne q z => ?_)
    obtain ⟨r', g1, g2, g3, g4⟩ := e.own j x q
    rw [g1] at z
    cases z
    exact g4.there hr
theorem ds_drop (h : DE c te δ fun _ => R (.nx δ)) : DS c (tDrop te) δ R := fun G0 H0 G H σ D b e k =>
  h G0 H0 G H σ _ b e fun d v G1 H1 p s hv => k (.nx δ) G1 H1 p (b.st.trans s) s.lat σ (e.step b.iv s)
end
end Mp
set_option maxRecDepth 100000
set_option maxHeartbeats 4000000
namespace Mp
open PySem L2
/-! ### walks -/
/-- the iterator J, made at G, H, yields the data xs -/
structure Wk (c : Cn) (J : It) (xs : List D) (G H : Hp) : Prop where
  go : ∀ (G1 H1 : Hp) (i : Nat), Sub c G1 H1 → Lat G H G1 H1 → i < xs.length → J.go i H1
  stop : ∀ (G1 H1 : Hp), Sub c G1 H1 → Lat G H G1 H1 → J.stop xs.length H1
  yld : ∀ (G1 H1 : Hp) (i : Nat) (x : V) (H2 : Hp), Sub c G1 H1 → Lat G H G1 H1 → i < xs.length → J.yld i H1 x H2 → ∃ G2, Step c G1 H1 G2 H2 ∧ ∃ d, xs[i]? = some d ∧ Has c.K G2 d x
def DI (c : Cn) (wi : TI) (δ : List Sl) (P : List D → Prop) : Prop :=
  ∀ (G0 H0 G H : Hp) (σ : L2.St) (R : It → Hp → Prop), Bs c G0 H0 G H → EnvOk c H0 G H σ δ →
    (∀ (xs : List D) (J : It) (G' H' : Hp), P xs → Step c G H G' H' → Wk c J xs G' H' → R J H') → wi σ H R
section
variable {c : Cn} {δ : List Sl} {wi : TI}
theorem DI.imp {P P' : List D → Prop} (h : DI c wi δ P) (i : ∀ d, P d → P' d) : DI c wi δ P' := fun G0 H0 G H σ Q b e k => h G0 H0 G H σ Q b e fun d J G' H' p => k d J G' H' (i d p)
/-- for: a word of the turn and the slots -/
theorem ds_for {g : TG} {tb : TS} {js : List Nat} {R : Out → Prop} (h : DI c wi δ fun xs => ∃ W : Nat → List Sl → Prop, W 0 δ ∧
    (∀ (i : Nat) (d : D) (δ' : List Sl), xs[i]? = some d → W i δ' → DG c g js δ' d fun δ2 => DS c tb δ2 fun o => match o with
      | .nx δ3 => W (i + 1) δ3
      | .ct δ3 => W (i + 1) δ3
      | .bk δ3 => R (.nx δ3)
      | .rt d => R (.rt d)) ∧ ∀ δ', W xs.length δ' → R (.nx δ')) : DS c (tFor wi g tb) δ R := fun G0 H0 G H σ D b e k =>
  h G0 H0 G H σ _ b e fun xs J G1 H1 p s wk => by
    obtain ⟨W, w0, turn, done⟩ := p
    refine ⟨fun i m σ' H' => ∃ δ' G', m = xs.length - i ∧ i ≤ xs.length ∧ W i δ' ∧ Bs c G0 H0 G' H' ∧ EnvOk c H0 G' H' σ' δ' ∧ Lat G1 H1 G' H', ⟨xs.length, δ, G1, by simp, Nat.zero_le _, w0, b.next s, e.step b.iv s, .refl _ _⟩, ?_⟩
    rintro i m σ' H' ⟨δ', G', rfl, hi, w, b', e', l'⟩
    by_cases hlt : i < xs.length
    · refine .inr ⟨wk.go G' H' i b'.sub l' hlt, fun σ2 H2 => ∃ m', m' < xs.length - i ∧ ∃ δ' G', m' = xs.length - (i + 1) ∧ i + 1 ≤ xs.length ∧ W (i + 1) δ' ∧ Bs c G0 H0 G' H2 ∧ EnvOk c H0 G' H2 σ2 δ' ∧ Lat G1 H1 G' H2, fun _ _ z => z, fun x H2 y => ?_⟩
      obtain ⟨G2, s2, d, hd, hx⟩ := wk.yld G' H' i x H2 b'.sub l' hlt y
      have b2 := b'.next s2
      have e2 := e'.step b'.iv s2
      have l2 := l'.trans s2.lat
      refine turn i d δ' hd w G0 H0 G2 H2 σ' x _ b2 e2 hx fun δ3 σ3 p3 e3 _ _ => ?_
      refine p3 G0 H0 G2 H2 σ3 _ b2 e3 fun o G4 H4 p4 s4 l4 => ?_
      have l5 := l2.trans l4
      cases o with
      | nx δ4 => exact fun σ4 e4 => ⟨_, by omega, δ4, G4, rfl, hlt, p4, ⟨b.s0, s4⟩, e4, l5⟩
      | ct δ4 => exact fun σ4 e4 => ⟨_, by omega, δ4, G4, rfl, hlt, p4, ⟨b.s0, s4⟩, e4, l5⟩
      | bk δ4 => exact k (.nx δ4) G4 H4 p4 s4 (s.lat.trans l5)
      | rt d4 => exact k (.rt d4) G4 H4 p4 s4 (s.lat.trans l5)
    · have ei : i = xs.length := by omega
      subst ei
      exact .inl ⟨wk.stop G' H' b'.sub l', k (.nx δ') G' H' (done δ' w) b'.st (s.lat.trans l') σ' e'⟩
/-! ### comprehensions -/
def wipeD (δ : List Sl) : List Nat → List Sl
  | [] => δ
  | v :: vs => (wipeD δ vs).set v .un
theorem EnvOk.wipe {H0 G H : Hp} {σ : L2.St} (e : EnvOk c H0 G H σ δ) : ∀ vs : List Nat, EnvOk c H0 G H (wipe σ vs) (wipeD δ vs)
  | [] => e
  | v :: vs => (EnvOk.wipe e vs).setUn
theorem wipe_get {σ : L2.St} : ∀ {vs : List Nat} {j : Nat}, (wipe σ vs)[j]? = if j ∈ vs ∧ j < σ.length then some none else σ[j]?
  | [], j => by simp [wipe]
  | v :: vs, j => by
    unfold wipe
    by_cases e : v = j
    · subst e
      by_cases hl : v < σ.length
      · rw [List.getElem?_set_self (by rw [wipe_length]; exact hl), if_pos ⟨List.mem_cons_self, hl⟩]
      · rw [List.getElem?_eq_none (by rw [List.length_set, wipe_length]; omega), if_neg (fun z => hl z.2), List.getElem?_eq_none (by omega)]
    · rw [List.getElem?_set_ne e, wipe_get]
      have : (j ∈ v :: vs ∧ j < σ.length) ↔ (j ∈ vs ∧ j < σ.length) := by simp [Ne.symm e, List.mem_cons]
      by_cases q : j ∈ vs ∧ j < σ.length
      · rw [if_pos q, if_pos (this.mpr q)]
      · rw [if_neg q, if_neg (fun z => q (this.mp z))]
theorem wipe_same {σ σ' : L2.St} {vs js : List Nat} (hl : σ'.length = (L2.wipe σ vs).length) (h : ∀ j, j ∉ js → σ'[j]? = (L2.wipe σ vs)[j]?) (hs : ∀ j, j ∈ js → j ∈ vs) : L2.wipe σ' vs = L2.wipe σ vs := by
  have hl' : σ'.length = σ.length := by rw [hl, wipe_length]
  apply List.ext_getElem?
  intro j
  rw [wipe_get]
  by_cases q : j ∈ vs ∧ j < σ.length
  · rw [if_pos (by rw [hl']; exact q), wipe_get, if_pos q]
  · rw [if_neg (by rw [hl']; exact q)]
    by_cases z : j ∈ js
    · have hj : ¬ j < σ.length := fun y => q ⟨hs j z, y⟩
      rw [List.getElem?_eq_none (by omega), List.getElem?_eq_none (by rw [wipe_length]; omega)]
    · exact h j z
/-- an object that is laid apart and grows: the ghost and all else go on -/
theorem Step.grow {G H G1 H1 : Hp} (s : Step c G H G1 H1) {r : Addr} {o : HO} (hr : H r = none) (gr : G1 r = none) (iv : Sub c G H) : Step c G H G1 (upd H1 r o) :=
  (Bs.mut (G0 := G) (H0 := H) ⟨iv, s⟩ hr gr).st
theorem dn_lc {g : TG} {tt : TT} {te : TE} {vs js : List Nat} {P : D → Prop} (hjs : ∀ j, j ∈ js → j ∈ vs) (h : DI c wi δ fun xs => xs.length ≤ sizeLine ∧ ∃ W : Nat → List D → Prop, W 0 [] ∧
    (∀ (i : Nat) (d : D) (acc : List D), xs[i]? = some d → W i acc → DG c g js (wipeD δ vs) d fun δ2 => DT c tt δ2 fun b => if b = true then DE c te δ2 fun y => W (i + 1) (acc ++ [y]) else W (i + 1) acc) ∧
    ∀ acc, W xs.length acc → P (.lst acc)) : DN c (tLc wi g tt te vs) δ P := fun G0 H0 G H σ Q b e k =>
  h G0 H0 G H σ _ b e fun xs J G1 H1 p s wk => by
    obtain ⟨hz, W, w0, turn, done⟩ := p
    intro r hr
    have hr0 : H r = none := s.back hr
    have st0 := s.trans (Step.tmp (o := .lst []) s.sub hr)
    refine ⟨fun i m H' => ∃ acc avs G', m = xs.length - i ∧ i ≤ xs.length ∧ W i acc ∧ Step c G H G' H' ∧ Lat G1 H1 G' H' ∧ H' r = some (.lst avs) ∧ HasL c.K G' acc avs ∧ G' r = none ∧ acc.length ≤ i,
      ⟨xs.length, [], [], G1, by simp, Nat.zero_le _, w0, st0, (Step.tmp (o := .lst []) s.sub hr).lat, upd_same, hasL_nil, s.sub.free hr, Nat.le_refl _⟩, ?_⟩
    rintro i m H' ⟨acc, avs, G', rfl, hi, w, st, l', hD, ha, gr, la⟩
    have b' : Bs c G0 H0 G' H' := b.next st
    have e' := e.step b.iv st
    by_cases hlt : i < xs.length
    · refine .inr ⟨wk.go G' H' i b'.sub l' hlt, fun H2 => ∃ m', m' < xs.length - i ∧ ∃ acc avs G', m' = xs.length - (i + 1) ∧ i + 1 ≤ xs.length ∧ W (i + 1) acc ∧ Step c G H G' H2 ∧ Lat G1 H1 G' H2 ∧ H2 r = some (.lst avs) ∧ HasL c.K G' acc avs ∧ G' r = none ∧ acc.length ≤ i + 1,
        fun _ z => z, fun x H2 y => ?_⟩
      obtain ⟨G2, s2, d, hd, hx⟩ := wk.yld G' H' i x H2 b'.sub l' hlt y
      have nt : ¬ c.T r := not_town b.sub.iv hr0
      have hr' : H' r ≠ none := by rw [hD]; exact fun z => nomatch z
      refine turn i d acc hd w G0 H0 G2 H2 (L2.wipe σ vs) x _ (b'.next s2) ((e'.wipe vs).step b'.iv s2) hx fun δ3 σ3 p3 e3 k3 l3 => ?_
      refine ⟨wipe_same l3 k3 hjs, p3 G0 H0 G2 H2 σ3 _ (b'.next s2) e3 fun bb G3 H3 p4 s3 => ?_⟩
      have s23 := s2.trans s3
      cases bb with
      | true =>
        simp only [if_true] at p4 ⊢
        refine p4 G0 H0 G3 H3 σ3 _ ((b'.next s2).next s3) (e3.step b.iv s3) fun yd yv G4 H4 p5 s4 hy => ?_
        have s24 := s23.trans s4
        have hD4 := s24.keep r _ nt gr hD
        have gr4 := s24.fr r hr' gr
        refine ⟨avs, hD4, ?_, _, by omega, acc ++ [yd], avs ++ [yv], G4, rfl, hlt, p5, (st.trans s24).grow hr0 gr4 b.sub, (l'.trans s24.lat).trans (Lat.mut fun o u z => by rw [hD4] at z; cases z), upd_same, (ha.mono s24.ge).snoc hy, gr4, ?_⟩
        · rw [ha.len]; omega
        · rw [List.length_append, List.length_singleton]; omega
      | false =>
        simp only [Bool.false_eq_true, if_false] at p4 ⊢
        exact ⟨_, by omega, acc, avs, G3, rfl, hlt, p4, st.trans s23, l'.trans s23.lat, s23.keep r _ nt gr hD, ha.mono s23.ge, s23.fr r hr' gr, by omega⟩
    · have ei : i = xs.length := by omega
      subst ei
      exact .inl ⟨wk.stop G' H' b'.sub l', k _ r G' H' (done acc w) st hr0 gr ⟨avs, hD, ha⟩⟩
theorem dn_dc {g : TG} {tt : TT} {tk te : TE} {vs js : List Nat} {P : D → Prop} (hjs : ∀ j, j ∈ js → j ∈ vs) (h : DI c wi δ fun xs => xs.length ≤ sizeLine ∧ ∃ W : Nat → List (Key × D) → Prop, W 0 [] ∧
    (∀ (i : Nat) (d : D) (acc : List (Key × D)), xs[i]? = some d → W i acc → DG c g js (wipeD δ vs) d fun δ2 => DT c tt δ2 fun b => if b = true then DE c tk δ2 fun kd => DE c te δ2 fun y => ∃ x : Str, kd = .str x ∧ W (i + 1) (putD acc (.inr x) y) else W (i + 1) acc) ∧
    ∀ acc, W xs.length acc → P (.dic acc)) : DN c (tDc wi g tt tk te vs) δ P := fun G0 H0 G H σ Q b e k =>
  h G0 H0 G H σ _ b e fun xs J G1 H1 p s wk => by
    obtain ⟨hz, W, w0, turn, done⟩ := p
    intro r hr
    have hr0 : H r = none := s.back hr
    have st0 := s.trans (Step.tmp (o := .dK []) s.sub hr)
    refine ⟨fun i m H' => ∃ acc avs G', m = xs.length - i ∧ i ≤ xs.length ∧ W i acc ∧ Step c G H G' H' ∧ Lat G1 H1 G' H' ∧ H' r = some (.dK avs) ∧ HasK c.K G' acc avs ∧ G' r = none ∧ acc.length ≤ i,
      ⟨xs.length, [], [], G1, by simp, Nat.zero_le _, w0, st0, (Step.tmp (o := .dK []) s.sub hr).lat, upd_same, hasK_nil, s.sub.free hr, Nat.le_refl _⟩, ?_⟩
    rintro i m H' ⟨acc, avs, G', rfl, hi, w, st, l', hD, ha, gr, la⟩
    have b' : Bs c G0 H0 G' H' := b.next st
    have e' := e.step b.iv st
    by_cases hlt : i < xs.length
    · refine .inr ⟨wk.go G' H' i b'.sub l' hlt, fun H2 => ∃ m', m' < xs.length - i ∧ ∃ acc avs G', m' = xs.length - (i + 1) ∧ i + 1 ≤ xs.length ∧ W (i + 1) acc ∧ Step c G H G' H2 ∧ Lat G1 H1 G' H2 ∧ H2 r = some (.dK avs) ∧ HasK c.K G' acc avs ∧ G' r = none ∧ acc.length ≤ i + 1,
        fun _ z => z, fun x H2 y => ?_⟩
      obtain ⟨G2, s2, d, hd, hx⟩ := wk.yld G' H' i x H2 b'.sub l' hlt y
      have nt : ¬ c.T r := not_town b.sub.iv hr0
      have hr' : H' r ≠ none := by rw [hD]; exact fun z => nomatch z
      refine turn i d acc hd w G0 H0 G2 H2 (L2.wipe σ vs) x _ (b'.next s2) ((e'.wipe vs).step b'.iv s2) hx fun δ3 σ3 p3 e3 k3 l3 => ?_
      refine ⟨wipe_same l3 k3 hjs, p3 G0 H0 G2 H2 σ3 _ (b'.next s2) e3 fun bb G3 H3 p4 s3 => ?_⟩
      have s23 := s2.trans s3
      cases bb with
      | true =>
        simp only [if_true] at p4 ⊢
        have b3 := (b'.next s2).next s3
        have e4 := e3.step b.iv s3
        refine p4 G0 H0 G3 H3 σ3 _ b3 e4 fun kd kv G4 H4 p5 s4 hk => ?_
        refine p5 G0 H0 G4 H4 σ3 _ (b3.next s4) (e4.step b.iv s4) fun yd yv G5 H5 p6 s5 hy => ?_
        obtain ⟨x, rfl, p6⟩ := p6
        have s25 := (s23.trans s4).trans s5
        have hD5 := s25.keep r _ nt gr hD
        have gr5 := s25.fr r hr' gr
        unfold Has at hk
        subst hk
        refine ⟨avs, .inr x, rfl, hD5, ?_, _, by omega, putD acc (.inr x) yd, _, G5, rfl, hlt, p6, (st.trans s25).grow hr0 gr5 b.sub, (l'.trans s25.lat).trans (Lat.mut fun o u z => by rw [hD5] at z; cases z), upd_same, (ha.mono s25.ge).put hy, gr5, ?_⟩
        · rw [ha.len]; omega
        · unfold putD; split
          · rw [List.length_map]; omega
          · rw [List.length_append, List.length_singleton]; omega
      | false =>
        simp only [Bool.false_eq_true, if_false] at p4 ⊢
        exact ⟨_, by omega, acc, avs, G3, rfl, hlt, p4, st.trans s23, l'.trans s23.lat, s23.keep r _ nt gr hD, ha.mono s23.ge, s23.fr r hr' gr, by omega⟩
    · have ei : i = xs.length := by omega
      subst ei
      exact .inl ⟨wk.stop G' H' b'.sub l', k _ r G' H' (done acc w) st hr0 gr ⟨avs, hD, ha⟩⟩
end
end Mp
set_option maxRecDepth 100000
set_option maxHeartbeats 4000000
namespace Mp
open PySem L2
/-! ### from the abstract heap to the machine's -/
section
variable {X : Cx} {pins : List (Addr × Obj)} {σ : L2.St} {H : Hp} {s : Shared}
mutual
theorem Has.rep (I : Inv X pins σ H s) : ∀ (d : D) (v : V) (u : Value), Has X.K H d v → RelV v u → Rep X.prog X.w s.heap d u
  | .non, v, u, h, r => by unfold Has at h; subst h; unfold Rep; exact r
  | .bl b, v, u, h, r => by unfold Has at h; subst h; unfold Rep; exact r
  | .int i, v, u, h, r => by unfold Has at h; subst h; unfold Rep; exact r
  | .str i, v, u, h, r => by unfold Has at h; subst h; unfold Rep; exact r
  | .tup xs, v, u, h, r => by
    unfold Has at h
    obtain ⟨a, vs, rfl, h1, h2⟩ := h
    obtain ⟨its, rv, ht, _⟩ := I.tuple h1.sq
    unfold Rep
    exact ⟨a, its, r, ht, HasL.rep I xs vs its h2 rv⟩
  | .lst xs, v, u, h, r => by
    unfold Has at h
    obtain ⟨a, vs, rfl, h1, h2⟩ := h
    obtain ⟨its, rv, ht, _⟩ := I.list (.inl h1)
    unfold Rep
    exact ⟨a, its, r, ht.isList, HasL.rep I xs vs its h2 rv⟩
  | .dic xs, v, u, h, r => by
    unfold Has at h
    obtain ⟨a, ws, rfl, h1, h2⟩ := h
    obtain ⟨_, hs, vs, kv, dd⟩ := dk_rd I.hok h1
    unfold Rep
    exact ⟨a, vs, r, hs, dd, HasK.rep I xs ws vs h2 kv⟩
theorem HasL.rep (I : Inv X pins σ H s) : ∀ (xs : List D) (vs : List V) (us : List Value), HasL X.K H xs vs → Vals vs us → RepL X.prog X.w s.heap xs us
  | [], vs, us, h, r => by unfold HasL at h; subst h; cases r; unfold RepL; rfl
  | x :: xs, vs, us, h, r => by
    unfold HasL at h
    obtain ⟨v, q, rfl, h1, h2⟩ := h
    cases r with
    | cons r1 r2 => unfold RepL; exact ⟨_, _, rfl, Has.rep I x v _ h1 r1, HasL.rep I xs q _ h2 r2⟩
theorem HasK.rep (I : Inv X pins σ H s) : ∀ (xs : List (Key × D)) (vs : List (Key × V)) (us : List (Key × Value)), HasK X.K H xs vs → KV vs us → RepK X.prog X.w s.heap xs us
  | [], vs, us, h, r => by unfold HasK at h; subst h; cases r; unfold RepK; rfl
  | (k, x) :: xs, vs, us, h, r => by
    unfold HasK at h
    obtain ⟨v, q, rfl, h1, h2⟩ := h
    cases r with
    | @cons _ b _ _ r1 r2 =>
      obtain ⟨k', u'⟩ := b
      obtain ⟨e1, e2⟩ := r1
      cases (show k = k' from e1)
      unfold RepK
      exact ⟨u', _, rfl, Has.rep I x v _ h1 e2, HasK.rep I xs q _ h2 r2⟩
end
end
/-! ### == and != of data -/
def rEqX (K : PySem.W.Frag) : R2 := fun x y H Q => ∃ d e, Has K H d x ∧ Has K H e y ∧ D.deep d ≤ 50 ∧ Q (.bl (D.eqv d e)) H
def rNeX (K : PySem.W.Frag) : R2 := fun x y H Q => ∃ d e, Has K H d x ∧ Has K H e y ∧ D.deep d ≤ 50 ∧ Q (.bl (!D.eqv d e)) H
section
variable {X : Cx}
theorem op_eqX (hu : X.A.units + 64 < cLine) : OpR X (compareOp .Eq) (rEqX X.K) := by
  intro pins s σ H x y v u Q I rx ry h
  obtain ⟨d, e, hd, he, dp, q⟩ := h
  exact rcEq d e v u X.A (by unfold DepthOk; omega) (hd.rep I d x v rx) (he.rep I e y u ry) _ _ ⟨.bl (D.eqv d e), H, I, rfl, q⟩
theorem op_neX (hu : X.A.units + 64 < cLine) : OpR X (compareOp .NotEq) (rNeX X.K) := by
  intro pins s σ H x y v u Q I rx ry h
  obtain ⟨d, e, hd, he, dp, q⟩ := h
  exact rcNe d e v u X.A (by unfold DepthOk; omega) (hd.rep I d x v rx) (he.rep I e y u ry) _ _ ⟨.bl (!D.eqv d e), H, I, rfl, q⟩
end
section
variable {c : Cn}
theorem dop_eq : DOp c (rEqX c.K) fun x y P => D.deep x ≤ 50 ∧ P (.bl (D.eqv x y)) := fun x y v u G H Q P s hx hy f k =>
  ⟨x, y, hx.mono s.ge, hy.mono s.ge, f.1, k _ _ G H f.2 (.refl s) (by unfold Has; rfl)⟩
theorem dop_ne : DOp c (rNeX c.K) fun x y P => D.deep x ≤ 50 ∧ P (.bl (!D.eqv x y)) := fun x y v u G H Q P s hx hy f k =>
  ⟨x, y, hx.mono s.ge, hy.mono s.ge, f.1, k _ _ G H f.2 (.refl s) (by unfold Has; rfl)⟩
end
/-! ### subscripts -/
/-- d[k] of a dict, by values -/
def rIxD : R2 := fun x y H Q => ∃ a v, x = .ref a ∧ DGet H a y (some v) ∧ Q v H
section
variable {X : Cx}
open PyProof.Rows in
theorem ix_dict (hu : X.A.units + 1 < cLine) : IxR X rIxD := by
  intro value slice pins s σ H x y v u Q I rx ry h hs
  obtain ⟨a, z, rfl, g, q⟩ := h
  cases (show v = Value.ref a from rx)
  unfold subscriptTail
  refine wpAny_bind ?_
  have hT : s.TypeIs (.ref a) "dict" := dict_typeIs I g
  rw [getitemInPython_of_ne hT.not_modules]
  refine wpAny_bind (wpAny_specialOf hT PySem.F.slot_dict_getitem.lookup ?_)
  have fin : wpAny (model X.prog X.w) X.A (subscripted slice false (.ref a) u) (fun r s₃ => wpAny (model X.prog X.w) X.A (letTemporaryGo value (.ref a) r >>= fun _ => pure r) (EP X pins σ Q) X.xe s₃) X.xe s := by
    rw [hs]
    exact wpAny_operating (d_getItem hu I g ry fun w' s' I' r' => wpAny_bind (wpAny_letTemporaryGo (wpAny_pure ⟨z, H, I', r', q⟩)))
  first
    | exact wpAny_pure (wpAny_bind fin)
    | exact wpAny_bind (wpAny_pure (wpAny_bind fin))
    | exact wpAny_bind fin
end
def rSub (K : PySem.W.Frag) : R2 := fun x y H Q => rIx K x y H Q ∨ rIxD x y H Q
theorem ix_any {X : Cx} (hu : X.A.units + 1 < cLine) : IxR X (rSub X.K) := ix_seq.or (ix_dict hu)
def D.sub : D → D → Option D
  | .tup xs, .int i => atI xs i
  | .lst xs, .int i => atI xs i
  | .dic ks, .str x => look ks (.inr x)
  | .dic ks, .int i => look ks (.inl i)
  | .str z, .int i => if z.length ≤ sizeLine then (atI z.cps.toList i).map fun n => .str ⟨#[n]⟩ else none
  | _, _ => none
section
variable {c : Cn}
theorem HasL.atI {G : Hp} {xs : List D} {vs : List V} (h : HasL c.K G xs vs) {i : Int} {d : D} (e : L2.atI xs i = some d) : ∃ v, L2.atI vs i = some v ∧ Has c.K G d v := by
  unfold L2.atI at *
  rw [h.len]
  cases q : ixN xs.length i with
  | none => rw [q] at e; cases e
  | some j => rw [q] at e; exact h.get e
theorem dget_of {G : Hp} {a : Addr} {ks : List (Key × D)} {ws : List (Key × V)} {k : Key} {H : Hp} (hr : Rd H a (.dK ws)) (h : HasK c.K G ks ws) : ∃ o, DGet H a (kV k) o ∧ ((look ks k = none ∧ o = none) ∨ ∃ d v, look ks k = some d ∧ o = some v ∧ Has c.K G d v) := by
  refine ⟨valV ws k, .inl ⟨ws, k, hr, rfl, rfl⟩, ?_⟩
  rcases h.look k with ⟨e1, e2⟩ | ⟨d, v, e1, e2, hv⟩
  · exact .inl ⟨e1, e2⟩
  · exact .inr ⟨d, v, e1, e2, hv⟩
theorem dop_sub : DOp c (rSub c.K) fun x y P => ∃ z, D.sub x y = some z ∧ P z := fun x y v u G H Q P s hx hy f k => by
  obtain ⟨z, e, p⟩ := f
  have fin : ∀ w, Has c.K G z w → Q w H := fun w hw => k z w G H p (.refl s) hw
  cases x <;> cases y <;> simp only [D.sub] at e <;> try contradiction
  case tup.int xs i =>
    unfold Has at hx hy
    obtain ⟨a, vs, rfl, h1, h2⟩ := hx
    subst hy
    obtain ⟨w, e1, hw⟩ := h2.atI e
    exact .inl (.inr (.inl ⟨a, vs, i, w, rfl, rfl, (s.ge.tup h1).sq, e1, fin w hw⟩))
  case lst.int xs i =>
    unfold Has at hx hy
    obtain ⟨a, vs, rfl, h1, h2⟩ := hx
    subst hy
    obtain ⟨w, e1, hw⟩ := h2.atI e
    exact .inl (.inl ⟨a, vs, i, w, rfl, rfl, .inl (s.ge _ _ h1), e1, fin w hw⟩)
  case str.int w i =>
    unfold Has at hx hy
    subst hx hy
    split at e <;> try contradiction
    rename_i hz
    obtain ⟨n, e1, e2⟩ := Option.map_eq_some_iff.mp e
    subst e2
    exact .inl (.inr (.inr ⟨w, i, n, rfl, rfl, hz, e1, fin _ (by unfold Has; rfl)⟩))
  case dic.str ks x =>
    unfold Has at hx hy
    obtain ⟨a, ws, rfl, h1, h2⟩ := hx
    subst hy
    obtain ⟨o, g, ⟨n, _⟩ | ⟨d, w, e1, e2, hw⟩⟩ := dget_of (k := .inr x) (s.ge _ _ h1) h2
    · rw [n] at e; cases e
    · rw [e1] at e; cases e; subst e2
      exact .inr ⟨a, w, rfl, g, fin w hw⟩
  case dic.int ks x =>
    unfold Has at hx hy
    obtain ⟨a, ws, rfl, h1, h2⟩ := hx
    subst hy
    obtain ⟨o, g, ⟨n, _⟩ | ⟨d, w, e1, e2, hw⟩⟩ := dget_of (k := .inl x) (s.ge _ _ h1) h2
    · rw [n] at e; cases e
    · rw [e1] at e; cases e; subst e2
      exact .inr ⟨a, w, rfl, g, fin w hw⟩
theorem de_sub {ta tb : TE} {δ : List Sl} {P : D → Prop} (h : DE c ta δ fun x => DE c tb δ fun y => ∃ z, D.sub x y = some z ∧ P z) : DE c (tOp (rSub c.K) ta tb) δ P := de_op dop_sub h
theorem de_eq {ta tb : TE} {δ : List Sl} {P : D → Prop} (h : DE c ta δ fun x => DE c tb δ fun y => D.deep x ≤ 50 ∧ P (.bl (D.eqv x y))) : DE c (tOp (rEqX c.K) ta tb) δ P := de_op dop_eq h
theorem de_ne {ta tb : TE} {δ : List Sl} {P : D → Prop} (h : DE c ta δ fun x => DE c tb δ fun y => D.deep x ≤ 50 ∧ P (.bl (!D.eqv x y))) : DE c (tOp (rNeX c.K) ta tb) δ P := de_op dop_ne h
end
/-! ### len -/
def rLenX (K : PySem.W.Frag) : List V → Hp → VK → Prop := fun xs H Q => (∃ p ys, xs = [.ref p] ∧ (SqL K H p ys ∨ SqT K H p ys) ∧ Q (.int ys.length) H) ∨ (∃ z, xs = [.str z] ∧ z.length ≤ sizeLine ∧ Q (.int z.length) H) ∨
  ∃ a kvs, xs = [.ref a] ∧ Rd H a (.dK kvs) ∧ Q (.int kvs.length) H
theorem call_lenX {X : Cx} : CallR X (.builtin "len") (rLenX X.K) := by
  refine call_len_seq.or (call_len_str.or ?_)
  intro pins s σ H xs us Q I r h
  obtain ⟨a, kvs, rfl, ha, q⟩ := h
  obtain ⟨u, rfl, ru⟩ := vals1 r
  cases ru
  exact d_len I ha fun t s' I' => ⟨.int kvs.length, H, I', ⟨t, rfl⟩, q⟩
def D.len : D → Option Nat
  | .str z => if z.length ≤ sizeLine then some z.length else none
  | .tup xs => some xs.length
  | .lst xs => some xs.length
  | .dic xs => some xs.length
  | _ => none
section
variable {c : Cn} {ta tb : TE} {δ : List Sl} {P : D → Prop}
theorem de_len (h : DE c ta δ fun x => ∃ n : Nat, D.len x = some n ∧ P (.int n)) : DE c (tCB (rLenX c.K) (tCons ta tNil)) δ P := by
  refine de_cb (F := fun as P => ∃ x n, as = [.dat x] ∧ D.len x = some n ∧ P (.int (n : Nat))) ?_ (da_cons (h.imp fun d p => da_nil (let ⟨n, e, q⟩ := p; ⟨d, n, rfl, e, q⟩)))
  intro as vs G H Q P s ha f k
  obtain ⟨x, n, rfl, e, p⟩ := f
  obtain ⟨v, r, rfl, hv, hr⟩ := ha
  cases hr
  have fin : Q (.int n) H := k _ _ G H p (.refl s) (by unfold Has; rfl)
  cases x <;> simp only [D.len] at e <;> try contradiction
  case str z =>
    unfold Has at hv
    subst hv
    split at e <;> cases e
    rename_i hz
    exact .inr (.inl ⟨z, rfl, hz, fin⟩)
  case tup xs =>
    unfold Has at hv
    obtain ⟨a, vs, rfl, h1, h2⟩ := hv
    cases e
    refine .inl ⟨a, vs, rfl, .inr (s.ge.tup h1).sq, ?_⟩
    rw [h2.len]; exact fin
  case lst xs =>
    unfold Has at hv
    obtain ⟨a, vs, rfl, h1, h2⟩ := hv
    cases e
    refine .inl ⟨a, vs, rfl, .inl (.inl (s.ge _ _ h1)), ?_⟩
    rw [h2.len]; exact fin
  case dic xs =>
    unfold Has at hv
    obtain ⟨a, vs, rfl, h1, h2⟩ := hv
    cases e
    refine .inr (.inr ⟨a, vs, rfl, s.ge _ _ h1, ?_⟩)
    rw [h2.len]; exact fin
end
/-! ### isinstance -/
inductive Ty where
  | str | int | bool | dict | tuple | list
def Ty.name : Ty → String
  | .str => "str" | .int => "int" | .bool => "bool" | .dict => "dict" | .tuple => "tuple" | .list => "list"
def D.ty : D → String
  | .non => "NoneType" | .bl _ => "bool" | .int _ => "int" | .str _ => "str" | .tup _ => "tuple" | .lst _ => "list" | .dic _ => "dict"
def D.isA : D → Ty → Bool
  | .bl _, .int => true | .bl _, .bool => true
  | .int _, .int => true | .str _, .str => true | .tup _, .tuple => true | .lst _, .list => true | .dic _, .dict => true
  | _, _ => false
theorem kit_isA (d : D) (t : Ty) : kitB d.ty t.name = some (d.isA t) := by
  cases d <;> cases t <;> simp only [D.ty, Ty.name, D.isA] <;> decide +kernel
theorem tyX_of {c : Cn} {G H : Hp} (s : Sub c G H) {d : D} {v : V} (h : Has c.K G d v) : TyX c.K H v (.type d.ty) := by
  cases d <;> unfold Has at h
  case non => subst h; exact .base (.non)
  case bl b => subst h; exact .base (.bl b)
  case int b => subst h; exact .base (.int b)
  case str b => subst h; exact .base (.str b)
  case tup xs =>
    obtain ⟨a, vs, rfl, h1, _⟩ := h
    rcases (s.ge.tup h1).sq with (r | ⟨o, r⟩) | ⟨o, its, n, r, cl, _⟩
    · exact .base (.tup r)
    · exact .fTuple r
    · exact .kTuple r cl
  case lst xs =>
    obtain ⟨a, vs, rfl, h1, _⟩ := h
    rcases s.ge _ _ h1 with r | ⟨o, r⟩
    · exact .base (.lst r)
    · exact .base (.frz r)
  case dic xs =>
    obtain ⟨a, vs, rfl, h1, _⟩ := h
    rcases s.ge _ _ h1 with r | ⟨o, r⟩
    · exact .base (.dK r)
    · exact .fDict r
section
variable {c : Cn} {ta tb : TE} {δ : List Sl} {P : D → Prop}
theorem de_isi (t : Ty) {T : String} (hT : t.name = T) (h : DE c ta δ fun x => P (.bl (x.isA t))) : DE c (tCB (rIsi c.K) (tCons ta (tCons (tC (.ty T)) tNil))) δ P := by
  subst hT
  refine de_cb (F := fun as P => ∃ x, as = [.dat x, .raw (.ty t.name)] ∧ P (.bl (x.isA t))) ?_ (da_cons (h.imp fun d p => da_rawc (da_nil ⟨d, rfl, p⟩)))
  intro as vs G H Q P s ha f k
  obtain ⟨x, rfl, p⟩ := f
  obtain ⟨v, r, rfl, hv, r', rfl, hr⟩ := ha
  cases hr
  exact ⟨v, .ty t.name, .type x.ty, .type t.name, x.isA t, rfl, .ty _, tyX_of s hv, kit_ty (kit_isA x t), k _ _ G H p (.refl s) (by unfold Has; rfl)⟩
end
end Mp
set_option maxRecDepth 100000
set_option maxHeartbeats 4000000
namespace Mp
open PySem L2
/-! ### what a for walks: a list, a tuple, a text, a dict -/
def iAny (K : PySem.W.Frag) (tl : TE) : TI := fun σ H R => tl σ H fun x H1 =>
  (∃ a, x = .ref a ∧ (∃ xs, SqL K H1 a xs) ∧ R (Itl K a) H1) ∨ (∃ a, x = .ref a ∧ (∃ xs, SqT K H1 a xs) ∧ R (Itt K a) H1) ∨ (∃ z, x = .str z ∧ R (Its z) H1) ∨
  (∃ d o kvs, x = .ref d ∧ H1 d = some (.frz o (.dK kvs)) ∧ R (Itk d o kvs) H1) ∨ (∃ d kvs, x = .ref d ∧ H1 d = some (.dK kvs) ∧ ∀ o, R (Itk d o kvs) (upd H1 d (.frz o (.dK kvs))))
section
variable {X : Cx} {tg : Expr}
theorem keys_it {pins : List (Addr × Obj)} {σ : L2.St} {H : Hp} {s : Shared} {R : It → Hp → Prop} {E : Value → Shared → Prop} {d : Addr} {o : Obj} {kvs : List (Key × V)} (I : Inv X pins σ H s) (hd : H d = some (.frz o (.dK kvs))) (q : R (Itk d o kvs) H) :
    wpAny (model X.prog X.w) X.A (pyIter (.ref d)) (PIE X pins σ tg R) E s := by
  obtain ⟨hs, hgd, hx, es, ep, vs, hdt, hsz, kv, hm⟩ := I.frzK hd
  refine iter_keys hs hgd hx hdt (pi_one (tk := s.toks) I _ (turn_keys _ hdt) ⟨_, Heap.get?_push_size _ rfl, rfl, ?_⟩ q)
  rw [hsz] <;> rfl
open PyProof.Rows in
theorem pi_any {l : Expr} {tl : TE} (hl : PE X l tl) : PI X tg l (iAny X.K tl) := by
  refine ⟨fun pins s σ H R I h => ?_⟩
  refine thn (hl.run pins s σ H _ I h) fun v s1 ⟨x, H1, I1, r1, q1⟩ => ?_
  rcases q1 with ⟨a, rfl, ⟨xs, hq⟩, q⟩ | ⟨a, rfl, ⟨xs, hq⟩, q⟩ | ⟨z, rfl, q⟩ | ⟨d, o, kvs, rfl, hd, q⟩ | ⟨d, kvs, rfl, hd, q⟩
  · cases r1
    obtain ⟨its, rv, p, hz⟩ := I1.list hq
    exact wpAny_pyIter_list p.isList (pi_one (tk := s1.toks) I1 _ (turn_list a _) ⟨_, Heap.get?_push_size _ rfl, rfl, rfl⟩ q)
  · cases r1
    obtain ⟨its, rv, p, hz⟩ := I1.tuple hq
    exact wpAny_pyIter_tuple (show s1.heap.IsTuple a its.toArray from p) (pi_one (tk := s1.toks) I1 _ (turn_tuple a _) ⟨_, Heap.get?_push_size _ rfl, rfl, rfl⟩ q)
  · obtain ⟨t, rfl⟩ := r1
    cases ha : z.cps.all (· < 128)
    · exact wpAny_pyIter_wide ha (pi_one (tk := s1.toks) I1 _ (turn_str _ z t "str_iterator" (.inr rfl)) ⟨_, Heap.get?_push_size _ rfl, rfl, rfl⟩ q)
    · exact wpAny_pyIter_ascii ha (pi_one (tk := s1.toks) I1 _ (turn_str _ z t "str_ascii_iterator" (.inl rfl)) ⟨_, Heap.get?_push_size _ rfl, rfl, rfl⟩ q)
  · cases r1
    exact keys_it I1 hd q
  · cases r1
    obtain ⟨od, I2⟩ := I1.lock hd trivial
    exact keys_it I2 upd_same (q od)
end
/-- the items of a datum that is walked -/
def D.iter : D → Option (List D)
  | .lst xs => some xs
  | .tup xs => some xs
  | .str z => some (z.cps.toList.map fun n => .str ⟨#[n]⟩)
  | .dic ks => some (ks.map fun p => match p.1 with | .inl i => .int i | .inr x => .str x)
  | _ => none
def kD : Key → D
  | .inl i => .int i
  | .inr x => .str x
theorem has_key {K : PySem.W.Frag} {G : Hp} (k : Key) : Has K G (kD k) (kV k) := by cases k <;> unfold kD kV Has <;> rfl
section
variable {c : Cn} {δ : List Sl} {tl : TE}
theorem wk_list {G H : Hp} {a : Addr} {xs : List D} {vs : List V} (hr : Rd G a (.lst vs)) (hl : HasL c.K G xs vs) : Wk c (Itl c.K a) xs G H where
  go := fun G1 H1 i s l hi => by
    obtain ⟨v, e, _⟩ := hl.get (i := i) (d := xs[i]) (by simp [hi])
    exact ⟨vs, v, .inl (s.ge _ _ (l.ge _ _ hr)), e⟩
  stop := fun G1 H1 s l => ⟨vs, .inl (s.ge _ _ (l.ge _ _ hr)), by rw [hl.len]; exact Nat.le_refl _⟩
  yld := fun G1 H1 i x H2 s l hi y => by
    obtain ⟨rfl, y⟩ := y
    have e := y vs (.inl (s.ge _ _ (l.ge _ _ hr)))
    obtain ⟨d, e1, hd⟩ := hl.get' e
    exact ⟨G1, .refl s, d, e1, hd.mono l.ge⟩
theorem wk_tup {G H : Hp} {a : Addr} {xs : List D} {vs : List V} (hr : TupAt c.K G a vs) (hl : HasL c.K G xs vs) : Wk c (Itt c.K a) xs G H where
  go := fun G1 H1 i s l hi => by
    obtain ⟨v, e, _⟩ := hl.get (i := i) (d := xs[i]) (by simp [hi])
    exact ⟨vs, v, (s.ge.tup (l.ge.tup hr)).sq, e⟩
  stop := fun G1 H1 s l => ⟨vs, (s.ge.tup (l.ge.tup hr)).sq, by rw [hl.len]; exact Nat.le_refl _⟩
  yld := fun G1 H1 i x H2 s l hi y => by
    obtain ⟨rfl, y⟩ := y
    have e := y vs (s.ge.tup (l.ge.tup hr)).sq
    obtain ⟨d, e1, hd⟩ := hl.get' e
    exact ⟨G1, .refl s, d, e1, hd.mono l.ge⟩
theorem wk_str {G H : Hp} {z : Str} : Wk c (Its z) (z.cps.toList.map fun n => .str ⟨#[n]⟩) G H where
  go := fun G1 H1 i s l hi => by simpa [Its] using hi
  stop := fun G1 H1 s l => by simp [Its]
  yld := fun G1 H1 i x H2 s l hi y => by
    obtain ⟨rfl, n, e, rfl⟩ := y
    refine ⟨G1, .refl s, .str ⟨#[n]⟩, ?_, by unfold Has; rfl⟩
    rw [List.getElem?_map]
    have : z.cps.toList[i]? = some n := by simpa using e
    rw [this]; rfl
theorem wk_keys {G H : Hp} {a : Addr} {o : Obj} {ks : List (Key × D)} {ws : List (Key × V)} (hf : H a = some (.frz o (.dK ws))) (hl : HasK c.K G ks ws) : Wk c (Itk a o ws) (ks.map fun p => kD p.1) G H where
  go := fun G1 H1 i s l hi => ⟨l.fz _ _ _ hf, by rw [hl.len]; simpa using hi⟩
  stop := fun G1 H1 s l => ⟨l.fz _ _ _ hf, by rw [hl.len, List.length_map]; exact Nat.le_refl _⟩
  yld := fun G1 H1 i x H2 s l hi y => by
    obtain ⟨rfl, k, v, e, rfl⟩ := y
    refine ⟨G1, .refl s, kD k, ?_, has_key k⟩
    have e2 : (ws.map (·.1))[i]? = some k := by rw [List.getElem?_map, e]; rfl
    rw [hl.keys, List.getElem?_map] at e2
    rw [List.getElem?_map]
    cases q : ks[i]? with
    | none => rw [q] at e2; cases e2
    | some p => rw [q] at e2; cases e2; rfl
theorem di_any {P : List D → Prop} (h : DE c tl δ fun d => ∃ xs, D.iter d = some xs ∧ P xs) : DI c (iAny c.K tl) δ P := fun G0 H0 G H σ R b e k =>
  h G0 H0 G H σ _ b e fun d v G1 H1 p s hv => by
    obtain ⟨xs, ei, p⟩ := p
    cases d <;> simp only [D.iter] at ei <;> try contradiction
    case lst ys =>
      cases ei
      unfold Has at hv
      obtain ⟨a, vs, rfl, h1, h2⟩ := hv
      exact .inl ⟨a, rfl, ⟨vs, .inl (s.sub.ge _ _ h1)⟩, k _ _ G1 H1 p s (wk_list h1 h2)⟩
    case tup ys =>
      cases ei
      unfold Has at hv
      obtain ⟨a, vs, rfl, h1, h2⟩ := hv
      exact .inr (.inl ⟨a, rfl, ⟨vs, (s.sub.ge.tup h1).sq⟩, k _ _ G1 H1 p s (wk_tup h1 h2)⟩)
    case str z =>
      cases ei
      unfold Has at hv
      subst hv
      exact .inr (.inr (.inl ⟨z, rfl, k _ _ G1 H1 p s wk_str⟩))
    case dic ks =>
      have ek : (ks.map fun p => kD p.1) = xs := by
        injection ei
      subst ek
      unfold Has at hv
      obtain ⟨a, ws, rfl, h1, h2⟩ := hv
      have g1 := s.sub.rd h1
      rcases s.sub.ge _ _ h1 with r | ⟨o, r⟩
      · refine .inr (.inr (.inr (.inr ⟨a, ws, rfl, r, fun o => ?_⟩)))
        have s2 := Step.frz (o := o) s.sub g1 r
        exact k _ _ G1 _ p (s.trans s2) (wk_keys upd_same h2)
      · exact .inr (.inr (.inr (.inl ⟨a, o, ws, rfl, r, k _ _ G1 H1 p s (wk_keys r h2)⟩)))
/-- range(n) -/
theorem wk_rng {G H : Hp} {n : Nat} : Wk c (Itr 0 n) ((List.range n).map fun i => .int (i : Nat)) G H where
  go := fun G1 H1 i s l hi => by simpa [Itr] using hi
  stop := fun G1 H1 s l => by simp [Itr]
  yld := fun G1 H1 i x H2 s l hi y => by
    obtain ⟨rfl, rfl⟩ := y
    refine ⟨G1, .refl s, .int (i : Nat), ?_, by unfold Has; simp⟩
    have hi' : i < n := by simpa using hi
    simp [hi']
theorem di_rng {ta : TE} {P : List D → Prop} (h : DE c ta δ fun d => ∃ n : Nat, d = .int n ∧ n ≤ 1000 ∧ P ((List.range n).map fun i => .int (i : Nat))) : DI c (iRng1 (tCons ta tNil)) δ P := fun G0 H0 G H σ R b e k =>
  h G0 H0 G H σ _ b e fun d v G1 H1 p s hv => by
    obtain ⟨n, rfl, hn, p⟩ := p
    unfold Has at hv
    subst hv
    refine ⟨n, rfl, by omega, by omega, ?_⟩
    exact k _ _ G1 H1 p s wk_rng
end
/-! ### in -/
def rInD (neg : Bool) : R2 := fun x y H Q => ∃ a o, y = .ref a ∧ DGet H a x o ∧ Q (.bl (if neg then !o.isSome else o.isSome)) H
def rInS (neg : Bool) : R2 := fun x y H Q => ∃ (n : Nat) (z : Str), x = .str ⟨#[n]⟩ ∧ y = .str z ∧ Q (.bl (if neg then !decide (n ∈ z.cps.toList) else decide (n ∈ z.cps.toList))) H
def rInX (K : PySem.W.Frag) (neg : Bool) : R2 := fun x y H Q => rIn K neg x y H Q ∨ (rInD neg x y H Q ∨ rInS neg x y H Q)
section
variable {X : Cx}
theorem op_inX (hu : X.A.units + 1 < cLine) : OpR X (compareOp .In) (rInX X.K false) := by
  refine op_in_seq.or (OpR.or ?_ op_in_sign)
  intro pins s σ H x y v u Q I rx ry h
  obtain ⟨a, o, rfl, g, q⟩ := h
  cases (show u = Value.ref a from ry)
  exact d_in hu I g rx fun s' I' => ⟨.bl o.isSome, H, I', rfl, q⟩
end
def D.flat : D → Bool
  | .non => true | .bl _ => true | .int _ => true | .str _ => true | _ => false
def D.inn : D → D → Option Bool
  | x, .tup ys => if x.flat && ys.all D.flat then some (ys.any fun y => D.eqv y x) else none
  | x, .lst ys => if x.flat && ys.all D.flat then some (ys.any fun y => D.eqv y x) else none
  | .str k, .dic ks => some (look ks (.inr k)).isSome
  | .str k, .str z => match k.cps.toList with | [n] => some (decide (n ∈ z.cps.toList)) | _ => none
  | _, _ => none
section
variable {c : Cn} {δ : List Sl} {ta tb : TE} {P : D → Prop}
theorem has_flat {K : PySem.W.Frag} {G : Hp} {d : D} {v : V} (f : d.flat = true) (h : Has K G d v) : flatV v = true := by
  cases d <;> simp only [D.flat] at f <;> try contradiction
  all_goals unfold Has at h; subst h; rfl
theorem has_eqV {K : PySem.W.Frag} {G : Hp} {d e : D} {v u : V} (f : d.flat = true) (g : e.flat = true) (h : Has K G d v) (q : Has K G e u) : eqV v u = D.eqv d e := by
  cases d <;> simp only [D.flat] at f <;> try contradiction
  all_goals
    cases e <;> simp only [D.flat] at g <;> try contradiction
    all_goals unfold Has at h q; subst h q; simp [eqV, D.eqv]
theorem hasL_flat {K : PySem.W.Frag} {G : Hp} : ∀ {xs : List D} {vs : List V}, HasL K G xs vs → xs.all D.flat = true → vs.all flatV = true
  | [], _, h, _ => by unfold HasL at h; subst h; rfl
  | x :: xs, vs, h, f => by
    unfold HasL at h
    obtain ⟨v, r, rfl, h1, h2⟩ := h
    rw [List.all_cons, Bool.and_eq_true] at f ⊢
    exact ⟨has_flat f.1 h1, hasL_flat h2 f.2⟩
theorem hasL_inV {K : PySem.W.Frag} {G : Hp} {x : D} {u : V} (fx : x.flat = true) (hx : Has K G x u) : ∀ {xs : List D} {vs : List V}, HasL K G xs vs → xs.all D.flat = true → inV u vs = (xs.any fun y => D.eqv y x)
  | [], _, h, _ => by unfold HasL at h; subst h; rfl
  | y :: xs, vs, h, f => by
    unfold HasL at h
    obtain ⟨v, r, rfl, h1, h2⟩ := h
    rw [List.all_cons, Bool.and_eq_true] at f
    have ih := hasL_inV fx hx h2 f.2
    unfold inV at ih ⊢
    rw [List.any_cons, List.any_cons, has_eqV f.1 fx h1 hx, ih]
theorem dop_in {neg : Bool} : DOp c (rInX c.K neg) fun x y P => ∃ b, D.inn x y = some b ∧ P (.bl (if neg then !b else b)) := fun x y v u G H Q P s hx hy f k => by
  obtain ⟨b, e, p⟩ := f
  have fin : Q (.bl (if neg then !b else b)) H := k _ _ G H p (.refl s) (by unfold Has; rfl)
  cases y <;> try (cases x <;> simp only [D.inn] at e <;> contradiction)
  case tup ys =>
    simp only [D.inn] at e
    split at e <;> cases e
    rename_i ff
    rw [Bool.and_eq_true] at ff
    unfold Has at hy
    obtain ⟨a, vs, rfl, h1, h2⟩ := hy
    refine .inl ⟨a, vs, rfl, .inr (s.ge.tup h1).sq, has_flat ff.1 hx, hasL_flat h2 ff.2, ?_⟩
    rw [hasL_inV ff.1 hx h2 ff.2]; exact fin
  case lst ys =>
    simp only [D.inn] at e
    split at e <;> cases e
    rename_i ff
    rw [Bool.and_eq_true] at ff
    unfold Has at hy
    obtain ⟨a, vs, rfl, h1, h2⟩ := hy
    refine .inl ⟨a, vs, rfl, .inl (.inl (s.ge _ _ h1)), has_flat ff.1 hx, hasL_flat h2 ff.2, ?_⟩
    rw [hasL_inV ff.1 hx h2 ff.2]; exact fin
  case dic ks =>
    cases x <;> simp only [D.inn] at e <;> try contradiction
    rename_i kx
    cases e
    unfold Has at hx hy
    subst hx
    obtain ⟨a, ws, rfl, h1, h2⟩ := hy
    obtain ⟨o, g, ⟨n, rfl⟩ | ⟨d, w, e1, rfl, hw⟩⟩ := dget_of (k := .inr kx) (s.ge _ _ h1) h2
    · rw [n] at fin
      exact .inr (.inl ⟨a, none, rfl, g, fin⟩)
    · rw [e1] at fin
      exact .inr (.inl ⟨a, some w, rfl, g, fin⟩)
  case str z =>
    cases x <;> simp only [D.inn] at e <;> try contradiction
    rename_i kx
    unfold Has at hx hy
    subst hx hy
    split at e <;> cases e
    rename_i n en
    have ek : kx = ⟨#[n]⟩ := by
      obtain ⟨⟨l⟩⟩ := kx
      simp only at en
      subst en; rfl
    exact .inr (.inr ⟨n, z, by rw [ek], rfl, fin⟩)
theorem de_in {neg : Bool} (h : DE c ta δ fun x => DE c tb δ fun y => ∃ b, D.inn x y = some b ∧ P (.bl (if neg then !b else b))) : DE c (tOp (rInX c.K neg) ta tb) δ P := de_op dop_in h
/-! ### ints, texts, None -/
theorem dop_I0 {g : Int → Int → V} {f : Int → Int → D} (hg : ∀ i j G, Has c.K G (f i j) (g i j)) : DOp c (rI0 g) fun x y P => ∃ i j, x = .int i ∧ y = .int j ∧ P (f i j) := fun x y v u G H Q P s hx hy q k => by
  obtain ⟨i, j, rfl, rfl, p⟩ := q
  unfold Has at hx hy
  exact ⟨i, j, hx, hy, k _ _ G H p (.refl s) (hg i j G)⟩
theorem de_add (h : DE c ta δ fun x => DE c tb δ fun y => ∃ i j, x = .int i ∧ y = .int j ∧ P (.int (i + j))) : DE c (tOp (rI0 fun i j => .int (i + j)) ta tb) δ P := de_op (dop_I0 (f := fun i j => .int (i + j)) fun i j G => by unfold Has; rfl) h
theorem de_subI (h : DE c ta δ fun x => DE c tb δ fun y => ∃ i j, x = .int i ∧ y = .int j ∧ P (.int (i - j))) : DE c (tOp (rI0 fun i j => .int (i - j)) ta tb) δ P := de_op (dop_I0 (f := fun i j => .int (i - j)) fun i j G => by unfold Has; rfl) h
theorem de_lt (h : DE c ta δ fun x => DE c tb δ fun y => ∃ i j, x = .int i ∧ y = .int j ∧ P (.bl (decide (i < j)))) : DE c (tOp (rI0 fun i j => .bl (decide (i < j))) ta tb) δ P := de_op (dop_I0 (f := fun i j => .bl (decide (i < j))) fun i j G => by unfold Has; rfl) h
theorem de_le (h : DE c ta δ fun x => DE c tb δ fun y => ∃ i j, x = .int i ∧ y = .int j ∧ P (.bl (decide (i ≤ j)))) : DE c (tOp (rI0 fun i j => .bl (decide (i ≤ j))) ta tb) δ P := de_op (dop_I0 (f := fun i j => .bl (decide (i ≤ j))) fun i j G => by unfold Has; rfl) h
theorem de_gt (h : DE c ta δ fun x => DE c tb δ fun y => ∃ i j, x = .int i ∧ y = .int j ∧ P (.bl (decide (j < i)))) : DE c (tOp (rI0 fun i j => .bl (decide (j < i))) ta tb) δ P := de_op (dop_I0 (f := fun i j => .bl (decide (j < i))) fun i j G => by unfold Has; rfl) h
theorem de_ge (h : DE c ta δ fun x => DE c tb δ fun y => ∃ i j, x = .int i ∧ y = .int j ∧ P (.bl (decide (j ≤ i)))) : DE c (tOp (rI0 fun i j => .bl (decide (j ≤ i))) ta tb) δ P := de_op (dop_I0 (f := fun i j => .bl (decide (j ≤ i))) fun i j G => by unfold Has; rfl) h
theorem de_neg (h : DE c ta δ fun x => ∃ i, x = .int i ∧ P (.int (-i))) : DE c (tUn (rU fun i => .int (-i)) ta) δ P := de_un (F := fun x P => ∃ i, x = .int i ∧ P (.int (-i))) (fun x v G H Q P s hx q k => by
  obtain ⟨i, rfl, p⟩ := q
  unfold Has at hx
  exact ⟨i, hx, k _ _ G H p (.refl s) (by unfold Has; rfl)⟩) h
def D.isN : D → Bool
  | .non => true | _ => false
theorem has_isN {K : PySem.W.Frag} {G : Hp} {d : D} {v : V} (h : Has K G d v) : decide (v = .non) = d.isN := by
  cases d <;> unfold Has at h
  case non => subst h; rfl
  case bl => subst h; rfl
  case int => subst h; rfl
  case str => subst h; rfl
  case tup => obtain ⟨a, vs, rfl, _⟩ := h; rfl
  case lst => obtain ⟨a, vs, rfl, _⟩ := h; rfl
  case dic => obtain ⟨a, vs, rfl, _⟩ := h; rfl
theorem de_isN (h : DE c ta δ fun x => P (.bl x.isN)) : DE c (tOp (fun x y H Q => y = .non ∧ Q (.bl (decide (x = .non))) H) ta (tC .non)) δ P :=
  de_op (F := fun x y P => y = .non ∧ P (.bl x.isN)) (fun x y v u G H Q P s hx hy q k => by
    obtain ⟨rfl, p⟩ := q
    unfold Has at hy
    refine ⟨hy, ?_⟩
    rw [has_isN hx]
    exact k _ _ G H p (.refl s) (by unfold Has; rfl)) (h.imp fun d p => de_non ⟨rfl, p⟩)
theorem de_notN (h : DE c ta δ fun x => P (.bl (!x.isN))) : DE c (tOp (fun x y H Q => y = .non ∧ Q (.bl (!decide (x = .non))) H) ta (tC .non)) δ P :=
  de_op (F := fun x y P => y = .non ∧ P (.bl (!x.isN))) (fun x y v u G H Q P s hx hy q k => by
    obtain ⟨rfl, p⟩ := q
    unfold Has at hy
    refine ⟨hy, ?_⟩
    rw [has_isN hx]
    exact k _ _ G H p (.refl s) (by unfold Has; rfl)) (h.imp fun d p => de_non ⟨rfl, p⟩)
/-- a op1 b op2 c of ints -/
theorem de_chainII {tc : TE} {f g : Int → Int → Bool} (h : DE c ta δ fun x => DE c tb δ fun y => ∃ i j, x = .int i ∧ y = .int j ∧ if f i j = true then DE c tc δ fun z => ∃ k, z = .int k ∧ P (.bl (g j k)) else P (.bl false)) :
    DE c (tChain (rI0 fun i j => .bl (f i j)) (rI0 fun i j => .bl (g i j)) ta tb tc) δ P := fun G0 H0 G H σ Q b e k =>
  h G0 H0 G H σ _ b e fun x v G1 H1 px s1 hx => px G0 H0 G1 H1 σ _ (b.next s1) (e.step b.iv s1) fun y u G2 H2 py s2 hy => by
    obtain ⟨i, j, rfl, rfl, p⟩ := py
    unfold Has at hx hy
    subst hx hy
    refine ⟨i, j, rfl, rfl, f i j, rfl, ?_⟩
    have s12 := s1.trans s2
    by_cases q : f i j = true
    · rw [if_pos q] at p ⊢
      refine p G0 H0 G2 H2 σ _ (b.next s12) (e.step b.iv s12) fun z w G3 H3 pz s3 hz => ?_
      obtain ⟨n, rfl, pz⟩ := pz
      unfold Has at hz
      subst hz
      exact ⟨j, n, rfl, rfl, k _ _ G3 H3 pz (s12.trans s3) (by unfold Has; rfl)⟩
    · rw [if_neg q] at p ⊢
      exact k _ _ G2 H2 p s12 (by unfold Has; rfl)
end
end Mp
set_option maxRecDepth 100000
set_option maxHeartbeats 4000000
namespace Mp
open PySem L2
/-! ### d.get -/
section
variable {c : Cn} {δ : List Sl} {ta tb td ty tx : TE} {P : D → Prop}
theorem isD_of {H : Hp} {a : Addr} {ws : List (Key × V)} (h : Rd H a (.dK ws)) : IsD H a := .inl ⟨ws, h⟩
theorem getD_of {G : Hp} {ks : List (Key × D)} {k : Key} {o : Option V} {z : V} {e : D} (q : (look ks k = none ∧ o = none) ∨ ∃ d v, look ks k = some d ∧ o = some v ∧ Has c.K G d v) (he : Has c.K G e z) : Has c.K G ((look ks k).getD e) (o.getD z) := by
  rcases q with ⟨n, rfl⟩ | ⟨d, v, n, rfl, hv⟩
  · rw [n]; exact he
  · rw [n]; exact hv
theorem de_get1 (h : DE c td δ fun d => ∃ ks, d = .dic ks ∧ DE c ty δ fun k => ∃ x, k = .str x ∧ P ((look ks (.inr x)).getD .non)) : DE c (tDGet1 td ty) δ P := fun G0 H0 G H σ Q b e k =>
  h G0 H0 G H σ _ b e fun d v G1 H1 p s hv => by
    obtain ⟨ks, rfl, p⟩ := p
    unfold Has at hv
    obtain ⟨a, ws, rfl, h1, h2⟩ := hv
    refine ⟨a, rfl, isD_of (s.sub.ge _ _ h1), p G0 H0 G1 H1 σ _ (b.next s) (e.step b.iv s) fun kd kv G2 H2 q s2 hk => ?_⟩
    obtain ⟨x, rfl, q⟩ := q
    unfold Has at hk
    subst hk
    obtain ⟨o, g, r⟩ := dget_of (k := .inr x) (s2.sub.ge _ _ (s2.ge _ _ h1)) (h2.mono s2.ge)
    exact ⟨o, g, k _ _ G2 H2 q (s.trans s2) (getD_of r (by unfold Has; rfl))⟩
theorem de_get2 (h : DE c td δ fun d => ∃ ks, d = .dic ks ∧ DE c ty δ fun k => DE c tx δ fun z => ∃ x, k = .str x ∧ P ((look ks (.inr x)).getD z)) : DE c (tDGet2 td ty tx) δ P := fun G0 H0 G H σ Q b e k =>
  h G0 H0 G H σ _ b e fun d v G1 H1 p s hv => by
    obtain ⟨ks, rfl, p⟩ := p
    unfold Has at hv
    obtain ⟨a, ws, rfl, h1, h2⟩ := hv
    have b1 := b.next s
    have e1 := e.step b.iv s
    refine ⟨a, rfl, isD_of (s.sub.ge _ _ h1), p G0 H0 G1 H1 σ _ b1 e1 fun kd kv G2 H2 q s2 hk => ?_⟩
    refine q G0 H0 G2 H2 σ _ (b1.next s2) (e1.step b.iv s2) fun z zv G3 H3 q3 s3 hz => ?_
    obtain ⟨x, rfl, q3⟩ := q3
    unfold Has at hk
    subst hk
    have s23 := s2.trans s3
    obtain ⟨o, g, r⟩ := dget_of (k := .inr x) (s3.sub.ge _ _ (s23.ge _ _ h1)) (h2.mono s23.ge)
    exact ⟨o, g, k _ _ G3 H3 q3 (s.trans s23) (getD_of r hz)⟩
/-! ### all, any, sum -/
theorem hasL_bls {K : PySem.W.Frag} {G : Hp} : ∀ {bs : List Bool} {vs : List V}, HasL K G (bs.map .bl) vs → vs = bs.map .bl
  | [], _, h => by unfold HasL at h; exact h
  | b :: bs, vs, h => by
    rw [List.map_cons] at h
    unfold HasL at h
    obtain ⟨v, r, rfl, h1, h2⟩ := h
    unfold Has at h1
    rw [h1, hasL_bls h2]; rfl
theorem hasL_ints {K : PySem.W.Frag} {G : Hp} : ∀ {bs : List Int} {vs : List V}, HasL K G (bs.map .int) vs → vs = bs.map .int
  | [], _, h => by unfold HasL at h; exact h
  | b :: bs, vs, h => by
    rw [List.map_cons] at h
    unfold HasL at h
    obtain ⟨v, r, rfl, h1, h2⟩ := h
    unfold Has at h1
    rw [h1, hasL_ints h2]; rfl
theorem de_all (h : DE c ta δ fun d => ∃ bs : List Bool, d = .lst (bs.map .bl) ∧ P (.bl (bs.all id))) : DE c (tCB (rAll c.K) (tCons ta tNil)) δ P :=
  de_cb (F := fun as P => ∃ bs : List Bool, as = [.dat (.lst (bs.map .bl))] ∧ P (.bl (bs.all id))) (fun as vs G H Q P s ha f k => by
    obtain ⟨bs, rfl, p⟩ := f
    obtain ⟨v, r, rfl, hv, hr⟩ := ha
    cases hr
    unfold Has at hv
    obtain ⟨a, us, rfl, h1, h2⟩ := hv
    have e := hasL_bls h2
    subst e
    exact ⟨a, bs, rfl, .inl (s.ge _ _ h1), k _ _ G H p (.refl s) (by unfold Has; rfl)⟩) (da_cons (h.imp fun d p => da_nil (let ⟨bs, e, q⟩ := p; ⟨bs, by rw [e], q⟩)))
theorem de_sum (h : DE c ta δ fun d => ∃ ns : List Int, d = .lst (ns.map .int) ∧ P (.int ns.sum)) : DE c (tCB (rSum c.K) (tCons ta tNil)) δ P :=
  de_cb (F := fun as P => ∃ ns : List Int, as = [.dat (.lst (ns.map .int))] ∧ P (.int ns.sum)) (fun as vs G H Q P s ha f k => by
    obtain ⟨ns, rfl, p⟩ := f
    obtain ⟨v, r, rfl, hv, hr⟩ := ha
    cases hr
    unfold Has at hv
    obtain ⟨a, us, rfl, h1, h2⟩ := hv
    have e := hasL_ints h2
    subst e
    exact ⟨a, ns, rfl, .inl (s.ge _ _ h1), k _ _ G H p (.refl s) (by unfold Has; rfl)⟩) (da_cons (h.imp fun d p => da_nil (let ⟨bs, e, q⟩ := p; ⟨bs, by rw [e], q⟩)))
end
/-! ### tuple(x), list(x) -/
def rTupleF (K : PySem.W.Frag) : List V → Hp → VK → Prop := fun xs H Q => ∃ p ys, xs = [.ref p] ∧ ((Rd H p (.lst ys) ∧ ∀ l o, H l = none → o.dict = none → Q (.ref l) (upd H l (.frz o (.tup ys)))) ∨ (SqT K H p ys ∧ Q (.ref p) H))
open PyProof.Rows in
theorem call_tupleF {X : Cx} : CallR X (.type "tuple") (rTupleF X.K) := by
  intro pins s σ H xs us Q I r h
  obtain ⟨p, ys, rfl, h⟩ := h
  obtain ⟨u, rfl, rx⟩ := vals1 r
  cases rx
  rcases h with ⟨hq, q⟩ | ⟨hq, q⟩
  · obtain ⟨its, rv, pl, hz⟩ := I.list (.inl hq)
    have ln := rv.length
    refine call_tuple_list pl.isList (fun h' kp => ?_) (by simp only [List.size_toArray] <;> omega)
    have I1 : Inv X pins σ H { s with heap := h' } := I.kept (t' := s.toks) kp
    refine ⟨.ref h'.objs.size, upd H h'.objs.size (.frz _ (.tup ys)), I1.laid (t' := s.toks) (fun b o e => Heap.get?_push_of_some _ e) (Nat.le_refl _) ⟨Heap.get?_push_size _ rfl, ?_⟩, rfl, q _ _ (I1.hok.fresh (Nat.le_refl _)) rfl⟩
    exact ⟨hz, its, rv, IsTup.new _ _⟩
  · obtain ⟨its, rv, pl, hz⟩ := I.tuple hq
    exact call_tuple_same pl ⟨.ref p, H, I, rfl, q⟩
section
variable {c : Cn} {δ : List Sl} {ta tb td ty tx : TE} {P : D → Prop}
def D.seq : D → Option (List D)
  | .lst xs => some xs | .tup xs => some xs | _ => none
theorem de_tuple (h : DE c ta δ fun d => ∃ xs, D.seq d = some xs ∧ P (.tup xs)) : DE c (tCB (rTupleF c.K) (tCons ta tNil)) δ P :=
  de_cb (F := fun as P => ∃ d xs, as = [.dat d] ∧ D.seq d = some xs ∧ P (.tup xs)) (fun as vs G H Q P s ha f k => by
    obtain ⟨d, xs, rfl, e, p⟩ := f
    obtain ⟨v, r, rfl, hv, hr⟩ := ha
    cases hr
    cases d <;> simp only [D.seq] at e <;> try contradiction
    case lst ys =>
      cases e
      unfold Has at hv
      obtain ⟨a, us, rfl, h1, h2⟩ := hv
      refine ⟨a, us, rfl, .inl ⟨s.ge _ _ h1, fun l o hl ho => ?_⟩⟩
      exact k _ _ (upd G l (.tup us)) _ p (Step.new s hl ⟨o, upd_same, ho⟩) (has_tup (s.free hl) h2)
    case tup ys =>
      cases e
      have hv' := hv
      unfold Has at hv
      obtain ⟨a, us, rfl, h1, h2⟩ := hv
      exact ⟨a, us, rfl, .inr ⟨(s.ge.tup h1).sq, k _ _ G H p (.refl s) hv'⟩⟩) (da_cons (h.imp fun d p => da_nil (let ⟨xs, e, q⟩ := p; ⟨d, xs, rfl, e, q⟩)))
end
end Mp
set_option maxRecDepth 100000
set_option maxHeartbeats 4000000
namespace Mp
open PySem L2
/-! ### dict(x) -/
def TupF (K : PySem.W.Frag) (H : Hp) (a : Addr) (vs : List V) : Prop := (∃ o, H a = some (.frz o (.tup vs)) ∧ o.dict = none) ∨ KTup K a vs
def rDictP (K : PySem.W.Frag) : List V → Hp → VK → Prop := fun xs H Q => ∃ (a : Addr) (ps : List Addr) (kvs : List (Key × V)), xs = [.ref a] ∧ (Rd H a (.lst (ps.map V.ref)) ∨ TupF K H a (ps.map V.ref)) ∧
  Paired (fun p kv => SqT K H p [kV kv.1, kv.2]) ps kvs ∧ ∀ p, H p = none → Q (.ref p) (upd H p (.dK (mergeK [] kvs)))
section
variable {X : Cx}
theorem call_dictS (hcalm : X.calm = true) : CallR X (.type "dict") (rDictP X.K) := by
  intro pins s σ H xs us Q I r q
  obtain ⟨a, ps, kvs, rfl, hq, hp, q⟩ := q
  obtain ⟨u, rfl, rx⟩ := vals1 r
  cases (show u = Value.ref a from rx)
  obtain ⟨prs, rel, hl, hpr⟩ := pairs_of I hp
  -- the sequence, plain
  have sq : ∃ (T : String) (its : List Value), (T = "list" ∨ T = "tuple") ∧ Vals (ps.map V.ref) its ∧ PlainSeq T s.heap a its.toArray ∧ ps.length ≤ sizeLine := by
    rcases hq with hq | ⟨o, ho, hd⟩ | ⟨o, its, n, hk, hc, hd, hdat, hz, rv⟩
    · obtain ⟨its, rv, ⟨o, n, p1, p2, p3, p4⟩, hz⟩ := I.list (.inl hq)
      exact ⟨"list", its, .inl rfl, rv, ⟨o, n, p1, p2, p3, p4⟩, by simpa using hz⟩
    · obtain ⟨e1, z, its, rv, o2, e2, hc, n, hdat⟩ := I.hok a _ ho
      rw [e1] at e2; cases e2
      exact ⟨"tuple", its, .inr rfl, rv, ⟨o, n, e1, hc, hd, hdat⟩, by simpa using z⟩
    · refine ⟨"tuple", its.toList, .inr rfl, rv, ⟨o, n, I.kIn a o hk, hc, hd, by rw [hdat]⟩, ?_⟩
      have := rv.length
      simp at this
      omega
  obtain ⟨T, its, hT, rv, pl, hz⟩ := sq
  have ei := refs_at rv
  subst ei
  have ln : prs.length = ps.length := hl
  -- the keys' own values
  have hkeys : ∃ qs : List (Value × Value), qs.length = prs.length ∧ ∀ (j : Nat) (k v : Value), qs[j]? = some (k, v) → (ps.map Value.ref).toArray[j]? = some (.ref (ps.getD j 0)) ∧ PairAt s.heap (ps.getD j 0) k v ∧ ∃ q : Key, prs[j]? = some (q, v) ∧ keyIs q k = true := by
    have hk : ∀ j : Nat, ∃ kk : Value, ∀ (h : j < prs.length), PairAt s.heap (ps.getD j 0) kk prs[j].2 ∧ keyIs prs[j].1 kk = true := fun j => by
      by_cases h : j < prs.length
      · obtain ⟨b, u, e1, e2, e3⟩ := hpr j prs[j] (by simp [h])
        refine ⟨u, fun _ => ⟨.inl ?_, e3⟩⟩
        have : ps.getD j 0 = b := by simp [List.getD, e1]
        rw [this]; exact e2
      · exact ⟨.none, fun z => absurd z h⟩
    let f : Nat → Value := fun j => Classical.choose (hk j)
    refine ⟨(List.range prs.length).map fun j => (f j, (prs.getD j (.inl 0, .none)).2), by simp, fun j k v e => ?_⟩
    have hj : j < prs.length := by
      have := (List.getElem?_eq_some_iff.mp e).1
      simpa using this
    rw [List.getElem?_map, List.getElem?_range hj] at e
    have e' : (f j, (prs.getD j (.inl 0, .none)).2) = (k, v) := Option.some.inj e
    have eg : prs.getD j (.inl 0, .none) = prs[j] := by simp [List.getD, hj]
    rw [eg] at e'
    injection e' with e1 e2
    subst e1 e2
    have z := Classical.choose_spec (hk j) hj
    have hj' : j < ps.length := by omega
    refine ⟨by simp [List.getD, hj'], z.1, prs[j].1, by simp [hj], z.2⟩
  obtain ⟨qs, lq, hqs⟩ := hkeys
  have items : PairItems s.heap (ps.map Value.ref).toArray (fun j => ps.getD j 0) qs := ⟨by simp; omega, fun j k v e => ⟨(hqs j k v e).1, (hqs j k v e).2.1⟩⟩
  have have_ : PairsHave (mixKind X.prog X.w) qs.length (PairRel qs) prs := ⟨lq.symm, fun i key v e => let ⟨q, e1, e2⟩ := (hqs i key v e).2.2; ⟨q, e1, e2⟩⟩
  have big : (s.heap.objs.size == sysModules) = false := beq_eq_false_iff_ne.mpr (Nat.ne_of_gt I.big)
  have lm : (mergeK [] kvs).length ≤ sizeLine := by
    refine Nat.le_trans (length_mergeK kvs []) ?_
    rw [List.length_nil, Nat.zero_add, rel.length, hl]
    exact hz
  have fin : ∀ (h' : Heap) (tk : Nat), h'.DictOf (mixKind X.prog X.w) s.heap.objs.size (merged [] prs) → (∀ b o, b ∉ ([] : List Addr) → s.heap.get? b = some o → h'.get? b = some o) → EP X pins σ Q (.ref s.heap.objs.size) { s with heap := h', toks := tk } := fun h' tk hd' kp =>
    ⟨.ref s.heap.objs.size, upd H s.heap.objs.size (.dK (mergeK [] kvs)), I.laid (t' := tk) (fun b o e => kp b o (by simp) e) (Nat.le_refl _) (show ObjOk X.prog X.w _ _ _ (.dK (mergeK [] kvs)) from ⟨lm, big, merged [] prs, KV.merge rel .nil, hd'⟩), rfl, q _ (I.hok.fresh (Nat.le_refl _))⟩
  rcases hT with rfl | rfl
  · exact PySem.call_dict_pairs (knd := mixKind X.prog X.w) (PairArg.list a _ (fun j => ps.getD j 0) qs) (I.ok.hd hcalm) ⟨pl, items⟩ have_ (by omega) fin
  · exact PySem.call_dict_pairs (knd := mixKind X.prog X.w) (PairArg.tuple a _ (fun j => ps.getD j 0) qs) (I.ok.hd hcalm) ⟨pl, items⟩ have_ (by omega) fin
def rDictC : List V → Hp → VK → Prop := fun xs H Q => ∃ a kvs, xs = [.ref a] ∧ Rd H a (.dK kvs) ∧ ∀ p, H p = none → Q (.ref p) (upd H p (.dK kvs))
theorem call_dictC : CallR X (.type "dict") rDictC := by
  intro pins s σ H xs us Q I r q
  obtain ⟨a, kvs, rfl, hq, q⟩ := q
  obtain ⟨u, rfl, rx⟩ := vals1 r
  cases (show u = Value.ref a from rx)
  exact d_copyOf I hq fun p s' hp I' => ⟨.ref p, _, I', rfl, q p hp⟩
def rDictX (K : PySem.W.Frag) : List V → Hp → VK → Prop := fun xs H Q => rDictP K xs H Q ∨ rDictC xs H Q
theorem call_dictX (hcalm : X.calm = true) : CallR X (.type "dict") (rDictX X.K) := (call_dictS hcalm).or call_dictC
end
def mergeD {α : Type} (ks more : List (Key × α)) : List (Key × α) := more.foldl (fun acc p => putD acc p.1 p.2) ks
/-- the pairs (key, value) of a sequence -/
def pairD (p : Key × D) : D := .tup [kD p.1, p.2]
def D.dict : D → Option (List (Key × D))
  | .dic ks => some ks
  | _ => none
section
variable {c : Cn} {δ : List Sl} {ta tb td ty tx : TE} {P : D → Prop}
theorem hasK_merge {K : PySem.W.Frag} {G : Hp} : ∀ {ms : List (Key × D)} {ws : List (Key × V)} {ks : List (Key × D)} {vs : List (Key × V)}, HasK K G ms ws → HasK K G ks vs → HasK K G (mergeD ks ms) (mergeK vs ws)
  | [], _, _, _, h, q => by unfold HasK at h; subst h; exact q
  | (k, d) :: ms, ws, ks, vs, h, q => by
    unfold HasK at h
    obtain ⟨v, r, rfl, h1, h2⟩ := h
    show HasK K G (mergeD (putD ks k d) ms) (mergeK (putK vs k v) r)
    exact hasK_merge h2 (q.put h1)
theorem has_pairs {K : PySem.W.Frag} {G : Hp} : ∀ {ms : List (Key × D)} {vs : List V}, HasL K G (ms.map pairD) vs → ∃ (ps : List Addr) (ws : List (Key × V)), vs = ps.map V.ref ∧ Paired (fun p kv => SqT K G p [kV kv.1, kv.2]) ps ws ∧ HasK K G ms ws
  | [], _, h => by rw [List.map_nil] at h; unfold HasL at h; subst h; exact ⟨[], [], rfl, .nil, hasK_nil⟩
  | (k, d) :: ms, vs, h => by
    rw [List.map_cons] at h
    unfold HasL at h
    obtain ⟨v, r, rfl, h1, h2⟩ := h
    obtain ⟨ps, ws, rfl, h3, h4⟩ := has_pairs h2
    unfold pairD Has at h1
    obtain ⟨a, us, rfl, h5, h6⟩ := h1
    unfold HasL at h6
    obtain ⟨x, xs, rfl, hx, h7⟩ := h6
    unfold HasL at h7
    obtain ⟨y, ys, rfl, hy, h8⟩ := h7
    unfold HasL at h8
    subst h8
    have ex : x = kV k := by
      cases k <;> unfold kD Has at hx <;> exact hx
    subst ex
    exact ⟨a :: ps, (k, y) :: ws, rfl, .cons h5.sq h3, hasK_cons hy h4⟩
theorem tupF_of {G H : Hp} (s : Sub c G H) {a : Addr} {vs : List V} (h : TupAt c.K G a vs) : TupF c.K H a vs := by
  rcases h with h | h
  · exact .inl (s.pl a _ (s.rd h))
  · exact .inr h
theorem dn_dict (h : DE c ta δ fun d => (∃ ms, D.seq d = some (ms.map pairD) ∧ P (.dic (mergeD [] ms))) ∨ ∃ ks, d = .dic ks ∧ P (.dic ks)) : DN c (tCB (rDictX c.K) (tCons ta tNil)) δ P :=
  dn_cb (F := fun as P => ∃ d, as = [.dat d] ∧ ((∃ ms, D.seq d = some (ms.map pairD) ∧ P (.dic (mergeD [] ms))) ∨ ∃ ks, d = .dic ks ∧ P (.dic ks))) (fun as vs G H Q P s ha f k => by
    obtain ⟨d, rfl, f⟩ := f
    obtain ⟨v, r, rfl, hv, hr⟩ := ha
    cases hr
    rcases f with ⟨ms, e, p⟩ | ⟨ks, rfl, p⟩
    · cases d <;> simp only [D.seq] at e <;> try contradiction
      case lst ys =>
        cases e
        unfold Has at hv
        obtain ⟨a, us, rfl, h1, h2⟩ := hv
        obtain ⟨ps, ws, rfl, h3, h4⟩ := has_pairs h2
        refine .inl ⟨a, ps, ws, rfl, .inl (s.ge _ _ h1), Paired.mapP h3 fun p q z => ?_, fun l hl => k _ l G _ p (Step.tmp s hl) hl (s.free hl) ⟨_, upd_same, hasK_merge h4 hasK_nil⟩⟩
        exact z.imp (s.ge _ _) id
      case tup ys =>
        cases e
        unfold Has at hv
        obtain ⟨a, us, rfl, h1, h2⟩ := hv
        obtain ⟨ps, ws, rfl, h3, h4⟩ := has_pairs h2
        refine .inl ⟨a, ps, ws, rfl, .inr (tupF_of s h1), Paired.mapP h3 fun p q z => ?_, fun l hl => k _ l G _ p (Step.tmp s hl) hl (s.free hl) ⟨_, upd_same, hasK_merge h4 hasK_nil⟩⟩
        exact z.imp (s.ge _ _) id
    · unfold Has at hv
      obtain ⟨a, ws, rfl, h1, h2⟩ := hv
      exact .inr ⟨a, ws, rfl, s.ge _ _ h1, fun l hl => k _ l G _ p (Step.tmp s hl) hl (s.free hl) ⟨_, upd_same, h2⟩⟩) (da_cons (h.imp fun d p => da_nil ⟨d, rfl, p⟩))
/-! ### sorted(d) of a dict with text keys -/
/-! ### a + b of two new lists -/
/-! ### a if t else b, new -/
/-! ### an own dict or list is changed -/
variable {R : Out → Prop}
/-- xs.append(e) -/
theorem ds_append {i : Nat} {xs : List D} (hi : δ[i]? = some (.own (.lst xs))) (hl : xs.length ≤ 1000) (h : DE c tx δ fun v => R (.nx (δ.set i (.own (.lst (xs ++ [v])))))) : DS c (tDrop (tBM c.K "list" rAppend (tVar i) (tCons tx tNil))) δ R := fun G0 H0 G H σ Dn b e k => by
  obtain ⟨r, h1, h2, h3, ws, h4, h5⟩ := e.own i _ hi
  refine ⟨.ref r, h1, .inl ⟨rfl, ws, SqL.of h4⟩, h G0 H0 G H σ _ b e fun v vv G2 H2 p2 s12 hv => ?_⟩
  have nt := not_town b.iv h2
  have h6 := s12.keep r _ nt h3 h4
  have g6 := s12.fr r (by rw [h4]; exact fun z => nomatch z) h3
  refine ⟨r, ws, vv, rfl, rfl, h6, by rw [h5.len]; exact small1000 hl, ?_⟩
  have b2 := (b.next s12).mut (o := .lst (ws ++ [vv])) h2 g6
  have e2 := (e.step b.iv s12).mutOwn (o := .lst (ws ++ [vv])) (d' := .lst (xs ++ [v])) hi h1 ⟨_, upd_same, (h5.mono s12.ge).snoc hv⟩
  exact k (.nx _) G2 _ p2 b2.st (s12.lat.trans (Lat.mut fun o u z => by rw [h6] at z; cases z)) σ e2
/-- xs.extend(ys), ys a new list -/
theorem ds_extend {i : Nat} {xs : List D} (hi : δ[i]? = some (.own (.lst xs))) (h : DN c tx δ fun v => ∃ ys, v = .lst ys ∧ xs.length + ys.length ≤ 1000 ∧ R (.nx (δ.set i (.own (.lst (xs ++ ys)))))) : DS c (tDrop (tBM c.K "list" rExtend (tVar i) (tCons tx tNil))) δ R := fun G0 H0 G H σ Dn b e k => by
  obtain ⟨r, h1, h2, h3, ws, h4, h5⟩ := e.own i _ hi
  refine ⟨.ref r, h1, .inl ⟨rfl, ws, SqL.of h4⟩, h G0 H0 G H σ _ b e fun v r2 G2 H2 p2 s12 hr2 gr2 o2 => ?_⟩
  obtain ⟨ys, rfl, hl, p2⟩ := p2
  obtain ⟨us, h7, h8⟩ := o2
  have nt := not_town b.iv h2
  have h6 := s12.keep r _ nt h3 h4
  have g6 := s12.fr r (by rw [h4]; exact fun z => nomatch z) h3
  refine ⟨r, r2, ws, us, rfl, rfl, h6, h7, by rw [h5.len, h8.len]; exact Nat.le_of_lt (small1000 hl), ?_⟩
  have b2 := (b.next s12).mut (o := .lst (ws ++ us)) h2 g6
  have e2 := (e.step b.iv s12).mutOwn (o := .lst (ws ++ us)) (d' := .lst (xs ++ ys)) hi h1 ⟨_, upd_same, (h5.mono s12.ge).app h8⟩
  exact k (.nx _) G2 _ p2 b2.st (s12.lat.trans (Lat.mut fun o u z => by rw [h6] at z; cases z)) σ e2
/-- a, b = x, y -/
theorem ds_par {i j : Nat} (h : DE c ta δ fun x => DE c tb δ fun y => R (.nx ((δ.set i (.dat x)).set j (.dat y)))) : DS c (tPar i j (tCons ta (tCons tb tNil))) δ R := fun G0 H0 G H σ Dn b e k =>
  h G0 H0 G H σ _ b e fun x v G1 H1 px s1 hx => px G0 H0 G1 H1 σ _ (b.next s1) (e.step b.iv s1) fun y u G2 H2 py s2 hy =>
    ⟨v, u, rfl, k (.nx _) G2 H2 py (b.st.trans (s1.trans s2)) (s1.trans s2).lat _ (((e.step b.iv (s1.trans s2)).setDat (hx.mono s2.ge)).setDat hy)⟩
end
end Mp
set_option maxRecDepth 100000
set_option maxHeartbeats 4000000
namespace Mp
open PySem L2
/-! ### a def of the text, by the reading of its body -/
/-- the slots at the entry -/
def slots (N : List Str) (ds : List D) : List Sl := ds.map .dat ++ List.replicate (N.length - ds.length) .un
/-- the body gives d -/
def Gives (d : D) : Out → Prop
  | .rt e => e = d
  | .nx _ => d = .non
  | _ => False
theorem has_start {c : Cn} {G : Hp} : ∀ {ds : List D} {vs : List V}, HasL c.K G ds vs → ∀ (i : Nat) (d : D), (ds.map Sl.dat)[i]? = some (.dat d) → ∃ v, vs[i]? = some v ∧ Has c.K G d v := fun {ds vs} h i d e => by
  rw [List.getElem?_map] at e
  cases q : ds[i]? with
  | none => rw [q] at e; cases e
  | some x => rw [q] at e; cases e; exact h.get q
theorem env_start {c : Cn} {G H : Hp} {N : List Str} {ds : List D} {vs : List V} (h : HasL c.K G ds vs) (hl : ds.length ≤ N.length) : EnvOk c H G H (L2.start N vs) (slots N ds) := by
  have hv := h.len
  have low : ∀ (i : Nat) (x : Sl), (slots N ds)[i]? = some x → (i < ds.length ∧ (ds.map Sl.dat)[i]? = some x) ∨ x = .un := fun i x e => by
    unfold slots at e
    by_cases hi : i < ds.length
    · rw [List.getElem?_append_left (by simpa using hi)] at e; exact .inl ⟨hi, e⟩
    · rw [List.getElem?_append_right (by simpa using hi), List.getElem?_replicate] at e
      split at e
      · cases e; exact .inr rfl
      · cases e
  have isdat : ∀ (i : Nat) (x : Sl), (ds.map Sl.dat)[i]? = some x → ∃ d, x = .dat d := fun i x e => by
    rw [List.getElem?_map] at e
    cases q : ds[i]? with
    | none => rw [q] at e; cases e
    | some y => rw [q] at e; cases e; exact ⟨y, rfl⟩
  refine ⟨by unfold L2.start slots; simp; omega, fun i d e => ?_, fun i d e => ?_, fun i v e => ?_, fun i j d e r _ p => ?_⟩
  · rcases low i _ e with ⟨hi, e⟩ | z
    · obtain ⟨v, e1, hv'⟩ := has_start h i d e
      refine ⟨v, ?_, hv'⟩
      unfold L2.start
      rw [List.getElem?_append_left (by rw [List.length_map, hv]; exact hi), List.getElem?_map, e1]; rfl
    · cases z
  · rcases low i _ e with ⟨hi, e⟩ | z
    · obtain ⟨d', z⟩ := isdat i _ e; cases z
    · cases z
  · rcases low i _ e with ⟨hi, e⟩ | z
    · obtain ⟨d', z⟩ := isdat i _ e; cases z
    · cases z
  · rcases low i _ p with ⟨hi, e⟩ | z
    · obtain ⟨d', z⟩ := isdat i _ e; cases z
    · cases z
/-- a pure body keeps its promise -/
theorem pure_body {K : PySem.W.Frag} {N : List Str} {R : List D → D → Prop} {t : TS} (hl : ∀ ds d, R ds d → ds.length ≤ N.length) (h : ∀ ds d, R ds d → DS ⟨K, none⟩ t (slots N ds) (Gives d)) {vs : List V} {H : Hp} {Q : VK} {E : XK} (q : SpP K R vs H Q E) :
    t { nx := fun _ H' => Q .non H', rt := Q } (L2.start N vs) H := by
  obtain ⟨G, ds, d, s, hv, r, k⟩ := q
  refine h ds d r G H G H (L2.start N vs) _ ⟨s, .refl s⟩ (env_start hv (hl ds d r)) fun o G' H' p st _ => ?_
  cases o with
  | rt e => exact fun v hv => k v G' H' st (by cases (show e = d from p); exact hv)
  | nx δ => exact fun σ _ => k .non G' H' st (by cases (show d = .non from p); unfold Has; rfl)
  | bk δ => exact (show False from p).elim
  | ct δ => exact (show False from p).elim
section
variable {P : Program} {w : World} {K : PySem.W.Frag} {mg : Str → Option Value} {base : Heap}
/-- a def of the text as the head's facts tell it -/
abbrev FnP (K : PySem.W.Frag) (x : Str) (st : Stmt) (f : Addr) (fd : FuncData) : Prop := FunD K x x (defArgs st) (defBody st) (defScope st) [] [] f fd
theorem FnP.pure {x : Str} {st : Stmt} {f : Addr} {fd : FuncData} {N ps : List Str} {k : Nat} {R : List D → D → Prop} {t : TS} (F : FnP K x st f fd) (S : FnScope N ps (defScope st)) (hl : ∀ ds d, R ds d → ds.length = ps.length)
    (h : ∀ ds d, R ds d → DS ⟨K, none⟩ t (slots N ds) (Gives d))
    (hb : ∀ (cdv : Value) (A : Around) (outer : List Env) (s : Shared) (H : Hp) (E : XK), Room k (A.deeper (PyProof.Rows.envOfC x (defScope st) s.heap.objs.size f cdv)) → PSs (cxOf CX0 P w K mg base N x (defScope st) f cdv A outer s H E).nox (defBody st) t) :
    FnOk P w K mg base CX0 (k + 1) f fd ps (SpP K R) := by
  have hN : ps.length ≤ N.length := by have := congrArg List.length S.pre; rw [List.length_take] at this; omega
  refine F.ok S (fun vs H Q E q => ?_) fun cdv A outer s H vs Q E hr q => ⟨t, PSs.nox (hb cdv A outer s H E hr), pure_body (fun ds d r => by rw [hl ds d r]; exact hN) h q⟩
  obtain ⟨G, ds, d, _, hv, r, _⟩ := q
  rw [hv.len, hl ds d r]
end
/-! ### what a caller knows of a def -/
structure Cl (P : Program) (w : World) (K : PySem.W.Frag) (mg : Str → Option Value) (base : Heap) (x : Str) (k : Nat) (sp : Sp) : Prop where
  ex : ∃ (f : Addr) (fd : FuncData) (ps : List Str), FnOk P w K mg base CX0 k f fd ps sp ∧ Binds K fd ps [] ∧ PySem.W.keepIn K (.ref f) = true ∧ mg x = some (.ref f)
section
variable {P : Program} {w : World} {K : PySem.W.Frag} {mg : Str → Option Value} {base : Heap}
theorem Cl.mono {x : Str} {j k : Nat} {sp : Sp} (C : Cl P w K mg base x j sp) (h : j ≤ k) : Cl P w K mg base x k sp :=
  let ⟨f, fd, ps, F, r⟩ := C.ex
  ⟨f, fd, ps, F.mono h, r⟩
theorem Cl.imp {x : Str} {k : Nat} {sp sp' : Sp} (C : Cl P w K mg base x k sp) (h : ∀ vs H Q E, sp' vs H Q E → sp vs H Q E) : Cl P w K mg base x k sp' :=
  let ⟨f, fd, ps, F, r⟩ := C.ex
  ⟨f, fd, ps, F.imp h, r⟩
/-- nothing can be asked -/
theorem Cl.none {x : Str} {k : Nat} {sp sp' : Sp} {k' : Nat} (F : ∃ (f : Addr) (fd : FuncData) (ps : List Str), Binds K fd ps [] ∧ PySem.W.keepIn K (.ref f) = true ∧ mg x = some (.ref f)) (no : ∀ vs H Q E, ¬ sp vs H Q E) : Cl P w K mg base x k sp :=
  let ⟨f, fd, ps, r⟩ := F
  ⟨f, fd, ps, ⟨fun vs H Q E h => absurd h (no vs H Q E), fun A outer s H args us vs Q E _ _ _ _ h => absurd h (no vs H Q E)⟩, r⟩
end
section
variable {X : Cx} {k : Nat} {sp : Sp} {x : Str} {p pos : Pos} {e : Expr} {es : List Expr} {t : TA}
theorem pe_cl (C : Cl X.prog X.w X.K X.mg X.base x k sp) (hr : Room k X.A) (hg : Gl X x) (ha : PA X (e :: es) t) (hdb : (x == ("__debug__" : Str)) = false := by decide)
    (he : starEach (e :: es) X.env = (false, eval e X.env) :: starEach es X.env := by rfl) (hpl : (backTo pos (starEach es X.env)).any (·.1) = false := by rfl) : PE X (.Call (.Name x p) (e :: es) [] pos) (tCall sp [] E0 t) := by
  obtain ⟨f, fd, ps, F, b, kp, m⟩ := C.ex
  exact pe_call F hr hg m kp b .nil pass0 ha hdb he hpl
theorem pe_cl0 (C : Cl X.prog X.w X.K X.mg X.base x k sp) (hr : Room k X.A) (hg : Gl X x) (hdb : (x == ("__debug__" : Str)) = false := by decide) : PE X (.Call (.Name x p) [] [] pos) (tCall sp [] E0 tNil) := by
  obtain ⟨f, fd, ps, F, b, kp, m⟩ := C.ex
  exact pe_call0 F hr hg m kp b .nil pass0 hdb
theorem pe_gint {i : Int} (hg : Gl X x) (h : ∃ tk, X.mg x = some (.int i tk)) (hd : (x == ("__debug__" : Str)) = false := by decide) : PE X (.Name x pos) (tC (.int i)) :=
  let ⟨tk, h⟩ := h
  pe_glob hg h ⟨tk, rfl⟩ hd
theorem pe_gstr {i : Str} (hg : Gl X x) (h : ∃ tk, X.mg x = some (.str i tk)) (hd : (x == ("__debug__" : Str)) = false := by decide) : PE X (.Name x pos) (tC (.str i)) :=
  let ⟨tk, h⟩ := h
  pe_glob hg h ⟨tk, rfl⟩ hd
theorem pe_gref {a : Addr} (hg : Gl X x) (h : X.mg x = some (.ref a)) (hd : (x == ("__debug__" : Str)) = false := by decide) : PE X (.Name x pos) (tC (.ref a)) := pe_glob hg h rfl hd
theorem pe_gty {T : String} (hg : Gl X x) (hm : X.mg x = none) (hv : bootBuiltins x = some (.type T)) (hn : x ≠ "__name__" := by decide) (hd : (x == ("__debug__" : Str)) = false := by decide) : PE X (.Name x pos) (tC (.ty T)) := pe_bltn hg hm hv rfl hn hd
end
end Mp
set_option maxRecDepth 100000
set_option maxHeartbeats 4000000
namespace Mp
open PySem L2 PyProof.Rows
/-! ### enumerate(xs): the pairs known to their objects -/
/-! ### sorted(xs), pairs of ints -/
end Mp
set_option maxRecDepth 100000
set_option maxHeartbeats 4000000
namespace Mp
open PySem L2 PyProof.Rows
/-! ### xs[i] += v, the reading -/
def rGetL (K : PySem.W.Frag) : V → V → Hp → VK → Prop := fun o i H Q => ∃ p zs k z, o = .ref p ∧ i = .int k ∧ 0 ≤ k ∧ SqL K H p zs ∧ atI zs k = some z ∧ Q z H
theorem get_list {X : Cx} : PGet X (rGetL X.K) := by
  intro pins s σ H o i ov iv Q I ro ri h
  obtain ⟨p, zs, k, z, rfl, rfl, h0, hsq, he, q⟩ := h
  cases ro
  obtain ⟨t, rfl⟩ := ri
  obtain ⟨its, r, pl, hz⟩ := I.list hsq
  obtain ⟨j, h1, h2, h3, h4, h5⟩ := atI_get he
  obtain ⟨u, eu, ru⟩ := r.get h2
  have hj : k.toNat = j := by
    rw [seqIndex_of h0 h5] at h1
    exact Option.some.inj h1
  have hn := line63
  exact wpAny_getItem_list pl.isList h0 (by omega) (by rw [hj]; simpa using eu) ⟨z, H, I, ru, q⟩
/-! ### * of ints of any size that the machine takes -/
def MulOk (i j : Int) : Prop := CMul i j ∨ CMulW i j
theorem op_mulX {X : Cx} : OpR X (binaryOp .Mult) (rI (fun i j => MulOk i j) fun i j => .int (i * j)) := opI fun _ _ _ _ _ _ _ hc q => mul_int q (hc.elim CMul.ok CMulW.ok)
section
variable {c : Cn} {δ : List Sl} {ta tb : TE} {P : D → Prop}
/-! ### is True, is not True -/
theorem de_isB (h : DE c ta δ fun x => DE c tb δ fun y => ∃ a b, x = .bl a ∧ y = .bl b ∧ P (.bl (decide (a = b)))) : DE c (tOp rIsB ta tb) δ P :=
  de_op (F := fun x y P => ∃ a b, x = .bl a ∧ y = .bl b ∧ P (.bl (decide (a = b)))) (fun x y v u G H Q P s hx hy q k => by
    obtain ⟨a, b, rfl, rfl, p⟩ := q
    unfold Has at hx hy
    exact ⟨a, b, hx, hy, k _ _ G H p (.refl s) (by unfold Has; rfl)⟩) h
theorem de_notB (h : DE c ta δ fun x => DE c tb δ fun y => ∃ a b, x = .bl a ∧ y = .bl b ∧ P (.bl (!decide (a = b)))) : DE c (tOp rNotB ta tb) δ P :=
  de_op (F := fun x y P => ∃ a b, x = .bl a ∧ y = .bl b ∧ P (.bl (!decide (a = b)))) (fun x y v u G H Q P s hx hy q k => by
    obtain ⟨a, b, rfl, rfl, p⟩ := q
    unfold Has at hx hy
    exact ⟨a, b, hx, hy, k _ _ G H p (.refl s) (by unfold Has; rfl)⟩) h
/-! ### xs[:n] -/
theorem HasL.drop {K : PySem.W.Frag} {G : Hp} : ∀ {xs : List D} {vs : List V} (n : Nat), HasL K G xs vs → HasL K G (xs.drop n) (vs.drop n)
  | xs, vs, 0, h => h
  | [], vs, n + 1, h => by unfold HasL at h; subst h; unfold List.drop HasL; rfl
  | x :: xs, vs, n + 1, h => by
    unfold HasL at h
    obtain ⟨v, r, rfl, _, hr⟩ := h
    exact HasL.drop n hr
theorem HasL.take {K : PySem.W.Frag} {G : Hp} : ∀ {xs : List D} {vs : List V} (n : Nat), HasL K G xs vs → HasL K G (xs.take n) (vs.take n)
  | xs, vs, 0, h => by unfold List.take HasL; rfl
  | [], vs, n + 1, h => by unfold HasL at h; subst h; unfold List.take HasL; rfl
  | x :: xs, vs, n + 1, h => by
    unfold HasL at h
    obtain ⟨v, r, rfl, hv, hr⟩ := h
    rw [List.take_succ_cons, List.take_succ_cons]
    unfold HasL
    exact ⟨v, _, rfl, hv, HasL.take n hr⟩
/-! ### {k: v, ..} -/
def DPs (c : Cn) (trs : List (TE × TE)) (δ : List Sl) (P : List (Key × D) → Prop) : Prop :=
  ∀ (G0 H0 G H : Hp) (σ : L2.St) (Q : List (V × V) → Hp → Prop), Bs c G0 H0 G H → EnvOk c H0 G H σ δ → (∀ ks ws G' H', P ks → Step c G H G' H' → HasK c.K G' ks ws → Q (ws.map fun kv => (kV kv.1, kv.2)) H') → tPairs trs σ H Q
theorem dps_nil {P : List (Key × D) → Prop} (p : P []) : DPs c [] δ P := fun G0 H0 G H σ Q b e k => k [] [] G H p (.refl b.sub) (by unfold HasK; rfl)
theorem dps_cons {trs : List (TE × TE)} {P : List (Key × D) → Prop} (h : DE c ta δ fun x => DE c tb δ fun y => ∃ k : Key, x = kD k ∧ DPs c trs δ fun ks => P ((k, y) :: ks)) : DPs c ((ta, tb) :: trs) δ P := fun G0 H0 G H σ Q b e k =>
  h G0 H0 G H σ _ b e fun x v G1 H1 px s1 hx => px G0 H0 G1 H1 σ _ (b.next s1) (e.step b.iv s1) fun y u G2 H2 py s2 hy => by
    obtain ⟨kk, rfl, p⟩ := py
    have s12 := s1.trans s2
    refine p G0 H0 G2 H2 σ _ (b.next s12) (e.step b.iv s12) fun ks ws G3 H3 p s3 hk => ?_
    have ev : v = kV kk := by cases kk <;> unfold kD Has at hx <;> exact hx
    subst ev
    exact k ((kk, y) :: ks) ((kk, u) :: ws) G3 H3 p (s12.trans s3) (by unfold HasK; exact ⟨_, _, rfl, hy.mono s3.ge, hk⟩)
theorem dn_disp {trs : List (TE × TE)} (h : DPs c trs δ fun ks => ks.length ≤ 15 ∧ P (.dic (mergeD [] ks))) : DN c (tDisp trs) δ P := fun G0 H0 G H σ Q b e k => fun q hq => by
  have st := Step.tmp (o := .dK []) b.sub hq
  refine h G0 H0 G _ σ _ (b.next st) (e.step b.iv st) fun ks ws G1 H1 p s1 hk => ?_
  have nt : ¬ c.T q := not_town b.sub.iv hq
  have hg := b.sub.free hq
  have h1 := s1.keep q _ nt hg upd_same
  have g1 := s1.fr q (by rw [upd_same]; exact fun z => nomatch z) hg
  refine ⟨h1, ws, rfl, by rw [hk.len]; exact p.1, ?_⟩
  refine k _ q G1 _ p.2 ((st.trans s1).grow hq g1 b.sub) hq g1 ⟨_, upd_same, hasK_merge hk (by unfold HasK; rfl)⟩
end
end Mp
set_option maxRecDepth 100000
set_option maxHeartbeats 4000000
namespace Mp
open PySem L2 PyProof.Rows
/-! ### script == [] -/
def rEqS (K : PySem.W.Frag) : R2 := fun x y H Q => ∃ a b ns, x = .ref a ∧ y = .ref b ∧ SqL K H a (List.map V.int ns) ∧ SqL K H b [] ∧ Q (.bl ns.isEmpty) H
theorem repL_ints {P : Program} {w : World} {h : Heap} : ∀ {ns : List Int} {us : List Value}, Vals (ns.map V.int) us → RepL P w h (ns.map D.int) us
  | [], us, r => by cases r; unfold List.map RepL; rfl
  | n :: ns, us, r => by
    rw [List.map_cons] at r
    cases r with
    | cons r1 r2 => rw [List.map_cons]; unfold RepL; exact ⟨_, _, rfl, by unfold Rep; exact r1, repL_ints r2⟩
theorem deep_ints : ∀ ns : List Int, D.deepL (ns.map D.int) = 0
  | [] => by rw [List.map_nil, D.deepL]
  | n :: ns => by rw [List.map_cons, D.deepL, deep_ints ns]; rfl
theorem op_eqS {X : Cx} (hu : X.A.units + 64 < cLine) : OpR X (compareOp .Eq) (rEqS X.K) := by
  intro pins s σ H x y v u Q I rx ry h
  obtain ⟨a, b, ns, rfl, rfl, ha, hb, q⟩ := h
  obtain ⟨its, r1, p1, _⟩ := I.list ha
  obtain ⟨its2, r2, p2, _⟩ := I.list hb
  have h1 : Rep X.prog X.w s.heap (.lst (ns.map D.int)) v := by unfold Rep; exact ⟨a, its, rx, p1.isList, repL_ints r1⟩
  have h2 : Rep X.prog X.w s.heap (.lst []) u := by unfold Rep; exact ⟨b, its2, ry, p2.isList, by cases r2; unfold RepL; rfl⟩
  have hd : D.deep (.lst (ns.map D.int)) ≤ 1 := by
    rw [D.deep]
    have := deep_ints ns
    omega
  have e : D.eqv (.lst (ns.map D.int)) (.lst []) = ns.isEmpty := by
    rw [D.eqv]
    cases ns <;> simp [D.eqvL]
  refine rcEq _ _ v u X.A (by unfold DepthOk; omega) h1 h2 _ _ ⟨.bl _, H, I, rfl, ?_⟩
  rw [e]; exact q
end Mp
set_option maxRecDepth 100000
set_option maxHeartbeats 4000000
namespace Mp
open PySem L2
/-! ### a def that draws from the town -/
def slotsT (N : List Str) (a t : Addr) (ds : List D) : List Sl := .raw (.ref a) :: .raw (.ref t) :: (ds.map .dat ++ List.replicate (N.length - 2 - ds.length) .un)
def GivesS (S : D → Prop) : Out → Prop
  | .rt e => S e
  | .nx _ => S .non
  | _ => False
theorem env_startT {c : Cn} {G H : Hp} {N : List Str} {ds : List D} {us : List V} {a t : Addr} (h : HasL c.K G ds us) (hl : ds.length + 2 ≤ N.length) : EnvOk c H G H (L2.start N (.ref a :: .ref t :: us)) (slotsT N a t ds) := by
  have hv := h.len
  have low : ∀ (i : Nat) (x : Sl), (slotsT N a t ds)[i]? = some x → (i = 0 ∧ x = .raw (.ref a)) ∨ (i = 1 ∧ x = .raw (.ref t)) ∨ (∃ j d, i = j + 2 ∧ x = .dat d ∧ ds[j]? = some d) ∨ x = .un := fun i x e => by
    unfold slotsT at e
    match i, e with
    | 0, e => exact .inl ⟨rfl, by cases e; rfl⟩
    | 1, e => exact .inr (.inl ⟨rfl, by cases e; rfl⟩)
    | j + 2, e =>
      rw [List.getElem?_cons_succ, List.getElem?_cons_succ] at e
      by_cases hj : j < ds.length
      · rw [List.getElem?_append_left (by simpa using hj), List.getElem?_map] at e
        cases q : ds[j]? with
        | none => rw [q] at e; cases e
        | some d => rw [q] at e; cases e; exact .inr (.inr (.inl ⟨j, d, rfl, rfl, q⟩))
      · rw [List.getElem?_append_right (by simpa using hj), List.getElem?_replicate] at e
        split at e
        · cases e; exact .inr (.inr (.inr rfl))
        · cases e
  have sig : ∀ (j : Nat) (d : D), ds[j]? = some d → ∃ v, (L2.start N (.ref a :: .ref t :: us))[j + 2]? = some (some v) ∧ Has c.K G d v := fun j d e => by
    obtain ⟨v, e1, hv1⟩ := h.get e
    refine ⟨v, ?_, hv1⟩
    have hj : j < us.length := by rw [hv]; exact (List.getElem?_eq_some_iff.mp e).1
    unfold L2.start
    rw [List.getElem?_append_left (by simp; omega), List.map_cons, List.map_cons, List.getElem?_cons_succ, List.getElem?_cons_succ, List.getElem?_map, e1]; rfl
  refine ⟨by unfold L2.start slotsT; simp; omega, fun i d e => ?_, fun i d e => ?_, fun i v e => ?_, fun i j d e r _ p => ?_⟩
  · rcases low i _ e with ⟨_, z⟩ | ⟨_, z⟩ | ⟨j, d', rfl, z, q⟩ | z
    · cases z
    · cases z
    · cases z; exact sig j d q
    · cases z
  · rcases low i _ e with ⟨_, z⟩ | ⟨_, z⟩ | ⟨j, d', rfl, z, q⟩ | z <;> cases z
  · rcases low i _ e with ⟨rfl, z⟩ | ⟨rfl, z⟩ | ⟨j, d', rfl, z, q⟩ | z
    · cases z; rfl
    · cases z; rfl
    · cases z
    · cases z
  · rcases low i _ p with ⟨_, z⟩ | ⟨_, z⟩ | ⟨j, d', rfl, z, q⟩ | z <;> cases z
theorem town_body {K : PySem.W.Frag} {N : List Str} {R : List Int → List D → (D → Prop) → Prop} {ts : TS} (hl : ∀ ns ds S, R ns ds S → ds.length + 2 ≤ N.length) (h : ∀ t a ns ds S, R ns ds S → DS ⟨K, some (t, a, ns)⟩ ts (slotsT N a t ds) (GivesS S)) {vs : List V} {H : Hp} {Q : VK} {E : XK} (q : SpT K R vs H Q E) :
    ts { nx := fun _ H' => Q .non H', rt := Q } (L2.start N vs) H := by
  obtain ⟨t, a, ns, G, ds, us, S, s, rfl, hv, r, k⟩ := q
  refine h t a ns ds S r G H G H _ _ ⟨s, .refl s⟩ (env_startT hv (hl ns ds S r)) fun o G' H' p st _ => ?_
  cases o with
  | rt e => exact fun v hv => k e v G' H' p st hv
  | nx δ => exact fun σ _ => k .non .non G' H' p st (by unfold Has; rfl)
  | bk δ => exact (show False from p).elim
  | ct δ => exact (show False from p).elim
section
variable {P : Program} {w : World} {K : PySem.W.Frag} {mg : Str → Option Value} {base : Heap}
/-- from the body to the promise, for a def with the town -/
theorem FnP.townB {x : Str} {st : Stmt} {f : Addr} {fd : FuncData} {N ps : List Str} {k : Nat} {R : List Int → List D → (D → Prop) → Prop} {t : TS} (F : FnP K x st f fd) (S : FnScope N ps (defScope st)) (hl : ∀ ns ds S, R ns ds S → ds.length + 2 = ps.length)
    (h : ∀ vs H Q E, SpT K R vs H Q E → t { nx := fun _ H' => Q .non H', rt := Q } (L2.start N vs) H)
    (hb : ∀ (cdv : Value) (A : Around) (outer : List Env) (s : Shared) (H : Hp) (E : XK), Room k (A.deeper (PyProof.Rows.envOfC x (defScope st) s.heap.objs.size f cdv)) → PSs (cxOf CX0 P w K mg base N x (defScope st) f cdv A outer s H E).nox (defBody st) t) :
    FnOk P w K mg base CX0 (k + 1) f fd ps (SpT K R) := by
  refine F.ok S (fun vs H Q E q => ?_) fun cdv A outer s H vs Q E hr q => ⟨t, PSs.nox (hb cdv A outer s H E hr), h vs H Q E q⟩
  obtain ⟨t, a, ns, G, ds, us, S, s, rfl, hv, r, k⟩ := q
  rw [List.length_cons, List.length_cons, hv.len, hl ns ds S r]
theorem FnP.town {x : Str} {st : Stmt} {f : Addr} {fd : FuncData} {N ps : List Str} {k : Nat} {R : List Int → List D → (D → Prop) → Prop} {t : TS} (F : FnP K x st f fd) (S : FnScope N ps (defScope st)) (hl : ∀ ns ds S, R ns ds S → ds.length + 2 = ps.length)
    (h : ∀ tw a ns ds S, R ns ds S → DS ⟨K, some (tw, a, ns)⟩ t (slotsT N a tw ds) (GivesS S))
    (hb : ∀ (cdv : Value) (A : Around) (outer : List Env) (s : Shared) (H : Hp) (E : XK), Room k (A.deeper (PyProof.Rows.envOfC x (defScope st) s.heap.objs.size f cdv)) → PSs (cxOf CX0 P w K mg base N x (defScope st) f cdv A outer s H E).nox (defBody st) t) :
    FnOk P w K mg base CX0 (k + 1) f fd ps (SpT K R) := by
  have hN : ps.length ≤ N.length := by have := congrArg List.length S.pre; rw [List.length_take] at this; omega
  exact F.townB S hl (fun vs H Q E q => town_body (fun ns ds S r => by rw [hl ns ds S r]; exact hN) h q) hb
end
section
variable {c : Cn} {δ : List Sl} {P : D → Prop}
theorem DA.imp {ta : TA} {P P' : List Av → Prop} (h : DA c ta δ P) (i : ∀ as, P as → P' as) : DA c ta δ P' := fun G0 H0 G H σ Q b e k => h G0 H0 G H σ Q b e fun as vs G' H' p => k as vs G' H' (i as p)
/-- f(script, town, ..), the script and the town in the first two slots -/
theorem de_ct {R : List Int → List D → (D → Prop) → Prop} {t a : Addr} {ns : List Int} {K : PySem.W.Frag} {δ : List Sl} {rest : TA} (h0 : δ[0]? = some (.raw (.ref a))) (h1 : δ[1]? = some (.raw (.ref t))) (h : DA ⟨K, some (t, a, ns)⟩ rest δ fun as => ∃ ds S, as = ds.map .dat ∧ R ns ds S ∧ ∀ d, S d → P d) :
    DE ⟨K, some (t, a, ns)⟩ (tCall (SpT K R) [] E0 (tCons (tVar 0) (tCons (tVar 1) rest))) δ P :=
  de_callT (c := ⟨K, some (t, a, ns)⟩) rfl (da_rawv h0 (da_rawv h1 (h.imp fun as ⟨ds, S, e, r, p⟩ => ⟨ds, S, by rw [e], r, p⟩)))
/-! ### comprehensions with some answer a turn -/
def All2 (S : D → D → Prop) : List D → List D → Prop
  | [], ys => ys = []
  | x :: xs, ys => ∃ y r, ys = y :: r ∧ S x y ∧ All2 S xs r
theorem All2.snoc {S : D → D → Prop} : ∀ {xs ys : List D} {x y : D}, All2 S xs ys → S x y → All2 S (xs ++ [x]) (ys ++ [y])
  | [], ys, x, y, h, s => by unfold All2 at h; subst h; exact ⟨y, [], rfl, s, rfl⟩
  | x' :: xs, ys, x, y, h, s => by
    obtain ⟨y', r, rfl, h1, h2⟩ := h
    exact ⟨y', r ++ [y], rfl, h1, All2.snoc h2 s⟩
theorem All2.len {S : D → D → Prop} : ∀ {xs ys : List D}, All2 S xs ys → ys.length = xs.length
  | [], ys, h => by unfold All2 at h; subst h; rfl
  | x :: xs, ys, h => by obtain ⟨y, r, rfl, _, h⟩ := h; simp [h.len]
theorem All2.mem {S : D → D → Prop} : ∀ {xs ys : List D}, All2 S xs ys → ∀ y ∈ ys, ∃ x ∈ xs, S x y
  | [], ys, h, y, hy => by unfold All2 at h; subst h; cases hy
  | x :: xs, ys, h, y, hy => by
    obtain ⟨y', r, rfl, s, h⟩ := h
    rcases List.mem_cons.mp hy with e | hy
    · subst e; exact ⟨x, List.mem_cons_self, s⟩
    · obtain ⟨x', hx, s'⟩ := h.mem y hy; exact ⟨x', List.mem_cons_of_mem _ hx, s'⟩
theorem dn_lcS {wi : TI} {g : TG} {te : TE} {vs js : List Nat} (S : D → D → Prop) (hjs : ∀ j, j ∈ js → j ∈ vs) (h : DI c wi δ fun xs => xs.length ≤ sizeLine ∧ (∀ (i : Nat) (d : D), xs[i]? = some d → DG c g js (wipeD δ vs) d fun δ2 => DE c te δ2 fun y => S d y) ∧ ∀ ys, All2 S xs ys → P (.lst ys)) : DN c (tLc wi g tYes te vs) δ P :=
  dn_lc hjs (h.imp fun xs ⟨hl, ht, p⟩ => ⟨hl, fun i acc => All2 S (xs.take i) acc, rfl, fun i d acc hd w => fun G0 H0 G H σ v Q b e hv k =>
    ht i d hd G0 H0 G H σ v Q b e hv fun δ' σ' p' => k δ' σ' (fun G0 H0 G H σ Q b e k => k true G H (by
      show if true = true then _ else _
      rw [if_pos rfl]
      refine p'.imp fun y sy => ?_
      show All2 S (xs.take (i + 1)) (acc ++ [y])
      rw [List.take_succ, hd]
      exact All2.snoc w sy) (.refl b.sub)), fun acc w => by
      have w' : All2 S (xs.take xs.length) acc := w
      rw [List.take_length] at w'; exact p acc w'⟩)
/-- the pairs (key, value) of a comprehension -/
def SPair (S : D → Prop) (x y : D) : Prop := ∃ (k : Str) (d : D), x = .str k ∧ y = .tup [.str k, d] ∧ S d
theorem pairs_ms {S : D → Prop} : ∀ {ks : List Str} {ys : List D}, All2 (SPair S) (ks.map .str) ys → ∃ ms : List (Str × D), ys = (ms.map fun p => ((.inr p.1 : Key), p.2)).map pairD ∧ ms.map (·.1) = ks ∧ ∀ p ∈ ms, S p.2
  | [], ys, h => by unfold List.map All2 at h; subst h; exact ⟨[], rfl, rfl, fun p hp => by cases hp⟩
  | k :: ks, ys, h => by
    rw [List.map_cons] at h
    obtain ⟨y, r, rfl, ⟨k', d, e1, rfl, hs⟩, h⟩ := h
    cases e1
    obtain ⟨ms, rfl, h2, h3⟩ := pairs_ms h
    refine ⟨(k, d) :: ms, rfl, by rw [List.map_cons, h2], fun p hp => ?_⟩
    rcases List.mem_cons.mp hp with e | hp
    · subst e; exact hs
    · exact h3 p hp
end
end Mp
set_option maxRecDepth 100000
set_option maxHeartbeats 4000000
namespace Mp
open PySem L2
/-! ### the law: it makes its town, then it answers True -/
def spLaw (K : PySem.W.Frag) : Sp := fun vs H Q _ => ∃ (a : Addr) (ns : List Int), vs = [.ref a] ∧ SqL K H a (ns.map V.int) ∧ ∀ H', Q (.bl true) H'
theorem law_body {K : PySem.W.Frag} {N : List Str} {rest : TS} (hN : 2 ≤ N.length) (h : ∀ t a ns, DS ⟨K, some (t, a, ns)⟩ rest (slotsT N a t []) (GivesS fun d => d = .bl true)) {vs : List V} {H : Hp} {Q : VK} {E : XK} (q : spLaw K vs H Q E) :
    tSeq (tAsg (tLst (tCons (tC (.int 0)) (tCons (tC (.int 0)) tNil))) (gName 1)) rest { nx := fun _ H' => Q .non H', rt := Q } (L2.start N vs) H := by
  obtain ⟨a, ns, rfl, hs, k⟩ := q
  refine ⟨by decide, fun p hp => ?_⟩
  have sub : Sub ⟨K, some (p, a, ns)⟩ (fun _ => none) (upd H p (.lst [.int 0, .int 0])) := by
    refine ⟨(fun x u e => by cases e), fun t q e => ?_, fun x t => rfl, fun t s ms e => ?_⟩
    · cases e; exact ⟨0, 0, Int.le_refl _, upd_same⟩
    · cases e
      rcases hs with r | z
      · have ne : a ≠ p := by
          rintro rfl
          rcases r with r | ⟨o, r⟩ <;> rw [hp] at r <;> cases r
        refine ⟨.inr ⟨?_, rfl⟩, .inr ne⟩
        rcases r with r | ⟨o, r⟩
        · exact .inl (by rw [upd_ne ne]; exact r)
        · exact .inr ⟨o, by rw [upd_ne ne]; exact r⟩
      · exact ⟨.inl fun H => .inr z, .inl fun H => .inr z⟩
  have es : (L2.start N [V.ref a]).set 1 (some (.ref p)) = L2.start N [.ref a, .ref p] := by
    obtain ⟨x, y, N, rfl⟩ : ∃ x y M, N = x :: y :: M := by
      match N, hN with
      | x :: y :: M, _ => exact ⟨x, y, M, rfl⟩
    rfl
  show rest _ ((L2.start N [V.ref a]).set 1 (some (.ref p))) _
  rw [es]
  refine h p a ns (fun _ => none) _ (fun _ => none) _ _ _ ⟨sub, .refl sub⟩ (env_startT (ds := []) (us := []) (by unfold HasL; rfl) (by simpa using hN)) fun o G' H' p st _ => ?_
  cases o with
  | rt e => exact fun v hv => by cases (show e = .bl true from p); unfold Has at hv; subst hv; exact k H'
  | nx δ => exact (by cases (show D.non = .bl true from p))
  | bk δ => exact (show False from p).elim
  | ct δ => exact (show False from p).elim
section
variable {P : Program} {w : World} {K : PySem.W.Frag} {mg : Str → Option Value} {base : Heap}
theorem FnP.law {x : Str} {st : Stmt} {f : Addr} {fd : FuncData} {N : List Str} {k : Nat} {rest : TS} (F : FnP K x st f fd) (S : FnScope N ["script"] (defScope st)) (hN : 2 ≤ N.length)
    (h : ∀ t a ns, DS ⟨K, some (t, a, ns)⟩ rest (slotsT N a t []) (GivesS fun d => d = .bl true))
    (hb : ∀ (cdv : Value) (A : Around) (outer : List Env) (s : Shared) (H : Hp) (E : XK), Room k (A.deeper (PyProof.Rows.envOfC x (defScope st) s.heap.objs.size f cdv)) → PSs (cxOf CX0 P w K mg base N x (defScope st) f cdv A outer s H E).nox (defBody st) (tSeq (tAsg (tLst (tCons (tC (.int 0)) (tCons (tC (.int 0)) tNil))) (gName 1)) rest)) :
    FnOk P w K mg base CX0 (k + 1) f fd ["script"] (spLaw K) := by
  refine F.ok S (fun vs H Q E q => ?_) fun cdv A outer s H vs Q E hr q => ⟨_, PSs.nox (hb cdv A outer s H E hr), law_body hN h q⟩
  obtain ⟨a, ns, rfl, _⟩ := q
  rfl
end
end Mp
set_option maxRecDepth 100000
set_option maxHeartbeats 4000000
namespace Mp
open PySem L2
/-! ### data of the top: tuples in the written part -/
def vOf : Value → V
  | .bool b => .bl b
  | .int i _ => .int i
  | .str x _ => .str x
  | .ref a => .ref a
  | _ => .non
mutual
def kHas (K : PySem.W.Frag) : D → Value → Bool
  | .non, u => (match u with | .none => true | _ => false)
  | .bl b, u => (match u with | .bool c => decide (b = c) | _ => false)
  | .int i, u => (match u with | .int j _ => decide (i = j) | _ => false)
  | .str x, u => (match u with | .str y _ => decide (x = y) | _ => false)
  | .tup xs, u => (match u with
    | .ref a => (match K.lookup a with
      | some ⟨.type c, none, .seq its _, _⟩ => decide (c = "tuple") && (decide (its.size ≤ sizeLine) && kHasL K xs its.toList)
      | _ => false)
    | _ => false)
  | .lst _, _ => false
  | .dic _, _ => false
def kHasL (K : PySem.W.Frag) : List D → List Value → Bool
  | [], us => us.isEmpty
  | d :: ds, us => (match us with
    | [] => false
    | u :: r => kHas K d u && kHasL K ds r)
end
mutual
theorem kHas_ok {K : PySem.W.Frag} {G : Hp} : ∀ (d : D) (u : Value), kHas K d u = true → Has K G d (vOf u) ∧ RelV (vOf u) u
  | .non, u, h => by
    rw [kHas.eq_def] at h
    cases u with
    | none => exact ⟨by unfold Has; rfl, rfl⟩
    | _ => simp at h
  | .bl b, u, h => by
    rw [kHas.eq_def] at h
    cases u with
    | bool c => simp at h; subst h; exact ⟨by unfold Has; rfl, rfl⟩
    | _ => simp at h
  | .int i, u, h => by
    rw [kHas.eq_def] at h
    cases u with
    | int j t => simp at h; subst h; exact ⟨by unfold Has; rfl, ⟨t, rfl⟩⟩
    | _ => simp at h
  | .str i, u, h => by
    rw [kHas.eq_def] at h
    cases u with
    | str j t => simp at h; subst h; exact ⟨by unfold Has; rfl, ⟨t, rfl⟩⟩
    | _ => simp at h
  | .tup xs, u, h => by
    rw [kHas.eq_def] at h
    cases u with
    | ref a =>
      simp only at h
      cases q : K.lookup a with
      | none => rw [q] at h; cases h
      | some o =>
        rw [q] at h
        obtain ⟨oc, od, dt, osl⟩ := o
        cases oc with
        | type c =>
          cases od with
          | none =>
            cases dt with
            | seq its n =>
              have h : (decide (c = "tuple") && (decide (its.size ≤ sizeLine) && kHasL K xs its.toList)) = true := h
              rw [Bool.and_eq_true, Bool.and_eq_true] at h
              obtain ⟨h1, h2, h3⟩ := h
              obtain ⟨vs, hl, hv⟩ := kHasL_ok (G := G) xs its.toList h3
              refine ⟨?_, rfl⟩
              unfold Has
              exact ⟨a, vs, rfl, .inr ⟨_, its, n, q, congrArg Value.type (of_decide_eq_true h1), rfl, rfl, of_decide_eq_true h2, hv⟩, hl⟩
            | _ => cases h
          | some b => cases dt <;> cases h
        | _ => cases od <;> cases dt <;> cases h
    | _ => simp at h
  | .lst _, u, h => by rw [kHas.eq_def] at h; simp at h
  | .dic _, u, h => by rw [kHas.eq_def] at h; simp at h
theorem kHasL_ok {K : PySem.W.Frag} {G : Hp} : ∀ (ds : List D) (us : List Value), kHasL K ds us = true → ∃ vs, HasL K G ds vs ∧ Vals vs us
  | [], us, h => by
    rw [kHasL.eq_def] at h
    cases us with
    | nil => exact ⟨[], by unfold HasL; rfl, .nil⟩
    | cons _ _ => simp at h
  | d :: ds, us, h => by
    rw [kHasL.eq_def] at h
    cases us with
    | nil => simp at h
    | cons u r =>
      have h : (kHas K d u && kHasL K ds r) = true := h
      rw [Bool.and_eq_true] at h
      obtain ⟨a, b⟩ := kHas_ok (G := G) d u h.1
      obtain ⟨vs, hl, hv⟩ := kHasL_ok (G := G) ds r h.2
      exact ⟨vOf u :: vs, by unfold HasL; exact ⟨_, _, rfl, a, hl⟩, .cons b hv⟩
end
/-! ### the hook: facts by names, defs, and data of the top -/
def datB (K : PySem.W.Frag) (ts : List (Str × D)) : Bool := ts.all fun p => kHas K p.2 (.ref (He.ga K p.1))
abbrev AlM : Type := Bool × He.AlD
def obsM (fa : List He.Fa) (fn : List He.DefD) (ts : List (Str × D)) (K : PySem.W.Frag) : AlM := (datB K ts, He.obsD fa fn K)
def SaysM (fa : List He.Fa) (fn : List He.DefD) (ts : List (Str × D)) (K : PySem.W.Frag) : Prop := obsM fa fn ts K = (true, He.valD fn)
theorem SaysM.says {fa : List He.Fa} {fn : List He.DefD} {ts : List (Str × D)} {K : PySem.W.Frag} (c : SaysM fa fn ts K) : He.SaysD fa fn K := congrArg Prod.snd c
theorem SaysM.dat {fa : List He.Fa} {fn : List He.DefD} {ts : List (Str × D)} {K : PySem.W.Frag} (c : SaysM fa fn ts K) {x : Str} {d : D} (h : (x, d) ∈ ts) (G : Hp) : Has K G d (.ref (He.ga K x)) :=
  (kHas_ok (G := G) d _ (List.all_eq_true.mp (show datB K ts = true from congrArg Prod.fst c) _ h)).1
end Mp
set_option maxRecDepth 100000
set_option maxHeartbeats 4000000
namespace Mp
open PySem L2
/-! ### the head's run in parts -/
theorem obsD_app {fa fb : List He.Fa} {fn fm : List He.DefD} {K : PySem.W.Frag} (h1 : He.obsD fa [] K = He.valD []) (h2 : He.obsD fb [] K = He.valD []) (h3 : He.obsD [] fn K = He.valD fn) (h4 : He.obsD [] fm K = He.valD fm) : He.obsD (fa ++ fb) (fn ++ fm) K = He.valD (fn ++ fm) := by
  have a1 : (fa.all fun f => f.ok K) = true := (He.ba (congrArg Prod.fst h1)).1
  have a2 : (fb.all fun f => f.ok K) = true := (He.ba (congrArg Prod.fst h2)).1
  have a3 : (fn.all fun d => d.ok K) = true := congrArg Prod.fst h3
  have a4 : (fm.all fun d => d.ok K) = true := congrArg Prod.fst h4
  have b3 : fn.map (fun d => He.fnW K d.at_) = fn.map He.DefD.val := congrArg Prod.snd h3
  have b4 : fm.map (fun d => He.fnW K d.at_) = fm.map He.DefD.val := congrArg Prod.snd h4
  unfold He.obsD He.valD
  rw [List.all_append, List.all_append, List.map_append, List.map_append, a1, a2, a3, a4, b3, b4] <;> rfl
end Mp
set_option maxRecDepth 100000
set_option maxHeartbeats 4000000
namespace Mp
open PySem L2 PyProof.Rows
/-! ### d.update(e) -/
end Mp
set_option maxRecDepth 100000
set_option maxHeartbeats 4000000
namespace Mp
open PySem L2
end Mp
set_option maxRecDepth 100000
set_option maxHeartbeats 4000000
namespace Mp
open PySem L2 PyProof.Rows
end Mp
set_option maxRecDepth 100000
set_option maxHeartbeats 4000000
namespace Mp
open PySem L2 PyProof.Rows
/-! ### the order of tuples of texts -/
def keyI (xs : List Str) : List (Int ⊕ List Nat) := xs.map fun x => Sum.inr x.cps.toList
def ltP (xs ys : List Str) : Bool := lexLt itemOrd (keyI xs) (keyI ys)
theorem ltP_asym {x y : List Str} (h : ltP x y = true) : ltP y x = false := by
  cases e : ltP y x with
  | false => rfl
  | true => have := lex_trans _ _ _ h e; rw [lex_irrefl] at this; cases this
theorem ltP_tr {x y z : List Str} (h1 : ltP y x = false) (h2 : ltP z y = false) : ltP z x = false := by
  cases e : ltP z x with
  | false => rfl
  | true =>
    rcases lex_negTrans _ (keyI y) _ e with h | h
    · exact absurd (h2.symm.trans h) (by simp)
    · exact absurd (h1.symm.trans h) (by simp)
theorem swo_txt (k : Value → List Str) : SrtO.Swo fun v u => ltP (k v) (k u) := ⟨fun _ _ h => ltP_asym h, fun _ _ _ h1 h2 => ltP_tr h1 h2⟩
abbrev shT : Nat → Bool := fun _ => true
theorem items_txt : ∀ {xs : List Str} {us : List Value} (i : Nat), Vals (xs.map V.str) us → tupItems shT i us = some (keyI xs)
  | [], us, i, h => by
    have : us = [] := by
      have := h.length
      exact List.length_eq_zero_iff.mp (by rw [← this]; rfl)
    subst this; rfl
  | x :: xs, us, i, h => by
    rw [List.map_cons] at h
    cases h with
    | cons hu hr =>
    obtain ⟨t, rfl⟩ := hu
    have := items_txt (i + 1) hr
    unfold tupItems
    rw [if_pos rfl, this]
    rfl
def IsTxt (h : Heap) (v : Value) (xs : List Str) : Prop := ∃ a o us n, v = .ref a ∧ h.get? a = some o ∧ o.cls = .type "tuple" ∧ o.data = .seq us n ∧ tupItems shT 0 us.toList = some (keyI xs)
theorem IsTxt.keeps {h h' : Heap} {v : Value} {xs : List Str} (t : IsTxt h v xs) (k : ∀ b o, h.get? b = some o → o.cls = .type "tuple" → h'.get? b = some o) : IsTxt h' v xs := by
  obtain ⟨a, o, us, n, e, ho, hc, r⟩ := t
  exact ⟨a, o, us, n, e, k a o ho hc, hc, r⟩
theorem IsTxt.key {h : Heap} {v : Value} {xs : List Str} (t : IsTxt h v xs) : (tupKind h shT).keyOf v = some (keyI xs) := by
  obtain ⟨a, o, us, n, rfl, ho, hc, hd, r⟩ := t
  show tupKey h shT (.ref a) = _
  simp only [tupKey, ho, hd]
  exact r
theorem IsTxt.tup {h : Heap} {v : Value} {xs : List Str} (t : IsTxt h v xs) (hx : xs ≠ []) : ∃ f, TupOf h shT v f := by
  obtain ⟨a, o, us, n, rfl, ho, hc, hd, r⟩ := t
  cases e : us.toList with
  | nil =>
    rw [e] at r
    unfold tupItems at r
    have := Option.some.inj r
    cases xs with
    | nil => exact (hx rfl).elim
    | cons x xs => cases this
  | cons u l =>
    rw [e] at r
    obtain ⟨x, t, l', rfl, _, _⟩ := tupItems_str rfl r
    refine ⟨.str x t, a, o, us, n, rfl, ho, hc, hd, ?_, fun z => (by cases z), fun _ => ⟨x, t, rfl⟩⟩
    rw [← Array.getElem?_toList, e]
    rfl
theorem tups_of {h : Heap} : ∀ {vs : List Value}, (∀ v ∈ vs, ∃ f, TupOf h shT v f) → ∃ fs, TupsOf h shT vs fs ∧ fs.length = vs.length
  | [], _ => ⟨[], .nil, rfl⟩
  | v :: vs, k => by
    obtain ⟨f, hf⟩ := k v (by simp)
    obtain ⟨fs, h1, h2⟩ := tups_of (vs := vs) fun u hu => k u (by simp [hu])
    exact ⟨f :: fs, .cons hf h1, by simp [h2]⟩
section
variable {prog : Program} {w : World} {A : Around} {E : Value → Shared → Prop} {s : Shared}
theorem txt_sortable {a : Addr} {vs : List Value} {k : Value → List Str} (h0 : 0 < vs.length) (hp : ∀ v ∈ vs, IsTxt s.heap v (k v)) (hne : ∀ v ∈ vs, k v ≠ []) (ha : ∀ o, s.heap.get? a = some o → o.cls ≠ .type "tuple") : SrtO.SortableO prog w A s a vs fun v u => ltP (k v) (k u) := by
  intro h' keep
  have hp' : ∀ v ∈ vs, IsTxt h' v (k v) := fun v hm => (hp v hm).keeps fun b o e c => keep b o (fun z => by subst z; exact ha o e c) e
  obtain ⟨fs, h1, h2⟩ := tups_of fun v hm => (hp' v hm).tup (hne v hm)
  refine ⟨tuples' true, fun Q E hq => tup_kind (s := { s with heap := h' }) (by omega) h1 hq, fun p q hm hm' => ?_⟩
  exact tup_ltAt (s := { s with heap := h' }) true A _ p.1 q.1 _ _ (hp' _ hm).key (hp' _ hm').key ⟨rfl, rfl⟩
theorem sorted_txt {l : Addr} {vs : List Value} {k : Value → List Str} {Q : Value → Shared → Prop} (hl : s.heap.IsList l vs.toArray) (hz : vs.length ≤ sizeLine) (hp : ∀ v ∈ vs, IsTxt s.heap v (k v)) (hne : 2 ≤ vs.length → ∀ v ∈ vs, k v ≠ [])
    (h : ∀ (h' : Heap) (d : Addr) (out : List Value), SrtO.Srtd (fun v u => ltP (k v) (k u)) out → SrtO.Stb (fun v u => ltP (k v) (k u)) out vs → (∀ b o, s.heap.get? b = some o → h'.get? b = some o) → s.heap.objs.size ≤ d → (∃ n, h'.get? d = some (seqObj "list" out.toArray n)) → Q (.ref d) { s with heap := h' }) :
    wpAny (model prog w) A (call (.builtin "sorted") [.ref l]) Q E s := by
  refine SrtO.sorted_ord (swo_txt k) hl hz (fun h2 h₁ a ha kk => ?_) fun out hs hb => ?_
  · refine txt_sortable (s := { s with heap := h₁ }) (by omega) (fun v hm => (hp v hm).keeps fun b o e _ => (kk b o e).2) (hne h2) fun o e => ?_
    have e' : some o = some (seqObj "list" vs.toArray 0) := e.symm.trans ha
    cases e'
    intro c
    exact absurd (Value.type.inj c) (by decide)
  · exact h _ _ out hs hb (fun b o e => PyProof.Rows.sortedAll_old e) (Nat.le_succ _) (PyProof.Rows.sortedAll_at s.heap vs out.toArray)
end
/-! ### sorted(xs), tuples of texts -/
def rSortTx (K : PySem.W.Frag) : List V → Hp → VK → Prop := fun us H Q => ∃ (a : Addr) (zs : List V) (ps : List (List Str)), us = [V.ref a] ∧ SqL K H a zs ∧ zs.length = ps.length ∧ (2 ≤ ps.length → ∀ p ∈ ps, p ≠ []) ∧ (∀ p ∈ zs.zip ps, ∃ t, p.1 = V.ref t ∧ SqT K H t (p.2.map V.str)) ∧
  ∀ (m : List (V × List Str)) (p : Addr), m.Perm (zs.zip ps) → (m.map (·.2)).Pairwise (fun x y => ltP y x = false) → H p = none → Q (.ref p) (upd H p (.lst (m.map (·.1))))
theorem strs_inj : ∀ {xs ys : List Str}, xs.map V.str = ys.map V.str → xs = ys
  | [], [], _ => rfl
  | [], _ :: _, h => by cases h
  | _ :: _, [], h => by cases h
  | x :: xs, y :: ys, h => by
    rw [List.map_cons, List.map_cons] at h
    obtain ⟨h1, h2⟩ := List.cons.inj h
    rw [V.str.inj h1, strs_inj h2]
theorem call_sortTx {X : Cx} : CallR X (.builtin "sorted") (rSortTx X.K) := by
  intro pins s σ H us vs Q I r h
  obtain ⟨a, zs, ps, rfl, hsq, hlen, hne, hz1, q⟩ := h
  obtain ⟨its, rvs, hls, hsl⟩ := I.list hsq
  obtain ⟨u, rfl, ru⟩ := vals1 r
  obtain rfl : u = Value.ref a := ru
  obtain ⟨f, hf⟩ : ∃ f : V → List Str, ∀ t p, SqT X.K H t (p.map V.str) → f (.ref t) = p := by
    classical
    refine ⟨fun z => if g : ∃ t p, z = V.ref t ∧ SqT X.K H t (List.map V.str p) then Classical.choose (Classical.choose_spec g) else [], fun t p ht => ?_⟩
    have g : ∃ t' p', V.ref t = V.ref t' ∧ SqT X.K H t' (List.map V.str p') := ⟨t, p, rfl, ht⟩
    simp only [dif_pos g]
    obtain ⟨e, h2⟩ := Classical.choose_spec (Classical.choose_spec g)
    have e' := V.ref.inj e
    have ht' : SqT X.K H (Classical.choose g) (p.map V.str) := e' ▸ ht
    exact strs_inj (I.tuple_inj h2 ht')
  have hzip : zs.zip ps = zs.map fun z => (z, f z) := by
    refine List.ext_getElem (by simp [hlen]) fun n h1 h2 => ?_
    have hm : (zs.zip ps)[n] ∈ zs.zip ps := List.getElem_mem h1
    obtain ⟨t, e, ht⟩ := hz1 _ hm
    have := hf t _ ht
    rw [List.getElem_zip] at e this ⊢
    simp only at e this
    rw [List.getElem_map, e, this]
  have hz2 : ∀ z ∈ zs, ∃ t, z = V.ref t ∧ SqT X.K H t ((f z).map V.str) ∧ f z ∈ ps := fun z hz => by
    have hm : (z, f z) ∈ zs.zip ps := by rw [hzip]; exact List.mem_map.mpr ⟨z, hz, rfl⟩
    obtain ⟨t, e, ht⟩ := hz1 _ hm
    exact ⟨t, e, ht, (List.of_mem_zip hm).2⟩
  obtain ⟨e1, e2⟩ := refs_back rvs fun z m => by
    obtain ⟨t, e, _⟩ := hz2 z m
    exact ⟨t, e⟩
  have back : ∀ v ∈ its, backV v ∈ zs := fun v hv => by rw [e1]; exact List.mem_map.mpr ⟨_, hv, rfl⟩
  refine sorted_txt (k := fun u => f (backV u)) hls.isList (by rw [← rvs.length]; exact hsl) (fun v hv => ?_) (fun h2 v hv => ?_) fun h1 d out so st kp hd hn => ?_
  · obtain ⟨t, rfl⟩ := e2 v hv
    obtain ⟨t', e, ht, _⟩ := hz2 _ (back _ hv)
    cases e
    obtain ⟨its2, r2, ⟨o, ho, hc, n, hd⟩, _⟩ := I.tuple ht
    exact ⟨t, o, _, n, rfl, ho, hc, hd, items_txt 0 r2⟩
  · obtain ⟨t', e, ht, hm⟩ := hz2 _ (back _ hv)
    exact hne (by rw [← hlen, rvs.length]; exact h2) _ hm
  · have h3 : ∀ u ∈ out, ∃ a, u = Value.ref a := fun u hu => e2 u (st.perm.mem_iff.mp hu)
    obtain ⟨n, hn⟩ := hn
    have hp : (out.map backV).Perm zs := by rw [e1]; exact st.perm.map _
    have hm := q ((out.map backV).map fun z => (z, f z)) d (by rw [hzip]; exact hp.map _) (by
      rw [List.map_map, List.map_map]; exact List.pairwise_map.mpr so) (I.hok.fresh hd)
    rw [List.map_map, show ((fun x : V × List Str => x.1) ∘ fun z => (z, f z)) = id from rfl, List.map_id] at hm
    refine ⟨.ref d, upd H d (.lst (out.map backV)), I.laid (t' := s.toks) kp hd ⟨?_, out, n, vals_back h3, hn⟩, rfl, hm⟩
    rw [hp.length_eq]
    exact hsl
end Mp
set_option maxRecDepth 100000
set_option maxHeartbeats 4000000
namespace Mp
open PySem PySem.Spec L2 PyProof.Rows
/-! ### sets of texts, whose order is not told -/
def txK (e : Int × Value) : Str := match e.2 with | .str x _ => x | _ => Str.empty
def TxE (P : Program) (w : World) (e : Int × Value) : Prop := ∃ x tk, e.2 = Value.str x tk ∧ e.1 = (PySem.strKind P w).hash x
structure SX (P : Program) (w : World) (h : Heap) (a : Addr) (S : Str → Prop) (o : Obj) (es : Array (Int × Value)) (ep : Nat) (t : SetTable) : Prop where
  obj : h.get? a = some o
  ex : o.ExactSet
  dat : o.data = .set es ep t
  good : ∀ e ∈ es.toList, TxE P w e
  nd : (es.toList.map txK).Nodup
  mem : ∀ x, x ∈ es.toList.map txK ↔ S x
  few : es.size < scanBound
  fit : t.fits es.size = true
  ris : Ris t.place.toList
  led : w.params.followText "set-order" = true ∨ t.led = true
section
variable {P : Program} {w : World} {A : Around} {E : Value → Shared → Prop} {s : Shared} {a : Addr} {S : Str → Prop} {o : Obj} {es : Array (Int × Value)} {ep : Nat} {t : SetTable}
theorem SX.keep {h h' : Heap} (R : SX P w h a S o es ep t) (k : ∀ o, h.get? a = some o → h'.get? a = some o) : SX P w h' a S o es ep t := { R with obj := k _ R.obj }
theorem SX.to {S' : Str → Prop} {h : Heap} (R : SX P w h a S o es ep t) (k : ∀ x, S x ↔ S' x) : SX P w h a S' o es ep t := { R with mem := fun x => (R.mem x).trans (k x) }
/-! ### set(xs) of a list of texts -/
def SXs (P : Program) (w : World) (h : Heap) (a : Addr) (S : Str → Prop) (n : Nat) : Prop := ∃ o es ep t, SX P w h a S o es ep t ∧ es.size ≤ n
theorem SXs.keep {h h' : Heap} {n : Nat} (R : SXs P w h a S n) (k : ∀ o, h.get? a = some o → h'.get? a = some o) : SXs P w h' a S n := by
  obtain ⟨o, es, ep, t, r, z⟩ := R
  exact ⟨o, es, ep, t, r.keep k, z⟩
/-! ### sorted of such a set -/
end
/-! ### over the layer -/
end Mp
set_option maxRecDepth 100000
set_option maxHeartbeats 4000000
namespace Mp
open PySem L2 PySem.Spec PyProof.Rows
/-! ### list(d.items()), the dict locked or not -/
section
variable {c : Cn} {G H H' : Hp}
theorem Paired.mem {α β : Type} {F F' : α → β → Prop} : ∀ {xs : List α} {ys : List β}, Paired F xs ys → (∀ x ∈ xs, ∀ y, F x y → F' x y) → Paired F' xs ys
  | _, _, .nil, _ => .nil
  | _, _, .cons h t, k => .cons (k _ (by simp) _ h) (Paired.mem t fun x hx => k x (by simp [hx]))
theorem Paired.app {α β : Type} {F : α → β → Prop} : ∀ {xs : List α} {ys : List β} {xs' : List α} {ys' : List β}, Paired F xs ys → Paired F xs' ys' → Paired F (xs ++ xs') (ys ++ ys')
  | _, _, _, _, .nil, q => q
  | _, _, _, _, .cons h t, q => .cons h (Paired.app t q)
theorem HasK.app {K : PySem.W.Frag} {G : Hp} : ∀ {xs : List (Key × D)} {ws : List (Key × V)} {ys : List (Key × D)} {us : List (Key × V)}, HasK K G xs ws → HasK K G ys us → HasK K G (xs ++ ys) (ws ++ us)
  | [], ws, ys, us, h, q => by unfold HasK at h; subst h; exact q
  | (k, d) :: xs, ws, ys, us, h, q => by
    unfold HasK at h
    obtain ⟨v, r, rfl, h1, h2⟩ := h
    exact hasK_cons h1 (HasK.app h2 q)
variable {te tf : TE} {δ : List Sl} {P : D → Prop}
end
end Mp
set_option maxRecDepth 100000
set_option maxHeartbeats 4000000
namespace Mp
open PySem L2
/-! ### exceptions, as data -/
inductive ExD where
  | plain (C : Addr)
  | fld (C : Addr) (f : Str) (d : D)
def ExD.cls : ExD → Addr
  | .plain C => C
  | .fld C _ _ => C
/-- what is known of the exception's own dict -/
def ExAt (K : PySem.W.Frag) (G H : Hp) : ExD → Option Addr → Prop
  | .plain _, d => d = none
  | .fld _ f e, d => ∃ v r, d = some r ∧ Has K G e v ∧ H r = some (.xd [(f, v)]) ∧ G r = none
def FinX (K : PySem.W.Frag) (G H : Hp) (E : XK) (x : ExD) : Prop := ∀ d, ExAt K G H x d → E (.ref x.cls) d H
/-- an expression that may raise -/
def DEX (c : Cn) (W : WX) (te : TE) (δ : List Sl) (P : D → Prop) (PX : ExD → Prop) : Prop :=
  ∀ (G0 H0 G H : Hp) (σ : L2.St) (Q : VK), Bs c G0 H0 G H → EnvOk c H0 G H σ δ → KE c G H P Q →
    (∀ (x : ExD) (G' H' : Hp), PX x → Step c G H G' H' → FinX c.K G' H' (fun cls d H => W cls d σ H) x) → te σ H Q
/-- a statement that may raise -/
def DSX (c : Cn) (W : WX) (ts : TS) (δ : List Sl) (P : Out → Prop) (PX : ExD → List Sl → Prop) : Prop :=
  ∀ (G0 H0 G H : Hp) (σ : L2.St) (D : Ends), Bs c G0 H0 G H → EnvOk c H0 G H σ δ →
    (∀ (o : Out) (G' H' : Hp), P o → Step c G0 H0 G' H' → Lat G H G' H' → Fin c H0 G' H' D o) →
    (∀ (x : ExD) (δ' : List Sl) (σ' : L2.St) (G' H' : Hp), PX x δ' → Step c G0 H0 G' H' → Lat G H G' H' → EnvOk c H0 G' H' σ' δ' → FinX c.K G' H' (fun cls d H => W cls d σ' H) x) → ts D σ H
section
variable {c : Cn} {W : WX} {te t1 t2 : TE} {tt : TT} {ts tv : TS} {δ : List Sl} {P : D → Prop} {R : Out → Prop} {PX : ExD → Prop} {RX : ExD → List Sl → Prop}
theorem DS.x (h : DS c ts δ R) : DSX c W ts δ R RX := fun G0 H0 G H σ D b e k _ => h G0 H0 G H σ D b e k
theorem DEX.imp {P' : D → Prop} {PX' : ExD → Prop} (h : DEX c W te δ P PX) (i : ∀ d, P d → P' d) (j : ∀ x, PX x → PX' x) : DEX c W te δ P' PX' := fun G0 H0 G H σ Q b e k kx => h G0 H0 G H σ Q b e (fun d v G' H' p => k d v G' H' (i d p)) fun x G' H' p => kx x G' H' (j x p)
theorem dsx_if (h : DT c tt δ fun b => if b = true then DSX c W ts δ R RX else DSX c W tv δ R RX) : DSX c W (tIfS tt ts tv) δ R RX := fun G0 H0 G H σ D b e k kx =>
  h G0 H0 G H σ _ b e fun x G1 H1 p s => by
    cases x with
    | true => simp only [if_true] at p ⊢; exact p G0 H0 G1 H1 σ D (b.next s) (e.step b.iv s) (fun o G2 H2 p2 s2 l2 => k o G2 H2 p2 s2 (s.lat.trans l2)) fun x δ' σ' G' H' px s' l' => kx x δ' σ' G' H' px s' (s.lat.trans l')
    | false => simp only [Bool.false_eq_true, if_false] at p ⊢; exact p G0 H0 G1 H1 σ D (b.next s) (e.step b.iv s) (fun o G2 H2 p2 s2 l2 => k o G2 H2 p2 s2 (s.lat.trans l2)) fun x δ' σ' G' H' px s' l' => kx x δ' σ' G' H' px s' (s.lat.trans l')
/-! ### promises of defs that may raise -/
/-- a pure def: it gives a datum, or raises -/
def SpX (K : PySem.W.Frag) (R : List D → D ⊕ ExD → Prop) : Sp := fun vs H Q E => ∃ (G : Hp) (ds : List D) (o : D ⊕ ExD), Sub ⟨K, none⟩ G H ∧ HasL K G ds vs ∧ R ds o ∧
  (∀ (d : D) (v : V) (G' H' : Hp), o = .inl d → Step ⟨K, none⟩ G H G' H' → Has K G' d v → Q v H') ∧ (∀ (x : ExD) (G' H' : Hp), o = .inr x → Step ⟨K, none⟩ G H G' H' → FinX K G' H' E x)
/-! ### raise C(e), C with the __init__ that stores one field -/
/-- __init__(self, f): self.f = f -/
def spFld (K : PySem.W.Frag) (C : Addr) (f : Str) : Sp := fun vs H Q _ => ∃ (a : Addr) (v : V), vs = [.ref a, v] ∧ H a = some (exo a C none) ∧ ∀ dx, H dx = none → dx ≠ a → Q .non (upd (upd H dx (exd dx [(f, v)])) a (exo a C (some dx)))
def tRaiseF (K : PySem.W.Frag) (C : Addr) (f : Str) (W : WX) (te : TE) : TS := fun _ σ H => tMkO C (spFld K C f) [] (tCons te tNil) σ H fun cls d H' => W cls d σ H'
end
/-! ### from the body to the promise -/
def GivesO : D ⊕ ExD → Out → Prop
  | .inl d => Gives d
  | .inr _ => fun _ => False
def RaisesO : D ⊕ ExD → ExD → List Sl → Prop
  | .inl _ => fun _ _ => False
  | .inr x => fun y _ => y = x
abbrev wE (E : XK) : WX := fun cls d _ H => E cls d H
theorem pureX_body {K : PySem.W.Frag} {N : List Str} {R : List D → D ⊕ ExD → Prop} {t : WX → TS} (hl : ∀ ds o, R ds o → ds.length ≤ N.length) (h : ∀ W ds o, R ds o → DSX ⟨K, none⟩ W (t W) (slots N ds) (GivesO o) (RaisesO o)) {vs : List V} {H : Hp} {Q : VK} {E : XK} (q : SpX K R vs H Q E) :
    t (wE E) { nx := fun _ H' => Q .non H', rt := Q } (L2.start N vs) H := by
  obtain ⟨G, ds, o, s, hv, r, k, kx⟩ := q
  refine h (wE E) ds o r G H G H (L2.start N vs) _ ⟨s, .refl s⟩ (env_start hv (hl ds o r)) (fun out G' H' p st l => ?_) fun x δ' σ' G' H' p st l e' => ?_
  · cases o with
    | inl d =>
      cases out with
      | rt d' =>
        have p : d' = d := p
        subst p
        exact fun v hv => k _ v G' H' rfl st hv
      | nx δ' =>
        have p : d = .non := p
        subst p
        exact fun σ' e' => k _ .non G' H' rfl st (by unfold Has; rfl)
      | bk δ' => exact False.elim p
      | ct δ' => exact False.elim p
    | inr x => exact False.elim p
  · cases o with
    | inl d => exact False.elim p
    | inr y =>
      have p : x = y := p
      subst p
      exact kx _ G' H' rfl st
section
variable {P : Program} {w : World} {K : PySem.W.Frag} {mg : Str → Option Value} {base : Heap}
theorem FnP.pureX {x : Str} {st : Stmt} {f : Addr} {fd : FuncData} {N ps : List Str} {k : Nat} {R : List D → D ⊕ ExD → Prop} {t : WX → TS} (F : FnP K x st f fd) (S : FnScope N ps (defScope st)) (hl : ∀ ds o, R ds o → ds.length = ps.length)
    (h : ∀ W ds o, R ds o → DSX ⟨K, none⟩ W (t W) (slots N ds) (GivesO o) (RaisesO o))
    (hb : ∀ (cdv : Value) (A : Around) (outer : List Env) (s : Shared) (H : Hp) (E : XK), Room k (A.deeper (PyProof.Rows.envOfC x (defScope st) s.heap.objs.size f cdv)) → PSs (cxOf (L2.CX P w) P w K mg base N x (defScope st) f cdv A outer s H E) (defBody st) (t (wE E))) :
    FnOk P w K mg base (L2.CX P w) (k + 1) f fd ps (SpX K R) := by
  have hN : ps.length ≤ N.length := by have := congrArg List.length S.pre; rw [List.length_take] at this; omega
  refine F.ok S (fun vs H Q E q => ?_) fun cdv A outer s H vs Q E hr q => ⟨t (wE E), hb cdv A outer s H E hr, pureX_body (fun ds o r => by rw [hl ds o r]; exact hN) h q⟩
  obtain ⟨G, ds, o, _, hv, r, _⟩ := q
  rw [hv.len, hl ds o r]
/-- what a caller knows of a def that may raise -/
structure ClX (P : Program) (w : World) (K : PySem.W.Frag) (mg : Str → Option Value) (base : Heap) (x : Str) (k : Nat) (sp : Sp) : Prop where
  ex : ∃ (f : Addr) (fd : FuncData) (ps : List Str), FnOk P w K mg base (L2.CX P w) k f fd ps sp ∧ Binds K fd ps [] ∧ PySem.W.keepIn K (.ref f) = true ∧ mg x = some (.ref f)
theorem ClX.mono {x : Str} {j k : Nat} {sp : Sp} (C : ClX P w K mg base x j sp) (h : j ≤ k) : ClX P w K mg base x k sp :=
  let ⟨f, fd, ps, F, r⟩ := C.ex
  ⟨f, fd, ps, F.mono h, r⟩
theorem ClX.imp {x : Str} {k : Nat} {sp sp' : Sp} (C : ClX P w K mg base x k sp) (h : ∀ vs H Q E, sp' vs H Q E → sp vs H Q E) : ClX P w K mg base x k sp' :=
  let ⟨f, fd, ps, F, r⟩ := C.ex
  ⟨f, fd, ps, F.imp h, r⟩
end
section
variable {X : Cx} {k : Nat} {sp : Sp} {x : Str} {p pos : Pos} {e : Expr} {es : List Expr} {t : TA} {W : WX}
theorem pe_clX (C : ClX X.prog X.w X.K X.mg X.base x k sp) (hr : Room k X.A) (hg : Gl X x) (tk : Takes X W) (ha : PA X (e :: es) t) (hdb : (x == ("__debug__" : Str)) = false := by decide)
    (he : starEach (e :: es) X.env = (false, eval e X.env) :: starEach es X.env := by rfl) (hpl : (backTo pos (starEach es X.env)).any (·.1) = false := by rfl) : PE X (.Call (.Name x p) (e :: es) [] pos) (tCallS sp (WE W) t) := by
  obtain ⟨f, fd, ps, F, b, kp, m⟩ := C.ex
  exact pe_callS F hr hg m kp b (fun σ => passAt tk σ) ha hdb he hpl
end
/-! ### the class, by the written part -/
def oexB (K : PySem.W.Frag) (C : Addr) : Bool := (match K.lookup C with
  | some ⟨.type "type", _, .cls cd, sl⟩ => (match cd.mro, sl.toList with
    | .ref C' :: bm, [_, _, _, _, some (.builtin n), _] => C' == C && n == "ValueError.__new__" && !cd.hasDel && cd.hasDict && PySem.HandSPX.refsVE bm
    | _, _ => false)
  | _ => false) && (He.eqO (PySem.W.findIn K (.ref C) "__setattr__") (some (some (.builtin "object.__setattr__"))) && (decide (PySem.W.subIn K (.ref C) (.type "BaseException") = some true) && (decide (PySem.W.typeIn K (.ref C) = some (.type "type")) && PySem.W.keepIn K (.ref C))))
theorem oexB_ok {K : PySem.W.Frag} {C : Addr} (h : oexB K C = true) : OexC K C := by
  unfold oexB at h
  obtain ⟨h0, h⟩ := He.ba h
  obtain ⟨h1, h⟩ := He.ba h
  obtain ⟨h2, h⟩ := He.ba h
  obtain ⟨h3, h4⟩ := He.ba h
  refine ⟨?_, He.eqO_ok h1, of_decide_eq_true h2, of_decide_eq_true h3, h4⟩
  split at h0
  · rename_i dd cd sl ho
    split at h0
    · rename_i C' bm k0 k1 k2 k3 n k5 hm hs
      simp only [Bool.and_eq_true, beq_iff_eq, Bool.not_eq_true'] at h0
      obtain ⟨⟨⟨⟨rfl, rfl⟩, hdel⟩, hd⟩, ht⟩ := h0
      obtain ⟨nm, bs, mro, ns, qn, hdd, sn, sub, ab, col, del⟩ := cd
      dsimp only at hm hdel hd
      subst hm hdel hd
      have hsl : sl = #[k0, k1, k2, k3, some (.builtin "ValueError.__new__"), k5] := by
        obtain ⟨l⟩ := sl
        simp only at hs
        rw [hs]
      subst hsl
      exact ⟨_, _, _, _, _, _, _, _, _, _, _, _, _, _, _, ho, ht⟩
    · cases h0
  · cases h0
/-! ### xs.extend(ys), ys any datum that is a list -/
end Mp
set_option maxRecDepth 100000
set_option maxHeartbeats 4000000
namespace Mp
open PySem L2
def tTryAs (K : PySem.W.Frag) (C : Addr) (i : Nat) (tb : WX → TS) (ts : Addr → Value → Option Addr → TS) : TS := fun D σ H => tb (wAs K (.ref C) i ts (fun _ _ _ _ => False) D) D σ H
theorem ps_tryAs {X : Cx} {x n : Str} {C : Addr} {i : Nat} {body suite : List Stmt} {b₀ : Stmt} {np pos pos' : Pos} {tb : WX → TS} {ts : Addr → Value → Option Addr → TS} (hs : X.stack = X.env :: X.outer) (hf : X.env.frame = some X.env.locals) (hN : X.N.Nodup) (hi : X.N[i]? = some n) (hln : X.env.kindOf n = some .local)
    (hg : Gl X x) (hdb : (x == ("__debug__" : Str)) = false) (hm : X.mg x = some (.ref C))
    (hb : ∀ (W : WX) (pn : List (Addr × Obj)) (xe : Value → Shared → Prop), Takes (X.tr pn xe) W → PSs (X.tr pn xe) body (tb W))
    (hsu : ∀ (a : Addr) (oe : Obj) (cls : Value) (d : Option Addr) (pn : List (Addr × Obj)), Zc cls d oe → (∃ vs, oe.data = .fields vs) → PSs (X.suite a ((a, oe) :: pn)) (b₀ :: suite) (ts a cls d)) :
    PS X (.Try body [.ExceptHandler (some (.Name x np)) (some n) (b₀ :: suite) pos'] [] [] pos) (tTryAs X.K C i tb ts) :=
  ps_try_as hs hf hN hi hln ⟨hg, hdb, .inl hm⟩ takes0 (fun W pn xe tk _ => hb W pn xe tk) hsu
/-- an own exception class whose __init__ stores one field -/
structure ConfC (P : Program) (w : World) (K : PySem.W.Frag) (mg : Str → Option Value) (base : Heap) (x f : Str) (C : Addr) : Prop where
  ox : OexC K C
  g : mg x = some (.ref C)
  init : ∃ fI fd, PySem.W.findIn K (.ref C) "__init__" = some (some (.ref fI)) ∧ PySem.W.typeIn K (.ref fI) = some (.type "function") ∧ FnOk P w K mg base CX0 1 fI fd ["self", f] (spFld K C f) ∧ Binds K fd ["self", f] []
  xf : XfC K C
  no : PySem.W.findIn K (.ref C) f = some none
  te : PySem.W.exmOne K (.ref C) (.ref C) = some true
theorem ps_raiseC {X : Cx} {W : WX} {x f : Str} {C : Addr} {e : Expr} {te : TE} {p pos pos2 : Pos} (T : ConfC X.prog X.w X.K X.mg X.base x f C) (hc : X.calm = true) (hr : Room 2 X.A) (tk : Takes X W) (hg : Gl X x) (he : PE X e te)
    (hdb : (x == ("__debug__" : Str)) = false := by decide) (hs : starEach (e :: []) X.env = (false, eval e X.env) :: starEach [] X.env := by rfl) (hpl : (backTo pos (starEach [] X.env)).any (·.1) = false := by rfl) :
    PS X (.Raise (some (.Call (.Name x p) [e] [] pos)) none pos2) (tRaiseF X.K C f W te) := by
  obtain ⟨fI, fd, i1, i2, i3, i4⟩ := T.init
  exact ps_raise hc tk (pmk_oex T.ox i1 i2 i3 hr i4 .nil pass0 hg T.g (pa_cons he pa_nil (hs := hs)) hdb hs hpl)
/-! ### __init__(self, f): self.f = f -/
section
variable {P : Program} {w : World} {K : PySem.W.Frag} {mg : Str → Option Value} {base : Heap}
theorem init_ok {x q f : Str} {C : Addr} {params : Arguments} {body : List Stmt} {scope : Scope} {fI : Addr} {fd : FuncData} (F : FunD K x q params body scope [] [] fI fd) (S : FnScope ["self", f] ["self", f] scope) (ox : OexC K C) (no : PySem.W.findIn K (.ref C) f = some none)
    (hb : ∀ (cdv : Value) (A : Around) (outer : List Env) (s : Shared) (H : Hp) (E : XK), PSs (cxOf CX0 P w K mg base ["self", f] q scope fI cdv A outer s H E) body (tOst K f (tVar 0) (tVar 1))) : FnOk P w K mg base CX0 1 fI fd ["self", f] (spFld K C f) := by
  refine F.ok S (fun vs H Q E h => ?_) fun cdv A outer s H vs Q E hr h => ⟨_, hb cdv A outer s H E, ?_⟩
  · obtain ⟨a, v, rfl, _⟩ := h; rfl
  · obtain ⟨a, v, rfl, ha, k⟩ := h
    exact ⟨v, rfl, .ref a, rfl, a, C, rfl, ox, no, .inl ⟨ha, fun dx hd ne => k dx hd ne⟩⟩
end
/-! ### the hook with classes of exceptions -/
def xcB (K : PySem.W.Frag) (xs : List Str) : Bool := xs.all fun x => oexB K (He.ga K x) && xfB K (He.ga K x)
def obsX (fa : List He.Fa) (fn : List He.DefD) (ts : List (Str × D)) (xs : List Str) (K : PySem.W.Frag) : AlM := (datB K ts && xcB K xs, He.obsD fa fn K)
def SaysX (fa : List He.Fa) (fn : List He.DefD) (ts : List (Str × D)) (xs : List Str) (K : PySem.W.Frag) : Prop := obsX fa fn ts xs K = (true, He.valD fn)
section
variable {fa : List He.Fa} {fn : List He.DefD} {ts : List (Str × D)} {xs : List Str} {K : PySem.W.Frag}
theorem SaysX.says (c : SaysX fa fn ts xs K) : He.SaysD fa fn K := congrArg Prod.snd c
theorem SaysX.both (c : SaysX fa fn ts xs K) : datB K ts = true ∧ xcB K xs = true := He.ba (congrArg Prod.fst c)
theorem SaysX.dat (c : SaysX fa fn ts xs K) {x : Str} {d : D} (h : (x, d) ∈ ts) (G : Hp) : Has K G d (.ref (He.ga K x)) :=
  (kHas_ok (G := G) d _ (List.all_eq_true.mp c.both.1 _ h)).1
theorem SaysX.exc (c : SaysX fa fn ts xs K) {x : Str} (h : x ∈ xs) : OexC K (He.ga K x) ∧ XfC K (He.ga K x) := by
  obtain ⟨h1, h2⟩ := He.ba (List.all_eq_true.mp c.both.2 _ h)
  exact ⟨oexB_ok h1, xfB_ok h2⟩
end
end Mp
set_option maxRecDepth 100000
set_option maxHeartbeats 4000000
namespace Mp
open PySem L2 PyProof.Rows
/-! ### raise X(), X an own class without __init__ -/
theorem pmk_own0 {X : Cx} {C : Addr} {bmB : List Value} {B newId initId : String} {x : Str} {p pos : Pos} (F : ExcBaseFacts B newId initId bmB) (q : PySem.W.excIn X.K C bmB newId = true) (gC : X.mg x = some (.ref C)) (kC : PySem.W.keepIn X.K (.ref C) = true) (r : Raises X (.ref C)) (hg : Gl X x)
    (hdb : (x == ("__debug__" : Str)) = false := by decide) : PMk X (.Call (.Name x p) [] [] pos) (fun _ H Q => Q (.ref C) none H) := by
  intro pins s σ H Q I h
  refine wpAny_Call_Name_kw (ld_glob I hg gC ?_ hdb)
  refine PySem.W.callWith_K0 I.kIn kC ?_
  show wpAny _ _ (call (.ref C) []) _ _ _
  obtain ⟨bm, N, nm, qn, bs, hdct, sn, sub, ab, col, dd, k0, k1, k2, k3, k5, mN, hC, hN, hni, T⟩ := exc_obj I.kIn q
  refine wpAny_call_exc_subT F T hC hN hni (fun h' e hm => ?_) (by show 0 ≤ sizeLine; exact Nat.zero_le _)
  exact mk_of I hm r h (I.hok.gone hm.new)
/-- what is known of a plain own class of exceptions -/
structure PlnC (K : PySem.W.Frag) (mg : Str → Option Value) (x : Str) (C : Addr) : Prop where
  ex : PySem.W.excIn K C He.veBase "ValueError.__new__" = true
  g : mg x = some (.ref C)
  kp : PySem.W.keepIn K (.ref C) = true
  be : PySem.W.subIn K (.ref C) (.type "BaseException") = some true
  ty : PySem.W.typeIn K (.ref C) = some (.type "type")
def tRaise0 (C : Addr) (W : WX) : TS := fun _ σ H => W (.ref C) none σ H
theorem ps_raise0 {X : Cx} {W : WX} {x : Str} {C : Addr} {p pos pos2 : Pos} (T : PlnC X.K X.mg x C) (hc : X.calm = true) (tk : Takes X W) (hg : Gl X x) (hdb : (x == ("__debug__" : Str)) = false := by decide) :
    PS X (.Raise (some (.Call (.Name x p) [] [] pos)) none pos2) (tRaise0 C W) :=
  ps_raise hc tk (pmk_own0 PySem.F.excBase_ValueError T.ex T.g T.kp (raises_own T.be T.ty) hg hdb)
section
variable {c : Cn} {W : WX} {δ : List Sl} {R : Out → Prop} {RX : ExD → List Sl → Prop}
theorem dsx_raise0 {C : Addr} (h : RX (.plain C) δ) : DSX c W (tRaise0 C W) δ R RX := fun G0 H0 G H σ D b e k kx => kx (.plain C) δ σ G H h b.st (.refl _ _) e none rfl
end
/-! ### a def that is handed the caught exception, in the suite -/
structure FnE (P : Program) (w : World) (K : PySem.W.Frag) (mg : Str → Option Value) (base : Heap) (CX : CXT) (k : Nat) (f : Addr) (fd : FuncData) (ps : List Str) (sp : Addr × Obj → Sp) : Prop where
  len : ∀ p vs H Q E, sp p vs H Q E → vs.length = ps.length
  run : ∀ (A : Around) (outer : List Env) (s : Shared) (H : Hp) (args : Args) (us : List Value) (vs : List V) (Q : VK) (E : XK) (p : Addr × Obj), L2H.RoomH k A → L2H.PinOk outer H s p → Env0 P w K mg base A outer s H → BindsTo s fd args (ps.zip us) → Vals vs us → sp p vs H Q E →
    codeAny (model P w) A (.call (.ref f) args) (CR CX outer P w H s Q E) s
theorem FunD.okE {CX : CXT} {P : Program} {w : World} {K : PySem.W.Frag} {mg : Str → Option Value} {base : Heap} {k : Nat} {f : Addr} {name qual : Str} {params : Arguments} {body : List Stmt} {scope : Scope} {fd : FuncData} {N ps : List Str} {sp : Addr × Obj → Sp}
    (F : FunD K name qual params body scope [] [] f fd) (S : FnScope N ps scope) (len : ∀ p vs H Q E, sp p vs H Q E → vs.length = ps.length)
    (hbody : ∀ (cdv : Value) (A : Around) (outer : List Env) (s : Shared) (H : Hp) (vs : List V) (Q : VK) (E : XK) (p : Addr × Obj), L2H.RoomH k (A.deeper (envOfC qual scope s.heap.objs.size f cdv)) → sp p vs H Q E →
      ∃ t, PSs (L2H.cxH CX P w K mg base N qual scope f cdv A outer s H E p) body t ∧ t { nx := fun _ H' => Q .non H', rt := Q } (L2.start N vs) H) :
    FnE P w K mg base CX (k + 1) f fd ps sp := by
  obtain ⟨oc, od, dV, kV, doc, pm, an, cdv, ct, osl, rfl, lk, hcd, _, _⟩ := F.ex
  refine ⟨len, fun A outer s H args us vs Q E p hr hpin e0 hb r hsp => ?_⟩
  have hl := len _ _ _ _ _ hsp
  have KX : K.In s.heap := e0.mod.kin.keeps fun b o e => (e0.bs b o e).1
  have lim : s.heap.NoLimit := e0.mod.nolimit.keeps fun b o e => (e0.bs b o e).1
  have hkind : ∀ y ∈ ps.zip us, scope.names.lookup y.1 = some .local ∨ (scope.names.lookup y.1 = some .cell ∧ ((cellsFrom (s.heap.objs.size + 1) scope.names []).lookup y.1).isSome = true) := fun ⟨n, v⟩ hy => by
    rcases S.par n (List.of_mem_zip hy).1 with q | q
    · exact .inl q
    · exact .inr ⟨q, PySem.W.cellsFrom_some _ _ _ (.inl q)⟩
  refine codeAny_call_function hr.depth (KX _ _ lk) rfl S.co S.gen rfl (PySem.W.codeRec_of KX hcd) (hb _ _ _ _ ?_)
  refine wpAny_newFunctionEnv_cells S.kind hkind fun env he s1 x => ?_
  subst he
  refine ⟨lim.keeps x.toInCall.keep, codeAny_func ?_⟩
  obtain ⟨t, ht, hq⟩ := hbody cdv A outer s H vs Q E p (hr.deeper _) hsp
  have I : Inv (L2H.cxH CX P w K mg base N qual scope f cdv A outer s H E p) [] (L2.start N vs) H s1 := L2H.inv_startH S hpin e0 hl r x
  refine wpAny_mono (ht.run [] s1 (L2.start N vs) H _ I hq) (fun fl s' hs => ?_) fun e s' hs => hs
  have fin : ∀ {σ' : L2.St} {H' : Hp} {v : V} {u : Value}, Inv (L2H.cxH CX P w K mg base N qual scope f cdv A outer s H E p) [] σ' H' s' → RelV v u → Q v H' → CE outer P w H s Q u s' :=
    fun {σ' H' v u} J rv q => ⟨v, H', J.os, J.bare, J.base, J.hok, rv, q⟩
  cases fl with
  | ret u => obtain ⟨v, σ', H', J, rv, q⟩ := hs; exact fin J rv q
  | next => obtain ⟨σ', H', J, q⟩ := hs; exact fin (v := V.non) (u := Value.none) J rfl q
  | brk => obtain ⟨_, _, _, q⟩ := hs; exact False.elim q
  | cont => obtain ⟨_, _, _, q⟩ := hs; exact False.elim q
section
variable {X : Cx} {CX : CXT} {k : Nat} {f : Addr} {fd : FuncData} {ps : List Str} {sp : Addr × Obj → Sp} {E : XK} {x : Str} {q pos : Pos} {e : Expr} {es : List Expr} {t : TA} {p : Addr × Obj}
def tCallE (sp : Sp) (E : XK) (t : TA) : TE := fun σ H Q => t σ H fun vs H1 => sp vs H1 Q E
/-- f(error), f never raises -/
theorem pe_callE (F : FnE X.prog X.w X.K X.mg X.base CX0 k f fd ps sp) (hr : L2H.RoomH k X.A) (hp : p ∈ X.pn) (hg : Gl X x) (hm : X.mg x = some (.ref f)) (hk : PySem.W.keepIn X.K (.ref f) = true) (hb : Binds X.K fd ps [])
    (ha : PA X (e :: es) t) (hdb : (x == ("__debug__" : Str)) = false := by decide) (he : starEach (e :: es) X.env = (false, eval e X.env) :: starEach es X.env := by rfl) (hpl : (backTo pos (starEach es X.env)).any (·.1) = false := by rfl) :
    PE X (.Call (.Name x q) (e :: es) [] pos) (tCallE (sp p) E0 t) := by
  refine ⟨fun pins s σ H Q I h => ?_⟩
  refine wpAny_Call_Name_kw (ld_glob I hg hm ?_ hdb)
  refine PySem.W.callWith_K (h₀ := X.base) I.ok.mod.kin hk (thn (ha.run pos pins s σ H _ I h) fun us s1 ⟨vs, H1, I1, r, qq⟩ => ⟨I1.kIn, ?_⟩) he hpl
  have hl : us.length = ps.length := by rw [← r.length]; exact F.len _ _ _ _ _ qq
  have b := hb s1 us I1.kIn (by rw [List.append_nil]; exact hl)
  rw [List.append_nil] at b
  have P1 := I1.pin p (List.mem_append_left _ hp)
  have hpin : L2H.PinOk X.stack H1 s1 p := ⟨P1.1, P1.2.1, fun hm => (List.mem_cons.mp (I1.stkSub p.1 hm)).elim P1.2.2.1 P1.2.2.2.1, P1.2.2.2.2⟩
  refine wpAny_call (codeAny_mono (F.run X.A X.stack s1 H1 ⟨us, []⟩ us vs Q E0 p hr hpin I1.env0 b r qq) fun r s' hq => ?_)
  cases r with
  | error e => exact pass0 _ _ _ _ _ _ I1 hq
  | ok fl =>
    cases fl with
    | ret u => exact I1.after hq
    | next => exact False.elim hq
    | brk => exact False.elim hq
    | cont => exact False.elim hq
end
/-! ### isinstance(error, C), there -/
theorem call_isEm {X : Cx} {a D : Addr} {oe : Obj} (hm : (a, oe) ∈ X.pn) (C : ExcC X.K D) (hz : Zc (.ref D) none oe) (hf : ∃ vs, oe.data = .fields vs) : CallR X (.builtin "isinstance") (rIsE X.K D a) := by
  intro pins s σ H xs us Q I r h
  obtain ⟨c, cv, b, rfl, hcv, e, q⟩ := h
  cases r with
  | cons rx rr =>
    cases rr with
    | cons rt rr =>
      cases rr
      cases rx
      have ec := hcv _ rt
      subst ec
      obtain ⟨hget, _⟩ := I.pin (a, oe) (List.mem_append.mpr (.inl hm))
      obtain ⟨vs, hv⟩ := hf
      have J : PySem.W.InstAt s.heap a oe D none := by
        obtain ⟨oc, od, oda, osl⟩ := oe
        obtain ⟨h1, h2⟩ := hz
        dsimp only at h1 h2 hv
        subst h1 h2 hv
        exact ⟨hget, rfl, rfl, trivial⟩
      exact PySem.W.kia_one (PySem.W.handS_kitx_exc C.hg C.hk C.hs C.hd C.ha C.hn C.ht C.hm) I.kIn J e (fun z => nomatch z) fun tk => ⟨.bl b, H, I.kept (t' := tk) fun _ _ z => z, rfl, q⟩
/-! ### bs.count(True) -/
def eqB (v : Value) : Bool := match v with
  | .bool b => b
  | _ => false
def rCntB (K : PySem.W.Frag) : V → List V → Hp → VK → Prop := fun x xs H Q => ∃ (p : Addr) (bs : List Bool), x = .ref p ∧ xs = [.bl true] ∧ SqL K H p (bs.map V.bl) ∧ Q (.int (bs.count true : Nat)) H
theorem bools_of : ∀ {bs : List Bool} {its : List Value}, Vals (bs.map V.bl) its → its = bs.map Value.bool
  | [], _, h => by cases h; rfl
  | b :: r, _, h => by
    cases h with
    | cons h1 h2 =>
      cases h1
      rw [bools_of h2] <;> rfl
theorem mt_countB {X : Cx} : MtR X "list.count" (rCntB X.K) := by
  intro pins s σ H x xs v us Q I rx rxs h
  obtain ⟨p, bs, rfl, rfl, hs, q⟩ := h
  cases rx
  obtain ⟨u, rfl, ru⟩ := rxs.one
  cases ru
  obtain ⟨its, rv, ⟨⟨cls, dd, data, sl⟩, n, ho, hc, hdn, hd⟩, hlen⟩ := I.list hs
  simp only at hc hd
  subst hc hd
  have hi := bools_of rv
  subst hi
  refine call_meets PySem.F.slot_list_count ⟨_, ho, rfl⟩ PySem.F.entry_list_count (PySem.F.args_list_count_2 _ _)
    (SeqAt.list_countAt p (bs.map Value.bool).toArray n dd sl (.bool true) eqB) ⟨ho, fun y hy => ?_, ?_⟩
  · have hy : y ∈ bs.map Value.bool := by simpa using hy
    obtain ⟨b, _, rfl⟩ := List.mem_map.mp hy
    have := SeqAt.EqAt.bool_bool (A := X.A.in1) (s := s) b true
    have e : (b == true) = eqB (.bool b) := by cases b <;> rfl
    rw [e] at this
    exact this
  have ec : (bs.map Value.bool).toArray.toList.countP eqB = bs.count true := by
    simp only [List.countP_map]
    rw [List.count]
    congr 1
    funext b
    cases b <;> rfl
  refine ⟨.int (bs.count true : Nat), H, I.tok _, ⟨s.toks, ?_⟩, q⟩
  show Value.int (((bs.map Value.bool).toArray.toList.countP eqB : Nat) : Int) s.toks = Value.int ((bs.count true : Nat) : Int) s.toks
  rw [ec]
end Mp
set_option maxRecDepth 100000
set_option maxHeartbeats 4000000
namespace Mp
open PySem L2
/-! ### own lists of bools: count, index -/
section
variable {c : Cn} {δ : List Sl} {P : D → Prop}
theorem de_countB {i : Nat} {bs : List Bool} (hi : δ[i]? = some (.own (.lst (bs.map D.bl)))) (h : P (.int (bs.count true : Nat))) : DE c (tBM c.K "list" (rCntB c.K) (tVar i) (tCons (tC (.bl true)) tNil)) δ P := fun G0 H0 G H σ Q b e k => by
  obtain ⟨r, h1, h2, h3, ws, h4, h5⟩ := e.own i _ hi
  have := hasL_bls h5
  subst this
  exact ⟨.ref r, h1, .inl ⟨rfl, _, SqL.of h4⟩, r, bs, rfl, rfl, SqL.of h4, k _ _ G H h (.refl b.sub) (by unfold Has; rfl)⟩
theorem de_indexB {i : Nat} {bs : List Bool} {j : Nat} (hi : δ[i]? = some (.own (.lst (bs.map D.bl)))) (hj : bs[j]? = some true) (hn : ∀ m, m < j → bs[m]? ≠ some true) (h : P (.int (j : Nat))) : DE c (tBM c.K "list" (rIndex c.K) (tVar i) (tCons (tC (.bl true)) tNil)) δ P := fun G0 H0 G H σ Q b e k => by
  obtain ⟨r, h1, h2, h3, ws, h4, h5⟩ := e.own i _ hi
  have := hasL_bls h5
  subst this
  refine ⟨.ref r, h1, .inl ⟨rfl, _, SqL.of h4⟩, r, bs.map V.bl, .bl true, j, .bl true, rfl, rfl, SqL.of h4, rfl, ?_, by rw [List.getElem?_map, hj]; rfl, rfl, fun m z hm hz => ?_, k _ _ G H h (.refl b.sub) (by unfold Has; rfl)⟩
  · rw [List.all_map]; exact List.all_eq_true.mpr fun b _ => rfl
  · rw [List.getElem?_map] at hz
    cases q : bs[m]? with
    | none => rw [q] at hz; cases hz
    | some b =>
      rw [q] at hz
      cases hz
      cases b with
      | true => exact (hn m hm q).elim
      | false => rfl
/-- isinstance(error, C) -/
theorem de_isE {D a : Addr} {i : Nat} {cv : V} {u : Value} {r : Bool} (hi : δ[i]? = some (.raw (.ref a))) (hc : ∀ w, RelV cv w → w = u) (hk : PySem.W.kitOne c.K (.ref D) u = some r) (h : P (.bl r)) : DE c (tCB (rIsE c.K D a) (tCons (tVar i) (tCons (tC cv) tNil))) δ P := fun G0 H0 G H σ Q b e k =>
  ⟨.ref a, e.raw i _ hi, cv, u, r, rfl, hc, hk, k _ _ G H h (.refl b.sub) (by unfold Has; rfl)⟩
end
/-! ### _law_which -/
structure WhOk (K : PySem.W.Frag) (Cs : List Addr) (D : Addr) (i : Nat) : Prop where
  ex : ExcC K D
  len : Cs.length = 7
  lt : i < 7
  kit : ∀ j C, Cs[j]? = some C → PySem.W.kitOne K (.ref D) (.ref C) = some (j == i)
  ve : PySem.W.kitOne K (.ref D) (.type "ValueError") = some true
def raisedD (i : Int) : D := .tup [.str "raised", .int i]
/-- what _law_which(error) promises, in the suite that has caught an error of class cls -/
def spWh (K : PySem.W.Frag) (Cs : List Addr) (a : Addr) (cls : Value) (d : Option Addr) : Sp := fun vs H Q _ => ∃ (D : Addr) (i : Nat) (G : Hp), cls = .ref D ∧ d = none ∧ WhOk K Cs D i ∧ vs = [.ref a] ∧ Sub ⟨K, none⟩ G H ∧
  ∀ (v : V) (G' H' : Hp), Step ⟨K, none⟩ G H G' H' → Has K G' (raisedD i) v → Q v H'
def spWhP (K : PySem.W.Frag) (Cs : List Addr) (p : Addr × Obj) : Sp := fun vs H Q E => (∃ xs, p.2.data = .fields xs) ∧ spWh K Cs p.1 p.2.cls p.2.dict vs H Q E
/-- what a caller knows of it -/
structure ClE (P : Program) (w : World) (K : PySem.W.Frag) (mg : Str → Option Value) (base : Heap) (x : Str) (k : Nat) (sp : Addr × Obj → Sp) : Prop where
  ex : ∃ (f : Addr) (fd : FuncData) (ps : List Str), FnE P w K mg base CX0 k f fd ps sp ∧ Binds K fd ps [] ∧ PySem.W.keepIn K (.ref f) = true ∧ mg x = some (.ref f)
theorem ClE.mono {P : Program} {w : World} {K : PySem.W.Frag} {mg : Str → Option Value} {base : Heap} {x : Str} {j k : Nat} {sp : Addr × Obj → Sp} (C : ClE P w K mg base x j sp) (h : j ≤ k) : ClE P w K mg base x k sp :=
  let ⟨f, fd, ps, F, r⟩ := C.ex
  ⟨f, fd, ps, ⟨F.len, fun A outer s H args us vs Q E p hr => F.run A outer s H args us vs Q E p (hr.mono h)⟩, r⟩
theorem pe_which {X : Cx} {k : Nat} {Cs : List Addr} {a : Addr} {oe : Obj} {cls : Value} {d : Option Addr} {x : Str} {q pos : Pos} {e : Expr} {i : Nat} (C : ClE X.prog X.w X.K X.mg X.base x k (spWhP X.K Cs)) (hr : L2H.RoomH k X.A) (hp : (a, oe) ∈ X.pn) (hz : Zc cls d oe) (hf : ∃ vs, oe.data = .fields vs) (hg : Gl X x)
    (ha : PE X e (tVar i)) (hdb : (x == ("__debug__" : Str)) = false := by decide) (he : starEach [e] X.env = (false, eval e X.env) :: starEach [] X.env := by rfl) :
    PE X (.Call (.Name x q) [e] [] pos) (tCallE (spWh X.K Cs a cls d) E0 (tCons (tVar i) tNil)) := by
  obtain ⟨f, fd, ps, F, b, kp, m⟩ := C.ex
  have z := pe_callE (q := q) (pos := pos) F hr hp hg m kp b (pa_cons ha pa_nil (hs := he)) hdb he rfl
  refine ⟨fun pins s σ H Q I h => z.run pins s σ H Q I ?_⟩
  have mono : ∀ vs H1, spWh X.K Cs a cls d vs H1 Q E0 → spWhP X.K Cs (a, oe) vs H1 Q E0 := fun vs H1 h => ⟨hf, by
    obtain ⟨h1, h2⟩ := hz
    show spWh X.K Cs a oe.cls oe.dict vs H1 Q E0
    rw [h1, h2]; exact h⟩
  obtain ⟨v, hv, h⟩ := h
  exact ⟨v, hv, mono _ _ h⟩
end Mp
set_option maxRecDepth 100000
set_option maxHeartbeats 4000000
namespace Mp
open PySem L2
/-! ### stores: an instance with three lists of data -/
structure Sto where
  st : List D
  pa : List D
  un : List D
/-- at a stands a store, its objects are f -/
def StF (K : PySem.W.Frag) (C : Addr) (G H : Hp) (a : Addr) (S : Sto) (f : List Addr) : Prop :=
  ∃ (dx r1 r2 r3 : Addr) (v1 v2 v3 : List V), f = [a, dx, r1, r2, r3] ∧ f.Nodup ∧ H a = some (.ins C dx [("states", .ref r1), ("patches", .ref r2), ("undone", .ref r3)]) ∧ H dx = some (.own a) ∧
    H r1 = some (.lst v1) ∧ H r2 = some (.lst v2) ∧ H r3 = some (.lst v3) ∧ HasL K G S.st v1 ∧ HasL K G S.pa v2 ∧ HasL K G S.un v3 ∧ ∀ x ∈ f, G x = none
/-- from (G, H) to (G', H'): all is kept but what is in f -/
structure Adv (c : Cn) (f : List Addr) (G H G' H' : Hp) : Prop where
  s0 : Sub c G H
  gs : ∀ a u, G a = some u → G' a = some u
  sub : Sub c G' H'
  keep : ∀ a u, ¬ c.T a → a ∉ f → G a = none → H a = some u → H' a = some u
  fr : ∀ a, H a ≠ none → G a = none → G' a = none
  fz : ∀ a o u, H a = some (.frz o u) → H' a = some (.frz o u)
  live : ∀ a, H' a = none → H a = none
/-- f has grown by new objects alone -/
def Grow (f f' : List Addr) (H : Hp) : Prop := ∀ x ∈ f', x ∈ f ∨ H x = none
/-- no object of the slots is in f -/
def Off (σ : L2.St) (δ : List Sl) (f : List Addr) : Prop := ∀ (i : Nat) (d : D) (r : Addr), δ[i]? = some (.own d) → σ[i]? = some (some (.ref r)) → r ∉ f
section
variable {c : Cn} {G H G1 H1 G2 H2 : Hp} {f f' : List Addr} {K : PySem.W.Frag} {C a : Addr} {S : Sto}
theorem Adv.refl (s : Sub c G H) : Adv c f G H G H := ⟨s, fun _ _ h => h, s, fun _ _ _ _ _ h => h, fun _ _ h => h, fun _ _ _ h => h, fun _ h => h⟩
theorem Adv.ge (s : Adv c f G H G1 H1) : Ge G G1 := fun a u r => r.imp (s.gs a u) fun ⟨o, r⟩ => ⟨o, s.gs a _ r⟩
theorem Step.adv (s0 : Sub c G H) (s : Step c G H G1 H1) : Adv c f G H G1 H1 := ⟨s0, s.gs, s.sub, fun a u t _ => s.keep a u t, s.fr, s.fz, fun a h => s.back h⟩
theorem Adv.trans (s : Adv c f G H G1 H1) (g : Grow f f' H) (t : Adv c f' G1 H1 G2 H2) : Adv c f G H G2 H2 where
  s0 := s.s0
  gs := fun a u h => t.gs a u (s.gs a u h)
  sub := t.sub
  keep := fun a u nt nf hg hh => t.keep a u nt (fun m => by
    rcases g a m with z | z
    · exact nf z
    · rw [hh] at z; cases z) (s.fr a (by rw [hh]; exact fun z => nomatch z) hg) (s.keep a u nt nf hg hh)
  fr := fun a n hg => t.fr a (fun z => n (s.live a z)) (s.fr a n hg)
  fz := fun a o u h => t.fz a o u (s.fz a o u h)
  live := fun a h => s.live a (t.live a h)
theorem Grow.refl : Grow f f H := fun x h => .inl h
theorem Grow.trans {f2 : List Addr} (g : Grow f f' H) (s : Adv c f G H G1 H1) (t : Grow f' f2 H1) : Grow f f2 H := fun x h => by
  rcases t x h with z | z
  · exact g x z
  · exact .inr (s.live x z)
theorem StF.there (h : StF K C G H a S f) : ∀ x ∈ f, H x ≠ none := by
  obtain ⟨dx, r1, r2, r3, v1, v2, v3, rfl, _, h1, h2, h3, h4, h5, _⟩ := h
  intro x hx
  simp only [List.mem_cons, List.not_mem_nil, or_false] at hx
  rcases hx with rfl | rfl | rfl | rfl | rfl
  · rw [h1]; exact fun z => nomatch z
  · rw [h2]; exact fun z => nomatch z
  · rw [h3]; exact fun z => nomatch z
  · rw [h4]; exact fun z => nomatch z
  · rw [h5]; exact fun z => nomatch z
theorem StF.free (h : StF K C G H a S f) : ∀ x ∈ f, G x = none := by
  obtain ⟨dx, r1, r2, r3, v1, v2, v3, rfl, _, h1, h2, h3, h4, h5, _, _, _, h⟩ := h
  exact h
/-- what keeps the store's objects keeps the store -/
theorem StF.keep (h : StF K C G H a S f) (g : Ge G G1) (k : ∀ x ∈ f, ∀ u, H x = some u → H1 x = some u) (n : ∀ x ∈ f, G1 x = none) : StF K C G1 H1 a S f := by
  obtain ⟨dx, r1, r2, r3, v1, v2, v3, rfl, nd, h1, h2, h3, h4, h5, l1, l2, l3, _⟩ := h
  exact ⟨dx, r1, r2, r3, v1, v2, v3, rfl, nd, k _ (by simp) _ h1, k _ (by simp) _ h2, k _ (by simp) _ h3, k _ (by simp) _ h4, k _ (by simp) _ h5, l1.mono g, l2.mono g, l3.mono g, n⟩
theorem StF.step (h : StF K C G H a S f) (s : Step c G H G1 H1) (nt : ∀ x ∈ f, ¬ c.T x) : StF K C G1 H1 a S f :=
  h.keep s.ge (fun x hx u e => s.keep x u (nt x hx) (h.free x hx) e) fun x hx => s.fr x (h.there x hx) (h.free x hx)
end
/-! ### the heap without the slots' own objects -/
def ownd (σ : L2.St) (δ : List Sl) (x : Addr) : Prop := ∃ (i : Nat) (d : D), δ[i]? = some (.own d) ∧ σ[i]? = some (some (.ref x))
open Classical in
noncomputable def cut (σ : L2.St) (δ : List Sl) (H : Hp) : Hp := fun x => if ownd σ δ x then none else H x
section
variable {c : Cn} {G H Hs Gs G1 H1 : Hp} {f f0 : List Addr} {σ : L2.St} {δ : List Sl} {x : Addr}
theorem cut_own (h : ownd σ δ x) : cut σ δ H x = none := if_pos h
theorem cut_ne (h : ¬ ownd σ δ x) : cut σ δ H x = H x := if_neg h
theorem cut_some {u : HO} (h : cut σ δ H x = some u) : ¬ ownd σ δ x ∧ H x = some u := by
  by_cases q : ownd σ δ x
  · rw [cut_own q] at h; cases h
  · exact ⟨q, by rw [cut_ne q] at h; exact h⟩
theorem EnvOk.nown (e : EnvOk c Hs G H σ δ) (h : ownd σ δ x) : Hs x = none ∧ G x = none ∧ H x ≠ none := by
  obtain ⟨i, d, h1, h2⟩ := h
  obtain ⟨r, g1, g2, g3, g4⟩ := e.own i d h1
  rw [h2] at g1
  cases g1
  exact ⟨g2, g3, g4.there⟩
theorem Adv.base (v : Adv c f0 Gs Hs G H) (e : EnvOk c Hs G H σ δ) : Bs c G (cut σ δ H) G H := by
  have no : ∀ x, G x ≠ none → ¬ ownd σ δ x := fun x g o => g (e.nown o).2.1
  have ht : ∀ x, c.T x → ¬ ownd σ δ x := fun x t o => v.s0.iv.town t (e.nown o).1
  have s1 : Sub c G (cut σ δ H) := by
    refine ⟨fun a u h => ?_, fun t q h => ?_, v.sub.tg, fun t s ns h => ?_⟩
    · exact (v.sub.pl a u h).to (cut_ne (no a (by rw [h]; exact fun z => nomatch z)))
    · obtain ⟨x, y, h0, h1⟩ := v.sub.iv t q h
      exact ⟨x, y, h0, by rw [cut_ne (ht t ⟨q, h⟩)]; exact h1⟩
    · obtain ⟨h1, h2⟩ := v.sub.sc t s ns h
      refine ⟨?_, h2⟩
      rcases (v.s0.sc t s ns h).1 with z | ⟨z, _⟩
      · exact .inl z
      · have ns : ¬ ownd σ δ s := fun o => by
          rcases z with z | ⟨_, z⟩ <;> rw [(e.nown o).1] at z <;> cases z
        refine h1.imp id fun ⟨r, g⟩ => ⟨?_, g⟩
        rcases r with r | ⟨o, r⟩
        · exact .inl (by rw [cut_ne ns]; exact r)
        · exact .inr ⟨o, by rw [cut_ne ns]; exact r⟩
  exact ⟨s1, ⟨fun _ _ h => h, v.sub, fun a u _ _ h => (cut_some h).2, fun _ _ h => h, fun a o u h => (cut_some h).2⟩⟩
/-- what a pure part does, from the cut heap -/
theorem Adv.after (v : Adv c f0 Gs Hs G H) (e : EnvOk c Hs G H σ δ) (s : Step c G (cut σ δ H) G1 H1) : Adv c f0 Gs Hs G1 H1 := by
  have nh : ∀ x, Hs x ≠ none → ¬ ownd σ δ x := fun x h o => h (e.nown o).1
  have lv : ∀ x, Hs x ≠ none → H x ≠ none := fun x h z => h (v.live x z)
  refine ⟨v.s0, fun a u h => s.gs a u (v.gs a u h), s.sub, fun a u t nf g h => ?_, fun a n g => ?_, fun a o u h => ?_, fun a h => ?_⟩
  · have hn : Hs a ≠ none := by rw [h]; exact fun z => nomatch z
    exact s.keep a u t (v.fr a hn g) (by rw [cut_ne (nh a hn)]; exact v.keep a u t nf g h)
  · exact s.fr a (by rw [cut_ne (nh a n)]; exact lv a n) (v.fr a n g)
  · have hn : Hs a ≠ none := by rw [h]; exact fun z => nomatch z
    exact s.fz a o u (by rw [cut_ne (nh a hn)]; exact v.fz a o u h)
  · cases q : Hs a with
    | none => rfl
    | some u =>
      have hn : Hs a ≠ none := by rw [q]; exact fun z => nomatch z
      have := s.back h
      rw [cut_ne (nh a hn)] at this
      exact (lv a hn this).elim
theorem Off.after {K : PySem.W.Frag} {C a : Addr} {S : Sto} {σ' : L2.St} {δ' : List Sl} (o : Off σ δ f) (h : StF K C G H a S f) (e' : EnvOk c (cut σ δ H) G1 H1 σ' δ') : Off σ' δ' f := fun i d r h1 h2 m => by
  obtain ⟨r', g1, g2, _, _⟩ := e'.own i d h1
  rw [h2] at g1
  cases g1
  by_cases q : ownd σ δ r
  · obtain ⟨j, d', q1, q2⟩ := q
    exact o j d' r q1 q2 m
  · rw [cut_ne q] at g2; exact h.there r m g2
theorem StF.after {K : PySem.W.Frag} {C a : Addr} {S : Sto} (h : StF K C G H a S f) (o : Off σ δ f) (nt : ∀ x ∈ f, ¬ c.T x) (s : Step c G (cut σ δ H) G1 H1) : StF K C G1 H1 a S f := by
  have no : ∀ x ∈ f, ¬ ownd σ δ x := fun x hx ⟨i, d, h1, h2⟩ => o i d x h1 h2 hx
  exact h.keep s.ge (fun x hx u e => s.keep x u (nt x hx) (h.free x hx) (by rw [cut_ne (no x hx)]; exact e)) fun x hx => s.fr x (by rw [cut_ne (no x hx)]; exact h.there x hx) (h.free x hx)
end
end Mp
set_option maxRecDepth 100000
set_option maxHeartbeats 4000000
namespace Mp
open PySem L2
/-! ### a world of stores -/
structure WF (K : PySem.W.Frag) (C : Addr) (G H : Hp) (ws : List (Addr × Sto)) (fs : List (List Addr)) : Prop where
  len : fs.length = ws.length
  nd : fs.flatten.Nodup
  at' : ∀ (i : Nat) (p : Addr × Sto) (f : List Addr), ws[i]? = some p → fs[i]? = some f → StF K C G H p.1 p.2 f
section
variable {c : Cn} {K : PySem.W.Frag} {C : Addr} {G H G1 H1 : Hp} {ws : List (Addr × Sto)} {fs : List (List Addr)} {σ : L2.St} {δ : List Sl}
theorem WF.own (w : WF K C G H ws fs) {x : Addr} (h : x ∈ fs.flatten) : ∃ (p : Addr × Sto) (f : List Addr), x ∈ f ∧ StF K C G H p.1 p.2 f := by
  obtain ⟨f, hf, hx⟩ := List.mem_flatten.mp h
  obtain ⟨i, hi, e⟩ := List.mem_iff_getElem.mp hf
  have hw : i < ws.length := by rw [← w.len]; exact hi
  exact ⟨ws[i], f, hx, w.at' i ws[i] f (by simp [hw]) (by rw [← e]; simp [hi])⟩
theorem WF.there (w : WF K C G H ws fs) {x : Addr} (h : x ∈ fs.flatten) : H x ≠ none := let ⟨_, _, hx, s⟩ := w.own h; s.there x hx
theorem WF.free (w : WF K C G H ws fs) {x : Addr} (h : x ∈ fs.flatten) : G x = none := let ⟨_, _, hx, s⟩ := w.own h; s.free x hx
theorem mem_flat {f : List Addr} {x : Addr} {i : Nat} (h : fs[i]? = some f) (hx : x ∈ f) : x ∈ fs.flatten := List.mem_flatten.mpr ⟨f, List.mem_of_getElem? h, hx⟩
theorem WF.keep (w : WF K C G H ws fs) (g : Ge G G1) (k : ∀ x ∈ fs.flatten, ∀ u, H x = some u → H1 x = some u) (n : ∀ x ∈ fs.flatten, G1 x = none) : WF K C G1 H1 ws fs :=
  ⟨w.len, w.nd, fun i p f h1 h2 => (w.at' i p f h1 h2).keep g (fun x hx => k x (mem_flat h2 hx)) fun x hx => n x (mem_flat h2 hx)⟩
end
/-- where a body stands: from its start (Gs, Hs) to (G, H), with the stores ws -/
structure Wd (c : Cn) (C : Addr) (f0 : List Addr) (Gs Hs G H : Hp) (ws : List (Addr × Sto)) (fs : List (List Addr)) : Prop where
  v : Adv c f0 Gs Hs G H
  w : WF c.K C G H ws fs
  g : Grow f0 fs.flatten Hs
  t : ∀ x ∈ fs.flatten, ¬ c.T x
  z : ∀ t x ns, c.tw = some (t, x, ns) → KSeq c.K x ns ∨ x ∉ f0
section
variable {c : Cn} {C : Addr} {f0 : List Addr} {Gs Hs G H G1 H1 : Hp} {ws : List (Addr × Sto)} {fs : List (List Addr)} {σ : L2.St} {δ : List Sl}
theorem Wd.sub (w : Wd c C f0 Gs Hs G H ws fs) : Sub c G H := w.v.sub
theorem Wd.step (w : Wd c C f0 Gs Hs G H ws fs) (s : Step c G H G1 H1) : Wd c C f0 Gs Hs G1 H1 ws fs :=
  ⟨w.v.trans (f' := []) (fun x h => nomatch h) (Step.adv w.sub s), w.w.keep s.ge (fun x hx u e => s.keep x u (w.t x hx) (w.w.free hx) e) (fun x hx => s.fr x (w.w.there hx) (w.w.free hx)), w.g, w.t, w.z⟩
end
/-! ### readings, with stores -/
/-- an expression; it may change the stores, or raise -/
def DEM (c : Cn) (C : Addr) (W : WX) (te : TE) (δ : List Sl) (ws : List (Addr × Sto)) (P : D → List (Addr × Sto) → Prop) (PX : ExD → List (Addr × Sto) → Prop) : Prop :=
  ∀ (f0 : List Addr) (Gs Hs G H : Hp) (σ : L2.St) (Q : VK) (fs : List (List Addr)), Wd c C f0 Gs Hs G H ws fs → EnvOk c Hs G H σ δ → Off σ δ fs.flatten →
    (∀ (d : D) (v : V) (ws' : List (Addr × Sto)) (G' H' : Hp) (fs' : List (List Addr)), P d ws' → Wd c C f0 Gs Hs G' H' ws' fs' → EnvOk c Hs G' H' σ δ → Off σ δ fs'.flatten → Ge G G' → Has c.K G' d v → Q v H') →
    (∀ (x : ExD) (ws' : List (Addr × Sto)) (G' H' : Hp) (fs' : List (List Addr)), PX x ws' → Wd c C f0 Gs Hs G' H' ws' fs' → EnvOk c Hs G' H' σ δ → Off σ δ fs'.flatten → FinX c.K G' H' (fun cls d H => W cls d σ H) x) → te σ H Q
def FinM (c : Cn) (Hs G H : Hp) (fs : List (List Addr)) (D : Ends) : Out → Prop
  | .nx δ => ∀ σ, EnvOk c Hs G H σ δ → Off σ δ fs.flatten → D.nx σ H
  | .rt d => ∀ v, Has c.K G d v → D.rt v H
  | .bk δ => ∀ σ, EnvOk c Hs G H σ δ → Off σ δ fs.flatten → D.bk σ H
  | .ct δ => ∀ σ, EnvOk c Hs G H σ δ → Off σ δ fs.flatten → D.ct σ H
def DSM (c : Cn) (C : Addr) (W : WX) (ts : TS) (δ : List Sl) (ws : List (Addr × Sto)) (P : Out → List (Addr × Sto) → Prop) (PX : ExD → List Sl → List (Addr × Sto) → Prop) : Prop :=
  ∀ (f0 : List Addr) (Gs Hs G H : Hp) (σ : L2.St) (Dn : Ends) (fs : List (List Addr)), Wd c C f0 Gs Hs G H ws fs → EnvOk c Hs G H σ δ → Off σ δ fs.flatten →
    (∀ (o : Out) (ws' : List (Addr × Sto)) (G' H' : Hp) (fs' : List (List Addr)), P o ws' → Wd c C f0 Gs Hs G' H' ws' fs' → FinM c Hs G' H' fs' Dn o) →
    (∀ (x : ExD) (δ' : List Sl) (ws' : List (Addr × Sto)) (σ' : L2.St) (G' H' : Hp) (fs' : List (List Addr)), PX x δ' ws' → Wd c C f0 Gs Hs G' H' ws' fs' → EnvOk c Hs G' H' σ' δ' → FinX c.K G' H' (fun cls d H => W cls d σ' H) x) → ts Dn σ H
section
variable {c : Cn} {C : Addr} {W : WX} {te ta tb : TE} {tt tu : TT} {ts tv : TS} {δ : List Sl} {ws : List (Addr × Sto)} {P : D → List (Addr × Sto) → Prop} {B : Bool → List (Addr × Sto) → Prop} {R : Out → List (Addr × Sto) → Prop} {PX : ExD → List (Addr × Sto) → Prop} {PS : ExD → List Sl → List (Addr × Sto) → Prop}
theorem DEM.imp {P' : D → List (Addr × Sto) → Prop} (h : DEM c C W te δ ws P PX) (i : ∀ d ws, P d ws → P' d ws) : DEM c C W te δ ws P' PX := fun f0 Gs Hs G H σ Q fs w e o k kx => h f0 Gs Hs G H σ Q fs w e o (fun d v ws' G' H' fs' p => k d v ws' G' H' fs' (i d ws' p)) kx
theorem Off.set {f : List Addr} {σ : L2.St} {i : Nat} {d : D} {v : V} (o : Off σ δ f) : Off (σ.set i (some v)) (δ.set i (.dat d)) f := fun j x r h1 h2 => by
  rcases get_set h1 with ⟨_, z, _⟩ | ⟨ne, h1⟩
  · cases z
  · rw [List.getElem?_set_ne (Ne.symm ne)] at h2; exact o j x r h1 h2
/-! operators, tests -/
end
/-! ### promises of methods -/
/-- a method, or a def whose first argument is a store: from the store's state to its next and an answer -/
def SpM (K : PySem.W.Frag) (C : Addr) (R : List D → Sto → D ⊕ ExD → Sto → Prop) : Sp := fun vs H Q E => ∃ (G : Hp) (ds : List D) (a : Addr) (S S' : Sto) (f : List Addr) (us : List V) (o : D ⊕ ExD), Sub ⟨K, none⟩ G H ∧ vs = .ref a :: us ∧ HasL K G ds us ∧ StF K C G H a S f ∧ R ds S o S' ∧
  (∀ (d : D) (v : V) (G' H' : Hp) (f' : List Addr), o = .inl d → Adv ⟨K, none⟩ f G H G' H' → StF K C G' H' a S' f' → Grow f f' H → Has K G' d v → Q v H') ∧
  (∀ (x : ExD) (G' H' : Hp) (f' : List Addr), o = .inr x → Adv ⟨K, none⟩ f G H G' H' → StF K C G' H' a S' f' → Grow f f' H → FinX K G' H' E x)
end Mp
set_option maxRecDepth 100000
set_option maxHeartbeats 4000000
namespace Mp
open PySem L2
section
variable {c : Cn} {C a : Addr} {f f' f0 : List Addr} {Gs Hs G H G1 H1 : Hp} {ws : List (Addr × Sto)} {fs : List (List Addr)} {σ : L2.St} {δ : List Sl} {S S' : Sto}
theorem flat_set {j : Nat} (hj : fs[j]? = some f) : ∃ l1 l2, fs = l1 ++ f :: l2 ∧ fs.set j f' = l1 ++ f' :: l2 ∧ l1.length = j := by
  obtain ⟨h, e⟩ := List.getElem?_eq_some_iff.mp hj
  refine ⟨fs.take j, fs.drop (j + 1), ?_, ?_, by rw [List.length_take]; omega⟩
  · rw [← e, List.getElem_cons_drop, List.take_append_drop]
  · rw [List.set_eq_take_append_cons_drop, if_pos h]
/-- a store of the world has changed -/
theorem Wd.put (w : Wd c C f0 Gs Hs G H ws fs) {j : Nat} (hw : ws[j]? = some (a, S)) (hf : fs[j]? = some f) (v : Adv c f G H G1 H1) (s : StF c.K C G1 H1 a S' f') (g : Grow f f' H) : Wd c C f0 Gs Hs G1 H1 (ws.set j (a, S')) (fs.set j f') := by
  obtain ⟨l1, l2, e1, e2, e3⟩ := flat_set (f' := f') hf
  have fl : ∀ x ∈ f, x ∈ fs.flatten := fun x hx => mem_flat hf hx
  have nd := w.w.nd
  rw [e1, List.flatten_append, List.flatten_cons] at nd
  have ndf' : f'.Nodup := by obtain ⟨_, _, _, _, _, _, _, e, n, _⟩ := s; rw [e] at n ⊢; exact n
  have oth : ∀ x, x ∈ l1.flatten ∨ x ∈ l2.flatten → x ∈ fs.flatten ∧ x ∉ f := fun x hx => by
    rw [e1, List.flatten_append, List.flatten_cons]
    rw [List.nodup_append] at nd
    obtain ⟨n1, n2, n3⟩ := nd
    rw [List.nodup_append] at n2
    obtain ⟨n4, n5, n6⟩ := n2
    rcases hx with hx | hx
    · exact ⟨by simp [hx], fun m => n3 x hx x (by simp [m]) rfl⟩
    · exact ⟨by simp [hx], fun m => n6 x m x hx rfl⟩
  have nf' : ∀ x, x ∈ l1.flatten ∨ x ∈ l2.flatten → x ∉ f' := fun x hx m => by
    obtain ⟨h1, h2⟩ := oth x hx
    rcases g x m with z | z
    · exact h2 z
    · exact w.w.there h1 z
  have memS : ∀ x, x ∈ (fs.set j f').flatten ↔ (x ∈ l1.flatten ∨ x ∈ l2.flatten) ∨ x ∈ f' := fun x => by
    rw [e2, List.flatten_append, List.flatten_cons, List.mem_append, List.mem_append]
    constructor
    · rintro (h | h | h)
      · exact .inl (.inl h)
      · exact .inr h
      · exact .inl (.inr h)
    · rintro ((h | h) | h)
      · exact .inl h
      · exact .inr (.inr h)
      · exact .inr (.inl h)
  refine ⟨w.v.trans (fun x hx => w.g x (fl x hx)) v, ⟨by rw [List.length_set, List.length_set]; exact w.w.len, ?_, fun i p fi h1 h2 => ?_⟩, fun x hx => ?_, fun x hx => ?_, w.z⟩
  · rw [e2, List.flatten_append, List.flatten_cons]
    rw [List.nodup_append] at nd ⊢
    obtain ⟨n1, n2, n3⟩ := nd
    rw [List.nodup_append] at n2
    obtain ⟨n4, n5, n6⟩ := n2
    refine ⟨n1, ?_, fun x hx y hy e => ?_⟩
    · rw [List.nodup_append]
      exact ⟨ndf', n5, fun x hx y hy e => by subst e; exact nf' x (.inr hy) hx⟩
    · subst e
      rcases List.mem_append.mp hy with m | m
      · exact nf' x (.inl hx) m
      · exact n3 x hx x (by simp [m]) rfl
  · by_cases e : i = j
    · subst e
      have hl : i < ws.length := (List.getElem?_eq_some_iff.mp hw).1
      have hl2 : i < fs.length := (List.getElem?_eq_some_iff.mp hf).1
      rw [List.getElem?_set_self hl] at h1
      rw [List.getElem?_set_self hl2] at h2
      cases h1; cases h2
      exact s
    · rw [List.getElem?_set_ne (Ne.symm e)] at h1 h2
      have q := w.w.at' i p fi h1 h2
      have inOth : ∀ x ∈ fi, x ∈ l1.flatten ∨ x ∈ l2.flatten := fun x hx => by
        rw [e1] at h2
        by_cases lt : i < l1.length
        · rw [List.getElem?_append_left lt] at h2
          exact .inl (List.mem_flatten.mpr ⟨fi, List.mem_of_getElem? h2, hx⟩)
        · rw [List.getElem?_append_right (by omega)] at h2
          obtain ⟨m, hm⟩ : ∃ m, i - l1.length = m + 1 := ⟨i - l1.length - 1, by omega⟩
          rw [hm, List.getElem?_cons_succ] at h2
          exact .inr (List.mem_flatten.mpr ⟨fi, List.mem_of_getElem? h2, hx⟩)
      exact q.keep v.ge (fun x hx u e => v.keep x u (w.t x (oth x (inOth x hx)).1) (oth x (inOth x hx)).2 (q.free x hx) e) fun x hx => v.fr x (q.there x hx) (q.free x hx)
  · rcases (memS x).1 hx with h | h
    · exact w.g x (oth x h).1
    · rcases g x h with z | z
      · exact w.g x (fl x z)
      · exact .inr (w.v.live x z)
  · rcases (memS x).1 hx with h | h
    · exact w.t x (oth x h).1
    · rcases g x h with z | z
      · exact w.t x (fl x z)
      · exact not_town w.sub.iv z
theorem Off.put (o : Off σ δ fs.flatten) (e : EnvOk c Hs G H σ δ) {j : Nat} (hf : fs[j]? = some f) (g : Grow f f' H) : Off σ δ (fs.set j f').flatten := fun i d r h1 h2 m => by
  obtain ⟨l1, l2, e1, e2, e3⟩ := flat_set (f' := f') hf
  obtain ⟨r', g1, g2, g3, g4⟩ := e.own i d h1
  rw [h2] at g1
  cases g1
  have no := o i d r h1 h2
  rw [e1, List.flatten_append, List.flatten_cons, List.mem_append, List.mem_append, not_or, not_or] at no
  rw [e2, List.flatten_append, List.flatten_cons, List.mem_append, List.mem_append] at m
  rcases m with m | m | m
  · exact no.1 m
  · rcases g r m with z | z
    · exact no.2.1 z
    · exact g4.there z
  · exact no.2.2 m
/-- the script is not in a store -/
theorem Wd.scr (w : Wd c C f0 Gs Hs G H ws fs) {j : Nat} (hf : fs[j]? = some f) : ∀ t x ns, c.tw = some (t, x, ns) → KSeq c.K x ns ∨ x ∉ f := fun t x ns h => by
  rcases w.z t x ns h with z | z
  · exact .inl z
  rcases (w.v.s0.sc t x ns h).1 with q | ⟨q, _⟩
  · exact .inl q
  · refine .inr fun m => ?_
    rcases w.g x (mem_flat hf m) with y | y
    · exact z y
    · rcases q with q | ⟨_, q⟩ <;> rw [y] at q <;> cases q
end
/-! ### calls of methods -/
end Mp
set_option maxRecDepth 100000
set_option maxHeartbeats 4000000
namespace Mp
open PySem L2
/-! ### a pure expression that reads stores -/
def DEP (c : Cn) (C : Addr) (te : TE) (δ : List Sl) (ws : List (Addr × Sto)) (P : D → Prop) : Prop :=
  ∀ (f0 : List Addr) (Gs Hs G H : Hp) (σ : L2.St) (Q : VK) (fs : List (List Addr)), Wd c C f0 Gs Hs G H ws fs → EnvOk c Hs G H σ δ → Off σ δ fs.flatten → KE c G H P Q → te σ H Q
/-- the class of the stores -/
structure StC (K : PySem.W.Frag) (C : Addr) : Prop where
  cl : Cls K C
  n1 : NoAttr K C "states"
  n2 : NoAttr K C "patches"
  n3 : NoAttr K C "undone"
section
variable {c : Cn} {C a : Addr} {W : WX} {te ta tb : TE} {tr : TA} {δ : List Sl} {ws : List (Addr × Sto)} {P : D → Prop} {PM : D → List (Addr × Sto) → Prop} {R : Out → List (Addr × Sto) → Prop} {PX : ExD → List (Addr × Sto) → Prop} {S : Sto} {i j : Nat}
theorem DEP.imp {P' : D → Prop} (h : DEP c C te δ ws P) (i : ∀ d, P d → P' d) : DEP c C te δ ws P' := fun f0 Gs Hs G H σ Q fs w e o k => h f0 Gs Hs G H σ Q fs w e o fun d v G' H' p => k d v G' H' (i d p)
/-! the three lists -/
inductive Fl where
  | st | pa | un
def Fl.name : Fl → Str
  | .st => "states"
  | .pa => "patches"
  | .un => "undone"
def Sto.get (S : Sto) : Fl → List D
  | .st => S.st
  | .pa => S.pa
  | .un => S.un
def Sto.put (S : Sto) (xs : List D) : Fl → Sto
  | .st => { S with st := xs }
  | .pa => { S with pa := xs }
  | .un => { S with un := xs }
theorem StC.no {K : PySem.W.Frag} (T : StC K C) (l : Fl) : NoAttr K C l.name := by
  cases l
  · exact T.n1
  · exact T.n2
  · exact T.n3
/-- the list l of a store: where it stands -/
theorem StF.fld {K : PySem.W.Frag} {G H : Hp} {f : List Addr} (h : StF K C G H a S f) (l : Fl) : ∃ (dx r : Addr) (vs : List V) (fl : List (Str × V)), H a = some (.ins C dx fl) ∧ fl.lookup l.name = some (.ref r) ∧ H r = some (.lst vs) ∧ HasL K G (S.get l) vs ∧ r ∈ f ∧ G r = none ∧
    ∀ (G1 H1 : Hp) (xs : List D) (us : List V), Ge G G1 → (∀ x ∈ f, x ≠ r → ∀ u, H x = some u → H1 x = some u) → H1 r = some (.lst us) → HasL K G1 xs us → (∀ x ∈ f, G1 x = none) → StF K C G1 H1 a (S.put xs l) f := by
  obtain ⟨dx, r1, r2, r3, v1, v2, v3, rfl, nd, h1, h2, h3, h4, h5, l1, l2, l3, hg⟩ := h
  have nd' := nd
  simp only [List.nodup_cons, List.mem_cons, List.not_mem_nil, or_false, not_or] at nd'
  obtain ⟨⟨n1, n2, n3, n4⟩, ⟨n5, n6, n7⟩, ⟨n8, n9⟩, n10, _⟩ := nd'
  cases l with
  | st => exact ⟨dx, r1, v1, _, h1, rfl, h3, l1, by simp, hg r1 (by simp), fun G1 H1 xs us g k e hx hn => ⟨dx, r1, r2, r3, us, v2, v3, rfl, nd, k _ (by simp) n2 _ h1, k _ (by simp) n5 _ h2, e, k _ (by simp) (Ne.symm n8) _ h4, k _ (by simp) (Ne.symm n9) _ h5, hx, l2.mono g, l3.mono g, hn⟩⟩
  | pa => exact ⟨dx, r2, v2, _, h1, rfl, h4, l2, by simp, hg r2 (by simp), fun G1 H1 xs us g k e hx hn => ⟨dx, r1, r2, r3, v1, us, v3, rfl, nd, k _ (by simp) n3 _ h1, k _ (by simp) n6 _ h2, k _ (by simp) n8 _ h3, e, k _ (by simp) (Ne.symm n10) _ h5, l1.mono g, hx, l3.mono g, hn⟩⟩
  | un => exact ⟨dx, r3, v3, _, h1, rfl, h5, l3, by simp, hg r3 (by simp), fun G1 H1 xs us g k e hx hn => ⟨dx, r1, r2, r3, v1, v2, us, rfl, nd, k _ (by simp) n4 _ h1, k _ (by simp) n7 _ h2, k _ (by simp) n9 _ h3, k _ (by simp) n10 _ h4, e, l1.mono g, l2.mono g, hx, hn⟩⟩
theorem Wd.at {f0 : List Addr} {Gs Hs G H : Hp} {fs : List (List Addr)} (w : Wd c C f0 Gs Hs G H ws fs) (hw : ws[j]? = some (a, S)) : ∃ f, fs[j]? = some f ∧ StF c.K C G H a S f := by
  have hj : j < fs.length := by rw [w.w.len]; exact (List.getElem?_eq_some_iff.mp hw).1
  exact ⟨fs[j], by simp [hj], w.w.at' j _ _ hw (by simp [hj])⟩
end
end Mp
set_option maxRecDepth 100000
set_option maxHeartbeats 4000000
namespace Mp
open PySem L2
section
variable {c : Cn} {C a r : Addr} {W : WX} {te : TE} {δ : List Sl} {ws : List (Addr × Sto)} {PM : D → List (Addr × Sto) → Prop} {R : Out → List (Addr × Sto) → Prop} {PX : ExD → List (Addr × Sto) → Prop} {PS : ExD → List Sl → List (Addr × Sto) → Prop} {S : Sto} {i j : Nat} {f f0 : List Addr} {Gs Hs G H G1 H1 : Hp} {fs : List (List Addr)} {σ : L2.St}
theorem Adv.seq (s : Adv c f G H G1 H1) {G2 H2 : Hp} (t : Adv c f G1 H1 G2 H2) : Adv c f G H G2 H2 := s.trans Grow.refl t
end
end Mp
set_option maxRecDepth 100000
set_option maxHeartbeats 4000000
namespace Mp
open PySem L2
/-! ### from a method's body to its promise -/
def slotsM (N : List Str) (a : Addr) (ds : List D) : List Sl := .raw (.ref a) :: (ds.map .dat ++ List.replicate (N.length - 1 - ds.length) .un)
theorem env_startM {c : Cn} {G H : Hp} {N : List Str} {ds : List D} {us : List V} {a : Addr} (h : HasL c.K G ds us) (hl : ds.length + 1 ≤ N.length) : EnvOk c H G H (L2.start N (.ref a :: us)) (slotsM N a ds) ∧ ∀ f, Off (L2.start N (.ref a :: us)) (slotsM N a ds) f := by
  have hv := h.len
  have low : ∀ (i : Nat) (x : Sl), (slotsM N a ds)[i]? = some x → (i = 0 ∧ x = .raw (.ref a)) ∨ (∃ j d, i = j + 1 ∧ x = .dat d ∧ ds[j]? = some d) ∨ x = .un := fun i x e => by
    unfold slotsM at e
    match i, e with
    | 0, e => exact .inl ⟨rfl, by cases e; rfl⟩
    | j + 1, e =>
      rw [List.getElem?_cons_succ] at e
      by_cases hj : j < ds.length
      · rw [List.getElem?_append_left (by simpa using hj), List.getElem?_map] at e
        cases q : ds[j]? with
        | none => rw [q] at e; cases e
        | some d => rw [q] at e; cases e; exact .inr (.inl ⟨j, d, rfl, rfl, q⟩)
      · rw [List.getElem?_append_right (by simpa using hj), List.getElem?_replicate] at e
        split at e
        · cases e; exact .inr (.inr rfl)
        · cases e
  have sig : ∀ (j : Nat) (d : D), ds[j]? = some d → ∃ v, (L2.start N (.ref a :: us))[j + 1]? = some (some v) ∧ Has c.K G d v := fun j d e => by
    obtain ⟨v, e1, hv1⟩ := h.get e
    refine ⟨v, ?_, hv1⟩
    have hj : j < us.length := by rw [hv]; exact (List.getElem?_eq_some_iff.mp e).1
    unfold L2.start
    rw [List.getElem?_append_left (by simp; omega), List.map_cons, List.getElem?_cons_succ, List.getElem?_map, e1]; rfl
  refine ⟨⟨by unfold L2.start slotsM; simp; omega, fun i d e => ?_, fun i d e => ?_, fun i v e => ?_, fun i j d e r _ p => ?_⟩, fun f i d r p => ?_⟩
  · rcases low i _ e with ⟨_, z⟩ | ⟨j, d', rfl, z, q⟩ | z
    · cases z
    · cases z; exact sig j d q
    · cases z
  · rcases low i _ e with ⟨_, z⟩ | ⟨j, d', rfl, z, q⟩ | z <;> cases z
  · rcases low i _ e with ⟨rfl, z⟩ | ⟨j, d', rfl, z, q⟩ | z
    · cases z; rfl
    · cases z
    · cases z
  · rcases low i _ p with ⟨_, z⟩ | ⟨j, d', rfl, z, q⟩ | z <;> cases z
  · rcases low i _ p with ⟨_, z⟩ | ⟨j, d', rfl, z, q⟩ | z <;> cases z
def GivesM (a : Addr) (S' : Sto) : D ⊕ ExD → Out → List (Addr × Sto) → Prop
  | .inl d => fun o ws => Gives d o ∧ ws = [(a, S')]
  | .inr _ => fun _ _ => False
def RaisesM (a : Addr) (S' : Sto) : D ⊕ ExD → ExD → List Sl → List (Addr × Sto) → Prop
  | .inl _ => fun _ _ _ => False
  | .inr x => fun y _ ws => y = x ∧ ws = [(a, S')]
section
variable {K : PySem.W.Frag} {C : Addr} {N : List Str} {R : List D → Sto → D ⊕ ExD → Sto → Prop} {t : WX → TS}
theorem meth_body (hl : ∀ ds S o S', R ds S o S' → ds.length + 1 ≤ N.length) (h : ∀ W a ds S o S', R ds S o S' → DSM ⟨K, none⟩ C W (t W) (slotsM N a ds) [(a, S)] (GivesM a S' o) (RaisesM a S' o)) {vs : List V} {H : Hp} {Q : VK} {E : XK} (q : SpM K C R vs H Q E) :
    t (wE E) { nx := fun _ H' => Q .non H', rt := Q } (L2.start N vs) H := by
  obtain ⟨G, ds, a, S, S', f, us, o, s, rfl, hu, sf, r, k, kx⟩ := q
  obtain ⟨e0, off⟩ := env_startM (c := ⟨K, none⟩) (N := N) (a := a) (H := H) hu (hl ds S o S' r)
  have w : Wd ⟨K, none⟩ C f G H G H [(a, S)] [f] := by
    refine ⟨.refl s, ⟨rfl, ?_, fun i p g h1 h2 => ?_⟩, fun x hx => .inl (by simpa using hx), (fun x _ ⟨q, z⟩ => by cases z), (fun t x ns z => by cases z)⟩
    · obtain ⟨_, _, _, _, _, _, _, e, n, _⟩ := sf
      simpa using n
    · match i, h1, h2 with
      | 0, h1, h2 => cases h1; cases h2; exact sf
  have fin : ∀ {G' H' : Hp} {fs' : List (List Addr)}, Wd ⟨K, none⟩ C f G H G' H' [(a, S')] fs' → ∃ f', Adv ⟨K, none⟩ f G H G' H' ∧ StF K C G' H' a S' f' ∧ Grow f f' H := fun {G' H' fs'} w' => by
    obtain ⟨f', hf, s'⟩ := w'.at (j := 0) rfl
    exact ⟨f', w'.v, s', fun x hx => w'.g x (mem_flat hf hx)⟩
  refine h (wE E) a ds S o S' r f G H G H _ _ [f] w e0 (off _) (fun out ws' G' H' fs' p w' => ?_) fun x δ' ws' σ' G' H' fs' p w' _ => ?_
  · cases o with
    | inl d =>
      obtain ⟨p, rfl⟩ := p
      obtain ⟨f', v', s', g'⟩ := fin w'
      cases out with
      | rt d' =>
        have p : d' = d := p
        subst p
        exact fun v hv => k _ v G' H' f' rfl v' s' g' hv
      | nx δ' =>
        have p : d = .non := p
        subst p
        exact fun σ' _ _ => k _ .non G' H' f' rfl v' s' g' (by unfold Has; rfl)
      | bk δ' => exact False.elim p
      | ct δ' => exact False.elim p
    | inr x => exact False.elim p
  · cases o with
    | inl d => exact False.elim p
    | inr y =>
      obtain ⟨p, rfl⟩ := p
      subst p
      obtain ⟨f', v', s', g'⟩ := fin w'
      exact kx _ G' H' f' rfl v' s' g'
end
section
variable {P : Program} {w : World} {K : PySem.W.Frag} {mg : Str → Option Value} {base : Heap} {C : Addr}
/-- a method, or a def that is handed a store -/
theorem FunD.meth {x q : Str} {st : Stmt} {f : Addr} {fd : FuncData} {N ps : List Str} {k : Nat} {R : List D → Sto → D ⊕ ExD → Sto → Prop} {t : WX → TS} (F : FunD K x q (defArgs st) (defBody st) (defScope st) [] [] f fd) (S : FnScope N ps (defScope st)) (hl : ∀ ds S o S', R ds S o S' → ds.length + 1 = ps.length)
    (h : ∀ W a ds S o S', R ds S o S' → DSM ⟨K, none⟩ C W (t W) (slotsM N a ds) [(a, S)] (GivesM a S' o) (RaisesM a S' o))
    (hb : ∀ (cdv : Value) (A : Around) (outer : List Env) (s : Shared) (H : Hp) (E : XK), Room k (A.deeper (PyProof.Rows.envOfC q (defScope st) s.heap.objs.size f cdv)) → PSs (cxOf (L2.CX P w) P w K mg base N q (defScope st) f cdv A outer s H E) (defBody st) (t (wE E))) :
    FnOk P w K mg base (L2.CX P w) (k + 1) f fd ps (SpM K C R) := by
  have hN : ps.length ≤ N.length := by have := congrArg List.length S.pre; rw [List.length_take] at this; omega
  refine F.ok S (fun vs H Q E q => ?_) fun cdv A outer s H vs Q E hr q => ⟨t (wE E), hb cdv A outer s H E hr, meth_body (fun ds S o S' r => by rw [hl ds S o S' r]; exact hN) h q⟩
  obtain ⟨G, ds, a, S, S', f, us, o, _, rfl, hv, _, r, _⟩ := q
  rw [List.length_cons, hv.len, hl ds S o S' r]
/-- what a caller knows of a method -/
structure ClM (P : Program) (w : World) (K : PySem.W.Frag) (mg : Str → Option Value) (base : Heap) (C : Addr) (m : Str) (k : Nat) (sp : Sp) : Prop where
  cl : Cls K C
  ex : ∃ (f : Addr) (fd : FuncData) (ps : List Str), FnOk P w K mg base (L2.CX P w) k f fd ps sp ∧ Binds K fd ps [] ∧ Meth K C m f
theorem ClM.mono {m : Str} {j k : Nat} {sp : Sp} (T : ClM P w K mg base C m j sp) (h : j ≤ k) : ClM P w K mg base C m k sp :=
  let ⟨f, fd, ps, F, r⟩ := T.ex
  ⟨T.cl, f, fd, ps, F.mono h, r⟩
end
end Mp
set_option maxRecDepth 100000
set_option maxHeartbeats 4000000
namespace Mp
open PySem L2
end Mp
set_option maxRecDepth 100000
set_option maxHeartbeats 4000000
namespace Mp
open PySem L2
section
variable {c : Cn} {δ : List Sl} {wi : TI} {g : TG} {tt : TT} {te tk : TE} {vs js : List Nat} {P : D → Prop}
theorem dt_yes {P : Bool → Prop} (p : P true) : DT c tYes δ P := fun G0 H0 G H σ Q b e k => k true G H p (.refl b.sub)
theorem it_t {b : Bool} {A B : Prop} (e : b = true) (h : A) : if b = true then A else B := by rw [if_pos e]; exact h
theorem it_f {b : Bool} {A B : Prop} (e : b = false) (h : B) : if b = true then A else B := by rw [e, if_neg (by decide)]; exact h
theorem it_c {b : Bool} {A B : Prop} (h1 : b = true → A) (h2 : b = false → B) : if b = true then A else B := by
  cases b with
  | true => exact it_t rfl (h1 rfl)
  | false => exact it_f rfl (h2 rfl)
theorem take_snoc {α β : Type} {xs : List α} {f : α → β} {i : Nat} {d : α} (h : xs[i]? = some d) : (xs.take (i + 1)).map f = (xs.take i).map f ++ [f d] := by
  rw [List.take_succ, h, List.map_append]; rfl
/-- [f x for x in xs] -/
theorem dn_lcM (f : D → D) (hjs : ∀ j, j ∈ js → j ∈ vs) (h : DI c wi δ fun xs => xs.length ≤ sizeLine ∧ (∀ (i : Nat) (d : D), xs[i]? = some d → DG c g js (wipeD δ vs) d fun δ2 => DE c te δ2 fun y => y = f d) ∧ P (.lst (xs.map f))) : DN c (tLc wi g tYes te vs) δ P :=
  dn_lc hjs (h.imp fun xs ⟨hl, ht, p⟩ => ⟨hl, fun i acc => acc = (xs.take i).map f, rfl, fun i d acc hd w => fun G0 H0 G H σ v Q b e hv k =>
    ht i d hd G0 H0 G H σ v Q b e hv fun δ' σ' p' => k δ' σ' (dt_yes (it_t rfl (p'.imp fun y ey => by
      have w' : acc = (xs.take i).map f := w
      show acc ++ [y] = (xs.take (i + 1)).map f
      rw [take_snoc hd, ey, w']))), fun acc w => by
      have w' : acc = (xs.take xs.length).map f := w
      rw [w', List.take_length]; exact p⟩)
theorem putD_new {α : Type} {xs : List (Key × α)} {k : Key} {d : α} (h : k ∉ xs.map (·.1)) : putD xs k d = xs ++ [(k, d)] := by
  unfold putD
  rw [if_neg]
  intro z
  obtain ⟨p, hp, e⟩ := List.any_eq_true.mp z
  exact h (List.mem_map.mpr ⟨p, hp, of_decide_eq_true e⟩)
theorem sub_key {ks : List (Key × D)} {k : Key} {d : D} (nd : (ks.map (·.1)).Nodup) (m : (k, d) ∈ ks) : D.sub (.dic ks) (kD k) = some d := by
  cases k with
  | inl i => exact mem_look nd m
  | inr x => exact mem_look nd m
theorem getElem_mem_pair {ks : List (Key × D)} {i : Nat} {y : D} (h : (ks.map fun p => kD p.1)[i]? = some y) : ∃ k d, ks[i]? = some (k, d) ∧ y = kD k := by
  rw [List.getElem?_map] at h
  cases q : ks[i]? with
  | none => rw [q] at h; cases h
  | some p => rw [q] at h; cases h; exact ⟨p.1, p.2, rfl, rfl⟩
/-- [.. for key in d], over the pairs of a dict -/
theorem dn_lcK {tl : TE} {j : Nat} (f : Key → D → D) (h : DE c tl δ fun d => ∃ ks, d = .dic ks ∧ (ks.map (·.1)).Nodup ∧ ks.length ≤ 1000 ∧ (∀ k d, (k, d) ∈ ks → DE c te ((wipeD δ [j]).set j (.dat (kD k))) fun y => y = f k d) ∧ P (.lst (ks.map fun p => f p.1 p.2))) : DN c (tLc (iAny c.K tl) (gName j) tYes te [j]) δ P :=
  dn_lc (js := [j]) (fun _ h => h) (di_any (h.imp fun d ⟨ks, e, nd, hl, ht, p⟩ => by
    subst e
    refine ⟨ks.map fun p => kD p.1, rfl, by rw [List.length_map]; exact Nat.le_of_lt (small1000 hl), fun i acc => acc = (ks.take i).map fun p => f p.1 p.2, rfl, fun i d acc hd w => ?_, fun acc w => ?_⟩
    · obtain ⟨k, x, q, rfl⟩ := getElem_mem_pair hd
      refine dg_name (dt_yes (it_t rfl ((ht k x (List.mem_of_getElem? q)).imp fun y ey => ?_)))
      have w' : acc = (ks.take i).map fun p => f p.1 p.2 := w
      show acc ++ [y] = (ks.take (i + 1)).map fun p => f p.1 p.2
      rw [take_snoc q, w', ey]
    · have w' : acc = (ks.take (ks.map fun p => kD p.1).length).map fun p => f p.1 p.2 := w
      rw [w', List.length_map, List.take_length]; exact p))
/-- {key: .. for key in d}, over the pairs of a dict with text keys -/
theorem dn_dcK {tl : TE} {j : Nat} (f : Key → D → D) (h : DE c tl δ fun d => ∃ ks, d = .dic ks ∧ (ks.map (·.1)).Nodup ∧ ks.length ≤ 1000 ∧ (∀ p ∈ ks, ∃ x, p.1 = .inr x) ∧
    (∀ x d, (.inr x, d) ∈ ks → DE c tk ((wipeD δ [j]).set j (.dat (.str x))) fun k => k = .str x ∧ DE c te ((wipeD δ [j]).set j (.dat (.str x))) fun y => y = f (.inr x) d) ∧ P (.dic (ks.map fun p => (p.1, f p.1 p.2)))) : DN c (tDc (iAny c.K tl) (gName j) tYes tk te [j]) δ P :=
  dn_dc (js := [j]) (fun _ h => h) (di_any (h.imp fun d ⟨ks, e, nd, hl, hx, ht, p⟩ => by
    subst e
    refine ⟨ks.map fun p => kD p.1, rfl, by rw [List.length_map]; exact Nat.le_of_lt (small1000 hl), fun i acc => acc = (ks.take i).map fun p => (p.1, f p.1 p.2), rfl, fun i d acc hd w => ?_, fun acc w => ?_⟩
    · obtain ⟨k, y, q, rfl⟩ := getElem_mem_pair hd
      obtain ⟨x, ex⟩ := hx _ (List.mem_of_getElem? q)
      simp only at ex
      subst ex
      refine dg_name (dt_yes (it_t rfl ((ht x y (List.mem_of_getElem? q)).imp fun kd ⟨ek, z⟩ => z.imp fun y' ey => ⟨x, ek, ?_⟩)))
      have w' : acc = (ks.take i).map fun p => (p.1, f p.1 p.2) := w
      show putD acc (.inr x) y' = (ks.take (i + 1)).map fun p => (p.1, f p.1 p.2)
      rw [take_snoc q, w', ey]
      refine putD_new fun m => ?_
      rw [List.map_map] at m
      obtain ⟨p', hp', e'⟩ := List.mem_map.mp m
      obtain ⟨n, hn, en⟩ := List.getElem_of_mem hp'
      have hn2 : n < i := by simp at hn; omega
      have hnl : n < ks.length := by simp at hn; omega
      rw [List.getElem_take] at en
      have e1 : (ks.map (·.1))[n]? = (ks.map (·.1))[i]? := by
        rw [List.getElem?_map, List.getElem?_map, q, List.getElem?_eq_getElem hnl, en]
        exact congrArg some e'
      have := (List.getElem?_inj (by rw [List.length_map]; exact hnl) nd).mp e1
      omega
    · have w' : acc = (ks.take (ks.map fun p => kD p.1).length).map fun p => (p.1, f p.1 p.2) := w
      rw [w', List.length_map, List.take_length]; exact p))
end
end Mp
set_option maxRecDepth 100000
set_option maxHeartbeats 4000000
namespace Mp
open PySem L2
end Mp
set_option maxRecDepth 100000
set_option maxHeartbeats 4000000
namespace Mp
open PySem L2
/-! ### len(x), x an instance whose class defines __len__ -/
end Mp
set_option maxRecDepth 100000
set_option maxHeartbeats 4000000
namespace Mp
open PySem L2
/-! ### C(e), C with an __init__ that may raise -/
end Mp
set_option maxRecDepth 100000
set_option maxHeartbeats 4000000
namespace Mp
open PySem L2
section
variable {c : Cn} {C a : Addr} {W : WX} {δ : List Sl} {ws : List (Addr × Sto)} {i : Nat} {t : TA} {R : List D → Sto ⊕ ExD → Prop} {RO : Out → List (Addr × Sto) → Prop} {PX : ExD → List (Addr × Sto) → Prop} {PS : ExD → List Sl → List (Addr × Sto) → Prop} {Hs G H : Hp} {σ : L2.St} {fs : List (List Addr)} {f' : List Addr}
theorem EnvOk.setRaw (e : EnvOk c Hs G H σ δ) {v : V} : EnvOk c Hs G H (σ.set i (some v)) (δ.set i (.raw v)) where
  len := by simp [e.len]
  dat := fun j x q => by
    rcases get_set q with ⟨rfl, z, hl⟩ | ⟨ne, q⟩
    · cases z
    · obtain ⟨u, h1, h2⟩ := e.dat j x q; exact ⟨u, by rw [List.getElem?_set_ne (Ne.symm ne)]; exact h1, h2⟩
  own := fun j x q => by
    rcases get_set q with ⟨rfl, z, hl⟩ | ⟨ne, q⟩
    · cases z
    · obtain ⟨u, h1, h2⟩ := e.own j x q; exact ⟨u, by rw [List.getElem?_set_ne (Ne.symm ne)]; exact h1, h2⟩
  raw := fun j x q => by
    rcases get_set q with ⟨rfl, z, hl⟩ | ⟨ne, q⟩
    · cases z; rw [List.getElem?_set_self (by rw [e.len]; exact hl)]
    · rw [List.getElem?_set_ne (Ne.symm ne)]; exact e.raw j x q
  sep := fun j k x y r ne p q h1 => by
    rcases get_set p with ⟨rfl, z, hl⟩ | ⟨n1, p⟩
    · cases z
    rcases get_set q with ⟨rfl, z, hl⟩ | ⟨n2, q⟩
    · cases z
    rw [List.getElem?_set_ne (Ne.symm n1)] at h1
    rw [List.getElem?_set_ne (Ne.symm n2)]
    exact e.sep j k x y r ne p q h1
theorem Off.setRaw {f : List Addr} {v : V} (o : Off σ δ f) : Off (σ.set i (some v)) (δ.set i (.raw v)) f := fun j x r h1 h2 => by
  rcases get_set h1 with ⟨_, z, _⟩ | ⟨ne, h1⟩
  · cases z
  · rw [List.getElem?_set_ne (Ne.symm ne)] at h2; exact o j x r h1 h2
theorem Off.nil : Off σ δ [] := fun _ _ _ _ _ m => nomatch m
end
end Mp
set_option maxRecDepth 100000
set_option maxHeartbeats 4000000
namespace Mp
open PySem L2
end Mp
set_option maxRecDepth 100000
set_option maxHeartbeats 4000000
namespace Mp
open PySem L2
/-- what a caller knows of a class that it makes instances of -/
structure ClI (P : Program) (w : World) (K : PySem.W.Frag) (mg : Str → Option Value) (base : Heap) (x : Str) (C : Addr) (k : Nat) (sp : Sp) : Prop where
  ex : ∃ (f : Addr) (fd : FuncData) (ps : List Str) (k0 : Nat), k0 + 1 ≤ k ∧ FnOk P w K mg base (L2.CX P w) k0 f fd ps sp ∧ Binds K fd ps [] ∧ Mk K C f ∧ mg x = some (.ref C)
theorem ClI.mono {P : Program} {w : World} {K : PySem.W.Frag} {mg : Str → Option Value} {base : Heap} {x : Str} {C : Addr} {j k : Nat} {sp : Sp} (T : ClI P w K mg base x C j sp) (h : j ≤ k) : ClI P w K mg base x C k sp :=
  let ⟨f, fd, ps, k0, hk, r⟩ := T.ex
  ⟨f, fd, ps, k0, Nat.le_trans hk h, r⟩
end Mp
set_option maxRecDepth 100000
set_option maxHeartbeats 4000000
namespace Mp
open PySem L2
end Mp
set_option maxRecDepth 100000
set_option maxHeartbeats 4000000
namespace Mp
open PySem L2
end Mp
set_option maxRecDepth 100000
set_option maxHeartbeats 4000000
namespace Mp
open PySem L2
end Mp
set_option maxRecDepth 100000
set_option maxHeartbeats 4000000
namespace Mp
open PySem L2
/-! ### loops over a world of stores -/
section
variable {c : Cn} {C : Addr} {W : WX} {f0 : List Addr} {Gs Hs G H G1 H1 : Hp} {ws ws' : List (Addr × Sto)} {fs fs' : List (List Addr)} {σ : L2.St} {δ : List Sl}
/-- the world, seen from here on -/
theorem Wd.rebase (w : Wd c C f0 Gs Hs G H ws fs) (e : EnvOk c Hs G H σ δ) : Wd c C fs.flatten G (Mp.cut σ δ H) G H ws fs := by
  have b := w.v.base e
  refine ⟨Step.adv b.s0 b.st, w.w, fun x hx => .inl hx, w.t, fun t x ns h => ?_⟩
  rcases w.z t x ns h with z | z
  · exact .inl z
  rcases (w.v.s0.sc t x ns h).1 with q | ⟨q, _⟩
  · exact .inl q
  · refine .inr fun m => ?_
    rcases w.g x m with y | y
    · exact z y
    · rcases q with q | ⟨_, q⟩ <;> rw [y] at q <;> cases q
theorem Wd.lat (e : EnvOk c Hs G H σ δ) (w' : Wd c C f0 G (Mp.cut σ δ H) G1 H1 ws' fs') : Lat G H G1 H1 := by
  refine ⟨w'.v.gs, fun a o u h => w'.v.fz a o u ?_⟩
  have no : ¬ ownd σ δ a := fun ⟨i, d, h1, h2⟩ => by
    obtain ⟨r, g1, _, _, g4⟩ := e.own i d h1
    rw [h2] at g1; cases g1
    exact g4.nofrz (c := c) o u h
  rw [cut_ne no]; exact h
variable {wi : TI} {g : TG} {tb : TS} {js : List Nat} {R : Out → List (Addr × Sto) → Prop} {PS : ExD → List Sl → List (Addr × Sto) → Prop}
end
end Mp
set_option maxRecDepth 100000
set_option maxHeartbeats 4000000
namespace Mp
open PySem L2
end Mp
set_option maxRecDepth 100000
set_option maxHeartbeats 4000000
namespace Mp
open PySem L2
/-! ### len of a store, by what a caller knows -/
/-! ### the hook with the classes that _law_which knows -/
def excCB (K : PySem.W.Frag) (D : Addr) : Bool := He.eqO (PySem.W.findIn K (.ref D) "__getattribute__") (some (some (.builtin "BaseException.__getattribute__"))) && (He.eqO (PySem.W.findIn K (.ref D) "__getattr__") (some none) &&
  (decide (PySem.W.subIn K (.ref D) (.type "BaseException") = some true) && (PySem.W.hasDictIn K D && (He.eqO (PySem.W.findIn K (.ref D) "__class__") (some (some (.builtin "object.__class__"))) &&
  (He.eqO (PySem.W.specialIn K (.builtin "object.__class__") "__get__") (some (some (.builtin "getset_descriptor.__get__"))) && (decide (PySem.W.takesIn K (.builtin "object.__class__") = some true) && decide (PySem.W.mroIn K D (.type "object") = some true)))))))
theorem excCB_ok {K : PySem.W.Frag} {D : Addr} (h : excCB K D = true) : ExcC K D := by
  obtain ⟨h1, h⟩ := He.ba h
  obtain ⟨h2, h⟩ := He.ba h
  obtain ⟨h3, h⟩ := He.ba h
  obtain ⟨h4, h⟩ := He.ba h
  obtain ⟨h5, h⟩ := He.ba h
  obtain ⟨h6, h⟩ := He.ba h
  obtain ⟨h7, h8⟩ := He.ba h
  exact ⟨He.eqO_ok h1, He.eqO_ok h2, of_decide_eq_true h3, h4, He.eqO_ok h5, He.eqO_ok h6, of_decide_eq_true h7, of_decide_eq_true h8⟩
def whKB (K : PySem.W.Frag) (cs : List Str) (x : Str) (i : Nat) : Bool := decide (cs.length = 7) && (decide (i < 7) && (excCB K (He.ga K x) &&
  ((List.range 7).all (fun j => decide (PySem.W.kitOne K (.ref (He.ga K x)) (.ref (He.ga K (cs.getD j ""))) = some (j == i))) && decide (PySem.W.kitOne K (.ref (He.ga K x)) (.type "ValueError") = some true))))
theorem whKB_ok {K : PySem.W.Frag} {cs : List Str} {x : Str} {i : Nat} (h : whKB K cs x i = true) : WhOk K (cs.map (He.ga K)) (He.ga K x) i := by
  obtain ⟨h1, h⟩ := He.ba h
  obtain ⟨h2, h⟩ := He.ba h
  obtain ⟨h3, h⟩ := He.ba h
  obtain ⟨h4, h5⟩ := He.ba h
  have h1 : cs.length = 7 := of_decide_eq_true h1
  refine ⟨excCB_ok h3, by rw [List.length_map]; exact h1, of_decide_eq_true h2, fun j C hj => ?_, of_decide_eq_true h5⟩
  rw [List.getElem?_map] at hj
  cases q : cs[j]? with
  | none => rw [q] at hj; cases hj
  | some z =>
    rw [q] at hj
    cases hj
    have hl : j < cs.length := (List.getElem?_eq_some_iff.mp q).1
    have := of_decide_eq_true (List.all_eq_true.mp h4 j (List.mem_range.mpr (by omega)))
    rw [List.getD_eq_getElem?_getD, q] at this
    exact this
def obsY (fa : List He.Fa) (fn : List He.DefD) (ts : List (Str × D)) (xs cs : List Str) (ys : List (Str × Nat)) (K : PySem.W.Frag) : AlM := (datB K ts && (xcB K xs && ys.all fun y => whKB K cs y.1 y.2), He.obsD fa fn K)
def SaysY (fa : List He.Fa) (fn : List He.DefD) (ts : List (Str × D)) (xs cs : List Str) (ys : List (Str × Nat)) (K : PySem.W.Frag) : Prop := obsY fa fn ts xs cs ys K = (true, He.valD fn)
def obsYG (n : Nat) (fa : List He.Fa) (fn : List He.DefD) (ts : List (Str × D)) (xs cs : List Str) (ys : List (Str × Nat)) (g : Addr → Option Obj) : AlM := obsY fa fn ts xs cs ys (He.frG g (He.asD g n))
def hookY (n : Nat) (fa : List He.Fa) (fn : List He.DefD) (ts : List (Str × D)) (xs cs : List Str) (ys : List (Str × Nat)) : PySem.W.Hook where
  α := AlM
  obs := fun s => obsYG n fa fn ts xs cs ys s.heap.get?
  val := fun _ => (true, He.valD fn)
  says := fun _ h => ∃ K : PySem.W.Frag, K.In h ∧ SaysY fa fn ts xs cs ys K
  of := fun _ _ e => ⟨_, He.frG_in, e⟩
  keeps := fun _ _ _ ⟨K, hK, c⟩ k => ⟨K, PySem.W.Frag.In.keeps hK k, c⟩
theorem obsYG_eq {n : Nat} {fa : List He.Fa} {fn : List He.DefD} {ts : List (Str × D)} {xs cs : List Str} {ys : List (Str × Nat)} {g : Addr → Option Obj} {s : Shared} (h : ∀ a, g a = s.heap.get? a) : obsYG n fa fn ts xs cs ys g = (hookY n fa fn ts xs cs ys).obs s := by
  have e : g = s.heap.get? := funext h
  rw [e] <;> rfl
section
variable {fa : List He.Fa} {fn : List He.DefD} {ts : List (Str × D)} {xs cs : List Str} {ys : List (Str × Nat)} {K : PySem.W.Frag}
theorem SaysY.says (c : SaysY fa fn ts xs cs ys K) : He.SaysD fa fn K := congrArg Prod.snd c
theorem SaysY.three (c : SaysY fa fn ts xs cs ys K) : datB K ts = true ∧ xcB K xs = true ∧ (ys.all fun y => whKB K cs y.1 y.2) = true :=
  let ⟨h1, h⟩ := He.ba (congrArg Prod.fst c)
  ⟨h1, He.ba h⟩
theorem SaysY.dat (c : SaysY fa fn ts xs cs ys K) {x : Str} {d : D} (h : (x, d) ∈ ts) (G : Hp) : Has K G d (.ref (He.ga K x)) :=
  (kHas_ok (G := G) d _ (List.all_eq_true.mp c.three.1 _ h)).1
theorem SaysY.exc (c : SaysY fa fn ts xs cs ys K) {x : Str} (h : x ∈ xs) : OexC K (He.ga K x) ∧ XfC K (He.ga K x) := by
  obtain ⟨h1, h2⟩ := He.ba (List.all_eq_true.mp c.three.2.1 _ h)
  exact ⟨oexB_ok h1, xfB_ok h2⟩
theorem SaysY.wh (c : SaysY fa fn ts xs cs ys K) {x : Str} {i : Nat} (h : (x, i) ∈ ys) : WhOk K (cs.map (He.ga K)) (He.ga K x) i := whKB_ok (List.all_eq_true.mp c.three.2.2 _ h)
end
end Mp
set_option maxRecDepth 100000
set_option maxHeartbeats 4000000
namespace Mp
open PySem L2
theorem obsY_app {fa fb : List He.Fa} {fn fm : List He.DefD} {ts : List (Str × D)} {xs cs : List Str} {ys : List (Str × Nat)} {K : PySem.W.Frag} (h1 : obsY fa [] ts xs cs ys K = (true, He.valD [])) (h2 : obsY fb [] [] [] cs [] K = (true, He.valD [])) (h3 : obsY [] fn [] [] cs [] K = (true, He.valD fn)) (h4 : obsY [] fm [] [] cs [] K = (true, He.valD fm)) : obsY (fa ++ fb) (fn ++ fm) ts xs cs ys K = (true, He.valD (fn ++ fm)) := by
  have t : (datB K ts && (xcB K xs && ys.all fun y => whKB K cs y.1 y.2)) = true := congrArg Prod.fst h1
  unfold obsY
  rw [t, obsD_app (congrArg Prod.snd h1) (congrArg Prod.snd h2) (congrArg Prod.snd h3) (congrArg Prod.snd h4)]
open HandSHeadRun PySem.W PySem.Calls in
theorem runY {r : OpenRow} {q : Program} {M : Nat} {loose : List PySem.Str} {w : World} {n : Nat} {fa fb : List He.Fa} {fn fm : List He.DefD} {ts : List (Str × D)} {xs cs : List Str} {ys : List (Str × Nat)}
    (r0 : ∀ os : OsState, (endF (stepQ (denQ tabQ) r.prog w) M r.prog w os).map (fun s => (looksF r.prog (boot_heap w.params) s.abs, seenQ q loose (importedModules r.prog.main.body) (fun s => xlAt q [] s && recOk r.toRowW.records s) s.abs)) = some (true, openGood q loose))
    (r1 : ∀ os : OsState, (endF (stepQ (denQ tabQ) r.prog w) M r.prog w os).map (fun s => obsYG n fa [] ts xs cs ys (getT s)) = some (true, He.valD []))
    (r2 : ∀ os : OsState, (endF (stepQ (denQ tabQ) r.prog w) M r.prog w os).map (fun s => obsYG n fb [] [] [] cs [] (getT s)) = some (true, He.valD []))
    (r3 : ∀ os : OsState, (endF (stepQ (denQ tabQ) r.prog w) M r.prog w os).map (fun s => obsYG n [] fn [] [] cs [] (getT s)) = some (true, He.valD fn))
    (r4 : ∀ os : OsState, (endF (stepQ (denQ tabQ) r.prog w) M r.prog w os).map (fun s => obsYG n [] fm [] [] cs [] (getT s)) = some (true, He.valD fm)) :
    RunEq r q (hookY n (fa ++ fb) (fn ++ fm) ts xs cs ys) (fun s => obsYG n (fa ++ fb) (fn ++ fm) ts xs cs ys (getT s)) M loose w := fun os => by
  obtain ⟨s, e, h0⟩ := Option.map_eq_some_iff.mp (r0 os)
  have h1 := r1 os
  have h2 := r2 os
  have h3 := r3 os
  have h4 := r4 os
  rw [e, Option.map_some] at h1 h2 h3 h4 ⊢
  rw [(Prod.mk.inj h0).1, (Prod.mk.inj h0).2]
  exact congrArg (fun z => some (true, openGood q loose, z)) (obsY_app (Option.some.inj h1) (Option.some.inj h2) (Option.some.inj h3) (Option.some.inj h4))
end Mp
set_option maxRecDepth 100000
set_option maxHeartbeats 4000000
namespace Mp
open PySem L2
def topS (i : Nat) : Stmt := PySem.Challenge.pw_mergepatch_k02_patch_errors.main.body.getD i (.Pass ⟨0, 0, 0, 0⟩)
abbrev s_is_text : Stmt := topS 15
abbrev s_is_scalar : Stmt := topS 16
abbrev s_is_document : Stmt := topS 17
abbrev s_is_state : Stmt := topS 18
abbrev s_need_state : Stmt := topS 19
abbrev s_need_path : Stmt := topS 20
abbrev s_copied : Stmt := topS 21
abbrev s_found_at : Stmt := topS 24
abbrev s_value_at : Stmt := topS 25
abbrev s_are_entries : Stmt := topS 39
abbrev s_is_nested : Stmt := topS 40
abbrev s_is_patch : Stmt := topS 41
abbrev s_need_patch : Stmt := topS 42
abbrev s_need_both : Stmt := topS 54
abbrev s_need_states : Stmt := topS 72
abbrev s_size : Stmt := topS 23
abbrev s_apply : Stmt := topS 44
abbrev s_source : Stmt := topS 65
abbrev s_affects : Stmt := topS 69
abbrev s_normal_form : Stmt := topS 45
abbrev s_idempotent : Stmt := topS 62
abbrev s_fixed : Stmt := topS 67
abbrev s_difference : Stmt := topS 59
abbrev s_commute : Stmt := topS 60
abbrev s_absorbs : Stmt := topS 61
abbrev s_changes : Stmt := topS 50
abbrev s_touched : Stmt := topS 51
abbrev s_conflicts : Stmt := topS 73
abbrev s_merge3 : Stmt := topS 74
abbrev s__law_which : Stmt := topS 81
abbrev s__law_ask : Stmt := topS 82
abbrev s__law_states : Stmt := topS 83
abbrev s__law_patches : Stmt := topS 84
abbrev s__law_draw : Stmt := topS 76
abbrev s__law_pick : Stmt := topS 77
abbrev s__law_document : Stmt := topS 78
abbrev s__law_state : Stmt := topS 79
abbrev s__law_patch : Stmt := topS 80
abbrev s_copied_form : Stmt := topS 35
abbrev s_run : Stmt := topS 30
abbrev s_form_of : Stmt := topS 43
abbrev s_difference_of : Stmt := topS 58
abbrev s_chained : Stmt := topS 34
abbrev s_source_of : Stmt := topS 64
abbrev s_fixed_of : Stmt := topS 66
abbrev s_affected : Stmt := topS 68
abbrev s_changes_of : Stmt := topS 48
abbrev s_paths_of : Stmt := topS 49
abbrev s_merged : Stmt := topS 71
abbrev s_size_of : Stmt := topS 22
abbrev s_law : Stmt := topS 85
end Mp
set_option maxRecDepth 100000
set_option maxHeartbeats 4000000
namespace Mp
open PySem L2
abbrev s_init_Conflict : Stmt := inClass (topS 5) 0
def dD_init_Conflict : He.DefD := ⟨("Conflict", some "__init__"), "__init__", "Conflict.__init__", defArgs s_init_Conflict, defBody s_init_Conflict, defScope s_init_Conflict, [], []⟩
theorem sc_init_Conflict : FnScope ["self", "paths"] ["self", "paths"] (defScope s_init_Conflict) := ⟨rfl, rfl, rfl, by decide +kernel, rfl, by decide +kernel, by decide +kernel⟩
def dD_is_text : He.DefD := ⟨("is_text", none), "is_text", "is_text", defArgs s_is_text, defBody s_is_text, defScope s_is_text, [], []⟩
def dD_is_scalar : He.DefD := ⟨("is_scalar", none), "is_scalar", "is_scalar", defArgs s_is_scalar, defBody s_is_scalar, defScope s_is_scalar, [], []⟩
def dD_is_document : He.DefD := ⟨("is_document", none), "is_document", "is_document", defArgs s_is_document, defBody s_is_document, defScope s_is_document, [], []⟩
def dD_is_state : He.DefD := ⟨("is_state", none), "is_state", "is_state", defArgs s_is_state, defBody s_is_state, defScope s_is_state, [], []⟩
def dD_need_state : He.DefD := ⟨("need_state", none), "need_state", "need_state", defArgs s_need_state, defBody s_need_state, defScope s_need_state, [], []⟩
def dD_need_path : He.DefD := ⟨("need_path", none), "need_path", "need_path", defArgs s_need_path, defBody s_need_path, defScope s_need_path, [], []⟩
def dD_copied : He.DefD := ⟨("copied", none), "copied", "copied", defArgs s_copied, defBody s_copied, defScope s_copied, [], []⟩
def dD_found_at : He.DefD := ⟨("found_at", none), "found_at", "found_at", defArgs s_found_at, defBody s_found_at, defScope s_found_at, [], []⟩
def dD_value_at : He.DefD := ⟨("value_at", none), "value_at", "value_at", defArgs s_value_at, defBody s_value_at, defScope s_value_at, [], []⟩
def dD_are_entries : He.DefD := ⟨("are_entries", none), "are_entries", "are_entries", defArgs s_are_entries, defBody s_are_entries, defScope s_are_entries, [], []⟩
def dD_is_nested : He.DefD := ⟨("is_nested", none), "is_nested", "is_nested", defArgs s_is_nested, defBody s_is_nested, defScope s_is_nested, [], []⟩
def dD_is_patch : He.DefD := ⟨("is_patch", none), "is_patch", "is_patch", defArgs s_is_patch, defBody s_is_patch, defScope s_is_patch, [], []⟩
def dD_need_patch : He.DefD := ⟨("need_patch", none), "need_patch", "need_patch", defArgs s_need_patch, defBody s_need_patch, defScope s_need_patch, [], []⟩
def dD_need_both : He.DefD := ⟨("need_both", none), "need_both", "need_both", defArgs s_need_both, defBody s_need_both, defScope s_need_both, [], []⟩
def dD_need_states : He.DefD := ⟨("need_states", none), "need_states", "need_states", defArgs s_need_states, defBody s_need_states, defScope s_need_states, [], []⟩
def dD_size : He.DefD := ⟨("size", none), "size", "size", defArgs s_size, defBody s_size, defScope s_size, [], []⟩
def dD_apply : He.DefD := ⟨("apply", none), "apply", "apply", defArgs s_apply, defBody s_apply, defScope s_apply, [], []⟩
def dD_source : He.DefD := ⟨("source", none), "source", "source", defArgs s_source, defBody s_source, defScope s_source, [], []⟩
def dD_affects : He.DefD := ⟨("affects", none), "affects", "affects", defArgs s_affects, defBody s_affects, defScope s_affects, [], []⟩
def dD_normal_form : He.DefD := ⟨("normal_form", none), "normal_form", "normal_form", defArgs s_normal_form, defBody s_normal_form, defScope s_normal_form, [], []⟩
def dD_idempotent : He.DefD := ⟨("idempotent", none), "idempotent", "idempotent", defArgs s_idempotent, defBody s_idempotent, defScope s_idempotent, [], []⟩
def dD_fixed : He.DefD := ⟨("fixed", none), "fixed", "fixed", defArgs s_fixed, defBody s_fixed, defScope s_fixed, [], []⟩
def dD_difference : He.DefD := ⟨("difference", none), "difference", "difference", defArgs s_difference, defBody s_difference, defScope s_difference, [], []⟩
def dD_commute : He.DefD := ⟨("commute", none), "commute", "commute", defArgs s_commute, defBody s_commute, defScope s_commute, [], []⟩
def dD_absorbs : He.DefD := ⟨("absorbs", none), "absorbs", "absorbs", defArgs s_absorbs, defBody s_absorbs, defScope s_absorbs, [], []⟩
def dD_changes : He.DefD := ⟨("changes", none), "changes", "changes", defArgs s_changes, defBody s_changes, defScope s_changes, [], []⟩
def dD_touched : He.DefD := ⟨("touched", none), "touched", "touched", defArgs s_touched, defBody s_touched, defScope s_touched, [], []⟩
def dD_conflicts : He.DefD := ⟨("conflicts", none), "conflicts", "conflicts", defArgs s_conflicts, defBody s_conflicts, defScope s_conflicts, [], []⟩
def dD_merge3 : He.DefD := ⟨("merge3", none), "merge3", "merge3", defArgs s_merge3, defBody s_merge3, defScope s_merge3, [], []⟩
def dD__law_which : He.DefD := ⟨("_law_which", none), "_law_which", "_law_which", defArgs s__law_which, defBody s__law_which, defScope s__law_which, [], []⟩
def dD__law_ask : He.DefD := ⟨("_law_ask", none), "_law_ask", "_law_ask", defArgs s__law_ask, defBody s__law_ask, defScope s__law_ask, [], []⟩
def dD__law_states : He.DefD := ⟨("_law_states", none), "_law_states", "_law_states", defArgs s__law_states, defBody s__law_states, defScope s__law_states, [], []⟩
def dD__law_patches : He.DefD := ⟨("_law_patches", none), "_law_patches", "_law_patches", defArgs s__law_patches, defBody s__law_patches, defScope s__law_patches, [], []⟩
def dD__law_draw : He.DefD := ⟨("_law_draw", none), "_law_draw", "_law_draw", defArgs s__law_draw, defBody s__law_draw, defScope s__law_draw, [], []⟩
def dD__law_pick : He.DefD := ⟨("_law_pick", none), "_law_pick", "_law_pick", defArgs s__law_pick, defBody s__law_pick, defScope s__law_pick, [], []⟩
def dD__law_document : He.DefD := ⟨("_law_document", none), "_law_document", "_law_document", defArgs s__law_document, defBody s__law_document, defScope s__law_document, [], []⟩
def dD__law_state : He.DefD := ⟨("_law_state", none), "_law_state", "_law_state", defArgs s__law_state, defBody s__law_state, defScope s__law_state, [], []⟩
def dD__law_patch : He.DefD := ⟨("_law_patch", none), "_law_patch", "_law_patch", defArgs s__law_patch, defBody s__law_patch, defScope s__law_patch, [], []⟩
def dD_copied_form : He.DefD := ⟨("copied_form", none), "copied_form", "copied_form", defArgs s_copied_form, defBody s_copied_form, defScope s_copied_form, [], []⟩
def dD_run : He.DefD := ⟨("run", none), "run", "run", defArgs s_run, defBody s_run, defScope s_run, [], []⟩
def dD_form_of : He.DefD := ⟨("form_of", none), "form_of", "form_of", defArgs s_form_of, defBody s_form_of, defScope s_form_of, [], []⟩
def dD_difference_of : He.DefD := ⟨("difference_of", none), "difference_of", "difference_of", defArgs s_difference_of, defBody s_difference_of, defScope s_difference_of, [], []⟩
def dD_chained : He.DefD := ⟨("chained", none), "chained", "chained", defArgs s_chained, defBody s_chained, defScope s_chained, [], []⟩
def dD_source_of : He.DefD := ⟨("source_of", none), "source_of", "source_of", defArgs s_source_of, defBody s_source_of, defScope s_source_of, [], []⟩
def dD_fixed_of : He.DefD := ⟨("fixed_of", none), "fixed_of", "fixed_of", defArgs s_fixed_of, defBody s_fixed_of, defScope s_fixed_of, [], []⟩
def dD_affected : He.DefD := ⟨("affected", none), "affected", "affected", defArgs s_affected, defBody s_affected, defScope s_affected, [], []⟩
def dD_changes_of : He.DefD := ⟨("changes_of", none), "changes_of", "changes_of", defArgs s_changes_of, defBody s_changes_of, defScope s_changes_of, [], []⟩
def dD_paths_of : He.DefD := ⟨("paths_of", none), "paths_of", "paths_of", defArgs s_paths_of, defBody s_paths_of, defScope s_paths_of, [], []⟩
def dD_merged : He.DefD := ⟨("merged", none), "merged", "merged", defArgs s_merged, defBody s_merged, defScope s_merged, [], []⟩
def dD_size_of : He.DefD := ⟨("size_of", none), "size_of", "size_of", defArgs s_size_of, defBody s_size_of, defScope s_size_of, [], []⟩
def dD_law : He.DefD := ⟨("law", none), "law", "law", defArgs s_law, defBody s_law, defScope s_law, [], []⟩
def fnA : List He.DefD := ([dD_is_text, dD_is_scalar, dD_is_document, dD_is_state, dD_need_state, dD_need_path, dD_copied, dD_found_at, dD_value_at, dD_are_entries, dD_is_nested, dD_is_patch, dD_need_patch, dD_need_both, dD_need_states, dD_size, dD_apply, dD_source, dD_affects, dD_normal_form, dD_idempotent, dD_fixed, dD_difference, dD_commute, dD_absorbs, dD_changes] : List He.DefD)
def fnB : List He.DefD := ([dD_touched, dD_conflicts, dD_merge3, dD__law_which, dD__law_ask, dD__law_states, dD__law_patches, dD__law_draw, dD__law_pick, dD__law_document, dD__law_state, dD__law_patch, dD_copied_form, dD_run, dD_form_of, dD_difference_of, dD_chained, dD_source_of, dD_fixed_of, dD_affected, dD_changes_of, dD_paths_of, dD_merged, dD_size_of, dD_law, dD_init_Conflict] : List He.DefD)
def faA : List He.Fa := ([.glo "is_text", .glo "is_scalar", .glo "is_document", .glo "is_state", .glo "need_state", .glo "need_path", .glo "copied", .glo "found_at", .glo "value_at", .glo "are_entries", .glo "is_nested", .glo "is_patch", .glo "need_patch", .glo "need_both", .glo "need_states", .glo "size", .glo "apply", .glo "source", .glo "affects", .glo "normal_form", .glo "idempotent", .glo "fixed", .glo "difference", .glo "commute", .glo "absorbs", .glo "changes", .glo "touched", .glo "conflicts", .glo "merge3", .glo "_law_which"] : List He.Fa) ++ ([.glo "_law_ask", .glo "_law_states", .glo "_law_patches", .glo "_law_draw", .glo "_law_pick", .glo "_law_document", .glo "_law_state", .glo "_law_patch", .glo "copied_form", .glo "run", .glo "form_of", .glo "difference_of", .glo "chained", .glo "source_of", .glo "fixed_of"] : List He.Fa)
def faB : List He.Fa := ([.glo "affected", .glo "changes_of", .glo "paths_of", .glo "merged", .glo "size_of", .glo "law", .free "isinstance", .free "str", .free "len", .free "all", .free "int", .free "bool", .free "dict", .free "tuple", .free "sorted", .free "ValueError", .free "range", .int "LONGEST" 6, .str "LETTERS" "abcdefghijklmnopqrstuvwxyz", .int "LARGEST" 999, .int "ENTRIES" 6, .int "DEPTH" 5, .int "CHAIN" 6, .int "NESTED" 6, .glo "InvalidState", .exc "InvalidState", .glo "InvalidPath", .exc "InvalidPath", .glo "InvalidPatch", .exc "InvalidPatch"] : List He.Fa) ++ ([.glo "InvalidFormat", .glo "NothingToRedo", .glo "NothingToUndo", .glo "Conflict", .glo "InvalidPatch", .glo "InvalidPath", .glo "InvalidState", .glo "PatchError", .exm "InvalidState" "PatchError" true, .exm "InvalidPath" "PatchError" true, .exm "InvalidPatch" "PatchError" true, .glo "Conflict", .meth "Conflict" "__init__", .noat "Conflict" "paths", .exm "Conflict" "Conflict" true] : List He.Fa)
abbrev fnL : List He.DefD := fnA ++ fnB
abbrev faL : List He.Fa := faA ++ faB
def tsL : List (Str × D) := [("KEEP", .tup [.non, .tup [.str "same"], .tup [.str "entries", .tup []]])]
def loL : List Str := (["__name__", "PatchError", "InvalidState", "InvalidPath", "InvalidPatch", "Conflict", "NothingToUndo", "NothingToRedo", "InvalidFormat", "LETTERS", "LARGEST", "LONGEST", "ENTRIES", "DEPTH", "is_text", "is_scalar", "is_document", "is_state", "need_state", "need_path", "copied", "size_of", "size", "found_at", "value_at", "KEEP", "constant_form", "with_entries", "run", "pairs_of"] : List Str) ++ (["merge_form", "inside_form", "chained", "copied_form", "NESTED", "CHAIN", "are_entries", "is_nested", "is_patch", "need_patch", "form_of", "apply", "normal_form", "keys_of", "changes_of", "paths_of", "changes", "touched", "SCALARS", "need_both", "smallest", "fresh_key", "dict_difference", "difference_of", "difference", "commute", "absorbs", "idempotent", "dict_source", "source_of"] : List Str) ++ (["source", "fixed_of", "fixed", "affected", "affects", "merged", "need_states", "conflicts", "merge3", "_law_draw", "_law_pick", "_law_document", "_law_state", "_law_patch", "_law_which", "_law_ask", "_law_states", "_law_patches"] : List Str)
abbrev rowL : PySem.W.OpenRow := PySem.W.OpenLaw.row PySem.Challenge.rw_mergepatch_k02_patch_errors
def xsL : List Str := ["Conflict"]
def csL : List Str := ["InvalidState", "InvalidPath", "InvalidPatch", "Conflict", "NothingToUndo", "NothingToRedo", "InvalidFormat"]
def ysL : List (Str × Nat) := [("InvalidState", 0), ("InvalidPath", 1), ("InvalidPatch", 2)]
abbrev hkL : PySem.W.Hook := hookY 5 faL fnL tsL xsL csL ysL
def obL (s : PySem.W.SharedT) : AlM := obsYG 5 faL fnL tsL xsL csL ysL (HandSHeadRun.getT s)
theorem ob_eqL (s : PySem.W.SharedT) : obL s = hkL.obs s.abs := obsYG_eq (HandSHeadRun.getT_eq s)
open PySem.W HandSHeadRun PySem.Calls
theorem run0 (w : World) (os : OsState) : (endF (stepQ (denQ tabQ) rowL.prog w) 6000 rowL.prog w os).map (fun s => (looksF rowL.prog (boot_heap w.params) s.abs, seenQ (PySem.W.view rowL.prog [85]) loL (importedModules rowL.prog.main.body) (fun s => xlAt (PySem.W.view rowL.prog [85]) [] s && recOk rowL.toRowW.records s) s.abs)) = some (true, openGood (PySem.W.view rowL.prog [85]) loL) := by kernel_rfl
theorem run1 (w : World) (os : OsState) : (endF (stepQ (denQ tabQ) rowL.prog w) 6000 rowL.prog w os).map (fun s => obsYG 5 faA [] tsL xsL csL ysL (getT s)) = some (true, He.valD []) := by kernel_rfl
theorem run2 (w : World) (os : OsState) : (endF (stepQ (denQ tabQ) rowL.prog w) 6000 rowL.prog w os).map (fun s => obsYG 5 faB [] [] [] csL [] (getT s)) = some (true, He.valD []) := by kernel_rfl
theorem run3 (w : World) (os : OsState) : (endF (stepQ (denQ tabQ) rowL.prog w) 6000 rowL.prog w os).map (fun s => obsYG 5 [] fnA [] [] csL [] (getT s)) = some (true, He.valD fnA) := by kernel_rfl
theorem run4 (w : World) (os : OsState) : (endF (stepQ (denQ tabQ) rowL.prog w) 6000 rowL.prog w os).map (fun s => obsYG 5 [] fnB [] [] csL [] (getT s)) = some (true, He.valD fnB) := by kernel_rfl
theorem runL (w : World) : HandSHeadRun.RunEq rowL (PySem.W.view rowL.prog [85]) hkL obL 6000 loL w := runY (run0 w) (run1 w) (run2 w) (run3 w) (run4 w)
end Mp
set_option maxRecDepth 100000
set_option maxHeartbeats 4000000
namespace Mp
open PySem L2 PyProof.Rows
/-! ### dict(zip(text, text)) -/
section
variable {prog : Program} {w : World} {A : Around} {E : Value → Shared → Prop} {s : Shared}
abbrev AIt (h : Heap) (a : Addr) (x : Str) (t : Tok) (i : Nat) : Prop := h.IsStrIter a "str_ascii_iterator" x t i
theorem AIt.at {h h' : Heap} {a : Addr} {x : Str} {t : Tok} {i : Nat} (y : AIt h a x t i) (e : ∀ o, h.get? a = some o → h'.get? a = some o) : AIt h' a x t i := let ⟨o, ho, r⟩ := y; ⟨o, e o ho, r⟩
end
end Mp
set_option maxRecDepth 100000
set_option maxHeartbeats 4000000
namespace Mp
open PySem L2 PyProof.Rows
/-! ### a, b = a text of two letters -/
/-! ### try .. except C: without a name -/
end Mp
set_option maxRecDepth 100000
set_option maxHeartbeats 4000000
namespace Mp
open PySem L2
end Mp
set_option maxRecDepth 100000
set_option maxHeartbeats 4000000
namespace Mp
open PySem L2
end Mp
set_option maxRecDepth 100000
set_option maxHeartbeats 4000000
namespace Mp
open PySem L2
def t_need_stateX (K : PySem.W.Frag) (C_InvalidState : Addr) (W : WX) (sp_is_state : Sp) : TS :=
  (tIfS (tNot (tB (tCall sp_is_state [] E0 (tCons (tVar 0) tNil)))) (tRaise0 C_InvalidState W) tNext)
def t_need_patchX (K : PySem.W.Frag) (C_InvalidPatch : Addr) (W : WX) (sp_is_patch : Sp) : TS :=
  (tIfS (tNot (tB (tCall sp_is_patch [] E0 (tCons (tVar 0) tNil)))) (tRaise0 C_InvalidPatch W) tNext)
end Mp
set_option maxRecDepth 100000
set_option maxHeartbeats 4000000
namespace Mp
open PySem L2
def t_is_text (K : PySem.W.Frag) : TS :=
  (tRet (tAndV (tCB (rIsi K) (tCons (tVar 0) (tCons (tC (.ty "str")) tNil))) (tAndV (tChain (rI0 fun i j => .bl (decide (i ≤ j))) (rI0 fun i j => .bl (decide (i ≤ j))) (tVar 1) (tCB (rLenX K) (tCons (tVar 0) tNil)) (tC (.int 6))) (tCB (rAll K) (tCons (tLc (iAny K (tVar 0)) (gName 2) tYes (tOp (rInX K false) (tVar 2) (tC (.str "abcdefghijklmnopqrstuvwxyz"))) [2]) tNil)))))
def t_is_scalar (K : PySem.W.Frag) (sp_is_text : Sp) : TS :=
  (tSeq (tIfS (tAnd (tB (tCB (rIsi K) (tCons (tVar 0) (tCons (tC (.ty "int")) tNil)))) (tNot (tB (tCB (rIsi K) (tCons (tVar 0) (tCons (tC (.ty "bool")) tNil)))))) (tRet (tChain (rI0 fun i j => .bl (decide (i ≤ j))) (rI0 fun i j => .bl (decide (i ≤ j))) (tUn (rU fun i => .int (-i)) (tC (.int 999))) (tVar 0) (tC (.int 999)))) tNext)
    (tRet (tCall sp_is_text [] E0 (tCons (tVar 0) (tCons (tC (.int 0)) tNil)))))
def t_is_document (K : PySem.W.Frag) (sp_is_document sp_is_text sp_is_scalar : Sp) : TS :=
  (tSeq (tIfS (tNot (tB (tCB (rIsi K) (tCons (tVar 0) (tCons (tC (.ty "dict")) tNil))))) (tRet (tCall sp_is_scalar [] E0 (tCons (tVar 0) tNil))) tNext)
    (tSeq (tIfS (tOr (tTest (tOp (rEqX K) (tVar 1) (tC (.int 0)))) (tOr (tTest (tOp (rI0 fun i j => .bl (decide (j < i))) (tCB (rLenX K) (tCons (tVar 0) tNil)) (tC (.int 6)))) (tNot (tB (tCB (rAll K) (tCons (tLc (iAny K (tVar 0)) (gName 2) tYes (tCall sp_is_text [] E0 (tCons (tVar 2) (tCons (tC (.int 1)) tNil))) [2]) tNil)))))) (tRet (tC (.bl false))) tNext)
    (tRet (tCB (rAll K) (tCons (tLc (iAny K (tVar 0)) (gName 2) tYes (tCall sp_is_document [] E0 (tCons (tOp (rSub K) (tVar 0) (tVar 2)) (tCons (tOp (rI0 fun i j => .int (i - j)) (tVar 1) (tC (.int 1))) tNil))) [2]) tNil)))))
def t_is_state (K : PySem.W.Frag) (sp_is_document : Sp) : TS :=
  (tRet (tOrV (tOp (fun x y H Q => y = .non ∧ Q (.bl (decide (x = .non))) H) (tVar 0) (tC .non)) (tCall sp_is_document [] E0 (tCons (tVar 0) (tCons (tC (.int 5)) tNil)))))
def t_need_state (K : PySem.W.Frag) (sp_is_state : Sp) : TS :=
  (tIfS (tNot (tB (tCall sp_is_state [] E0 (tCons (tVar 0) tNil)))) tNever tNext)
def t_need_path (K : PySem.W.Frag) (sp_is_text : Sp) : TS :=
  (tIfS (tOr (tNot (tB (tCB (rIsi K) (tCons (tVar 0) (tCons (tC (.ty "tuple")) tNil))))) (tOr (tTest (tOp (rI0 fun i j => .bl (decide (j < i))) (tCB (rLenX K) (tCons (tVar 0) tNil)) (tC (.int 6)))) (tNot (tB (tCB (rAll K) (tCons (tLc (iAny K (tVar 0)) (gName 1) tYes (tCall sp_is_text [] E0 (tCons (tVar 1) (tCons (tC (.int 1)) tNil))) [1]) tNil)))))) tNever tNext)
def t_copied (K : PySem.W.Frag) (sp_copied : Sp) : TS :=
  (tRet (tIf (tB (tCB (rIsi K) (tCons (tVar 0) (tCons (tC (.ty "dict")) tNil)))) (tDc (iAny K (tVar 0)) (gName 1) tYes (tVar 1) (tCall sp_copied [] E0 (tCons (tOp (rSub K) (tVar 0) (tVar 1)) tNil)) [1]) (tVar 0)))
def t_found_at (K : PySem.W.Frag) : TS :=
  (tSeq (tFor (iAny K (tVar 1)) (gName 2) (tAsg (tIf (tB (tCB (rIsi K) (tCons (tVar 0) (tCons (tC (.ty "dict")) tNil)))) (tDGet1 (tVar 0) (tVar 2)) (tC .non)) (gName 0)))
    (tRet (tVar 0)))
def t_value_at (K : PySem.W.Frag) (sp_copied sp_found_at sp_need_path sp_need_state : Sp) : TS :=
  (tSeq (tDrop (tCall sp_need_state [] E0 (tCons (tVar 0) tNil)))
    (tSeq (tDrop (tCall sp_need_path [] E0 (tCons (tVar 1) tNil)))
    (tRet (tCall sp_copied [] E0 (tCons (tCall sp_found_at [] E0 (tCons (tVar 0) (tCons (tVar 1) tNil))) tNil)))))
def t_are_entries (K : PySem.W.Frag) (sp_is_nested sp_is_text : Sp) : TS :=
  (tSeq (tIfS (tOr (tNot (tB (tCB (rIsi K) (tCons (tVar 0) (tCons (tC (.ty "dict")) tNil))))) (tOr (tTest (tOp (rI0 fun i j => .bl (decide (j < i))) (tCB (rLenX K) (tCons (tVar 0) tNil)) (tC (.int 6)))) (tNot (tB (tCB (rAll K) (tCons (tLc (iAny K (tVar 0)) (gName 2) tYes (tCall sp_is_text [] E0 (tCons (tVar 2) (tCons (tC (.int 1)) tNil))) [2]) tNil)))))) (tRet (tC (.bl false))) tNext)
    (tRet (tCB (rAll K) (tCons (tLc (iAny K (tVar 0)) (gName 2) tYes (tCall sp_is_nested [] E0 (tCons (tOp (rSub K) (tVar 0) (tVar 2)) (tCons (tVar 1) tNil))) [2]) tNil))))
def t_is_nested (K : PySem.W.Frag) (sp_is_nested sp_are_entries sp_is_document : Sp) : TS :=
  (tSeq (tIfS (tOr (tNot (tB (tCB (rIsi K) (tCons (tVar 0) (tCons (tC (.ty "tuple")) tNil))))) (tOr (tTest (tOp (rEqX K) (tVar 0) (tTupF tNil))) (tNot (tB (tCB (rIsi K) (tCons (tOp (rSub K) (tVar 0) (tC (.int 0))) (tCons (tC (.ty "str")) tNil))))))) (tRet (tC (.bl false))) tNext)
    (tSeq (tAsg (tOp (rSub K) (tVar 0) (tC (.int 0))) (gName 2))
    (tSeq (tIfS (tTest (tOp (rInX K false) (tVar 2) (tTupF (tCons (tC (.str "keep")) (tCons (tC (.str "drop")) tNil))))) (tRet (tOp (rEqX K) (tCB (rLenX K) (tCons (tVar 0) tNil)) (tC (.int 1)))) tNext)
    (tSeq (tIfS (tTest (tOp (rNeX K) (tCB (rLenX K) (tCons (tVar 0) tNil)) (tC (.int 2)))) (tRet (tC (.bl false))) tNext)
    (tSeq (tIfS (tTest (tOp (rInX K false) (tVar 2) (tTupF (tCons (tC (.str "set")) (tCons (tC (.str "default")) tNil))))) (tRet (tCall sp_is_document [] E0 (tCons (tOp (rSub K) (tVar 0) (tC (.int 1))) (tCons (tC (.int 5)) tNil)))) tNext)
    (tSeq (tIfS (tTest (tOp (rEqX K) (tVar 1) (tC (.int 0)))) (tRet (tC (.bl false))) tNext)
    (tSeq (tIfS (tTest (tOp (rInX K false) (tVar 2) (tTupF (tCons (tC (.str "merge")) (tCons (tC (.str "inside")) tNil))))) (tRet (tCall sp_are_entries [] E0 (tCons (tOp (rSub K) (tVar 0) (tC (.int 1))) (tCons (tOp (rI0 fun i j => .int (i - j)) (tVar 1) (tC (.int 1))) tNil)))) tNext)
    (tSeq (tIfS (tOr (tTest (tOp (rNeX K) (tVar 2) (tC (.str "chain")))) (tOr (tNot (tB (tCB (rIsi K) (tCons (tOp (rSub K) (tVar 0) (tC (.int 1))) (tCons (tC (.ty "tuple")) tNil))))) (tTest (tOp (rI0 fun i j => .bl (decide (j < i))) (tCB (rLenX K) (tCons (tOp (rSub K) (tVar 0) (tC (.int 1))) tNil)) (tC (.int 6)))))) (tRet (tC (.bl false))) tNext)
    (tRet (tCB (rAll K) (tCons (tLc (iAny K (tOp (rSub K) (tVar 0) (tC (.int 1)))) (gName 3) tYes (tCall sp_is_nested [] E0 (tCons (tVar 3) (tCons (tOp (rI0 fun i j => .int (i - j)) (tVar 1) (tC (.int 1))) tNil))) [3]) tNil)))))))))))
def t_is_patch (K : PySem.W.Frag) (sp_is_nested : Sp) : TS :=
  (tRet (tCall sp_is_nested [] E0 (tCons (tVar 0) (tCons (tC (.int 6)) tNil))))
end Mp
set_option maxRecDepth 100000
set_option maxHeartbeats 4000000
namespace Mp
open PySem L2
theorem then_nx {c : Cn} {tv : TS} {R : Out → Prop} {δ : List Sl} (h : DS c tv δ R) : Then c tv R (.nx δ) := h
theorem then_rt {c : Cn} {tv : TS} {R : Out → Prop} {d : D} (h : R (.rt d)) : Then c tv R (.rt d) := h
theorem gives_rt {d e : D} (h : e = d) : Gives d (.rt e) := h
theorem gives_nx {δ : List Sl} : Gives .non (.nx δ) := rfl
theorem ex_bl {b : Bool} {P : Bool → Prop} (h : P b) : ∃ x, D.bl b = .bl x ∧ P x := ⟨b, rfl, h⟩
theorem ex_ii {i j : Int} {P : Int → Int → Prop} (h : P i j) : ∃ a b, D.int i = .int a ∧ D.int j = .int b ∧ P a b := ⟨i, j, rfl, rfl, h⟩
local macro_rules | `(tactic| walk_at "s") => `(tactic| first
  | with_reducible refine ds_seq ?_
  | with_reducible refine ds_ret ?_
  | with_reducible refine ds_if ?_
  | with_reducible refine ds_asg ?_
  | with_reducible refine ds_drop ?_
  | with_reducible refine ds_next ?_
  | with_reducible refine ds_retN ?_
  | with_reducible refine then_nx ?_
  | with_reducible refine then_rt ?_
  | with_reducible refine gives_rt ?_
  | with_reducible refine gives_nx
  | with_reducible refine dt_not ?_
  | with_reducible refine dt_test ?_
  | with_reducible refine dt_B ?_
  | with_reducible refine dt_and ?_
  | with_reducible refine dt_or ?_
  | with_reducible refine dt_yes ?_
  | with_reducible refine ex_bl ?_
  | with_reducible refine ex_ii ?_
  | ((with_reducible show DE _ (tVar _) _ _); refine de_var rfl ?_)
  | with_reducible refine de_int ?_
  | with_reducible refine de_str ?_
  | with_reducible refine de_bl ?_
  | with_reducible refine de_non ?_
  | with_reducible refine de_sub ?_
  | with_reducible refine de_eq ?_
  | with_reducible refine de_ne ?_
  | with_reducible refine de_in ?_
  | with_reducible refine de_add ?_
  | with_reducible refine de_subI ?_
  | with_reducible refine de_lt ?_
  | with_reducible refine de_le ?_
  | with_reducible refine de_gt ?_
  | with_reducible refine de_ge ?_
  | with_reducible refine de_neg ?_
  | with_reducible refine de_isN ?_
  | with_reducible refine de_notN ?_
  | with_reducible refine de_chainII ?_
  | with_reducible refine de_len ?_
  | with_reducible refine de_isi .str rfl ?_
  | with_reducible refine de_isi .int rfl ?_
  | with_reducible refine de_isi .bool rfl ?_
  | with_reducible refine de_isi .dict rfl ?_
  | with_reducible refine de_isi .tuple rfl ?_
  | with_reducible refine de_isi .list rfl ?_
  | with_reducible refine de_all ?_
  | with_reducible refine de_sum ?_
  | with_reducible refine de_if ?_
  | with_reducible refine de_andV ?_
  | with_reducible refine de_orV ?_
  | with_reducible refine de_notV ?_
  | with_reducible refine de_tuple ?_
  | with_reducible refine de_get1 ?_
  | with_reducible refine de_get2 ?_
  | with_reducible refine de_tup ?_
  | with_reducible refine de_call ?_
  | with_reducible refine da_nil ?_
  | with_reducible refine da_cons ?_)
def letters : Str := "abcdefghijklmnopqrstuvwxyz"
def isTextD : D → Int → Bool
  | .str s, l => decide (l ≤ s.length) && (decide ((s.length : Int) ≤ 6) && s.cps.toList.all fun n => decide (n ∈ letters.cps.toList))
  | _, _ => false
def R_is_text (ds : List D) (d : D) : Prop := ∃ v l, ds = [v, .int l] ∧ (∀ s, v = .str s → s.length ≤ 1000) ∧ d = .bl (isTextD v l)
theorem len_str {s : Str} (h : s.length ≤ 1000) : D.len (.str s) = some s.length := by
  show (if s.length ≤ sizeLine then some s.length else none) = _
  rw [if_pos (Nat.le_of_lt (small1000 h))]
/-- the sign of a text of one sign is a letter -/
def isLet : D → Bool
  | .str x => match x.cps.toList with
    | [n] => decide (n ∈ letters.cps.toList)
    | _ => false
  | _ => false
theorem p_is_text {K : PySem.W.Frag} (ds : List D) (d : D) (h : R_is_text ds d) : DS ⟨K, none⟩ (t_is_text K) (slots ["value", "least", "char"] ds) (Gives d) := by
  obtain ⟨v, l, rfl, hs, rfl⟩ := h
  show DS _ _ [.dat v, .dat (.int l), .un] _
  unfold t_is_text
  repeat walk_at "s"
  cases v with
  | str s =>
    have hl := hs s rfl
    refine it_t rfl ?_
    repeat walk_at "s"
    refine ⟨_, len_str hl, ?_⟩
    repeat walk_at "s"
    refine it_c (fun h1 => ?_) fun h1 => ?_
    · repeat walk_at "s"
      refine ⟨6, rfl, ?_⟩
      repeat walk_at "s"
      refine it_c (fun h2 => ?_) fun h2 => ?_
      · repeat walk_at "s"
        refine (dn_lcM (js := [2]) (fun d => .bl (isLet d)) (by simp) (di_any ?_)).de
        repeat walk_at "s"
        refine ⟨_, rfl, ?_, fun i d hd => ?_, ?_⟩
        · rw [List.length_map]; exact Nat.le_of_lt (small1000 hl)
        · rw [List.getElem?_map] at hd
          cases q : s.cps.toList[i]? with
          | none => rw [q] at hd; cases hd
          | some n =>
            rw [q] at hd; cases hd
            refine dg_name ?_
            repeat walk_at "s"
            exact ⟨decide (n ∈ letters.cps.toList), rfl, rfl⟩
        · refine ⟨s.cps.toList.map fun n => decide (n ∈ letters.cps.toList), ?_, ?_⟩
          · rw [List.map_map, List.map_map]; rfl
          · repeat walk_at "s"
            simp only [isTextD, h1, h2, Bool.true_and, List.all_map]
            rfl
      · repeat walk_at "s"
        simp only [isTextD, h1, h2, Bool.false_and, Bool.true_and]
    · repeat walk_at "s"
      refine it_f rfl ?_
      repeat walk_at "s"
      simp only [isTextD, h1, Bool.false_and]
  | _ =>
    refine it_f rfl ?_
    repeat walk_at "s"
    rfl
/-! ### documents: the answers, over data -/
def isScalarD : D → Bool
  | .int i => decide (-999 ≤ i) && decide (i ≤ 999)
  | .str s => isTextD (.str s) 0
  | _ => false
mutual
def isDocD : D → Int → Bool
  | .dic ks, n => !(n == 0) && (decide (ks.length ≤ 6) && (ks.all fun p => isTextD (kD p.1) 1)) && isDocK ks (n - 1)
  | .non, _ => false
  | .bl _, _ => false
  | .int i, _ => isScalarD (.int i)
  | .str s, _ => isScalarD (.str s)
  | .tup _, _ => false
  | .lst _, _ => false
def isDocK : List (Key × D) → Int → Bool
  | [], _ => true
  | (_, d) :: r, n => isDocD d n && isDocK r n
end
theorem isDocK_all : ∀ (ks : List (Key × D)) (n : Int), isDocK ks n = (ks.map fun p => isDocD p.2 n).all id
  | [], _ => by rw [isDocK]; rfl
  | (k, d) :: r, n => by rw [isDocK, isDocK_all r n]; rfl
mutual
/-- data of modest size, the keys of a dict apart -/
def D.wf : D → Prop
  | .str s => s.length ≤ 1000
  | .tup xs => xs.length ≤ 1000 ∧ D.wfL xs
  | .lst xs => xs.length ≤ 1000 ∧ D.wfL xs
  | .dic ks => ks.length ≤ 1000 ∧ (ks.map (·.1)).Nodup ∧ D.wfK ks
  | .non => True
  | .bl _ => True
  | .int _ => True
def D.wfL : List D → Prop
  | [] => True
  | x :: xs => D.wf x ∧ D.wfL xs
def D.wfK : List (Key × D) → Prop
  | [] => True
  | (k, x) :: xs => (∀ s, k = .inr s → s.length ≤ 1000) ∧ D.wf x ∧ D.wfK xs
end
theorem wfK_mem : ∀ {ks : List (Key × D)} {k : Key} {d : D}, D.wfK ks → (k, d) ∈ ks → (∀ s, k = .inr s → s.length ≤ 1000) ∧ D.wf d
  | (j, x) :: ks, k, d, h, m => by
    rw [D.wfK] at h
    rcases List.mem_cons.mp m with e | m
    · cases e; exact ⟨h.1, h.2.1⟩
    · exact wfK_mem h.2.2 m
theorem wfL_mem : ∀ {xs : List D} {d : D}, D.wfL xs → d ∈ xs → D.wf d
  | x :: xs, d, h, m => by
    rw [D.wfL] at h
    rcases List.mem_cons.mp m with e | m
    · cases e; exact h.1
    · exact wfL_mem h.2 m
theorem wf_str {v : D} (h : v.wf) : ∀ s, v = .str s → s.length ≤ 1000 := fun s e => by subst e; rw [D.wf] at h; exact h
theorem wf_key {ks : List (Key × D)} {k : Key} {d : D} (h : D.wfK ks) (m : (k, d) ∈ ks) : ∀ s, kD k = .str s → s.length ≤ 1000 := fun s e => by
  cases k with
  | inl i => cases e
  | inr x => cases e; exact (wfK_mem h m).1 s rfl
def R_is_scalar (ds : List D) (d : D) : Prop := ∃ v, ds = [v] ∧ (∀ s, v = .str s → s.length ≤ 1000) ∧ v.isA .dict = false ∧ d = .bl (isScalarD v)
theorem p_is_scalar {K : PySem.W.Frag} (ds : List D) (d : D) (h : R_is_scalar ds d) : DS ⟨K, none⟩ (t_is_scalar K (SpP K R_is_text)) (slots ["value"] ds) (Gives d) := by
  obtain ⟨v, rfl, hs, hd, rfl⟩ := h
  show DS _ _ [.dat v] _
  unfold t_is_scalar
  repeat walk_at "s"
  have tail : ∀ v : D, (∀ s, v = .str s → s.length ≤ 1000) → isScalarD v = isTextD v 0 → DS ⟨K, none⟩ (tRet (tCall (SpP K R_is_text) [] E0 (tCons (tVar 0) (tCons (tC (.int 0)) tNil)))) [.dat v] (Gives (.bl (isScalarD v))) := fun v hs e => by
    repeat walk_at "s"
    refine ⟨[v, .int 0], .bl (isTextD v 0), rfl, ⟨v, 0, rfl, hs, rfl⟩, ?_⟩
    repeat walk_at "s"
    rw [e]
  cases v with
  | int i =>
    refine it_t rfl ?_
    repeat walk_at "s"
    refine it_t rfl ?_
    repeat walk_at "s"
    refine ⟨999, rfl, ?_⟩
    repeat walk_at "s"
    refine it_c (fun h1 => ?_) fun h1 => ?_
    · repeat walk_at "s"
      refine ⟨999, rfl, ?_⟩
      repeat walk_at "s"
      simp only [isScalarD, h1, Bool.true_and]
    · repeat walk_at "s"
      simp only [isScalarD, h1, Bool.false_and]
  | bl b =>
    refine it_t rfl ?_
    repeat walk_at "s"
    refine it_f rfl ?_
    refine ds_next (then_nx ?_)
    exact tail (.bl b) hs rfl
  | dic ks => cases hd
  | non => refine it_f rfl (it_f rfl (ds_next (then_nx (tail _ hs rfl))))
  | str x => refine it_f rfl (it_f rfl (ds_next (then_nx (tail _ hs rfl))))
  | tup x => refine it_f rfl (it_f rfl (ds_next (then_nx (tail _ hs rfl))))
  | lst x => refine it_f rfl (it_f rfl (ds_next (then_nx (tail _ hs rfl))))
def R_is_document : Nat → List D → D → Prop
  | 0, _, _ => False
  | n + 1, ds, d => ∃ v k, ds = [v, .int k] ∧ v.wf ∧ v.deep ≤ n ∧ d = .bl (isDocD v k)
theorem deep_dic {ks : List (Key × D)} {k : Key} {d : D} (m : (k, d) ∈ ks) : d.deep < (D.dic ks).deep := by
  rw [D.deep]; have := deepK_mem m; omega
theorem p_is_document {K : PySem.W.Frag} (n : Nat) (ds : List D) (d : D) (h : R_is_document (n + 1) ds d) : DS ⟨K, none⟩ (t_is_document K (SpP K (R_is_document n)) (SpP K R_is_text) (SpP K R_is_scalar)) (slots ["value", "depth", "key"] ds) (Gives d) := by
  obtain ⟨v, l, rfl, hw, hdp, rfl⟩ := h
  show DS _ _ [.dat v, .dat (.int l), .un] _
  unfold t_is_document
  repeat walk_at "s"
  have sc : v.isA .dict = false → isDocD v l = isScalarD v → ∀ t, DS ⟨K, none⟩ (tRet (tCall (SpP K R_is_scalar) [] E0 (tCons (tVar 0) tNil))) [.dat v, .dat (.int l), .un] (Then ⟨K, none⟩ t (Gives (.bl (isDocD v l)))) := fun h1 h2 t => by
    repeat walk_at "s"
    refine ⟨[v], .bl (isScalarD v), rfl, ⟨v, rfl, wf_str hw, h1, rfl⟩, ?_⟩
    repeat walk_at "s"
    rw [h2]
  cases v with
  | dic ks =>
    rw [D.wf] at hw
    obtain ⟨hl, nd, hk⟩ := hw
    refine it_f rfl ?_
    repeat walk_at "s"
    refine ⟨Nat.zero_le _, ?_⟩
    repeat walk_at "s"
    have e0 : (D.int l).eqv (.int 0) = (l == 0) := by rw [D.eqv]
    rw [e0]
    refine it_c (fun h1 => ?_) fun h1 => ?_
    · refine it_t rfl ?_
      repeat walk_at "s"
      rw [isDocD, h1]; rfl
    · repeat walk_at "s"
      refine ⟨ks.length, rfl, ?_⟩
      repeat walk_at "s"
      refine it_c (fun h2 => ?_) fun h2 => ?_
      · refine it_t rfl ?_
        repeat walk_at "s"
        have : ¬ ks.length ≤ 6 := by simp at h2; omega
        rw [isDocD, decide_eq_false this, h1]; rfl
      · have h2' : ks.length ≤ 6 := by simp at h2; omega
        repeat walk_at "s"
        refine (dn_lcK (fun k d => .bl (isTextD (kD k) 1)) ?_).de
        repeat walk_at "s"
        refine ⟨ks, rfl, nd, by omega, fun k d hkd => ?_, ?_⟩
        · repeat walk_at "s"
          exact ⟨[kD k, .int 1], _, rfl, ⟨kD k, 1, rfl, wf_key hk hkd, rfl⟩, rfl⟩
        refine ⟨ks.map fun p => isTextD (kD p.1) 1, by rw [List.map_map]; rfl, ?_⟩
        rw [List.all_map]
        repeat walk_at "s"
        show if (!ks.all fun p => isTextD (kD p.1) 1) = true then _ else _
        refine it_c (fun h3 => ?_) fun h3 => ?_
        · repeat walk_at "s"
          have h3' : (ks.all fun p => isTextD (kD p.1) 1) = false := by simpa using h3
          rw [isDocD, h3', h1]; simp
        · have h3' : (ks.all fun p => isTextD (kD p.1) 1) = true := by simpa using h3
          repeat walk_at "s"
          refine (dn_lcK (fun k d => .bl (isDocD d (l - 1))) ?_).de
          repeat walk_at "s"
          refine ⟨ks, rfl, nd, by omega, fun k d hkd => ?_, ?_⟩
          · repeat walk_at "s"
            refine ⟨d, sub_key nd hkd, ?_⟩
            repeat walk_at "s"
            have := deep_dic hkd
            refine ⟨[d, .int (l - 1)], _, rfl, ?_, rfl⟩
            cases n with
            | zero => omega
            | succ n => exact ⟨d, l - 1, rfl, (wfK_mem hk hkd).2, by omega, rfl⟩
          · refine ⟨ks.map fun p => isDocD p.2 (l - 1), by rw [List.map_map]; rfl, ?_⟩
            repeat walk_at "s"
            rw [isDocD, ← isDocK_all, h1, h3', decide_eq_true h2']; rfl
  | non => exact it_t rfl (sc rfl (by rw [isDocD]; rfl) _)
  | bl b => exact it_t rfl (sc rfl (by rw [isDocD]; rfl) _)
  | int b => exact it_t rfl (sc rfl (by rw [isDocD]) _)
  | str b => exact it_t rfl (sc rfl (by rw [isDocD]) _)
  | tup b => exact it_t rfl (sc rfl (by rw [isDocD]; rfl) _)
  | lst b => exact it_t rfl (sc rfl (by rw [isDocD]; rfl) _)
def isStateD : D → Bool
  | .non => true
  | d => isDocD d 5
def R_is_state (ds : List D) (d : D) : Prop := ∃ v, ds = [v] ∧ v.wf ∧ v.deep ≤ 40 ∧ d = .bl (isStateD v)
theorem p_is_state {K : PySem.W.Frag} (ds : List D) (d : D) (h : R_is_state ds d) : DS ⟨K, none⟩ (t_is_state K (SpP K (R_is_document 41))) (slots ["value"] ds) (Gives d) := by
  obtain ⟨v, rfl, hw, hd, rfl⟩ := h
  show DS _ _ [.dat v] _
  unfold t_is_state
  repeat walk_at "s"
  refine it_c (fun h => ?_) fun h => ?_
  · repeat walk_at "s"
    cases v <;> first | rfl | cases h
  · repeat walk_at "s"
    refine ⟨[v, .int 5], _, rfl, ⟨v, 5, rfl, hw, hd, rfl⟩, ?_⟩
    repeat walk_at "s"
    cases v <;> first | rfl | cases h
def R_need_state (ds : List D) (d : D) : Prop := ∃ v, ds = [v] ∧ v.wf ∧ v.deep ≤ 40 ∧ isStateD v = true ∧ d = .non
theorem p_need_state {K : PySem.W.Frag} (ds : List D) (d : D) (h : R_need_state ds d) : DS ⟨K, none⟩ (t_need_state K (SpP K R_is_state)) (slots ["value"] ds) (Gives d) := by
  obtain ⟨v, rfl, hw, hd, hs, rfl⟩ := h
  show DS _ _ [.dat v] _
  unfold t_need_state
  repeat walk_at "s"
  refine ⟨[v], .bl true, rfl, ⟨v, rfl, hw, hd, by rw [hs]⟩, ?_⟩
  repeat walk_at "s"
  refine it_f rfl ?_
  repeat walk_at "s"
/-- a path: texts of 1 to 6 letters, at most six -/
def pathD (xs : List Str) : D := .tup (xs.map .str)
def isPath (xs : List Str) : Prop := xs.length ≤ 6 ∧ ∀ x ∈ xs, isTextD (.str x) 1 = true
theorem text_len {x : Str} {l : Int} (h : isTextD (.str x) l = true) : x.length ≤ 1000 := by
  simp only [isTextD, Bool.and_eq_true, decide_eq_true_eq] at h
  omega
def R_need_path (ds : List D) (d : D) : Prop := ∃ xs, ds = [pathD xs] ∧ isPath xs ∧ d = .non
theorem p_need_path {K : PySem.W.Frag} (ds : List D) (d : D) (h : R_need_path ds d) : DS ⟨K, none⟩ (t_need_path K (SpP K R_is_text)) (slots ["value", "key"] ds) (Gives d) := by
  obtain ⟨xs, rfl, hp, rfl⟩ := h
  show DS _ _ [.dat (pathD xs), .un] _
  unfold t_need_path
  repeat walk_at "s"
  refine it_f rfl ?_
  repeat walk_at "s"
  refine ⟨(xs.map D.str).length, rfl, ?_⟩
  rw [List.length_map]
  have h6 := hp.1
  repeat walk_at "s"
  refine it_f (by simp; omega) ?_
  repeat walk_at "s"
  refine (dn_lcM (js := [1]) (fun d => .bl (isTextD d 1)) (by simp) (di_any ?_)).de
  repeat walk_at "s"
  refine ⟨_, rfl, ?_, fun i d hd => ?_, ?_⟩
  · rw [List.length_map]; exact Nat.le_of_lt (small1000 (by omega))
  · refine dg_name ?_
    repeat walk_at "s"
    rw [List.getElem?_map] at hd
    cases q : xs[i]? with
    | none => rw [q] at hd; cases hd
    | some x =>
      rw [q] at hd; cases hd
      exact ⟨[.str x, .int 1], _, rfl, ⟨.str x, 1, rfl, fun s e => by cases e; exact text_len (hp.2 x (List.mem_of_getElem? q)), rfl⟩, rfl⟩
  · refine ⟨xs.map fun x => isTextD (.str x) 1, by rw [List.map_map, List.map_map]; rfl, ?_⟩
    repeat walk_at "s"
    have : (xs.map fun x => isTextD (.str x) 1).all id = true := by
      rw [List.all_map]; exact List.all_eq_true.mpr fun x hx => hp.2 x hx
    rw [this]
    refine it_f rfl ?_
    repeat walk_at "s"
/-! ### documents over an alphabet of keys, of bounded depth -/
/-- the alphabet of keys: texts that are valid keys, fewer than 60 -/
structure Alp (A : List Str) : Prop where
  few : A.length ≤ 60
  key : ∀ x ∈ A, isTextD (.str x) 1 = true
inductive Doc (A : List Str) : Nat → D → Prop
  | int (n : Nat) {i : Int} : isScalarD (.int i) = true → Doc A n (.int i)
  | str (n : Nat) {s : Str} : isScalarD (.str s) = true → Doc A n (.str s)
  | dic {n : Nat} {ks : List (Key × D)} : (ks.map (·.1)).Nodup → (∀ p ∈ ks, ∃ x ∈ A, p.1 = .inr x) → (∀ p ∈ ks, Doc A n p.2) → Doc A (n + 1) (.dic ks)
def St (A : List Str) (n : Nat) (d : D) : Prop := d = .non ∨ Doc A n d
theorem len_le_alp {α : Type} [DecidableEq α] : ∀ {xs ys : List α}, xs.Nodup → (∀ x ∈ xs, x ∈ ys) → xs.length ≤ ys.length
  | [], _, _, _ => Nat.zero_le _
  | x :: xs, ys, nd, h => by
    have hx := h x (List.mem_cons_self)
    rw [List.nodup_cons] at nd
    have := len_le_alp (xs := xs) (ys := ys.erase x) nd.2 fun y hy => by
      have hne : y ≠ x := fun e => nd.1 (e ▸ hy)
      exact (List.mem_erase_of_ne hne).mpr (h y (List.mem_cons_of_mem _ hy))
    rw [List.length_erase_of_mem hx] at this
    have : 0 < ys.length := List.length_pos_of_mem hx
    simp only [List.length_cons]; omega
theorem keys_le {α : Type} {A : List Str} {ks : List (Key × α)} (nd : (ks.map (·.1)).Nodup) (h : ∀ p ∈ ks, ∃ x ∈ A, p.1 = .inr x) : ks.length ≤ A.length := by
  have := len_le_alp (ys := A.map Sum.inr) nd fun k hk => by
    obtain ⟨p, hp, e⟩ := List.mem_map.mp hk
    obtain ⟨x, hx, e'⟩ := h p hp
    exact List.mem_map.mpr ⟨x, hx, by rw [← e, e']⟩
  simpa using this
theorem Doc.mono {A : List Str} {n m : Nat} {d : D} (h : Doc A n d) (l : n ≤ m) : Doc A m d := by
  induction h generalizing m with
  | int n h => exact .int m h
  | str n h => exact .str m h
  | dic nd hk hd ih =>
    cases m with
    | zero => omega
    | succ m => exact .dic nd hk fun p hp => ih p hp (by omega)
theorem St.mono {A : List Str} {n m : Nat} {d : D} (h : St A n d) (l : n ≤ m) : St A m d := h.imp id fun h => h.mono l
theorem wfK_of : ∀ {ks : List (Key × D)}, (∀ p ∈ ks, (∀ s, p.1 = .inr s → s.length ≤ 1000) ∧ D.wf p.2) → D.wfK ks
  | [], _ => by rw [D.wfK]; trivial
  | (k, x) :: xs, h => by
    rw [D.wfK]
    exact ⟨(h (k, x) (List.mem_cons_self)).1, (h (k, x) (List.mem_cons_self)).2, wfK_of fun p hp => h p (List.mem_cons_of_mem _ hp)⟩
theorem deepK_le {n : Nat} : ∀ {ks : List (Key × D)}, (∀ p ∈ ks, D.deep p.2 ≤ n) → D.deepK ks ≤ n
  | [], _ => by rw [D.deepK]; omega
  | (k, x) :: xs, h => by
    rw [D.deepK]
    have : D.deep x ≤ n := h (k, x) (List.mem_cons_self)
    have := deepK_le fun p hp => h p (List.mem_cons_of_mem _ hp)
    omega
theorem deepL_le {n : Nat} : ∀ {ks : List D}, (∀ p ∈ ks, D.deep p ≤ n) → D.deepL ks ≤ n
  | [], _ => by rw [D.deepL]; omega
  | x :: xs, h => by
    rw [D.deepL]
    have := h x (List.mem_cons_self)
    have := deepL_le fun p hp => h p (List.mem_cons_of_mem _ hp)
    omega
theorem Doc.wf {A : List Str} (hA : Alp A) {n : Nat} {d : D} (h : Doc A n d) : d.wf := by
  induction h with
  | int n h => rw [D.wf]; trivial
  | str n h => rw [D.wf]; exact text_len (l := 0) h
  | dic nd hk hd ih =>
    rw [D.wf]
    refine ⟨Nat.le_trans (Nat.le_trans (keys_le nd hk) hA.few) (by decide), nd, wfK_of fun p hp => ⟨fun s e => ?_, ih p hp⟩⟩
    obtain ⟨x, hx, e'⟩ := hk p hp
    rw [e] at e'; cases e'
    exact text_len (hA.key s hx)
theorem Doc.deep {A : List Str} {n : Nat} {d : D} (h : Doc A n d) : d.deep ≤ n := by
  induction h with
  | int n h => rw [D.deep] <;> simp
  | str n h => rw [D.deep] <;> simp
  | dic nd hk hd ih => rw [D.deep]; have := deepK_le ih; omega
theorem St.wf {A : List Str} (hA : Alp A) {n : Nat} {d : D} (h : St A n d) : d.wf := by
  rcases h with rfl | h
  · rw [D.wf]; trivial
  · exact h.wf hA
theorem St.deep {A : List Str} {n : Nat} {d : D} (h : St A n d) : d.deep ≤ n := by
  rcases h with rfl | h
  · exact Nat.zero_le _
  · exact h.deep
/-- with at most six keys in all, a document is valid -/
theorem Doc.valid {A : List Str} (hA : Alp A) (h6 : A.length ≤ 6) {n : Nat} {d : D} (h : Doc A n d) : ∀ {k : Int}, (n : Int) ≤ k → isDocD d k = true := by
  induction h with
  | int n h => intro k _; rw [isDocD]; exact h
  | str n h => intro k _; rw [isDocD]; exact h
  | @dic n ks nd hk hd ih =>
    intro k hk2
    rw [isDocD, isDocK_all, List.all_map]
    have h0 : (k == 0) = false := by simp; omega
    have h1 : ks.length ≤ 6 := Nat.le_trans (keys_le nd hk) h6
    have h2 : (ks.all fun p => isTextD (kD p.1) 1) = true := List.all_eq_true.mpr fun p hp => by
      obtain ⟨x, hx, e'⟩ := hk p hp
      rw [e']; exact hA.key x hx
    have h3 : (ks.all (id ∘ fun p => isDocD p.2 (k - 1))) = true := List.all_eq_true.mpr fun p hp => ih p hp (by omega)
    rw [h0, h2, h3, decide_eq_true h1]; rfl
theorem St.valid {A : List Str} (hA : Alp A) (h6 : A.length ≤ 6) {n : Nat} {d : D} (h : St A n d) (h5 : n ≤ 5) : isStateD d = true := by
  rcases h with rfl | h
  · rfl
  · have := h.valid hA h6 (k := 5) (by omega)
    cases d <;> first | rfl | exact this
theorem Doc.dict {A : List Str} {n : Nat} {ks : List (Key × D)} (h : Doc A n (.dic ks)) : ∃ m, n = m + 1 ∧ (ks.map (·.1)).Nodup ∧ (∀ p ∈ ks, ∃ x ∈ A, p.1 = .inr x) ∧ ∀ p ∈ ks, Doc A m p.2 := by
  cases h with
  | dic a b c => exact ⟨_, rfl, a, b, c⟩
theorem St.dict {A : List Str} {n : Nat} {ks : List (Key × D)} (h : St A n (.dic ks)) : ∃ m, n = m + 1 ∧ (ks.map (·.1)).Nodup ∧ (∀ p ∈ ks, ∃ x ∈ A, p.1 = .inr x) ∧ ∀ p ∈ ks, Doc A m p.2 := by
  rcases h with h | h
  · cases h
  · exact h.dict
theorem St.get {A : List Str} {n : Nat} {ks : List (Key × D)} (h : St A (n + 1) (.dic ks)) (k : Key) : St A n ((look ks k).getD .non) := by
  obtain ⟨m, e, _, _, hd⟩ := h.dict
  cases e
  cases q : look ks k with
  | none => exact .inl rfl
  | some d => exact .inr (hd _ (look_mem q))
section
variable {A : List Str} {K : PySem.W.Frag}
def R_copied (A : List Str) : Nat → List D → D → Prop
  | 0, _, _ => False
  | n + 1, ds, d => ∃ s, ds = [s] ∧ St A n s ∧ d = s
theorem p_copied (hA : Alp A) (n : Nat) (ds : List D) (d : D) (h : R_copied A (n + 1) ds d) : DS ⟨K, none⟩ (t_copied K (SpP K (R_copied A n))) (slots ["state", "key"] ds) (Gives d) := by
  obtain ⟨s, rfl, hs, rfl⟩ := h
  show DS _ _ [.dat d, .un] _
  unfold t_copied
  repeat walk_at "s"
  cases d with
  | dic ks =>
    refine it_t rfl ?_
    obtain ⟨m, rfl, nd, hk, hd⟩ := hs.dict
    have hl := Nat.le_trans (keys_le nd hk) hA.few
    refine (dn_dcK (fun k d => d) ?_).de
    repeat walk_at "s"
    refine ⟨ks, rfl, nd, by omega, fun p hp => let ⟨x, _, e⟩ := hk p hp; ⟨x, e⟩, fun x d hx => ?_, ?_⟩
    · repeat walk_at "s"
      refine ⟨rfl, ?_⟩
      repeat walk_at "s"
      refine ⟨d, sub_key nd hx, ?_⟩
      repeat walk_at "s"
      exact ⟨[d], d, rfl, ⟨d, rfl, .inr (hd _ hx), rfl⟩, rfl⟩
    · repeat walk_at "s"
      simp
  | _ =>
    refine it_f rfl ?_
    repeat walk_at "s"
    rfl
mutual
def sizeD : D → Int
  | .dic ks => 1 + sizeK ks
  | .non => 0
  | .bl _ => 1
  | .int _ => 1
  | .str _ => 1
  | .tup _ => 1
  | .lst _ => 1
def sizeK : List (Key × D) → Int
  | [] => 0
  | (_, d) :: r => sizeD d + sizeK r
end
def getD' : D → Str → D
  | .dic ks, x => (look ks (.inr x)).getD .non
  | _, _ => .non
def walkD (s : D) (xs : List Str) : D := xs.foldl getD' s
theorem St.getD' {n : Nat} {s : D} (h : St A n s) (x : Str) : St A n (getD' s x) := by
  cases s with
  | dic ks =>
    obtain ⟨m, rfl, _⟩ := h.dict
    exact (h.get _).mono (by omega)
  | _ => exact .inl rfl
theorem St.walk {n : Nat} : ∀ {xs : List Str} {s : D}, St A n s → St A n (walkD s xs)
  | [], _, h => h
  | x :: xs, s, h => St.walk (xs := xs) (h.getD' x)
def R_found_at (A : List Str) (ds : List D) (d : D) : Prop := ∃ s xs, ds = [s, pathD xs] ∧ xs.length ≤ 60 ∧ St A 9 s ∧ d = walkD s xs
theorem p_found_at (ds : List D) (d : D) (h : R_found_at A ds d) : DS ⟨K, none⟩ (t_found_at K) (slots ["state", "path", "key"] ds) (Gives d) := by
  obtain ⟨s, xs, rfl, hl, hs, rfl⟩ := h
  show DS _ _ [.dat s, .dat (pathD xs), .un] _
  unfold t_found_at
  repeat walk_at "s"
  refine ds_for (js := [2]) (di_any ?_)
  repeat walk_at "s"
  refine ⟨xs.map .str, rfl, ?_⟩
  refine ⟨fun i δ => ∃ z, δ = [.dat (walkD s (xs.take i)), .dat (pathD xs), z], ⟨.un, rfl⟩, fun i d δ' hd w => ?_, fun δ' w => ?_⟩
  · obtain ⟨z, rfl⟩ := w
    rw [List.getElem?_map] at hd
    cases q : xs[i]? with
    | none => rw [q] at hd; cases hd
    | some x =>
      rw [q] at hd; cases hd
      refine dg_name ?_
      repeat walk_at "s"
      have e : walkD s (xs.take (i + 1)) = getD' (walkD s (xs.take i)) x := by
        rw [List.take_succ, q]; show List.foldl _ _ (_ ++ [x]) = _; rw [List.foldl_append]; rfl
      simp only [e]
      cases walkD s (xs.take i) with
      | dic ks =>
        refine it_t rfl ?_
        repeat walk_at "s"
        refine ⟨ks, rfl, ?_⟩
        repeat walk_at "s"
        exact ⟨x, rfl, _, rfl⟩
      | _ =>
        refine it_f rfl ?_
        repeat walk_at "s"
        exact ⟨_, rfl⟩
  · obtain ⟨z, rfl⟩ := w
    rw [List.length_map, List.take_length]
    repeat walk_at "s"
    rfl
def R_value_at (A : List Str) (ds : List D) (d : D) : Prop := ∃ s xs, ds = [s, pathD xs] ∧ isPath xs ∧ St A 9 s ∧ isStateD s = true ∧ d = walkD s xs
theorem p_value_at (hA : Alp A) (ds : List D) (d : D) (h : R_value_at A ds d) : DS ⟨K, none⟩ (t_value_at K (SpP K (R_copied A 10)) (SpP K (R_found_at A)) (SpP K R_need_path) (SpP K R_need_state)) (slots ["state", "path"] ds) (Gives d) := by
  obtain ⟨s, xs, rfl, hp, hs, hv, rfl⟩ := h
  show DS _ _ [.dat s, .dat (pathD xs)] _
  unfold t_value_at
  repeat walk_at "s"
  refine ⟨[s], .non, rfl, ⟨s, rfl, hs.wf hA, Nat.le_trans hs.deep (by omega), hv, rfl⟩, ?_⟩
  repeat walk_at "s"
  refine ⟨[pathD xs], .non, rfl, ⟨xs, rfl, hp, rfl⟩, ?_⟩
  repeat walk_at "s"
  refine ⟨[s, pathD xs], _, rfl, ⟨s, xs, rfl, by have := hp.1; omega, hs, rfl⟩, ?_⟩
  repeat walk_at "s"
  exact ⟨[walkD s xs], _, rfl, ⟨_, rfl, hs.walk, rfl⟩, rfl⟩
end
/-! ### texts in order -/
def leS (x y : Str) : Bool := decide (x.cps.toList ≤ y.cps.toList)
def sortS (xs : List Str) : List Str := xs.mergeSort leS
theorem leS_trans (a b c : Str) (h : leS a b = true) (g : leS b c = true) : leS a c = true := by
  unfold leS at *; rw [decide_eq_true_eq] at *; exact List.le_trans h g
theorem leS_total (a b : Str) : (leS a b || leS b a) = true := by
  unfold leS; rw [Bool.or_eq_true, decide_eq_true_eq, decide_eq_true_eq]; exact List.le_total _ _
theorem sortS_perm (xs : List Str) : (sortS xs).Perm xs := List.mergeSort_perm _ _
theorem sortS_pw (xs : List Str) : (sortS xs).Pairwise fun a b => leS a b = true := List.pairwise_mergeSort leS_trans leS_total xs
theorem sortS_mem {xs : List Str} {x : Str} : x ∈ sortS xs ↔ x ∈ xs := (sortS_perm xs).mem_iff
theorem sortS_nodup {xs : List Str} (h : xs.Nodup) : (sortS xs).Nodup := (sortS_perm xs).symm.nodup h
/-! ### keys once -/
def addK (ks : List Str) (k : Str) : List Str := if k ∈ ks then ks else ks ++ [k]
def uniq (xs : List Str) : List Str := xs.foldl addK []
theorem addK_mem {ks : List Str} {k x : Str} : x ∈ addK ks k ↔ x ∈ ks ∨ x = k := by
  unfold addK; split
  · next h => exact ⟨.inl, fun h' => h'.elim id fun e => e ▸ h⟩
  · simp
theorem addK_nodup {ks : List Str} {k : Str} (h : ks.Nodup) : (addK ks k).Nodup := by
  unfold addK; split
  · exact h
  · next hk =>
    rw [List.nodup_append]
    exact ⟨h, by simp, fun a ha b hb => by rw [List.mem_singleton.mp hb]; exact fun e => hk (e ▸ ha)⟩
theorem foldl_addK : ∀ (xs acc : List Str), acc.Nodup → (xs.foldl addK acc).Nodup ∧ ∀ x, x ∈ xs.foldl addK acc ↔ x ∈ acc ∨ x ∈ xs
  | [], acc, h => ⟨h, fun x => by simp⟩
  | y :: ys, acc, h => by
    obtain ⟨a, b⟩ := foldl_addK ys (addK acc y) (addK_nodup h)
    refine ⟨a, fun x => (b x).trans ?_⟩
    rw [addK_mem, List.mem_cons]
    constructor
    · rintro ((h | h) | h)
      · exact .inl h
      · exact .inr (.inl h)
      · exact .inr (.inr h)
    · rintro (h | h | h)
      · exact .inl (.inl h)
      · exact .inl (.inr h)
      · exact .inr h
theorem uniq_nodup (xs : List Str) : (uniq xs).Nodup := (foldl_addK xs [] List.nodup_nil).1
section
variable {c : Cn} {δ : List Sl} {t1 t2 t3 t4 : TE} {P : D → Prop}
theorem de_tup0 (h : P (.tup [])) : DE c (tTupF tNil) δ P := de_tup (da_nil ⟨[], rfl, by simp, h⟩)
theorem de_tup1 (h : DE c t1 δ fun x => P (.tup [x])) : DE c (tTupF (tCons t1 tNil)) δ P := de_tup (da_cons (h.imp fun x p => da_nil ⟨[x], rfl, by simp, p⟩))
theorem de_tup2 (h : DE c t1 δ fun x => DE c t2 δ fun y => P (.tup [x, y])) : DE c (tTupF (tCons t1 (tCons t2 tNil))) δ P :=
  de_tup (da_cons (h.imp fun x p => da_cons (p.imp fun y p => da_nil ⟨[x, y], rfl, by simp, p⟩)))
theorem de_tup3 (h : DE c t1 δ fun x => DE c t2 δ fun y => DE c t3 δ fun z => P (.tup [x, y, z])) : DE c (tTupF (tCons t1 (tCons t2 (tCons t3 tNil)))) δ P :=
  de_tup (da_cons (h.imp fun x p => da_cons (p.imp fun y p => da_cons (p.imp fun z p => da_nil ⟨[x, y, z], rfl, by simp, p⟩))))
theorem de_tup4 (h : DE c t1 δ fun x => DE c t2 δ fun y => DE c t3 δ fun z => DE c t4 δ fun w => P (.tup [x, y, z, w])) : DE c (tTupF (tCons t1 (tCons t2 (tCons t3 (tCons t4 tNil))))) δ P :=
  de_tup (da_cons (h.imp fun x p => da_cons (p.imp fun y p => da_cons (p.imp fun z p => da_cons (p.imp fun w p => da_nil ⟨[x, y, z, w], rfl, by simp, p⟩)))))
end
/-! ### forms -/
inductive Fm
  | con (no : D) (sc : Option D) (d : D)
  | ent (no : D) (sc : Option D) (ps : List (Str × Fm))
def Fm.no : Fm → D
  | .con no _ _ => no
  | .ent no _ _ => no
def Fm.sc : Fm → Option D
  | .con _ sc _ => sc
  | .ent _ sc _ => sc
def Fm.keep : Fm := .ent .non none []
def scD : Option D → D
  | none => .tup [.str "same"]
  | some d => .tup [.str "constant", d]
mutual
def Fm.toD : Fm → D
  | .con no sc d => .tup [no, scD sc, .tup [.str "constant", d]]
  | .ent no sc ps => .tup [no, scD sc, .tup [.str "entries", .tup (psD ps)]]
def psD : List (Str × Fm) → List D
  | [] => []
  | (k, f) :: r => .tup [.str k, f.toD] :: psD r
end
def lookF : List (Str × Fm) → Str → Option Fm
  | [], _ => none
  | (j, f) :: r, k => if j = k then some f else lookF r k
def putV (acc : List (Key × D)) (k : Str) : D → List (Key × D)
  | .non => dropD acc (.inr k)
  | v => putD acc (.inr k) v
mutual
def Fm.run : Fm → D → D
  | .con no sc d, s => match s with
    | .non => no
    | .dic _ => d
    | s => sc.getD s
  | .ent no sc ps, s => match s with
    | .non => no
    | .dic ks => .dic (entsRun ps ks ks)
    | s => sc.getD s
def entsRun : List (Str × Fm) → List (Key × D) → List (Key × D) → List (Key × D)
  | [], _, acc => acc
  | (k, f) :: r, ks, acc => entsRun r ks (putV acc k (f.run ((look ks (.inr k)).getD .non)))
end
inductive FmOk (A : List Str) : Nat → Fm → Prop
  | con {n : Nat} {no : D} {sc : Option D} {d : D} : St A n no → (∀ e, sc = some e → St A n e) → St A n d → FmOk A n (.con no sc d)
  | ent {n : Nat} {no : D} {sc : Option D} {ps : List (Str × Fm)} : St A (n + 1) no → (∀ e, sc = some e → St A (n + 1) e) → (ps.map (·.1)).Nodup → (∀ p ∈ ps, p.1 ∈ A) → (∀ p ∈ ps, FmOk A n p.2) → FmOk A (n + 1) (.ent no sc ps)
  | nil {n : Nat} {no : D} {sc : Option D} : St A n no → (∀ e, sc = some e → St A n e) → FmOk A n (.ent no sc [])
structure PsOk (A : List Str) (n : Nat) (ps : List (Str × Fm)) : Prop where
  nd : (ps.map (·.1)).Nodup
  mem : ∀ p ∈ ps, p.1 ∈ A
  ok : ∀ p ∈ ps, FmOk A n p.2
section
variable {A : List Str} {K : PySem.W.Frag}
theorem FmOk.mono {n m : Nat} {f : Fm} (h : FmOk A n f) (l : n ≤ m) : FmOk A m f := by
  induction h generalizing m with
  | con a b c => exact .con (a.mono l) (fun e h => (b e h).mono l) (c.mono l)
  | ent a b nd hk hd ih =>
    cases m with
    | zero => omega
    | succ m => exact .ent (a.mono l) (fun e h => (b e h).mono l) nd hk fun p hp => ih p hp (by omega)
  | nil a b => exact .nil (a.mono l) fun e h => (b e h).mono l
theorem PsOk.mono {n m : Nat} {ps : List (Str × Fm)} (h : PsOk A n ps) (l : n ≤ m) : PsOk A m ps := ⟨h.nd, h.mem, fun p hp => (h.ok p hp).mono l⟩
theorem PsOk.nil {n : Nat} : PsOk A n [] := ⟨List.nodup_nil, (fun p h => by cases h), (fun p h => by cases h)⟩
theorem PsOk.len {n : Nat} {ps : List (Str × Fm)} (h : PsOk A n ps) : ps.length ≤ A.length := by
  have := len_le_alp h.nd fun x hx => by
    obtain ⟨p, hp, e⟩ := List.mem_map.mp hx
    rw [← e]; exact h.mem p hp
  simpa using this
/-- the pairs of a dict that is a document -/
structure KsOk (A : List Str) (n : Nat) (ks : List (Key × D)) : Prop where
  nd : (ks.map (·.1)).Nodup
  mem : ∀ p ∈ ks, ∃ x ∈ A, p.1 = .inr x
  ok : ∀ p ∈ ks, Doc A n p.2
theorem KsOk.doc {n : Nat} {ks : List (Key × D)} (h : KsOk A n ks) : Doc A (n + 1) (.dic ks) := .dic h.nd h.mem h.ok
theorem KsOk.st {n : Nat} {ks : List (Key × D)} (h : KsOk A n ks) : St A (n + 1) (.dic ks) := .inr h.doc
theorem KsOk.of {n : Nat} {ks : List (Key × D)} (h : St A n (.dic ks)) : ∃ m, n = m + 1 ∧ KsOk A m ks :=
  let ⟨m, e, a, b, c⟩ := h.dict; ⟨m, e, a, b, c⟩
theorem KsOk.len {n : Nat} {ks : List (Key × D)} (h : KsOk A n ks) : ks.length ≤ A.length := keys_le h.nd h.mem
theorem KsOk.drop {n : Nat} {ks : List (Key × D)} (h : KsOk A n ks) (k : Key) : KsOk A n (dropD ks k) := by
  have sub : ∀ p, p ∈ dropD ks k → p ∈ ks := fun p hp => (List.mem_filter.mp hp).1
  refine ⟨?_, fun p hp => h.mem p (sub p hp), fun p hp => h.ok p (sub p hp)⟩
  exact List.Nodup.sublist (List.filter_sublist.map _) h.nd
theorem KsOk.put {n : Nat} {ks : List (Key × D)} (h : KsOk A n ks) {x : Str} (hx : x ∈ A) {d : D} (hd : Doc A n d) : KsOk A n (putD ks (.inr x) d) := by
  unfold putD
  split
  · refine ⟨?_, fun p hp => ?_, fun p hp => ?_⟩
    · have : (ks.map fun p => if p.1 = .inr x then (p.1, d) else p).map (·.1) = ks.map (·.1) := by
        rw [List.map_map]; refine List.map_congr_left fun p _ => ?_
        show (if p.1 = .inr x then (p.1, d) else p).1 = p.1
        split <;> rfl
      rw [this]; exact h.nd
    · obtain ⟨q, hq, e⟩ := List.mem_map.mp hp
      have := h.mem q hq
      split at e <;> subst e <;> exact this
    · obtain ⟨q, hq, e⟩ := List.mem_map.mp hp
      have := h.ok q hq
      split at e <;> subst e
      · exact hd
      · exact this
  · next hn =>
    refine ⟨?_, fun p hp => ?_, fun p hp => ?_⟩
    · rw [List.map_append, List.nodup_append]
      refine ⟨h.nd, by simp, fun a ha b hb => ?_⟩
      simp only [List.map_cons, List.map_nil, List.mem_singleton] at hb
      subst hb
      intro e
      subst e
      obtain ⟨p, hp, e⟩ := List.mem_map.mp ha
      exact hn (List.any_eq_true.mpr ⟨p, hp, by simpa using e⟩)
    · rcases List.mem_append.mp hp with hp | hp
      · exact h.mem p hp
      · rw [List.mem_singleton.mp hp]; exact ⟨x, hx, rfl⟩
    · rcases List.mem_append.mp hp with hp | hp
      · exact h.ok p hp
      · rw [List.mem_singleton.mp hp]; exact hd
theorem KsOk.get {n : Nat} {ks : List (Key × D)} (h : KsOk A n ks) (k : Key) : St A n ((look ks k).getD .non) := h.st.get k
end
end Mp
set_option maxRecDepth 100000
set_option maxHeartbeats 4000000
namespace Mp
open PySem L2
local macro_rules | `(tactic| walk_at "s") => `(tactic| first
  | with_reducible refine ds_seq ?_
  | with_reducible refine ds_ret ?_
  | with_reducible refine ds_if ?_
  | with_reducible refine ds_asg ?_
  | with_reducible refine ds_drop ?_
  | with_reducible refine ds_next ?_
  | with_reducible refine ds_retN ?_
  | with_reducible refine then_nx ?_
  | with_reducible refine then_rt ?_
  | with_reducible refine gives_rt ?_
  | with_reducible refine gives_nx
  | with_reducible refine dt_not ?_
  | with_reducible refine dt_test ?_
  | with_reducible refine dt_B ?_
  | with_reducible refine dt_and ?_
  | with_reducible refine dt_or ?_
  | with_reducible refine dt_yes ?_
  | with_reducible refine ex_bl ?_
  | with_reducible refine ex_ii ?_
  | ((with_reducible show DE _ (tVar _) _ _); refine de_var rfl ?_)
  | with_reducible refine de_int ?_
  | with_reducible refine de_str ?_
  | with_reducible refine de_bl ?_
  | with_reducible refine de_non ?_
  | with_reducible refine de_sub ?_
  | with_reducible refine de_eq ?_
  | with_reducible refine de_ne ?_
  | with_reducible refine de_in ?_
  | with_reducible refine de_add ?_
  | with_reducible refine de_subI ?_
  | with_reducible refine de_lt ?_
  | with_reducible refine de_le ?_
  | with_reducible refine de_gt ?_
  | with_reducible refine de_ge ?_
  | with_reducible refine de_neg ?_
  | with_reducible refine de_isN ?_
  | with_reducible refine de_notN ?_
  | with_reducible refine de_chainII ?_
  | with_reducible refine de_len ?_
  | with_reducible refine de_isi .str rfl ?_
  | with_reducible refine de_isi .int rfl ?_
  | with_reducible refine de_isi .bool rfl ?_
  | with_reducible refine de_isi .dict rfl ?_
  | with_reducible refine de_isi .tuple rfl ?_
  | with_reducible refine de_isi .list rfl ?_
  | with_reducible refine de_all ?_
  | with_reducible refine de_sum ?_
  | with_reducible refine de_if ?_
  | with_reducible refine de_andV ?_
  | with_reducible refine de_orV ?_
  | with_reducible refine de_notV ?_
  | with_reducible refine de_tuple ?_
  | with_reducible refine de_get1 ?_
  | with_reducible refine de_get2 ?_
  | with_reducible refine de_tup0 ?_
  | with_reducible refine de_tup1 ?_
  | with_reducible refine de_tup2 ?_
  | with_reducible refine de_tup3 ?_
  | with_reducible refine de_tup4 ?_
  | with_reducible refine de_tup ?_
  | with_reducible refine de_call ?_
  | with_reducible refine da_nil ?_
  | with_reducible refine da_cons ?_)
section
variable {A : List Str} {K : PySem.W.Frag}
theorem eqv_str (x y : Str) : D.eqv (.str x) (.str y) = (x == y) := by rw [D.eqv]
def mergeFm (ps : List (Str × Fm)) : Fm := .ent (.dic (entsRun ps [] [])) (some (.dic (entsRun ps [] []))) ps
theorem KsOk.nil {n : Nat} : KsOk A n [] := ⟨List.nodup_nil, (fun p h => by cases h), (fun p h => by cases h)⟩
end
def Fm.isKeep : Fm → Bool
  | .ent .non none [] => true
  | _ => false
def getF (ps : List (Str × Fm)) (k : Str) : Fm := (lookF ps k).getD Fm.keep
def pairsOf (ks : List Str) (g : Str → Fm) : List (Str × Fm) := ((sortS ks).filter fun k => !(g k).isKeep).map fun k => (k, g k)
def keysU (ps qs : List (Str × Fm)) : List Str := uniq (ps.map (·.1) ++ qs.map (·.1))
def chain : Nat → Fm → Fm → Fm
  | 0, _, g => g
  | n + 1, f, g =>
    let no := g.run f.no
    let sc := match f.sc with
      | some d => some (g.run d)
      | none => g.sc
    match f, g with
    | .con _ _ d, g => .con no sc (g.run d)
    | .ent _ _ _, .con _ _ e => .con no sc e
    | .ent _ _ ps, .ent _ _ qs => .ent no sc (pairsOf (keysU ps qs) fun k => chain n (getF ps k) (getF qs k))
section
variable {A : List Str} {K : PySem.W.Frag}
theorem FmOk.keep {n : Nat} : FmOk A n Fm.keep := .nil (.inl rfl) (fun e h => by cases h)
theorem lookF_mem : ∀ {ps : List (Str × Fm)} {k : Str} {f : Fm}, lookF ps k = some f → (k, f) ∈ ps
  | (j, g) :: r, k, f, h => by
    rw [lookF] at h
    split at h
    · next e => cases h; subst e; exact List.mem_cons_self
    · exact List.mem_cons_of_mem _ (lookF_mem h)
theorem mem_lookF : ∀ {ps : List (Str × Fm)} {k : Str} {f : Fm}, (ps.map (·.1)).Nodup → (k, f) ∈ ps → lookF ps k = some f
  | (j, g) :: r, k, f, nd, m => by
    rw [List.map_cons, List.nodup_cons] at nd
    rw [lookF]
    rcases List.mem_cons.mp m with e | m
    · cases e; rw [if_pos rfl]
    · have : j ≠ k := fun e => nd.1 (e ▸ List.mem_map.mpr ⟨(k, f), m, rfl⟩)
      rw [if_neg this]; exact mem_lookF nd.2 m
/-- a pair that holds no form, or the whole keeps it -/
theorem PsOk.get {n : Nat} {ps : List (Str × Fm)} (h : PsOk A n ps) (k : Str) : FmOk A n (getF ps k) := by
  unfold getF
  cases q : lookF ps k with
  | none => exact .keep
  | some f => exact h.ok _ (lookF_mem q)
theorem keysU_nodup (ps qs : List (Str × Fm)) : (keysU ps qs).Nodup := uniq_nodup _
theorem chain_eq (n : Nat) (f g : Fm) : chain (n + 1) f g = match f, g with
    | .con _ _ d, g => .con (g.run f.no) (match f.sc with | some d => some (g.run d) | none => g.sc) (g.run d)
    | .ent _ _ _, .con _ _ e => .con (g.run f.no) (match f.sc with | some d => some (g.run d) | none => g.sc) e
    | .ent _ _ ps, .ent _ _ qs => .ent (g.run f.no) (match f.sc with | some d => some (g.run d) | none => g.sc) (pairsOf (keysU ps qs) fun k => chain n (getF ps k) (getF qs k)) := by
  cases f <;> cases g <;> rfl
/-! ### pairs_of -/
/-! ### chained -/
theorem mergeD_nil {ms : List (Key × D)} : ∀ (acc : List (Key × D)), ((acc ++ ms).map (·.1)).Nodup → mergeD acc ms = acc ++ ms := by
  induction ms with
  | nil => intro acc _; unfold mergeD; simp
  | cons p r ih =>
    intro acc nd
    have : p.1 ∉ acc.map (·.1) := fun h => by
      rw [List.map_append, List.nodup_append] at nd
      exact nd.2.2 _ h p.1 (by simp) rfl
    have e : mergeD acc (p :: r) = mergeD (putD acc p.1 p.2) r := rfl
    rw [e, putD_new this, ih (acc ++ [(p.1, p.2)]) (by rw [List.append_assoc]; exact nd), List.append_assoc]; rfl
end
section
variable {A : List Str} {K : PySem.W.Frag}
mutual
def isNestD : D → Int → Bool
  | .tup xs, n => match xs with
    | .str name :: rest =>
      if name = "keep" ∨ name = "drop" then rest.isEmpty
      else match rest with
        | [x] =>
          if name = "set" ∨ name = "default" then isDocD x 5
          else if n = 0 then false
          else if name = "merge" ∨ name = "inside" then isEntsD x (n - 1)
          else if name ≠ "chain" then false
          else isChD x (n - 1)
        | _ => false
    | _ => false
  | _, _ => false
def isChD : D → Int → Bool
  | .tup ys, n => decide (ys.length ≤ 6) && isNestL ys n
  | _, _ => false
def isEntsD : D → Int → Bool
  | .dic ks, n => decide (ks.length ≤ 6) && ((ks.all fun p => isTextD (kD p.1) 1) && isNestK ks n)
  | _, _ => false
def isNestL : List D → Int → Bool
  | [], _ => true
  | x :: r, n => isNestD x n && isNestL r n
def isNestK : List (Key × D) → Int → Bool
  | [], _ => true
  | (_, x) :: r, n => isNestD x n && isNestK r n
end
theorem isNestL_all : ∀ (ks : List D) (n : Int), isNestL ks n = (ks.map fun p => isNestD p n).all id
  | [], _ => by rw [isNestL]; rfl
  | d :: r, n => by rw [isNestL, isNestL_all r n]; rfl
theorem isNestK_all : ∀ (ks : List (Key × D)) (n : Int), isNestK ks n = (ks.map fun p => isNestD p.2 n).all id
  | [], _ => by rw [isNestK]; rfl
  | (k, d) :: r, n => by rw [isNestK, isNestK_all r n]; rfl
def R_is_nested : Nat → List D → D → Prop
  | 0, _, _ => False
  | n + 1, ds, d => ∃ v k, ds = [v, .int k] ∧ v.wf ∧ v.deep ≤ n ∧ d = .bl (isNestD v k)
def R_are_entries : Nat → List D → D → Prop
  | 0, _, _ => False
  | n + 1, ds, d => ∃ v k, ds = [v, .int k] ∧ v.wf ∧ v.deep ≤ n ∧ d = .bl (isEntsD v k)
theorem p_are_entries (n : Nat) (ds : List D) (d : D) (h : R_are_entries (n + 1) ds d) : DS ⟨K, none⟩ (t_are_entries K (SpP K (R_is_nested n)) (SpP K R_is_text)) (slots ["value", "depth", "key"] ds) (Gives d) := by
  obtain ⟨v, l, rfl, hw, hdp, rfl⟩ := h
  show DS _ _ [.dat v, .dat (.int l), .un] _
  unfold t_are_entries
  repeat walk_at "s"
  cases v with
  | dic ks =>
    rw [D.wf] at hw
    obtain ⟨hl, nd, hk⟩ := hw
    refine it_f rfl ?_
    repeat walk_at "s"
    refine ⟨ks.length, rfl, ?_⟩
    repeat walk_at "s"
    refine it_c (fun h2 => ?_) fun h2 => ?_
    · refine it_t rfl ?_
      repeat walk_at "s"
      have : ¬ ks.length ≤ 6 := by simp at h2; omega
      rw [isEntsD, decide_eq_false this]; rfl
    · have h2' : ks.length ≤ 6 := by simp at h2; omega
      repeat walk_at "s"
      refine (dn_lcK (fun k d => .bl (isTextD (kD k) 1)) ?_).de
      repeat walk_at "s"
      refine ⟨ks, rfl, nd, by omega, fun k d hkd => ?_, ?_⟩
      · repeat walk_at "s"
        exact ⟨[kD k, .int 1], _, rfl, ⟨kD k, 1, rfl, wf_key hk hkd, rfl⟩, rfl⟩
      refine ⟨ks.map fun p => isTextD (kD p.1) 1, by rw [List.map_map]; rfl, ?_⟩
      rw [List.all_map]
      repeat walk_at "s"
      show if (!ks.all fun p => isTextD (kD p.1) 1) = true then _ else _
      refine it_c (fun h3 => ?_) fun h3 => ?_
      · repeat walk_at "s"
        have h3' : (ks.all fun p => isTextD (kD p.1) 1) = false := by simpa using h3
        rw [isEntsD, h3']; simp
      · have h3' : (ks.all fun p => isTextD (kD p.1) 1) = true := by simpa using h3
        repeat walk_at "s"
        refine (dn_lcK (fun k d => .bl (isNestD d l)) ?_).de
        repeat walk_at "s"
        refine ⟨ks, rfl, nd, by omega, fun k d hkd => ?_, ?_⟩
        · repeat walk_at "s"
          refine ⟨d, sub_key nd hkd, ?_⟩
          repeat walk_at "s"
          have := deep_dic hkd
          refine ⟨[d, .int l], _, rfl, ?_, rfl⟩
          cases n with
          | zero => omega
          | succ n => exact ⟨d, l, rfl, (wfK_mem hk hkd).2, by omega, rfl⟩
        · refine ⟨ks.map fun p => isNestD p.2 l, by rw [List.map_map]; rfl, ?_⟩
          repeat walk_at "s"
          rw [isEntsD, ← isNestK_all, h3', decide_eq_true h2']; rfl
  | _ =>
    refine it_t rfl (it_t rfl ?_)
    repeat walk_at "s"
    rw [isEntsD] <;> simp
theorem inn2 (x a b : Str) : D.inn (.str x) (.tup [.str a, .str b]) = some (decide (x = a ∨ x = b)) := by
  unfold D.inn
  simp only [D.flat, List.all_cons, List.all_nil, Bool.and_true, if_true, List.any_cons, List.any_nil, D.eqv, Bool.or_false]
  congr 1
  by_cases h1 : x = a
  · subst h1; simp
  · by_cases h2 : x = b
    · subst h2; simp
    · have e1 : (a == x) = false := by simpa using fun e => h1 e.symm
      have e2 : (b == x) = false := by simpa using fun e => h2 e.symm
      rw [e1, e2]; simp [h1, h2]
theorem deep_tup {xs : List D} {d : D} (m : d ∈ xs) : d.deep < (D.tup xs).deep := by
  rw [D.deep]; have := deepL_mem m; omega
theorem sub_tup0 {x : D} {r : List D} : D.sub (.tup (x :: r)) (.int 0) = some x := by
  show L2.atI (x :: r) 0 = some x
  unfold L2.atI L2.ixN
  simp
theorem eqv_nat (x y : Int) : D.eqv (.int x) (.int y) = (x == y) := by rw [D.eqv]
theorem p_is_nested (n : Nat) (hn : n ≤ 40) (ds : List D) (d : D) (h : R_is_nested (n + 1) ds d) : DS ⟨K, none⟩ (t_is_nested K (SpP K (R_is_nested n)) (SpP K (R_are_entries n)) (SpP K (R_is_document 41))) (slots ["value", "depth", "name", "one"] ds) (Gives d) := by
  obtain ⟨v, l, rfl, hw, hdp, rfl⟩ := h
  show DS _ _ [.dat v, .dat (.int l), .un, .un] _
  unfold t_is_nested
  repeat walk_at "s"
  cases v with
  | tup xs =>
    rw [D.wf] at hw
    obtain ⟨hl, hx⟩ := hw
    refine it_f rfl ?_
    repeat walk_at "s"
    refine ⟨by omega, ?_⟩
    repeat walk_at "s"
    cases xs with
    | nil =>
      refine it_t (by rw [D.eqv]; simp [D.eqvL]) (it_t rfl ?_)
      repeat walk_at "s"
      rw [isNestD] <;> simp
    | cons x rest =>
      refine it_f (by rw [D.eqv]; simp [D.eqvL]) ?_
      repeat walk_at "s"
      refine ⟨x, sub_tup0, ?_⟩
      repeat walk_at "s"
      cases x with
      | str name =>
        refine it_f rfl ?_
        repeat walk_at "s"
        refine ⟨.str name, sub_tup0, ?_⟩
        repeat walk_at "s"
        refine ⟨_, inn2 _ _ _, ?_⟩
        repeat walk_at "s"
        refine it_c (fun h1 => ?_) fun h1 => ?_
        · have h1' : name = "keep" ∨ name = "drop" := of_decide_eq_true h1
          repeat walk_at "s"
          refine ⟨(D.str name :: rest).length, rfl, ?_⟩
          repeat walk_at "s"
          refine ⟨Nat.zero_le _, ?_⟩
          repeat walk_at "s"
          rw [isNestD.eq_def]
          simp only [if_pos h1', eqv_nat]
          cases rest with
          | nil => rfl
          | cons y r => simp; omega
        · have h1' : ¬ (name = "keep" ∨ name = "drop") := of_decide_eq_false h1
          repeat walk_at "s"
          refine ⟨(D.str name :: rest).length, rfl, ?_⟩
          repeat walk_at "s"
          refine ⟨Nat.zero_le _, ?_⟩
          repeat walk_at "s"
          rw [eqv_nat]
          rw [isNestD.eq_def]
          simp only [if_neg h1']
          cases rest with
          | nil =>
            refine it_t rfl ?_
            repeat walk_at "s"
            rfl
          | cons y r =>
          cases r with
          | cons y2 r =>
            refine it_t (by simp; omega) ?_
            repeat walk_at "s"
            rfl
          | nil =>
          refine it_f rfl ?_
          have hy : D.wf y := wfL_mem hx (by simp)
          have hdp : (D.tup [D.str name, y]).deep ≤ n := hdp
          have hyd : y.deep < (D.tup [D.str name, y]).deep := deep_tup (by simp)
          repeat walk_at "s"
          refine ⟨_, inn2 _ _ _, ?_⟩
          repeat walk_at "s"
          refine it_c (fun h2 => ?_) fun h2 => ?_
          · have h2' : name = "set" ∨ name = "default" := of_decide_eq_true h2
            repeat walk_at "s"
            refine ⟨y, rfl, ?_⟩
            repeat walk_at "s"
            refine ⟨[y, .int 5], _, rfl, ⟨y, 5, rfl, hy, Nat.le_trans (Nat.le_of_lt (Nat.lt_of_lt_of_le hyd hdp)) hn, rfl⟩, ?_⟩
            repeat walk_at "s"
            simp only [if_pos h2']
          · have h2' : ¬ (name = "set" ∨ name = "default") := of_decide_eq_false h2
            simp only [if_neg h2']
            repeat walk_at "s"
            refine ⟨Nat.zero_le _, ?_⟩
            repeat walk_at "s"
            rw [eqv_nat]
            refine it_c (fun h3 => ?_) fun h3 => ?_
            · have h3' : l = 0 := by simpa using h3
              repeat walk_at "s"
              rw [if_pos h3']
            · have h3' : ¬ l = 0 := by simpa using h3
              rw [if_neg h3']
              repeat walk_at "s"
              refine ⟨_, inn2 _ _ _, ?_⟩
              repeat walk_at "s"
              refine it_c (fun h4 => ?_) fun h4 => ?_
              · have h4' : name = "merge" ∨ name = "inside" := of_decide_eq_true h4
                rw [if_pos h4']
                repeat walk_at "s"
                refine ⟨y, rfl, ?_⟩
                repeat walk_at "s"
                refine ⟨[y, .int (l - 1)], _, rfl, ?_, rfl⟩
                cases n with
                | zero => omega
                | succ n => exact ⟨y, l - 1, rfl, hy, by omega, rfl⟩
              · have h4' : ¬ (name = "merge" ∨ name = "inside") := of_decide_eq_false h4
                rw [if_neg h4']
                repeat walk_at "s"
                refine ⟨Nat.zero_le _, ?_⟩
                repeat walk_at "s"
                rw [eqv_str]
                refine it_c (fun h5 => ?_) fun h5 => ?_
                · have h5' : name ≠ "chain" := by simpa using h5
                  rw [if_pos h5']
                  refine it_t rfl ?_
                  repeat walk_at "s"
                  rfl
                · have h5' : ¬ name ≠ "chain" := by simpa using h5
                  rw [if_neg h5']
                  repeat walk_at "s"
                  refine ⟨y, rfl, ?_⟩
                  repeat walk_at "s"
                  cases y with
                  | tup ys =>
                    rw [D.wf] at hy
                    refine it_f rfl ?_
                    repeat walk_at "s"
                    refine ⟨.tup ys, rfl, ?_⟩
                    refine ⟨ys.length, rfl, ?_⟩
                    repeat walk_at "s"
                    refine it_c (fun h6 => ?_) fun h6 => ?_
                    · have : ¬ ys.length ≤ 6 := by simp at h6; omega
                      repeat walk_at "s"
                      rw [isChD, decide_eq_false this]; rfl
                    · have h6' : ys.length ≤ 6 := by simp at h6; omega
                      repeat walk_at "s"
                      refine (dn_lcM (js := [3]) (fun d => .bl (isNestD d (l - 1))) (by simp) (di_any ?_)).de
                      repeat walk_at "s"
                      refine ⟨.tup ys, rfl, _, rfl, Nat.le_of_lt (small1000 (by omega)), fun i d hd => dg_name ?_, ?_⟩
                      · have hm := List.mem_of_getElem? hd
                        have hd2 : d.deep < (D.tup ys).deep := deep_tup hm
                        repeat walk_at "s"
                        refine ⟨[d, .int (l - 1)], _, rfl, ?_, rfl⟩
                        cases n with
                        | zero => omega
                        | succ n => exact ⟨d, l - 1, rfl, wfL_mem hy.2 hm, by omega, rfl⟩
                      · refine ⟨ys.map fun p => isNestD p (l - 1), by rw [List.map_map]; rfl, ?_⟩
                        repeat walk_at "s"
                        rw [isChD, ← isNestL_all, decide_eq_true h6']; rfl
                  | _ =>
                    refine it_t rfl (it_t rfl ?_)
                    repeat walk_at "s"
                    rw [isChD] <;> simp
      | _ =>
        refine it_t rfl ?_
        repeat walk_at "s"
        rw [isNestD] <;> simp
  | _ =>
    refine it_t rfl (it_t rfl ?_)
    repeat walk_at "s"
    rw [isNestD] <;> simp
def R_is_patch (ds : List D) (d : D) : Prop := ∃ v, ds = [v] ∧ v.wf ∧ v.deep ≤ 40 ∧ d = .bl (isNestD v 6)
theorem p_is_patch (ds : List D) (d : D) (h : R_is_patch ds d) : DS ⟨K, none⟩ (t_is_patch K (SpP K (R_is_nested 41))) (slots ["value"] ds) (Gives d) := by
  obtain ⟨v, rfl, hw, hd, rfl⟩ := h
  show DS _ _ [.dat v] _
  unfold t_is_patch
  repeat walk_at "s"
  exact ⟨[v, .int 6], _, rfl, ⟨v, 6, rfl, hw, hd, rfl⟩, rfl⟩
end
/-! ### patches -/
inductive Pt
  | keep | drop
  | set (d : D) | dflt (d : D)
  | merge (es : List (Str × Pt)) | inside (es : List (Str × Pt))
  | chn (ps : List Pt)
mutual
def Pt.toD : Pt → D
  | .keep => .tup [.str "keep"]
  | .drop => .tup [.str "drop"]
  | .set d => .tup [.str "set", d]
  | .dflt d => .tup [.str "default", d]
  | .merge es => .tup [.str "merge", .dic (esD es)]
  | .inside es => .tup [.str "inside", .dic (esD es)]
  | .chn ps => .tup [.str "chain", .tup (ptsD ps)]
def esD : List (Str × Pt) → List (Key × D)
  | [] => []
  | (k, p) :: r => (.inr k, p.toD) :: esD r
def ptsD : List Pt → List D
  | [] => []
  | p :: r => p.toD :: ptsD r
end
theorem esD_map : ∀ es : List (Str × Pt), esD es = es.map fun p => (.inr p.1, p.2.toD)
  | [] => by rw [esD]; rfl
  | (k, f) :: r => by rw [esD, esD_map r]; rfl
theorem ptsD_map : ∀ es : List Pt, ptsD es = es.map Pt.toD
  | [] => by rw [ptsD]; rfl
  | f :: r => by rw [ptsD, ptsD_map r]; rfl
mutual
def formOf : Pt → Fm
  | .keep => .keep
  | .drop => .con .non (some .non) .non
  | .set d => .con d (some d) d
  | .dflt d => .ent d none []
  | .merge es => mergeFm (pairsOf ((esF es).map (·.1)) (getF (esF es)))
  | .inside es => .ent .non none (pairsOf ((esF es).map (·.1)) (getF (esF es)))
  | .chn ps => chnF .keep ps
def esF : List (Str × Pt) → List (Str × Fm)
  | [] => []
  | (k, p) :: r => (k, formOf p) :: esF r
def chnF : Fm → List Pt → Fm
  | f, [] => f
  | f, p :: r => chnF (chain 12 f (formOf p)) r
end
theorem esF_map : ∀ es : List (Str × Pt), esF es = es.map fun p => (p.1, formOf p.2)
  | [] => by rw [esF]; rfl
  | (k, f) :: r => by rw [esF, esF_map r]; rfl
theorem esF_keys (es : List (Str × Pt)) : (esF es).map (·.1) = es.map (·.1) := by rw [esF_map, List.map_map]; rfl
/-- documents of depth m, nested n deep -/
inductive PtOk (A : List Str) (m : Nat) : Nat → Pt → Prop
  | keep {n : Nat} : PtOk A m n .keep
  | drop {n : Nat} : PtOk A m n .drop
  | set {n : Nat} {d : D} : Doc A m d → PtOk A m n (.set d)
  | dflt {n : Nat} {d : D} : Doc A m d → PtOk A m n (.dflt d)
  | merge {n : Nat} {es : List (Str × Pt)} : (es.map (·.1)).Nodup → (∀ p ∈ es, p.1 ∈ A) → (∀ p ∈ es, PtOk A m n p.2) → PtOk A m (n + 1) (.merge es)
  | inside {n : Nat} {es : List (Str × Pt)} : (es.map (·.1)).Nodup → (∀ p ∈ es, p.1 ∈ A) → (∀ p ∈ es, PtOk A m n p.2) → PtOk A m (n + 1) (.inside es)
  | chn {n : Nat} {ps : List Pt} : ps.length ≤ 6 → (∀ p ∈ ps, PtOk A m n p) → PtOk A m (n + 1) (.chn ps)
section
variable {A : List Str} {K : PySem.W.Frag}
theorem PtOk.mono {m n m' n' : Nat} {p : Pt} (h : PtOk A m n p) (l1 : m ≤ m') (l : n ≤ n') : PtOk A m' n' p := by
  induction h generalizing n' with
  | keep => exact .keep
  | drop => exact .drop
  | set h => exact .set (h.mono l1)
  | dflt h => exact .dflt (h.mono l1)
  | merge nd hk hp ih =>
    cases n' with
    | zero => omega
    | succ n' => exact .merge nd hk fun p h => ih p h (by omega)
  | inside nd hk hp ih =>
    cases n' with
    | zero => omega
    | succ n' => exact .inside nd hk fun p h => ih p h (by omega)
  | chn hl hp ih =>
    cases n' with
    | zero => omega
    | succ n' => exact .chn hl fun p h => ih p h (by omega)
theorem PtOk.wf (hA : Alp A) {m n : Nat} {p : Pt} (h : PtOk A m n p) : p.toD.wf := by
  have h2 : ∀ x y : D, x.wf → y.wf → (D.tup [x, y]).wf := fun x y hx hy => by rw [D.wf, D.wfL, D.wfL, D.wfL]; exact ⟨by simp, hx, hy, trivial⟩
  have es : ∀ es : List (Str × Pt), (es.map (·.1)).Nodup → (∀ p ∈ es, p.1 ∈ A) → (∀ p ∈ es, p.2.toD.wf) → (D.dic (esD es)).wf := fun es nd hk ih => by
    rw [D.wf, esD_map]
    refine ⟨?_, ?_, wfK_of fun p hp => ?_⟩
    · rw [List.length_map]
      have := len_le_alp nd fun x hx => by
        obtain ⟨p, hp, e⟩ := List.mem_map.mp hx
        rw [← e]; exact hk p hp
      rw [List.length_map] at this
      exact Nat.le_trans this (Nat.le_trans hA.few (by decide))
    · have e : (es.map fun p => ((.inr p.1 : Key), p.2.toD)).map (·.1) = (es.map (·.1)).map Sum.inr := by rw [List.map_map, List.map_map]; rfl
      rw [e]
      exact List.Pairwise.map _ (fun a b h e => h (Sum.inr.inj e)) nd
    · obtain ⟨q, hq, rfl⟩ := List.mem_map.mp hp
      exact ⟨fun s e => by cases e; exact text_len (hA.key _ (hk q hq)), ih q hq⟩
  have st : ∀ s : Str, s.length ≤ 1000 → (D.str s).wf := fun s h => by rw [D.wf]; exact h
  induction h with
  | keep => rw [Pt.toD, D.wf, D.wfL, D.wfL]; exact ⟨by simp, st _ (by decide), trivial⟩
  | drop => rw [Pt.toD, D.wf, D.wfL, D.wfL]; exact ⟨by simp, st _ (by decide), trivial⟩
  | set h => rw [Pt.toD]; exact h2 _ _ (st _ (by decide)) (h.wf hA)
  | dflt h => rw [Pt.toD]; exact h2 _ _ (st _ (by decide)) (h.wf hA)
  | merge nd hk hp ih => rw [Pt.toD]; exact h2 _ _ (st _ (by decide)) (es _ nd hk ih)
  | inside nd hk hp ih => rw [Pt.toD]; exact h2 _ _ (st _ (by decide)) (es _ nd hk ih)
  | @chn n ps hl hp ih =>
    rw [Pt.toD]
    refine h2 _ _ (st _ (by decide)) ?_
    rw [D.wf, ptsD_map, List.length_map]
    refine ⟨by omega, ?_⟩
    have : ∀ xs : List Pt, (∀ p ∈ xs, p.toD.wf) → D.wfL (xs.map Pt.toD) := fun xs => by
      induction xs with
      | nil => intro _; rw [List.map_nil, D.wfL]; trivial
      | cons x r ih => intro h; rw [List.map_cons, D.wfL]; exact ⟨h x List.mem_cons_self, ih fun p hp => h p (List.mem_cons_of_mem _ hp)⟩
    exact this ps ih
theorem PtOk.deep {m n : Nat} {p : Pt} (h : PtOk A m n p) : p.toD.deep ≤ 2 * n + m + 1 := by
  have es : ∀ (n : Nat) (es : List (Str × Pt)), (∀ p ∈ es, p.2.toD.deep ≤ n) → D.deepK (esD es) ≤ n := fun n es ih => by
    rw [esD_map]
    refine deepK_le fun p hp => ?_
    obtain ⟨q, hq, rfl⟩ := List.mem_map.mp hp
    exact ih q hq
  induction h with
  | keep => rw [Pt.toD]; simp only [D.deep, D.deepL]; omega
  | drop => rw [Pt.toD]; simp only [D.deep, D.deepL]; omega
  | set h => rw [Pt.toD]; have := h.deep; simp only [D.deep, D.deepL]; omega
  | dflt h => rw [Pt.toD]; have := h.deep; simp only [D.deep, D.deepL]; omega
  | merge nd hk hp ih => rw [Pt.toD]; have := es _ _ ih; simp only [D.deep, D.deepL]; omega
  | inside nd hk hp ih => rw [Pt.toD]; have := es _ _ ih; simp only [D.deep, D.deepL]; omega
  | @chn n ps hl hp ih =>
    rw [Pt.toD]
    have : D.deepL (ptsD ps) ≤ 2 * n + m + 1 := by
      rw [ptsD_map]
      refine deepL_le fun p hp => ?_
      obtain ⟨q, hq, rfl⟩ := List.mem_map.mp hp
      exact ih q hq
    simp only [D.deep, D.deepL]; omega
theorem PtOk.valid (hA : Alp A) (h6 : A.length ≤ 6) {m n : Nat} (hm : m ≤ 5) {p : Pt} (h : PtOk A m n p) : ∀ {k : Int}, (n : Int) ≤ k → isNestD p.toD k = true := by
  have es : ∀ (k : Int) (es : List (Str × Pt)), (es.map (·.1)).Nodup → (∀ p ∈ es, p.1 ∈ A) → (∀ p ∈ es, isNestD p.2.toD k = true) → isEntsD (.dic (esD es)) k = true := fun k es nd hk ih => by
    have hl : es.length ≤ 6 := by
      have := len_le_alp nd fun x hx => by
        obtain ⟨p, hp, e⟩ := List.mem_map.mp hx
        rw [← e]; exact hk p hp
      rw [List.length_map] at this
      omega
    rw [isEntsD, isNestK_all, esD_map, List.length_map, List.all_map, List.map_map, List.all_map, decide_eq_true hl, Bool.true_and, Bool.and_eq_true]
    exact ⟨List.all_eq_true.mpr fun p hp => hA.key _ (hk p hp), List.all_eq_true.mpr fun p hp => ih p hp⟩
  induction h with
  | keep => intro k _; rw [Pt.toD, isNestD.eq_def]; simp only [if_pos (show (("keep" : Str) = "keep" ∨ ("keep" : Str) = "drop") by decide)]; rfl
  | drop => intro k _; rw [Pt.toD, isNestD.eq_def]; simp only [if_pos (show (("drop" : Str) = "keep" ∨ ("drop" : Str) = "drop") by decide)]; rfl
  | set h =>
    intro k _; rw [Pt.toD, isNestD.eq_def]
    simp only [if_neg (show ¬ (("set" : Str) = "keep" ∨ ("set" : Str) = "drop") by decide), if_pos (show (("set" : Str) = "set" ∨ ("set" : Str) = "default") by decide)]
    exact h.valid hA h6 (by omega)
  | dflt h =>
    intro k _; rw [Pt.toD, isNestD.eq_def]
    simp only [if_neg (show ¬ (("default" : Str) = "keep" ∨ ("default" : Str) = "drop") by decide), if_pos (show (("default" : Str) = "set" ∨ ("default" : Str) = "default") by decide)]
    exact h.valid hA h6 (by omega)
  | @merge n e nd hk hp ih =>
    intro k hkk; rw [Pt.toD, isNestD.eq_def]
    simp only [if_neg (show ¬ (("merge" : Str) = "keep" ∨ ("merge" : Str) = "drop") by decide), if_neg (show ¬ (("merge" : Str) = "set" ∨ ("merge" : Str) = "default") by decide), if_neg (show ¬ k = 0 by omega), if_pos (show (("merge" : Str) = "merge" ∨ ("merge" : Str) = "inside") by decide)]
    exact es _ _ nd hk fun p h => ih p h (by omega)
  | @inside n e nd hk hp ih =>
    intro k hkk; rw [Pt.toD, isNestD.eq_def]
    simp only [if_neg (show ¬ (("inside" : Str) = "keep" ∨ ("inside" : Str) = "drop") by decide), if_neg (show ¬ (("inside" : Str) = "set" ∨ ("inside" : Str) = "default") by decide), if_neg (show ¬ k = 0 by omega), if_pos (show (("inside" : Str) = "merge" ∨ ("inside" : Str) = "inside") by decide)]
    exact es _ _ nd hk fun p h => ih p h (by omega)
  | @chn n ps hl hp ih =>
    intro k hkk; rw [Pt.toD, isNestD.eq_def]
    simp only [if_neg (show ¬ (("chain" : Str) = "keep" ∨ ("chain" : Str) = "drop") by decide), if_neg (show ¬ (("chain" : Str) = "set" ∨ ("chain" : Str) = "default") by decide), if_neg (show ¬ k = 0 by omega), if_neg (show ¬ (("chain" : Str) = "merge" ∨ ("chain" : Str) = "inside") by decide), if_neg (show ¬ (("chain" : Str) ≠ "chain") by decide)]
    rw [isChD, ptsD_map, List.length_map, decide_eq_true hl, isNestL_all, List.map_map, List.all_map, Bool.true_and]
    exact List.all_eq_true.mpr fun p h => ih p h (by omega)
theorem getF_esF {es : List (Str × Pt)} (nd : (es.map (·.1)).Nodup) {k : Str} {p : Pt} (h : (k, p) ∈ es) : getF (esF es) k = formOf p := by
  unfold getF
  rw [mem_lookF (f := formOf p) (by rw [esF_keys]; exact nd) (by rw [esF_map]; exact List.mem_map.mpr ⟨(k, p), h, rfl⟩)]; rfl
theorem nodup_inr {α : Type} {es : List (Str × α)} {f : α → D} (nd : (es.map (·.1)).Nodup) : ((es.map fun p => ((.inr p.1 : Key), f p.2)).map (·.1)).Nodup := by
  have e : (es.map fun p => ((.inr p.1 : Key), f p.2)).map (·.1) = (es.map (·.1)).map Sum.inr := by rw [List.map_map, List.map_map]; rfl
  rw [e]
  exact List.Pairwise.map _ (fun a b h e => h (Sum.inr.inj e)) nd
/-- a patch that is valid, with its depths -/
structure PtV (A : List Str) (p : Pt) : Prop where
  ok : PtOk A 5 6 p
  valid : isNestD p.toD 6 = true
structure StV (A : List Str) (s : D) : Prop where
  ok : St A 5 s
  valid : isStateD s = true
theorem PtV.of (hA : Alp A) (h6 : A.length ≤ 6) {m n : Nat} {p : Pt} (h : PtOk A m n p) (hm : m ≤ 5) (hn : n ≤ 6) : PtV A p := ⟨h.mono hm hn, h.valid hA h6 hm (by omega)⟩
theorem StV.of (hA : Alp A) (h6 : A.length ≤ 6) {n : Nat} {s : D} (h : St A n s) (hn : n ≤ 5) : StV A s := ⟨h.mono hn, h.valid hA h6 hn⟩
end
end Mp
set_option maxRecDepth 100000
set_option maxHeartbeats 4000000
namespace Mp
open PySem L2
/-! ### trees: what a state means, with plain equality -/
inductive T
  | no | int (i : Int) | str (s : Str) | nd (m : Str → T)
mutual
def sem : D → T
  | .non => .no
  | .int i => .int i
  | .str s => .str s
  | .dic ks => .nd (semK ks)
  | .bl _ => .no
  | .tup _ => .no
  | .lst _ => .no
def semK : List (Key × D) → Str → T
  | [], _ => .no
  | (k, d) :: r, x => if k = .inr x then sem d else semK r x
end
section
variable {A : List Str}
theorem sem_non : sem .non = .no := by rw [sem]
theorem semK_look : ∀ (ks : List (Key × D)) (x : Str), semK ks x = sem ((look ks (.inr x)).getD .non)
  | [], x => by rw [semK, look, Option.getD_none, sem_non]
  | (k, d) :: r, x => by
    rw [semK, look, semK_look r x]
    split <;> rfl
theorem Doc.sem_ne {n : Nat} {d : D} (h : Doc A n d) : sem d ≠ .no := by
  cases h <;> rw [sem] <;> exact fun e => by cases e
theorem look_none_of {α : Type} : ∀ {ks : List (Key × α)} {k : Key}, k ∉ ks.map (·.1) → look ks k = none
  | [], _, _ => rfl
  | (j, x) :: r, k, h => by
    rw [List.map_cons, List.mem_cons, not_or] at h
    rw [look, if_neg fun e => h.1 e.symm]; exact look_none_of h.2
theorem look_some_of {α : Type} : ∀ {ks : List (Key × α)} {k : Key}, k ∈ ks.map (·.1) → ∃ d, look ks k = some d
  | (j, x) :: r, k, h => by
    rw [look]
    split
    · exact ⟨x, rfl⟩
    · next e =>
      rw [List.map_cons, List.mem_cons] at h
      exact look_some_of (h.resolve_left fun z => e z.symm)
theorem look_key {α : Type} {ks : List (Key × α)} {k : Key} {d : α} (h : look ks k = some d) : k ∈ ks.map (·.1) := List.mem_map.mpr ⟨(k, d), look_mem h, rfl⟩
theorem eqvK_iff : ∀ (ks js : List (Key × D)), D.eqvK ks js = true ↔ ∀ p ∈ ks, ∃ y, look js p.1 = some y ∧ D.eqv p.2 y = true
  | [], js => by rw [D.eqvK]; simp
  | (k, x) :: r, js => by
    rw [D.eqvK, Bool.and_eq_true, eqvK_iff r js]
    constructor
    · rintro ⟨h1, h2⟩ p hp
      rcases List.mem_cons.mp hp with e | hp
      · subst e
        cases q : look js k with
        | none => simp only [q] at h1; cases h1
        | some y => simp only [q] at h1; exact ⟨y, rfl, h1⟩
      · exact h2 p hp
    · intro h
      obtain ⟨y, e, h1⟩ := h (k, x) List.mem_cons_self
      refine ⟨?_, fun p hp => h p (List.mem_cons_of_mem _ hp)⟩
      simp only at e
      rw [e]; exact h1
theorem Doc.eqv_iff {n m : Nat} {d e : D} (h : Doc A n d) (g : Doc A m e) : D.eqv d e = true ↔ sem d = sem e := by
  induction h generalizing m e with
  | int n h => cases g <;> rw [D.eqv] <;> simp [sem]
  | str n h => cases g <;> rw [D.eqv] <;> simp [sem]
  | @dic n ks nd hk hd ih =>
    cases g with
    | int _ _ => rw [D.eqv] <;> simp [sem]
    | str _ _ => rw [D.eqv] <;> simp [sem]
    | @dic m js nd' hk' hd' =>
      rw [D.eqv, Bool.and_eq_true, eqvK_iff, sem, sem]
      constructor
      · rintro ⟨hl, h⟩
        have hl : ks.length = js.length := by simpa using hl
        congr 1
        funext x
        rw [semK_look, semK_look]
        cases q : look ks (.inr x) with
        | some d =>
          have hm := look_mem q
          obtain ⟨y, e, hy⟩ := h _ hm
          simp only at e hy
          rw [e]
          exact (ih _ hm (hd' _ (look_mem e))).mp hy
        | none =>
          cases q' : look js (.inr x) with
          | none => rfl
          | some y =>
            exfalso
            have := len_le_alp (xs := .inr x :: ks.map (·.1)) (ys := js.map (·.1)) (List.nodup_cons.mpr ⟨(fun hx => by
              obtain ⟨d, e⟩ := look_some_of hx; rw [q] at e; cases e), nd⟩) fun k hk => by
                rcases List.mem_cons.mp hk with e | hk
                · rw [e]; exact look_key q'
                · obtain ⟨p, hp, e⟩ := List.mem_map.mp hk
                  obtain ⟨y, e2, _⟩ := h p hp
                  rw [← e]; exact look_key e2
            simp at this; omega
      · intro h
        have h : semK ks = semK js := by injection h
        have key : ∀ (x : Str), (look ks (.inr x)).isSome = (look js (.inr x)).isSome := fun x => by
          have hx := congrFun h x
          rw [semK_look, semK_look] at hx
          cases q : look ks (.inr x) with
          | none =>
            cases q' : look js (.inr x) with
            | none => rfl
            | some y => rw [q, q', Option.getD_none, sem_non] at hx; exact absurd hx.symm (hd' _ (look_mem q')).sem_ne
          | some y =>
            cases q' : look js (.inr x) with
            | some _ => rfl
            | none => rw [q, q', Option.getD_none, sem_non] at hx; exact absurd hx (hd _ (look_mem q)).sem_ne
        have sub1 : ∀ k ∈ ks.map (·.1), k ∈ js.map (·.1) := fun k hkk => by
          obtain ⟨p, hp, e⟩ := List.mem_map.mp hkk
          obtain ⟨x, _, ex⟩ := hk p hp
          obtain ⟨d, ed⟩ := look_some_of hkk
          rw [← e, ex] at ed ⊢
          have := key x
          rw [ed] at this
          cases q : look js (.inr x) with
          | none => rw [q] at this; cases this
          | some y => exact look_key q
        have sub2 : ∀ k ∈ js.map (·.1), k ∈ ks.map (·.1) := fun k hkk => by
          obtain ⟨p, hp, e⟩ := List.mem_map.mp hkk
          obtain ⟨x, _, ex⟩ := hk' p hp
          obtain ⟨d, ed⟩ := look_some_of hkk
          rw [← e, ex] at ed ⊢
          have := key x
          rw [ed] at this
          cases q : look ks (.inr x) with
          | none => rw [q] at this; cases this
          | some y => exact look_key q
        refine ⟨?_, fun p hp => ?_⟩
        · have a := len_le_alp nd sub1
          have b := len_le_alp nd' sub2
          simp at a b ⊢; omega
        · obtain ⟨x, _, ex⟩ := hk p hp
          obtain ⟨y, e⟩ := look_some_of (sub1 p.1 (List.mem_map.mpr ⟨p, hp, rfl⟩))
          refine ⟨y, e, (ih p hp (hd' _ (look_mem e))).mpr ?_⟩
          have hx := congrFun h x
          rw [semK_look, semK_look, ← ex, e, mem_look nd (show (p.1, p.2) ∈ ks from hp)] at hx
          exact hx
theorem St.eqv_iff {n m : Nat} {d e : D} (h : St A n d) (g : St A m e) : D.eqv d e = true ↔ sem d = sem e := by
  rcases h with rfl | h
  · rcases g with rfl | g
    · rw [D.eqv]; simp
    · have := g.sem_ne
      cases g <;> simp [sem, D.eqv]
  · rcases g with rfl | g
    · have := h.sem_ne
      cases h <;> rw [D.eqv] <;> simp [sem]
    · exact h.eqv_iff g
/-! ### forms -/
/-! ### patches -/
end
end Mp
set_option maxRecDepth 100000
set_option maxHeartbeats 4000000
namespace Mp
open PySem L2
def t__law_draw (K : PySem.W.Frag) : TS :=
  (tSeq (tIfS (tTest (tOp (rI0 fun i j => .bl (decide (j < i))) (tOp (rSub K) (tVar 1) (tC (.int 1))) (tC (.int 0)))) (tSeq (tAsg (tOp (rI (fun _ j => 0 < j) fun i j => .int (i % j)) (tOp (rSub K) (tVar 1) (tC (.int 1))) (tVar 2)) (gName 3))
    (tSeq (tAsg (tOp (rI CDiv fun i j => .int (i / j)) (tOp (rSub K) (tVar 1) (tC (.int 1))) (tVar 2)) (gSub (tVar 1) (tC (.int 1)) rSetL))
    (tRet (tVar 3)))) tNext)
    (tSeq (tAsg (tOp (rSub K) (tVar 1) (tC (.int 0))) (gName 4))
    (tSeq (tAugS (tVar 1) (tC (.int 0)) (tC (.int 1)) (rGetL K) (ipI fun i j => i + j) rSetL)
    (tSeq (tIfS (tTest (tOp (rEqS K) (tVar 0) (tLst tNil))) (tRet (tOp (rI (fun _ j => 0 < j) fun i j => .int (i % j)) (tVar 4) (tVar 2))) tNext)
    (tSeq (tIfS (tAnd (tTest (tOp (rI0 fun i j => .bl (decide (i < j))) (tVar 4) (tCB (rLenX K) (tCons (tVar 0) tNil)))) (tTest (tOp (rI0 fun i j => .bl (decide (j ≤ i))) (tOp (rSub K) (tVar 0) (tVar 4)) (tOp (rI CPow fun i j => .int (i ^ j.toNat)) (tC (.int 10)) (tC (.int 18)))))) (tSeq (tAsg (tOp (rI (fun _ j => 0 < j) fun i j => .int (i % j)) (tOp (rI CDiv fun i j => .int (i / j)) (tOp (rSub K) (tVar 0) (tVar 4)) (tVar 2)) (tOp (rI (fun i j => MulOk i j) fun i j => .int (i * j)) (tOp (rI CPow fun i j => .int (i ^ j.toNat)) (tC (.int 10)) (tC (.int 60))) (tOp (rI CPow fun i j => .int (i ^ j.toNat)) (tC (.int 10)) (tC (.int 60))))) (gSub (tVar 1) (tC (.int 1)) rSetL))
    (tRet (tOp (rI (fun _ j => 0 < j) fun i j => .int (i % j)) (tOp (rSub K) (tVar 0) (tVar 4)) (tVar 2)))) tNext)
    (tSeq (tAsg (tOp (rI (fun _ j => 0 < j) fun i j => .int (i % j)) (tOp (rI0 fun i j => .int (i + j)) (tOp (rI0 fun i j => .int (i + j)) (tOp (rI (fun i j => MulOk i j) fun i j => .int (i * j)) (tOp (rSub K) (tVar 0) (tOp (rI (fun _ j => 0 < j) fun i j => .int (i % j)) (tVar 4) (tCB (rLenX K) (tCons (tVar 0) tNil)))) (tC (.int 1103515245))) (tOp (rI (fun i j => MulOk i j) fun i j => .int (i * j)) (tC (.int 7919)) (tVar 4))) (tC (.int 12345))) (tC (.int 2147483647))) (gName 5))
    (tRet (tOp (rI (fun _ j => 0 < j) fun i j => .int (i % j)) (tOp (rI (fun _ j => 0 < j) fun i j => .int (i % j)) (tOp (rI (fun _ j => 0 < j) fun i j => .int (i % j)) (tOp (rI CPow fun i j => .int (i ^ j.toNat)) (tVar 5) (tC (.int 5))) (tC (.int 2147483647))) (tC (.int 999983))) (tVar 2)))))))))
def t__law_pick (K : PySem.W.Frag) (sp__law_draw : Sp) : TS :=
  (tRet (tOp (rSub K) (tVar 2) (tCall sp__law_draw [] E0 (tCons (tVar 0) (tCons (tVar 1) (tCons (tCB (rLenX K) (tCons (tVar 2) tNil)) tNil))))))
def t__law_document (K : PySem.W.Frag) (sp__law_document sp__law_pick sp__law_draw : Sp) : TS :=
  (tSeq (tIfS (tOr (tTest (tOp (rEqX K) (tVar 2) (tC (.int 0)))) (tTest (tOp (rI0 fun i j => .bl (decide (i < j))) (tCall sp__law_draw [] E0 (tCons (tVar 0) (tCons (tVar 1) (tCons (tC (.int 5)) tNil)))) (tC (.int 2))))) (tRet (tCall sp__law_pick [] E0 (tCons (tVar 0) (tCons (tVar 1) (tCons (tLst (tCons (tC (.int 0)) (tCons (tC (.int 1)) (tCons (tC (.int 2)) (tCons (tUn (rU fun i => .int (-i)) (tC (.int 7))) (tCons (tC (.str "")) (tCons (tC (.str "x")) (tCons (tC (.str "yes")) tNil)))))))) tNil))))) tNext)
    (tSeq (tAsg (tCall sp__law_pick [] E0 (tCons (tVar 0) (tCons (tVar 1) (tCons (tLst (tCons (tC (.str "")) (tCons (tC (.str "a")) (tCons (tC (.str "b")) (tCons (tC (.str "ab")) (tCons (tC (.str "ab")) (tCons (tC (.str "bc")) (tCons (tC (.str "abc")) tNil)))))))) tNil)))) (gName 3))
    (tRet (tCB (rDictX K) (tCons (tLc (iAny K (tVar 3)) (gName 4) tYes (tTupF (tCons (tVar 4) (tCons (tCall sp__law_document [] E0 (tCons (tVar 0) (tCons (tVar 1) (tCons (tOp (rI0 fun i j => .int (i - j)) (tVar 2) (tC (.int 1))) tNil)))) tNil))) [4]) tNil)))))
def t__law_state (K : PySem.W.Frag) (sp__law_draw sp__law_document : Sp) : TS :=
  (tRet (tIf (tTest (tOp (rEqX K) (tCall sp__law_draw [] E0 (tCons (tVar 0) (tCons (tVar 1) (tCons (tC (.int 6)) tNil)))) (tC (.int 0)))) (tC .non) (tCall sp__law_document [] E0 (tCons (tVar 0) (tCons (tVar 1) (tCons (tVar 2) tNil))))))
def t__law_patch (K : PySem.W.Frag) (sp__law_patch sp__law_pick sp__law_draw sp__law_document : Sp) : TS :=
  (tSeq (tAsg (tCall sp__law_pick [] E0 (tCons (tVar 0) (tCons (tVar 1) (tCons (tLst (tCons (tC (.str "keep")) (tCons (tC (.str "set")) (tCons (tC (.str "drop")) (tCons (tC (.str "default")) (tCons (tC (.str "merge")) (tCons (tC (.str "merge")) (tCons (tC (.str "inside")) (tCons (tC (.str "inside")) (tCons (tC (.str "chain")) tNil)))))))))) tNil)))) (gName 3))
    (tSeq (tIfS (tTest (tOp (rInX K false) (tVar 3) (tTupF (tCons (tC (.str "keep")) (tCons (tC (.str "drop")) tNil))))) (tRet (tTupF (tCons (tVar 3) tNil))) tNext)
    (tSeq (tIfS (tOr (tTest (tOp (rInX K false) (tVar 3) (tTupF (tCons (tC (.str "set")) (tCons (tC (.str "default")) tNil))))) (tTest (tOp (rEqX K) (tVar 2) (tC (.int 0))))) (tRet (tTupF (tCons (tCall sp__law_pick [] E0 (tCons (tVar 0) (tCons (tVar 1) (tCons (tLst (tCons (tC (.str "set")) (tCons (tC (.str "default")) tNil))) tNil)))) (tCons (tCall sp__law_document [] E0 (tCons (tVar 0) (tCons (tVar 1) (tCons (tC (.int 2)) tNil)))) tNil)))) tNext)
    (tSeq (tIfS (tTest (tOp (rEqX K) (tVar 3) (tC (.str "chain")))) (tRet (tTupF (tCons (tVar 3) (tCons (tCB (rTupleF K) (tCons (tLc (iRng1 (tCons (tCall sp__law_draw [] E0 (tCons (tVar 0) (tCons (tVar 1) (tCons (tC (.int 4)) tNil)))) tNil)) (gName 5) tYes (tCall sp__law_patch [] E0 (tCons (tVar 0) (tCons (tVar 1) (tCons (tOp (rI0 fun i j => .int (i - j)) (tVar 2) (tC (.int 1))) tNil)))) [5]) tNil)) tNil)))) tNext)
    (tSeq (tAsg (tCall sp__law_pick [] E0 (tCons (tVar 0) (tCons (tVar 1) (tCons (tLst (tCons (tC (.str "")) (tCons (tC (.str "a")) (tCons (tC (.str "b")) (tCons (tC (.str "ab")) (tCons (tC (.str "bc")) tNil)))))) tNil)))) (gName 4))
    (tRet (tTupF (tCons (tVar 3) (tCons (tCB (rDictX K) (tCons (tLc (iAny K (tVar 4)) (gName 6) tYes (tTupF (tCons (tVar 6) (tCons (tCall sp__law_patch [] E0 (tCons (tVar 0) (tCons (tVar 1) (tCons (tOp (rI0 fun i j => .int (i - j)) (tVar 2) (tC (.int 1))) tNil)))) tNil))) [6]) tNil)) tNil)))))))))
end Mp
set_option maxRecDepth 100000
set_option maxHeartbeats 4000000
namespace Mp
open PySem L2
local macro_rules | `(tactic| walk_at "s") => `(tactic| first
  | with_reducible refine ds_seq ?_
  | with_reducible refine ds_ret ?_
  | with_reducible refine ds_if ?_
  | with_reducible refine ds_asg ?_
  | with_reducible refine ds_drop ?_
  | with_reducible refine ds_next ?_
  | with_reducible refine ds_retN ?_
  | with_reducible refine then_nx ?_
  | with_reducible refine then_rt ?_
  | with_reducible refine gives_rt ?_
  | with_reducible refine gives_nx
  | with_reducible refine dt_not ?_
  | with_reducible refine dt_test ?_
  | with_reducible refine dt_B ?_
  | with_reducible refine dt_and ?_
  | with_reducible refine dt_or ?_
  | with_reducible refine dt_yes ?_
  | with_reducible refine ex_bl ?_
  | with_reducible refine ex_ii ?_
  | ((with_reducible show DE _ (tVar _) _ _); refine de_var rfl ?_)
  | with_reducible refine de_int ?_
  | with_reducible refine de_str ?_
  | with_reducible refine de_bl ?_
  | with_reducible refine de_non ?_
  | with_reducible refine de_sub ?_
  | with_reducible refine de_eq ?_
  | with_reducible refine de_ne ?_
  | with_reducible refine de_in ?_
  | with_reducible refine de_add ?_
  | with_reducible refine de_subI ?_
  | with_reducible refine de_lt ?_
  | with_reducible refine de_le ?_
  | with_reducible refine de_gt ?_
  | with_reducible refine de_ge ?_
  | with_reducible refine de_neg ?_
  | with_reducible refine de_isN ?_
  | with_reducible refine de_notN ?_
  | with_reducible refine de_chainII ?_
  | with_reducible refine de_len ?_
  | with_reducible refine de_isi .str rfl ?_
  | with_reducible refine de_isi .int rfl ?_
  | with_reducible refine de_isi .bool rfl ?_
  | with_reducible refine de_isi .dict rfl ?_
  | with_reducible refine de_isi .tuple rfl ?_
  | with_reducible refine de_isi .list rfl ?_
  | with_reducible refine de_all ?_
  | with_reducible refine de_sum ?_
  | with_reducible refine de_if ?_
  | with_reducible refine de_andV ?_
  | with_reducible refine de_orV ?_
  | with_reducible refine de_notV ?_
  | with_reducible refine de_tuple ?_
  | with_reducible refine de_get1 ?_
  | with_reducible refine de_get2 ?_
  | with_reducible refine de_tup0 ?_
  | with_reducible refine de_tup1 ?_
  | with_reducible refine de_tup2 ?_
  | with_reducible refine de_tup3 ?_
  | with_reducible refine de_tup4 ?_
  | with_reducible refine de_tup ?_
  | with_reducible refine de_call ?_
  | with_reducible refine da_nil ?_
  | with_reducible refine da_cons ?_)
/-! ### _law_draw -/
def R_draw (ns : List Int) (ds : List D) (S : D → Prop) : Prop := ∃ m : Int, ds = [.int m] ∧ 0 < m ∧ m ≤ 1000 ∧ S = fun d => ∃ i : Int, d = .int i ∧ 0 ≤ i ∧ i < m
section
variable {K : PySem.W.Frag}
theorem sub_tw {H : Hp} {t : Addr} {p q : Int} {Q : VK} (h : H t = some (.lst [.int p, .int q])) : (Q (.int p) H → rSub K (.ref t) (.int 0) H Q) ∧ (Q (.int q) H → rSub K (.ref t) (.int 1) H Q) :=
  ⟨fun z => .inl (.inl ⟨t, _, 0, _, rfl, rfl, .inl (.inl h), rfl, z⟩), fun z => .inl (.inl ⟨t, _, 1, _, rfl, rfl, .inl (.inl h), rfl, z⟩)⟩
theorem sub_sc {H : Hp} {a : Addr} {ns : List Int} {i : Int} {Q : VK} (h : SqL K H a (ns.map V.int)) (h0 : 0 ≤ i) (h1 : i < ns.length) : ∃ n : Int, (Q (.int n) H → rSub K (.ref a) (.int i) H Q) := by
  have hl : i.toNat < ns.length := by omega
  refine ⟨ns[i.toNat], fun z => .inl (.inl ⟨a, _, i, _, rfl, rfl, h, ?_, z⟩)⟩
  unfold L2.atI L2.ixN
  rw [if_pos h0, if_pos (by rw [List.length_map]; exact h1)]
  simp [hl]
theorem Sub.scr {t a : Addr} {ns : List Int} {G H : Hp} (s : Sub ⟨K, some (t, a, ns)⟩ G H) (p q : Int) : SqL K H a (ns.map V.int) ∧ SqL K (upd H t (.lst [.int p, .int q])) a (ns.map V.int) := by
  obtain ⟨h, ne⟩ := s.sc t a ns rfl
  rcases ne with z | ne
  · exact ⟨z _, z _⟩
  rcases h with h | ⟨h, _⟩
  · exact ⟨h _, h _⟩
  · refine ⟨.inl h, .inl ?_⟩
    rcases h with h | ⟨o, h⟩
    · exact .inl (by rw [upd_ne ne]; exact h)
    · exact .inr ⟨o, by rw [upd_ne ne]; exact h⟩
/-- the town is written: a step -/
theorem Step.town {t a : Addr} {ns : List Int} {G H : Hp} (s : Sub ⟨K, some (t, a, ns)⟩ G H) {p q : Int} (hp : 0 ≤ p) : Step ⟨K, some (t, a, ns)⟩ G H G (upd H t (.lst [.int p, .int q])) := by
  have tt : Cn.T ⟨K, some (t, a, ns)⟩ t := ⟨_, rfl⟩
  have gt := s.tg t tt
  refine ⟨fun _ _ h => h, ⟨fun x u h => ?_, fun t' q' e => ?_, s.tg, fun t' a' ns' e => ?_⟩, fun x u hT hg h => ?_, fun x _ h => h, fun x o u h => ?_⟩
  · have ne : x ≠ t := by rintro rfl; rw [gt] at h; cases h
    exact At.to (upd_ne ne) (s.pl x u h)
  · cases e; exact ⟨p, q, hp, upd_same⟩
  · cases e
    obtain ⟨h, ne⟩ := s.sc t a ns rfl
    rcases ne with z | ne
    · exact ⟨.inl z, .inl z⟩
    refine ⟨h.imp id fun ⟨r, g⟩ => ⟨?_, g⟩, .inr ne⟩
    rcases r with r | ⟨o, r⟩
    · exact .inl (by rw [upd_ne ne]; exact r)
    · exact .inr ⟨o, by rw [upd_ne ne]; exact r⟩
  · have ne : x ≠ t := by rintro rfl; exact hT tt
    rw [upd_ne ne]; exact h
  · have ne : x ≠ t := by
      rintro rfl
      obtain ⟨p', q', _, e⟩ := s.iv x _ rfl
      rw [e] at h; cases h
    rw [upd_ne ne]; exact h
theorem Sub.sq {t a : Addr} {ns : List Int} {G H : Hp} (s : Sub ⟨K, some (t, a, ns)⟩ G H) : SqL K H a (ns.map V.int) :=
  (s.sc t a ns rfl).1.elim (fun h => h H) fun h => .inl h.1
theorem body_draw {vs : List V} {H : Hp} {Q : VK} {E : XK} (q : SpT K R_draw vs H Q E) : t__law_draw K { nx := fun _ H' => Q .non H', rt := Q } (L2.start ["script", "town", "many", "one", "at", "mixed"] vs) H := by
  obtain ⟨t, a, ns, G, ds, us, S, s, rfl, hu, ⟨m, rfl, h0, h1, rfl⟩, k⟩ := q
  unfold HasL HasL at hu
  obtain ⟨v, r, rfl, hv, rfl⟩ := hu
  unfold Has at hv
  subst hv
  obtain ⟨p, q, hp, ht⟩ := s.iv t _ rfl
  have fin : ∀ (i : Int) (Hc : Hp), Step ⟨K, some (t, a, ns)⟩ G H G Hc → 0 ≤ i → i < m → Q (.int i) Hc := fun i Hc st hi0 hi1 => k (.int i) (.int i) G _ ⟨i, rfl, hi0, hi1⟩ st (by unfold Has; rfl)
  have mod : ∀ i : Int, 0 ≤ i % m ∧ i % m < m := fun i => ⟨Int.emod_nonneg _ (by omega), Int.emod_lt_of_pos _ h0⟩
  refine ⟨_, rfl, (sub_tw ht).2 ⟨_, _, rfl, rfl, _, rfl, ?_⟩⟩
  by_cases hq : 0 < q
  · refine it_t (decide_eq_true hq) ?_
    refine ⟨_, rfl, (sub_tw ht).2 ⟨_, rfl, q, m, rfl, rfl, h0, ?_⟩⟩
    refine ⟨_, rfl, (sub_tw ht).2 ⟨_, rfl, q, m, rfl, rfl, ⟨h0, by omega⟩, ?_⟩⟩
    refine ⟨_, rfl, t, _, 1, 1, rfl, rfl, ht, rfl, ?_⟩
    exact ⟨_, rfl, fin _ _ (Step.town s hp) (mod q).1 (mod q).2⟩
  · refine it_f (decide_eq_false hq) ?_
    refine ⟨_, rfl, (sub_tw ht).1 ?_⟩
    refine ⟨_, rfl, t, _, 0, _, rfl, rfl, Int.le_refl _, .inl (.inl ht), rfl, ?_⟩
    refine ⟨p, 1, rfl, rfl, t, _, 0, 0, rfl, rfl, ht, rfl, ?_⟩
    have st1 : Step ⟨K, some (t, a, ns)⟩ G H G (upd H t (.lst [.int (p + 1), .int q])) := Step.town s (by omega)
    have s1 := st1.sub
    refine ⟨_, rfl, ?_⟩
    refine ⟨by decide, fun l hl => ?_⟩
    have st2 := st1.trans (Step.tmp (o := .lst []) s1 hl)
    have s2 := st2.sub
    refine ⟨a, l, ns, rfl, rfl, s2.sq, .inl (.inl upd_same), ?_⟩
    refine ⟨_, rfl, ?_⟩
    by_cases hne : ns = []
    · refine it_t (by rw [hne]; rfl) ?_
      exact ⟨_, rfl, _, rfl, p, m, rfl, rfl, h0, fin _ _ st2 (mod p).1 (mod p).2⟩
    · refine it_f (by cases ns with | nil => exact absurd rfl hne | cons _ _ => rfl) ?_
      have hlen : 0 < ns.length := List.length_pos_iff.mpr hne
      have sq := s2.sq
      have slen : ((ns.map V.int).length : Int) = ns.length := by rw [List.length_map]
      have last : ∀ (n : Int), tSeq (tAsg (tOp (rI (fun _ j => 0 < j) fun i j => .int (i % j)) (tOp (rI0 fun i j => .int (i + j)) (tOp (rI0 fun i j => .int (i + j)) (tOp (rI (fun i j => MulOk i j) fun i j => .int (i * j)) (tOp (rSub K) (tVar 0) (tOp (rI (fun _ j => 0 < j) fun i j => .int (i % j)) (tVar 4) (tCB (rLenX K) (tCons (tVar 0) tNil)))) (tC (.int 1103515245))) (tOp (rI (fun i j => MulOk i j) fun i j => .int (i * j)) (tC (.int 7919)) (tVar 4))) (tC (.int 12345))) (tC (.int 2147483647))) (gName 5)) (tRet (tOp (rI (fun _ j => 0 < j) fun i j => .int (i % j)) (tOp (rI (fun _ j => 0 < j) fun i j => .int (i % j)) (tOp (rI (fun _ j => 0 < j) fun i j => .int (i % j)) (tOp (rI CPow fun i j => .int (i ^ j.toNat)) (tVar 5) (tC (.int 5))) (tC (.int 2147483647))) (tC (.int 999983))) (tVar 2))) { nx := fun _ H' => Q .non H', rt := Q } [some (.ref a), some (.ref t), some (.int m), none, some (.int p), none] (upd (upd H t (.lst [.int (p + 1), .int q])) l (.lst [])) := fun _ => by
        have hm1 : 0 ≤ p % ((ns.map V.int).length : Int) := Int.emod_nonneg _ (by omega)
        have hm2 : p % ((ns.map V.int).length : Int) < ns.length := by have := Int.emod_lt_of_pos p (b := ((ns.map V.int).length : Int)) (by omega); omega
        refine ⟨_, rfl, _, rfl, _, rfl, .inl ⟨a, _, rfl, .inl sq, p, _, rfl, rfl, by omega, ?_⟩⟩
        obtain ⟨n, hn⟩ := sub_sc (K := K) (Q := fun x H1 => tC (.int 1103515245) [some (.ref a), some (.ref t), some (.int m), none, some (.int p), none] H1 fun y H2 => (rI (fun i j => MulOk i j) fun i j => .int (i * j)) x y H2 _) sq hm1 hm2
        refine hn ⟨n, 1103515245, rfl, rfl, .inl (.inr ⟨by decide, by decide⟩), ?_⟩
        refine ⟨_, rfl, 7919, p, rfl, rfl, .inl (.inl ⟨by decide, by decide⟩), ?_⟩
        refine ⟨_, _, rfl, rfl, ?_⟩
        refine ⟨_, _, rfl, rfl, ?_⟩
        refine ⟨_, _, rfl, rfl, (by show (0 : Int) < _; decide), ?_⟩
        refine ⟨_, rfl, _, 5, rfl, rfl, ⟨by decide, by decide, ?_⟩, ?_⟩
        · have b1 := Int.emod_nonneg (n * 1103515245 + 7919 * p + 12345) (b := 2147483647) (by decide)
          have b2 := Int.emod_lt_of_pos (n * 1103515245 + 7919 * p + 12345) (b := 2147483647) (by decide)
          omega
        · refine ⟨_, _, rfl, rfl, (by show (0 : Int) < _; decide), ?_⟩
          refine ⟨_, _, rfl, rfl, (by show (0 : Int) < _; decide), ?_⟩
          exact ⟨_, rfl, _, m, rfl, rfl, h0, fin _ _ st2 (mod _).1 (mod _).2⟩
      refine ⟨_, rfl, _, rfl, .inl ⟨a, _, rfl, .inl sq, p, _, rfl, rfl, _, rfl, ?_⟩⟩
      by_cases hpl : p < ((ns.map V.int).length : Int)
      · refine it_t (decide_eq_true hpl) ?_
        have hpl' : p < (ns.length : Int) := by omega
        obtain ⟨n, hn⟩ : ∃ n : Int, ∀ (Q : VK), Q (.int n) (upd (upd H t (.lst [.int (p + 1), .int q])) l (.lst [])) → rSub K (.ref a) (.int p) (upd (upd H t (.lst [.int (p + 1), .int q])) l (.lst [])) Q := by
          have hl2 : p.toNat < ns.length := by omega
          refine ⟨ns[p.toNat], fun Q z => .inl (.inl ⟨a, _, p, _, rfl, rfl, sq, ?_, z⟩)⟩
          unfold L2.atI L2.ixN
          rw [if_pos hp, if_pos hpl]
          simp [hl2]
        refine ⟨_, rfl, _, rfl, hn _ ⟨10, 18, rfl, rfl, ⟨by decide, by decide, by decide⟩, n, _, rfl, rfl, _, rfl, ?_⟩⟩
        by_cases hbig : (10 : Int) ^ (18 : Int).toNat ≤ n
        · refine it_t (decide_eq_true hbig) ?_
          refine ⟨_, rfl, _, rfl, hn _ ⟨_, rfl, n, m, rfl, rfl, ⟨h0, by omega⟩, ?_⟩⟩
          refine ⟨10, 60, rfl, rfl, ⟨by decide, by decide, by decide⟩, 10, 60, rfl, rfl, ⟨by decide, by decide, by decide⟩, _, _, rfl, rfl, .inr (by unfold CMulW; decide +kernel), ?_⟩
          refine ⟨_, _, rfl, rfl, (by show (0 : Int) < _; decide), ?_⟩
          obtain ⟨p2, q2, hp2, ht2⟩ := s2.iv t _ rfl
          refine ⟨_, rfl, t, _, 1, 1, rfl, rfl, ht2, rfl, ?_⟩
          have st3 := st2.trans (Step.town (q := n / m % (10 ^ (60 : Int).toNat * 10 ^ (60 : Int).toNat)) s2 hp2)
          have sq3 := st3.sub.sq
          obtain ⟨n', hn'⟩ := sub_sc (Q := fun x H1 => tVar 2 [some (.ref a), some (.ref t), some (.int m), none, some (.int p), none] H1 fun y H2 => (rI (fun _ j => 0 < j) fun i j => .int (i % j)) x y H2 Q) sq3 hp hpl'
          exact ⟨_, rfl, _, rfl, hn' ⟨_, rfl, _, m, rfl, rfl, h0, fin _ _ st3 (mod _).1 (mod _).2⟩⟩
        · refine it_f (decide_eq_false hbig) ?_
          exact last 0
      · refine it_f (decide_eq_false hpl) (it_f rfl ?_)
        exact last 0
end
end Mp
set_option maxRecDepth 100000
set_option maxHeartbeats 4000000
namespace Mp
open PySem L2
local macro_rules | `(tactic| walk_at "s") => `(tactic| first
  | with_reducible refine ds_seq ?_
  | with_reducible refine ds_ret ?_
  | with_reducible refine ds_if ?_
  | with_reducible refine ds_asg ?_
  | with_reducible refine ds_drop ?_
  | with_reducible refine ds_next ?_
  | with_reducible refine ds_retN ?_
  | with_reducible refine then_nx ?_
  | with_reducible refine then_rt ?_
  | with_reducible refine gives_rt ?_
  | with_reducible refine gives_nx
  | with_reducible refine dt_not ?_
  | with_reducible refine dt_test ?_
  | with_reducible refine dt_B ?_
  | with_reducible refine dt_and ?_
  | with_reducible refine dt_or ?_
  | with_reducible refine dt_yes ?_
  | with_reducible refine ex_bl ?_
  | with_reducible refine ex_ii ?_
  | ((with_reducible show DE _ (tVar _) _ _); refine de_var rfl ?_)
  | with_reducible refine de_int ?_
  | with_reducible refine de_str ?_
  | with_reducible refine de_bl ?_
  | with_reducible refine de_non ?_
  | with_reducible refine de_sub ?_
  | with_reducible refine de_eq ?_
  | with_reducible refine de_ne ?_
  | with_reducible refine de_in ?_
  | with_reducible refine de_add ?_
  | with_reducible refine de_subI ?_
  | with_reducible refine de_lt ?_
  | with_reducible refine de_le ?_
  | with_reducible refine de_gt ?_
  | with_reducible refine de_ge ?_
  | with_reducible refine de_neg ?_
  | with_reducible refine de_isN ?_
  | with_reducible refine de_notN ?_
  | with_reducible refine de_chainII ?_
  | with_reducible refine de_len ?_
  | with_reducible refine de_isi .str rfl ?_
  | with_reducible refine de_isi .int rfl ?_
  | with_reducible refine de_isi .bool rfl ?_
  | with_reducible refine de_isi .dict rfl ?_
  | with_reducible refine de_isi .tuple rfl ?_
  | with_reducible refine de_isi .list rfl ?_
  | with_reducible refine de_all ?_
  | with_reducible refine de_sum ?_
  | with_reducible refine de_if ?_
  | with_reducible refine de_andV ?_
  | with_reducible refine de_orV ?_
  | with_reducible refine de_notV ?_
  | with_reducible refine de_tuple ?_
  | with_reducible refine de_get1 ?_
  | with_reducible refine de_get2 ?_
  | with_reducible refine de_tup0 ?_
  | with_reducible refine de_tup1 ?_
  | with_reducible refine de_tup2 ?_
  | with_reducible refine de_tup3 ?_
  | with_reducible refine de_tup4 ?_
  | with_reducible refine de_tup ?_
  | with_reducible refine de_isB ?_
  | with_reducible refine de_notB ?_
  | ((with_reducible show DE _ (tCall (SpT _ _) _ _ _) _ _); refine de_ct rfl rfl ?_)
  | with_reducible refine de_call ?_
  | with_reducible refine da_nil ?_
  | with_reducible refine da_cons ?_)
section
variable {K : PySem.W.Frag} {A : List Str}
def R_pick (ns : List Int) (ds : List D) (S : D → Prop) : Prop := ∃ xs : List D, ds = [.lst xs] ∧ 0 < xs.length ∧ xs.length ≤ 1000 ∧ S = fun d => d ∈ xs
theorem p_pick (t a : Addr) (ns : List Int) (ds : List D) (S : D → Prop) (h : R_pick ns ds S) : DS ⟨K, some (t, a, ns)⟩ (t__law_pick K (SpT K R_draw)) (slotsT ["script", "town", "some"] a t ds) (GivesS S) := by
  obtain ⟨xs, rfl, h0, h1, rfl⟩ := h
  show DS _ _ [.raw (.ref a), .raw (.ref t), .dat (.lst xs)] _
  unfold t__law_pick
  repeat walk_at "s"
  refine ⟨xs.length, rfl, ?_⟩
  repeat walk_at "s"
  refine ⟨[.int xs.length], _, rfl, ⟨xs.length, rfl, by omega, by omega, rfl⟩, ?_⟩
  rintro d ⟨i, rfl, hi0, hi1⟩
  have hl : i.toNat < xs.length := by omega
  refine ⟨xs[i.toNat], ?_, List.getElem_mem hl⟩
  show L2.atI xs i = _
  unfold L2.atI L2.ixN
  rw [if_pos hi0, if_pos hi1]
  simp [hl]
/-- the names of a draw: texts whose signs are keys, each once -/
def NamesOk (A : List Str) (x : D) : Prop := ∃ z : Str, x = .str z ∧ z.length ≤ 1000 ∧ (z.cps.toList.map fun n => (⟨#[n]⟩ : Str)).Nodup ∧ ∀ n ∈ z.cps.toList, (⟨#[n]⟩ : Str) ∈ A
theorem ksOk_of {n : Nat} {ms : List (Str × D)} {ks : List Str} (e : ms.map (·.1) = ks) (nd : ks.Nodup) (hk : ∀ k ∈ ks, k ∈ A) (hd : ∀ p ∈ ms, Doc A n p.2) : KsOk A n (ms.map fun p => ((.inr p.1 : Key), p.2)) := by
  refine ⟨?_, fun p hp => ?_, fun p hp => ?_⟩
  · have := nodup_inr (f := id) (es := ms) (by rw [e]; exact nd)
    exact this
  · obtain ⟨q, hq, rfl⟩ := List.mem_map.mp hp
    exact ⟨q.1, hk _ (e ▸ List.mem_map.mpr ⟨q, hq, rfl⟩), rfl⟩
  · obtain ⟨q, hq, rfl⟩ := List.mem_map.mp hp
    exact hd q hq
/-- dict([(key, f(key)) for key in names]) -/
theorem dn_named {c : Cn} {δ : List Sl} {te : TE} {tx : TE} {j : Nat} {P : D → Prop} (S : D → Prop) (h : DE c tx δ fun x => ∃ z : Str, x = .str z ∧ z.length ≤ 1000 ∧ (z.cps.toList.map fun n => (⟨#[n]⟩ : Str)).Nodup ∧
    (∀ n ∈ z.cps.toList, DE c te ((wipeD δ [j]).set j (.dat (.str ⟨#[n]⟩))) fun y => SPair S (.str ⟨#[n]⟩) y) ∧ ∀ ms : List (Str × D), ms.map (·.1) = (z.cps.toList.map fun n => (⟨#[n]⟩ : Str)) → (∀ p ∈ ms, S p.2) → P (.dic (ms.map fun p => ((.inr p.1 : Key), p.2)))) :
    DN c (tCB (rDictX c.K) (tCons (tLc (iAny c.K tx) (gName j) tYes te [j]) tNil)) δ P :=
  dn_dict ((dn_lcS (js := [j]) (SPair S) (fun _ h => h) (di_any (h.imp fun x ⟨z, e, hl, nd, ht, p⟩ => by
    subst e
    refine ⟨_, rfl, by rw [List.length_map]; exact Nat.le_of_lt (small1000 hl), fun i d hd => ?_, fun ys hy => ?_⟩
    · rw [List.getElem?_map] at hd
      cases q : z.cps.toList[i]? with
      | none => rw [q] at hd; cases hd
      | some n =>
        rw [q] at hd; cases hd
        exact dg_name (ht n (List.mem_of_getElem? q))
    · have e : (z.cps.toList.map fun n => D.str ⟨#[n]⟩) = (z.cps.toList.map fun n => (⟨#[n]⟩ : Str)).map .str := by rw [List.map_map]; rfl
      rw [e] at hy
      obtain ⟨ms, rfl, hk, hs⟩ := pairs_ms hy
      refine .inl ⟨_, rfl, ?_⟩
      rw [mergeD_nil [] (by rw [List.nil_append]; exact nodup_inr (f := id) (by rw [hk]; exact nd)), List.nil_append]
      exact p ms hk hs))).de)
def R_doc (A : List Str) (m : Nat) (ns : List Int) (ds : List D) (S : D → Prop) : Prop := ∃ n : Nat, ds = [.int n] ∧ n ≤ m ∧ S = Doc A n
def R_document (A : List Str) : Nat → List Int → List D → (D → Prop) → Prop
  | 0, _, _, _ => False
  | n + 1, ns, ds, S => R_doc A n ns ds S
theorem p_document (hN : ∀ x ∈ [D.str "", .str "a", .str "b", .str "ab", .str "ab", .str "bc", .str "abc"], NamesOk A x) (N : Nat) (t a : Addr) (ns : List Int) (ds : List D) (S : D → Prop) (h : R_document A (N + 1) ns ds S) :
    DS ⟨K, some (t, a, ns)⟩ (t__law_document K (SpT K (R_document A N)) (SpT K R_pick) (SpT K R_draw)) (slotsT ["script", "town", "depth", "names", "key"] a t ds) (GivesS S) := by
  obtain ⟨n, rfl, hnN, rfl⟩ := h
  show DS _ _ [.raw (.ref a), .raw (.ref t), .dat (.int n), .un, .un] _
  unfold t__law_document
  repeat walk_at "s"
  refine ⟨Nat.zero_le _, ?_⟩
  repeat walk_at "s"
  rw [eqv_nat]
  have pick : ∀ tt, DS ⟨K, some (t, a, ns)⟩ (tRet (tCall (SpT K R_pick) [] E0 (tCons (tVar 0) (tCons (tVar 1) (tCons (tLst (tCons (tC (.int 0)) (tCons (tC (.int 1)) (tCons (tC (.int 2)) (tCons (tUn (rU fun i => .int (-i)) (tC (.int 7))) (tCons (tC (.str "")) (tCons (tC (.str "x")) (tCons (tC (.str "yes")) tNil)))))))) tNil))))) [.raw (.ref a), .raw (.ref t), .dat (.int n), .un, .un] (Then ⟨K, some (t, a, ns)⟩ tt (GivesS (Doc A n))) := fun tt => by
    repeat walk_at "s"
    refine (dn_lst ?_).de
    repeat walk_at "s"
    refine ⟨7, rfl, ?_⟩
    repeat walk_at "s"
    refine ⟨[.int 0, .int 1, .int 2, .int (-7), .str "", .str "x", .str "yes"], rfl, by simp, ?_⟩
    repeat walk_at "s"
    refine ⟨[_], _, rfl, ⟨_, rfl, by simp, by simp, rfl⟩, fun d hd => ?_⟩
    refine then_rt ?_
    show Doc A n d
    simp only [List.mem_cons, List.not_mem_nil, or_false] at hd
    rcases hd with rfl | rfl | rfl | rfl | rfl | rfl | rfl
    · exact .int _ (by decide)
    · exact .int _ (by decide)
    · exact .int _ (by decide)
    · exact .int _ (by decide)
    · exact .str _ (by decide)
    · exact .str _ (by decide)
    · exact .str _ (by decide)
  refine it_c (fun h1 => it_t rfl (pick _)) fun h1 => ?_
  have hn : n ≠ 0 := by rintro rfl; simp at h1
  repeat walk_at "s"
  refine ⟨[.int 5], _, rfl, ⟨5, rfl, by decide, by decide, rfl⟩, ?_⟩
  rintro _ ⟨i, rfl, hi0, hi1⟩
  repeat walk_at "s"
  refine it_c (fun h2 => pick _) fun h2 => ?_
  repeat walk_at "s"
  refine (dn_lst ?_).de
  repeat walk_at "s"
  refine ⟨[.str "", .str "a", .str "b", .str "ab", .str "ab", .str "bc", .str "abc"], rfl, by simp, ?_⟩
  repeat walk_at "s"
  refine ⟨[_], _, rfl, ⟨_, rfl, by simp, by simp, rfl⟩, fun d hd => ?_⟩
  obtain ⟨z, rfl, hl, nd, hz⟩ := hN d hd
  repeat walk_at "s"
  obtain ⟨n, rfl⟩ : ∃ m, n = m + 1 := ⟨n - 1, by omega⟩
  refine (dn_named (Doc A n) ?_).de
  repeat walk_at "s"
  refine ⟨z, rfl, hl, nd, fun k hk => ?_, fun ms hm hs => ?_⟩
  · repeat walk_at "s"
    obtain ⟨N, rfl⟩ : ∃ M, N = M + 1 := ⟨N - 1, by omega⟩
    exact ⟨[.int n], _, by simp, ⟨n, rfl, by omega, rfl⟩, fun d hd => ⟨_, d, rfl, rfl, hd⟩⟩
  · exact (ksOk_of hm nd (fun k hk => by obtain ⟨n, hn, rfl⟩ := List.mem_map.mp hk; exact hz n hn) hs).doc
end
section
variable {K : PySem.W.Frag} {A : List Str}
def R_state (A : List Str) (m : Nat) (ns : List Int) (ds : List D) (S : D → Prop) : Prop := ∃ n : Nat, ds = [.int n] ∧ n ≤ m ∧ S = St A n
theorem p_state (m : Nat) (t a : Addr) (ns : List Int) (ds : List D) (S : D → Prop) (h : R_state A m ns ds S) :
    DS ⟨K, some (t, a, ns)⟩ (t__law_state K (SpT K R_draw) (SpT K (R_doc A m))) (slotsT ["script", "town", "depth"] a t ds) (GivesS S) := by
  obtain ⟨n, rfl, hn, rfl⟩ := h
  show DS _ _ [.raw (.ref a), .raw (.ref t), .dat (.int n)] _
  unfold t__law_state
  repeat walk_at "s"
  refine ⟨[.int 6], _, rfl, ⟨6, rfl, by decide, by decide, rfl⟩, ?_⟩
  rintro _ ⟨i, rfl, hi0, hi1⟩
  repeat walk_at "s"
  refine ⟨Nat.zero_le _, ?_⟩
  repeat walk_at "s"
  refine it_c (fun h2 => ?_) fun h2 => ?_
  · repeat walk_at "s"
    exact .inl rfl
  · repeat walk_at "s"
    exact ⟨[.int n], _, rfl, ⟨n, rfl, hn, rfl⟩, fun d hd => .inr hd⟩
def IsPt (A : List Str) (m n : Nat) (d : D) : Prop := ∃ p, d = Pt.toD p ∧ PtOk A m n p
def R_patch (A : List Str) : Nat → List Int → List D → (D → Prop) → Prop
  | 0, _, _, _ => False
  | n + 1, ns, ds, S => ∃ m : Nat, ds = [.int m] ∧ m ≤ n ∧ S = IsPt A 2 m
theorem all2_pts {m n : Nat} {xs : List D} : ∀ {ys : List D}, All2 (fun _ y => IsPt A m n y) xs ys → ∃ ps : List Pt, ys = ptsD ps ∧ ps.length = xs.length ∧ ∀ p ∈ ps, PtOk A m n p := by
  induction xs with
  | nil => intro ys h; unfold All2 at h; subst h; exact ⟨[], by rw [ptsD], rfl, fun p hp => by cases hp⟩
  | cons x xs ih =>
    intro ys h
    obtain ⟨y, r, rfl, ⟨p, rfl, hp⟩, h⟩ := h
    obtain ⟨ps, rfl, h1, h2⟩ := ih h
    refine ⟨p :: ps, by rw [ptsD], by simp [h1], fun q hq => ?_⟩
    rcases List.mem_cons.mp hq with e | hq
    · subst e; exact hp
    · exact h2 q hq
theorem ms_pts {m n : Nat} : ∀ {ms : List (Str × D)}, (∀ p ∈ ms, IsPt A m n p.2) → ∃ es : List (Str × Pt), (ms.map fun p => ((.inr p.1 : Key), p.2)) = esD es ∧ es.map (·.1) = ms.map (·.1) ∧ ∀ p ∈ es, PtOk A m n p.2
  | [], _ => ⟨[], by rw [esD]; rfl, rfl, fun p hp => by cases hp⟩
  | (k, d) :: ms, h => by
    obtain ⟨p, e, hp⟩ := h (k, d) List.mem_cons_self
    obtain ⟨es, h1, h2, h3⟩ := ms_pts fun q hq => h q (List.mem_cons_of_mem _ hq)
    refine ⟨(k, p) :: es, ?_, ?_, fun q hq => ?_⟩
    · rw [esD, List.map_cons, h1]; simp only at e; rw [e]
    · rw [List.map_cons, List.map_cons, h2]
    · rcases List.mem_cons.mp hq with e | hq
      · subst e; exact hp
      · exact h3 q hq
theorem p_patch (hN : ∀ x ∈ [D.str "", .str "a", .str "b", .str "ab", .str "bc"], NamesOk A x) (N : Nat) (t a : Addr) (ns : List Int) (ds : List D) (S : D → Prop) (h : R_patch A (N + 1) ns ds S) :
    DS ⟨K, some (t, a, ns)⟩ (t__law_patch K (SpT K (R_patch A N)) (SpT K R_pick) (SpT K R_draw) (SpT K (R_doc A 2))) (slotsT ["script", "town", "depth", "name", "names", "k", "key"] a t ds) (GivesS S) := by
  obtain ⟨n, rfl, hnN, rfl⟩ := h
  show DS _ _ [.raw (.ref a), .raw (.ref t), .dat (.int n), .un, .un, .un, .un] _
  unfold t__law_patch
  repeat walk_at "s"
  refine (dn_lst ?_).de
  repeat walk_at "s"
  refine ⟨[.str "keep", .str "set", .str "drop", .str "default", .str "merge", .str "merge", .str "inside", .str "inside", .str "chain"], rfl, by simp, ?_⟩
  repeat walk_at "s"
  refine ⟨[_], _, rfl, ⟨_, rfl, by simp, by simp, rfl⟩, fun d hd => ?_⟩
  obtain ⟨nm, rfl, hnm⟩ : ∃ nm : Str, d = .str nm ∧ nm ∈ (["keep", "drop", "set", "default", "merge", "inside", "chain"] : List Str) := by
    simp only [List.mem_cons, List.not_mem_nil, or_false] at hd
    rcases hd with rfl | rfl | rfl | rfl | rfl | rfl | rfl | rfl | rfl <;> exact ⟨_, rfl, by decide⟩
  clear hd
  repeat walk_at "s"
  refine ⟨_, inn2 _ _ _, ?_⟩
  repeat walk_at "s"
  refine it_c (fun h1 => ?_) fun h1 => ?_
  · repeat walk_at "s"
    rcases of_decide_eq_true h1 with rfl | rfl
    · exact ⟨.keep, by rw [Pt.toD], .keep⟩
    · exact ⟨.drop, by rw [Pt.toD], .drop⟩
  have h1' : ¬ (nm = "keep" ∨ nm = "drop") := of_decide_eq_false h1
  repeat walk_at "s"
  refine ⟨_, inn2 _ _ _, ?_⟩
  repeat walk_at "s"
  have sd : ∀ tt, DS ⟨K, some (t, a, ns)⟩ (tRet (tTupF (tCons (tCall (SpT K R_pick) [] E0 (tCons (tVar 0) (tCons (tVar 1) (tCons (tLst (tCons (tC (.str "set")) (tCons (tC (.str "default")) tNil))) tNil)))) (tCons (tCall (SpT K (R_doc A 2)) [] E0 (tCons (tVar 0) (tCons (tVar 1) (tCons (tC (.int 2)) tNil)))) tNil)))) [.raw (.ref a), .raw (.ref t), .dat (.int n), .dat (.str nm), .un, .un, .un] (Then ⟨K, some (t, a, ns)⟩ tt (GivesS (IsPt A 2 n))) := fun tt => by
    repeat walk_at "s"
    refine (dn_lst ?_).de
    repeat walk_at "s"
    refine ⟨[.str "set", .str "default"], rfl, by simp, ?_⟩
    repeat walk_at "s"
    refine ⟨[_], _, rfl, ⟨_, rfl, by simp, by simp, rfl⟩, fun d hd => ?_⟩
    repeat walk_at "s"
    refine ⟨[.int 2], _, rfl, ⟨2, rfl, by decide, rfl⟩, fun e he => ?_⟩
    refine then_rt ?_
    show IsPt A 2 n _
    simp only [List.mem_cons, List.not_mem_nil, or_false] at hd
    rcases hd with rfl | rfl
    · exact ⟨.set e, by rw [Pt.toD], .set he⟩
    · exact ⟨.dflt e, by rw [Pt.toD], .dflt he⟩
  refine it_c (fun h2 => it_t rfl (sd _)) fun h2 => ?_
  have h2' : ¬ (nm = "set" ∨ nm = "default") := of_decide_eq_false h2
  repeat walk_at "s"
  refine ⟨Nat.zero_le _, ?_⟩
  repeat walk_at "s"
  rw [eqv_nat]
  refine it_c (fun h3 => sd _) fun h3 => ?_
  have hn : n ≠ 0 := by rintro rfl; simp at h3
  obtain ⟨n, rfl⟩ : ∃ m, n = m + 1 := ⟨n - 1, by omega⟩
  obtain ⟨N, rfl⟩ : ∃ M, N = M + 1 := ⟨N - 1, by omega⟩
  repeat walk_at "s"
  refine ⟨Nat.zero_le _, ?_⟩
  repeat walk_at "s"
  rw [eqv_str]
  refine it_c (fun h4 => ?_) fun h4 => ?_
  · have h4' : nm = "chain" := by simpa using h4
    subst h4'
    repeat walk_at "s"
    refine (dn_lcS (js := [5]) (fun _ y => IsPt A 2 n y) (by simp) (di_rng ?_)).de
    repeat walk_at "s"
    refine ⟨[.int 4], _, rfl, ⟨4, rfl, by decide, by decide, rfl⟩, ?_⟩
    rintro _ ⟨i, rfl, hi0, hi1⟩
    refine ⟨i.toNat, by rw [Int.toNat_of_nonneg hi0], by omega, ?_, fun j d hd => dg_name ?_, fun ys hy => ?_⟩
    · rw [List.length_map, List.length_range]; exact Nat.le_of_lt (small1000 (n := i.toNat) (by omega))
    · repeat walk_at "s"
      exact ⟨[.int n], _, by simp, ⟨n, rfl, by omega, rfl⟩, fun d hd => hd⟩
    · obtain ⟨ps, rfl, hl, hp⟩ := all2_pts hy
      refine ⟨_, rfl, ?_⟩
      repeat walk_at "s"
      refine ⟨.chn ps, by rw [Pt.toD], .chn ?_ hp⟩
      simp at hl; omega
  · have h4' : ¬ nm = "chain" := by simpa using h4
    have hmi : nm = "merge" ∨ nm = "inside" := by
      simp only [List.mem_cons, List.not_mem_nil, or_false] at hnm
      rcases hnm with rfl | rfl | rfl | rfl | rfl | rfl | rfl
      · exact absurd (.inl rfl) h1'
      · exact absurd (.inr rfl) h1'
      · exact absurd (.inl rfl) h2'
      · exact absurd (.inr rfl) h2'
      · exact .inl rfl
      · exact .inr rfl
      · exact absurd rfl h4'
    repeat walk_at "s"
    refine (dn_lst ?_).de
    repeat walk_at "s"
    refine ⟨[.str "", .str "a", .str "b", .str "ab", .str "bc"], rfl, by simp, ?_⟩
    repeat walk_at "s"
    refine ⟨[_], _, rfl, ⟨_, rfl, by simp, by simp, rfl⟩, fun d hd => ?_⟩
    obtain ⟨z, rfl, hl, nd, hz⟩ := hN d hd
    repeat walk_at "s"
    refine (dn_named (IsPt A 2 n) ?_).de
    repeat walk_at "s"
    refine ⟨z, rfl, hl, nd, fun k hk => ?_, fun ms hm hs => ?_⟩
    · repeat walk_at "s"
      exact ⟨[.int n], _, by simp, ⟨n, rfl, by omega, rfl⟩, fun d hd => ⟨_, d, rfl, rfl, hd⟩⟩
    · repeat walk_at "s"
      obtain ⟨es, e1, e2, e3⟩ := ms_pts hs
      have nd' : (es.map (·.1)).Nodup := by rw [e2, hm]; exact nd
      have hin : ∀ p ∈ es, p.1 ∈ A := fun p hp => by
        have : p.1 ∈ z.cps.toList.map fun n => (⟨#[n]⟩ : Str) := by rw [← hm, ← e2]; exact List.mem_map.mpr ⟨p, hp, rfl⟩
        obtain ⟨n, hn, e⟩ := List.mem_map.mp this
        rw [← e]; exact hz n hn
      rw [e1]
      rcases hmi with rfl | rfl
      · exact ⟨.merge es, by rw [Pt.toD], .merge nd' hin e3⟩
      · exact ⟨.inside es, by rw [Pt.toD], .inside nd' hin e3⟩
end
/-! ### _law_small -/
/-! ### a document, decided -/
theorem Doc.sub {A B : List Str} (h : ∀ x ∈ A, x ∈ B) {n : Nat} {d : D} (g : Doc A n d) : Doc B n d := by
  induction g with
  | int n h => exact .int n h
  | str n h => exact .str n h
  | dic nd hk hd ih => exact .dic nd (fun p hp => let ⟨x, hx, e⟩ := hk p hp; ⟨x, h x hx, e⟩) ih
theorem St.sub {A B : List Str} (h : ∀ x ∈ A, x ∈ B) {n : Nat} {d : D} (g : St A n d) : St B n d := g.imp id fun g => g.sub h
def abcz : List Str := ["a", "b", "c", "z"]
section
variable {K : PySem.W.Frag} {W : WX}
/-- need_patch(value), need_state(value): they may raise -/
def R_needPX (Cp : Addr) (ds : List D) (r : D ⊕ ExD) : Prop := ∃ v, ds = [v] ∧ v.wf ∧ v.deep ≤ 40 ∧ r = if isNestD v 6 = true then .inl .non else .inr (.plain Cp)
def R_needSX (Cs : Addr) (ds : List D) (r : D ⊕ ExD) : Prop := ∃ v, ds = [v] ∧ v.wf ∧ v.deep ≤ 40 ∧ r = if isStateD v = true then .inl .non else .inr (.plain Cs)
theorem need_x {t : TS} {δ : List Sl} {b : Bool} {Cx : Addr} {o : D ⊕ ExD} (h : o = if b = true then .inl .non else .inr (.plain Cx)) {tt : TT} (ht : DT ⟨K, none⟩ tt δ fun x => x = !b) : DSX ⟨K, none⟩ W (tIfS tt (tRaise0 Cx W) tNext) δ (GivesO o) (RaisesO o) := by
  refine dsx_if (ht.imp fun x e => ?_)
  subst e
  cases b with
  | true => subst h; exact it_f rfl (DS.x (ds_next (δ := δ) (show Gives .non (.nx δ) from rfl)))
  | false => subst h; exact it_t rfl (dsx_raise0 rfl)
theorem p_need_patchX {Cp : Addr} (W : WX) (ds : List D) (o : D ⊕ ExD) (h : R_needPX Cp ds o) : DSX ⟨K, none⟩ W (t_need_patchX K Cp W (SpP K R_is_patch)) (slots ["value"] ds) (GivesO o) (RaisesO o) := by
  obtain ⟨v, rfl, hw, hd, ho⟩ := h
  show DSX _ _ _ [.dat v] _ _
  unfold t_need_patchX
  refine need_x (t := tNext) ho ?_
  repeat walk_at "s"
  refine ⟨[v], _, rfl, ⟨v, rfl, hw, hd, rfl⟩, ?_⟩
  exact ⟨_, rfl, rfl⟩
theorem p_need_stateX {Cs : Addr} (W : WX) (ds : List D) (o : D ⊕ ExD) (h : R_needSX Cs ds o) : DSX ⟨K, none⟩ W (t_need_stateX K Cs W (SpP K R_is_state)) (slots ["value"] ds) (GivesO o) (RaisesO o) := by
  obtain ⟨v, rfl, hw, hd, ho⟩ := h
  show DSX _ _ _ [.dat v] _ _
  unfold t_need_stateX
  refine need_x (t := tNext) ho ?_
  repeat walk_at "s"
  refine ⟨[v], _, rfl, ⟨v, rfl, hw, hd, rfl⟩, ?_⟩
  exact ⟨_, rfl, rfl⟩
end
end Mp
set_option maxRecDepth 100000
set_option maxHeartbeats 4000000
namespace Mp
open PySem L2
end Mp
set_option maxRecDepth 100000
set_option maxHeartbeats 4000000
namespace Mp
open PySem L2
local macro_rules | `(tactic| walk_at "s") => `(tactic| first
  | with_reducible refine ds_seq ?_
  | with_reducible refine ds_ret ?_
  | with_reducible refine ds_if ?_
  | with_reducible refine ds_asg ?_
  | with_reducible refine ds_drop ?_
  | with_reducible refine ds_next ?_
  | with_reducible refine ds_retN ?_
  | with_reducible refine then_nx ?_
  | with_reducible refine then_rt ?_
  | with_reducible refine gives_rt ?_
  | with_reducible refine gives_nx
  | with_reducible refine dt_not ?_
  | with_reducible refine dt_test ?_
  | with_reducible refine dt_B ?_
  | with_reducible refine dt_and ?_
  | with_reducible refine dt_or ?_
  | with_reducible refine dt_yes ?_
  | with_reducible refine ex_bl ?_
  | with_reducible refine ex_ii ?_
  | ((with_reducible show DE _ (tVar _) _ _); refine de_var rfl ?_)
  | with_reducible refine de_int ?_
  | with_reducible refine de_str ?_
  | with_reducible refine de_bl ?_
  | with_reducible refine de_non ?_
  | with_reducible refine de_sub ?_
  | with_reducible refine de_eq ?_
  | with_reducible refine de_ne ?_
  | with_reducible refine de_in ?_
  | with_reducible refine de_add ?_
  | with_reducible refine de_subI ?_
  | with_reducible refine de_lt ?_
  | with_reducible refine de_le ?_
  | with_reducible refine de_gt ?_
  | with_reducible refine de_ge ?_
  | with_reducible refine de_neg ?_
  | with_reducible refine de_isN ?_
  | with_reducible refine de_notN ?_
  | with_reducible refine de_chainII ?_
  | with_reducible refine de_len ?_
  | with_reducible refine de_isi .str rfl ?_
  | with_reducible refine de_isi .int rfl ?_
  | with_reducible refine de_isi .bool rfl ?_
  | with_reducible refine de_isi .dict rfl ?_
  | with_reducible refine de_isi .tuple rfl ?_
  | with_reducible refine de_isi .list rfl ?_
  | with_reducible refine de_all ?_
  | with_reducible refine de_sum ?_
  | with_reducible refine de_if ?_
  | with_reducible refine de_andV ?_
  | with_reducible refine de_orV ?_
  | with_reducible refine de_notV ?_
  | with_reducible refine de_tuple ?_
  | with_reducible refine de_get1 ?_
  | with_reducible refine de_get2 ?_
  | with_reducible refine de_tup0 ?_
  | with_reducible refine de_tup1 ?_
  | with_reducible refine de_tup2 ?_
  | with_reducible refine de_tup3 ?_
  | with_reducible refine de_tup4 ?_
  | with_reducible refine de_tup ?_
  | with_reducible refine de_isB ?_
  | with_reducible refine de_notB ?_
  | ((with_reducible show DE _ (tCall (SpT _ _) _ _ _) _ _); refine de_ct rfl rfl ?_)
  | with_reducible refine de_call ?_
  | with_reducible refine da_nil ?_
  | with_reducible refine da_cons ?_)
/-! ### smallest, source -/
end Mp
set_option maxRecDepth 100000
set_option maxHeartbeats 4000000
namespace Mp
open PySem L2
/-! ### sizes, by the keys of the alphabet -/
def gK (ks : List (Key × D)) (x : Str) : D := (look ks (.inr x)).getD .non
section
variable {A : List Str}
theorem sum_one {k : Str} {v : Int} {f : Str → Int} : ∀ {A : List Str}, A.Nodup → k ∈ A → (A.map fun x => if k = x then v else f x).sum = (A.map f).sum + v - f k
  | [], _, h => by cases h
  | a :: A, nd, h => by
    rw [List.nodup_cons] at nd
    rw [List.map_cons, List.sum_cons, List.map_cons, List.sum_cons]
    by_cases e : k = a
    · subst e
      rw [if_pos rfl]
      have : (A.map fun x => if k = x then v else f x) = A.map f := List.map_congr_left fun x hx => by
        have ne : ¬ k = x := fun z => nd.1 (by rw [z]; exact hx)
        show (if k = x then v else f x) = f x
        rw [if_neg ne]
      rw [this]; omega
    · rw [if_neg e, sum_one nd.2 ((List.mem_cons.mp h).resolve_left e)]; omega
theorem sum_zero : ∀ A : List Str, (A.map fun _ => (0 : Int)).sum = 0
  | [] => rfl
  | a :: A => by rw [List.map_cons, List.sum_cons, sum_zero A]; rfl
theorem size_non : sizeD .non = 0 := by rw [sizeD]
theorem KsOk.size (hN : A.Nodup) {n : Nat} : ∀ {ks : List (Key × D)}, KsOk A n ks → sizeK ks = (A.map fun x => sizeD (gK ks x)).sum
  | [], _ => by
    rw [sizeK]
    have : (A.map fun x => sizeD (gK [] x)) = A.map fun _ => (0 : Int) := List.map_congr_left fun x _ => size_non
    rw [this, sum_zero]
  | (k, d) :: r, h => by
    obtain ⟨x, hx, e⟩ := h.mem (k, d) List.mem_cons_self
    simp only at e
    subst e
    have nd := h.nd
    rw [List.map_cons, List.nodup_cons] at nd
    have hr : KsOk A n r := ⟨nd.2, fun p hp => h.mem p (List.mem_cons_of_mem _ hp), fun p hp => h.ok p (List.mem_cons_of_mem _ hp)⟩
    have e1 : (A.map fun y => sizeD (gK ((.inr x, d) :: r) y)) = A.map fun y => if x = y then sizeD d else sizeD (gK r y) := List.map_congr_left fun y _ => by
      unfold gK; rw [look]
      by_cases z : x = y
      · subst z; rw [if_pos rfl, if_pos rfl]; rfl
      · rw [if_neg z, if_neg fun w => z (Sum.inr.inj w)]
    have e2 : gK r x = .non := by unfold gK; rw [look_none_of nd.1]; rfl
    rw [sizeK, hr.size hN, e1, sum_one hN hx, e2, size_non]; omega
/-! ### source: sound, least -/
end
end Mp
set_option maxRecDepth 100000
set_option maxHeartbeats 4000000
namespace Mp
open PySem L2
end Mp
set_option maxRecDepth 100000
set_option maxHeartbeats 4000000
namespace Mp
open PySem L2
/-! ### normal forms -/
mutual
def Fm.nf : Fm → Prop
  | .con _ _ _ => True
  | .ent _ _ ps => (ps.map (·.1)).Pairwise (fun a b => leS a b = true) ∧ (ps.map (·.1)).Nodup ∧ nfK ps
def nfK : List (Str × Fm) → Prop
  | [] => True
  | (_, f) :: r => f.isKeep = false ∧ f.nf ∧ nfK r
end
theorem nfK_mem : ∀ {ps : List (Str × Fm)} {k : Str} {f : Fm}, nfK ps → (k, f) ∈ ps → f.isKeep = false ∧ f.nf
  | [], _, _, _, m => nomatch m
  | (j, g) :: r, k, f, h, m => by
    rw [nfK] at h
    rcases List.mem_cons.mp m with e | m
    · cases e; exact ⟨h.1, h.2.1⟩
    · exact nfK_mem h.2.2 m
theorem nfK_of : ∀ {ps : List (Str × Fm)}, (∀ p ∈ ps, p.2.isKeep = false ∧ p.2.nf) → nfK ps
  | [], _ => by rw [nfK]; trivial
  | (j, g) :: r, h => by
    rw [nfK]
    have h1 := h (j, g) (by simp)
    exact ⟨h1.1, h1.2, nfK_of fun p hp => h p (by simp [hp])⟩
theorem keep_nf : Fm.keep.nf := by unfold Fm.keep; rw [Fm.nf, nfK]; simp
theorem con_nf (a : D) (b : Option D) (c : D) : (Fm.con a b c).nf := by rw [Fm.nf]; trivial
theorem getF_nf {no : D} {sc : Option D} {ps : List (Str × Fm)} (h : (Fm.ent no sc ps).nf) (k : Str) : (getF ps k).nf := by
  rw [Fm.nf] at h
  unfold getF
  cases e : lookF ps k with
  | none => exact keep_nf
  | some f => exact (nfK_mem h.2.2 (lookF_mem e)).2
theorem pairsOf_nf {no : D} {sc : Option D} {ks : List Str} {g : Str → Fm} (nd : ks.Nodup) (hg : ∀ k ∈ ks, (g k).nf) : (Fm.ent no sc (pairsOf ks g)).nf := by
  rw [Fm.nf]
  unfold pairsOf
  have e : (((sortS ks).filter fun k => !(g k).isKeep).map fun k => (k, g k)).map (·.1) = (sortS ks).filter fun k => !(g k).isKeep := by
    rw [List.map_map]; exact List.map_id _
  rw [e]
  refine ⟨(sortS_pw ks).sublist List.filter_sublist, (sortS_nodup nd).sublist List.filter_sublist, nfK_of fun p hp => ?_⟩
  obtain ⟨k, hk, rfl⟩ := List.mem_map.mp hp
  obtain ⟨h1, h2⟩ := List.mem_filter.mp hk
  exact ⟨by simpa using h2, hg k (sortS_mem.mp h1)⟩
theorem chain_nf : ∀ (n : Nat) {f g : Fm}, f.nf → g.nf → (chain n f g).nf
  | 0, f, g, hf, hg => by rw [chain]; exact hg
  | n + 1, f, g, hf, hg => by
    rw [chain_eq]
    cases f with
    | con a b c => exact con_nf _ _ _
    | ent a b ps =>
      cases g with
      | con _ _ _ => exact con_nf _ _ _
      | ent a' b' qs => exact pairsOf_nf (keysU_nodup ps qs) fun k _ => chain_nf n (getF_nf hf k) (getF_nf hg k)
theorem chnF_nf : ∀ (ps : List Pt) {f : Fm}, f.nf → (∀ p ∈ ps, (formOf p).nf) → (chnF f ps).nf
  | [], f, hf, _ => by rw [chnF]; exact hf
  | p :: r, f, hf, h => by rw [chnF]; exact chnF_nf r (chain_nf 12 hf (h p (by simp))) fun q hq => h q (by simp [hq])
theorem esF_nf {no : D} {sc : Option D} {es : List (Str × Pt)} (nd : (es.map (·.1)).Nodup) (h : ∀ p ∈ es, (formOf p.2).nf) : (Fm.ent no sc (pairsOf ((esF es).map (·.1)) (getF (esF es)))).nf := by
  refine pairsOf_nf (by rw [esF_keys]; exact nd) fun k hk => ?_
  rw [esF_keys] at hk
  obtain ⟨p, hp, rfl⟩ := List.mem_map.mp hk
  rw [getF_esF nd hp]
  exact h p hp
theorem formOf_nf {A : List Str} {m n : Nat} {p : Pt} (h : PtOk A m n p) : (formOf p).nf := by
  induction h with
  | keep => rw [formOf]; exact keep_nf
  | drop => rw [formOf]; exact con_nf _ _ _
  | set _ => rw [formOf]; exact con_nf _ _ _
  | dflt _ => rw [formOf, Fm.nf, nfK]; simp
  | merge nd _ _ ih => rw [formOf]; exact esF_nf nd ih
  | inside nd _ _ ih => rw [formOf]; exact esF_nf nd ih
  | chn _ _ ih => rw [formOf]; exact chnF_nf _ keep_nf ih
/-! ### equal forms -/
end Mp
set_option maxRecDepth 100000
set_option maxHeartbeats 4000000
namespace Mp
open PySem L2
/-! ### differences -/
end Mp
set_option maxRecDepth 100000
set_option maxHeartbeats 4000000
namespace Mp
open PySem L2
end Mp
set_option maxRecDepth 100000
set_option maxHeartbeats 4000000
namespace Mp
open PySem L2
end Mp
set_option maxRecDepth 100000
set_option maxHeartbeats 4000000
namespace Mp
open PySem L2
local macro_rules | `(tactic| walk_at "s") => `(tactic| first
  | with_reducible refine ds_seq ?_
  | with_reducible refine ds_ret ?_
  | with_reducible refine ds_if ?_
  | with_reducible refine ds_asg ?_
  | with_reducible refine ds_drop ?_
  | with_reducible refine ds_next ?_
  | with_reducible refine ds_retN ?_
  | with_reducible refine then_nx ?_
  | with_reducible refine then_rt ?_
  | with_reducible refine gives_rt ?_
  | with_reducible refine gives_nx
  | with_reducible refine dt_not ?_
  | with_reducible refine dt_test ?_
  | with_reducible refine dt_B ?_
  | with_reducible refine dt_and ?_
  | with_reducible refine dt_or ?_
  | with_reducible refine dt_yes ?_
  | with_reducible refine ex_bl ?_
  | with_reducible refine ex_ii ?_
  | ((with_reducible show DE _ (tVar _) _ _); refine de_var rfl ?_)
  | with_reducible refine de_int ?_
  | with_reducible refine de_str ?_
  | with_reducible refine de_bl ?_
  | with_reducible refine de_non ?_
  | with_reducible refine de_sub ?_
  | with_reducible refine de_eq ?_
  | with_reducible refine de_ne ?_
  | with_reducible refine de_in ?_
  | with_reducible refine de_add ?_
  | with_reducible refine de_subI ?_
  | with_reducible refine de_lt ?_
  | with_reducible refine de_le ?_
  | with_reducible refine de_gt ?_
  | with_reducible refine de_ge ?_
  | with_reducible refine de_neg ?_
  | with_reducible refine de_isN ?_
  | with_reducible refine de_notN ?_
  | with_reducible refine de_chainII ?_
  | with_reducible refine de_len ?_
  | with_reducible refine de_isi .str rfl ?_
  | with_reducible refine de_isi .int rfl ?_
  | with_reducible refine de_isi .bool rfl ?_
  | with_reducible refine de_isi .dict rfl ?_
  | with_reducible refine de_isi .tuple rfl ?_
  | with_reducible refine de_isi .list rfl ?_
  | with_reducible refine de_all ?_
  | with_reducible refine de_sum ?_
  | with_reducible refine de_if ?_
  | with_reducible refine de_andV ?_
  | with_reducible refine de_orV ?_
  | with_reducible refine de_notV ?_
  | with_reducible refine de_tuple ?_
  | with_reducible refine de_get1 ?_
  | with_reducible refine de_get2 ?_
  | with_reducible refine de_tup0 ?_
  | with_reducible refine de_tup1 ?_
  | with_reducible refine de_tup2 ?_
  | with_reducible refine de_tup3 ?_
  | with_reducible refine de_tup4 ?_
  | with_reducible refine de_tup ?_
  | with_reducible refine de_isB ?_
  | with_reducible refine de_notB ?_
  | ((with_reducible show DE _ (tCall (SpT _ _) _ _ _) _ _); refine de_ct rfl rfl ?_)
  | with_reducible refine de_call ?_
  | with_reducible refine da_nil ?_
  | with_reducible refine da_cons ?_)
def NoTwo (B : List Str) : Prop := ∀ x ∈ B, x.length ≠ 2
structure UsOk (B : List Str) (us : List (Key × D)) : Prop where
  nd : (us.map (·.1)).Nodup
  mem : ∀ p ∈ us, ∃ x ∈ B, p.1 = .inr x
section
variable {A B : List Str} {K : PySem.W.Frag}
theorem UsOk.nil : UsOk B [] := ⟨by simp, fun p h => nomatch h⟩
theorem putD_keys {α : Type} {xs : List (Key × α)} {k : Key} (d : α) (h : k ∈ xs.map (·.1)) : (putD xs k d).map (·.1) = xs.map (·.1) := by
  unfold putD
  rw [if_pos, List.map_map]
  · refine List.map_congr_left fun p _ => ?_
    show (if p.1 = k then (p.1, d) else p).1 = p.1
    split <;> rfl
  · obtain ⟨p, hp, e⟩ := List.mem_map.mp h
    exact List.any_eq_true.mpr ⟨p, hp, decide_eq_true e⟩
theorem UsOk.ofKeys {us vs : List (Key × D)} (e : us.map (·.1) = vs.map (·.1)) (h : UsOk B us) : UsOk B vs := ⟨e ▸ h.nd, fun p hp => by
  have : p.1 ∈ us.map (·.1) := by rw [e]; exact List.mem_map.mpr ⟨p, hp, rfl⟩
  obtain ⟨q, hq, e2⟩ := List.mem_map.mp this
  rw [← e2]
  exact h.mem q hq⟩
theorem UsOk.put {us : List (Key × D)} (h : UsOk B us) {x : Str} (hx : x ∈ B) (d : D) : UsOk B (putD us (.inr x) d) := by
  by_cases hk : (.inr x : Key) ∈ us.map (·.1)
  · exact h.ofKeys (by rw [putD_keys d hk])
  · rw [putD_new hk]
    refine ⟨?_, fun p hp => ?_⟩
    · rw [List.map_append, List.nodup_append]
      refine ⟨h.nd, by simp, fun a ha b hb => ?_⟩
      simp at hb
      rintro rfl
      rw [hb] at ha
      exact hk ha
    · rcases List.mem_append.mp hp with z | z
      · exact h.mem p z
      · simp at z; subst z; exact ⟨x, hx, rfl⟩
theorem UsOk.merge : ∀ {ms us : List (Key × D)}, UsOk B us → (∀ p ∈ ms, ∃ x ∈ B, p.1 = .inr x) → UsOk B (mergeD us ms)
  | [], us, h, _ => h
  | (k, d) :: r, us, h, g => by
    obtain ⟨x, hx, e⟩ := g (k, d) (by simp)
    have e : k = .inr x := e
    subst e
    show UsOk B (mergeD (putD us (.inr x) d) r)
    exact UsOk.merge (h.put hx d) fun p hp => g p (by simp [hp])
theorem UsOk.len {us : List (Key × D)} (h : UsOk B us) : us.length ≤ B.length := keys_le h.nd h.mem
theorem UsOk.no {us : List (Key × D)} (h : UsOk B us) {x : Str} (hx : x ∉ B) : look us (.inr x) = none := by
  refine look_none_of fun hk => ?_
  obtain ⟨p, hp, e⟩ := List.mem_map.mp hk
  obtain ⟨y, hy, e2⟩ := h.mem p hp
  rw [e] at e2
  cases e2
  exact hx hy
end
section
variable {A B : List Str} {K : PySem.W.Frag}
theorem FmOk.sub (h : ∀ x ∈ A, x ∈ B) {n : Nat} {f : Fm} (g : FmOk A n f) : FmOk B n f := by
  induction g with
  | con a b c => exact .con (a.sub h) (fun e he => (b e he).sub h) (c.sub h)
  | ent a b nd mem _ ih => exact .ent (a.sub h) (fun e he => (b e he).sub h) nd (fun p hp => h _ (mem p hp)) ih
  | nil a b => exact .nil (a.sub h) fun e he => (b e he).sub h
theorem PtOk.sub (h : ∀ x ∈ A, x ∈ B) {m n : Nat} {p : Pt} (g : PtOk A m n p) : PtOk B m n p := by
  induction g with
  | keep => exact .keep
  | drop => exact .drop
  | set d => exact .set (d.sub h)
  | dflt d => exact .dflt (d.sub h)
  | merge nd mem _ ih => exact .merge nd (fun p hp => h _ (mem p hp)) ih
  | inside nd mem _ ih => exact .inside nd (fun p hp => h _ (mem p hp)) ih
  | chn l _ ih => exact .chn l ih
end
section
variable {A B : List Str} {K : PySem.W.Frag}
/-- patches over B of total depth 10 at most -/
structure PtB (B : List Str) (p : Pt) : Prop where
  ok : ∃ m n, m + n ≤ 10 ∧ m ≤ 5 ∧ n ≤ 6 ∧ PtOk B m n p
theorem PtB.nf {p : Pt} (h : PtB B p) : (formOf p).nf := by
  obtain ⟨m, n, h1, _, _, h2⟩ := h.ok
  exact formOf_nf h2
/-! ### copies of forms -/
/-! ### relations -/
end
theorem alp_abcz : Alp abcz := ⟨by decide, by decide⟩
theorem namesOk_of {A : List Str} {z : Str} (h : (decide (z.length ≤ 1000) && (decide ((z.cps.toList.map fun n => (⟨#[n]⟩ : Str)).Nodup) && z.cps.toList.all fun n => A.contains (⟨#[n]⟩ : Str))) = true) : NamesOk A (.str z) := by
  rw [Bool.and_eq_true, Bool.and_eq_true] at h
  exact ⟨z, rfl, of_decide_eq_true h.1, of_decide_eq_true h.2.1, fun n hn => by simpa using List.all_eq_true.mp h.2.2 n hn⟩
theorem names7 : ∀ x ∈ [D.str "", .str "a", .str "b", .str "ab", .str "ab", .str "bc", .str "abc"], NamesOk abcz x := by
  intro x hx
  simp only [List.mem_cons, List.not_mem_nil, or_false] at hx
  rcases hx with rfl | rfl | rfl | rfl | rfl | rfl | rfl <;> exact namesOk_of (by decide)
theorem names5 : ∀ x ∈ [D.str "", .str "a", .str "b", .str "ab", .str "bc"], NamesOk abcz x := by
  intro x hx
  simp only [List.mem_cons, List.not_mem_nil, or_false] at hx
  rcases hx with rfl | rfl | rfl | rfl | rfl <;> exact namesOk_of (by decide)
end Mp
set_option maxRecDepth 100000
set_option maxHeartbeats 4000000
namespace Mp
open PySem L2
/-! ### the laws' alphabets -/
structure Lab (A B : List Str) : Prop where
  hA : Alp A
  h6 : A.length ≤ 6
  sub : ∀ x ∈ B, x ∈ A
  aa : ("aa" : Str) ∈ A
  two : NoTwo B
  nd : A.Nodup
  z : ∀ x ∈ abcz, x ∈ B
noncomputable def cd (P : Prop) : Bool := @decide P (Classical.propDecidable P)
theorem cd_true {P : Prop} : cd P = true ↔ P := by unfold cd; exact @decide_eq_true_iff P (Classical.propDecidable P)
theorem cd_false {P : Prop} : cd P = false ↔ ¬ P := by unfold cd; exact @decide_eq_false_iff_not P (Classical.propDecidable P)
theorem cd_of {b : Bool} {P : Prop} (h : b = true ↔ P) : b = cd P := by
  cases b
  · exact (cd_false.mpr fun p => by cases h.2 p).symm
  · exact (cd_true.mpr (h.1 rfl)).symm
/-- a patch and its datum -/
def PD (B : List Str) (n : Nat) (x : D) (p : Pt) : Prop := x = p.toD ∧ PtOk B 4 n p
section
variable {A B : List Str} {n m : Nat} {x y z : D} {p q r : Pt}
theorem PD.v (L : Lab A B) (h : PD B n x p) (hn : n ≤ 6) : PtV A p := .of L.hA L.h6 (h.2.sub L.sub) (by omega) hn
theorem PD.mono (h : PD B n x p) (hn : n ≤ m) : PD B m x p := ⟨h.1, h.2.mono (Nat.le_refl _) hn⟩
theorem PD.of {k : Nat} (hz : ∀ x ∈ abcz, x ∈ B) (hk : k ≤ 4) (h : PtOk abcz k n p) : PD B n p.toD p := ⟨rfl, (h.sub hz).mono hk (Nat.le_refl _)⟩
theorem PD.keep : PD B 0 (.tup [.str "keep"]) .keep := ⟨by rw [Pt.toD], .keep⟩
theorem PD.drop : PD B 0 (.tup [.str "drop"]) .drop := ⟨by rw [Pt.toD], .drop⟩
theorem PD.set {d : D} (h : Doc B 4 d) : PD B 0 (.tup [.str "set", d]) (.set d) := ⟨by rw [Pt.toD], .set h⟩
theorem PD.dflt {d : D} (h : Doc B 4 d) : PD B 0 (.tup [.str "default", d]) (.dflt d) := ⟨by rw [Pt.toD], .dflt h⟩
theorem PD.in1 {k : Str} (hk : k ∈ B) (hx : PD B n x p) : PD B (n + 1) (.tup [.str "inside", .dic [(.inr k, x)]]) (.inside [(k, p)]) := ⟨by rw [Pt.toD, esD, esD, hx.1], .inside (by simp) (by simp [hk]) (by simp; exact hx.2)⟩
end
section
variable {A B : List Str} {n m : Nat} {x y z : D} {p q r : Pt}
/-! ### what the decisions say -/
/-! ### calls, on data -/
variable {P : D → Prop}
/-- states and what they mean -/
def SM (A : List Str) (n : Nat) (x : D) (t : T) : Prop := St A n x ∧ sem x = t
theorem SM.of (h : St A n x) : SM A n x (sem x) := ⟨h, rfl⟩
theorem SM.mono {t : T} (h : SM A n x t) (l : n ≤ m) : SM A m x t := ⟨h.1.mono l, h.2⟩
theorem SM.eqv {t u : T} (h : SM A n x t) (g : SM A m y u) : D.eqv x y = cd (t = u) := by
  refine cd_of ?_
  rw [h.1.eqv_iff g.1, h.2, g.2]
theorem SM.deep {t : T} (h : SM A n x t) (hn : n ≤ 50) : D.deep x ≤ 50 := Nat.le_trans h.1.deep hn
end
end Mp
set_option maxRecDepth 100000
set_option maxHeartbeats 4000000
namespace Mp
open PySem L2
local macro_rules | `(tactic| walk_at "s") => `(tactic| first
  | with_reducible refine ds_seq ?_
  | with_reducible refine ds_ret ?_
  | with_reducible refine ds_if ?_
  | with_reducible refine ds_asg ?_
  | with_reducible refine ds_drop ?_
  | with_reducible refine ds_next ?_
  | with_reducible refine ds_retN ?_
  | with_reducible refine then_nx ?_
  | with_reducible refine then_rt ?_
  | with_reducible refine gives_rt ?_
  | with_reducible refine gives_nx
  | with_reducible refine dt_not ?_
  | with_reducible refine dt_test ?_
  | with_reducible refine dt_B ?_
  | with_reducible refine dt_and ?_
  | with_reducible refine dt_or ?_
  | with_reducible refine dt_yes ?_
  | with_reducible refine ex_bl ?_
  | with_reducible refine ex_ii ?_
  | ((with_reducible show DE _ (tVar _) _ _); refine de_var rfl ?_)
  | with_reducible refine de_int ?_
  | with_reducible refine de_str ?_
  | with_reducible refine de_bl ?_
  | with_reducible refine de_non ?_
  | with_reducible refine de_sub ?_
  | with_reducible refine de_eq ?_
  | with_reducible refine de_ne ?_
  | with_reducible refine de_in ?_
  | with_reducible refine de_add ?_
  | with_reducible refine de_subI ?_
  | with_reducible refine de_lt ?_
  | with_reducible refine de_le ?_
  | with_reducible refine de_gt ?_
  | with_reducible refine de_ge ?_
  | with_reducible refine de_neg ?_
  | with_reducible refine de_isN ?_
  | with_reducible refine de_notN ?_
  | with_reducible refine de_chainII ?_
  | with_reducible refine de_len ?_
  | with_reducible refine de_isi .str rfl ?_
  | with_reducible refine de_isi .int rfl ?_
  | with_reducible refine de_isi .bool rfl ?_
  | with_reducible refine de_isi .dict rfl ?_
  | with_reducible refine de_isi .tuple rfl ?_
  | with_reducible refine de_isi .list rfl ?_
  | with_reducible refine de_all ?_
  | with_reducible refine de_sum ?_
  | with_reducible refine de_if ?_
  | with_reducible refine de_andV ?_
  | with_reducible refine de_orV ?_
  | with_reducible refine de_notV ?_
  | with_reducible refine de_tuple ?_
  | with_reducible refine de_get1 ?_
  | with_reducible refine de_get2 ?_
  | with_reducible refine de_tup0 ?_
  | with_reducible refine de_tup1 ?_
  | with_reducible refine de_tup2 ?_
  | with_reducible refine de_tup3 ?_
  | with_reducible refine de_tup4 ?_
  | with_reducible refine de_tup ?_
  | with_reducible refine de_isB ?_
  | with_reducible refine de_notB ?_
  | ((with_reducible show DE _ (tCall (SpT _ _) _ _ _) _ _); refine de_ct rfl rfl ?_)
  | with_reducible refine de_call ?_
  | with_reducible refine da_nil ?_
  | with_reducible refine da_cons ?_)
end Mp
set_option maxRecDepth 100000
set_option maxHeartbeats 4000000
namespace Mp
open PySem L2
end Mp
set_option maxRecDepth 100000
set_option maxHeartbeats 4000000
namespace Mp
open PySem L2
local macro_rules | `(tactic| walk_at "s") => `(tactic| first
  | with_reducible refine ds_seq ?_
  | with_reducible refine ds_ret ?_
  | with_reducible refine ds_if ?_
  | with_reducible refine ds_asg ?_
  | with_reducible refine ds_drop ?_
  | with_reducible refine ds_next ?_
  | with_reducible refine ds_retN ?_
  | with_reducible refine then_nx ?_
  | with_reducible refine then_rt ?_
  | with_reducible refine gives_rt ?_
  | with_reducible refine gives_nx
  | with_reducible refine dt_not ?_
  | with_reducible refine dt_test ?_
  | with_reducible refine dt_B ?_
  | with_reducible refine dt_and ?_
  | with_reducible refine dt_or ?_
  | with_reducible refine dt_yes ?_
  | with_reducible refine ex_bl ?_
  | with_reducible refine ex_ii ?_
  | ((with_reducible show DE _ (tVar _) _ _); refine de_var rfl ?_)
  | with_reducible refine de_int ?_
  | with_reducible refine de_str ?_
  | with_reducible refine de_bl ?_
  | with_reducible refine de_non ?_
  | with_reducible refine de_sub ?_
  | with_reducible refine de_eq ?_
  | with_reducible refine de_ne ?_
  | with_reducible refine de_in ?_
  | with_reducible refine de_add ?_
  | with_reducible refine de_subI ?_
  | with_reducible refine de_lt ?_
  | with_reducible refine de_le ?_
  | with_reducible refine de_gt ?_
  | with_reducible refine de_ge ?_
  | with_reducible refine de_neg ?_
  | with_reducible refine de_isN ?_
  | with_reducible refine de_notN ?_
  | with_reducible refine de_chainII ?_
  | with_reducible refine de_len ?_
  | with_reducible refine de_isi .str rfl ?_
  | with_reducible refine de_isi .int rfl ?_
  | with_reducible refine de_isi .bool rfl ?_
  | with_reducible refine de_isi .dict rfl ?_
  | with_reducible refine de_isi .tuple rfl ?_
  | with_reducible refine de_isi .list rfl ?_
  | with_reducible refine de_all ?_
  | with_reducible refine de_sum ?_
  | with_reducible refine de_if ?_
  | with_reducible refine de_andV ?_
  | with_reducible refine de_orV ?_
  | with_reducible refine de_notV ?_
  | with_reducible refine de_tuple ?_
  | with_reducible refine de_get1 ?_
  | with_reducible refine de_get2 ?_
  | with_reducible refine de_tup0 ?_
  | with_reducible refine de_tup1 ?_
  | with_reducible refine de_tup2 ?_
  | with_reducible refine de_tup3 ?_
  | with_reducible refine de_tup4 ?_
  | with_reducible refine de_tup ?_
  | with_reducible refine de_isB ?_
  | with_reducible refine de_notB ?_
  | ((with_reducible show DE _ (tCall (SpT _ _) _ _ _) _ _); refine de_ct rfl rfl ?_)
  | with_reducible refine de_call ?_
  | with_reducible refine da_nil ?_
  | with_reducible refine da_cons ?_)
end Mp
set_option maxRecDepth 100000
set_option maxHeartbeats 4000000
namespace Mp
open PySem L2
end Mp
set_option maxRecDepth 100000
set_option maxHeartbeats 4000000
namespace Mp
open PySem L2
/-! ### lists of the def's own, read and popped -/
end Mp
set_option maxRecDepth 100000
set_option maxHeartbeats 4000000
namespace Mp
open PySem L2
end Mp
set_option maxRecDepth 100000
set_option maxHeartbeats 4000000
namespace Mp
open PySem L2
end Mp
set_option maxRecDepth 100000
set_option maxHeartbeats 4000000
namespace Mp
open PySem L2
/-! ### [f, g, ..][i](..): a call of a def that stands in a list -/
def tCallD (cs : List (Addr × Sp)) (E : L2.St → XK) (te : TE) (t : TA) : TE := fun σ H Q => te σ H fun v H1 => ∃ p ∈ cs, v = .ref p.1 ∧ t σ H1 fun vs H2 => p.2 vs H2 Q (E σ)
/-- what a caller knows of the def at f -/
structure ClA (P : Program) (w : World) (K : PySem.W.Frag) (mg : Str → Option Value) (base : Heap) (f : Addr) (k : Nat) (sp : Sp) : Prop where
  ex : ∃ (fd : FuncData) (ps : List Str), FnOk P w K mg base (L2.CX P w) k f fd ps sp ∧ Binds K fd ps [] ∧ PySem.W.keepIn K (.ref f) = true
theorem ClA.mono {P : Program} {w : World} {K : PySem.W.Frag} {mg : Str → Option Value} {base : Heap} {f : Addr} {j k : Nat} {sp : Sp} (C : ClA P w K mg base f j sp) (h : j ≤ k) : ClA P w K mg base f k sp :=
  let ⟨fd, ps, F, r⟩ := C.ex
  ⟨fd, ps, F.mono h, r⟩
section
open PyProof.Rows
variable {X : Cx} {W : WX} {k : Nat} {cs : List (Addr × Sp)} {pos : Pos} {e func : Expr} {es : List Expr} {te : TE} {t : TA}
theorem pe_callD (C : ∀ p ∈ cs, ClA X.prog X.w X.K X.mg X.base p.1 k p.2) (hr : Room k X.A) (tk : Takes X W) (hf : PE X func te) (ha : PA X (e :: es) t)
    (he : starEach (e :: es) X.env = (false, eval e X.env) :: starEach es X.env := by rfl) (hpl : (backTo pos (starEach es X.env)).any (·.1) = false := by rfl)
    (ht : eval (.Call func (e :: es) [] pos) X.env = (do callWith pos (← eval func X.env) [] (backTo pos (starEach (e :: es) X.env)) (backToKw pos (keywordEach [] X.env))) := by rfl) :
    PE X (.Call func (e :: es) [] pos) (tCallD cs (WE W) te t) := by
  refine ⟨fun pins s σ H Q I h => ?_⟩
  rw [ht]
  refine wpAny_bind (thn (hf.run pins s σ H _ I h) fun u s1 ⟨v, H1, I1, r1, q1⟩ => ?_)
  obtain ⟨p, hp, rfl, q⟩ := q1
  cases r1
  obtain ⟨fd, ps, F, b, kp⟩ := (C p hp).ex
  refine PySem.W.callWith_K (h₀ := X.base) I.ok.mod.kin kp (thn (ha.run pos pins s1 σ H1 _ I1 q) fun us s2 ⟨vs, H2, I2, r, q2⟩ => ⟨I2.kIn, ?_⟩) he hpl
  exact run_fnS (us := us) (vs := vs) F hr b (passAt tk σ) I2 r q2
end
def tRefs : List Addr → TA
  | [] => tNil
  | f :: r => tCons (tC (.ref f)) (tRefs r)
theorem tRefs_run {σ : L2.St} {H : Hp} : ∀ {fs : List Addr} {Q : List V → Hp → Prop}, Q (fs.map V.ref) H → tRefs fs σ H Q
  | [], Q, h => h
  | f :: r, Q, h => tRefs_run (fs := r) h
end Mp
set_option maxRecDepth 100000
set_option maxHeartbeats 4000000
namespace Mp.Rd
open PySem L2 Mp
/-! ### readers: an instance with a text and a place (printed by mkrd.py from the layer of stores) -/
structure Sto where
  tx : Str
  at' : Nat
/-- at a stands a reader, its objects are f -/
def StF (K : PySem.W.Frag) (C : Addr) (G H : Hp) (a : Addr) (S : Sto) (f : List Addr) : Prop :=
  ∃ (dx : Addr), f = [a, dx] ∧ f.Nodup ∧ H a = some (.ins C dx [("text", .str S.tx), ("at", .int S.at')]) ∧ H dx = some (.own a) ∧ ∀ x ∈ f, G x = none
section
variable {c : Cn} {G H G1 H1 G2 H2 : Hp} {f f' : List Addr} {K : PySem.W.Frag} {C a : Addr} {S : Sto}
theorem StF.there (h : StF K C G H a S f) : ∀ x ∈ f, H x ≠ none := by
  obtain ⟨dx, rfl, _, h1, h2, _⟩ := h
  intro x hx
  simp only [List.mem_cons, List.not_mem_nil, or_false] at hx
  rcases hx with rfl | rfl
  · rw [h1]; exact fun z => nomatch z
  · rw [h2]; exact fun z => nomatch z
theorem StF.free (h : StF K C G H a S f) : ∀ x ∈ f, G x = none := by
  obtain ⟨dx, rfl, _, h1, h2, h⟩ := h
  exact h
theorem StF.nd (h : StF K C G H a S f) : f.Nodup := by
  obtain ⟨dx, rfl, n, _⟩ := h
  exact n
theorem StF.keep (h : StF K C G H a S f) (g : Ge G G1) (k : ∀ x ∈ f, ∀ u, H x = some u → H1 x = some u) (n : ∀ x ∈ f, G1 x = none) : StF K C G1 H1 a S f := by
  obtain ⟨dx, rfl, nd, h1, h2, _⟩ := h
  exact ⟨dx, rfl, nd, k _ (by simp) _ h1, k _ (by simp) _ h2, n⟩
end
structure WF (K : PySem.W.Frag) (C : Addr) (G H : Hp) (ws : List (Addr × Sto)) (fs : List (List Addr)) : Prop where
  len : fs.length = ws.length
  nd : fs.flatten.Nodup
  at' : ∀ (i : Nat) (p : Addr × Sto) (f : List Addr), ws[i]? = some p → fs[i]? = some f → StF K C G H p.1 p.2 f
section
variable {c : Cn} {C a b : Addr} {W : WX} {te ta tb : TE} {tt tu : TT} {ts tv : TS} {δ : List Sl} {ws ws' : List (Addr × Sto)} {fs fs' : List (List Addr)} {f f' f0 : List Addr} {Gs Hs G H G1 H1 : Hp} {σ : L2.St} {S S' : Sto} {i j : Nat} {t : TA} {m : Str} {r : Addr}
  {P : D → List (Addr × Sto) → Prop} {B : Bool → List (Addr × Sto) → Prop} {R : Out → List (Addr × Sto) → Prop} {PX : ExD → List (Addr × Sto) → Prop} {PS : ExD → List Sl → List (Addr × Sto) → Prop}
variable {K : PySem.W.Frag}
theorem WF.own (w : WF K C G H ws fs) {x : Addr} (h : x ∈ fs.flatten) : ∃ (p : Addr × Sto) (f : List Addr), x ∈ f ∧ StF K C G H p.1 p.2 f := by
  obtain ⟨f, hf, hx⟩ := List.mem_flatten.mp h
  obtain ⟨i, hi, e⟩ := List.mem_iff_getElem.mp hf
  have hw : i < ws.length := by rw [← w.len]; exact hi
  exact ⟨ws[i], f, hx, w.at' i ws[i] f (by simp [hw]) (by rw [← e]; simp [hi])⟩
theorem WF.there (w : WF K C G H ws fs) {x : Addr} (h : x ∈ fs.flatten) : H x ≠ none := let ⟨_, _, hx, s⟩ := w.own h; s.there x hx
theorem WF.free (w : WF K C G H ws fs) {x : Addr} (h : x ∈ fs.flatten) : G x = none := let ⟨_, _, hx, s⟩ := w.own h; s.free x hx
theorem WF.keep (w : WF K C G H ws fs) (g : Ge G G1) (k : ∀ x ∈ fs.flatten, ∀ u, H x = some u → H1 x = some u) (n : ∀ x ∈ fs.flatten, G1 x = none) : WF K C G1 H1 ws fs :=
  ⟨w.len, w.nd, fun i p f h1 h2 => (w.at' i p f h1 h2).keep g (fun x hx => k x (mem_flat h2 hx)) fun x hx => n x (mem_flat h2 hx)⟩
end
structure Wd (c : Cn) (C : Addr) (f0 : List Addr) (Gs Hs G H : Hp) (ws : List (Addr × Sto)) (fs : List (List Addr)) : Prop where
  v : Adv c f0 Gs Hs G H
  w : WF c.K C G H ws fs
  g : Grow f0 fs.flatten Hs
  t : ∀ x ∈ fs.flatten, ¬ c.T x
  z : ∀ t x ns, c.tw = some (t, x, ns) → KSeq c.K x ns ∨ x ∉ f0
section
variable {c : Cn} {C a b : Addr} {W : WX} {te ta tb : TE} {tt tu : TT} {ts tv : TS} {δ : List Sl} {ws ws' : List (Addr × Sto)} {fs fs' : List (List Addr)} {f f' f0 : List Addr} {Gs Hs G H G1 H1 : Hp} {σ : L2.St} {S S' : Sto} {i j : Nat} {t : TA} {m : Str} {r : Addr}
  {P : D → List (Addr × Sto) → Prop} {B : Bool → List (Addr × Sto) → Prop} {R : Out → List (Addr × Sto) → Prop} {PX : ExD → List (Addr × Sto) → Prop} {PS : ExD → List Sl → List (Addr × Sto) → Prop}
theorem Wd.sub (w : Wd c C f0 Gs Hs G H ws fs) : Sub c G H := w.v.sub
theorem Wd.step (w : Wd c C f0 Gs Hs G H ws fs) (s : Step c G H G1 H1) : Wd c C f0 Gs Hs G1 H1 ws fs :=
  ⟨w.v.trans (f' := []) (fun x h => nomatch h) (Step.adv w.sub s), w.w.keep s.ge (fun x hx u e => s.keep x u (w.t x hx) (w.w.free hx) e) (fun x hx => s.fr x (w.w.there hx) (w.w.free hx)), w.g, w.t, w.z⟩
end
def DEM (c : Cn) (C : Addr) (W : WX) (te : TE) (δ : List Sl) (ws : List (Addr × Sto)) (P : D → List (Addr × Sto) → Prop) (PX : ExD → List (Addr × Sto) → Prop) : Prop :=
  ∀ (f0 : List Addr) (Gs Hs G H : Hp) (σ : L2.St) (Q : VK) (fs : List (List Addr)), Wd c C f0 Gs Hs G H ws fs → EnvOk c Hs G H σ δ → Off σ δ fs.flatten →
    (∀ (d : D) (v : V) (ws' : List (Addr × Sto)) (G' H' : Hp) (fs' : List (List Addr)), P d ws' → Wd c C f0 Gs Hs G' H' ws' fs' → EnvOk c Hs G' H' σ δ → Off σ δ fs'.flatten → Ge G G' → Has c.K G' d v → Q v H') →
    (∀ (x : ExD) (ws' : List (Addr × Sto)) (G' H' : Hp) (fs' : List (List Addr)), PX x ws' → Wd c C f0 Gs Hs G' H' ws' fs' → EnvOk c Hs G' H' σ δ → Off σ δ fs'.flatten → FinX c.K G' H' (fun cls d H => W cls d σ H) x) → te σ H Q
def DSM (c : Cn) (C : Addr) (W : WX) (ts : TS) (δ : List Sl) (ws : List (Addr × Sto)) (P : Out → List (Addr × Sto) → Prop) (PX : ExD → List Sl → List (Addr × Sto) → Prop) : Prop :=
  ∀ (f0 : List Addr) (Gs Hs G H : Hp) (σ : L2.St) (Dn : Ends) (fs : List (List Addr)), Wd c C f0 Gs Hs G H ws fs → EnvOk c Hs G H σ δ → Off σ δ fs.flatten →
    (∀ (o : Out) (ws' : List (Addr × Sto)) (G' H' : Hp) (fs' : List (List Addr)), P o ws' → Wd c C f0 Gs Hs G' H' ws' fs' → FinM c Hs G' H' fs' Dn o) →
    (∀ (x : ExD) (δ' : List Sl) (ws' : List (Addr × Sto)) (σ' : L2.St) (G' H' : Hp) (fs' : List (List Addr)), PX x δ' ws' → Wd c C f0 Gs Hs G' H' ws' fs' → EnvOk c Hs G' H' σ' δ' → FinX c.K G' H' (fun cls d H => W cls d σ' H) x) → ts Dn σ H
section
variable {c : Cn} {C a b : Addr} {W : WX} {te ta tb : TE} {tt tu : TT} {ts tv : TS} {δ : List Sl} {ws ws' : List (Addr × Sto)} {fs fs' : List (List Addr)} {f f' f0 : List Addr} {Gs Hs G H G1 H1 : Hp} {σ : L2.St} {S S' : Sto} {i j : Nat} {t : TA} {m : Str} {r : Addr}
  {P : D → List (Addr × Sto) → Prop} {B : Bool → List (Addr × Sto) → Prop} {R : Out → List (Addr × Sto) → Prop} {PX : ExD → List (Addr × Sto) → Prop} {PS : ExD → List Sl → List (Addr × Sto) → Prop}
theorem DEM.imp {P' : D → List (Addr × Sto) → Prop} (h : DEM c C W te δ ws P PX) (i : ∀ d ws, P d ws → P' d ws) : DEM c C W te δ ws P' PX := fun f0 Gs Hs G H σ Q fs w e o k kx => h f0 Gs Hs G H σ Q fs w e o (fun d v ws' G' H' fs' p => k d v ws' G' H' fs' (i d ws' p)) kx
end
def SpM (K : PySem.W.Frag) (C : Addr) (R : List D → Sto → D ⊕ ExD → Sto → Prop) : Sp := fun vs H Q E => ∃ (G : Hp) (ds : List D) (a : Addr) (S S' : Sto) (f : List Addr) (us : List V) (o : D ⊕ ExD), Sub ⟨K, none⟩ G H ∧ vs = .ref a :: us ∧ HasL K G ds us ∧ StF K C G H a S f ∧ R ds S o S' ∧
  (∀ (d : D) (v : V) (G' H' : Hp) (f' : List Addr), o = .inl d → Adv ⟨K, none⟩ f G H G' H' → StF K C G' H' a S' f' → Grow f f' H → Has K G' d v → Q v H') ∧
  (∀ (x : ExD) (G' H' : Hp) (f' : List Addr), o = .inr x → Adv ⟨K, none⟩ f G H G' H' → StF K C G' H' a S' f' → Grow f f' H → FinX K G' H' E x)
section
variable {c : Cn} {C a b : Addr} {W : WX} {te ta tb : TE} {tt tu : TT} {ts tv : TS} {δ : List Sl} {ws ws' : List (Addr × Sto)} {fs fs' : List (List Addr)} {f f' f0 : List Addr} {Gs Hs G H G1 H1 : Hp} {σ : L2.St} {S S' : Sto} {i j : Nat} {t : TA} {m : Str} {r : Addr}
  {P : D → List (Addr × Sto) → Prop} {B : Bool → List (Addr × Sto) → Prop} {R : Out → List (Addr × Sto) → Prop} {PX : ExD → List (Addr × Sto) → Prop} {PS : ExD → List Sl → List (Addr × Sto) → Prop}
theorem Wd.put (w : Wd c C f0 Gs Hs G H ws fs) {j : Nat} (hw : ws[j]? = some (a, S)) (hf : fs[j]? = some f) (v : Adv c f G H G1 H1) (s : StF c.K C G1 H1 a S' f') (g : Grow f f' H) : Wd c C f0 Gs Hs G1 H1 (ws.set j (a, S')) (fs.set j f') := by
  obtain ⟨l1, l2, e1, e2, e3⟩ := flat_set (f' := f') hf
  have fl : ∀ x ∈ f, x ∈ fs.flatten := fun x hx => mem_flat hf hx
  have nd := w.w.nd
  rw [e1, List.flatten_append, List.flatten_cons] at nd
  have ndf' : f'.Nodup := by exact s.nd
  have oth : ∀ x, x ∈ l1.flatten ∨ x ∈ l2.flatten → x ∈ fs.flatten ∧ x ∉ f := fun x hx => by
    rw [e1, List.flatten_append, List.flatten_cons]
    rw [List.nodup_append] at nd
    obtain ⟨n1, n2, n3⟩ := nd
    rw [List.nodup_append] at n2
    obtain ⟨n4, n5, n6⟩ := n2
    rcases hx with hx | hx
    · exact ⟨by simp [hx], fun m => n3 x hx x (by simp [m]) rfl⟩
    · exact ⟨by simp [hx], fun m => n6 x m x hx rfl⟩
  have nf' : ∀ x, x ∈ l1.flatten ∨ x ∈ l2.flatten → x ∉ f' := fun x hx m => by
    obtain ⟨h1, h2⟩ := oth x hx
    rcases g x m with z | z
    · exact h2 z
    · exact w.w.there h1 z
  have memS : ∀ x, x ∈ (fs.set j f').flatten ↔ (x ∈ l1.flatten ∨ x ∈ l2.flatten) ∨ x ∈ f' := fun x => by
    rw [e2, List.flatten_append, List.flatten_cons, List.mem_append, List.mem_append]
    constructor
    · rintro (h | h | h)
      · exact .inl (.inl h)
      · exact .inr h
      · exact .inl (.inr h)
    · rintro ((h | h) | h)
      · exact .inl h
      · exact .inr (.inr h)
      · exact .inr (.inl h)
  refine ⟨w.v.trans (fun x hx => w.g x (fl x hx)) v, ⟨by rw [List.length_set, List.length_set]; exact w.w.len, ?_, fun i p fi h1 h2 => ?_⟩, fun x hx => ?_, fun x hx => ?_, w.z⟩
  · rw [e2, List.flatten_append, List.flatten_cons]
    rw [List.nodup_append] at nd ⊢
    obtain ⟨n1, n2, n3⟩ := nd
    rw [List.nodup_append] at n2
    obtain ⟨n4, n5, n6⟩ := n2
    refine ⟨n1, ?_, fun x hx y hy e => ?_⟩
    · rw [List.nodup_append]
      exact ⟨ndf', n5, fun x hx y hy e => by subst e; exact nf' x (.inr hy) hx⟩
    · subst e
      rcases List.mem_append.mp hy with m | m
      · exact nf' x (.inl hx) m
      · exact n3 x hx x (by simp [m]) rfl
  · by_cases e : i = j
    · subst e
      have hl : i < ws.length := (List.getElem?_eq_some_iff.mp hw).1
      have hl2 : i < fs.length := (List.getElem?_eq_some_iff.mp hf).1
      rw [List.getElem?_set_self hl] at h1
      rw [List.getElem?_set_self hl2] at h2
      cases h1; cases h2
      exact s
    · rw [List.getElem?_set_ne (Ne.symm e)] at h1 h2
      have q := w.w.at' i p fi h1 h2
      have inOth : ∀ x ∈ fi, x ∈ l1.flatten ∨ x ∈ l2.flatten := fun x hx => by
        rw [e1] at h2
        by_cases lt : i < l1.length
        · rw [List.getElem?_append_left lt] at h2
          exact .inl (List.mem_flatten.mpr ⟨fi, List.mem_of_getElem? h2, hx⟩)
        · rw [List.getElem?_append_right (by omega)] at h2
          obtain ⟨m, hm⟩ : ∃ m, i - l1.length = m + 1 := ⟨i - l1.length - 1, by omega⟩
          rw [hm, List.getElem?_cons_succ] at h2
          exact .inr (List.mem_flatten.mpr ⟨fi, List.mem_of_getElem? h2, hx⟩)
      exact q.keep v.ge (fun x hx u e => v.keep x u (w.t x (oth x (inOth x hx)).1) (oth x (inOth x hx)).2 (q.free x hx) e) fun x hx => v.fr x (q.there x hx) (q.free x hx)
  · rcases (memS x).1 hx with h | h
    · exact w.g x (oth x h).1
    · rcases g x h with z | z
      · exact w.g x (fl x z)
      · exact .inr (w.v.live x z)
  · rcases (memS x).1 hx with h | h
    · exact w.t x (oth x h).1
    · rcases g x h with z | z
      · exact w.t x (fl x z)
      · exact not_town w.sub.iv z
theorem Wd.scr (w : Wd c C f0 Gs Hs G H ws fs) {j : Nat} (hf : fs[j]? = some f) : ∀ t x ns, c.tw = some (t, x, ns) → KSeq c.K x ns ∨ x ∉ f := fun t x ns h => by
  rcases w.z t x ns h with z | z
  · exact .inl z
  rcases (w.v.s0.sc t x ns h).1 with q | ⟨q, _⟩
  · exact .inl q
  · refine .inr fun m => ?_
    rcases w.g x (mem_flat hf m) with y | y
    · exact z y
    · rcases q with q | ⟨_, q⟩ <;> rw [y] at q <;> cases q
end
section
variable {c : Cn} {C a b : Addr} {W : WX} {te ta tb : TE} {tt tu : TT} {ts tv : TS} {δ : List Sl} {ws ws' : List (Addr × Sto)} {fs fs' : List (List Addr)} {f f' f0 : List Addr} {Gs Hs G H G1 H1 : Hp} {σ : L2.St} {S S' : Sto} {i j : Nat} {t : TA} {m : Str} {r : Addr}
  {P : D → List (Addr × Sto) → Prop} {B : Bool → List (Addr × Sto) → Prop} {R : Out → List (Addr × Sto) → Prop} {PX : ExD → List (Addr × Sto) → Prop} {PS : ExD → List Sl → List (Addr × Sto) → Prop}
theorem Wd.at {f0 : List Addr} {Gs Hs G H : Hp} {fs : List (List Addr)} (w : Wd c C f0 Gs Hs G H ws fs) (hw : ws[j]? = some (a, S)) : ∃ f, fs[j]? = some f ∧ StF c.K C G H a S f := by
  have hj : j < fs.length := by rw [w.w.len]; exact (List.getElem?_eq_some_iff.mp hw).1
  exact ⟨fs[j], by simp [hj], w.w.at' j _ _ hw (by simp [hj])⟩
end
def GivesM (a : Addr) (S' : Sto) : D ⊕ ExD → Out → List (Addr × Sto) → Prop
  | .inl d => fun o ws => Gives d o ∧ ws = [(a, S')]
  | .inr _ => fun _ _ => False
def RaisesM (a : Addr) (S' : Sto) : D ⊕ ExD → ExD → List Sl → List (Addr × Sto) → Prop
  | .inl _ => fun _ _ _ => False
  | .inr x => fun y _ ws => y = x ∧ ws = [(a, S')]
section
variable {K : PySem.W.Frag} {C : Addr} {N : List Str} {R : List D → Sto → D ⊕ ExD → Sto → Prop} {t : WX → TS}
theorem meth_body (hl : ∀ ds S o S', R ds S o S' → ds.length + 1 ≤ N.length) (h : ∀ W a ds S o S', R ds S o S' → DSM ⟨K, none⟩ C W (t W) (slotsM N a ds) [(a, S)] (GivesM a S' o) (RaisesM a S' o)) {vs : List V} {H : Hp} {Q : VK} {E : XK} (q : SpM K C R vs H Q E) :
    t (wE E) { nx := fun _ H' => Q .non H', rt := Q } (L2.start N vs) H := by
  obtain ⟨G, ds, a, S, S', f, us, o, s, rfl, hu, sf, r, k, kx⟩ := q
  obtain ⟨e0, off⟩ := env_startM (c := ⟨K, none⟩) (N := N) (a := a) (H := H) hu (hl ds S o S' r)
  have w : Wd ⟨K, none⟩ C f G H G H [(a, S)] [f] := by
    refine ⟨.refl s, ⟨rfl, ?_, fun i p g h1 h2 => ?_⟩, fun x hx => .inl (by simpa using hx), (fun x _ ⟨q, z⟩ => by cases z), (fun t x ns z => by cases z)⟩
    · simpa using sf.nd
    · match i, h1, h2 with
      | 0, h1, h2 => cases h1; cases h2; exact sf
  have fin : ∀ {G' H' : Hp} {fs' : List (List Addr)}, Wd ⟨K, none⟩ C f G H G' H' [(a, S')] fs' → ∃ f', Adv ⟨K, none⟩ f G H G' H' ∧ StF K C G' H' a S' f' ∧ Grow f f' H := fun {G' H' fs'} w' => by
    obtain ⟨f', hf, s'⟩ := w'.at (j := 0) rfl
    exact ⟨f', w'.v, s', fun x hx => w'.g x (mem_flat hf hx)⟩
  refine h (wE E) a ds S o S' r f G H G H _ _ [f] w e0 (off _) (fun out ws' G' H' fs' p w' => ?_) fun x δ' ws' σ' G' H' fs' p w' _ => ?_
  · cases o with
    | inl d =>
      obtain ⟨p, rfl⟩ := p
      obtain ⟨f', v', s', g'⟩ := fin w'
      cases out with
      | rt d' =>
        have p : d' = d := p
        subst p
        exact fun v hv => k _ v G' H' f' rfl v' s' g' hv
      | nx δ' =>
        have p : d = .non := p
        subst p
        exact fun σ' _ _ => k _ .non G' H' f' rfl v' s' g' (by unfold Has; rfl)
      | bk δ' => exact False.elim p
      | ct δ' => exact False.elim p
    | inr x => exact False.elim p
  · cases o with
    | inl d => exact False.elim p
    | inr y =>
      obtain ⟨p, rfl⟩ := p
      subst p
      obtain ⟨f', v', s', g'⟩ := fin w'
      exact kx _ G' H' f' rfl v' s' g'
end
section
variable {P : Program} {w : World} {K : PySem.W.Frag} {mg : Str → Option Value} {base : Heap} {C : Addr}
theorem FunD.meth {x q : Str} {st : Stmt} {f : Addr} {fd : FuncData} {N ps : List Str} {k : Nat} {R : List D → Sto → D ⊕ ExD → Sto → Prop} {t : WX → TS} (F : FunD K x q (defArgs st) (defBody st) (defScope st) [] [] f fd) (S : FnScope N ps (defScope st)) (hl : ∀ ds S o S', R ds S o S' → ds.length + 1 = ps.length)
    (h : ∀ W a ds S o S', R ds S o S' → DSM ⟨K, none⟩ C W (t W) (slotsM N a ds) [(a, S)] (GivesM a S' o) (RaisesM a S' o))
    (hb : ∀ (cdv : Value) (A : Around) (outer : List Env) (s : Shared) (H : Hp) (E : XK), Room k (A.deeper (PyProof.Rows.envOfC q (defScope st) s.heap.objs.size f cdv)) → PSs (cxOf (L2.CX P w) P w K mg base N q (defScope st) f cdv A outer s H E) (defBody st) (t (wE E))) :
    FnOk P w K mg base (L2.CX P w) (k + 1) f fd ps (SpM K C R) := by
  have hN : ps.length ≤ N.length := by have := congrArg List.length S.pre; rw [List.length_take] at this; omega
  refine F.ok S (fun vs H Q E q => ?_) fun cdv A outer s H vs Q E hr q => ⟨t (wE E), hb cdv A outer s H E hr, meth_body (fun ds S o S' r => by rw [hl ds S o S' r]; exact hN) h q⟩
  obtain ⟨G, ds, a, S, S', f, us, o, _, rfl, hv, _, r, _⟩ := q
  rw [List.length_cons, hv.len, hl ds S o S' r]
end
section
variable {c : Cn} {C a b : Addr} {W : WX} {te ta tb : TE} {tt tu : TT} {ts tv : TS} {δ : List Sl} {ws ws' : List (Addr × Sto)} {fs fs' : List (List Addr)} {f f' f0 : List Addr} {Gs Hs G H G1 H1 : Hp} {σ : L2.St} {S S' : Sto} {i j : Nat} {t : TA} {m : Str} {r : Addr}
  {P : D → List (Addr × Sto) → Prop} {B : Bool → List (Addr × Sto) → Prop} {R : Out → List (Addr × Sto) → Prop} {PX : ExD → List (Addr × Sto) → Prop} {PS : ExD → List Sl → List (Addr × Sto) → Prop}
theorem Wd.rebase (w : Wd c C f0 Gs Hs G H ws fs) (e : EnvOk c Hs G H σ δ) : Wd c C fs.flatten G (Mp.cut σ δ H) G H ws fs := by
  have b := w.v.base e
  refine ⟨Step.adv b.s0 b.st, w.w, fun x hx => .inl hx, w.t, fun t x ns h => ?_⟩
  rcases w.z t x ns h with z | z
  · exact .inl z
  rcases (w.v.s0.sc t x ns h).1 with q | ⟨q, _⟩
  · exact .inl q
  · refine .inr fun m => ?_
    rcases w.g x m with y | y
    · exact z y
    · rcases q with q | ⟨_, q⟩ <;> rw [y] at q <;> cases q
theorem Wd.lat (e : EnvOk c Hs G H σ δ) (w' : Wd c C f0 G (Mp.cut σ δ H) G1 H1 ws' fs') : Lat G H G1 H1 := by
  refine ⟨w'.v.gs, fun a o u h => w'.v.fz a o u ?_⟩
  have no : ¬ ownd σ δ a := fun ⟨i, d, h1, h2⟩ => by
    obtain ⟨r, g1, _, _, g4⟩ := e.own i d h1
    rw [h2] at g1; cases g1
    exact g4.nofrz (c := c) o u h
  rw [cut_ne no]; exact h
end
end Mp.Rd
set_option maxRecDepth 100000
set_option maxHeartbeats 4000000
namespace Mp
open PySem L2
/-! ### texts -/
end Mp
namespace Mp.Rd
open PySem L2 Mp
end Mp.Rd
set_option maxRecDepth 100000
set_option maxHeartbeats 4000000
namespace Mp
open PySem L2
section
variable {c : Cn} {δ : List Sl} {ta tb : TE} {P : D → Prop}
theorem hasL_rep {K : PySem.W.Frag} {G : Hp} {xs : List D} {vs : List V} (h : HasL K G xs vs) : ∀ n : Nat, HasL K G (List.replicate n xs).flatten (List.replicate n vs).flatten
  | 0 => hasL_nil
  | n + 1 => by
    rw [List.replicate_succ, List.replicate_succ, List.flatten_cons, List.flatten_cons]
    exact h.app (hasL_rep h n)
/-- [..] * n -/
theorem dn_rep (h : DN c ta δ fun x => ∃ xs, x = .lst xs ∧ DE c tb δ fun y => ∃ k : Nat, y = .int k ∧ k ≤ 1000 ∧ xs.length * k ≤ 1000 ∧ P (.lst (List.replicate k xs).flatten)) : DN c (tOp rRep ta tb) δ P := fun G0 H0 G H σ Q b e k =>
  h G0 H0 G H σ _ b e fun x r G1 H1 p s1 hr gr oa => by
    obtain ⟨xs, rfl, p⟩ := p
    obtain ⟨vs, h1, h2⟩ := oa
    refine p G0 H0 G1 H1 σ _ (b.next s1) (e.step b.iv s1) fun y u G2 H2 p2 s2 hy => ?_
    obtain ⟨n, rfl, hn, hl, p2⟩ := p2
    unfold Has at hy
    subst hy
    have nt := not_town b.sub.iv hr
    have h3 := s2.keep r _ nt gr h1
    refine ⟨r, n, vs, rfl, rfl, h3, by omega, by omega, ?_, fun q hq => ?_⟩
    · rw [Int.toNat_natCast, h2.len]; exact Nat.le_of_lt (small1000 hl)
    · rw [Int.toNat_natCast]
      have s12 := s1.trans s2
      exact k _ q G2 _ p2 (s12.trans (Step.tmp s12.sub hq)) (s12.back hq) (s12.sub.free hq) ⟨_, upd_same, hasL_rep (h2.mono s2.ge) n⟩
end
end Mp
set_option maxRecDepth 100000
set_option maxHeartbeats 4000000
namespace Mp
open PySem L2 PyProof.Rows
/-! ### a dict with one entry whose key is None or a tuple -/
def OddObj (kv : V) (o : Obj) : Prop := o.ExactDict ∧ ∃ (en : DictEntry) (ep : Nat), o.data = .dict #[en] ep ∧ RelV kv en.key
def oddH (kv : V) (o : Obj) (p : Addr) : HO := .frz o (.ext fun h => h.get? p = some o ∧ OddObj kv o ∧ (p == sysModules) = false)
/-- {None: v} -/
def tOddN (tv : TE) : TE := fun σ H Q => ∀ p, H p = none → tv σ (upd H p (.dK [])) fun v H2 => H2 p = some (.dK []) ∧ ∀ o, OddObj .non o → Q (.ref p) (upd H2 p (oddH .non o p))
/-- {t: v}, t a tuple of ints and texts -/
def tOddT (tk tv : TE) : TE := fun σ H Q => ∀ p, H p = none → tk σ (upd H p (.dK [])) fun kv H1 => tv σ H1 fun v H2 => H2 p = some (.dK []) ∧ (∃ (b : Addr) (o : Obj) (ks : List Key), kv = .ref b ∧ H2 b = some (.frz o (.tup (ks.map kV)))) ∧ ∀ o, OddObj kv o → Q (.ref p) (upd H2 p (oddH kv o p))
theorem odd_ok {P : Program} {w : World} {H : Hp} {h : Heap} {p : Addr} {kv : V} {o : Obj} (e : h.get? p = some o) (ho : OddObj kv o) (hs : (p == sysModules) = false) : ObjOk P w H h p (oddH kv o p) :=
  ⟨e, ⟨e, ho, hs⟩, ⟨o, e⟩, fun h1 h2 ⟨e1, _, _⟩ k => ⟨k o e1, ho, hs⟩⟩
theorem odd_at {X : Cx} {pins : List (Addr × Obj)} {σ : L2.St} {H : Hp} {s : Shared} (I : Inv X pins σ H s) {a : Addr} {kv : V} {o : Obj} (e : H a = some (oddH kv o a)) : s.heap.get? a = some o ∧ OddObj kv o ∧ (a == sysModules) = false :=
  (show ObjOk X.prog X.w H s.heap a (oddH kv o a) from I.hok a _ e).2.1
section
variable {X : Cx} {pos : Pos}
theorem dict_walkH {prog : Program} {w : World} {KK : Type} [DecidableEq KK] {knd : HeapKind prog w KK} {A : Around} {E : Value → Shared → Prop} {s : Shared} {env : Env} {keys : List (Option Expr)} {values : List Expr} {Q : Value → Shared → Prop} (hu : knd.room A)
    (hall : keys.all (·.isSome) = true) (hl : keys.length = values.length) (h0 : keys ≠ []) (hlen : keys.length ≤ 15)
    (h : wpAny (model prog w) A (evalPairs (pairTrees keys values env pos)) (fun vs s₁ => ∃ ps, CarriesH knd s₁.heap vs ps ∧ s₁.heap.DictOfH knd s.heap.objs.size [] ∧
      ∀ h' tk, h'.DictOfH knd s.heap.objs.size (storedAllH [] ps) → Heap.SameBut s.heap.objs.size s₁.heap h' → Q (.ref s.heap.objs.size) { s₁ with heap := h', toks := tk }) E
      { s with heap := s.heap.push { cls := .type "dict", data := .dict #[] } }) :
    wpAny (model prog w) A (eval (.Dict keys values pos) env) Q E s := by
  have hn := pairTrees_length keys values env pos hall hl
  have h0' : pairTrees keys values env pos ≠ [] := fun he => by rw [he] at hn; exact h0 (List.length_eq_zero_iff.mp hn.symm)
  rw [arm_eval_Dict, zip_pairTrees keys values env pos hall hl, dictDisplay_pairs _ h0' (by omega)]
  exact wpAny_bind (wpAny_standAt (wpAny_bind (wpAny_subDictH (knd := knd) (Q := fun d s' => wpAny (model prog w) A (pure (Value.ref d)) Q E s') hu (by omega)
    (wpAny_mono h (fun vs s₁ h₁ => by obtain ⟨ps, hc, hm, hq⟩ := h₁; exact ⟨ps, hc, hm, fun h' tk a b => wpAny_pure (hq h' tk a b)⟩) fun _ _ e => e))))
theorem empty_none {P : Program} {w : World} {h : Heap} {a : Addr} (d : h.DictOf (mixKind P w) a []) : h.DictOf (noneKind P w) a [] ∧ h.DictOfH (tupleKind (mixKind P w)) a [] := by
  obtain ⟨o, es, ep, h1, h2, h3, h4, h5, h6⟩ := d
  have e : es.toList = [] := by
    cases q : es.toList with
    | nil => rfl
    | cons x r => rw [q] at h5; cases h5
  have e' : es = #[] := by simpa using e
  subst e'
  exact ⟨⟨o, #[], ep, h1, h2, h3, fun x hx => by simp at hx, .nil, List.nodup_nil⟩, o, #[], ep, h1, h2, h3, rfl, fun x hx => by simp at hx, List.nodup_nil⟩
theorem odd_none {P : Program} {w : World} {h : Heap} {a : Addr} {v : Value} (d : h.DictOf (noneKind P w) a [(none, v)]) : ∃ o, h.get? a = some o ∧ OddObj .non o := by
  obtain ⟨o, es, ep, h1, h2, h3, h4, h5, h6⟩ := d
  cases q : es.toList with
  | nil => rw [q] at h5; cases h5
  | cons x r =>
    rw [q] at h5
    cases h5 with
    | cons k1 v1 r1 =>
      cases r1
      have e' : es = #[x] := by
        obtain ⟨l⟩ := es
        simp only at q
        rw [q]
      subst e'
      exact ⟨o, h1, h2, x, ep, h3, show RelV .non x.key by rw [nk_none k1]; rfl⟩
theorem odd_tup {P : Program} {w : World} {h : Heap} {a b : Addr} {ks : List Key} {v : Value} (d : h.DictOfH (tupleKind (mixKind P w)) a [(ks, b, v)]) : ∃ o, h.get? a = some o ∧ OddObj (.ref b) o := by
  obtain ⟨o, es, ep, h1, h2, h3, h4, h5, h6⟩ := d
  have e' : es = #[entryOfKey (tupleKind (mixKind P w)) (ks, b, v)] := by
    obtain ⟨l⟩ := es
    simp only [List.map_cons, List.map_nil] at h4
    rw [h4]
  subst e'
  exact ⟨o, h1, h2, _, ep, h3, rfl⟩
theorem pe_oddN {k v : Expr} {tv : TE} (hk : PE X k (tC .non)) (hv : PE X v tv) : PE X (.Dict [some k] [v] pos) (tOddN tv) := by
  refine ⟨fun pins s σ H Q I q => ?_⟩
  have hn := I.hok.fresh (Nat.le_refl s.heap.objs.size)
  have I1 := I.laid (a := s.heap.objs.size) (o := .dK []) (h' := s.heap.push { cls := .type "dict", data := .dict #[] }) (t' := s.toks) (fun _ _ q => Heap.get?_push_of_some _ q) (Nat.le_refl _) (dk_empty s.heap I.big)
  refine wpAny_Dict_walk (knd := noneKind X.prog X.w) (by rfl) (by rfl) (by simp) (by simp) (pairTrees_cons_walk ?_)
  refine thn (hk.run pins _ σ _ (fun x H1 => x = .non ∧ H1 = upd H s.heap.objs.size (.dK [])) I1 ⟨rfl, rfl⟩) fun u s1 ⟨x, H1, I1', rx, ex, eH⟩ => ?_
  subst ex eH
  have eu : u = .none := rx
  subst eu
  refine thn (hv.run pins s1 σ _ _ I1' (q _ hn)) fun u2 s2 ⟨y, H2, I2, ry, e, q2⟩ => pairTrees_nil_walk ?_
  obtain ⟨z, hd, vs0, r0, dd⟩ := dk_of I2.hok e
  cases r0
  refine ⟨[(none, u2)], ⟨rfl, rfl, True.intro⟩, (empty_none dd).1, fun h' dd' hs => ?_⟩
  obtain ⟨o, ho, oo⟩ := odd_none (show h'.DictOf (noneKind X.prog X.w) s.heap.objs.size [(none, u2)] from dd')
  exact ⟨.ref s.heap.objs.size, _, d_write I2 (by rw [e]; exact True.intro) hs ⟨o, ho⟩ (odd_ok ho oo hd), rfl, q2 o oo⟩
theorem pe_oddT {k v : Expr} {tk tv : TE} (hu : X.A.units + 1 < cLine) (hk : PE X k tk) (hv : PE X v tv) : PE X (.Dict [some k] [v] pos) (tOddT tk tv) := by
  refine ⟨fun pins s σ H Q I q => ?_⟩
  have hn := I.hok.fresh (Nat.le_refl s.heap.objs.size)
  have I1 := I.laid (a := s.heap.objs.size) (o := .dK []) (h' := s.heap.push { cls := .type "dict", data := .dict #[] }) (t' := s.toks) (fun _ _ q => Heap.get?_push_of_some _ q) (Nat.le_refl _) (dk_empty s.heap I.big)
  refine dict_walkH (knd := tupleKind (mixKind X.prog X.w)) (show X.A.units < cLine by omega) (by rfl) (by rfl) (by simp) (by simp) (pairTrees_cons_walk ?_)
  refine thn (hk.run pins _ σ _ _ I1 (q _ hn)) fun u s1 ⟨x, H1, I1', rx, q1⟩ => ?_
  refine thn (hv.run pins s1 σ _ _ I1' q1) fun u2 s2 ⟨y, H2, I2, ry, e, ⟨b, ob, ks, ex, eb⟩, q2⟩ => pairTrees_nil_walk ?_
  subst ex
  have eu : u = .ref b := rx
  subst eu
  obtain ⟨z, hd, vs0, r0, dd⟩ := dk_of I2.hok e
  cases r0
  have hkey : (tupleKind (mixKind X.prog X.w)).is s2.heap ks b := by
    obtain ⟨_, _, its, r, o, h1, h2, n, h3⟩ := (show ObjOk X.prog X.w H2 s2.heap b (.frz ob (.tup (ks.map kV))) from I2.hok b _ eb)
    exact ⟨o, its.toArray, n, h1, h2, h3, by simpa using items_are r⟩
  refine ⟨[(ks, b, u2)], ⟨rfl, rfl, hkey, True.intro⟩, (empty_none dd).2, fun h' tk' dd' hs => ?_⟩
  have es : storedAllH ([] : List (List Key × Addr × Value)) [(ks, b, u2)] = [(ks, b, u2)] := rfl
  rw [es] at dd'
  obtain ⟨o, ho, oo⟩ := odd_tup dd'
  exact ⟨.ref s.heap.objs.size, _, d_write I2 (by rw [e]; exact True.intro) hs ⟨o, ho⟩ (odd_ok ho oo hd), rfl, q2 o oo⟩
/-! isinstance, len, for -/
def rIsO : List V → Hp → VK → Prop := fun xs H Q => ∃ a kv o, xs = [.ref a, .ty "dict"] ∧ H a = some (oddH kv o a) ∧ Q (.bl true) H
theorem call_isO : CallR X (.builtin "isinstance") rIsO := by
  intro pins s σ H xs us Q I r h
  obtain ⟨a, kv, o, rfl, ha, q⟩ := h
  obtain ⟨u1, u2, rfl, r1, r2⟩ := vals2 r
  cases r1
  cases r2
  obtain ⟨h1, h2, _⟩ := odd_at I ha
  exact PySem.W.kia_one PySem.W.kitx_dict I.kIn ⟨o, h1, h2.1.1⟩ (kit_ty (b := "dict") (r := true) (by decide +kernel)) (fun z => nomatch z) fun tk => ⟨.bl true, H, I.tok tk, rfl, q⟩
def rLenO : List V → Hp → VK → Prop := fun xs H Q => ∃ a kv o, xs = [.ref a] ∧ H a = some (oddH kv o a) ∧ Q (.int 1) H
theorem call_lenO : CallR X (.builtin "len") rLenO := by
  intro pins s σ H xs us Q I r h
  obtain ⟨a, kv, o, rfl, ha, q⟩ := h
  obtain ⟨u, rfl, ru⟩ := vals1 r
  cases ru
  obtain ⟨h1, ⟨h2, en, ep, h3, h4⟩, hs⟩ := odd_at I ha
  have hT : s.TypeIs (.ref a) "dict" := ⟨o, h1, h2.1⟩
  refine Calls.call_function_entry kind_len plain_len entry_len (args_len1 _) ?_
  unfold Builtin.«len»
  refine wpAny_bind (m := oneArg "len" _) (wpAny_pure ?_)
  refine wpAny_bind (m := callSpecial? (.ref a) (Str.ofString "__len__")) (wpAny_callSpecial?_slot (name := Str.ofString "__len__") hT F.slot_dict_len
    (wpAny_call_entry F.slot_dict_len hT F.entry_dict_len ?_ (F.args_dict_len_1 _)))
  show wpAny _ _ (dictSize a >>= _) _ _ s
  unfold dictSize
  refine wpAny_bind (wpAny_bind (wpAny_dictEntries h1 h3 (wpAny_pure ?_)))
  show wpAny _ _ (Builtin.Dict.pendingCount a >>= _) _ _ s
  refine wpAny_bind (wpAny_pendingCount_other hs ?_)
  refine wpAny_bind (wpAny_mkInt (wpAny_pure ⟨_, rfl, ?_⟩))
  show wpAny _ _ _ _ _ { s with toks := s.toks + 1 }
  refine wpAny_bind (wpAny_holding (wpAny_pure ?_))
  refine wpAny_bind (wpAny_letGo ?_)
  show wpAny _ _ (if ((1 : Nat) : Int) < 0 then _ else _) _ _ _
  rw [if_neg (by omega)]
  show wpAny _ _ (if ((1 : Nat) : Int) ≥ 2 ^ 63 then _ else _) _ _ _
  rw [if_neg (by decide)]
  exact wpAny_bind (wpAny_mkInt (wpAny_pure ⟨_, rfl, .int 1, H, I.tok _, ⟨_, rfl⟩, q⟩))
/-- the keys of it -/
def Ito (d : Addr) (o : Obj) (kv : V) : It := ⟨fun i H => H d = some (oddH kv o d) ∧ i < 1, fun i H x H' => H' = H ∧ x = kv, fun i H => H d = some (oddH kv o d) ∧ 1 ≤ i⟩
theorem turn_odd {P : Program} {w : World} {K : PySem.W.Frag} {tg : Expr} {d : Addr} {o : Obj} {kv : V} {en : DictEntry} {ep : Nat} (it : Addr) (hod : o.data = .dict #[en] ep) (hkv : RelV kv en.key) : Turn P w K tg (Ito d o kv) [it] it (fun i h => h.IsKeyIter it d i 1 ep) where
  mem := by simp
  obj := fun i h st b hb => by
    have e : b = it := by simpa using hb
    subst e
    obtain ⟨oi, e, c, dd⟩ := st
    exact ⟨oi, e, fun v z => by rw [dd] at z; cases z⟩
  keep := fun i h h' st k => st.at fun oi e => k it (by simp) oi e
  item := by
    intro X hP hw hK hc i pins s σ H E I hf st hg
    subst hP hw hK
    obtain ⟨hd, hi⟩ := hg
    obtain ⟨f0, f1, f2, f3, f4, f5⟩ := hf it (by simp)
    obtain ⟨hgd, _, _⟩ := odd_at I hd
    have e0 : i = 0 := by omega
    subst e0
    refine next_key_item (es := #[en]) (en := en) st hgd hod rfl rfl fun h' st' sb => ?_
    have I1 : Inv X pins σ H { s with heap := h' } := I.turned (t' := s.toks) (fun b ob hb e => (sb.2 b hb).trans e) f0 f1 f3 f4 f5
    obtain ⟨oi, e, c, dd⟩ := id st'
    exact ⟨en.key, rfl, go_of (s := { s with heap := h' }) e c dd (by decide) ⟨kv, H, I1, hkv, ⟨rfl, rfl⟩, st', fun b hb => (hf b hb).1⟩⟩
  done := by
    intro X hP hw hK hc i pins s σ H E I hf st hg
    subst hP hw hK
    obtain ⟨hd, hi⟩ := hg
    obtain ⟨f0, f1, f2, f3, f4, f5⟩ := hf it (by simp)
    obtain ⟨hgd, _, _⟩ := odd_at I hd
    exact next_key_end (I.ok.hd hc) st hgd hod rfl hi fun h' eb => ⟨rfl, I.turned (t' := s.toks) (fun b ob hb e => eb b ob hb e) f0 f1 f3 f4 f5⟩
  self := fun A i s Q E st h => by
    refine wpAny_pyIter_slot st.typeIs F.slot_dict_keyiterator_iter (wpAny_call_entry F.slot_dict_keyiterator_iter st.typeIs F.entry_dict_keyiterator_iter ?_ (F.args_dict_keyiterator_iter_1 _))
    show wpAny _ _ (ret (.ref it)) _ _ s
    exact wpAny_pure ⟨_, rfl, "dict_keyiterator", _, st.typeIs, F.slot_dict_keyiterator_next.lookup, h⟩
def iOdd (tl : TE) : TI := fun σ H R => tl σ H fun x H1 => ∃ a kv o, x = .ref a ∧ H1 a = some (oddH kv o a) ∧ R (Ito a o kv) H1
theorem pi_odd {tg l : Expr} {tl : TE} (hl : PE X l tl) : PI X tg l (iOdd tl) := by
  refine ⟨fun pins s σ H R I h => ?_⟩
  refine thn (hl.run pins s σ H _ I h) fun v s1 ⟨x, H1, I1, r1, q1⟩ => ?_
  obtain ⟨a, kv, o, rfl, ha, q⟩ := q1
  cases r1
  obtain ⟨h1, ⟨h2, en, ep, h3, h4⟩, hs⟩ := odd_at I1 ha
  exact iter_keys hs h1 h2 h3 (pi_one (tk := s1.toks) I1 _ (turn_odd _ h3 h4) ⟨_, Heap.get?_push_size _ rfl, rfl, rfl⟩ q)
end
end Mp
set_option maxRecDepth 100000
set_option maxHeartbeats 4000000
namespace Mp
open PySem L2
/-- the odd dict at a; its key is kd -/
def Odd (K : PySem.W.Frag) (G H : Hp) (a : Addr) (kd : D) : Prop := ∃ kv o, H a = some (oddH kv o a) ∧ Has K G kd kv
theorem Odd.step {c : Cn} {G H G1 H1 : Hp} {a : Addr} {kd : D} (h : Odd c.K G H a kd) (s : Step c G H G1 H1) : Odd c.K G1 H1 a kd := by
  obtain ⟨kv, o, h1, h4⟩ := h
  exact ⟨kv, o, s.fz a _ _ h1, h4.mono s.ge⟩
/-! ### readings over a base of which Φ holds -/
abbrev Bp := Hp → Hp → Prop
def DEp (c : Cn) (Φ : Bp) (te : TE) (δ : List Sl) (P : D → Prop) : Prop :=
  ∀ (G0 H0 G H : Hp) (σ : L2.St) (Q : VK), Φ G0 H0 → Bs c G0 H0 G H → EnvOk c H0 G H σ δ → KE c G H P Q → te σ H Q
def DNp (c : Cn) (Φ : Bp) (te : TE) (δ : List Sl) (P : D → Prop) : Prop :=
  ∀ (G0 H0 G H : Hp) (σ : L2.St) (Q : VK), Φ G0 H0 → Bs c G0 H0 G H → EnvOk c H0 G H σ δ →
    (∀ (d : D) (r : Addr) (G' H' : Hp), P d → Step c G H G' H' → H r = none → G' r = none → OwnAt c.K G' H' r d → Q (.ref r) H') → te σ H Q
def DTp (c : Cn) (Φ : Bp) (tt : TT) (δ : List Sl) (P : Bool → Prop) : Prop :=
  ∀ (G0 H0 G H : Hp) (σ : L2.St) (Q : Bool → Hp → Prop), Φ G0 H0 → Bs c G0 H0 G H → EnvOk c H0 G H σ δ → (∀ (b : Bool) (G' H' : Hp), P b → Step c G H G' H' → Q b H') → tt σ H Q
def DIp (c : Cn) (Φ : Bp) (wi : TI) (δ : List Sl) (P : List D → Prop) : Prop :=
  ∀ (G0 H0 G H : Hp) (σ : L2.St) (R : It → Hp → Prop), Φ G0 H0 → Bs c G0 H0 G H → EnvOk c H0 G H σ δ →
    (∀ (xs : List D) (J : It) (G' H' : Hp), P xs → Step c G H G' H' → Wk c J xs G' H' → R J H') → wi σ H R
def DSp (c : Cn) (Φ : Bp) (ts : TS) (δ : List Sl) (P : Out → Prop) : Prop :=
  ∀ (G0 H0 G H : Hp) (σ : L2.St) (D : Ends), Φ G0 H0 → Bs c G0 H0 G H → EnvOk c H0 G H σ δ →
    (∀ (o : Out) (G' H' : Hp), P o → Step c G0 H0 G' H' → Lat G H G' H' → Fin c H0 G' H' D o) → ts D σ H
section
variable {c : Cn} {Φ : Bp} {te ta tb : TE} {tt tu : TT} {ts tv : TS} {δ : List Sl} {P : D → Prop} {B : Bool → Prop} {R : Out → Prop} {wi : TI}
theorem DE.p (h : DE c te δ P) : DEp c Φ te δ P := fun G0 H0 G H σ Q _ b e k => h G0 H0 G H σ Q b e k
theorem DT.p (h : DT c tt δ B) : DTp c Φ tt δ B := fun G0 H0 G H σ Q _ b e k => h G0 H0 G H σ Q b e k
theorem DS.p (h : DS c ts δ R) : DSp c Φ ts δ R := fun G0 H0 G H σ Q _ b e k => h G0 H0 G H σ Q b e k
theorem DI.p {P : List D → Prop} (h : DI c wi δ P) : DIp c Φ wi δ P := fun G0 H0 G H σ Q _ b e k => h G0 H0 G H σ Q b e k
theorem DNp.de (h : DNp c Φ te δ P) : DEp c Φ te δ P := fun G0 H0 G H σ Q φ b e k => h G0 H0 G H σ Q φ b e fun d r G' H' p s hr gr oa => by
    obtain ⟨o, ho, po⟩ := own_pl oa
    refine k d _ (upd G' r o) H' p ?_ (own_has gr oa ho)
    refine ⟨fun a u x => ?_, ⟨fun a u x => ?_, s.sub.iv, fun a t => ?_, fun t a ns h => ?_⟩, s.keep, fun a n g => ?_, s.fz⟩
    · have ne : a ≠ r := by rintro rfl; rw [s.gs a u x] at gr; cases gr
      rw [upd_ne ne]; exact s.gs a u x
    · by_cases ea : a = r
      · subst ea; rw [upd_same] at x; cases x; exact po
      · rw [upd_ne ea] at x; exact s.sub.pl a u x
    · have ne : a ≠ r := by rintro rfl; exact not_town b.sub.iv hr t
      rw [upd_ne ne]; exact s.sub.tg a t
    · obtain ⟨h1, h2⟩ := s.sub.sc t a ns h
      refine ⟨?_, h2⟩
      by_cases e : a = r
      · subst e; exact .inl (Bs.scr (G0 := G) (H0 := H) ⟨b.sub, s⟩ hr t ns h)
      · exact h1.imp id fun ⟨q, g⟩ => ⟨q, by rw [upd_ne e]; exact g⟩
    · have ne : a ≠ r := by rintro rfl; exact n hr
      rw [upd_ne ne]; exact s.fr a n g
theorem dep_op {r : R2} {F : D → D → (D → Prop) → Prop} (hr : DOp c r F) (h : DEp c Φ ta δ fun x => DEp c Φ tb δ fun y => F x y P) : DEp c Φ (tOp r ta tb) δ P := fun G0 H0 G H σ Q φ b e k =>
  h G0 H0 G H σ _ φ b e fun x v G1 H1 px s1 hx => px G0 H0 G1 H1 σ _ φ (b.next s1) (e.step b.iv s1) fun y u G2 H2 py s2 hy =>
    hr x y v u G2 H2 Q P s2.sub (hx.mono s2.ge) hy py fun d w G3 H3 pd s3 hd => k d w G3 H3 pd ((s1.trans s2).trans s3) hd
theorem dep_ne (h : DEp c Φ ta δ fun x => DEp c Φ tb δ fun y => D.deep x ≤ 50 ∧ P (.bl (!D.eqv x y))) : DEp c Φ (tOp (rNeX c.K) ta tb) δ P := dep_op dop_ne h
theorem dtp_test (h : DEp c Φ ta δ fun x => ∃ b, x = .bl b ∧ B b) : DTp c Φ (tTest ta) δ B := fun G0 H0 G H σ Q φ b e k =>
  h G0 H0 G H σ _ φ b e fun x v G1 H1 p s1 hx => by
    obtain ⟨w, rfl, p⟩ := p
    unfold Has at hx
    exact ⟨w, hx, k _ G1 H1 p s1⟩
theorem dtp_B (h : DEp c Φ ta δ fun x => ∃ b, x = .bl b ∧ B b) : DTp c Φ (tB ta) δ B := dtp_test h
theorem dtp_not (h : DTp c Φ tt δ fun b => B (!b)) : DTp c Φ (tNot tt) δ B := fun G0 H0 G H σ Q φ b e k =>
  h G0 H0 G H σ _ φ b e fun x G1 H1 p s1 => k _ G1 H1 p s1
theorem dtp_or (h : DTp c Φ tt δ fun b => if b = true then B true else DTp c Φ tu δ B) : DTp c Φ (tOr tt tu) δ B := fun G0 H0 G H σ Q φ b e k =>
  h G0 H0 G H σ _ φ b e fun x G1 H1 p s1 => by
    cases x with
    | false => simp only [Bool.false_eq_true, if_false] at p ⊢; exact p G0 H0 G1 H1 σ Q φ (b.next s1) (e.step b.iv s1) fun d G2 H2 pd s2 => k d G2 H2 pd (s1.trans s2)
    | true => simp only [if_true] at p ⊢; exact k _ G1 H1 p s1
theorem dep_all (h : DEp c Φ ta δ fun d => ∃ bs : List Bool, d = .lst (bs.map .bl) ∧ P (.bl (bs.all id))) : DEp c Φ (tCB (rAll c.K) (tCons ta tNil)) δ P := fun G0 H0 G H σ Q φ b e k =>
  h G0 H0 G H σ _ φ b e fun d v G1 H1 p s1 hv => by
    obtain ⟨bs, rfl, p⟩ := p
    unfold Has at hv
    obtain ⟨a, us, rfl, h1, h2⟩ := hv
    have e := hasL_bls h2
    subst e
    exact ⟨a, bs, rfl, .inl (s1.sub.ge _ _ h1), k _ _ G1 H1 p s1 (by unfold Has; rfl)⟩
theorem dsp_seq (h : DSp c Φ ts δ fun o => match o with | .nx δ' => DSp c Φ tv δ' R | o => R o) : DSp c Φ (tSeq ts tv) δ R := fun G0 H0 G H σ D φ b e k =>
  h G0 H0 G H σ { D with nx := tv D } φ b e fun o G1 H1 p s l => by
    cases o with
    | nx δ1 => exact fun σ1 e1 => p G0 H0 G1 H1 σ1 D φ ⟨b.s0, s⟩ e1 fun o G2 H2 p2 s2 l2 => k o G2 H2 p2 s2 (l.trans l2)
    | rt d => exact k (.rt d) G1 H1 p s l
    | bk δ1 => exact k (.bk δ1) G1 H1 p s l
    | ct δ1 => exact k (.ct δ1) G1 H1 p s l
theorem dsp_ifF (h : DTp c Φ tt δ fun b => b = false ∧ R (.nx δ)) : DSp c Φ (tIfS tt ts tNext) δ R := fun G0 H0 G H σ D φ b e k =>
  h G0 H0 G H σ _ φ b e fun x G1 H1 p s => by
    obtain ⟨rfl, p⟩ := p
    exact k (.nx δ) G1 H1 p (b.st.trans s) s.lat σ (e.step b.iv s)
theorem dsp_ifT {te : TE} (h : DTp c Φ tt δ fun b => b = true ∧ DEp c Φ te δ fun d => R (.rt d)) : DSp c Φ (tIfS tt (tRet te) tv) δ R := fun G0 H0 G H σ D φ b e k =>
  h G0 H0 G H σ _ φ b e fun x G1 H1 p s => by
    obtain ⟨rfl, p⟩ := p
    exact p G0 H0 G1 H1 σ _ φ (b.next s) (e.step b.iv s) fun d v G2 H2 p2 s2 hv => k (.rt d) G2 H2 p2 (b.st.trans (s.trans s2)) (s.trans s2).lat v hv
/-- [e for g in it] -/
theorem dnp_lc {g : TG} {vs js : List Nat} (hjs : ∀ j, j ∈ js → j ∈ vs) (h : DIp c Φ wi δ fun xs => xs.length ≤ sizeLine ∧ ∃ W : Nat → List D → Prop, W 0 [] ∧
    (∀ (i : Nat) (d : D) (acc : List D), xs[i]? = some d → W i acc → DG c g js (wipeD δ vs) d fun δ2 => DEp c Φ te δ2 fun y => W (i + 1) (acc ++ [y])) ∧
    ∀ acc, W xs.length acc → P (.lst acc)) : DNp c Φ (tLc wi g tYes te vs) δ P := fun G0 H0 G H σ Q φ b e k =>
  h G0 H0 G H σ _ φ b e fun xs J G1 H1 p s wk => by
    obtain ⟨hz, W, w0, turn, done⟩ := p
    intro r hr
    have hr0 : H r = none := s.back hr
    have st0 := s.trans (Step.tmp (o := .lst []) s.sub hr)
    refine ⟨fun i m H' => ∃ acc avs G', m = xs.length - i ∧ i ≤ xs.length ∧ W i acc ∧ Step c G H G' H' ∧ Lat G1 H1 G' H' ∧ H' r = some (.lst avs) ∧ HasL c.K G' acc avs ∧ G' r = none ∧ acc.length ≤ i,
      ⟨xs.length, [], [], G1, by simp, Nat.zero_le _, w0, st0, (Step.tmp (o := .lst []) s.sub hr).lat, upd_same, hasL_nil, s.sub.free hr, Nat.le_refl _⟩, ?_⟩
    rintro i m H' ⟨acc, avs, G', rfl, hi, w, st, l', hD, ha, gr, la⟩
    have b' : Bs c G0 H0 G' H' := b.next st
    have e' := e.step b.iv st
    by_cases hlt : i < xs.length
    · refine .inr ⟨wk.go G' H' i b'.sub l' hlt, fun H2 => ∃ m', m' < xs.length - i ∧ ∃ acc avs G', m' = xs.length - (i + 1) ∧ i + 1 ≤ xs.length ∧ W (i + 1) acc ∧ Step c G H G' H2 ∧ Lat G1 H1 G' H2 ∧ H2 r = some (.lst avs) ∧ HasL c.K G' acc avs ∧ G' r = none ∧ acc.length ≤ i + 1,
        fun _ z => z, fun x H2 y => ?_⟩
      obtain ⟨G2, s2, d, hd, hx⟩ := wk.yld G' H' i x H2 b'.sub l' hlt y
      have nt : ¬ c.T r := not_town b.sub.iv hr0
      have hr' : H' r ≠ none := by rw [hD]; exact fun z => nomatch z
      refine turn i d acc hd w G0 H0 G2 H2 (L2.wipe σ vs) x _ (b'.next s2) ((e'.wipe vs).step b'.iv s2) hx fun δ3 σ3 p3 e3 k3 l3 => ?_
      refine ⟨wipe_same l3 k3 hjs, ?_⟩
      unfold tYes
      simp only [if_true]
      refine p3 G0 H0 G2 H2 σ3 _ φ (b'.next s2) e3 fun yd yv G4 H4 p5 s4 hy => ?_
      have s24 := s2.trans s4
      have hD4 := s24.keep r _ nt gr hD
      have gr4 := s24.fr r hr' gr
      refine ⟨avs, hD4, ?_, _, by omega, acc ++ [yd], avs ++ [yv], G4, rfl, hlt, p5, (st.trans s24).grow hr0 gr4 b.sub, (l'.trans s24.lat).trans (Lat.mut fun o u z => by rw [hD4] at z; cases z), upd_same, (ha.mono s24.ge).snoc hy, gr4, ?_⟩
      · rw [ha.len]; omega
      · rw [List.length_append, List.length_singleton]; omega
    · have ei : i = xs.length := by omega
      subst ei
      exact .inl ⟨wk.stop G' H' b'.sub l', k _ r G' H' (done acc w) st hr0 gr ⟨avs, hD, ha⟩⟩
/-! the odd dict's own rules -/
variable {a : Addr} {kd : D} {i : Nat}
theorem dep_isO (hi : δ[i]? = some (.raw (.ref a))) (p : P (.bl true)) : DEp c (fun G H => Odd c.K G H a kd) (tCB rIsO (tCons (tVar i) (tCons (tC (.ty "dict")) tNil))) δ P := fun G0 H0 G H σ Q φ b e k => by
  obtain ⟨kv, o, h1, _⟩ := φ.step b.st
  exact ⟨.ref a, e.raw i _ hi, a, kv, o, rfl, h1, k _ _ G H p (.refl b.sub) (by unfold Has; rfl)⟩
theorem dep_lenO (hi : δ[i]? = some (.raw (.ref a))) (p : P (.int 1)) : DEp c (fun G H => Odd c.K G H a kd) (tCB rLenO (tCons (tVar i) tNil)) δ P := fun G0 H0 G H σ Q φ b e k => by
  obtain ⟨kv, o, h1, _⟩ := φ.step b.st
  exact ⟨.ref a, e.raw i _ hi, a, kv, o, rfl, h1, k _ _ G H p (.refl b.sub) (by unfold Has; rfl)⟩
theorem dip_odd {P : List D → Prop} (hi : δ[i]? = some (.raw (.ref a))) (p : P [kd]) : DIp c (fun G H => Odd c.K G H a kd) (iOdd (tVar i)) δ P := fun G0 H0 G H σ R φ b e k => by
  obtain ⟨kv, o, h1, h4⟩ := φ.step b.st
  refine ⟨.ref a, e.raw i _ hi, a, kv, o, rfl, h1, k [kd] _ G H p (.refl b.sub) ⟨fun G1 H1 i s l hl => ⟨l.fz a _ _ h1, hl⟩, fun G1 H1 s l => ⟨l.fz a _ _ h1, Nat.le_refl _⟩, fun G1 H1 i x H2 s l hl y => ?_⟩⟩
  obtain ⟨rfl, rfl⟩ := y
  have e0 : i = 0 := by simp at hl; exact hl
  subst e0
  exact ⟨G1, .refl s, kd, rfl, h4.mono l.ge⟩
end
end Mp
set_option maxRecDepth 100000
set_option maxHeartbeats 4000000
namespace Mp
open PySem L2 PyProof.Rows
/-! ### t * n of a tuple, as an object that stays -/
def rRepF (K : PySem.W.Frag) : R2 := fun x y H Q => ∃ a m xs, x = .ref a ∧ y = .int m ∧ SqT K H a xs ∧ 0 < xs.length ∧ xs.length ≤ 1000 ∧ 2 ≤ m ∧ m ≤ 1000 ∧
  ∀ p o, H p = none → o.dict = none → Q (.ref p) (upd H p (.frz o (.tup (List.replicate m.toNat xs).flatten)))
section
variable {X : Cx}
theorem op_repF : OpR X (binaryOp .Mult) (rRepF X.K) := by
  intro pins s σ H x y v u Q I rx ry ⟨a, m, xs, ex, ey, hT, hp, hz, h2, hm, q⟩
  subst ex; subst ey
  cases rx
  obtain ⟨tk, rfl⟩ := ry
  obtain ⟨is, vr, ⟨⟨cl, dc, dt, ss⟩, ga, cc, nn, de⟩, _⟩ := I.tuple hT
  simp only at cc de
  subst cc de
  have el : is.length = xs.length := vr.length.symm
  have ez : is.toArray.size = xs.length := by simp [el]
  have en : is.toArray.isEmpty = false := by
    cases is with
    | nil => rw [← el] at hp; simp at hp
    | cons b r => rfl
  have big : ((is.toArray.size : Nat) : Int) * m ≤ 1000000 := by
    rw [ez]
    exact Int.le_trans (Int.mul_le_mul_of_nonneg_right (show ((xs.length : Nat) : Int) ≤ 1000 by omega) (by omega)) (by omega)
  have fl : ∀ {α : Type} (zs : List α), zs.length = xs.length → (List.replicate m.toNat zs).flatten.length ≤ sizeLine := fun zs e => by
    rw [PyProof.Rows.lm_len_rep_flat, e, sizeLine_eq]
    exact Nat.le_trans (Nat.mul_le_mul (show m.toNat ≤ 1000 by omega) hz) (by omega)
  have k0 : (decide (m < -(2 ^ 63)) || decide (m ≥ 2 ^ 63)) = false := by simp; omega
  have k1 : (is.toArray.isEmpty || m == 1) = false := by rw [en]; simp; omega
  have k2 : (decide (m ≤ 0) || is.toArray.isEmpty) = false := by rw [en]; simp; omega
  have k4 : Builtin.Tuple.tupleTooMany (((is.toArray.size : Nat) : Int) * m) = false := by
    unfold Builtin.Tuple.tupleTooMany; rw [sizeLine_eq]; exact decide_eq_false (by omega)
  have mul := tuple_mulW a is.toArray nn dc ss m tk k0 k1 k2 (by omega) k4 (by rw [size_rep, List.size_toArray]; exact fl is el)
  refine wpAny_binaryOp_repeat_ref (T := "tuple") (U := "int") (by decide) ⟨_, ga, rfl⟩ (fun s' => typeIs_int s' m tk) noFill_tuple_mul F.fills_int_mul F.slot_int_rmul repeat_tuple F.slot_int_index.lookup ?_
  refine call_meets F.slot_int_rmul (typeIs_int s m tk) F.entry_int_rmul (F.args_int_rmul_2 _ _) (int_rmul_tuple m tk a is.toArray nn dc ss) ⟨ga, rfl, ⟨_, ga, rfl⟩, ?_⟩
  refine call_meets F.slot_tuple_mul ⟨_, ga, rfl⟩ F.entry_tuple_mul (F.args_tuple_mul_2 _ _) mul ⟨ga, ?_⟩
  rw [size_rep]
  have fresh := I.hok.fresh (Nat.le_refl s.heap.objs.size)
  refine ⟨.ref s.heap.objs.size, upd H s.heap.objs.size (.frz _ (.tup (List.replicate m.toNat xs).flatten)), I.laid (t' := s.toks) (fun c w e => Heap.get?_push_of_some _ e) (Nat.le_refl _) ⟨Heap.get?_push_size _ rfl, ?_⟩, rfl, q _ _ fresh rfl⟩
  exact ⟨fl xs rfl, _, vr.rep m.toNat, IsTup.new _ _⟩
end
section
variable {c : Cn} {δ : List Sl} {ta tb : TE} {P : D → Prop}
theorem de_repF (h : DE c ta δ fun x => ∃ xs, x = .tup xs ∧ 0 < xs.length ∧ xs.length ≤ 1000 ∧ DE c tb δ fun y => ∃ k : Nat, y = .int k ∧ 2 ≤ k ∧ k ≤ 1000 ∧ xs.length * k ≤ 1000 ∧ P (.tup (List.replicate k xs).flatten)) : DE c (tOp (rRepF c.K) ta tb) δ P := fun G0 H0 G H σ Q b e k =>
  h G0 H0 G H σ _ b e fun x v G1 H1 p s1 hx => by
    obtain ⟨xs, rfl, h0, h1, p⟩ := p
    unfold Has at hx
    obtain ⟨a, vs, rfl, ta, hl⟩ := hx
    refine p G0 H0 G1 H1 σ _ (b.next s1) (e.step b.iv s1) fun y u G2 H2 p2 s2 hy => ?_
    obtain ⟨n, rfl, n2, nk, nl, p2⟩ := p2
    unfold Has at hy
    subst hy
    have s12 := s1.trans s2
    refine ⟨a, n, vs, rfl, rfl, (s12.sub.ge.tup (s2.ge.tup ta)).sq, by rw [hl.len]; exact h0, by rw [hl.len]; exact h1, by omega, by omega, fun q o hq ho => ?_⟩
    rw [Int.toNat_natCast]
    exact k _ _ (upd G2 q (.tup (List.replicate n vs).flatten)) _ p2 (s12.trans (Step.new s12.sub hq ⟨o, upd_same, ho⟩)) (has_tup (s12.sub.free hq) (hasL_rep (hl.mono s2.ge) n))
/-- range(i, j) -/
theorem wk_rng2 {G H : Hp} {lo : Int} {n : Nat} : Wk c (Itr lo n) ((List.range n).map fun i => .int (lo + (i : Nat))) G H where
  go := fun G1 H1 i s l hi => by simpa [Itr] using hi
  stop := fun G1 H1 s l => by simp [Itr]
  yld := fun G1 H1 i x H2 s l hi y => by
    obtain ⟨rfl, rfl⟩ := y
    refine ⟨G1, .refl s, .int (lo + (i : Nat)), ?_, by unfold Has; simp⟩
    have hi' : i < n := by simpa using hi
    simp [hi']
theorem di_rng2 {lo hi : Int} {P : List D → Prop} (h1 : -1000 ≤ lo) (h2 : lo ≤ 1000) (h3 : -1000 ≤ hi) (h4 : hi ≤ 1000) (p : P ((List.range (hi - lo).toNat).map fun i => .int (lo + (i : Nat)))) : DI c (iRng2 (tCons (tC (.int lo)) (tCons (tC (.int hi)) tNil))) δ P := fun G0 H0 G H σ R b e k =>
  ⟨lo, hi, rfl, ⟨by omega, by omega, by omega, by omega⟩, k _ _ G H p (.refl b.sub) wk_rng2⟩
end
end Mp
set_option maxRecDepth 100000
set_option maxHeartbeats 4000000
namespace Mp
open PySem L2
def t_is_documentO (K : PySem.W.Frag) (sp_is_document sp_is_text sp_is_scalar : Sp) : TS :=
  (tSeq (tIfS (tNot (tB (tCB rIsO (tCons (tVar 0) (tCons (tC (.ty "dict")) tNil))))) (tRet (tCall sp_is_scalar [] E0 (tCons (tVar 0) tNil))) tNext)
    (tSeq (tIfS (tOr (tTest (tOp (rEqX K) (tVar 1) (tC (.int 0)))) (tOr (tTest (tOp (rI0 fun i j => .bl (decide (j < i))) (tCB rLenO (tCons (tVar 0) tNil)) (tC (.int 6)))) (tNot (tB (tCB (rAll K) (tCons (tLc (iOdd (tVar 0)) (gName 2) tYes (tCall sp_is_text [] E0 (tCons (tVar 2) (tCons (tC (.int 1)) tNil))) [2]) tNil)))))) (tRet (tC (.bl false))) tNext)
    (tRet (tCB (rAll K) (tCons (tLc (iOdd (tVar 0)) (gName 2) tYes (tCall sp_is_document [] E0 (tCons (tOp (rSub K) (tVar 0) (tVar 2)) (tCons (tOp (rI0 fun i j => .int (i - j)) (tVar 1) (tC (.int 1))) tNil))) [2]) tNil)))))
def t_need_pathX (K : PySem.W.Frag) (C_InvalidPath : Addr) (W : WX) (sp_is_text : Sp) : TS :=
  (tIfS (tOr (tNot (tB (tCB (rIsi K) (tCons (tVar 0) (tCons (tC (.ty "tuple")) tNil))))) (tOr (tTest (tOp (rI0 fun i j => .bl (decide (j < i))) (tCB (rLenX K) (tCons (tVar 0) tNil)) (tC (.int 6)))) (tNot (tB (tCB (rAll K) (tCons (tLc (iAny K (tVar 0)) (gName 1) tYes (tCall sp_is_text [] E0 (tCons (tVar 1) (tCons (tC (.int 1)) tNil))) [1]) tNil)))))) (tRaise0 C_InvalidPath W) tNext)
-- ["value", "key"]
def t_need_bothX (K : PySem.W.Frag) (W : WX) (sp_need_patch : Sp) : TS :=
  (tSeq (tDrop (tCallS sp_need_patch (WE W) (tCons (tVar 0) tNil)))
    (tDrop (tCallS sp_need_patch (WE W) (tCons (tVar 1) tNil))))
-- ["patch", "other"]
def t_need_statesX (K : PySem.W.Frag) (W : WX) (sp_need_state : Sp) : TS :=
  (tFor (iAny K (tVar 0)) (gName 1) (tDrop (tCallS sp_need_state (WE W) (tCons (tVar 1) tNil))))
-- ["states", "state"]
def t_sizeX (K : PySem.W.Frag) (W : WX) (sp_size_of sp_need_state : Sp) : TS :=
  (tSeq (tDrop (tCallS sp_need_state (WE W) (tCons (tVar 0) tNil)))
    (tRet (tCall sp_size_of [] E0 (tCons (tVar 0) tNil))))
-- ["state"]
def t_value_atX (K : PySem.W.Frag) (W : WX) (sp_copied sp_found_at sp_need_path sp_need_state : Sp) : TS :=
  (tSeq (tDrop (tCallS sp_need_state (WE W) (tCons (tVar 0) tNil)))
    (tSeq (tDrop (tCallS sp_need_path (WE W) (tCons (tVar 1) tNil)))
    (tRet (tCall sp_copied [] E0 (tCons (tCall sp_found_at [] E0 (tCons (tVar 0) (tCons (tVar 1) tNil))) tNil)))))
-- ["state", "path"]
def t_applyX (K : PySem.W.Frag) (W : WX) (sp_copied sp_run sp_form_of sp_need_state sp_need_patch : Sp) : TS :=
  (tSeq (tDrop (tCallS sp_need_patch (WE W) (tCons (tVar 0) tNil)))
    (tSeq (tDrop (tCallS sp_need_state (WE W) (tCons (tVar 1) tNil)))
    (tRet (tCall sp_copied [] E0 (tCons (tCall sp_run [] E0 (tCons (tCall sp_form_of [] E0 (tCons (tVar 0) tNil)) (tCons (tVar 1) tNil))) tNil)))))
-- ["patch", "state"]
def t_normal_formX (K : PySem.W.Frag) (W : WX) (sp_copied_form sp_form_of sp_need_patch : Sp) : TS :=
  (tSeq (tDrop (tCallS sp_need_patch (WE W) (tCons (tVar 0) tNil)))
    (tRet (tCall sp_copied_form [] E0 (tCons (tCall sp_form_of [] E0 (tCons (tVar 0) tNil)) tNil))))
-- ["patch"]
def t_differenceX (K : PySem.W.Frag) (W : WX) (sp_copied sp_difference_of sp_form_of sp_need_both : Sp) : TS :=
  (tSeq (tDrop (tCallS sp_need_both (WE W) (tCons (tVar 0) (tCons (tVar 1) tNil))))
    (tSeq (tAsg (tCall sp_difference_of [] E0 (tCons (tCall sp_form_of [] E0 (tCons (tVar 0) tNil)) (tCons (tCall sp_form_of [] E0 (tCons (tVar 1) tNil)) tNil))) (gName 2))
    (tRet (tIf (tTest (tOp (fun x y H Q => y = .non ∧ Q (.bl (decide (x = .non))) H) (tVar 2) (tC .non))) (tC .non) (tTupF (tCons (tCall sp_copied [] E0 (tCons (tOp (rSub K) (tVar 2) (tC (.int 0))) tNil)) tNil))))))
-- ["patch", "other", "found"]
def t_commuteX (K : PySem.W.Frag) (W : WX) (sp_chained sp_form_of sp_need_both : Sp) : TS :=
  (tSeq (tDrop (tCallS sp_need_both (WE W) (tCons (tVar 0) (tCons (tVar 1) tNil))))
    (tSeq (tPar 2 3 (tCons (tCall sp_form_of [] E0 (tCons (tVar 0) tNil)) (tCons (tCall sp_form_of [] E0 (tCons (tVar 1) tNil)) tNil)))
    (tRet (tOp (rEqX K) (tCall sp_chained [] E0 (tCons (tVar 2) (tCons (tVar 3) tNil))) (tCall sp_chained [] E0 (tCons (tVar 3) (tCons (tVar 2) tNil)))))))
-- ["patch", "other", "one", "two"]
def t_absorbsX (K : PySem.W.Frag) (W : WX) (sp_chained sp_form_of sp_need_both : Sp) : TS :=
  (tSeq (tDrop (tCallS sp_need_both (WE W) (tCons (tVar 0) (tCons (tVar 1) tNil))))
    (tSeq (tAsg (tCall sp_form_of [] E0 (tCons (tVar 0) tNil)) (gName 2))
    (tRet (tOp (rEqX K) (tCall sp_chained [] E0 (tCons (tCall sp_form_of [] E0 (tCons (tVar 1) tNil)) (tCons (tVar 2) tNil))) (tVar 2)))))
-- ["patch", "other", "form"]
def t_idempotentX (K : PySem.W.Frag) (W : WX) (sp_chained sp_form_of sp_need_patch : Sp) : TS :=
  (tSeq (tDrop (tCallS sp_need_patch (WE W) (tCons (tVar 0) tNil)))
    (tSeq (tAsg (tCall sp_form_of [] E0 (tCons (tVar 0) tNil)) (gName 1))
    (tRet (tOp (rEqX K) (tCall sp_chained [] E0 (tCons (tVar 1) (tCons (tVar 1) tNil))) (tVar 1)))))
-- ["patch", "form"]
def t_sourceX (K : PySem.W.Frag) (W : WX) (sp_copied sp_source_of sp_form_of sp_need_state sp_need_patch : Sp) : TS :=
  (tSeq (tDrop (tCallS sp_need_patch (WE W) (tCons (tVar 0) tNil)))
    (tSeq (tDrop (tCallS sp_need_state (WE W) (tCons (tVar 1) tNil)))
    (tSeq (tAsg (tCall sp_source_of [] E0 (tCons (tCall sp_form_of [] E0 (tCons (tVar 0) tNil)) (tCons (tVar 1) tNil))) (gName 2))
    (tRet (tIf (tTest (tOp (fun x y H Q => y = .non ∧ Q (.bl (decide (x = .non))) H) (tVar 2) (tC .non))) (tC .non) (tTupF (tCons (tCall sp_copied [] E0 (tCons (tOp (rSub K) (tVar 2) (tC (.int 0))) tNil)) tNil)))))))
-- ["patch", "state", "found"]
def t_fixedX (K : PySem.W.Frag) (W : WX) (sp_copied sp_fixed_of sp_form_of sp_need_patch : Sp) : TS :=
  (tSeq (tDrop (tCallS sp_need_patch (WE W) (tCons (tVar 0) tNil)))
    (tSeq (tAsg (tCall sp_fixed_of [] E0 (tCons (tCall sp_form_of [] E0 (tCons (tVar 0) tNil)) tNil)) (gName 1))
    (tRet (tIf (tTest (tOp (fun x y H Q => y = .non ∧ Q (.bl (decide (x = .non))) H) (tVar 1) (tC .non))) (tC .non) (tTupF (tCons (tCall sp_copied [] E0 (tCons (tOp (rSub K) (tVar 1) (tC (.int 0))) tNil)) tNil))))))
-- ["patch", "found"]
def t_affectsX (K : PySem.W.Frag) (W : WX) (sp_affected sp_form_of sp_need_path sp_need_patch : Sp) : TS :=
  (tSeq (tDrop (tCallS sp_need_patch (WE W) (tCons (tVar 0) tNil)))
    (tSeq (tDrop (tCallS sp_need_path (WE W) (tCons (tVar 1) tNil)))
    (tRet (tCall sp_affected [] E0 (tCons (tCall sp_form_of [] E0 (tCons (tVar 0) tNil)) (tCons (tVar 1) tNil))))))
-- ["patch", "path"]
def t_changesX (K : PySem.W.Frag) (W : WX) (sp_changes_of sp_need_state : Sp) : TS :=
  (tSeq (tDrop (tCallS sp_need_state (WE W) (tCons (tVar 0) tNil)))
    (tSeq (tDrop (tCallS sp_need_state (WE W) (tCons (tVar 1) tNil)))
    (tRet (tCall sp_changes_of [] E0 (tCons (tVar 0) (tCons (tVar 1) tNil))))))
-- ["before", "after"]
def t_touchedX (K : PySem.W.Frag) (W : WX) (sp_paths_of sp_changes_of sp_need_state : Sp) : TS :=
  (tSeq (tDrop (tCallS sp_need_state (WE W) (tCons (tVar 0) tNil)))
    (tSeq (tDrop (tCallS sp_need_state (WE W) (tCons (tVar 1) tNil)))
    (tRet (tCB (rSortTx K) (tCons (tCall sp_paths_of [] E0 (tCons (tCall sp_changes_of [] E0 (tCons (tVar 0) (tCons (tVar 1) tNil))) tNil)) tNil)))))
-- ["before", "after"]
def t_conflictsX (K : PySem.W.Frag) (W : WX) (sp_merged sp_need_states : Sp) : TS :=
  (tSeq (tDrop (tCallS sp_need_states (WE W) (tCons (tLst (tCons (tVar 0) (tCons (tVar 1) (tCons (tVar 2) tNil)))) tNil)))
    (tRet (tCB (rSortTx K) (tCons (tOp (rSub K) (tCall sp_merged [] E0 (tCons (tLst (tCons (tVar 0) (tCons (tVar 1) (tCons (tVar 2) tNil)))) (tCons (tTupF tNil) tNil))) (tC (.int 1))) tNil))))
-- ["base", "left", "right"]
def t_merge3X (K : PySem.W.Frag) (C_Conflict : Addr) (W : WX) (sp_copied sp_merged sp_need_states : Sp) : TS :=
  (tSeq (tDrop (tCallS sp_need_states (WE W) (tCons (tLst (tCons (tVar 0) (tCons (tVar 1) (tCons (tVar 2) tNil)))) tNil)))
    (tSeq (tAsg (tCall sp_merged [] E0 (tCons (tLst (tCons (tVar 0) (tCons (tVar 1) (tCons (tVar 2) tNil)))) (tCons (tTupF tNil) tNil))) (gTup K 2 (gCons (gName 3) (gCons (gName 4) gNil))))
    (tSeq (tIfS (tTest (tOp (rNeX K) (tVar 4) (tLst tNil))) (tRaiseF K C_Conflict "paths" W (tCB (rSortTx K) (tCons (tVar 4) tNil))) tNext)
    (tRet (tCall sp_copied [] E0 (tCons (tVar 3) tNil))))))
-- ["base", "left", "right", "result", "paths"]
def t__law_ask (K : PySem.W.Frag) (C_PatchError : Addr) (Cs : List Addr) (f_conflicts : Addr) (f_merge3 : Addr) (f_value_at : Addr) (f_changes : Addr) (f_touched : Addr) (f_apply : Addr) (f_source : Addr) (f_affects : Addr) (f_difference : Addr) (f_commute : Addr) (f_absorbs : Addr) (f_normal_form : Addr) (f_idempotent : Addr) (f_fixed : Addr) (sa_conflicts sa_merge3 sa_value_at sa_changes sa_touched sa_apply sa_source sa_affects sa_difference sa_commute sa_absorbs sa_normal_form sa_idempotent sa_fixed sp_size : Sp) : TS :=
  (tTryAs K C_PatchError 3 (fun W => (tSeq (tIfS (tTest (tOp (rI0 fun i j => .bl (decide (i < j))) (tVar 0) (tC (.int 3)))) (tRet (tCallD [(f_normal_form, sa_normal_form), (f_idempotent, sa_idempotent), (f_fixed, sa_fixed)] (WE W) (tOp (rSub K) (tLst (tRefs [f_normal_form, f_idempotent, f_fixed])) (tVar 0)) (tCons (tVar 1) tNil))) tNext)
    (tSeq (tIfS (tTest (tOp (rI0 fun i j => .bl (decide (i < j))) (tVar 0) (tC (.int 9)))) (tRet (tCallD [(f_apply, sa_apply), (f_source, sa_source), (f_affects, sa_affects), (f_difference, sa_difference), (f_commute, sa_commute), (f_absorbs, sa_absorbs)] (WE W) (tOp (rSub K) (tLst (tRefs [f_apply, f_source, f_affects, f_difference, f_commute, f_absorbs])) (tOp (rI0 fun i j => .int (i - j)) (tVar 0) (tC (.int 3)))) (tCons (tVar 1) (tCons (tVar 2) tNil)))) tNext)
    (tSeq (tIfS (tTest (tOp (rI0 fun i j => .bl (decide (i < j))) (tVar 0) (tC (.int 12)))) (tRet (tCallD [(f_value_at, sa_value_at), (f_changes, sa_changes), (f_touched, sa_touched)] (WE W) (tOp (rSub K) (tLst (tRefs [f_value_at, f_changes, f_touched])) (tOp (rI0 fun i j => .int (i - j)) (tVar 0) (tC (.int 9)))) (tCons (tVar 1) (tCons (tVar 2) tNil)))) tNext)
    (tRet (tIf (tTest (tOp (rEqX K) (tVar 0) (tC (.int 12)))) (tCallS sp_size (WE W) (tCons (tVar 1) tNil)) (tCallD [(f_conflicts, sa_conflicts), (f_merge3, sa_merge3)] (WE W) (tOp (rSub K) (tLst (tRefs [f_conflicts, f_merge3])) (tOp (rI0 fun i j => .int (i - j)) (tVar 0) (tC (.int 13)))) (tCons (tVar 1) (tCons (tVar 2) (tCons (tC .non) tNil)))))))))) (fun a cls d => (tRet (tCallE (spWh K Cs a cls d) E0 (tCons (tVar 3) tNil)))))
-- ["what", "one", "other", "error"]
def t__law_states (K : PySem.W.Frag) : TS :=
  (tSeq (tAsg (tC (.int 1)) (gName 0))
    (tSeq (tFor (iRng1 (tCons (tC (.int 6)) tNil)) (gName 1) (tAsg (tDisp [((tC (.str "a")), (tVar 0))]) (gName 0)))
    (tSeq (tAsg (tCB (rDictX K) (tCons (tLc (iAny K (tC (.str "abcdefg"))) (gName 4) tYes (tTupF (tCons (tVar 4) (tCons (tC (.int 0)) tNil))) [4]) tNil)) (gName 2))
    (tSeq (tAsg (tLst (tCons (tC (.bl true)) (tCons (tC (.int 1000)) (tCons (tUn (rU fun i => .int (-i)) (tC (.int 1000))) (tCons (tC (.str "A")) (tCons (tC (.str "a b")) (tCons (tC (.str "abcdefg")) (tCons (tLst tNil) (tCons (tTupF tNil) (tCons (tTupF (tCons (tC (.str "a")) tNil)) (tCons (tDisp [((tC (.str "a")), (tC .non))]) (tCons (tDisp [((tC (.str "a")), (tC (.bl true)))]) tNil)))))))))))) (gName 3))
    (tSeq (tDrop (tBM K "list" rExtend (tVar 3) (tCons (tLst (tCons (tDisp [((tC (.str "A")), (tC (.int 1)))]) (tCons (tDisp [((tC (.str "")), (tC (.int 1)))]) (tCons (tDisp [((tC (.int 1)), (tC (.int 1)))]) (tCons (tDisp [((tC (.str "abcdefg")), (tC (.int 1)))]) tNil))))) tNil)))
    (tRet (tOp rCat (tVar 3) (tLst (tCons (tDisp [((tC (.str "a")), (tDisp [((tC (.str "b")), (tLst (tCons (tC (.int 1)) tNil)))]))]) (tCons (tDisp [((tC (.str "a")), (tC (.int 1000)))]) (tCons (tDisp [((tC (.str "a")), (tDisp [((tC (.str "b")), (tDisp [((tC (.str "c")), (tC .non))]))]))]) (tCons (tVar 0) (tCons (tVar 2) (tCons (tOddN (tC (.int 1))) (tCons (tOddT (tTupF (tCons (tC (.str "a")) tNil)) (tC (.int 1))) tNil)))))))))))))))
-- ["deep", "k", "wide", "bad", "key"]
def t__law_patches (K : PySem.W.Frag) : TS :=
  (tSeq (tAsg (tTupF (tCons (tC (.str "keep")) tNil)) (gName 0))
    (tSeq (tFor (iRng1 (tCons (tC (.int 7)) tNil)) (gName 1) (tAsg (tTupF (tCons (tC (.str "chain")) (tCons (tTupF (tCons (tVar 0) tNil)) tNil))) (gName 0)))
    (tSeq (tAsg (tTupF (tCons (tC (.str "keep")) tNil)) (gName 2))
    (tSeq (tFor (iRng1 (tCons (tC (.int 7)) tNil)) (gName 1) (tAsg (tTupF (tCons (tC (.str "inside")) (tCons (tDisp [((tC (.str "a")), (tVar 2))]) tNil))) (gName 2)))
    (tSeq (tAsg (tLst (tCons (tVar 2) (tCons (tTupF (tCons (tC (.str "foo")) (tCons (tTupF tNil) tNil))) (tCons (tC .non) (tCons (tTupF tNil) (tCons (tC (.str "keep")) (tCons (tLst (tCons (tC (.str "keep")) tNil)) (tCons (tTupF (tCons (tC (.str "keep")) (tCons (tC (.int 1)) tNil))) (tCons (tTupF (tCons (tC (.str "drop")) (tCons (tC (.int 1)) tNil))) (tCons (tTupF (tCons (tC (.str "set")) tNil)) tNil)))))))))) (gName 3))
    (tSeq (tDrop (tBM K "list" rExtend (tVar 3) (tCons (tLst (tCons (tTupF (tCons (tC (.str "set")) (tCons (tC .non) tNil))) tNil)) tNil)))
    (tSeq (tDrop (tBM K "list" rExtend (tVar 3) (tCons (tLst (tCons (tTupF (tCons (tC (.str "set")) (tCons (tC (.int 1000)) tNil))) (tCons (tTupF (tCons (tC (.str "set")) (tCons (tC (.int 1)) (tCons (tC (.int 2)) tNil)))) (tCons (tTupF (tCons (tC (.str "default")) (tCons (tC .non) tNil))) (tCons (tTupF (tCons (tC (.str "keeps")) tNil)) tNil))))) tNil)))
    (tSeq (tDrop (tBM K "list" rExtend (tVar 3) (tCons (tLst (tCons (tTupF (tCons (tC (.str "merge")) tNil)) (tCons (tTupF (tCons (tC (.str "merge")) (tCons (tC .non) tNil))) (tCons (tTupF (tCons (tC (.str "merge")) (tCons (tDisp [((tC (.str "a")), (tC (.int 1)))]) tNil))) (tCons (tTupF (tCons (tC (.str "merge")) (tCons (tDisp [((tC (.str "A")), (tTupF (tCons (tC (.str "keep")) tNil)))]) tNil))) tNil))))) tNil)))
    (tSeq (tDrop (tBM K "list" rExtend (tVar 3) (tCons (tLst (tCons (tTupF (tCons (tC (.str "merge")) (tCons (tLst (tCons (tTupF (tCons (tC (.str "a")) (tCons (tTupF (tCons (tC (.str "keep")) tNil)) tNil))) tNil)) tNil))) (tCons (tTupF (tCons (tC (.str "inside")) (tCons (tDisp [((tC (.str "a")), (tC .non))]) tNil))) tNil))) tNil)))
    (tSeq (tDrop (tBM K "list" rExtend (tVar 3) (tCons (tLst (tCons (tTupF (tCons (tC (.str "chain")) (tCons (tTupF (tCons (tC (.str "keep")) tNil)) tNil))) (tCons (tTupF (tCons (tC (.str "chain")) (tCons (tLst (tCons (tTupF (tCons (tC (.str "keep")) tNil)) tNil)) tNil))) (tCons (tTupF (tCons (tC (.str "chain")) (tCons (tOp (rRepF K) (tTupF (tCons (tTupF (tCons (tC (.str "keep")) tNil)) tNil)) (tC (.int 7))) tNil))) tNil)))) tNil)))
    (tSeq (tDrop (tBM K "list" rExtend (tVar 3) (tCons (tLst (tCons (tTupF (tCons (tC (.str "chain")) (tCons (tC .non) tNil))) (tCons (tTupF (tCons (tC .non) tNil)) (tCons (tTupF (tCons (tC (.int 5)) (tCons (tC (.int 1)) tNil))) (tCons (tVar 0) (tCons (tDisp [((tC (.str "a")), (tC (.int 1)))]) tNil)))))) tNil)))
    (tSeq (tDrop (tBM K "list" rAppend (tVar 3) (tCons (tTupF (tCons (tC (.str "merge")) (tCons (tCB (rDictX K) (tCons (tLc (iAny K (tC (.str "abcdefg"))) (gName 4) tYes (tTupF (tCons (tVar 4) (tCons (tTupF (tCons (tC (.str "keep")) tNil)) tNil))) [4]) tNil)) tNil))) tNil)))
    (tRet (tOp rCat (tVar 3) (tLst (tCons (tTupF (tCons (tC (.str "inside")) (tCons (tDisp [((tC (.str "a")), (tTupF (tCons (tC (.str "merge")) (tCons (tDisp [((tC (.str "b")), (tTupF (tCons (tC (.str "set")) (tCons (tC (.bl true)) tNil))))]) tNil))))]) tNil))) tNil))))))))))))))))
-- ["deep", "k", "inner", "bad", "key"]
def rest02 (K : PySem.W.Frag) (sp_is_patch sp_value_at sp_is_state sp__law_ask sp__law_states sp__law_patches sp__law_state sp__law_patch : Sp) : TS :=
  (tSeq (tAsg (tTupF (tCons (tCall sp__law_patch [] E0 (tCons (tVar 0) (tCons (tVar 1) (tCons (tC (.int 2)) tNil)))) (tCons (tCall sp__law_state [] E0 (tCons (tVar 0) (tCons (tVar 1) (tCons (tC (.int 2)) tNil)))) tNil))) (gTup K 2 (gCons (gName 2) (gCons (gName 3) gNil))))
    (tSeq (tFor (iAny K (tCall sp__law_patches [] E0 tNil)) (gName 4) (tSeq (tIfS (tTest (tOp rNotB (tCall sp_is_patch [] E0 (tCons (tVar 4) tNil)) (tC (.bl false)))) (tRet (tC (.bl false))) tNext)
    (tSeq (tIfS (tTest (tOp (rNeX K) (tLc (iRng1 (tCons (tC (.int 9)) tNil)) (gName 9) tYes (tCall sp__law_ask [] E0 (tCons (tVar 9) (tCons (tVar 4) (tCons (tC .non) tNil)))) [9]) (tOp rRep (tLst (tCons (tTupF (tCons (tC (.str "raised")) (tCons (tC (.int 2)) tNil))) tNil)) (tC (.int 9))))) (tRet (tC (.bl false))) tNext)
    (tIfS (tTest (tOp (rNeX K) (tLc (iAny K (tTupF (tCons (tC (.int 6)) (tCons (tC (.int 7)) (tCons (tC (.int 8)) tNil))))) (gName 9) tYes (tCall sp__law_ask [] E0 (tCons (tVar 9) (tCons (tVar 2) (tCons (tVar 4) tNil)))) [9]) (tOp rRep (tLst (tCons (tTupF (tCons (tC (.str "raised")) (tCons (tC (.int 2)) tNil))) tNil)) (tC (.int 3))))) (tRet (tC (.bl false))) tNext))))
    (tSeq (tFor (iAny K (tCall sp__law_states [] E0 tNil)) (gName 4) (tSeq (tIfS (tTest (tOp rNotB (tCall sp_is_state [] E0 (tCons (tVar 4) tNil)) (tC (.bl false)))) (tRet (tC (.bl false))) tNext)
    (tSeq (tIfS (tTest (tOp (rNeX K) (tLc (iAny K (tTupF (tCons (tC (.int 3)) (tCons (tC (.int 4)) tNil)))) (gName 9) tYes (tCall sp__law_ask [] E0 (tCons (tVar 9) (tCons (tVar 2) (tCons (tVar 4) tNil)))) [9]) (tOp rRep (tLst (tCons (tTupF (tCons (tC (.str "raised")) (tCons (tC (.int 0)) tNil))) tNil)) (tC (.int 2))))) (tRet (tC (.bl false))) tNext)
    (tSeq (tIfS (tTest (tOp (rNeX K) (tLc (iRng2 (tCons (tC (.int 9)) (tCons (tC (.int 15)) tNil))) (gName 9) tYes (tCall sp__law_ask [] E0 (tCons (tVar 9) (tCons (tVar 4) (tCons (tC .non) tNil)))) [9]) (tOp rRep (tLst (tCons (tTupF (tCons (tC (.str "raised")) (tCons (tC (.int 0)) tNil))) tNil)) (tC (.int 6))))) (tRet (tC (.bl false))) tNext)
    (tIfS (tTest (tOp (rNeX K) (tLc (iAny K (tTupF (tCons (tC (.int 10)) (tCons (tC (.int 11)) (tCons (tC (.int 13)) (tCons (tC (.int 14)) tNil)))))) (gName 9) tYes (tCall sp__law_ask [] E0 (tCons (tVar 9) (tCons (tVar 3) (tCons (tVar 4) tNil)))) [9]) (tOp rRep (tLst (tCons (tTupF (tCons (tC (.str "raised")) (tCons (tC (.int 0)) tNil))) tNil)) (tC (.int 4))))) (tRet (tC (.bl false))) tNext)))))
    (tSeq (tFor (iAny K (tTupF (tCons (tC .non) (tCons (tC (.str "a")) (tCons (tLst (tCons (tC (.str "a")) tNil)) (tCons (tTupF (tCons (tC (.str "A")) tNil)) (tCons (tTupF (tCons (tC (.str "")) tNil)) (tCons (tTupF (tCons (tC (.int 1)) tNil)) (tCons (tOp (rRepF K) (tTupF (tCons (tC (.str "a")) tNil)) (tC (.int 7))) (tCons (tTupF (tCons (tC (.str "abcdefg")) tNil)) (tCons (tTupF (tCons (tC (.str "a")) (tCons (tC .non) tNil))) tNil))))))))))) (gName 4) (tIfS (tOr (tTest (tOp (rNeX K) (tCall sp__law_ask [] E0 (tCons (tC (.int 5)) (tCons (tVar 2) (tCons (tVar 4) tNil)))) (tTupF (tCons (tC (.str "raised")) (tCons (tC (.int 1)) tNil))))) (tTest (tOp (rNeX K) (tCall sp__law_ask [] E0 (tCons (tC (.int 9)) (tCons (tVar 3) (tCons (tVar 4) tNil)))) (tTupF (tCons (tC (.str "raised")) (tCons (tC (.int 1)) tNil)))))) (tRet (tC (.bl false))) tNext))
    (tSeq (tPar 5 6 (tCons (tDisp [((tC (.str "a")), tDNewK)]) (tCons (tTupF (tCons (tC (.str "keep")) tNil)) tNil)))
    (tSeq (tFor (iRng1 (tCons (tC (.int 3)) tNil)) (gName 7) (tAsg (tDisp [((tC (.str "a")), (tVar 5))]) (gName 5)))
    (tSeq (tFor (iRng1 (tCons (tC (.int 6)) tNil)) (gName 7) (tAsg (tTupF (tCons (tC (.str "merge")) (tCons (tDisp [((tC (.str "abcdef")), (tVar 6))]) tNil))) (gName 6)))
    (tSeq (tAsg (tCB (rDictX K) (tCons (tLc (iAny K (tC (.str "abcdef"))) (gName 10) tYes (tTupF (tCons (tVar 10) (tCons (tC (.int 999)) tNil))) [10]) tNil)) (gName 8))
    (tSeq (tIfS (tTest (tOp rNotB (tCall sp_is_patch [] E0 (tCons (tTupF (tCons (tC (.str "merge")) (tCons (tCB (rDictX K) (tCons (tLc (iAny K (tC (.str "abcdef"))) (gName 10) tYes (tTupF (tCons (tVar 10) (tCons (tTupF (tCons (tC (.str "drop")) tNil)) tNil))) [10]) tNil)) tNil))) tNil)) (tC (.bl true)))) (tRet (tC (.bl false))) tNext)
    (tSeq (tIfS (tTest (tOp (rNeX K) (tLc (iAny K (tTupF (tCons (tVar 5) (tCons (tVar 8) (tCons (tUn (rU fun i => .int (-i)) (tC (.int 999))) (tCons (tC (.str "abcdef")) (tCons (tC (.str "")) (tCons (tC .non) (tCons tDNewK tNil))))))))) (gName 11) tYes (tCall sp_is_state [] E0 (tCons (tVar 11) tNil)) [11]) (tOp rRep (tLst (tCons (tC (.bl true)) tNil)) (tC (.int 7))))) (tRet (tC (.bl false))) tNext)
    (tSeq (tIfS (tTest (tOp rNotB (tCall sp_is_patch [] E0 (tCons (tVar 6) tNil)) (tC (.bl true)))) (tRet (tC (.bl false))) tNext)
    (tSeq (tIfS (tOr (tTest (tOp rNotB (tCall sp_is_patch [] E0 (tCons (tTupF (tCons (tC (.str "chain")) (tCons (tOp (rRepF K) (tTupF (tCons (tTupF (tCons (tC (.str "keep")) tNil)) tNil)) (tC (.int 6))) tNil))) tNil)) (tC (.bl true)))) (tTest (tOp (fun x y H Q => y = .non ∧ Q (.bl (!decide (x = .non))) H) (tCall sp_value_at [] E0 (tCons (tVar 5) (tCons (tOp (rRepF K) (tTupF (tCons (tC (.str "a")) tNil)) (tC (.int 6))) tNil))) (tC .non)))) (tRet (tC (.bl false))) tNext)
    (tRet (tOp rIsB (tCall sp_is_patch [] E0 (tCons (tTupF (tCons (tC (.str "chain")) (tCons (tTupF tNil) tNil))) tNil)) (tC (.bl true))))))))))))))))
-- ["script", "town", "patch", "state", "bad", "deep", "nested", "k", "wide", "what", "key", "one"]
end Mp
set_option maxRecDepth 100000
set_option maxHeartbeats 4000000
namespace Mp
open PySem L2
local macro_rules | `(tactic| walk_at "s") => `(tactic| first
  | with_reducible refine ds_seq ?_
  | with_reducible refine ds_ret ?_
  | with_reducible refine ds_if ?_
  | with_reducible refine ds_asg ?_
  | with_reducible refine ds_drop ?_
  | with_reducible refine ds_next ?_
  | with_reducible refine ds_retN ?_
  | with_reducible refine then_nx ?_
  | with_reducible refine then_rt ?_
  | with_reducible refine gives_rt ?_
  | with_reducible refine gives_nx
  | with_reducible refine dt_not ?_
  | with_reducible refine dt_test ?_
  | with_reducible refine dt_B ?_
  | with_reducible refine dt_and ?_
  | with_reducible refine dt_or ?_
  | with_reducible refine dt_yes ?_
  | with_reducible refine ex_bl ?_
  | with_reducible refine ex_ii ?_
  | ((with_reducible show DE _ (tVar _) _ _); refine de_var rfl ?_)
  | with_reducible refine de_int ?_
  | with_reducible refine de_str ?_
  | with_reducible refine de_bl ?_
  | with_reducible refine de_non ?_
  | with_reducible refine de_sub ?_
  | with_reducible refine de_eq ?_
  | with_reducible refine de_ne ?_
  | with_reducible refine de_in ?_
  | with_reducible refine de_add ?_
  | with_reducible refine de_subI ?_
  | with_reducible refine de_lt ?_
  | with_reducible refine de_le ?_
  | with_reducible refine de_gt ?_
  | with_reducible refine de_ge ?_
  | with_reducible refine de_neg ?_
  | with_reducible refine de_isN ?_
  | with_reducible refine de_notN ?_
  | with_reducible refine de_chainII ?_
  | with_reducible refine de_len ?_
  | with_reducible refine de_isi .str rfl ?_
  | with_reducible refine de_isi .int rfl ?_
  | with_reducible refine de_isi .bool rfl ?_
  | with_reducible refine de_isi .dict rfl ?_
  | with_reducible refine de_isi .tuple rfl ?_
  | with_reducible refine de_isi .list rfl ?_
  | with_reducible refine de_all ?_
  | with_reducible refine de_sum ?_
  | with_reducible refine de_if ?_
  | with_reducible refine de_andV ?_
  | with_reducible refine de_orV ?_
  | with_reducible refine de_notV ?_
  | with_reducible refine de_tuple ?_
  | with_reducible refine de_get1 ?_
  | with_reducible refine de_get2 ?_
  | with_reducible refine de_tup0 ?_
  | with_reducible refine de_tup1 ?_
  | with_reducible refine de_tup2 ?_
  | with_reducible refine de_tup3 ?_
  | with_reducible refine de_tup4 ?_
  | with_reducible refine de_tup ?_
  | with_reducible refine de_isB ?_
  | with_reducible refine de_notB ?_
  | ((with_reducible show DE _ (tCall (SpT _ _) _ _ _) _ _); refine de_ct rfl rfl ?_)
  | with_reducible refine de_call ?_
  | with_reducible refine da_nil ?_
  | with_reducible refine da_cons ?_)
section
variable {K : PySem.W.Frag}
/-! ### odd dicts are no documents -/
def oddK (kd : D) : Prop := isTextD kd 1 = false ∧ ∀ s, kd ≠ .str s
def spDocO (K : PySem.W.Frag) : Sp := fun vs H Q _ => ∃ G a kd, Sub ⟨K, none⟩ G H ∧ vs = [.ref a, .int 5] ∧ Odd K G H a kd ∧ oddK kd ∧ ∀ G' H', Step ⟨K, none⟩ G H G' H' → Q (.bl false) H'
theorem p_docO {sp1 sp3 : Sp} {a : Addr} {kd : D} (hk : oddK kd) : DSp ⟨K, none⟩ (fun G H => Odd K G H a kd) (t_is_documentO K sp1 (SpP K R_is_text) sp3) [.raw (.ref a), .dat (.int 5), .un] (Gives (.bl false)) := by
  unfold t_is_documentO
  refine dsp_seq (dsp_ifF (dtp_not (dtp_B (dep_isO (c := ⟨K, none⟩) rfl ⟨true, rfl, rfl, ?_⟩))))
  refine dsp_seq (dsp_ifT (dtp_or (dtp_test (DE.p (de_eq (c := ⟨K, none⟩) (de_var rfl (de_int ⟨Nat.zero_le _, _, rfl, ?_⟩)))))))
  rw [if_neg (by simp [D.eqv])]
  refine dtp_or (dtp_test ?_)
  refine dep_op (F := fun x y P => ∃ i j, x = .int i ∧ y = .int j ∧ P (.bl (decide (j < i)))) (dop_val fun x y v u G H P Q s hx hy f k => ?_) (dep_lenO (c := ⟨K, none⟩) rfl (DE.p (de_int ⟨1, 6, rfl, rfl, _, rfl, ?_⟩)))
  · obtain ⟨i, j, rfl, rfl, p⟩ := f
    unfold Has at hx hy
    subst hx hy
    exact ⟨i, j, rfl, rfl, k _ _ p (by unfold Has; rfl)⟩
  rw [if_neg (by simp)]
  refine dtp_not (dtp_B (dep_all (c := ⟨K, none⟩) (DNp.de (dnp_lc (js := [2]) (by simp) (dip_odd (c := ⟨K, none⟩) rfl ⟨by simp [sizeLine_eq], fun i acc => acc = (List.replicate i (.bl false)), rfl, fun i d acc hd e => ?_, fun acc e => ⟨[false], by rw [e]; rfl, false, rfl, rfl, DE.p (de_bl rfl)⟩⟩)))))
  have e0 : i = 0 := by
    cases i with
    | zero => rfl
    | succ i => simp at hd
  subst e0 e
  have hd : kd = d := by simpa using hd
  subst hd
  refine dg_name (DE.p ?_)
  refine de_call (da_cons (de_var rfl (da_cons (de_int (da_nil ⟨[kd, .int 1], .bl (isTextD kd 1), rfl, ⟨kd, 1, rfl, fun s e => (hk.2 s e).elim, rfl⟩, ?_⟩)))))
  rw [hk.1]; rfl
theorem body_docO {sp1 sp3 : Sp} {vs : List V} {H : Hp} {Q : VK} {E : XK} (q : spDocO K vs H Q E) : t_is_documentO K sp1 (SpP K R_is_text) sp3 { nx := fun _ H' => Q .non H', rt := Q } (L2.start ["value", "depth", "key"] vs) H := by
  obtain ⟨G, a, kd, s, rfl, ho, hk, k⟩ := q
  refine p_docO hk G H G H _ _ ho ⟨s, .refl s⟩ ?_ fun o G' H' p st l => ?_
  · show EnvOk _ _ _ _ [some (.ref a), some (.int 5), none] _
    refine ⟨rfl, fun i d h => ?_, fun i d h => ?_, fun i v h => ?_, fun i j d e r ne h => ?_⟩
    · match i, h with
      | 0, h => cases h
      | 1, h => cases h; exact ⟨.int 5, rfl, by unfold Has; rfl⟩
      | 2, h => cases h
    · match i, h with
      | 0, h => cases h
      | 1, h => cases h
      | 2, h => cases h
    · match i, h with
      | 0, h => cases h; rfl
      | 1, h => cases h
      | 2, h => cases h
    · match i, h with
      | 0, h => cases h
      | 1, h => cases h
      | 2, h => cases h
  · cases o with
    | rt d =>
      have p : d = .bl false := p
      subst p
      exact fun v hv => by
        unfold Has at hv
        subst hv
        exact k G' H' st
    | nx δ => exact absurd (show D.bl false = .non from p) (by simp)
    | bk δ => exact False.elim p
    | ct δ => exact False.elim p
end
/-! ### values that are states, patches, paths, or not -/
section
variable (K : PySem.W.Frag) (G H : Hp) (v : V)
def StateV : Prop := ∃ d, Has K G d v ∧ d.wf ∧ d.deep ≤ 40 ∧ isStateD d = true
def OddV : Prop := ∃ a kd, v = .ref a ∧ Odd K G H a kd ∧ oddK kd
def NotStV : Prop := (∃ d, Has K G d v ∧ d.wf ∧ d.deep ≤ 40 ∧ isStateD d = false) ∨ OddV K G H v
def PatchV : Prop := ∃ d, Has K G d v ∧ d.wf ∧ d.deep ≤ 40 ∧ isNestD d 6 = true
def NotPtV : Prop := ∃ d, Has K G d v ∧ d.wf ∧ d.deep ≤ 40 ∧ isNestD d 6 = false
def isPathD : D → Bool
  | .tup xs => decide (xs.length ≤ 6) && xs.all fun x => isTextD x 1
  | _ => false
def pathOk : D → Prop
  | .tup xs => xs.length ≤ 1000 ∧ ∀ x ∈ xs, ∀ s, x = .str s → s.length ≤ 1000
  | _ => True
def NotPaV : Prop := ∃ d, Has K G d v ∧ pathOk d ∧ isPathD d = false
end
section
variable {K : PySem.W.Frag} {c : Cn} {G H G1 H1 : Hp} {v : V}
theorem StateV.step (s : Step c G H G1 H1) (h : StateV c.K G v) : StateV c.K G1 v := by
  obtain ⟨d, h1, h2⟩ := h
  exact ⟨d, h1.mono s.ge, h2⟩
theorem PatchV.step (s : Step c G H G1 H1) (h : PatchV c.K G v) : PatchV c.K G1 v := by
  obtain ⟨d, h1, h2⟩ := h
  exact ⟨d, h1.mono s.ge, h2⟩
theorem NotPtV.step (s : Step c G H G1 H1) (h : NotPtV c.K G v) : NotPtV c.K G1 v := by
  obtain ⟨d, h1, h2⟩ := h
  exact ⟨d, h1.mono s.ge, h2⟩
theorem NotPaV.step (s : Step c G H G1 H1) (h : NotPaV c.K G v) : NotPaV c.K G1 v := by
  obtain ⟨d, h1, h2⟩ := h
  exact ⟨d, h1.mono s.ge, h2⟩
theorem OddV.step (s : Step c G H G1 H1) (h : OddV c.K G H v) : OddV c.K G1 H1 v := by
  obtain ⟨a, kd, e, h1, h2⟩ := h
  exact ⟨a, kd, e, h1.step s, h2⟩
theorem NotStV.step (s : Step c G H G1 H1) (h : NotStV c.K G H v) : NotStV c.K G1 H1 v := by
  rcases h with ⟨d, h1, h2⟩ | h
  · exact .inl ⟨d, h1.mono s.ge, h2⟩
  · exact .inr (h.step s)
end
/-! ### promises -/
/-- the call is quiet, or raises the class C -/
def spN (K : PySem.W.Frag) (C : Addr) (Good Bad : Hp → Hp → List V → Prop) : Sp := fun vs H Q E => ∃ G, Sub ⟨K, none⟩ G H ∧ ((Good G H vs ∧ ∀ G' H', Step ⟨K, none⟩ G H G' H' → Q .non H') ∨ (Bad G H vs ∧ ∀ G' H', Step ⟨K, none⟩ G H G' H' → E (.ref C) none H'))
/-- the call raises a class that Bad names -/
def spB (K : PySem.W.Frag) (Bad : Addr → Hp → Hp → List V → Prop) : Sp := fun vs H Q E => ∃ G C, Sub ⟨K, none⟩ G H ∧ Bad C G H vs ∧ ∀ G' H', Step ⟨K, none⟩ G H G' H' → E (.ref C) none H'
def spStO (K : PySem.W.Frag) : Sp := fun vs H Q _ => ∃ G v, Sub ⟨K, none⟩ G H ∧ vs = [v] ∧ OddV K G H v ∧ ∀ G' H', Step ⟨K, none⟩ G H G' H' → Q (.bl false) H'
def spNS (K : PySem.W.Frag) (Cs : Addr) : Sp := spN K Cs (fun G _ vs => ∃ v, vs = [v] ∧ StateV K G v) (fun G H vs => ∃ v, vs = [v] ∧ NotStV K G H v)
def spNSO (K : PySem.W.Frag) (Cs : Addr) : Sp := spB K fun C G H vs => C = Cs ∧ ∃ v, vs = [v] ∧ OddV K G H v
def spNP (K : PySem.W.Frag) (Cp : Addr) : Sp := spN K Cp (fun G _ vs => ∃ v, vs = [v] ∧ PatchV K G v) (fun G _ vs => ∃ v, vs = [v] ∧ NotPtV K G v)
def spNA (K : PySem.W.Frag) (Ca : Addr) : Sp := spB K fun C G _ vs => C = Ca ∧ ∃ v, vs = [v] ∧ NotPaV K G v
/-- one argument, no state -/
def spS1 (K : PySem.W.Frag) (Cs : Addr) : Sp := spB K fun C G H vs => C = Cs ∧ ∃ v, vs = [v] ∧ NotStV K G H v
def spP1 (K : PySem.W.Frag) (Cp : Addr) : Sp := spB K fun C G H vs => C = Cp ∧ ∃ v, vs = [v] ∧ NotPtV K G v
def spSS (K : PySem.W.Frag) (Cs : Addr) : Sp := spB K fun C G H vs => C = Cs ∧ ∃ v u, vs = [v, u] ∧ (NotStV K G H v ∨ (StateV K G v ∧ NotStV K G H u))
def spSSS (K : PySem.W.Frag) (Cs : Addr) : Sp := spB K fun C G H vs => C = Cs ∧ ∃ v u w, vs = [v, u, w] ∧ (NotStV K G H v ∨ (StateV K G v ∧ NotStV K G H u))
def spSsl (K : PySem.W.Frag) (Cs : Addr) : Sp := spB K fun C G H vs => C = Cs ∧ ∃ l v u w, vs = [.ref l] ∧ H l = some (.lst [v, u, w]) ∧ G l = none ∧ (NotStV K G H v ∨ (StateV K G v ∧ NotStV K G H u))
def spPP (K : PySem.W.Frag) (Cp : Addr) : Sp := spB K fun C G H vs => C = Cp ∧ ∃ v u, vs = [v, u] ∧ (NotPtV K G v ∨ (PatchV K G v ∧ NotPtV K G u))
def spPS (K : PySem.W.Frag) (Cp Cs : Addr) : Sp := spB K fun C G H vs => ∃ v u, vs = [v, u] ∧ ((C = Cp ∧ NotPtV K G v) ∨ (C = Cs ∧ PatchV K G v ∧ NotStV K G H u))
def spPA (K : PySem.W.Frag) (Cp Ca : Addr) : Sp := spB K fun C G H vs => ∃ v u, vs = [v, u] ∧ ((C = Cp ∧ NotPtV K G v) ∨ (C = Ca ∧ PatchV K G v ∧ NotPaV K G u))
def spSA (K : PySem.W.Frag) (Cs Ca : Addr) : Sp := spB K fun C G H vs => ∃ v u, vs = [v, u] ∧ ((C = Cs ∧ NotStV K G H v) ∨ (C = Ca ∧ StateV K G v ∧ NotPaV K G u))
section
variable {K : PySem.W.Frag} {vs : List V} {H : Hp} {Q : VK} {E : XK} {Cs Cp Ca : Addr} {sp1 sp2 sp3 sp4 : Sp}
abbrev ends (Q : VK) : Ends := { nx := fun _ H' => Q .non H', rt := Q }
theorem body_stO (q : spStO K vs H Q E) : t_is_state K (spDocO K) (ends Q) (L2.start ["value"] vs) H := by
  obtain ⟨G, v, s, rfl, ⟨a, kd, rfl, ho, hk⟩, k⟩ := q
  exact ⟨.ref a, rfl, rfl, false, by simp, by simp only [Bool.false_eq_true, if_false]; exact ⟨.ref a, rfl, G, a, kd, s, rfl, ho, hk, k⟩⟩
theorem body_nsO (q : spNSO K Cs vs H Q E) : t_need_stateX K Cs (wE E) (spStO K) (ends Q) (L2.start ["value"] vs) H := by
  obtain ⟨G, C, s, ⟨rfl, v, rfl, ho⟩, k⟩ := q
  exact ⟨v, rfl, G, v, s, rfl, ho, fun G' H' st => ⟨false, rfl, by simp only [Bool.not_false, if_true]; exact k G' H' st⟩⟩
theorem body_sizeX (q : spS1 K Cs vs H Q E) : t_sizeX K (wE E) sp1 (spNS K Cs) (ends Q) (L2.start ["state"] vs) H := by
  obtain ⟨G, C, s, ⟨rfl, v, rfl, h⟩, k⟩ := q
  exact ⟨v, rfl, G, s, .inr ⟨⟨v, rfl, h⟩, k⟩⟩
theorem body_valueX (q : spSA K Cs Ca vs H Q E) : t_value_atX K (wE E) sp1 sp2 (spNA K Ca) (spNS K Cs) (ends Q) (L2.start ["state", "path"] vs) H := by
  obtain ⟨G, C, s, ⟨v, u, rfl, ⟨rfl, h⟩ | ⟨rfl, h, hu⟩⟩, k⟩ := q
  · exact ⟨v, rfl, G, s, .inr ⟨⟨v, rfl, h⟩, k⟩⟩
  · exact ⟨v, rfl, G, s, .inl ⟨⟨v, rfl, h⟩, fun G' H' st => ⟨u, rfl, G', C, st.sub, ⟨rfl, u, rfl, NotPaV.step (c := ⟨K, none⟩) st hu⟩, fun G2 H2 s2 => k G2 H2 (st.trans s2)⟩⟩⟩
theorem body_applyX (q : spPS K Cp Cs vs H Q E) : t_applyX K (wE E) sp1 sp2 sp3 (spNS K Cs) (spNP K Cp) (ends Q) (L2.start ["patch", "state"] vs) H := by
  obtain ⟨G, C, s, ⟨v, u, rfl, ⟨rfl, h⟩ | ⟨rfl, h, hu⟩⟩, k⟩ := q
  · exact ⟨v, rfl, G, s, .inr ⟨⟨v, rfl, h⟩, k⟩⟩
  · exact ⟨v, rfl, G, s, .inl ⟨⟨v, rfl, h⟩, fun G' H' st => ⟨u, rfl, G', st.sub, .inr ⟨⟨u, rfl, NotStV.step (c := ⟨K, none⟩) st hu⟩, fun G2 H2 s2 => k G2 H2 (st.trans s2)⟩⟩⟩⟩
theorem body_sourceX (q : spPS K Cp Cs vs H Q E) : t_sourceX K (wE E) sp1 sp2 sp3 (spNS K Cs) (spNP K Cp) (ends Q) (L2.start ["patch", "state", "found"] vs) H := by
  obtain ⟨G, C, s, ⟨v, u, rfl, ⟨rfl, h⟩ | ⟨rfl, h, hu⟩⟩, k⟩ := q
  · exact ⟨v, rfl, G, s, .inr ⟨⟨v, rfl, h⟩, k⟩⟩
  · exact ⟨v, rfl, G, s, .inl ⟨⟨v, rfl, h⟩, fun G' H' st => ⟨u, rfl, G', st.sub, .inr ⟨⟨u, rfl, NotStV.step (c := ⟨K, none⟩) st hu⟩, fun G2 H2 s2 => k G2 H2 (st.trans s2)⟩⟩⟩⟩
theorem body_affectsX (q : spPA K Cp Ca vs H Q E) : t_affectsX K (wE E) sp1 sp2 (spNA K Ca) (spNP K Cp) (ends Q) (L2.start ["patch", "path"] vs) H := by
  obtain ⟨G, C, s, ⟨v, u, rfl, ⟨rfl, h⟩ | ⟨rfl, h, hu⟩⟩, k⟩ := q
  · exact ⟨v, rfl, G, s, .inr ⟨⟨v, rfl, h⟩, k⟩⟩
  · exact ⟨v, rfl, G, s, .inl ⟨⟨v, rfl, h⟩, fun G' H' st => ⟨u, rfl, G', C, st.sub, ⟨rfl, u, rfl, NotPaV.step (c := ⟨K, none⟩) st hu⟩, fun G2 H2 s2 => k G2 H2 (st.trans s2)⟩⟩⟩
theorem body_normalX (q : spP1 K Cp vs H Q E) : t_normal_formX K (wE E) sp1 sp2 (spNP K Cp) (ends Q) (L2.start ["patch"] vs) H := by
  obtain ⟨G, C, s, ⟨rfl, v, rfl, h⟩, k⟩ := q
  exact ⟨v, rfl, G, s, .inr ⟨⟨v, rfl, h⟩, k⟩⟩
theorem body_idemX (q : spP1 K Cp vs H Q E) : t_idempotentX K (wE E) sp1 sp2 (spNP K Cp) (ends Q) (L2.start ["patch", "form"] vs) H := by
  obtain ⟨G, C, s, ⟨rfl, v, rfl, h⟩, k⟩ := q
  exact ⟨v, rfl, G, s, .inr ⟨⟨v, rfl, h⟩, k⟩⟩
theorem body_fixedX (q : spP1 K Cp vs H Q E) : t_fixedX K (wE E) sp1 sp2 sp3 (spNP K Cp) (ends Q) (L2.start ["patch", "found"] vs) H := by
  obtain ⟨G, C, s, ⟨rfl, v, rfl, h⟩, k⟩ := q
  exact ⟨v, rfl, G, s, .inr ⟨⟨v, rfl, h⟩, k⟩⟩
theorem body_bothX (q : spPP K Cp vs H Q E) : t_need_bothX K (wE E) (spNP K Cp) (ends Q) (L2.start ["patch", "other"] vs) H := by
  obtain ⟨G, C, s, ⟨rfl, v, u, rfl, h | ⟨h, hu⟩⟩, k⟩ := q
  · exact ⟨v, rfl, G, s, .inr ⟨⟨v, rfl, h⟩, k⟩⟩
  · exact ⟨v, rfl, G, s, .inl ⟨⟨v, rfl, h⟩, fun G' H' st => ⟨u, rfl, G', st.sub, .inr ⟨⟨u, rfl, NotPtV.step (c := ⟨K, none⟩) st hu⟩, fun G2 H2 s2 => k G2 H2 (st.trans s2)⟩⟩⟩⟩
theorem body_diffX (q : spPP K Cp vs H Q E) : t_differenceX K (wE E) sp1 sp2 sp3 (spPP K Cp) (ends Q) (L2.start ["patch", "other", "found"] vs) H := by
  obtain ⟨G, C, s, ⟨rfl, v, u, rfl, h⟩, k⟩ := q
  exact ⟨v, rfl, u, rfl, G, C, s, ⟨rfl, v, u, rfl, h⟩, k⟩
theorem body_commX (q : spPP K Cp vs H Q E) : t_commuteX K (wE E) sp1 sp2 (spPP K Cp) (ends Q) (L2.start ["patch", "other", "one", "two"] vs) H := by
  obtain ⟨G, C, s, ⟨rfl, v, u, rfl, h⟩, k⟩ := q
  exact ⟨v, rfl, u, rfl, G, C, s, ⟨rfl, v, u, rfl, h⟩, k⟩
theorem body_absX (q : spPP K Cp vs H Q E) : t_absorbsX K (wE E) sp1 sp2 (spPP K Cp) (ends Q) (L2.start ["patch", "other", "form"] vs) H := by
  obtain ⟨G, C, s, ⟨rfl, v, u, rfl, h⟩, k⟩ := q
  exact ⟨v, rfl, u, rfl, G, C, s, ⟨rfl, v, u, rfl, h⟩, k⟩
theorem body_changesX (q : spSS K Cs vs H Q E) : t_changesX K (wE E) sp1 (spNS K Cs) (ends Q) (L2.start ["before", "after"] vs) H := by
  obtain ⟨G, C, s, ⟨rfl, v, u, rfl, h | ⟨h, hu⟩⟩, k⟩ := q
  · exact ⟨v, rfl, G, s, .inr ⟨⟨v, rfl, h⟩, k⟩⟩
  · exact ⟨v, rfl, G, s, .inl ⟨⟨v, rfl, h⟩, fun G' H' st => ⟨u, rfl, G', st.sub, .inr ⟨⟨u, rfl, NotStV.step (c := ⟨K, none⟩) st hu⟩, fun G2 H2 s2 => k G2 H2 (st.trans s2)⟩⟩⟩⟩
theorem body_touchedX (q : spSS K Cs vs H Q E) : t_touchedX K (wE E) sp1 sp2 (spNS K Cs) (ends Q) (L2.start ["before", "after"] vs) H := by
  obtain ⟨G, C, s, ⟨rfl, v, u, rfl, h | ⟨h, hu⟩⟩, k⟩ := q
  · exact ⟨v, rfl, G, s, .inr ⟨⟨v, rfl, h⟩, k⟩⟩
  · exact ⟨v, rfl, G, s, .inl ⟨⟨v, rfl, h⟩, fun G' H' st => ⟨u, rfl, G', st.sub, .inr ⟨⟨u, rfl, NotStV.step (c := ⟨K, none⟩) st hu⟩, fun G2 H2 s2 => k G2 H2 (st.trans s2)⟩⟩⟩⟩
theorem body_statesX (q : spSsl K Cs vs H Q E) : t_need_statesX K (wE E) (spNS K Cs) (ends Q) (L2.start ["states", "state"] vs) H := by
  obtain ⟨G, C, s, ⟨rfl, l, v, u, w, rfl, hl, gl, h⟩, k⟩ := q
  show tFor _ _ _ _ [some (.ref l), none] H
  have uq : ∀ {H'} {i : Nat} {x : V}, H' l = some (.lst [v, u, w]) → (∀ xs, SqL K H' l xs → xs[i]? = some x) → [v, u, w][i]? = some x := fun hl z => z _ (SqL.of hl)
  refine ⟨.ref l, rfl, .inl ⟨l, rfl, ⟨_, SqL.of hl⟩, fun i m σ' H' => ∃ G', Step ⟨K, none⟩ G H G' H' ∧ (∃ z, σ' = [some (.ref l), z]) ∧ ((i = 0 ∧ m = 2) ∨ (i = 1 ∧ m = 1 ∧ StateV K G v ∧ NotStV K G H u)), ⟨2, G, .refl s, ⟨_, rfl⟩, .inl ⟨rfl, rfl⟩⟩, ?_⟩⟩
  rintro i m σ' H' ⟨G', st, ⟨z, rfl⟩, hi⟩
  have hl' : H' l = some (.lst [v, u, w]) := st.keep l _ (fun ⟨q, e⟩ => by cases e) gl hl
  refine .inr ⟨?_, fun σ2 H2 => i = 0 ∧ (∃ G2, Step ⟨K, none⟩ G H G2 H2 ∧ (∃ z, σ2 = [some (.ref l), z]) ∧ (StateV K G v ∧ NotStV K G H u)), fun σ2 H2 ⟨e, G2, s2, e2, h2⟩ => ?_, fun x H2 ⟨eH, y⟩ => ?_⟩
  · rcases hi with ⟨rfl, rfl⟩ | ⟨rfl, rfl, _⟩
    · exact ⟨_, v, SqL.of hl', rfl⟩
    · exact ⟨_, u, SqL.of hl', rfl⟩
  · subst e
    have em : m = 2 := by rcases hi with ⟨_, e⟩ | ⟨e, _⟩ <;> omega
    subst em
    exact ⟨1, by omega, G2, s2, e2, .inr ⟨rfl, rfl, h2.1, h2.2⟩⟩
  · subst eH
    have y := uq hl' y
    rcases hi with ⟨rfl, rfl⟩ | ⟨rfl, rfl, h1, h2⟩
    · have y : v = x := by simpa using y
      subst y
      rcases h with h | ⟨h, hu⟩
      · exact ⟨v, rfl, G', st.sub, .inr ⟨⟨v, rfl, NotStV.step (c := ⟨K, none⟩) st h⟩, fun G2 H2 s2 => k G2 H2 (st.trans s2)⟩⟩
      · exact ⟨v, rfl, G', st.sub, .inl ⟨⟨v, rfl, StateV.step (c := ⟨K, none⟩) st h⟩, fun G2 H2 s2 => ⟨rfl, G2, st.trans s2, ⟨_, rfl⟩, h, hu⟩⟩⟩
    · have y : u = x := by simpa using y
      subst y
      exact ⟨u, rfl, G', st.sub, .inr ⟨⟨u, rfl, NotStV.step (c := ⟨K, none⟩) st h2⟩, fun G2 H2 s2 => k G2 H2 (st.trans s2)⟩⟩
theorem states_of {v u w : V} {G : Hp} (s : Sub ⟨K, none⟩ G H) (h : NotStV K G H v ∨ (StateV K G v ∧ NotStV K G H u)) (k : ∀ G' H', Step ⟨K, none⟩ G H G' H' → E (.ref Cs) none H') {q : Addr} (hq : H q = none) : spSsl K Cs [.ref q] (upd H q (.lst [v, u, w])) Q E := by
  have st := Step.tmp (o := .lst [v, u, w]) s hq
  exact ⟨G, Cs, st.sub, ⟨rfl, q, v, u, w, rfl, upd_same, s.free hq, h.imp (fun h => NotStV.step (c := ⟨K, none⟩) st h) fun h => ⟨h.1, NotStV.step (c := ⟨K, none⟩) st h.2⟩⟩, fun G' H' s2 => k G' H' (st.trans s2)⟩
theorem body_conflX (q : spSSS K Cs vs H Q E) : t_conflictsX K (wE E) sp1 (spSsl K Cs) (ends Q) (L2.start ["base", "left", "right"] vs) H := by
  obtain ⟨G, C, s, ⟨rfl, v, u, w, rfl, h⟩, k⟩ := q
  exact ⟨v, rfl, u, rfl, w, rfl, by simp [sizeLine_eq], fun q hq => states_of s h k hq⟩
theorem body_mergeX {Cc : Addr} (q : spSSS K Cs vs H Q E) : t_merge3X K Cc (wE E) sp1 sp2 (spSsl K Cs) (ends Q) (L2.start ["base", "left", "right", "result", "paths"] vs) H := by
  obtain ⟨G, C, s, ⟨rfl, v, u, w, rfl, h⟩, k⟩ := q
  exact ⟨v, rfl, u, rfl, w, rfl, by simp [sizeLine_eq], fun q hq => states_of s h k hq⟩
end
end Mp
set_option maxRecDepth 100000
set_option maxHeartbeats 4000000
namespace Mp
open PySem L2
def t__law_which (K : PySem.W.Frag) (C_InvalidFormat : Addr) (C_NothingToRedo : Addr) (C_NothingToUndo : Addr) (C_Conflict : Addr) (C_InvalidPatch : Addr) (C_InvalidPath : Addr) (C_InvalidState : Addr) (D a : Addr) : TS :=
  (tSeq (tAsg (tLst (tCons (tCB (rIsE K D a) (tCons (tVar 0) (tCons (tC (.ref C_InvalidState)) tNil))) (tCons (tCB (rIsE K D a) (tCons (tVar 0) (tCons (tC (.ref C_InvalidPath)) tNil))) tNil))) (gName 1))
    (tSeq (tDrop (tBM K "list" rExtend (tVar 1) (tCons (tLst (tCons (tCB (rIsE K D a) (tCons (tVar 0) (tCons (tC (.ref C_InvalidPatch)) tNil))) tNil)) tNil)))
    (tSeq (tDrop (tBM K "list" rExtend (tVar 1) (tCons (tLst (tCons (tCB (rIsE K D a) (tCons (tVar 0) (tCons (tC (.ref C_Conflict)) tNil))) (tCons (tCB (rIsE K D a) (tCons (tVar 0) (tCons (tC (.ref C_NothingToUndo)) tNil))) tNil))) tNil)))
    (tSeq (tDrop (tBM K "list" rExtend (tVar 1) (tCons (tLst (tCons (tCB (rIsE K D a) (tCons (tVar 0) (tCons (tC (.ref C_NothingToRedo)) tNil))) tNil)) tNil)))
    (tSeq (tDrop (tBM K "list" rAppend (tVar 1) (tCons (tCB (rIsE K D a) (tCons (tVar 0) (tCons (tC (.ref C_InvalidFormat)) tNil))) tNil)))
    (tSeq (tIfS (tOr (tTest (tOp (rNeX K) (tBM K "list" (rCntB K) (tVar 1) (tCons (tC (.bl true)) tNil)) (tC (.int 1)))) (tNot (tB (tCB (rIsE K D a) (tCons (tVar 0) (tCons (tC (.ty "ValueError")) tNil)))))) (tRet (tTupF (tCons (tC (.str "raised")) (tCons (tUn (rU fun i => .int (-i)) (tC (.int 1))) tNil)))) tNext)
    (tRet (tTupF (tCons (tC (.str "raised")) (tCons (tBM K "list" (rIndex K) (tVar 1) (tCons (tC (.bl true)) tNil)) tNil))))))))))
end Mp
set_option maxRecDepth 100000
set_option maxHeartbeats 4000000
namespace Mp
open PySem L2
local macro_rules | `(tactic| walk_at "s") => `(tactic| first
  | with_reducible refine ds_seq ?_
  | with_reducible refine ds_ret ?_
  | with_reducible refine ds_if ?_
  | with_reducible refine ds_asg ?_
  | with_reducible refine ds_drop ?_
  | with_reducible refine ds_next ?_
  | with_reducible refine ds_retN ?_
  | with_reducible refine then_nx ?_
  | with_reducible refine then_rt ?_
  | with_reducible refine gives_rt ?_
  | with_reducible refine gives_nx
  | with_reducible refine dt_not ?_
  | with_reducible refine dt_test ?_
  | with_reducible refine dt_B ?_
  | with_reducible refine dt_and ?_
  | with_reducible refine dt_or ?_
  | with_reducible refine dt_yes ?_
  | with_reducible refine ex_bl ?_
  | with_reducible refine ex_ii ?_
  | ((with_reducible show DE _ (tVar _) _ _); refine de_var rfl ?_)
  | with_reducible refine de_int ?_
  | with_reducible refine de_str ?_
  | with_reducible refine de_bl ?_
  | with_reducible refine de_non ?_
  | with_reducible refine de_sub ?_
  | with_reducible refine de_eq ?_
  | with_reducible refine de_ne ?_
  | with_reducible refine de_in ?_
  | with_reducible refine de_add ?_
  | with_reducible refine de_subI ?_
  | with_reducible refine de_lt ?_
  | with_reducible refine de_le ?_
  | with_reducible refine de_gt ?_
  | with_reducible refine de_ge ?_
  | with_reducible refine de_neg ?_
  | with_reducible refine de_isN ?_
  | with_reducible refine de_notN ?_
  | with_reducible refine de_chainII ?_
  | with_reducible refine de_len ?_
  | with_reducible refine de_isi .str rfl ?_
  | with_reducible refine de_isi .int rfl ?_
  | with_reducible refine de_isi .bool rfl ?_
  | with_reducible refine de_isi .dict rfl ?_
  | with_reducible refine de_isi .tuple rfl ?_
  | with_reducible refine de_isi .list rfl ?_
  | with_reducible refine de_all ?_
  | with_reducible refine de_sum ?_
  | with_reducible refine de_if ?_
  | with_reducible refine de_andV ?_
  | with_reducible refine de_orV ?_
  | with_reducible refine de_notV ?_
  | with_reducible refine de_tuple ?_
  | with_reducible refine de_get1 ?_
  | with_reducible refine de_get2 ?_
  | with_reducible refine de_tup0 ?_
  | with_reducible refine de_tup1 ?_
  | with_reducible refine de_tup2 ?_
  | with_reducible refine de_tup3 ?_
  | with_reducible refine de_tup4 ?_
  | with_reducible refine de_tup ?_
  | with_reducible refine de_isB ?_
  | with_reducible refine de_notB ?_
  | ((with_reducible show DE _ (tCall (SpT _ _) _ _ _) _ _); refine de_ct rfl rfl ?_)
  | with_reducible refine de_call ?_
  | with_reducible refine da_nil ?_
  | with_reducible refine da_cons ?_)
section
variable {K : PySem.W.Frag}
def whB (i : Nat) : List Bool := [0 == i, 1 == i, 2 == i, 3 == i, 4 == i, 5 == i, 6 == i]
theorem whB_count {i : Nat} (h : i < 7) : (whB i).count true = 1 := by
  match i, h with
  | 0, _ => rfl
  | 1, _ => rfl
  | 2, _ => rfl
  | 3, _ => rfl
  | 4, _ => rfl
  | 5, _ => rfl
  | 6, _ => rfl
theorem whB_at {i : Nat} (h : i < 7) : (whB i)[i]? = some true ∧ ∀ m, m < i → (whB i)[m]? ≠ some true := by
  match i, h with
  | 0, _ => exact ⟨rfl, by omega⟩
  | 1, _ => exact ⟨rfl, by decide⟩
  | 2, _ => exact ⟨rfl, by decide⟩
  | 3, _ => exact ⟨rfl, by decide⟩
  | 4, _ => exact ⟨rfl, by decide⟩
  | 5, _ => exact ⟨rfl, by decide⟩
  | 6, _ => exact ⟨rfl, by decide⟩
theorem ref_only {C : Addr} : ∀ w, RelV (.ref C) w → w = .ref C := fun w h => h
theorem p_which {c0 c1 c2 c3 c4 c5 c6 D a : Addr} {i : Nat} (h : WhOk K [c0, c1, c2, c3, c4, c5, c6] D i) : DS ⟨K, none⟩ (t__law_which K c6 c5 c4 c3 c2 c1 c0 D a) [.raw (.ref a), .un] (Gives (raisedD i)) := by
  unfold t__law_which
  have is : ∀ (j : Nat) {C : Addr} {δ : List Sl} {P : Mp.D → Prop}, [c0, c1, c2, c3, c4, c5, c6][j]? = some C → δ[0]? = some (.raw (.ref a)) → P (.bl (j == i)) → DE ⟨K, none⟩ (tCB (rIsE K D a) (tCons (tVar 0) (tCons (tC (.ref C)) tNil))) δ P := fun j {C δ P} hj h0 p => de_isE (c := ⟨K, none⟩) h0 ref_only (h.kit j C hj) p
  refine ds_seq (ds_asgN (dn_lst (da_cons (is 0 rfl rfl (da_cons (is 1 rfl rfl (da_nil ⟨[_, _], rfl, by simp, then_nx ?_⟩)))))))
  refine ds_seq (ds_extend rfl (dn_lst (da_cons (is 2 rfl rfl (da_nil ⟨[_], rfl, by simp, _, rfl, by simp, then_nx ?_⟩)))))
  refine ds_seq (ds_extend rfl (dn_lst (da_cons (is 3 rfl rfl (da_cons (is 4 rfl rfl (da_nil ⟨[_, _], rfl, by simp, _, rfl, by simp, then_nx ?_⟩)))))))
  refine ds_seq (ds_extend rfl (dn_lst (da_cons (is 5 rfl rfl (da_nil ⟨[_], rfl, by simp, _, rfl, by simp, then_nx ?_⟩)))))
  refine ds_seq (ds_append rfl (by simp) (is 6 rfl rfl (then_nx ?_)))
  show DS _ _ [.raw (.ref a), .own (.lst ((whB i).map Mp.D.bl))] _
  have e : ∀ {δ : List Sl} {P : Mp.D → Prop}, δ[0]? = some (.raw (.ref a)) → P (.bl true) → DE ⟨K, none⟩ (tCB (rIsE K D a) (tCons (tVar 0) (tCons (tC (.ty "ValueError")) tNil))) δ P := fun {δ P} h0 p => de_isE (c := ⟨K, none⟩) h0 (fun w h => h) h.ve p
  refine ds_seq (ds_if (dt_or (dt_test (de_ne (de_countB rfl (de_int ⟨Nat.zero_le _, _, rfl, ?_⟩))))))
  rw [whB_count h.lt]
  refine it_f (by decide) (dt_not (dt_B (e rfl ⟨_, rfl, it_f rfl (ds_next (then_nx ?_))⟩)))
  obtain ⟨h1, h2⟩ := whB_at h.lt
  exact ds_ret (de_tup2 (de_str (de_indexB rfl h1 h2 (gives_rt rfl))))
end
section
variable {P : Program} {w : World} {K : PySem.W.Frag} {mg : Str → Option Value} {base : Heap}
theorem which_body {Cs : List Addr} {N : List Str} {p : Addr × Obj} {vs : List V} {H : Hp} {Q : VK} {E : XK} {c0 c1 c2 c3 c4 c5 c6 : Addr} (hC : Cs = [c0, c1, c2, c3, c4, c5, c6]) (q : spWhP K Cs p vs H Q E) :
    ∃ D, ExcC K D ∧ Zc (.ref D) none p.2 ∧ (∃ xs, p.2.data = .fields xs) ∧ (t__law_which K c6 c5 c4 c3 c2 c1 c0 D p.1) { nx := fun _ H' => Q .non H', rt := Q } (L2.start ["error", "own"] vs) H := by
  obtain ⟨hf, D, i, G, hc, hd, ok, rfl, s, k⟩ := q
  subst hC
  refine ⟨D, ok.ex, ⟨hc, hd⟩, hf, ?_⟩
  refine p_which ok G H G H _ _ ⟨s, .refl s⟩ ?_ fun o G' H' p' st l => ?_
  · show EnvOk _ _ _ _ [some (.ref p.1), none] _
    refine ⟨rfl, fun i d h => ?_, fun i d h => ?_, fun i v h => ?_, fun i j d e r ne h => ?_⟩
    · match i, h with
      | 0, h => cases h
      | 1, h => cases h
    · match i, h with
      | 0, h => cases h
      | 1, h => cases h
    · match i, h with
      | 0, h => cases h; rfl
      | 1, h => cases h
    · match i, h with
      | 0, h => cases h
      | 1, h => cases h
  · cases o with
    | rt d =>
      have p' : d = raisedD i := p'
      subst p'
      exact fun v hv => k v G' H' st hv
    | nx δ =>
      have p' : raisedD i = .non := p'
      cases p'
    | bk δ => exact False.elim p'
    | ct δ => exact False.elim p'
end
section
variable {K : PySem.W.Frag} {W : WX}
def R_needAX (Ca : Addr) (ds : List D) (r : D ⊕ ExD) : Prop := ∃ d, ds = [d] ∧ pathOk d ∧ isPathD d = false ∧ r = .inr (.plain Ca)
theorem p_need_pathX {Ca : Addr} (W : WX) (ds : List D) (o : D ⊕ ExD) (h : R_needAX Ca ds o) : DSX ⟨K, none⟩ W (t_need_pathX K Ca W (SpP K R_is_text)) (slots ["value", "key"] ds) (GivesO o) (RaisesO o) := by
  obtain ⟨d, rfl, hk, hp, rfl⟩ := h
  show DSX _ _ _ [.dat d, .un] _ _
  unfold t_need_pathX
  suffices DT ⟨K, none⟩ (tOr (tNot (tB (tCB (rIsi K) (tCons (tVar 0) (tCons (tC (.ty "tuple")) tNil))))) (tOr (tTest (tOp (rI0 fun i j => .bl (decide (j < i))) (tCB (rLenX K) (tCons (tVar 0) tNil)) (tC (.int 6)))) (tNot (tB (tCB (rAll K) (tCons (tLc (iAny K (tVar 0)) (gName 1) tYes (tCall (SpP K R_is_text) [] E0 (tCons (tVar 1) (tCons (tC (.int 1)) tNil))) [1]) tNil)))))) [.dat d, .un] fun b => b = true from
    dsx_if (this.imp fun x e => by subst e; exact it_t rfl (dsx_raise0 rfl))
  repeat walk_at "s"
  cases d with
  | tup xs =>
    refine it_f rfl ?_
    repeat walk_at "s"
    refine ⟨xs.length, rfl, ?_⟩
    repeat walk_at "s"
    refine it_c (fun h2 => ?_) fun h2 => ?_
    · rfl
    · have h6 : xs.length ≤ 6 := by simp at h2; omega
      repeat walk_at "s"
      refine (dn_lcM (js := [1]) (fun d => .bl (isTextD d 1)) (by simp) (di_any ?_)).de
      repeat walk_at "s"
      refine ⟨_, rfl, Nat.le_of_lt (small1000 (by omega)), fun i d hd => ?_, ?_⟩
      · refine dg_name ?_
        repeat walk_at "s"
        exact ⟨[d, .int 1], _, rfl, ⟨d, 1, rfl, fun s e => hk.2 d (List.mem_of_getElem? hd) s e, rfl⟩, rfl⟩
      · refine ⟨xs.map fun x => isTextD x 1, by rw [List.map_map]; rfl, ?_⟩
        repeat walk_at "s"
        have : (xs.map fun x => isTextD x 1).all id = false := by
          rw [List.all_map]
          simpa [isPathD, h6] using hp
        rw [this]; rfl
  | _ => exact it_t rfl rfl
end
/-! ### _law_ask -/
section
variable {K : PySem.W.Frag} {Cs : List Addr}
/-- what is asked: the arguments, and the class that is raised -/
def AskV (K : PySem.W.Frag) (Ci Ca Cp : Addr) (w : Int) (v u : V) (G H : Hp) (C : Addr) (n : Nat) : Prop :=
  (C = Cp ∧ n = 2 ∧ 0 ≤ w ∧ w < 9 ∧ NotPtV K G v) ∨ (C = Cp ∧ n = 2 ∧ 6 ≤ w ∧ w < 9 ∧ PatchV K G v ∧ NotPtV K G u) ∨ (C = Ci ∧ n = 0 ∧ (w = 3 ∨ w = 4) ∧ PatchV K G v ∧ NotStV K G H u) ∨ (C = Ca ∧ n = 1 ∧ w = 5 ∧ PatchV K G v ∧ NotPaV K G u) ∨
  (C = Ci ∧ n = 0 ∧ 9 ≤ w ∧ w < 15 ∧ NotStV K G H v) ∨ (C = Ci ∧ n = 0 ∧ (w = 10 ∨ w = 11 ∨ w = 13 ∨ w = 14) ∧ StateV K G v ∧ NotStV K G H u) ∨ (C = Ca ∧ n = 1 ∧ w = 9 ∧ StateV K G v ∧ NotPaV K G u)
theorem AskV.step {c : Cn} {Ci Ca Cp : Addr} {w : Int} {v u : V} {G H G1 H1 : Hp} {C : Addr} {n : Nat} (s : Step c G H G1 H1) (h : AskV c.K Ci Ca Cp w v u G H C n) : AskV c.K Ci Ca Cp w v u G1 H1 C n := by
  rcases h with ⟨h1, h2, h3, h4, h5⟩ | ⟨h1, h2, h3, h4, h5, h6⟩ | ⟨h1, h2, h3, h4, h5⟩ | ⟨h1, h2, h3, h4, h5⟩ | ⟨h1, h2, h3, h4, h5⟩ | ⟨h1, h2, h3, h4, h5⟩ | ⟨h1, h2, h3, h4, h5⟩
  · exact .inl ⟨h1, h2, h3, h4, h5.step s⟩
  · exact .inr (.inl ⟨h1, h2, h3, h4, h5.step s, h6.step s⟩)
  · exact .inr (.inr (.inl ⟨h1, h2, h3, h4.step s, h5.step s⟩))
  · exact .inr (.inr (.inr (.inl ⟨h1, h2, h3, h4.step s, h5.step s⟩)))
  · exact .inr (.inr (.inr (.inr (.inl ⟨h1, h2, h3, h4, h5.step s⟩))))
  · exact .inr (.inr (.inr (.inr (.inr (.inl ⟨h1, h2, h3, h4.step s, h5.step s⟩)))))
  · exact .inr (.inr (.inr (.inr (.inr (.inr ⟨h1, h2, h3, h4.step s, h5.step s⟩)))))
def spAsk (K : PySem.W.Frag) (Ci Ca Cp : Addr) : Sp := fun vs H Q _ => ∃ (G : Hp) (w : Int) (v u : V) (C : Addr) (n : Nat), Sub ⟨K, none⟩ G H ∧ vs = [.int w, v, u] ∧ AskV K Ci Ca Cp w v u G H C n ∧ ∀ (x : V) (G' H' : Hp), Step ⟨K, none⟩ G H G' H' → Has K G' (raisedD n) x → Q x H'
/-- [f, ..][n](..) -/
theorem callD_run {cs : List (Addr × Sp)} {fs : List Addr} {f : Addr} {sp : Sp} {n : Nat} {te : TE} {t : TA} {us : List V} {σ : L2.St} {H G : Hp} {Q : VK} {E : L2.St → XK} (hl : fs.length ≤ 1000) (hf : fs[n]? = some f) (hm : (f, sp) ∈ cs) (s : Sub ⟨K, none⟩ G H)
    (hi : ∀ H' Q', Q' (.int n) H' → te σ H' Q') (ha : ∀ H' Q', Q' us H' → t σ H' Q') (k : ∀ H', Step ⟨K, none⟩ G H G H' → sp us H' Q (E σ)) : tCallD cs E (tOp (rSub K) (tLst (tRefs fs)) te) t σ H Q := by
  refine tRefs_run ⟨by rw [List.length_map]; exact Nat.le_of_lt (small1000 hl), fun q hq => ?_⟩
  have st := Step.tmp (o := .lst (fs.map V.ref)) s hq
  refine hi _ _ ?_
  have e : L2.atI (fs.map V.ref) (n : Int) = some (.ref f) := by
    have hlt : n < fs.length := (List.getElem?_eq_some_iff.mp hf).1
    unfold L2.atI ixN
    rw [if_pos (by omega), if_pos (by rw [List.length_map]; omega)]
    show (fs.map V.ref)[(n : Int).toNat]? = _
    rw [Int.toNat_natCast, List.getElem?_map, hf]; rfl
  exact .inl (.inl ⟨q, fs.map V.ref, n, .ref f, rfl, rfl, SqL.of upd_same, e, _, hm, rfl, ha _ _ (k _ st)⟩)
end
end Mp
set_option maxRecDepth 100000
set_option maxHeartbeats 4000000
namespace Mp
open PySem L2
section
variable {K : PySem.W.Frag} {Cs : List Addr}
theorem ifLt {w m : Int} {σ : L2.St} {H : Hp} {D : Ends} {ta tb : TS} (h : σ[0]? = some (some (.int w))) (ht : w < m → ta D σ H) (hf : ¬ w < m → tb D σ H) : tIfS (tTest (tOp (rI0 fun i j => .bl (decide (i < j))) (tVar 0) (tC (.int m)))) ta tb D σ H := by
  refine ⟨.int w, h, w, m, rfl, rfl, _, rfl, ?_⟩
  by_cases q : w < m
  · simp only [q, decide_true, if_true]; exact ht q
  · simp only [q, decide_false, Bool.false_eq_true, if_false]; exact hf q
theorem eqI {w m : Int} {σ : L2.St} {G H : Hp} {Q : VK} (h : σ[0]? = some (some (.int w))) (s : Sub ⟨K, none⟩ G H) (k : ∀ G' H', Step ⟨K, none⟩ G H G' H' → Q (.bl (w == m)) H') : tOp (rEqX K) (tVar 0) (tC (.int m)) σ H Q := by
  refine ⟨.int w, h, ?_⟩
  have z : rEqX K (.int w) (.int m) H Q := dop_eq (c := ⟨K, none⟩) (.int w) (.int m) _ _ G H Q (fun d => d = .bl (w == m)) s (by unfold Has; rfl) (by unfold Has; rfl) ⟨Nat.zero_le _, by rw [D.eqv]⟩ fun d x G1 H1 p st hx => by
    subst p
    unfold Has at hx
    subst hx
    exact k G1 H1 st
  exact z
/-- the classes that _law_ask catches -/
structure AskC (K : PySem.W.Frag) (Cs : List Addr) (C0 Ci Ca Cp : Addr) : Prop where
  mi : PySem.W.exmOne K (.ref Ci) (.ref C0) = some true
  ma : PySem.W.exmOne K (.ref Ca) (.ref C0) = some true
  mp : PySem.W.exmOne K (.ref Cp) (.ref C0) = some true
  wi : WhOk K Cs Ci 0
  wa : WhOk K Cs Ca 1
  wp : WhOk K Cs Cp 2
theorem body_ask {C0 Ci Ca Cp f1 f2 f3 f4 f5 f6 f7 f8 f9 f10 f11 f12 f13 f14 : Addr} {vs : List V} {H : Hp} {Q : VK} {E : XK} (cl : AskC K Cs C0 Ci Ca Cp) (q : spAsk K Ci Ca Cp vs H Q E) :
    t__law_ask K C0 Cs f1 f2 f3 f4 f5 f6 f7 f8 f9 f10 f11 f12 f13 f14 (spSSS K Ci) (spSSS K Ci) (spSA K Ci Ca) (spSS K Ci) (spSS K Ci) (spPS K Cp Ci) (spPS K Cp Ci) (spPA K Cp Ca) (spPP K Cp) (spPP K Cp) (spPP K Cp) (spP1 K Cp) (spP1 K Cp) (spP1 K Cp) (spS1 K Ci)
      (ends Q) (L2.start ["what", "one", "other", "error"] vs) H := by
  obtain ⟨G, w, v, u, C, n, s, rfl, hA, k⟩ := q
  show t__law_ask K C0 Cs f1 f2 f3 f4 f5 f6 f7 f8 f9 f10 f11 f12 f13 f14 _ _ _ _ _ _ _ _ _ _ _ _ _ _ _ _ [some (.int w), some v, some u, none] H
  have hc : PySem.W.exmOne K (.ref C) (.ref C0) = some true ∧ WhOk K Cs C n := by
    rcases hA with ⟨rfl, rfl, _⟩ | ⟨rfl, rfl, _⟩ | ⟨rfl, rfl, _⟩ | ⟨rfl, rfl, _⟩ | ⟨rfl, rfl, _⟩ | ⟨rfl, rfl, _⟩ | ⟨rfl, rfl, _⟩
    · exact ⟨cl.mp, cl.wp⟩
    · exact ⟨cl.mp, cl.wp⟩
    · exact ⟨cl.mi, cl.wi⟩
    · exact ⟨cl.ma, cl.wa⟩
    · exact ⟨cl.mi, cl.wi⟩
    · exact ⟨cl.mi, cl.wi⟩
    · exact ⟨cl.ma, cl.wa⟩
  have sb : ∀ {sp : Sp} {Bad : Addr → Hp → Hp → List V → Prop} {us : List V} {Q' : VK} {E' : XK} {H' : Hp}, Step ⟨K, none⟩ G H G H' → Bad C G H' us → (∀ G2 H2, Step ⟨K, none⟩ G H G2 H2 → E' (.ref C) none H2) → spB K Bad us H' Q' E' := fun st hb kx => ⟨G, C, st.sub, hb, fun G2 H2 s2 => kx G2 H2 (st.trans s2)⟩
  unfold t__law_ask tTryAs
  generalize hW : wAs K (.ref C0) 3 (fun a cls d => tRet (tCallE (spWh K Cs a cls d) E0 (tCons (tVar 3) tNil))) (fun _ _ _ _ => False) (ends Q) = W
  have raise : ∀ G' H', Step ⟨K, none⟩ G H G' H' → W (.ref C) none [some (.int w), some v, some u, none] H' := fun G' H' st => by
    subst hW
    exact ⟨true, hc.1, fun _ a ha => ⟨.ref a, rfl, C, n, G', rfl, rfl, hc.2, rfl, st.sub, fun x G2 H2 s2 hx => k x G2 H2 (st.trans s2) hx⟩, fun z => nomatch z⟩
  have ix : ∀ {m : Int} {j : Nat} {H' : Hp} {Q' : VK}, w - m = j → Q' (.int j) H' → tOp (rI0 fun i j => .int (i - j)) (tVar 0) (tC (.int m)) [some (.int w), some v, some u, none] H' Q' := fun {m j H' Q'} e h => by
    refine ⟨.int w, rfl, w, m, rfl, rfl, ?_⟩
    show Q' (.int (w - m)) H'
    rw [e]; exact h
  refine ifLt (w := w) rfl (fun h3 => ?_) fun h3 => ifLt (w := w) rfl (fun h9 => ?_) fun h9 => ifLt (w := w) rfl (fun h12 => ?_) fun h12 => ?_
  · obtain ⟨h0, rfl, hv⟩ : 0 ≤ w ∧ C = Cp ∧ NotPtV K G v := by
      rcases hA with ⟨e, _, h, _, hv⟩ | ⟨_, _, h, _⟩ | ⟨_, _, h, _⟩ | ⟨_, _, h, _⟩ | ⟨_, _, h, _⟩ | ⟨_, _, h, _⟩ | ⟨_, _, h, _⟩ <;> first | exact ⟨h, e, hv⟩ | (exfalso; omega)
    have go : ∀ (j : Nat) {f : Addr}, w = j → [f12, f13, f14][j]? = some f → (f, spP1 K C) ∈ [(f12, spP1 K C), (f13, spP1 K C), (f14, spP1 K C)] → _ := fun j {f} e h1 h2 => callD_run (K := K) (cs := [(f12, spP1 K C), (f13, spP1 K C), (f14, spP1 K C)]) (te := tVar 0) (t := tCons (tVar 1) tNil) (us := [v]) (σ := [some (.int w), some v, some u, none]) (Q := Q) (E := WE W) (by simp) h1 h2 s (fun H' Q' h => ⟨.int w, rfl, by rw [e]; exact h⟩) (fun H' Q' h => ⟨v, rfl, h⟩) fun H' st => ⟨G, C, st.sub, ⟨rfl, v, rfl, hv⟩, fun G2 H2 s2 => raise G2 H2 (st.trans s2)⟩
    rcases (by omega : w = 0 ∨ w = 1 ∨ w = 2) with e | e | e
    · exact go 0 e rfl (by simp)
    · exact go 1 e rfl (by simp)
    · exact go 2 e rfl (by simp)
  · have go : ∀ (j : Nat) {f : Addr} {sp : Sp}, w - 3 = j → [f6, f7, f8, f9, f10, f11][j]? = some f → (f, sp) ∈ [(f6, spPS K Cp Ci), (f7, spPS K Cp Ci), (f8, spPA K Cp Ca), (f9, spPP K Cp), (f10, spPP K Cp), (f11, spPP K Cp)] →
        (∀ H', Step ⟨K, none⟩ G H G H' → sp [v, u] H' Q (WE W [some (.int w), some v, some u, none])) → _ := fun j {f sp} e h1 h2 kk => callD_run (K := K) (cs := [(f6, spPS K Cp Ci), (f7, spPS K Cp Ci), (f8, spPA K Cp Ca), (f9, spPP K Cp), (f10, spPP K Cp), (f11, spPP K Cp)]) (te := tOp (rI0 fun i j => .int (i - j)) (tVar 0) (tC (.int 3))) (t := tCons (tVar 1) (tCons (tVar 2) tNil)) (us := [v, u]) (σ := [some (.int w), some v, some u, none]) (Q := Q) (E := WE W) (by simp) h1 h2 s (fun H' Q' h => ix e h) (fun H' Q' h => ⟨v, rfl, u, rfl, h⟩) kk
    have ps : (w = 3 ∨ w = 4) → ∀ H', Step ⟨K, none⟩ G H G H' → spPS K Cp Ci [v, u] H' Q (WE W [some (.int w), some v, some u, none]) := fun hw H' st => by
      refine ⟨G, C, st.sub, ⟨v, u, rfl, ?_⟩, fun G2 H2 s2 => raise G2 H2 (st.trans s2)⟩
      rcases hA with ⟨e, _, _, _, hv⟩ | ⟨_, _, h, _⟩ | ⟨e, _, _, hv, hu⟩ | ⟨_, _, h, _⟩ | ⟨_, _, h, _⟩ | ⟨_, _, h, _⟩ | ⟨_, _, h, _⟩
      · exact .inl ⟨e, hv⟩
      · omega
      · exact .inr ⟨e, hv, NotStV.step (c := ⟨K, none⟩) st hu⟩
      all_goals (exfalso; omega)
    have pa : w = 5 → ∀ H', Step ⟨K, none⟩ G H G H' → spPA K Cp Ca [v, u] H' Q (WE W [some (.int w), some v, some u, none]) := fun hw H' st => by
      refine ⟨G, C, st.sub, ⟨v, u, rfl, ?_⟩, fun G2 H2 s2 => raise G2 H2 (st.trans s2)⟩
      rcases hA with ⟨e, _, _, _, hv⟩ | ⟨_, _, h, _⟩ | ⟨_, _, h, _⟩ | ⟨e, _, _, hv, hu⟩ | ⟨_, _, h, _⟩ | ⟨_, _, h, _⟩ | ⟨_, _, h, _⟩
      · exact .inl ⟨e, hv⟩
      · omega
      · omega
      · exact .inr ⟨e, hv, hu⟩
      all_goals (exfalso; omega)
    have pp : 6 ≤ w → ∀ H', Step ⟨K, none⟩ G H G H' → spPP K Cp [v, u] H' Q (WE W [some (.int w), some v, some u, none]) := fun hw H' st => by
      rcases hA with ⟨rfl, _, _, _, hv⟩ | ⟨rfl, _, _, _, hv, hu⟩ | ⟨_, _, h, _⟩ | ⟨_, _, h, _⟩ | ⟨_, _, h, _⟩ | ⟨_, _, h, _⟩ | ⟨_, _, h, _⟩
      · exact ⟨G, C, st.sub, ⟨rfl, v, u, rfl, .inl hv⟩, fun G2 H2 s2 => raise G2 H2 (st.trans s2)⟩
      · exact ⟨G, C, st.sub, ⟨rfl, v, u, rfl, .inr ⟨hv, hu⟩⟩, fun G2 H2 s2 => raise G2 H2 (st.trans s2)⟩
      all_goals (exfalso; omega)
    rcases (by omega : w = 3 ∨ w = 4 ∨ w = 5 ∨ w = 6 ∨ w = 7 ∨ w = 8) with e | e | e | e | e | e
    · exact go 0 (by omega) rfl (by simp) (ps (by omega))
    · exact go 1 (by omega) rfl (by simp) (ps (by omega))
    · exact go 2 (by omega) rfl (by simp) (pa (by omega))
    · exact go 3 (by omega) rfl (by simp) (pp (by omega))
    · exact go 4 (by omega) rfl (by simp) (pp (by omega))
    · exact go 5 (by omega) rfl (by simp) (pp (by omega))
  · have go : ∀ (j : Nat) {f : Addr} {sp : Sp}, w - 9 = j → [f3, f4, f5][j]? = some f → (f, sp) ∈ [(f3, spSA K Ci Ca), (f4, spSS K Ci), (f5, spSS K Ci)] →
        (∀ H', Step ⟨K, none⟩ G H G H' → sp [v, u] H' Q (WE W [some (.int w), some v, some u, none])) → _ := fun j {f sp} e h1 h2 kk => callD_run (K := K) (cs := [(f3, spSA K Ci Ca), (f4, spSS K Ci), (f5, spSS K Ci)]) (te := tOp (rI0 fun i j => .int (i - j)) (tVar 0) (tC (.int 9))) (t := tCons (tVar 1) (tCons (tVar 2) tNil)) (us := [v, u]) (σ := [some (.int w), some v, some u, none]) (Q := Q) (E := WE W) (by simp) h1 h2 s (fun H' Q' h => ix e h) (fun H' Q' h => ⟨v, rfl, u, rfl, h⟩) kk
    have sa : w = 9 → ∀ H', Step ⟨K, none⟩ G H G H' → spSA K Ci Ca [v, u] H' Q (WE W [some (.int w), some v, some u, none]) := fun hw H' st => by
      refine ⟨G, C, st.sub, ⟨v, u, rfl, ?_⟩, fun G2 H2 s2 => raise G2 H2 (st.trans s2)⟩
      rcases hA with ⟨_, _, _, h, _⟩ | ⟨_, _, _, h, _⟩ | ⟨_, _, h, _⟩ | ⟨_, _, h, _⟩ | ⟨e, _, _, _, hv⟩ | ⟨_, _, h, _⟩ | ⟨e, _, _, hv, hu⟩
      · omega
      · omega
      · omega
      · omega
      · exact .inl ⟨e, NotStV.step (c := ⟨K, none⟩) st hv⟩
      · omega
      · exact .inr ⟨e, hv, hu⟩
    have ss : (w = 10 ∨ w = 11) → ∀ H', Step ⟨K, none⟩ G H G H' → spSS K Ci [v, u] H' Q (WE W [some (.int w), some v, some u, none]) := fun hw H' st => by
      rcases hA with ⟨_, _, _, h, _⟩ | ⟨_, _, _, h, _⟩ | ⟨_, _, h, _⟩ | ⟨_, _, h, _⟩ | ⟨rfl, _, _, _, hv⟩ | ⟨rfl, _, h, hv, hu⟩ | ⟨_, _, h, _⟩
      · omega
      · omega
      · omega
      · omega
      · exact ⟨G, C, st.sub, ⟨rfl, v, u, rfl, .inl (NotStV.step (c := ⟨K, none⟩) st hv)⟩, fun G2 H2 s2 => raise G2 H2 (st.trans s2)⟩
      · exact ⟨G, C, st.sub, ⟨rfl, v, u, rfl, .inr ⟨hv, NotStV.step (c := ⟨K, none⟩) st hu⟩⟩, fun G2 H2 s2 => raise G2 H2 (st.trans s2)⟩
      · omega
    rcases (by omega : w = 9 ∨ w = 10 ∨ w = 11) with e | e | e
    · exact go 0 (by omega) rfl (by simp) (sa e)
    · exact go 1 (by omega) rfl (by simp) (ss (by omega))
    · exact go 2 (by omega) rfl (by simp) (ss (by omega))
  · have hw : 12 ≤ w ∧ w < 15 := by
      rcases hA with ⟨_, _, _, h, _⟩ | ⟨_, _, _, h, _⟩ | ⟨_, _, h, _⟩ | ⟨_, _, h, _⟩ | ⟨_, _, _, h, _⟩ | ⟨_, _, h, _⟩ | ⟨_, _, h, _⟩ <;> omega
    refine eqI (w := w) rfl s fun G1 H1 st => ?_
    refine ⟨_, rfl, ?_⟩
    have bad : (w = 13 ∨ w = 14) → C = Ci ∧ (NotStV K G1 H1 v ∨ (StateV K G1 v ∧ NotStV K G1 H1 u)) := fun hw => by
      rcases hA with ⟨_, _, _, h, _⟩ | ⟨_, _, _, h, _⟩ | ⟨_, _, h, _⟩ | ⟨_, _, h, _⟩ | ⟨rfl, _, _, _, hv⟩ | ⟨rfl, _, h, hv, hu⟩ | ⟨_, _, h, _⟩
      · omega
      · omega
      · omega
      · omega
      · exact ⟨rfl, .inl (NotStV.step (c := ⟨K, none⟩) st hv)⟩
      · exact ⟨rfl, .inr ⟨StateV.step (c := ⟨K, none⟩) st hv, NotStV.step (c := ⟨K, none⟩) st hu⟩⟩
      · omega
    by_cases e12 : w = 12
    · have e : (w == 12) = true := by simp [e12]
      rw [e]
      simp only [if_true]
      rcases hA with ⟨_, _, _, h, _⟩ | ⟨_, _, _, h, _⟩ | ⟨_, _, h, _⟩ | ⟨_, _, h, _⟩ | ⟨rfl, _, _, _, hv⟩ | ⟨_, _, h, _⟩ | ⟨_, _, h, _⟩
      · omega
      · omega
      · omega
      · omega
      · exact ⟨v, rfl, G1, C, st.sub, ⟨rfl, v, rfl, NotStV.step (c := ⟨K, none⟩) st hv⟩, fun G2 H2 s2 => raise G2 H2 (st.trans s2)⟩
      · omega
      · omega
    · have e : (w == 12) = false := by simp [e12]
      rw [e]
      simp only [Bool.false_eq_true, if_false]
      obtain ⟨rfl, hb⟩ := bad (by omega)
      have go : ∀ (j : Nat) {f : Addr}, w - 13 = j → [f1, f2][j]? = some f → (f, spSSS K C) ∈ [(f1, spSSS K C), (f2, spSSS K C)] → _ := fun j {f} e h1 h2 => callD_run (K := K) (cs := [(f1, spSSS K C), (f2, spSSS K C)]) (te := tOp (rI0 fun i j => .int (i - j)) (tVar 0) (tC (.int 13))) (t := tCons (tVar 1) (tCons (tVar 2) (tCons (tC .non) tNil))) (us := [v, u, .non]) (σ := [some (.int w), some v, some u, none]) (Q := Q) (E := WE W) (by simp) h1 h2 st.sub (fun H' Q' h => ix e h) (fun H' Q' h => ⟨v, rfl, u, rfl, h⟩)
          fun H' s2 => ⟨G1, C, s2.sub, ⟨rfl, v, u, .non, rfl, hb.imp (fun h => NotStV.step (c := ⟨K, none⟩) s2 h) fun h => ⟨h.1, NotStV.step (c := ⟨K, none⟩) s2 h.2⟩⟩, fun G2 H2 s3 => raise G2 H2 (st.trans (s2.trans s3))⟩
      rcases (by omega : w = 13 ∨ w = 14) with e | e
      · exact go 0 (by omega) rfl (by simp)
      · exact go 1 (by omega) rfl (by simp)
end
end Mp
set_option maxRecDepth 100000
set_option maxHeartbeats 4000000
namespace Mp
open PySem L2
/-! ### the bad patches and states -/
def chP : Nat → D
  | 0 => .tup [.str "keep"]
  | n + 1 => .tup [.str "chain", .tup [chP n]]
def inP : Nat → D
  | 0 => .tup [.str "keep"]
  | n + 1 => .tup [.str "inside", .dic [(.inr "a", inP n)]]
def nsS (b : D) : Nat → D
  | 0 => b
  | n + 1 => .dic [(.inr "a", nsS b n)]
def keepD : D := .tup [.str "keep"]
def letD (xs : List Str) (d : D) : D := .dic (xs.map fun x => (.inr x, d))
def abcg : List Str := ["a", "b", "c", "d", "e", "f", "g"]
def badPts : List D := [inP 7, .tup [.str "foo", .tup []], .non, .tup [], .str "keep", .lst [.str "keep"], .tup [.str "keep", .int 1], .tup [.str "drop", .int 1], .tup [.str "set"]] ++ [.tup [.str "set", .non]] ++
  [.tup [.str "set", .int 1000], .tup [.str "set", .int 1, .int 2], .tup [.str "default", .non], .tup [.str "keeps"]] ++
  [.tup [.str "merge"], .tup [.str "merge", .non], .tup [.str "merge", .dic [(.inr "a", .int 1)]], .tup [.str "merge", .dic [(.inr "A", keepD)]]] ++
  [.tup [.str "merge", .lst [.tup [.str "a", keepD]]], .tup [.str "inside", .dic [(.inr "a", .non)]]] ++
  [.tup [.str "chain", .tup [.str "keep"]], .tup [.str "chain", .lst [keepD]], .tup [.str "chain", .tup [keepD, keepD, keepD, keepD, keepD, keepD, keepD]]] ++
  [.tup [.str "chain", .non], .tup [.non], .tup [.int 5, .int 1], chP 7, .dic [(.inr "a", .int 1)]] ++ [.tup [.str "merge", letD abcg keepD]] ++ [.tup [.str "inside", .dic [(.inr "a", .tup [.str "merge", .dic [(.inr "b", .tup [.str "set", .bl true])]])]]]
def badSts : List D := [.bl true, .int 1000, .int (-1000), .str "A", .str "a b", .str "abcdefg", .lst [], .tup [], .tup [.str "a"], .dic [(.inr "a", .non)], .dic [(.inr "a", .bl true)]] ++
  [.dic [(.inr "A", .int 1)], .dic [(.inr "", .int 1)], .dic [(.inl 1, .int 1)], .dic [(.inr "abcdefg", .int 1)]] ++
  [.dic [(.inr "a", .dic [(.inr "b", .lst [.int 1])])], .dic [(.inr "a", .int 1000)], .dic [(.inr "a", .dic [(.inr "b", .dic [(.inr "c", .non)])])], nsS (.int 1) 6, letD abcg (.int 0)]
def keyB : Key → Bool
  | .inl _ => true
  | .inr s => decide (s.length ≤ 1000)
mutual
def D.wfB : D → Bool
  | .tup xs => decide (xs.length ≤ 1000) && D.wfBL xs
  | .lst xs => decide (xs.length ≤ 1000) && D.wfBL xs
  | .dic ks => decide (ks.length ≤ 1000) && (decide (ks.map (·.1)).Nodup && D.wfBK ks)
  | .str x => decide (x.length ≤ 1000)
  | _ => true
def D.wfBL : List D → Bool
  | [] => true
  | x :: xs => D.wfB x && D.wfBL xs
def D.wfBK : List (Key × D) → Bool
  | [] => true
  | p :: xs => keyB p.1 && (D.wfB p.2 && D.wfBK xs)
end
mutual
theorem wfB_ok : ∀ d : D, D.wfB d = true → D.wf d
  | .non, _ => by rw [D.wf]; trivial
  | .bl _, _ => by rw [D.wf]; trivial
  | .int _, _ => by rw [D.wf]; trivial
  | .str x, h => by rw [D.wf]; rw [D.wfB] at h; exact of_decide_eq_true h
  | .tup xs, h => by
    rw [D.wfB, Bool.and_eq_true] at h
    rw [D.wf]; exact ⟨of_decide_eq_true h.1, wfBL_ok xs h.2⟩
  | .lst xs, h => by
    rw [D.wfB, Bool.and_eq_true] at h
    rw [D.wf]; exact ⟨of_decide_eq_true h.1, wfBL_ok xs h.2⟩
  | .dic xs, h => by
    rw [D.wfB, Bool.and_eq_true, Bool.and_eq_true] at h
    rw [D.wf]; exact ⟨of_decide_eq_true h.1, of_decide_eq_true h.2.1, wfBK_ok xs h.2.2⟩
theorem wfBL_ok : ∀ xs : List D, D.wfBL xs = true → D.wfL xs
  | [], _ => by rw [D.wfL]; trivial
  | x :: xs, h => by
    rw [D.wfBL, Bool.and_eq_true] at h
    rw [D.wfL]; exact ⟨wfB_ok x h.1, wfBL_ok xs h.2⟩
theorem wfBK_ok : ∀ xs : List (Key × D), D.wfBK xs = true → D.wfK xs
  | [], _ => by rw [D.wfK]; trivial
  | (k, x) :: xs, h => by
    rw [D.wfBK, Bool.and_eq_true, Bool.and_eq_true] at h
    rw [D.wfK]
    refine ⟨fun s e => ?_, wfB_ok x h.2.1, wfBK_ok xs h.2.2⟩
    subst e
    exact of_decide_eq_true h.1
end
theorem badPts_ok : ∀ d ∈ badPts, d.wf ∧ d.deep ≤ 40 ∧ isNestD d 6 = false := fun d hd => by
  have h : (badPts.all fun d => D.wfB d && (decide (d.deep ≤ 40) && !isNestD d 6)) = true := by decide +kernel
  have h := List.all_eq_true.mp h d hd
  rw [Bool.and_eq_true, Bool.and_eq_true] at h
  exact ⟨wfB_ok d h.1, of_decide_eq_true h.2.1, by simpa using h.2.2⟩
theorem badSts_ok : ∀ d ∈ badSts, d.wf ∧ d.deep ≤ 40 ∧ isStateD d = false := fun d hd => by
  have h : (badSts.all fun d => D.wfB d && (decide (d.deep ≤ 40) && !isStateD d)) = true := by decide +kernel
  have h := List.all_eq_true.mp h d hd
  rw [Bool.and_eq_true, Bool.and_eq_true] at h
  exact ⟨wfB_ok d h.1, of_decide_eq_true h.2.1, by simpa using h.2.2⟩
section
variable {K : PySem.W.Frag} {c : Cn} {δ : List Sl} {P : D → Prop} {t1 t2 t3 : TE}
theorem ce_disp1 {k : Str} (h : DE c t1 δ fun d => P (.dic [(.inr k, d)])) : DE c (tDisp [((tC (.str k)), t1)]) δ P :=
  (dn_disp (dps_cons (de_str (h.imp fun d p => ⟨.inr k, rfl, dps_nil ⟨by simp, p⟩⟩)))).de
theorem ce_disp1i {k : Int} (h : DE c t1 δ fun d => P (.dic [(.inl k, d)])) : DE c (tDisp [((tC (.int k)), t1)]) δ P :=
  (dn_disp (dps_cons (de_int (h.imp fun d p => ⟨.inl k, rfl, dps_nil ⟨by simp, p⟩⟩)))).de
theorem ce_lst0 (h : P (.lst [])) : DE c (tLst tNil) δ P := (dn_lst (da_nil ⟨[], rfl, by simp, h⟩)).de
theorem ce_lst1 (h : DE c t1 δ fun d => P (.lst [d])) : DE c (tLst (tCons t1 tNil)) δ P := (dn_lst (da_cons (h.imp fun d p => da_nil ⟨[d], rfl, by simp, p⟩))).de
theorem ce_let {xs : List Str} {z : Str} {i : Nat} {d : D} (hz : (z.cps.toList.map fun n => D.str ⟨#[n]⟩) = xs.map .str) (hl : xs.length ≤ 100) (nd : xs.Nodup) (hi : i < δ.length) (hd : ∀ x, DE c t1 ((δ.set i .un).set i (.dat (.str x))) fun y => y = d) (p : P (letD xs d)) :
    DE c (tCB (rDictX c.K) (tCons (tLc (iAny c.K (tC (.str z))) (gName i) tYes (tTupF (tCons (tVar i) (tCons t1 tNil))) [i]) tNil)) δ P := by
  refine (dn_dict (dn_lcM (js := [i]) (fun x => .tup [x, d]) (by simp) (di_any (de_str ⟨_, rfl, ?_, fun j x hx => ?_, .inl ⟨xs.map fun x => (.inr x, d), ?_, ?_⟩⟩))).de).de
  · rw [hz, List.length_map]; exact Nat.le_of_lt (small1000 (by omega))
  · rw [hz, List.getElem?_map] at hx
    cases q : xs[j]? with
    | none => rw [q] at hx; cases hx
    | some s =>
      rw [q] at hx; cases hx
      refine dg_name (de_tup2 (de_var (List.getElem?_set_self (by simp [wipeD]; exact hi)) ((hd s).imp fun y e => by rw [e])))
  · rw [hz, List.map_map, List.map_map]; rfl
  · rw [mergeD_nil [] (by rw [List.nil_append, List.map_map]; exact List.Pairwise.map _ (fun a b h e => h (Sum.inr.inj e)) nd)]; exact p
end
end Mp
set_option maxRecDepth 100000
set_option maxHeartbeats 4000000
namespace Mp
open PySem L2
local macro_rules | `(tactic| walk_at "k") => `(tactic| first
  | with_reducible refine de_tup0 ?_
  | with_reducible refine de_tup1 ?_
  | with_reducible refine de_tup2 ?_
  | with_reducible refine de_tup3 ?_
  | with_reducible refine de_int ?_
  | with_reducible refine de_str ?_
  | with_reducible refine de_bl ?_
  | with_reducible refine de_non ?_
  | with_reducible refine ce_disp1 ?_
  | with_reducible refine ce_disp1i ?_
  | with_reducible refine ce_lst0 ?_
  | with_reducible refine ce_lst1 ?_
  | with_reducible refine da_nil ?_
  | with_reducible refine da_cons ?_
  | with_reducible refine ds_seq ?_
  | with_reducible refine then_nx ?_
  | ((with_reducible show DE _ (tVar _) _ _); refine de_var rfl ?_))
section
variable {K : PySem.W.Frag}
theorem dn_catO {c : Cn} {δ : List Sl} {tb : TE} {P : D → Prop} {i : Nat} {xs : List D} (hi : δ[i]? = some (.own (.lst xs))) (h : DN c tb δ fun y => ∃ ys, y = .lst ys ∧ xs.length + ys.length ≤ 1000 ∧ P (.lst (xs ++ ys))) : DN c (tOp rCat (tVar i) tb) δ P := fun G0 H0 G H σ Q b e k => by
  obtain ⟨r, h1, h2, h3, vs, h4, h5⟩ := e.own i _ hi
  refine ⟨.ref r, h1, h G0 H0 G H σ _ b e fun y r2 G2 H2 py s2 hr2 gr2 o2 => ?_⟩
  obtain ⟨ys, rfl, hl, p⟩ := py
  obtain ⟨us, h6, h7⟩ := o2
  refine ⟨r, r2, vs, us, rfl, rfl, s2.keep r _ (not_town b.iv h2) h3 h4, h6, ?_, fun q hq => ?_⟩
  · rw [h5.len, h7.len]; exact Nat.le_of_lt (small1000 hl)
  · exact k _ q G2 _ p (s2.trans (Step.tmp s2.sub hq)) (s2.back hq) (s2.sub.free hq) ⟨_, upd_same, (h5.mono s2.ge).app h7⟩
def R_pts02 (ds : List D) (d : D) : Prop := ds = [] ∧ d = .lst badPts
theorem p_pts02 (ds : List D) (d : D) (h : R_pts02 ds d) : DS ⟨K, none⟩ (t__law_patches K) (slots ["deep", "k", "inner", "bad", "key"] ds) (Gives d) := by
  obtain ⟨rfl, rfl⟩ := h
  show DS _ _ [.un, .un, .un, .un, .un] _
  unfold t__law_patches
  refine ds_seq (ds_asg ?_)
  repeat walk_at "k"
  refine ds_for (js := [1]) (di_rng (de_int ⟨7, rfl, by decide, fun i δ => ∃ z, δ = [.dat (chP i), z, .un, .un, .un], ⟨_, rfl⟩, fun i d δ' hd ⟨z, e⟩ => ?_, fun δ' ⟨z, e⟩ => ?_⟩))
  · subst e
    refine dg_name (ds_asg ?_)
    repeat walk_at "k"
    exact ⟨_, rfl⟩
  have e : δ' = [.dat (chP 7), z, .un, .un, .un] := e
  subst e
  refine then_nx (ds_seq (ds_asg ?_))
  repeat walk_at "k"
  refine ds_for (js := [1]) (di_rng (de_int ⟨7, rfl, by decide, fun i δ => ∃ z, δ = [.dat (chP 7), z, .dat (inP i), .un, .un], ⟨_, rfl⟩, fun i d δ' hd ⟨z, e⟩ => ?_, fun δ' ⟨z, e⟩ => ?_⟩))
  · subst e
    refine dg_name (ds_asg ?_)
    repeat walk_at "k"
    exact ⟨_, rfl⟩
  have e : δ' = [.dat (chP 7), z, .dat (inP 7), .un, .un] := e
  subst e
  refine then_nx (ds_seq (ds_asgN (dn_lst ?_)))
  repeat walk_at "k"
  refine ⟨[_, _, _, _, _, _, _, _, _], rfl, by simp, ?_⟩
  repeat walk_at "k"
  refine ds_extend rfl (dn_lst ?_)
  repeat walk_at "k"
  refine ⟨[_], rfl, by simp, _, rfl, by simp, ?_⟩
  repeat walk_at "k"
  refine ds_extend rfl (dn_lst ?_)
  repeat walk_at "k"
  refine ⟨[_, _, _, _], rfl, by simp, _, rfl, by simp, ?_⟩
  repeat walk_at "k"
  refine ds_extend rfl (dn_lst ?_)
  repeat walk_at "k"
  refine ⟨[_, _, _, _], rfl, by simp, _, rfl, by simp, ?_⟩
  repeat walk_at "k"
  refine ds_extend rfl (dn_lst ?_)
  repeat walk_at "k"
  refine ⟨[_, _], rfl, by simp, _, rfl, by simp, ?_⟩
  repeat walk_at "k"
  refine ds_extend rfl (dn_lst ?_)
  repeat walk_at "k"
  refine de_repF ?_
  repeat walk_at "k"
  refine ⟨_, rfl, by simp, by simp, de_int ⟨7, rfl, by decide, by decide, by simp, ?_⟩⟩
  repeat walk_at "k"
  refine ⟨[_, _, _], rfl, by simp, _, rfl, by simp, ?_⟩
  repeat walk_at "k"
  refine ds_extend rfl (dn_lst ?_)
  repeat walk_at "k"
  refine ⟨[_, _, _, _, _], rfl, by simp, _, rfl, by simp, ?_⟩
  repeat walk_at "k"
  refine ds_append rfl (by simp) ?_
  repeat walk_at "k"
  refine ce_let (c := ⟨K, none⟩) (xs := abcg) (d := keepD) rfl (by decide) (by decide) (by simp) (fun x => de_tup1 (de_str rfl)) ?_
  refine then_nx (ds_ret (DN.de (dn_catO rfl (dn_lst ?_))))
  repeat walk_at "k"
  exact ⟨[_], rfl, by simp, _, rfl, by simp, rfl⟩
end
end Mp
set_option maxRecDepth 100000
set_option maxHeartbeats 4000000
namespace Mp
open PySem L2
local macro_rules | `(tactic| walk_at "k") => `(tactic| first
  | with_reducible refine de_tup0 ?_
  | with_reducible refine de_tup1 ?_
  | with_reducible refine de_tup2 ?_
  | with_reducible refine de_tup3 ?_
  | with_reducible refine de_int ?_
  | with_reducible refine de_str ?_
  | with_reducible refine de_bl ?_
  | with_reducible refine de_non ?_
  | with_reducible refine de_neg ?_
  | with_reducible refine ce_disp1 ?_
  | with_reducible refine ce_disp1i ?_
  | with_reducible refine ce_lst0 ?_
  | with_reducible refine ce_lst1 ?_
  | with_reducible refine da_nil ?_
  | with_reducible refine da_cons ?_
  | with_reducible refine ds_seq ?_
  | with_reducible refine then_nx ?_
  | ((with_reducible show DE _ (tVar _) _ _); refine de_var rfl ?_))
section
variable {c : Cn} {δ : List Sl} {te : TE} {tr : TA} {ts tv : TS}
/-- arguments: data, and others behind them -/
def DAX (c : Cn) (t : TA) (δ : List Sl) (ds : List D) (X : Hp → Hp → List V → Prop) : Prop :=
  ∀ (G0 H0 G H : Hp) (σ : L2.St) (Q : List V → Hp → Prop), Bs c G0 H0 G H → EnvOk c H0 G H σ δ → (∀ us ws G' H', Step c G H G' H' → HasL c.K G' ds us → X G' H' ws → Q (us ++ ws) H') → t σ H Q
theorem dax_cons {d : D} {ds : List D} {X : Hp → Hp → List V → Prop} (h : DE c te δ fun y => y = d) (hr : DAX c tr δ ds X) : DAX c (tCons te tr) δ (d :: ds) X := fun G0 H0 G H σ Q b e k =>
  h G0 H0 G H σ _ b e fun x v G1 H1 px s1 hx => by
    subst px
    exact hr G0 H0 G1 H1 σ _ (b.next s1) (e.step b.iv s1) fun us ws G2 H2 s2 hu hw => k (v :: us) ws G2 H2 (s1.trans s2) (hasL_cons (hx.mono s2.ge) hu) hw
def Odd2 (K : PySem.W.Frag) (G H : Hp) (ws : List V) : Prop := ∃ a1 a2, ws = [.ref a1, .ref a2] ∧ Odd K G H a1 .non ∧ Odd K G H a2 (.tup [.str "a"])
theorem dax_odd : DAX c (tCons (tOddN (tC (.int 1))) (tCons (tOddT (tTupF (tCons (tC (.str "a")) tNil)) (tC (.int 1))) tNil)) δ [] (Odd2 c.K) := fun G0 H0 G H σ Q b e k => by
  intro p hp
  refine ⟨upd_same, fun o oo => ?_⟩
  rw [upd_upd]
  have s1 := Step.tmp (o := oddH .non o p) b.sub hp
  have o1 : Odd c.K G (upd H p (oddH .non o p)) p .non := ⟨.non, o, upd_same, by unfold Has; rfl⟩
  intro p2 hp2
  have s2 := Step.tmp (o := .dK []) s1.sub hp2
  refine ⟨by simp [sizeLine_eq], fun q oq hq hd => ?_⟩
  have s3 := Step.new (u := .tup [.str "a"]) s2.sub hq ⟨oq, upd_same, hd⟩
  have ne : p2 ≠ q := by rintro rfl; rw [upd_same] at hq; cases hq
  refine ⟨by rw [upd_ne ne, upd_same], ⟨q, oq, [.inr "a"], rfl, upd_same⟩, fun o2 oo2 => ?_⟩
  have g2 : (upd G q (.tup [.str "a"])) p2 = none := by rw [upd_ne ne]; exact s1.sub.free hp2
  have s4 := Step.grow (o := oddH (.ref q) o2 p2) (s2.trans s3) hp2 g2 s1.sub
  have hk : Has c.K (upd G q (.tup [.str "a"])) (.tup [.str "a"]) (.ref q) := has_tup (s2.sub.free hq) (hasL_cons (by unfold Has; rfl) hasL_nil)
  exact k [] [.ref p, .ref p2] _ _ (s1.trans s4) hasL_nil ⟨p, p2, rfl, o1.step s4, .ref q, o2, upd_same, hk⟩
/-- statements whose last one gives a value of which X holds -/
def DL (c : Cn) (ts : TS) (δ : List Sl) (X : Hp → Hp → Hp → Hp → V → Prop) : Prop :=
  ∀ (G0 H0 G H : Hp) (σ : L2.St) (D : Ends), Bs c G0 H0 G H → EnvOk c H0 G H σ δ → (∀ v G' H', Step c G0 H0 G' H' → X G0 H0 G' H' v → D.rt v H') → ts D σ H
theorem dl_seq {X : Hp → Hp → Hp → Hp → V → Prop} (h : DS c ts δ fun o => ∃ δ', o = .nx δ' ∧ DL c tv δ' X) : DL c (tSeq ts tv) δ X := fun G0 H0 G H σ D b e k =>
  h G0 H0 G H σ { D with nx := tv D } b e fun o G1 H1 p s l => by
    obtain ⟨δ', rfl, p⟩ := p
    exact fun σ1 e1 => p G0 H0 G1 H1 σ1 D ⟨b.s0, s⟩ e1 k
/-- the bad states, and the two odd dicts behind them -/
def Mix (K : PySem.W.Frag) (ds : List D) (G0 H0 G H : Hp) (v : V) : Prop := ∃ l us ws, v = .ref l ∧ H0 l = none ∧ G l = none ∧ H l = some (.lst (us ++ ws)) ∧ HasL K G ds us ∧ Odd2 K G H ws
theorem dl_cat {i : Nat} {xs ds : List D} (hi : δ[i]? = some (.own (.lst xs))) (hl : xs.length + ds.length ≤ 900) (h : DAX c tr δ ds (Odd2 c.K)) : DL c (tRet (tOp rCat (tVar i) (tLst tr))) δ (Mix c.K (xs ++ ds)) := fun G0 H0 G H σ D b e k => by
  obtain ⟨r, h1, h2, h3, vs, h4, h5⟩ := e.own i _ hi
  refine ⟨.ref r, h1, h G0 H0 G H σ _ b e fun us ws G2 H2 s2 hu hw => ?_⟩
  obtain ⟨a1, a2, rfl, o1, o2⟩ := hw
  have hz : (us ++ [V.ref a1, .ref a2]).length ≤ 902 := by rw [List.length_append, hu.len]; simp; omega
  refine ⟨Nat.le_of_lt (small1000 (by omega)), fun q hq => ?_⟩
  have s3 := Step.tmp (o := .lst (us ++ [V.ref a1, .ref a2])) s2.sub hq
  have hr : H2 r = some (.lst vs) := s2.keep r _ (not_town b.iv h2) h3 h4
  have ne : r ≠ q := by rintro rfl; rw [hr] at hq; cases hq
  refine ⟨r, q, vs, us ++ [V.ref a1, .ref a2], rfl, rfl, by rw [upd_ne ne]; exact hr, upd_same, ?_, fun q2 hq2 => ?_⟩
  · rw [h5.len]; exact Nat.le_of_lt (small1000 (by rw [List.length_append, hu.len]; simp; omega))
  · have s4 := Step.tmp (o := .lst (vs ++ (us ++ [V.ref a1, .ref a2]))) s3.sub hq2
    have s34 := s3.trans s4
    have sa := b.st.trans (s2.trans s34)
    refine k _ G2 _ sa ⟨q2, vs ++ us, [.ref a1, .ref a2], rfl, ?_, s3.sub.free hq2, by rw [upd_same, List.append_assoc], (h5.mono s2.ge).app hu, a1, a2, rfl, o1.step s34, o2.step s34⟩
    exact (b.st.trans (s2.trans s3)).back hq2
end
section
variable {K : PySem.W.Frag}
theorem p_sts02 : DL ⟨K, none⟩ (t__law_states K) [.un, .un, .un, .un, .un] (Mix K badSts) := by
  unfold t__law_states
  refine dl_seq (ds_asg (de_int ⟨_, rfl, ?_⟩))
  refine dl_seq (ds_for (js := [1]) (di_rng (de_int ⟨6, rfl, by decide, fun i δ => ∃ z, δ = [.dat (nsS (.int 1) i), z, .un, .un, .un], ⟨_, rfl⟩, fun i d δ' hd ⟨z, e⟩ => ?_, fun δ' ⟨z, e⟩ => ⟨_, rfl, ?_⟩⟩)))
  · subst e
    refine dg_name (ds_asg ?_)
    repeat walk_at "k"
    exact ⟨_, rfl⟩
  have e : δ' = [.dat (nsS (.int 1) 6), z, .un, .un, .un] := e
  subst e
  refine dl_seq (ds_asg (ce_let (c := ⟨K, none⟩) (xs := abcg) (d := .int 0) rfl (by decide) (by decide) (by simp) (fun x => de_int rfl) ⟨_, rfl, ?_⟩))
  refine dl_seq (ds_asgN (dn_lst ?_))
  repeat walk_at "k"
  refine ⟨_, rfl, ?_⟩
  repeat walk_at "k"
  refine ⟨[_, _, _, _, _, _, _, _, _, _, _], rfl, by simp, _, rfl, ?_⟩
  refine dl_seq (ds_extend rfl (dn_lst ?_))
  repeat walk_at "k"
  refine ⟨[_, _, _, _], rfl, by simp, _, rfl, by simp, _, rfl, ?_⟩
  refine dl_cat (c := ⟨K, none⟩) rfl (by simp) (dax_cons ?_ (dax_cons ?_ (dax_cons ?_ (dax_cons ?_ (dax_cons ?_ (dax_odd (c := ⟨K, none⟩))))))) <;> repeat walk_at "k"
  all_goals rfl
def spSts (K : PySem.W.Frag) : Sp := fun vs H Q _ => ∃ G, Sub ⟨K, none⟩ G H ∧ vs = [] ∧ ∀ v G' H', Step ⟨K, none⟩ G H G' H' → Mix K badSts G H G' H' v → Q v H'
theorem body_sts {vs : List V} {H : Hp} {Q : VK} {E : XK} (q : spSts K vs H Q E) : t__law_states K (ends Q) (L2.start ["deep", "k", "wide", "bad", "key"] vs) H := by
  obtain ⟨G, s, rfl, k⟩ := q
  exact p_sts02 G H G H _ _ ⟨s, .refl s⟩ (env_start (c := ⟨K, none⟩) (N := ["deep", "k", "wide", "bad", "key"]) (ds := []) (vs := []) hasL_nil (by simp)) k
end
end Mp
set_option maxRecDepth 100000
set_option maxHeartbeats 4000000
namespace Mp
open PySem L2
/-! ### the law's own rules -/
section
variable {c : Cn} {δ : List Sl} {P : D → Prop} {Ci Ca Cp : Addr} {Φ : Bp}
def AskD (Ci Ca Cp : Addr) (w : Int) (x y : D) (C : Addr) (n : Nat) : Prop := ∀ K G H v u, Has K G x v → Has K G y u → AskV K Ci Ca Cp w v u G H C n
theorem de_ask {t1 t2 t3 : TE} (h : DE c t1 δ fun a => DE c t2 δ fun x => DE c t3 δ fun y => ∃ w C n, a = .int w ∧ AskD Ci Ca Cp w x y C n ∧ P (raisedD n)) : DE c (tCall (spAsk c.K Ci Ca Cp) [] E0 (tCons t1 (tCons t2 (tCons t3 tNil)))) δ P := fun G0 H0 G H σ Q b e k =>
  h G0 H0 G H σ _ b e fun a v0 G1 H1 p1 s1 h1 => p1 G0 H0 G1 H1 σ _ (b.next s1) (e.step b.iv s1) fun x v G2 H2 p2 s2 h2 => p2 G0 H0 G2 H2 σ _ ((b.next s1).next s2) ((e.step b.iv s1).step b.iv s2) fun y u G3 H3 p3 s3 h3 => by
    obtain ⟨w, C, n, rfl, hA, p⟩ := p3
    unfold Has at h1
    subst h1
    have s123 := (s1.trans s2).trans s3
    exact ⟨G3, w, v, u, C, n, s123.sub.pure, rfl, hA _ _ _ _ _ (h2.mono s3.ge) h3, fun z G' H' s hz => k _ z G' H' p (s123.trans (Step.lift s123.sub s)) hz⟩
/-- .. of the odd dict -/
theorem dep_ask1 {a : Addr} {kd : D} {i j : Nat} {w : Int} {t3 : TE} (hj : δ[j]? = some (.dat (.int w))) (hi : δ[i]? = some (.raw (.ref a))) (h3 : DE c t3 δ fun _ => True) (hk : oddK kd) (hw : 9 ≤ w ∧ w < 15) (p : P (raisedD (0 : Nat))) :
    DEp c (fun G H => Odd c.K G H a kd) (tCall (spAsk c.K Ci Ca Cp) [] E0 (tCons (tVar j) (tCons (tVar i) (tCons t3 tNil)))) δ P := fun G0 H0 G H σ Q φ b e k => by
  obtain ⟨v0, g1, g2⟩ := e.dat j _ hj
  unfold Has at g2
  subst g2
  refine ⟨.int w, g1, .ref a, e.raw i _ hi, h3 G0 H0 G H σ _ b e fun y u G1 H1 _ s1 _ => ?_⟩
  exact ⟨G1, w, .ref a, u, Ci, 0, s1.sub.pure, rfl, .inr (.inr (.inr (.inr (.inl ⟨rfl, rfl, hw.1, hw.2, .inr ⟨a, kd, rfl, (φ.step b.st).step s1, hk⟩⟩)))), fun z G' H' s hz => k _ z G' H' p (s1.trans (Step.lift s1.sub s)) hz⟩
theorem dep_ask2 {a : Addr} {kd x : D} {i j l : Nat} {w : Int} (hj : δ[j]? = some (.dat (.int w))) (hl : δ[l]? = some (.dat x)) (hi : δ[i]? = some (.raw (.ref a))) (hk : oddK kd)
    (hw : ((w = 3 ∨ w = 4) ∧ x.wf ∧ x.deep ≤ 40 ∧ isNestD x 6 = true) ∨ ((w = 10 ∨ w = 11 ∨ w = 13 ∨ w = 14) ∧ x.wf ∧ x.deep ≤ 40 ∧ isStateD x = true)) (p : P (raisedD (0 : Nat))) :
    DEp c (fun G H => Odd c.K G H a kd) (tCall (spAsk c.K Ci Ca Cp) [] E0 (tCons (tVar j) (tCons (tVar l) (tCons (tVar i) tNil)))) δ P := fun G0 H0 G H σ Q φ b e k => by
  obtain ⟨v0, g1, g2⟩ := e.dat j _ hj
  obtain ⟨v, g3, g4⟩ := e.dat l _ hl
  unfold Has at g2
  subst g2
  refine ⟨.int w, g1, v, g3, .ref a, e.raw i _ hi, G, w, v, .ref a, Ci, 0, b.sub.pure, rfl, ?_, fun z G' H' s hz => k _ z G' H' p (Step.lift b.sub s) hz⟩
  have o : NotStV c.K G H (.ref a) := .inr ⟨a, kd, rfl, φ.step b.st, hk⟩
  rcases hw with ⟨hw, h1⟩ | ⟨hw, h1⟩
  · exact .inr (.inr (.inl ⟨rfl, rfl, hw, ⟨x, g4, h1⟩, o⟩))
  · exact .inr (.inr (.inr (.inr (.inr (.inl ⟨rfl, rfl, hw, ⟨x, g4, h1⟩, o⟩)))))
/-- is_state, of data and of odd dicts -/
def spIsS (K : PySem.W.Frag) : Sp := fun vs H Q E => SpP K R_is_state vs H Q E ∨ spStO K vs H Q E
theorem de_isS {t1 : TE} (h : DE c t1 δ fun x => x.wf ∧ x.deep ≤ 40 ∧ P (.bl (isStateD x))) : DE c (tCall (spIsS c.K) [] E0 (tCons t1 tNil)) δ P := fun G0 H0 G H σ Q b e k =>
  h G0 H0 G H σ _ b e fun x v G1 H1 ⟨p1, p2, p⟩ s1 h1 => .inl ⟨G1, [x], _, s1.sub.pure, hasL_cons h1 hasL_nil, ⟨x, rfl, p1, p2, rfl⟩, fun u G' H' s hu => k _ u G' H' p (s1.trans (Step.lift s1.sub s)) hu⟩
theorem dep_isS {a : Addr} {kd : D} {i : Nat} (hi : δ[i]? = some (.raw (.ref a))) (hk : oddK kd) (p : P (.bl false)) : DEp c (fun G H => Odd c.K G H a kd) (tCall (spIsS c.K) [] E0 (tCons (tVar i) tNil)) δ P := fun G0 H0 G H σ Q φ b e k =>
  ⟨.ref a, e.raw i _ hi, .inr ⟨G, .ref a, b.sub.pure, rfl, ⟨a, kd, rfl, φ.step b.st, hk⟩, fun G' H' s => k _ _ G' H' p (Step.lift b.sub s) (by unfold Has; rfl)⟩⟩
theorem dep_notB {ta tb : TE} (h : DEp c Φ ta δ fun x => DEp c Φ tb δ fun y => ∃ a b, x = .bl a ∧ y = .bl b ∧ P (.bl (!decide (a = b)))) : DEp c Φ (tOp rNotB ta tb) δ P :=
  dep_op (F := fun x y P => ∃ a b, x = .bl a ∧ y = .bl b ∧ P (.bl (!decide (a = b)))) (fun x y v u G H Q P s hx hy q k => by
    obtain ⟨a, b, rfl, rfl, p⟩ := q
    unfold Has at hx hy
    exact ⟨a, b, hx, hy, k _ _ G H p (.refl s) (by unfold Has; rfl)⟩) h
/-- no object of the def's own -/
def NoOwn (δ : List Sl) : Prop := ∀ (j : Nat) (d : D), δ[j]? ≠ some (.own d)
theorem EnvOk.rebase {H0 H1 G H : Hp} {σ : L2.St} (n : NoOwn δ) (e : EnvOk c H0 G H σ δ) : EnvOk c H1 G H σ δ := ⟨e.len, e.dat, fun i d h => (n i d h).elim, e.raw, fun i j d x r _ h => (n i d h).elim⟩
theorem NoOwn.set {i : Nat} {z : Sl} (n : NoOwn δ) (hz : ∀ d, z ≠ .own d) : NoOwn (δ.set i z) := fun j d h => by
  rcases get_set h with ⟨_, e, _⟩ | ⟨_, h⟩
  · exact hz d e
  · exact n j d h
/-- for bad in _law_states() -/
theorem ds_forMix {i0 : Nat} {tb : TS} {R : Out → Prop} (no : NoOwn δ)
    (turn : ∀ d ∈ badSts, DS c tb (δ.set i0 (.dat d)) fun o => o = .nx (δ.set i0 (.dat d)))
    (odd : ∀ a kd, oddK kd → DSp c (fun G H => Odd c.K G H a kd) tb (δ.set i0 (.raw (.ref a))) fun o => o = .nx (δ.set i0 (.raw (.ref a))))
    (done : ∀ z, R (.nx (δ.set i0 z))) : DS c (tFor (iAny c.K (tCall (spSts c.K) [] E0 tNil)) (gName i0) tb) δ R := fun G0 H0 G H σ D b e k => by
  refine ⟨G, b.sub.pure, rfl, fun v G1 H1 st0 mix => ?_⟩
  obtain ⟨l, us, ws, rfl, hl0, gl, hl, hu, a1, a2, rfl, o1, o2⟩ := mix
  have st := Step.lift b.sub st0
  have nt : ¬ c.T l := not_town b.sub.iv hl0
  have hlen : us.length = badSts.length := hu.len
  have e1 : EnvOk c H0 G1 H1 σ δ := e.step b.iv st
  have hs0 : δ.set i0 (δ[i0]?.getD .un) = δ := by
    cases q : δ[i0]? with
    | none => exact List.set_eq_of_length_le (by simpa using q)
    | some z =>
      simp only [Option.getD_some]
      obtain ⟨hlt, hz⟩ := List.getElem?_eq_some_iff.mp q
      rw [← hz]; exact List.set_getElem_self hlt
  have n0 : ∀ d, δ[i0]?.getD .un ≠ .own d := fun d h => by
    cases q : δ[i0]? with
    | none => rw [q] at h; cases h
    | some z => rw [q] at h; exact no i0 d (by rw [q]; exact congrArg some h)
  refine .inl ⟨l, rfl, ⟨_, SqL.of hl⟩, fun i m σ' H' => ∃ z G', (∀ d, z ≠ .own d) ∧ m = badSts.length + 2 - i ∧ i ≤ badSts.length + 2 ∧ Step c G1 H1 G' H' ∧ EnvOk c H0 G' H' σ' (δ.set i0 z), ⟨_, _, G1, n0, rfl, Nat.zero_le _, .refl st.sub, by rw [hs0]; exact e1⟩, ?_⟩
  rintro i m σ' H' ⟨z, G', nz, rfl, hi, s', e'⟩
  have hl' : H' l = some (.lst (us ++ [.ref a1, .ref a2])) := s'.keep l _ nt gl hl
  have nz' := no.set (i := i0) nz
  have er : EnvOk c H' G' H' σ' (δ.set i0 z) := e'.rebase nz'
  have ll : (us ++ [V.ref a1, .ref a2]).length = badSts.length + 2 := by rw [List.length_append, hlen]; rfl
  by_cases hlt : i < badSts.length + 2
  · have hx : ∃ x, (us ++ [V.ref a1, .ref a2])[i]? = some x := ⟨_, List.getElem?_eq_getElem (by rw [ll]; exact hlt)⟩
    obtain ⟨x0, hx0⟩ := hx
    refine .inr ⟨⟨_, x0, SqL.of hl', hx0⟩, fun σ2 H2 => ∃ z G2, (∀ d, z ≠ .own d) ∧ Step c G1 H1 G2 H2 ∧ EnvOk c H' G2 H2 σ2 (δ.set i0 z), fun σ2 H2 ⟨z2, G2, n2, s2, e2⟩ => ⟨_, Nat.sub_lt_sub_left hlt (Nat.lt_succ_self i), z2, G2, n2, rfl, hlt, s2, e2.rebase (no.set n2)⟩, fun x H2 ⟨eH, y⟩ => ?_⟩
    subst eH
    have y := y _ (SqL.of hl')
    have ss : ∀ z', (δ.set i0 z).set i0 z' = δ.set i0 z' := fun z' => List.set_set ..
    by_cases hd : i < us.length
    · rw [List.getElem?_append_left hd] at y
      obtain ⟨d, hd1, hd2⟩ := hu.get' y
      have ed := er.setDat (i := i0) (hd2.mono s'.ge)
      rw [ss] at ed
      refine turn d (List.mem_of_getElem? hd1) G' H2 G' H2 _ _ ⟨s'.sub, .refl s'.sub⟩ ed fun o G3 H3 p s3 _ => ?_
      subst p
      exact fun σ3 e3 => ⟨_, G3, (fun d h => by cases h), s'.trans s3, e3⟩
    · rw [List.getElem?_append_right (by omega)] at y
      have eo : ∀ a, x = .ref a → EnvOk c H2 G' H2 (σ'.set i0 (some x)) (δ.set i0 (.raw (.ref a))) := fun a ex => by
        subst ex
        have := er.setRaw (i := i0) (v := .ref a)
        rw [ss] at this
        exact this
      have fin : ∀ a kd, x = .ref a → oddK kd → Odd c.K G1 H1 a kd → _ := fun a kd ex hk ho => odd a kd hk G' H2 G' H2 _ { D with nx := fun σ2 H2' => ∃ z G2, (∀ d, z ≠ .own d) ∧ Step c G1 H1 G2 H2' ∧ EnvOk c H2 G2 H2' σ2 (δ.set i0 z), ct := fun σ2 H2' => ∃ z G2, (∀ d, z ≠ .own d) ∧ Step c G1 H1 G2 H2' ∧ EnvOk c H2 G2 H2' σ2 (δ.set i0 z), bk := D.nx } (ho.step s') ⟨s'.sub, .refl s'.sub⟩ (eo a ex) fun o G3 H3 p s3 _ => by
        subst p
        exact fun σ3 e3 => ⟨_, G3, (fun d h => by cases h), s'.trans s3, e3⟩
      rcases (by omega : i - us.length = 0 ∨ i - us.length = 1) with q | q <;> rw [q] at y
      · exact fin a1 .non (by simpa using y.symm) ⟨by decide, fun s h => by cases h⟩ o1
      · exact fin a2 (.tup [.str "a"]) (by simpa using y.symm) ⟨by decide, fun s h => by cases h⟩ o2
  · have ei : i = badSts.length + 2 := by omega
    subst ei
    refine .inl ⟨⟨_, SqL.of hl', by rw [ll]; exact Nat.le_refl _⟩, ?_⟩
    exact k (.nx (δ.set i0 z)) G' H' (done z) (b.st.trans (st.trans s')) (st.trans s').lat σ' e'
end
end Mp
set_option maxRecDepth 100000
set_option maxHeartbeats 4000000
namespace Mp
open PySem L2
local macro_rules | `(tactic| walk_at "s") => `(tactic| first
  | with_reducible refine ds_seq ?_
  | with_reducible refine ds_ret ?_
  | with_reducible refine ds_if ?_
  | with_reducible refine ds_asg ?_
  | with_reducible refine ds_drop ?_
  | with_reducible refine ds_next ?_
  | with_reducible refine ds_retN ?_
  | with_reducible refine then_nx ?_
  | with_reducible refine then_rt ?_
  | with_reducible refine gives_rt ?_
  | with_reducible refine gives_nx
  | with_reducible refine dt_not ?_
  | with_reducible refine dt_test ?_
  | with_reducible refine dt_B ?_
  | with_reducible refine dt_and ?_
  | with_reducible refine dt_or ?_
  | with_reducible refine dt_yes ?_
  | with_reducible refine ex_bl ?_
  | with_reducible refine ex_ii ?_
  | ((with_reducible show DE _ (tVar _) _ _); refine de_var rfl ?_)
  | with_reducible refine de_int ?_
  | with_reducible refine de_str ?_
  | with_reducible refine de_bl ?_
  | with_reducible refine de_non ?_
  | with_reducible refine de_sub ?_
  | with_reducible refine de_eq ?_
  | with_reducible refine de_ne ?_
  | with_reducible refine de_in ?_
  | with_reducible refine de_add ?_
  | with_reducible refine de_subI ?_
  | with_reducible refine de_lt ?_
  | with_reducible refine de_le ?_
  | with_reducible refine de_gt ?_
  | with_reducible refine de_ge ?_
  | with_reducible refine de_neg ?_
  | with_reducible refine de_isN ?_
  | with_reducible refine de_notN ?_
  | with_reducible refine de_chainII ?_
  | with_reducible refine de_len ?_
  | with_reducible refine de_isi .str rfl ?_
  | with_reducible refine de_isi .int rfl ?_
  | with_reducible refine de_isi .bool rfl ?_
  | with_reducible refine de_isi .dict rfl ?_
  | with_reducible refine de_isi .tuple rfl ?_
  | with_reducible refine de_isi .list rfl ?_
  | with_reducible refine de_all ?_
  | with_reducible refine de_sum ?_
  | with_reducible refine de_if ?_
  | with_reducible refine de_andV ?_
  | with_reducible refine de_orV ?_
  | with_reducible refine de_notV ?_
  | with_reducible refine de_tuple ?_
  | with_reducible refine de_get1 ?_
  | with_reducible refine de_get2 ?_
  | with_reducible refine de_tup0 ?_
  | with_reducible refine de_tup1 ?_
  | with_reducible refine de_tup2 ?_
  | with_reducible refine de_tup3 ?_
  | with_reducible refine de_tup4 ?_
  | with_reducible refine de_tup ?_
  | with_reducible refine de_isB ?_
  | with_reducible refine de_notB ?_
  | ((with_reducible show DE _ (tCall (SpT _ _) _ _ _) _ _); refine de_ct rfl rfl ?_)
  | with_reducible refine de_call ?_
  | with_reducible refine da_nil ?_
  | with_reducible refine da_cons ?_)
def badPas : List D := [.non, .str "a", .lst [.str "a"], .tup [.str "A"], .tup [.str ""], .tup [.int 1], .tup [.str "a", .str "a", .str "a", .str "a", .str "a", .str "a", .str "a"], .tup [.str "abcdefg"], .tup [.str "a", .non]]
theorem wf_pathOk {d : D} (h : d.wf) : pathOk d := by
  cases d with
  | tup xs => rw [D.wf] at h; exact ⟨h.1, fun x hx s e => wf_str (wfL_mem h.2 hx) s e⟩
  | _ => trivial
theorem badPas_ok : ∀ d ∈ badPas, pathOk d ∧ isPathD d = false := fun d hd => by
  have h : (badPas.all fun d => D.wfB d && !isPathD d) = true := by decide +kernel
  have h := List.all_eq_true.mp h d hd
  rw [Bool.and_eq_true] at h
  exact ⟨wf_pathOk (wfB_ok d h.1), by simpa using h.2⟩
def mgP : Nat → D
  | 0 => .tup [.str "keep"]
  | n + 1 => .tup [.str "merge", .dic [(.inr "abcdef", mgP n)]]
def abcf : List Str := ["a", "b", "c", "d", "e", "f"]
/-- a patch, a state, by the kernel -/
theorem patch_by {d : D} (h : (D.wfB d && (decide (d.deep ≤ 40) && isNestD d 6)) = true) : R_is_patch [d] (.bl true) := by
  rw [Bool.and_eq_true, Bool.and_eq_true] at h
  exact ⟨d, rfl, wfB_ok d h.1, of_decide_eq_true h.2.1, by rw [h.2.2]⟩
theorem state_by {d : D} (h : (D.wfB d && (decide (d.deep ≤ 40) && isStateD d)) = true) : d.wf ∧ d.deep ≤ 40 ∧ isStateD d = true := by
  rw [Bool.and_eq_true, Bool.and_eq_true] at h
  exact ⟨wfB_ok d h.1, of_decide_eq_true h.2.1, h.2.2⟩
def okSts : List D := [nsS (.dic []) 4, letD abcf (.int 999), .int (-999), .str "abcdef", .str "", .non, .dic []]
theorem okSts_ok : ∀ d ∈ okSts, d.wf ∧ d.deep ≤ 40 ∧ isStateD d = true := fun d hd => by
  have h : (okSts.all fun d => D.wfB d && (decide (d.deep ≤ 40) && isStateD d)) = true := by decide +kernel
  exact state_by (List.all_eq_true.mp h d hd)
theorem deep_st : St abcz 9 (nsS (.dic []) 4) := by
  have h0 : Doc abcz 5 (.dic []) := .dic (by simp) (by simp) (by simp)
  have up : ∀ {n : Nat} {d : D}, Doc abcz n d → Doc abcz (n + 1) (.dic [(.inr "a", d)]) := fun h => .dic (by simp) (fun p hp => ⟨"a", by decide, by simp at hp; rw [hp]⟩) fun p hp => by simp at hp; rw [hp]; exact h
  exact .inr (up (up (up (up h0))))
theorem eqvL_rep {r : D} (h : D.eqv r r = true) : ∀ k, D.eqvL (List.replicate k r) (List.replicate k r) = true
  | 0 => by simp [D.eqvL]
  | k + 1 => by rw [List.replicate_succ, D.eqvL]; simp only [h, eqvL_rep h k, Bool.and_self]
theorem deepL_rep {r : D} : ∀ k, D.deepL (List.replicate k r) ≤ r.deep
  | 0 => by simp [D.deepL]
  | k + 1 => by rw [List.replicate_succ, D.deepL]; have := deepL_rep (r := r) k; omega
theorem raised_eqv (n : Int) : D.eqv (raisedD n) (raisedD n) = true := by simp [raisedD, D.eqv, D.eqvL]
theorem raised_deep (n : Int) : (raisedD n).deep = 1 := by simp [raisedD, D.deep, D.deepL]
section
variable {c : Cn} {δ : List Sl} {Φ : Bp} {B : Bool → Prop}
/-- [_law_ask(what, ..) for what in ..] != [("raised", m)] * k -/
theorem dtp_asks {wi : TI} {te : TE} {ws : List Int} {m : Int} {n k : Nat} (hm : m = n) (hk : ws.length = k) (hk2 : k ≤ 100) (hi : ∀ P : List D → Prop, P (ws.map D.int) → DI c wi δ P) (ht : ∀ w ∈ ws, DEp c Φ te ((δ.set 9 .un).set 9 (.dat (.int w))) fun y => y = raisedD n) (p : B false) :
    DTp c Φ (tTest (tOp (rNeX c.K) (tLc wi (gName 9) tYes te [9]) (tOp rRep (tLst (tCons (tTupF (tCons (tC (.str "raised")) (tCons (tC (.int m)) tNil))) tNil)) (tC (.int k))))) δ B := by
  subst hm
  refine dtp_test (dep_ne (DNp.de (dnp_lc (js := [9]) (by simp) (DI.p (hi _ ⟨?_, fun i acc => acc = List.replicate i (raisedD n), rfl, fun i d acc hd e => ?_, fun acc e => ?_⟩)))))
  · rw [List.length_map, hk]; exact Nat.le_of_lt (small1000 (by omega))
  · rw [List.getElem?_map] at hd
    cases q : ws[i]? with
    | none => rw [q] at hd; cases hd
    | some w =>
      rw [q] at hd; cases hd
      refine dg_name fun G0 H0 G H σ Q φ b e' kk => ht w (List.mem_of_getElem? q) G0 H0 G H σ Q φ b e' fun d v G' H' pd => kk d v G' H' ?_
      rw [pd, e]
      exact (List.replicate_succ' ..).symm
  · have e : acc = List.replicate (ws.map D.int).length (raisedD n) := e
    rw [List.length_map, hk] at e
    subst e
    refine DE.p (DN.de (dn_rep (dn_lst (da_cons (de_tup2 (de_str (de_int (da_nil ⟨[_], rfl, by simp, [_], rfl, de_int ⟨k, rfl, by omega, by simp; omega, ?_⟩⟩)))))))) 
    refine ⟨?_, false, ?_, p⟩
    · have := deepL_rep (r := raisedD n) k
      rw [D.deep]; rw [raised_deep] at this; omega
    · have e : (List.replicate k [D.tup [.str "raised", .int n]]).flatten = List.replicate k (raisedD n) := by
        rw [List.flatten_replicate_singleton] <;> rfl
      rw [e, D.eqv, eqvL_rep (raised_eqv n)] <;> rfl
theorem DSp.ds {ts : TS} {R : Out → Prop} (h : DSp c (fun _ _ => True) ts δ R) : DS c ts δ R := fun G0 H0 G H σ D b e k => h G0 H0 G H σ D trivial b e k
theorem DEp.imp {te : TE} {P P' : D → Prop} (h : DEp c Φ te δ P) (i : ∀ d, P d → P' d) : DEp c Φ te δ P' := fun G0 H0 G H σ Q φ b e k => h G0 H0 G H σ Q φ b e fun d v G' H' p => k d v G' H' (i d p)
end
section
variable {K : PySem.W.Frag} {Ci Ca Cp : Addr}
theorem p_law02 (t a : Addr) (ns : List Int) : DS ⟨K, some (t, a, ns)⟩ (rest02 K (SpP K R_is_patch) (SpP K (R_value_at abcz)) (spIsS K) (spAsk K Ci Ca Cp) (spSts K) (SpP K R_pts02) (SpT K (R_state abcz 3)) (SpT K (R_patch abcz 5)))
    (slotsT ["script", "town", "patch", "state", "bad", "deep", "nested", "k", "wide", "what", "key", "one"] a t []) (GivesS fun d => d = .bl true) := by
  show DS _ _ [.raw (.ref a), .raw (.ref t), .un, .un, .un, .un, .un, .un, .un, .un, .un, .un] _
  unfold rest02
  have hA := alp_abcz
  refine ds_seq (ds_asgG (js := [2, 3]) (de_tup2 ?_))
  refine de_ct rfl rfl ?_
  repeat walk_at "s"
  refine ⟨[.int 2], _, rfl, ⟨2, rfl, by decide, rfl⟩, ?_⟩
  rintro _ ⟨p, rfl, hp⟩
  replace hp : PtOk abcz 2 2 p := hp
  refine de_ct rfl rfl ?_
  repeat walk_at "s"
  refine ⟨[.int 2], _, rfl, ⟨2, rfl, by decide, rfl⟩, fun s hs => ?_⟩
  replace hs : St abcz 2 s := hs
  refine dg_tup (c := ⟨K, some (t, a, ns)⟩) rfl (dgs_cons (js := [2]) (ks := [3]) (dg_name (dgs_cons (js := [3]) (ks := []) (dg_name (dgs_nil ?_)))))
  refine then_nx ?_
  have hsv : StV abcz s := .of hA (by decide) hs (by decide)
  have hpv : PtV abcz p := .of hA (by decide) hp (by omega) (by omega)
  have hS : s.wf ∧ s.deep ≤ 40 ∧ isStateD s = true := ⟨hs.wf hA, Nat.le_trans hs.deep (by omega), hsv.valid⟩
  have hP : p.toD.wf ∧ p.toD.deep ≤ 40 ∧ isNestD p.toD 6 = true := ⟨hpv.ok.wf hA, Nat.le_trans hpv.ok.deep (by omega), hpv.valid⟩
  -- the bad patches
  refine ds_seq (ds_for (js := [4]) (di_any (de_call (da_nil ⟨[], .lst badPts, rfl, ⟨rfl, rfl⟩, _, rfl, fun i δ => ∃ z, (∀ d, z ≠ .own d) ∧ δ = [.raw (.ref a), .raw (.ref t), .dat p.toD, .dat s, z, .un, .un, .un, .un, .un, .un, .un], ⟨.un, (fun d h => by cases h), rfl⟩, fun i d δ' hd ⟨z, nz, e⟩ => ?_, fun δ' ⟨z, nz, e⟩ => ?_⟩))))
  · subst e
    obtain ⟨b1, b2, b3⟩ := badPts_ok d (List.mem_of_getElem? hd)
    refine dg_name (DSp.ds (dsp_seq (dsp_ifF (DT.p (dt_test (de_notB (de_call (da_cons (de_var rfl (da_nil ⟨[d], _, rfl, ⟨d, rfl, b1, b2, rfl⟩, de_bl ⟨_, false, rfl, rfl, false, by rw [b3]; rfl, rfl, ?_⟩⟩))))))))))
    refine dsp_seq (dsp_ifF (dtp_asks (c := ⟨K, some (t, a, ns)⟩) (n := 2) (k := 9) (ws := [0, 1, 2, 3, 4, 5, 6, 7, 8]) rfl rfl (by decide) (fun P p => di_rng (de_int ⟨9, rfl, by decide, p⟩)) (fun w hw => DE.p (de_ask (c := ⟨K, some (t, a, ns)⟩) (de_var rfl (de_var rfl (de_non ⟨w, Cp, 2, rfl, fun K G H v u hv hu => .inl ⟨rfl, rfl, ?_, ?_, d, hv, b1, b2, b3⟩, rfl⟩))))) ⟨rfl, ?_⟩))
    · simp at hw; omega
    · simp at hw; omega
    refine dsp_ifF (dtp_asks (c := ⟨K, some (t, a, ns)⟩) (n := 2) (k := 3) (ws := [6, 7, 8]) rfl rfl (by decide) (fun P p => di_any (de_tup3 (de_int (de_int (de_int ⟨_, rfl, p⟩))))) (fun w hw => DE.p (de_ask (c := ⟨K, some (t, a, ns)⟩) (de_var rfl (de_var rfl (de_var rfl ⟨w, Cp, 2, rfl, fun K G H v u hv hu => .inr (.inl ⟨rfl, rfl, ?_, ?_, ⟨p.toD, hv, hP⟩, d, hu, b1, b2, b3⟩), rfl⟩))))) ⟨rfl, .dat d, (fun d h => by cases h), rfl⟩)
    · simp at hw; omega
    · simp at hw; omega
  subst e
  refine then_nx ?_
  -- the bad states
  have no : NoOwn [.raw (.ref a), .raw (.ref t), .dat p.toD, .dat s, z, .un, .un, .un, .un, .un, .un, .un] := fun j d h => by
    match j, h with
    | 4, h => exact nz d (by simpa using h)
    | 0, h => cases h
    | 1, h => cases h
    | 2, h => cases h
    | 3, h => cases h
    | 5, h => cases h
    | 6, h => cases h
    | 7, h => cases h
    | 8, h => cases h
    | 9, h => cases h
    | 10, h => cases h
    | 11, h => cases h
    | j + 12, h => simp at h
  refine ds_seq (ds_forMix (c := ⟨K, some (t, a, ns)⟩) (i0 := 4) no (fun d hd => ?_) (fun b kd hk => ?_) fun z => ?_)
  · obtain ⟨b1, b2, b3⟩ := badSts_ok d hd
    show DS _ _ [.raw (.ref a), .raw (.ref t), .dat p.toD, .dat s, .dat d, .un, .un, .un, .un, .un, .un, .un] _
    refine DSp.ds (dsp_seq (dsp_ifF (DT.p (dt_test (de_notB (de_isS (c := ⟨K, some (t, a, ns)⟩) (de_var rfl ⟨b1, b2, de_bl ⟨_, false, rfl, rfl, false, by rw [b3]; rfl, rfl, ?_⟩⟩)))))))
    refine dsp_seq (dsp_ifF (dtp_asks (c := ⟨K, some (t, a, ns)⟩) (n := 0) (k := 2) (ws := [3, 4]) rfl rfl (by decide) (fun P p => di_any (de_tup2 (de_int (de_int ⟨_, rfl, p⟩)))) (fun w hw => DE.p (de_ask (c := ⟨K, some (t, a, ns)⟩) (de_var rfl (de_var rfl (de_var rfl ⟨w, Ci, 0, rfl, fun K G H v u hv hu => .inr (.inr (.inl ⟨rfl, rfl, ?_, ⟨p.toD, hv, hP⟩, .inl ⟨d, hu, b1, b2, b3⟩⟩)), rfl⟩))))) ⟨rfl, ?_⟩))
    · simpa using hw
    refine dsp_seq (dsp_ifF (dtp_asks (c := ⟨K, some (t, a, ns)⟩) (n := 0) (k := 6) (ws := [9, 10, 11, 12, 13, 14]) rfl rfl (by decide) (fun P p => di_rng2 (by decide) (by decide) (by decide) (by decide) p) (fun w hw => DE.p (de_ask (c := ⟨K, some (t, a, ns)⟩) (de_var rfl (de_var rfl (de_non ⟨w, Ci, 0, rfl, fun K G H v u hv hu => .inr (.inr (.inr (.inr (.inl ⟨rfl, rfl, ?_, ?_, .inl ⟨d, hv, b1, b2, b3⟩⟩)))), rfl⟩))))) ⟨rfl, ?_⟩))
    · simp at hw; omega
    · simp at hw; omega
    refine dsp_ifF (dtp_asks (c := ⟨K, some (t, a, ns)⟩) (n := 0) (k := 4) (ws := [10, 11, 13, 14]) rfl rfl (by decide) (fun P p => di_any (de_tup4 (de_int (de_int (de_int (de_int ⟨_, rfl, p⟩)))))) (fun w hw => DE.p (de_ask (c := ⟨K, some (t, a, ns)⟩) (de_var rfl (de_var rfl (de_var rfl ⟨w, Ci, 0, rfl, fun K G H v u hv hu => .inr (.inr (.inr (.inr (.inr (.inl ⟨rfl, rfl, ?_, ⟨s, hv, hS⟩, .inl ⟨d, hu, b1, b2, b3⟩⟩))))), rfl⟩))))) ⟨rfl, rfl⟩)
    simpa using hw
  · show DSp _ _ _ [.raw (.ref a), .raw (.ref t), .dat p.toD, .dat s, .raw (.ref b), .un, .un, .un, .un, .un, .un, .un] _
    refine dsp_seq (dsp_ifF (dtp_test (dep_notB (dep_isS (c := ⟨K, some (t, a, ns)⟩) rfl hk (DE.p (de_bl ⟨false, false, rfl, rfl, false, rfl, rfl, ?_⟩))))))
    refine dsp_seq (dsp_ifF (dtp_asks (c := ⟨K, some (t, a, ns)⟩) (n := 0) (k := 2) (ws := [3, 4]) rfl rfl (by decide) (fun P p => di_any (de_tup2 (de_int (de_int ⟨_, rfl, p⟩)))) (fun w hw => dep_ask2 (c := ⟨K, some (t, a, ns)⟩) (w := w) rfl rfl rfl hk (.inl ⟨by simpa using hw, hP⟩) rfl) ⟨rfl, ?_⟩))
    refine dsp_seq (dsp_ifF (dtp_asks (c := ⟨K, some (t, a, ns)⟩) (n := 0) (k := 6) (ws := [9, 10, 11, 12, 13, 14]) rfl rfl (by decide) (fun P p => di_rng2 (by decide) (by decide) (by decide) (by decide) p) (fun w hw => dep_ask1 (c := ⟨K, some (t, a, ns)⟩) (w := w) rfl rfl (de_non trivial) hk (by simp at hw; omega) rfl) ⟨rfl, ?_⟩))
    exact dsp_ifF (dtp_asks (c := ⟨K, some (t, a, ns)⟩) (n := 0) (k := 4) (ws := [10, 11, 13, 14]) rfl rfl (by decide) (fun P p => di_any (de_tup4 (de_int (de_int (de_int (de_int ⟨_, rfl, p⟩)))))) (fun w hw => dep_ask2 (c := ⟨K, some (t, a, ns)⟩) (w := w) rfl rfl rfl hk (.inr ⟨by simpa using hw, hS⟩) rfl) ⟨rfl, rfl⟩)
  show DS _ _ [.raw (.ref a), .raw (.ref t), .dat p.toD, .dat s, z, .un, .un, .un, .un, .un, .un, .un] _
  -- the bad paths
  refine ds_seq (ds_for (js := [4]) (di_any (de_tup (da_cons (de_non (da_cons (de_str (da_cons (ce_lst1 (de_str (da_cons (de_tup1 (de_str (da_cons (de_tup1 (de_str (da_cons (de_tup1 (de_int (da_cons (de_repF (c := ⟨K, some (t, a, ns)⟩) (de_tup1 (de_str ⟨_, rfl, by simp, by simp, de_int ⟨7, rfl, by decide, by decide, by simp, da_cons (de_tup1 (de_str (da_cons (de_tup2 (de_str (de_non (da_nil ⟨badPas, rfl, by decide, _, rfl, fun i δ => ∃ z, δ = [.raw (.ref a), .raw (.ref t), .dat p.toD, .dat s, z, .un, .un, .un, .un, .un, .un, .un], ⟨_, rfl⟩, fun i d δ' hd ⟨z, e⟩ => ?_, fun δ' ⟨z, e⟩ => ?_⟩)))))))⟩⟩)))))))))))))))))))))))
  · subst e
    obtain ⟨b1, b2⟩ := badPas_ok d (List.mem_of_getElem? hd)
    have nr : ∀ n : Nat, (!D.eqv (raisedD n) (.tup [.str "raised", .int n])) = false := fun n => by
      have := raised_eqv n
      unfold raisedD at this ⊢
      rw [this]; rfl
    refine dg_name (ds_if (dt_or (dt_test (de_ne (de_ask (c := ⟨K, some (t, a, ns)⟩) (de_int (de_var rfl (de_var rfl ⟨5, Ca, 1, rfl, fun K G H v u hv hu => .inr (.inr (.inr (.inl ⟨rfl, rfl, rfl, ⟨p.toD, hv, hP⟩, d, hu, b1, b2⟩))), de_tup2 (de_str (de_int ⟨by rw [raised_deep]; decide, _, rfl, it_f (nr 1) ?_⟩))⟩))))))))
    refine dt_test (de_ne (de_ask (c := ⟨K, some (t, a, ns)⟩) (de_int (de_var rfl (de_var rfl ⟨9, Ca, 1, rfl, fun K G H v u hv hu => .inr (.inr (.inr (.inr (.inr (.inr ⟨rfl, rfl, rfl, ⟨s, hv, hS⟩, d, hu, b1, b2⟩))))), de_tup2 (de_str (de_int ⟨by rw [raised_deep]; decide, _, rfl, it_f (nr 1) (ds_next ⟨_, rfl⟩)⟩))⟩)))))
  subst e
  refine then_nx (ds_seq (ds_par (ce_disp1 (DN.de (dn_dnew (de_tup1 (de_str ?_)))))))
  refine then_nx (ds_seq (ds_for (js := [7]) (di_rng (de_int ⟨3, rfl, by decide, fun i δ => ∃ z7, δ = [.raw (.ref a), .raw (.ref t), .dat p.toD, .dat s, z, .dat (nsS (.dic []) (i + 1)), .dat keepD, z7, .un, .un, .un, .un], ⟨_, rfl⟩, fun i d δ' hd ⟨z7, e⟩ => ?_, fun δ' ⟨z7, e⟩ => ?_⟩))))
  · subst e
    exact dg_name (ds_asg (ce_disp1 (de_var rfl ⟨_, rfl⟩)))
  have e : δ' = [.raw (.ref a), .raw (.ref t), .dat p.toD, .dat s, z, .dat (nsS (.dic []) 4), .dat keepD, z7, .un, .un, .un, .un] := e
  subst e
  refine then_nx (ds_seq (ds_for (js := [7]) (di_rng (de_int ⟨6, rfl, by decide, fun i δ => ∃ z7, δ = [.raw (.ref a), .raw (.ref t), .dat p.toD, .dat s, z, .dat (nsS (.dic []) 4), .dat (mgP i), z7, .un, .un, .un, .un], ⟨_, rfl⟩, fun i d δ' hd ⟨z7, e⟩ => ?_, fun δ' ⟨z7, e⟩ => ?_⟩))))
  · subst e
    exact dg_name (ds_asg (de_tup2 (de_str (ce_disp1 (de_var rfl ⟨_, rfl⟩)))))
  have e : δ' = [.raw (.ref a), .raw (.ref t), .dat p.toD, .dat s, z, .dat (nsS (.dic []) 4), .dat (mgP 6), z7, .un, .un, .un, .un] := e
  subst e
  refine then_nx (ds_seq (ds_asg (ce_let (c := ⟨K, some (t, a, ns)⟩) (xs := abcf) (d := .int 999) rfl (by decide) (by decide) (by simp) (fun x => de_int rfl) (then_nx ?_))))
  show DS _ _ [.raw (.ref a), .raw (.ref t), .dat p.toD, .dat s, z, .dat (nsS (.dic []) 4), .dat (mgP 6), z7, .dat (letD abcf (.int 999)), .un, .un, .un] _
  -- what is valid
  have tru : ∀ {δ : List Sl} {t1 : TE} {d : D} {B : Bool → Prop}, DE ⟨K, some (t, a, ns)⟩ t1 δ (fun x => x = d) → R_is_patch [d] (.bl true) → B false → DT ⟨K, some (t, a, ns)⟩ (tTest (tOp rNotB (tCall (SpP K R_is_patch) [] E0 (tCons t1 tNil)) (tC (.bl true)))) δ B := fun h1 h2 p =>
    dt_test (de_notB (de_call (da_cons (h1.imp fun x e => by subst e; exact da_nil ⟨[x], .bl true, rfl, h2, de_bl ⟨true, true, rfl, rfl, false, rfl, p⟩⟩))))
  refine ds_seq (ds_if (tru (d := .tup [.str "merge", letD abcf (.tup [.str "drop"])]) (de_tup2 (de_str (ce_let (c := ⟨K, some (t, a, ns)⟩) (xs := abcf) (d := .tup [.str "drop"]) rfl (by decide) (by decide) (by simp) (fun x => de_tup1 (de_str rfl)) rfl))) (patch_by (by decide +kernel)) (it_f rfl (ds_next (then_nx ?_)))))
  refine ds_seq (ds_if (dt_test (de_ne (DN.de (dn_lcM (js := [11]) (fun _ => .bl true) (by simp) (di_any (de_tup (da_cons (de_var rfl (da_cons (de_var rfl (da_cons (de_neg (de_int ⟨_, rfl, da_cons (de_str (da_cons (de_str (da_cons (de_non (da_cons (DN.de (dn_dnew (da_nil ⟨okSts, rfl, by decide, _, rfl, by decide, fun i d hd => ?_, ?_⟩)))))))))⟩))))))))))))))
  · obtain ⟨b1, b2, b3⟩ := okSts_ok d (List.mem_of_getElem? hd)
    exact dg_name (de_isS (c := ⟨K, some (t, a, ns)⟩) (de_var rfl ⟨b1, b2, by rw [b3]⟩))
  refine DN.de (dn_rep (dn_lst (da_cons (de_bl (da_nil ⟨[_], rfl, by simp, [_], rfl, de_int ⟨7, rfl, by decide, by simp, by decide, _, rfl, it_f (by decide) (ds_next (then_nx ?_))⟩⟩)))))
  refine ds_seq (ds_if (tru (de_var rfl rfl) (patch_by (by decide +kernel)) (it_f rfl (ds_next (then_nx ?_)))))
  refine ds_seq (ds_if (dt_or (tru (d := .tup [.str "chain", .tup [keepD, keepD, keepD, keepD, keepD, keepD]]) (de_tup2 (de_str (de_repF (c := ⟨K, some (t, a, ns)⟩) (de_tup1 (de_tup1 (de_str ⟨_, rfl, by simp, by simp, de_int ⟨6, rfl, by decide, by decide, by simp, rfl⟩⟩)))))) (patch_by (by decide +kernel)) (it_f rfl ?_))))
  refine dt_test (de_notN (de_call (da_cons (de_var rfl (da_cons (de_repF (c := ⟨K, some (t, a, ns)⟩) (de_tup1 (de_str ⟨_, rfl, by simp, by simp, de_int ⟨6, rfl, by decide, by decide, by simp, da_nil ⟨[nsS (.dic []) 4, pathD ["a", "a", "a", "a", "a", "a"]], .non, rfl, ⟨_, _, rfl, ⟨by decide, by decide⟩, deep_st, by decide +kernel, rfl⟩, _, rfl, it_f rfl (ds_next (then_nx ?_))⟩⟩⟩))))))))
  exact ds_ret (de_isB (de_call (da_cons (de_tup2 (de_str (de_tup0 (da_nil ⟨[_], .bl true, rfl, patch_by (by decide +kernel), de_bl ⟨true, true, rfl, rfl, rfl⟩⟩)))))))
end
end Mp
set_option maxRecDepth 100000
set_option maxHeartbeats 4000000
namespace Mp
open PySem L2
section
variable {P : Program} {w : World} {K : PySem.W.Frag} {mg : Str → Option Value} {base : Heap}
theorem FnP.bodyC {x : Str} {st : Stmt} {f : Addr} {fd : FuncData} {N ps : List Str} {k : Nat} {sp : Sp} {t : TS} (F : FnP K x st f fd) (S : FnScope N ps (defScope st)) (len : ∀ {vs H Q E}, sp vs H Q E → vs.length = ps.length)
    (h : ∀ {vs H Q E}, sp vs H Q E → t (ends Q) (L2.start N vs) H)
    (hb : ∀ (cdv : Value) (A : Around) (outer : List Env) (s : Shared) (H : Hp) (E : XK), Room k (A.deeper (PyProof.Rows.envOfC x (defScope st) s.heap.objs.size f cdv)) → PSs (cxOf CX0 P w K mg base N x (defScope st) f cdv A outer s H E).nox (defBody st) t) :
    FnOk P w K mg base CX0 (k + 1) f fd ps sp := F.ok S (fun vs H Q E q => len q) fun cdv A outer s H vs Q E hr q => ⟨t, PSs.nox (hb cdv A outer s H E hr), h q⟩
theorem FnP.bodyX {x : Str} {st : Stmt} {f : Addr} {fd : FuncData} {N ps : List Str} {k : Nat} {sp : Sp} {t : WX → TS} (F : FnP K x st f fd) (S : FnScope N ps (defScope st)) (len : ∀ {vs H Q E}, sp vs H Q E → vs.length = ps.length)
    (h : ∀ {vs H Q E}, sp vs H Q E → t (wE E) (ends Q) (L2.start N vs) H)
    (hb : ∀ (cdv : Value) (A : Around) (outer : List Env) (s : Shared) (H : Hp) (E : XK), Room k (A.deeper (PyProof.Rows.envOfC x (defScope st) s.heap.objs.size f cdv)) → PSs (cxOf (L2.CX P w) P w K mg base N x (defScope st) f cdv A outer s H E) (defBody st) (t (wE E))) :
    FnOk P w K mg base (L2.CX P w) (k + 1) f fd ps sp := F.ok S (fun vs H Q E q => len q) fun cdv A outer s H vs Q E hr q => ⟨t (wE E), hb cdv A outer s H E hr, h q⟩
theorem FnOk.or {CX : CXT} {k : Nat} {f : Addr} {fd : FuncData} {ps : List Str} {sp sp1 sp2 : Sp} (F1 : FnOk P w K mg base CX k f fd ps sp1) (F2 : FnOk P w K mg base CX k f fd ps sp2) (h : ∀ vs H Q E, sp vs H Q E → sp1 vs H Q E ∨ sp2 vs H Q E) : FnOk P w K mg base CX k f fd ps sp :=
  ⟨fun vs H Q E q => (h vs H Q E q).elim (F1.len vs H Q E) (F2.len vs H Q E), fun A outer s H args us vs Q E hr e b r q => (h vs H Q E q).elim (F1.run A outer s H args us vs Q E hr e b r) (F2.run A outer s H args us vs Q E hr e b r)⟩
theorem Cl.no {x : Str} {k : Nat} (F : ∃ (f : Addr) (fd : FuncData) (ps : List Str), Binds K fd ps [] ∧ PySem.W.keepIn K (.ref f) = true ∧ mg x = some (.ref f)) : Cl P w K mg base x k (fun _ _ _ _ => False) := Cl.none (sp' := fun _ _ _ _ => False) (k' := 0) F fun _ _ _ _ h => h
end
section
variable {K : PySem.W.Frag} {vs : List V} {H : Hp} {Q : VK} {E : XK} {Cs Cp Ca : Addr}
theorem len_docO (q : spDocO K vs H Q E) : vs.length = 2 := by obtain ⟨_, _, _, _, rfl, _⟩ := q; rfl
theorem len_stO (q : spStO K vs H Q E) : vs.length = 1 := by obtain ⟨_, _, _, rfl, _⟩ := q; rfl
theorem len_nsO (q : spNSO K Cs vs H Q E) : vs.length = 1 := by obtain ⟨_, _, _, ⟨_, _, rfl, _⟩, _⟩ := q; rfl
theorem len_S1 (q : spS1 K Cs vs H Q E) : vs.length = 1 := by obtain ⟨_, _, _, ⟨_, _, rfl, _⟩, _⟩ := q; rfl
theorem len_P1 (q : spP1 K Cs vs H Q E) : vs.length = 1 := by obtain ⟨_, _, _, ⟨_, _, rfl, _⟩, _⟩ := q; rfl
theorem len_SS (q : spSS K Cs vs H Q E) : vs.length = 2 := by obtain ⟨_, _, _, ⟨_, _, _, rfl, _⟩, _⟩ := q; rfl
theorem len_SSS (q : spSSS K Cs vs H Q E) : vs.length = 3 := by obtain ⟨_, _, _, ⟨_, _, _, _, rfl, _⟩, _⟩ := q; rfl
theorem len_Ssl (q : spSsl K Cs vs H Q E) : vs.length = 1 := by obtain ⟨_, _, _, ⟨_, _, _, _, _, rfl, _⟩, _⟩ := q; rfl
theorem len_PP (q : spPP K Cs vs H Q E) : vs.length = 2 := by obtain ⟨_, _, _, ⟨_, _, _, rfl, _⟩, _⟩ := q; rfl
theorem len_PS (q : spPS K Cp Cs vs H Q E) : vs.length = 2 := by obtain ⟨_, _, _, ⟨_, _, rfl, _⟩, _⟩ := q; rfl
theorem len_PA (q : spPA K Cp Ca vs H Q E) : vs.length = 2 := by obtain ⟨_, _, _, ⟨_, _, rfl, _⟩, _⟩ := q; rfl
theorem len_SA (q : spSA K Cs Ca vs H Q E) : vs.length = 2 := by obtain ⟨_, _, _, ⟨_, _, rfl, _⟩, _⟩ := q; rfl
theorem len_ask (q : spAsk K Cs Ca Cp vs H Q E) : vs.length = 3 := by obtain ⟨_, _, _, _, _, _, _, rfl, _⟩ := q; rfl
theorem len_sts (q : spSts K vs H Q E) : vs.length = 0 := by obtain ⟨_, _, rfl, _⟩ := q; rfl
theorem spX_good {R : List D → D ⊕ ExD → Prop} {G : Hp} {d : D} {v : V} (s : Sub ⟨K, none⟩ G H) (hv : Has K G d v) (r : R [d] (.inl .non)) (k : ∀ G' H', Step ⟨K, none⟩ G H G' H' → Q .non H') : SpX K R [v] H Q E :=
  ⟨G, [d], .inl .non, s, hasL_cons hv hasL_nil, r, (fun d' u G' H' e st hu => by cases e; unfold Has at hu; subst hu; exact k G' H' st), (fun x G' H' e => by cases e)⟩
theorem spX_bad {R : List D → D ⊕ ExD → Prop} {G : Hp} {d : D} {v : V} {C : Addr} (s : Sub ⟨K, none⟩ G H) (hv : Has K G d v) (r : R [d] (.inr (.plain C))) (k : ∀ G' H', Step ⟨K, none⟩ G H G' H' → E (.ref C) none H') : SpX K R [v] H Q E :=
  ⟨G, [d], .inr (.plain C), s, hasL_cons hv hasL_nil, r, (fun d' u G' H' e => by cases e), fun x G' H' e st => by cases e; exact fun d hd => by cases hd; exact k G' H' st⟩
theorem ns_of (q : spNS K Cs vs H Q E) : SpX K (R_needSX Cs) vs H Q E ∨ spNSO K Cs vs H Q E := by
  obtain ⟨G, s, ⟨⟨v, rfl, d, hv, h1, h2, h3⟩, k⟩ | ⟨⟨v, rfl, ⟨d, hv, h1, h2, h3⟩ | o⟩, k⟩⟩ := q
  · exact .inl (spX_good s hv ⟨d, rfl, h1, h2, by rw [if_pos h3]⟩ k)
  · exact .inl (spX_bad s hv ⟨d, rfl, h1, h2, by rw [if_neg (by rw [h3]; simp)]⟩ k)
  · exact .inr ⟨G, Cs, s, ⟨rfl, v, rfl, o⟩, k⟩
theorem np_of (q : spNP K Cp vs H Q E) : SpX K (R_needPX Cp) vs H Q E := by
  obtain ⟨G, s, ⟨⟨v, rfl, d, hv, h1, h2, h3⟩, k⟩ | ⟨⟨v, rfl, d, hv, h1, h2, h3⟩, k⟩⟩ := q
  · exact spX_good s hv ⟨d, rfl, h1, h2, by rw [if_pos h3]⟩ k
  · exact spX_bad s hv ⟨d, rfl, h1, h2, by rw [if_neg (by rw [h3]; simp)]⟩ k
theorem na_of (q : spNA K Ca vs H Q E) : SpX K (R_needAX Ca) vs H Q E := by
  obtain ⟨G, C, s, ⟨rfl, v, rfl, d, hv, h1, h2⟩, k⟩ := q
  exact spX_bad s hv ⟨d, rfl, h1, h2, rfl⟩ k
end
end Mp
set_option maxRecDepth 100000
set_option maxHeartbeats 4000000
namespace Mp
open PySem L2
def t_law02 (K : PySem.W.Frag) (sp_is_patch sp_value_at sp_is_state sp__law_ask sp__law_states sp__law_patches sp__law_state sp__law_patch : Sp) : TS :=
  (tSeq (tAsg (tLst (tCons (tC (.int 0)) (tCons (tC (.int 0)) tNil))) (gName 1))
    (tSeq (tAsg (tTupF (tCons (tCall sp__law_patch [] E0 (tCons (tVar 0) (tCons (tVar 1) (tCons (tC (.int 2)) tNil)))) (tCons (tCall sp__law_state [] E0 (tCons (tVar 0) (tCons (tVar 1) (tCons (tC (.int 2)) tNil)))) tNil))) (gTup K 2 (gCons (gName 2) (gCons (gName 3) gNil))))
    (tSeq (tFor (iAny K (tCall sp__law_patches [] E0 tNil)) (gName 4) (tSeq (tIfS (tTest (tOp rNotB (tCall sp_is_patch [] E0 (tCons (tVar 4) tNil)) (tC (.bl false)))) (tRet (tC (.bl false))) tNext)
    (tSeq (tIfS (tTest (tOp (rNeX K) (tLc (iRng1 (tCons (tC (.int 9)) tNil)) (gName 9) tYes (tCall sp__law_ask [] E0 (tCons (tVar 9) (tCons (tVar 4) (tCons (tC .non) tNil)))) [9]) (tOp rRep (tLst (tCons (tTupF (tCons (tC (.str "raised")) (tCons (tC (.int 2)) tNil))) tNil)) (tC (.int 9))))) (tRet (tC (.bl false))) tNext)
    (tIfS (tTest (tOp (rNeX K) (tLc (iAny K (tTupF (tCons (tC (.int 6)) (tCons (tC (.int 7)) (tCons (tC (.int 8)) tNil))))) (gName 9) tYes (tCall sp__law_ask [] E0 (tCons (tVar 9) (tCons (tVar 2) (tCons (tVar 4) tNil)))) [9]) (tOp rRep (tLst (tCons (tTupF (tCons (tC (.str "raised")) (tCons (tC (.int 2)) tNil))) tNil)) (tC (.int 3))))) (tRet (tC (.bl false))) tNext))))
    (tSeq (tFor (iAny K (tCall sp__law_states [] E0 tNil)) (gName 4) (tSeq (tIfS (tTest (tOp rNotB (tCall sp_is_state [] E0 (tCons (tVar 4) tNil)) (tC (.bl false)))) (tRet (tC (.bl false))) tNext)
    (tSeq (tIfS (tTest (tOp (rNeX K) (tLc (iAny K (tTupF (tCons (tC (.int 3)) (tCons (tC (.int 4)) tNil)))) (gName 9) tYes (tCall sp__law_ask [] E0 (tCons (tVar 9) (tCons (tVar 2) (tCons (tVar 4) tNil)))) [9]) (tOp rRep (tLst (tCons (tTupF (tCons (tC (.str "raised")) (tCons (tC (.int 0)) tNil))) tNil)) (tC (.int 2))))) (tRet (tC (.bl false))) tNext)
    (tSeq (tIfS (tTest (tOp (rNeX K) (tLc (iRng2 (tCons (tC (.int 9)) (tCons (tC (.int 15)) tNil))) (gName 9) tYes (tCall sp__law_ask [] E0 (tCons (tVar 9) (tCons (tVar 4) (tCons (tC .non) tNil)))) [9]) (tOp rRep (tLst (tCons (tTupF (tCons (tC (.str "raised")) (tCons (tC (.int 0)) tNil))) tNil)) (tC (.int 6))))) (tRet (tC (.bl false))) tNext)
    (tIfS (tTest (tOp (rNeX K) (tLc (iAny K (tTupF (tCons (tC (.int 10)) (tCons (tC (.int 11)) (tCons (tC (.int 13)) (tCons (tC (.int 14)) tNil)))))) (gName 9) tYes (tCall sp__law_ask [] E0 (tCons (tVar 9) (tCons (tVar 3) (tCons (tVar 4) tNil)))) [9]) (tOp rRep (tLst (tCons (tTupF (tCons (tC (.str "raised")) (tCons (tC (.int 0)) tNil))) tNil)) (tC (.int 4))))) (tRet (tC (.bl false))) tNext)))))
    (tSeq (tFor (iAny K (tTupF (tCons (tC .non) (tCons (tC (.str "a")) (tCons (tLst (tCons (tC (.str "a")) tNil)) (tCons (tTupF (tCons (tC (.str "A")) tNil)) (tCons (tTupF (tCons (tC (.str "")) tNil)) (tCons (tTupF (tCons (tC (.int 1)) tNil)) (tCons (tOp (rRepF K) (tTupF (tCons (tC (.str "a")) tNil)) (tC (.int 7))) (tCons (tTupF (tCons (tC (.str "abcdefg")) tNil)) (tCons (tTupF (tCons (tC (.str "a")) (tCons (tC .non) tNil))) tNil))))))))))) (gName 4) (tIfS (tOr (tTest (tOp (rNeX K) (tCall sp__law_ask [] E0 (tCons (tC (.int 5)) (tCons (tVar 2) (tCons (tVar 4) tNil)))) (tTupF (tCons (tC (.str "raised")) (tCons (tC (.int 1)) tNil))))) (tTest (tOp (rNeX K) (tCall sp__law_ask [] E0 (tCons (tC (.int 9)) (tCons (tVar 3) (tCons (tVar 4) tNil)))) (tTupF (tCons (tC (.str "raised")) (tCons (tC (.int 1)) tNil)))))) (tRet (tC (.bl false))) tNext))
    (tSeq (tPar 5 6 (tCons (tDisp [((tC (.str "a")), tDNewK)]) (tCons (tTupF (tCons (tC (.str "keep")) tNil)) tNil)))
    (tSeq (tFor (iRng1 (tCons (tC (.int 3)) tNil)) (gName 7) (tAsg (tDisp [((tC (.str "a")), (tVar 5))]) (gName 5)))
    (tSeq (tFor (iRng1 (tCons (tC (.int 6)) tNil)) (gName 7) (tAsg (tTupF (tCons (tC (.str "merge")) (tCons (tDisp [((tC (.str "abcdef")), (tVar 6))]) tNil))) (gName 6)))
    (tSeq (tAsg (tCB (rDictX K) (tCons (tLc (iAny K (tC (.str "abcdef"))) (gName 10) tYes (tTupF (tCons (tVar 10) (tCons (tC (.int 999)) tNil))) [10]) tNil)) (gName 8))
    (tSeq (tIfS (tTest (tOp rNotB (tCall sp_is_patch [] E0 (tCons (tTupF (tCons (tC (.str "merge")) (tCons (tCB (rDictX K) (tCons (tLc (iAny K (tC (.str "abcdef"))) (gName 10) tYes (tTupF (tCons (tVar 10) (tCons (tTupF (tCons (tC (.str "drop")) tNil)) tNil))) [10]) tNil)) tNil))) tNil)) (tC (.bl true)))) (tRet (tC (.bl false))) tNext)
    (tSeq (tIfS (tTest (tOp (rNeX K) (tLc (iAny K (tTupF (tCons (tVar 5) (tCons (tVar 8) (tCons (tUn (rU fun i => .int (-i)) (tC (.int 999))) (tCons (tC (.str "abcdef")) (tCons (tC (.str "")) (tCons (tC .non) (tCons tDNewK tNil))))))))) (gName 11) tYes (tCall sp_is_state [] E0 (tCons (tVar 11) tNil)) [11]) (tOp rRep (tLst (tCons (tC (.bl true)) tNil)) (tC (.int 7))))) (tRet (tC (.bl false))) tNext)
    (tSeq (tIfS (tTest (tOp rNotB (tCall sp_is_patch [] E0 (tCons (tVar 6) tNil)) (tC (.bl true)))) (tRet (tC (.bl false))) tNext)
    (tSeq (tIfS (tOr (tTest (tOp rNotB (tCall sp_is_patch [] E0 (tCons (tTupF (tCons (tC (.str "chain")) (tCons (tOp (rRepF K) (tTupF (tCons (tTupF (tCons (tC (.str "keep")) tNil)) tNil)) (tC (.int 6))) tNil))) tNil)) (tC (.bl true)))) (tTest (tOp (fun x y H Q => y = .non ∧ Q (.bl (!decide (x = .non))) H) (tCall sp_value_at [] E0 (tCons (tVar 5) (tCons (tOp (rRepF K) (tTupF (tCons (tC (.str "a")) tNil)) (tC (.int 6))) tNil))) (tC .non)))) (tRet (tC (.bl false))) tNext)
    (tRet (tOp rIsB (tCall sp_is_patch [] E0 (tCons (tTupF (tCons (tC (.str "chain")) (tCons (tTupF tNil) tNil))) tNil)) (tC (.bl true)))))))))))))))))
section
variable {P : Program} {w : World} {K : PySem.W.Frag} {mg : Str → Option Value} {base : Heap}
theorem sc_is_text : FnScope ["value", "least", "char"] ["value", "least"] (defScope s_is_text) := ⟨rfl, rfl, rfl, by decide +kernel, rfl, by decide +kernel, by decide +kernel⟩
theorem w_is_text {k : Nat} (g_LONGEST : ∃ tk, mg "LONGEST" = some (.int 6 tk)) (g_LETTERS : ∃ tk, mg "LETTERS" = some (.str "abcdefghijklmnopqrstuvwxyz" tk)) (m_isinstance : mg "isinstance" = none) (m_str : mg "str" = none) (m_len : mg "len" = none) (m_all : mg "all" = none) : ∀ (f : Addr) (cdv : Value) (A : Around) (outer : List Env) (s : Shared) (H : Hp) (E : XK), Room k (A.deeper (PyProof.Rows.envOfC "is_text" (defScope s_is_text) s.heap.objs.size f cdv)) →
    PSs (cxOf CX0 P w K mg base ["value", "least", "char"] "is_text" (defScope s_is_text) f cdv A outer s H E).nox (defBody s_is_text) (t_is_text K) := fun f cdv A outer s H E hr => by
  have nd := sc_is_text.nd
  have hu : (A.deeper (PyProof.Rows.envOfC "is_text" (defScope s_is_text) s.heap.objs.size f cdv)).units + 1 < cLine := hu_of hr
  have h64 : (A.deeper (PyProof.Rows.envOfC "is_text" (defScope s_is_text) s.heap.objs.size f cdv)).units + 64 < cLine := hr.units
  exact (pss_one (ps_ret (pe_and (pe_callB call_isi (by rfl) m_isinstance (by decide +kernel) (pa_cons (pv 0) (pa_cons (pe_gty rfl m_str (by decide +kernel)) pa_nil))) (pe_and (pe_chain op_le op_le (pv 1) (pe_callB call_lenX (by rfl) m_len PySem.boot_len (pa_cons (pv 0) pa_nil)) (pe_gint rfl g_LONGEST)) (pe_one (pe_callB (cr_all rfl) (by rfl) m_all (by decide +kernel) (pa_cons (pe_lc (own := [("char", 2)]) (by rfl) nd (pi_any (pv 0)) (blkOk_by (own := [("char", 2)]) (N := ["value", "least", "char"]) (sc := defScope s_is_text) (by decide +kernel)) (fun _ _ _ _ _ => (pg_name (i := 2) nd rfl (by first | exact Or.inl rfl | exact Or.inr rfl))) (fun _ _ _ _ _ => pts_nil) (fun _ _ _ _ _ => (pe_cmpR (op_inX hu) (pv 2) (pe_gstr rfl g_LETTERS) (by rfl)))) pa_nil)))))))
theorem sc_is_scalar : FnScope ["value"] ["value"] (defScope s_is_scalar) := ⟨rfl, rfl, rfl, by decide +kernel, rfl, by decide +kernel, by decide +kernel⟩
theorem w_is_scalar {k : Nat} {sp_is_text : Sp} (g_LARGEST : ∃ tk, mg "LARGEST" = some (.int 999 tk)) (m_isinstance : mg "isinstance" = none) (m_int : mg "int" = none) (m_bool : mg "bool" = none) (c_is_text : Cl P w K mg base "is_text" k sp_is_text) : ∀ (f : Addr) (cdv : Value) (A : Around) (outer : List Env) (s : Shared) (H : Hp) (E : XK), Room k (A.deeper (PyProof.Rows.envOfC "is_scalar" (defScope s_is_scalar) s.heap.objs.size f cdv)) →
    PSs (cxOf CX0 P w K mg base ["value"] "is_scalar" (defScope s_is_scalar) f cdv A outer s H E).nox (defBody s_is_scalar) (t_is_scalar K sp_is_text) := fun f cdv A outer s H E hr => by
  have nd := sc_is_scalar.nd
  have hu : (A.deeper (PyProof.Rows.envOfC "is_scalar" (defScope s_is_scalar) s.heap.objs.size f cdv)).units + 1 < cLine := hu_of hr
  have h64 : (A.deeper (PyProof.Rows.envOfC "is_scalar" (defScope s_is_scalar) s.heap.objs.size f cdv)).units + 64 < cLine := hr.units
  exact (pss_cons (ps_if (PW.pt (pw_and (pt_val (pe_callB call_isi (by rfl) m_isinstance (by decide +kernel) (pa_cons (pv 0) (pa_cons (pe_gty rfl m_int (by decide +kernel)) pa_nil)))) (pw_and1 (pt_not (pt_val (pe_callB call_isi (by rfl) m_isinstance (by decide +kernel) (pa_cons (pv 0) (pa_cons (pe_gty rfl m_bool (by decide +kernel)) pa_nil)))))))) (pss_one (ps_ret (pe_chain op_le op_le (pe_un un_neg (pe_gint rfl g_LARGEST)) (pv 0) (pe_gint rfl g_LARGEST)))) pss_nil)
    (pss_one (ps_ret (pe_cl c_is_text hr rfl (pa_cons (pv 0) (pa_cons pe_int pa_nil))))))
theorem sc_is_document : FnScope ["value", "depth", "key"] ["value", "depth"] (defScope s_is_document) := ⟨rfl, rfl, rfl, by decide +kernel, rfl, by decide +kernel, by decide +kernel⟩
theorem w_is_document {k : Nat} {sp_is_document sp_is_text sp_is_scalar : Sp} (g_ENTRIES : ∃ tk, mg "ENTRIES" = some (.int 6 tk)) (m_all : mg "all" = none) (m_len : mg "len" = none) (m_isinstance : mg "isinstance" = none) (m_dict : mg "dict" = none) (c_is_document : Cl P w K mg base "is_document" k sp_is_document) (c_is_text : Cl P w K mg base "is_text" k sp_is_text) (c_is_scalar : Cl P w K mg base "is_scalar" k sp_is_scalar) : ∀ (f : Addr) (cdv : Value) (A : Around) (outer : List Env) (s : Shared) (H : Hp) (E : XK), Room k (A.deeper (PyProof.Rows.envOfC "is_document" (defScope s_is_document) s.heap.objs.size f cdv)) →
    PSs (cxOf CX0 P w K mg base ["value", "depth", "key"] "is_document" (defScope s_is_document) f cdv A outer s H E).nox (defBody s_is_document) (t_is_document K sp_is_document sp_is_text sp_is_scalar) := fun f cdv A outer s H E hr => by
  have nd := sc_is_document.nd
  have hu : (A.deeper (PyProof.Rows.envOfC "is_document" (defScope s_is_document) s.heap.objs.size f cdv)).units + 1 < cLine := hu_of hr
  have h64 : (A.deeper (PyProof.Rows.envOfC "is_document" (defScope s_is_document) s.heap.objs.size f cdv)).units + 64 < cLine := hr.units
  exact (pss_cons (ps_if (pt_not (pt_val (pe_callB call_isi (by rfl) m_isinstance (by decide +kernel) (pa_cons (pv 0) (pa_cons (pe_gty rfl m_dict (by decide +kernel)) pa_nil))))) (pss_one (ps_ret (pe_cl c_is_scalar hr rfl (pa_cons (pv 0) pa_nil)))) pss_nil)
    (pss_cons (ps_if (PW.pt (pw_or (pt_cmpR (op_eqX h64) (pv 1) pe_int (nomark _)) (pw_or (pt_cmpR op_gt (pe_callB call_lenX (by rfl) m_len PySem.boot_len (pa_cons (pv 0) pa_nil)) (pe_gint rfl g_ENTRIES) (nomark _)) (pw_or1 (pt_not (pt_val (pe_callB (cr_all rfl) (by rfl) m_all (by decide +kernel) (pa_cons (pe_lc (own := [("key", 2)]) (by rfl) nd (pi_any (pv 0)) (blkOk_by (own := [("key", 2)]) (N := ["value", "depth", "key"]) (sc := defScope s_is_document) (by decide +kernel)) (fun _ _ _ _ _ => (pg_name (i := 2) nd rfl (by first | exact Or.inl rfl | exact Or.inr rfl))) (fun _ _ _ _ _ => pts_nil) (fun _ _ _ _ _ => (pe_cl c_is_text hr rfl (pa_cons (pv 2) (pa_cons pe_int pa_nil))))) pa_nil)))))))) (pss_one (ps_ret pe_bl)) pss_nil)
    (pss_one (ps_ret (pe_callB (cr_all rfl) (by rfl) m_all (by decide +kernel) (pa_cons (pe_lc (own := [("key", 2)]) (by rfl) nd (pi_any (pv 0)) (blkOk_by (own := [("key", 2)]) (N := ["value", "depth", "key"]) (sc := defScope s_is_document) (by decide +kernel)) (fun _ _ _ _ _ => (pg_name (i := 2) nd rfl (by first | exact Or.inl rfl | exact Or.inr rfl))) (fun _ _ _ _ _ => pts_nil) (fun _ _ _ _ _ => (pe_cl c_is_document hr rfl (pa_cons (pe_ix (ix_any hu) (pv 0) (pv 2) (fun _ _ => rfl)) (pa_cons (pe_op op_sub (pv 1) pe_int) pa_nil))))) pa_nil))))))
theorem sc_is_state : FnScope ["value"] ["value"] (defScope s_is_state) := ⟨rfl, rfl, rfl, by decide +kernel, rfl, by decide +kernel, by decide +kernel⟩
theorem w_is_state {k : Nat} {sp_is_document : Sp} (g_DEPTH : ∃ tk, mg "DEPTH" = some (.int 5 tk)) (c_is_document : Cl P w K mg base "is_document" k sp_is_document) : ∀ (f : Addr) (cdv : Value) (A : Around) (outer : List Env) (s : Shared) (H : Hp) (E : XK), Room k (A.deeper (PyProof.Rows.envOfC "is_state" (defScope s_is_state) s.heap.objs.size f cdv)) →
    PSs (cxOf CX0 P w K mg base ["value"] "is_state" (defScope s_is_state) f cdv A outer s H E).nox (defBody s_is_state) (t_is_state K sp_is_document) := fun f cdv A outer s H E hr => by
  have nd := sc_is_state.nd
  have hu : (A.deeper (PyProof.Rows.envOfC "is_state" (defScope s_is_state) s.heap.objs.size f cdv)).units + 1 < cLine := hu_of hr
  have h64 : (A.deeper (PyProof.Rows.envOfC "is_state" (defScope s_is_state) s.heap.objs.size f cdv)).units + 64 < cLine := hr.units
  exact (pss_one (ps_ret (pe_or (pe_cmpR op_isN (pv 0) pe_non (nomark _)) (pe_one (pe_cl c_is_document hr rfl (pa_cons (pv 0) (pa_cons (pe_gint rfl g_DEPTH) pa_nil)))))))
theorem sc_need_state : FnScope ["value"] ["value"] (defScope s_need_state) := ⟨rfl, rfl, rfl, by decide +kernel, rfl, by decide +kernel, by decide +kernel⟩
theorem w_need_state {k : Nat} (h2k : 2 ≤ k) {sp_is_state : Sp} {C_InvalidState : Addr} (p_InvalidState : PlnC K mg "InvalidState" C_InvalidState) (c_is_state : Cl P w K mg base "is_state" k sp_is_state) : ∀ (f : Addr) (cdv : Value) (A : Around) (outer : List Env) (s : Shared) (H : Hp) (E : XK), Room k (A.deeper (PyProof.Rows.envOfC "need_state" (defScope s_need_state) s.heap.objs.size f cdv)) →
    PSs (cxOf (L2.CX P w) P w K mg base ["value"] "need_state" (defScope s_need_state) f cdv A outer s H E) (defBody s_need_state) (t_need_stateX K C_InvalidState (wE E) sp_is_state) := fun f cdv A outer s H E hr => by
  have nd := sc_need_state.nd
  have hu : (A.deeper (PyProof.Rows.envOfC "need_state" (defScope s_need_state) s.heap.objs.size f cdv)).units + 1 < cLine := hu_of hr
  have h64 : (A.deeper (PyProof.Rows.envOfC "need_state" (defScope s_need_state) s.heap.objs.size f cdv)).units + 64 < cLine := hr.units
  have tk : Takes (cxOf (L2.CX P w) P w K mg base ["value"] "need_state" (defScope s_need_state) f cdv A outer s H E) (wE E) := takes_of rfl rfl rfl rfl
  exact (pss_one (ps_if (pt_not (pt_val (pe_cl c_is_state hr rfl (pa_cons (pv 0) pa_nil)))) (pss_one (ps_raise0 p_InvalidState rfl tk rfl)) pss_nil))
theorem sc_need_path : FnScope ["value", "key"] ["value"] (defScope s_need_path) := ⟨rfl, rfl, rfl, by decide +kernel, rfl, by decide +kernel, by decide +kernel⟩
theorem w_need_path {k : Nat} (h2k : 2 ≤ k) {sp_is_text : Sp} (m_isinstance : mg "isinstance" = none) (m_tuple : mg "tuple" = none) (m_len : mg "len" = none) (m_all : mg "all" = none) {C_InvalidPath : Addr} (p_InvalidPath : PlnC K mg "InvalidPath" C_InvalidPath) (c_is_text : Cl P w K mg base "is_text" k sp_is_text) : ∀ (f : Addr) (cdv : Value) (A : Around) (outer : List Env) (s : Shared) (H : Hp) (E : XK), Room k (A.deeper (PyProof.Rows.envOfC "need_path" (defScope s_need_path) s.heap.objs.size f cdv)) →
    PSs (cxOf (L2.CX P w) P w K mg base ["value", "key"] "need_path" (defScope s_need_path) f cdv A outer s H E) (defBody s_need_path) (t_need_pathX K C_InvalidPath (wE E) sp_is_text) := fun f cdv A outer s H E hr => by
  have nd := sc_need_path.nd
  have hu : (A.deeper (PyProof.Rows.envOfC "need_path" (defScope s_need_path) s.heap.objs.size f cdv)).units + 1 < cLine := hu_of hr
  have h64 : (A.deeper (PyProof.Rows.envOfC "need_path" (defScope s_need_path) s.heap.objs.size f cdv)).units + 64 < cLine := hr.units
  have tk : Takes (cxOf (L2.CX P w) P w K mg base ["value", "key"] "need_path" (defScope s_need_path) f cdv A outer s H E) (wE E) := takes_of rfl rfl rfl rfl
  exact (pss_one (ps_if (PW.pt (pw_or (pt_not (pt_val (pe_callB call_isi (by rfl) m_isinstance (by decide +kernel) (pa_cons (pv 0) (pa_cons (pe_gty rfl m_tuple (by decide +kernel)) pa_nil))))) (pw_or (pt_cmpR op_gt (pe_callB call_lenX (by rfl) m_len PySem.boot_len (pa_cons (pv 0) pa_nil)) pe_int (nomark _)) (pw_or1 (pt_not (pt_val (pe_callB (cr_all rfl) (by rfl) m_all (by decide +kernel) (pa_cons (pe_lc (own := [("key", 1)]) (by rfl) nd (pi_any (pv 0)) (blkOk_by (own := [("key", 1)]) (N := ["value", "key"]) (sc := defScope s_need_path) (by decide +kernel)) (fun _ _ _ _ _ => (pg_name (i := 1) nd rfl (by first | exact Or.inl rfl | exact Or.inr rfl))) (fun _ _ _ _ _ => pts_nil) (fun _ _ _ _ _ => (pe_cl c_is_text hr rfl (pa_cons (pv 1) (pa_cons pe_int pa_nil))))) pa_nil)))))))) (pss_one (ps_raise0 p_InvalidPath rfl tk rfl)) pss_nil))
theorem sc_copied : FnScope ["state", "key"] ["state"] (defScope s_copied) := ⟨rfl, rfl, rfl, by decide +kernel, rfl, by decide +kernel, by decide +kernel⟩
theorem w_copied {k : Nat} {sp_copied : Sp} (m_isinstance : mg "isinstance" = none) (m_dict : mg "dict" = none) (c_copied : Cl P w K mg base "copied" k sp_copied) : ∀ (f : Addr) (cdv : Value) (A : Around) (outer : List Env) (s : Shared) (H : Hp) (E : XK), Room k (A.deeper (PyProof.Rows.envOfC "copied" (defScope s_copied) s.heap.objs.size f cdv)) →
    PSs (cxOf CX0 P w K mg base ["state", "key"] "copied" (defScope s_copied) f cdv A outer s H E).nox (defBody s_copied) (t_copied K sp_copied) := fun f cdv A outer s H E hr => by
  have nd := sc_copied.nd
  have hu : (A.deeper (PyProof.Rows.envOfC "copied" (defScope s_copied) s.heap.objs.size f cdv)).units + 1 < cLine := hu_of hr
  have h64 : (A.deeper (PyProof.Rows.envOfC "copied" (defScope s_copied) s.heap.objs.size f cdv)).units + 64 < cLine := hr.units
  exact (pss_one (ps_ret (pe_ifExp (pt_val (pe_callB call_isi (by rfl) m_isinstance (by decide +kernel) (pa_cons (pv 0) (pa_cons (pe_gty rfl m_dict (by decide +kernel)) pa_nil)))) (pe_dc (own := [("key", 1)]) (by rfl) nd (pi_any (pv 0)) (blkOk_by (own := [("key", 1)]) (N := ["state", "key"]) (sc := defScope s_copied) (by decide +kernel)) (fun _ _ _ _ _ => (pg_name (i := 1) nd rfl (by first | exact Or.inl rfl | exact Or.inr rfl))) (fun _ _ _ _ _ => pts_nil) (fun _ _ _ _ _ => (pv 1)) (fun _ _ _ _ _ => (pe_cl c_copied hr rfl (pa_cons (pe_ix (ix_any hu) (pv 0) (pv 1) (fun _ _ => rfl)) pa_nil)))) (pv 0))))
theorem sc_found_at : FnScope ["state", "path", "key"] ["state", "path"] (defScope s_found_at) := ⟨rfl, rfl, rfl, by decide +kernel, rfl, by decide +kernel, by decide +kernel⟩
theorem w_found_at {k : Nat} (m_isinstance : mg "isinstance" = none) (m_dict : mg "dict" = none) : ∀ (f : Addr) (cdv : Value) (A : Around) (outer : List Env) (s : Shared) (H : Hp) (E : XK), Room k (A.deeper (PyProof.Rows.envOfC "found_at" (defScope s_found_at) s.heap.objs.size f cdv)) →
    PSs (cxOf CX0 P w K mg base ["state", "path", "key"] "found_at" (defScope s_found_at) f cdv A outer s H E).nox (defBody s_found_at) (t_found_at K) := fun f cdv A outer s H E hr => by
  have nd := sc_found_at.nd
  have hu : (A.deeper (PyProof.Rows.envOfC "found_at" (defScope s_found_at) s.heap.objs.size f cdv)).units + 1 < cLine := hu_of hr
  have h64 : (A.deeper (PyProof.Rows.envOfC "found_at" (defScope s_found_at) s.heap.objs.size f cdv)).units + 64 < cLine := hr.units
  exact (pss_cons (ps_for PassesOwn.never rfl (pi_any (pv 1)) (pg_name (i := 2) nd rfl (by first | exact Or.inl rfl | exact Or.inr rfl)) (pss_one (ps_set (i := 0) nd rfl (by first | exact Or.inl rfl | exact Or.inr rfl) (pe_ifExp (pt_val (pe_callB call_isi (by rfl) m_isinstance (by decide +kernel) (pa_cons (pv 0) (pa_cons (pe_gty rfl m_dict (by decide +kernel)) pa_nil)))) (pe_dget1 hu (pv 0) (pv 2) ⟨rfl, rfl, rfl, rfl⟩) pe_non))))
    (pss_one (ps_ret (pv 0))))
theorem sc_value_at : FnScope ["state", "path"] ["state", "path"] (defScope s_value_at) := ⟨rfl, rfl, rfl, by decide +kernel, rfl, by decide +kernel, by decide +kernel⟩
theorem w_value_at {k : Nat} (h2k : 2 ≤ k) {sp_copied sp_found_at sp_need_path sp_need_state : Sp} (c_copied : Cl P w K mg base "copied" k sp_copied) (c_found_at : Cl P w K mg base "found_at" k sp_found_at) (c_need_path : ClX P w K mg base "need_path" k sp_need_path) (c_need_state : ClX P w K mg base "need_state" k sp_need_state) : ∀ (f : Addr) (cdv : Value) (A : Around) (outer : List Env) (s : Shared) (H : Hp) (E : XK), Room k (A.deeper (PyProof.Rows.envOfC "value_at" (defScope s_value_at) s.heap.objs.size f cdv)) →
    PSs (cxOf (L2.CX P w) P w K mg base ["state", "path"] "value_at" (defScope s_value_at) f cdv A outer s H E) (defBody s_value_at) (t_value_atX K (wE E) sp_copied sp_found_at sp_need_path sp_need_state) := fun f cdv A outer s H E hr => by
  have nd := sc_value_at.nd
  have hu : (A.deeper (PyProof.Rows.envOfC "value_at" (defScope s_value_at) s.heap.objs.size f cdv)).units + 1 < cLine := hu_of hr
  have h64 : (A.deeper (PyProof.Rows.envOfC "value_at" (defScope s_value_at) s.heap.objs.size f cdv)).units + 64 < cLine := hr.units
  have tk : Takes (cxOf (L2.CX P w) P w K mg base ["state", "path"] "value_at" (defScope s_value_at) f cdv A outer s H E) (wE E) := takes_of rfl rfl rfl rfl
  exact (pss_cons (ps_expr (pe_clX c_need_state hr rfl tk (pa_cons (pv 0) pa_nil)))
    (pss_cons (ps_expr (pe_clX c_need_path hr rfl tk (pa_cons (pv 1) pa_nil)))
    (pss_one (ps_ret (pe_cl c_copied hr rfl (pa_cons (pe_cl c_found_at hr rfl (pa_cons (pv 0) (pa_cons (pv 1) pa_nil))) pa_nil))))))
theorem sc_are_entries : FnScope ["value", "depth", "key"] ["value", "depth"] (defScope s_are_entries) := ⟨rfl, rfl, rfl, by decide +kernel, rfl, by decide +kernel, by decide +kernel⟩
theorem w_are_entries {k : Nat} {sp_is_nested sp_is_text : Sp} (g_ENTRIES : ∃ tk, mg "ENTRIES" = some (.int 6 tk)) (m_all : mg "all" = none) (m_isinstance : mg "isinstance" = none) (m_dict : mg "dict" = none) (m_len : mg "len" = none) (c_is_nested : Cl P w K mg base "is_nested" k sp_is_nested) (c_is_text : Cl P w K mg base "is_text" k sp_is_text) : ∀ (f : Addr) (cdv : Value) (A : Around) (outer : List Env) (s : Shared) (H : Hp) (E : XK), Room k (A.deeper (PyProof.Rows.envOfC "are_entries" (defScope s_are_entries) s.heap.objs.size f cdv)) →
    PSs (cxOf CX0 P w K mg base ["value", "depth", "key"] "are_entries" (defScope s_are_entries) f cdv A outer s H E).nox (defBody s_are_entries) (t_are_entries K sp_is_nested sp_is_text) := fun f cdv A outer s H E hr => by
  have nd := sc_are_entries.nd
  have hu : (A.deeper (PyProof.Rows.envOfC "are_entries" (defScope s_are_entries) s.heap.objs.size f cdv)).units + 1 < cLine := hu_of hr
  have h64 : (A.deeper (PyProof.Rows.envOfC "are_entries" (defScope s_are_entries) s.heap.objs.size f cdv)).units + 64 < cLine := hr.units
  exact (pss_cons (ps_if (PW.pt (pw_or (pt_not (pt_val (pe_callB call_isi (by rfl) m_isinstance (by decide +kernel) (pa_cons (pv 0) (pa_cons (pe_gty rfl m_dict (by decide +kernel)) pa_nil))))) (pw_or (pt_cmpR op_gt (pe_callB call_lenX (by rfl) m_len PySem.boot_len (pa_cons (pv 0) pa_nil)) (pe_gint rfl g_ENTRIES) (nomark _)) (pw_or1 (pt_not (pt_val (pe_callB (cr_all rfl) (by rfl) m_all (by decide +kernel) (pa_cons (pe_lc (own := [("key", 2)]) (by rfl) nd (pi_any (pv 0)) (blkOk_by (own := [("key", 2)]) (N := ["value", "depth", "key"]) (sc := defScope s_are_entries) (by decide +kernel)) (fun _ _ _ _ _ => (pg_name (i := 2) nd rfl (by first | exact Or.inl rfl | exact Or.inr rfl))) (fun _ _ _ _ _ => pts_nil) (fun _ _ _ _ _ => (pe_cl c_is_text hr rfl (pa_cons (pv 2) (pa_cons pe_int pa_nil))))) pa_nil)))))))) (pss_one (ps_ret pe_bl)) pss_nil)
    (pss_one (ps_ret (pe_callB (cr_all rfl) (by rfl) m_all (by decide +kernel) (pa_cons (pe_lc (own := [("key", 2)]) (by rfl) nd (pi_any (pv 0)) (blkOk_by (own := [("key", 2)]) (N := ["value", "depth", "key"]) (sc := defScope s_are_entries) (by decide +kernel)) (fun _ _ _ _ _ => (pg_name (i := 2) nd rfl (by first | exact Or.inl rfl | exact Or.inr rfl))) (fun _ _ _ _ _ => pts_nil) (fun _ _ _ _ _ => (pe_cl c_is_nested hr rfl (pa_cons (pe_ix (ix_any hu) (pv 0) (pv 2) (fun _ _ => rfl)) (pa_cons (pv 1) pa_nil))))) pa_nil)))))
theorem sc_is_nested : FnScope ["value", "depth", "name", "one"] ["value", "depth"] (defScope s_is_nested) := ⟨rfl, rfl, rfl, by decide +kernel, rfl, by decide +kernel, by decide +kernel⟩
theorem w_is_nested {k : Nat} {sp_is_nested sp_are_entries sp_is_document : Sp} (g_CHAIN : ∃ tk, mg "CHAIN" = some (.int 6 tk)) (g_DEPTH : ∃ tk, mg "DEPTH" = some (.int 5 tk)) (m_all : mg "all" = none) (m_isinstance : mg "isinstance" = none) (m_tuple : mg "tuple" = none) (m_len : mg "len" = none) (m_str : mg "str" = none) (c_is_nested : Cl P w K mg base "is_nested" k sp_is_nested) (c_are_entries : Cl P w K mg base "are_entries" k sp_are_entries) (c_is_document : Cl P w K mg base "is_document" k sp_is_document) : ∀ (f : Addr) (cdv : Value) (A : Around) (outer : List Env) (s : Shared) (H : Hp) (E : XK), Room k (A.deeper (PyProof.Rows.envOfC "is_nested" (defScope s_is_nested) s.heap.objs.size f cdv)) →
    PSs (cxOf CX0 P w K mg base ["value", "depth", "name", "one"] "is_nested" (defScope s_is_nested) f cdv A outer s H E).nox (defBody s_is_nested) (t_is_nested K sp_is_nested sp_are_entries sp_is_document) := fun f cdv A outer s H E hr => by
  have nd := sc_is_nested.nd
  have hu : (A.deeper (PyProof.Rows.envOfC "is_nested" (defScope s_is_nested) s.heap.objs.size f cdv)).units + 1 < cLine := hu_of hr
  have h64 : (A.deeper (PyProof.Rows.envOfC "is_nested" (defScope s_is_nested) s.heap.objs.size f cdv)).units + 64 < cLine := hr.units
  exact (pss_cons (ps_if (PW.pt (pw_or (pt_not (pt_val (pe_callB call_isi (by rfl) m_isinstance (by decide +kernel) (pa_cons (pv 0) (pa_cons (pe_gty rfl m_tuple (by decide +kernel)) pa_nil))))) (pw_or (pt_cmpR (op_eqX h64) (pv 0) (pe_tupF pa_nil) (nomark _)) (pw_or1 (pt_not (pt_val (pe_callB call_isi (by rfl) m_isinstance (by decide +kernel) (pa_cons (pe_ix (ix_any hu) (pv 0) pe_int (fun _ _ => rfl)) (pa_cons (pe_gty rfl m_str (by decide +kernel)) pa_nil))))))))) (pss_one (ps_ret pe_bl)) pss_nil)
    (pss_cons (ps_set (i := 2) nd rfl (by first | exact Or.inl rfl | exact Or.inr rfl) (pe_ix (ix_any hu) (pv 0) pe_int (fun _ _ => rfl)))
    (pss_cons (ps_if (pt_cmpR (op_inX hu) (pv 2) (pe_tupF (pa_cons pe_str (pa_cons pe_str pa_nil))) (by rfl)) (pss_one (ps_ret (pe_cmpR (op_eqX h64) (pe_callB call_lenX (by rfl) m_len PySem.boot_len (pa_cons (pv 0) pa_nil)) pe_int (nomark _)))) pss_nil)
    (pss_cons (ps_if (pt_cmpR (op_neX h64) (pe_callB call_lenX (by rfl) m_len PySem.boot_len (pa_cons (pv 0) pa_nil)) pe_int (nomark _)) (pss_one (ps_ret pe_bl)) pss_nil)
    (pss_cons (ps_if (pt_cmpR (op_inX hu) (pv 2) (pe_tupF (pa_cons pe_str (pa_cons pe_str pa_nil))) (by rfl)) (pss_one (ps_ret (pe_cl c_is_document hr rfl (pa_cons (pe_ix (ix_any hu) (pv 0) pe_int (fun _ _ => rfl)) (pa_cons (pe_gint rfl g_DEPTH) pa_nil))))) pss_nil)
    (pss_cons (ps_if (pt_cmpR (op_eqX h64) (pv 1) pe_int (nomark _)) (pss_one (ps_ret pe_bl)) pss_nil)
    (pss_cons (ps_if (pt_cmpR (op_inX hu) (pv 2) (pe_tupF (pa_cons pe_str (pa_cons pe_str pa_nil))) (by rfl)) (pss_one (ps_ret (pe_cl c_are_entries hr rfl (pa_cons (pe_ix (ix_any hu) (pv 0) pe_int (fun _ _ => rfl)) (pa_cons (pe_op op_sub (pv 1) pe_int) pa_nil))))) pss_nil)
    (pss_cons (ps_if (PW.pt (pw_or (pt_cmpR (op_neX h64) (pv 2) pe_str (nomark _)) (pw_or (pt_not (pt_val (pe_callB call_isi (by rfl) m_isinstance (by decide +kernel) (pa_cons (pe_ix (ix_any hu) (pv 0) pe_int (fun _ _ => rfl)) (pa_cons (pe_gty rfl m_tuple (by decide +kernel)) pa_nil))))) (pw_or1 (pt_cmpR op_gt (pe_callB call_lenX (by rfl) m_len PySem.boot_len (pa_cons (pe_ix (ix_any hu) (pv 0) pe_int (fun _ _ => rfl)) pa_nil)) (pe_gint rfl g_CHAIN) (nomark _)))))) (pss_one (ps_ret pe_bl)) pss_nil)
    (pss_one (ps_ret (pe_callB (cr_all rfl) (by rfl) m_all (by decide +kernel) (pa_cons (pe_lc (own := [("one", 3)]) (by rfl) nd (pi_any (pe_ix (ix_any hu) (pv 0) pe_int (fun _ _ => rfl))) (blkOk_by (own := [("one", 3)]) (N := ["value", "depth", "name", "one"]) (sc := defScope s_is_nested) (by decide +kernel)) (fun _ _ _ _ _ => (pg_name (i := 3) nd rfl (by first | exact Or.inl rfl | exact Or.inr rfl))) (fun _ _ _ _ _ => pts_nil) (fun _ _ _ _ _ => (pe_cl c_is_nested hr rfl (pa_cons (pv 3) (pa_cons (pe_op op_sub (pv 1) pe_int) pa_nil))))) pa_nil))))))))))))
theorem sc_is_patch : FnScope ["value"] ["value"] (defScope s_is_patch) := ⟨rfl, rfl, rfl, by decide +kernel, rfl, by decide +kernel, by decide +kernel⟩
theorem w_is_patch {k : Nat} {sp_is_nested : Sp} (g_NESTED : ∃ tk, mg "NESTED" = some (.int 6 tk)) (c_is_nested : Cl P w K mg base "is_nested" k sp_is_nested) : ∀ (f : Addr) (cdv : Value) (A : Around) (outer : List Env) (s : Shared) (H : Hp) (E : XK), Room k (A.deeper (PyProof.Rows.envOfC "is_patch" (defScope s_is_patch) s.heap.objs.size f cdv)) →
    PSs (cxOf CX0 P w K mg base ["value"] "is_patch" (defScope s_is_patch) f cdv A outer s H E).nox (defBody s_is_patch) (t_is_patch K sp_is_nested) := fun f cdv A outer s H E hr => by
  have nd := sc_is_patch.nd
  have hu : (A.deeper (PyProof.Rows.envOfC "is_patch" (defScope s_is_patch) s.heap.objs.size f cdv)).units + 1 < cLine := hu_of hr
  have h64 : (A.deeper (PyProof.Rows.envOfC "is_patch" (defScope s_is_patch) s.heap.objs.size f cdv)).units + 64 < cLine := hr.units
  exact (pss_one (ps_ret (pe_cl c_is_nested hr rfl (pa_cons (pv 0) (pa_cons (pe_gint rfl g_NESTED) pa_nil)))))
theorem sc_need_patch : FnScope ["value"] ["value"] (defScope s_need_patch) := ⟨rfl, rfl, rfl, by decide +kernel, rfl, by decide +kernel, by decide +kernel⟩
theorem w_need_patch {k : Nat} (h2k : 2 ≤ k) {sp_is_patch : Sp} {C_InvalidPatch : Addr} (p_InvalidPatch : PlnC K mg "InvalidPatch" C_InvalidPatch) (c_is_patch : Cl P w K mg base "is_patch" k sp_is_patch) : ∀ (f : Addr) (cdv : Value) (A : Around) (outer : List Env) (s : Shared) (H : Hp) (E : XK), Room k (A.deeper (PyProof.Rows.envOfC "need_patch" (defScope s_need_patch) s.heap.objs.size f cdv)) →
    PSs (cxOf (L2.CX P w) P w K mg base ["value"] "need_patch" (defScope s_need_patch) f cdv A outer s H E) (defBody s_need_patch) (t_need_patchX K C_InvalidPatch (wE E) sp_is_patch) := fun f cdv A outer s H E hr => by
  have nd := sc_need_patch.nd
  have hu : (A.deeper (PyProof.Rows.envOfC "need_patch" (defScope s_need_patch) s.heap.objs.size f cdv)).units + 1 < cLine := hu_of hr
  have h64 : (A.deeper (PyProof.Rows.envOfC "need_patch" (defScope s_need_patch) s.heap.objs.size f cdv)).units + 64 < cLine := hr.units
  have tk : Takes (cxOf (L2.CX P w) P w K mg base ["value"] "need_patch" (defScope s_need_patch) f cdv A outer s H E) (wE E) := takes_of rfl rfl rfl rfl
  exact (pss_one (ps_if (pt_not (pt_val (pe_cl c_is_patch hr rfl (pa_cons (pv 0) pa_nil)))) (pss_one (ps_raise0 p_InvalidPatch rfl tk rfl)) pss_nil))
theorem sc_need_both : FnScope ["patch", "other"] ["patch", "other"] (defScope s_need_both) := ⟨rfl, rfl, rfl, by decide +kernel, rfl, by decide +kernel, by decide +kernel⟩
theorem w_need_both {k : Nat} (h2k : 2 ≤ k) {sp_need_patch : Sp} (c_need_patch : ClX P w K mg base "need_patch" k sp_need_patch) : ∀ (f : Addr) (cdv : Value) (A : Around) (outer : List Env) (s : Shared) (H : Hp) (E : XK), Room k (A.deeper (PyProof.Rows.envOfC "need_both" (defScope s_need_both) s.heap.objs.size f cdv)) →
    PSs (cxOf (L2.CX P w) P w K mg base ["patch", "other"] "need_both" (defScope s_need_both) f cdv A outer s H E) (defBody s_need_both) (t_need_bothX K (wE E) sp_need_patch) := fun f cdv A outer s H E hr => by
  have nd := sc_need_both.nd
  have hu : (A.deeper (PyProof.Rows.envOfC "need_both" (defScope s_need_both) s.heap.objs.size f cdv)).units + 1 < cLine := hu_of hr
  have h64 : (A.deeper (PyProof.Rows.envOfC "need_both" (defScope s_need_both) s.heap.objs.size f cdv)).units + 64 < cLine := hr.units
  have tk : Takes (cxOf (L2.CX P w) P w K mg base ["patch", "other"] "need_both" (defScope s_need_both) f cdv A outer s H E) (wE E) := takes_of rfl rfl rfl rfl
  exact (pss_cons (ps_expr (pe_clX c_need_patch hr rfl tk (pa_cons (pv 0) pa_nil)))
    (pss_one (ps_expr (pe_clX c_need_patch hr rfl tk (pa_cons (pv 1) pa_nil)))))
theorem sc_need_states : FnScope ["states", "state"] ["states"] (defScope s_need_states) := ⟨rfl, rfl, rfl, by decide +kernel, rfl, by decide +kernel, by decide +kernel⟩
theorem w_need_states {k : Nat} (h2k : 2 ≤ k) {sp_need_state : Sp} (c_need_state : ClX P w K mg base "need_state" k sp_need_state) : ∀ (f : Addr) (cdv : Value) (A : Around) (outer : List Env) (s : Shared) (H : Hp) (E : XK), Room k (A.deeper (PyProof.Rows.envOfC "need_states" (defScope s_need_states) s.heap.objs.size f cdv)) →
    PSs (cxOf (L2.CX P w) P w K mg base ["states", "state"] "need_states" (defScope s_need_states) f cdv A outer s H E) (defBody s_need_states) (t_need_statesX K (wE E) sp_need_state) := fun f cdv A outer s H E hr => by
  have nd := sc_need_states.nd
  have hu : (A.deeper (PyProof.Rows.envOfC "need_states" (defScope s_need_states) s.heap.objs.size f cdv)).units + 1 < cLine := hu_of hr
  have h64 : (A.deeper (PyProof.Rows.envOfC "need_states" (defScope s_need_states) s.heap.objs.size f cdv)).units + 64 < cLine := hr.units
  have tk : Takes (cxOf (L2.CX P w) P w K mg base ["states", "state"] "need_states" (defScope s_need_states) f cdv A outer s H E) (wE E) := takes_of rfl rfl rfl rfl
  exact (pss_one (ps_for (passes_of rfl) rfl (pi_any (pv 0)) (pg_name (i := 1) nd rfl (by first | exact Or.inl rfl | exact Or.inr rfl)) (pss_one (ps_expr (pe_clX c_need_state hr rfl tk (pa_cons (pv 1) pa_nil))))))
theorem sc_size : FnScope ["state"] ["state"] (defScope s_size) := ⟨rfl, rfl, rfl, by decide +kernel, rfl, by decide +kernel, by decide +kernel⟩
theorem w_size {k : Nat} (h2k : 2 ≤ k) {sp_size_of sp_need_state : Sp} (c_size_of : Cl P w K mg base "size_of" k sp_size_of) (c_need_state : ClX P w K mg base "need_state" k sp_need_state) : ∀ (f : Addr) (cdv : Value) (A : Around) (outer : List Env) (s : Shared) (H : Hp) (E : XK), Room k (A.deeper (PyProof.Rows.envOfC "size" (defScope s_size) s.heap.objs.size f cdv)) →
    PSs (cxOf (L2.CX P w) P w K mg base ["state"] "size" (defScope s_size) f cdv A outer s H E) (defBody s_size) (t_sizeX K (wE E) sp_size_of sp_need_state) := fun f cdv A outer s H E hr => by
  have nd := sc_size.nd
  have hu : (A.deeper (PyProof.Rows.envOfC "size" (defScope s_size) s.heap.objs.size f cdv)).units + 1 < cLine := hu_of hr
  have h64 : (A.deeper (PyProof.Rows.envOfC "size" (defScope s_size) s.heap.objs.size f cdv)).units + 64 < cLine := hr.units
  have tk : Takes (cxOf (L2.CX P w) P w K mg base ["state"] "size" (defScope s_size) f cdv A outer s H E) (wE E) := takes_of rfl rfl rfl rfl
  exact (pss_cons (ps_expr (pe_clX c_need_state hr rfl tk (pa_cons (pv 0) pa_nil)))
    (pss_one (ps_ret (pe_cl c_size_of hr rfl (pa_cons (pv 0) pa_nil)))))
theorem sc_apply : FnScope ["patch", "state"] ["patch", "state"] (defScope s_apply) := ⟨rfl, rfl, rfl, by decide +kernel, rfl, by decide +kernel, by decide +kernel⟩
theorem w_apply {k : Nat} (h2k : 2 ≤ k) {sp_copied sp_run sp_form_of sp_need_state sp_need_patch : Sp} (c_copied : Cl P w K mg base "copied" k sp_copied) (c_run : Cl P w K mg base "run" k sp_run) (c_form_of : Cl P w K mg base "form_of" k sp_form_of) (c_need_state : ClX P w K mg base "need_state" k sp_need_state) (c_need_patch : ClX P w K mg base "need_patch" k sp_need_patch) : ∀ (f : Addr) (cdv : Value) (A : Around) (outer : List Env) (s : Shared) (H : Hp) (E : XK), Room k (A.deeper (PyProof.Rows.envOfC "apply" (defScope s_apply) s.heap.objs.size f cdv)) →
    PSs (cxOf (L2.CX P w) P w K mg base ["patch", "state"] "apply" (defScope s_apply) f cdv A outer s H E) (defBody s_apply) (t_applyX K (wE E) sp_copied sp_run sp_form_of sp_need_state sp_need_patch) := fun f cdv A outer s H E hr => by
  have nd := sc_apply.nd
  have hu : (A.deeper (PyProof.Rows.envOfC "apply" (defScope s_apply) s.heap.objs.size f cdv)).units + 1 < cLine := hu_of hr
  have h64 : (A.deeper (PyProof.Rows.envOfC "apply" (defScope s_apply) s.heap.objs.size f cdv)).units + 64 < cLine := hr.units
  have tk : Takes (cxOf (L2.CX P w) P w K mg base ["patch", "state"] "apply" (defScope s_apply) f cdv A outer s H E) (wE E) := takes_of rfl rfl rfl rfl
  exact (pss_cons (ps_expr (pe_clX c_need_patch hr rfl tk (pa_cons (pv 0) pa_nil)))
    (pss_cons (ps_expr (pe_clX c_need_state hr rfl tk (pa_cons (pv 1) pa_nil)))
    (pss_one (ps_ret (pe_cl c_copied hr rfl (pa_cons (pe_cl c_run hr rfl (pa_cons (pe_cl c_form_of hr rfl (pa_cons (pv 0) pa_nil)) (pa_cons (pv 1) pa_nil))) pa_nil))))))
theorem sc_source : FnScope ["patch", "state", "found"] ["patch", "state"] (defScope s_source) := ⟨rfl, rfl, rfl, by decide +kernel, rfl, by decide +kernel, by decide +kernel⟩
theorem w_source {k : Nat} (h2k : 2 ≤ k) {sp_copied sp_source_of sp_form_of sp_need_state sp_need_patch : Sp} (c_copied : Cl P w K mg base "copied" k sp_copied) (c_source_of : Cl P w K mg base "source_of" k sp_source_of) (c_form_of : Cl P w K mg base "form_of" k sp_form_of) (c_need_state : ClX P w K mg base "need_state" k sp_need_state) (c_need_patch : ClX P w K mg base "need_patch" k sp_need_patch) : ∀ (f : Addr) (cdv : Value) (A : Around) (outer : List Env) (s : Shared) (H : Hp) (E : XK), Room k (A.deeper (PyProof.Rows.envOfC "source" (defScope s_source) s.heap.objs.size f cdv)) →
    PSs (cxOf (L2.CX P w) P w K mg base ["patch", "state", "found"] "source" (defScope s_source) f cdv A outer s H E) (defBody s_source) (t_sourceX K (wE E) sp_copied sp_source_of sp_form_of sp_need_state sp_need_patch) := fun f cdv A outer s H E hr => by
  have nd := sc_source.nd
  have hu : (A.deeper (PyProof.Rows.envOfC "source" (defScope s_source) s.heap.objs.size f cdv)).units + 1 < cLine := hu_of hr
  have h64 : (A.deeper (PyProof.Rows.envOfC "source" (defScope s_source) s.heap.objs.size f cdv)).units + 64 < cLine := hr.units
  have tk : Takes (cxOf (L2.CX P w) P w K mg base ["patch", "state", "found"] "source" (defScope s_source) f cdv A outer s H E) (wE E) := takes_of rfl rfl rfl rfl
  exact (pss_cons (ps_expr (pe_clX c_need_patch hr rfl tk (pa_cons (pv 0) pa_nil)))
    (pss_cons (ps_expr (pe_clX c_need_state hr rfl tk (pa_cons (pv 1) pa_nil)))
    (pss_cons (ps_set (i := 2) nd rfl (by first | exact Or.inl rfl | exact Or.inr rfl) (pe_cl c_source_of hr rfl (pa_cons (pe_cl c_form_of hr rfl (pa_cons (pv 0) pa_nil)) (pa_cons (pv 1) pa_nil))))
    (pss_one (ps_ret (pe_ifExp (pt_cmpR op_isN (pv 2) pe_non (nomark _)) pe_non (pe_tupF (pa_cons (pe_cl c_copied hr rfl (pa_cons (pe_ix (ix_any hu) (pv 2) pe_int (fun _ _ => rfl)) pa_nil)) pa_nil))))))))
theorem sc_affects : FnScope ["patch", "path"] ["patch", "path"] (defScope s_affects) := ⟨rfl, rfl, rfl, by decide +kernel, rfl, by decide +kernel, by decide +kernel⟩
theorem w_affects {k : Nat} (h2k : 2 ≤ k) {sp_affected sp_form_of sp_need_path sp_need_patch : Sp} (c_affected : Cl P w K mg base "affected" k sp_affected) (c_form_of : Cl P w K mg base "form_of" k sp_form_of) (c_need_path : ClX P w K mg base "need_path" k sp_need_path) (c_need_patch : ClX P w K mg base "need_patch" k sp_need_patch) : ∀ (f : Addr) (cdv : Value) (A : Around) (outer : List Env) (s : Shared) (H : Hp) (E : XK), Room k (A.deeper (PyProof.Rows.envOfC "affects" (defScope s_affects) s.heap.objs.size f cdv)) →
    PSs (cxOf (L2.CX P w) P w K mg base ["patch", "path"] "affects" (defScope s_affects) f cdv A outer s H E) (defBody s_affects) (t_affectsX K (wE E) sp_affected sp_form_of sp_need_path sp_need_patch) := fun f cdv A outer s H E hr => by
  have nd := sc_affects.nd
  have hu : (A.deeper (PyProof.Rows.envOfC "affects" (defScope s_affects) s.heap.objs.size f cdv)).units + 1 < cLine := hu_of hr
  have h64 : (A.deeper (PyProof.Rows.envOfC "affects" (defScope s_affects) s.heap.objs.size f cdv)).units + 64 < cLine := hr.units
  have tk : Takes (cxOf (L2.CX P w) P w K mg base ["patch", "path"] "affects" (defScope s_affects) f cdv A outer s H E) (wE E) := takes_of rfl rfl rfl rfl
  exact (pss_cons (ps_expr (pe_clX c_need_patch hr rfl tk (pa_cons (pv 0) pa_nil)))
    (pss_cons (ps_expr (pe_clX c_need_path hr rfl tk (pa_cons (pv 1) pa_nil)))
    (pss_one (ps_ret (pe_cl c_affected hr rfl (pa_cons (pe_cl c_form_of hr rfl (pa_cons (pv 0) pa_nil)) (pa_cons (pv 1) pa_nil)))))))
theorem sc_normal_form : FnScope ["patch"] ["patch"] (defScope s_normal_form) := ⟨rfl, rfl, rfl, by decide +kernel, rfl, by decide +kernel, by decide +kernel⟩
theorem w_normal_form {k : Nat} (h2k : 2 ≤ k) {sp_copied_form sp_form_of sp_need_patch : Sp} (c_copied_form : Cl P w K mg base "copied_form" k sp_copied_form) (c_form_of : Cl P w K mg base "form_of" k sp_form_of) (c_need_patch : ClX P w K mg base "need_patch" k sp_need_patch) : ∀ (f : Addr) (cdv : Value) (A : Around) (outer : List Env) (s : Shared) (H : Hp) (E : XK), Room k (A.deeper (PyProof.Rows.envOfC "normal_form" (defScope s_normal_form) s.heap.objs.size f cdv)) →
    PSs (cxOf (L2.CX P w) P w K mg base ["patch"] "normal_form" (defScope s_normal_form) f cdv A outer s H E) (defBody s_normal_form) (t_normal_formX K (wE E) sp_copied_form sp_form_of sp_need_patch) := fun f cdv A outer s H E hr => by
  have nd := sc_normal_form.nd
  have hu : (A.deeper (PyProof.Rows.envOfC "normal_form" (defScope s_normal_form) s.heap.objs.size f cdv)).units + 1 < cLine := hu_of hr
  have h64 : (A.deeper (PyProof.Rows.envOfC "normal_form" (defScope s_normal_form) s.heap.objs.size f cdv)).units + 64 < cLine := hr.units
  have tk : Takes (cxOf (L2.CX P w) P w K mg base ["patch"] "normal_form" (defScope s_normal_form) f cdv A outer s H E) (wE E) := takes_of rfl rfl rfl rfl
  exact (pss_cons (ps_expr (pe_clX c_need_patch hr rfl tk (pa_cons (pv 0) pa_nil)))
    (pss_one (ps_ret (pe_cl c_copied_form hr rfl (pa_cons (pe_cl c_form_of hr rfl (pa_cons (pv 0) pa_nil)) pa_nil)))))
theorem sc_idempotent : FnScope ["patch", "form"] ["patch"] (defScope s_idempotent) := ⟨rfl, rfl, rfl, by decide +kernel, rfl, by decide +kernel, by decide +kernel⟩
theorem w_idempotent {k : Nat} (h2k : 2 ≤ k) {sp_chained sp_form_of sp_need_patch : Sp} (c_chained : Cl P w K mg base "chained" k sp_chained) (c_form_of : Cl P w K mg base "form_of" k sp_form_of) (c_need_patch : ClX P w K mg base "need_patch" k sp_need_patch) : ∀ (f : Addr) (cdv : Value) (A : Around) (outer : List Env) (s : Shared) (H : Hp) (E : XK), Room k (A.deeper (PyProof.Rows.envOfC "idempotent" (defScope s_idempotent) s.heap.objs.size f cdv)) →
    PSs (cxOf (L2.CX P w) P w K mg base ["patch", "form"] "idempotent" (defScope s_idempotent) f cdv A outer s H E) (defBody s_idempotent) (t_idempotentX K (wE E) sp_chained sp_form_of sp_need_patch) := fun f cdv A outer s H E hr => by
  have nd := sc_idempotent.nd
  have hu : (A.deeper (PyProof.Rows.envOfC "idempotent" (defScope s_idempotent) s.heap.objs.size f cdv)).units + 1 < cLine := hu_of hr
  have h64 : (A.deeper (PyProof.Rows.envOfC "idempotent" (defScope s_idempotent) s.heap.objs.size f cdv)).units + 64 < cLine := hr.units
  have tk : Takes (cxOf (L2.CX P w) P w K mg base ["patch", "form"] "idempotent" (defScope s_idempotent) f cdv A outer s H E) (wE E) := takes_of rfl rfl rfl rfl
  exact (pss_cons (ps_expr (pe_clX c_need_patch hr rfl tk (pa_cons (pv 0) pa_nil)))
    (pss_cons (ps_set (i := 1) nd rfl (by first | exact Or.inl rfl | exact Or.inr rfl) (pe_cl c_form_of hr rfl (pa_cons (pv 0) pa_nil)))
    (pss_one (ps_ret (pe_cmpR (op_eqX h64) (pe_cl c_chained hr rfl (pa_cons (pv 1) (pa_cons (pv 1) pa_nil))) (pv 1) (nomark _))))))
theorem sc_fixed : FnScope ["patch", "found"] ["patch"] (defScope s_fixed) := ⟨rfl, rfl, rfl, by decide +kernel, rfl, by decide +kernel, by decide +kernel⟩
theorem w_fixed {k : Nat} (h2k : 2 ≤ k) {sp_copied sp_fixed_of sp_form_of sp_need_patch : Sp} (c_copied : Cl P w K mg base "copied" k sp_copied) (c_fixed_of : Cl P w K mg base "fixed_of" k sp_fixed_of) (c_form_of : Cl P w K mg base "form_of" k sp_form_of) (c_need_patch : ClX P w K mg base "need_patch" k sp_need_patch) : ∀ (f : Addr) (cdv : Value) (A : Around) (outer : List Env) (s : Shared) (H : Hp) (E : XK), Room k (A.deeper (PyProof.Rows.envOfC "fixed" (defScope s_fixed) s.heap.objs.size f cdv)) →
    PSs (cxOf (L2.CX P w) P w K mg base ["patch", "found"] "fixed" (defScope s_fixed) f cdv A outer s H E) (defBody s_fixed) (t_fixedX K (wE E) sp_copied sp_fixed_of sp_form_of sp_need_patch) := fun f cdv A outer s H E hr => by
  have nd := sc_fixed.nd
  have hu : (A.deeper (PyProof.Rows.envOfC "fixed" (defScope s_fixed) s.heap.objs.size f cdv)).units + 1 < cLine := hu_of hr
  have h64 : (A.deeper (PyProof.Rows.envOfC "fixed" (defScope s_fixed) s.heap.objs.size f cdv)).units + 64 < cLine := hr.units
  have tk : Takes (cxOf (L2.CX P w) P w K mg base ["patch", "found"] "fixed" (defScope s_fixed) f cdv A outer s H E) (wE E) := takes_of rfl rfl rfl rfl
  exact (pss_cons (ps_expr (pe_clX c_need_patch hr rfl tk (pa_cons (pv 0) pa_nil)))
    (pss_cons (ps_set (i := 1) nd rfl (by first | exact Or.inl rfl | exact Or.inr rfl) (pe_cl c_fixed_of hr rfl (pa_cons (pe_cl c_form_of hr rfl (pa_cons (pv 0) pa_nil)) pa_nil)))
    (pss_one (ps_ret (pe_ifExp (pt_cmpR op_isN (pv 1) pe_non (nomark _)) pe_non (pe_tupF (pa_cons (pe_cl c_copied hr rfl (pa_cons (pe_ix (ix_any hu) (pv 1) pe_int (fun _ _ => rfl)) pa_nil)) pa_nil)))))))
theorem sc_difference : FnScope ["patch", "other", "found"] ["patch", "other"] (defScope s_difference) := ⟨rfl, rfl, rfl, by decide +kernel, rfl, by decide +kernel, by decide +kernel⟩
theorem w_difference {k : Nat} (h2k : 2 ≤ k) {sp_copied sp_difference_of sp_form_of sp_need_both : Sp} (c_copied : Cl P w K mg base "copied" k sp_copied) (c_difference_of : Cl P w K mg base "difference_of" k sp_difference_of) (c_form_of : Cl P w K mg base "form_of" k sp_form_of) (c_need_both : ClX P w K mg base "need_both" k sp_need_both) : ∀ (f : Addr) (cdv : Value) (A : Around) (outer : List Env) (s : Shared) (H : Hp) (E : XK), Room k (A.deeper (PyProof.Rows.envOfC "difference" (defScope s_difference) s.heap.objs.size f cdv)) →
    PSs (cxOf (L2.CX P w) P w K mg base ["patch", "other", "found"] "difference" (defScope s_difference) f cdv A outer s H E) (defBody s_difference) (t_differenceX K (wE E) sp_copied sp_difference_of sp_form_of sp_need_both) := fun f cdv A outer s H E hr => by
  have nd := sc_difference.nd
  have hu : (A.deeper (PyProof.Rows.envOfC "difference" (defScope s_difference) s.heap.objs.size f cdv)).units + 1 < cLine := hu_of hr
  have h64 : (A.deeper (PyProof.Rows.envOfC "difference" (defScope s_difference) s.heap.objs.size f cdv)).units + 64 < cLine := hr.units
  have tk : Takes (cxOf (L2.CX P w) P w K mg base ["patch", "other", "found"] "difference" (defScope s_difference) f cdv A outer s H E) (wE E) := takes_of rfl rfl rfl rfl
  exact (pss_cons (ps_expr (pe_clX c_need_both hr rfl tk (pa_cons (pv 0) (pa_cons (pv 1) pa_nil))))
    (pss_cons (ps_set (i := 2) nd rfl (by first | exact Or.inl rfl | exact Or.inr rfl) (pe_cl c_difference_of hr rfl (pa_cons (pe_cl c_form_of hr rfl (pa_cons (pv 0) pa_nil)) (pa_cons (pe_cl c_form_of hr rfl (pa_cons (pv 1) pa_nil)) pa_nil))))
    (pss_one (ps_ret (pe_ifExp (pt_cmpR op_isN (pv 2) pe_non (nomark _)) pe_non (pe_tupF (pa_cons (pe_cl c_copied hr rfl (pa_cons (pe_ix (ix_any hu) (pv 2) pe_int (fun _ _ => rfl)) pa_nil)) pa_nil)))))))
theorem sc_commute : FnScope ["patch", "other", "one", "two"] ["patch", "other"] (defScope s_commute) := ⟨rfl, rfl, rfl, by decide +kernel, rfl, by decide +kernel, by decide +kernel⟩
theorem w_commute {k : Nat} (h2k : 2 ≤ k) {sp_chained sp_form_of sp_need_both : Sp} (c_chained : Cl P w K mg base "chained" k sp_chained) (c_form_of : Cl P w K mg base "form_of" k sp_form_of) (c_need_both : ClX P w K mg base "need_both" k sp_need_both) : ∀ (f : Addr) (cdv : Value) (A : Around) (outer : List Env) (s : Shared) (H : Hp) (E : XK), Room k (A.deeper (PyProof.Rows.envOfC "commute" (defScope s_commute) s.heap.objs.size f cdv)) →
    PSs (cxOf (L2.CX P w) P w K mg base ["patch", "other", "one", "two"] "commute" (defScope s_commute) f cdv A outer s H E) (defBody s_commute) (t_commuteX K (wE E) sp_chained sp_form_of sp_need_both) := fun f cdv A outer s H E hr => by
  have nd := sc_commute.nd
  have hu : (A.deeper (PyProof.Rows.envOfC "commute" (defScope s_commute) s.heap.objs.size f cdv)).units + 1 < cLine := hu_of hr
  have h64 : (A.deeper (PyProof.Rows.envOfC "commute" (defScope s_commute) s.heap.objs.size f cdv)).units + 64 < cLine := hr.units
  have tk : Takes (cxOf (L2.CX P w) P w K mg base ["patch", "other", "one", "two"] "commute" (defScope s_commute) f cdv A outer s H E) (wE E) := takes_of rfl rfl rfl rfl
  exact (pss_cons (ps_expr (pe_clX c_need_both hr rfl tk (pa_cons (pv 0) (pa_cons (pv 1) pa_nil))))
    (pss_cons (ps_par (i := 2) (j := 3) (by rfl) nd rfl rfl (by decide) rfl rfl (pa_cons (pe_cl c_form_of hr rfl (pa_cons (pv 0) pa_nil)) (pa_cons (pe_cl c_form_of hr rfl (pa_cons (pv 1) pa_nil)) pa_nil)) (by rfl))
    (pss_one (ps_ret (pe_cmpR (op_eqX h64) (pe_cl c_chained hr rfl (pa_cons (pv 2) (pa_cons (pv 3) pa_nil))) (pe_cl c_chained hr rfl (pa_cons (pv 3) (pa_cons (pv 2) pa_nil))) (nomark _))))))
theorem sc_absorbs : FnScope ["patch", "other", "form"] ["patch", "other"] (defScope s_absorbs) := ⟨rfl, rfl, rfl, by decide +kernel, rfl, by decide +kernel, by decide +kernel⟩
theorem w_absorbs {k : Nat} (h2k : 2 ≤ k) {sp_chained sp_form_of sp_need_both : Sp} (c_chained : Cl P w K mg base "chained" k sp_chained) (c_form_of : Cl P w K mg base "form_of" k sp_form_of) (c_need_both : ClX P w K mg base "need_both" k sp_need_both) : ∀ (f : Addr) (cdv : Value) (A : Around) (outer : List Env) (s : Shared) (H : Hp) (E : XK), Room k (A.deeper (PyProof.Rows.envOfC "absorbs" (defScope s_absorbs) s.heap.objs.size f cdv)) →
    PSs (cxOf (L2.CX P w) P w K mg base ["patch", "other", "form"] "absorbs" (defScope s_absorbs) f cdv A outer s H E) (defBody s_absorbs) (t_absorbsX K (wE E) sp_chained sp_form_of sp_need_both) := fun f cdv A outer s H E hr => by
  have nd := sc_absorbs.nd
  have hu : (A.deeper (PyProof.Rows.envOfC "absorbs" (defScope s_absorbs) s.heap.objs.size f cdv)).units + 1 < cLine := hu_of hr
  have h64 : (A.deeper (PyProof.Rows.envOfC "absorbs" (defScope s_absorbs) s.heap.objs.size f cdv)).units + 64 < cLine := hr.units
  have tk : Takes (cxOf (L2.CX P w) P w K mg base ["patch", "other", "form"] "absorbs" (defScope s_absorbs) f cdv A outer s H E) (wE E) := takes_of rfl rfl rfl rfl
  exact (pss_cons (ps_expr (pe_clX c_need_both hr rfl tk (pa_cons (pv 0) (pa_cons (pv 1) pa_nil))))
    (pss_cons (ps_set (i := 2) nd rfl (by first | exact Or.inl rfl | exact Or.inr rfl) (pe_cl c_form_of hr rfl (pa_cons (pv 0) pa_nil)))
    (pss_one (ps_ret (pe_cmpR (op_eqX h64) (pe_cl c_chained hr rfl (pa_cons (pe_cl c_form_of hr rfl (pa_cons (pv 1) pa_nil)) (pa_cons (pv 2) pa_nil))) (pv 2) (nomark _))))))
theorem sc_changes : FnScope ["before", "after"] ["before", "after"] (defScope s_changes) := ⟨rfl, rfl, rfl, by decide +kernel, rfl, by decide +kernel, by decide +kernel⟩
theorem w_changes {k : Nat} (h2k : 2 ≤ k) {sp_changes_of sp_need_state : Sp} (c_changes_of : Cl P w K mg base "changes_of" k sp_changes_of) (c_need_state : ClX P w K mg base "need_state" k sp_need_state) : ∀ (f : Addr) (cdv : Value) (A : Around) (outer : List Env) (s : Shared) (H : Hp) (E : XK), Room k (A.deeper (PyProof.Rows.envOfC "changes" (defScope s_changes) s.heap.objs.size f cdv)) →
    PSs (cxOf (L2.CX P w) P w K mg base ["before", "after"] "changes" (defScope s_changes) f cdv A outer s H E) (defBody s_changes) (t_changesX K (wE E) sp_changes_of sp_need_state) := fun f cdv A outer s H E hr => by
  have nd := sc_changes.nd
  have hu : (A.deeper (PyProof.Rows.envOfC "changes" (defScope s_changes) s.heap.objs.size f cdv)).units + 1 < cLine := hu_of hr
  have h64 : (A.deeper (PyProof.Rows.envOfC "changes" (defScope s_changes) s.heap.objs.size f cdv)).units + 64 < cLine := hr.units
  have tk : Takes (cxOf (L2.CX P w) P w K mg base ["before", "after"] "changes" (defScope s_changes) f cdv A outer s H E) (wE E) := takes_of rfl rfl rfl rfl
  exact (pss_cons (ps_expr (pe_clX c_need_state hr rfl tk (pa_cons (pv 0) pa_nil)))
    (pss_cons (ps_expr (pe_clX c_need_state hr rfl tk (pa_cons (pv 1) pa_nil)))
    (pss_one (ps_ret (pe_cl c_changes_of hr rfl (pa_cons (pv 0) (pa_cons (pv 1) pa_nil)))))))
theorem sc_touched : FnScope ["before", "after"] ["before", "after"] (defScope s_touched) := ⟨rfl, rfl, rfl, by decide +kernel, rfl, by decide +kernel, by decide +kernel⟩
theorem w_touched {k : Nat} (h2k : 2 ≤ k) {sp_paths_of sp_changes_of sp_need_state : Sp} (m_sorted : mg "sorted" = none) (c_paths_of : Cl P w K mg base "paths_of" k sp_paths_of) (c_changes_of : Cl P w K mg base "changes_of" k sp_changes_of) (c_need_state : ClX P w K mg base "need_state" k sp_need_state) : ∀ (f : Addr) (cdv : Value) (A : Around) (outer : List Env) (s : Shared) (H : Hp) (E : XK), Room k (A.deeper (PyProof.Rows.envOfC "touched" (defScope s_touched) s.heap.objs.size f cdv)) →
    PSs (cxOf (L2.CX P w) P w K mg base ["before", "after"] "touched" (defScope s_touched) f cdv A outer s H E) (defBody s_touched) (t_touchedX K (wE E) sp_paths_of sp_changes_of sp_need_state) := fun f cdv A outer s H E hr => by
  have nd := sc_touched.nd
  have hu : (A.deeper (PyProof.Rows.envOfC "touched" (defScope s_touched) s.heap.objs.size f cdv)).units + 1 < cLine := hu_of hr
  have h64 : (A.deeper (PyProof.Rows.envOfC "touched" (defScope s_touched) s.heap.objs.size f cdv)).units + 64 < cLine := hr.units
  have tk : Takes (cxOf (L2.CX P w) P w K mg base ["before", "after"] "touched" (defScope s_touched) f cdv A outer s H E) (wE E) := takes_of rfl rfl rfl rfl
  exact (pss_cons (ps_expr (pe_clX c_need_state hr rfl tk (pa_cons (pv 0) pa_nil)))
    (pss_cons (ps_expr (pe_clX c_need_state hr rfl tk (pa_cons (pv 1) pa_nil)))
    (pss_one (ps_ret (pe_callB call_sortTx (by rfl) m_sorted (by decide +kernel) (pa_cons (pe_cl c_paths_of hr rfl (pa_cons (pe_cl c_changes_of hr rfl (pa_cons (pv 0) (pa_cons (pv 1) pa_nil))) pa_nil)) pa_nil))))))
theorem sc_conflicts : FnScope ["base", "left", "right"] ["base", "left", "right"] (defScope s_conflicts) := ⟨rfl, rfl, rfl, by decide +kernel, rfl, by decide +kernel, by decide +kernel⟩
theorem w_conflicts {k : Nat} (h2k : 2 ≤ k) {sp_merged sp_need_states : Sp} (m_sorted : mg "sorted" = none) (c_merged : Cl P w K mg base "merged" k sp_merged) (c_need_states : ClX P w K mg base "need_states" k sp_need_states) : ∀ (f : Addr) (cdv : Value) (A : Around) (outer : List Env) (s : Shared) (H : Hp) (E : XK), Room k (A.deeper (PyProof.Rows.envOfC "conflicts" (defScope s_conflicts) s.heap.objs.size f cdv)) →
    PSs (cxOf (L2.CX P w) P w K mg base ["base", "left", "right"] "conflicts" (defScope s_conflicts) f cdv A outer s H E) (defBody s_conflicts) (t_conflictsX K (wE E) sp_merged sp_need_states) := fun f cdv A outer s H E hr => by
  have nd := sc_conflicts.nd
  have hu : (A.deeper (PyProof.Rows.envOfC "conflicts" (defScope s_conflicts) s.heap.objs.size f cdv)).units + 1 < cLine := hu_of hr
  have h64 : (A.deeper (PyProof.Rows.envOfC "conflicts" (defScope s_conflicts) s.heap.objs.size f cdv)).units + 64 < cLine := hr.units
  have tk : Takes (cxOf (L2.CX P w) P w K mg base ["base", "left", "right"] "conflicts" (defScope s_conflicts) f cdv A outer s H E) (wE E) := takes_of rfl rfl rfl rfl
  exact (pss_cons (ps_expr (pe_clX c_need_states hr rfl tk (pa_cons (pe_lst (pa_cons (pv 0) (pa_cons (pv 1) (pa_cons (pv 2) pa_nil)))) pa_nil)))
    (pss_one (ps_ret (pe_callB call_sortTx (by rfl) m_sorted (by decide +kernel) (pa_cons (pe_ix (ix_any hu) (pe_cl c_merged hr rfl (pa_cons (pe_lst (pa_cons (pv 0) (pa_cons (pv 1) (pa_cons (pv 2) pa_nil)))) (pa_cons (pe_tupF pa_nil) pa_nil))) pe_int (fun _ _ => rfl)) pa_nil)))))
theorem sc_merge3 : FnScope ["base", "left", "right", "result", "paths"] ["base", "left", "right"] (defScope s_merge3) := ⟨rfl, rfl, rfl, by decide +kernel, rfl, by decide +kernel, by decide +kernel⟩
theorem w_merge3 {k : Nat} (h2k : 2 ≤ k) {sp_copied sp_merged sp_need_states : Sp} (m_sorted : mg "sorted" = none) {C_Conflict : Addr} (t_Conflict : ConfC P w K mg base "Conflict" "paths" C_Conflict) (c_copied : Cl P w K mg base "copied" k sp_copied) (c_merged : Cl P w K mg base "merged" k sp_merged) (c_need_states : ClX P w K mg base "need_states" k sp_need_states) : ∀ (f : Addr) (cdv : Value) (A : Around) (outer : List Env) (s : Shared) (H : Hp) (E : XK), Room k (A.deeper (PyProof.Rows.envOfC "merge3" (defScope s_merge3) s.heap.objs.size f cdv)) →
    PSs (cxOf (L2.CX P w) P w K mg base ["base", "left", "right", "result", "paths"] "merge3" (defScope s_merge3) f cdv A outer s H E) (defBody s_merge3) (t_merge3X K C_Conflict (wE E) sp_copied sp_merged sp_need_states) := fun f cdv A outer s H E hr => by
  have nd := sc_merge3.nd
  have hu : (A.deeper (PyProof.Rows.envOfC "merge3" (defScope s_merge3) s.heap.objs.size f cdv)).units + 1 < cLine := hu_of hr
  have h64 : (A.deeper (PyProof.Rows.envOfC "merge3" (defScope s_merge3) s.heap.objs.size f cdv)).units + 64 < cLine := hr.units
  have tk : Takes (cxOf (L2.CX P w) P w K mg base ["base", "left", "right", "result", "paths"] "merge3" (defScope s_merge3) f cdv A outer s H E) (wE E) := takes_of rfl rfl rfl rfl
  exact (pss_cons (ps_expr (pe_clX c_need_states hr rfl tk (pa_cons (pe_lst (pa_cons (pv 0) (pa_cons (pv 1) (pa_cons (pv 2) pa_nil)))) pa_nil)))
    (pss_cons (ps_asg (pe_cl c_merged hr rfl (pa_cons (pe_lst (pa_cons (pv 0) (pa_cons (pv 1) (pa_cons (pv 2) pa_nil)))) (pa_cons (pe_tupF pa_nil) pa_nil))) (pg_tup rfl (pgs_cons (pg_name (i := 3) nd rfl (by first | exact Or.inl rfl | exact Or.inr rfl)) (pgs_cons (pg_name (i := 4) nd rfl (by first | exact Or.inl rfl | exact Or.inr rfl)) pgs_nil))))
    (pss_cons (ps_if (pt_cmpR (op_neX h64) (pv 4) (pe_lst pa_nil) (nomark _)) (pss_one (ps_raiseC t_Conflict rfl (hr.mono h2k) tk rfl (pe_callB call_sortTx (by rfl) m_sorted (by decide +kernel) (pa_cons (pv 4) pa_nil)))) pss_nil)
    (pss_one (ps_ret (pe_cl c_copied hr rfl (pa_cons (pv 3) pa_nil)))))))
theorem sc__law_which : FnScope ["error", "own"] ["error"] (defScope s__law_which) := ⟨rfl, rfl, rfl, by decide +kernel, rfl, by decide +kernel, by decide +kernel⟩
theorem w__law_which {k : Nat} (m_isinstance : mg "isinstance" = none) (m_ValueError : mg "ValueError" = none) {C_InvalidFormat : Addr} (gx_InvalidFormat : mg "InvalidFormat" = some (.ref C_InvalidFormat)) {C_NothingToRedo : Addr} (gx_NothingToRedo : mg "NothingToRedo" = some (.ref C_NothingToRedo)) {C_NothingToUndo : Addr} (gx_NothingToUndo : mg "NothingToUndo" = some (.ref C_NothingToUndo)) {C_Conflict : Addr} (gx_Conflict : mg "Conflict" = some (.ref C_Conflict)) {C_InvalidPatch : Addr} (gx_InvalidPatch : mg "InvalidPatch" = some (.ref C_InvalidPatch)) {C_InvalidPath : Addr} (gx_InvalidPath : mg "InvalidPath" = some (.ref C_InvalidPath)) {C_InvalidState : Addr} (gx_InvalidState : mg "InvalidState" = some (.ref C_InvalidState)) {D a : Addr} {oe : Obj} (hE : ExcC K D) (hz : Zc (.ref D) none oe) (hf : ∃ vs, oe.data = .fields vs) : ∀ (f : Addr) (cdv : Value) (A : Around) (outer : List Env) (s : Shared) (H : Hp) (E : XK), L2H.RoomH k (A.deeper (PyProof.Rows.envOfC "_law_which" (defScope s__law_which) s.heap.objs.size f cdv)) →
    PSs (L2H.cxH CX0 P w K mg base ["error", "own"] "_law_which" (defScope s__law_which) f cdv A outer s H E (a, oe)) (defBody s__law_which) (t__law_which K C_InvalidFormat C_NothingToRedo C_NothingToUndo C_Conflict C_InvalidPatch C_InvalidPath C_InvalidState D a) := fun f cdv A outer s H E hr => by
  have nd := sc__law_which.nd
  have hu : (A.deeper (PyProof.Rows.envOfC "_law_which" (defScope s__law_which) s.heap.objs.size f cdv)).units + 1 < cLine := by have := hr.un; omega
  have h64 : (A.deeper (PyProof.Rows.envOfC "_law_which" (defScope s__law_which) s.heap.objs.size f cdv)).units + 64 < cLine := by have := hr.un; omega
  have hp : (a, oe) ∈ (L2H.cxH CX0 P w K mg base ["error", "own"] "_law_which" (defScope s__law_which) f cdv A outer s H E (a, oe)).pn := List.mem_cons_self
  exact (pss_cons (ps_set (i := 1) nd rfl (by first | exact Or.inl rfl | exact Or.inr rfl) (pe_lst (pa_cons (pe_callB (call_isEm hp hE hz hf) (by rfl) m_isinstance (by decide +kernel) (pa_cons (pv 0) (pa_cons (pe_gref rfl gx_InvalidState) pa_nil))) (pa_cons (pe_callB (call_isEm hp hE hz hf) (by rfl) m_isinstance (by decide +kernel) (pa_cons (pv 0) (pa_cons (pe_gref rfl gx_InvalidPath) pa_nil))) pa_nil))))
    (pss_cons (ps_expr (pe_bm PySem.F.plainAttrs_list PySem.F.slot_list_extend PySem.F.type_list_extend mt_extend (pv 1) (pa_cons (pe_lst (pa_cons (pe_callB (call_isEm hp hE hz hf) (by rfl) m_isinstance (by decide +kernel) (pa_cons (pv 0) (pa_cons (pe_gref rfl gx_InvalidPatch) pa_nil))) pa_nil)) pa_nil)))
    (pss_cons (ps_expr (pe_bm PySem.F.plainAttrs_list PySem.F.slot_list_extend PySem.F.type_list_extend mt_extend (pv 1) (pa_cons (pe_lst (pa_cons (pe_callB (call_isEm hp hE hz hf) (by rfl) m_isinstance (by decide +kernel) (pa_cons (pv 0) (pa_cons (pe_gref rfl gx_Conflict) pa_nil))) (pa_cons (pe_callB (call_isEm hp hE hz hf) (by rfl) m_isinstance (by decide +kernel) (pa_cons (pv 0) (pa_cons (pe_gref rfl gx_NothingToUndo) pa_nil))) pa_nil))) pa_nil)))
    (pss_cons (ps_expr (pe_bm PySem.F.plainAttrs_list PySem.F.slot_list_extend PySem.F.type_list_extend mt_extend (pv 1) (pa_cons (pe_lst (pa_cons (pe_callB (call_isEm hp hE hz hf) (by rfl) m_isinstance (by decide +kernel) (pa_cons (pv 0) (pa_cons (pe_gref rfl gx_NothingToRedo) pa_nil))) pa_nil)) pa_nil)))
    (pss_cons (ps_expr (pe_bm PySem.F.plainAttrs_list PySem.F.slot_list_append PySem.F.type_list_append mt_append (pv 1) (pa_cons (pe_callB (call_isEm hp hE hz hf) (by rfl) m_isinstance (by decide +kernel) (pa_cons (pv 0) (pa_cons (pe_gref rfl gx_InvalidFormat) pa_nil))) pa_nil)))
    (pss_cons (ps_if (PW.pt (pw_or (pt_cmpR (op_neX h64) (pe_bm PySem.F.plainAttrs_list PySem.F.slot_list_count PySem.F.type_list_count mt_countB (pv 1) (pa_cons pe_bl pa_nil)) pe_int (nomark _)) (pw_or1 (pt_not (pt_val (pe_callB (call_isEm hp hE hz hf) (by rfl) m_isinstance (by decide +kernel) (pa_cons (pv 0) (pa_cons (pe_gty rfl m_ValueError (by decide +kernel)) pa_nil)))))))) (pss_one (ps_ret (pe_tupF (pa_cons pe_str (pa_cons (pe_un un_neg pe_int) pa_nil))))) pss_nil)
    (pss_one (ps_ret (pe_tupF (pa_cons pe_str (pa_cons (pe_bm PySem.F.plainAttrs_list PySem.F.slot_list_index PySem.F.type_list_index mt_index (pv 1) (pa_cons pe_bl pa_nil)) pa_nil)))))))))))
theorem sc__law_ask : FnScope ["what", "one", "other", "error"] ["what", "one", "other"] (defScope s__law_ask) := ⟨rfl, rfl, rfl, by decide +kernel, rfl, by decide +kernel, by decide +kernel⟩
theorem w__law_ask {k : Nat} {sa_conflicts sa_merge3 sa_value_at sa_changes sa_touched sa_apply sa_source sa_affects sa_difference sa_commute sa_absorbs sa_normal_form sa_idempotent sa_fixed : Sp} {sp_size : Sp} {C_PatchError : Addr} (gx_PatchError : mg "PatchError" = some (.ref C_PatchError)) {Cs : List Addr} (c__law_which : ClE P w K mg base "_law_which" k (spWhP K Cs)) (c_size : ClX P w K mg base "size" k sp_size) {f_conflicts : Addr} (g_conflicts : mg "conflicts" = some (.ref f_conflicts)) (d_conflicts : ClA P w K mg base f_conflicts k sa_conflicts) {f_merge3 : Addr} (g_merge3 : mg "merge3" = some (.ref f_merge3)) (d_merge3 : ClA P w K mg base f_merge3 k sa_merge3) {f_value_at : Addr} (g_value_at : mg "value_at" = some (.ref f_value_at)) (d_value_at : ClA P w K mg base f_value_at k sa_value_at) {f_changes : Addr} (g_changes : mg "changes" = some (.ref f_changes)) (d_changes : ClA P w K mg base f_changes k sa_changes) {f_touched : Addr} (g_touched : mg "touched" = some (.ref f_touched)) (d_touched : ClA P w K mg base f_touched k sa_touched) {f_apply : Addr} (g_apply : mg "apply" = some (.ref f_apply)) (d_apply : ClA P w K mg base f_apply k sa_apply) {f_source : Addr} (g_source : mg "source" = some (.ref f_source)) (d_source : ClA P w K mg base f_source k sa_source) {f_affects : Addr} (g_affects : mg "affects" = some (.ref f_affects)) (d_affects : ClA P w K mg base f_affects k sa_affects) {f_difference : Addr} (g_difference : mg "difference" = some (.ref f_difference)) (d_difference : ClA P w K mg base f_difference k sa_difference) {f_commute : Addr} (g_commute : mg "commute" = some (.ref f_commute)) (d_commute : ClA P w K mg base f_commute k sa_commute) {f_absorbs : Addr} (g_absorbs : mg "absorbs" = some (.ref f_absorbs)) (d_absorbs : ClA P w K mg base f_absorbs k sa_absorbs) {f_normal_form : Addr} (g_normal_form : mg "normal_form" = some (.ref f_normal_form)) (d_normal_form : ClA P w K mg base f_normal_form k sa_normal_form) {f_idempotent : Addr} (g_idempotent : mg "idempotent" = some (.ref f_idempotent)) (d_idempotent : ClA P w K mg base f_idempotent k sa_idempotent) {f_fixed : Addr} (g_fixed : mg "fixed" = some (.ref f_fixed)) (d_fixed : ClA P w K mg base f_fixed k sa_fixed) : ∀ (f : Addr) (cdv : Value) (A : Around) (outer : List Env) (s : Shared) (H : Hp) (E : XK), Room k (A.deeper (PyProof.Rows.envOfC "_law_ask" (defScope s__law_ask) s.heap.objs.size f cdv)) →
    PSs (cxOf CX0 P w K mg base ["what", "one", "other", "error"] "_law_ask" (defScope s__law_ask) f cdv A outer s H E).nox (defBody s__law_ask) (t__law_ask K C_PatchError Cs f_conflicts f_merge3 f_value_at f_changes f_touched f_apply f_source f_affects f_difference f_commute f_absorbs f_normal_form f_idempotent f_fixed sa_conflicts sa_merge3 sa_value_at sa_changes sa_touched sa_apply sa_source sa_affects sa_difference sa_commute sa_absorbs sa_normal_form sa_idempotent sa_fixed sp_size) := fun f cdv A outer s H E hr => by
  have nd := sc__law_ask.nd
  have hu : (A.deeper (PyProof.Rows.envOfC "_law_ask" (defScope s__law_ask) s.heap.objs.size f cdv)).units + 1 < cLine := hu_of hr
  have h64 : (A.deeper (PyProof.Rows.envOfC "_law_ask" (defScope s__law_ask) s.heap.objs.size f cdv)).units + 64 < cLine := hr.units
  exact (pss_one (ps_tryAs (i := 3) rfl rfl nd rfl rfl rfl (by decide) gx_PatchError (fun W pn xe tk => (pss_cons (ps_if (pt_cmpR op_lt (pv 0) pe_int (nomark _)) (pss_one (ps_ret (pe_callD (fun p hp => by simp only [List.mem_cons, List.not_mem_nil, or_false] at hp; rcases hp with rfl | rfl | rfl <;> first | exact d_normal_form | exact d_idempotent | exact d_fixed) hr tk (pe_ix (ix_any hu) (pe_lst (pa_cons (pe_gref rfl g_normal_form) (pa_cons (pe_gref rfl g_idempotent) (pa_cons (pe_gref rfl g_fixed) pa_nil)))) (pv 0) (fun _ _ => rfl)) (pa_cons (pv 1) pa_nil)))) pss_nil)
    (pss_cons (ps_if (pt_cmpR op_lt (pv 0) pe_int (nomark _)) (pss_one (ps_ret (pe_callD (fun p hp => by simp only [List.mem_cons, List.not_mem_nil, or_false] at hp; rcases hp with rfl | rfl | rfl | rfl | rfl | rfl <;> first | exact d_apply | exact d_source | exact d_affects | exact d_difference | exact d_commute | exact d_absorbs) hr tk (pe_ix (ix_any hu) (pe_lst (pa_cons (pe_gref rfl g_apply) (pa_cons (pe_gref rfl g_source) (pa_cons (pe_gref rfl g_affects) (pa_cons (pe_gref rfl g_difference) (pa_cons (pe_gref rfl g_commute) (pa_cons (pe_gref rfl g_absorbs) pa_nil))))))) (pe_op op_sub (pv 0) pe_int) (fun _ _ => rfl)) (pa_cons (pv 1) (pa_cons (pv 2) pa_nil))))) pss_nil)
    (pss_cons (ps_if (pt_cmpR op_lt (pv 0) pe_int (nomark _)) (pss_one (ps_ret (pe_callD (fun p hp => by simp only [List.mem_cons, List.not_mem_nil, or_false] at hp; rcases hp with rfl | rfl | rfl <;> first | exact d_value_at | exact d_changes | exact d_touched) hr tk (pe_ix (ix_any hu) (pe_lst (pa_cons (pe_gref rfl g_value_at) (pa_cons (pe_gref rfl g_changes) (pa_cons (pe_gref rfl g_touched) pa_nil)))) (pe_op op_sub (pv 0) pe_int) (fun _ _ => rfl)) (pa_cons (pv 1) (pa_cons (pv 2) pa_nil))))) pss_nil)
    (pss_one (ps_ret (pe_ifExp (pt_cmpR (op_eqX h64) (pv 0) pe_int (nomark _)) (pe_clX c_size hr rfl tk (pa_cons (pv 1) pa_nil)) (pe_callD (fun p hp => by simp only [List.mem_cons, List.not_mem_nil, or_false] at hp; rcases hp with rfl | rfl <;> first | exact d_conflicts | exact d_merge3) hr tk (pe_ix (ix_any hu) (pe_lst (pa_cons (pe_gref rfl g_conflicts) (pa_cons (pe_gref rfl g_merge3) pa_nil))) (pe_op op_sub (pv 0) pe_int) (fun _ _ => rfl)) (pa_cons (pv 1) (pa_cons (pv 2) (pa_cons pe_non pa_nil))))))))))) (fun a oe cls d pn hz hf => (pss_one (ps_ret (pe_which c__law_which ⟨hr.dp, hr.un⟩ List.mem_cons_self hz hf rfl (pv 3)))))))
theorem sc__law_states : FnScope ["deep", "k", "wide", "bad", "key"] [] (defScope s__law_states) := ⟨rfl, rfl, rfl, by decide +kernel, rfl, by decide +kernel, by decide +kernel⟩
theorem w__law_states {k : Nat} (m_dict : mg "dict" = none) (m_range : mg "range" = none) : ∀ (f : Addr) (cdv : Value) (A : Around) (outer : List Env) (s : Shared) (H : Hp) (E : XK), Room k (A.deeper (PyProof.Rows.envOfC "_law_states" (defScope s__law_states) s.heap.objs.size f cdv)) →
    PSs (cxOf CX0 P w K mg base ["deep", "k", "wide", "bad", "key"] "_law_states" (defScope s__law_states) f cdv A outer s H E).nox (defBody s__law_states) (t__law_states K) := fun f cdv A outer s H E hr => by
  have nd := sc__law_states.nd
  have hu : (A.deeper (PyProof.Rows.envOfC "_law_states" (defScope s__law_states) s.heap.objs.size f cdv)).units + 1 < cLine := hu_of hr
  have h64 : (A.deeper (PyProof.Rows.envOfC "_law_states" (defScope s__law_states) s.heap.objs.size f cdv)).units + 64 < cLine := hr.units
  exact (pss_cons (ps_set (i := 0) nd rfl (by first | exact Or.inl rfl | exact Or.inr rfl) pe_int)
    (pss_cons (ps_for PassesOwn.never rfl (pi_range1 rfl m_range (pa_cons pe_int pa_nil)) (pg_name (i := 1) nd rfl (by first | exact Or.inl rfl | exact Or.inr rfl)) (pss_one (ps_set (i := 0) nd rfl (by first | exact Or.inl rfl | exact Or.inr rfl) (pe_disp (pps_cons pe_str (pv 0) pps_nil) (by rfl) (by rfl) (fun z => by cases z) (by decide)))))
    (pss_cons (ps_set (i := 2) nd rfl (by first | exact Or.inl rfl | exact Or.inr rfl) (pe_callTy (call_dictX rfl) (by rfl) m_dict (by decide +kernel) (pa_cons (pe_lc (own := [("key", 4)]) (by rfl) nd (pi_any pe_str) (blkOk_by (own := [("key", 4)]) (N := ["deep", "k", "wide", "bad", "key"]) (sc := defScope s__law_states) (by decide +kernel)) (fun _ _ _ _ _ => (pg_name (i := 4) nd rfl (by first | exact Or.inl rfl | exact Or.inr rfl))) (fun _ _ _ _ _ => pts_nil) (fun _ _ _ _ _ => (pe_tupF (pa_cons (pv 4) (pa_cons pe_int pa_nil))))) pa_nil)))
    (pss_cons (ps_set (i := 3) nd rfl (by first | exact Or.inl rfl | exact Or.inr rfl) (pe_lst (pa_cons pe_bl (pa_cons pe_int (pa_cons (pe_un un_neg pe_int) (pa_cons pe_str (pa_cons pe_str (pa_cons pe_str (pa_cons (pe_lst pa_nil) (pa_cons (pe_tupF pa_nil) (pa_cons (pe_tupF (pa_cons pe_str pa_nil)) (pa_cons (pe_disp (pps_cons pe_str pe_non pps_nil) (by rfl) (by rfl) (fun z => by cases z) (by decide)) (pa_cons (pe_disp (pps_cons pe_str pe_bl pps_nil) (by rfl) (by rfl) (fun z => by cases z) (by decide)) pa_nil)))))))))))))
    (pss_cons (ps_expr (pe_bm PySem.F.plainAttrs_list PySem.F.slot_list_extend PySem.F.type_list_extend mt_extend (pv 3) (pa_cons (pe_lst (pa_cons (pe_disp (pps_cons pe_str pe_int pps_nil) (by rfl) (by rfl) (fun z => by cases z) (by decide)) (pa_cons (pe_disp (pps_cons pe_str pe_int pps_nil) (by rfl) (by rfl) (fun z => by cases z) (by decide)) (pa_cons (pe_disp (pps_cons pe_int pe_int pps_nil) (by rfl) (by rfl) (fun z => by cases z) (by decide)) (pa_cons (pe_disp (pps_cons pe_str pe_int pps_nil) (by rfl) (by rfl) (fun z => by cases z) (by decide)) pa_nil))))) pa_nil)))
    (pss_one (ps_ret (pe_op op_cat (pv 3) (pe_lst (pa_cons (pe_disp (pps_cons pe_str (pe_disp (pps_cons pe_str (pe_lst (pa_cons pe_int pa_nil)) pps_nil) (by rfl) (by rfl) (fun z => by cases z) (by decide)) pps_nil) (by rfl) (by rfl) (fun z => by cases z) (by decide)) (pa_cons (pe_disp (pps_cons pe_str pe_int pps_nil) (by rfl) (by rfl) (fun z => by cases z) (by decide)) (pa_cons (pe_disp (pps_cons pe_str (pe_disp (pps_cons pe_str (pe_disp (pps_cons pe_str pe_non pps_nil) (by rfl) (by rfl) (fun z => by cases z) (by decide)) pps_nil) (by rfl) (by rfl) (fun z => by cases z) (by decide)) pps_nil) (by rfl) (by rfl) (fun z => by cases z) (by decide)) (pa_cons (pv 0) (pa_cons (pv 2) (pa_cons (pe_oddN pe_non pe_int) (pa_cons (pe_oddT hu (pe_tupF (pa_cons pe_str pa_nil)) pe_int) pa_nil))))))))))))))))
theorem sc__law_patches : FnScope ["deep", "k", "inner", "bad", "key"] [] (defScope s__law_patches) := ⟨rfl, rfl, rfl, by decide +kernel, rfl, by decide +kernel, by decide +kernel⟩
theorem w__law_patches {k : Nat} (m_dict : mg "dict" = none) (m_range : mg "range" = none) : ∀ (f : Addr) (cdv : Value) (A : Around) (outer : List Env) (s : Shared) (H : Hp) (E : XK), Room k (A.deeper (PyProof.Rows.envOfC "_law_patches" (defScope s__law_patches) s.heap.objs.size f cdv)) →
    PSs (cxOf CX0 P w K mg base ["deep", "k", "inner", "bad", "key"] "_law_patches" (defScope s__law_patches) f cdv A outer s H E).nox (defBody s__law_patches) (t__law_patches K) := fun f cdv A outer s H E hr => by
  have nd := sc__law_patches.nd
  have hu : (A.deeper (PyProof.Rows.envOfC "_law_patches" (defScope s__law_patches) s.heap.objs.size f cdv)).units + 1 < cLine := hu_of hr
  have h64 : (A.deeper (PyProof.Rows.envOfC "_law_patches" (defScope s__law_patches) s.heap.objs.size f cdv)).units + 64 < cLine := hr.units
  exact (pss_cons (ps_set (i := 0) nd rfl (by first | exact Or.inl rfl | exact Or.inr rfl) (pe_tupF (pa_cons pe_str pa_nil)))
    (pss_cons (ps_for PassesOwn.never rfl (pi_range1 rfl m_range (pa_cons pe_int pa_nil)) (pg_name (i := 1) nd rfl (by first | exact Or.inl rfl | exact Or.inr rfl)) (pss_one (ps_set (i := 0) nd rfl (by first | exact Or.inl rfl | exact Or.inr rfl) (pe_tupF (pa_cons pe_str (pa_cons (pe_tupF (pa_cons (pv 0) pa_nil)) pa_nil))))))
    (pss_cons (ps_set (i := 2) nd rfl (by first | exact Or.inl rfl | exact Or.inr rfl) (pe_tupF (pa_cons pe_str pa_nil)))
    (pss_cons (ps_for PassesOwn.never rfl (pi_range1 rfl m_range (pa_cons pe_int pa_nil)) (pg_name (i := 1) nd rfl (by first | exact Or.inl rfl | exact Or.inr rfl)) (pss_one (ps_set (i := 2) nd rfl (by first | exact Or.inl rfl | exact Or.inr rfl) (pe_tupF (pa_cons pe_str (pa_cons (pe_disp (pps_cons pe_str (pv 2) pps_nil) (by rfl) (by rfl) (fun z => by cases z) (by decide)) pa_nil))))))
    (pss_cons (ps_set (i := 3) nd rfl (by first | exact Or.inl rfl | exact Or.inr rfl) (pe_lst (pa_cons (pv 2) (pa_cons (pe_tupF (pa_cons pe_str (pa_cons (pe_tupF pa_nil) pa_nil))) (pa_cons pe_non (pa_cons (pe_tupF pa_nil) (pa_cons pe_str (pa_cons (pe_lst (pa_cons pe_str pa_nil)) (pa_cons (pe_tupF (pa_cons pe_str (pa_cons pe_int pa_nil))) (pa_cons (pe_tupF (pa_cons pe_str (pa_cons pe_int pa_nil))) (pa_cons (pe_tupF (pa_cons pe_str pa_nil)) pa_nil)))))))))))
    (pss_cons (ps_expr (pe_bm PySem.F.plainAttrs_list PySem.F.slot_list_extend PySem.F.type_list_extend mt_extend (pv 3) (pa_cons (pe_lst (pa_cons (pe_tupF (pa_cons pe_str (pa_cons pe_non pa_nil))) pa_nil)) pa_nil)))
    (pss_cons (ps_expr (pe_bm PySem.F.plainAttrs_list PySem.F.slot_list_extend PySem.F.type_list_extend mt_extend (pv 3) (pa_cons (pe_lst (pa_cons (pe_tupF (pa_cons pe_str (pa_cons pe_int pa_nil))) (pa_cons (pe_tupF (pa_cons pe_str (pa_cons pe_int (pa_cons pe_int pa_nil)))) (pa_cons (pe_tupF (pa_cons pe_str (pa_cons pe_non pa_nil))) (pa_cons (pe_tupF (pa_cons pe_str pa_nil)) pa_nil))))) pa_nil)))
    (pss_cons (ps_expr (pe_bm PySem.F.plainAttrs_list PySem.F.slot_list_extend PySem.F.type_list_extend mt_extend (pv 3) (pa_cons (pe_lst (pa_cons (pe_tupF (pa_cons pe_str pa_nil)) (pa_cons (pe_tupF (pa_cons pe_str (pa_cons pe_non pa_nil))) (pa_cons (pe_tupF (pa_cons pe_str (pa_cons (pe_disp (pps_cons pe_str pe_int pps_nil) (by rfl) (by rfl) (fun z => by cases z) (by decide)) pa_nil))) (pa_cons (pe_tupF (pa_cons pe_str (pa_cons (pe_disp (pps_cons pe_str (pe_tupF (pa_cons pe_str pa_nil)) pps_nil) (by rfl) (by rfl) (fun z => by cases z) (by decide)) pa_nil))) pa_nil))))) pa_nil)))
    (pss_cons (ps_expr (pe_bm PySem.F.plainAttrs_list PySem.F.slot_list_extend PySem.F.type_list_extend mt_extend (pv 3) (pa_cons (pe_lst (pa_cons (pe_tupF (pa_cons pe_str (pa_cons (pe_lst (pa_cons (pe_tupF (pa_cons pe_str (pa_cons (pe_tupF (pa_cons pe_str pa_nil)) pa_nil))) pa_nil)) pa_nil))) (pa_cons (pe_tupF (pa_cons pe_str (pa_cons (pe_disp (pps_cons pe_str pe_non pps_nil) (by rfl) (by rfl) (fun z => by cases z) (by decide)) pa_nil))) pa_nil))) pa_nil)))
    (pss_cons (ps_expr (pe_bm PySem.F.plainAttrs_list PySem.F.slot_list_extend PySem.F.type_list_extend mt_extend (pv 3) (pa_cons (pe_lst (pa_cons (pe_tupF (pa_cons pe_str (pa_cons (pe_tupF (pa_cons pe_str pa_nil)) pa_nil))) (pa_cons (pe_tupF (pa_cons pe_str (pa_cons (pe_lst (pa_cons (pe_tupF (pa_cons pe_str pa_nil)) pa_nil)) pa_nil))) (pa_cons (pe_tupF (pa_cons pe_str (pa_cons (pe_op op_repF (pe_tupF (pa_cons (pe_tupF (pa_cons pe_str pa_nil)) pa_nil)) pe_int) pa_nil))) pa_nil)))) pa_nil)))
    (pss_cons (ps_expr (pe_bm PySem.F.plainAttrs_list PySem.F.slot_list_extend PySem.F.type_list_extend mt_extend (pv 3) (pa_cons (pe_lst (pa_cons (pe_tupF (pa_cons pe_str (pa_cons pe_non pa_nil))) (pa_cons (pe_tupF (pa_cons pe_non pa_nil)) (pa_cons (pe_tupF (pa_cons pe_int (pa_cons pe_int pa_nil))) (pa_cons (pv 0) (pa_cons (pe_disp (pps_cons pe_str pe_int pps_nil) (by rfl) (by rfl) (fun z => by cases z) (by decide)) pa_nil)))))) pa_nil)))
    (pss_cons (ps_expr (pe_bm PySem.F.plainAttrs_list PySem.F.slot_list_append PySem.F.type_list_append mt_append (pv 3) (pa_cons (pe_tupF (pa_cons pe_str (pa_cons (pe_callTy (call_dictX rfl) (by rfl) m_dict (by decide +kernel) (pa_cons (pe_lc (own := [("key", 4)]) (by rfl) nd (pi_any pe_str) (blkOk_by (own := [("key", 4)]) (N := ["deep", "k", "inner", "bad", "key"]) (sc := defScope s__law_patches) (by decide +kernel)) (fun _ _ _ _ _ => (pg_name (i := 4) nd rfl (by first | exact Or.inl rfl | exact Or.inr rfl))) (fun _ _ _ _ _ => pts_nil) (fun _ _ _ _ _ => (pe_tupF (pa_cons (pv 4) (pa_cons (pe_tupF (pa_cons pe_str pa_nil)) pa_nil))))) pa_nil)) pa_nil))) pa_nil)))
    (pss_one (ps_ret (pe_op op_cat (pv 3) (pe_lst (pa_cons (pe_tupF (pa_cons pe_str (pa_cons (pe_disp (pps_cons pe_str (pe_tupF (pa_cons pe_str (pa_cons (pe_disp (pps_cons pe_str (pe_tupF (pa_cons pe_str (pa_cons pe_bl pa_nil))) pps_nil) (by rfl) (by rfl) (fun z => by cases z) (by decide)) pa_nil))) pps_nil) (by rfl) (by rfl) (fun z => by cases z) (by decide)) pa_nil))) pa_nil)))))))))))))))))
theorem sc__law_draw : FnScope ["script", "town", "many", "one", "at", "mixed"] ["script", "town", "many"] (defScope s__law_draw) := ⟨rfl, rfl, rfl, by decide +kernel, rfl, by decide +kernel, by decide +kernel⟩
theorem w__law_draw {k : Nat} (m_len : mg "len" = none) : ∀ (f : Addr) (cdv : Value) (A : Around) (outer : List Env) (s : Shared) (H : Hp) (E : XK), Room k (A.deeper (PyProof.Rows.envOfC "_law_draw" (defScope s__law_draw) s.heap.objs.size f cdv)) →
    PSs (cxOf CX0 P w K mg base ["script", "town", "many", "one", "at", "mixed"] "_law_draw" (defScope s__law_draw) f cdv A outer s H E).nox (defBody s__law_draw) (t__law_draw K) := fun f cdv A outer s H E hr => by
  have nd := sc__law_draw.nd
  have hu : (A.deeper (PyProof.Rows.envOfC "_law_draw" (defScope s__law_draw) s.heap.objs.size f cdv)).units + 1 < cLine := hu_of hr
  have h64 : (A.deeper (PyProof.Rows.envOfC "_law_draw" (defScope s__law_draw) s.heap.objs.size f cdv)).units + 64 < cLine := hr.units
  exact (pss_cons (ps_if (pt_cmpR op_gt (pe_ix (ix_any hu) (pv 1) pe_int (fun _ _ => rfl)) pe_int (nomark _)) (pss_cons (ps_set (i := 3) nd rfl (by first | exact Or.inl rfl | exact Or.inr rfl) (pe_op op_mod (pe_ix (ix_any hu) (pv 1) pe_int (fun _ _ => rfl)) (pv 2)))
    (pss_cons (ps_asg (pe_op op_fdiv (pe_ix (ix_any hu) (pv 1) pe_int (fun _ _ => rfl)) (pv 2)) (pg_sub (pv 1) pe_int set_list))
    (pss_one (ps_ret (pv 3))))) pss_nil)
    (pss_cons (ps_set (i := 4) nd rfl (by first | exact Or.inl rfl | exact Or.inr rfl) (pe_ix (ix_any hu) (pv 1) pe_int (fun _ _ => rfl)))
    (pss_cons (ps_augS (pv 1) pe_int get_list pe_int ip_add set_list)
    (pss_cons (ps_if (pt_cmpR (op_eqS h64) (pv 0) (pe_lst pa_nil) (nomark _)) (pss_one (ps_ret (pe_op op_mod (pv 4) (pv 2)))) pss_nil)
    (pss_cons (ps_if (PW.pt (pw_and (pt_cmpR op_lt (pv 4) (pe_callB call_lenX (by rfl) m_len PySem.boot_len (pa_cons (pv 0) pa_nil)) (nomark _)) (pw_and1 (pt_cmpR op_ge (pe_ix (ix_any hu) (pv 0) (pv 4) (fun _ _ => rfl)) (pe_op op_pow pe_int pe_int) (nomark _))))) (pss_cons (ps_asg (pe_op op_mod (pe_op op_fdiv (pe_ix (ix_any hu) (pv 0) (pv 4) (fun _ _ => rfl)) (pv 2)) (pe_op op_mulX (pe_op op_pow pe_int pe_int) (pe_op op_pow pe_int pe_int))) (pg_sub (pv 1) pe_int set_list))
    (pss_one (ps_ret (pe_op op_mod (pe_ix (ix_any hu) (pv 0) (pv 4) (fun _ _ => rfl)) (pv 2))))) pss_nil)
    (pss_cons (ps_set (i := 5) nd rfl (by first | exact Or.inl rfl | exact Or.inr rfl) (pe_op op_mod (pe_op op_add (pe_op op_add (pe_op op_mulX (pe_ix (ix_any hu) (pv 0) (pe_op op_mod (pv 4) (pe_callB call_lenX (by rfl) m_len PySem.boot_len (pa_cons (pv 0) pa_nil))) (fun _ _ => rfl)) pe_int) (pe_op op_mulX pe_int (pv 4))) pe_int) pe_int))
    (pss_one (ps_ret (pe_op op_mod (pe_op op_mod (pe_op op_mod (pe_op op_pow (pv 5) pe_int) pe_int) pe_int) (pv 2))))))))))
theorem sc__law_pick : FnScope ["script", "town", "some"] ["script", "town", "some"] (defScope s__law_pick) := ⟨rfl, rfl, rfl, by decide +kernel, rfl, by decide +kernel, by decide +kernel⟩
theorem w__law_pick {k : Nat} {sp__law_draw : Sp} (m_len : mg "len" = none) (c__law_draw : Cl P w K mg base "_law_draw" k sp__law_draw) : ∀ (f : Addr) (cdv : Value) (A : Around) (outer : List Env) (s : Shared) (H : Hp) (E : XK), Room k (A.deeper (PyProof.Rows.envOfC "_law_pick" (defScope s__law_pick) s.heap.objs.size f cdv)) →
    PSs (cxOf CX0 P w K mg base ["script", "town", "some"] "_law_pick" (defScope s__law_pick) f cdv A outer s H E).nox (defBody s__law_pick) (t__law_pick K sp__law_draw) := fun f cdv A outer s H E hr => by
  have nd := sc__law_pick.nd
  have hu : (A.deeper (PyProof.Rows.envOfC "_law_pick" (defScope s__law_pick) s.heap.objs.size f cdv)).units + 1 < cLine := hu_of hr
  have h64 : (A.deeper (PyProof.Rows.envOfC "_law_pick" (defScope s__law_pick) s.heap.objs.size f cdv)).units + 64 < cLine := hr.units
  exact (pss_one (ps_ret (pe_ix (ix_any hu) (pv 2) (pe_cl c__law_draw hr rfl (pa_cons (pv 0) (pa_cons (pv 1) (pa_cons (pe_callB call_lenX (by rfl) m_len PySem.boot_len (pa_cons (pv 2) pa_nil)) pa_nil)))) (fun _ _ => rfl))))
theorem sc__law_document : FnScope ["script", "town", "depth", "names", "key"] ["script", "town", "depth"] (defScope s__law_document) := ⟨rfl, rfl, rfl, by decide +kernel, rfl, by decide +kernel, by decide +kernel⟩
theorem w__law_document {k : Nat} {sp__law_document sp__law_pick sp__law_draw : Sp} (m_dict : mg "dict" = none) (c__law_document : Cl P w K mg base "_law_document" k sp__law_document) (c__law_pick : Cl P w K mg base "_law_pick" k sp__law_pick) (c__law_draw : Cl P w K mg base "_law_draw" k sp__law_draw) : ∀ (f : Addr) (cdv : Value) (A : Around) (outer : List Env) (s : Shared) (H : Hp) (E : XK), Room k (A.deeper (PyProof.Rows.envOfC "_law_document" (defScope s__law_document) s.heap.objs.size f cdv)) →
    PSs (cxOf CX0 P w K mg base ["script", "town", "depth", "names", "key"] "_law_document" (defScope s__law_document) f cdv A outer s H E).nox (defBody s__law_document) (t__law_document K sp__law_document sp__law_pick sp__law_draw) := fun f cdv A outer s H E hr => by
  have nd := sc__law_document.nd
  have hu : (A.deeper (PyProof.Rows.envOfC "_law_document" (defScope s__law_document) s.heap.objs.size f cdv)).units + 1 < cLine := hu_of hr
  have h64 : (A.deeper (PyProof.Rows.envOfC "_law_document" (defScope s__law_document) s.heap.objs.size f cdv)).units + 64 < cLine := hr.units
  exact (pss_cons (ps_if (PW.pt (pw_or (pt_cmpR (op_eqX h64) (pv 2) pe_int (nomark _)) (pw_or1 (pt_cmpR op_lt (pe_cl c__law_draw hr rfl (pa_cons (pv 0) (pa_cons (pv 1) (pa_cons pe_int pa_nil)))) pe_int (nomark _))))) (pss_one (ps_ret (pe_cl c__law_pick hr rfl (pa_cons (pv 0) (pa_cons (pv 1) (pa_cons (pe_lst (pa_cons pe_int (pa_cons pe_int (pa_cons pe_int (pa_cons (pe_un un_neg pe_int) (pa_cons pe_str (pa_cons pe_str (pa_cons pe_str pa_nil)))))))) pa_nil)))))) pss_nil)
    (pss_cons (ps_set (i := 3) nd rfl (by first | exact Or.inl rfl | exact Or.inr rfl) (pe_cl c__law_pick hr rfl (pa_cons (pv 0) (pa_cons (pv 1) (pa_cons (pe_lst (pa_cons pe_str (pa_cons pe_str (pa_cons pe_str (pa_cons pe_str (pa_cons pe_str (pa_cons pe_str (pa_cons pe_str pa_nil)))))))) pa_nil)))))
    (pss_one (ps_ret (pe_callTy (call_dictX rfl) (by rfl) m_dict (by decide +kernel) (pa_cons (pe_lc (own := [("key", 4)]) (by rfl) nd (pi_any (pv 3)) (blkOk_by (own := [("key", 4)]) (N := ["script", "town", "depth", "names", "key"]) (sc := defScope s__law_document) (by decide +kernel)) (fun _ _ _ _ _ => (pg_name (i := 4) nd rfl (by first | exact Or.inl rfl | exact Or.inr rfl))) (fun _ _ _ _ _ => pts_nil) (fun _ _ _ _ _ => (pe_tupF (pa_cons (pv 4) (pa_cons (pe_cl c__law_document hr rfl (pa_cons (pv 0) (pa_cons (pv 1) (pa_cons (pe_op op_sub (pv 2) pe_int) pa_nil)))) pa_nil))))) pa_nil))))))
theorem sc__law_state : FnScope ["script", "town", "depth"] ["script", "town", "depth"] (defScope s__law_state) := ⟨rfl, rfl, rfl, by decide +kernel, rfl, by decide +kernel, by decide +kernel⟩
theorem w__law_state {k : Nat} {sp__law_draw sp__law_document : Sp} (c__law_draw : Cl P w K mg base "_law_draw" k sp__law_draw) (c__law_document : Cl P w K mg base "_law_document" k sp__law_document) : ∀ (f : Addr) (cdv : Value) (A : Around) (outer : List Env) (s : Shared) (H : Hp) (E : XK), Room k (A.deeper (PyProof.Rows.envOfC "_law_state" (defScope s__law_state) s.heap.objs.size f cdv)) →
    PSs (cxOf CX0 P w K mg base ["script", "town", "depth"] "_law_state" (defScope s__law_state) f cdv A outer s H E).nox (defBody s__law_state) (t__law_state K sp__law_draw sp__law_document) := fun f cdv A outer s H E hr => by
  have nd := sc__law_state.nd
  have hu : (A.deeper (PyProof.Rows.envOfC "_law_state" (defScope s__law_state) s.heap.objs.size f cdv)).units + 1 < cLine := hu_of hr
  have h64 : (A.deeper (PyProof.Rows.envOfC "_law_state" (defScope s__law_state) s.heap.objs.size f cdv)).units + 64 < cLine := hr.units
  exact (pss_one (ps_ret (pe_ifExp (pt_cmpR (op_eqX h64) (pe_cl c__law_draw hr rfl (pa_cons (pv 0) (pa_cons (pv 1) (pa_cons pe_int pa_nil)))) pe_int (nomark _)) pe_non (pe_cl c__law_document hr rfl (pa_cons (pv 0) (pa_cons (pv 1) (pa_cons (pv 2) pa_nil)))))))
theorem sc__law_patch : FnScope ["script", "town", "depth", "name", "names", "k", "key"] ["script", "town", "depth"] (defScope s__law_patch) := ⟨rfl, rfl, rfl, by decide +kernel, rfl, by decide +kernel, by decide +kernel⟩
theorem w__law_patch {k : Nat} {sp__law_patch sp__law_pick sp__law_draw sp__law_document : Sp} (m_dict : mg "dict" = none) (m_tuple : mg "tuple" = none) (m_range : mg "range" = none) (c__law_patch : Cl P w K mg base "_law_patch" k sp__law_patch) (c__law_pick : Cl P w K mg base "_law_pick" k sp__law_pick) (c__law_draw : Cl P w K mg base "_law_draw" k sp__law_draw) (c__law_document : Cl P w K mg base "_law_document" k sp__law_document) : ∀ (f : Addr) (cdv : Value) (A : Around) (outer : List Env) (s : Shared) (H : Hp) (E : XK), Room k (A.deeper (PyProof.Rows.envOfC "_law_patch" (defScope s__law_patch) s.heap.objs.size f cdv)) →
    PSs (cxOf CX0 P w K mg base ["script", "town", "depth", "name", "names", "k", "key"] "_law_patch" (defScope s__law_patch) f cdv A outer s H E).nox (defBody s__law_patch) (t__law_patch K sp__law_patch sp__law_pick sp__law_draw sp__law_document) := fun f cdv A outer s H E hr => by
  have nd := sc__law_patch.nd
  have hu : (A.deeper (PyProof.Rows.envOfC "_law_patch" (defScope s__law_patch) s.heap.objs.size f cdv)).units + 1 < cLine := hu_of hr
  have h64 : (A.deeper (PyProof.Rows.envOfC "_law_patch" (defScope s__law_patch) s.heap.objs.size f cdv)).units + 64 < cLine := hr.units
  exact (pss_cons (ps_set (i := 3) nd rfl (by first | exact Or.inl rfl | exact Or.inr rfl) (pe_cl c__law_pick hr rfl (pa_cons (pv 0) (pa_cons (pv 1) (pa_cons (pe_lst (pa_cons pe_str (pa_cons pe_str (pa_cons pe_str (pa_cons pe_str (pa_cons pe_str (pa_cons pe_str (pa_cons pe_str (pa_cons pe_str (pa_cons pe_str pa_nil)))))))))) pa_nil)))))
    (pss_cons (ps_if (pt_cmpR (op_inX hu) (pv 3) (pe_tupF (pa_cons pe_str (pa_cons pe_str pa_nil))) (by rfl)) (pss_one (ps_ret (pe_tupF (pa_cons (pv 3) pa_nil)))) pss_nil)
    (pss_cons (ps_if (PW.pt (pw_or (pt_cmpR (op_inX hu) (pv 3) (pe_tupF (pa_cons pe_str (pa_cons pe_str pa_nil))) (by rfl)) (pw_or1 (pt_cmpR (op_eqX h64) (pv 2) pe_int (nomark _))))) (pss_one (ps_ret (pe_tupF (pa_cons (pe_cl c__law_pick hr rfl (pa_cons (pv 0) (pa_cons (pv 1) (pa_cons (pe_lst (pa_cons pe_str (pa_cons pe_str pa_nil))) pa_nil)))) (pa_cons (pe_cl c__law_document hr rfl (pa_cons (pv 0) (pa_cons (pv 1) (pa_cons pe_int pa_nil)))) pa_nil))))) pss_nil)
    (pss_cons (ps_if (pt_cmpR (op_eqX h64) (pv 3) pe_str (nomark _)) (pss_one (ps_ret (pe_tupF (pa_cons (pv 3) (pa_cons (pe_callTy call_tupleF (by rfl) m_tuple (by decide +kernel) (pa_cons (pe_lc (own := [("k", 5)]) (by rfl) nd (pi_range1 rfl m_range (pa_cons (pe_cl c__law_draw hr rfl (pa_cons (pv 0) (pa_cons (pv 1) (pa_cons pe_int pa_nil)))) pa_nil)) (blkOk_by (own := [("k", 5)]) (N := ["script", "town", "depth", "name", "names", "k", "key"]) (sc := defScope s__law_patch) (by decide +kernel)) (fun _ _ _ _ _ => (pg_name (i := 5) nd rfl (by first | exact Or.inl rfl | exact Or.inr rfl))) (fun _ _ _ _ _ => pts_nil) (fun _ _ _ _ _ => (pe_cl c__law_patch hr rfl (pa_cons (pv 0) (pa_cons (pv 1) (pa_cons (pe_op op_sub (pv 2) pe_int) pa_nil)))))) pa_nil)) pa_nil))))) pss_nil)
    (pss_cons (ps_set (i := 4) nd rfl (by first | exact Or.inl rfl | exact Or.inr rfl) (pe_cl c__law_pick hr rfl (pa_cons (pv 0) (pa_cons (pv 1) (pa_cons (pe_lst (pa_cons pe_str (pa_cons pe_str (pa_cons pe_str (pa_cons pe_str (pa_cons pe_str pa_nil)))))) pa_nil)))))
    (pss_one (ps_ret (pe_tupF (pa_cons (pv 3) (pa_cons (pe_callTy (call_dictX rfl) (by rfl) m_dict (by decide +kernel) (pa_cons (pe_lc (own := [("key", 6)]) (by rfl) nd (pi_any (pv 4)) (blkOk_by (own := [("key", 6)]) (N := ["script", "town", "depth", "name", "names", "k", "key"]) (sc := defScope s__law_patch) (by decide +kernel)) (fun _ _ _ _ _ => (pg_name (i := 6) nd rfl (by first | exact Or.inl rfl | exact Or.inr rfl))) (fun _ _ _ _ _ => pts_nil) (fun _ _ _ _ _ => (pe_tupF (pa_cons (pv 6) (pa_cons (pe_cl c__law_patch hr rfl (pa_cons (pv 0) (pa_cons (pv 1) (pa_cons (pe_op op_sub (pv 2) pe_int) pa_nil)))) pa_nil))))) pa_nil)) pa_nil))))))))))
theorem sc_law : FnScope ["script", "town", "patch", "state", "bad", "deep", "nested", "k", "wide", "what", "key", "one"] ["script"] (defScope s_law) := ⟨rfl, rfl, rfl, by decide +kernel, rfl, by decide +kernel, by decide +kernel⟩
theorem w_law {k : Nat} {sp_is_patch sp_value_at sp_is_state sp__law_ask sp__law_states sp__law_patches sp__law_state sp__law_patch : Sp} (m_dict : mg "dict" = none) (m_range : mg "range" = none) (c_is_patch : Cl P w K mg base "is_patch" k sp_is_patch) (c_value_at : Cl P w K mg base "value_at" k sp_value_at) (c_is_state : Cl P w K mg base "is_state" k sp_is_state) (c__law_ask : Cl P w K mg base "_law_ask" k sp__law_ask) (c__law_states : Cl P w K mg base "_law_states" k sp__law_states) (c__law_patches : Cl P w K mg base "_law_patches" k sp__law_patches) (c__law_state : Cl P w K mg base "_law_state" k sp__law_state) (c__law_patch : Cl P w K mg base "_law_patch" k sp__law_patch) : ∀ (f : Addr) (cdv : Value) (A : Around) (outer : List Env) (s : Shared) (H : Hp) (E : XK), Room k (A.deeper (PyProof.Rows.envOfC "law" (defScope s_law) s.heap.objs.size f cdv)) →
    PSs (cxOf CX0 P w K mg base ["script", "town", "patch", "state", "bad", "deep", "nested", "k", "wide", "what", "key", "one"] "law" (defScope s_law) f cdv A outer s H E).nox (defBody s_law) (t_law02 K sp_is_patch sp_value_at sp_is_state sp__law_ask sp__law_states sp__law_patches sp__law_state sp__law_patch) := fun f cdv A outer s H E hr => by
  have nd := sc_law.nd
  have hu : (A.deeper (PyProof.Rows.envOfC "law" (defScope s_law) s.heap.objs.size f cdv)).units + 1 < cLine := hu_of hr
  have h64 : (A.deeper (PyProof.Rows.envOfC "law" (defScope s_law) s.heap.objs.size f cdv)).units + 64 < cLine := hr.units
  exact (pss_cons (ps_set (i := 1) nd rfl (by first | exact Or.inl rfl | exact Or.inr rfl) (pe_lst (pa_cons pe_int (pa_cons pe_int pa_nil))))
    (pss_cons (ps_asg (pe_tupF (pa_cons (pe_cl c__law_patch hr rfl (pa_cons (pv 0) (pa_cons (pv 1) (pa_cons pe_int pa_nil)))) (pa_cons (pe_cl c__law_state hr rfl (pa_cons (pv 0) (pa_cons (pv 1) (pa_cons pe_int pa_nil)))) pa_nil))) (pg_tup rfl (pgs_cons (pg_name (i := 2) nd rfl (by first | exact Or.inl rfl | exact Or.inr rfl)) (pgs_cons (pg_name (i := 3) nd rfl (by first | exact Or.inl rfl | exact Or.inr rfl)) pgs_nil))))
    (pss_cons (ps_for PassesOwn.never rfl (pi_any (pe_cl0 c__law_patches hr rfl)) (pg_name (i := 4) nd rfl (by first | exact Or.inl rfl | exact Or.inr rfl)) (pss_cons (ps_if (pt_cmpR op_notBl (pe_cl c_is_patch hr rfl (pa_cons (pv 4) pa_nil)) pe_bl (nomark _)) (pss_one (ps_ret pe_bl)) pss_nil)
    (pss_cons (ps_if (pt_cmpR (op_neX h64) (pe_lc (own := [("what", 9)]) (by rfl) nd (pi_range1 rfl m_range (pa_cons pe_int pa_nil)) (blkOk_by (own := [("what", 9)]) (N := ["script", "town", "patch", "state", "bad", "deep", "nested", "k", "wide", "what", "key", "one"]) (sc := defScope s_law) (by decide +kernel)) (fun _ _ _ _ _ => (pg_name (i := 9) nd rfl (by first | exact Or.inl rfl | exact Or.inr rfl))) (fun _ _ _ _ _ => pts_nil) (fun _ _ _ _ _ => (pe_cl c__law_ask hr rfl (pa_cons (pv 9) (pa_cons (pv 4) (pa_cons pe_non pa_nil)))))) (pe_op op_rep (pe_lst (pa_cons (pe_tupF (pa_cons pe_str (pa_cons pe_int pa_nil))) pa_nil)) pe_int) (nomark _)) (pss_one (ps_ret pe_bl)) pss_nil)
    (pss_one (ps_if (pt_cmpR (op_neX h64) (pe_lc (own := [("what", 9)]) (by rfl) nd (pi_any (pe_tupF (pa_cons pe_int (pa_cons pe_int (pa_cons pe_int pa_nil))))) (blkOk_by (own := [("what", 9)]) (N := ["script", "town", "patch", "state", "bad", "deep", "nested", "k", "wide", "what", "key", "one"]) (sc := defScope s_law) (by decide +kernel)) (fun _ _ _ _ _ => (pg_name (i := 9) nd rfl (by first | exact Or.inl rfl | exact Or.inr rfl))) (fun _ _ _ _ _ => pts_nil) (fun _ _ _ _ _ => (pe_cl c__law_ask hr rfl (pa_cons (pv 9) (pa_cons (pv 2) (pa_cons (pv 4) pa_nil)))))) (pe_op op_rep (pe_lst (pa_cons (pe_tupF (pa_cons pe_str (pa_cons pe_int pa_nil))) pa_nil)) pe_int) (nomark _)) (pss_one (ps_ret pe_bl)) pss_nil)))))
    (pss_cons (ps_for PassesOwn.never rfl (pi_any (pe_cl0 c__law_states hr rfl)) (pg_name (i := 4) nd rfl (by first | exact Or.inl rfl | exact Or.inr rfl)) (pss_cons (ps_if (pt_cmpR op_notBl (pe_cl c_is_state hr rfl (pa_cons (pv 4) pa_nil)) pe_bl (nomark _)) (pss_one (ps_ret pe_bl)) pss_nil)
    (pss_cons (ps_if (pt_cmpR (op_neX h64) (pe_lc (own := [("what", 9)]) (by rfl) nd (pi_any (pe_tupF (pa_cons pe_int (pa_cons pe_int pa_nil)))) (blkOk_by (own := [("what", 9)]) (N := ["script", "town", "patch", "state", "bad", "deep", "nested", "k", "wide", "what", "key", "one"]) (sc := defScope s_law) (by decide +kernel)) (fun _ _ _ _ _ => (pg_name (i := 9) nd rfl (by first | exact Or.inl rfl | exact Or.inr rfl))) (fun _ _ _ _ _ => pts_nil) (fun _ _ _ _ _ => (pe_cl c__law_ask hr rfl (pa_cons (pv 9) (pa_cons (pv 2) (pa_cons (pv 4) pa_nil)))))) (pe_op op_rep (pe_lst (pa_cons (pe_tupF (pa_cons pe_str (pa_cons pe_int pa_nil))) pa_nil)) pe_int) (nomark _)) (pss_one (ps_ret pe_bl)) pss_nil)
    (pss_cons (ps_if (pt_cmpR (op_neX h64) (pe_lc (own := [("what", 9)]) (by rfl) nd (pi_range2 rfl m_range (pa_cons pe_int (pa_cons pe_int pa_nil))) (blkOk_by (own := [("what", 9)]) (N := ["script", "town", "patch", "state", "bad", "deep", "nested", "k", "wide", "what", "key", "one"]) (sc := defScope s_law) (by decide +kernel)) (fun _ _ _ _ _ => (pg_name (i := 9) nd rfl (by first | exact Or.inl rfl | exact Or.inr rfl))) (fun _ _ _ _ _ => pts_nil) (fun _ _ _ _ _ => (pe_cl c__law_ask hr rfl (pa_cons (pv 9) (pa_cons (pv 4) (pa_cons pe_non pa_nil)))))) (pe_op op_rep (pe_lst (pa_cons (pe_tupF (pa_cons pe_str (pa_cons pe_int pa_nil))) pa_nil)) pe_int) (nomark _)) (pss_one (ps_ret pe_bl)) pss_nil)
    (pss_one (ps_if (pt_cmpR (op_neX h64) (pe_lc (own := [("what", 9)]) (by rfl) nd (pi_any (pe_tupF (pa_cons pe_int (pa_cons pe_int (pa_cons pe_int (pa_cons pe_int pa_nil)))))) (blkOk_by (own := [("what", 9)]) (N := ["script", "town", "patch", "state", "bad", "deep", "nested", "k", "wide", "what", "key", "one"]) (sc := defScope s_law) (by decide +kernel)) (fun _ _ _ _ _ => (pg_name (i := 9) nd rfl (by first | exact Or.inl rfl | exact Or.inr rfl))) (fun _ _ _ _ _ => pts_nil) (fun _ _ _ _ _ => (pe_cl c__law_ask hr rfl (pa_cons (pv 9) (pa_cons (pv 3) (pa_cons (pv 4) pa_nil)))))) (pe_op op_rep (pe_lst (pa_cons (pe_tupF (pa_cons pe_str (pa_cons pe_int pa_nil))) pa_nil)) pe_int) (nomark _)) (pss_one (ps_ret pe_bl)) pss_nil))))))
    (pss_cons (ps_for PassesOwn.never rfl (pi_any (pe_tupF (pa_cons pe_non (pa_cons pe_str (pa_cons (pe_lst (pa_cons pe_str pa_nil)) (pa_cons (pe_tupF (pa_cons pe_str pa_nil)) (pa_cons (pe_tupF (pa_cons pe_str pa_nil)) (pa_cons (pe_tupF (pa_cons pe_int pa_nil)) (pa_cons (pe_op op_repF (pe_tupF (pa_cons pe_str pa_nil)) pe_int) (pa_cons (pe_tupF (pa_cons pe_str pa_nil)) (pa_cons (pe_tupF (pa_cons pe_str (pa_cons pe_non pa_nil))) pa_nil))))))))))) (pg_name (i := 4) nd rfl (by first | exact Or.inl rfl | exact Or.inr rfl)) (pss_one (ps_if (PW.pt (pw_or (pt_cmpR (op_neX h64) (pe_cl c__law_ask hr rfl (pa_cons pe_int (pa_cons (pv 2) (pa_cons (pv 4) pa_nil)))) (pe_tupF (pa_cons pe_str (pa_cons pe_int pa_nil))) (nomark _)) (pw_or1 (pt_cmpR (op_neX h64) (pe_cl c__law_ask hr rfl (pa_cons pe_int (pa_cons (pv 3) (pa_cons (pv 4) pa_nil)))) (pe_tupF (pa_cons pe_str (pa_cons pe_int pa_nil))) (nomark _))))) (pss_one (ps_ret pe_bl)) pss_nil)))
    (pss_cons (ps_par (i := 5) (j := 6) (by rfl) nd rfl rfl (by decide) rfl rfl (pa_cons (pe_disp (pps_cons pe_str pe_dnewK pps_nil) (by rfl) (by rfl) (fun z => by cases z) (by decide)) (pa_cons (pe_tupF (pa_cons pe_str pa_nil)) pa_nil)) (by rfl))
    (pss_cons (ps_for PassesOwn.never rfl (pi_range1 rfl m_range (pa_cons pe_int pa_nil)) (pg_name (i := 7) nd rfl (by first | exact Or.inl rfl | exact Or.inr rfl)) (pss_one (ps_set (i := 5) nd rfl (by first | exact Or.inl rfl | exact Or.inr rfl) (pe_disp (pps_cons pe_str (pv 5) pps_nil) (by rfl) (by rfl) (fun z => by cases z) (by decide)))))
    (pss_cons (ps_for PassesOwn.never rfl (pi_range1 rfl m_range (pa_cons pe_int pa_nil)) (pg_name (i := 7) nd rfl (by first | exact Or.inl rfl | exact Or.inr rfl)) (pss_one (ps_set (i := 6) nd rfl (by first | exact Or.inl rfl | exact Or.inr rfl) (pe_tupF (pa_cons pe_str (pa_cons (pe_disp (pps_cons pe_str (pv 6) pps_nil) (by rfl) (by rfl) (fun z => by cases z) (by decide)) pa_nil))))))
    (pss_cons (ps_set (i := 8) nd rfl (by first | exact Or.inl rfl | exact Or.inr rfl) (pe_callTy (call_dictX rfl) (by rfl) m_dict (by decide +kernel) (pa_cons (pe_lc (own := [("key", 10)]) (by rfl) nd (pi_any pe_str) (blkOk_by (own := [("key", 10)]) (N := ["script", "town", "patch", "state", "bad", "deep", "nested", "k", "wide", "what", "key", "one"]) (sc := defScope s_law) (by decide +kernel)) (fun _ _ _ _ _ => (pg_name (i := 10) nd rfl (by first | exact Or.inl rfl | exact Or.inr rfl))) (fun _ _ _ _ _ => pts_nil) (fun _ _ _ _ _ => (pe_tupF (pa_cons (pv 10) (pa_cons pe_int pa_nil))))) pa_nil)))
    (pss_cons (ps_if (pt_cmpR op_notBl (pe_cl c_is_patch hr rfl (pa_cons (pe_tupF (pa_cons pe_str (pa_cons (pe_callTy (call_dictX rfl) (by rfl) m_dict (by decide +kernel) (pa_cons (pe_lc (own := [("key", 10)]) (by rfl) nd (pi_any pe_str) (blkOk_by (own := [("key", 10)]) (N := ["script", "town", "patch", "state", "bad", "deep", "nested", "k", "wide", "what", "key", "one"]) (sc := defScope s_law) (by decide +kernel)) (fun _ _ _ _ _ => (pg_name (i := 10) nd rfl (by first | exact Or.inl rfl | exact Or.inr rfl))) (fun _ _ _ _ _ => pts_nil) (fun _ _ _ _ _ => (pe_tupF (pa_cons (pv 10) (pa_cons (pe_tupF (pa_cons pe_str pa_nil)) pa_nil))))) pa_nil)) pa_nil))) pa_nil)) pe_bl (nomark _)) (pss_one (ps_ret pe_bl)) pss_nil)
    (pss_cons (ps_if (pt_cmpR (op_neX h64) (pe_lc (own := [("one", 11)]) (by rfl) nd (pi_any (pe_tupF (pa_cons (pv 5) (pa_cons (pv 8) (pa_cons (pe_un un_neg pe_int) (pa_cons pe_str (pa_cons pe_str (pa_cons pe_non (pa_cons pe_dnewK pa_nil))))))))) (blkOk_by (own := [("one", 11)]) (N := ["script", "town", "patch", "state", "bad", "deep", "nested", "k", "wide", "what", "key", "one"]) (sc := defScope s_law) (by decide +kernel)) (fun _ _ _ _ _ => (pg_name (i := 11) nd rfl (by first | exact Or.inl rfl | exact Or.inr rfl))) (fun _ _ _ _ _ => pts_nil) (fun _ _ _ _ _ => (pe_cl c_is_state hr rfl (pa_cons (pv 11) pa_nil)))) (pe_op op_rep (pe_lst (pa_cons pe_bl pa_nil)) pe_int) (nomark _)) (pss_one (ps_ret pe_bl)) pss_nil)
    (pss_cons (ps_if (pt_cmpR op_notBl (pe_cl c_is_patch hr rfl (pa_cons (pv 6) pa_nil)) pe_bl (nomark _)) (pss_one (ps_ret pe_bl)) pss_nil)
    (pss_cons (ps_if (PW.pt (pw_or (pt_cmpR op_notBl (pe_cl c_is_patch hr rfl (pa_cons (pe_tupF (pa_cons pe_str (pa_cons (pe_op op_repF (pe_tupF (pa_cons (pe_tupF (pa_cons pe_str pa_nil)) pa_nil)) pe_int) pa_nil))) pa_nil)) pe_bl (nomark _)) (pw_or1 (pt_cmpR op_notN (pe_cl c_value_at hr rfl (pa_cons (pv 5) (pa_cons (pe_op op_repF (pe_tupF (pa_cons pe_str pa_nil)) pe_int) pa_nil))) pe_non (nomark _))))) (pss_one (ps_ret pe_bl)) pss_nil)
    (pss_one (ps_ret (pe_cmpR op_isBl (pe_cl c_is_patch hr rfl (pa_cons (pe_tupF (pa_cons pe_str (pa_cons (pe_tupF pa_nil) pa_nil))) pa_nil)) pe_bl (nomark _)))))))))))))))))
theorem w_is_documentO {k : Nat} {sp_is_document sp_is_text sp_is_scalar : Sp} (g_ENTRIES : ∃ tk, mg "ENTRIES" = some (.int 6 tk)) (m_all : mg "all" = none) (m_len : mg "len" = none) (m_isinstance : mg "isinstance" = none) (m_dict : mg "dict" = none) (c_is_document : Cl P w K mg base "is_document" k sp_is_document) (c_is_text : Cl P w K mg base "is_text" k sp_is_text) (c_is_scalar : Cl P w K mg base "is_scalar" k sp_is_scalar) : ∀ (f : Addr) (cdv : Value) (A : Around) (outer : List Env) (s : Shared) (H : Hp) (E : XK), Room k (A.deeper (PyProof.Rows.envOfC "is_document" (defScope s_is_document) s.heap.objs.size f cdv)) →
    PSs (cxOf CX0 P w K mg base ["value", "depth", "key"] "is_document" (defScope s_is_document) f cdv A outer s H E).nox (defBody s_is_document) (t_is_documentO K sp_is_document sp_is_text sp_is_scalar) := fun f cdv A outer s H E hr => by
  have nd := sc_is_document.nd
  have hu : (A.deeper (PyProof.Rows.envOfC "is_document" (defScope s_is_document) s.heap.objs.size f cdv)).units + 1 < cLine := hu_of hr
  have h64 : (A.deeper (PyProof.Rows.envOfC "is_document" (defScope s_is_document) s.heap.objs.size f cdv)).units + 64 < cLine := hr.units
  exact (pss_cons (ps_if (pt_not (pt_val (pe_callB call_isO (by rfl) m_isinstance (by decide +kernel) (pa_cons (pv 0) (pa_cons (pe_gty rfl m_dict (by decide +kernel)) pa_nil))))) (pss_one (ps_ret (pe_cl c_is_scalar hr rfl (pa_cons (pv 0) pa_nil)))) pss_nil)
    (pss_cons (ps_if (PW.pt (pw_or (pt_cmpR (op_eqX h64) (pv 1) pe_int (nomark _)) (pw_or (pt_cmpR op_gt (pe_callB call_lenO (by rfl) m_len PySem.boot_len (pa_cons (pv 0) pa_nil)) (pe_gint rfl g_ENTRIES) (nomark _)) (pw_or1 (pt_not (pt_val (pe_callB (cr_all rfl) (by rfl) m_all (by decide +kernel) (pa_cons (pe_lc (own := [("key", 2)]) (by rfl) nd (pi_odd (pv 0)) (blkOk_by (own := [("key", 2)]) (N := ["value", "depth", "key"]) (sc := defScope s_is_document) (by decide +kernel)) (fun _ _ _ _ _ => (pg_name (i := 2) nd rfl (by first | exact Or.inl rfl | exact Or.inr rfl))) (fun _ _ _ _ _ => pts_nil) (fun _ _ _ _ _ => (pe_cl c_is_text hr rfl (pa_cons (pv 2) (pa_cons pe_int pa_nil))))) pa_nil)))))))) (pss_one (ps_ret pe_bl)) pss_nil)
    (pss_one (ps_ret (pe_callB (cr_all rfl) (by rfl) m_all (by decide +kernel) (pa_cons (pe_lc (own := [("key", 2)]) (by rfl) nd (pi_odd (pv 0)) (blkOk_by (own := [("key", 2)]) (N := ["value", "depth", "key"]) (sc := defScope s_is_document) (by decide +kernel)) (fun _ _ _ _ _ => (pg_name (i := 2) nd rfl (by first | exact Or.inl rfl | exact Or.inr rfl))) (fun _ _ _ _ _ => pts_nil) (fun _ _ _ _ _ => (pe_cl c_is_document hr rfl (pa_cons (pe_ix (ix_any hu) (pv 0) (pv 2) (fun _ _ => rfl)) (pa_cons (pe_op op_sub (pv 1) pe_int) pa_nil))))) pa_nil))))))
theorem w_need_stateN {k : Nat} {sp_is_state : Sp} (c_is_state : Cl P w K mg base "is_state" k sp_is_state) : ∀ (f : Addr) (cdv : Value) (A : Around) (outer : List Env) (s : Shared) (H : Hp) (E : XK), Room k (A.deeper (PyProof.Rows.envOfC "need_state" (defScope s_need_state) s.heap.objs.size f cdv)) →
    PSs (cxOf CX0 P w K mg base ["value"] "need_state" (defScope s_need_state) f cdv A outer s H E).nox (defBody s_need_state) (t_need_state K sp_is_state) := fun f cdv A outer s H E hr => by
  have nd := sc_need_state.nd
  have hu : (A.deeper (PyProof.Rows.envOfC "need_state" (defScope s_need_state) s.heap.objs.size f cdv)).units + 1 < cLine := hu_of hr
  have h64 : (A.deeper (PyProof.Rows.envOfC "need_state" (defScope s_need_state) s.heap.objs.size f cdv)).units + 64 < cLine := hr.units
  exact (pss_one (ps_if (pt_not (pt_val (pe_cl c_is_state hr rfl (pa_cons (pv 0) pa_nil)))) (pss_one ps_never) pss_nil))
theorem w_need_pathN {k : Nat} {sp_is_text : Sp} (m_isinstance : mg "isinstance" = none) (m_tuple : mg "tuple" = none) (m_len : mg "len" = none) (m_all : mg "all" = none) (c_is_text : Cl P w K mg base "is_text" k sp_is_text) : ∀ (f : Addr) (cdv : Value) (A : Around) (outer : List Env) (s : Shared) (H : Hp) (E : XK), Room k (A.deeper (PyProof.Rows.envOfC "need_path" (defScope s_need_path) s.heap.objs.size f cdv)) →
    PSs (cxOf CX0 P w K mg base ["value", "key"] "need_path" (defScope s_need_path) f cdv A outer s H E).nox (defBody s_need_path) (t_need_path K sp_is_text) := fun f cdv A outer s H E hr => by
  have nd := sc_need_path.nd
  have hu : (A.deeper (PyProof.Rows.envOfC "need_path" (defScope s_need_path) s.heap.objs.size f cdv)).units + 1 < cLine := hu_of hr
  have h64 : (A.deeper (PyProof.Rows.envOfC "need_path" (defScope s_need_path) s.heap.objs.size f cdv)).units + 64 < cLine := hr.units
  exact (pss_one (ps_if (PW.pt (pw_or (pt_not (pt_val (pe_callB call_isi (by rfl) m_isinstance (by decide +kernel) (pa_cons (pv 0) (pa_cons (pe_gty rfl m_tuple (by decide +kernel)) pa_nil))))) (pw_or (pt_cmpR op_gt (pe_callB call_lenX (by rfl) m_len PySem.boot_len (pa_cons (pv 0) pa_nil)) pe_int (nomark _)) (pw_or1 (pt_not (pt_val (pe_callB (cr_all rfl) (by rfl) m_all (by decide +kernel) (pa_cons (pe_lc (own := [("key", 1)]) (by rfl) nd (pi_any (pv 0)) (blkOk_by (own := [("key", 1)]) (N := ["value", "key"]) (sc := defScope s_need_path) (by decide +kernel)) (fun _ _ _ _ _ => (pg_name (i := 1) nd rfl (by first | exact Or.inl rfl | exact Or.inr rfl))) (fun _ _ _ _ _ => pts_nil) (fun _ _ _ _ _ => (pe_cl c_is_text hr rfl (pa_cons (pv 1) (pa_cons pe_int pa_nil))))) pa_nil)))))))) (pss_one ps_never) pss_nil))
theorem w_value_atN {k : Nat} {sp_copied sp_found_at sp_need_path sp_need_state : Sp} (c_copied : Cl P w K mg base "copied" k sp_copied) (c_found_at : Cl P w K mg base "found_at" k sp_found_at) (c_need_path : Cl P w K mg base "need_path" k sp_need_path) (c_need_state : Cl P w K mg base "need_state" k sp_need_state) : ∀ (f : Addr) (cdv : Value) (A : Around) (outer : List Env) (s : Shared) (H : Hp) (E : XK), Room k (A.deeper (PyProof.Rows.envOfC "value_at" (defScope s_value_at) s.heap.objs.size f cdv)) →
    PSs (cxOf CX0 P w K mg base ["state", "path"] "value_at" (defScope s_value_at) f cdv A outer s H E).nox (defBody s_value_at) (t_value_at K sp_copied sp_found_at sp_need_path sp_need_state) := fun f cdv A outer s H E hr => by
  have nd := sc_value_at.nd
  have hu : (A.deeper (PyProof.Rows.envOfC "value_at" (defScope s_value_at) s.heap.objs.size f cdv)).units + 1 < cLine := hu_of hr
  have h64 : (A.deeper (PyProof.Rows.envOfC "value_at" (defScope s_value_at) s.heap.objs.size f cdv)).units + 64 < cLine := hr.units
  exact (pss_cons (ps_expr (pe_cl c_need_state hr rfl (pa_cons (pv 0) pa_nil)))
    (pss_cons (ps_expr (pe_cl c_need_path hr rfl (pa_cons (pv 1) pa_nil)))
    (pss_one (ps_ret (pe_cl c_copied hr rfl (pa_cons (pe_cl c_found_at hr rfl (pa_cons (pv 0) (pa_cons (pv 1) pa_nil))) pa_nil))))))
end
end Mp
set_option maxRecDepth 100000
set_option maxHeartbeats 4000000
namespace Mp
open PySem L2
theorem factsL {P : Program} {w : World} {K : PySem.W.Frag} {h : Heap} {mg : Str → Option Value} {f : Addr} (X : K.In h) (G : h.Ns mainGlobals mg) (hfa : mg ("law" : Str) = some (.ref f)) (c : SaysY faL fnL tsL xsL csL ysL K) :
    ∃ fd : FuncData, (∀ (s : Shared) (v : Value), BindsTo s fd ⟨[v], []⟩ [("script", v)]) ∧ ∀ base : Heap, K.In base → base.Ns mainGlobals mg → FnOk P w K mg base CX0 96 f fd ["script"] (spLaw K) := by
  have cs := c.says
  obtain ⟨fd_is_text, F_is_text⟩ := cs.def_ 0 (d := dD_is_text) rfl
  replace F_is_text : FnP K "is_text" s_is_text (He.ga K "is_text") fd_is_text := F_is_text
  have g_is_text : mg "is_text" = some (.ref (He.ga K "is_text")) := He.glo_ok X G (cs.fact 0 (f := .glo "is_text") rfl)
  have b_is_text : Binds K fd_is_text ["value", "least"] [] := FunD.bindsN F_is_text fun _ _ _ _ _ _ us hl => match us, hl with | [_, _], _ => rfl
  obtain ⟨fd_is_scalar, F_is_scalar⟩ := cs.def_ 1 (d := dD_is_scalar) rfl
  replace F_is_scalar : FnP K "is_scalar" s_is_scalar (He.ga K "is_scalar") fd_is_scalar := F_is_scalar
  have g_is_scalar : mg "is_scalar" = some (.ref (He.ga K "is_scalar")) := He.glo_ok X G (cs.fact 1 (f := .glo "is_scalar") rfl)
  have b_is_scalar : Binds K fd_is_scalar ["value"] [] := FunD.bindsN F_is_scalar fun _ _ _ _ _ _ us hl => match us, hl with | [_], _ => rfl
  obtain ⟨fd_is_document, F_is_document⟩ := cs.def_ 2 (d := dD_is_document) rfl
  replace F_is_document : FnP K "is_document" s_is_document (He.ga K "is_document") fd_is_document := F_is_document
  have g_is_document : mg "is_document" = some (.ref (He.ga K "is_document")) := He.glo_ok X G (cs.fact 2 (f := .glo "is_document") rfl)
  have b_is_document : Binds K fd_is_document ["value", "depth"] [] := FunD.bindsN F_is_document fun _ _ _ _ _ _ us hl => match us, hl with | [_, _], _ => rfl
  obtain ⟨fd_is_state, F_is_state⟩ := cs.def_ 3 (d := dD_is_state) rfl
  replace F_is_state : FnP K "is_state" s_is_state (He.ga K "is_state") fd_is_state := F_is_state
  have g_is_state : mg "is_state" = some (.ref (He.ga K "is_state")) := He.glo_ok X G (cs.fact 3 (f := .glo "is_state") rfl)
  have b_is_state : Binds K fd_is_state ["value"] [] := FunD.bindsN F_is_state fun _ _ _ _ _ _ us hl => match us, hl with | [_], _ => rfl
  obtain ⟨fd_need_state, F_need_state⟩ := cs.def_ 4 (d := dD_need_state) rfl
  replace F_need_state : FnP K "need_state" s_need_state (He.ga K "need_state") fd_need_state := F_need_state
  have g_need_state : mg "need_state" = some (.ref (He.ga K "need_state")) := He.glo_ok X G (cs.fact 4 (f := .glo "need_state") rfl)
  have b_need_state : Binds K fd_need_state ["value"] [] := FunD.bindsN F_need_state fun _ _ _ _ _ _ us hl => match us, hl with | [_], _ => rfl
  obtain ⟨fd_need_path, F_need_path⟩ := cs.def_ 5 (d := dD_need_path) rfl
  replace F_need_path : FnP K "need_path" s_need_path (He.ga K "need_path") fd_need_path := F_need_path
  have g_need_path : mg "need_path" = some (.ref (He.ga K "need_path")) := He.glo_ok X G (cs.fact 5 (f := .glo "need_path") rfl)
  have b_need_path : Binds K fd_need_path ["value"] [] := FunD.bindsN F_need_path fun _ _ _ _ _ _ us hl => match us, hl with | [_], _ => rfl
  obtain ⟨fd_copied, F_copied⟩ := cs.def_ 6 (d := dD_copied) rfl
  replace F_copied : FnP K "copied" s_copied (He.ga K "copied") fd_copied := F_copied
  have g_copied : mg "copied" = some (.ref (He.ga K "copied")) := He.glo_ok X G (cs.fact 6 (f := .glo "copied") rfl)
  have b_copied : Binds K fd_copied ["state"] [] := FunD.bindsN F_copied fun _ _ _ _ _ _ us hl => match us, hl with | [_], _ => rfl
  obtain ⟨fd_found_at, F_found_at⟩ := cs.def_ 7 (d := dD_found_at) rfl
  replace F_found_at : FnP K "found_at" s_found_at (He.ga K "found_at") fd_found_at := F_found_at
  have g_found_at : mg "found_at" = some (.ref (He.ga K "found_at")) := He.glo_ok X G (cs.fact 7 (f := .glo "found_at") rfl)
  have b_found_at : Binds K fd_found_at ["state", "path"] [] := FunD.bindsN F_found_at fun _ _ _ _ _ _ us hl => match us, hl with | [_, _], _ => rfl
  obtain ⟨fd_value_at, F_value_at⟩ := cs.def_ 8 (d := dD_value_at) rfl
  replace F_value_at : FnP K "value_at" s_value_at (He.ga K "value_at") fd_value_at := F_value_at
  have g_value_at : mg "value_at" = some (.ref (He.ga K "value_at")) := He.glo_ok X G (cs.fact 8 (f := .glo "value_at") rfl)
  have b_value_at : Binds K fd_value_at ["state", "path"] [] := FunD.bindsN F_value_at fun _ _ _ _ _ _ us hl => match us, hl with | [_, _], _ => rfl
  obtain ⟨fd_are_entries, F_are_entries⟩ := cs.def_ 9 (d := dD_are_entries) rfl
  replace F_are_entries : FnP K "are_entries" s_are_entries (He.ga K "are_entries") fd_are_entries := F_are_entries
  have g_are_entries : mg "are_entries" = some (.ref (He.ga K "are_entries")) := He.glo_ok X G (cs.fact 9 (f := .glo "are_entries") rfl)
  have b_are_entries : Binds K fd_are_entries ["value", "depth"] [] := FunD.bindsN F_are_entries fun _ _ _ _ _ _ us hl => match us, hl with | [_, _], _ => rfl
  obtain ⟨fd_is_nested, F_is_nested⟩ := cs.def_ 10 (d := dD_is_nested) rfl
  replace F_is_nested : FnP K "is_nested" s_is_nested (He.ga K "is_nested") fd_is_nested := F_is_nested
  have g_is_nested : mg "is_nested" = some (.ref (He.ga K "is_nested")) := He.glo_ok X G (cs.fact 10 (f := .glo "is_nested") rfl)
  have b_is_nested : Binds K fd_is_nested ["value", "depth"] [] := FunD.bindsN F_is_nested fun _ _ _ _ _ _ us hl => match us, hl with | [_, _], _ => rfl
  obtain ⟨fd_is_patch, F_is_patch⟩ := cs.def_ 11 (d := dD_is_patch) rfl
  replace F_is_patch : FnP K "is_patch" s_is_patch (He.ga K "is_patch") fd_is_patch := F_is_patch
  have g_is_patch : mg "is_patch" = some (.ref (He.ga K "is_patch")) := He.glo_ok X G (cs.fact 11 (f := .glo "is_patch") rfl)
  have b_is_patch : Binds K fd_is_patch ["value"] [] := FunD.bindsN F_is_patch fun _ _ _ _ _ _ us hl => match us, hl with | [_], _ => rfl
  obtain ⟨fd_need_patch, F_need_patch⟩ := cs.def_ 12 (d := dD_need_patch) rfl
  replace F_need_patch : FnP K "need_patch" s_need_patch (He.ga K "need_patch") fd_need_patch := F_need_patch
  have g_need_patch : mg "need_patch" = some (.ref (He.ga K "need_patch")) := He.glo_ok X G (cs.fact 12 (f := .glo "need_patch") rfl)
  have b_need_patch : Binds K fd_need_patch ["value"] [] := FunD.bindsN F_need_patch fun _ _ _ _ _ _ us hl => match us, hl with | [_], _ => rfl
  obtain ⟨fd_need_both, F_need_both⟩ := cs.def_ 13 (d := dD_need_both) rfl
  replace F_need_both : FnP K "need_both" s_need_both (He.ga K "need_both") fd_need_both := F_need_both
  have g_need_both : mg "need_both" = some (.ref (He.ga K "need_both")) := He.glo_ok X G (cs.fact 13 (f := .glo "need_both") rfl)
  have b_need_both : Binds K fd_need_both ["patch", "other"] [] := FunD.bindsN F_need_both fun _ _ _ _ _ _ us hl => match us, hl with | [_, _], _ => rfl
  obtain ⟨fd_need_states, F_need_states⟩ := cs.def_ 14 (d := dD_need_states) rfl
  replace F_need_states : FnP K "need_states" s_need_states (He.ga K "need_states") fd_need_states := F_need_states
  have g_need_states : mg "need_states" = some (.ref (He.ga K "need_states")) := He.glo_ok X G (cs.fact 14 (f := .glo "need_states") rfl)
  have b_need_states : Binds K fd_need_states ["states"] [] := FunD.bindsN F_need_states fun _ _ _ _ _ _ us hl => match us, hl with | [_], _ => rfl
  obtain ⟨fd_size, F_size⟩ := cs.def_ 15 (d := dD_size) rfl
  replace F_size : FnP K "size" s_size (He.ga K "size") fd_size := F_size
  have g_size : mg "size" = some (.ref (He.ga K "size")) := He.glo_ok X G (cs.fact 15 (f := .glo "size") rfl)
  have b_size : Binds K fd_size ["state"] [] := FunD.bindsN F_size fun _ _ _ _ _ _ us hl => match us, hl with | [_], _ => rfl
  obtain ⟨fd_apply, F_apply⟩ := cs.def_ 16 (d := dD_apply) rfl
  replace F_apply : FnP K "apply" s_apply (He.ga K "apply") fd_apply := F_apply
  have g_apply : mg "apply" = some (.ref (He.ga K "apply")) := He.glo_ok X G (cs.fact 16 (f := .glo "apply") rfl)
  have b_apply : Binds K fd_apply ["patch", "state"] [] := FunD.bindsN F_apply fun _ _ _ _ _ _ us hl => match us, hl with | [_, _], _ => rfl
  obtain ⟨fd_source, F_source⟩ := cs.def_ 17 (d := dD_source) rfl
  replace F_source : FnP K "source" s_source (He.ga K "source") fd_source := F_source
  have g_source : mg "source" = some (.ref (He.ga K "source")) := He.glo_ok X G (cs.fact 17 (f := .glo "source") rfl)
  have b_source : Binds K fd_source ["patch", "state"] [] := FunD.bindsN F_source fun _ _ _ _ _ _ us hl => match us, hl with | [_, _], _ => rfl
  obtain ⟨fd_affects, F_affects⟩ := cs.def_ 18 (d := dD_affects) rfl
  replace F_affects : FnP K "affects" s_affects (He.ga K "affects") fd_affects := F_affects
  have g_affects : mg "affects" = some (.ref (He.ga K "affects")) := He.glo_ok X G (cs.fact 18 (f := .glo "affects") rfl)
  have b_affects : Binds K fd_affects ["patch", "path"] [] := FunD.bindsN F_affects fun _ _ _ _ _ _ us hl => match us, hl with | [_, _], _ => rfl
  obtain ⟨fd_normal_form, F_normal_form⟩ := cs.def_ 19 (d := dD_normal_form) rfl
  replace F_normal_form : FnP K "normal_form" s_normal_form (He.ga K "normal_form") fd_normal_form := F_normal_form
  have g_normal_form : mg "normal_form" = some (.ref (He.ga K "normal_form")) := He.glo_ok X G (cs.fact 19 (f := .glo "normal_form") rfl)
  have b_normal_form : Binds K fd_normal_form ["patch"] [] := FunD.bindsN F_normal_form fun _ _ _ _ _ _ us hl => match us, hl with | [_], _ => rfl
  obtain ⟨fd_idempotent, F_idempotent⟩ := cs.def_ 20 (d := dD_idempotent) rfl
  replace F_idempotent : FnP K "idempotent" s_idempotent (He.ga K "idempotent") fd_idempotent := F_idempotent
  have g_idempotent : mg "idempotent" = some (.ref (He.ga K "idempotent")) := He.glo_ok X G (cs.fact 20 (f := .glo "idempotent") rfl)
  have b_idempotent : Binds K fd_idempotent ["patch"] [] := FunD.bindsN F_idempotent fun _ _ _ _ _ _ us hl => match us, hl with | [_], _ => rfl
  obtain ⟨fd_fixed, F_fixed⟩ := cs.def_ 21 (d := dD_fixed) rfl
  replace F_fixed : FnP K "fixed" s_fixed (He.ga K "fixed") fd_fixed := F_fixed
  have g_fixed : mg "fixed" = some (.ref (He.ga K "fixed")) := He.glo_ok X G (cs.fact 21 (f := .glo "fixed") rfl)
  have b_fixed : Binds K fd_fixed ["patch"] [] := FunD.bindsN F_fixed fun _ _ _ _ _ _ us hl => match us, hl with | [_], _ => rfl
  obtain ⟨fd_difference, F_difference⟩ := cs.def_ 22 (d := dD_difference) rfl
  replace F_difference : FnP K "difference" s_difference (He.ga K "difference") fd_difference := F_difference
  have g_difference : mg "difference" = some (.ref (He.ga K "difference")) := He.glo_ok X G (cs.fact 22 (f := .glo "difference") rfl)
  have b_difference : Binds K fd_difference ["patch", "other"] [] := FunD.bindsN F_difference fun _ _ _ _ _ _ us hl => match us, hl with | [_, _], _ => rfl
  obtain ⟨fd_commute, F_commute⟩ := cs.def_ 23 (d := dD_commute) rfl
  replace F_commute : FnP K "commute" s_commute (He.ga K "commute") fd_commute := F_commute
  have g_commute : mg "commute" = some (.ref (He.ga K "commute")) := He.glo_ok X G (cs.fact 23 (f := .glo "commute") rfl)
  have b_commute : Binds K fd_commute ["patch", "other"] [] := FunD.bindsN F_commute fun _ _ _ _ _ _ us hl => match us, hl with | [_, _], _ => rfl
  obtain ⟨fd_absorbs, F_absorbs⟩ := cs.def_ 24 (d := dD_absorbs) rfl
  replace F_absorbs : FnP K "absorbs" s_absorbs (He.ga K "absorbs") fd_absorbs := F_absorbs
  have g_absorbs : mg "absorbs" = some (.ref (He.ga K "absorbs")) := He.glo_ok X G (cs.fact 24 (f := .glo "absorbs") rfl)
  have b_absorbs : Binds K fd_absorbs ["patch", "other"] [] := FunD.bindsN F_absorbs fun _ _ _ _ _ _ us hl => match us, hl with | [_, _], _ => rfl
  obtain ⟨fd_changes, F_changes⟩ := cs.def_ 25 (d := dD_changes) rfl
  replace F_changes : FnP K "changes" s_changes (He.ga K "changes") fd_changes := F_changes
  have g_changes : mg "changes" = some (.ref (He.ga K "changes")) := He.glo_ok X G (cs.fact 25 (f := .glo "changes") rfl)
  have b_changes : Binds K fd_changes ["before", "after"] [] := FunD.bindsN F_changes fun _ _ _ _ _ _ us hl => match us, hl with | [_, _], _ => rfl
  obtain ⟨fd_touched, F_touched⟩ := cs.def_ 26 (d := dD_touched) rfl
  replace F_touched : FnP K "touched" s_touched (He.ga K "touched") fd_touched := F_touched
  have g_touched : mg "touched" = some (.ref (He.ga K "touched")) := He.glo_ok X G (cs.fact 26 (f := .glo "touched") rfl)
  have b_touched : Binds K fd_touched ["before", "after"] [] := FunD.bindsN F_touched fun _ _ _ _ _ _ us hl => match us, hl with | [_, _], _ => rfl
  obtain ⟨fd_conflicts, F_conflicts⟩ := cs.def_ 27 (d := dD_conflicts) rfl
  replace F_conflicts : FnP K "conflicts" s_conflicts (He.ga K "conflicts") fd_conflicts := F_conflicts
  have g_conflicts : mg "conflicts" = some (.ref (He.ga K "conflicts")) := He.glo_ok X G (cs.fact 27 (f := .glo "conflicts") rfl)
  have b_conflicts : Binds K fd_conflicts ["base", "left", "right"] [] := FunD.bindsN F_conflicts fun _ _ _ _ _ _ us hl => match us, hl with | [_, _, _], _ => rfl
  obtain ⟨fd_merge3, F_merge3⟩ := cs.def_ 28 (d := dD_merge3) rfl
  replace F_merge3 : FnP K "merge3" s_merge3 (He.ga K "merge3") fd_merge3 := F_merge3
  have g_merge3 : mg "merge3" = some (.ref (He.ga K "merge3")) := He.glo_ok X G (cs.fact 28 (f := .glo "merge3") rfl)
  have b_merge3 : Binds K fd_merge3 ["base", "left", "right"] [] := FunD.bindsN F_merge3 fun _ _ _ _ _ _ us hl => match us, hl with | [_, _, _], _ => rfl
  obtain ⟨fd__law_which, F__law_which⟩ := cs.def_ 29 (d := dD__law_which) rfl
  replace F__law_which : FnP K "_law_which" s__law_which (He.ga K "_law_which") fd__law_which := F__law_which
  have g__law_which : mg "_law_which" = some (.ref (He.ga K "_law_which")) := He.glo_ok X G (cs.fact 29 (f := .glo "_law_which") rfl)
  have b__law_which : Binds K fd__law_which ["error"] [] := FunD.bindsN F__law_which fun _ _ _ _ _ _ us hl => match us, hl with | [_], _ => rfl
  obtain ⟨fd__law_ask, F__law_ask⟩ := cs.def_ 30 (d := dD__law_ask) rfl
  replace F__law_ask : FnP K "_law_ask" s__law_ask (He.ga K "_law_ask") fd__law_ask := F__law_ask
  have g__law_ask : mg "_law_ask" = some (.ref (He.ga K "_law_ask")) := He.glo_ok X G (cs.fact 30 (f := .glo "_law_ask") rfl)
  have b__law_ask : Binds K fd__law_ask ["what", "one", "other"] [] := FunD.bindsN F__law_ask fun _ _ _ _ _ _ us hl => match us, hl with | [_, _, _], _ => rfl
  obtain ⟨fd__law_states, F__law_states⟩ := cs.def_ 31 (d := dD__law_states) rfl
  replace F__law_states : FnP K "_law_states" s__law_states (He.ga K "_law_states") fd__law_states := F__law_states
  have g__law_states : mg "_law_states" = some (.ref (He.ga K "_law_states")) := He.glo_ok X G (cs.fact 31 (f := .glo "_law_states") rfl)
  have b__law_states : Binds K fd__law_states [] [] := FunD.bindsN F__law_states fun _ _ _ _ _ _ us hl => match us, hl with | [], _ => rfl
  obtain ⟨fd__law_patches, F__law_patches⟩ := cs.def_ 32 (d := dD__law_patches) rfl
  replace F__law_patches : FnP K "_law_patches" s__law_patches (He.ga K "_law_patches") fd__law_patches := F__law_patches
  have g__law_patches : mg "_law_patches" = some (.ref (He.ga K "_law_patches")) := He.glo_ok X G (cs.fact 32 (f := .glo "_law_patches") rfl)
  have b__law_patches : Binds K fd__law_patches [] [] := FunD.bindsN F__law_patches fun _ _ _ _ _ _ us hl => match us, hl with | [], _ => rfl
  obtain ⟨fd__law_draw, F__law_draw⟩ := cs.def_ 33 (d := dD__law_draw) rfl
  replace F__law_draw : FnP K "_law_draw" s__law_draw (He.ga K "_law_draw") fd__law_draw := F__law_draw
  have g__law_draw : mg "_law_draw" = some (.ref (He.ga K "_law_draw")) := He.glo_ok X G (cs.fact 33 (f := .glo "_law_draw") rfl)
  have b__law_draw : Binds K fd__law_draw ["script", "town", "many"] [] := FunD.bindsN F__law_draw fun _ _ _ _ _ _ us hl => match us, hl with | [_, _, _], _ => rfl
  obtain ⟨fd__law_pick, F__law_pick⟩ := cs.def_ 34 (d := dD__law_pick) rfl
  replace F__law_pick : FnP K "_law_pick" s__law_pick (He.ga K "_law_pick") fd__law_pick := F__law_pick
  have g__law_pick : mg "_law_pick" = some (.ref (He.ga K "_law_pick")) := He.glo_ok X G (cs.fact 34 (f := .glo "_law_pick") rfl)
  have b__law_pick : Binds K fd__law_pick ["script", "town", "some"] [] := FunD.bindsN F__law_pick fun _ _ _ _ _ _ us hl => match us, hl with | [_, _, _], _ => rfl
  obtain ⟨fd__law_document, F__law_document⟩ := cs.def_ 35 (d := dD__law_document) rfl
  replace F__law_document : FnP K "_law_document" s__law_document (He.ga K "_law_document") fd__law_document := F__law_document
  have g__law_document : mg "_law_document" = some (.ref (He.ga K "_law_document")) := He.glo_ok X G (cs.fact 35 (f := .glo "_law_document") rfl)
  have b__law_document : Binds K fd__law_document ["script", "town", "depth"] [] := FunD.bindsN F__law_document fun _ _ _ _ _ _ us hl => match us, hl with | [_, _, _], _ => rfl
  obtain ⟨fd__law_state, F__law_state⟩ := cs.def_ 36 (d := dD__law_state) rfl
  replace F__law_state : FnP K "_law_state" s__law_state (He.ga K "_law_state") fd__law_state := F__law_state
  have g__law_state : mg "_law_state" = some (.ref (He.ga K "_law_state")) := He.glo_ok X G (cs.fact 36 (f := .glo "_law_state") rfl)
  have b__law_state : Binds K fd__law_state ["script", "town", "depth"] [] := FunD.bindsN F__law_state fun _ _ _ _ _ _ us hl => match us, hl with | [_, _, _], _ => rfl
  obtain ⟨fd__law_patch, F__law_patch⟩ := cs.def_ 37 (d := dD__law_patch) rfl
  replace F__law_patch : FnP K "_law_patch" s__law_patch (He.ga K "_law_patch") fd__law_patch := F__law_patch
  have g__law_patch : mg "_law_patch" = some (.ref (He.ga K "_law_patch")) := He.glo_ok X G (cs.fact 37 (f := .glo "_law_patch") rfl)
  have b__law_patch : Binds K fd__law_patch ["script", "town", "depth"] [] := FunD.bindsN F__law_patch fun _ _ _ _ _ _ us hl => match us, hl with | [_, _, _], _ => rfl
  obtain ⟨fd_copied_form, F_copied_form⟩ := cs.def_ 38 (d := dD_copied_form) rfl
  replace F_copied_form : FnP K "copied_form" s_copied_form (He.ga K "copied_form") fd_copied_form := F_copied_form
  have g_copied_form : mg "copied_form" = some (.ref (He.ga K "copied_form")) := He.glo_ok X G (cs.fact 38 (f := .glo "copied_form") rfl)
  have b_copied_form : Binds K fd_copied_form ["form"] [] := FunD.bindsN F_copied_form fun _ _ _ _ _ _ us hl => match us, hl with | [_], _ => rfl
  obtain ⟨fd_run, F_run⟩ := cs.def_ 39 (d := dD_run) rfl
  replace F_run : FnP K "run" s_run (He.ga K "run") fd_run := F_run
  have g_run : mg "run" = some (.ref (He.ga K "run")) := He.glo_ok X G (cs.fact 39 (f := .glo "run") rfl)
  have b_run : Binds K fd_run ["form", "state"] [] := FunD.bindsN F_run fun _ _ _ _ _ _ us hl => match us, hl with | [_, _], _ => rfl
  obtain ⟨fd_form_of, F_form_of⟩ := cs.def_ 40 (d := dD_form_of) rfl
  replace F_form_of : FnP K "form_of" s_form_of (He.ga K "form_of") fd_form_of := F_form_of
  have g_form_of : mg "form_of" = some (.ref (He.ga K "form_of")) := He.glo_ok X G (cs.fact 40 (f := .glo "form_of") rfl)
  have b_form_of : Binds K fd_form_of ["patch"] [] := FunD.bindsN F_form_of fun _ _ _ _ _ _ us hl => match us, hl with | [_], _ => rfl
  obtain ⟨fd_difference_of, F_difference_of⟩ := cs.def_ 41 (d := dD_difference_of) rfl
  replace F_difference_of : FnP K "difference_of" s_difference_of (He.ga K "difference_of") fd_difference_of := F_difference_of
  have g_difference_of : mg "difference_of" = some (.ref (He.ga K "difference_of")) := He.glo_ok X G (cs.fact 41 (f := .glo "difference_of") rfl)
  have b_difference_of : Binds K fd_difference_of ["form", "other"] [] := FunD.bindsN F_difference_of fun _ _ _ _ _ _ us hl => match us, hl with | [_, _], _ => rfl
  obtain ⟨fd_chained, F_chained⟩ := cs.def_ 42 (d := dD_chained) rfl
  replace F_chained : FnP K "chained" s_chained (He.ga K "chained") fd_chained := F_chained
  have g_chained : mg "chained" = some (.ref (He.ga K "chained")) := He.glo_ok X G (cs.fact 42 (f := .glo "chained") rfl)
  have b_chained : Binds K fd_chained ["first", "second"] [] := FunD.bindsN F_chained fun _ _ _ _ _ _ us hl => match us, hl with | [_, _], _ => rfl
  obtain ⟨fd_source_of, F_source_of⟩ := cs.def_ 43 (d := dD_source_of) rfl
  replace F_source_of : FnP K "source_of" s_source_of (He.ga K "source_of") fd_source_of := F_source_of
  have g_source_of : mg "source_of" = some (.ref (He.ga K "source_of")) := He.glo_ok X G (cs.fact 43 (f := .glo "source_of") rfl)
  have b_source_of : Binds K fd_source_of ["form", "target"] [] := FunD.bindsN F_source_of fun _ _ _ _ _ _ us hl => match us, hl with | [_, _], _ => rfl
  obtain ⟨fd_fixed_of, F_fixed_of⟩ := cs.def_ 44 (d := dD_fixed_of) rfl
  replace F_fixed_of : FnP K "fixed_of" s_fixed_of (He.ga K "fixed_of") fd_fixed_of := F_fixed_of
  have g_fixed_of : mg "fixed_of" = some (.ref (He.ga K "fixed_of")) := He.glo_ok X G (cs.fact 44 (f := .glo "fixed_of") rfl)
  have b_fixed_of : Binds K fd_fixed_of ["form"] [] := FunD.bindsN F_fixed_of fun _ _ _ _ _ _ us hl => match us, hl with | [_], _ => rfl
  obtain ⟨fd_affected, F_affected⟩ := cs.def_ 45 (d := dD_affected) rfl
  replace F_affected : FnP K "affected" s_affected (He.ga K "affected") fd_affected := F_affected
  have g_affected : mg "affected" = some (.ref (He.ga K "affected")) := He.glo_ok X G (cs.fact 45 (f := .glo "affected") rfl)
  have b_affected : Binds K fd_affected ["form", "path"] [] := FunD.bindsN F_affected fun _ _ _ _ _ _ us hl => match us, hl with | [_, _], _ => rfl
  obtain ⟨fd_changes_of, F_changes_of⟩ := cs.def_ 46 (d := dD_changes_of) rfl
  replace F_changes_of : FnP K "changes_of" s_changes_of (He.ga K "changes_of") fd_changes_of := F_changes_of
  have g_changes_of : mg "changes_of" = some (.ref (He.ga K "changes_of")) := He.glo_ok X G (cs.fact 46 (f := .glo "changes_of") rfl)
  have b_changes_of : Binds K fd_changes_of ["before", "after"] [] := FunD.bindsN F_changes_of fun _ _ _ _ _ _ us hl => match us, hl with | [_, _], _ => rfl
  obtain ⟨fd_paths_of, F_paths_of⟩ := cs.def_ 47 (d := dD_paths_of) rfl
  replace F_paths_of : FnP K "paths_of" s_paths_of (He.ga K "paths_of") fd_paths_of := F_paths_of
  have g_paths_of : mg "paths_of" = some (.ref (He.ga K "paths_of")) := He.glo_ok X G (cs.fact 47 (f := .glo "paths_of") rfl)
  have b_paths_of : Binds K fd_paths_of ["patch"] [] := FunD.bindsN F_paths_of fun _ _ _ _ _ _ us hl => match us, hl with | [_], _ => rfl
  obtain ⟨fd_merged, F_merged⟩ := cs.def_ 48 (d := dD_merged) rfl
  replace F_merged : FnP K "merged" s_merged (He.ga K "merged") fd_merged := F_merged
  have g_merged : mg "merged" = some (.ref (He.ga K "merged")) := He.glo_ok X G (cs.fact 48 (f := .glo "merged") rfl)
  have b_merged : Binds K fd_merged ["states", "path"] [] := FunD.bindsN F_merged fun _ _ _ _ _ _ us hl => match us, hl with | [_, _], _ => rfl
  obtain ⟨fd_size_of, F_size_of⟩ := cs.def_ 49 (d := dD_size_of) rfl
  replace F_size_of : FnP K "size_of" s_size_of (He.ga K "size_of") fd_size_of := F_size_of
  have g_size_of : mg "size_of" = some (.ref (He.ga K "size_of")) := He.glo_ok X G (cs.fact 49 (f := .glo "size_of") rfl)
  have b_size_of : Binds K fd_size_of ["state"] [] := FunD.bindsN F_size_of fun _ _ _ _ _ _ us hl => match us, hl with | [_], _ => rfl
  obtain ⟨fd_law, F_law⟩ := cs.def_ 50 (d := dD_law) rfl
  replace F_law : FnP K "law" s_law (He.ga K "law") fd_law := F_law
  have g_law : mg "law" = some (.ref (He.ga K "law")) := He.glo_ok X G (cs.fact 50 (f := .glo "law") rfl)
  have m_isinstance : mg "isinstance" = none := He.free_ok X G (cs.fact 51 (f := .free "isinstance") rfl)
  have m_str : mg "str" = none := He.free_ok X G (cs.fact 52 (f := .free "str") rfl)
  have m_len : mg "len" = none := He.free_ok X G (cs.fact 53 (f := .free "len") rfl)
  have m_all : mg "all" = none := He.free_ok X G (cs.fact 54 (f := .free "all") rfl)
  have m_int : mg "int" = none := He.free_ok X G (cs.fact 55 (f := .free "int") rfl)
  have m_bool : mg "bool" = none := He.free_ok X G (cs.fact 56 (f := .free "bool") rfl)
  have m_dict : mg "dict" = none := He.free_ok X G (cs.fact 57 (f := .free "dict") rfl)
  have m_tuple : mg "tuple" = none := He.free_ok X G (cs.fact 58 (f := .free "tuple") rfl)
  have m_sorted : mg "sorted" = none := He.free_ok X G (cs.fact 59 (f := .free "sorted") rfl)
  have m_ValueError : mg "ValueError" = none := He.free_ok X G (cs.fact 60 (f := .free "ValueError") rfl)
  have m_range : mg "range" = none := He.free_ok X G (cs.fact 61 (f := .free "range") rfl)
  have g_LONGEST := He.int_ok X G (cs.fact 62 (f := .int "LONGEST" 6) rfl)
  have g_LETTERS := He.str_ok X G (cs.fact 63 (f := .str "LETTERS" "abcdefghijklmnopqrstuvwxyz") rfl)
  have g_LARGEST := He.int_ok X G (cs.fact 64 (f := .int "LARGEST" 999) rfl)
  have g_ENTRIES := He.int_ok X G (cs.fact 65 (f := .int "ENTRIES" 6) rfl)
  have g_DEPTH := He.int_ok X G (cs.fact 66 (f := .int "DEPTH" 5) rfl)
  have g_CHAIN := He.int_ok X G (cs.fact 67 (f := .int "CHAIN" 6) rfl)
  have g_NESTED := He.int_ok X G (cs.fact 68 (f := .int "NESTED" 6) rfl)
  have hK : ∀ G, Has K G Fm.keep.toD (.ref (He.ga K "KEEP")) := fun G => c.dat (x := "KEEP") (by unfold tsL; first | (simp; done) | exact List.mem_cons_self) G
  have ex_InvalidState := He.exc_ok (cs.fact 70 (f := .exc "InvalidState") rfl)
  have p_InvalidState : PlnC K mg "InvalidState" (He.ga K "InvalidState") := ⟨ex_InvalidState.1, He.glo_ok X G (cs.fact 69 (f := .glo "InvalidState") rfl), ex_InvalidState.2.1, ex_InvalidState.2.2.1, ex_InvalidState.2.2.2⟩
  have ex_InvalidPath := He.exc_ok (cs.fact 72 (f := .exc "InvalidPath") rfl)
  have p_InvalidPath : PlnC K mg "InvalidPath" (He.ga K "InvalidPath") := ⟨ex_InvalidPath.1, He.glo_ok X G (cs.fact 71 (f := .glo "InvalidPath") rfl), ex_InvalidPath.2.1, ex_InvalidPath.2.2.1, ex_InvalidPath.2.2.2⟩
  have ex_InvalidPatch := He.exc_ok (cs.fact 74 (f := .exc "InvalidPatch") rfl)
  have p_InvalidPatch : PlnC K mg "InvalidPatch" (He.ga K "InvalidPatch") := ⟨ex_InvalidPatch.1, He.glo_ok X G (cs.fact 73 (f := .glo "InvalidPatch") rfl), ex_InvalidPatch.2.1, ex_InvalidPatch.2.2.1, ex_InvalidPatch.2.2.2⟩
  have gx_InvalidFormat : mg "InvalidFormat" = some (.ref (He.ga K "InvalidFormat")) := He.glo_ok X G (cs.fact 75 (f := .glo "InvalidFormat") rfl)
  have gx_NothingToRedo : mg "NothingToRedo" = some (.ref (He.ga K "NothingToRedo")) := He.glo_ok X G (cs.fact 76 (f := .glo "NothingToRedo") rfl)
  have gx_NothingToUndo : mg "NothingToUndo" = some (.ref (He.ga K "NothingToUndo")) := He.glo_ok X G (cs.fact 77 (f := .glo "NothingToUndo") rfl)
  have gx_Conflict : mg "Conflict" = some (.ref (He.ga K "Conflict")) := He.glo_ok X G (cs.fact 78 (f := .glo "Conflict") rfl)
  have gx_InvalidPatch : mg "InvalidPatch" = some (.ref (He.ga K "InvalidPatch")) := He.glo_ok X G (cs.fact 79 (f := .glo "InvalidPatch") rfl)
  have gx_InvalidPath : mg "InvalidPath" = some (.ref (He.ga K "InvalidPath")) := He.glo_ok X G (cs.fact 80 (f := .glo "InvalidPath") rfl)
  have gx_InvalidState : mg "InvalidState" = some (.ref (He.ga K "InvalidState")) := He.glo_ok X G (cs.fact 81 (f := .glo "InvalidState") rfl)
  have gx_PatchError : mg "PatchError" = some (.ref (He.ga K "PatchError")) := He.glo_ok X G (cs.fact 82 (f := .glo "PatchError") rfl)
  have em_InvalidState := He.exm_ok (cs.fact 83 (f := .exm "InvalidState" "PatchError" true) rfl)
  have wh_InvalidState : WhOk K (csL.map (He.ga K)) (He.ga K "InvalidState") 0 := c.wh (x := "InvalidState") (i := 0) (by unfold ysL; simp)
  have em_InvalidPath := He.exm_ok (cs.fact 84 (f := .exm "InvalidPath" "PatchError" true) rfl)
  have wh_InvalidPath : WhOk K (csL.map (He.ga K)) (He.ga K "InvalidPath") 1 := c.wh (x := "InvalidPath") (i := 1) (by unfold ysL; simp)
  have em_InvalidPatch := He.exm_ok (cs.fact 85 (f := .exm "InvalidPatch" "PatchError" true) rfl)
  have wh_InvalidPatch : WhOk K (csL.map (He.ga K)) (He.ga K "InvalidPatch") 2 := c.wh (x := "InvalidPatch") (i := 2) (by unfold ysL; simp)
  obtain ⟨fd_init_Conflict, F_init_Conflict⟩ := cs.def_ 51 (d := dD_init_Conflict) rfl
  replace F_init_Conflict : FunD K "__init__" "Conflict.__init__" (defArgs s_init_Conflict) (defBody s_init_Conflict) (defScope s_init_Conflict) [] [] (He.ma K (He.ga K "Conflict") "__init__") fd_init_Conflict := F_init_Conflict
  have no_Conflict : PySem.W.findIn K (.ref (He.ga K "Conflict")) "paths" = some none := He.noat_ok (cs.fact 88 (f := .noat "Conflict" "paths") rfl)
  have me_Conflict := He.meth_ok (cs.fact 87 (f := .meth "Conflict" "__init__") rfl)
  have xc_Conflict := c.exc (x := "Conflict") (by unfold xsL; simp)
  have gx_Conflict : mg "Conflict" = some (.ref (He.ga K "Conflict")) := He.glo_ok X G (cs.fact 86 (f := .glo "Conflict") rfl)
  have te_Conflict := He.exm_ok (cs.fact 89 (f := .exm "Conflict" "Conflict" true) rfl)
  have e := hfa.symm.trans g_law
  cases e
  have bA := FunD.bindsA (ps := ["script"]) F_law fun _ _ _ _ _ _ us hl => match us, hl with | [_], _ => rfl
  refine ⟨fd_law, fun s v => bA s [v] rfl, fun base _ _ => ?_⟩
  have hA := alp_abcz
  have t_Conflict : ConfC P w K mg base "Conflict" "paths" (He.ga K "Conflict") := ⟨xc_Conflict.1, gx_Conflict, ⟨_, fd_init_Conflict, me_Conflict.1, eq_of_beq me_Conflict.2, init_ok F_init_Conflict sc_init_Conflict xc_Conflict.1 no_Conflict (fun cdv A outer s H E => pss_one (ps_ost (pv 0) (pv 1))), FunD.bindsN F_init_Conflict fun _ _ _ _ _ _ us hl => match us, hl with | [_, _], _ => rfl⟩, xc_Conflict.2, no_Conflict, te_Conflict⟩
  have c_is_text : Cl P w K mg base "is_text" 1 (SpP K R_is_text) := ⟨⟨_, _, _, FnP.pure F_is_text sc_is_text (fun ds d h => by first | (obtain ⟨_, rfl, _⟩ := h; rfl) | (obtain ⟨_, _, rfl, _⟩ := h; rfl) | (obtain ⟨_, _, _, rfl, _⟩ := h; rfl) | (obtain ⟨_, _, _, _, rfl, _⟩ := h; rfl) | (obtain ⟨_, _, _, _, _, rfl, _⟩ := h; rfl) | (obtain ⟨_, _, _, _, _, _, rfl, _⟩ := h; rfl) | (obtain ⟨rfl, _⟩ := h; rfl)) p_is_text (fun cdv A outer s H E hr => w_is_text (k := 0) g_LONGEST g_LETTERS m_isinstance m_str m_len m_all _ cdv A outer s H E hr), b_is_text, F_is_text.kp, g_is_text⟩⟩
  have c_is_scalar : Cl P w K mg base "is_scalar" 2 (SpP K R_is_scalar) := ⟨⟨_, _, _, FnP.pure F_is_scalar sc_is_scalar (fun ds d h => by first | (obtain ⟨_, rfl, _⟩ := h; rfl) | (obtain ⟨_, _, rfl, _⟩ := h; rfl) | (obtain ⟨_, _, _, rfl, _⟩ := h; rfl) | (obtain ⟨_, _, _, _, rfl, _⟩ := h; rfl) | (obtain ⟨_, _, _, _, _, rfl, _⟩ := h; rfl) | (obtain ⟨_, _, _, _, _, _, rfl, _⟩ := h; rfl) | (obtain ⟨rfl, _⟩ := h; rfl)) p_is_scalar (fun cdv A outer s H E hr => w_is_scalar (k := 1) g_LARGEST m_isinstance m_int m_bool (c_is_text) _ cdv A outer s H E hr), b_is_scalar, F_is_scalar.kp, g_is_scalar⟩⟩
  have c_is_document : ∀ n, Cl P w K mg base "is_document" (2 + n) (SpP K (R_is_document n)) := fun n => by
    induction n with
    | zero => exact Cl.none (sp' := fun _ _ _ _ => False) (k' := 0) ⟨_, _, _, b_is_document, F_is_document.kp, g_is_document⟩ (fun vs H Q E ⟨_, _, _, _, _, r, _⟩ => r)
    | succ n ih => exact ⟨⟨_, _, _, FnP.pure F_is_document sc_is_document (fun ds d h => by first | (obtain ⟨_, rfl, _⟩ := h; rfl) | (obtain ⟨_, _, rfl, _⟩ := h; rfl) | (obtain ⟨_, _, _, rfl, _⟩ := h; rfl) | (obtain ⟨_, _, _, _, rfl, _⟩ := h; rfl) | (obtain ⟨_, _, _, _, _, rfl, _⟩ := h; rfl) | (obtain ⟨_, _, _, _, _, _, rfl, _⟩ := h; rfl) | (obtain ⟨rfl, _⟩ := h; rfl)) (p_is_document n) (fun cdv A outer s H E hr => w_is_document g_ENTRIES m_all m_len m_isinstance m_dict (ih) (c_is_text.mono (by omega)) (c_is_scalar.mono (by omega)) _ cdv A outer s H E hr), b_is_document, F_is_document.kp, g_is_document⟩⟩
  have o_is_state : FnOk P w K mg base CX0 44 (He.ga K "is_state") fd_is_state ["value"] (SpP K R_is_state) := FnP.pure F_is_state sc_is_state (fun ds d h => by first | (obtain ⟨_, rfl, _⟩ := h; rfl) | (obtain ⟨_, _, rfl, _⟩ := h; rfl) | (obtain ⟨_, _, _, rfl, _⟩ := h; rfl) | (obtain ⟨_, _, _, _, rfl, _⟩ := h; rfl) | (obtain ⟨_, _, _, _, _, rfl, _⟩ := h; rfl) | (obtain ⟨_, _, _, _, _, _, rfl, _⟩ := h; rfl) | (obtain ⟨rfl, _⟩ := h; rfl)) p_is_state (fun cdv A outer s H E hr => w_is_state (k := 43) g_DEPTH (c_is_document 41) _ cdv A outer s H E hr)
  have c_is_state : Cl P w K mg base "is_state" 44 (SpP K R_is_state) := ⟨⟨_, _, _, o_is_state, b_is_state, F_is_state.kp, g_is_state⟩⟩
  have o_need_state : FnOk P w K mg base (L2.CX P w) 45 (He.ga K "need_state") fd_need_state ["value"] (SpX K (R_needSX (He.ga K "InvalidState"))) := FnP.pureX F_need_state sc_need_state (fun ds d h => by first | (obtain ⟨_, rfl, _⟩ := h; rfl) | (obtain ⟨_, _, rfl, _⟩ := h; rfl) | (obtain ⟨_, _, _, rfl, _⟩ := h; rfl) | (obtain ⟨_, _, _, _, rfl, _⟩ := h; rfl) | (obtain ⟨_, _, _, _, _, rfl, _⟩ := h; rfl) | (obtain ⟨_, _, _, _, _, _, rfl, _⟩ := h; rfl) | (obtain ⟨rfl, _⟩ := h; rfl)) p_need_stateX (fun cdv A outer s H E hr => w_need_state (k := 44) (by omega) p_InvalidState (c_is_state) _ cdv A outer s H E hr)
  have d_need_state : ClA P w K mg base (He.ga K "need_state") 45 (SpX K (R_needSX (He.ga K "InvalidState"))) := ⟨_, _, o_need_state, b_need_state, F_need_state.kp⟩
  have c_need_state : ClX P w K mg base "need_state" 45 (SpX K (R_needSX (He.ga K "InvalidState"))) := ⟨⟨_, _, _, o_need_state, b_need_state, F_need_state.kp, g_need_state⟩⟩
  have o_docO := FnP.bodyC (k := 43) F_is_document sc_is_document (sp := spDocO K) len_docO body_docO (fun cdv A outer s H E hr => w_is_documentO (k := 43) g_ENTRIES m_all m_len m_isinstance m_dict (c_is_document 41) (c_is_text.mono (by omega)) (c_is_scalar.mono (by omega)) _ cdv A outer s H E hr)
  have c_docO : Cl P w K mg base "is_document" 44 (spDocO K) := ⟨⟨_, _, _, o_docO, b_is_document, F_is_document.kp, g_is_document⟩⟩
  have o_stO := FnP.bodyC (k := 44) F_is_state sc_is_state (sp := spStO K) len_stO body_stO (fun cdv A outer s H E hr => w_is_state (k := 44) g_DEPTH (c_docO) _ cdv A outer s H E hr)
  have c_stO : Cl P w K mg base "is_state" 45 (spStO K) := ⟨⟨_, _, _, o_stO, b_is_state, F_is_state.kp, g_is_state⟩⟩
  have c_isS : Cl P w K mg base "is_state" 45 (spIsS K) := ⟨⟨_, _, _, FnOk.or (o_is_state.mono (by omega)) o_stO fun vs H Q E q => q, b_is_state, F_is_state.kp, g_is_state⟩⟩
  have o_nsO := FnP.bodyX (k := 45) F_need_state sc_need_state (t := fun W => t_need_stateX K (He.ga K "InvalidState") W (spStO K)) (sp := spNSO K (He.ga K "InvalidState")) len_nsO body_nsO (fun cdv A outer s H E hr => w_need_state (k := 45) (by omega) p_InvalidState (c_stO) _ cdv A outer s H E hr)
  have c_ns : ClX P w K mg base "need_state" 46 (spNS K (He.ga K "InvalidState")) := ⟨⟨_, _, _, FnOk.or (o_need_state.mono (by omega)) o_nsO fun vs H Q E q => ns_of q, b_need_state, F_need_state.kp, g_need_state⟩⟩
  have c_need_stateN : Cl P w K mg base "need_state" 45 (SpP K R_need_state) := ⟨⟨_, _, _, FnP.pure F_need_state sc_need_state (fun ds d h => by first | (obtain ⟨_, rfl, _⟩ := h; rfl) | (obtain ⟨_, _, rfl, _⟩ := h; rfl) | (obtain ⟨_, _, _, rfl, _⟩ := h; rfl) | (obtain ⟨_, _, _, _, rfl, _⟩ := h; rfl) | (obtain ⟨_, _, _, _, _, rfl, _⟩ := h; rfl) | (obtain ⟨_, _, _, _, _, _, rfl, _⟩ := h; rfl) | (obtain ⟨rfl, _⟩ := h; rfl)) p_need_state (fun cdv A outer s H E hr => w_need_stateN (k := 44) (c_is_state) _ cdv A outer s H E hr), b_need_state, F_need_state.kp, g_need_state⟩⟩
  have o_need_path : FnOk P w K mg base (L2.CX P w) 3 (He.ga K "need_path") fd_need_path ["value"] (SpX K (R_needAX (He.ga K "InvalidPath"))) := FnP.pureX F_need_path sc_need_path (fun ds d h => by first | (obtain ⟨_, rfl, _⟩ := h; rfl) | (obtain ⟨_, _, rfl, _⟩ := h; rfl) | (obtain ⟨_, _, _, rfl, _⟩ := h; rfl) | (obtain ⟨_, _, _, _, rfl, _⟩ := h; rfl) | (obtain ⟨_, _, _, _, _, rfl, _⟩ := h; rfl) | (obtain ⟨_, _, _, _, _, _, rfl, _⟩ := h; rfl) | (obtain ⟨rfl, _⟩ := h; rfl)) p_need_pathX (fun cdv A outer s H E hr => w_need_path (k := 2) (by omega) m_isinstance m_tuple m_len m_all p_InvalidPath (c_is_text.mono (by omega)) _ cdv A outer s H E hr)
  have d_need_path : ClA P w K mg base (He.ga K "need_path") 3 (SpX K (R_needAX (He.ga K "InvalidPath"))) := ⟨_, _, o_need_path, b_need_path, F_need_path.kp⟩
  have c_need_path : ClX P w K mg base "need_path" 3 (SpX K (R_needAX (He.ga K "InvalidPath"))) := ⟨⟨_, _, _, o_need_path, b_need_path, F_need_path.kp, g_need_path⟩⟩
  have c_need_pathN : Cl P w K mg base "need_path" 3 (SpP K R_need_path) := ⟨⟨_, _, _, FnP.pure F_need_path sc_need_path (fun ds d h => by first | (obtain ⟨_, rfl, _⟩ := h; rfl) | (obtain ⟨_, _, rfl, _⟩ := h; rfl) | (obtain ⟨_, _, _, rfl, _⟩ := h; rfl) | (obtain ⟨_, _, _, _, rfl, _⟩ := h; rfl) | (obtain ⟨_, _, _, _, _, rfl, _⟩ := h; rfl) | (obtain ⟨_, _, _, _, _, _, rfl, _⟩ := h; rfl) | (obtain ⟨rfl, _⟩ := h; rfl)) p_need_path (fun cdv A outer s H E hr => w_need_pathN (k := 2) m_isinstance m_tuple m_len m_all (c_is_text.mono (by omega)) _ cdv A outer s H E hr), b_need_path, F_need_path.kp, g_need_path⟩⟩
  have c_na : ClX P w K mg base "need_path" 3 (spNA K (He.ga K "InvalidPath")) := c_need_path.imp fun vs H Q E q => na_of q
  have c_copied : ∀ n, Cl P w K mg base "copied" (0 + n) (SpP K ((R_copied abcz) n)) := fun n => by
    induction n with
    | zero => exact Cl.none (sp' := fun _ _ _ _ => False) (k' := 0) ⟨_, _, _, b_copied, F_copied.kp, g_copied⟩ (fun vs H Q E ⟨_, _, _, _, _, r, _⟩ => r)
    | succ n ih => exact ⟨⟨_, _, _, FnP.pure F_copied sc_copied (fun ds d h => by first | (obtain ⟨_, rfl, _⟩ := h; rfl) | (obtain ⟨_, _, rfl, _⟩ := h; rfl) | (obtain ⟨_, _, _, rfl, _⟩ := h; rfl) | (obtain ⟨_, _, _, _, rfl, _⟩ := h; rfl) | (obtain ⟨_, _, _, _, _, rfl, _⟩ := h; rfl) | (obtain ⟨_, _, _, _, _, _, rfl, _⟩ := h; rfl) | (obtain ⟨rfl, _⟩ := h; rfl)) (p_copied hA n) (fun cdv A outer s H E hr => w_copied m_isinstance m_dict (ih) _ cdv A outer s H E hr), b_copied, F_copied.kp, g_copied⟩⟩
  have c_found_at : Cl P w K mg base "found_at" 1 (SpP K (R_found_at abcz)) := ⟨⟨_, _, _, FnP.pure F_found_at sc_found_at (fun ds d h => by first | (obtain ⟨_, rfl, _⟩ := h; rfl) | (obtain ⟨_, _, rfl, _⟩ := h; rfl) | (obtain ⟨_, _, _, rfl, _⟩ := h; rfl) | (obtain ⟨_, _, _, _, rfl, _⟩ := h; rfl) | (obtain ⟨_, _, _, _, _, rfl, _⟩ := h; rfl) | (obtain ⟨_, _, _, _, _, _, rfl, _⟩ := h; rfl) | (obtain ⟨rfl, _⟩ := h; rfl)) p_found_at (fun cdv A outer s H E hr => w_found_at (k := 0) m_isinstance m_dict _ cdv A outer s H E hr), b_found_at, F_found_at.kp, g_found_at⟩⟩
  have c_value_atN : Cl P w K mg base "value_at" 46 (SpP K (R_value_at abcz)) := ⟨⟨_, _, _, FnP.pure F_value_at sc_value_at (fun ds d h => by first | (obtain ⟨_, rfl, _⟩ := h; rfl) | (obtain ⟨_, _, rfl, _⟩ := h; rfl) | (obtain ⟨_, _, _, rfl, _⟩ := h; rfl) | (obtain ⟨_, _, _, _, rfl, _⟩ := h; rfl) | (obtain ⟨_, _, _, _, _, rfl, _⟩ := h; rfl) | (obtain ⟨_, _, _, _, _, _, rfl, _⟩ := h; rfl) | (obtain ⟨rfl, _⟩ := h; rfl)) (p_value_at hA) (fun cdv A outer s H E hr => w_value_atN (k := 45) ((c_copied 10).mono (by omega)) (c_found_at.mono (by omega)) (c_need_pathN.mono (by omega)) (c_need_stateN.mono (by omega)) _ cdv A outer s H E hr), b_value_at, F_value_at.kp, g_value_at⟩⟩
  have c_en : ∀ n, n ≤ 41 → Cl P w K mg base "are_entries" (43 + n) (SpP K (R_are_entries n)) ∧ Cl P w K mg base "is_nested" (43 + n) (SpP K (R_is_nested n)) := fun n => by
    induction n with
    | zero => intro _; exact ⟨Cl.none (sp' := fun _ _ _ _ => False) (k' := 0) ⟨_, _, _, b_are_entries, F_are_entries.kp, g_are_entries⟩ (fun vs H Q E ⟨_, _, _, _, _, r, _⟩ => r), Cl.none (sp' := fun _ _ _ _ => False) (k' := 0) ⟨_, _, _, b_is_nested, F_is_nested.kp, g_is_nested⟩ (fun vs H Q E ⟨_, _, _, _, _, r, _⟩ => r)⟩
    | succ n ih =>
      intro hn
      obtain ⟨ih1, ih2⟩ := ih (by omega)
      exact ⟨⟨⟨_, _, _, FnP.pure F_are_entries sc_are_entries (fun ds d h => by first | (obtain ⟨_, rfl, _⟩ := h; rfl) | (obtain ⟨_, _, rfl, _⟩ := h; rfl) | (obtain ⟨_, _, _, rfl, _⟩ := h; rfl) | (obtain ⟨_, _, _, _, rfl, _⟩ := h; rfl) | (obtain ⟨_, _, _, _, _, rfl, _⟩ := h; rfl) | (obtain ⟨_, _, _, _, _, _, rfl, _⟩ := h; rfl) | (obtain ⟨rfl, _⟩ := h; rfl)) (p_are_entries n) (fun cdv A outer s H E hr => w_are_entries g_ENTRIES m_all m_isinstance m_dict m_len (ih2) (c_is_text.mono (by omega)) _ cdv A outer s H E hr), b_are_entries, F_are_entries.kp, g_are_entries⟩⟩, ⟨⟨_, _, _, FnP.pure F_is_nested sc_is_nested (fun ds d h => by first | (obtain ⟨_, rfl, _⟩ := h; rfl) | (obtain ⟨_, _, rfl, _⟩ := h; rfl) | (obtain ⟨_, _, _, rfl, _⟩ := h; rfl) | (obtain ⟨_, _, _, _, rfl, _⟩ := h; rfl) | (obtain ⟨_, _, _, _, _, rfl, _⟩ := h; rfl) | (obtain ⟨_, _, _, _, _, _, rfl, _⟩ := h; rfl) | (obtain ⟨rfl, _⟩ := h; rfl)) (p_is_nested n (by omega)) (fun cdv A outer s H E hr => w_is_nested g_CHAIN g_DEPTH m_all m_isinstance m_tuple m_len m_str (ih2) (ih1) ((c_is_document 41).mono (by omega)) _ cdv A outer s H E hr), b_is_nested, F_is_nested.kp, g_is_nested⟩⟩⟩
  have c_is_patch : Cl P w K mg base "is_patch" 85 (SpP K R_is_patch) := ⟨⟨_, _, _, FnP.pure F_is_patch sc_is_patch (fun ds d h => by first | (obtain ⟨_, rfl, _⟩ := h; rfl) | (obtain ⟨_, _, rfl, _⟩ := h; rfl) | (obtain ⟨_, _, _, rfl, _⟩ := h; rfl) | (obtain ⟨_, _, _, _, rfl, _⟩ := h; rfl) | (obtain ⟨_, _, _, _, _, rfl, _⟩ := h; rfl) | (obtain ⟨_, _, _, _, _, _, rfl, _⟩ := h; rfl) | (obtain ⟨rfl, _⟩ := h; rfl)) p_is_patch (fun cdv A outer s H E hr => w_is_patch (k := 84) g_NESTED ((c_en 41 (by omega)).2) _ cdv A outer s H E hr), b_is_patch, F_is_patch.kp, g_is_patch⟩⟩
  have o_need_patch : FnOk P w K mg base (L2.CX P w) 86 (He.ga K "need_patch") fd_need_patch ["value"] (SpX K (R_needPX (He.ga K "InvalidPatch"))) := FnP.pureX F_need_patch sc_need_patch (fun ds d h => by first | (obtain ⟨_, rfl, _⟩ := h; rfl) | (obtain ⟨_, _, rfl, _⟩ := h; rfl) | (obtain ⟨_, _, _, rfl, _⟩ := h; rfl) | (obtain ⟨_, _, _, _, rfl, _⟩ := h; rfl) | (obtain ⟨_, _, _, _, _, rfl, _⟩ := h; rfl) | (obtain ⟨_, _, _, _, _, _, rfl, _⟩ := h; rfl) | (obtain ⟨rfl, _⟩ := h; rfl)) p_need_patchX (fun cdv A outer s H E hr => w_need_patch (k := 85) (by omega) p_InvalidPatch (c_is_patch) _ cdv A outer s H E hr)
  have d_need_patch : ClA P w K mg base (He.ga K "need_patch") 86 (SpX K (R_needPX (He.ga K "InvalidPatch"))) := ⟨_, _, o_need_patch, b_need_patch, F_need_patch.kp⟩
  have c_need_patch : ClX P w K mg base "need_patch" 86 (SpX K (R_needPX (He.ga K "InvalidPatch"))) := ⟨⟨_, _, _, o_need_patch, b_need_patch, F_need_patch.kp, g_need_patch⟩⟩
  have c_np : ClX P w K mg base "need_patch" 86 (spNP K (He.ga K "InvalidPatch")) := c_need_patch.imp fun vs H Q E q => np_of q
  have o_need_both := FnP.bodyX (k := 86) F_need_both sc_need_both (t := fun W => t_need_bothX K W (spNP K (He.ga K "InvalidPatch"))) (sp := (spPP K (He.ga K "InvalidPatch"))) len_PP body_bothX (fun cdv A outer s H E hr => w_need_both (k := 86) (by omega) (c_np.mono (by omega)) _ cdv A outer s H E hr)
  have d_need_both : ClA P w K mg base (He.ga K "need_both") 87 (spPP K (He.ga K "InvalidPatch")) := ⟨_, _, o_need_both, b_need_both, F_need_both.kp⟩
  have c_need_both : ClX P w K mg base "need_both" 87 (spPP K (He.ga K "InvalidPatch")) := ⟨⟨_, _, _, o_need_both, b_need_both, F_need_both.kp, g_need_both⟩⟩
  have o_need_states := FnP.bodyX (k := 46) F_need_states sc_need_states (t := fun W => t_need_statesX K W (spNS K (He.ga K "InvalidState"))) (sp := (spSsl K (He.ga K "InvalidState"))) len_Ssl body_statesX (fun cdv A outer s H E hr => w_need_states (k := 46) (by omega) (c_ns.mono (by omega)) _ cdv A outer s H E hr)
  have d_need_states : ClA P w K mg base (He.ga K "need_states") 47 (spSsl K (He.ga K "InvalidState")) := ⟨_, _, o_need_states, b_need_states, F_need_states.kp⟩
  have c_need_states : ClX P w K mg base "need_states" 47 (spSsl K (He.ga K "InvalidState")) := ⟨⟨_, _, _, o_need_states, b_need_states, F_need_states.kp, g_need_states⟩⟩
  have o_size := FnP.bodyX (k := 87) F_size sc_size (t := fun W => t_sizeX K W (fun _ _ _ _ => False) (spNS K (He.ga K "InvalidState"))) (sp := (spS1 K (He.ga K "InvalidState"))) len_S1 body_sizeX (fun cdv A outer s H E hr => w_size (k := 87) (by omega) (Cl.no ⟨_, _, _, b_size_of, F_size_of.kp, g_size_of⟩) (c_ns.mono (by omega)) _ cdv A outer s H E hr)
  have d_size : ClA P w K mg base (He.ga K "size") 88 (spS1 K (He.ga K "InvalidState")) := ⟨_, _, o_size, b_size, F_size.kp⟩
  have c_size : ClX P w K mg base "size" 88 (spS1 K (He.ga K "InvalidState")) := ⟨⟨_, _, _, o_size, b_size, F_size.kp, g_size⟩⟩
  have o_value_at := FnP.bodyX (k := 87) F_value_at sc_value_at (t := fun W => t_value_atX K W (fun _ _ _ _ => False) (fun _ _ _ _ => False) (spNA K (He.ga K "InvalidPath")) (spNS K (He.ga K "InvalidState"))) (sp := (spSA K (He.ga K "InvalidState") (He.ga K "InvalidPath"))) len_SA body_valueX (fun cdv A outer s H E hr => w_value_at (k := 87) (by omega) (Cl.no ⟨_, _, _, b_copied, F_copied.kp, g_copied⟩) (Cl.no ⟨_, _, _, b_found_at, F_found_at.kp, g_found_at⟩) (c_na.mono (by omega)) (c_ns.mono (by omega)) _ cdv A outer s H E hr)
  have d_value_at : ClA P w K mg base (He.ga K "value_at") 88 (spSA K (He.ga K "InvalidState") (He.ga K "InvalidPath")) := ⟨_, _, o_value_at, b_value_at, F_value_at.kp⟩
  have c_value_at : ClX P w K mg base "value_at" 88 (spSA K (He.ga K "InvalidState") (He.ga K "InvalidPath")) := ⟨⟨_, _, _, o_value_at, b_value_at, F_value_at.kp, g_value_at⟩⟩
  have o_apply := FnP.bodyX (k := 87) F_apply sc_apply (t := fun W => t_applyX K W (fun _ _ _ _ => False) (fun _ _ _ _ => False) (fun _ _ _ _ => False) (spNS K (He.ga K "InvalidState")) (spNP K (He.ga K "InvalidPatch"))) (sp := (spPS K (He.ga K "InvalidPatch") (He.ga K "InvalidState"))) len_PS body_applyX (fun cdv A outer s H E hr => w_apply (k := 87) (by omega) (Cl.no ⟨_, _, _, b_copied, F_copied.kp, g_copied⟩) (Cl.no ⟨_, _, _, b_run, F_run.kp, g_run⟩) (Cl.no ⟨_, _, _, b_form_of, F_form_of.kp, g_form_of⟩) (c_ns.mono (by omega)) (c_np.mono (by omega)) _ cdv A outer s H E hr)
  have d_apply : ClA P w K mg base (He.ga K "apply") 88 (spPS K (He.ga K "InvalidPatch") (He.ga K "InvalidState")) := ⟨_, _, o_apply, b_apply, F_apply.kp⟩
  have c_apply : ClX P w K mg base "apply" 88 (spPS K (He.ga K "InvalidPatch") (He.ga K "InvalidState")) := ⟨⟨_, _, _, o_apply, b_apply, F_apply.kp, g_apply⟩⟩
  have o_source := FnP.bodyX (k := 87) F_source sc_source (t := fun W => t_sourceX K W (fun _ _ _ _ => False) (fun _ _ _ _ => False) (fun _ _ _ _ => False) (spNS K (He.ga K "InvalidState")) (spNP K (He.ga K "InvalidPatch"))) (sp := (spPS K (He.ga K "InvalidPatch") (He.ga K "InvalidState"))) len_PS body_sourceX (fun cdv A outer s H E hr => w_source (k := 87) (by omega) (Cl.no ⟨_, _, _, b_copied, F_copied.kp, g_copied⟩) (Cl.no ⟨_, _, _, b_source_of, F_source_of.kp, g_source_of⟩) (Cl.no ⟨_, _, _, b_form_of, F_form_of.kp, g_form_of⟩) (c_ns.mono (by omega)) (c_np.mono (by omega)) _ cdv A outer s H E hr)
  have d_source : ClA P w K mg base (He.ga K "source") 88 (spPS K (He.ga K "InvalidPatch") (He.ga K "InvalidState")) := ⟨_, _, o_source, b_source, F_source.kp⟩
  have c_source : ClX P w K mg base "source" 88 (spPS K (He.ga K "InvalidPatch") (He.ga K "InvalidState")) := ⟨⟨_, _, _, o_source, b_source, F_source.kp, g_source⟩⟩
  have o_affects := FnP.bodyX (k := 87) F_affects sc_affects (t := fun W => t_affectsX K W (fun _ _ _ _ => False) (fun _ _ _ _ => False) (spNA K (He.ga K "InvalidPath")) (spNP K (He.ga K "InvalidPatch"))) (sp := (spPA K (He.ga K "InvalidPatch") (He.ga K "InvalidPath"))) len_PA body_affectsX (fun cdv A outer s H E hr => w_affects (k := 87) (by omega) (Cl.no ⟨_, _, _, b_affected, F_affected.kp, g_affected⟩) (Cl.no ⟨_, _, _, b_form_of, F_form_of.kp, g_form_of⟩) (c_na.mono (by omega)) (c_np.mono (by omega)) _ cdv A outer s H E hr)
  have d_affects : ClA P w K mg base (He.ga K "affects") 88 (spPA K (He.ga K "InvalidPatch") (He.ga K "InvalidPath")) := ⟨_, _, o_affects, b_affects, F_affects.kp⟩
  have c_affects : ClX P w K mg base "affects" 88 (spPA K (He.ga K "InvalidPatch") (He.ga K "InvalidPath")) := ⟨⟨_, _, _, o_affects, b_affects, F_affects.kp, g_affects⟩⟩
  have o_normal_form := FnP.bodyX (k := 87) F_normal_form sc_normal_form (t := fun W => t_normal_formX K W (fun _ _ _ _ => False) (fun _ _ _ _ => False) (spNP K (He.ga K "InvalidPatch"))) (sp := (spP1 K (He.ga K "InvalidPatch"))) len_P1 body_normalX (fun cdv A outer s H E hr => w_normal_form (k := 87) (by omega) (Cl.no ⟨_, _, _, b_copied_form, F_copied_form.kp, g_copied_form⟩) (Cl.no ⟨_, _, _, b_form_of, F_form_of.kp, g_form_of⟩) (c_np.mono (by omega)) _ cdv A outer s H E hr)
  have d_normal_form : ClA P w K mg base (He.ga K "normal_form") 88 (spP1 K (He.ga K "InvalidPatch")) := ⟨_, _, o_normal_form, b_normal_form, F_normal_form.kp⟩
  have c_normal_form : ClX P w K mg base "normal_form" 88 (spP1 K (He.ga K "InvalidPatch")) := ⟨⟨_, _, _, o_normal_form, b_normal_form, F_normal_form.kp, g_normal_form⟩⟩
  have o_idempotent := FnP.bodyX (k := 87) F_idempotent sc_idempotent (t := fun W => t_idempotentX K W (fun _ _ _ _ => False) (fun _ _ _ _ => False) (spNP K (He.ga K "InvalidPatch"))) (sp := (spP1 K (He.ga K "InvalidPatch"))) len_P1 body_idemX (fun cdv A outer s H E hr => w_idempotent (k := 87) (by omega) (Cl.no ⟨_, _, _, b_chained, F_chained.kp, g_chained⟩) (Cl.no ⟨_, _, _, b_form_of, F_form_of.kp, g_form_of⟩) (c_np.mono (by omega)) _ cdv A outer s H E hr)
  have d_idempotent : ClA P w K mg base (He.ga K "idempotent") 88 (spP1 K (He.ga K "InvalidPatch")) := ⟨_, _, o_idempotent, b_idempotent, F_idempotent.kp⟩
  have c_idempotent : ClX P w K mg base "idempotent" 88 (spP1 K (He.ga K "InvalidPatch")) := ⟨⟨_, _, _, o_idempotent, b_idempotent, F_idempotent.kp, g_idempotent⟩⟩
  have o_fixed := FnP.bodyX (k := 87) F_fixed sc_fixed (t := fun W => t_fixedX K W (fun _ _ _ _ => False) (fun _ _ _ _ => False) (fun _ _ _ _ => False) (spNP K (He.ga K "InvalidPatch"))) (sp := (spP1 K (He.ga K "InvalidPatch"))) len_P1 body_fixedX (fun cdv A outer s H E hr => w_fixed (k := 87) (by omega) (Cl.no ⟨_, _, _, b_copied, F_copied.kp, g_copied⟩) (Cl.no ⟨_, _, _, b_fixed_of, F_fixed_of.kp, g_fixed_of⟩) (Cl.no ⟨_, _, _, b_form_of, F_form_of.kp, g_form_of⟩) (c_np.mono (by omega)) _ cdv A outer s H E hr)
  have d_fixed : ClA P w K mg base (He.ga K "fixed") 88 (spP1 K (He.ga K "InvalidPatch")) := ⟨_, _, o_fixed, b_fixed, F_fixed.kp⟩
  have c_fixed : ClX P w K mg base "fixed" 88 (spP1 K (He.ga K "InvalidPatch")) := ⟨⟨_, _, _, o_fixed, b_fixed, F_fixed.kp, g_fixed⟩⟩
  have o_difference := FnP.bodyX (k := 87) F_difference sc_difference (t := fun W => t_differenceX K W (fun _ _ _ _ => False) (fun _ _ _ _ => False) (fun _ _ _ _ => False) (spPP K (He.ga K "InvalidPatch"))) (sp := (spPP K (He.ga K "InvalidPatch"))) len_PP body_diffX (fun cdv A outer s H E hr => w_difference (k := 87) (by omega) (Cl.no ⟨_, _, _, b_copied, F_copied.kp, g_copied⟩) (Cl.no ⟨_, _, _, b_difference_of, F_difference_of.kp, g_difference_of⟩) (Cl.no ⟨_, _, _, b_form_of, F_form_of.kp, g_form_of⟩) (c_need_both.mono (by omega)) _ cdv A outer s H E hr)
  have d_difference : ClA P w K mg base (He.ga K "difference") 88 (spPP K (He.ga K "InvalidPatch")) := ⟨_, _, o_difference, b_difference, F_difference.kp⟩
  have c_difference : ClX P w K mg base "difference" 88 (spPP K (He.ga K "InvalidPatch")) := ⟨⟨_, _, _, o_difference, b_difference, F_difference.kp, g_difference⟩⟩
  have o_commute := FnP.bodyX (k := 87) F_commute sc_commute (t := fun W => t_commuteX K W (fun _ _ _ _ => False) (fun _ _ _ _ => False) (spPP K (He.ga K "InvalidPatch"))) (sp := (spPP K (He.ga K "InvalidPatch"))) len_PP body_commX (fun cdv A outer s H E hr => w_commute (k := 87) (by omega) (Cl.no ⟨_, _, _, b_chained, F_chained.kp, g_chained⟩) (Cl.no ⟨_, _, _, b_form_of, F_form_of.kp, g_form_of⟩) (c_need_both.mono (by omega)) _ cdv A outer s H E hr)
  have d_commute : ClA P w K mg base (He.ga K "commute") 88 (spPP K (He.ga K "InvalidPatch")) := ⟨_, _, o_commute, b_commute, F_commute.kp⟩
  have c_commute : ClX P w K mg base "commute" 88 (spPP K (He.ga K "InvalidPatch")) := ⟨⟨_, _, _, o_commute, b_commute, F_commute.kp, g_commute⟩⟩
  have o_absorbs := FnP.bodyX (k := 87) F_absorbs sc_absorbs (t := fun W => t_absorbsX K W (fun _ _ _ _ => False) (fun _ _ _ _ => False) (spPP K (He.ga K "InvalidPatch"))) (sp := (spPP K (He.ga K "InvalidPatch"))) len_PP body_absX (fun cdv A outer s H E hr => w_absorbs (k := 87) (by omega) (Cl.no ⟨_, _, _, b_chained, F_chained.kp, g_chained⟩) (Cl.no ⟨_, _, _, b_form_of, F_form_of.kp, g_form_of⟩) (c_need_both.mono (by omega)) _ cdv A outer s H E hr)
  have d_absorbs : ClA P w K mg base (He.ga K "absorbs") 88 (spPP K (He.ga K "InvalidPatch")) := ⟨_, _, o_absorbs, b_absorbs, F_absorbs.kp⟩
  have c_absorbs : ClX P w K mg base "absorbs" 88 (spPP K (He.ga K "InvalidPatch")) := ⟨⟨_, _, _, o_absorbs, b_absorbs, F_absorbs.kp, g_absorbs⟩⟩
  have o_changes := FnP.bodyX (k := 87) F_changes sc_changes (t := fun W => t_changesX K W (fun _ _ _ _ => False) (spNS K (He.ga K "InvalidState"))) (sp := (spSS K (He.ga K "InvalidState"))) len_SS body_changesX (fun cdv A outer s H E hr => w_changes (k := 87) (by omega) (Cl.no ⟨_, _, _, b_changes_of, F_changes_of.kp, g_changes_of⟩) (c_ns.mono (by omega)) _ cdv A outer s H E hr)
  have d_changes : ClA P w K mg base (He.ga K "changes") 88 (spSS K (He.ga K "InvalidState")) := ⟨_, _, o_changes, b_changes, F_changes.kp⟩
  have c_changes : ClX P w K mg base "changes" 88 (spSS K (He.ga K "InvalidState")) := ⟨⟨_, _, _, o_changes, b_changes, F_changes.kp, g_changes⟩⟩
  have o_touched := FnP.bodyX (k := 87) F_touched sc_touched (t := fun W => t_touchedX K W (fun _ _ _ _ => False) (fun _ _ _ _ => False) (spNS K (He.ga K "InvalidState"))) (sp := (spSS K (He.ga K "InvalidState"))) len_SS body_touchedX (fun cdv A outer s H E hr => w_touched (k := 87) (by omega) m_sorted (Cl.no ⟨_, _, _, b_paths_of, F_paths_of.kp, g_paths_of⟩) (Cl.no ⟨_, _, _, b_changes_of, F_changes_of.kp, g_changes_of⟩) (c_ns.mono (by omega)) _ cdv A outer s H E hr)
  have d_touched : ClA P w K mg base (He.ga K "touched") 88 (spSS K (He.ga K "InvalidState")) := ⟨_, _, o_touched, b_touched, F_touched.kp⟩
  have c_touched : ClX P w K mg base "touched" 88 (spSS K (He.ga K "InvalidState")) := ⟨⟨_, _, _, o_touched, b_touched, F_touched.kp, g_touched⟩⟩
  have o_conflicts := FnP.bodyX (k := 87) F_conflicts sc_conflicts (t := fun W => t_conflictsX K W (fun _ _ _ _ => False) (spSsl K (He.ga K "InvalidState"))) (sp := (spSSS K (He.ga K "InvalidState"))) len_SSS body_conflX (fun cdv A outer s H E hr => w_conflicts (k := 87) (by omega) m_sorted (Cl.no ⟨_, _, _, b_merged, F_merged.kp, g_merged⟩) (c_need_states.mono (by omega)) _ cdv A outer s H E hr)
  have d_conflicts : ClA P w K mg base (He.ga K "conflicts") 88 (spSSS K (He.ga K "InvalidState")) := ⟨_, _, o_conflicts, b_conflicts, F_conflicts.kp⟩
  have c_conflicts : ClX P w K mg base "conflicts" 88 (spSSS K (He.ga K "InvalidState")) := ⟨⟨_, _, _, o_conflicts, b_conflicts, F_conflicts.kp, g_conflicts⟩⟩
  have o_merge3 := FnP.bodyX (k := 87) F_merge3 sc_merge3 (t := fun W => t_merge3X K (He.ga K "Conflict") W (fun _ _ _ _ => False) (fun _ _ _ _ => False) (spSsl K (He.ga K "InvalidState"))) (sp := (spSSS K (He.ga K "InvalidState"))) len_SSS body_mergeX (fun cdv A outer s H E hr => w_merge3 (k := 87) (by omega) m_sorted t_Conflict (Cl.no ⟨_, _, _, b_copied, F_copied.kp, g_copied⟩) (Cl.no ⟨_, _, _, b_merged, F_merged.kp, g_merged⟩) (c_need_states.mono (by omega)) _ cdv A outer s H E hr)
  have d_merge3 : ClA P w K mg base (He.ga K "merge3") 88 (spSSS K (He.ga K "InvalidState")) := ⟨_, _, o_merge3, b_merge3, F_merge3.kp⟩
  have c_merge3 : ClX P w K mg base "merge3" 88 (spSSS K (He.ga K "InvalidState")) := ⟨⟨_, _, _, o_merge3, b_merge3, F_merge3.kp, g_merge3⟩⟩
  have c__law_which : ClE P w K mg base "_law_which" 4 (spWhP K (csL.map (He.ga K))) := ⟨⟨_, fd__law_which, _, FunD.okE F__law_which sc__law_which (fun p vs H Q E q => by obtain ⟨_, D, i, G, _, _, _, rfl, _⟩ := q; rfl) (fun cdv A outer s H vs Q E p hr q => by
    obtain ⟨D, hE, hz, hf, ht⟩ := which_body (N := []) (c0 := He.ga K "InvalidState") (c1 := He.ga K "InvalidPath") (c2 := He.ga K "InvalidPatch") (c3 := He.ga K "Conflict") (c4 := He.ga K "NothingToUndo") (c5 := He.ga K "NothingToRedo") (c6 := He.ga K "InvalidFormat") rfl q
    exact ⟨_, w__law_which (k := 3) m_isinstance m_ValueError gx_InvalidFormat gx_NothingToRedo gx_NothingToUndo gx_Conflict gx_InvalidPatch gx_InvalidPath gx_InvalidState hE hz hf _ cdv A outer s H E hr, ht⟩), b__law_which, F__law_which.kp, g__law_which⟩⟩
  have c__law_ask : Cl P w K mg base "_law_ask" 89 (spAsk K (He.ga K "InvalidState") (He.ga K "InvalidPath") (He.ga K "InvalidPatch")) := ⟨⟨_, _, _, FnP.bodyC (k := 88) F__law_ask sc__law_ask len_ask (body_ask ⟨em_InvalidState, em_InvalidPath, em_InvalidPatch, wh_InvalidState, wh_InvalidPath, wh_InvalidPatch⟩) (fun cdv A outer s H E hr => w__law_ask (k := 88) gx_PatchError (c__law_which.mono (by omega)) (c_size) g_conflicts (d_conflicts) g_merge3 (d_merge3) g_value_at (d_value_at) g_changes (d_changes) g_touched (d_touched) g_apply (d_apply) g_source (d_source) g_affects (d_affects) g_difference (d_difference) g_commute (d_commute) g_absorbs (d_absorbs) g_normal_form (d_normal_form) g_idempotent (d_idempotent) g_fixed (d_fixed) _ cdv A outer s H E hr), b__law_ask, F__law_ask.kp, g__law_ask⟩⟩
  have c__law_states : Cl P w K mg base "_law_states" 1 (spSts K) := ⟨⟨_, _, _, FnP.bodyC (k := 0) F__law_states sc__law_states len_sts body_sts (fun cdv A outer s H E hr => w__law_states (k := 0) m_dict m_range _ cdv A outer s H E hr), b__law_states, F__law_states.kp, g__law_states⟩⟩
  have c__law_patches : Cl P w K mg base "_law_patches" 1 (SpP K R_pts02) := ⟨⟨_, _, _, FnP.pure F__law_patches sc__law_patches (fun ds d h => by first | (obtain ⟨_, rfl, _⟩ := h; rfl) | (obtain ⟨_, _, rfl, _⟩ := h; rfl) | (obtain ⟨_, _, _, rfl, _⟩ := h; rfl) | (obtain ⟨_, _, _, _, rfl, _⟩ := h; rfl) | (obtain ⟨_, _, _, _, _, rfl, _⟩ := h; rfl) | (obtain ⟨_, _, _, _, _, _, rfl, _⟩ := h; rfl) | (obtain ⟨rfl, _⟩ := h; rfl)) p_pts02 (fun cdv A outer s H E hr => w__law_patches (k := 0) m_dict m_range _ cdv A outer s H E hr), b__law_patches, F__law_patches.kp, g__law_patches⟩⟩
  have c__law_draw : Cl P w K mg base "_law_draw" 1 (SpT K R_draw) := ⟨⟨_, _, _, FnP.townB F__law_draw sc__law_draw (fun ns ds S h => by first | (obtain ⟨_, rfl, _⟩ := h; rfl) | (obtain ⟨rfl, _⟩ := h; rfl) | (obtain ⟨_, _, rfl, _⟩ := h; rfl) | (obtain ⟨_, _, _, rfl, _⟩ := h; rfl)) (fun vs H Q E q => body_draw q) (fun cdv A outer s H E hr => w__law_draw (k := 0) m_len _ cdv A outer s H E hr), b__law_draw, F__law_draw.kp, g__law_draw⟩⟩
  have c__law_pick : Cl P w K mg base "_law_pick" 2 (SpT K R_pick) := ⟨⟨_, _, _, FnP.town F__law_pick sc__law_pick (fun ns ds S h => by first | (obtain ⟨_, rfl, _⟩ := h; rfl) | (obtain ⟨rfl, _⟩ := h; rfl) | (obtain ⟨_, _, rfl, _⟩ := h; rfl) | (obtain ⟨_, _, _, rfl, _⟩ := h; rfl)) p_pick (fun cdv A outer s H E hr => w__law_pick (k := 1) m_len (c__law_draw) _ cdv A outer s H E hr), b__law_pick, F__law_pick.kp, g__law_pick⟩⟩
  have c__law_document : ∀ n, Cl P w K mg base "_law_document" (2 + n) (SpT K ((R_document abcz) n)) := fun n => by
    induction n with
    | zero => exact Cl.none (sp' := fun _ _ _ _ => False) (k' := 0) ⟨_, _, _, b__law_document, F__law_document.kp, g__law_document⟩ (fun vs H Q E ⟨_, _, _, _, _, _, _, _, _, _, r, _⟩ => r)
    | succ n ih => exact ⟨⟨_, _, _, FnP.town F__law_document sc__law_document (fun ns ds S h => by first | (obtain ⟨_, rfl, _⟩ := h; rfl) | (obtain ⟨rfl, _⟩ := h; rfl) | (obtain ⟨_, _, rfl, _⟩ := h; rfl) | (obtain ⟨_, _, _, rfl, _⟩ := h; rfl)) (p_document names7 n) (fun cdv A outer s H E hr => w__law_document m_dict (ih) (c__law_pick.mono (by omega)) (c__law_draw.mono (by omega)) _ cdv A outer s H E hr), b__law_document, F__law_document.kp, g__law_document⟩⟩
  have c_doc : ∀ m, Cl P w K mg base "_law_document" (3 + m) (SpT K (R_doc abcz m)) := fun m => (c__law_document (m + 1)).mono (by omega)
  have c__law_state : ∀ m, Cl P w K mg base "_law_state" (3 + m + 1) (SpT K (R_state abcz m)) := fun m => ⟨⟨_, _, _, FnP.town (k := 3 + m) F__law_state sc__law_state (fun ns ds S h => by first | (obtain ⟨_, rfl, _⟩ := h; rfl) | (obtain ⟨rfl, _⟩ := h; rfl) | (obtain ⟨_, _, rfl, _⟩ := h; rfl) | (obtain ⟨_, _, _, rfl, _⟩ := h; rfl)) (p_state m) (fun cdv A outer s H E hr => w__law_state (c__law_draw.mono (by omega)) (c_doc m) _ cdv A outer s H E hr), b__law_state, F__law_state.kp, g__law_state⟩⟩
  have c__law_patch : ∀ n, Cl P w K mg base "_law_patch" (5 + n) (SpT K ((R_patch abcz) n)) := fun n => by
    induction n with
    | zero => exact Cl.none (sp' := fun _ _ _ _ => False) (k' := 0) ⟨_, _, _, b__law_patch, F__law_patch.kp, g__law_patch⟩ (fun vs H Q E ⟨_, _, _, _, _, _, _, _, _, _, r, _⟩ => r)
    | succ n ih => exact ⟨⟨_, _, _, FnP.town F__law_patch sc__law_patch (fun ns ds S h => by first | (obtain ⟨_, rfl, _⟩ := h; rfl) | (obtain ⟨rfl, _⟩ := h; rfl) | (obtain ⟨_, _, rfl, _⟩ := h; rfl) | (obtain ⟨_, _, _, rfl, _⟩ := h; rfl)) (p_patch names5 n) (fun cdv A outer s H E hr => w__law_patch m_dict m_tuple m_range (ih) (c__law_pick.mono (by omega)) (c__law_draw.mono (by omega)) ((c_doc 2).mono (by omega)) _ cdv A outer s H E hr), b__law_patch, F__law_patch.kp, g__law_patch⟩⟩
  exact FnP.law F_law sc_law (by decide) p_law02 (fun cdv A outer s H E hr => w_law (k := 95) m_dict m_range (c_is_patch.mono (by omega)) (c_value_atN.mono (by omega)) (c_isS.mono (by omega)) (c__law_ask.mono (by omega)) (c__law_states.mono (by omega)) (c__law_patches.mono (by omega)) ((c__law_state 3).mono (by omega)) ((c__law_patch 5).mono (by omega)) _ cdv A outer s H E hr)
end Mp
set_option maxRecDepth 100000
set_option maxHeartbeats 0
open PySem PySem.W PySem.Calls PyProof.Rows in
theorem PySem.Challenge.cw_mergepatch_k02_patch_errors_holds : PySem.Challenge.rw_mergepatch_k02_patch_errors.Holds := by
  w_on; o_law
  refine HandSHeadRun.head_any (r := OpenLaw.row PySem.Challenge.rw_mergepatch_k02_patch_errors) (q := view (OpenLaw.row PySem.Challenge.rw_mergepatch_k02_patch_errors).prog [85]) (H := Mp.hkL) (ob := Mp.obL) (M := 6000) (loose := Mp.loL) (d := HandSHeadRun.topDef (OpenLaw.row PySem.Challenge.rw_mergepatch_k02_patch_errors).prog 85) (kwd := []) Mp.ob_eqL
    (by kernel_rfl) (fun s => by kernel_rfl) Mp.runL (by kernel_rfl) (by kernel_rfl) (by kernel_rfl) (by rfl) (by first | assumption | decide +kernel) (by decide +kernel) ⟨rfl, rfl, rfl, rfl, rfl, by decide +kernel⟩ ?hw ?hc
  case hw => w_witness2
  case hc =>
    refine L2.walk_ofE (l := PySem.Challenge.rw_mergepatch_k02_patch_errors) (n := 63) (k := 96) (x := "script") (CX := L2.CX0) rfl (by decide) (by kernel_rfl) ⟨rfl, by decide, by decide⟩ ?F (fun _ _ _ _ z => z)
    intro w mg fa h Y G hmg0
    obtain ⟨K, KX, c⟩ := Y
    have hmg : mg ("law" : PySem.Str) = some (.ref fa) := by
      have e : (HandSHeadRun.topDef (OpenLaw.row PySem.Challenge.rw_mergepatch_k02_patch_errors).prog 85).name = ("law" : PySem.Str) := by kernel_rfl
      rw [← e]
      exact hmg0
    obtain ⟨fd, hb, hF⟩ := Mp.factsL (P := (PySem.Challenge.rw_mergepatch_k02_patch_errors).prog) (w := w) KX G hmg c
    exact ⟨K, fd, Mp.spLaw K, KX, hb, fun H a ns hl _ hS => ⟨a, ns, rfl, hS, fun _ => rfl⟩, hF⟩
