import PyProof.Rows.All
import Wide.All
import OpenK.AllK
import Wide.FinOn
import HandS.ForMost
import KE.KDictKeyed
import KE.KDictWalk
import KE.KDictDisplayH
import PyProof.DictDisplay
import HandS.Exc
import HandS.ExcOwn
import HandS.WordsExc
import HandS.TupAny
import HandS.Deep
import HandS.Style
import HandS.Zip
import HandS.IsInst
import HandS.Wide
import HandS.Flow
import HandS.Iter
import HandS.Text
import KE.SortData
import HandS.Lambda
import KE.KDictList
import KE.KDictCopyH
import KE.KDictSum
import KE.SortCalls
import HandS.AnyAll
import HandS.Replace
import PyProof.Draws
import KE.GoesEnum
import HandS.Defaults
import HandS.Head0
import HandS.Head1
import HandS.Head2
import HandS.HeadEnd
import HandS.HeadHook1
import HandS.HeadHook2
import HandS.Codes
import PySem.Challenge.RW_doubledoors_k16_houses_with_one_part_cha
section
set_option Elab.async false
set_option linter.all false
set_option maxRecDepth 100000
set_option autoImplicit false
/-! DN1: dicts whose keys are nested tuples, or texts, in the abstract heap. -/
namespace DL
open PySem PySem.Spec PyProof.Rows L2

mutual
/-- a value is a key -/
inductive IsK (K : PySem.W.Frag) (H : Hp) : V → NestedKey → Prop
  | non : IsK K H .non .none
  | bl (b : Bool) : IsK K H (.bl b) (.num (if b = true then 1 else 0))
  | int (i : Int) : IsK K H (.int i) (.num i)
  | str (x : Str) : IsK K H (.str x) (.text x)
  | tup {a : Addr} {vs : List V} {ks : List NestedKey} : SqT K H a vs → IsKs K H vs ks → IsK K H (.ref a) (.tup ks)
inductive IsKs (K : PySem.W.Frag) (H : Hp) : List V → List NestedKey → Prop
  | nil : IsKs K H [] []
  | cons {v : V} {vs : List V} {k : NestedKey} {ks : List NestedKey} : IsK K H v k → IsKs K H vs ks → IsKs K H (v :: vs) (k :: ks)
end
/-- a key of a dict, what stands for it, what stands for its value -/
abbrev Tri := NestedKey × V × V
def KeyT (y : V) (k : NestedKey) : Prop := (∃ b ks, y = .ref b ∧ k = .tup ks) ∧ k.depth ≤ 8
def KeyS (y : V) (k : NestedKey) : Prop := ∃ x, y = .str x ∧ k = .text x
def EntR (w : World) (e : DictEntry) (n : Tri) : Prop := e.hash = n.1.hash w ∧ RelV n.2.1 e.key ∧ RelV n.2.2 e.val
/-- the object at a is the dict of these entries -/
def DicO (a : Addr) (es : Array DictEntry) (ep : Nat) : HO := .ext fun h => (a == sysModules) = false ∧ h.DictRaw a es ep
structure DicAt (w : World) (H : Hp) (a : Addr) (ns : List Tri) : Prop where
  ex : ∃ es ep, H a = some (DicO a es ep) ∧ Paired (EntR w) es.toList ns
  nd : (ns.map (·.1)).Nodup
  len : ns.length ≤ sizeLine
  kd : (∀ n ∈ ns, KeyT n.2.1 n.1) ∨ ∀ n ∈ ns, KeyS n.2.1 n.1
def IsAll (K : PySem.W.Frag) (H : Hp) (ns : List Tri) : Prop := ∀ n ∈ ns, IsK K H n.2.1 n.1
def Agree (ns : List Tri) (y : V) (k : NestedKey) : Prop := (KeyT y k ∧ ∀ n ∈ ns, KeyT n.2.1 n.1) ∨ (KeyS y k ∧ ∀ n ∈ ns, KeyS n.2.1 n.1)
def fnd (ns : List Tri) (k : NestedKey) : Option V := (ns.find? fun n => decide (n.1 = k)).map (·.2.2)
def putN (ns : List Tri) (k : NestedKey) (y v : V) : List Tri := if (fnd ns k).isSome then ns.map (fun n => if n.1 = k then (n.1, n.2.1, v) else n) else ns ++ [(k, y, v)]

/-! ### towards the library's dicts -/
def RH (n : Tri) (x : NestedKey × Addr × Value) : Prop := n.1 = x.1 ∧ n.2.1 = .ref x.2.1 ∧ RelV n.2.2 x.2.2
def RS (n : Tri) (x : Key × Value) : Prop := ∃ t, n.1 = .text t ∧ n.2.1 = .str t ∧ x.1 = .inr t ∧ RelV n.2.2 x.2
section
variable {P : Program} {w : World}
theorem n_toH : ∀ {es : List DictEntry} {ns : List Tri}, Paired (EntR w) es ns → (∀ n ∈ ns, KeyT n.2.1 n.1) → ∃ xs, es = xs.map (entryOfKey (nestedKind P w)) ∧ Paired RH ns xs
  | _, _, .nil, _ => ⟨[], rfl, .nil⟩
  | _, _, .cons (a := e) (b := n) r t, h => by
    obtain ⟨xs, e1, p⟩ := n_toH t fun m hm => h m (List.mem_cons_of_mem _ hm)
    obtain ⟨⟨b, ks, hy, hk⟩, _⟩ := h n List.mem_cons_self
    obtain ⟨r1, r2, r3⟩ := r
    rw [hy] at r2
    have r2 : e.key = .ref b := r2
    refine ⟨(n.1, b, e.val) :: xs, ?_, .cons ⟨rfl, hy, r3⟩ p⟩
    rw [List.map_cons, ← e1]
    congr 1
    cases e
    cases r2
    cases r1
    rfl
theorem n_ofH : ∀ {xs : List (NestedKey × Addr × Value)} {ns : List Tri}, Paired RH ns xs → Paired (EntR w) (xs.map (entryOfKey (nestedKind P w))) ns
  | _, _, .nil => .nil
  | _, _, .cons (a := n) (b := x) ⟨r1, r2, r3⟩ t => .cons ⟨by rw [r1]; rfl, by rw [r2]; rfl, r3⟩ (n_ofH t)
theorem rh_keys : ∀ {xs : List (NestedKey × Addr × Value)} {ns : List Tri}, Paired RH ns xs → ns.map (·.1) = xs.map (·.1)
  | _, _, .nil => rfl
  | _, _, .cons ⟨r1, _⟩ t => by rw [List.map_cons, List.map_cons, r1, rh_keys t]
theorem rh_find (k : NestedKey) : ∀ {xs : List (NestedKey × Addr × Value)} {ns : List Tri}, Paired RH ns xs → RelO (fnd ns k) ((atKey xs k).map (·.2))
  | _, _, .nil => True.intro
  | _, _, .cons (a := n) (b := x) (l₁ := ns) (l₂ := xs) ⟨r1, r2, r3⟩ t => by
    have ih := rh_find k t
    unfold fnd atKey at ih ⊢
    by_cases e : n.1 = k
    · rw [List.find?_cons_of_pos (by simpa using e), List.find?_cons_of_pos (by simpa using r1 ▸ e)]
      exact r3
    · rw [List.find?_cons_of_neg (by simpa using e), List.find?_cons_of_neg (by simpa using r1 ▸ e)]
      exact ih
theorem rh_len : ∀ {xs : List (NestedKey × Addr × Value)} {ns : List Tri}, Paired RH ns xs → ns.length = xs.length := fun p => Paired.length p
theorem rh_repl (k : NestedKey) {v : V} {u : Value} (r : RelV v u) : ∀ {xs : List (NestedKey × Addr × Value)} {ns : List Tri}, Paired RH ns xs → Paired RH (ns.map (fun n => if n.1 = k then (n.1, n.2.1, v) else n)) (xs.map (putAt k u))
  | _, _, .nil => .nil
  | _, _, .cons (a := n) (b := x) ⟨r1, r2, r3⟩ t => by
    rw [List.map_cons, List.map_cons]
    refine .cons ?_ (rh_repl k r t)
    unfold putAt
    by_cases e : n.1 = k
    · rw [if_pos e, if_pos (r1 ▸ e)]; exact ⟨r1, r2, r⟩
    · rw [if_neg e, if_neg (r1 ▸ e)]; exact ⟨r1, r2, r3⟩
theorem paired_snoc {α β : Type} {F : α → β → Prop} {a : α} {b : β} (h : F a b) : ∀ {l : List α} {m : List β}, Paired F l m → Paired F (l ++ [a]) (m ++ [b])
  | _, _, .nil => .cons h .nil
  | _, _, .cons r t => .cons r (paired_snoc h t)
theorem rh_put (k : NestedKey) {b : Addr} {v : V} {u : Value} (r : RelV v u) {xs : List (NestedKey × Addr × Value)} {ns : List Tri} (p : Paired RH ns xs) : Paired RH (putN ns k (.ref b) v) (storedH xs k b u) := by
  have q := (rh_find k p).isSome_eq
  rw [Option.isSome_map] at q
  unfold putN storedH
  rw [q]
  split
  · exact rh_repl k r p
  · exact paired_snoc ⟨rfl, rfl, r⟩ p
theorem n_toS {ns : List Tri} : ∀ {es : List DictEntry} {ns : List Tri}, Paired (EntR w) es ns → (∀ n ∈ ns, KeyS n.2.1 n.1) → (∀ e ∈ es, ∃ k, (mixKind P w).is k e.key = true ∧ e.hash = (mixKind P w).hash k) ∧ ∃ xs, Pairs (mixKind P w) es xs ∧ Paired RS ns xs
  | _, _, .nil, _ => ⟨(fun _ h => nomatch h), [], .nil, .nil⟩
  | _, _, .cons (a := e) (b := n) r t, h => by
    obtain ⟨k0, xs, e1, p⟩ := n_toS (ns := ns) t fun m hm => h m (List.mem_cons_of_mem _ hm)
    obtain ⟨x, hy, hk⟩ := h n List.mem_cons_self
    obtain ⟨r1, r2, r3⟩ := r
    rw [hy] at r2
    have i1 : (mixKind P w).is (.inr x) e.key = true := kV_is (k := .inr x) r2
    refine ⟨fun e' he => ?_, (.inr x, e.val) :: xs, .cons i1 rfl e1, .cons ⟨x, hk, hy, rfl, r3⟩ p⟩
    rcases List.mem_cons.mp he with q | q
    · subst q
      exact ⟨.inr x, i1, by rw [r1, hk]; rfl⟩
    · exact k0 e' q
theorem n_ofS {es : List DictEntry} {xs : List (Key × Value)} {ns : List Tri} (k0 : ∀ e ∈ es, ∃ k, (mixKind P w).is k e.key = true ∧ e.hash = (mixKind P w).hash k) (q : Pairs (mixKind P w) es xs) (p : Paired RS ns xs) : Paired (EntR w) es ns := by
  induction q generalizing ns with
  | nil => cases p; exact .nil
  | @cons e kv es kvs h1 h2 t ih =>
    cases p with
    | @cons n _ ns _ r p =>
    obtain ⟨x, q1, q2, q3, q4⟩ := r
    refine .cons ⟨?_, ?_, ?_⟩ (ih (fun e he => k0 e (List.mem_cons_of_mem _ he)) p)
    · obtain ⟨k, i1, i2⟩ := k0 e List.mem_cons_self
      have : k = kv.1 := (mixKind P w).inj _ _ _ i1 h1
      rw [i2, this, q3, q1]
      rfl
    · rw [q3] at h1
      rcases keyIs_shape (show keyIs (.inr x) e.key = true from h1) with ⟨i, t, z, _⟩ | ⟨y, t, z, e2⟩
      · cases z
      · cases z
        rw [q2, e2]
        exact ⟨t, rfl⟩
    · rw [h2]; exact q4
theorem rs_keys : ∀ {xs : List (Key × Value)} {ns : List Tri}, Paired RS ns xs → (ns.map (·.1)).Nodup → (xs.map (·.1)).Nodup
  | _, _, .nil, _ => List.nodup_nil
  | _, _, .cons (a := n) (b := x) (l₁ := ns) (l₂ := xs) ⟨t, q1, q2, q3, q4⟩ p, h => by
    rw [List.map_cons, List.nodup_cons] at h ⊢
    refine ⟨fun hm => h.1 ?_, rs_keys p h.2⟩
    have all : ∀ {ns : List Tri} {xs : List (Key × Value)}, Paired RS ns xs → ∀ t, (Sum.inr t : Key) ∈ xs.map (·.1) → NestedKey.text t ∈ ns.map (·.1) := by
      intro ns xs p
      induction p with
      | nil => intro t h; exact nomatch h
      | cons r _ ih =>
        intro t h
        obtain ⟨t', z1, z2, z3, z4⟩ := r
        rcases List.mem_cons.mp h with h | h
        · have h : (Sum.inr t : Key) = Sum.inr t' := h.trans z3
          cases h
          exact List.mem_cons.mpr (.inl z1.symm)
        · exact List.mem_cons.mpr (.inr (ih t h))
    rw [q1]
    rw [q3] at hm
    exact all p t hm
theorem rs_find (t : Str) : ∀ {xs : List (Key × Value)} {ns : List Tri}, Paired RS ns xs → RelO (fnd ns (.text t)) (valueAt xs (.inr t))
  | _, _, .nil => True.intro
  | _, _, .cons (a := n) (b := x) (l₁ := ns) (l₂ := xs) ⟨t', r1, r2, r3, r4⟩ p => by
    have ih := rs_find t p
    unfold fnd valueAt at ih ⊢
    by_cases e : t' = t
    · subst e
      rw [List.find?_cons_of_pos (by simpa using r1), List.find?_cons_of_pos (by simpa using r3)]
      exact r4
    · rw [List.find?_cons_of_neg (by rw [r1]; simpa using e), List.find?_cons_of_neg (by rw [r3]; simpa using e)]
      exact ih
theorem rs_repl (t : Str) {v : V} {u : Value} (r : RelV v u) : ∀ {xs : List (Key × Value)} {ns : List Tri}, Paired RS ns xs → Paired RS (ns.map (fun n => if n.1 = .text t then (n.1, n.2.1, v) else n)) (xs.map fun kv => if kv.1 = .inr t then (kv.1, u) else kv)
  | _, _, .nil => .nil
  | _, _, .cons (a := n) (b := x) ⟨t', r1, r2, r3, r4⟩ p => by
    rw [List.map_cons, List.map_cons]
    refine .cons ?_ (rs_repl t r p)
    by_cases e : t' = t
    · subst e
      rw [if_pos r1, if_pos r3]; exact ⟨t', r1, r2, r3, r⟩
    · rw [if_neg (by rw [r1]; simpa using e), if_neg (by rw [r3]; simpa using e)]; exact ⟨t', r1, r2, r3, r4⟩
theorem rs_put (t : Str) {v : V} {u : Value} (r : RelV v u) {xs : List (Key × Value)} {ns : List Tri} (p : Paired RS ns xs) : Paired RS (putN ns (.text t) (.str t) v) (stored xs (.inr t) u) := by
  have q := (rs_find t p).isSome_eq
  have q2 : (xs.any fun kv => decide (kv.1 = .inr t)) = (valueAt xs (.inr t)).isSome := by
    unfold valueAt
    rw [Option.isSome_map]
    induction xs generalizing ns with
    | nil => rfl
    | cons x xs ih =>
      cases p with
      | cons r0 p0 =>
        rw [List.any_cons]
        by_cases e : x.1 = .inr t
        · rw [List.find?_cons_of_pos (by simpa using e)]; simp [e]
        · rw [List.find?_cons_of_neg (by simpa using e)]
          simp only [e, decide_false, Bool.false_or]
          exact ih p0 (rs_find t p0).isSome_eq
  unfold putN stored
  rw [q, q2]
  split
  · exact rs_repl t r p
  · exact paired_snoc ⟨t, rfl, rfl, rfl, r⟩ p
end
theorem putN_new {ns : List Tri} {k : NestedKey} {y v : V} (h : fnd ns k = none) : putN ns k y v = ns ++ [(k, y, v)] := by unfold putN; rw [h]; rfl
theorem putN_old {ns : List Tri} {k : NestedKey} {y v : V} (h : (fnd ns k).isSome = true) : putN ns k y v = ns.map (fun n => if n.1 = k then (n.1, n.2.1, v) else n) := by unfold putN; rw [if_pos h]
theorem putN_len (ns : List Tri) (k : NestedKey) (y v : V) : (putN ns k y v).length ≤ ns.length + 1 := by
  unfold putN
  split
  · rw [List.length_map]; omega
  · rw [List.length_append]; exact Nat.le_refl _
theorem putN_keys (ns : List Tri) (k : NestedKey) (y v : V) (h : (ns.map (·.1)).Nodup) : ((putN ns k y v).map (·.1)).Nodup := by
  unfold putN
  split
  · rw [List.map_map]
    have : (ns.map ((fun x => x.1) ∘ fun n => if n.1 = k then (n.1, n.2.1, v) else n)) = ns.map (·.1) := List.map_congr_left fun n _ => by
      by_cases e : n.1 = k <;> simp [e]
    rw [this]
    exact h
  · rename_i hn
    rw [List.map_append, List.nodup_append]
    refine ⟨h, by simp, fun a ha b hb => ?_⟩
    have hb : b = k := by simpa using hb
    subst hb
    rintro rfl
    obtain ⟨n, hm, e⟩ := List.mem_map.mp ha
    refine hn ?_
    unfold fnd
    rw [Option.isSome_map, List.find?_isSome]
    exact ⟨n, hm, by simpa using e⟩
theorem putN_mem {ns : List Tri} {k : NestedKey} {y v : V} {p : V → NestedKey → Prop} (h : ∀ n ∈ ns, p n.2.1 n.1) (hk : p y k) : ∀ n ∈ putN ns k y v, p n.2.1 n.1 := by
  intro n hn
  unfold putN at hn
  split at hn
  · obtain ⟨n', hm, e⟩ := List.mem_map.mp hn
    subst e
    by_cases e : n'.1 = k
    · rw [if_pos e]; exact h n' hm
    · rw [if_neg e]; exact h n' hm
  · rcases List.mem_append.mp hn with hn | hn
    · exact h n hn
    · have e : n = (k, y, v) := by simpa using hn
      subst e
      exact hk
end DL
end
section
set_option Elab.async false
set_option linter.all false
set_option maxRecDepth 100000
set_option autoImplicit false
/-! DN2: the rules of such dicts. -/
namespace DL
open PySem PySem.Spec PyProof.Rows L2
section
variable {X : Cx} {pins : List (Addr × Obj)} {σ : L2.St} {H : Hp} {s : Shared} {a : Addr} {y v d : V} {u r : Value} {k : NestedKey} {ns : List Tri} {A : Around} {E : Value → Shared → Prop}
mutual
theorem isK_is (I : Inv X pins σ H s) : ∀ {v : V} {k : NestedKey} {u : Value}, IsK X.K H v k → RelV v u → NestedIs s.heap k u
  | _, _, _, .non, r => by cases r; exact .none
  | _, _, _, .bl b, r => by cases r; exact .bool rfl
  | _, _, _, .int i, r => by obtain ⟨t, rfl⟩ := r; exact .int i t
  | _, _, _, .str x, r => by obtain ⟨t, rfl⟩ := r; exact .text x t
  | _, _, _, .tup h q, r => by
    cases r
    obtain ⟨its, rv, ⟨o, e, c, n, d⟩, _⟩ := I.tuple h
    exact .tup e c d (by simpa using isKs_is I q rv)
theorem isKs_is (I : Inv X pins σ H s) : ∀ {vs : List V} {ks : List NestedKey} {us : List Value}, IsKs X.K H vs ks → Vals vs us → NestedAll s.heap ks us
  | _, _, _, .nil, .nil => .nil
  | _, _, _, .cons a b, .cons r t => .cons (isK_is I a r) (isKs_is I b t)
end
theorem dic_raw (I : Inv X pins σ H s) {es : Array DictEntry} {ep : Nat} (e : H a = some (DicO a es ep)) : s.heap.DictRaw a es ep ∧ (a == sysModules) = false := by
  obtain ⟨⟨h1, h2⟩, _⟩ := I.hok a _ e
  exact ⟨h2, h1⟩
theorem rh_is (I : Inv X pins σ H s) : ∀ {xs : List (NestedKey × Addr × Value)} {ns : List Tri}, Paired RH ns xs → IsAll X.K H ns → (∀ n ∈ ns, KeyT n.2.1 n.1) → ∀ x ∈ xs, (nestedKind X.prog X.w).is s.heap x.1 x.2.1
  | _, _, .nil, _, _ => fun _ h => nomatch h
  | _, _, .cons (a := n) (b := x0) ⟨r1, r2, r3⟩ t, is, hT => fun x hx => by
    rcases List.mem_cons.mp hx with q | q
    · subst q
      have i := is n List.mem_cons_self
      rw [r1, r2] at i
      obtain ⟨_, hd⟩ := hT n List.mem_cons_self
      rw [r1] at hd
      exact ⟨isK_is I i rfl, hd⟩
    · exact rh_is I t (fun n hn => is n (List.mem_cons_of_mem _ hn)) (fun n hn => hT n (List.mem_cons_of_mem _ hn)) x q
theorem dic_H (I : Inv X pins σ H s) (D : DicAt X.w H a ns) (is : IsAll X.K H ns) (hT : ∀ n ∈ ns, KeyT n.2.1 n.1) : ∃ xs, s.heap.DictOfH (nestedKind X.prog X.w) a xs ∧ Paired RH ns xs ∧ (a == sysModules) = false := by
  obtain ⟨es, ep, e, p⟩ := D.ex
  obtain ⟨⟨o, ho, hc, hd⟩, hs⟩ := dic_raw I e
  obtain ⟨xs, e1, p2⟩ := n_toH (P := X.prog) p hT
  exact ⟨xs, ⟨o, es, ep, ho, hc, hd, e1, rh_is I p2 is hT, by rw [← rh_keys p2]; exact D.nd⟩, p2, hs⟩
theorem dic_S (I : Inv X pins σ H s) (D : DicAt X.w H a ns) (hS : ∀ n ∈ ns, KeyS n.2.1 n.1) : ∃ xs, s.heap.DictOf (mixKind X.prog X.w) a xs ∧ Paired RS ns xs ∧ (a == sysModules) = false := by
  obtain ⟨es, ep, e, p⟩ := D.ex
  obtain ⟨⟨o, ho, hc, hd⟩, hs⟩ := dic_raw I e
  obtain ⟨k0, xs, e1, p2⟩ := n_toS (P := X.prog) (ns := ns) p hS
  exact ⟨xs, ⟨o, es, ep, ho, hc, hd, fun e he => k0 e (by simpa using he), e1, rs_keys p2 D.nd⟩, p2, hs⟩
theorem room1 (hu : A.units + 9 < cLine) : (nestedKind X.prog X.w).room A.in1 := by
  show A.units + 1 + 8 < cLine
  omega
theorem keyT_is (I : Inv X pins σ H s) (ky : IsK X.K H y k) (kt : KeyT y k) (ry : RelV y u) : ∃ b, u = .ref b ∧ y = .ref b ∧ (nestedKind X.prog X.w).is s.heap k b := by
  obtain ⟨⟨b, ks, e1, e2⟩, hd⟩ := kt
  subst e1
  cases ry
  exact ⟨b, rfl, rfl, isK_is I ky rfl, hd⟩
theorem n_getItem {Q : Value → Shared → Prop} (hu : A.units + 9 < cLine) (I : Inv X pins σ H s) (D : DicAt X.w H a ns) (is : IsAll X.K H ns) (ky : IsK X.K H y k) (ag : Agree ns y k) (ry : RelV y u) (hv : fnd ns k = some v)
    (h : ∀ w' s', Inv X pins σ H s' → RelV v w' → Q w' s') : wpAny (model X.prog X.w) A (getItem (.ref a) u) Q E s := by
  rcases ag with ⟨kt, hT⟩ | ⟨⟨t, e1, e2⟩, hS⟩
  · obtain ⟨b, rfl, rfl, hk⟩ := keyT_is I ky kt ry
    obtain ⟨xs, dd, p, hs⟩ := dic_H I D is hT
    have q := rh_find k p
    rw [hv] at q
    cases q0 : atKey xs k with
    | none => rw [q0] at q; exact q.elim
    | some p0 =>
      rw [q0] at q
      exact wpAny_getItem_heap (room1 hu) hk dd q0 (h _ _ (I.tok _) q)
  · subst e1 e2
    obtain ⟨xs, dd, p, hs⟩ := dic_S I D hS
    have q := rs_find t p
    rw [hv] at q
    cases q0 : valueAt xs (.inr t) with
    | none => rw [q0] at q; exact q.elim
    | some p0 =>
      rw [q0] at q
      exact wpAny_getItem_of (kV_is (k := .inr t) ry) dd.mapOf q0 (h _ _ (I.tok _) q)
theorem n_in {Q : Value → Shared → Prop} (hu : A.units + 9 < cLine) (I : Inv X pins σ H s) (D : DicAt X.w H a ns) (is : IsAll X.K H ns) (ky : IsK X.K H y k) (ag : Agree ns y k) (ry : RelV y u)
    (h : ∀ s', Inv X pins σ H s' → Q (.bool (fnd ns k).isSome) s') : wpAny (model X.prog X.w) A (compareOp .In u (.ref a)) Q E s := by
  rcases ag with ⟨kt, hT⟩ | ⟨⟨t, e1, e2⟩, hS⟩
  · obtain ⟨b, rfl, rfl, hk⟩ := keyT_is I ky kt ry
    obtain ⟨xs, dd, p, hs⟩ := dic_H I D is hT
    refine wpAny_in_heap (room1 hu) hk hs dd ?_
    have q := (rh_find k p).isSome_eq
    rw [Option.isSome_map] at q
    rw [← q]
    exact h _ (I.tok _)
  · subst e1 e2
    obtain ⟨xs, dd, p, hs⟩ := dic_S I D hS
    refine wpAny_in_of (kV_is (k := .inr t) ry) hs dd.mapOf ?_
    rw [← (rs_find t p).isSome_eq]
    exact h _ (I.tok _)
theorem n_notIn {Q : Value → Shared → Prop} (hu : A.units + 9 < cLine) (I : Inv X pins σ H s) (D : DicAt X.w H a ns) (is : IsAll X.K H ns) (ky : IsK X.K H y k) (ag : Agree ns y k) (ry : RelV y u)
    (h : ∀ s', Inv X pins σ H s' → Q (.bool (!(fnd ns k).isSome)) s') : wpAny (model X.prog X.w) A (compareOp .NotIn u (.ref a)) Q E s := by
  rcases ag with ⟨kt, hT⟩ | ⟨⟨t, e1, e2⟩, hS⟩
  · obtain ⟨b, rfl, rfl, hk⟩ := keyT_is I ky kt ry
    obtain ⟨xs, dd, p, hs⟩ := dic_H I D is hT
    refine wpAny_notIn_heap (room1 hu) hk hs dd ?_
    have q := (rh_find k p).isSome_eq
    rw [Option.isSome_map] at q
    rw [← q]
    exact h _ (I.tok _)
  · subst e1 e2
    obtain ⟨xs, dd, p, hs⟩ := dic_S I D hS
    refine wpAny_notIn_of (kV_is (k := .inr t) ry) hs dd.mapOf ?_
    rw [← (rs_find t p).isSome_eq]
    exact h _ (I.tok _)
theorem n_get2 {Q : Value → Shared → Prop} (hu : A.units + 9 < cLine) (I : Inv X pins σ H s) (D : DicAt X.w H a ns) (is : IsAll X.K H ns) (ky : IsK X.K H y k) (ag : Agree ns y k) (ry : RelV y u) (rd : RelV d r)
    (h : ∀ w' s', Inv X pins σ H s' → RelV ((fnd ns k).getD d) w' → Q w' s') : wpAny (model X.prog X.w) A (call (.builtin "dict.get") [.ref a, u, r]) Q E s := by
  rcases ag with ⟨kt, hT⟩ | ⟨⟨t, e1, e2⟩, hS⟩
  · obtain ⟨b, rfl, rfl, hk⟩ := keyT_is I ky kt ry
    obtain ⟨xs, dd, p, hs⟩ := dic_H I D is hT
    exact call_meetsIn PySem.F.slot_dict_get dd.typeIs PySem.F.entry_dict_get (PySem.F.args_dict_get_3 _ _ _) (meetsH_dict_get_default _ a b hs r) ⟨room1 hu, k, xs, hk, dd, h _ _ (I.tok _) ((rh_find k p).getD rd)⟩
  · subst e1 e2
    obtain ⟨xs, dd, p, hs⟩ := dic_S I D hS
    exact call_meetsIn PySem.F.slot_dict_get dd.typeIs PySem.F.entry_dict_get (PySem.F.args_dict_get_3 _ _ _) (meets_dict_get_default (mixKind X.prog X.w) a (kV_is (k := .inr t) ry) hs r) ⟨_, dd.mapOf, h _ _ (I.tok _) ((rs_find t p).getD rd)⟩
theorem n_get1 {Q : Value → Shared → Prop} (hu : A.units + 9 < cLine) (I : Inv X pins σ H s) (D : DicAt X.w H a ns) (is : IsAll X.K H ns) (ky : IsK X.K H y k) (ag : Agree ns y k) (ry : RelV y u)
    (h : ∀ w' s', Inv X pins σ H s' → RelV ((fnd ns k).getD .non) w' → Q w' s') : wpAny (model X.prog X.w) A (call (.builtin "dict.get") [.ref a, u]) Q E s := by
  have rn : RelV .non Value.none := rfl
  rcases ag with ⟨kt, hT⟩ | ⟨⟨t, e1, e2⟩, hS⟩
  · obtain ⟨b, rfl, rfl, hk⟩ := keyT_is I ky kt ry
    obtain ⟨xs, dd, p, hs⟩ := dic_H I D is hT
    exact call_meetsIn PySem.F.slot_dict_get dd.typeIs PySem.F.entry_dict_get (PySem.F.args_dict_get_2 _ _) (meetsH_dict_get _ a b hs) ⟨room1 hu, k, xs, hk, dd, h _ _ (I.tok _) ((rh_find k p).getD rn)⟩
  · subst e1 e2
    obtain ⟨xs, dd, p, hs⟩ := dic_S I D hS
    exact call_meetsIn PySem.F.slot_dict_get dd.typeIs PySem.F.entry_dict_get (PySem.F.args_dict_get_2 _ _) (meets_dict_get (mixKind X.prog X.w) a (kV_is (k := .inr t) ry) hs) ⟨_, dd.mapOf, h _ _ (I.tok _) ((rs_find t p).getD rn)⟩
theorem dic_new {P : Program} {w : World} {H' : Hp} {h' : Heap} {es : Array DictEntry} {ep : Nat} (hs : (a == sysModules) = false) (raw : h'.DictRaw a es ep) : ObjOk P w H' h' a (DicO a es ep) := by
  have raw' := raw
  obtain ⟨o, ho, _⟩ := raw'
  exact ⟨⟨hs, raw⟩, ⟨o, ho⟩, fun h1 h2 ⟨p1, p2⟩ k => ⟨p1, p2.at k⟩⟩
theorem n_set {Q : Unit → Shared → Prop} (hu : A.units + 9 < cLine) (I : Inv X pins σ H s) (D : DicAt X.w H a ns) (is : IsAll X.K H ns) (ky : IsK X.K H y k) (ag : Agree ns y k) (ry : RelV y u) (rv : RelV v r)
    (h : ∀ s' es ep, Inv X pins σ (upd H a (DicO a es ep)) s' → Paired (EntR X.w) es.toList (putN ns k y v) → Q () s') : wpAny (model X.prog X.w) A (setItem (.ref a) u r) Q E s := by
  obtain ⟨es0, ep0, e0, _⟩ := D.ex
  have mu : Mut (H a) := by rw [e0]; exact True.intro
  rcases ag with ⟨kt, hT⟩ | ⟨⟨t, e1, e2⟩, hS⟩
  · obtain ⟨b, rfl, rfl, hk⟩ := keyT_is I ky kt ry
    obtain ⟨xs, dd, p, hs⟩ := dic_H I D is hT
    have hz : xs.length ≤ sizeLine := by rw [← rh_len p]; exact D.len
    refine wpAny_setItem_heap (hsz := hz) (room1 hu) hk dd fun h' dd' sb => ?_
    obtain ⟨q, es, ep, hq, h2, h3, h4, _, h5⟩ := dd'
    refine h _ es ep (d_write I mu sb ⟨q, hq⟩ (dic_new hs ⟨q, hq, h2, h3⟩)) ?_
    rw [h4]
    exact n_ofH (rh_put k rv p)
  · subst e1 e2
    obtain ⟨xs, dd, p, hs⟩ := dic_S I D hS
    have hz : xs.length ≤ sizeLine := by rw [← Paired.length p]; exact D.len
    refine wpAny_setItem_pairs (hsz := hz) (kV_is (k := .inr t) ry) dd fun h' dd' sb => ?_
    obtain ⟨q, es, ep, hq, h2, h3, h4, h5, h6⟩ := dd'
    refine h _ es ep (d_write I mu sb ⟨q, hq⟩ (dic_new hs ⟨q, hq, h2, h3⟩)) ?_
    exact n_ofS (fun e he => h4 e (by simpa using he)) h5 (rs_put t rv p)
theorem n_len {Q : Value → Shared → Prop} (I : Inv X pins σ H s) (D : DicAt X.w H a ns) (h : ∀ t s', Inv X pins σ H s' → Q (.int ns.length t) s') : wpAny (model X.prog X.w) A (call (.builtin "len") [.ref a]) Q E s := by
  obtain ⟨es, ep, e, p⟩ := D.ex
  obtain ⟨raw, hs⟩ := dic_raw I e
  have hl : es.size = ns.length := by rw [← Array.length_toList]; exact Paired.length p
  have hz := D.len
  rw [sizeLine_eq] at hz
  refine PyProof.Rows.call_len_slot (n := ns.length) raw.typeIs PySem.F.slot_dict_len (fun Q' hq => call_len_raw hs raw (by rw [hl]; exact hq)) (by omega) (by omega) (h _ _ (I.tok _))
end

/-! ### walks -/
/-- the keys of the dict at a -/
def Itn (a : Addr) (es : Array DictEntry) (ep : Nat) (ns : List Tri) : L2.It :=
  ⟨fun i H => H a = some (DicO a es ep) ∧ i < ns.length, fun i H x H' => H' = H ∧ ∃ n, ns[i]? = some n ∧ x = n.2.1, fun i H => H a = some (DicO a es ep) ∧ ns.length ≤ i⟩
theorem ent_get {w : World} : ∀ {es : List DictEntry} {ns : List Tri} {i : Nat} {n : Tri}, Paired (EntR w) es ns → ns[i]? = some n → ∃ e, es[i]? = some e ∧ EntR w e n
  | _, _, _, _, .nil, h => by simp at h
  | _, _, 0, _, .cons r _, h => by simp at h; subst h; exact ⟨_, rfl, r⟩
  | _, _, i + 1, n, .cons _ t, h => by
    obtain ⟨e, h1, h2⟩ := ent_get (i := i) (n := n) t (by simpa using h)
    exact ⟨e, by simpa using h1, h2⟩
theorem turn_dic {P : Program} {w : World} {K : PySem.W.Frag} {tg : Expr} {a : Addr} {es : Array DictEntry} {ep : Nat} {ns : List Tri} (p : Paired (EntR w) es.toList ns) (it : Addr) :
    Turn P w K tg (Itn a es ep ns) [it] it (fun i h => h.IsKeyIter it a i es.size ep) where
  mem := by simp
  obj := fun i h st b hb => by
    obtain rfl : b = it := by simpa using hb
    obtain ⟨oi, e, c, dd⟩ := st
    exact ⟨oi, e, fun v z => by rw [dd] at z; cases z⟩
  keep := fun i h h' st k => let ⟨oi, e, r⟩ := st; ⟨oi, k it (by simp) oi e, r⟩
  item := by
    rintro X rfl rfl rfl hc i pins s σ H E I hf st ⟨hd, hi⟩
    obtain ⟨f0, f1, f2, f3, f4, f5⟩ := hf it (by simp)
    obtain ⟨raw, hs⟩ := dic_raw I hd
    have hl : es.size = ns.length := by rw [← Array.length_toList]; exact Paired.length p
    refine wpAny_pyNext_keys_item_raw st raw (by omega) fun h' st' sb => ?_
    have I1 : Inv X pins σ H { s with heap := h' } := I.turned (t' := s.toks) (fun b ob hb e => (sb.2 b hb).trans e) f0 f1 f3 f4 f5
    obtain ⟨oi, e, c, dd⟩ := id st'
    obtain ⟨en, h1, h2⟩ := ent_get p (List.getElem?_eq_getElem hi)
    have e1 : es[i] = en := by
      rw [Array.getElem?_toList, Array.getElem?_eq_getElem (by omega)] at h1
      exact Option.some.inj h1
    exact ⟨_, rfl, go_of (s := { s with heap := h' }) e c dd (by decide) ⟨ns[i].2.1, H, I1, by rw [e1]; exact h2.2.1, ⟨rfl, _, List.getElem?_eq_getElem hi, rfl⟩, st', fun b hb => (hf b hb).1⟩⟩
  done := by
    rintro X rfl rfl rfl hc i pins s σ H E I hf st ⟨hd, hi⟩
    obtain ⟨f0, f1, f2, f3, f4, f5⟩ := hf it (by simp)
    obtain ⟨raw, hs⟩ := dic_raw I hd
    have hl : es.size = ns.length := by rw [← Array.length_toList]; exact Paired.length p
    exact wpAny_pyNext_keys_end_raw (I.ok.hd hc) st raw (by omega) fun h' eb => ⟨rfl, I.turned (t' := s.toks) (fun b ob hb e => eb b ob hb e) f0 f1 f3 f4 f5⟩
  self := fun A i s Q E st h => wpAny_pyIter_keyiter st h
end DL
end
section
set_option Elab.async false
set_option linter.all false
set_option maxRecDepth 100000
/-! DL1: the evaluator. Data are PyData; what may still change is a cell of the store. -/
namespace DL
open PySem

abbrev D := PyData
/-- the world, and the tables of code objects -/
class Wd where
  w : World
  T : List (Addr × Str)
inductive Cell where
  | lst (xs : List D) | dic (kvs : List (D × D)) | fz (d : D)
inductive Val where
  | d (x : D) | r (n : Nat)
abbrev Store := List Cell
abbrev Env := List (Option Val)
structure Exn where
  c : Nat
  fs : List D
inductive R (α : Type) where
  | ok (a : α) (m : Store) | ex (x : Exn) (m : Store) | no
def R.bind {α β : Type} : R α → (α → Store → R β) → R β
  | .ok a m, f => f a m
  | .ex x m, _ => .ex x m
  | .no, _ => .no
@[simp] theorem R.bind_ok {α β : Type} (a : α) (m : Store) (f : α → Store → R β) : R.bind (.ok a m) f = f a m := rfl
@[simp] theorem R.bind_ex {α β : Type} (x : Exn) (m : Store) (f : α → Store → R β) : R.bind (.ex x m) f = .ex x m := rfl
@[simp] theorem R.bind_no {α β : Type} (f : α → Store → R β) : R.bind .no f = .no := rfl

def Cell.data : Cell → D
  | .lst xs => .list xs
  | .dic kvs => .dict kvs
  | .fz d => d
/-- what a value holds now -/
def rd (v : Val) (m : Store) : Option D := match v with
  | .d x => some x
  | .r n => (m[n]?).map Cell.data
/-- a value for good: its cell changes no more -/
def fz (v : Val) (m : Store) : R D := match v with
  | .d x => .ok x m
  | .r n => match m[n]? with
    | some c => .ok c.data (m.set n (.fz c.data))
    | none => .no
def rdR (v : Val) (m : Store) : R D := match rd v m with
  | some d => .ok d m
  | none => .no
def new (c : Cell) (m : Store) : R Val := .ok (.r m.length) (m ++ [c])
def ofO {α : Type} (o : Option α) (m : Store) : R α := match o with
  | some a => .ok a m
  | none => .no

inductive Op where
  | add | sub | mul | fdiv | mod | pow
  deriving DecidableEq
inductive Cm where
  | eq | ne | lt | le | gt | ge | isin | notin | is | isnot
  deriving DecidableEq
inductive Bi where
  | len | tuple | list | all | any | sorted | int | str | bool | min | set | dict | sset
  deriving DecidableEq
inductive Ty where
  | tuple | list | int | bool | str
  deriving DecidableEq
inductive Tg where
  | nm (i : Nat) | tp (is : List Nat)

mutual
inductive PX (F : Type) where
  | lit (d : D) | loc (i : Nat) | tup (es : PXs F) | lst (es : PXs F) | dsp (es : PXs F) | fstr (es : PXs F) | tryl (e : PX F)
  | bin (o : Op) (a b : PX F) | neg (a : PX F) | not (a : PX F) | and (a b : PX F) | or (a b : PX F)
  | cmp (c : Cm) (a b : PX F) | chain (c c' : Cm) (a b e : PX F)
  | ite (c a b : PX F) | idx (a i : PX F) | sli (a : PX F) (lo hi : PO F) | rev (a : PX F)
  | call (f : F) (es : PXs F) | blt (b : Bi) (es : PXs F) | isi (e : PX F) (ts : List Ty)
  | app (o e : PX F) | mpop (o : PX F) | mget (o k x : PX F) | midx (o e : PX F) | join (o e : PX F) | split (o e : PX F) | count (o e : PX F)
  | comp (elt : PX F) (t : Tg) (it : It F) (c : PO F) (own : List Nat)
  | comp2 (elt : PX F) (t : Tg) (it : It F) (t2 : Tg) (it2 : It F) (c : PO F) (own own2 : List Nat)
  | dcomp (k v : PX F) (t : Tg) (it : It F) (own : List Nat)
inductive PXs (F : Type) where
  | nil | cons (keep : Bool) (e : PX F) (r : PXs F)
inductive PO (F : Type) where
  | no | so (e : PX F)
inductive It (F : Type) where
  | of (e : PX F) | rng1 (e : PX F) | rng2 (a b : PX F) | rng3 (a b c : PX F) | enum (e : PX F) | zip (a b : PX F)
end
mutual
inductive PS (F : Type) where
  | asg (t : Tg) (e : PX F) | set (o i e : PX F) | par (is : List Nat) (es : PXs F) | aug (i : Nat) (o : Op) (e : PX F)
  | ex (e : PX F) | iff (c : PX F) (a b : PSs F) | for (t : Tg) (it : It F) (b : PSs F) | whl (c : PX F) (b : PSs F)
  | ret (e : PX F) | ret0 | pass | rais (c : Nat) (es : PXs F)
inductive PSs (F : Type) where
  | nil | cons (s : PS F) (r : PSs F)
end

/-! ### the operations, on data -/
def tru : D → Option Bool
  | .none => some false
  | .bool b => some b
  | .int i => some (i != 0)
  | .str x => if x.length ≤ sizeLine then some ((x.length : Int) != 0) else none
  | .list xs => some (!xs.isEmpty)
  | .tuple xs => some (!xs.isEmpty)
  | .dict _ => none

/-- a new value: data at hand, a new tuple, a new list, a new dict -/
inductive Out where
  | at (d : D) | tup (xs : List D) | lst (xs : List D) | dic (kvs : List (D × D))
def put (o : Out) (m : Store) : R Val := match o with
  | .at d => .ok (.d d) m
  | .tup xs => if xs.length ≤ sizeLine then .ok (.d (.tuple xs)) m else .no
  | .lst xs => if xs.length ≤ sizeLine then new (.lst xs) m else .no
  | .dic kvs => if kvs.length ≤ sizeLine then new (.dic kvs) m else .no

def smallI (i : Int) : Bool := decide (-(2 ^ 64) < i) && decide (i < 2 ^ 64)
def opF : Op → D → D → Option Out
  | .add, .int i, .int j => some (.at (.int (i + j)))
  | .add, .str x, .str y => if x.length + y.length ≤ sizeLine then some (.at (.str (x ++ y))) else none
  | .add, .tuple xs, .tuple ys => if xs.length + ys.length ≤ sizeLine then some (.tup (xs ++ ys)) else none
  | .add, .list xs, .list ys => if xs.length + ys.length ≤ sizeLine then some (.lst (xs ++ ys)) else none
  | .sub, .int i, .int j => some (.at (.int (i - j)))
  | .mul, .int i, .int j => if smallI i || smallI j then some (.at (.int (i * j))) else none
  | .mul, .list xs, .int k => if decide (-(2 ^ 63) ≤ k) && decide (k < 2 ^ 63) && decide (xs.length * k.toNat ≤ sizeLine) then some (.lst (List.replicate k.toNat xs).flatten) else none
  | .fdiv, .int i, .int j => if decide (0 < j) && decide (j < 1073741824) then some (.at (.int (i / j))) else none
  | .mod, .int i, .int j => if decide (0 < j) then some (.at (.int (i % j))) else none
  | .pow, .int i, .int j => if decide (0 ≤ j) && decide (j ≤ 1000000) && decide (i.natAbs < 2 ^ 64) then some (.at (.int (i ^ j.toNat))) else none
  | _, _, _ => none

def atom : D → Bool
  | .none => true | .bool _ => true | .int _ => true | .str _ => true
  | _ => false

def eqD (x y : D) : Option Bool := if SeqAt.shaped x && SeqAt.shaped y then some (PyData.eqv x y) else none
mutual
/-- the two can be compared, place by place -/
def near : PyData → PyData → Bool
  | .none, .none => true
  | .bool _, .bool _ => true
  | .bool _, .int _ => true
  | .int _, .bool _ => true
  | .int _, .int _ => true
  | .str _, .str _ => true
  | .list xs, .list ys => nearAll xs ys
  | .tuple xs, .tuple ys => nearAll xs ys
  | _, _ => false
def nearAll : List PyData → List PyData → Bool
  | x :: xs, y :: ys => near x y && nearAll xs ys
  | [], _ => true
  | _ :: _, [] => true
end
def notNone : D → Bool
  | .none => false
  | _ => true
/-- x < y -/
def ltD (x y : D) : Option Bool := if near x y && SeqAt.shaped x && SeqAt.shaped y && notNone x then some (PySem.W.dataLt x y) else none
def tyNo : D → Nat
  | .none => 0 | .bool _ => 1 | .int _ => 2 | .str _ => 3 | .list _ => 4 | .tuple _ => 5 | .dict _ => 6
def firstD : PyData → PyData
  | .tuple (x :: _) => x
  | _ => .none
def isTup1 : D → Bool
  | .tuple (_ :: _) => true
  | _ => false
def isTupD : PyData → Bool
  | .tuple _ => true
  | _ => false
def allSame (f : D → Nat) (xs : List D) : Bool := xs.all fun x => xs.all fun y => f x == f y
def sortOk (xs : List D) : Bool := (xs.all fun x => SeqAt.shaped x) && (xs.all fun x => xs.all fun y => near x y) &&
  ((xs.all isTup1 && allSame (fun x => tyNo (firstD x)) xs) || ((xs.all fun x => notNone x && !isTupD x) && allSame tyNo xs))
def sortD (xs : List D) : List D := xs.mergeSort (PySem.W.dataLe false id)

/-! ### dicts -/
mutual
def nkD : PyData → NestedKey
  | .none => .none
  | .bool b => .num (if b = true then 1 else 0)
  | .int i => .num i
  | .str x => .text x
  | .tuple xs => .tup (nkDs xs)
  | .list _ => .none
  | .dict _ => .none
def nkDs : List PyData → List NestedKey
  | [] => []
  | x :: xs => nkD x :: nkDs xs
end
def keyN : Nat → PyData → Bool
  | 0, x => (match x with | .none => true | .bool _ => true | .int _ => true | .str _ => true | _ => false)
  | n + 1, x => (match x with | .none => true | .bool _ => true | .int _ => true | .str _ => true | .tuple xs => xs.all (keyN n) | _ => false)
def isStrD : PyData → Bool
  | .str _ => true
  | _ => false
def keyT (d : D) : Bool := isTupD d && keyN 8 d
def agree : List (D × D) → D → Bool
  | [], k => keyT k || isStrD k
  | p :: _, k => (keyT k && isTupD p.1) || (isStrD k && isStrD p.1)
def fndD (kvs : List (D × D)) (k : D) : Option D := (kvs.find? fun z => PyData.eqv z.1 k).map (·.2)
def putD (kvs : List (D × D)) (k x : D) : List (D × D) := if (fndD kvs k).isSome then kvs.map (fun z => if PyData.eqv z.1 k then (z.1, x) else z) else kvs ++ [(k, x)]
def dspF : List D → List (D × D) → Option (List (D × D))
  | [], acc => some acc
  | k :: v :: r, acc => if agree acc k then dspF r (putD acc k v) else none
  | _, _ => none
def keysAll (f : D → Bool) : List D → Bool
  | k :: _ :: r => f k && keysAll f r
  | _ => true
def dspOk (xs : List D) : Bool := keysAll keyT xs || keysAll isStrD xs
def pairsF : List D → List (D × D) → Option (List (D × D))
  | [], acc => some acc
  | .tuple [k, v] :: r, acc => if agree acc k then pairsF r (putD acc k v) else none
  | _, _ => none
/-- the first of equal ones stay -/
def nubD : List D → List D
  | [] => []
  | x :: xs => x :: (nubD xs).filter fun y => !PyData.eqv x y

def cmF : Cm → D → D → Option Bool
  | .eq, x, y => eqD x y
  | .ne, x, y => (eqD x y).map not
  | .lt, x, y => ltD x y
  | .le, .int i, .int j => some (decide (i ≤ j))
  | .gt, .int i, .int j => some (decide (j < i))
  | .ge, .int i, .int j => some (decide (j ≤ i))
  | .isin, x, .list ys => if SeqAt.shaped x && SeqAt.shaped (.list ys) then some (ys.any fun z => PyData.eqv z x) else none
  | .isin, x, .tuple ys => if SeqAt.shaped x && SeqAt.shaped (.tuple ys) then some (ys.any fun z => PyData.eqv z x) else none
  | .notin, x, .list ys => if SeqAt.shaped x && SeqAt.shaped (.list ys) then some (!ys.any fun z => PyData.eqv z x) else none
  | .notin, x, .tuple ys => if SeqAt.shaped x && SeqAt.shaped (.tuple ys) then some (!ys.any fun z => PyData.eqv z x) else none
  | .isin, x, .dict kvs => if agree kvs x then some (fndD kvs x).isSome else none
  | .notin, x, .dict kvs => if agree kvs x then some (!(fndD kvs x).isSome) else none
  | .is, x, .none => some (match x with | .none => true | _ => false)
  | .isnot, x, .none => some (match x with | .none => false | _ => true)
  | .is, .bool a, .bool b => some (a == b)
  | .isnot, .bool a, .bool b => some (!(a == b))
  | _, _, _ => none

def ixAt (xs : List D) (i : Int) : Option D := L2.atI xs i
def ixF : D → D → Option D
  | .list xs, .int i => L2.atI xs i
  | .tuple xs, .int i => L2.atI xs i
  | .str z, .int i => if z.length ≤ sizeLine then (L2.atI z.cps.toList i).map fun c => .str ⟨#[c]⟩ else none
  | .dict kvs, k => if agree kvs k then fndD kvs k else none
  | _, _ => none
def cutD (xs : List D) (lo hi : Option Int) : List D := (xs.drop (HT.sIx xs.length 0 lo)).take (HT.sIx xs.length xs.length hi - HT.sIx xs.length 0 lo)
def slF : D → Option Int → Option Int → Option Out
  | .list xs, lo, hi => some (.lst (cutD xs lo hi))
  | .tuple xs, lo, hi => some (.tup (cutD xs lo hi))
  | .str z, lo, hi => if z.length ≤ sizeLine then some (.at (.str (L2.cutS z lo hi))) else none
  | _, _, _ => none
def revF : D → Option Out
  | .list xs => some (.lst xs.reverse)
  | .tuple xs => some (.tup xs.reverse)
  | _ => none
def tyF : Ty → D → Option Bool
  | _, .dict _ => none
  | .tuple, .tuple _ => some true
  | .list, .list _ => some true
  | .int, .int _ => some true
  | .int, .bool _ => some true
  | .bool, .bool _ => some true
  | .str, .str _ => some true
  | _, _ => some false
def boolsOf : List D → Option (List Bool)
  | [] => some []
  | .bool b :: r => (boolsOf r).map (b :: ·)
  | _ => none
def strsOf : List D → Option (List Str)
  | [] => some []
  | .str x :: r => (strsOf r).map (x :: ·)
  | _ => none
def blF : Bi → List D → Option Out
  | .len, [.list xs] => some (.at (.int xs.length))
  | .len, [.tuple xs] => some (.at (.int xs.length))
  | .len, [.str x] => if x.length ≤ sizeLine then some (.at (.int x.length)) else none
  | .len, [.dict kvs] => some (.at (.int kvs.length))
  | .tuple, [.list xs] => some (.tup xs)
  | .tuple, [.tuple xs] => some (.at (.tuple xs))
  | .list, [.list xs] => some (.lst xs)
  | .list, [.tuple xs] => some (.lst xs)
  | .list, [.dict kvs] => some (.lst (kvs.map (·.1)))
  | .all, [.list xs] => (boolsOf xs).map fun bs => .at (.bool (bs.all id))
  | .any, [.list xs] => (boolsOf xs).map fun bs => .at (.bool (bs.any id))
  | .sorted, [.list xs] => if sortOk xs then some (.lst (sortD xs)) else none
  | .sorted, [.dict kvs] => if sortOk (kvs.map (·.1)) then some (.lst (sortD (kvs.map (·.1)))) else none
  | .int, [.int i] => some (.at (.int i))
  | .int, [.bool b] => some (.at (.int (if b then 1 else 0)))
  | .str, [.int i] => if i.natAbs.log2 < 1920 then some (.at (.str (toString i))) else none
  | .str, [.str x] => some (.at (.str x))
  | .bool, [.bool b] => some (.at (.bool b))
  | .min, [.int i, .int j] => some (.at (.int (if j < i then j else i)))
  | _, _ => none

def asInt : D → Option Int
  | .int i => some i
  | _ => none
def rgOk (i : Int) : Bool := decide (-(2 ^ 62) ≤ i) && decide (i < 2 ^ 62)
def rgD (a : Int) (n : Nat) : List D := (List.range n).map fun k => .int (a + (k : Nat))
def rg3 (i j k : Int) : Bool := decide (k ≠ 0) && decide (k.natAbs < 1073741824) && Builtin.Range.small i j k && decide (0 ≤ Builtin.Range.rangeSize i j k)
def rgS (a c : Int) (n : Nat) : List D := (List.range n).map fun k => .int (a + (k : Nat) * c)
def seqOf : D → Option (List D)
  | .list xs => some xs
  | .tuple xs => some xs
  | _ => none
def walkOf : D → Option (List D)
  | .list xs => some xs
  | .tuple xs => some xs
  | .dict kvs => some (kvs.map (·.1))
  | _ => none
def setAll : List Nat → List D → Env → Option Env
  | [], [], ρ => some ρ
  | i :: is, x :: xs, ρ => setAll is xs (ρ.set i (some (.d x)))
  | _, _, _ => none
/-- a target that gets data -/
def asgD (t : Tg) (x : D) (ρ : Env) : Option Env := match t with
  | .nm i => some (ρ.set i (some (.d x)))
  | .tp is => match x with
    | .tuple xs => setAll is xs ρ
    | _ => none
def wipeE (ρ : Env) : List Nat → Env
  | [] => ρ
  | v :: vs => (wipeE ρ vs).set v none
def allD : List Val → Option (List D)
  | [] => some []
  | .d x :: r => (allD r).map (x :: ·)
  | _ => none
def rdAll (m : Store) : List Val → Option (List D)
  | [] => some []
  | v :: r => match rd v m, rdAll m r with
    | some x, some xs => some (x :: xs)
    | _, _ => none

/-- the turns of a comprehension: what was made so far, a turn's item or none -/
def compLoop (f : D → Store → R (Option D)) : List D → List D → Store → R (List D)
  | [], acc, m => .ok acc m
  | x :: xs, acc, m => (f x m).bind fun o m1 => match o with
    | some y => compLoop f xs (acc ++ [y]) m1
    | none => compLoop f xs acc m1
def flatLoop (f : D → Store → R (List D)) : List D → List D → Store → R (List D)
  | [], acc, m => .ok acc m
  | x :: xs, acc, m => (f x m).bind fun ys m1 => flatLoop f xs (acc ++ ys) m1
/-- the turns of a for loop -/
inductive Fl where
  | nx (ρ : Env) | rt (v : Val)
def forLoop (f : D → Env → Store → R Fl) : List D → Env → Store → R Fl
  | [], ρ, m => .ok (.nx ρ) m
  | x :: xs, ρ, m => (f x ρ m).bind fun o m1 => match o with
    | .nx ρ1 => forLoop f xs ρ1 m1
    | .rt v => .ok (.rt v) m1
def whileLoop (c : Env → Store → R Bool) (f : Env → Store → R Fl) : Nat → Env → Store → R Fl
  | 0, _, _ => .no
  | n + 1, ρ, m => (c ρ m).bind fun b m1 => if b then (f ρ m1).bind fun o m2 => match o with
      | .nx ρ1 => whileLoop c f n ρ1 m2
      | .rt v => .ok (.rt v) m2
    else .ok (.nx ρ) m1
def put1 (m : Store) (n : Nat) (c : Cell) : Store := m.set n c
def opR (o : Op) (v w : Val) (m : Store) : R Val := match rd v m, rd w m with
  | some x, some y => match opF o x y with
    | some z => put z m
    | none => .no
  | _, _ => .no
def cmR (c : Cm) (v w : Val) (m : Store) : R Val := match rd v m, rd w m with
  | some x, some y => match cmF c x y with
    | some b => .ok (.d (.bool b)) m
    | none => .no
  | _, _ => .no
def truR (v : Val) (m : Store) : R Bool := match rd v m with
  | some x => match tru x with
    | some b => .ok b m
    | none => .no
  | none => .no
def partI (v : Val) (m : Store) : R (Option Int) := match rd v m with
  | some (.int i) => .ok (some i) m
  | _ => .no
def setAt (v i : Val) (x : D) (m : Store) : R Unit := match v, rd i m with
  | .r n, some (.int k) => match m[n]? with
    | some (.lst xs) => match L2.ixN xs.length k with
      | some j => .ok () (m.set n (.lst (xs.set j x)))
      | none => .no
    | _ => .no
  | _, _ => .no
/-- d[k] = x -/
def setDic (n : Nat) (i : Val) (x : D) (m : Store) : R Unit := match m[n]? with
  | some (.dic kvs) => match i with
    | .d k => if agree kvs k && decide (kvs.length < sizeLine) then .ok () (m.set n (.dic (putD kvs k x))) else .no
    | _ => .no
  | _ => .no
def isDic (v : Val) (m : Store) : Bool := match rd v m with
  | some (.dict _) => true
  | _ => false
def isDicR : Val → Store → Option Nat
  | .r n, m => (match m[n]? with
    | some (.dic _) => some n
    | _ => none)
  | _, _ => none
def setAny (v i : Val) (x : D) (m : Store) : R Unit := match isDicR v m with
  | some n => setDic n i x m
  | none => setAt v i x m
def isLst (v : Val) (m : Store) : Bool := match rd v m with
  | some (.list _) => true
  | _ => false
/-- no exception -/
def R.calm {α : Type} : R α → R α
  | .ok a m => .ok a m
  | _ => .no
def app1 (v : Val) (x : D) (m : Store) : R Val := match v with
  | .r n => match m[n]? with
    | some (.lst xs) => if xs.length < sizeLine then .ok (.d .none) (m.set n (.lst (xs ++ [x]))) else .no
    | _ => .no
  | _ => .no
def pop1 (v : Val) (m : Store) : R Val := match v with
  | .r n => match m[n]? with
    | some (.lst xs) => match xs[xs.length - 1]? with
      | some y => .ok (.d y) (m.set n (.lst xs.dropLast))
      | none => .no
    | _ => .no
  | _ => .no
/-- a op= b at a name -/
def augR (o : Op) (v w : Val) (m : Store) : R Val := match o, v with
  | .add, .r n => match m[n]?, rd w m with
    | some (.lst xs), some (.list ys) => if xs.length + ys.length ≤ sizeLine then .ok (.r n) (m.set n (.lst (xs ++ ys))) else .no
    | _, _ => .no
  | .add, .d (.int i) => match rd w m with
    | some (.int j) => .ok (.d (.int (i + j))) m
    | _ => .no
  | _, _ => .no
def isiF (ts : List Ty) (x : D) : Option Bool := match ts with
  | [] => match x with
    | .dict _ => none
    | _ => some false
  | t :: r => match tyF t x with
    | some true => some true
    | some false => isiF r x
    | none => none
def joinF : D → D → Option Str
  | .str sep, .list xs => match strsOf xs with
    | some ys => if (ys.map (·.length)).sum + ys.length * sep.length ≤ 16777216 then some (Txt.join sep ys) else none
    | none => none
  | _, _ => none
def splitF : D → D → Option (List Str)
  | .str a, .str b => if (b.length == 0) = false && decide (a.length + 2 ≤ sizeLine) then some (Txt.split a b) else none
  | _, _ => none
def partS : D → Option Str
  | .str x => some x
  | .int i => if i.natAbs.log2 < 1920 then some (toString i) else none
  | _ => none
def fstrF : List D → Option Str
  | [] => some ⟨#[]⟩
  | d :: r => match partS d, fstrF r with
    | some x, some y => if x.length + y.length ≤ 1000000 then some (x ++ y) else none
    | _, _ => none
/-- the classes of an error, told -/
def kinS : Nat → Option Str
  | 1 => some (Str.ofString "house +") | 2 => some (Str.ofString "history +") | 3 => some (Str.ofString "door +") | 4 => some (Str.ofString "habit +") | 5 => some (Str.ofString "harm +") | 6 => some (Str.ofString "sight +")
  | 7 => some (Str.ofString "part +") | 8 => some (Str.ofString "number +") | 9 => some (Str.ofString "impossible +") | 10 => some (Str.ofString "unlike +") | 11 => some (Str.ofString "undo +") | 12 => some (Str.ofString "many +") | 13 => some (Str.ofString "text +")
  | _ => none
def told (x : Exn) : Option D := match kinS x.c with
  | some k => if x.c = 12 ∨ x.c = 13 then (match x.fs with
      | [y] => some (.tuple [.str k, y])
      | _ => none) else some (.str k)
  | none => none
def firstIx (xs : List D) (x : D) : Option Nat := xs.findIdx? fun z => PyData.eqv z x

section
variable {F : Type} (Φ : F → List Val → Store → R Val) (L : Nat)
mutual
def ev : PX F → Env → Store → R Val
  | .lit x, _, m => .ok (.d x) m
  | .loc i, ρ, m => match ρ[i]? with
    | some (some v) => .ok v m
    | _ => .no
  | .tup es, ρ, m => (evs es ρ m).bind fun vs m1 => match allD vs with
    | some xs => put (.tup xs) m1
    | none => .no
  | .lst es, ρ, m => (evs es ρ m).bind fun vs m1 => match allD vs with
    | some xs => put (.lst xs) m1
    | none => .no
  | .dsp es, ρ, m => (evs es ρ m).bind fun vs m1 => match allD vs with
    | some xs => match dspF xs [] with
      | some kvs => if dspOk xs then put (.dic kvs) m1 else .no
      | none => .no
    | none => .no
  | .fstr es, ρ, m => (evs es ρ m).bind fun vs m1 => match allD vs with
    | some xs => match fstrF xs with
      | some x => .ok (.d (.str x)) m1
      | none => .no
    | none => .no
  | .tryl e, ρ, m => match (ev e ρ m).bind fun v m1 => fz v m1 with
    | .ok x m1 => .ok (.d (.tuple [.str (Str.ofString "told"), x])) m1
    | .ex x m1 => ofO ((told x).map Val.d) m1
    | .no => .no
  | .bin o a b, ρ, m => (ev a ρ m).bind fun v m1 => (ev b ρ m1).bind fun w m2 => opR o v w m2
  | .neg a, ρ, m => (ev a ρ m).bind fun v m1 => match rd v m1 with
    | some (.int i) => .ok (.d (.int (-i))) m1
    | _ => .no
  | .not a, ρ, m => ((ev a ρ m).bind truR).bind fun b m1 => .ok (.d (.bool (!b))) m1
  | .and a b, ρ, m => (ev a ρ m).bind fun v m1 => (truR v m1).bind fun t m2 => if t then ev b ρ m2 else .ok v m2
  | .or a b, ρ, m => (ev a ρ m).bind fun v m1 => (truR v m1).bind fun t m2 => if t then .ok v m2 else ev b ρ m2
  | .cmp c a b, ρ, m => (ev a ρ m).bind fun v m1 => (ev b ρ m1).bind fun w m2 => cmR c v w m2
  | .chain c c' a b e, ρ, m => (ev a ρ m).bind fun v m1 => (ev b ρ m1).bind fun w m2 => (cmR c v w m2).bind fun t m3 => match t with
    | .d (.bool true) => (ev e ρ m3).bind fun u m4 => cmR c' w u m4
    | .d (.bool false) => .ok t m3
    | _ => .no
  | .ite c a b, ρ, m => ((ev c ρ m).bind truR).bind fun t m1 => if t then ev a ρ m1 else ev b ρ m1
  | .idx a i, ρ, m => (ev a ρ m).bind fun v m1 => (ev i ρ m1).bind fun w m2 => match rd v m2, rd w m2 with
    | some x, some y => match ixF x y with
      | some z => .ok (.d z) m2
      | none => .no
    | _, _ => .no
  | .sli a lo hi, ρ, m => (ev a ρ m).bind fun v m1 => (evO lo ρ m1).bind fun l m2 => (evO hi ρ m2).bind fun h m3 => match rd v m3 with
    | some x => match slF x l h with
      | some z => put z m3
      | none => .no
    | none => .no
  | .rev a, ρ, m => (ev a ρ m).bind fun v m1 => match rd v m1 with
    | some x => match revF x with
      | some z => put z m1
      | none => .no
    | none => .no
  | .call f es, ρ, m => (evs es ρ m).bind fun vs m1 => Φ f vs m1
  | .blt b es, ρ, m => (evs es ρ m).bind fun vs m1 => match rdAll m1 vs with
    | some xs => match blF b xs with
      | some z => put z m1
      | none => .no
    | none => .no
  | .isi e ts, ρ, m => (ev e ρ m).bind fun v m1 => match rd v m1 with
    | some x => match isiF ts x with
      | some b => .ok (.d (.bool b)) m1
      | none => .no
    | none => .no
  | .app o e, ρ, m => (ev o ρ m).bind fun v m1 => if isLst v m1 then (ev e ρ m1).bind fun w m2 => (fz w m2).bind fun x m3 => app1 v x m3 else .no
  | .mpop o, ρ, m => (ev o ρ m).bind fun v m1 => pop1 v m1
  | .mget o k x, ρ, m => (ev o ρ m).bind fun v m1 => if isDic v m1 then (ev k ρ m1).bind fun w m2 => (fz w m2).bind fun y m3 => (ev x ρ m3).bind fun u m4 => (fz u m4).bind fun z m5 => match rd v m5 with
    | some (.dict kvs) => if agree kvs y then .ok (.d ((fndD kvs y).getD z)) m5 else .no
    | _ => .no
    else .no
  | .midx o e, ρ, m => (ev o ρ m).bind fun v m1 => match v with
    | .d (.str a) => (ev e ρ m1).bind fun w m2 => match rd w m2 with
      | some (.str b) => (match Builtin.Str.occurrences a b 0 a.length 1 with
        | i :: _ => .ok (.d (.int (i : Nat))) m2
        | [] => .no)
      | _ => .no
    | _ => .no
  | .join o e, ρ, m => (ev o ρ m).bind fun v m1 => match v with
    | .d (.str a) => (ev e ρ m1).bind fun w m2 => match rd w m2 with
      | some y => match joinF (.str a) y with
        | some z => .ok (.d (.str z)) m2
        | none => .no
      | none => .no
    | _ => .no
  | .split o e, ρ, m => (ev o ρ m).bind fun v m1 => match v with
    | .d (.str a) => (ev e ρ m1).bind fun w m2 => match rd w m2 with
      | some y => match splitF (.str a) y with
        | some zs => put (.lst (zs.map .str)) m2
        | none => .no
      | none => .no
    | _ => .no
  | .count _ _, _, _ => .no
  | .comp elt t it c own, ρ, m => (evI it ρ m).bind fun xs m1 =>
      (R.calm (compLoop (fun x m2 => match asgD t x (wipeE ρ own) with
        | some ρ1 => (evC c ρ1 m2).bind fun b m3 => if b then (ev elt ρ1 m3).bind fun v m4 => (fz v m4).bind fun y m5 => .ok (some y) m5 else .ok none m3
        | none => .no) xs [] m1)).bind fun ys m6 => put (.lst ys) m6
  | .comp2 elt t it t2 it2 c own own2, ρ, m => (evI it ρ m).bind fun xs m1 =>
      (R.calm (flatLoop (fun x m2 => match asgD t x (wipeE ρ own) with
        | some ρ1 => (evI it2 ρ1 m2).bind fun ys m3 => compLoop (fun y m4 => match asgD t2 y (wipeE ρ1 own2) with
          | some ρ2 => (evC c ρ2 m4).bind fun b m5 => if b then (ev elt ρ2 m5).bind fun v m6 => (fz v m6).bind fun z m7 => .ok (some z) m7 else .ok none m5
          | none => .no) ys [] m3
        | none => .no) xs [] m1)).bind fun ys m6 => put (.lst ys) m6
  | .dcomp k v t it own, ρ, m => (evI it ρ m).bind fun xs m1 =>
      (R.calm (compLoop (fun x m2 => match asgD t x (wipeE ρ own) with
        | some ρ1 => (ev k ρ1 m2).bind fun v1 m4 => (fz v1 m4).bind fun y m5 => (ev v ρ1 m5).bind fun v2 m6 => (fz v2 m6).bind fun z m7 => .ok (some (.tuple [y, z])) m7
        | none => .no) xs [] m1)).bind fun ys m6 => match pairsF ys [] with
      | some kvs => put (.dic kvs) m6
      | none => .no
def evs : PXs F → Env → Store → R (List Val)
  | .nil, _, m => .ok [] m
  | .cons k e r, ρ, m => (ev e ρ m).bind fun v m1 => (if k then .ok v m1 else (fz v m1).bind fun x m2 => .ok (.d x) m2).bind fun w m3 => (evs r ρ m3).bind fun ws m4 => .ok (w :: ws) m4
def evO : PO F → Env → Store → R (Option Int)
  | .no, _, m => .ok none m
  | .so e, ρ, m => (ev e ρ m).bind fun v m1 => partI v m1
def evC : PO F → Env → Store → R Bool
  | .no, _, m => .ok true m
  | .so e, ρ, m => (ev e ρ m).bind truR
def evI : It F → Env → Store → R (List D)
  | .of e, ρ, m => (ev e ρ m).bind fun v m1 => (fz v m1).bind fun x m2 => ofO (walkOf x) m2
  | .rng1 e, ρ, m => (ev e ρ m).bind fun v m1 => match rd v m1 with
    | some (.int j) => if rgOk j then .ok (rgD 0 j.toNat) m1 else .no
    | _ => .no
  | .rng2 a b, ρ, m => (ev a ρ m).bind fun v m1 => (ev b ρ m1).bind fun w m2 => match rd v m2, rd w m2 with
    | some (.int i), some (.int j) => if rgOk i && rgOk j then .ok (rgD i (j - i).toNat) m2 else .no
    | _, _ => .no
  | .rng3 a b c, ρ, m => (ev a ρ m).bind fun v m1 => (ev b ρ m1).bind fun w m2 => (ev c ρ m2).bind fun u m3 => match rd v m3, rd w m3, rd u m3 with
    | some (.int i), some (.int j), some (.int k) => if rg3 i j k then .ok (rgS i k (Builtin.Range.rangeSize i j k).toNat) m3 else .no
    | _, _, _ => .no
  | .enum e, ρ, m => (ev e ρ m).bind fun v m1 => (fz v m1).bind fun x m2 => match seqOf x with
    | some xs => .ok ((List.range xs.length).zipWith (fun k y => .tuple [.int (k : Nat), y]) xs) m2
    | none => .no
  | .zip a b, ρ, m => (ev a ρ m).bind fun v m1 => (fz v m1).bind fun x m2 => (ev b ρ m2).bind fun w m3 => (fz w m3).bind fun y m4 => match seqOf x, seqOf y with
    | some xs, some ys => if isTupD x == isTupD y then .ok (xs.zipWith (fun a b => .tuple [a, b]) ys) m4 else .no
    | _, _ => .no
end
abbrev evT (e : PX F) (ρ : Env) (m : Store) : R Bool := (ev Φ e ρ m).bind truR
mutual
def evS : PS F → Env → Store → R Fl
  | .asg t e, ρ, m => (ev Φ e ρ m).bind fun v m1 => match t with
    | .nm i => .ok (.nx (ρ.set i (some v))) m1
    | .tp is => match rd v m1 with
      | some x => match asgD (.tp is) x ρ with
        | some ρ1 => .ok (.nx ρ1) m1
        | none => .no
      | none => .no
  | .set o i e, ρ, m => (ev Φ e ρ m).bind fun v m1 => (fz v m1).bind fun x m2 => (ev Φ o ρ m2).bind fun w m3 => (ev Φ i ρ m3).bind fun k m4 => (setAny w k x m4).bind fun _ m5 => .ok (.nx ρ) m5
  | .par is es, ρ, m => (evs Φ es ρ m).bind fun vs m1 => match is, vs with
    | [i, j], [v, w] => .ok (.nx ((ρ.set i (some v)).set j (some w))) m1
    | [i, j, k], [v, w, u] => .ok (.nx (((ρ.set i (some v)).set j (some w)).set k (some u))) m1
    | _, _ => .no
  | .aug i o e, ρ, m => match ρ[i]? with
    | some (some v) => (ev Φ e ρ m).bind fun w m1 => (augR o v w m1).bind fun u m2 => .ok (.nx (ρ.set i (some u))) m2
    | _ => .no
  | .ex e, ρ, m => (ev Φ e ρ m).bind fun _ m1 => .ok (.nx ρ) m1
  | .iff c a b, ρ, m => (evT Φ c ρ m).bind fun t m1 => if t then evSs a ρ m1 else evSs b ρ m1
  | .for t it b, ρ, m => (evI Φ it ρ m).bind fun xs m1 => forLoop (fun x ρ1 m2 => match asgD t x ρ1 with
    | some ρ2 => evSs b ρ2 m2
    | none => .no) xs ρ m1
  | .whl c b, ρ, m => whileLoop (fun ρ1 m1 => evT Φ c ρ1 m1) (fun ρ1 m1 => evSs b ρ1 m1) L ρ m
  | .ret e, ρ, m => (ev Φ e ρ m).bind fun v m1 => .ok (.rt v) m1
  | .ret0, _, m => .ok (.rt (.d .none)) m
  | .pass, ρ, m => .ok (.nx ρ) m
  | .rais c es, ρ, m => if c = 0 then .no else (evs Φ es ρ m).bind fun vs m1 => match allD vs with
    | some xs => .ex ⟨c, xs⟩ m1
    | none => .no
def evSs : PSs F → Env → Store → R Fl
  | .nil, ρ, m => .ok (.nx ρ) m
  | .cons s r, ρ, m => (evS s ρ m).bind fun o m1 => match o with
    | .nx ρ1 => evSs r ρ1 m1
    | .rt v => .ok (.rt v) m1
end
end

/-! ### defs -/
structure Fn (F : Type) where
  ps : Nat
  ns : Nat
  body : PSs F
def leave (n : Nat) (v : Val) (m : Store) : R Val := match v with
  | .d x => .ok (.d x) (m.take n)
  | .r k => if k < n then .ok (.r k) (m.take n) else match m[k]? with
    | some (.fz x) => .ok (.d x) (m.take n)
    | some c => .ok (.r n) (m.take n ++ [c])
    | none => .no
def evFn {F : Type} (Φ : F → List Val → Store → R Val) (L : Nat) (f : Fn F) (vs : List Val) (m : Store) : R Val :=
  if vs.length = f.ps then
    match evSs (F := F) Φ L f.body (vs.map some ++ List.replicate (f.ns - f.ps) none) m with
    | .ok (.nx _) m1 => .ok (.d .none) (m1.take m.length)
    | .ok (.rt v) m1 => leave m.length v m1
    | .ex x m1 => .ex x (m1.take m.length)
    | .no => .no
  else .no
def callF {F : Type} (tab : F → Fn F) (L : Nat) : Nat → F → List Val → Store → R Val
  | 0, _, _, _ => .no
  | n + 1, f, vs, m => evFn (callF tab L n) L (tab f) vs m
end DL
end
section
set_option Elab.async false
set_option linter.all false
set_option maxRecDepth 100000
set_option autoImplicit false
/-! DL2: how the evaluator's values and store stand in the abstract heap; what is wanted behind an answer. -/
namespace DL
open PySem L2
variable [Wd]

def Cell.isFz : Cell → Bool
  | .fz _ => true
  | _ => false
/-- the cells that may still change -/
structure Ix where
  l : List Addr
  x : List Addr
def Ix.add (ι : Ix) (p : Addr) : Ix := ⟨ι.l ++ [p], ι.x⟩
def Live (ι : Ix) (m : Store) (a : Addr) : Prop := (∃ (n : Nat) (c : Cell), ι.l[n]? = some a ∧ m[n]? = some c ∧ c.isFz = false) ∨ a ∈ ι.x

/-- a list of the written part -/
def KL (K : PySem.W.Frag) (a : Addr) (xs : List V) : Prop := ∃ (o : Obj) (its : Array Value) (n : Nat), K.lookup a = some o ∧ o.cls = .type "list" ∧ o.dict = none ∧ o.data = .seq its n ∧ its.size ≤ sizeLine ∧ Vals xs its.toList
/-- all keys are tuples, or all are texts -/
def KdD (kvs : List (D × D)) : Prop := (∀ p ∈ kvs, keyT p.1 = true) ∨ ∀ p ∈ kvs, isStrD p.1 = true
/-- not a table of code objects -/
def NT (o : HO) : Prop := ∀ ps, o ≠ .tbl ps
theorem NT.lst {xs : List V} : NT (.lst xs) := fun _ h => nomatch h
theorem NT.dic {a : Addr} {es : Array DictEntry} {ep : Nat} : NT (DicO a es ep) := fun _ h => nomatch h
mutual
inductive Rep (K : PySem.W.Frag) (H : Hp) (Lv : Addr → Prop) : V → D → Prop
  | non : Rep K H Lv .non .none
  | bl (b : Bool) : Rep K H Lv (.bl b) (.bool b)
  | int (i : Int) : Rep K H Lv (.int i) (.int i)
  | str (x : Str) : Rep K H Lv (.str x) (.str x)
  | lst {a : Addr} {vs : List V} {ds : List D} : (Rd H a (.lst vs) ∧ ¬ Lv a) ∨ KL K a vs → RepAll K H Lv vs ds → Rep K H Lv (.ref a) (.list ds)
  | tup {a : Addr} {vs : List V} {ds : List D} : SqT K H a vs → RepAll K H Lv vs ds → Rep K H Lv (.ref a) (.tuple ds)
  | dic {a : Addr} {ns : List Tri} {kvs : List (D × D)} : DicAt Wd.w H a ns → ¬ Lv a → ns.map (·.1) = kvs.map (fun p => nkD p.1) → KdD kvs → RepAll K H Lv (ns.map (·.2.1)) (kvs.map (·.1)) → RepAll K H Lv (ns.map (·.2.2)) (kvs.map (·.2)) → Rep K H Lv (.ref a) (.dict kvs)
inductive RepAll (K : PySem.W.Frag) (H : Hp) (Lv : Addr → Prop) : List V → List D → Prop
  | nil : RepAll K H Lv [] []
  | cons {v : V} {vs : List V} {d : D} {ds : List D} : Rep K H Lv v d → RepAll K H Lv vs ds → RepAll K H Lv (v :: vs) (d :: ds)
end

/-- what is kept from one state to a later one -/
structure Le (ι : Ix) (m : Store) (H : Hp) (ι' : Ix) (m' : Store) (H' : Hp) : Prop where
  pre : ∃ l, ι'.l = ι.l ++ l
  ex : ∀ a ∈ ι.x, a ∈ ι'.x
  exk : ∀ a ∈ ι.x, H' a = H a
  keep : ∀ b o, H b = some o → NT o → ¬ Live ι m b → H' b = some o ∧ ¬ Live ι' m' b
  tups : ∀ b xs, H b = some (.tup xs) → H' b = some (.tup xs)
  frzs : ∀ b o u, H b = some (.frz o u) → H' b = some (.frz o u)
section
variable {ι ι1 ι' : Ix} {m m1 m' : Store} {H H1 H' : Hp}
theorem Le.refl : Le ι m H ι m H := ⟨⟨[], by simp⟩, fun _ h => h, fun _ _ => rfl, fun _ _ h _ l => ⟨h, l⟩, fun _ _ h => h, fun _ _ _ h => h⟩
theorem Le.trans (a : Le ι m H ι1 m1 H1) (b : Le ι1 m1 H1 ι' m' H') : Le ι m H ι' m' H' := by
  obtain ⟨l, e⟩ := a.pre
  obtain ⟨l', e'⟩ := b.pre
  exact ⟨⟨l ++ l', by rw [e', e, List.append_assoc]⟩, fun c hc => b.ex c (a.ex c hc), fun c hc => (b.exk c (a.ex c hc)).trans (a.exk c hc), fun c o h nt l => let ⟨h1, l1⟩ := a.keep c o h nt l; b.keep c o h1 nt l1, fun c xs h => b.tups c xs (a.tups c xs h), fun c o u h => b.frzs c o u (a.frzs c o u h)⟩
theorem Le.at (a : Le ι m H ι' m' H') {n : Nat} {x : Addr} (h : ι.l[n]? = some x) : ι'.l[n]? = some x := by
  obtain ⟨l, e⟩ := a.pre
  rw [e, List.getElem?_append_left (List.getElem?_eq_some_iff.mp h).1]
  exact h
end

section
variable {K : PySem.W.Frag} {H H' : Hp} {Lv Lv' : Addr → Prop}
/-- tuples and what is not live stay -/
structure Up (H H' : Hp) (Lv Lv' : Addr → Prop) : Prop where
  keep : ∀ b o, H b = some o → NT o → ¬ Lv b → H' b = some o ∧ ¬ Lv' b
  tups : ∀ b xs, H b = some (.tup xs) → H' b = some (.tup xs)
  frzs : ∀ b o u, H b = some (.frz o u) → H' b = some (.frz o u)
theorem Up.dicAt (u : Up H H' Lv Lv') {a : Addr} {ns : List Tri} (h : DicAt Wd.w H a ns) (l : ¬ Lv a) : DicAt Wd.w H' a ns ∧ ¬ Lv' a := by
  obtain ⟨⟨es, ep, e, p⟩, h2, h3, h4⟩ := h
  obtain ⟨h1, l1⟩ := u.keep _ _ e .dic l
  exact ⟨⟨⟨es, ep, h1, p⟩, h2, h3, h4⟩, l1⟩
theorem Up.sqT (u : Up H H' Lv Lv') {a : Addr} {xs : List V} (h : SqT K H a xs) : SqT K H' a xs := by
  rcases h with (h | ⟨o, h⟩) | h
  · exact .inl (.inl (u.tups _ _ h))
  · exact .inl (.inr ⟨o, u.frzs _ _ _ h⟩)
  · exact .inr h
mutual
theorem Rep.up (u : Up H H' Lv Lv') : ∀ {v : V} {d : D}, Rep K H Lv v d → Rep K H' Lv' v d
  | _, _, .non => .non
  | _, _, .bl b => .bl b
  | _, _, .int i => .int i
  | _, _, .str x => .str x
  | _, _, .lst h r => .lst (by
      rcases h with ⟨h | ⟨o, h⟩, l⟩ | h
      · obtain ⟨h1, l1⟩ := u.keep _ _ h .lst l
        exact .inl ⟨.inl h1, l1⟩
      · obtain ⟨h1, l1⟩ := u.keep _ _ h (fun _ h => nomatch h) l
        exact .inl ⟨.inr ⟨o, h1⟩, l1⟩
      · exact .inr h) (RepAll.up u r)
  | _, _, .tup h r => .tup (u.sqT h) (RepAll.up u r)
  | _, _, .dic h l e k r1 r2 => .dic (u.dicAt h l).1 (u.dicAt h l).2 e k (RepAll.up u r1) (RepAll.up u r2)
theorem RepAll.up (u : Up H H' Lv Lv') : ∀ {vs : List V} {ds : List D}, RepAll K H Lv vs ds → RepAll K H' Lv' vs ds
  | _, _, .nil => .nil
  | _, _, .cons a b => .cons (Rep.up u a) (RepAll.up u b)
end
theorem Le.up {ι ι' : Ix} {m m' : Store} (a : Le ι m H ι' m' H') : Up H H' (Live ι m) (Live ι' m') := ⟨a.keep, a.tups, a.frzs⟩
theorem RepAll.length : ∀ {vs : List V} {ds : List D}, RepAll K H Lv vs ds → vs.length = ds.length
  | _, _, .nil => rfl
  | _, _, .cons _ b => by rw [List.length_cons, List.length_cons, RepAll.length b]
theorem RepAll.app : ∀ {vs ws : List V} {ds es : List D}, RepAll K H Lv vs ds → RepAll K H Lv ws es → RepAll K H Lv (vs ++ ws) (ds ++ es)
  | _, _, _, _, .nil, b => b
  | _, _, _, _, .cons a t, b => .cons a (RepAll.app t b)
theorem RepAll.get : ∀ {vs : List V} {ds : List D} {i : Nat} {d : D}, RepAll K H Lv vs ds → ds[i]? = some d → ∃ v, vs[i]? = some v ∧ Rep K H Lv v d
  | _, _, _, _, .nil, h => by simp at h
  | _, _, 0, _, .cons a _, h => by simp at h; subst h; exact ⟨_, rfl, a⟩
  | _, _, i + 1, d, .cons _ t, h => by
    obtain ⟨v, h1, h2⟩ := RepAll.get (i := i) (d := d) t (by simpa using h)
    exact ⟨v, by simpa using h1, h2⟩
theorem RepAll.getV : ∀ {vs : List V} {ds : List D} {i : Nat} {v : V}, RepAll K H Lv vs ds → vs[i]? = some v → ∃ d, ds[i]? = some d ∧ Rep K H Lv v d
  | _, _, _, _, .nil, h => by simp at h
  | _, _, 0, _, .cons a _, h => by simp at h; subst h; exact ⟨_, rfl, a⟩
  | _, _, i + 1, d, .cons _ t, h => by
    obtain ⟨v, h1, h2⟩ := RepAll.getV (i := i) (v := d) t (by simpa using h)
    exact ⟨v, by simpa using h1, h2⟩
theorem RepAll.take : ∀ {vs : List V} {ds : List D} (n : Nat), RepAll K H Lv vs ds → RepAll K H Lv (vs.take n) (ds.take n)
  | _, _, 0, _ => .nil
  | _, _, _ + 1, .nil => .nil
  | _, _, n + 1, .cons a t => .cons a (RepAll.take n t)
theorem RepAll.drop : ∀ {vs : List V} {ds : List D} (n : Nat), RepAll K H Lv vs ds → RepAll K H Lv (vs.drop n) (ds.drop n)
  | _, _, 0, r => r
  | _, _, _ + 1, .nil => .nil
  | _, _, n + 1, .cons _ t => RepAll.drop n t
theorem RepAll.set {v : V} {d : D} (r : Rep K H Lv v d) : ∀ {vs : List V} {ds : List D} (n : Nat), RepAll K H Lv vs ds → RepAll K H Lv (vs.set n v) (ds.set n d)
  | _, _, _, .nil => .nil
  | _, _, 0, .cons _ t => .cons r t
  | _, _, n + 1, .cons a t => .cons a (RepAll.set r n t)
theorem RepAll.rev {vs : List V} {ds : List D} (r : RepAll K H Lv vs ds) : RepAll K H Lv vs.reverse ds.reverse := by
  induction vs generalizing ds with
  | nil => cases r; exact .nil
  | cons v vs ih =>
    cases r with
    | cons a t =>
      rw [List.reverse_cons, List.reverse_cons]
      exact RepAll.app (ih t) (.cons a .nil)
theorem RepAll.flat {vs : List V} {ds : List D} (r : RepAll K H Lv vs ds) : ∀ n : Nat, RepAll K H Lv (List.replicate n vs).flatten (List.replicate n ds).flatten
  | 0 => .nil
  | n + 1 => by
    rw [List.replicate_succ, List.replicate_succ, List.flatten_cons, List.flatten_cons]
    exact RepAll.app r (RepAll.flat r n)
theorem sq_of {a : Addr} {vs : List V} (h : (Rd H a (.lst vs) ∧ ¬ Lv a) ∨ KL K a vs) : SqL K H a vs := h.imp (·.1) id
mutual
theorem Rep.dp : ∀ {v : V} {d : D}, Rep K H Lv v d → d.canLay0 = true → Dp K H v d
  | _, _, .non, _ => .non
  | _, _, .bl b, _ => .bl b
  | _, _, .int i, _ => .int i
  | _, _, .str x, _ => .str x
  | _, _, .lst h r, c => .lst (sq_of h) (RepAll.dp r (by simpa [PyData.canLay0] using c))
  | _, _, .tup h r, c => .tup h (RepAll.dp r (by simpa [PyData.canLay0] using c))
  | _, _, .dic .., c => by simp [PyData.canLay0] at c
theorem RepAll.dp : ∀ {vs : List V} {ds : List D}, RepAll K H Lv vs ds → PyData.canLayAll0 ds = true → DpAll K H vs ds
  | _, _, .nil, _ => .nil
  | _, _, .cons a b, c => by
    simp only [PyData.canLayAll0, Bool.and_eq_true] at c
    exact .cons (Rep.dp a c.1) (RepAll.dp b c.2)
end
end

/-! ### cells, values, the environment -/
def CellOk (K : PySem.W.Frag) (H : Hp) (Lv : Addr → Prop) (a : Addr) : Cell → Prop
  | .lst xs => ∃ vs, H a = some (.lst vs) ∧ RepAll K H Lv vs xs
  | .dic kvs => ∃ ns, DicAt Wd.w H a ns ∧ ns.map (·.1) = kvs.map (fun p => nkD p.1) ∧ KdD kvs ∧ RepAll K H Lv (ns.map (·.2.1)) (kvs.map (·.1)) ∧ RepAll K H Lv (ns.map (·.2.2)) (kvs.map (·.2))
  | .fz d => Rep K H Lv (.ref a) d
def RepW (K : PySem.W.Frag) (ι : Ix) (m : Store) (H : Hp) (v : V) : Val → Prop
  | .d x => Rep K H (Live ι m) v x
  | .r n => ∃ a, ι.l[n]? = some a ∧ v = .ref a
structure StOk (K : PySem.W.Frag) (ι : Ix) (m : Store) (H : Hp) : Prop where
  len : ι.l.length = m.length
  nd : ι.l.Nodup
  dis : ∀ a ∈ ι.x, a ∉ ι.l
  trk : ∀ a ∈ ι.l, ∃ o, H a = some o
  trx : ∀ a ∈ ι.x, ∃ o, H a = some o
  ok : ∀ (n : Nat) (a : Addr) (c : Cell), ι.l[n]? = some a → m[n]? = some c → CellOk K H (Live ι m) a c
  tb : LamX.Tabs Wd.T H
structure EnvOk (K : PySem.W.Frag) (ι : Ix) (m : Store) (H : Hp) (ρ : Env) (σ : L2.St) : Prop where
  len : ρ.length = σ.length
  ok : ∀ (i : Nat) (w : Val), ρ[i]? = some (some w) → ∃ v, σ[i]? = some (some v) ∧ RepW K ι m H v w
section
variable {K : PySem.W.Frag} {ι ι' : Ix} {m m' : Store} {H H' : Hp} {v : V} {w : Val} {ρ : Env} {σ : L2.St}
theorem RepW.le (a : Le ι m H ι' m' H') (r : RepW K ι m H v w) : RepW K ι' m' H' v w := by
  cases w with
  | d x => exact Rep.up a.up r
  | r n =>
    obtain ⟨b, h1, h2⟩ := r
    exact ⟨b, a.at h1, h2⟩
theorem EnvOk.le (a : Le ι m H ι' m' H') (e : EnvOk K ι m H ρ σ) : EnvOk K ι' m' H' ρ σ :=
  ⟨e.len, fun i w h => let ⟨v, h1, h2⟩ := e.ok i w h; ⟨v, h1, h2.le a⟩⟩
theorem EnvOk.set (e : EnvOk K ι m H ρ σ) (i : Nat) (r : RepW K ι m H v w) : EnvOk K ι m H (ρ.set i (some w)) (σ.set i (some v)) := by
  refine ⟨by rw [List.length_set, List.length_set]; exact e.len, fun j w' h => ?_⟩
  by_cases hj : i = j
  · subst hj
    by_cases hl : i < ρ.length
    · rw [List.getElem?_set_self hl] at h
      cases h
      exact ⟨v, List.getElem?_set_self (by rw [← e.len]; exact hl), r⟩
    · rw [List.getElem?_eq_none (by rw [List.length_set]; omega)] at h
      cases h
  · rw [List.getElem?_set_ne hj] at h
    rw [List.getElem?_set_ne hj]
    exact e.ok j w' h
theorem EnvOk.wipe (e : EnvOk K ι m H ρ σ) : ∀ own : List Nat, EnvOk K ι m H (wipeE ρ own) (wipe σ own)
  | [] => e
  | i :: own => by
    have ih := EnvOk.wipe e own
    refine ⟨by unfold wipeE L2.wipe; rw [List.length_set, List.length_set]; exact ih.len, fun j w' h => ?_⟩
    unfold wipeE at h
    unfold L2.wipe
    by_cases hj : i = j
    · subst hj
      by_cases hl : i < (wipeE ρ own).length
      · rw [List.getElem?_set_self hl] at h; cases h
      · rw [List.getElem?_eq_none (by rw [List.length_set]; omega)] at h; cases h
    · rw [List.getElem?_set_ne hj] at h
      rw [List.getElem?_set_ne hj]
      exact ih.ok j w' h
theorem StOk.cell (s : StOk K ι m H) {n : Nat} {a : Addr} (h : ι.l[n]? = some a) : ∃ c, m[n]? = some c := by
  have hl := (List.getElem?_eq_some_iff.mp h).1
  exact ⟨_, List.getElem?_eq_getElem (by rw [← s.len]; exact hl)⟩
theorem StOk.adr (s : StOk K ι m H) {n : Nat} {c : Cell} (h : m[n]? = some c) : ∃ a, ι.l[n]? = some a := by
  have hl := (List.getElem?_eq_some_iff.mp h).1
  exact ⟨_, List.getElem?_eq_getElem (by rw [s.len]; exact hl)⟩
theorem StOk.inj (s : StOk K ι m H) {i j : Nat} {a : Addr} (h1 : ι.l[i]? = some a) (h2 : ι.l[j]? = some a) : i = j := by
  obtain ⟨l1, e1⟩ := List.getElem?_eq_some_iff.mp h1
  obtain ⟨l2, e2⟩ := List.getElem?_eq_some_iff.mp h2
  exact (List.getElem_inj s.nd).mp (e1.trans e2.symm)
end

/-- what is read of a value: its top may still change -/
inductive RepT (K : PySem.W.Frag) (H : Hp) (Lv : Addr → Prop) : V → D → Prop
  | rep {v : V} {d : D} : Rep K H Lv v d → RepT K H Lv v d
  | lst {a : Addr} {vs : List V} {ds : List D} : H a = some (.lst vs) → RepAll K H Lv vs ds → RepT K H Lv (.ref a) (.list ds)
  | dic {a : Addr} {ns : List Tri} {kvs : List (D × D)} : DicAt Wd.w H a ns → ns.map (·.1) = kvs.map (fun p => nkD p.1) → KdD kvs → RepAll K H Lv (ns.map (·.2.1)) (kvs.map (·.1)) → RepAll K H Lv (ns.map (·.2.2)) (kvs.map (·.2)) → RepT K H Lv (.ref a) (.dict kvs)
section
variable {K : PySem.W.Frag} {ι ι' : Ix} {m m' : Store} {H H' : Hp} {Lv : Addr → Prop} {v : V} {w : Val} {ρ : Env} {σ : L2.St} {d : D}
theorem RepT.of (s : StOk K ι m H) (r : RepW K ι m H v w) (h : rd w m = some d) : RepT K H (Live ι m) v d := by
  cases w with
  | d x => cases h; exact .rep r
  | r n =>
    obtain ⟨a, h1, rfl⟩ := r
    obtain ⟨c, hc⟩ := s.cell h1
    have h' : (m[n]?).map Cell.data = some d := h
    rw [hc] at h'
    cases h'
    have q := s.ok n a c h1 hc
    cases c with
    | lst xs => obtain ⟨vs, e, q⟩ := q; exact .lst e q
    | dic kvs => obtain ⟨ns, q1, q2, q3, q4, q5⟩ := q; exact .dic q1 q2 q3 q4 q5
    | fz x => exact .rep q
theorem canLay_shaped {d : D} (h : SeqAt.shaped d = true) : d.canLay0 = true := by
  unfold SeqAt.shaped at h
  rw [Bool.and_eq_true] at h
  exact h.1
theorem RepT.dp (r : RepT K H Lv v d) (hs : SeqAt.shaped d = true) : Dp K H v d := by
  have c := canLay_shaped hs
  cases r with
  | rep r => exact r.dp c
  | lst h r => exact .lst (.inl (.inl h)) (r.dp (by simpa [PyData.canLay0] using c))
  | dic => simp [PyData.canLay0] at c
theorem RepT.list {ds : List D} (r : RepT K H Lv v (.list ds)) : ∃ a vs, v = .ref a ∧ SqL K H a vs ∧ RepAll K H Lv vs ds := by
  cases r with
  | rep r => cases r with | lst h r => exact ⟨_, _, rfl, sq_of h, r⟩
  | lst h r => exact ⟨_, _, rfl, .inl (.inl h), r⟩
theorem RepT.tuple {ds : List D} (r : RepT K H Lv v (.tuple ds)) : ∃ a vs, v = .ref a ∧ SqT K H a vs ∧ RepAll K H Lv vs ds := by
  cases r with
  | rep r => cases r with | tup h r => exact ⟨_, _, rfl, h, r⟩
theorem RepT.int {i : Int} (r : RepT K H Lv v (.int i)) : v = .int i := by
  cases r with
  | rep r => cases r; rfl
theorem RepT.bool {b : Bool} (r : RepT K H Lv v (.bool b)) : v = .bl b := by
  cases r with
  | rep r => cases r; rfl
theorem RepT.str {x : Str} (r : RepT K H Lv v (.str x)) : v = .str x := by
  cases r with
  | rep r => cases r; rfl
theorem RepT.non (r : RepT K H Lv v .none) : v = .non := by
  cases r with
  | rep r => cases r; rfl
theorem RepT.dict {kvs : List (D × D)} (r : RepT K H Lv v (.dict kvs)) : ∃ a ns, v = .ref a ∧ DicAt Wd.w H a ns ∧ ns.map (·.1) = kvs.map (fun p => nkD p.1) ∧ KdD kvs ∧ RepAll K H Lv (ns.map (·.2.1)) (kvs.map (·.1)) ∧ RepAll K H Lv (ns.map (·.2.2)) (kvs.map (·.2)) := by
  cases r with
  | rep r => cases r with | dic h l e k r1 r2 => exact ⟨_, _, rfl, h, e, k, r1, r2⟩
  | dic h e k r1 r2 => exact ⟨_, _, rfl, h, e, k, r1, r2⟩
theorem RepT.tupRep {ds : List D} (r : RepT K H Lv v (.tuple ds)) : Rep K H Lv v (.tuple ds) := by
  cases r with
  | rep r => exact r
end

/-! ### what is wanted behind an answer -/
/-- how an exception stands -/
abbrev RXT := Exn → Value → Option Addr → Hp → Prop
section
variable {α β : Type} (K : PySem.W.Frag) (RX : RXT) (W : WX)
def PostR (ι : Ix) (m : Store) (H : Hp) (r : R α) (G : α → Ix → Store → Hp → Prop) : Prop := match r with
  | .ok a m' => ∀ ι' H', Le ι m H ι' m' H' → StOk K ι' m' H' → G a ι' m' H'
  | .ex x m' => ∀ ι' H' c d σ, Le ι m H ι' m' H' → StOk K ι' m' H' → RX x c d H' → W c d σ H'
  | .no => False
end
section
variable {α β : Type} {K : PySem.W.Frag} {RX : RXT} {W : WX} {ι ι' : Ix} {m m' : Store} {H H' : Hp}
theorem PostR.shift {r : R α} {G : α → Ix → Store → Hp → Prop} (a : Le ι m H ι' m' H') (h : PostR K RX W ι m H r G) : PostR K RX W ι' m' H' r G := by
  cases r with
  | ok b m1 => exact fun ι1 H1 l s => h ι1 H1 (a.trans l) s
  | ex x m1 => exact fun ι1 H1 c d σ l s => h ι1 H1 c d σ (a.trans l) s
  | no => exact h
theorem PostR.bind {r : R α} {f : α → Store → R β} {G : β → Ix → Store → Hp → Prop} (h : PostR K RX W ι m H (r.bind f) G) :
    PostR K RX W ι m H r (fun a ι1 m1 H1 => PostR K RX W ι1 m1 H1 (f a m1) G) := by
  cases r with
  | ok b m1 =>
    intro ι1 H1 l s
    have h' : PostR K RX W ι m H (f b m1) G := h
    -- shift along l
    cases hf : f b m1 with
    | ok c m2 =>
      rw [hf] at h'
      exact fun ι2 H2 l2 s2 => h' ι2 H2 (l.trans l2) s2
    | ex x m2 =>
      rw [hf] at h'
      exact fun ι2 H2 c d σ l2 s2 => h' ι2 H2 c d σ (l.trans l2) s2
    | no =>
      rw [hf] at h'
      exact h'
  | ex x m1 => exact h
  | no => exact h
theorem PostR.mono {r : R α} {G G' : α → Ix → Store → Hp → Prop} (h : PostR K RX W ι m H r G)
    (g : ∀ a ι1 m1 H1, Le ι m H ι1 m1 H1 → StOk K ι1 m1 H1 → G a ι1 m1 H1 → G' a ι1 m1 H1) : PostR K RX W ι m H r G' := by
  cases r with
  | ok b m1 => exact fun ι1 H1 l s => g b ι1 m1 H1 l s (h ι1 H1 l s)
  | ex x m1 => exact h
  | no => exact h
theorem PostR.here {a : α} {G : α → Ix → Store → Hp → Prop} (s : StOk K ι m H) (h : PostR K RX W ι m H (.ok a m) G) : G a ι m H := h ι H .refl s
end

/-! ### the store changes -/
section
variable {K : PySem.W.Frag} {ι ι' : Ix} {m m' : Store} {H H' : Hp} {p : Addr} {vs : List V} {xs : List D}
theorem fresh_live (s : StOk K ι m H) (hp : H p = none) : ¬ Live ι m p := fun q => by
  rcases q with ⟨n, c, h1, _, _⟩ | q
  · obtain ⟨o, e⟩ := s.trk p (List.mem_of_getElem? h1)
    rw [hp] at e; cases e
  · obtain ⟨o, e⟩ := s.trx p q
    rw [hp] at e; cases e
theorem up_fresh {Lv : Addr → Prop} {o : HO} (hp : H p = none) : Up H (upd H p o) Lv Lv :=
  ⟨fun b u h _ l => ⟨by rw [upd_ne (ne_of_none h hp)]; exact h, l⟩, fun b xs h => by rw [upd_ne (ne_of_none h hp)]; exact h, fun b o u h => by rw [upd_ne (ne_of_none h hp)]; exact h⟩
theorem ex_ne (s : StOk K ι m H) (hp : H p = none) {a : Addr} (ha : a ∈ ι.x) : a ≠ p := fun e => by
  obtain ⟨o, q⟩ := s.trx a ha
  rw [e, hp] at q; cases q
theorem le_fresh {o : HO} (s : StOk K ι m H) (hp : H p = none) : Le ι m H ι m (upd H p o) := ⟨⟨[], by simp⟩, fun _ h => h, fun a ha => upd_ne (ex_ne s hp ha), (up_fresh (Lv := Live ι m) hp).keep, (up_fresh (Lv := Live ι m) hp).tups, (up_fresh (Lv := Live ι m) hp).frzs⟩
theorem CellOk.up {Lv Lv' : Addr → Prop} {a : Addr} {c : Cell} (u : Up H H' Lv Lv') (ha : ∀ o, H a = some o → c.isFz = false → H' a = some o) (h : CellOk K H Lv a c) : CellOk K H' Lv' a c := by
  cases c with
  | lst xs => obtain ⟨vs, e, r⟩ := h; exact ⟨vs, ha _ e rfl, r.up u⟩
  | dic kvs =>
    obtain ⟨ns, ⟨⟨es, ep, e, p⟩, h2, h3, h4⟩, q2, q3, q4, q5⟩ := h
    exact ⟨ns, ⟨⟨es, ep, ha _ e rfl, p⟩, h2, h3, h4⟩, q2, q3, q4.up u, q5.up u⟩
  | fz d => exact Rep.up u h
theorem tabs_fresh {o : HO} {H : Hp} {p : Addr} (t : LamX.Tabs Wd.T H) (hp : H p = none) : LamX.Tabs Wd.T (upd H p o) := t.ext fun b u e => by rw [upd_ne (ne_of_none e hp)]; exact e
theorem StOk.fresh {o : HO} (s : StOk K ι m H) (hp : H p = none) : StOk K ι m (upd H p o) :=
  ⟨s.len, s.nd, s.dis, fun a ha => let ⟨u, e⟩ := s.trk a ha; ⟨u, by rw [upd_ne (ne_of_none e hp)]; exact e⟩, fun a ha => let ⟨u, e⟩ := s.trx a ha; ⟨u, by rw [upd_ne (ne_of_none e hp)]; exact e⟩, fun n a c h1 h2 => (s.ok n a c h1 h2).up (up_fresh hp) fun vs e _ => by rw [upd_ne (ne_of_none e hp)]; exact e, tabs_fresh s.tb hp⟩
/-- a new tuple -/
theorem rep_newTup (s : StOk K ι m H) (hp : H p = none) (r : RepAll K H (Live ι m) vs xs) : Rep K (upd H p (.tup vs)) (Live ι m) (.ref p) (.tuple xs) :=
  .tup (.inl (.inl upd_same)) (r.up (up_fresh hp))
theorem live_app {c : Cell} (s : ι.l.length = m.length) {a : Addr} : Live (ι.add p) (m ++ [c]) a ↔ Live ι m a ∨ (a = p ∧ c.isFz = false) := by
  constructor
  · rintro (⟨n, c', h1, h2, h3⟩ | q)
    · have h1 : (ι.l ++ [p])[n]? = some a := h1
      by_cases hn : n < ι.l.length
      · rw [List.getElem?_append_left hn] at h1
        rw [List.getElem?_append_left (by omega)] at h2
        exact .inl (.inl ⟨n, c', h1, h2, h3⟩)
      · rw [List.getElem?_append_right (by omega)] at h1
        rw [List.getElem?_append_right (by omega)] at h2
        have e0 : n - ι.l.length = 0 := by
          cases e : n - ι.l.length with
          | zero => rfl
          | succ k => rw [e] at h1; simp at h1
        have e1 : n - m.length = 0 := by omega
        rw [e0] at h1
        rw [e1] at h2
        simp at h1 h2
        subst h1 h2
        exact .inr ⟨rfl, h3⟩
    · exact .inl (.inr q)
  · rintro ((⟨n, c', h1, h2, h3⟩ | q) | ⟨rfl, h⟩)
    · refine .inl ⟨n, c', ?_, ?_, h3⟩
      · show (ι.l ++ [p])[n]? = some a
        rw [List.getElem?_append_left (List.getElem?_eq_some_iff.mp h1).1]; exact h1
      · rw [List.getElem?_append_left (List.getElem?_eq_some_iff.mp h2).1]; exact h2
    · exact .inr q
    · exact .inl ⟨ι.l.length, c, by show (ι.l ++ [a])[ι.l.length]? = some a; simp, by rw [s]; simp, h⟩
theorem le_new {o : HO} {c : Cell} (s : StOk K ι m H) (hp : H p = none) : Le ι m H (ι.add p) (m ++ [c]) (upd H p o) := by
  refine ⟨⟨[p], rfl⟩, fun _ h => h, fun a ha => upd_ne (ex_ne s hp ha), fun b u h _ l => ⟨by rw [upd_ne (ne_of_none h hp)]; exact h, fun q => ?_⟩, (up_fresh (Lv := fun _ => False) hp).tups, (up_fresh (Lv := fun _ => False) hp).frzs⟩
  rcases (live_app s.len).mp q with q | ⟨q, _⟩
  · exact l q
  · rw [q, hp] at h; cases h
theorem StOk.newC {o : HO} {c : Cell} (s : StOk K ι m H) (hp : H p = none) (q : CellOk K (upd H p o) (Live (ι.add p) (m ++ [c])) p c) : StOk K (ι.add p) (m ++ [c]) (upd H p o) := by
  have l := le_new (o := o) (c := c) s hp
  have hnot : p ∉ ι.l := fun hm => by
    obtain ⟨o, e⟩ := s.trk p hm
    rw [hp] at e; cases e
  refine ⟨by simp [Ix.add, s.len], ?_, fun a ha hm => ?_, fun a ha => ?_, fun a ha => let ⟨u, e⟩ := s.trx a ha; ⟨u, by rw [upd_ne (ne_of_none e hp)]; exact e⟩, fun n a c h1 h2 => ?_, tabs_fresh s.tb hp⟩
  · show (ι.l ++ [p]).Nodup
    rw [List.nodup_append]
    exact ⟨s.nd, by simp, fun a ha b hb => by simp at hb; subst hb; exact fun e => hnot (e ▸ ha)⟩
  · rcases List.mem_append.mp (show a ∈ ι.l ++ [p] from hm) with h | h
    · exact s.dis a ha h
    · exact ex_ne s hp ha (by simpa using h)
  · rcases List.mem_append.mp (show a ∈ ι.l ++ [p] from ha) with ha | ha
    · obtain ⟨o, e⟩ := s.trk a ha
      exact ⟨o, by rw [upd_ne (ne_of_none e hp)]; exact e⟩
    · simp at ha
      subst ha
      exact ⟨_, upd_same⟩
  · have h1 : (ι.l ++ [p])[n]? = some a := h1
    by_cases hn : n < ι.l.length
    · rw [List.getElem?_append_left hn] at h1
      rw [List.getElem?_append_left (by rw [← s.len]; exact hn)] at h2
      exact (s.ok n a c h1 h2).up l.up fun vs e _ => by rw [upd_ne (ne_of_none e hp)]; exact e
    · have hl := (List.getElem?_eq_some_iff.mp h1).1
      have en : n = ι.l.length := by simp at hl; omega
      subst en
      rw [List.getElem?_append_right (Nat.le_refl _)] at h1
      rw [s.len, List.getElem?_append_right (Nat.le_refl _)] at h2
      simp at h1 h2
      subst h1 h2
      exact q
theorem StOk.newL (s : StOk K ι m H) (hp : H p = none) (r : RepAll K H (Live ι m) vs xs) : StOk K (ι.add p) (m ++ [.lst xs]) (upd H p (.lst vs)) :=
  s.newC hp ⟨vs, upd_same, r.up (le_new (o := .lst vs) (c := .lst xs) s hp).up⟩
theorem live_set {n : Nat} {c c0 : Cell} {a b : Addr} (s : StOk K ι m H) (ha : ι.l[n]? = some a) (h0 : m[n]? = some c0) : Live ι (m.set n c) b ↔ (Live ι m b ∧ b ≠ a) ∨ (b = a ∧ c.isFz = false) := by
  have hn : n < m.length := (List.getElem?_eq_some_iff.mp h0).1
  constructor
  · rintro (⟨j, c', h1, h2, h3⟩ | q)
    · by_cases hj : n = j
      · subst hj
        rw [List.getElem?_set_self hn] at h2
        cases h2
        rw [ha] at h1
        exact .inr ⟨(Option.some.inj h1).symm, h3⟩
      · rw [List.getElem?_set_ne hj] at h2
        refine .inl ⟨.inl ⟨j, c', h1, h2, h3⟩, fun e => hj (s.inj ha (by rw [← e]; exact h1))⟩
    · exact .inl ⟨.inr q, fun e => s.dis b q (by rw [e]; exact List.mem_of_getElem? ha)⟩
  · rintro (⟨⟨j, c', h1, h2, h3⟩ | q, hb⟩ | ⟨rfl, h⟩)
    · have hj : n ≠ j := fun e => by subst e; rw [ha] at h1; exact hb (Option.some.inj h1).symm
      exact .inl ⟨j, c', h1, by rw [List.getElem?_set_ne hj]; exact h2, h3⟩
    · exact .inr q
    · exact .inl ⟨n, c, ha, List.getElem?_set_self hn, h⟩
/-- what may be written -/
def MutH (o : HO) : Prop := (∀ xs, o ≠ .tup xs) ∧ (∀ ob u, o ≠ .frz ob u) ∧ ∀ ps, o ≠ .tbl ps
theorem MutH.lst {xs : List V} : MutH (.lst xs) := ⟨(fun _ h => nomatch h), (fun _ _ h => nomatch h), (fun _ h => nomatch h)⟩
theorem MutH.dic {a : Addr} {es : Array DictEntry} {ep : Nat} : MutH (DicO a es ep) := ⟨(fun _ h => nomatch h), (fun _ _ h => nomatch h), (fun _ h => nomatch h)⟩
theorem dic_ne_code {a : Addr} {es : Array DictEntry} {ep : Nat} {q : Str} : DicO a es ep ≠ LamX.CodeO a q := fun e => by
  have e1 := congrFun (HO.ext.inj e) { objs := Array.replicate (a + 1) { cls := .none, data := .fields #[.none, .str q 0] } }
  have h0 : ({ objs := Array.replicate (a + 1) { cls := .none, data := .fields #[.none, .str q 0] } } : Heap).get? a = some { cls := .none, data := .fields #[.none, .str q 0] } := by
    unfold Heap.get?
    rw [Array.getElem?_replicate, if_pos (Nat.lt_succ_self a)]
  obtain ⟨_, o, ho, _, hd⟩ := (iff_of_eq e1).mpr ⟨_, _, _, h0, rfl, rfl⟩
  rw [h0] at ho
  cases ho
  cases hd
theorem tabs_write {o o0 : HO} {H : Hp} {a : Addr} (t : LamX.Tabs Wd.T H) (hH : H a = some o0) (mu : MutH o0) (nx : ∀ q, o0 ≠ LamX.CodeO a q) : LamX.Tabs Wd.T (upd H a o) := fun p hp => by
  obtain ⟨ps, h1, h2, h3⟩ := t p hp
  have e1 : p.1 ≠ a := fun e => by rw [e, hH] at h1; exact mu.2.2 ps (Option.some.inj h1)
  refine ⟨ps, by rw [upd_ne e1]; exact h1, h2, fun pos cv hc => ?_⟩
  obtain ⟨c, r1, r2⟩ := h3 pos cv hc
  exact ⟨c, r1, by rw [upd_ne (fun e => by rw [e, hH] at r2; exact nx p.2 (Option.some.inj r2))]; exact r2⟩
/-- a live thing is written -/
theorem le_writeC {n : Nat} {a : Addr} {c0 c1 : Cell} {o0 o1 : HO} (s : StOk K ι m H) (ha : ι.l[n]? = some a) (h0 : m[n]? = some c0) (f0 : c0.isFz = false) (f1 : c1.isFz = false) (hH : H a = some o0) (mu : MutH o0) :
    Le ι m H ι (m.set n c1) (upd H a o1) := by
  have lv : Live ι m a := .inl ⟨n, _, ha, h0, f0⟩
  have al : a ∈ ι.l := List.mem_of_getElem? ha
  have ls : ∀ b, Live ι (m.set n c1) b ↔ Live ι m b := fun b => by
    rw [live_set s ha h0]
    constructor
    · rintro (⟨h, _⟩ | ⟨rfl, _⟩)
      · exact h
      · exact lv
    · intro h
      by_cases e : b = a
      · exact .inr ⟨e, f1⟩
      · exact .inl ⟨h, e⟩
  refine ⟨⟨[], by simp⟩, fun _ h => h, fun b hb => upd_ne (fun e => s.dis b hb (e ▸ al)), fun b o h _ l => ?_, fun b xs h => ?_, fun b o u h => ?_⟩
  · have e : b ≠ a := fun e => l (e ▸ lv)
    exact ⟨by rw [upd_ne e]; exact h, fun q => l ((ls b).mp q)⟩
  · have e : b ≠ a := fun e => by rw [e, hH] at h; exact mu.1 xs (Option.some.inj h)
    rw [upd_ne e]; exact h
  · have e : b ≠ a := fun e => by rw [e, hH] at h; exact mu.2.1 o u (Option.some.inj h)
    rw [upd_ne e]; exact h
theorem StOk.writeC {n : Nat} {a : Addr} {c0 c1 : Cell} {o0 o1 : HO} (s : StOk K ι m H) (ha : ι.l[n]? = some a) (h0 : m[n]? = some c0) (f0 : c0.isFz = false) (f1 : c1.isFz = false) (hH : H a = some o0) (mu : MutH o0) (nx : ∀ q, o0 ≠ LamX.CodeO a q)
    (q : CellOk K (upd H a o1) (Live ι (m.set n c1)) a c1) : StOk K ι (m.set n c1) (upd H a o1) := by
  have l := le_writeC (c1 := c1) (o1 := o1) s ha h0 f0 f1 hH mu
  have hn : n < m.length := (List.getElem?_eq_some_iff.mp h0).1
  refine ⟨by rw [List.length_set]; exact s.len, s.nd, s.dis, fun b hb => ?_, fun b hb => let ⟨o, q⟩ := s.trx b hb; ⟨o, by rw [upd_ne (fun e => s.dis b hb (by rw [e]; exact List.mem_of_getElem? ha))]; exact q⟩, fun j b c h1 h2 => ?_, tabs_write s.tb hH mu nx⟩
  · by_cases e : b = a
    · subst e; exact ⟨_, upd_same⟩
    · obtain ⟨o, q⟩ := s.trk b hb
      exact ⟨o, by rw [upd_ne e]; exact q⟩
  · by_cases hj : n = j
    · subst hj
      rw [List.getElem?_set_self hn] at h2
      cases h2
      rw [ha] at h1
      cases h1
      exact q
    · rw [List.getElem?_set_ne hj] at h2
      have e : b ≠ a := fun e => hj (s.inj ha (by rw [← e]; exact h1))
      exact (s.ok j b c h1 h2).up l.up fun vs q _ => by rw [upd_ne e]; exact q
theorem le_write {n : Nat} {a : Addr} {xs0 ys : List D} {vs0 ws : List V} (s : StOk K ι m H) (ha : ι.l[n]? = some a) (h0 : m[n]? = some (.lst xs0)) (hH : H a = some (.lst vs0)) :
    Le ι m H ι (m.set n (.lst ys)) (upd H a (.lst ws)) := le_writeC s ha h0 rfl rfl hH .lst
theorem StOk.write {n : Nat} {a : Addr} {xs0 ys : List D} {vs0 ws : List V} (s : StOk K ι m H) (ha : ι.l[n]? = some a) (h0 : m[n]? = some (.lst xs0)) (hH : H a = some (.lst vs0))
    (r : RepAll K H (Live ι m) ws ys) : StOk K ι (m.set n (.lst ys)) (upd H a (.lst ws)) :=
  s.writeC ha h0 rfl rfl hH .lst (fun _ h => nomatch h) ⟨ws, upd_same, r.up (le_write s ha h0 hH).up⟩
/-- a cell changes no more -/
theorem le_fz {n : Nat} {a : Addr} {c : Cell} (s : StOk K ι m H) (ha : ι.l[n]? = some a) (h0 : m[n]? = some c) : Le ι m H ι (m.set n (.fz c.data)) H :=
  ⟨⟨[], by simp⟩, fun _ h => h, fun _ _ => rfl, fun b o h _ l => ⟨h, fun q => by
    rcases (live_set s ha h0).mp q with ⟨q, _⟩ | ⟨_, q⟩
    · exact l q
    · cases q⟩, fun _ _ h => h, fun _ _ _ h => h⟩
theorem rep_fz {n : Nat} {a : Addr} {c : Cell} (s : StOk K ι m H) (ha : ι.l[n]? = some a) (h0 : m[n]? = some c) : Rep K H (Live ι (m.set n (.fz c.data))) (.ref a) c.data := by
  have l := le_fz s ha h0
  have q := s.ok n a c ha h0
  cases c with
  | lst xs =>
    obtain ⟨vs, e, r⟩ := q
    refine .lst (.inl ⟨.inl e, fun q => ?_⟩) (r.up l.up)
    rcases (live_set s ha h0).mp q with ⟨_, q⟩ | ⟨_, q⟩
    · exact q rfl
    · cases q
  | dic kvs =>
    obtain ⟨ns, h, h2, h3, h4, h5⟩ := q
    refine .dic h (fun q => ?_) h2 h3 (h4.up l.up) (h5.up l.up)
    rcases (live_set s ha h0).mp q with ⟨_, q⟩ | ⟨_, q⟩
    · exact q rfl
    · cases q
  | fz d => exact Rep.up l.up q
theorem StOk.fz {n : Nat} {a : Addr} {c : Cell} (s : StOk K ι m H) (ha : ι.l[n]? = some a) (h0 : m[n]? = some c) : StOk K ι (m.set n (.fz c.data)) H := by
  have l := le_fz s ha h0
  have hn : n < m.length := (List.getElem?_eq_some_iff.mp h0).1
  refine ⟨by rw [List.length_set]; exact s.len, s.nd, s.dis, s.trk, s.trx, fun j b c' h1 h2 => ?_, s.tb⟩
  by_cases hj : n = j
  · subst hj
    rw [List.getElem?_set_self hn] at h2
    cases h2
    rw [ha] at h1
    cases h1
    exact rep_fz s ha h0
  · rw [List.getElem?_set_ne hj] at h2
    exact (s.ok j b c' h1 h2).up l.up fun vs q _ => q
end
section
variable {K : PySem.W.Frag} {RX : RXT} {W : WX} {ι ι' : Ix} {m m' : Store} {H H' : Hp} {p : Addr} {vs : List V} {xs : List D} {v : V} {w : Val}
theorem post_fz {G : D → Ix → Store → Hp → Prop} (s : StOk K ι m H) (r : RepW K ι m H v w) (h : PostR K RX W ι m H (fz w m) G) :
    ∃ m' x, Le ι m H ι m' H ∧ StOk K ι m' H ∧ Rep K H (Live ι m') v x ∧ G x ι m' H := by
  cases w with
  | d x => exact ⟨m, x, .refl, s, r, h ι H .refl s⟩
  | r n =>
    obtain ⟨a, h1, rfl⟩ := r
    obtain ⟨c, hc⟩ := s.cell h1
    have h' : PostR K RX W ι m H (match m[n]? with | some c => R.ok c.data (m.set n (.fz c.data)) | none => .no) G := h
    rw [hc] at h'
    exact ⟨_, _, le_fz s h1 hc, s.fz h1 hc, rep_fz s h1 hc, h' ι H (le_fz s h1 hc) (s.fz h1 hc)⟩
/-- a value of data at hand -/
theorem post_at {d : D} {G : Val → Ix → Store → Hp → Prop} (s : StOk K ι m H) (h : PostR K RX W ι m H (put (.at d) m) G) : G (.d d) ι m H := h ι H .refl s
theorem post_tup {G : Val → Ix → Store → Hp → Prop} (s : StOk K ι m H) (h : PostR K RX W ι m H (put (.tup xs) m) G) (r : RepAll K H (Live ι m) vs xs) :
    vs.length ≤ sizeLine ∧ ∀ p, H p = none → RepW K ι m (upd H p (.tup vs)) (.ref p) (.d (.tuple xs)) ∧ G (.d (.tuple xs)) ι m (upd H p (.tup vs)) := by
  unfold put at h
  dsimp only at h
  by_cases hz : xs.length ≤ sizeLine
  · rw [if_pos hz] at h
    exact ⟨by rw [r.length]; exact hz, fun p hp => ⟨rep_newTup s hp r, h ι _ (le_fresh s hp) (s.fresh hp)⟩⟩
  · rw [if_neg hz] at h
    exact False.elim h
theorem post_lst {G : Val → Ix → Store → Hp → Prop} (s : StOk K ι m H) (h : PostR K RX W ι m H (put (.lst xs) m) G) (r : RepAll K H (Live ι m) vs xs) :
    vs.length ≤ sizeLine ∧ ∀ p, H p = none → RepW K (ι.add p) (m ++ [.lst xs]) (upd H p (.lst vs)) (.ref p) (.r m.length) ∧ G (.r m.length) (ι.add p) (m ++ [.lst xs]) (upd H p (.lst vs)) := by
  unfold put at h
  dsimp only at h
  by_cases hz : xs.length ≤ sizeLine
  · rw [if_pos hz] at h
    exact ⟨by rw [r.length]; exact hz, fun p hp => ⟨⟨p, by rw [← s.len]; show (ι.l ++ [p])[ι.l.length]? = some p; simp, rfl⟩, h _ _ (le_new s hp) (s.newL hp r)⟩⟩
  · rw [if_neg hz] at h
    exact False.elim h
end
end DL
end
section
set_option Elab.async false
set_option linter.all false
set_option maxRecDepth 100000
set_option autoImplicit false
/-! DN3: dicts as data. -/
namespace DL
open PySem PySem.Spec PyProof.Rows L2
variable [Wd]
/-- what is known of the place where a def's body runs -/
def CU (X : Cx) : Prop := X.A.units + 200 < cLine ∧ X.w = Wd.w

omit [Wd] in
theorem keyN_all {n : Nat} {xs : List D} (h : keyN (n + 1) (.tuple xs) = true) : ∀ x ∈ xs, keyN n x = true := List.all_eq_true.mp h
mutual
theorem keyN_depth : ∀ (d : D) (n : Nat), keyN n d = true → (nkD d).depth ≤ n
  | .none, n, _ => Nat.zero_le _
  | .bool b, n, _ => Nat.zero_le _
  | .int i, n, _ => Nat.zero_le _
  | .str x, n, _ => Nat.zero_le _
  | .list _, n, _ => Nat.zero_le _
  | .dict _, n, _ => Nat.zero_le _
  | .tuple xs, 0, h => by cases h
  | .tuple xs, n + 1, h => by
    have := keyN_depths xs n (keyN_all h)
    show NestedKey.depthAll (nkDs xs) + 1 ≤ n + 1
    omega
theorem keyN_depths : ∀ (ds : List D) (n : Nat), (∀ x ∈ ds, keyN n x = true) → NestedKey.depthAll (nkDs ds) ≤ n
  | [], n, _ => Nat.zero_le _
  | d :: ds, n, h => by
    show max (nkD d).depth (NestedKey.depthAll (nkDs ds)) ≤ n
    have h1 := keyN_depth d n (h d List.mem_cons_self)
    have h2 := keyN_depths ds n fun x hx => h x (List.mem_cons_of_mem _ hx)
    omega
end
section
variable {K : PySem.W.Frag} {H : Hp} {Lv : Addr → Prop}
mutual
theorem Rep.isK : ∀ {v : V} {d : D} {n : Nat}, Rep K H Lv v d → keyN n d = true → IsK K H v (nkD d)
  | _, _, _, .non, _ => .non
  | _, _, _, .bl b, _ => .bl b
  | _, _, _, .int i, _ => .int i
  | _, _, _, .str x, _ => .str x
  | _, _, 0, .lst _ _, h => by cases h
  | _, _, _ + 1, .lst _ _, h => by cases h
  | _, _, 0, .tup _ _, h => by cases h
  | _, _, n + 1, .tup q r, h => .tup q (RepAll.isKs r (keyN_all h))
  | _, _, 0, .dic .., h => by cases h
  | _, _, _ + 1, .dic .., h => by cases h
theorem RepAll.isKs : ∀ {vs : List V} {ds : List D} {n : Nat}, RepAll K H Lv vs ds → (∀ x ∈ ds, keyN n x = true) → IsKs K H vs (nkDs ds)
  | _, _, _, .nil, _ => .nil
  | _, _, _, .cons a b, h => .cons (Rep.isK a (h _ List.mem_cons_self)) (RepAll.isKs b fun x hx => h x (List.mem_cons_of_mem _ hx))
end
end
section
omit [Wd]
mutual
theorem eqv_nk : ∀ (x y : D) (n k : Nat), keyN n x = true → keyN k y = true → PyData.eqv x y = decide (nkD x = nkD y)
  | .none, y, n, k, _, h => by cases y <;> first | (cases k <;> cases h; done) | simp [PyData.eqv, nkD]
  | .bool b, y, n, k, _, h => by
    cases y <;> first
      | (cases k <;> cases h; done)
      | (simp [PyData.eqv, nkD]; done)
      | (rename_i c; cases b <;> cases c <;> simp [PyData.eqv, nkD]; done)
      | (rename_i i; cases b <;> (rw [Bool.eq_iff_iff]; simp [PyData.eqv, nkD, @eq_comm Int]))
  | .int i, y, n, k, _, h => by
    cases y <;> first
      | (cases k <;> cases h; done)
      | (simp [PyData.eqv, nkD]; done)
      | (rename_i c; cases c <;> rw [Bool.eq_iff_iff] <;> simp [PyData.eqv, nkD]; done)
      | (rw [Bool.eq_iff_iff]; simp [PyData.eqv, nkD]; done)
  | .str x, y, n, k, _, h => by cases y <;> first | (cases k <;> cases h; done) | (simp [PyData.eqv, nkD]; done) | (rw [Bool.eq_iff_iff]; simp [PyData.eqv, nkD]; done)
  | .list _, _, 0, _, h, _ => by cases h
  | .list _, _, _ + 1, _, h, _ => by cases h
  | .dict _, _, 0, _, h, _ => by cases h
  | .dict _, _, _ + 1, _, h, _ => by cases h
  | .tuple xs, y, 0, k, h, _ => by cases h
  | .tuple xs, .tuple ys, n + 1, 0, _, h => by cases h
  | .tuple xs, .tuple ys, n + 1, k + 1, h1, h2 => by
    have := eqvs_nk xs ys n k (keyN_all h1) (keyN_all h2)
    simp only [PyData.eqv, nkD, NestedKey.tup.injEq]
    exact this
  | .tuple xs, .none, n + 1, k, _, h => by simp [PyData.eqv, nkD]
  | .tuple xs, .bool _, n + 1, k, _, h => by simp [PyData.eqv, nkD]
  | .tuple xs, .int _, n + 1, k, _, h => by simp [PyData.eqv, nkD]
  | .tuple xs, .str _, n + 1, k, _, h => by simp [PyData.eqv, nkD]
  | .tuple xs, .list _, n + 1, 0, _, h => by cases h
  | .tuple xs, .list _, n + 1, _ + 1, _, h => by cases h
  | .tuple xs, .dict _, n + 1, 0, _, h => by cases h
  | .tuple xs, .dict _, n + 1, _ + 1, _, h => by cases h
theorem eqvs_nk : ∀ (xs ys : List D) (n k : Nat), (∀ x ∈ xs, keyN n x = true) → (∀ y ∈ ys, keyN k y = true) → PyData.eqvAll xs ys = decide (nkDs xs = nkDs ys)
  | [], [], _, _, _, _ => by simp [PyData.eqvAll, nkDs]
  | [], _ :: _, _, _, _, _ => by simp [PyData.eqvAll, nkDs]
  | _ :: _, [], _, _, _, _ => by simp [PyData.eqvAll, nkDs]
  | x :: xs, y :: ys, n, k, h1, h2 => by
    have e1 := eqv_nk x y n k (h1 x List.mem_cons_self) (h2 y List.mem_cons_self)
    have e2 := eqvs_nk xs ys n k (fun z hz => h1 z (List.mem_cons_of_mem _ hz)) (fun z hz => h2 z (List.mem_cons_of_mem _ hz))
    simp only [PyData.eqvAll, nkDs, List.cons.injEq, e1, e2, Bool.decide_and]
end
end
omit [Wd] in
theorem keyT_N {d : D} (h : keyT d = true) : isTupD d = true ∧ keyN 8 d = true := by
  unfold keyT at h
  rw [Bool.and_eq_true] at h
  exact h
omit [Wd] in
theorem strD_N {d : D} (h : isStrD d = true) (n : Nat) : keyN n d = true := by
  cases d <;> first | (cases h; done) | (cases n <;> rfl)
theorem KdD.n8 {kvs : List (D × D)} (h : KdD kvs) : ∀ p ∈ kvs, keyN 8 p.1 = true := fun p hp => by
  rcases h with h | h
  · exact (keyT_N (h p hp)).2
  · exact strD_N (h p hp) 8
omit [Wd] in
theorem agree_n8 {kvs : List (D × D)} {k : D} (h : agree kvs k = true) : keyN 8 k = true := by
  unfold agree at h
  cases kvs with
  | nil =>
    rw [Bool.or_eq_true] at h
    rcases h with h | h
    · exact (keyT_N h).2
    · exact strD_N h 8
  | cons p r =>
    simp only [Bool.or_eq_true, Bool.and_eq_true] at h
    rcases h with h | h
    · exact (keyT_N h.1).2
    · exact strD_N h.1 8
theorem agree_kd {kvs : List (D × D)} {k : D} (kd : KdD kvs) (h : agree kvs k = true) : (keyT k = true ∧ ∀ p ∈ kvs, keyT p.1 = true) ∨ (isStrD k = true ∧ ∀ p ∈ kvs, isStrD p.1 = true) := by
  unfold agree at h
  cases kvs with
  | nil =>
    rw [Bool.or_eq_true] at h
    exact h.imp (fun h => ⟨h, fun _ h => nomatch h⟩) fun h => ⟨h, fun _ h => nomatch h⟩
  | cons p r =>
    simp only [Bool.or_eq_true, Bool.and_eq_true] at h
    have no : isTupD p.1 = true → isStrD p.1 = true → False := fun a b => by
      obtain ⟨p1, p2⟩ := p
      cases p1 <;> first | (cases a; done) | cases b
    rcases h with h | h
    · refine .inl ⟨h.1, ?_⟩
      rcases kd with kd | kd
      · exact kd
      · exact (no h.2 (kd p List.mem_cons_self)).elim
    · refine .inr ⟨h.1, ?_⟩
      rcases kd with kd | kd
      · exact (no (keyT_N (kd p List.mem_cons_self)).1 h.2).elim
      · exact kd
section
variable {K : PySem.W.Frag} {H : Hp} {Lv : Addr → Prop} {a : Addr} {ns : List Tri} {kvs : List (D × D)} {y v : V} {k x : D}
theorem keyT_rep (r : Rep K H Lv y k) (h : keyT k = true) : KeyT y (nkD k) := by
  obtain ⟨h1, h2⟩ := keyT_N h
  refine ⟨?_, keyN_depth k 8 h2⟩
  cases r with
  | tup q r => exact ⟨_, _, rfl, rfl⟩
  | _ => cases h1
theorem keyS_rep (r : Rep K H Lv y k) (h : isStrD k = true) : KeyS y (nkD k) := by
  cases r with
  | str x => exact ⟨x, rfl, rfl⟩
  | _ => cases h
/-- the two lists, place by place -/
theorem pair_mem (e : ns.map (·.1) = kvs.map fun p => nkD p.1) (rk : RepAll K H Lv (ns.map (·.2.1)) (kvs.map (·.1))) : ∀ n ∈ ns, ∃ p ∈ kvs, n.1 = nkD p.1 ∧ Rep K H Lv n.2.1 p.1 := fun n hn => by
  obtain ⟨i, hi⟩ := List.getElem?_of_mem hn
  have e1 : (ns.map (·.1))[i]? = some n.1 := by rw [List.getElem?_map, hi]; rfl
  rw [e, List.getElem?_map] at e1
  cases e2 : kvs[i]? with
  | none => rw [e2] at e1; cases e1
  | some p =>
    rw [e2] at e1
    obtain ⟨w, h1, h2⟩ := rk.get (i := i) (d := p.1) (by rw [List.getElem?_map, e2]; rfl)
    rw [List.getElem?_map, hi] at h1
    cases h1
    exact ⟨p, List.mem_of_getElem? e2, (Option.some.inj e1).symm, h2⟩
structure DKey (K : PySem.W.Frag) (H : Hp) (a : Addr) (y : V) (ns : List Tri) (k : NestedKey) : Prop where
  at_ : DicAt Wd.w H a ns
  is : IsAll K H ns
  ky : IsK K H y k
  ag : Agree ns y k
theorem dkey_of (D : DicAt Wd.w H a ns) (e : ns.map (·.1) = kvs.map fun p => nkD p.1) (kd : KdD kvs) (rk : RepAll K H Lv (ns.map (·.2.1)) (kvs.map (·.1))) (r : Rep K H Lv y k) (ag : agree kvs k = true) : DKey K H a y ns (nkD k) := by
  refine ⟨D, fun n hn => ?_, r.isK (agree_n8 ag), ?_⟩
  · obtain ⟨p, hp, e1, e2⟩ := pair_mem e rk n hn
    rw [e1]
    exact e2.isK (kd.n8 p hp)
  · rcases agree_kd kd ag with ⟨h1, h2⟩ | ⟨h1, h2⟩
    · refine .inl ⟨keyT_rep r h1, fun n hn => ?_⟩
      obtain ⟨p, hp, e1, e2⟩ := pair_mem e rk n hn
      rw [e1]
      exact keyT_rep e2 (h2 p hp)
    · refine .inr ⟨keyS_rep r h1, fun n hn => ?_⟩
      obtain ⟨p, hp, e1, e2⟩ := pair_mem e rk n hn
      rw [e1]
      exact keyS_rep e2 (h2 p hp)
theorem fnd_rel (kk : keyN 8 k = true) : ∀ {ns : List Tri} {kvs : List (D × D)}, ns.map (·.1) = kvs.map (fun p => nkD p.1) → (∀ p ∈ kvs, keyN 8 p.1 = true) → RepAll K H Lv (ns.map (·.2.2)) (kvs.map (·.2)) →
    match fndD kvs k with
    | some x => ∃ v, fnd ns (nkD k) = some v ∧ Rep K H Lv v x
    | none => fnd ns (nkD k) = none
  | [], [], _, _, _ => rfl
  | [], _ :: _, e, _, _ => by cases e
  | _ :: _, [], e, _, _ => by cases e
  | n :: ns, p :: kvs, e, h, r => by
    rw [List.map_cons, List.map_cons] at e r
    injection e with e1 e2
    cases r with
    | cons r1 r2 =>
    have ih := fnd_rel kk e2 (fun q hq => h q (List.mem_cons_of_mem _ hq)) r2
    have hd := eqv_nk p.1 k 8 8 (h p List.mem_cons_self) kk
    unfold fndD fnd at ih ⊢
    by_cases q : nkD p.1 = nkD k
    · rw [List.find?_cons_of_pos (by rw [hd]; simpa using q), List.find?_cons_of_pos (by rw [e1]; simpa using q)]
      exact ⟨_, rfl, r1⟩
    · rw [List.find?_cons_of_neg (by rw [hd]; simpa using q), List.find?_cons_of_neg (by rw [e1]; simpa using q)]
      exact ih
theorem fnd_some (kk : keyN 8 k = true) (e : ns.map (·.1) = kvs.map (fun p => nkD p.1)) (h : ∀ p ∈ kvs, keyN 8 p.1 = true) (r : RepAll K H Lv (ns.map (·.2.2)) (kvs.map (·.2))) : (fnd ns (nkD k)).isSome = (fndD kvs k).isSome := by
  have q := fnd_rel (k := k) kk e h r
  cases e1 : fndD kvs k with
  | none => rw [e1] at q; dsimp only at q; rw [q]; rfl
  | some x => rw [e1] at q; obtain ⟨v, q, _⟩ := q; rw [q]; rfl
theorem put_rel (kk : keyN 8 k = true) (e : ns.map (·.1) = kvs.map (fun p => nkD p.1)) (h : ∀ p ∈ kvs, keyN 8 p.1 = true) (rk : RepAll K H Lv (ns.map (·.2.1)) (kvs.map (·.1))) (rv : RepAll K H Lv (ns.map (·.2.2)) (kvs.map (·.2)))
    (ry : Rep K H Lv y k) (rx : Rep K H Lv v x) : (putN ns (nkD k) y v).map (·.1) = (putD kvs k x).map (fun p => nkD p.1) ∧ RepAll K H Lv ((putN ns (nkD k) y v).map (·.2.1)) ((putD kvs k x).map (·.1)) ∧ RepAll K H Lv ((putN ns (nkD k) y v).map (·.2.2)) ((putD kvs k x).map (·.2)) := by
  unfold putN putD
  rw [fnd_some kk e h rv]
  split
  · rw [List.map_map, List.map_map, List.map_map, List.map_map, List.map_map, List.map_map]
    have a1 : ns.map ((fun x => x.1) ∘ fun n => if n.1 = nkD k then (n.1, n.2.1, v) else n) = ns.map (·.1) := List.map_congr_left fun n _ => by
      by_cases e : n.1 = nkD k <;> simp [e]
    have a2 : ns.map ((fun x => x.2.1) ∘ fun n => if n.1 = nkD k then (n.1, n.2.1, v) else n) = ns.map (·.2.1) := List.map_congr_left fun n _ => by
      by_cases e : n.1 = nkD k <;> simp [e]
    have b1 : kvs.map ((fun p => nkD p.1) ∘ fun z => if PyData.eqv z.1 k = true then (z.1, x) else z) = kvs.map (fun p => nkD p.1) := List.map_congr_left fun n _ => by
      by_cases e : PyData.eqv n.1 k = true <;> simp [e]
    have b2 : kvs.map ((fun x => x.1) ∘ fun z => if PyData.eqv z.1 k = true then (z.1, x) else z) = kvs.map (·.1) := List.map_congr_left fun n _ => by
      by_cases e : PyData.eqv n.1 k = true <;> simp [e]
    rw [a1, a2, b1, b2]
    refine ⟨e, rk, ?_⟩
    clear a1 a2 b1 b2 rk
    rename_i hs
    clear hs
    induction ns generalizing kvs with
    | nil =>
      cases kvs with
      | nil => exact .nil
      | cons p r => cases e
    | cons n ns ih =>
      cases kvs with
      | nil => cases e
      | cons p kvs =>
        rw [List.map_cons, List.map_cons] at e rv
        injection e with e1 e2
        cases rv with
        | cons r1 r2 =>
        rw [List.map_cons, List.map_cons]
        refine .cons ?_ (ih e2 (fun q hq => h q (List.mem_cons_of_mem _ hq)) r2)
        have hd := eqv_nk p.1 k 8 8 (h p List.mem_cons_self) kk
        show Rep K H Lv (if n.1 = nkD k then (n.1, n.2.1, v) else n).2.2 (if PyData.eqv p.1 k = true then (p.1, x) else p).2
        by_cases q : nkD p.1 = nkD k
        · rw [if_pos (e1.trans q), if_pos (by rw [hd]; simpa using q)]; exact rx
        · rw [if_neg (fun z => q (e1.symm.trans z)), if_neg (by rw [hd]; simpa using q)]; exact r1
  · rw [List.map_append, List.map_append, List.map_append, List.map_append, List.map_append, List.map_append]
    exact ⟨by rw [e]; rfl, rk.app (.cons ry .nil), rv.app (.cons rx .nil)⟩
theorem put_kd (kd : KdD kvs) (ag : agree kvs k = true) : KdD (putD kvs k x) := by
  have mem : ∀ {q : D → Bool}, q k = true → (∀ p ∈ kvs, q p.1 = true) → ∀ p ∈ putD kvs k x, q p.1 = true := fun {q} hk h p hp => by
    unfold putD at hp
    split at hp
    · obtain ⟨z, hz, rfl⟩ := List.mem_map.mp hp
      split
      · exact h z hz
      · exact h z hz
    · rcases List.mem_append.mp hp with hp | hp
      · exact h p hp
      · have e : p = (k, x) := by simpa using hp
        subst e
        exact hk
  rcases agree_kd kd ag with ⟨h1, h2⟩ | ⟨h1, h2⟩
  · exact .inl (mem h1 h2)
  · exact .inr (mem h1 h2)
theorem put_at {es : Array DictEntry} {ep : Nat} {nk : NestedKey} (D : DicAt Wd.w H a ns) (ag : Agree ns y nk) (hl : ns.length < sizeLine) (p : Paired (EntR Wd.w) es.toList (putN ns nk y v)) : DicAt Wd.w (upd H a (DicO a es ep)) a (putN ns nk y v) :=
  ⟨⟨es, ep, upd_same, p⟩, putN_keys ns nk y v D.nd, (by have := putN_len ns nk y v; omega), ag.imp (fun h => putN_mem h.2 h.1) fun h => putN_mem h.2 h.1⟩
/-! ### the readings -/
def rDIn (K : PySem.W.Frag) : R2 := fun x z H Q => ∃ a ns k, z = .ref a ∧ DKey K H a x ns k ∧ Q (.bl (fnd ns k).isSome) H
def rDNot (K : PySem.W.Frag) : R2 := fun x z H Q => ∃ a ns k, z = .ref a ∧ DKey K H a x ns k ∧ Q (.bl (!(fnd ns k).isSome)) H
end
section
variable {X : Cx}
theorem op_din (hu : CU X) : OpR X (compareOp .In) (rDIn X.K) := by
  intro pins s σ H x y v u Q I rx ry ⟨a, ns, k, e, dk, q⟩
  subst e
  cases ry
  have D := dk.at_
  rw [← hu.2] at D
  exact n_in (by have := hu.1; omega) I D dk.is dk.ky dk.ag rx fun s' I' => ⟨.bl _, H, I', rfl, q⟩
theorem op_dnot (hu : CU X) : OpR X (compareOp .NotIn) (rDNot X.K) := by
  intro pins s σ H x y v u Q I rx ry ⟨a, ns, k, e, dk, q⟩
  subst e
  cases ry
  have D := dk.at_
  rw [← hu.2] at D
  exact n_notIn (by have := hu.1; omega) I D dk.is dk.ky dk.ag rx fun s' I' => ⟨.bl _, H, I', rfl, q⟩
end
end DL
end
section
set_option Elab.async false
set_option linter.all false
set_option maxRecDepth 100000
set_option autoImplicit false
set_option maxHeartbeats 1000000
/-! DL3: the operations by values. -/
namespace DL
open PySem PySem.Spec PyProof.Rows L2
variable [Wd]
section
variable {X : Cx} {pins : List (Addr × Obj)} {σ : L2.St} {H : Hp} {s : Shared} {l : Addr} {xs : List V}
theorem lstR (I : Inv X pins σ H s) (h : SqL X.K H l xs) : xs.length ≤ sizeLine ∧ ∃ (its : List Value) (n : Nat) (sl : Array (Option Value)), Vals xs its ∧ xs.length = its.length ∧ s.heap.get? l = some { cls := .type "list", dict := none, data := .seq its.toArray n, slots := sl } := by
  obtain ⟨its, r, ⟨⟨c, d, dt, sl⟩, n, e, hc, hd, hdt⟩, z⟩ := I.list h
  dsimp only at hc hd hdt
  subst hc hd hdt
  exact ⟨z, its, n, sl, r, r.length, e⟩
theorem meets_addS (l : Addr) (items : Array Value) (n : Nat) (sl : Array (Option Value)) (b : Addr) (items2 : Array Value) (n2 : Nat) (sl2 : Array (Option Value)) (hc0 : items.size + items2.size ≤ sizeLine) :
    Meets (Builtin.«list.__add__» ⟨[.ref l, .ref b], []⟩) (fun _ R s => s.heap.get? l = some { cls := .type "list", dict := none, data := .seq items n, slots := sl } ∧ s.heap.get? b = some { cls := .type "list", dict := none, data := .seq items2 n2, slots := sl2 } ∧
      R (.ok (.ret (Value.ref s.heap.objs.size))) { s with heap := s.heap.push { cls := Value.type "list", data := Data.seq (items ++ items2) }, toks := s.toks }) :=
  .of_wp fun prog w A R s h => by
    obtain ⟨hp, g, d, tk, os⟩ := s
    obtain ⟨hl, hb, h⟩ := h
    have f1 := AutoSeq1.idx_int
    have f2 := AutoSeq1.sub_tuple_tuple
    have f3 := AutoSeq1.sub_list_list
    have f4 := AutoSeq1.sub_tuple_list
    have f5 := AutoSeq1.sub_list_tuple
    wp_walk using AutoSeq1.wpAny_loadPart' hl, AutoSeq1.wpAny_loadPart' hb
    exact ⟨_, rfl, h⟩
theorem meets_iaddS (l : Addr) (items : Array Value) (n : Nat) (b : Addr) (items2 : Array Value) (n2 : Nat) (sl2 : Array (Option Value)) (hs0 : ¬(!items.isEmpty && Builtin.List.listTooLong (items.size + items2.size)) = true) (hs1 : items.size ≤ sizeLine) (hs2 : items.size + items2.size ≤ sizeLine + 1) :
    Meets (Builtin.«list.__iadd__» ⟨[.ref l, .ref b], []⟩) (fun _ R s => s.heap.get? l = some { cls := .type "list", dict := none, data := .seq items n, slots := #[] } ∧ s.heap.get? b = some { cls := .type "list", dict := none, data := .seq items2 n2, slots := sl2 } ∧
      R (.ok (.ret (Value.ref l))) { s with heap := s.heap.update l (Obj.mapSeq fun x => x ++ items2), toks := s.toks }) :=
  .of_wp fun prog w A R s h => by
    obtain ⟨hp, g, d, tk, os⟩ := s
    obtain ⟨hl, hb, h⟩ := h
    have f1 := AutoSeq1.idx_int
    have f2 := AutoSeq1.sub_tuple_tuple
    have f3 := AutoSeq1.sub_list_list
    have f4 := AutoSeq1.sub_tuple_list
    have f5 := AutoSeq1.sub_list_tuple
    have hz' : (items ++ items2).size ≤ sizeLine + 1 := by rw [Array.size_append]; exact hs2
    wp_walk using (wpAny_updateSeq hl rfl (hz := hs1) (_hz' := hz')), AutoSeq1.wpAny_loadPart' hl, AutoSeq1.wpAny_loadPart' hb
    exact ⟨_, rfl, h⟩
theorem meets_mulS (l : Addr) (items : Array Value) (n : Nat) (sl : Array (Option Value)) (x : Int) (u : Tok) (hc0 : ¬(!Builtin.List.listFitsIndex x) = true) (hc1 : ¬items.size * x.toNat > (2 ^ 63 - 1) / 8) (hc2 : ¬Builtin.List.listTooLong (items.size * x.toNat) = true) :
    Meets (Builtin.«list.__mul__» ⟨[.ref l, .int x u], []⟩) (fun _ R s => s.heap.get? l = some { cls := .type "list", dict := none, data := .seq items n, slots := sl } ∧
      R (.ok (.ret (Value.ref s.heap.objs.size))) { s with heap := s.heap.push { cls := Value.type "list", data := Data.seq (List.foldl (fun x1 x2 => x1 ++ x2) #[] (List.replicate (if items.isEmpty = true then 0 else x.toNat) items)) }, toks := s.toks }) :=
  .of_wp fun prog w A R s h => by
    obtain ⟨hp, g, d, tk, os⟩ := s
    obtain ⟨hl, h⟩ := h
    have hsz := AutoListH.joined_fits hc2
    wp_walk
    refine wpAny_ite_false (decide_eq_false (Nat.not_lt.mpr hsz)) ?_
    wp_walk
    exact ⟨_, rfl, h⟩
theorem meets_rmulS (a : Int) (t : Tok) (l : Addr) (items : Array Value) (n : Nat) (sl : Array (Option Value)) :
    Meets (Builtin.«int.__rmul__» ⟨[.int a t, .ref l], []⟩) (fun _ R s => s.heap.get? l = some { cls := .type "list", dict := none, data := .seq items n, slots := sl } ∧ R (.ok (.ret Value.notImplemented)) s) :=
  .of_wp fun prog w A R s h => by
    obtain ⟨hp, g, d, tk, os⟩ := s
    obtain ⟨hl, h⟩ := h
    wp_walk
    exact ⟨_, rfl, h⟩
def rCatR (K : PySem.W.Frag) : R2 := fun x y H Q => ∃ l b xs zs, x = .ref l ∧ y = .ref b ∧ SqL K H l xs ∧ SqL K H b zs ∧ xs.length + zs.length ≤ sizeLine ∧ ∀ p, H p = none → Q (.ref p) (upd H p (.lst (xs ++ zs)))
theorem op_catR : OpR X (binaryOp .Add) (rCatR X.K) := by
  intro pins s σ H x y v u Q I rx ry h
  obtain ⟨l, b, xs, zs, rfl, rfl, hH, hB, hz, q⟩ := h
  cases rx
  cases ry
  obtain ⟨z, its, n, sl, r, hl, e⟩ := lstR I hH
  obtain ⟨z2, its2, n2, sl2, r2, hl2, e2⟩ := lstR I hB
  refine concat_meets ⟨_, e, rfl⟩ ⟨_, e2, rfl⟩ noFill_list_add seq_list_add PySem.F.slot_list_add PySem.F.entry_list_add (PySem.F.args_list_add_2 _ _) (meets_addS l its.toArray n sl b its2.toArray n2 sl2 (by rw [List.size_toArray, List.size_toArray]; omega)) ⟨e, e2, ?_⟩
  have ea : its.toArray ++ its2.toArray = (its ++ its2).toArray := by simp
  rw [ea]
  exact ⟨.ref _, _, I.lnew (t' := s.toks) (r.append r2) (by rw [List.length_append]; omega), rfl, q _ I.fresh⟩
def rRepR (K : PySem.W.Frag) : R2 := fun x y H Q => ∃ l k xs, x = .ref l ∧ y = .int k ∧ SqL K H l xs ∧ -(2 ^ 63) ≤ k ∧ k < 2 ^ 63 ∧ xs.length * k.toNat ≤ sizeLine ∧
  ∀ p, H p = none → Q (.ref p) (upd H p (.lst (List.replicate k.toNat xs).flatten))
theorem op_repR : OpR X (binaryOp .Mult) (rRepR X.K) := by
  intro pins s σ H x y v u Q I rx ry h
  obtain ⟨l, k, xs, rfl, rfl, hH, h1, h2, hz, q⟩ := h
  cases rx
  obtain ⟨t, rfl⟩ := ry
  obtain ⟨z, its, n, sl, r, hl, e⟩ := lstR I hH
  have hlen : its.toArray.size * k.toNat ≤ sizeLine := by rw [List.size_toArray, ← hl]; exact hz
  have hcap : ¬ its.toArray.size * k.toNat > (2 ^ 63 - 1) / 8 := by
    have : (sizeLine : Nat) ≤ (2 ^ 63 - 1) / 8 := by decide
    omega
  have hfit : ¬ (!Builtin.List.listFitsIndex k) = true := by
    rw [fitsIndex_both h1 h2]
    exact Bool.false_ne_true
  have hlong : ¬ Builtin.List.listTooLong (its.toArray.size * k.toNat) = true := by
    rw [notLongL hlen]
    exact Bool.false_ne_true
  have hnew : List.foldl (fun x1 x2 => x1 ++ x2) #[] (List.replicate (if its.toArray.isEmpty = true then 0 else k.toNat) its.toArray) = (List.replicate k.toNat its).flatten.toArray := by
    have f0 : ∀ m : Nat, List.foldl (fun x1 x2 => x1 ++ x2) #[] (List.replicate m its.toArray) = (List.replicate m its).flatten.toArray := fun m => by
      have := foldl_rep its m []
      rw [List.nil_append] at this
      exact this
    rw [f0]
    cases its with
    | nil => simp
    | cons a r' => rw [if_neg (by simp)]
  refine wpAny_binaryOp_repeat_ref (T := "list") (U := "int") (by decide) ⟨_, e, rfl⟩ (fun s' => typeIs_int s' k t) noFill_list_mul F.fills_int_mul F.slot_int_rmul repeat_list F.slot_int_index.lookup
    (call_meets F.slot_int_rmul (typeIs_int s k t) F.entry_int_rmul (F.args_int_rmul_2 _ _) (meets_rmulS k t l its.toArray n sl)
      ⟨e, rfl, ⟨_, e, rfl⟩, call_meets F.slot_list_mul ⟨_, e, rfl⟩ F.entry_list_mul (F.args_list_mul_2 _ _) (meets_mulS l its.toArray n sl k t hfit hcap hlong) ⟨e, ?_⟩⟩)
  rw [hnew]
  exact ⟨.ref _, _, I.lnew (t' := s.toks) (r.rep k.toNat) (by rw [PyProof.Rows.lm_len_rep_flat, Nat.mul_comm]; exact hz), rfl, q _ I.fresh⟩
def rExtR (K : PySem.W.Frag) : R2 := fun x y H Q => ∃ l b xs zs, x = .ref l ∧ y = .ref b ∧ H l = some (.lst xs) ∧ SqL K H b zs ∧ xs.length + zs.length ≤ sizeLine ∧ Q (.ref l) (upd H l (.lst (xs ++ zs)))
theorem iop_extR : OpR X (inplaceOp .Add) (rExtR X.K) := by
  intro pins s σ H x y v u Q I rx ry h
  obtain ⟨l, b, xs, zs, rfl, rfl, hH, hB, hz, q⟩ := h
  cases rx
  cases ry
  obtain ⟨z, its, n, r, hl, e⟩ := I.lstM hH
  obtain ⟨z2, its2, n2, sl2, r2, hl2, e2⟩ := lstR I hB
  have hsz : its.toArray.size + its2.toArray.size ≤ sizeLine := by rw [List.size_toArray, List.size_toArray]; omega
  have hlong : ¬ (!its.toArray.isEmpty && Builtin.List.listTooLong (its.toArray.size + its2.toArray.size)) = true := by
    rw [notLongL hsz, Bool.and_false]
    exact Bool.false_ne_true
  refine iadd_road ⟨_, e, rfl⟩ ⟨_, e2, rfl⟩ (call_meets PySem.F.slot_list_iadd ⟨_, e, rfl⟩ PySem.F.entry_list_iadd (PySem.F.args_list_iadd_2 _ _)
    (meets_iaddS l its.toArray n b its2.toArray n2 sl2 hlong (by rw [List.size_toArray]; omega) (by omega)) ⟨e, e2, ?_⟩)
  refine ⟨.ref l, _, I.lset (its' := its ++ its2) (t' := s.toks) hH e (by simp) (r.append r2) ?_, rfl, q⟩
  rw [List.length_append]
  omega
end

/-! ### + - * // % ** -/
abbrev R2A := V → V → Hp → VK → Prop
def opPy : Op → Operator
  | .add => .Add | .sub => .Sub | .mul => .Mult | .fdiv => .FloorDiv | .mod => .Mod | .pow => .Pow
def rStrCat : R2 := fun x y H Q => ∃ i j, x = .str i ∧ y = .str j ∧ i.length + j.length ≤ sizeLine ∧ Q (.str (i ++ j)) H
def orR (r r' : R2) : R2 := fun x y H Q => r x y H Q ∨ r' x y H Q
def rOp (K : PySem.W.Frag) : Op → R2
  | .add => orR (rI0 fun i j => .int (i + j)) (orR rStrCat (orR (rCatA K) (rCatR K)))
  | .sub => rI0 fun i j => .int (i - j)
  | .mul => orR (rI CMul fun i j => .int (i * j)) (rRepR K)
  | .fdiv => rI CDiv fun i j => .int (i / j)
  | .mod => rI (fun _ j => 0 < j) fun i j => .int (i % j)
  | .pow => rI CPow fun i j => .int (i ^ j.toNat)
theorem op_ok {X : Cx} (o : Op) : OpR X (binaryOp (opPy o)) (rOp X.K o) := by
  cases o with
  | add => exact op_add.or (op_add_str.or (op_catA.or op_catR))
  | sub => exact op_sub
  | mul => exact op_mul.or op_repR
  | fdiv => exact op_fdiv
  | mod => exact op_mod
  | pow => exact op_pow
section
variable {K : PySem.W.Frag} {RX : RXT} {W : WX} {ι ι' : Ix} {m m' : Store} {H H' : Hp} {p : Addr} {x y : V} {v w : Val} {Q : VK}
/-- what the reading of an expression wants -/
abbrev GV (K : PySem.W.Frag) (Q : VK) : Val → Ix → Store → Hp → Prop := fun w ι m H => ∀ v, RepW K ι m H v w → Q v H
theorem smallI_ok {i : Int} (h : smallI i = true) : -(2 ^ 64) < i ∧ i < 2 ^ 64 := by
  unfold smallI at h
  rw [Bool.and_eq_true] at h
  exact ⟨of_decide_eq_true h.1, of_decide_eq_true h.2⟩
theorem RepT.listR {Lv : Addr → Prop} {v : V} {ds : List D} (r : RepT K H Lv v (.list ds)) : ∃ a vs, v = .ref a ∧ SqL K H a vs ∧ RepAll K H Lv vs ds := r.list
theorem opR_ok {o : Op} (s : StOk K ι m H) (rx : RepW K ι m H x v) (ry : RepW K ι m H y w) (h : PostR K RX W ι m H (opR o v w m) (GV K Q)) : rOp K o x y H Q := by
  unfold opR at h
  cases e1 : rd v m with
  | none => rw [e1] at h; exact False.elim h
  | some d1 =>
  cases e2 : rd w m with
  | none => rw [e1, e2] at h; exact False.elim h
  | some d2 =>
  rw [e1, e2] at h
  dsimp only at h
  have t1 := RepT.of s rx e1
  have t2 := RepT.of s ry e2
  cases e3 : opF o d1 d2 with
  | none => rw [e3] at h; exact False.elim h
  | some z =>
  rw [e3] at h
  dsimp only at h
  have atI : ∀ {k : Int}, PostR K RX W ι m H (put (.at (.int k)) m) (GV K Q) → Q (.int k) H := fun {k} h => post_at s h _ (.int k)
  cases o with
  | add =>
    cases d1 with
    | int i =>
      cases d2 with
      | int j => cases e3; rw [t1.int, t2.int]; exact .inl ⟨i, j, rfl, rfl, atI h⟩
      | _ => cases e3
    | str a =>
      cases d2 with
      | str b =>
        have e3' : (if a.length + b.length ≤ sizeLine then some (Out.at (.str (a ++ b))) else none) = some z := e3
        by_cases hz : a.length + b.length ≤ sizeLine
        · rw [if_pos hz] at e3'
          cases e3'
          rw [t1.str, t2.str]
          exact .inr (.inl ⟨a, b, rfl, rfl, hz, post_at s h _ (.str _)⟩)
        · rw [if_neg hz] at e3'; cases e3'
      | _ => cases e3
    | tuple a =>
      cases d2 with
      | tuple b =>
        have e3' : (if a.length + b.length ≤ sizeLine then some (Out.tup (a ++ b)) else none) = some z := e3
        by_cases hz : a.length + b.length ≤ sizeLine
        · rw [if_pos hz] at e3'
          cases e3'
          have r1 := t1.tupRep
          have r2 := t2.tupRep
          obtain ⟨pa, va, rfl, qa, ra⟩ := t1.tuple
          obtain ⟨pb, vb, rfl, qb, rb⟩ := t2.tuple
          obtain ⟨_, hp⟩ := post_tup s h (ra.app rb)
          have la := ra.length
          have lb := rb.length
          have hz2 : (a ++ b).length ≤ sizeLine := by rw [List.length_append]; exact hz
          have hh : PostR K RX W ι m H (R.ok (Val.d (.tuple (a ++ b))) m) (GV K Q) := by
            have h' : PostR K RX W ι m H (if (a ++ b).length ≤ sizeLine then R.ok (Val.d (.tuple (a ++ b))) m else .no) (GV K Q) := h
            rw [if_pos hz2] at h'
            exact h'
          refine .inr (.inr (.inl ⟨pa, pb, va, vb, rfl, rfl, qa, qb, by omega, fun e => ?_, fun e1 e2 => ?_, fun e1 e2 p hpn => ?_⟩))
          · subst e
            cases ra
            exact hh.here s _ r2
          · subst e2
            cases rb
            rw [List.append_nil] at hh
            exact hh.here s _ r1
          · obtain ⟨g1, g2⟩ := hp p hpn
            exact g2 _ g1
        · rw [if_neg hz] at e3'; cases e3'
      | _ => cases e3
    | list a =>
      cases d2 with
      | list b =>
        have e3' : (if a.length + b.length ≤ sizeLine then some (Out.lst (a ++ b)) else none) = some z := e3
        by_cases hz : a.length + b.length ≤ sizeLine
        · rw [if_pos hz] at e3'
          cases e3'
          obtain ⟨pa, va, rfl, qa, ra⟩ := t1.listR
          obtain ⟨pb, vb, rfl, qb, rb⟩ := t2.listR
          obtain ⟨_, hp⟩ := post_lst s h (ra.app rb)
          have la := ra.length
          have lb := rb.length
          refine .inr (.inr (.inr ⟨pa, pb, va, vb, rfl, rfl, qa, qb, by omega, fun p hpn => ?_⟩))
          obtain ⟨g1, g2⟩ := hp p hpn
          exact g2 _ g1
        · rw [if_neg hz] at e3'; cases e3'
      | _ => cases e3
    | _ => cases e3
  | sub =>
    cases d1 with
    | int i =>
      cases d2 with
      | int j => cases e3; rw [t1.int, t2.int]; exact ⟨i, j, rfl, rfl, atI h⟩
      | _ => cases e3
    | _ => cases e3
  | mul =>
    cases d1 with
    | int i =>
      cases d2 with
      | int j =>
        have e3' : (if (smallI i || smallI j) = true then some (Out.at (.int (i * j))) else none) = some z := e3
        by_cases hz : (smallI i || smallI j) = true
        · rw [if_pos hz] at e3'
          cases e3'
          rw [t1.int, t2.int]
          refine .inl ⟨i, j, rfl, rfl, ?_, atI h⟩
          rw [Bool.or_eq_true] at hz
          exact hz.elim (fun a => .inl (smallI_ok a)) fun a => .inr (smallI_ok a)
        · rw [if_neg hz] at e3'; cases e3'
      | _ => cases e3
    | list a =>
      cases d2 with
      | int k =>
        have e3' : (if (decide (-(2 ^ 63) ≤ k) && decide (k < 2 ^ 63) && decide (a.length * k.toNat ≤ sizeLine)) = true then some (Out.lst (List.replicate k.toNat a).flatten) else none) = some z := e3
        by_cases hz : (decide (-(2 ^ 63) ≤ k) && decide (k < 2 ^ 63) && decide (a.length * k.toNat ≤ sizeLine)) = true
        · rw [if_pos hz] at e3'
          cases e3'
          simp only [Bool.and_eq_true, decide_eq_true_eq] at hz
          rw [t2.int]
          obtain ⟨pa, va, rfl, qa, ra⟩ := t1.listR
          obtain ⟨_, hp⟩ := post_lst s h (ra.flat k.toNat)
          refine .inr ⟨pa, k, va, rfl, rfl, qa, hz.1.1, hz.1.2, by rw [ra.length]; exact hz.2, fun p hpn => ?_⟩
          obtain ⟨g1, g2⟩ := hp p hpn
          exact g2 _ g1
        · rw [if_neg hz] at e3'; cases e3'
      | _ => cases e3
    | _ => cases e3
  | fdiv =>
    cases d1 with
    | int i =>
      cases d2 with
      | int j =>
        have e3' : (if (decide (0 < j) && decide (j < 1073741824)) = true then some (Out.at (.int (i / j))) else none) = some z := e3
        by_cases hz : (decide (0 < j) && decide (j < 1073741824)) = true
        · rw [if_pos hz] at e3'
          cases e3'
          simp only [Bool.and_eq_true, decide_eq_true_eq] at hz
          rw [t1.int, t2.int]
          exact ⟨i, j, rfl, rfl, hz, atI h⟩
        · rw [if_neg hz] at e3'; cases e3'
      | _ => cases e3
    | _ => cases e3
  | mod =>
    cases d1 with
    | int i =>
      cases d2 with
      | int j =>
        have e3' : (if decide (0 < j) = true then some (Out.at (.int (i % j))) else none) = some z := e3
        by_cases hz : decide (0 < j) = true
        · rw [if_pos hz] at e3'
          cases e3'
          rw [t1.int, t2.int]
          exact ⟨i, j, rfl, rfl, of_decide_eq_true hz, atI h⟩
        · rw [if_neg hz] at e3'; cases e3'
      | _ => cases e3
    | _ => cases e3
  | pow =>
    cases d1 with
    | int i =>
      cases d2 with
      | int j =>
        have e3' : (if (decide (0 ≤ j) && decide (j ≤ 1000000) && decide (i.natAbs < 2 ^ 64)) = true then some (Out.at (.int (i ^ j.toNat))) else none) = some z := e3
        by_cases hz : (decide (0 ≤ j) && decide (j ≤ 1000000) && decide (i.natAbs < 2 ^ 64)) = true
        · rw [if_pos hz] at e3'
          cases e3'
          simp only [Bool.and_eq_true, decide_eq_true_eq] at hz
          rw [t1.int, t2.int]
          exact ⟨i, j, rfl, rfl, ⟨hz.1.1, hz.1.2, hz.2⟩, atI h⟩
        · rw [if_neg hz] at e3'; cases e3'
      | _ => cases e3
    | _ => cases e3
end
end DL
end
section
set_option Elab.async false
set_option linter.all false
set_option maxRecDepth 100000
set_option autoImplicit false
set_option maxHeartbeats 1000000
/-! DLc: < and sorted of data whose places are of one kind, or truth values beside whole numbers. -/
namespace DL
open PySem PySem.W PySem.SeqAt PySem.Calls PyProof.Rows
variable [Wd]

theorem near_all_cons {x y : PyData} {xs ys : List PyData} (h : nearAll (x :: xs) (y :: ys) = true) : near x y = true ∧ nearAll xs ys = true := by
  rw [nearAll, Bool.and_eq_true] at h
  exact h
theorem eqv_bi (a : Bool) (j : Int) : PyData.eqv (.bool a) (.int j) = ((if a then 1 else 0) == j) := by simp [PyData.eqv]
theorem eqv_ib (i : Int) (b : Bool) : PyData.eqv (.int i) (.bool b) = (i == (if b then 1 else 0)) := by simp [PyData.eqv]
mutual
theorem toks_near : ∀ (x y : PyData), near x y = true → (PyData.eqv x y = true → keyToks x = keyToks y) ∧ (PyData.eqv x y = false → ∀ l m, PyProof.Rows.lexLt itemOrd (keyToks x ++ l) (keyToks y ++ m) = PyProof.Rows.lexLt itemOrd (keyToks x) (keyToks y))
  | .none, y, h => by
    cases y with
    | none => exact ⟨fun _ => rfl, fun e => absurd e (by simp [PyData.eqv])⟩
    | _ => exact absurd h (by simp [near])
  | .bool a, y, h => by
    cases y with
    | bool b =>
      refine ⟨fun e => ?_, fun e l m => ?_⟩
      · have e' : a = b := by simpa [PyData.eqv] using e
        rw [e']
      · have hne : a ≠ b := fun q => by subst q; simp [PyData.eqv] at e
        simp only [keyToks, List.cons_append, List.nil_append]
        refine lex_atom (fun q => hne ?_) l m
        have q' := Sum.inl.inj q
        cases a <;> cases b <;> simp_all
    | int j =>
      refine ⟨fun e => ?_, fun e l m => ?_⟩
      · rw [eqv_bi] at e
        simp only [keyToks]
        rw [eq_of_beq e]
      · rw [eqv_bi] at e
        simp only [keyToks, List.cons_append, List.nil_append]
        exact lex_atom (fun q => absurd (Sum.inl.inj q) (by simpa using e)) l m
    | _ => exact absurd h (by simp [near])
  | .int a, y, h => by
    cases y with
    | int b =>
      refine ⟨fun e => ?_, fun e l m => ?_⟩
      · have e' : a = b := by simpa [PyData.eqv] using e
        rw [e']
      · have hne : a ≠ b := fun q => by subst q; simp [PyData.eqv] at e
        simp only [keyToks, List.cons_append, List.nil_append]
        exact lex_atom (fun q => hne (Sum.inl.inj q)) l m
    | bool b =>
      refine ⟨fun e => ?_, fun e l m => ?_⟩
      · rw [eqv_ib] at e
        simp only [keyToks]
        rw [eq_of_beq e]
      · rw [eqv_ib] at e
        simp only [keyToks, List.cons_append, List.nil_append]
        exact lex_atom (fun q => absurd (Sum.inl.inj q) (by simpa using e)) l m
    | _ => exact absurd h (by simp [near])
  | .str a, y, h => by
    cases y with
    | str b =>
      refine ⟨fun e => ?_, fun e l m => ?_⟩
      · have e' : a = b := by simpa [PyData.eqv] using e
        rw [e']
      · have hne : a ≠ b := fun q => by subst q; simp [PyData.eqv] at e
        simp only [keyToks, List.cons_append, List.nil_append]
        exact lex_atom (fun q => hne (str_of_cps (Sum.inr.inj q))) l m
    | _ => exact absurd h (by simp [near])
  | .list xs, y, h => by
    cases y with
    | list ys =>
      have t := toksAll_near xs ys (by simpa [near] using h)
      simp only [keyToks, PyData.eqv]
      exact t
    | _ => exact absurd h (by simp [near])
  | .tuple xs, y, h => by
    cases y with
    | tuple ys =>
      have t := toksAll_near xs ys (by simpa [near] using h)
      simp only [keyToks, PyData.eqv]
      exact t
    | _ => exact absurd h (by simp [near])
  | .dict _, y, h => absurd h (by cases y <;> simp [near])
theorem toksAll_near : ∀ (xs ys : List PyData), nearAll xs ys = true → (PyData.eqvAll xs ys = true → keyToksAll xs = keyToksAll ys) ∧ (PyData.eqvAll xs ys = false → ∀ l m, PyProof.Rows.lexLt itemOrd (keyToksAll xs ++ l) (keyToksAll ys ++ m) = PyProof.Rows.lexLt itemOrd (keyToksAll xs) (keyToksAll ys))
  | [], [], _ => ⟨fun _ => rfl, fun e => absurd e (by simp [PyData.eqvAll])⟩
  | [], y :: ys, _ => ⟨fun e => absurd e (by simp [PyData.eqvAll]), fun _ l m => by
      simp only [keyToksAll, List.cons_append, List.nil_append]
      exact (lex_atom (by simp) _ _).trans (lex_atom (by simp) _ _).symm⟩
  | x :: xs, [], _ => ⟨fun e => absurd e (by simp [PyData.eqvAll]), fun _ l m => by
      simp only [keyToksAll, List.cons_append, List.nil_append]
      exact (lex_atom (by simp) _ _).trans (lex_atom (by simp) _ _).symm⟩
  | x :: xs, y :: ys, h => by
    obtain ⟨a1, a2⟩ := toks_near x y (near_all_cons h).1
    obtain ⟨b1, b2⟩ := toksAll_near xs ys (near_all_cons h).2
    rw [eqv_all_cons, toks_all_cons, toks_all_cons]
    cases hx : PyData.eqv x y with
    | true =>
      rw [a1 hx, Bool.true_and]
      refine ⟨fun e => by rw [b1 e], fun e l m => ?_⟩
      simp only [List.cons_append, List.append_assoc]
      exact (lex_self (O := itemOrd) _ _ _).trans ((lex_pre _ _ _).trans ((b2 e l m).trans ((lex_pre _ _ _).symm.trans (lex_self (O := itemOrd) _ _ _).symm)))
    | false =>
      rw [Bool.false_and]
      refine ⟨fun e => absurd e Bool.false_ne_true, fun _ l m => ?_⟩
      simp only [List.cons_append, List.append_assoc]
      exact (lex_self (O := itemOrd) _ _ _).trans ((a2 hx _ _).trans ((a2 hx _ _).symm.trans (lex_self (O := itemOrd) _ _ _).symm))
end
theorem near_all_yes {x y : PyData} {xs ys : List PyData} (h : near x y = true) (e : PyData.eqv x y = true) : PyProof.Rows.lexLt itemOrd (keyToksAll (x :: xs)) (keyToksAll (y :: ys)) = PyProof.Rows.lexLt itemOrd (keyToksAll xs) (keyToksAll ys) := by
  rw [toks_all_cons, toks_all_cons, (toks_near x y h).1 e]
  exact (lex_self (O := itemOrd) _ _ _).trans (lex_pre _ _ _)
theorem near_all_no {x y : PyData} {xs ys : List PyData} (h : near x y = true) (e : PyData.eqv x y = false) : PyProof.Rows.lexLt itemOrd (keyToksAll (x :: xs)) (keyToksAll (y :: ys)) = dataLt x y := by
  rw [toks_all_cons, toks_all_cons]
  exact (lex_self (O := itemOrd) _ _ _).trans ((toks_near x y h).2 e _ _)
theorem firstLt_near : ∀ (xs ys : List PyData), nearAll xs ys = true →
    firstLt (pairEq xs ys) (fun j => dataLt (xs.getD j .none) (ys.getD j .none)) (decide (xs.length < ys.length)) (List.range (min xs.length ys.length)) = PyProof.Rows.lexLt itemOrd (keyToksAll xs) (keyToksAll ys)
  | [], [], _ => by simp [firstLt, keyToksAll, lex_irrefl]
  | [], y :: ys, _ => by
    rw [toks_all_cons]
    simp only [keyToksAll]
    rw [lex_diff (O := itemOrd) (by simp)]
    simp [firstLt, itemLt]
  | x :: xs, [], _ => by
    rw [toks_all_cons]
    simp only [keyToksAll]
    rw [lex_diff (O := itemOrd) (by simp)]
    simp [firstLt, itemLt]
  | x :: xs, y :: ys, h => by
    obtain ⟨h1, h2⟩ := near_all_cons h
    have ih := firstLt_near xs ys h2
    have em : min (x :: xs).length (y :: ys).length = min xs.length ys.length + 1 := by
      rw [List.length_cons, List.length_cons]
      omega
    have ed : decide ((x :: xs).length < (y :: ys).length) = decide (xs.length < ys.length) := by
      rw [List.length_cons, List.length_cons]
      exact decide_eq_decide.mpr (by omega)
    rw [em, ed, List.range_succ_eq_map]
    cases hx : PyData.eqv x y with
    | true =>
      rw [firstLt_yes (show pairEq (x :: xs) (y :: ys) 0 = true from hx), firstLt_map, near_all_yes h1 hx, ← ih]
      rfl
    | false =>
      rw [firstLt_no (show pairEq (x :: xs) (y :: ys) 0 = false from hx), near_all_no h1 hx]
      rfl
theorem near_ne_none {x y : PyData} (h : near x y = true) (e : PyData.eqv x y = false) : x ≠ .none := by
  rintro rfl
  cases y with
  | none => exact absurd e (by simp [PyData.eqv])
  | _ => exact absurd h (by simp [near])
theorem dataLt_bi (x : Bool) (y : Int) : dataLt (.bool x) (.int y) = decide ((if x = true then (1 : Int) else 0) < y) := by
  unfold dataLt
  simp only [keyToks]
  rw [lex_one]
  rfl
theorem dataLt_ib (x : Int) (y : Bool) : dataLt (.int x) (.bool y) = decide (x < (if y = true then (1 : Int) else 0)) := by
  unfold dataLt
  simp only [keyToks]
  rw [lex_one]
  rfl
theorem lt_bi_gives (a : Bool) (b : Int) (u : Tok) : Gives (Builtin.«int.__lt__» ⟨[.bool a, .int b u], []⟩) (.val (Value.bool (decide ((if a = true then (1 : Int) else 0) < b)))) :=
  .of_wp fun M A E s Q h => by obtain ⟨hp, g, d, tk, os⟩ := s; wp_walk; exact ⟨_, rfl, h⟩
theorem gt_bi_gives (a : Bool) (b : Int) (u : Tok) : Gives (Builtin.«int.__gt__» ⟨[.bool a, .int b u], []⟩) (.val (Value.bool (decide ((if a = true then (1 : Int) else 0) > b)))) :=
  .of_wp fun M A E s Q h => by obtain ⟨hp, g, d, tk, os⟩ := s; wp_walk; exact ⟨_, rfl, h⟩
theorem rcLt_bi {A : Around} {s : Shared} (a : Bool) (b : Int) (u : Tok) : RcLt A s (.bool a) (.int b u) (decide ((if a = true then (1 : Int) else 0) < b)) := fun prog w E Q h =>
  rc_left_or (op := .Lt) rfl (typeIs_int s b u) (by decide) F.sub_int_bool F.slot_bool_lt
    (call_gives F.slot_bool_lt rfl F.entry_int_lt (F.args_int_lt_2 _ _) (lt_bi_gives a b u) ⟨nofun, h⟩) (.inl rfl)
theorem rcLt_ib {A : Around} {s : Shared} (a : Int) (t : Tok) (b : Bool) : RcLt A s (.int a t) (.bool b) (decide (a < (if b = true then (1 : Int) else 0))) := fun prog w E Q h =>
  rc_sub_first_or (op := .Lt) (typeIs_int s a t) rfl (by decide) F.sub_bool_int F.slot_bool_gt
    (call_gives F.slot_bool_gt rfl F.entry_int_gt (F.args_int_gt_2 _ _) (gt_bi_gives b a t) ⟨nofun, h⟩) (.inl rfl)

theorem canLay_cons {x : PyData} {xs : List PyData} (h : PyData.canLayAll0 (x :: xs) = true) : x.canLay0 = true ∧ PyData.canLayAll0 xs = true := by
  simpa [PyData.canLayAll0] using h
mutual
theorem rcLt_near : ∀ (da db : PyData) (A : Around) (s : Shared) (a b : Value) (as bs : List Addr), Reads s.heap a da as → Reads s.heap b db bs → near da db = true → da.canLay0 = true → db.canLay0 = true → da ≠ .none → A.units + min da.depth db.depth < cLine → RcLt A s a b (dataLt da db)
  | .none, _, _, _, _, _, _, _, _, _, _, _, _, hn, _ => absurd rfl hn
  | .bool x, db, A, s, a, b, as, bs, ra, rb, h, _, _, e, _ => by
    cases db with
    | bool y =>
      cases ra
      cases rb
      intro prog w E Q hq
      rw [dataLt_bool] at hq
      exact lt_bool hq
    | int y =>
      cases ra
      cases rb
      rw [dataLt_bi]
      exact rcLt_bi _ _ _
    | _ => exact absurd h (by simp [near])
  | .int x, db, A, s, a, b, as, bs, ra, rb, h, _, _, e, _ => by
    cases db with
    | int y =>
      cases ra
      cases rb
      intro prog w E Q hq
      rw [dataLt_int] at hq
      exact P.lt_int hq
    | bool y =>
      cases ra
      cases rb
      rw [dataLt_ib]
      exact rcLt_ib _ _ _
    | _ => exact absurd h (by simp [near])
  | .str x, db, A, s, a, b, as, bs, ra, rb, h, _, _, e, _ => by
    cases db with
    | str y =>
      cases ra
      cases rb
      intro prog w E Q hq
      rw [dataLt_str] at hq
      exact P.lt_str hq
    | _ => exact absurd h (by simp [near])
  | .list xs, db, A, s, a, b, as, bs, ra, rb, h, ca, cb, e, hu => by
    cases db with
    | list ys =>
      have hal : nearAll xs ys = true := by simpa [near] using h
      have ca' : PyData.canLayAll0 xs = true := by simpa [PyData.canLay0] using ca
      have cb' : PyData.canLayAll0 ys = true := by simpa [PyData.canLay0] using cb
      cases ra with
      | @list l o vs n _ as₁ h1 h2 h3 h4 =>
        cases rb with
        | @list l' o' vs' n' _ bs₁ k1 k2 k3 k4 =>
          have n1 : vs.size = xs.length := by simpa using SeqAt.ReadsAll.length _ _ _ h4
          have n2 : vs'.size = ys.length := by simpa using SeqAt.ReadsAll.length _ _ _ k4
          rw [dataLt_list, ← firstLt_near xs ys hal, ← n1, ← n2]
          refine RcLt.lists ⟨_, h1, h2, _, h3⟩ ⟨_, k1, k2, _, k3⟩ (room_here hu) (fun j j1 j2 => ?_) fun j j1 j2 hj => ?_
          · have := eqAt_readsAll xs ys A.in1 s vs.toList vs'.toList _ _ h4 k4 ca' cb' (room_in hu) j (by simpa using j1) (by simpa using j2)
            simpa using this
          · have := rcLt_nearAll xs ys A.in1 s vs.toList vs'.toList _ _ h4 k4 hal ca' cb' (room_in hu) j (by simpa using j1) (by simpa using j2) hj
            simpa using this
    | _ => exact absurd h (by simp [near])
  | .tuple xs, db, A, s, a, b, as, bs, ra, rb, h, ca, cb, e, hu => by
    cases db with
    | tuple ys =>
      have hal : nearAll xs ys = true := by simpa [near] using h
      have ca' : PyData.canLayAll0 xs = true := by simpa [PyData.canLay0] using ca
      have cb' : PyData.canLayAll0 ys = true := by simpa [PyData.canLay0] using cb
      cases ra with
      | @tuple l o vs n _ as₁ h1 h2 h3 h4 =>
        cases rb with
        | @tuple l' o' vs' n' _ bs₁ k1 k2 k3 k4 =>
          have n1 : vs.size = xs.length := by simpa using SeqAt.ReadsAll.length _ _ _ h4
          have n2 : vs'.size = ys.length := by simpa using SeqAt.ReadsAll.length _ _ _ k4
          rw [dataLt_tuple, ← firstLt_near xs ys hal, ← n1, ← n2]
          refine RcLt.tuples ⟨_, h1, h2, _, h3⟩ ⟨_, k1, k2, _, k3⟩ (room_here hu) (fun j j1 j2 => ?_) fun j j1 j2 hj => ?_
          · have := eqAt_readsAll xs ys A.in1 s vs.toList vs'.toList _ _ h4 k4 ca' cb' (room_in hu) j (by simpa using j1) (by simpa using j2)
            simpa using this
          · have := rcLt_nearAll xs ys A.in1 s vs.toList vs'.toList _ _ h4 k4 hal ca' cb' (room_in hu) j (by simpa using j1) (by simpa using j2) hj
            simpa using this
    | _ => exact absurd h (by simp [near])
  | .dict _, db, _, _, _, _, _, _, _, _, h, _, _, _, _ => absurd h (by cases db <;> simp [near])
theorem rcLt_nearAll : ∀ (xs ys : List PyData) (A : Around) (s : Shared) (vs ws : List Value) (as bs : List Addr), ReadsAll s.heap vs xs as → ReadsAll s.heap ws ys bs → nearAll xs ys = true → PyData.canLayAll0 xs = true → PyData.canLayAll0 ys = true →
    A.units + min (PyData.depthAll xs) (PyData.depthAll ys) < cLine → ∀ j (h1 : j < vs.length) (h2 : j < ws.length), pairEq xs ys j = false → RcLt A s vs[j] ws[j] (dataLt (xs.getD j .none) (ys.getD j .none))
  | [], _, _, _, _, _, _, _, ra, _, _, _, _, _, j, h1, _, _ => by cases ra; exact absurd h1 (Nat.not_lt_zero _)
  | _ :: _, [], _, _, _, _, _, _, _, rb, _, _, _, _, j, _, h2, _ => by cases rb; exact absurd h2 (Nat.not_lt_zero _)
  | x :: xs, y :: ys, A, s, _, _, _, _, ra, rb, h, ca, cb, hu, j, h1, h2, hj => by
    cases ra with
    | cons r rs =>
      cases rb with
      | cons r' rs' =>
        cases j with
        | zero => exact rcLt_near x y A s _ _ _ _ r r' (near_all_cons h).1 (canLay_cons ca).1 (canLay_cons cb).1 (near_ne_none (near_all_cons h).1 hj) (room_head hu)
        | succ j => exact rcLt_nearAll xs ys A s _ _ _ _ rs rs' (near_all_cons h).2 (canLay_cons ca).2 (canLay_cons cb).2 (room_tail hu) j (Nat.lt_of_succ_lt_succ h1) (Nat.lt_of_succ_lt_succ h2) hj
end

/-! as sorting compares -/
section
variable {prog : Program} {w : World} {A : Around} {E : Value → Shared → Prop} {s : Shared}
theorem oneLt_near {f : Bool} {da db : PyData} {a b : Value} {as bs : List Addr} {Q : Bool → Shared → Prop} (hf : f = true → dataType da = dataType db ∧ isTupD da = false) (ra : Reads s.heap a da as) (rb : Reads s.heap b db bs) (h : near da db = true)
    (ca : da.canLay0 = true) (cb : db.canLay0 = true) (hn : da ≠ .none) (hu : A.units + min da.depth db.depth < cLine) (hq : Q (dataLt da db) s) : wpAny (model prog w) A (oneLt' f a b) Q E s := by
  cases f with
  | false =>
    rw [oneLt'_eq]
    simp only [Bool.false_eq_true, if_false]
    exact wpAny_bind (rcLt_near da db A s a b as bs ra rb h ca cb hn hu prog w E _ (wpAny_truthy_bool hq))
  | true =>
    obtain ⟨ht, hnt⟩ := hf rfl
    cases da with
    | none => exact absurd rfl hn
    | bool x =>
      cases db with
      | bool y =>
        cases ra
        cases rb
        rw [dataLt_bool] at hq
        exact oneLt_bool hq
      | int y => exact absurd ht (by simp [dataType])
      | _ => exact absurd h (by simp [near])
    | int x =>
      cases db with
      | int y =>
        cases ra
        cases rb
        rw [dataLt_int] at hq
        exact oneLt_int hq
      | bool y => exact absurd ht (by simp [dataType])
      | _ => exact absurd h (by simp [near])
    | str x =>
      cases db with
      | str y =>
        cases ra
        cases rb
        rw [dataLt_str] at hq
        exact oneLt_str hq
      | _ => exact absurd h (by simp [near])
    | list xs =>
      cases db with
      | list ys =>
        have hal : nearAll xs ys = true := by simpa [near] using h
        have ca' : PyData.canLayAll0 xs = true := by simpa [PyData.canLay0] using ca
        have cb' : PyData.canLayAll0 ys = true := by simpa [PyData.canLay0] using cb
        cases ra with
        | @list l o vs n _ as₁ h1 h2 h3 h4 =>
          cases rb with
          | @list l' o' vs' n' _ bs₁ k1 k2 k3 k4 =>
            have n1 : vs.size = xs.length := by simpa using SeqAt.ReadsAll.length _ _ _ h4
            have n2 : vs'.size = ys.length := by simpa using SeqAt.ReadsAll.length _ _ _ k4
            rw [dataLt_list, ← firstLt_near xs ys hal, ← n1, ← n2] at hq
            rw [oneLt'_eq]
            simp only [if_true]
            refine wpAny_bind (wpAny_cRoomFor (room_here hu) ?_)
            refine wpAny_bind (wpAny_callSpecialIfBound?_slot (T := "list") ⟨_, h1, h2⟩ F.slot_list_lt (call_list_lt (e := pairEq xs ys) (r := fun j => dataLt (xs.getD j .none) (ys.getD j .none)) ⟨_, h1, h2, _, h3⟩ ⟨_, k1, k2, _, k3⟩ (fun j j1 j2 => ?_) (fun j j1 j2 hj => ?_) ?_))
            · have := eqAt_readsAll xs ys A.in1 s vs.toList vs'.toList _ _ h4 k4 ca' cb' (room_in hu) j (by simpa using j1) (by simpa using j2)
              simpa using this
            · have := rcLt_nearAll xs ys A.in1 s vs.toList vs'.toList _ _ h4 k4 hal ca' cb' (room_in hu) j (by simpa using j1) (by simpa using j2) hj
              simpa using this
            · exact wpAny_truthy_bool hq
      | _ => exact absurd h (by simp [near])
    | tuple xs => exact absurd hnt (by simp [isTupD])
    | dict _ => exact absurd h (by cases db <;> simp [near])

theorem katLex_near {b fin : Bool} {Q : Bool → Shared → Prop} : ∀ (xs ys : List PyData) (i : Nat) (vs ws : List Value) (as bs : List Addr), ReadsAll s.heap vs xs as → ReadsAll s.heap ws ys bs → nearAll xs ys = true → PyData.canLayAll0 xs = true → PyData.canLayAll0 ys = true →
    A.units + min (PyData.depthAll xs) (PyData.depthAll ys) < cLine → (b = true → i = 0 → ∀ x r y t, xs = x :: r → ys = y :: t → dataType x = dataType y ∧ isTupD x = false) → fin = decide (xs.length < ys.length) → Q (PyProof.Rows.lexLt itemOrd (keyToksAll xs) (keyToksAll ys)) s → KatLex prog w A b fin Q (vs.zip ws) i s
  | [], [], i, _, _, _, _, ra, rb, _, _, _, _, _, hf, hq => by
    cases ra
    cases rb
    have e : fin = false := by rw [hf]; rfl
    subst e
    rw [lex_irrefl] at hq
    exact kat_nil hq
  | [], y :: ys, i, _, _, _, _, ra, rb, _, _, _, _, _, hf, hq => by
    cases ra
    have e : fin = true := by rw [hf]; exact decide_eq_true (Nat.succ_pos _)
    subst e
    rw [toks_all_cons] at hq
    simp only [keyToksAll] at hq
    rw [lex_diff (O := itemOrd) (by simp)] at hq
    rw [List.zip_nil_left]
    exact kat_nil (by simpa [itemLt] using hq)
  | x :: xs, [], i, _, _, _, _, ra, rb, _, _, _, _, _, hf, hq => by
    cases rb
    have e : fin = false := by rw [hf]; exact decide_eq_false (Nat.not_lt_zero _)
    subst e
    rw [toks_all_cons] at hq
    simp only [keyToksAll] at hq
    rw [lex_diff (O := itemOrd) (by simp)] at hq
    rw [List.zip_nil_right]
    exact kat_nil (by simpa [itemLt] using hq)
  | x :: xs, y :: ys, i, _, _, _, _, ra, rb, h, ca, cb, hu, hb, hf, hq => by
    obtain ⟨h1, h2⟩ := near_all_cons h
    obtain ⟨c1, c2⟩ := canLay_cons ca
    obtain ⟨d1, d2⟩ := canLay_cons cb
    have hf' : fin = decide (xs.length < ys.length) := by
      rw [hf]
      simp only [List.length_cons, Nat.add_lt_add_iff_right]
    cases ra with
    | cons r rs =>
      cases rb with
      | cons r' rs' =>
        rw [List.zip_cons_cons]
        refine kat_cons (eqAt_reads x y A s _ _ _ _ r r' c1 d1 (room_head hu) prog w _ _ ?_)
        cases hx : PyData.eqv x y with
        | true =>
          rw [near_all_yes h1 hx] at hq
          exact kat_yes (katLex_near xs ys (i + 1) _ _ _ _ rs rs' h2 c2 d2 (room_tail hu) (fun _ hi => absurd hi (Nat.succ_ne_zero i)) hf' hq)
        | false =>
          rw [near_all_no h1 hx] at hq
          refine kat_no (oneLt_near (fun hbi => ?_) r r' h1 c1 d1 (near_ne_none h1 hx) (room_head hu) hq)
          rw [Bool.and_eq_true] at hbi
          exact hb hbi.1 (by simpa using hbi.2) x xs y ys rfl rfl
end

/-! values that can be sorted -/
mutual
theorem reads_inj {h : Heap} : ∀ (d d' : PyData) (v : Value) (as as' : List Addr), d.canLay0 = true → Reads h v d as → Reads h v d' as' → d = d'
  | .none, _, _, _, _, _, r, r' => by cases r; cases r'; rfl
  | .bool _, _, _, _, _, _, r, r' => by cases r; cases r'; rfl
  | .int _, _, _, _, _, _, r, r' => by cases r; cases r'; rfl
  | .str _, _, _, _, _, _, r, r' => by cases r; cases r'; rfl
  | .list xs, d', _, _, _, ha, r, r' => by
    have c : PyData.canLayAll0 xs = true := by simpa [PyData.canLay0] using ha
    cases r with
    | list h1 h2 h3 h4 =>
      cases r' with
      | list k1 k2 k3 k4 =>
        rw [h1] at k1; cases k1
        rw [h3] at k3; cases k3
        rw [readsAll_inj xs _ _ _ _ c h4 k4]
      | tuple k1 k2 k3 k4 => rw [h1] at k1; cases k1; rw [h2] at k2; exact absurd k2 (by simp)
      | dict k1 k2 k3 k4 k5 => rw [h1] at k1; cases k1; rw [h2] at k2; exact absurd k2 (by simp)
  | .tuple xs, d', _, _, _, ha, r, r' => by
    have c : PyData.canLayAll0 xs = true := by simpa [PyData.canLay0] using ha
    cases r with
    | tuple h1 h2 h3 h4 =>
      cases r' with
      | tuple k1 k2 k3 k4 =>
        rw [h1] at k1; cases k1
        rw [h3] at k3; cases k3
        rw [readsAll_inj xs _ _ _ _ c h4 k4]
      | list k1 k2 k3 k4 => rw [h1] at k1; cases k1; rw [h2] at k2; exact absurd k2 (by simp)
      | dict k1 k2 k3 k4 k5 => rw [h1] at k1; cases k1; rw [h2] at k2; exact absurd k2 (by simp)
  | .dict _, _, _, _, _, ha, _, _ => absurd ha (by simp [PyData.canLay0])
theorem readsAll_inj {h : Heap} : ∀ (ds ds' : List PyData) (vs : List Value) (as as' : List Addr), PyData.canLayAll0 ds = true → ReadsAll h vs ds as → ReadsAll h vs ds' as' → ds = ds'
  | [], _, _, _, _, _, r, r' => by cases r; cases r'; rfl
  | d :: ds, _, _, _, _, ha, r, r' => by
    obtain ⟨c1, c2⟩ := canLay_cons ha
    cases r with
    | cons r1 r2 =>
      cases r' with
      | cons q1 q2 => rw [reads_inj d _ _ _ _ c1 r1 q1, readsAll_inj ds _ _ _ _ c2 r2 q2]
end
def AllNear (ds : List PyData) : Prop := ∀ d, d ∈ ds → ∀ d', d' ∈ ds → near d d' = true
/-- all are tuples whose first items are of one type, or all are of one other type -/
def Sortable2 (ds : List PyData) : Prop := ((∀ d, d ∈ ds → ∃ x r, d = .tuple (x :: r)) ∧ ∀ d, d ∈ ds → ∀ d', d' ∈ ds → dataType (firstD d) = dataType (firstD d')) ∨
  ((∀ d, d ∈ ds → d ≠ .none ∧ isTupD d = false) ∧ ∀ d, d ∈ ds → ∀ d', d' ∈ ds → dataType d = dataType d')
theorem dataKind_some2 {h : Heap} {ds : List PyData} (hc : ∀ d, d ∈ ds → d.canLay0 = true) {v : Value} {d : PyData} {as : List Addr} (hd : d ∈ ds) (r : Reads h v d as) : (dataKind h ds).keyOf v = some (keyToks d) := by
  have q : ∃ d, d ∈ ds ∧ ∃ as, Reads h v d as := ⟨d, hd, as, r⟩
  have e : (dataKind h ds).keyOf v = some (keyToks q.choose) := by
    show (open Classical in if q : ∃ d, d ∈ ds ∧ ∃ as, Reads h v d as then some (keyToks q.choose) else none) = _
    rw [dif_pos q]
  obtain ⟨h1, as', h2⟩ := q.choose_spec
  rw [e, reads_inj _ _ _ _ _ (hc _ h1) h2 r]
theorem each_keys2 {h : Heap} {ds : List PyData} (hc : ∀ d, d ∈ ds → d.canLay0 = true) {vs : List Value} (e : EachIs (fun v d => ∃ as, Reads h v d as) vs ds) : EachIs (fun v d => (dataKind h ds).keyOf v = some (keyToks d)) vs ds :=
  (each_mem e).mono fun _ _ ⟨⟨_, r⟩, hd⟩ => dataKind_some2 hc hd r
section
variable {prog : Program} {w : World} {A : Around} {s : Shared}
theorem isTup_type {x : PyData} (h : (dataType x != Value.type "tuple") = true) : isTupD x = false := by
  cases x with
  | tuple xs => exact absurd h (by simp [dataType])
  | _ => rfl
theorem type_isTup {x : PyData} (h : isTupD x = false) : (dataType x != Value.type "tuple") = true := by
  cases x with
  | tuple xs => exact absurd h (by simp [isTupD])
  | _ => first | rfl | decide
theorem sortsAt_near {vs : List Value} {ds : List PyData} (e : EachIs (fun v d => ∃ as, Reads s.heap v d as) vs ds) (hal : AllNear ds) (hc : ∀ d, d ∈ ds → d.canLay0 = true) (hk : Sortable2 ds) (hu : ∀ d, d ∈ ds → A.units + d.depth < cLine) :
    SortsAt prog w A s (dataKind s.heap ds) vs := by
  have room : ∀ {d d' : PyData}, d ∈ ds → A.units + min d.depth d'.depth < cLine := fun {d d'} hd => Nat.lt_of_le_of_lt (Nat.add_le_add_left (Nat.min_le_left _ _) _) (hu d hd)
  refine ⟨fun v hv => ?_, ?_⟩
  · obtain ⟨d, hd, as, r⟩ := e.left v hv
    exact ⟨_, dataKind_some2 hc hd r⟩
  · rcases hk with ⟨ht, hty⟩ | ⟨hn, hty⟩
    · cases ds with
      | nil =>
        cases e
        exact ⟨general', fun E x y a b Q ha _ _ => (by
          obtain ⟨d, _, hd, _⟩ := dataKind_inv ha
          exact absurd hd (by simp)), fun h2 => absurd h2 (by simp)⟩
      | cons d₀ ds₀ =>
        obtain ⟨x₀, r₀, e₀⟩ := ht d₀ (List.mem_cons_self ..)
        have hfirst : ∀ x r, PyData.tuple (x :: r) ∈ d₀ :: ds₀ → dataType x = dataType x₀ := by
          intro x r hm
          have q := hty _ hm d₀ (List.mem_cons_self ..)
          rw [e₀] at q
          exact q
        refine ⟨tuples' (dataType x₀ != Value.type "tuple"), ?_, fun h2 E Q hq => ?_⟩
        · intro E x y a b Q ha hb hq
          obtain ⟨d, as, hd, ra, rfl⟩ := dataKind_inv ha
          obtain ⟨d', as', hd', rb, rfl⟩ := dataKind_inv hb
          have hdd := hal d hd d' hd'
          have hroom := room (d' := d') hd
          have c1 := hc d hd
          have c2 := hc d' hd'
          obtain ⟨x1, r1, rfl⟩ := ht d hd
          obtain ⟨x2, r2, rfl⟩ := ht d' hd'
          have hq' : Q (dataLt (.tuple (x1 :: r1)) (.tuple (x2 :: r2))) s := hq
          rw [dataLt_tuple] at hq'
          cases ra with
          | @tuple l o xs n _ _ h1 h2 h3 h4 =>
            cases rb with
            | @tuple l' o' xs' n' _ _ k1 k2 k3 k4 =>
              have n1 : xs.size = (x1 :: r1).length := by simpa using SeqAt.ReadsAll.length _ _ _ h4
              have n2 : xs'.size = (x2 :: r2).length := by simpa using SeqAt.ReadsAll.length _ _ _ k4
              refine kat_lt h1 h3 k1 k3 (katLex_near (x1 :: r1) (x2 :: r2) 0 _ _ _ _ h4 k4 (by simpa [near] using hdd) (by simpa [PyData.canLay0] using c1) (by simpa [PyData.canLay0] using c2) (by have q := SeqAt.room_in hroom; omega) (fun hb _ x r y t ex ey => ?_) (by rw [n1, n2]) hq')
              obtain ⟨rfl, rfl⟩ := List.cons.inj ex
              obtain ⟨rfl, rfl⟩ := List.cons.inj ey
              refine ⟨(hfirst _ _ hd).trans (hfirst _ _ hd').symm, isTup_type ?_⟩
              rw [hfirst _ _ hd]
              exact hb
        · obtain ⟨fs, t1, t2, t3⟩ := each_katTups e ht
          refine kat_kind (T := dataType x₀) t1 (by omega) (fun f hf => ?_) (beq_self_eq_true _) hq
          obtain ⟨x, r, as, m1, m2⟩ := t3 f hf
          rw [← hfirst x r m1]
          exact looks_reads m2
    · refine ⟨oneType', ?_, fun h2 E Q hq => ?_⟩
      · intro E x y a b Q ha hb hq
        obtain ⟨d, as, hd, ra, rfl⟩ := dataKind_inv ha
        obtain ⟨d', as', hd', rb, rfl⟩ := dataKind_inv hb
        rw [keyLt'_oneType]
        exact oneLt_near (fun _ => ⟨hty d hd d' hd', (hn d hd).2⟩) ra rb (hal d hd d' hd') (hc d hd) (hc d' hd') (hn d hd).1 (room hd) hq
      · cases ds with
        | nil =>
          cases e
          exact absurd h2 (by simp)
        | cons d₀ ds₀ =>
          refine kas_kind (T := dataType d₀) h2 (fun v hv => ?_) (type_isTup (hn d₀ (List.mem_cons_self ..)).2) (beq_self_eq_true _) hq
          obtain ⟨d, hd, as, r⟩ := e.left v hv
          rw [← hty d hd d₀ (List.mem_cons_self ..)]
          exact looks_reads r
end
end DL
end
section
set_option Elab.async false
set_option linter.all false
set_option maxRecDepth 100000
set_option autoImplicit false
set_option maxHeartbeats 1000000
/-! DLd: comparisons, sorted, by values. -/
namespace DL
open PySem PySem.Spec PyProof.Rows L2
variable [Wd]

theorem canLay_of {d : D} (h : SeqAt.shaped d = true) : d.canLay0 = true := SeqAt.canLay_of_shaped h
/-! ### sorted -/
def rSortD (K : PySem.W.Frag) : List V → Hp → VK → Prop := fun xs H Q => ∃ (a : Addr) (vs : List V) (ds : List D), xs = [.ref a] ∧ SqL K H a vs ∧ DpAll K H vs ds ∧ AllNear ds ∧ (∀ d ∈ ds, SeqAt.shaped d = true) ∧ Sortable2 ds ∧
  ∀ p, H p = none → Q (.ref p) (upd H p (.lst (((vs.zip ds).mergeSort (PySem.W.dataLe false (·.2))).map (·.1))))
theorem each_pairs {K : PySem.W.Frag} {H : Hp} {X : Cx} {pins : List (Addr × Obj)} {σ : L2.St} {s : Shared} (I : Inv X pins σ H s) : ∀ {vs : List V} {ds : List D} {us : List Value}, DpAll X.K H vs ds → Vals vs us →
    PySem.W.EachIs (fun u (p : V × D) => RelV p.1 u ∧ ∃ as, Reads s.heap u p.2 as) us (vs.zip ds)
  | [], [], [], .nil, .nil => .nil
  | v :: vs, d :: ds, u :: us, .cons h1 h2, .cons r1 r2 => .cons ⟨r1, Dp.reads I d v u h1 r1⟩ (each_pairs (K := K) I h2 r2)
theorem vals_of_each : ∀ {us : List Value} {ps : List (V × D)}, PySem.W.EachIs (fun u (p : V × D) => RelV p.1 u) us ps → Vals (ps.map (·.1)) us
  | _, _, .nil => .nil
  | _, _, .cons h t => .cons h (vals_of_each t)
theorem zip_snd {α β : Type} : ∀ {xs : List α} {ys : List β}, xs.length = ys.length → (xs.zip ys).map (·.2) = ys
  | [], [], _ => rfl
  | _ :: _, _ :: _, h => by
    rw [List.zip_cons_cons, List.map_cons, zip_snd (by simpa using h)]
theorem zip_fst {α β : Type} : ∀ {xs : List α} {ys : List β}, xs.length = ys.length → (xs.zip ys).map (·.1) = xs
  | [], [], _ => rfl
  | _ :: _, _ :: _, h => by
    rw [List.zip_cons_cons, List.map_cons, zip_fst (by simpa using h)]
theorem dpAll_length {K : PySem.W.Frag} {H : Hp} : ∀ {vs : List V} {ds : List D}, DpAll K H vs ds → vs.length = ds.length
  | _, _, .nil => rfl
  | _, _, .cons _ b => by rw [List.length_cons, List.length_cons, dpAll_length b]
theorem cr_sortD {X : Cx} (hu : X.A.units + 200 < cLine) : CallR X (.builtin "sorted") (rSortD X.K) := by
  intro pins s σ H xs us Q I r h
  obtain ⟨a, vs, ds, rfl, hq, hd, hal, hsh, hk, q⟩ := h
  obtain ⟨its, rv, hl, hz⟩ := I.list hq
  rw [Vals.ref1 r]
  have hlen := dpAll_length hd
  have ez : (vs.zip ds).map (·.2) = ds := zip_snd hlen
  have e := each_pairs (K := X.K) I hd rv
  have old : ∀ b o, s.heap.get? b = some o → (PySem.W.sortingHeap (PySem.W.copyHeap s.heap its) (s.heap.objs.size + 1) its).get? b = some o := fun _ _ => PySem.W.sorting_copy_old
  have er : PySem.W.EachIs (fun u d => ∃ as, Reads (PySem.W.sortingHeap (PySem.W.copyHeap s.heap its) (s.heap.objs.size + 1) its) u d as) its ds := by
    have e2 := PySem.W.each_map (R := fun u d => ∃ as, Reads (PySem.W.sortingHeap (PySem.W.copyHeap s.heap its) (s.heap.objs.size + 1) its) u d as) (fun p : V × D => p.2)
      (e.mono fun _ _ ⟨_, as, rr⟩ => ⟨as, PyProof.Rows.Reads.keeps old rr⟩)
    rw [ez] at e2
    exact e2
  have S := sortsAt_near (prog := X.prog) (w := X.w) (A := X.A.in1.in1) (s := { s with heap := PySem.W.sortingHeap (PySem.W.copyHeap s.heap its) (s.heap.objs.size + 1) its }) er hal (fun d h => canLay_of (hsh d h)) hk
    (fun d h => by have := SeqAt.depth_of_shaped (hsh d h); show X.A.units + 1 + 1 + _ < _; omega)
  refine PySem.W.sorted_vals hl.isList S (by rw [← rv.length]; exact hz) ?_
  have ks : PySem.W.EachIs (fun v b => (PySem.W.dataKind (PySem.W.sortingHeap (PySem.W.copyHeap s.heap its) (s.heap.objs.size + 1) its) ds).keyOf v = some (PySem.W.keyToks b.2)) its (vs.zip ds) := by
    have k := each_keys2 (fun d h => canLay_of (hsh d h)) er
    rw [← ez] at k
    exact PySem.W.each_of_map (fun p : V × D => p.2) (by rw [ez] at k; rw [ez]; exact k)
  have out := PySem.W.sortVals_each (κ := PySem.W.dataKind (PySem.W.sortingHeap (PySem.W.copyHeap s.heap its) (s.heap.objs.size + 1) its) ds) (R := fun u (p : V × D) => RelV p.1 u) (rev := false) (fun p : V × D => PySem.W.keyToks p.2) (e.mono fun _ _ z => z.1) ks
  obtain ⟨ep, he'⟩ := PyProof.Rows.sortedAll_at s.heap its (PySem.W.sortVals (PySem.W.dataKind (PySem.W.sortingHeap (PySem.W.copyHeap s.heap its) (s.heap.objs.size + 1) its) ds) false its its).toArray
  have vo := vals_of_each out
  have hlen2 : (((vs.zip ds).mergeSort (PySem.W.dataLe false (·.2))).map (·.1)).length ≤ sizeLine := by
    rw [List.length_map, List.length_mergeSort, List.length_zip, hlen, Nat.min_self, ← hlen]
    exact hz
  exact ⟨.ref _, upd H (s.heap.objs.size + 1) (.lst (((vs.zip ds).mergeSort (PySem.W.dataLe false (·.2))).map (·.1))), I.laid (t' := s.toks) (fun _ _ => PyProof.Rows.sortedAll_old) (Nat.le_succ _) ⟨hlen2, _, ep, vo, he'⟩, rfl, q _ (I.hok.fresh (Nat.le_succ _))⟩

theorem map_sort {α β : Type} (f : α → β) (le : β → β → Bool) : ∀ l : List α, (l.mergeSort fun a b => le (f a) (f b)).map f = (l.map f).mergeSort le := fun l =>
  List.map_mergeSort (r := fun a b => le (f a) (f b)) (s := le) (f := f) fun _ _ _ _ => rfl
theorem repAll_sorted {K : PySem.W.Frag} {H : Hp} {Lv : Addr → Prop} {vs : List V} {ds : List D} (r : RepAll K H Lv vs ds) :
    RepAll K H Lv (((vs.zip ds).mergeSort (PySem.W.dataLe false (·.2))).map (·.1)) (sortD ds) := by
  have e : sortD ds = ((vs.zip ds).mergeSort (PySem.W.dataLe false (·.2))).map (·.2) := by
    unfold sortD
    have q := map_sort (fun p : V × D => p.2) (PySem.W.dataLe false id) (vs.zip ds)
    rw [zip_snd r.length] at q
    exact q.symm
  rw [e]
  have hp := List.mergeSort_perm (vs.zip ds) (PySem.W.dataLe false (·.2))
  have mem : ∀ {vs : List V} {ds : List D}, RepAll K H Lv vs ds → ∀ p ∈ vs.zip ds, Rep K H Lv p.1 p.2 := by
    intro vs ds r
    induction r using RepAll.rec (motive_1 := fun _ _ _ => True) with
    | nil => intro p hp; simp at hp
    | cons a t _ ih =>
      intro p hp
      rw [List.zip_cons_cons] at hp
      rcases List.mem_cons.mp hp with e | hp
      · rw [e]; exact a
      · exact ih p hp
    | _ => trivial
  have all : ∀ l : List (V × D), (∀ p ∈ l, Rep K H Lv p.1 p.2) → RepAll K H Lv (l.map (·.1)) (l.map (·.2)) := by
    intro l
    induction l with
    | nil => intro _; exact .nil
    | cons p l ih => intro h; exact .cons (h p List.mem_cons_self) (ih fun q hq => h q (List.mem_cons_of_mem _ hq))
  exact all _ fun p h => mem r p (hp.mem_iff.mp h)
theorem tyNo_type {x y : D} (h : tyNo x = tyNo y) : PySem.W.dataType x = PySem.W.dataType y := by
  cases x <;> cases y <;> first | rfl | exact absurd h (by simp [tyNo])
theorem sortOk_ok {xs : List D} (h : sortOk xs = true) : AllNear xs ∧ (∀ d ∈ xs, SeqAt.shaped d = true) ∧ Sortable2 xs := by
  unfold sortOk allSame at h
  simp only [Bool.and_eq_true, Bool.or_eq_true, List.all_eq_true, beq_iff_eq] at h
  obtain ⟨⟨h1, h2⟩, h3⟩ := h
  refine ⟨h2, h1, ?_⟩
  rcases h3 with ⟨a, b⟩ | ⟨a, b⟩
  · refine .inl ⟨fun d hd => ?_, fun d hd d' hd' => tyNo_type (b d hd d' hd')⟩
    have q := a d hd
    cases d with
    | tuple zs =>
      cases zs with
      | nil => exact absurd q (by simp [isTup1])
      | cons z zs => exact ⟨z, zs, rfl⟩
    | _ => exact absurd q (by simp [isTup1])
  · refine .inr ⟨fun d hd => ?_, fun d hd d' hd' => tyNo_type (b d hd d' hd')⟩
    obtain ⟨q1, q2⟩ := a d hd
    refine ⟨fun e => ?_, by simpa using q2⟩
    rw [e] at q1
    exact absurd q1 (by simp [notNone])

/-! ### comparisons -/
def cmPy : Cm → CmpOp
  | .eq => .Eq | .ne => .NotEq | .lt => .Lt | .le => .LtE | .gt => .Gt | .ge => .GtE | .isin => .In | .notin => .NotIn | .is => .Is | .isnot => .IsNot
def rLtD (K : PySem.W.Frag) : R2 := fun x y H Q => ∃ d e, Dp K H x d ∧ Dp K H y e ∧ SeqAt.shaped d = true ∧ SeqAt.shaped e = true ∧ near d e = true ∧ d ≠ .none ∧ Q (.bl (PySem.W.dataLt d e)) H
theorem op_ltD {X : Cx} (hu : X.A.units + 64 < cLine) : OpR X (compareOp .Lt) (rLtD X.K) := by
  intro pins s σ H x y v u Q I rx ry h
  obtain ⟨d, e, hd, he, sd, se, hn, hnn, q⟩ := h
  obtain ⟨as, r1⟩ := Dp.reads I d x v hd rx
  obtain ⟨bs, r2⟩ := Dp.reads I e y u he ry
  exact rcLt_near d e X.A s v u as bs r1 r2 hn (canLay_of sd) (canLay_of se) hnn (by have := SeqAt.depth_of_shaped sd; have := Nat.min_le_left d.depth e.depth; omega) X.prog X.w _ _ ⟨.bl _, H, I, rfl, q⟩
def rInT (K : PySem.W.Frag) : R2 := fun x y H Q => ∃ d ds, Dp K H x d ∧ Dp K H y (.tuple ds) ∧ SeqAt.shaped d = true ∧ SeqAt.shaped (.tuple ds) = true ∧ Q (.bl (ds.any fun z => PyData.eqv z d)) H
def rNotInT (K : PySem.W.Frag) : R2 := fun x y H Q => ∃ d ds, Dp K H x d ∧ Dp K H y (.tuple ds) ∧ SeqAt.shaped d = true ∧ SeqAt.shaped (.tuple ds) = true ∧ Q (.bl (!ds.any fun z => PyData.eqv z d)) H
theorem room_inT {A : Around} {d : D} {n : Nat} (sd : SeqAt.shaped d = true) (hu : A.units + 65 < cLine) : A.units + 1 + min n d.depth < cLine := by
  have := SeqAt.depth_of_shaped sd
  have := Nat.min_le_right n d.depth
  omega
theorem op_inT {X : Cx} (hu : X.A.units + 65 < cLine) : OpR X (compareOp .In) (rInT X.K) := by
  intro pins s σ H x y v u Q I rx ry h
  obtain ⟨d, ds, hd, he, sd, se, q⟩ := h
  obtain ⟨as, r1⟩ := Dp.reads I d x v hd rx
  obtain ⟨bs, r2⟩ := Dp.reads I (.tuple ds) y u he ry
  exact SeqAt.in_tuple_reads r2 r1 (SeqAt.canLay_of_shaped se) (SeqAt.canLay_of_shaped sd) (room_inT sd hu) ⟨.bl _, H, I, rfl, q⟩
theorem op_notInT {X : Cx} (hu : X.A.units + 65 < cLine) : OpR X (compareOp .NotIn) (rNotInT X.K) := by
  intro pins s σ H x y v u Q I rx ry h
  obtain ⟨d, ds, hd, he, sd, se, q⟩ := h
  obtain ⟨as, r1⟩ := Dp.reads I d x v hd rx
  obtain ⟨bs, r2⟩ := Dp.reads I (.tuple ds) y u he ry
  exact SeqAt.notIn_tuple_reads r2 r1 (SeqAt.canLay_of_shaped se) (SeqAt.canLay_of_shaped sd) (room_inT sd hu) ⟨.bl _, H, I, rfl, q⟩
def rCm (K : PySem.W.Frag) : Cm → R2
  | .eq => rEqD K
  | .ne => rNeD K
  | .lt => rLtD K
  | .le => rI0 fun i j => .bl (decide (i ≤ j))
  | .gt => rI0 fun i j => .bl (decide (j < i))
  | .ge => rI0 fun i j => .bl (decide (j ≤ i))
  | .isin => orR (rInD K) (orR (rInT K) (rDIn K))
  | .notin => orR (rNotInD K) (orR (rNotInT K) (rDNot K))
  | .is => orR (fun x y H Q => y = .non ∧ Q (.bl (decide (x = .non))) H) rIsB
  | .isnot => orR (fun x y H Q => y = .non ∧ Q (.bl (!decide (x = .non))) H) rNotB
theorem cm_ok {X : Cx} (c : Cm) (hu : CU X) : OpR X (compareOp (cmPy c)) (rCm X.K c) := by
  have h0 := hu.1
  have h1 : X.A.units + 64 < cLine := by omega
  have h2 : X.A.units + 65 < cLine := by omega
  cases c with
  | eq => exact op_eqD h1
  | ne => exact op_neD h1
  | lt => exact op_ltD h1
  | le => exact op_le
  | gt => exact op_gt
  | ge => exact op_ge
  | isin => exact (op_inD h2).or ((op_inT h2).or (op_din hu))
  | notin => exact (op_notInD h2).or ((op_notInT h2).or (op_dnot hu))
  | is => exact op_isN.or op_isBl
  | isnot => exact op_notN.or op_notBl
end DL
end
section
set_option Elab.async false
set_option linter.all false
set_option maxRecDepth 100000
set_option autoImplicit false
set_option maxHeartbeats 1000000
/-! DN4: d[k], d[k] = v, len, list, sorted of dicts, by values. -/
namespace DL
open PySem PySem.Spec PyProof.Rows L2
variable [Wd]
section
variable {X : Cx}
def rDIx (K : PySem.W.Frag) : R2 := fun x y H Q => ∃ a ns k v, x = .ref a ∧ DKey K H a y ns k ∧ fnd ns k = some v ∧ Q v H
theorem ix_dic (hu : CU X) : IxR X (rDIx X.K) := by
  intro value slice pins s σ H x y v u Q I rx ry ⟨a, ns, k, z, e, dk, hz, q⟩ hs
  subst e
  cases rx
  have D := dk.at_
  rw [← hu.2] at D
  obtain ⟨es, ep, he, _⟩ := D.ex
  obtain ⟨raw, _⟩ := dic_raw I he
  exact tail_any raw.typeIs PySem.F.slot_dict_getitem.lookup (n_getItem (by have := hu.1; omega) I D dk.is dk.ky dk.ag ry hz fun w' s' I' r => ⟨z, H, I', r, q⟩) hs
def rIxA (K : PySem.W.Frag) : R2 := fun x y H Q => rIx K x y H Q ∨ rDIx K x y H Q
theorem ix_all (hu : CU X) : IxR X (rIxA X.K) := ix_seq.or (ix_dic hu)
def rSetDic (K : PySem.W.Frag) : V → V → V → Hp → (Hp → Prop) → Prop := fun o i v H Q => ∃ a ns k, o = .ref a ∧ DKey K H a i ns k ∧ ∀ es ep, Paired (EntR Wd.w) es.toList (putN ns k i v) → Q (upd H a (DicO a es ep))
theorem set_dic (hu : CU X) : PSet X (rSetDic X.K) := by
  intro pins s σ H o i v ov iv u Q I ro ri rv ⟨a, ns, k, e, dk, q⟩
  subst e
  cases ro
  have D := dk.at_
  rw [← hu.2] at D
  refine n_set (by have := hu.1; omega) I D dk.is dk.ky dk.ag ri rv fun s' es ep I' p => ?_
  rw [hu.2] at p
  exact ⟨_, I', q es ep p⟩
theorem keys_vals {w : World} : ∀ {es : List DictEntry} {ns : List Tri} {us : List Value}, Paired (EntR w) es ns → us.length = ns.length → (∀ (j : Nat) (v : Value), us[j]? = some v → ∃ e, es[j]? = some e ∧ v = e.key) → Vals (ns.map (·.2.1)) us
  | _, _, [], .nil, _, _ => .nil
  | _, _, _ :: _, .nil, hl, _ => by simp at hl
  | _, _, [], .cons _ _, hl, _ => by simp at hl
  | _, _, u :: us, .cons r t, hl, h => by
    obtain ⟨e, h1, h2⟩ := h 0 u rfl
    cases h1
    rw [List.map_cons]
    exact .cons (h2 ▸ r.2.1) (keys_vals t (by simpa using hl) fun j v q => h (j + 1) v (by simpa using q))
theorem call_lenN : CallR X (.builtin "len") (fun xs H Q => ∃ a ns, xs = [.ref a] ∧ DicAt X.w H a ns ∧ Q (.int (ns.length : Nat)) H) := by
  intro pins s σ H xs us Q I r ⟨a, ns, e, D, q⟩
  subst e
  rw [Vals.ref1 r]
  exact n_len I D fun t s' I' => ⟨.int _, H, I', ⟨t, rfl⟩, q⟩
theorem call_listN (hc : X.calm = true) : CallR X (.type "list") (fun xs H Q => ∃ a ns, xs = [.ref a] ∧ DicAt X.w H a ns ∧ ∀ p, H p = none → Q (.ref p) (upd H p (.lst (ns.map (·.2.1))))) := by
  intro pins s σ H xs us Q I r ⟨a, ns, e, D, q⟩
  subst e
  rw [Vals.ref1 r]
  obtain ⟨es, ep, e, p⟩ := D.ex
  obtain ⟨raw, hs⟩ := dic_raw I e
  have hl : es.size = ns.length := by rw [← Array.length_toList]; exact Paired.length p
  refine PySem.W.kdl_call (KdlSrc.rawDict (es := es) (ep := ep) hs) (I.ok.hd hc) raw (by rw [hl]; exact D.len) fun h' tk acc c hk ho hi => ?_
  have hv : Vals (ns.map (·.2.1)) acc.toList := by
    refine keys_vals p (by rw [Array.length_toList, hi.1, hl]) fun j v q => ?_
    obtain ⟨hj, e⟩ := hi.2 j v (by rw [← Array.getElem?_toList]; exact q)
    exact ⟨es[j], by rw [Array.getElem?_toList, Array.getElem?_eq_getElem hj], e⟩
  exact ⟨.ref _, _, I.laid (t' := tk) (o := .lst (ns.map (·.2.1))) hk (Nat.le_refl _) ⟨by rw [List.length_map]; exact D.len, acc.toList, c, hv, by rw [Array.toArray_toList]; exact ho⟩, rfl, q _ (I.hok.fresh (Nat.le_refl _))⟩
/-- sorted of what is gathered -/
theorem sort_core {pins : List (Addr × Obj)} {s : Shared} {σ : L2.St} {H : Hp} {Q : VK} {u : Value} {vs : List V} {ds : List D} (hu : X.A.units + 200 < cLine) (I : Inv X pins σ H s) (hd : DpAll X.K H vs ds) (hal : AllNear ds) (hsh : ∀ d ∈ ds, SeqAt.shaped d = true) (hk : Sortable2 ds)
    (q : ∀ p, H p = none → Q (.ref p) (upd H p (.lst (((vs.zip ds).mergeSort (PySem.W.dataLe false (·.2))).map (·.1))))) (hz : vs.length ≤ sizeLine)
    (col : ∀ (R : List Value → Shared → Prop) (E' : Value → Shared → Prop), (∀ h' tk us, (∀ b o, s.heap.get? b = some o → h'.get? b = some o) → Vals vs us → R us { s with heap := h', toks := tk }) → wpAny (model X.prog X.w) X.A.in1 (collect u) R E' s) :
    wpAny (model X.prog X.w) X.A (call (.builtin "sorted") [u]) (EP X pins σ Q) X.xe s := by
  refine Calls.call_function_entry PyProof.Rows.kind_sorted PyProof.Rows.plain_sorted PyProof.Rows.entry_sorted (PyProof.Rows.args_sorted1 _) ?_
  unfold Builtin.«sorted»
  refine wpAny_bind (m := checkCount "sorted" 1 1 _) (wpAny_pure ?_)
  refine wpAny_bind (col _ _ fun h' tk its hkp rv => ?_)
  have I1 : Inv X pins σ H { s with heap := h', toks := tk } := I.kept hkp
  have hL : its.length ≤ sizeLine := by rw [← rv.length]; exact hz
  refine wpAny_bind (wpAny_newList ?_ hL)
  have hoL : (h'.push (seqObj "list" its.toArray 0)).get? h'.objs.size = some (seqObj "list" its.toArray 0) := Heap.get?_push_size _ rfl
  show wpAny _ _ _ _ _ { s with heap := h'.push (seqObj "list" its.toArray 0), toks := tk }
  have hlen := dpAll_length hd
  have ez : (vs.zip ds).map (·.2) = ds := zip_snd hlen
  have e := each_pairs (K := X.K) I1 hd rv
  have old : ∀ b o, h'.get? b = some o → (PySem.W.sortingHeap (h'.push (seqObj "list" its.toArray 0)) h'.objs.size its).get? b = some o := fun b o q =>
    PySem.W.sortingHeap_old (Nat.ne_of_lt (Heap.lt_size q)) (Heap.get?_push_of_some _ q)
  have er : PySem.W.EachIs (fun u d => ∃ as, Reads (PySem.W.sortingHeap (h'.push (seqObj "list" its.toArray 0)) h'.objs.size its) u d as) its ds := by
    have e2 := PySem.W.each_map (R := fun u d => ∃ as, Reads (PySem.W.sortingHeap (h'.push (seqObj "list" its.toArray 0)) h'.objs.size its) u d as) (fun p : V × D => p.2)
      (e.mono fun _ _ ⟨_, as, rr⟩ => ⟨as, PyProof.Rows.Reads.keeps old rr⟩)
    rw [ez] at e2
    exact e2
  have S := sortsAt_near (prog := X.prog) (w := X.w) (A := X.A.in1.in1) (s := { s with heap := PySem.W.sortingHeap (h'.push (seqObj "list" its.toArray 0)) h'.objs.size its, toks := tk }) er hal (fun d h => canLay_of (hsh d h)) hk
    (fun d h => by have := SeqAt.depth_of_shaped (hsh d h); show X.A.units + 1 + 1 + _ < _; omega)
  refine wpAny_bind (wpAny_holding (wpAny_call_entry PyProof.Rows.slot_list_sort ⟨_, hoL, rfl⟩ PyProof.Rows.entry_list_sort
    (PySem.W.list_sort_vals (s := { s with heap := h'.push (seqObj "list" its.toArray 0), toks := tk }) hoL S hL ⟨_, rfl, ?_⟩) (PyProof.Rows.args_list_sort _)))
  have ks : PySem.W.EachIs (fun v b => (PySem.W.dataKind (PySem.W.sortingHeap (h'.push (seqObj "list" its.toArray 0)) h'.objs.size its) ds).keyOf v = some (PySem.W.keyToks b.2)) its (vs.zip ds) := by
    have k := each_keys2 (fun d h => canLay_of (hsh d h)) er
    rw [← ez] at k
    exact PySem.W.each_of_map (fun p : V × D => p.2) (by rw [ez] at k; rw [ez]; exact k)
  have out := PySem.W.sortVals_each (κ := PySem.W.dataKind (PySem.W.sortingHeap (h'.push (seqObj "list" its.toArray 0)) h'.objs.size its) ds) (R := fun u (p : V × D) => RelV p.1 u) (rev := false) (fun p : V × D => PySem.W.keyToks p.2) (e.mono fun _ _ z => z.1) ks
  obtain ⟨ep, he'⟩ := PyProof.Rows.sortedHeap_at (vs := its) (out := (PySem.W.sortVals (PySem.W.dataKind (PySem.W.sortingHeap (h'.push (seqObj "list" its.toArray 0)) h'.objs.size its) ds) false its its).toArray) hoL
  have vo := vals_of_each out
  have hlen2 : (((vs.zip ds).mergeSort (PySem.W.dataLe false (·.2))).map (·.1)).length ≤ sizeLine := by
    rw [List.length_map, List.length_mergeSort, List.length_zip, hlen, Nat.min_self, ← hlen]
    exact hz
  refine wpAny_pure ⟨_, rfl, .ref h'.objs.size, _, I1.laid (t' := tk) (o := .lst (((vs.zip ds).mergeSort (PySem.W.dataLe false (·.2))).map (·.1))) (fun b u e => ?_) (Nat.le_refl _) ⟨hlen2, _, ep, vo, he'⟩, rfl, q _ (I1.hok.fresh (Nat.le_refl _))⟩
  have hb : b < h'.objs.size := Heap.lt_size e
  rw [PyProof.Rows.sortedHeap_old (Nat.ne_of_lt hb) (by rw [size_push']; exact Nat.lt_succ_of_lt hb)]
  exact Heap.get?_push_of_some _ e
/-- sorted(d) -/
def rSortN (K : PySem.W.Frag) (w : World) : List V → Hp → VK → Prop := fun xs H Q => ∃ (a : Addr) (ns : List Tri) (ds : List D), xs = [.ref a] ∧ DicAt w H a ns ∧ DpAll K H (ns.map (·.2.1)) ds ∧ AllNear ds ∧ (∀ d ∈ ds, SeqAt.shaped d = true) ∧ Sortable2 ds ∧
  ∀ p, H p = none → Q (.ref p) (upd H p (.lst ((((ns.map (·.2.1)).zip ds).mergeSort (PySem.W.dataLe false (·.2))).map (·.1))))
theorem call_sortN (hc : X.calm = true) (hu : X.A.units + 200 < cLine) : CallR X (.builtin "sorted") (rSortN X.K X.w) := by
  intro pins s σ H xs us Q I r ⟨a, ns, ds, e, D, hd, hal, hsh, hk, q⟩
  subst e
  rw [Vals.ref1 r]
  obtain ⟨es, ep, e, p⟩ := D.ex
  obtain ⟨raw, hs⟩ := dic_raw I e
  have hl : es.size = ns.length := by rw [← Array.length_toList]; exact Paired.length p
  refine sort_core hu I hd hal hsh hk q (by rw [List.length_map]; exact D.len) fun R E' k => ?_
  refine PySem.W.kdu_collect (A := X.A.in1) (KdlSrc.rawDict (es := es) (ep := ep) hs) (I.ok.hd hc) raw (by rw [hl]; exact D.len) fun h' tk acc hk hi => k h' tk _ hk ?_
  refine keys_vals p (by rw [Array.length_toList, hi.1, hl]) fun j v q => ?_
  obtain ⟨hj, e⟩ := hi.2 j v (by rw [← Array.getElem?_toList]; exact q)
  exact ⟨es[j], by rw [Array.getElem?_toList, Array.getElem?_eq_getElem hj], e⟩
end
end DL
end
section
set_option Elab.async false
set_option linter.all false
set_option maxRecDepth 100000
set_option autoImplicit false
set_option maxHeartbeats 1000000
/-! DLe: readings by the evaluator, for each form of an expression. -/
namespace DL
open PySem PySem.Spec PyProof.Rows L2
variable [Wd]

inductive RepWs (K : PySem.W.Frag) (ι : Ix) (m : Store) (H : Hp) : List V → List Val → Prop
  | nil : RepWs K ι m H [] []
  | cons {v : V} {vs : List V} {w : Val} {ws : List Val} : RepW K ι m H v w → RepWs K ι m H vs ws → RepWs K ι m H (v :: vs) (w :: ws)
section
variable {K : PySem.W.Frag} {ι ι' : Ix} {m m' : Store} {H H' : Hp}
theorem RepWs.le (a : Le ι m H ι' m' H') : ∀ {vs : List V} {ws : List Val}, RepWs K ι m H vs ws → RepWs K ι' m' H' vs ws
  | _, _, .nil => .nil
  | _, _, .cons h t => .cons (h.le a) (RepWs.le a t)
theorem RepWs.length : ∀ {vs : List V} {ws : List Val}, RepWs K ι m H vs ws → vs.length = ws.length
  | _, _, .nil => rfl
  | _, _, .cons _ t => by rw [List.length_cons, List.length_cons, RepWs.length t]
theorem RepWs.allD : ∀ {vs : List V} {ws : List Val} {xs : List D}, RepWs K ι m H vs ws → DL.allD ws = some xs → RepAll K H (Live ι m) vs xs
  | _, _, _, .nil, h => by cases h; exact .nil
  | _, w :: ws, xs, .cons r t, h => by
    cases w with
    | r n => cases h
    | d x =>
      have h' : (DL.allD ws).map (x :: ·) = some xs := h
      cases e : DL.allD ws with
      | none => rw [e] at h'; cases h'
      | some ys => rw [e] at h'; cases h'; exact .cons r (RepWs.allD t e)
end

section
variable (K : PySem.W.Frag) (RX : RXT) (W : WX)
def tX (f : Env → Store → R Val) : TE := fun σ H Q => ∃ ρ m ι, EnvOk K ι m H ρ σ ∧ StOk K ι m H ∧ PostR K RX W ι m H (f ρ m) (GV K Q)
def tT (f : Env → Store → R Bool) : TT := fun σ H Q => ∃ ρ m ι, EnvOk K ι m H ρ σ ∧ StOk K ι m H ∧ PostR K RX W ι m H (f ρ m) (fun b _ _ H' => Q b H')
def tA (f : Env → Store → R (List Val)) : TA := fun σ H Q => ∃ ρ m ι, EnvOk K ι m H ρ σ ∧ StOk K ι m H ∧ PostR K RX W ι m H (f ρ m) (fun ws ι' m' H' => ∀ vs, RepWs K ι' m' H' vs ws → Q vs H')
def tO (f : Env → Store → R (Option Int)) : TO := fun σ H Q => ∃ ρ m ι, EnvOk K ι m H ρ σ ∧ StOk K ι m H ∧ PostR K RX W ι m H (f ρ m) (fun o _ _ H' => Q o H')
end
theorem PE.imp {X : Cx} {e : Expr} {t t' : TE} (h : PE X e t) (i : ∀ σ H Q, t' σ H Q → t σ H Q) : PE X e t' := ⟨fun pins s σ H Q I hw => h.run pins s σ H Q I (i σ H Q hw)⟩
theorem PT.imp {X : Cx} {e : Expr} {t t' : TT} (h : PT X e t) (i : ∀ σ H Q, t' σ H Q → t σ H Q) : PT X e t' := ⟨fun pins s σ H Q I hw => h.run pins s σ H Q I (i σ H Q hw)⟩
theorem PW.imp {X : Cx} {e : Expr} {t t' : TT} (h : PW X e t) (i : ∀ σ H Q, t' σ H Q → t σ H Q) : PW X e t' := ⟨fun whole pins s σ H Q I hw => h.run whole pins s σ H Q I (i σ H Q hw)⟩
theorem PA.imp {X : Cx} {es : List Expr} {t t' : TA} (h : PA X es t) (i : ∀ σ H Q, t' σ H Q → t σ H Q) : PA X es t' := ⟨fun pos pins s σ H Q I hw => h.run pos pins s σ H Q I (i σ H Q hw)⟩
theorem PO.imp {X : Cx} {e : Option Expr} {t t' : TO} (h : L2.PO X e t) (i : ∀ σ H Q, t' σ H Q → t σ H Q) : L2.PO X e t' := ⟨fun pins s σ H Q I hw => h.run pins s σ H Q I (i σ H Q hw)⟩

omit [Wd] in
theorem R.bind_assoc {α β γ : Type} (r : R α) (f : α → Store → R β) (g : β → Store → R γ) : (r.bind f).bind g = r.bind fun a m => (f a m).bind g := by
  cases r <;> rfl
omit [Wd] in
theorem truR_ok {v : Val} {m m' : Store} {b : Bool} (h : truR v m = .ok b m') : m' = m := by
  unfold truR at h
  cases e : rd v m with
  | none => rw [e] at h; cases h
  | some x =>
    rw [e] at h
    dsimp only at h
    cases e2 : tru x with
    | none => rw [e2] at h; cases h
    | some k => rw [e2] at h; cases h; rfl

section
variable {X : Cx} {RX : RXT} {W : WX} {F : Type} {Φ : F → List Val → Store → R Val} {L : Nat} {e a b c : Expr} {es : List Expr} {pos : Pos}
  {ι : Ix} {m : Store} {H : Hp} {Q : VK} {x y : V} {v w : Val}
theorem RepT.keyRep {K : PySem.W.Frag} {Lv : Addr → Prop} {d : D} (r : RepT K H Lv x d) (h : keyN 8 d = true) : Rep K H Lv x d := by
  cases r with
  | rep r => exact r
  | lst => cases h
  | dic => cases h
/-- a value's truth -/
theorem truV_of {t : Bool} {d : D} {K : PySem.W.Frag} {Lv : Addr → Prop} (r : RepT K H Lv x d) (h : tru d = some t) : TruV K x H t := by
  cases d with
  | none => cases h; rw [r.non]; exact rfl
  | bool b => cases h; rw [r.bool]; exact rfl
  | int i => cases h; rw [r.int]; exact rfl
  | str z =>
    have h' : (if z.length ≤ sizeLine then some ((z.length : Int) != 0) else none) = some t := h
    by_cases hz : z.length ≤ sizeLine
    · rw [if_pos hz] at h'; cases h'; rw [r.str]; exact ⟨hz, rfl⟩
    · rw [if_neg hz] at h'; cases h'
  | list xs =>
    cases h
    obtain ⟨a, vs, rfl, q, ra⟩ := r.list
    refine .inl ⟨vs, q, ?_⟩
    cases ra <;> rfl
  | tuple xs =>
    cases h
    obtain ⟨a, vs, rfl, q, ra⟩ := r.tuple
    refine .inr (.inl ⟨vs, q, ?_⟩)
    cases ra <;> rfl
  | dict kvs => cases h
theorem post_tru {K : PySem.W.Frag} {G : Bool → Ix → Store → Hp → Prop} (s : StOk K ι m H) (r : RepW K ι m H x v) (h : PostR K RX W ι m H (truR v m) G) : ∃ t, truR v m = .ok t m ∧ TruV K x H t ∧ G t ι m H := by
  cases e1 : rd v m with
  | none => unfold truR at h; rw [e1] at h; exact False.elim h
  | some d =>
    cases e2 : tru d with
    | none => unfold truR at h; rw [e1] at h; dsimp only at h; rw [e2] at h; exact False.elim h
    | some t =>
      have e3 : truR v m = .ok t m := by unfold truR; rw [e1]; dsimp only; rw [e2]
      rw [e3] at h
      exact ⟨t, e3, truV_of (RepT.of s r e1) e2, h.here s⟩

/-- data that stand wherever they are read -/
theorem ok_lit {d : D} {t : TE} (ht : PE X e t) (h : ∀ σ H Q, (∀ v, (∀ Lv, Rep X.K H Lv v d) → Q v H) → t σ H Q) : PE X e (tX X.K RX W (ev Φ (.lit d : PX F))) := by
  refine PE.imp ht fun σ H Q ⟨ρ, m, ι, en, st, p⟩ => h σ H Q fun v r => ?_
  exact p.here st v (r _)
theorem ok_loc {i : Nat} (ht : PE X e (tVar i)) : PE X e (tX X.K RX W (ev Φ (.loc i : PX F))) := by
  refine PE.imp ht fun σ H Q ⟨ρ, m, ι, en, st, p⟩ => ?_
  have p' : PostR X.K RX W ι m H (match ρ[i]? with | some (some v) => R.ok v m | _ => .no) (GV X.K Q) := p
  cases h : ρ[i]? with
  | none => rw [h] at p'; exact False.elim p'
  | some o =>
    cases o with
    | none => rw [h] at p'; exact False.elim p'
    | some w =>
      rw [h] at p'
      obtain ⟨v, e, r⟩ := en.ok i w h
      exact ⟨v, e, p'.here st v r⟩
/-! ### lists of expressions -/
theorem ok_nil : PA X [] (tA X.K RX W (evs Φ (.nil : PXs F))) := PA.imp pa_nil fun σ H Q ⟨ρ, m, ι, en, st, p⟩ => p.here st [] .nil
theorem ok_cons {k : Bool} {p : PX F} {ps : PXs F} (he : PE X e (tX X.K RX W (ev Φ p))) (hs : PA X es (tA X.K RX W (evs Φ ps))) (hst : starEach (e :: es) X.env = (false, eval e X.env) :: starEach es X.env) :
    PA X (e :: es) (tA X.K RX W (evs Φ (.cons k p ps))) := by
  refine PA.imp (pa_cons he hs hst) fun σ H Q ⟨ρ, m, ι, en, st, q⟩ => ?_
  have q' : PostR X.K RX W ι m H ((ev Φ p ρ m).bind fun v m1 => (if k then .ok v m1 else (fz v m1).bind fun x m2 => .ok (.d x) m2).bind fun w m3 => (evs Φ ps ρ m3).bind fun ws m4 => .ok (w :: ws) m4) (fun ws ι' m' H' => ∀ vs, RepWs X.K ι' m' H' vs ws → Q vs H') := q
  refine ⟨ρ, m, ι, en, st, q'.bind.mono fun w ι1 m1 H1 l1 s1 g x r => ?_⟩
  have rest : ∀ {w' : Val} {m3 : Store}, Le ι1 m1 H1 ι1 m3 H1 → StOk X.K ι1 m3 H1 → RepW X.K ι1 m3 H1 x w' → PostR X.K RX W ι1 m3 H1 ((evs Φ ps ρ m3).bind fun ws m4 => R.ok (w' :: ws) m4) (fun ws ι' m' H' => ∀ vs, RepWs X.K ι' m' H' vs ws → Q vs H') →
      tA X.K RX W (evs Φ ps) σ H1 fun xs H2 => Q (x :: xs) H2 := fun {w' m3} l3 s3 r3 g3 =>
    ⟨ρ, m3, ι1, en.le (l1.trans l3), s3, g3.bind.mono fun ws ι4 m4 H4 l4 s4 g4 vs rs => g4.here s4 (x :: vs) (.cons (r3.le l4) rs)⟩
  cases k with
  | true =>
    have g' : PostR X.K RX W ι1 m1 H1 ((evs Φ ps ρ m1).bind fun ws m4 => R.ok (w :: ws) m4) (fun ws ι' m' H' => ∀ vs, RepWs X.K ι' m' H' vs ws → Q vs H') := g
    exact rest .refl s1 r g'
  | false =>
    have g' : PostR X.K RX W ι1 m1 H1 (((fz w m1).bind fun x m2 => R.ok (Val.d x) m2).bind fun w m3 => (evs Φ ps ρ m3).bind fun ws m4 => R.ok (w :: ws) m4) (fun ws ι' m' H' => ∀ vs, RepWs X.K ι' m' H' vs ws → Q vs H') := g
    rw [R.bind_assoc] at g'
    obtain ⟨m3, y, l3, s3, r3, g3⟩ := post_fz s1 r g'.bind
    exact rest (w' := .d y) l3 s3 r3 g3
theorem ok_tup {ps : PXs F} {k : Nat} (hs : PA X es (tA X.K RX W (evs Φ ps))) : PE X (.Tuple es k pos) (tX X.K RX W (ev Φ (.tup ps))) := by
  refine PE.imp (pe_tup hs) fun σ H Q ⟨ρ, m, ι, en, st, q⟩ => ?_
  have q' : PostR X.K RX W ι m H ((evs Φ ps ρ m).bind fun vs m1 => match allD vs with | some xs => put (.tup xs) m1 | none => .no) (GV X.K Q) := q
  refine ⟨ρ, m, ι, en, st, q'.bind.mono fun ws ι1 m1 H1 l1 s1 g vs r => ?_⟩
  cases h : allD ws with
  | none => rw [h] at g; exact False.elim g
  | some xs =>
    rw [h] at g
    obtain ⟨z, hp⟩ := post_tup s1 g (r.allD h)
    exact ⟨z, fun p hn => let ⟨a, b⟩ := hp p hn; b _ a⟩
theorem ok_lst {ps : PXs F} (hs : PA X es (tA X.K RX W (evs Φ ps))) : PE X (.List es pos) (tX X.K RX W (ev Φ (.lst ps))) := by
  refine PE.imp (pe_lst hs) fun σ H Q ⟨ρ, m, ι, en, st, q⟩ => ?_
  have q' : PostR X.K RX W ι m H ((evs Φ ps ρ m).bind fun vs m1 => match allD vs with | some xs => put (.lst xs) m1 | none => .no) (GV X.K Q) := q
  refine ⟨ρ, m, ι, en, st, q'.bind.mono fun ws ι1 m1 H1 l1 s1 g vs r => ?_⟩
  cases h : allD ws with
  | none => rw [h] at g; exact False.elim g
  | some xs =>
    rw [h] at g
    obtain ⟨z, hp⟩ := post_lst s1 g (r.allD h)
    exact ⟨z, fun p hn => let ⟨a, b⟩ := hp p hn; b _ a⟩
/-! ### operators -/
section
variable {pa pb pc pd : PX F}
/-- two expressions, one after another -/
theorem two {G : Val → Val → Ix → Store → Hp → Prop} {f : Val → Val → Store → R Val} {R2' : V → V → Hp → Prop} {σ : L2.St} {ρ : Env} (en : EnvOk X.K ι m H ρ σ) (st : StOk X.K ι m H)
    (q : PostR X.K RX W ι m H ((ev Φ pa ρ m).bind fun v m1 => (ev Φ pb ρ m1).bind fun w m2 => f v w m2) (GV X.K Q))
    (k : ∀ x y v w ι2 m2 H2, StOk X.K ι2 m2 H2 → Le ι m H ι2 m2 H2 → RepW X.K ι2 m2 H2 x v → RepW X.K ι2 m2 H2 y w → PostR X.K RX W ι2 m2 H2 (f v w m2) (GV X.K Q) → R2' x y H2) :
    tX X.K RX W (ev Φ pa) σ H fun x H1 => tX X.K RX W (ev Φ pb) σ H1 fun y H2 => R2' x y H2 :=
  ⟨ρ, m, ι, en, st, q.bind.mono fun v ι1 m1 H1 l1 s1 g x r1 => ⟨ρ, m1, ι1, en.le l1, s1, g.bind.mono fun w ι2 m2 H2 l2 s2 g2 y r2 => k x y v w ι2 m2 H2 s2 (l1.trans l2) (r1.le l2) r2 g2⟩⟩
theorem ok_bin {o : Op} (ha : PE X a (tX X.K RX W (ev Φ pa))) (hb : PE X b (tX X.K RX W (ev Φ pb))) : PE X (.BinOp a (opPy o) b pos) (tX X.K RX W (ev Φ (.bin o pa pb))) := by
  refine PE.imp (pe_op (op_ok o) ha hb) fun σ H Q ⟨ρ, m, ι, en, st, q⟩ => ?_
  exact two (G := fun _ _ _ _ _ => True) en st q fun x y v w ι2 m2 H2 s2 _ r1 r2 g => opR_ok s2 r1 r2 g
theorem ok_neg (ha : PE X a (tX X.K RX W (ev Φ pa))) : PE X (.UnaryOp .USub a pos) (tX X.K RX W (ev Φ (.neg pa))) := by
  refine PE.imp (pe_un un_neg ha) fun σ H Q ⟨ρ, m, ι, en, st, q⟩ => ?_
  have q' : PostR X.K RX W ι m H ((ev Φ pa ρ m).bind fun v m1 => match rd v m1 with | some (.int i) => R.ok (Val.d (.int (-i))) m1 | _ => .no) (GV X.K Q) := q
  refine ⟨ρ, m, ι, en, st, q'.bind.mono fun v ι1 m1 H1 l1 s1 g x r1 => ?_⟩
  cases h : rd v m1 with
  | none => rw [h] at g; exact False.elim g
  | some d =>
    have t := RepT.of s1 r1 h
    cases d with
    | int i => rw [h] at g; rw [t.int]; exact ⟨i, rfl, g.here s1 _ (.int _)⟩
    | _ => rw [h] at g; exact False.elim g
theorem ok_not (ha : PE X a (tX X.K RX W (ev Φ pa))) : PE X (.UnaryOp .Not a pos) (tX X.K RX W (ev Φ (.not pa))) := by
  refine PE.imp (pe_notT ha) fun σ H Q ⟨ρ, m, ι, en, st, q⟩ => ?_
  have q' : PostR X.K RX W ι m H (((ev Φ pa ρ m).bind truR).bind fun b m1 => R.ok (Val.d (.bool (!b))) m1) (GV X.K Q) := q
  rw [R.bind_assoc] at q'
  refine ⟨ρ, m, ι, en, st, q'.bind.mono fun v ι1 m1 H1 l1 s1 g x r1 => ?_⟩
  obtain ⟨t, e, tv, g'⟩ := post_tru s1 r1 g.bind
  exact ⟨t, tv, g'.here s1 _ (.bl _)⟩
theorem ok_and {rest : List Expr} (ha : PE X a (tX X.K RX W (ev Φ pa))) (hb : PE X (.BoolOp .And (b :: rest) pos) (tX X.K RX W (ev Φ pb))) : PE X (.BoolOp .And (a :: b :: rest) pos) (tX X.K RX W (ev Φ (.and pa pb))) := by
  refine PE.imp (pe_andT ha hb) fun σ H Q ⟨ρ, m, ι, en, st, q⟩ => ?_
  have q' : PostR X.K RX W ι m H ((ev Φ pa ρ m).bind fun v m1 => (truR v m1).bind fun t m2 => if t then ev Φ pb ρ m2 else R.ok v m2) (GV X.K Q) := q
  refine ⟨ρ, m, ι, en, st, q'.bind.mono fun v ι1 m1 H1 l1 s1 g x r1 => ?_⟩
  obtain ⟨t, e, tv, g'⟩ := post_tru s1 r1 g.bind
  refine ⟨t, tv, ?_⟩
  cases t with
  | true => exact ⟨ρ, m1, ι1, en.le l1, s1, g'⟩
  | false => exact PostR.here (RX := RX) (W := W) s1 g' x r1
theorem ok_or {rest : List Expr} (ha : PE X a (tX X.K RX W (ev Φ pa))) (hb : PE X (.BoolOp .Or (b :: rest) pos) (tX X.K RX W (ev Φ pb))) : PE X (.BoolOp .Or (a :: b :: rest) pos) (tX X.K RX W (ev Φ (.or pa pb))) := by
  refine PE.imp (pe_orT ha hb) fun σ H Q ⟨ρ, m, ι, en, st, q⟩ => ?_
  have q' : PostR X.K RX W ι m H ((ev Φ pa ρ m).bind fun v m1 => (truR v m1).bind fun t m2 => if t then R.ok v m2 else ev Φ pb ρ m2) (GV X.K Q) := q
  refine ⟨ρ, m, ι, en, st, q'.bind.mono fun v ι1 m1 H1 l1 s1 g x r1 => ?_⟩
  obtain ⟨t, e, tv, g'⟩ := post_tru s1 r1 g.bind
  refine ⟨t, tv, ?_⟩
  cases t with
  | false => exact ⟨ρ, m1, ι1, en.le l1, s1, g'⟩
  | true => exact PostR.here (RX := RX) (W := W) s1 g' x r1
/-- a comparison's answer -/
theorem cmR_bool {c : Cm} {v w u : Val} {m m' : Store} (h : cmR c v w m = .ok u m') : m' = m ∧ ∃ b, u = .d (.bool b) := by
  unfold cmR at h
  cases e1 : rd v m with
  | none => rw [e1] at h; cases h
  | some x =>
    cases e2 : rd w m with
    | none => rw [e1, e2] at h; cases h
    | some y =>
      rw [e1, e2] at h
      dsimp only at h
      cases e3 : cmF c x y with
      | none => rw [e3] at h; cases h
      | some b => rw [e3] at h; cases h; exact ⟨rfl, b, rfl⟩
theorem cmR_ok {c : Cm} {G : Val → Ix → Store → Hp → Prop} (s : StOk X.K ι m H) (rx : RepW X.K ι m H x v) (ry : RepW X.K ι m H y w) (h : PostR X.K RX W ι m H (cmR c v w m) G) :
    ∃ b, cmR c v w m = .ok (.d (.bool b)) m ∧ G (.d (.bool b)) ι m H ∧ ∀ Q : VK, Q (.bl b) H → rCm X.K c x y H Q := by
  unfold cmR at h ⊢
  cases e1 : rd v m with
  | none => rw [e1] at h; exact False.elim h
  | some d1 =>
  cases e2 : rd w m with
  | none => rw [e1, e2] at h; exact False.elim h
  | some d2 =>
  rw [e1, e2] at h
  dsimp only at h ⊢
  have t1 := RepT.of s rx e1
  have t2 := RepT.of s ry e2
  cases e3 : cmF c d1 d2 with
  | none => rw [e3] at h; exact False.elim h
  | some b =>
  rw [e3] at h
  dsimp only at h ⊢
  refine ⟨b, rfl, h.here s, fun Q q => ?_⟩
  clear h
  have shp : ∀ {z : Bool} {α : Type} {u : Option α} {r : α}, (if z = true then u else none) = some r → z = true ∧ u = some r := fun {z α u r} e => by
    cases z with
    | true => exact ⟨rfl, e⟩
    | false => cases e
  cases c with
  | eq =>
    obtain ⟨h1, h2⟩ := shp (show (if (SeqAt.shaped d1 && SeqAt.shaped d2) = true then some (PyData.eqv d1 d2) else none) = some b from e3)
    rw [Bool.and_eq_true] at h1
    cases h2
    exact ⟨d1, d2, t1.dp h1.1, t2.dp h1.2, h1.1, h1.2, q⟩
  | ne =>
    have e4 : (eqD d1 d2).map not = some b := e3
    cases e5 : eqD d1 d2 with
    | none => rw [e5] at e4; cases e4
    | some k =>
      rw [e5] at e4
      cases e4
      obtain ⟨h1, h2⟩ := shp (show (if (SeqAt.shaped d1 && SeqAt.shaped d2) = true then some (PyData.eqv d1 d2) else none) = some k from e5)
      rw [Bool.and_eq_true] at h1
      cases h2
      exact ⟨d1, d2, t1.dp h1.1, t2.dp h1.2, h1.1, h1.2, q⟩
  | lt =>
    obtain ⟨h1, h2⟩ := shp (show (if (near d1 d2 && SeqAt.shaped d1 && SeqAt.shaped d2 && notNone d1) = true then some (PySem.W.dataLt d1 d2) else none) = some b from e3)
    simp only [Bool.and_eq_true] at h1
    cases h2
    refine ⟨d1, d2, t1.dp h1.1.1.2, t2.dp h1.1.2, h1.1.1.2, h1.1.2, h1.1.1.1, fun e => ?_, q⟩
    have := h1.2
    rw [e] at this
    exact absurd this (by simp [notNone])
  | le =>
    cases d1 with
    | int i =>
      cases d2 with
      | int j => cases e3; rw [t1.int, t2.int]; exact ⟨i, j, rfl, rfl, q⟩
      | _ => cases e3
    | _ => cases e3
  | gt =>
    cases d1 with
    | int i =>
      cases d2 with
      | int j => cases e3; rw [t1.int, t2.int]; exact ⟨i, j, rfl, rfl, q⟩
      | _ => cases e3
    | _ => cases e3
  | ge =>
    cases d1 with
    | int i =>
      cases d2 with
      | int j => cases e3; rw [t1.int, t2.int]; exact ⟨i, j, rfl, rfl, q⟩
      | _ => cases e3
    | _ => cases e3
  | isin =>
    cases d2 with
    | list ys =>
      obtain ⟨h1, h2⟩ := shp (show (if (SeqAt.shaped d1 && SeqAt.shaped (.list ys)) = true then some (ys.any fun z => PyData.eqv z d1) else none) = some b from by cases d1 <;> exact e3)
      rw [Bool.and_eq_true] at h1
      cases h2
      exact .inl ⟨d1, ys, t1.dp h1.1, t2.dp h1.2, h1.1, h1.2, q⟩
    | tuple ys =>
      obtain ⟨h1, h2⟩ := shp (show (if (SeqAt.shaped d1 && SeqAt.shaped (.tuple ys)) = true then some (ys.any fun z => PyData.eqv z d1) else none) = some b from by cases d1 <;> exact e3)
      rw [Bool.and_eq_true] at h1
      cases h2
      exact .inr (.inl ⟨d1, ys, t1.dp h1.1, t2.dp h1.2, h1.1, h1.2, q⟩)
    | dict kvs =>
      obtain ⟨h1, h2⟩ := shp (show (if agree kvs d1 = true then some ((fndD kvs d1).isSome) else none) = some b from by cases d1 <;> exact e3)
      cases h2
      obtain ⟨a, ns, rfl, D, e, kd, rk, rv⟩ := t2.dict
      refine .inr (.inr ⟨a, ns, nkD d1, rfl, dkey_of D e kd rk (t1.keyRep (agree_n8 h1)) h1, ?_⟩)
      rw [fnd_some (agree_n8 h1) e kd.n8 rv]
      exact q
    | _ => cases d1 <;> cases e3
  | notin =>
    cases d2 with
    | list ys =>
      obtain ⟨h1, h2⟩ := shp (show (if (SeqAt.shaped d1 && SeqAt.shaped (.list ys)) = true then some (!ys.any fun z => PyData.eqv z d1) else none) = some b from by cases d1 <;> exact e3)
      rw [Bool.and_eq_true] at h1
      cases h2
      exact .inl ⟨d1, ys, t1.dp h1.1, t2.dp h1.2, h1.1, h1.2, q⟩
    | tuple ys =>
      obtain ⟨h1, h2⟩ := shp (show (if (SeqAt.shaped d1 && SeqAt.shaped (.tuple ys)) = true then some (!ys.any fun z => PyData.eqv z d1) else none) = some b from by cases d1 <;> exact e3)
      rw [Bool.and_eq_true] at h1
      cases h2
      exact .inr (.inl ⟨d1, ys, t1.dp h1.1, t2.dp h1.2, h1.1, h1.2, q⟩)
    | dict kvs =>
      obtain ⟨h1, h2⟩ := shp (show (if agree kvs d1 = true then some (!(fndD kvs d1).isSome) else none) = some b from by cases d1 <;> exact e3)
      cases h2
      obtain ⟨a, ns, rfl, D, e, kd, rk, rv⟩ := t2.dict
      refine .inr (.inr ⟨a, ns, nkD d1, rfl, dkey_of D e kd rk (t1.keyRep (agree_n8 h1)) h1, ?_⟩)
      rw [fnd_some (agree_n8 h1) e kd.n8 rv]
      exact q
    | _ => cases d1 <;> cases e3
  | is =>
    cases d2 with
    | none =>
      refine .inl ⟨t2.non, ?_⟩
      cases d1 with
      | none => cases e3; rw [t1.non]; exact q
      | bool a => cases e3; rw [t1.bool]; exact q
      | int a => cases e3; rw [t1.int]; exact q
      | str a => cases e3; rw [t1.str]; exact q
      | list a => cases e3; obtain ⟨p, vs, rfl, _⟩ := t1.list; exact q
      | tuple a => cases e3; obtain ⟨p, vs, rfl, _⟩ := t1.tuple; exact q
      | dict a => cases e3; obtain ⟨p, vs, rfl, _⟩ := t1.dict; exact q
    | bool k =>
      cases d1 with
      | bool a =>
        cases e3
        rw [t1.bool, t2.bool]
        refine .inr ⟨a, k, rfl, rfl, ?_⟩
        have e : decide (a = k) = (a == k) := by cases a <;> cases k <;> rfl
        rw [e]
        exact q
      | _ => cases e3
    | _ => cases d1 <;> cases e3
  | isnot =>
    cases d2 with
    | none =>
      refine .inl ⟨t2.non, ?_⟩
      cases d1 with
      | none => cases e3; rw [t1.non]; exact q
      | bool a => cases e3; rw [t1.bool]; exact q
      | int a => cases e3; rw [t1.int]; exact q
      | str a => cases e3; rw [t1.str]; exact q
      | list a => cases e3; obtain ⟨p, vs, rfl, _⟩ := t1.list; exact q
      | tuple a => cases e3; obtain ⟨p, vs, rfl, _⟩ := t1.tuple; exact q
      | dict a => cases e3; obtain ⟨p, vs, rfl, _⟩ := t1.dict; exact q
    | bool k =>
      cases d1 with
      | bool a =>
        cases e3
        rw [t1.bool, t2.bool]
        refine .inr ⟨a, k, rfl, rfl, ?_⟩
        have e : decide (a = k) = (a == k) := by cases a <;> cases k <;> rfl
        rw [e]
        exact q
      | _ => cases e3
    | _ => cases d1 <;> cases e3
theorem ok_cmp {c : Cm} (hu : CU X) (ha : PE X a (tX X.K RX W (ev Φ pa))) (hb : PE X b (tX X.K RX W (ev Φ pb))) (hm : behindInMarks (cmPy c) b = false) : PE X (.Compare a [cmPy c] [b] pos) (tX X.K RX W (ev Φ (.cmp c pa pb))) := by
  refine PE.imp (pe_cmpR (cm_ok c hu) ha hb hm) fun σ H Q ⟨ρ, m, ι, en, st, q⟩ => ?_
  refine two (G := fun _ _ _ _ _ => True) en st q fun x y v w ι2 m2 H2 s2 _ r1 r2 g => ?_
  obtain ⟨b, _, g2, g3⟩ := cmR_ok s2 r1 r2 g
  exact g3 _ (g2 _ (.bl _))
theorem ok_cmpT {c : Cm} (hu : CU X) (ha : PE X a (tX X.K RX W (ev Φ pa))) (hb : PE X b (tX X.K RX W (ev Φ pb))) (hm : behindInMarks (cmPy c) b = false) : PT X (.Compare a [cmPy c] [b] pos) (tT X.K RX W (evT Φ (.cmp c pa pb))) := by
  refine PT.imp (pt_cmpR (cm_ok c hu) ha hb hm) fun σ H Q ⟨ρ, m, ι, en, st, q⟩ => ?_
  have q' : PostR X.K RX W ι m H (((ev Φ pa ρ m).bind fun v m1 => (ev Φ pb ρ m1).bind fun w m2 => cmR c v w m2).bind truR) (fun b _ _ H' => Q b H') := q
  rw [R.bind_assoc] at q'
  refine ⟨ρ, m, ι, en, st, q'.bind.mono fun v ι1 m1 H1 l1 s1 g x r1 => ?_⟩
  rw [R.bind_assoc] at g
  refine ⟨ρ, m1, ι1, en.le l1, s1, g.bind.mono fun w ι2 m2 H2 l2 s2 g2 y r2 => ?_⟩
  obtain ⟨b, e, g3, g4⟩ := cmR_ok s2 (r1.le l2) r2 g2.bind
  exact g4 _ ⟨b, rfl, PostR.here (RX := RX) (W := W) s2 g3⟩
theorem ok_chain {c c' : Cm} (hu : CU X) {e3 : Expr} (ha : PE X a (tX X.K RX W (ev Φ pa))) (hb : PE X b (tX X.K RX W (ev Φ pb))) (hc : PE X e3 (tX X.K RX W (ev Φ pc)))
    (h : ∀ {r r' : R2}, OpR X (compareOp (cmPy c)) r → OpR X (compareOp (cmPy c')) r' → PE X (.Compare a [cmPy c, cmPy c'] [b, e3] pos) (tChain r r' (tX X.K RX W (ev Φ pa)) (tX X.K RX W (ev Φ pb)) (tX X.K RX W (ev Φ pc)))) :
    PE X (.Compare a [cmPy c, cmPy c'] [b, e3] pos) (tX X.K RX W (ev Φ (.chain c c' pa pb pc))) := by
  refine PE.imp (h (cm_ok c hu) (cm_ok c' hu)) fun σ H Q ⟨ρ, m, ι, en, st, q⟩ => ?_
  have q' : PostR X.K RX W ι m H ((ev Φ pa ρ m).bind fun v m1 => (ev Φ pb ρ m1).bind fun w m2 => (cmR c v w m2).bind fun t m3 => match t with
    | .d (.bool true) => (ev Φ pc ρ m3).bind fun u m4 => cmR c' w u m4
    | .d (.bool false) => R.ok t m3
    | _ => .no) (GV X.K Q) := q
  refine ⟨ρ, m, ι, en, st, q'.bind.mono fun v ι1 m1 H1 l1 s1 g x r1 => ?_⟩
  refine ⟨ρ, m1, ι1, en.le l1, s1, g.bind.mono fun w ι2 m2 H2 l2 s2 g2 y r2 => ?_⟩
  obtain ⟨k, e, g3, g4⟩ := cmR_ok s2 (r1.le l2) r2 g2.bind
  refine g4 _ ⟨k, rfl, ?_⟩
  cases k with
  | true =>
    rw [if_pos rfl]
    refine ⟨ρ, m2, ι2, en.le (l1.trans l2), s2, PostR.mono (PostR.bind (RX := RX) (W := W) g3) fun u ι3 m3 H3 l3 s3 g5 z r3 => ?_⟩
    obtain ⟨k', _, g6, g7⟩ := cmR_ok s3 (r2.le l3) r3 g5
    exact g7 _ (g6 _ (.bl _))
  | false =>
    rw [if_neg Bool.false_ne_true]
    exact PostR.here (RX := RX) (W := W) s2 g3 _ (.bl _)
theorem ok_chainT {c c' : Cm} (hu : CU X) {e3 : Expr} (ha : PE X a (tX X.K RX W (ev Φ pa))) (hb : PE X b (tX X.K RX W (ev Φ pb))) (hc : PE X e3 (tX X.K RX W (ev Φ pc))) (hm : lastMarks [cmPy c, cmPy c'] [b, e3] = false) :
    PT X (.Compare a [cmPy c, cmPy c'] [b, e3] pos) (tT X.K RX W (evT Φ (.chain c c' pa pb pc))) := by
  refine PT.imp (pt_chain (cm_ok c hu) (cm_ok c' hu) ha hb hc hm) fun σ H Q ⟨ρ, m, ι, en, st, q⟩ => ?_
  have q' : PostR X.K RX W ι m H (((ev Φ pa ρ m).bind fun v m1 => (ev Φ pb ρ m1).bind fun w m2 => (cmR c v w m2).bind fun t m3 => match t with
    | .d (.bool true) => (ev Φ pc ρ m3).bind fun u m4 => cmR c' w u m4
    | .d (.bool false) => R.ok t m3
    | _ => .no).bind truR) (fun b _ _ H' => Q b H') := q
  rw [R.bind_assoc] at q'
  refine ⟨ρ, m, ι, en, st, q'.bind.mono fun v ι1 m1 H1 l1 s1 g x r1 => ?_⟩
  rw [R.bind_assoc] at g
  refine ⟨ρ, m1, ι1, en.le l1, s1, g.bind.mono fun w ι2 m2 H2 l2 s2 g2 y r2 => ?_⟩
  rw [R.bind_assoc] at g2
  obtain ⟨k, e, g3, g4⟩ := cmR_ok s2 (r1.le l2) r2 g2.bind
  refine g4 _ ⟨k, rfl, ?_⟩
  cases k with
  | true =>
    rw [if_pos rfl]
    have g3 : PostR X.K RX W ι2 m2 H2 (((ev Φ pc ρ m2).bind fun u m4 => cmR c' w u m4).bind truR) (fun b _ _ H' => Q b H') := g3
    rw [R.bind_assoc] at g3
    refine ⟨ρ, m2, ι2, en.le (l1.trans l2), s2, g3.bind.mono fun u ι3 m3 H3 l3 s3 g5 z r3 => ?_⟩
    obtain ⟨k', _, g6, g7⟩ := cmR_ok s3 (r2.le l3) r3 g5.bind
    exact g7 _ ⟨k', rfl, PostR.here (RX := RX) (W := W) (G := fun b _ _ H' => Q b H') s3 g6⟩
  | false =>
    rw [if_neg Bool.false_ne_true]
    have g3 : PostR X.K RX W ι2 m2 H2 (truR (.d (.bool false)) m2) (fun b _ _ H' => Q b H') := g3
    exact ⟨false, rfl, PostR.here (RX := RX) (W := W) (G := fun b _ _ H' => Q b H') s2 g3⟩
theorem ok_ite (hc : PT X c (tT X.K RX W (evT Φ pc))) (ha : PE X a (tX X.K RX W (ev Φ pa))) (hb : PE X b (tX X.K RX W (ev Φ pb))) : PE X (.IfExp c a b pos) (tX X.K RX W (ev Φ (.ite pc pa pb))) := by
  refine PE.imp (pe_ifExp hc ha hb) fun σ H Q ⟨ρ, m, ι, en, st, q⟩ => ?_
  have q' : PostR X.K RX W ι m H ((evT Φ pc ρ m).bind fun t m1 => if t then ev Φ pa ρ m1 else ev Φ pb ρ m1) (GV X.K Q) := q
  refine ⟨ρ, m, ι, en, st, q'.bind.mono fun t ι1 m1 H1 l1 s1 g => ?_⟩
  cases t with
  | true => rw [if_pos rfl]; exact ⟨ρ, m1, ι1, en.le l1, s1, g⟩
  | false => rw [if_neg Bool.false_ne_true]; exact ⟨ρ, m1, ι1, en.le l1, s1, g⟩
/-! ### tests -/
theorem ok_truth (ha : PE X a (tX X.K RX W (ev Φ pa))) (he : ∀ whole, isTrue a X.env whole = (do let v ← whole; standAt a.pos; holding [v] (truthy v))) : PT X a (tT X.K RX W (evT Φ pa)) := by
  refine PT.imp (pt_truth ha he) fun σ H Q ⟨ρ, m, ι, en, st, q⟩ => ?_
  refine ⟨ρ, m, ι, en, st, q.bind.mono fun v ι1 m1 H1 l1 s1 g x r1 => ?_⟩
  obtain ⟨t, e, tv, g'⟩ := post_tru s1 r1 g
  exact ⟨t, tv, g'⟩
theorem ok_notT (ha : PT X a (tT X.K RX W (evT Φ pa))) : PT X (.UnaryOp .Not a pos) (tT X.K RX W (evT Φ (.not pa))) := by
  refine PT.imp (pt_not ha) fun σ H Q ⟨ρ, m, ι, en, st, q⟩ => ?_
  have q' : PostR X.K RX W ι m H (((evT Φ pa ρ m).bind fun b m1 => R.ok (Val.d (.bool (!b))) m1).bind truR) (fun b _ _ H' => Q b H') := q
  rw [R.bind_assoc] at q'
  refine ⟨ρ, m, ι, en, st, q'.bind.mono fun t ι1 m1 H1 l1 s1 g => ?_⟩
  exact PostR.here (RX := RX) (W := W) s1 g
theorem ok_andT {rest : List Expr} (ha : PT X a (tT X.K RX W (evT Φ pa))) (hb : PW X (.BoolOp .And (b :: rest) pos) (tT X.K RX W (evT Φ pb))) : PW X (.BoolOp .And (a :: b :: rest) pos) (tT X.K RX W (evT Φ (.and pa pb))) := by
  refine PW.imp (pw_and ha hb) fun σ H Q ⟨ρ, m, ι, en, st, q⟩ => ?_
  have q' : PostR X.K RX W ι m H (((ev Φ pa ρ m).bind fun v m1 => (truR v m1).bind fun t m2 => if t then ev Φ pb ρ m2 else R.ok v m2).bind truR) (fun b _ _ H' => Q b H') := q
  have e : ((ev Φ pa ρ m).bind fun v m1 => (truR v m1).bind fun t m2 => if t then ev Φ pb ρ m2 else R.ok v m2).bind truR = (evT Φ pa ρ m).bind fun t m1 => if t then evT Φ pb ρ m1 else .ok false m1 := by
    show _ = ((ev Φ pa ρ m).bind truR).bind _
    rw [R.bind_assoc, R.bind_assoc]
    congr 1
    funext v m1
    rw [R.bind_assoc]
    cases ht : truR v m1 with
    | ok t m2 =>
      have em := truR_ok ht
      subst em
      cases t with
      | true => rfl
      | false => show truR v m2 = _; rw [ht]; rfl
    | ex _ _ => rfl
    | no => rfl
  rw [e] at q'
  refine ⟨ρ, m, ι, en, st, q'.bind.mono fun t ι1 m1 H1 l1 s1 g => ?_⟩
  cases t with
  | true => rw [if_pos rfl]; exact ⟨ρ, m1, ι1, en.le l1, s1, g⟩
  | false => rw [if_neg Bool.false_ne_true]; exact PostR.here (RX := RX) (W := W) s1 g
theorem ok_orT {rest : List Expr} (ha : PT X a (tT X.K RX W (evT Φ pa))) (hb : PW X (.BoolOp .Or (b :: rest) pos) (tT X.K RX W (evT Φ pb))) : PW X (.BoolOp .Or (a :: b :: rest) pos) (tT X.K RX W (evT Φ (.or pa pb))) := by
  refine PW.imp (pw_or ha hb) fun σ H Q ⟨ρ, m, ι, en, st, q⟩ => ?_
  have q' : PostR X.K RX W ι m H (((ev Φ pa ρ m).bind fun v m1 => (truR v m1).bind fun t m2 => if t then R.ok v m2 else ev Φ pb ρ m2).bind truR) (fun b _ _ H' => Q b H') := q
  have e : ((ev Φ pa ρ m).bind fun v m1 => (truR v m1).bind fun t m2 => if t then R.ok v m2 else ev Φ pb ρ m2).bind truR = (evT Φ pa ρ m).bind fun t m1 => if t then .ok true m1 else evT Φ pb ρ m1 := by
    show _ = ((ev Φ pa ρ m).bind truR).bind _
    rw [R.bind_assoc, R.bind_assoc]
    congr 1
    funext v m1
    rw [R.bind_assoc]
    cases ht : truR v m1 with
    | ok t m2 =>
      have em := truR_ok ht
      subst em
      cases t with
      | false => rfl
      | true => show truR v m2 = _; rw [ht]; rfl
    | ex _ _ => rfl
    | no => rfl
  rw [e] at q'
  refine ⟨ρ, m, ι, en, st, q'.bind.mono fun t ι1 m1 H1 l1 s1 g => ?_⟩
  cases t with
  | false => rw [if_neg Bool.false_ne_true]; exact ⟨ρ, m1, ι1, en.le l1, s1, g⟩
  | true => rw [if_pos rfl]; exact PostR.here (RX := RX) (W := W) s1 g
end
end
end DL
end
section
set_option Elab.async false
set_option linter.all false
set_option maxRecDepth 100000
set_option autoImplicit false
set_option maxHeartbeats 2000000
/-! DLf: subscripts, slices, [::-1]. -/
namespace DL
open PySem PySem.Spec PyProof.Rows L2 HT
variable [Wd]
section
variable {prog : Program} {w : World} {A : Around} {E : Value → Shared → Prop} {s : Shared}
theorem rev_places (n : Nat) : Builtin.Slice.slicePlaces ((n : Int) - 1) (-1) (-1) = n := by
  unfold Builtin.Slice.slicePlaces
  rw [if_neg (by decide)]
  by_cases h : (n : Int) - 1 > -1
  · rw [if_pos h, show (-(-1) : Int) = 1 by decide, Int.ediv_one]
    omega
  · rw [if_neg h]
    omega
theorem fm_congr {α β : Type} {f g : α → Option β} : ∀ l : List α, (∀ x ∈ l, f x = g x) → l.filterMap f = l.filterMap g
  | [], _ => rfl
  | x :: l, h => by
    rw [List.filterMap_cons, List.filterMap_cons, h x List.mem_cons_self, fm_congr l fun y hy => h y (List.mem_cons_of_mem _ hy)]
theorem rev_pick (items : Array Value) : ((List.range items.size).filterMap fun (k : Nat) => items[(((items.size : Int) - 1) + (k : Int) * (-1)).toNat]?).toArray = items.toList.reverse.toArray := by
  have e : (List.range items.size).filterMap (fun (k : Nat) => items[(((items.size : Int) - 1) + (k : Int) * (-1)).toNat]?) = ((List.range items.size).map fun k => items.size - 1 - k).filterMap (items[·]?) := by
    rw [List.filterMap_map]
    refine fm_congr _ fun k hk => ?_
    have := List.mem_range.mp hk
    show items[_]? = items[_]?
    have e2 : (((items.size : Int) - 1) + (k : Int) * (-1)).toNat = items.size - 1 - k := by omega
    rw [e2]
  rw [e, PySem.W.krv_range, List.filterMap_reverse, PySem.W.krv_all]
theorem getItem_tuple_rev {t sl : Addr} {items : Array Value} {vk : Value} {Q : Value → Shared → Prop} (ht : IsTup s.heap t items) (hs : s.heap.IsSliceOf sl .none .none vk) (pk : IsPart vk (some (-1)))
    (h : Q (.ref s.heap.objs.size) { s with heap := s.heap.push { cls := .type "tuple", data := .seq items.toList.reverse.toArray } })
    (hsz : items.size ≤ sizeLine) : wpAny (model prog w) A (getItem (.ref t) (.ref sl)) Q E s := by
  have htake : sizeOk (.seq items.toList.reverse.toArray) := by
    show items.toList.reverse.toArray.size ≤ sizeLine
    rw [List.size_toArray, List.length_reverse, Array.length_toList]
    exact hsz
  obtain ⟨os, hos, hcs, hds⟩ := id hs
  have hTs : s.TypeIs (.ref sl) "slice" := ⟨os, hos, hcs⟩
  unfold getItem
  try with_reducible refine wpAny_holding ?_
  first | refine wpAny_bind (wpAny_pure ?_) | skip
  refine wpAny_bind (wpAny_sequenceKey ht.typeIs (by decide) ?_)
  refine wpAny_bind (wpAny_callSpecial?_slot (name := Str.ofString "__getitem__") ht.typeIs PyProof.Rows.slot_tuple_getitem
    (wpAny_call_entry PyProof.Rows.slot_tuple_getitem ht.typeIs entry_tuple_getitem ?_ (args_tuple_getitem _ _)))
  show wpAny _ _ (Builtin.Tuple.tupleItemsOf (.ref t) >>= _) _ _ s
  refine wpAny_bind (tupleItemsOf_ ht ?_)
  refine wpAny_bind (wpAny_typeOf hTs ?_)
  rw [if_pos (by decide)]
  refine wpAny_bind (wpAny_mono (Q := fun r s' => r = ((items.size : Int) - 1, -1, items.size) ∧ s' = s) (E := fun e s' => ∃ x, e = x ∧ False) (by
    refine wpAny_mono (E := fun _ _ => False) ?_ (fun _ _ h => h) (fun e s' h => h.elim)
    unfold Builtin.Slice.sliceApplied Builtin.Slice.sliceFields
    refine wpAny_bind (wpAny_bind (wpAny_field hos hds (x := .none) rfl (wpAny_bind (wpAny_field hos hds (x := .none) rfl (wpAny_bind (wpAny_field hos hds (x := vk) rfl (wpAny_pure ?_)))))))
    cases pk with
    | int i t =>
      refine wpAny_bind (slicePart_int ?_)
      show wpAny _ _ (if ((-1 : Int) == 0) = true then _ else _) _ _ s
      rw [if_neg (by decide)]
      refine wpAny_bind (slicePart_none (wpAny_bind (slicePart_none (wpAny_bind (wpAny_pure ?_)))))
      refine wpAny_pure ⟨?_, rfl⟩
      show ((items.size : Int) - 1, (-1 : Int), Builtin.Slice.slicePlaces ((items.size : Int) - 1) (-1) (-1)) = _
      rw [rev_places]) (fun r s' hr => ?_) (fun e s' he => by obtain ⟨_, _, f⟩ := he; exact f.elim))
  obtain ⟨rfl, rfl⟩ := hr
  show wpAny _ _ (if (((items.size : Int) - 1) == 0 && (-1 : Int) == 1 && items.size == items.size) = true then _ else _) _ _ s'
  rw [if_neg (by simp), rev_pick]
  first
    | exact wpAny_bind (m := Builtin.Tuple.tupleExact _) (wpAny_newObj_type (wpAny_pure ⟨_, rfl, wpAny_pure h⟩) htake)
    | exact wpAny_bind (m := Builtin.Tuple.tupleExact _) (wpAny_newObj_type (wpAny_bind (wpAny_pure (wpAny_pure ⟨_, rfl, wpAny_pure h⟩))) htake)
    | exact wpAny_bind (wpAny_bind (m := Builtin.Tuple.tupleExact _) (wpAny_newObj_type (wpAny_pure (wpAny_pure ⟨_, rfl, wpAny_pure h⟩)) htake))
    | exact wpAny_bind (wpAny_bind (m := Builtin.Tuple.tupleExact _) (wpAny_newObj_type (wpAny_pure ⟨_, rfl, wpAny_pure h⟩) htake))
end
section
variable {X : Cx}
def tRevA (K : PySem.W.Frag) (te : TE) : TE := fun σ H Q => te σ H fun x H1 => (∃ a xs, x = .ref a ∧ SqL K H1 a xs ∧ ∀ p, H1 p = none → Q (.ref p) (upd H1 p (.lst xs.reverse))) ∨
  ∃ a xs, x = .ref a ∧ SqT K H1 a xs ∧ ∀ p, H1 p = none → Q (.ref p) (upd H1 p (.tup xs.reverse))
theorem pe_revA {e : Expr} {te : TE} {k : Nat} {p1 p2 p3 pos : Pos} (he : PE X e te) : PE X (.Subscript e (.Slice none none (some (.UnaryOp .USub (.Constant (.int 1) k p1) p2)) p3) pos) (tRevA X.K te) := by
  refine ⟨fun pins s σ H Q I h => ?_⟩
  refine Subscript_ (thn (he.run pins s σ H _ I h) fun v s1 ⟨x, H1, I1, r1, q1⟩ => ?_)
  have hst : L2.PO X (some (.UnaryOp .USub (.Constant (.int 1) k p1) p2)) (tPart (tUn (rU fun i => .int (-i)) (tC (.int 1)))) := po_some (pe_un un_neg pe_int)
  refine wpAny_Slice (thn (po_none.run pins s1 σ H1 (fun o H2 => o = none ∧ H2 = H1) I1 ⟨rfl, rfl⟩) fun vl s2 ⟨l, H2, I2, pl, el, e2⟩ => ?_)
  subst el e2
  refine thn (po_none.run pins s2 σ H2 (fun o H3 => o = none ∧ H3 = H2) I2 ⟨rfl, rfl⟩) fun vu s3 ⟨u, H3, I3, pu, eu, e3⟩ => ?_
  subst eu e3
  refine thn (hst.run pins s3 σ H3 (fun o H4 => o = some (-1) ∧ H4 = H3) I3 ⟨1, rfl, -1, rfl, rfl, rfl⟩) fun vs s4 ⟨o, H4, I4, ps, eo, e4⟩ => ?_
  subst eo e4
  have I5 : Inv X pins σ H4 { s4 with heap := s4.heap.push { cls := .type "slice", data := .fields #[vl, vu, vs] } } := I4.kept (t' := s4.toks) fun b ob q => Heap.get?_push_of_some _ q
  rcases q1 with ⟨a, xs, ex, hx, q⟩ | ⟨a, xs, ex, hx, q⟩
  · subst ex
    cases r1
    obtain ⟨its, r, ht, hz⟩ := I5.list hx
    have hlen := r.length
    show wpAny (model X.prog X.w) X.A (subscriptTail e (.Slice none none (some (.UnaryOp .USub (.Constant (.int 1) k p1) p2)) p3) (.ref a) (.ref s4.heap.objs.size)) (EP X pins σ Q) X.xe { s4 with heap := s4.heap.push { cls := .type "slice", data := .fields #[vl, vu, vs] } }
    refine tail_any (ops := [.ref a, .ref s4.heap.objs.size]) ht.isList.typeIs (PySem.slot_list_getitem.lookup) ?_ (by with_unfolding_all rfl)
    refine wpAny_getItem_list_slice ht.isList (Heap.IsSliceOf.new _ vl vu vs) pl pu ps (by decide) ?_ (by rw [List.size_toArray]; omega)
    rw [PySem.W.krv_pick]
    refine ⟨.ref _, _, I5.laid (t' := s4.toks) (o := .lst xs.reverse) (fun b ob q => Heap.get?_push_of_some _ q) (Nat.le_refl _) ?_, rfl, q _ (I5.hok.fresh (Nat.le_refl _))⟩
    exact ⟨by rw [List.length_reverse]; exact hz, _, 0, r.reverse, Heap.get?_push_size _ rfl⟩
  · subst ex
    cases r1
    obtain ⟨its, r, ht, hz⟩ := I5.tuple hx
    have hlen := r.length
    show wpAny (model X.prog X.w) X.A (subscriptTail e (.Slice none none (some (.UnaryOp .USub (.Constant (.int 1) k p1) p2)) p3) (.ref a) (.ref s4.heap.objs.size)) (EP X pins σ Q) X.xe { s4 with heap := s4.heap.push { cls := .type "slice", data := .fields #[vl, vu, vs] } }
    refine tail_any (ops := [.ref a, .ref s4.heap.objs.size]) ht.typeIs (PyProof.Rows.slot_tuple_getitem.lookup) ?_ (by with_unfolding_all rfl)
    cases pl
    cases pu
    refine getItem_tuple_rev ht (Heap.IsSliceOf.new _ .none .none vs) ps ?_ (by rw [List.size_toArray]; omega)
    refine ⟨.ref _, _, I5.laid (t' := s4.toks) (o := .tup xs.reverse) (fun b ob q => Heap.get?_push_of_some _ q) (Nat.le_refl _) ?_, rfl, q _ (I5.hok.fresh (Nat.le_refl _))⟩
    exact ⟨by rw [List.length_reverse]; exact hz, _, r.reverse, IsTup.new _ _⟩
end
section
variable {X : Cx} {RX : RXT} {W : WX} {F : Type} {Φ : F → List Val → Store → R Val} {L : Nat} {e a b c : Expr} {es : List Expr} {pos : Pos}
  {ι : Ix} {m : Store} {H : Hp} {Q : VK} {x y : V} {v w : Val} {pa pb pc : PX F}
theorem atI_some {α : Type} {xs : List α} {i : Int} {d : α} (h : atI xs i = some d) : ∃ j, ixN xs.length i = some j ∧ xs[j]? = some d := by
  unfold atI at h
  cases e : ixN xs.length i with
  | none => rw [e] at h; cases h
  | some j => rw [e] at h; exact ⟨j, rfl, h⟩
theorem atI_rep {K : PySem.W.Frag} {Lv : Addr → Prop} {vs : List V} {ds : List D} {i : Int} {d : D} (r : RepAll K H Lv vs ds) (h : atI ds i = some d) : ∃ v, atI vs i = some v ∧ Rep K H Lv v d := by
  obtain ⟨j, h1, h2⟩ := atI_some h
  obtain ⟨v, h3, h4⟩ := r.get h2
  refine ⟨v, ?_, h4⟩
  unfold atI
  rw [r.length, h1]
  exact h3
theorem ok_idx (hu : CU X) (ha : PE X a (tX X.K RX W (ev Φ pa))) (hb : PE X b (tX X.K RX W (ev Φ pb))) (hs : PlainIx b) : PE X (.Subscript a b pos) (tX X.K RX W (ev Φ (.idx pa pb))) := by
  refine PE.imp (pe_ix (ix_all hu) ha hb hs) fun σ H Q ⟨ρ, m, ι, en, st, q⟩ => ?_
  have q' : PostR X.K RX W ι m H ((ev Φ pa ρ m).bind fun v m1 => (ev Φ pb ρ m1).bind fun w m2 => match rd v m2, rd w m2 with
    | some x, some y => match ixF x y with
      | some z => R.ok (Val.d z) m2
      | none => .no
    | _, _ => .no) (GV X.K Q) := q
  refine two (G := fun _ _ _ _ _ => True) en st q' fun x y v w ι2 m2 H2 s2 _ r1 r2 g => ?_
  cases e1 : rd v m2 with
  | none => rw [e1] at g; exact False.elim g
  | some d1 =>
  cases e2 : rd w m2 with
  | none => rw [e1, e2] at g; exact False.elim g
  | some d2 =>
  rw [e1, e2] at g
  dsimp only at g
  have t1 := RepT.of s2 r1 e1
  have t2 := RepT.of s2 r2 e2
  cases e3 : ixF d1 d2 with
  | none => rw [e3] at g; exact False.elim g
  | some z =>
  rw [e3] at g
  have fin : ∀ v, Rep X.K H2 (Live ι2 m2) v z → Q v H2 := fun v r => PostR.here (RX := RX) (W := W) s2 g v r
  cases d1 with
  | list xs =>
    cases d2 with
    | int i =>
      obtain ⟨p, vs, rfl, hq, ra⟩ := t1.list
      obtain ⟨u, h1, h2⟩ := atI_rep ra (show atI xs i = some z from e3)
      rw [t2.int]
      exact .inl (.inl ⟨p, vs, i, u, rfl, rfl, hq, h1, fin u h2⟩)
    | _ => cases e3
  | tuple xs =>
    cases d2 with
    | int i =>
      obtain ⟨p, vs, rfl, hq, ra⟩ := t1.tuple
      obtain ⟨u, h1, h2⟩ := atI_rep ra (show atI xs i = some z from e3)
      rw [t2.int]
      exact .inl (.inr (.inl ⟨p, vs, i, u, rfl, rfl, hq, h1, fin u h2⟩))
    | _ => cases e3
  | str t =>
    cases d2 with
    | int i =>
      have e3' : (if t.length ≤ sizeLine then (atI t.cps.toList i).map fun c => PyData.str ⟨#[c]⟩ else none) = some z := e3
      by_cases hz : t.length ≤ sizeLine
      · rw [if_pos hz] at e3'
        cases e4 : atI t.cps.toList i with
        | none => rw [e4] at e3'; cases e3'
        | some c =>
          rw [e4] at e3'
          cases e3'
          rw [t1.str, t2.int]
          exact .inl (.inr (.inr ⟨t, i, c, rfl, rfl, hz, e4, fin _ (.str _)⟩))
      · rw [if_neg hz] at e3'; cases e3'
    | _ => cases e3
  | dict kvs =>
    have e4 : (if agree kvs d2 = true then fndD kvs d2 else none) = some z := e3
    by_cases hz : agree kvs d2 = true
    · rw [if_pos hz] at e4
      obtain ⟨p, ns, rfl, D, e, kd, rk, rv⟩ := t1.dict
      have q2 := fnd_rel (agree_n8 hz) e kd.n8 rv
      rw [e4] at q2
      obtain ⟨u, h1, h2⟩ := q2
      exact .inr ⟨p, ns, nkD d2, u, rfl, dkey_of D e kd rk (t2.keyRep (agree_n8 hz)) hz, h1, fin u h2⟩
    · rw [if_neg hz] at e4; cases e4
  | _ => cases e3
/-- a part of a slice -/
theorem ok_poNo : L2.PO X none (tO X.K RX W (evO Φ (.no : PO F))) := PO.imp po_none fun σ H Q ⟨ρ, m, ι, en, st, p⟩ => p.here st
theorem ok_poSo (ha : PE X a (tX X.K RX W (ev Φ pa))) : L2.PO X (some a) (tO X.K RX W (evO Φ (.so pa))) := by
  refine PO.imp (po_some ha) fun σ H Q ⟨ρ, m, ι, en, st, q⟩ => ?_
  have q' : PostR X.K RX W ι m H ((ev Φ pa ρ m).bind fun v m1 => partI v m1) (fun o _ _ H' => Q o H') := q
  refine ⟨ρ, m, ι, en, st, q'.bind.mono fun v ι1 m1 H1 l1 s1 g x r1 => ?_⟩
  unfold partI at g
  cases h : rd v m1 with
  | none => rw [h] at g; exact False.elim g
  | some d =>
    have t := RepT.of s1 r1 h
    cases d with
    | int i => rw [h] at g; rw [t.int]; exact ⟨i, rfl, PostR.here (RX := RX) (W := W) s1 g⟩
    | _ => rw [h] at g; exact False.elim g
theorem cut_rep {K : PySem.W.Frag} {Lv : Addr → Prop} {vs : List V} {ds : List D} (r : RepAll K H Lv vs ds) (lo hi : Option Int) : RepAll K H Lv (cutV vs lo hi) (cutD ds lo hi) := by
  unfold cutV cutD
  rw [r.length]
  exact (r.drop _).take _
def rSlF (K : PySem.W.Frag) : V → Option Int → Option Int → Hp → VK → Prop := fun x lo hi H Q => rSlL K x lo hi H Q ∨ rSlA K x lo hi H Q ∨ rSlS x lo hi H Q
theorem sl_all : SlR X (rSlF X.K) := sl_list.or (sl_tupA.or sl_str)
theorem cut_whole {α : Type} {xs : List α} {lo hi : Option Int} (h : sIx xs.length 0 lo = 0 ∧ sIx xs.length xs.length hi = xs.length) : (xs.drop (sIx xs.length 0 lo)).take (sIx xs.length xs.length hi - sIx xs.length 0 lo) = xs := by
  rw [h.1, h.2, List.drop_zero, Nat.sub_zero, List.take_length]
theorem ok_sli {lo hi : Option Expr} {plo phi : PO F} {p2 : Pos} (ha : PE X a (tX X.K RX W (ev Φ pa))) (hl : L2.PO X lo (tO X.K RX W (evO Φ plo))) (hh : L2.PO X hi (tO X.K RX W (evO Φ phi))) :
    PE X (.Subscript a (.Slice lo hi none p2) pos) (tX X.K RX W (ev Φ (.sli pa plo phi))) := by
  refine PE.imp (pe_slice sl_all ha hl hh) fun σ H Q ⟨ρ, m, ι, en, st, q⟩ => ?_
  have q' : PostR X.K RX W ι m H ((ev Φ pa ρ m).bind fun v m1 => (evO Φ plo ρ m1).bind fun l m2 => (evO Φ phi ρ m2).bind fun h m3 => match rd v m3 with
    | some x => match slF x l h with
      | some z => put z m3
      | none => .no
    | none => .no) (GV X.K Q) := q
  refine ⟨ρ, m, ι, en, st, q'.bind.mono fun v ι1 m1 H1 l1 s1 g x r1 => ⟨ρ, m1, ι1, en.le l1, s1, g.bind.mono fun l ι2 m2 H2 l2 s2 g2 => ⟨ρ, m2, ι2, en.le (l1.trans l2), s2, g2.bind.mono fun h ι3 m3 H3 l3 s3 g3 => ?_⟩⟩⟩
  have r3 := r1.le (l2.trans l3)
  cases e1 : rd v m3 with
  | none => rw [e1] at g3; exact False.elim g3
  | some d =>
  rw [e1] at g3
  dsimp only at g3
  have t := RepT.of s3 r3 e1
  cases e2 : slF d l h with
  | none => rw [e2] at g3; exact False.elim g3
  | some z =>
  rw [e2] at g3
  cases d with
  | list xs =>
    cases e2
    obtain ⟨p, vs, rfl, hq, ra⟩ := t.list
    obtain ⟨_, hp⟩ := post_lst s3 g3 (cut_rep ra l h)
    exact .inl ⟨p, vs, rfl, hq, fun q hn => let ⟨a, b⟩ := hp q hn; b _ a⟩
  | tuple xs =>
    cases e2
    have tr := t.tupRep
    obtain ⟨p, vs, rfl, hq, ra⟩ := t.tuple
    obtain ⟨_, hp⟩ := post_tup s3 g3 (cut_rep ra l h)
    refine .inr (.inl ⟨p, vs, rfl, hq, fun hw => ?_, fun _ q hn => let ⟨a, b⟩ := hp q hn; b _ a⟩)
    rw [ra.length] at hw
    have e : cutD xs l h = xs := cut_whole hw
    rw [e] at g3
    have g4 : PostR X.K RX W ι3 m3 H3 (if xs.length ≤ sizeLine then R.ok (Val.d (.tuple xs)) m3 else .no) (GV X.K Q) := g3
    by_cases hz : xs.length ≤ sizeLine
    · rw [if_pos hz] at g4; exact g4.here s3 _ tr
    · rw [if_neg hz] at g4; exact False.elim g4
  | str z' =>
    have e3 : (if z'.length ≤ sizeLine then some (Out.at (.str (cutS z' l h))) else none) = some z := e2
    by_cases hz : z'.length ≤ sizeLine
    · rw [if_pos hz] at e3
      cases e3
      rw [t.str]
      exact .inr (.inr ⟨z', rfl, hz, post_at s3 g3 _ (.str _)⟩)
    · rw [if_neg hz] at e3; cases e3
  | dict _ => cases e2
  | _ => cases e2
theorem ok_rev {k : Nat} {p1 p2 p3 : Pos} (ha : PE X a (tX X.K RX W (ev Φ pa))) : PE X (.Subscript a (.Slice none none (some (.UnaryOp .USub (.Constant (.int 1) k p1) p2)) p3) pos) (tX X.K RX W (ev Φ (.rev pa))) := by
  refine PE.imp (pe_revA ha) fun σ H Q ⟨ρ, m, ι, en, st, q⟩ => ?_
  have q' : PostR X.K RX W ι m H ((ev Φ pa ρ m).bind fun v m1 => match rd v m1 with
    | some x => match revF x with
      | some z => put z m1
      | none => .no
    | none => .no) (GV X.K Q) := q
  refine ⟨ρ, m, ι, en, st, q'.bind.mono fun v ι1 m1 H1 l1 s1 g x r1 => ?_⟩
  cases e1 : rd v m1 with
  | none => rw [e1] at g; exact False.elim g
  | some d =>
  rw [e1] at g
  dsimp only at g
  have t := RepT.of s1 r1 e1
  cases d with
  | list xs =>
    obtain ⟨p, vs, rfl, hq, ra⟩ := t.list
    obtain ⟨_, hp⟩ := post_lst s1 g ra.rev
    exact .inl ⟨p, vs, rfl, hq, fun q hn => let ⟨a, b⟩ := hp q hn; b _ a⟩
  | tuple xs =>
    obtain ⟨p, vs, rfl, hq, ra⟩ := t.tuple
    obtain ⟨_, hp⟩ := post_tup s1 g ra.rev
    exact .inr ⟨p, vs, rfl, hq, fun q hn => let ⟨a, b⟩ := hp q hn; b _ a⟩
  | _ => exact False.elim g
end
end DL
end
section
set_option Elab.async false
set_option linter.all false
set_option maxRecDepth 100000
set_option autoImplicit false
set_option maxHeartbeats 2000000
/-! DLg: calls: defs, built-in functions, isinstance, methods. -/
namespace DL
open PySem PySem.Spec PyProof.Rows L2
variable [Wd]

/-! ### what is asked of a list of written expressions: none is starred -/
def noStar : Expr → Bool
  | .Starred _ _ => false
  | _ => true
theorem star_cons {e : Expr} {es : List Expr} {env : PySem.Env} (h : noStar e = true) : starEach (e :: es) env = (false, eval e env) :: starEach es env := by
  cases e <;> first | rfl | cases h
theorem star_any {pos : Pos} {env : PySem.Env} : ∀ {es : List Expr}, es.all noStar = true → (backTo pos (starEach es env)).any (·.1) = false
  | [], _ => rfl
  | e :: es, h => by
    rw [List.all_cons, Bool.and_eq_true] at h
    rw [star_cons h.1]
    show (false || (backTo pos (starEach es env)).any (·.1)) = false
    rw [star_any h.2]
    rfl
theorem star_none {pos : Pos} {env : PySem.Env} : ∀ {es : List Expr}, es.all noStar = true → (backTo pos (starEach es env)).all (fun x => !x.1) = true
  | [], _ => rfl
  | e :: es, h => by
    rw [List.all_cons, Bool.and_eq_true] at h
    rw [star_cons h.1]
    show (true && (backTo pos (starEach es env)).all (fun x => !x.1)) = true
    rw [star_none h.2]
    rfl

/-! ### defs -/
def spOf (K : PySem.W.Frag) (RX : RXT) (φ : List Val → Store → R Val) : Sp := fun vs H Q E => ∃ ws m ι, StOk K ι m H ∧ RepWs K ι m H vs ws ∧ PostR K RX (fun c d _ H => E c d H) ι m H (φ ws m) (GV K Q)
section
variable {X : Cx} {RX : RXT} {W : WX} {F : Type} {Φ : F → List Val → Store → R Val} {L : Nat}
theorem PostR.wx {α : Type} {K : PySem.W.Frag} {W W' : WX} {ι : Ix} {m : Store} {H : Hp} {r : R α} {G : α → Ix → Store → Hp → Prop} (σ : L2.St) (h : PostR K RX W ι m H r G) (hw : ∀ c d σ' H, W c d σ H → W' c d σ' H) : PostR K RX W' ι m H r G := by
  cases r with
  | ok b m1 => exact h
  | ex x m1 => exact fun ι1 H1 c d σ' l s x => hw c d σ' H1 (h ι1 H1 c d σ l s x)
  | no => exact h
theorem PostR.wxF {α : Type} {K : PySem.W.Frag} {W W' : WX} {ι : Ix} {m : Store} {H : Hp} {r : R α} {G : α → Ix → Store → Hp → Prop} (h : PostR K RX W ι m H r G) (hw : ∀ c d H, (∀ σ, W c d σ H) → ∀ σ, W' c d σ H) : PostR K RX W' ι m H r G := by
  cases r with
  | ok b m1 => exact h
  | ex x m1 => exact fun ι1 H1 c d σ' l s x => hw c d H1 (fun σ => h ι1 H1 c d σ l s x) σ'
  | no => exact h
theorem ok_call {x : Str} {p pos : Pos} {e : Expr} {es : List Expr} {k : Nat} {f : Addr} {fd : FuncData} {ps : List Str} {i : F} {qs : PXs F} (tk : Takes X W) (Fn : FnOk X.prog X.w X.K X.mg X.base (L2.CX X.prog X.w) k f fd ps (spOf X.K RX (Φ i))) (hr : Room k X.A)
    (hg : Gl X x) (hm : X.mg x = some (.ref f)) (hk : PySem.W.keepIn X.K (.ref f) = true) (hb : Binds X.K fd ps []) (hn : (e :: es).all noStar = true) (hd : (x == ("__debug__" : Str)) = false)
    (ha : PA X (e :: es) (tA X.K RX W (evs Φ qs))) : PE X (.Call (.Name x p) (e :: es) [] pos) (tX X.K RX W (ev Φ (.call i qs))) := by
  rw [List.all_cons, Bool.and_eq_true] at hn
  refine PE.imp (pe_callS Fn hr hg hm hk hb (fun σ => passAt tk σ) ha hd (star_cons hn.1) (star_any hn.2)) fun σ H Q ⟨ρ, m, ι, en, st, q⟩ => ?_
  have q' : PostR X.K RX W ι m H ((evs Φ qs ρ m).bind fun vs m1 => Φ i vs m1) (GV X.K Q) := q
  refine ⟨ρ, m, ι, en, st, q'.bind.mono fun ws ι1 m1 H1 l1 s1 g vs r => ?_⟩
  exact ⟨ws, m1, ι1, s1, r, g.wx σ fun c d σ' H h => h⟩
theorem ok_call0 {x : Str} {p pos : Pos} {k : Nat} {f : Addr} {fd : FuncData} {ps : List Str} {i : F} (tk : Takes X W) (Fn : FnOk X.prog X.w X.K X.mg X.base (L2.CX X.prog X.w) k f fd ps (spOf X.K RX (Φ i))) (hr : Room k X.A)
    (hg : Gl X x) (hm : X.mg x = some (.ref f)) (hk : PySem.W.keepIn X.K (.ref f) = true) (hb : Binds X.K fd ps []) (hd : (x == ("__debug__" : Str)) = false) :
    PE X (.Call (.Name x p) [] [] pos) (tX X.K RX W (ev Φ (.call i .nil))) := by
  refine ⟨fun pins s σ H Q I ⟨ρ, m, ι, en, st, q⟩ => ?_⟩
  refine wpAny_Call_Name_kw (ld_glob I hg hm ?_ hd)
  refine PySem.W.callWith_K0 I.kIn hk (run_fnS (us := []) (vs := []) (E := WE W) Fn hr hb (passAt tk σ) I .nil ?_)
  have q' : PostR X.K RX W ι m H (Φ i [] m) (GV X.K Q) := q
  exact ⟨[], m, ι, st, .nil, q'.wx σ fun c d σ' H h => h⟩
end

/-! ### built-in functions -/
inductive RepTs (K : PySem.W.Frag) (H : Hp) (Lv : Addr → Prop) : List V → List D → Prop
  | nil : RepTs K H Lv [] []
  | cons {v : V} {vs : List V} {d : D} {ds : List D} : RepT K H Lv v d → RepTs K H Lv vs ds → RepTs K H Lv (v :: vs) (d :: ds)
theorem rdAll_ok {K : PySem.W.Frag} {ι : Ix} {m : Store} {H : Hp} (s : StOk K ι m H) : ∀ {vs : List V} {ws : List Val} {xs : List D}, RepWs K ι m H vs ws → rdAll m ws = some xs → RepTs K H (Live ι m) vs xs
  | _, _, _, .nil, h => by cases h; exact .nil
  | _, w :: ws, xs, .cons r t, h => by
    unfold rdAll at h
    cases e1 : rd w m with
    | none => rw [e1] at h; cases h
    | some x =>
      cases e2 : rdAll m ws with
      | none => rw [e1, e2] at h; cases h
      | some ys => rw [e1, e2] at h; cases h; exact .cons (RepT.of s r e1) (rdAll_ok s t e2)
def biNm : Bi → String
  | .len => "len" | .tuple => "tuple" | .list => "list" | .all => "all" | .any => "any" | .sorted => "sorted" | .int => "int" | .str => "str" | .bool => "bool" | .min => "min" | .set => "set" | .dict => "dict" | .sset => "sorted"
def biTy : Bi → Bool
  | .tuple => true | .list => true | .int => true | .str => true | .bool => true | .set => true | .dict => true
  | _ => false
def biVal (b : Bi) : Value := if biTy b then .type (biNm b) else .builtin (biNm b)
def blR (b : Bi) (ws : List Val) (m : Store) : R Val := match rdAll m ws with
  | some xs => match blF b xs with
    | some z => put z m
    | none => .no
  | none => .no
def rBl (K : PySem.W.Frag) (RX : RXT) (W : WX) (b : Bi) : List V → Hp → VK → Prop := fun vs H Q => ∃ ws m ι, StOk K ι m H ∧ RepWs K ι m H vs ws ∧ PostR K RX W ι m H (blR b ws m) (GV K Q)
theorem bools_rep {K : PySem.W.Frag} {H : Hp} {Lv : Addr → Prop} : ∀ {vs : List V} {ds : List D} {bs : List Bool}, RepAll K H Lv vs ds → boolsOf ds = some bs → vs = bs.map V.bl
  | _, _, _, .nil, h => by cases h; rfl
  | _, _, _, .cons (d := d) (ds := ds) r t, h => by
    cases d with
    | bool b =>
      have h' : (boolsOf ds).map (b :: ·) = some _ := h
      cases e : boolsOf ds with
      | none => rw [e] at h'; cases h'
      | some cs =>
        rw [e] at h'
        cases h'
        cases r
        rw [bools_rep t e]
        rfl
    | _ => cases h
theorem strs_rep {K : PySem.W.Frag} {H : Hp} {Lv : Addr → Prop} : ∀ {vs : List V} {ds : List D} {bs : List Str}, RepAll K H Lv vs ds → strsOf ds = some bs → vs = bs.map V.str
  | _, _, _, .nil, h => by cases h; rfl
  | _, _, _, .cons (d := d) (ds := ds) r t, h => by
    cases d with
    | str b =>
      have h' : (strsOf ds).map (b :: ·) = some _ := h
      cases e : strsOf ds with
      | none => rw [e] at h'; cases h'
      | some cs =>
        rw [e] at h'
        cases h'
        cases r
        rw [strs_rep t e]
        rfl
    | _ => cases h
theorem rep_strs {K : PySem.W.Frag} {H : Hp} {Lv : Addr → Prop} : ∀ ys : List Str, RepAll K H Lv (ys.map V.str) (ys.map PyData.str)
  | [] => .nil
  | y :: ys => .cons (.str y) (rep_strs ys)
section
variable {X : Cx} {RX : RXT} {W : WX}
theorem call_str_str : CallR X (.type "str") (fun xs H Q => ∃ x, xs = [.str x] ∧ Q (.str x) H) := by
  intro pins s σ H xs us Q I r h
  obtain ⟨x, rfl, q⟩ := h
  obtain ⟨u, rfl, t, rfl⟩ := vals1 r
  exact PySem.P.str_of_str ⟨.str _, H, I, ⟨_, rfl⟩, q⟩
theorem canAll : ∀ {xs : List D}, (∀ d ∈ xs, SeqAt.shaped d = true) → PyData.canLayAll0 xs = true
  | [], _ => rfl
  | x :: xs, h => by
    rw [PyData.canLayAll0, canLay_shaped (h x List.mem_cons_self), canAll fun d hd => h d (List.mem_cons_of_mem _ hd)]
    rfl
theorem bi_ok (b : Bi) (hc : X.calm = true) (hu : CU X) : CallR X (biVal b) (rBl X.K RX W b) := by
  intro pins s σ H vs us Q I r h
  obtain ⟨ws, m, ι, st, rw', q⟩ := h
  unfold blR at q
  cases e1 : rdAll m ws with
  | none => rw [e1] at q; exact False.elim q
  | some xs =>
  rw [e1] at q
  dsimp only at q
  have rt := rdAll_ok st rw' e1
  cases e2 : blF b xs with
  | none => rw [e2] at q; exact False.elim q
  | some z =>
  rw [e2] at q
  dsimp only at q
  cases b with
  | len =>
    cases rt with
    | nil => cases e2
    | @cons v vs' d ds t rt =>
    cases rt with
    | cons _ _ => cases d <;> cases e2
    | nil =>
    cases d with
    | list xs =>
      refine call_len pins s σ H _ us Q I r ?_
      cases e2
      obtain ⟨a, us, rfl, hs, ra⟩ := t.list
      exact ⟨_, us.length, rfl, .inl ⟨us, hs, rfl⟩, by rw [ra.length]; exact q.here st _ (.int _)⟩
    | tuple xs =>
      refine call_len pins s σ H _ us Q I r ?_
      cases e2
      obtain ⟨a, us, rfl, hs, ra⟩ := t.tuple
      exact ⟨_, us.length, rfl, .inr ⟨us, hs, rfl⟩, by rw [ra.length]; exact q.here st _ (.int _)⟩
    | str x =>
      refine call_len pins s σ H _ us Q I r ?_
      have e3 : (if x.length ≤ sizeLine then some (Out.at (.int x.length)) else none) = some z := e2
      by_cases hz : x.length ≤ sizeLine
      · rw [if_pos hz] at e3
        cases e3
        rw [t.str]
        exact ⟨_, x.length, rfl, ⟨hz, rfl⟩, q.here st _ (.int _)⟩
      · rw [if_neg hz] at e3
        cases e3
    | dict kvs =>
      refine call_lenN pins s σ H _ us Q I r ?_
      cases e2
      obtain ⟨a, ns, rfl, D, e, kd, rk, rv⟩ := t.dict
      rw [← hu.2] at D
      have hl : ns.length = kvs.length := by
        have := congrArg List.length e
        rwa [List.length_map, List.length_map] at this
      exact ⟨a, ns, rfl, D, by rw [hl]; exact q.here st _ (.int _)⟩
    | _ => cases e2
  | tuple =>
    refine call_tuple_of pins s σ H vs us Q I r ?_
    cases rt with
    | nil => cases e2
    | @cons v vs' d ds t rt =>
    cases rt with
    | cons _ _ => cases d <;> cases e2
    | nil =>
    cases d with
    | list xs =>
      cases e2
      obtain ⟨a, us, rfl, hs, ra⟩ := t.list
      obtain ⟨hz, g⟩ := post_tup st q ra
      exact ⟨a, us, rfl, .inl ⟨hs, fun p hp => let ⟨r, g⟩ := g p hp; g _ r⟩⟩
    | tuple xs =>
      cases e2
      have tr := t.tupRep
      obtain ⟨a, us, rfl, hs, ra⟩ := t.tuple
      exact ⟨a, us, rfl, .inr ⟨hs, q.here st _ tr⟩⟩
    | _ => cases e2
  | list =>
    cases rt with
    | nil => cases e2
    | @cons v vs' d ds t rt =>
    cases rt with
    | cons _ _ => cases d <;> cases e2
    | nil =>
    cases d with
    | list xs =>
      refine call_list_of pins s σ H _ us Q I r ?_
      cases e2
      obtain ⟨a, us, rfl, hs, ra⟩ := t.list
      obtain ⟨hz, g⟩ := post_lst st q ra
      exact ⟨a, us, rfl, .inl hs, fun p hp => let ⟨r, g⟩ := g p hp; g _ r⟩
    | tuple xs =>
      refine call_list_of pins s σ H _ us Q I r ?_
      cases e2
      obtain ⟨a, us, rfl, hs, ra⟩ := t.tuple
      obtain ⟨hz, g⟩ := post_lst st q ra
      exact ⟨a, us, rfl, .inr hs, fun p hp => let ⟨r, g⟩ := g p hp; g _ r⟩
    | dict kvs =>
      refine call_listN hc pins s σ H _ us Q I r ?_
      cases e2
      obtain ⟨a, ns, rfl, D, e, kd, rk, rv⟩ := t.dict
      rw [← hu.2] at D
      obtain ⟨hz, g⟩ := post_lst st q rk
      exact ⟨a, ns, rfl, D, fun p hp => let ⟨r, g⟩ := g p hp; g _ r⟩
    | _ => cases e2
  | all =>
    refine cr_all hc pins s σ H vs us Q I r ?_
    cases rt with
    | nil => cases e2
    | @cons v vs' d ds t rt =>
    cases rt with
    | cons _ _ => cases d <;> cases e2
    | nil =>
    cases d with
    | list xs =>
      obtain ⟨a, us, rfl, hs, ra⟩ := t.list
      have e3 : (boolsOf xs).map (fun bs => Out.at (.bool (bs.all id))) = some z := e2
      cases e4 : boolsOf xs with
      | none => rw [e4] at e3; cases e3
      | some bs =>
        rw [e4] at e3
        cases e3
        exact ⟨a, bs, rfl, by rw [← bools_rep ra e4]; exact hs, q.here st _ (.bl _)⟩
    | _ => cases e2
  | any =>
    refine cr_any hc pins s σ H vs us Q I r ?_
    cases rt with
    | nil => cases e2
    | @cons v vs' d ds t rt =>
    cases rt with
    | cons _ _ => cases d <;> cases e2
    | nil =>
    cases d with
    | list xs =>
      obtain ⟨a, us, rfl, hs, ra⟩ := t.list
      have e3 : (boolsOf xs).map (fun bs => Out.at (.bool (bs.any id))) = some z := e2
      cases e4 : boolsOf xs with
      | none => rw [e4] at e3; cases e3
      | some bs =>
        rw [e4] at e3
        cases e3
        exact ⟨a, bs, rfl, by rw [← bools_rep ra e4]; exact hs, q.here st _ (.bl _)⟩
    | _ => cases e2
  | sorted =>
    cases rt with
    | nil => cases e2
    | @cons v vs' d ds t rt =>
    cases rt with
    | cons _ _ => cases d <;> cases e2
    | nil =>
    cases d with
    | list xs =>
      refine cr_sortD hu.1 pins s σ H _ us Q I r ?_
      obtain ⟨a, us, rfl, hs, ra⟩ := t.list
      have e3 : (if sortOk xs = true then some (Out.lst (sortD xs)) else none) = some z := e2
      by_cases hz : sortOk xs = true
      · rw [if_pos hz] at e3
        cases e3
        obtain ⟨h1, h2, h3⟩ := sortOk_ok hz
        obtain ⟨h4, g⟩ := post_lst st q (repAll_sorted ra)
        exact ⟨a, us, xs, rfl, hs, ra.dp (canAll h2), h1, h2, h3, fun p hp => let ⟨r, g⟩ := g p hp; g _ r⟩
      · rw [if_neg hz] at e3
        cases e3
    | dict kvs =>
      refine call_sortN hc hu.1 pins s σ H _ us Q I r ?_
      obtain ⟨a, ns, rfl, D, e, kd, rk, rv⟩ := t.dict
      rw [← hu.2] at D
      have e3 : (if sortOk (kvs.map (·.1)) = true then some (Out.lst (sortD (kvs.map (·.1)))) else none) = some z := e2
      by_cases hz : sortOk (kvs.map (·.1)) = true
      · rw [if_pos hz] at e3
        cases e3
        obtain ⟨h1, h2, h3⟩ := sortOk_ok hz
        obtain ⟨h4, g⟩ := post_lst st q (repAll_sorted rk)
        exact ⟨a, ns, kvs.map (·.1), rfl, D, rk.dp (canAll h2), h1, h2, h3, fun p hp => let ⟨r, g⟩ := g p hp; g _ r⟩
      · rw [if_neg hz] at e3
        cases e3
    | _ => cases e2
  | int =>
    refine call_int1 pins s σ H vs us Q I r ?_
    cases rt with
    | nil => cases e2
    | @cons v vs' d ds t rt =>
    cases rt with
    | cons _ _ => cases d <;> cases e2
    | nil =>
    cases d with
    | int i => cases e2; rw [t.int]; exact .inl ⟨i, rfl, q.here st _ (.int _)⟩
    | bool b => cases e2; rw [t.bool]; exact .inr ⟨b, rfl, q.here st _ (.int _)⟩
    | _ => cases e2
  | str =>
    cases rt with
    | nil => cases e2
    | @cons v vs' d ds t rt =>
    cases rt with
    | cons _ _ => cases d <;> cases e2
    | nil =>
    cases d with
    | int i =>
      refine call_str_int pins s σ H _ us Q I r ?_
      have e3 : (if i.natAbs.log2 < 1920 then some (Out.at (.str (toString i))) else none) = some z := e2
      by_cases hz : i.natAbs.log2 < 1920
      · rw [if_pos hz] at e3
        cases e3
        rw [t.int]
        exact ⟨i, rfl, hz, q.here st _ (.str _)⟩
      · rw [if_neg hz] at e3
        cases e3
    | str x =>
      refine call_str_str pins s σ H _ us Q I r ?_
      cases e2
      rw [t.str]
      exact ⟨x, rfl, q.here st _ (.str _)⟩
    | _ => cases e2
  | bool =>
    refine call_bool1 pins s σ H vs us Q I r ?_
    cases rt with
    | nil => cases e2
    | @cons v vs' d ds t rt =>
    cases rt with
    | cons _ _ => cases d <;> cases e2
    | nil =>
    cases d with
    | bool b => cases e2; rw [t.bool]; exact .inr ⟨b, rfl, q.here st _ (.bl _)⟩
    | _ => cases e2
  | min =>
    refine call_min2 hc pins s σ H vs us Q I r ?_
    cases rt with
    | nil => cases e2
    | @cons v vs' d ds t rt =>
    cases rt with
    | nil => cases d <;> cases e2
    | @cons v2 vs2 d2 ds2 t2 rt =>
    cases rt with
    | cons _ _ => cases d <;> first | (cases d2 <;> cases e2) | cases e2
    | nil =>
    cases d with
    | int i =>
      cases d2 with
      | int j => cases e2; rw [t.int, t2.int]; exact ⟨i, j, rfl, q.here st _ (.int _)⟩
      | _ => cases e2
    | _ => cases e2
  | set => cases e2
  | dict => cases e2
  | sset => cases e2
end
end DL
end
section
set_option Elab.async false
set_option linter.all false
set_option maxRecDepth 100000
set_option autoImplicit false
set_option maxHeartbeats 2000000
/-! DLh: built-in calls as expressions, isinstance, methods. -/
namespace DL
open PySem PySem.Spec PyProof.Rows L2
variable [Wd]

section
variable {X : Cx} {RX : RXT} {W : WX} {F : Type} {Φ : F → List Val → Store → R Val} {L : Nat}
theorem boot_bi (b : Bi) : bootBuiltins (biNm b) = some (biVal b) := by cases b <;> decide +kernel
theorem bi_nm (b : Bi) : ((biNm b : String) : Str) ≠ "__name__" := by cases b <;> decide
theorem bi_db (b : Bi) : (((biNm b : String) : Str) == ("__debug__" : Str)) = false := by cases b <;> decide
theorem ok_blt {b : Bi} {x : Str} {p pos : Pos} {e : Expr} {es : List Expr} {qs : PXs F} (hx : x = (biNm b : String)) (hc : X.calm = true) (hu : CU X) (hg : Gl X x) (hm : X.mg x = none) (hn : (e :: es).all noStar = true)
    (ha : PA X (e :: es) (tA X.K RX W (evs Φ qs))) : PE X (.Call (.Name x p) (e :: es) [] pos) (tX X.K RX W (ev Φ (.blt b qs))) := by
  rw [List.all_cons, Bool.and_eq_true] at hn
  subst hx
  have main : PE X (.Call (.Name (biNm b : String) p) (e :: es) [] pos) (tCB (rBl X.K RX W b) (tA X.K RX W (evs Φ qs))) := by
    by_cases ht : biTy b = true
    · have ev : biVal b = .type (biNm b) := by unfold biVal; rw [if_pos ht]
      exact pe_callTy (by rw [← ev]; exact bi_ok b hc hu) hg hm (by rw [← ev]; exact boot_bi b) ha (bi_nm b) (bi_db b) (star_cons hn.1) (star_any hn.2)
    · have ev : biVal b = .builtin (biNm b) := by unfold biVal; rw [if_neg ht]
      exact pe_callB (by rw [← ev]; exact bi_ok b hc hu) hg hm (by rw [← ev]; exact boot_bi b) ha (bi_nm b) (bi_db b) (star_cons hn.1) (star_any hn.2)
  refine PE.imp main fun σ H Q ⟨ρ, m, ι, en, st, q⟩ => ?_
  have q' : PostR X.K RX W ι m H ((evs Φ qs ρ m).bind fun vs m1 => blR b vs m1) (GV X.K Q) := q
  exact ⟨ρ, m, ι, en, st, q'.bind.mono fun ws ι1 m1 H1 l1 s1 g vs r => ⟨ws, m1, ι1, s1, r, g⟩⟩

/-! ### isinstance -/
def tyNm : Ty → String
  | .tuple => "tuple" | .list => "list" | .int => "int" | .bool => "bool" | .str => "str"
def dNm : D → String
  | .none => "NoneType" | .bool _ => "bool" | .int _ => "int" | .str _ => "str" | .list _ => "list" | .tuple _ => "tuple" | .dict _ => "dict"
theorem boot_ty (t : Ty) : bootBuiltins (tyNm t) = some (.type (tyNm t)) := by cases t <;> decide +kernel
theorem ty_nm (b : Ty) : ((tyNm b : String) : Str) ≠ "__name__" := by cases b <;> decide
theorem ty_db (b : Ty) : (((tyNm b : String) : Str) == ("__debug__" : Str)) = false := by cases b <;> decide
theorem kit_of_ty {K : PySem.W.Frag} {t : Ty} {d : D} {b : Bool} (h : tyF t d = some b) : PySem.W.kitOne K (.type (dNm d)) (.type (tyNm t)) = some b := by
  refine kit_ty ?_
  cases t <;> cases d <;> first | (cases h; done) | (cases h; dsimp only [dNm, tyNm]; decide +kernel)
theorem isi_nodict {ts : List Ty} {kvs : List (D × D)} {b : Bool} (h : isiF ts (.dict kvs) = some b) : False := by
  cases ts with
  | nil => cases h
  | cons t ts => cases t <;> cases h
theorem ty_of {K : PySem.W.Frag} {H : Hp} {Lv : Addr → Prop} {v : V} {d : D} (r : RepT K H Lv v d) (nd : ∀ kvs, d ≠ .dict kvs) : TyX K H v (.type (dNm d)) := by
  cases d with
  | none => rw [r.non]; exact .base .non
  | bool b => rw [r.bool]; exact .base (.bl b)
  | int i => rw [r.int]; exact .base (.int i)
  | str x => rw [r.str]; exact .base (.str x)
  | list xs =>
    obtain ⟨a, vs, rfl, hs, _⟩ := r.list
    rcases hs with (h | ⟨o, h⟩) | ⟨o, _, _, h, c, _⟩
    · exact .base (.lst h)
    · exact .base (.frz h)
    · exact .kList h c
  | tuple xs =>
    obtain ⟨a, vs, rfl, hs, _⟩ := r.tuple
    rcases hs with (h | ⟨o, h⟩) | ⟨o, _, _, h, c, _⟩
    · exact .base (.tup h)
    · exact .fTuple h
    · exact .kTuple h c
  | dict kvs => exact (nd kvs rfl).elim
theorem kitAny_of {K : PySem.W.Frag} {d : D} : ∀ {ts : List Ty} {b : Bool}, isiF ts d = some b → PySem.W.kitAny K (.type (dNm d)) (ts.map fun t => Value.type (tyNm t)) = some b
  | [], _, h => by cases d <;> first | (cases h; exact kitAny_nil) | cases h
  | t :: ts, b, h => by
    unfold isiF at h
    cases e : tyF t d with
    | none => rw [e] at h; cases h
    | some k =>
      rw [e] at h
      cases k with
      | true => cases h; exact kitAny_cons (kit_of_ty e) (fun z => nomatch z) fun _ => rfl
      | false => exact kitAny_cons (kit_of_ty e) (fun _ => kitAny_of h) fun z => nomatch z
theorem pe_tyv {x : Str} {p : Pos} (t : Ty) (hx : x = (tyNm t : String)) (hg : Gl X x) (hm : X.mg x = none) : PE X (.Name x p) (tC (.ty (tyNm t))) := by
  subst hx
  exact pe_bltn hg hm (boot_ty t) rfl (ty_nm t) (ty_db t)
theorem boot_isi : bootBuiltins "isinstance" = some (.builtin "isinstance") := by decide +kernel
theorem ok_isi {t : Ty} {x y : Str} {p p2 pos : Pos} {e : Expr} {q : PX F} (hx : x = "isinstance") (hy : y = (tyNm t : String)) (hg : Gl X x) (hm : X.mg x = none) (hgy : Gl X y) (hmy : X.mg y = none) (hn : noStar e = true)
    (ha : PE X e (tX X.K RX W (ev Φ q))) : PE X (.Call (.Name x p) [e, .Name y p2] [] pos) (tX X.K RX W (ev Φ (.isi q [t]))) := by
  subst hx
  refine PE.imp (pe_callB (call_isi (X := X)) hg hm boot_isi (pa_cons ha (pa_cons (pe_tyv t hy hgy hmy) pa_nil (star_cons rfl)) (star_cons hn)) (he := star_cons hn) (hpl := star_any rfl)) fun σ H Q ⟨ρ, m, ι, en, st, h⟩ => ?_
  have h' : PostR X.K RX W ι m H ((ev Φ q ρ m).bind fun v m1 => match rd v m1 with | some x => (match isiF [t] x with | some b => R.ok (.d (.bool b)) m1 | none => .no) | none => .no) (GV X.K Q) := h
  refine ⟨ρ, m, ι, en, st, h'.bind.mono fun v ι1 m1 H1 l1 s1 g x r => ?_⟩
  cases e1 : rd v m1 with
  | none => rw [e1] at g; exact False.elim g
  | some d =>
    rw [e1] at g
    dsimp only at g
    cases e2 : isiF [t] d with
    | none => rw [e2] at g; exact False.elim g
    | some b =>
      rw [e2] at g
      have e3 : tyF t d = some b := by
        unfold isiF at e2
        cases e4 : tyF t d with
        | none => rw [e4] at e2; cases e2
        | some k =>
          rw [e4] at e2
          cases k with
          | true => exact e2
          | false =>
            have e5 : isiF [] d = some b := e2
            cases d <;> first | exact e5 | cases e5
      exact ⟨x, .ty (tyNm t), _, _, b, rfl, .ty _, ty_of (RepT.of s1 r e1) (fun kvs z => isi_nodict (by rw [← z]; exact e2)), kit_of_ty e3, g.here s1 _ (.bl _)⟩
theorem ok_isi2 {t1 t2 : Ty} {x y1 y2 : Str} {p p1 p2 tp pos : Pos} {k : Nat} {e : Expr} {q : PX F} (hx : x = "isinstance") (hy1 : y1 = (tyNm t1 : String)) (hy2 : y2 = (tyNm t2 : String)) (hg : Gl X x) (hm : X.mg x = none) (hg1 : Gl X y1) (hm1 : X.mg y1 = none) (hg2 : Gl X y2) (hm2 : X.mg y2 = none) (hn : noStar e = true)
    (ha : PE X e (tX X.K RX W (ev Φ q))) : PE X (.Call (.Name x p) [e, .Tuple [.Name y1 p1, .Name y2 p2] k tp] [] pos) (tX X.K RX W (ev Φ (.isi q [t1, t2]))) := by
  subst hx
  refine PE.imp (pe_callB (call_isiT (X := X)) hg hm boot_isi (pa_cons ha (pa_cons (pe_tup (pa_cons (pe_tyv t1 hy1 hg1 hm1) (pa_cons (pe_tyv t2 hy2 hg2 hm2) pa_nil (star_cons rfl)) (star_cons rfl))) pa_nil (star_cons rfl)) (star_cons hn)) (he := star_cons hn) (hpl := star_any rfl)) fun σ H Q ⟨ρ, m, ι, en, st, h⟩ => ?_
  have h' : PostR X.K RX W ι m H ((ev Φ q ρ m).bind fun v m1 => match rd v m1 with | some x => (match isiF [t1, t2] x with | some b => R.ok (.d (.bool b)) m1 | none => .no) | none => .no) (GV X.K Q) := h
  refine ⟨ρ, m, ι, en, st, h'.bind.mono fun v ι1 m1 H1 l1 s1 g x r => ?_⟩
  cases e1 : rd v m1 with
  | none => rw [e1] at g; exact False.elim g
  | some d =>
    rw [e1] at g
    dsimp only at g
    cases e2 : isiF [t1, t2] d with
    | none => rw [e2] at g; exact False.elim g
    | some b =>
      rw [e2] at g
      refine ⟨by rw [sizeLine_eq]; show 2 ≤ 16777216; decide, fun p hp => ?_⟩
      have s2 : StOk X.K ι1 m1 (upd H1 p (.tup [.ty (tyNm t1), .ty (tyNm t2)])) := s1.fresh hp
      have rt := RepT.of s2 (r.le (le_fresh s1 hp)) e1
      exact ⟨x, p, _, _, _, b, rfl, upd_same, .cons (.ty _) (.cons (.ty _) .nil), ty_of rt (fun kvs z => isi_nodict (by rw [← z]; exact e2)), kitAny_of e2, g ι1 _ (le_fresh s1 hp) s2 _ (.bl _)⟩

/-! ### methods -/
def noSup : Expr → Bool
  | .Call (.Name _ _) [] [] _ => false
  | _ => true
theorem base_of {o : Expr} {m : Str} {env : PySem.Env} (h : noSup o = true) : attributeBase o m env (eval o env) = eval o env := by
  unfold attributeBase
  split
  · cases h
  · rfl
theorem post_app {v : Val} {xs : D} {ι : Ix} {m : Store} {H : Hp} {x y : V} {G : Val → Ix → Store → Hp → Prop} (s : StOk X.K ι m H) (r : RepW X.K ι m H x v) (ry : Rep X.K H (Live ι m) y xs) (h : PostR X.K RX W ι m H (app1 v xs m) G) :
    ∃ l ws, x = .ref l ∧ H l = some (.lst ws) ∧ ws.length < sizeLine ∧ ∃ m', G (.d .none) ι m' (upd H l (.lst (ws ++ [y]))) := by
  unfold app1 at h
  cases v with
  | d _ => exact False.elim h
  | r n =>
    dsimp only at h
    obtain ⟨l, h1, rfl⟩ := r
    cases e1 : m[n]? with
    | none => rw [e1] at h; exact False.elim h
    | some c =>
      rw [e1] at h
      cases c with
      | lst zs =>
        dsimp only at h
        obtain ⟨ws, hH, ra⟩ := s.ok n l _ h1 e1
        by_cases hz : zs.length < sizeLine
        · rw [if_pos hz] at h
          exact ⟨l, ws, rfl, hH, by rw [ra.length]; exact hz, _, h ι _ (le_write s h1 e1 hH) (s.write h1 e1 hH (ra.app (.cons ry .nil)))⟩
        · rw [if_neg hz] at h; exact False.elim h
      | dic _ => exact False.elim h
      | fz _ => exact False.elim h
theorem ok_app {o e : Expr} {apos pos : Pos} {po pe : PX F} (ho : PE X o (tX X.K RX W (ev Φ po))) (he : PE X e (tX X.K RX W (ev Φ pe))) (hn : noStar e = true) (hs : noSup o = true) (hl : (apos.endLine == pos.line) = true) :
    PE X (.Call (.Attribute o "append" apos) [e] [] pos) (tX X.K RX W (ev Φ (.app po pe))) := by
  have hb : [e].all noStar = true := by rw [List.all_cons, hn]; rfl
  refine PE.imp (pe_bm PySem.F.plainAttrs_list PySem.F.slot_list_append PySem.F.type_list_append mt_append ho (pa_cons he pa_nil (star_cons hn)) (base_of hs) (by rw [star_none hb]; rfl) hl (star_cons hn) (star_any rfl)) fun σ H Q ⟨ρ, m, ι, en, st, h⟩ => ?_
  have h' : PostR X.K RX W ι m H ((ev Φ po ρ m).bind fun v m1 => if isLst v m1 then (ev Φ pe ρ m1).bind fun w m2 => (fz w m2).bind fun x m3 => app1 v x m3 else .no) (GV X.K Q) := h
  refine ⟨ρ, m, ι, en, st, h'.bind.mono fun v ι1 m1 H1 l1 s1 g x r => ?_⟩
  cases e0 : isLst v m1 with
  | false => rw [e0] at g; exact False.elim g
  | true =>
    rw [e0, if_pos rfl] at g
    refine ⟨?_, ρ, m1, ι1, en.le l1, s1, g.bind.mono fun w ι2 m2 H2 l2 s2 g2 y ry => ?_⟩
    · unfold isLst at e0
      cases e1 : rd v m1 with
      | none => rw [e1] at e0; cases e0
      | some d =>
        rw [e1] at e0
        cases d with
        | list xs =>
          obtain ⟨a, vs, rfl, hq, _⟩ := (RepT.of s1 r e1).list
          exact .inl ⟨rfl, vs, hq⟩
        | _ => cases e0
    · obtain ⟨m3, d, l3, s3, r3, g3⟩ := post_fz s2 ry g2.bind
      obtain ⟨l, ws, ex, hH, hz, m', g4⟩ := post_app s3 ((r.le l2).le l3) r3 g3
      exact ⟨l, ws, y, ex, rfl, hH, hz, g4 _ .non⟩
theorem repAll_dropLast {K : PySem.W.Frag} {H : Hp} {Lv : Addr → Prop} {vs : List V} {ds : List D} (r : RepAll K H Lv vs ds) : RepAll K H Lv vs.dropLast ds.dropLast := by
  rw [List.dropLast_eq_take, List.dropLast_eq_take, r.length]
  exact r.take _
theorem ok_pop {o : Expr} {apos pos : Pos} {po : PX F} (ho : PE X o (tX X.K RX W (ev Φ po))) (hs : noSup o = true) (hl : (apos.endLine == pos.line) = true) :
    PE X (.Call (.Attribute o "pop" apos) [] [] pos) (tX X.K RX W (ev Φ (.mpop po))) := by
  refine PE.imp (pe_bm0 PySem.F.plainAttrs_list PySem.F.slot_list_pop PySem.F.type_list_pop mt_pop ho (base_of hs) hl) fun σ H Q ⟨ρ, m, ι, en, st, h⟩ => ?_
  have h' : PostR X.K RX W ι m H ((ev Φ po ρ m).bind fun v m1 => pop1 v m1) (GV X.K Q) := h
  refine ⟨ρ, m, ι, en, st, h'.bind.mono fun v ι1 m1 H1 l1 s g x r => ?_⟩
  unfold pop1 at g
  cases v with
  | d _ => exact False.elim g
  | r n =>
    dsimp only at g
    obtain ⟨l, h1, rfl⟩ := r
    cases e1 : m1[n]? with
    | none => rw [e1] at g; exact False.elim g
    | some c =>
      rw [e1] at g
      cases c with
      | lst zs =>
        dsimp only at g
        obtain ⟨ws, hH, ra⟩ := s.ok n l _ h1 e1
        cases e2 : zs[zs.length - 1]? with
        | none => rw [e2] at g; exact False.elim g
        | some y =>
          rw [e2] at g
          dsimp only at g
          obtain ⟨v, hv, rv⟩ := ra.get e2
          refine ⟨.inl ⟨rfl, ws, .inl (.inl hH)⟩, l, ws, v, rfl, rfl, hH, by rw [ra.length]; exact hv, ?_⟩
          have le := le_write (ys := zs.dropLast) (ws := ws.dropLast) s h1 e1 hH
          exact g ι1 _ le (s.write h1 e1 hH (repAll_dropLast ra)) v (Rep.up le.up rv)
      | dic _ => exact False.elim g
      | fz _ => exact False.elim g
theorem ok_join {o e : Expr} {apos pos : Pos} {po pe : PX F} (ho : PE X o (tX X.K RX W (ev Φ po))) (he : PE X e (tX X.K RX W (ev Φ pe))) (hn : noStar e = true) (hs : noSup o = true) (hl : (apos.endLine == pos.line) = true) :
    PE X (.Call (.Attribute o "join" apos) [e] [] pos) (tX X.K RX W (ev Φ (.join po pe))) := by
  refine PE.imp (pe_join ho he (star_cons hn) (base_of hs) hl) fun σ H Q ⟨ρ, m, ι, en, st, h⟩ => ?_
  have h' : PostR X.K RX W ι m H ((ev Φ po ρ m).bind fun v m1 => match v with
    | .d (.str a) => (ev Φ pe ρ m1).bind fun w m2 => (match rd w m2 with
      | some y => (match joinF (.str a) y with
        | some z => R.ok (.d (.str z)) m2
        | none => .no)
      | none => .no)
    | _ => .no) (GV X.K Q) := h
  refine ⟨ρ, m, ι, en, st, h'.bind.mono fun v ι1 m1 H1 l1 s1 g x r => ?_⟩
  cases v with
  | r n => exact False.elim g
  | d dv =>
  cases dv with
  | str a =>
    dsimp only at g
    cases r
    refine ⟨⟨a, rfl⟩, ρ, m1, ι1, en.le l1, s1, g.bind.mono fun w ι2 m2 H2 l2 s2 g2 y ry => ?_⟩
    cases e1 : rd w m2 with
    | none => rw [e1] at g2; exact False.elim g2
    | some d =>
      rw [e1] at g2
      dsimp only at g2
      cases e2 : joinF (.str a) d with
      | none => rw [e2] at g2; exact False.elim g2
      | some z =>
        rw [e2] at g2
        have t := RepT.of s2 ry e1
        cases d with
        | list xs =>
          unfold joinF at e2
          cases e3 : strsOf xs with
          | none => simp only [e3] at e2; cases e2
          | some ys =>
            simp only [e3] at e2
            by_cases hz : (ys.map (·.length)).sum + ys.length * a.length ≤ 16777216
            · rw [if_pos hz] at e2
              cases e2
              obtain ⟨p, vs, rfl, hq, ra⟩ := t.list
              rw [strs_rep ra e3] at hq
              exact ⟨a, p, ys, rfl, rfl, .inl hq, hz, g2.here s2 _ (.str _)⟩
            · rw [if_neg hz] at e2
              cases e2
        | _ => cases e2
  | _ => exact False.elim g
theorem ok_split {o e : Expr} {apos pos : Pos} {po pe : PX F} (ho : PE X o (tX X.K RX W (ev Φ po))) (he : PE X e (tX X.K RX W (ev Φ pe))) (hn : noStar e = true) (hs : noSup o = true) (hl : (apos.endLine == pos.line) = true) :
    PE X (.Call (.Attribute o "split" apos) [e] [] pos) (tX X.K RX W (ev Φ (.split po pe))) := by
  refine PE.imp (pe_split ho he (star_cons hn) (base_of hs) hl) fun σ H Q ⟨ρ, m, ι, en, st, h⟩ => ?_
  have h' : PostR X.K RX W ι m H ((ev Φ po ρ m).bind fun v m1 => match v with
    | .d (.str a) => (ev Φ pe ρ m1).bind fun w m2 => (match rd w m2 with
      | some y => (match splitF (.str a) y with
        | some zs => put (.lst (zs.map .str)) m2
        | none => .no)
      | none => .no)
    | _ => .no) (GV X.K Q) := h
  refine ⟨ρ, m, ι, en, st, h'.bind.mono fun v ι1 m1 H1 l1 s1 g x r => ?_⟩
  cases v with
  | r n => exact False.elim g
  | d dv =>
  cases dv with
  | str a =>
    dsimp only at g
    cases r
    refine ⟨⟨a, rfl⟩, ρ, m1, ι1, en.le l1, s1, g.bind.mono fun w ι2 m2 H2 l2 s2 g2 y ry => ?_⟩
    cases e1 : rd w m2 with
    | none => rw [e1] at g2; exact False.elim g2
    | some d =>
      rw [e1] at g2
      dsimp only at g2
      cases e2 : splitF (.str a) d with
      | none => rw [e2] at g2; exact False.elim g2
      | some zs =>
        rw [e2] at g2
        have t := RepT.of s2 ry e1
        cases d with
        | str b =>
          have e3 : (if ((b.length == 0) = false && decide (a.length + 2 ≤ sizeLine)) = true then some (Txt.split a b) else none) = some zs := e2
          by_cases hz : ((b.length == 0) = false && decide (a.length + 2 ≤ sizeLine)) = true
          · rw [if_pos hz] at e3
            cases e3
            rw [Bool.and_eq_true, decide_eq_true_eq, decide_eq_true_eq] at hz
            rw [t.str]
            obtain ⟨_, g3⟩ := post_lst s2 g2 (rep_strs _)
            exact ⟨a, b, rfl, rfl, hz.1, hz.2, fun p hp => let ⟨r, g⟩ := g3 p hp; g _ r⟩
          · rw [if_neg hz] at e3
            cases e3
        | _ => cases e2
  | _ => exact False.elim g
theorem ok_midx {o e : Expr} {apos pos : Pos} {po pe : PX F} (ho : PE X o (tX X.K RX W (ev Φ po))) (he : PE X e (tX X.K RX W (ev Φ pe))) (hn : noStar e = true) (hs : noSup o = true) (hl : (apos.endLine == pos.line) = true) :
    PE X (.Call (.Attribute o "index" apos) [e] [] pos) (tX X.K RX W (ev Φ (.midx po pe))) := by
  refine PE.imp (pe_m1 PySem.F.slot_str_index PySem.F.type_str_index mt_sindex ho he (star_cons hn) (base_of hs) hl) fun σ H Q ⟨ρ, m, ι, en, st, h⟩ => ?_
  have h' : PostR X.K RX W ι m H ((ev Φ po ρ m).bind fun v m1 => match v with
    | .d (.str a) => (ev Φ pe ρ m1).bind fun w m2 => (match rd w m2 with
      | some (.str b) => (match Builtin.Str.occurrences a b 0 a.length 1 with
        | i :: _ => R.ok (.d (.int (i : Nat))) m2
        | [] => .no)
      | _ => .no)
    | _ => .no) (GV X.K Q) := h
  refine ⟨ρ, m, ι, en, st, h'.bind.mono fun v ι1 m1 H1 l1 s1 g x r => ?_⟩
  cases v with
  | r n => exact False.elim g
  | d dv =>
  cases dv with
  | str a =>
    dsimp only at g
    cases r
    refine ⟨⟨a, rfl⟩, ρ, m1, ι1, en.le l1, s1, g.bind.mono fun w ι2 m2 H2 l2 s2 g2 y ry => ?_⟩
    cases e1 : rd w m2 with
    | none => rw [e1] at g2; exact False.elim g2
    | some d =>
      rw [e1] at g2
      have t := RepT.of s2 ry e1
      cases d with
      | str b =>
        dsimp only at g2
        cases e2 : Builtin.Str.occurrences a b 0 a.length 1 with
        | nil => rw [e2] at g2; exact False.elim g2
        | cons i rest =>
          rw [e2] at g2
          rw [t.str]
          exact ⟨a, b, i, rest, rfl, rfl, e2, g2.here s2 _ (.int _)⟩
      | _ => exact False.elim g2
  | _ => exact False.elim g
end
end DL
end
section
set_option Elab.async false
set_option linter.all false
set_option maxRecDepth 100000
set_option autoImplicit false
set_option maxHeartbeats 2000000
/-! DLi: what loops walk, targets, list comprehensions. -/
namespace DL
open PySem PySem.Spec PyProof.Rows L2
variable [Wd]

theorem Up.trans {H H1 H2 : Hp} {L L1 L2 : Addr → Prop} (a : Up H H1 L L1) (b : Up H1 H2 L1 L2) : Up H H2 L L2 :=
  ⟨fun c o h nt l => let ⟨h1, l1⟩ := a.keep c o h nt l; b.keep c o h1 nt l1, fun c xs h => b.tups c xs (a.tups c xs h), fun c o u h => b.frzs c o u (a.frzs c o u h)⟩
theorem Up.rfl' {H : Hp} {L : Addr → Prop} : Up H H L L := ⟨fun _ _ h _ l => ⟨h, l⟩, fun _ _ h => h, fun _ _ _ h => h⟩
/-- the iterator yields these data, at any later state -/
structure Feeds (K : PySem.W.Frag) (ι : Ix) (m : Store) (H : Hp) (J : L2.It) (xs : List D) : Prop where
  go : ∀ (i : Nat) (ι' : Ix) (m' : Store) H', i < xs.length → Up H H' (Live ι m) (Live ι' m') → StOk K ι' m' H' → J.go i H'
  stop : ∀ (ι' : Ix) (m' : Store) H', Up H H' (Live ι m) (Live ι' m') → StOk K ι' m' H' → J.stop xs.length H'
  yld : ∀ (i : Nat) (d : D) (ι' : Ix) (m' : Store) H' v H'', xs[i]? = some d → Up H H' (Live ι m) (Live ι' m') → StOk K ι' m' H' → J.yld i H' v H'' → Le ι' m' H' ι' m' H'' ∧ StOk K ι' m' H'' ∧ Rep K H'' (Live ι' m') v d
section
variable (K : PySem.W.Frag) (RX : RXT) (W : WX)
def tI (f : Env → Store → R (List D)) : TI := fun σ H Rr => ∃ ρ m ι, EnvOk K ι m H ρ σ ∧ StOk K ι m H ∧ PostR K RX W ι m H (f ρ m) (fun xs ι' m' H' => ∀ J, Feeds K ι' m' H' J xs → Rr J H')
end
theorem PI.imp {X : Cx} {tg it : Expr} {t t' : TI} (h : PI X tg it t) (i : ∀ σ H Q, t' σ H Q → t σ H Q) : PI X tg it t' := ⟨fun pins s σ H Q I hw => h.run pins s σ H Q I (i σ H Q hw)⟩
section
variable {X : Cx} {K : PySem.W.Frag} {ι : Ix} {m : Store} {H : Hp}
theorem feeds_lst {a : Addr} {ds : List D} (r : Rep K H (Live ι m) (.ref a) (.list ds)) : Feeds K ι m H (Itl K a) ds where
  go := fun i ι' m' H' hi l s => by
    cases Rep.up l r with
    | lst h ra => exact ⟨_, _, sq_of h, List.getElem?_eq_getElem (by rw [ra.length]; exact hi)⟩
  stop := fun ι' m' H' l s => by
    cases Rep.up l r with
    | lst h ra => exact ⟨_, sq_of h, by rw [ra.length]; exact Nat.le_refl _⟩
  yld := fun i d ι' m' H' v H'' hd l s y => by
    obtain ⟨rfl, y⟩ := y
    cases Rep.up l r with
    | lst h ra =>
      obtain ⟨v', hv, rv⟩ := ra.get hd
      have := y _ (sq_of h)
      rw [hv] at this
      cases this
      exact ⟨.refl, s, rv⟩
theorem feeds_tup {a : Addr} {ds : List D} (r : Rep K H (Live ι m) (.ref a) (.tuple ds)) : Feeds K ι m H (Itt K a) ds where
  go := fun i ι' m' H' hi l s => by
    cases Rep.up l r with
    | tup h ra => exact ⟨_, _, h, List.getElem?_eq_getElem (by rw [ra.length]; exact hi)⟩
  stop := fun ι' m' H' l s => by
    cases Rep.up l r with
    | tup h ra => exact ⟨_, h, by rw [ra.length]; exact Nat.le_refl _⟩
  yld := fun i d ι' m' H' v H'' hd l s y => by
    obtain ⟨rfl, y⟩ := y
    cases Rep.up l r with
    | tup h ra =>
      obtain ⟨v', hv, rv⟩ := ra.get hd
      have := y _ h
      rw [hv] at this
      cases this
      exact ⟨.refl, s, rv⟩
theorem feeds_dic {a : Addr} {es : Array DictEntry} {ep : Nat} {ns : List Tri} {kvs : List (D × D)} (hd : H a = some (DicO a es ep)) (hl : ¬ Live ι m a) (he : ns.length = kvs.length) (rk : RepAll K H (Live ι m) (ns.map (·.2.1)) (kvs.map (·.1))) :
    Feeds K ι m H (Itn a es ep ns) (kvs.map (·.1)) where
  go := fun i ι' m' H' hi l s => ⟨(l.keep _ _ hd .dic hl).1, by rw [he]; simpa using hi⟩
  stop := fun ι' m' H' l s => ⟨(l.keep _ _ hd .dic hl).1, by rw [he]; simp⟩
  yld := fun i d ι' m' H' v H'' hd' l s y => by
    obtain ⟨rfl, n, hn, rfl⟩ := y
    obtain ⟨v', hv, rv⟩ := (rk.up l).get hd'
    rw [List.getElem?_map, hn] at hv
    cases hv
    exact ⟨.refl, s, rv⟩
theorem feeds_rng {lo : Int} {n : Nat} : Feeds K ι m H (Itr lo n) (rgD lo n) where
  go := fun i ι' m' H' hi l s => by
    have : (rgD lo n).length = n := by unfold rgD; rw [List.length_map, List.length_range]
    rw [this] at hi
    exact hi
  stop := fun ι' m' H' l s => by
    show n ≤ _
    unfold rgD
    rw [List.length_map, List.length_range]
    exact Nat.le_refl _
  yld := fun i d ι' m' H' v H'' hd l s y => by
    obtain ⟨rfl, rfl⟩ := y
    unfold rgD at hd
    rw [List.getElem?_map] at hd
    cases e : (List.range n)[i]? with
    | none => rw [e] at hd; cases hd
    | some k =>
      rw [e] at hd
      obtain ⟨hl, e⟩ := List.getElem?_eq_some_iff.mp e
      rw [List.getElem_range] at e
      subst e
      cases hd
      exact ⟨.refl, s, .int _⟩
def iSeq (K : PySem.W.Frag) (w : World) (tl : TE) : TI := fun σ H Rr => tl σ H fun x H1 => ∃ a, x = .ref a ∧ (((∃ xs, SqL K H1 a xs) ∧ Rr (Itl K a) H1) ∨ ((∃ xs, SqT K H1 a xs) ∧ Rr (Itt K a) H1) ∨ ∃ es ep ns, H1 a = some (DicO a es ep) ∧ Paired (EntR w) es.toList ns ∧ Rr (Itn a es ep ns) H1)
theorem pi_seq {tg l : Expr} {tl : TE} (hl : PE X l tl) : PI X tg l (iSeq X.K X.w tl) := by
  refine ⟨fun pins s σ H Rr I h => ?_⟩
  refine thn (hl.run pins s σ H _ I h) fun v s1 ⟨x, H1, I1, r1, q1⟩ => ?_
  obtain ⟨a, e, q⟩ := q1
  subst e
  cases r1
  have fp : ∀ b ∈ [s1.heap.objs.size], FpOk X pins H1 b := fun b hb => by
    have e : b = s1.heap.objs.size := by simpa using hb
    subst e
    exact I1.fpOk (Nat.le_refl _) (I1.hok.fresh (Nat.le_refl _))
  rcases q with ⟨⟨xs, hq⟩, q⟩ | ⟨⟨xs, hq⟩, q⟩ | ⟨es, ep, ns, hq, hp, q⟩
  · obtain ⟨its, rv, p, hz⟩ := I1.list hq
    refine wpAny_pyIter_list p.isList ?_
    exact ⟨s1.heap.objs.size, [s1.heap.objs.size], _, _, H1, rfl, I1.kept (t' := s1.toks) fun b o e => Heap.get?_push_of_some _ e, turn_list a _, ⟨_, Heap.get?_push_size _ rfl, rfl, rfl⟩, fp, q⟩
  · obtain ⟨its, rv, p, hz⟩ := I1.tuple hq
    refine wpAny_pyIter_tuple (show s1.heap.IsTuple a its.toArray from p) ?_
    exact ⟨s1.heap.objs.size, [s1.heap.objs.size], _, _, H1, rfl, I1.kept (t' := s1.toks) fun b o e => Heap.get?_push_of_some _ e, turn_tuple a _, ⟨_, Heap.get?_push_size _ rfl, rfl, rfl⟩, fp, q⟩
  · obtain ⟨raw, hs⟩ := dic_raw I1 hq
    refine wpAny_pyIter_dict_raw hs raw ?_
    exact ⟨s1.heap.objs.size, [s1.heap.objs.size], _, _, H1, rfl, I1.kept (t' := s1.toks) fun b o e => Heap.get?_push_of_some _ e, turn_dic hp _, ⟨_, Heap.get?_push_size _ rfl, rfl, rfl⟩, fp, q⟩
end

section
variable {X : Cx} {RX : RXT} {W : WX} {F : Type} {Φ : F → List Val → Store → R Val} {L : Nat} {tg : Expr} {ι : Ix} {m : Store} {H : Hp}
theorem post_of {α : Type} {o : Option α} {G : α → Ix → Store → Hp → Prop} (s : StOk X.K ι m H) (h : PostR X.K RX W ι m H (ofO o m) G) : ∃ a, o = some a ∧ G a ι m H := by
  cases o with
  | none => exact False.elim h
  | some a => exact ⟨a, rfl, h.here s⟩
theorem ok_iof {e : Expr} {pe : PX F} (hu : CU X) (he : PE X e (tX X.K RX W (ev Φ pe))) : PI X tg e (tI X.K RX W (evI Φ (.of pe))) := by
  refine PI.imp (pi_seq he) fun σ H Rr ⟨ρ, m, ι, en, st, h⟩ => ?_
  have h' : PostR X.K RX W ι m H ((ev Φ pe ρ m).bind fun v m1 => (fz v m1).bind fun x m2 => ofO (walkOf x) m2) (fun xs ι' m' H' => ∀ J, Feeds X.K ι' m' H' J xs → Rr J H') := h
  refine ⟨ρ, m, ι, en, st, h'.bind.mono fun v ι1 m1 H1 l1 s1 g x r => ?_⟩
  obtain ⟨m2, d, l2, s2, r2, g2⟩ := post_fz s1 r g.bind
  obtain ⟨xs, e1, g3⟩ := post_of s2 g2
  cases d with
  | list ys =>
    cases e1
    cases r2 with
    | lst h ra => exact ⟨_, rfl, .inl ⟨⟨_, sq_of h⟩, g3 _ (feeds_lst (.lst h ra))⟩⟩
  | tuple ys =>
    cases e1
    cases r2 with
    | tup h ra => exact ⟨_, rfl, .inr (.inl ⟨⟨_, h⟩, g3 _ (feeds_tup (.tup h ra))⟩)⟩
  | dict kvs =>
    cases e1
    cases r2 with
    | dic D l e k rk rv =>
      obtain ⟨es, ep, hd, p⟩ := D.ex
      refine ⟨_, rfl, .inr (.inr ⟨es, ep, _, hd, by rw [hu.2]; exact p, g3 _ (feeds_dic hd l (by have := congrArg List.length e; rwa [List.length_map, List.length_map] at this) rk)⟩)⟩
  | _ => cases e1
theorem rg_ok {i : Int} (h : rgOk i = true) : -(2 ^ 62) ≤ i ∧ i < 2 ^ 62 := by
  unfold rgOk at h
  rw [Bool.and_eq_true, decide_eq_true_eq, decide_eq_true_eq] at h
  exact h
theorem pa1 {e : Expr} {pe : PX F} (he : PE X e (tX X.K RX W (ev Φ pe))) (hn : noStar e = true) : PA X [e] (fun σ H Q => tX X.K RX W (ev Φ pe) σ H fun x H1 => Q [x] H1) :=
  PA.imp (pa_cons he pa_nil (star_cons hn)) fun σ H Q h => h
theorem ok_rng1 {x : Str} {e : Expr} {p pos : Pos} {pe : PX F} (hx : x = "range") (hg : Gl X x) (hm : X.mg x = none) (he : PE X e (tX X.K RX W (ev Φ pe))) (hn : noStar e = true) : PI X tg (.Call (.Name x p) [e] [] pos) (tI X.K RX W (evI Φ (.rng1 pe))) := by
  subst hx
  refine PI.imp (pi_range1 hg hm (pa1 he hn) (star_cons hn)) fun σ H Rr ⟨ρ, m, ι, en, st, h⟩ => ?_
  have h' : PostR X.K RX W ι m H ((ev Φ pe ρ m).bind fun v m1 => match rd v m1 with
    | some (.int j) => if rgOk j then R.ok (rgD 0 j.toNat) m1 else .no
    | _ => .no) (fun xs ι' m' H' => ∀ J, Feeds X.K ι' m' H' J xs → Rr J H') := h
  refine ⟨ρ, m, ι, en, st, h'.bind.mono fun v ι1 m1 H1 l1 s1 g x r => ?_⟩
  cases e1 : rd v m1 with
  | none => rw [e1] at g; exact False.elim g
  | some d =>
    rw [e1] at g
    have t := RepT.of s1 r e1
    cases d with
    | int j =>
      dsimp only at g
      by_cases hj : rgOk j = true
      · rw [if_pos hj] at g
        obtain ⟨h1, h2⟩ := rg_ok hj
        rw [t.int]
        exact ⟨j, rfl, h1, h2, g.here s1 _ feeds_rng⟩
      · rw [if_neg hj] at g
        exact False.elim g
    | _ => exact False.elim g
theorem ok_rng2 {x : Str} {a b : Expr} {p pos : Pos} {pa pb : PX F} (hx : x = "range") (hg : Gl X x) (hm : X.mg x = none) (ha : PE X a (tX X.K RX W (ev Φ pa))) (hb : PE X b (tX X.K RX W (ev Φ pb))) (hna : noStar a = true) (hnb : noStar b = true) :
    PI X tg (.Call (.Name x p) [a, b] [] pos) (tI X.K RX W (evI Φ (.rng2 pa pb))) := by
  subst hx
  refine PI.imp (pi_range2 hg hm (pa_cons ha (pa1 hb hnb) (star_cons hna)) (by rw [star_cons hna, star_cons hnb]; rfl) (star_cons hnb)) fun σ H Rr ⟨ρ, m, ι, en, st, h⟩ => ?_
  have h' : PostR X.K RX W ι m H ((ev Φ pa ρ m).bind fun v m1 => (ev Φ pb ρ m1).bind fun w m2 => match rd v m2, rd w m2 with
    | some (.int i), some (.int j) => if rgOk i && rgOk j then R.ok (rgD i (j - i).toNat) m2 else .no
    | _, _ => .no) (fun xs ι' m' H' => ∀ J, Feeds X.K ι' m' H' J xs → Rr J H') := h
  refine ⟨ρ, m, ι, en, st, h'.bind.mono fun v ι1 m1 H1 l1 s1 g x r => ?_⟩
  refine ⟨ρ, m1, ι1, en.le l1, s1, g.bind.mono fun w ι2 m2 H2 l2 s2 g2 y ry => ?_⟩
  cases e1 : rd v m2 with
  | none => rw [e1] at g2; exact False.elim g2
  | some d1 =>
  cases e2 : rd w m2 with
  | none => rw [e1, e2] at g2; cases d1 <;> exact False.elim g2
  | some d2 =>
    rw [e1, e2] at g2
    have t1 := RepT.of s2 (r.le l2) e1
    have t2 := RepT.of s2 ry e2
    cases d1 with
    | int i =>
      cases d2 with
      | int j =>
        dsimp only at g2
        by_cases hj : (rgOk i && rgOk j) = true
        · rw [if_pos hj] at g2
          rw [Bool.and_eq_true] at hj
          obtain ⟨h1, h2⟩ := rg_ok hj.1
          obtain ⟨h3, h4⟩ := rg_ok hj.2
          rw [t1.int, t2.int]
          exact ⟨i, j, rfl, ⟨h1, h2, h3, h4⟩, g2.here s2 _ feeds_rng⟩
        · rw [if_neg hj] at g2
          exact False.elim g2
      | _ => exact False.elim g2
    | _ => exact False.elim g2

theorem feeds_rgS {K : PySem.W.Frag} {lo c : Int} {n : Nat} : Feeds K ι m H (Itc lo c n) (rgS lo c n) where
  go := fun i ι' m' H' hi l s => by
    have : (rgS lo c n).length = n := by unfold rgS; rw [List.length_map, List.length_range]
    rw [this] at hi
    exact hi
  stop := fun ι' m' H' l s => by
    show n ≤ _
    unfold rgS
    rw [List.length_map, List.length_range]
    exact Nat.le_refl _
  yld := fun i d ι' m' H' v H'' hd l s y => by
    obtain ⟨rfl, rfl⟩ := y
    unfold rgS at hd
    rw [List.getElem?_map] at hd
    cases e : (List.range n)[i]? with
    | none => rw [e] at hd; cases hd
    | some k =>
      rw [e] at hd
      obtain ⟨hl, e⟩ := List.getElem?_eq_some_iff.mp e
      rw [List.getElem_range] at e
      subst e
      cases hd
      exact ⟨.refl, s, .int _⟩
theorem ok_rng3 {x : Str} {a b c : Expr} {p pos : Pos} {pa pb pc : PX F} (hx : x = "range") (hg : Gl X x) (hm : X.mg x = none) (ha : PE X a (tX X.K RX W (ev Φ pa))) (hb : PE X b (tX X.K RX W (ev Φ pb))) (hc : PE X c (tX X.K RX W (ev Φ pc))) (hna : noStar a = true) (hnb : noStar b = true) (hnc : noStar c = true) :
    PI X tg (.Call (.Name x p) [a, b, c] [] pos) (tI X.K RX W (evI Φ (.rng3 pa pb pc))) := by
  subst hx
  refine PI.imp (pi_range3 hg hm (pa_cons ha (pa_cons hb (pa1 hc hnc) (star_cons hnb)) (star_cons hna)) (star_cons hna) (star_any (by rw [List.all_cons, List.all_cons, hnb, hnc]; rfl))) fun σ H Rr ⟨ρ, m, ι, en, st, h⟩ => ?_
  have h' : PostR X.K RX W ι m H ((ev Φ pa ρ m).bind fun v m1 => (ev Φ pb ρ m1).bind fun w m2 => (ev Φ pc ρ m2).bind fun u m3 => match rd v m3, rd w m3, rd u m3 with
    | some (.int i), some (.int j), some (.int k) => if rg3 i j k then R.ok (rgS i k (Builtin.Range.rangeSize i j k).toNat) m3 else .no
    | _, _, _ => .no) (fun xs ι' m' H' => ∀ J, Feeds X.K ι' m' H' J xs → Rr J H') := h
  refine ⟨ρ, m, ι, en, st, h'.bind.mono fun v ι1 m1 H1 l1 s1 g x r => ?_⟩
  refine ⟨ρ, m1, ι1, en.le l1, s1, g.bind.mono fun w ι2 m2 H2 l2 s2 g2 y ry => ?_⟩
  refine ⟨ρ, m2, ι2, en.le (l1.trans l2), s2, g2.bind.mono fun u ι3 m3 H3 l3 s3 g3 z rz => ?_⟩
  cases e1 : rd v m3 with
  | none => rw [e1] at g3; exact False.elim g3
  | some d1 =>
  cases e2 : rd w m3 with
  | none => rw [e1, e2] at g3; cases d1 <;> exact False.elim g3
  | some d2 =>
  cases e3 : rd u m3 with
  | none => rw [e1, e2, e3] at g3; cases d1 <;> cases d2 <;> exact False.elim g3
  | some d3 =>
    rw [e1, e2, e3] at g3
    have t1 := RepT.of s3 (r.le (l2.trans l3)) e1
    have t2 := RepT.of s3 (ry.le l3) e2
    have t3 := RepT.of s3 rz e3
    cases d1 with
    | int i =>
      cases d2 with
      | int j =>
        cases d3 with
        | int k =>
          dsimp only at g3
          by_cases hj : rg3 i j k = true
          · rw [if_pos hj] at g3
            unfold rg3 at hj
            simp only [Bool.and_eq_true, decide_eq_true_eq] at hj
            obtain ⟨⟨⟨h1, h2⟩, h3⟩, h4⟩ := hj
            rw [t1.int, t2.int, t3.int]
            exact ⟨i, j, k, _, rfl, ⟨h1, h2, h3, (Int.toNat_of_nonneg h4).symm⟩, g3.here s3 _ feeds_rgS⟩
          · rw [if_neg hj] at g3
            exact False.elim g3
        | _ => exact False.elim g3
      | _ => exact False.elim g3
    | _ => exact False.elim g3

/-! ### targets -/
def gNs : List Nat → TGs
  | [] => gNil
  | i :: is => gCons (gName i) (gNs is)
def gOf (K : PySem.W.Frag) : Tg → TG
  | .nm i => gName i
  | .tp is => gTup K is.length (gNs is)
theorem set_all {K : PySem.W.Frag} : ∀ {is : List Nat} {vs : List V} {ds : List D} {ρ ρ1 : Env} {σ : L2.St} {Q : L2.St → Hp → Prop}, RepAll K H (Live ι m) vs ds → setAll is ds ρ = some ρ1 → EnvOk K ι m H ρ σ → (∀ σ1, EnvOk K ι m H ρ1 σ1 → (∀ own : List Nat, (∀ i ∈ is, i ∈ own) → L2.wipe σ1 own = L2.wipe σ own) → Q σ1 H) → gNs is vs σ H Q
  | [], _, _, ρ, ρ1, σ, Q, .nil, h, en, k => by
    cases h
    exact ⟨rfl, k σ en fun _ _ => rfl⟩
  | [], _, _, _, _, _, _, .cons _ _, h, _, _ => by cases h
  | i :: is, _, _, _, _, _, _, .nil, h, _, _ => by cases h
  | i :: is, _, _, ρ, ρ1, σ, Q, .cons (v := v) (vs := vs) (d := d) (ds := ds) r rs, h, en, k => by
    refine ⟨v, vs, rfl, ?_⟩
    have h' : setAll is ds (ρ.set i (some (.d d))) = some ρ1 := h
    exact set_all (Q := Q) rs h' (en.set i (show RepW K ι m H v (.d d) from r)) fun σ1 e1 hw => k σ1 e1 fun own ho => by
      rw [hw own fun j hj => ho j (List.mem_cons_of_mem _ hj)]
      exact wipe_set (ho i List.mem_cons_self)
where
  wipe_set {σ : L2.St} {i : Nat} {x : Option V} : ∀ {own : List Nat}, i ∈ own → L2.wipe (σ.set i x) own = L2.wipe σ own
  | [], h => by cases h
  | j :: own, h => by
    unfold L2.wipe
    by_cases hj : i ∈ own
    · rw [wipe_set hj]
    · have e : i = j := by
        rcases List.mem_cons.mp h with e | e
        · exact e
        · exact absurd e hj
      subst e
      rw [wipe_out hj]
      rw [List.set_set]
  wipe_out {σ : L2.St} {i : Nat} {x : Option V} : ∀ {own : List Nat}, i ∉ own → L2.wipe (σ.set i x) own = (L2.wipe σ own).set i x
  | [], _ => rfl
  | j :: own, h => by
    unfold L2.wipe
    rw [wipe_out fun e => h (List.mem_cons_of_mem _ e)]
    exact List.set_comm _ _ fun e => h (e ▸ List.mem_cons_self)
def Tg.ns : Tg → List Nat
  | .nm i => [i]
  | .tp is => is
theorem asg_ok {K : PySem.W.Frag} {t : Tg} {v : V} {d : D} {ρ ρ1 : Env} {σ : L2.St} {Q : L2.St → Hp → Prop} (r : Rep K H (Live ι m) v d) (h : asgD t d ρ = some ρ1) (en : EnvOk K ι m H ρ σ)
    (k : ∀ σ1, EnvOk K ι m H ρ1 σ1 → (∀ own : List Nat, (∀ i ∈ t.ns, i ∈ own) → L2.wipe σ1 own = L2.wipe σ own) → Q σ1 H) : gOf K t v σ H Q := by
  cases t with
  | nm i =>
    cases h
    exact k _ (en.set i (show RepW K ι m H v (.d d) from r)) fun own ho => set_all.wipe_set (ho i List.mem_cons_self)
  | tp is =>
    cases d with
    | tuple ds =>
      cases r with
      | tup hs ra =>
        have h' : setAll is ds ρ = some ρ1 := h
        refine ⟨_, _, rfl, hs, ?_, set_all ra h' en k⟩
        rw [ra.length]
        clear en k ra hs h
        induction is generalizing ds ρ with
        | nil => cases ds with
          | nil => rfl
          | cons _ _ => cases h'
        | cons i is ih => cases ds with
          | nil => cases h'
          | cons d ds => rw [List.length_cons, List.length_cons, ih ds (show setAll is ds (ρ.set i (some (.d d))) = some ρ1 from h')]
    | _ => cases h
end
end DL
end
section
set_option Elab.async false
set_option linter.all false
set_option maxRecDepth 100000
set_option autoImplicit false
set_option maxHeartbeats 2000000
/-! DLi2: enumerate of a list or a tuple. -/
namespace DL
open PySem PySem.Spec PyProof.Rows L2
variable [Wd]
theorem meets_enum1 {v : Value} {o : Obj} {H : Heap → Prop} (B : Begins v o H) :
    Meets (Builtin.«enumerate.__new__» ⟨[.type "enumerate", v], []⟩) (fun _ R s => H s.heap ∧
      R (.ok (.ret (.ref (s.heap.push o).objs.size))) { s with heap := (s.heap.push o).push { cls := .type "enumerate", data := .fields #[.none, .bool false, .ref s.heap.objs.size, rawInt 0, .none, .none] } }) :=
  .of_wp fun prog w A R s h => by
    obtain ⟨hp, g, d, tk, os⟩ := s; obtain ⟨h1, h⟩ := h
    have hsub := sub_enumerate
    have q1 : ∀ {A' : Around} {E : Value → Shared → Prop} {Q : Value → Shared → Prop}, Q (.ref hp.objs.size) ⟨hp.push o, g, d, tk, os⟩ → wpAny (model prog w) A' (pyIter v) Q E ⟨hp, g, d, tk, os⟩ :=
      fun q => B.iter prog w _ _ ⟨hp, g, d, tk, os⟩ _ h1 q
    wp_walk using q1
    refine wpAny_stack_any fun st => wpAny_pure ?_
    split
    · rename_i c _ _ _ _ _
      cases (c == Value.type "enumerate")
      · wp_walk using q1
        exact ⟨_, rfl, h⟩
      · wp_walk using q1
        exact ⟨_, rfl, h⟩
    · wp_walk using q1
      exact ⟨_, rfl, h⟩
theorem call_enumT {prog : Program} {w : World} {A : Around} {E : Value → Shared → Prop} {s : Shared} {t : Addr} {items : Array Value} {Q : Value → Shared → Prop} (ht : s.heap.IsTuple t items)
    (h : ∀ h', IsEnum h' (s.heap.objs.size + 1) s.heap.objs.size 0 .none → h'.IsTupleIter s.heap.objs.size t 0 → h'.objs.size = s.heap.objs.size + 2 →
      (∀ b o, s.heap.get? b = some o → h'.get? b = some o) → Q (.ref (s.heap.objs.size + 1)) { s with heap := h' }) : wpAny (model prog w) A (call (.type "enumerate") [.ref t]) Q E s := by
  have B := begins_tuple t items
  refine callType_new F.called_enumerate (by decide) (F.typeCall_enumerate_1 _) (F.newCall_enumerate_1 _) (fun obj => F.args_object_init_2 obj _) F.entry_enumerate_new (meets_enum1 B) ⟨ht, ?_⟩
  have hz : (s.heap.push { cls := .type "tuple_iterator", data := .fields #[.ref t, .int 0 0] }).objs.size = s.heap.objs.size + 1 := Heap.size_push ..
  show _ ∧ _
  rw [hz]
  have he : IsEnum ((s.heap.push { cls := .type "tuple_iterator", data := .fields #[.ref t, .int 0 0] }).push { cls := .type "enumerate", data := .fields #[.none, .bool false, .ref s.heap.objs.size, rawInt 0, .none, .none] }) (s.heap.objs.size + 1) s.heap.objs.size 0 .none := by
    have q := Heap.get?_push_size (s.heap.push { cls := .type "tuple_iterator", data := .fields #[.ref t, .int 0 0] }) (o := { cls := .type "enumerate", data := .fields #[.none, .bool false, .ref s.heap.objs.size, rawInt 0, .none, .none] }) rfl
    rw [hz] at q; exact q
  exact ⟨⟨_, he, rfl⟩, h _ he ⟨_, Heap.get?_push_of_some _ (Heap.get?_push_size _ rfl), rfl, rfl⟩ (by rw [Heap.size_push, hz]) fun b o x => Heap.get?_push_of_some _ (Heap.get?_push_of_some _ x)⟩
/-- the tuple at a, each item in a new pair -/
def IteT (K : PySem.W.Frag) (a : Addr) : L2.It :=
  ⟨fun i H => ∃ (xs : List V) (x : V), SqT K H a xs ∧ xs[i]? = some x, fun i H v H' => ∃ T x, v = .ref T ∧ H T = none ∧ H' = upd H T (.tup [.int (i : Nat), x]) ∧ ∀ xs, SqT K H a xs → xs[i]? = some x, fun i H => ∃ xs : List V, SqT K H a xs ∧ xs.length = i⟩
theorem turn_enumT {P : Program} {w : World} {K : PySem.W.Frag} {elts : List Expr} {kk : Nat} {tpos : Pos} (a e it : Addr) :
    Turn P w K (.Tuple elts kk tpos) (IteT K a) [e, it] e (fun i h => (∃ old, IsEnum h e it ((i : Nat) : Int) old) ∧ h.IsTupleIter it a i ∧ e ≠ it ∧ a ≠ it ∧ a ≠ e) where
  mem := by simp
  obj := fun i h st b hb => by
    obtain ⟨⟨old, he⟩, ⟨o, ho, hc, hd⟩, _⟩ := st
    have e' : b = e ∨ b = it := by simpa using hb
    rcases e' with z | z
    · rw [z]; exact ⟨_, he, fun v q => nomatch q⟩
    · rw [z]; exact ⟨o, ho, fun v q => by rw [hd] at q; cases q⟩
  keep := fun i h h' st k => let ⟨⟨old, he⟩, hi, hne⟩ := st; ⟨⟨old, k e (by simp) _ he⟩, hi.at fun o q => k it (by simp) o q, hne⟩
  item := by
    intro X hP hw hK hc i pins s σ H E I hf st hg
    subst hP hw hK
    obtain ⟨⟨old, he⟩, hit, hne, hai, hae⟩ := st
    obtain ⟨xs, x, hq, hx⟩ := hg
    obtain ⟨its, rv, p, hz⟩ := I.tuple hq
    obtain ⟨u, hu, ru⟩ := rv.get hx
    have hel : e < s.heap.objs.size := Heap.lt_size he
    have hil : it < s.heap.objs.size := by obtain ⟨_, q, _⟩ := hit; exact Heap.lt_size q
    have hp : s.heap.IsTuple a its.toArray := p
    have hlt : i < its.toArray.size := by
      have := (List.getElem?_eq_some_iff.mp hu).1
      simpa using this
    refine wpAny_pyNext_enum_itemD (Draws.tuple (A := X.A.in1) (I.ok.hd hc) it a hai its.toArray) he ⟨hit, hp⟩ hlt hne (by simp; exact ⟨hne, Ne.symm hae⟩) fun x' h' tk hP ho hit' hT hsz hk => ?_
    have hP : its.toArray[i]? = some x' := hP
    have ex : x' = u := by
      have : its.toArray[i]? = some u := by simpa using hu
      rw [this] at hP
      exact (Option.some.inj hP).symm
    subst ex
    refine ⟨_, rfl, wpAny_letOwnedTupleGo_enum (s := { s with heap := h', toks := tk + 1 }) ho fun h'' he' sb => ?_⟩
    have hT2 : h''.get? s.heap.objs.size = some { cls := .type "tuple", data := .seq #[.int i tk, x'] } := (sb.2 _ (Nat.ne_of_gt hel)).trans hT
    have new : ObjOk X.prog X.w (upd H s.heap.objs.size (.tup [.int (i : Nat), x])) h'' s.heap.objs.size (.tup [.int (i : Nat), x]) :=
      ⟨by show 2 ≤ sizeLine; rw [sizeLine_eq]; decide, [.int i tk, x'], .cons ⟨_, rfl⟩ (.cons ru .nil), ⟨_, hT2, rfl, _, rfl⟩⟩
    have I1 : Inv X pins σ (upd H s.heap.objs.size (.tup [.int (i : Nat), x])) { s with heap := h'', toks := tk + 1 } :=
      I.turnedNew (ch := [e, it]) (fun b ob hb q => (sb.2 b (fun z => hb (by simp [z]))).trans (hk b ob (fun z => hb (by simp [z])) (fun z => hb (by simp [z])) q)) hf (Nat.le_refl _) new
    refine ⟨.ref s.heap.objs.size, _, I1, rfl, ⟨_, x, rfl, I.hok.fresh (Nat.le_refl _), rfl, fun ys hy => by rw [I.tuple_inj hy hq]; exact hx⟩, ⟨⟨x', ?_⟩, hit'.1.at fun o q => (sb.2 it (Ne.symm hne)).trans q, hne, hai, hae⟩, fun b hb => ?_⟩
    · have e1 : ((i + 1 : Nat) : Int) = (i : Int) + 1 := by omega
      rw [e1]; exact he'
    · have hb' : b < s.heap.objs.size := by
        have e' : b = e ∨ b = it := by simpa using hb
        rcases e' with z | z
        · rw [z]; exact hel
        · rw [z]; exact hil
      rw [upd_ne (Nat.ne_of_lt hb')]
      exact (hf b hb).1
  done := by
    intro X hP hw hK hc i pins s σ H E I hf st hg
    subst hP hw hK
    obtain ⟨⟨old, he⟩, hit, hne, hai, hae⟩ := st
    obtain ⟨xs, hq, hx⟩ := hg
    obtain ⟨its, rv, p, hz⟩ := I.tuple hq
    obtain ⟨f0, f1, f2, f3, f4, f5⟩ := hf it (by simp)
    have hl := rv.length
    have hp : s.heap.IsTuple a its.toArray := p
    have hi : i = its.toArray.size := by simp; omega
    subst hi
    exact wpAny_pyNext_enum_endD (Draws.tuple (A := X.A.in1) (I.ok.hd hc) it a hai its.toArray) he ⟨hit, hp⟩ fun h' eb => ⟨rfl, I.turned (t' := s.toks) (fun b o hb q => eb b o hb q) f0 f1 f3 f4 f5⟩
  self := fun A i s Q E st h => let ⟨⟨_, he⟩, _⟩ := st; wpAny_pyIter_enum he h
def iEnumA (K : PySem.W.Frag) (ta : TA) : TI := fun σ H Rr => ta σ H fun vs H1 => ∃ a xs, vs = [.ref a] ∧ ((SqL K H1 a xs ∧ Rr (Ite K a) H1) ∨ (SqT K H1 a xs ∧ Rr (IteT K a) H1))
theorem pi_enumA {X : Cx} {e : Expr} {ta : TA} {p pos tpos : Pos} {elts : List Expr} {kk : Nat} (hg : Gl X "enumerate") (hm : X.mg "enumerate" = none) (ha : PA X [e] ta) (hs : starEach [e] X.env = [(false, eval e X.env)] := by rfl) :
    PI X (.Tuple elts kk tpos) (.Call (.Name "enumerate" p) [e] [] pos) (iEnumA X.K ta) := by
  refine ⟨fun pins s σ H Rr I h => ?_⟩
  refine Call_ (ld_blt I hg hm boot_enumerate (PyProof.Rows.callWith_type1 (thn (ha.run pos pins s σ H _ I h) fun us s1 ⟨vs, H1, I1, r1, q1⟩ => ?_) hs rfl))
  obtain ⟨a, xs, ex, q1⟩ := q1
  subst ex
  cases r1 with
  | cons r rr =>
    cases rr
    cases r
    have fp : ∀ b ∈ [s1.heap.objs.size + 1, s1.heap.objs.size], FpOk X pins H1 b := fun b hb => by
      have e' : b = s1.heap.objs.size + 1 ∨ b = s1.heap.objs.size := by simpa using hb
      have hle : s1.heap.objs.size ≤ b := by
        rcases e' with z | z
        · rw [z]; exact Nat.le_add_right _ _
        · rw [z]; exact Nat.le_refl _
      exact I1.fpOk hle (I1.hok.fresh hle)
    rcases q1 with ⟨hq, q⟩ | ⟨hq, q⟩
    · obtain ⟨its, rv, p', hz⟩ := I1.list hq
      refine call_enumerate_list p'.isList fun h' he hit hsz hk => wpAny_pyIter_enum he ?_
      have I2 : Inv X pins σ H1 { s1 with heap := h' } := I1.kept (t' := s1.toks) hk
      exact ⟨s1.heap.objs.size + 1, [s1.heap.objs.size + 1, s1.heap.objs.size], _, _, H1, rfl, I2, turn_enum a (s1.heap.objs.size + 1) s1.heap.objs.size, ⟨⟨.none, he⟩, hit, Nat.succ_ne_self _⟩, fp, q⟩
    · obtain ⟨its, rv, p', hz⟩ := I1.tuple hq
      have p' : s1.heap.IsTuple a its.toArray := p'
      have la : a < s1.heap.objs.size := by obtain ⟨o, e, _⟩ := id p'; exact Heap.lt_size e
      refine call_enumT p' fun h' he hit hsz hk => wpAny_pyIter_enum he ?_
      have I2 : Inv X pins σ H1 { s1 with heap := h' } := I1.kept (t' := s1.toks) hk
      exact ⟨s1.heap.objs.size + 1, [s1.heap.objs.size + 1, s1.heap.objs.size], _, _, H1, rfl, I2, turn_enumT a (s1.heap.objs.size + 1) s1.heap.objs.size, ⟨⟨.none, he⟩, hit, Nat.succ_ne_self _, Nat.ne_of_lt la, Nat.ne_of_lt (Nat.lt_succ_of_lt la)⟩, fp, q⟩
def enD (xs : List D) : List D := (List.range xs.length).zipWith (fun k y => .tuple [.int (k : Nat), y]) xs
omit [Wd] in
theorem enD_len (xs : List D) : (enD xs).length = xs.length := by unfold enD; simp
omit [Wd] in
theorem enD_get {xs : List D} {i : Nat} {d : D} (h : (enD xs)[i]? = some d) : ∃ y, xs[i]? = some y ∧ d = .tuple [.int (i : Nat), y] := by
  have hi : i < xs.length := by
    have := (List.getElem?_eq_some_iff.mp h).1
    rwa [enD_len] at this
  refine ⟨xs[i], List.getElem?_eq_getElem hi, ?_⟩
  unfold enD at h
  rw [List.getElem?_zipWith, List.getElem?_range hi, List.getElem?_eq_getElem hi] at h
  exact (Option.some.inj h).symm
theorem le_freshT {K : PySem.W.Frag} {ι : Ix} {m : Store} {H : Hp} {T : Addr} {o : HO} (s : StOk K ι m H) (h : H T = none) : Le ι m H ι m (upd H T o) ∧ StOk K ι m (upd H T o) := ⟨le_fresh s h, s.fresh h⟩
section
variable {K : PySem.W.Frag} {ι : Ix} {m : Store} {H : Hp}
theorem pair_rep {T : Addr} {x : V} {y : D} {i : Nat} {ι' : Ix} {m' : Store} {H' : Hp} (s : StOk K ι' m' H') (h : H' T = none) (r : Rep K H' (Live ι' m') x y) : Rep K (upd H' T (.tup [.int (i : Nat), x])) (Live ι' m') (.ref T) (.tuple [.int (i : Nat), y]) :=
  rep_newTup s h (.cons (.int _) (.cons r .nil))
theorem feeds_enL {a : Addr} {ds : List D} (r : Rep K H (Live ι m) (.ref a) (.list ds)) : Feeds K ι m H (Ite K a) (enD ds) where
  go := fun i ι' m' H' hi l s => by
    rw [enD_len] at hi
    cases Rep.up l r with
    | lst h ra => exact ⟨_, _, sq_of h, List.getElem?_eq_getElem (by rw [ra.length]; exact hi)⟩
  stop := fun ι' m' H' l s => by
    cases Rep.up l r with
    | lst h ra => exact ⟨_, sq_of h, by rw [ra.length, enD_len]; exact Nat.le_refl _⟩
  yld := fun i d ι' m' H' v H'' hd l s y => by
    obtain ⟨T, x, rfl, hT, rfl, y⟩ := y
    obtain ⟨d', e1, rfl⟩ := enD_get hd
    cases Rep.up l r with
    | lst h ra =>
      obtain ⟨v', hv, rv⟩ := ra.get e1
      have := y _ (sq_of h)
      rw [hv] at this
      cases this
      exact ⟨le_fresh s hT, s.fresh hT, pair_rep s hT rv⟩
theorem feeds_enT {a : Addr} {ds : List D} (r : Rep K H (Live ι m) (.ref a) (.tuple ds)) : Feeds K ι m H (IteT K a) (enD ds) where
  go := fun i ι' m' H' hi l s => by
    rw [enD_len] at hi
    cases Rep.up l r with
    | tup h ra => exact ⟨_, _, h, List.getElem?_eq_getElem (by rw [ra.length]; exact hi)⟩
  stop := fun ι' m' H' l s => by
    cases Rep.up l r with
    | tup h ra => exact ⟨_, h, by rw [ra.length, enD_len]⟩
  yld := fun i d ι' m' H' v H'' hd l s y => by
    obtain ⟨T, x, rfl, hT, rfl, y⟩ := y
    obtain ⟨d', e1, rfl⟩ := enD_get hd
    cases Rep.up l r with
    | tup h ra =>
      obtain ⟨v', hv, rv⟩ := ra.get e1
      have := y _ h
      rw [hv] at this
      cases this
      exact ⟨le_fresh s hT, s.fresh hT, pair_rep s hT rv⟩
end
section
variable {X : Cx} {RX : RXT} {W : WX} {F : Type} {Φ : F → List Val → Store → R Val} {L : Nat}
theorem ok_enum {x : Str} {e : Expr} {p pos tpos : Pos} {elts : List Expr} {kk : Nat} {pe : PX F} (hx : x = "enumerate") (hg : Gl X x) (hm : X.mg x = none) (he : PE X e (tX X.K RX W (ev Φ pe))) (hn : noStar e = true) :
    PI X (.Tuple elts kk tpos) (.Call (.Name x p) [e] [] pos) (tI X.K RX W (evI Φ (.enum pe))) := by
  subst hx
  refine PI.imp (pi_enumA hg hm (pa1 he hn) (star_cons hn)) fun σ H Rr ⟨ρ, m, ι, en, st, h⟩ => ?_
  have h' : PostR X.K RX W ι m H ((ev Φ pe ρ m).bind fun v m1 => (fz v m1).bind fun x m2 => match seqOf x with
    | some xs => R.ok (enD xs) m2
    | none => .no) (fun xs ι' m' H' => ∀ J, Feeds X.K ι' m' H' J xs → Rr J H') := h
  refine ⟨ρ, m, ι, en, st, h'.bind.mono fun v ι1 m1 H1 l1 s1 g x r => ?_⟩
  obtain ⟨m2, d, l2, s2, r2, g2⟩ := post_fz s1 r g.bind
  cases d with
  | list ys =>
    have g2 := PostR.here (RX := RX) (W := W) s2 g2
    cases r2 with
    | lst h ra => exact ⟨_, _, rfl, .inl ⟨sq_of h, g2 _ (feeds_enL (.lst h ra))⟩⟩
  | tuple ys =>
    have g2 := PostR.here (RX := RX) (W := W) s2 g2
    cases r2 with
    | tup h ra => exact ⟨_, _, rfl, .inr ⟨h, g2 _ (feeds_enT (.tup h ra))⟩⟩
  | _ => exact False.elim g2

/-! ### zip -/
def zpD (xs ys : List D) : List D := xs.zipWith (fun a b => .tuple [a, b]) ys
omit [Wd] in
theorem zpD_get {xs ys : List D} {i : Nat} {d : D} (h : (zpD xs ys)[i]? = some d) : ∃ a b, xs[i]? = some a ∧ ys[i]? = some b ∧ d = .tuple [a, b] := by
  unfold zpD at h
  rw [List.getElem?_zipWith] at h
  cases e1 : xs[i]? with
  | none => rw [e1] at h; cases h
  | some a =>
    cases e2 : ys[i]? with
    | none => rw [e1, e2] at h; cases h
    | some b => rw [e1, e2] at h; cases h; exact ⟨a, b, rfl, rfl, rfl⟩
omit [Wd] in
theorem zpD_len (xs ys : List D) : (zpD xs ys).length = min xs.length ys.length := by unfold zpD; rw [List.length_zipWith]
section
variable {K : PySem.W.Frag} {ι : Ix} {m : Store} {H : Hp}
theorem feeds_zL {a b : Addr} {ds es : List D} (r : Rep K H (Live ι m) (.ref a) (.list ds)) (r2 : Rep K H (Live ι m) (.ref b) (.list es)) : Feeds K ι m H (Itz K a b) (zpD ds es) where
  go := fun i ι' m' H' hi l s => by
    rw [zpD_len] at hi
    cases Rep.up l r with
    | lst h ra => cases Rep.up l r2 with
      | lst h2 ra2 => exact ⟨_, _, _, _, sq_of h, sq_of h2, List.getElem?_eq_getElem (by rw [ra.length]; omega), List.getElem?_eq_getElem (by rw [ra2.length]; omega)⟩
  stop := fun ι' m' H' l s => by
    cases Rep.up l r with
    | lst h ra => cases Rep.up l r2 with
      | lst h2 ra2 => exact ⟨_, _, sq_of h, sq_of h2, by rw [ra.length, ra2.length, zpD_len]; omega⟩
  yld := fun i d ι' m' H' v H'' hd l s y => by
    obtain ⟨T, x, z, rfl, hT, rfl, y1, y2⟩ := y
    obtain ⟨d1, d2, e1, e2, rfl⟩ := zpD_get hd
    cases Rep.up l r with
    | lst h ra => cases Rep.up l r2 with
      | lst h2 ra2 =>
        obtain ⟨v1, hv1, rv1⟩ := ra.get e1
        obtain ⟨v2, hv2, rv2⟩ := ra2.get e2
        have q1 := y1 _ (sq_of h)
        have q2 := y2 _ (sq_of h2)
        rw [hv1] at q1
        rw [hv2] at q2
        cases q1
        cases q2
        exact ⟨le_fresh s hT, s.fresh hT, rep_newTup s hT (.cons rv1 (.cons rv2 .nil))⟩
theorem feeds_zT {a b : Addr} {ds es : List D} (r : Rep K H (Live ι m) (.ref a) (.tuple ds)) (r2 : Rep K H (Live ι m) (.ref b) (.tuple es)) : Feeds K ι m H (RZ.ItzT K a b) (zpD ds es) where
  go := fun i ι' m' H' hi l s => by
    rw [zpD_len] at hi
    cases Rep.up l r with
    | tup h ra => cases Rep.up l r2 with
      | tup h2 ra2 => exact ⟨_, _, _, _, h, h2, List.getElem?_eq_getElem (by rw [ra.length]; omega), List.getElem?_eq_getElem (by rw [ra2.length]; omega)⟩
  stop := fun ι' m' H' l s => by
    cases Rep.up l r with
    | tup h ra => cases Rep.up l r2 with
      | tup h2 ra2 => exact ⟨_, _, h, h2, by rw [ra.length, ra2.length, zpD_len]; omega⟩
  yld := fun i d ι' m' H' v H'' hd l s y => by
    obtain ⟨T, x, z, rfl, hT, rfl, y1, y2⟩ := y
    obtain ⟨d1, d2, e1, e2, rfl⟩ := zpD_get hd
    cases Rep.up l r with
    | tup h ra => cases Rep.up l r2 with
      | tup h2 ra2 =>
        obtain ⟨v1, hv1, rv1⟩ := ra.get e1
        obtain ⟨v2, hv2, rv2⟩ := ra2.get e2
        have q1 := y1 _ h
        have q2 := y2 _ h2
        rw [hv1] at q1
        rw [hv2] at q2
        cases q1
        cases q2
        exact ⟨le_fresh s hT, s.fresh hT, rep_newTup s hT (.cons rv1 (.cons rv2 .nil))⟩
end
theorem ok_zip {x : Str} {a b : Expr} {p pos tpos : Pos} {elts : List Expr} {kk : Nat} {pa pb : PX F} (hx : x = "zip") (hg : Gl X x) (hm : X.mg x = none) (ha : PE X a (tX X.K RX W (ev Φ pa))) (hb : PE X b (tX X.K RX W (ev Φ pb))) (hna : noStar a = true) (hnb : noStar b = true) :
    PI X (.Tuple elts kk tpos) (.Call (.Name x p) [a, b] [] pos) (tI X.K RX W (evI Φ (.zip pa pb))) := by
  subst hx
  refine PI.imp (RZ.pi_zipA hg hm (pa_cons ha (pa1 hb hnb) (star_cons hna)) (star_cons hna) (by rw [star_cons hnb]; rfl)) fun σ H Rr ⟨ρ, m, ι, en, st, h⟩ => ?_
  have h' : PostR X.K RX W ι m H ((ev Φ pa ρ m).bind fun v m1 => (fz v m1).bind fun x m2 => (ev Φ pb ρ m2).bind fun w m3 => (fz w m3).bind fun y m4 => match seqOf x, seqOf y with
    | some xs, some ys => if isTupD x == isTupD y then R.ok (zpD xs ys) m4 else .no
    | _, _ => .no) (fun xs ι' m' H' => ∀ J, Feeds X.K ι' m' H' J xs → Rr J H') := h
  refine ⟨ρ, m, ι, en, st, h'.bind.mono fun v ι1 m1 H1 l1 s1 g x r => ?_⟩
  obtain ⟨m2, d, l2, s2, r2, g2⟩ := post_fz s1 r g.bind
  refine ⟨ρ, m2, ι1, en.le (l1.trans l2), s2, g2.bind.mono fun w ι3 m3 H3 l3 s3 g3 y ry => ?_⟩
  obtain ⟨m4, d', l4, s4, r4, g4⟩ := post_fz s3 ry g3.bind
  have r2 := Rep.up (l3.trans l4).up r2
  cases d with
  | list xs =>
    cases d' with
    | list ys =>
      have g4 := PostR.here (RX := RX) (W := W) s4 g4
      cases r2 with
      | lst h ra => cases r4 with
        | lst h' ra' => exact ⟨_, _, _, _, rfl, .inl ⟨sq_of h, sq_of h', g4 _ (feeds_zL (.lst h ra) (.lst h' ra'))⟩⟩
    | _ => exact False.elim g4
  | tuple xs =>
    cases d' with
    | tuple ys =>
      have g4 := PostR.here (RX := RX) (W := W) s4 g4
      cases r2 with
      | tup h ra => cases r4 with
        | tup h' ra' => exact ⟨_, _, _, _, rfl, .inr ⟨h, h', g4 _ (feeds_zT (.tup h ra) (.tup h' ra'))⟩⟩
    | _ => exact False.elim g4
  | _ => exact False.elim g4
end
end DL
end
section
set_option Elab.async false
set_option linter.all false
set_option maxRecDepth 100000
set_option autoImplicit false
set_option maxHeartbeats 2000000
/-! DLj: list comprehensions. -/
namespace DL
open PySem PySem.Spec PyProof.Rows L2
variable [Wd]

section
variable {K : PySem.W.Frag} {ι ι' : Ix} {m m' : Store} {H H' : Hp} {D : Addr}
theorem upd_again {H : Hp} {a : Addr} {o o' : HO} : upd (upd H a o) a o' = upd H a o' := by
  funext b
  unfold upd
  by_cases h : b = a
  · rw [if_pos h, if_pos h]
  · rw [if_neg h, if_neg h, if_neg h]
/-- a hidden address more -/
def Ix.hide (ι : Ix) (D : Addr) : Ix := ⟨ι.l, D :: ι.x⟩
theorem live_hide {a : Addr} : Live (ι.hide D) m a ↔ Live ι m a ∨ a = D := by
  constructor
  · rintro (h | h)
    · exact .inl (.inl h)
    · rcases List.mem_cons.mp (show a ∈ D :: ι.x from h) with h | h
      · exact .inr h
      · exact .inl (.inr h)
  · rintro ((h | h) | h)
    · exact .inl h
    · exact .inr (List.mem_cons_of_mem _ h)
    · exact .inr (h ▸ List.mem_cons_self)
theorem le_hide {o : HO} (s : StOk K ι m H) (hD : H D = none) : Le ι m H (ι.hide D) m (upd H D o) :=
  ⟨⟨[], by simp [Ix.hide]⟩, fun a h => List.mem_cons_of_mem _ h, fun a ha => upd_ne (ex_ne s hD ha),
    fun b u h _ l => ⟨by rw [upd_ne (ne_of_none h hD)]; exact h, fun q => by
      rcases live_hide.mp q with q | q
      · exact l q
      · rw [q, hD] at h; cases h⟩,
    fun b xs h => by rw [upd_ne (ne_of_none h hD)]; exact h, fun b o u h => by rw [upd_ne (ne_of_none h hD)]; exact h⟩
theorem StOk.hide {o : HO} (s : StOk K ι m H) (hD : H D = none) : StOk K (ι.hide D) m (upd H D o) := by
  have l := le_hide (o := o) s hD
  refine ⟨s.len, s.nd, fun a ha hm => ?_, fun a ha => ?_, fun a ha => ?_, fun n a c h1 h2 => ?_, tabs_fresh s.tb hD⟩
  · rcases List.mem_cons.mp (show a ∈ D :: ι.x from ha) with e | e
    · obtain ⟨u, q⟩ := s.trk a hm
      rw [e, hD] at q; cases q
    · exact s.dis a e hm
  · obtain ⟨u, q⟩ := s.trk a ha
    exact ⟨u, by rw [upd_ne (ne_of_none q hD)]; exact q⟩
  · rcases List.mem_cons.mp (show a ∈ D :: ι.x from ha) with e | e
    · exact ⟨o, by rw [e]; exact upd_same⟩
    · obtain ⟨u, q⟩ := s.trx a e
      exact ⟨u, by rw [upd_ne (ne_of_none q hD)]; exact q⟩
  · exact (s.ok n a c h1 h2).up l.up fun vs e _ => by rw [upd_ne (ne_of_none e hD)]; exact e
/-- a hidden thing changes -/
theorem up_hidC {o0 o1 : HO} (hx : D ∈ ι.x) (hD : H D = some o0) (mu : MutH o0) : Up H (upd H D o1) (Live ι m) (Live ι m) := by
  have ne : ∀ b, ¬ Live ι m b → b ≠ D := fun b l e => l (.inr (e ▸ hx))
  refine ⟨fun b o h _ l => ⟨by rw [upd_ne (ne b l)]; exact h, l⟩, fun b xs h => ?_, fun b o u h => ?_⟩
  · have e : b ≠ D := fun e => by rw [e, hD] at h; exact mu.1 xs (Option.some.inj h)
    rw [upd_ne e]; exact h
  · have e : b ≠ D := fun e => by rw [e, hD] at h; exact mu.2.1 o u (Option.some.inj h)
    rw [upd_ne e]; exact h
theorem StOk.hidC {o0 o1 : HO} (s : StOk K ι m H) (hx : D ∈ ι.x) (hD : H D = some o0) (mu : MutH o0) (nx : ∀ q, o0 ≠ LamX.CodeO D q) : StOk K ι m (upd H D o1) := by
  refine ⟨s.len, s.nd, s.dis, fun a ha => ?_, fun a ha => ?_, fun n a c h1 h2 => ?_, tabs_write s.tb hD mu nx⟩
  · obtain ⟨u, q⟩ := s.trk a ha
    exact ⟨u, by rw [upd_ne (fun e => s.dis D hx (by rw [← e]; exact ha))]; exact q⟩
  · by_cases e : a = D
    · exact ⟨_, by rw [e]; exact upd_same⟩
    · obtain ⟨u, q⟩ := s.trx a ha
      exact ⟨u, by rw [upd_ne e]; exact q⟩
  · exact (s.ok n a c h1 h2).up (up_hidC hx hD mu) fun vs e _ => by
      rw [upd_ne (fun e => s.dis D hx (by rw [← e]; exact List.mem_of_getElem? h1))]; exact e
theorem Le.hidC {o1 : HO} (l : Le ι m H ι' m' H') (hn : H D = none) (st : StOk K ι m H) : Le ι m H ι' m' (upd H' D o1) := by
  refine ⟨l.pre, l.ex, fun a ha => by rw [upd_ne (ex_ne st hn ha)]; exact l.exk a ha, fun b o h nt lv => ?_, fun b xs h => ?_, fun b o u h => ?_⟩
  · obtain ⟨h1, h2⟩ := l.keep b o h nt lv
    exact ⟨by rw [upd_ne (ne_of_none h hn)]; exact h1, h2⟩
  · rw [upd_ne (ne_of_none h hn)]; exact l.tups b xs h
  · rw [upd_ne (ne_of_none h hn)]; exact l.frzs b o u h
theorem up_hid {vs ws : List V} (hx : D ∈ ι.x) (hD : H D = some (.lst vs)) : Up H (upd H D (.lst ws)) (Live ι m) (Live ι m) := up_hidC hx hD .lst
theorem StOk.hid {vs ws : List V} (s : StOk K ι m H) (hx : D ∈ ι.x) (hD : H D = some (.lst vs)) : StOk K ι m (upd H D (.lst ws)) := s.hidC hx hD .lst (fun _ h => nomatch h)
theorem Le.hid {ws : List V} {vs : List V} (l : Le ι m H ι' m' H') (hn : H D = none) (hD : H' D = some (.lst vs)) (st : StOk K ι m H) : Le ι m H ι' m' (upd H' D (.lst ws)) := l.hidC hn st
/-- the hidden thing becomes a cell -/
def Ix.show (ι : Ix) (D : Addr) : Ix := ⟨ι.l ++ [D], ι.x.filter (· ≠ D)⟩
theorem live_show {c : Cell} {a : Addr} (s : StOk K ι m H) (hx : D ∈ ι.x) (hf : c.isFz = false) : Live (ι.show D) (m ++ [c]) a ↔ Live ι m a := by
  have e : Live (ι.show D) (m ++ [c]) a ↔ Live ((⟨ι.l, ι.x.filter (· ≠ D)⟩ : Ix).add D) (m ++ [c]) a := Iff.rfl
  rw [e, live_app (ι := ⟨ι.l, ι.x.filter (· ≠ D)⟩) s.len]
  constructor
  · rintro ((h | h) | ⟨rfl, _⟩)
    · exact .inl h
    · exact .inr (List.mem_filter.mp h).1
    · exact .inr hx
  · rintro (h | h)
    · exact .inl (.inl h)
    · by_cases ha : a = D
      · exact .inr ⟨ha, hf⟩
      · exact .inl (.inr (List.mem_filter.mpr ⟨h, by simpa using ha⟩))
theorem up_show {c : Cell} (s : StOk K ι m H) (hx : D ∈ ι.x) (hf : c.isFz = false) : Up H H (Live ι m) (Live (ι.show D) (m ++ [c])) := ⟨fun b o h _ l => ⟨h, fun q => l ((live_show s hx hf).mp q)⟩, fun _ _ h => h, fun _ _ _ h => h⟩
theorem StOk.showC {c : Cell} {o0 : HO} (s : StOk K ι m H) (hx : D ∈ ι.x) (hf : c.isFz = false) (hD : H D = some o0) (q : CellOk K H (Live (ι.show D) (m ++ [c])) D c) : StOk K (ι.show D) (m ++ [c]) H := by
  have u := up_show s hx hf
  have nl := s.dis D hx
  refine ⟨by show (ι.l ++ [D]).length = _; rw [List.length_append, List.length_append, s.len]; rfl, ?_, fun a ha hm => ?_, fun a ha => ?_, fun a ha => s.trx a (List.mem_filter.mp ha).1, fun n a c h1 h2 => ?_, s.tb⟩
  · show (ι.l ++ [D]).Nodup
    rw [List.nodup_append]
    exact ⟨s.nd, by simp, fun a ha b hb => by simp at hb; subst hb; exact fun e => nl (e ▸ ha)⟩
  · obtain ⟨h1, h2⟩ := List.mem_filter.mp ha
    rcases List.mem_append.mp (show a ∈ ι.l ++ [D] from hm) with h | h
    · exact s.dis a h1 h
    · have e : a = D := by simpa using h
      simp [e] at h2
  · rcases List.mem_append.mp (show a ∈ ι.l ++ [D] from ha) with h | h
    · exact s.trk a h
    · have e : a = D := by simpa using h
      exact ⟨_, by rw [e]; exact hD⟩
  · have h1 : (ι.l ++ [D])[n]? = some a := h1
    by_cases hn : n < ι.l.length
    · rw [List.getElem?_append_left hn] at h1
      rw [List.getElem?_append_left (by rw [← s.len]; exact hn)] at h2
      exact (s.ok n a c h1 h2).up u fun vs e _ => e
    · have hl := (List.getElem?_eq_some_iff.mp h1).1
      have en : n = ι.l.length := by simp at hl; omega
      subst en
      rw [List.getElem?_append_right (Nat.le_refl _)] at h1
      rw [s.len, List.getElem?_append_right (Nat.le_refl _)] at h2
      simp at h1 h2
      subst h1 h2
      exact q
theorem StOk.show {xs : List PyData} {vs : List V} (s : StOk K ι m H) (hx : D ∈ ι.x) (hD : H D = some (.lst vs)) (r : RepAll K H (Live ι m) vs xs) : StOk K (ι.show D) (m ++ [.lst xs]) H :=
  s.showC hx rfl hD ⟨vs, hD, r.up (up_show s hx rfl)⟩
theorem Le.show {ι1 : Ix} {m1 : Store} {H1 : Hp} {c : Cell} (l : Le ι1 m1 H1 ι m H) (s1 : StOk K ι1 m1 H1) (s : StOk K ι m H) (hn : H1 D = none) (hx : D ∈ ι.x) (hf : c.isFz = false := by rfl) : Le ι1 m1 H1 (ι.show D) (m ++ [c]) H := by
  obtain ⟨k, e⟩ := l.pre
  refine ⟨⟨k ++ [D], by show ι.l ++ [D] = _; rw [e, List.append_assoc]⟩, fun a ha => List.mem_filter.mpr ⟨l.ex a ha, ?_⟩, l.exk, fun b o h nt lv => ?_, l.tups, l.frzs⟩
  · simpa using ex_ne s1 hn ha
  · obtain ⟨h1, h2⟩ := l.keep b o h nt lv
    exact ⟨h1, fun q => h2 ((live_show s hx hf).mp q)⟩
end

omit [Wd] in
theorem bind_ok {α β : Type} {r : R α} {f : α → Store → R β} {b : β} {m : Store} (h : r.bind f = .ok b m) : ∃ a m1, r = .ok a m1 ∧ f a m1 = .ok b m := by
  cases r with
  | ok a m1 => exact ⟨a, m1, rfl, h⟩
  | ex _ _ => cases h
  | no => cases h
omit [Wd] in
theorem compLoop_len {f : D → Store → R (Option D)} : ∀ {xs acc ys : List D} {m m6 : Store}, compLoop f xs acc m = .ok ys m6 → acc.length ≤ ys.length
  | [], _, _, _, _, h => by cases h; exact Nat.le_refl _
  | x :: xs, acc, ys, m, m6, h => by
    obtain ⟨o, m1, _, h2⟩ := bind_ok (show (f x m).bind _ = _ from h)
    cases o with
    | none => exact compLoop_len h2
    | some y =>
      have := compLoop_len (acc := acc ++ [y]) h2
      rw [List.length_append] at this
      omega
theorem wipe_wipe {σ : L2.St} {own : List Nat} : ∀ {own' : List Nat}, (∀ i ∈ own', i ∈ own) → L2.wipe (L2.wipe σ own') own = L2.wipe σ own
  | [], _ => rfl
  | i :: own', h => by
    show L2.wipe ((L2.wipe σ own').set i none) own = _
    rw [set_all.wipe_set (h i List.mem_cons_self)]
    exact wipe_wipe fun j hj => h j (List.mem_cons_of_mem _ hj)

section
variable {X : Cx} {RX : RXT} {W : WX} {F : Type} {Φ : F → List Val → Store → R Val} {L : Nat}
abbrev W0 : WX := fun _ _ _ _ => False
theorem post_val {α : Type} {K : PySem.W.Frag} {W : WX} {ι : Ix} {m m1 : Store} {H : Hp} {a : α} {r : R α} {G : α → Ix → Store → Hp → Prop} (e : r = .ok a m1) (h : ∀ ι' H', Le ι m H ι' m1 H' → StOk K ι' m1 H' → G a ι' m1 H') : PostR K RX W ι m H r G := by
  rw [e]
  exact h
theorem fz_of {K : PySem.W.Frag} {ι : Ix} {m m1 : Store} {H : Hp} {x : V} {v : Val} {y : D} (s : StOk K ι m H) (r : RepW K ι m H x v) (e : fz v m = .ok y m1) : Le ι m H ι m1 H ∧ StOk K ι m1 H ∧ Rep K H (Live ι m1) x y := by
  obtain ⟨m', d, h1, h2, h3, h4, h5⟩ := post_fz (RX := fun _ _ _ _ => False) (W := fun _ _ _ _ => False) (G := fun d _ m' _ => d = y ∧ m' = m1) s r (by rw [e]; exact fun _ _ _ _ => ⟨rfl, rfl⟩)
  subst h4 h5
  exact ⟨h1, h2, h3⟩
def turnF (t : Tg) (own : List Nat) (c : PO F) (elt : PX F) (ρ : Env) (x : D) (m2 : Store) : R (Option D) := match asgD t x (wipeE ρ own) with
  | some ρ1 => (evC Φ c ρ1 m2).bind fun b m3 => if b then (ev Φ elt ρ1 m3).bind fun v m4 => (fz v m4).bind fun y m5 => .ok (some y) m5 else .ok none m3
  | none => .no
theorem read_comp {t : Tg} {it : It F} {c : PO F} {elt : PX F} {own : List Nat} (ho : ∀ i ∈ t.ns, i ∈ own) (σ : L2.St) (H : Hp) (Q : VK) (h : tX X.K RX W (ev Φ (.comp elt t it c own)) σ H Q) :
    tLc (tI X.K RX W (evI Φ it)) (gOf X.K t) (tT X.K RX W0 (evC Φ c)) (tX X.K RX W0 (ev Φ elt)) own σ H Q := by
  obtain ⟨ρ, m, ι, en, st, h⟩ := h
  have h' : PostR X.K RX W ι m H ((evI Φ it ρ m).bind fun xs m1 => (R.calm (compLoop (turnF (Φ := Φ) t own c elt ρ) xs [] m1)).bind fun ys m6 => put (.lst ys) m6) (GV X.K Q) := h
  refine ⟨ρ, m, ι, en, st, h'.bind.mono fun xs ι1 m1 H1 l1 s1 g J fd D hD => ?_⟩
  cases hc : compLoop (turnF (Φ := Φ) t own c elt ρ) xs [] m1 with
  | no => rw [hc] at g; exact False.elim g
  | ex _ _ => rw [hc] at g; exact False.elim g
  | ok ys m6 =>
  rw [hc] at g
  have g : PostR X.K RX W ι1 m1 H1 (put (.lst ys) m6) (GV X.K Q) := g
  unfold put at g
  dsimp only at g
  by_cases hz : ys.length ≤ sizeLine
  · rw [if_pos hz] at g
    refine ⟨fun i n Hi => n = xs.length - i ∧ i ≤ xs.length ∧ ∃ acc vs mi ιi, Hi D = some (.lst vs) ∧ D ∈ ιi.x ∧ RepAll X.K Hi (Live ιi mi) vs acc ∧ Le ι1 m1 H1 ιi mi Hi ∧ StOk X.K ιi mi Hi ∧ compLoop (turnF (Φ := Φ) t own c elt ρ) (xs.drop i) acc mi = .ok ys m6,
      ⟨xs.length, rfl, Nat.zero_le _, [], [], m1, ι1.hide D, upd_same, List.mem_cons_self, .nil, le_hide s1 hD, s1.hide hD, hc⟩, ?_⟩
    rintro i n Hi ⟨rfl, hi, acc, vs, mi, ιi, hDi, hx, ra, li, si, hci⟩
    by_cases hlt : i < xs.length
    · refine .inr ⟨fd.go i _ _ _ hlt li.up si, fun H' => i + 1 ≤ xs.length ∧ ∃ acc vs mi ιi, H' D = some (.lst vs) ∧ D ∈ ιi.x ∧ RepAll X.K H' (Live ιi mi) vs acc ∧ Le ι1 m1 H1 ιi mi H' ∧ StOk X.K ιi mi H' ∧ compLoop (turnF (Φ := Φ) t own c elt ρ) (xs.drop (i + 1)) acc mi = .ok ys m6,
        fun H' w => ⟨xs.length - (i + 1), by omega, rfl, w⟩, fun v H' y => ?_⟩
      have hxi : xs[i]? = some xs[i] := List.getElem?_eq_getElem hlt
      obtain ⟨ly, sy, rv⟩ := fd.yld i _ _ _ _ v H' hxi li.up si y
      rw [List.drop_eq_getElem_cons hlt] at hci
      obtain ⟨o, m', hf, hrest⟩ := bind_ok (show (turnF (Φ := Φ) t own c elt ρ xs[i] mi).bind _ = _ from hci)
      have lall := li.trans ly
      unfold turnF at hf
      cases hasg : asgD t xs[i] (wipeE ρ own) with
      | none => rw [hasg] at hf; cases hf
      | some ρ1 =>
      rw [hasg] at hf
      dsimp only at hf
      obtain ⟨b, m3, hb, hf2⟩ := bind_ok hf
      refine asg_ok rv hasg (((en.le l1).le lall).wipe own) fun σ1 e1 hw => ⟨(hw own ho).trans (wipe_wipe fun _ h => h), ?_⟩
      refine ⟨ρ1, mi, ιi, e1, sy, post_val hb fun ι3 H3 l3 s3 => ?_⟩
      have hD3 : H3 D = some (.lst vs) := by rw [l3.exk D hx, ly.exk D hx]; exact hDi
      cases b with
      | false =>
        cases hf2
        exact ⟨hlt, acc, vs, _, ι3, hD3, l3.ex D hx, (ra.up ly.up).up l3.up, lall.trans l3, s3, hrest⟩
      | true =>
        rw [if_pos rfl] at hf2
        dsimp only
        rw [if_pos rfl]
        obtain ⟨w, m4, hw4, hf3⟩ := bind_ok hf2
        refine ⟨ρ1, m3, ι3, e1.le l3, s3, post_val hw4 fun ι4 H4 l4 s4 x rx => ?_⟩
        obtain ⟨d, m5, hfz, hf4⟩ := bind_ok hf3
        cases hf4
        obtain ⟨l5, s5, r5⟩ := fz_of s4 rx hfz
        have hD4 : H4 D = some (.lst vs) := by rw [l4.exk D (l3.ex D hx)]; exact hD3
        have hx4 : D ∈ ι4.x := l4.ex D (l3.ex D hx)
        have ra5 : RepAll X.K H4 (Live ι4 m') vs acc := (((ra.up ly.up).up l3.up).up l4.up).up l5.up
        have hlen := compLoop_len hrest
        rw [List.length_append] at hlen
        refine ⟨vs, hD4, by rw [ra.length]; simp at hlen; omega, hlt, acc ++ [d], vs ++ [x], m', ι4, upd_same, hx4, (ra5.app (.cons r5 .nil)).up (up_hid hx4 hD4), ?_, s5.hid hx4 hD4, hrest⟩
        exact ((((lall.trans l3).trans l4).trans l5)).hid hD hD4 s1
    · have ei : i = xs.length := by omega
      subst ei
      refine .inl ⟨fd.stop _ _ _ li.up si, ?_⟩
      rw [List.drop_length] at hci
      cases hci
      exact g _ _ (li.show s1 si hD hx) (si.show hx hDi ra) _ ⟨D, by show (ιi.l ++ [D])[_]? = some D; rw [← si.len]; simp, rfl⟩
  · rw [if_neg hz] at g
    exact False.elim g
end
end DL
end
section
set_option Elab.async false
set_option linter.all false
set_option maxRecDepth 100000
set_option autoImplicit false
set_option maxHeartbeats 1000000
/-! DN5: displays of dicts, d.get(..). -/
namespace DL
open PySem PySem.Spec PyProof.Rows L2
variable [Wd]
def mergeN (ns more : List Tri) : List Tri := more.foldl (fun acc n => putN acc n.1 n.2.1 n.2.2) ns
theorem rh_merge {more : List Tri} {ps : List (NestedKey × Addr × Value)} (p : Paired RH more ps) : ∀ {xs : List (NestedKey × Addr × Value)} {ns : List Tri}, Paired RH ns xs → Paired RH (mergeN ns more) (storedAllH xs ps) := by
  induction p with
  | nil => exact fun q => q
  | @cons n x l m r t ih =>
    intro xs ns q
    obtain ⟨r1, r2, r3⟩ := r
    refine ih (xs := storedH xs x.1 x.2.1 x.2.2) (ns := putN ns n.1 n.2.1 n.2.2) ?_
    rw [r1, r2]
    exact rh_put x.1 r3 q
theorem rs_merge {more : List Tri} {ps : List (Key × Value)} (p : Paired RS more ps) : ∀ {xs : List (Key × Value)} {ns : List Tri}, Paired RS ns xs → Paired RS (mergeN ns more) (merged xs ps) := by
  induction p with
  | nil => exact fun q => q
  | @cons n x l m r t ih =>
    intro xs ns q
    obtain ⟨z, r1, r2, r3, r4⟩ := r
    refine ih (xs := stored xs x.1 x.2) (ns := putN ns n.1 n.2.1 n.2.2) ?_
    rw [r1, r2, r3]
    exact rs_put z r4 q
section
variable {X : Cx} {pins : List (Addr × Obj)} {σ : L2.St} {H : Hp} {s : Shared}
theorem carriesH_of (I : Inv X pins σ H s) : ∀ {more : List Tri} {vs : List (Value × Value)}, VV (more.map fun n => (n.2.1, n.2.2)) vs → IsAll X.K H more → (∀ n ∈ more, KeyT n.2.1 n.1) → ∃ ps, CarriesH (nestedKind X.prog X.w) s.heap vs ps ∧ Paired RH more ps
  | [], _, r, _, _ => by rw [List.map_nil] at r; cases r; exact ⟨[], True.intro, .nil⟩
  | n :: more, _, r, is, hT => by
    rw [List.map_cons] at r
    cases r with
    | @cons a b as bs h t =>
      obtain ⟨ps, c, p⟩ := carriesH_of I t (fun m hm => is m (List.mem_cons_of_mem _ hm)) fun m hm => hT m (List.mem_cons_of_mem _ hm)
      obtain ⟨b1, b2⟩ := b
      obtain ⟨c0, e1, e2, hk⟩ := keyT_is I (is n List.mem_cons_self) (hT n List.mem_cons_self) h.1
      exact ⟨(n.1, c0, b2) :: ps, ⟨e1, rfl, hk, c⟩, .cons ⟨rfl, e2, h.2⟩ p⟩
theorem carriesS_of {P : Program} {w : World} : ∀ {more : List Tri} {vs : List (Value × Value)}, VV (more.map fun n => (n.2.1, n.2.2)) vs → (∀ n ∈ more, KeyS n.2.1 n.1) → ∃ ps, Carries (mixKind P w) vs ps ∧ Paired RS more ps
  | [], _, r, _ => by rw [List.map_nil] at r; cases r; exact ⟨[], True.intro, .nil⟩
  | n :: more, _, r, hS => by
    rw [List.map_cons] at r
    cases r with
    | @cons a b as bs h t =>
      obtain ⟨ps, c, p⟩ := carriesS_of (P := P) (w := w) t fun m hm => hS m (List.mem_cons_of_mem _ hm)
      obtain ⟨b1, b2⟩ := b
      obtain ⟨x, e1, e2⟩ := hS n List.mem_cons_self
      have h1 : RelV (.str x) b1 := by have := h.1; rw [e1] at this; exact this
      exact ⟨(.inr x, b2) :: ps, ⟨kV_is (k := .inr x) h1, rfl, c⟩, .cons ⟨x, e2, e1, rfl, h.2⟩ p⟩
theorem sys_new (I : Inv X pins σ H s) : (s.heap.objs.size == sysModules) = false := beq_eq_false_iff_ne.mpr (Ne.symm (Nat.ne_of_lt I.big))
theorem raw_new (h : Heap) : (h.push { cls := .type "dict", data := .dict #[] }).DictRaw h.objs.size #[] 0 := ⟨_, Heap.get?_push_size _ rfl, ⟨rfl, rfl, rfl⟩, rfl⟩
/-- {} -/
def tDNewN : TE := fun _ H Q => ∀ p, H p = none → Q (.ref p) (upd H p (DicO p #[] 0))
theorem inv_new (I : Inv X pins σ H s) : Inv X pins σ (upd H s.heap.objs.size (DicO s.heap.objs.size #[] 0)) { s with heap := s.heap.push { cls := .type "dict", data := .dict #[] } } :=
  I.laid (a := s.heap.objs.size) (o := DicO s.heap.objs.size #[] 0) (t' := s.toks) (fun _ _ q => Heap.get?_push_of_some _ q) (Nat.le_refl _) (dic_new (sys_new I) (raw_new s.heap))
theorem pe_dnewN {pos : Pos} : PE X (.Dict [] [] pos) tDNewN := ⟨fun pins s σ H Q I h =>
  wpAny_Dict_empty ⟨.ref s.heap.objs.size, _, inv_new I, rfl, h _ (I.hok.fresh (Nat.le_refl _))⟩⟩
def tDispN (K : PySem.W.Frag) (w : World) (trs : List (TE × TE)) : TE := fun σ H Q => ∀ p, H p = none → tPairs trs σ (upd H p (DicO p #[] 0)) fun ps H2 => H2 p = some (DicO p #[] 0) ∧
  ∃ more : List Tri, ps = more.map (fun n => (n.2.1, n.2.2)) ∧ IsAll K H2 more ∧ ((∀ n ∈ more, KeyT n.2.1 n.1) ∨ ∀ n ∈ more, KeyS n.2.1 n.1) ∧ ∀ es ep, Paired (EntR w) es.toList (mergeN [] more) → Q (.ref p) (upd H2 p (DicO p es ep))
theorem pe_dispN {pos : Pos} {keys : List (Option Expr)} {values : List Expr} {trs : List (TE × TE)} (hu : X.A.units + 9 < cLine) (h : PPs X pos keys values trs) (hall : keys.all (·.isSome) = true) (hl : keys.length = values.length) (h0 : keys ≠ []) (h15 : keys.length ≤ 15) :
    PE X (.Dict keys values pos) (tDispN X.K X.w trs) := by
  refine ⟨fun pins s σ H Q I q => ?_⟩
  have hn := I.hok.fresh (Nat.le_refl s.heap.objs.size)
  have hpl := pairTrees_length keys values X.env pos hall hl
  have hne : pairTrees keys values X.env pos ≠ [] := fun e => h0 (List.length_eq_zero_iff.mp (by rw [← hpl, e]; rfl))
  rw [arm_eval_Dict, zip_pairTrees keys values X.env pos hall hl, dictDisplay_pairs _ hne (by omega)]
  refine wpAny_bind (wpAny_standAt (wpAny_bind ?_))
  unfold subDict
  refine wpAny_bind (wpAny_alloc (wpAny_bind (wpAny_holding ?_)))
  rw [if_pos (by omega)]
  refine wpAny_bind (thn (wpAny_evalPairs_len (h.run pins _ σ _ _ (inv_new I) (q _ hn))) fun vs s2 ⟨hvl, ps, H2, I2, rel, e, more, em, is, kd, q2⟩ => ?_)
  subst em
  obtain ⟨raw, hs⟩ := dic_raw I2 e
  have mu : Mut (H2 s.heap.objs.size) := by rw [e]; exact True.intro
  have hlen : more.length ≤ 15 := by
    have := Paired.length rel
    rw [List.length_map] at this
    omega
  have hz : ([] : List Nat).length + 15 ≤ sizeLine := by rw [sizeLine_eq]; decide
  obtain ⟨o, ho, hc, hd⟩ := raw
  refine wpAny_holding (wpAny_bind ?_)
  rcases kd with hT | hS
  · obtain ⟨cs, c, p⟩ := carriesH_of I2 rel is hT
    have hcl := Paired.length p
    refine wpAny_storeAllH (knd := nestedKind X.prog X.w) (by show X.A.units + 8 < cLine; omega) vs cs [] s2 _ c ⟨o, #[], 0, ho, hc, hd, rfl, (fun _ h => nomatch h), List.nodup_nil⟩ (by rw [List.length_nil] at hz ⊢; omega) fun h' tk dd' sb => ?_
    obtain ⟨q', es, ep, hq, h2, h3, h4, _, _⟩ := dd'
    refine wpAny_pure (wpAny_pure (wpAny_pure ⟨.ref s.heap.objs.size, _, d_write I2 mu sb ⟨q', hq⟩ (dic_new hs ⟨q', hq, h2, h3⟩), rfl, q2 es ep ?_⟩))
    rw [h4]
    exact n_ofH (rh_merge p .nil)
  · obtain ⟨cs, c, p⟩ := carriesS_of (P := X.prog) (w := X.w) rel hS
    have hcl := Paired.length p
    refine wpAny_storeAll (knd := mixKind X.prog X.w) vs cs [] s2 _ c ⟨o, #[], 0, ho, hc, hd, (fun e he => by simp at he), .nil, List.nodup_nil⟩ (by rw [List.length_nil] at hz ⊢; omega) fun h' dd' sb => ?_
    obtain ⟨q', es, ep, hq, h2, h3, h4, h5, _⟩ := dd'
    refine wpAny_pure (wpAny_pure (wpAny_pure ⟨.ref s.heap.objs.size, _, d_write I2 mu sb ⟨q', hq⟩ (dic_new hs ⟨q', hq, h2, h3⟩), rfl, q2 es ep ?_⟩))
    exact n_ofS (fun e he => h4 e (by simpa using he)) h5 (rs_merge p .nil)
/-! ### d.get(k), d.get(k, x) -/
def IsDic (H : Hp) (a : Addr) : Prop := ∃ es ep, H a = some (DicO a es ep)
theorem isDic_at (I : Inv X pins σ H s) {a : Addr} (d : IsDic H a) : s.TypeIs (.ref a) "dict" ∧ ∀ b, Value.ref a = .ref b → ∃ ob, s.heap.get? b = some ob ∧ ob.dict = none := by
  obtain ⟨es, ep, e⟩ := d
  obtain ⟨raw, _⟩ := dic_raw I e
  refine ⟨raw.typeIs, fun b q => ?_⟩
  cases q
  obtain ⟨o, ho, hc, _⟩ := raw
  exact ⟨o, ho, hc.2.1⟩
def tGet1 (K : PySem.W.Frag) (td ty : TE) : TE := fun σ H Q => td σ H fun x H1 => ∃ a, x = .ref a ∧ IsDic H1 a ∧ ty σ H1 fun y H2 => ∃ ns k, DKey K H2 a y ns k ∧ Q ((fnd ns k).getD .non) H2
def tGet2 (K : PySem.W.Frag) (td ty tx : TE) : TE := fun σ H Q => td σ H fun x H1 => ∃ a, x = .ref a ∧ IsDic H1 a ∧ ty σ H1 fun y H2 => tx σ H2 fun z H3 => ∃ ns k, DKey K H3 a y ns k ∧ Q ((fnd ns k).getD z) H3
variable {o e f : Expr} {apos cpos : Pos} {td ty tx : TE}
theorem pe_get1 (hu : CU X) (ho : PE X o td) (he : PE X e ty) (m : M1 X o "get" apos e cpos) : PE X (.Call (.Attribute o "get" apos) [e] [] cpos) (tGet1 X.K td ty) := by
  refine ⟨fun pins s σ H Q I h => ?_⟩
  refine wpAny_Call_method m.base m.few m.line PySem.F.plainAttrs_dict PySem.F.slot_dict_get PySem.F.type_dict_get (thn (ho.run pins s σ H _ I h) fun u s1 ⟨x, H1, I1, rx, a, ex, d, q1⟩ => ?_)
  subst ex
  cases rx
  obtain ⟨t1, t2⟩ := isDic_at I1 d
  refine ⟨t1, t2, ?_⟩
  rw [m.trees]
  refine Calls.callWith_builtin rfl (Calls.evalArgs_plain (Calls.spliced_cons (thn (he.run pins s1 σ H1 _ I1 q1) fun iv s2 ⟨y, H2, I2, ry, ns, k, dk, q2⟩ => Calls.spliced_nil ?_)))
  have D := dk.at_
  rw [← hu.2] at D
  exact n_get1 (by have := hu.1; omega) I2 D dk.is dk.ky dk.ag ry fun w' s3 I3 rw' => ⟨_, H2, I3, rw', q2⟩
theorem pe_get2 (hu : CU X) (ho : PE X o td) (he : PE X e ty) (hf : PE X f tx) (m : M2 X o "get" apos e f cpos) : PE X (.Call (.Attribute o "get" apos) [e, f] [] cpos) (tGet2 X.K td ty tx) := by
  refine ⟨fun pins s σ H Q I h => ?_⟩
  refine wpAny_Call_method m.base m.few m.line PySem.F.plainAttrs_dict PySem.F.slot_dict_get PySem.F.type_dict_get (thn (ho.run pins s σ H _ I h) fun u s1 ⟨x, H1, I1, rx, a, ex, d, q1⟩ => ?_)
  subst ex
  cases rx
  obtain ⟨t1, t2⟩ := isDic_at I1 d
  refine ⟨t1, t2, ?_⟩
  rw [m.trees]
  refine Calls.callWith_builtin rfl (Calls.evalArgs_plain (Calls.spliced_cons (thn (he.run pins s1 σ H1 _ I1 q1) fun iv s2 ⟨y, H2, I2, ry, q2⟩ =>
    Calls.spliced_cons (thn (hf.run pins s2 σ H2 _ I2 q2) fun fv s3 ⟨z, H3, I3, rz, ns, k, dk, q3⟩ => Calls.spliced_nil ?_))))
  have D := dk.at_
  rw [← hu.2] at D
  exact n_get2 (by have := hu.1; omega) I3 D dk.is dk.ky dk.ag ry rz fun w' s4 I4 rw' => ⟨_, H3, I4, rw', q3⟩
end
end DL
end
section
set_option Elab.async false
set_option linter.all false
set_option maxRecDepth 100000
set_option autoImplicit false
set_option maxHeartbeats 2000000
/-! DLk: comprehensions as expressions, statements. -/
namespace DL
open PySem PySem.Spec PyProof.Rows L2
variable [Wd]

def noSet : Expr → Bool
  | .Set _ _ _ => false
  | _ => true
theorem folded_of {e : Expr} {env : PySem.Env} (h : noSet e = true) : ∀ x, foldedSetIterable e env x = pure x := by
  intro x
  cases e <;> first | rfl | cases h
def noComp : Expr → Bool
  | .ListComp .. => false | .SetComp .. => false | .DictComp .. => false
  | _ => true
theorem swaps_of {e : Expr} {t : Option Expr} {l : Nat} {env : PySem.Env} (h : noComp e = true) : swapsWith e t l env = pure false := by
  cases e <;> first | rfl | cases h
theorem PTs.imp {X : Cx} {e : List Expr} {t t' : TT} (h : PTs X e t) (i : ∀ σ H Q, t' σ H Q → t σ H Q) : PTs X e t' := ⟨fun pins s σ H Q I hw => h.run pins s σ H Q I (i σ H Q hw)⟩
theorem PS.imp {X : Cx} {e : Stmt} {t t' : TS} (h : L2.PS X e t) (i : ∀ D σ H, t' D σ H → t D σ H) : L2.PS X e t' := ⟨fun pins s σ H D I hw => h.run pins s σ H D I (i D σ H hw)⟩
theorem PSs.imp {X : Cx} {e : List Stmt} {t t' : TS} (h : L2.PSs X e t) (i : ∀ D σ H, t' D σ H → t D σ H) : L2.PSs X e t' := ⟨fun pins s σ H D I hw => h.run pins s σ H D I (i D σ H hw)⟩
section
variable {X : Cx} {RX : RXT} {W : WX} {F : Type} {Φ : F → List Val → Store → R Val} {L : Nat} {pos : Pos}
theorem ok_ifs0 : PTs X [] (tT X.K RX W (evC Φ (.no : PO F))) := PTs.imp pts_nil fun σ H Q ⟨ρ, m, ι, en, st, h⟩ => PostR.here (RX := RX) (W := W) (G := fun b _ _ H' => Q b H') st h
theorem ok_ifs1 {c : Expr} {pc : PX F} (h : PT X c (tT X.K RX W (evT Φ pc))) : PTs X [c] (tT X.K RX W (evC Φ (.so pc))) := pts_one h
theorem ok_comp {elt tg iter : Expr} {ifs : List Expr} {scope : Scope} {own : List (Str × Nat)} {pt : Tg} {pit : It F} {pc : PO F} {pe : PX F} (hc : X.calm = true) (hN : X.N.Nodup) (hi : PI X tg iter (tI X.K RX W (evI Φ pit))) (ok : BlkOk X.N X.env.scope scope own)
    (ho : ∀ i ∈ pt.ns, i ∈ own.map (·.2))
    (hg : ∀ (s : Shared) (H : Hp) (C : Addr) (cl : List (Str × Addr)) (fp : List Addr), PG (X.blk s H scope (compEnvC scope cl C X.env) fp) tg (gOf X.K pt)) (ht : ∀ (s : Shared) (H : Hp) (C : Addr) (cl : List (Str × Addr)) (fp : List Addr), PTs (X.blk s H scope (compEnvC scope cl C X.env) fp) ifs (tT X.K RX W0 (evC Φ pc)))
    (he : ∀ (s : Shared) (H : Hp) (C : Addr) (cl : List (Str × Addr)) (fp : List Addr), PE (X.blk s H scope (compEnvC scope cl C X.env) fp) elt (tX X.K RX W0 (ev Φ pe))) (hs : noSet iter = true) :
    PE X (.ListComp elt [⟨tg, iter, ifs, 0⟩] scope pos) (tX X.K RX W (ev Φ (.comp pe pt pit pc (own.map (·.2))))) :=
  PE.imp (pe_lc hc hN hi ok hg ht he (folded_of hs)) fun σ H Q h => read_comp ho σ H Q h

/-! ### statements -/
def GS (K : PySem.W.Frag) (Dn : Ends) : Fl → Ix → Store → Hp → Prop := fun o ι' m' H' => match o with
  | .nx ρ' => ∀ σ', EnvOk K ι' m' H' ρ' σ' → Dn.nx σ' H'
  | .rt v => ∀ x, RepW K ι' m' H' x v → Dn.rt x H'
def tS (K : PySem.W.Frag) (RX : RXT) (W : WX) (f : Env → Store → R Fl) : TS := fun Dn σ H => ∃ ρ m ι, EnvOk K ι m H ρ σ ∧ StOk K ι m H ∧ PostR K RX W ι m H (f ρ m) (GS K Dn)
theorem ok_expr {e : Expr} {pe : PX F} (he : PE X e (tX X.K RX W (ev Φ pe))) (hs : noComp e = true) : L2.PS X (.Expr e pos) (tS X.K RX W (evS Φ L (.ex pe))) := by
  refine PS.imp (ps_expr he (swaps_of hs)) fun Dn σ H ⟨ρ, m, ι, en, st, h⟩ => ?_
  have h' : PostR X.K RX W ι m H ((ev Φ pe ρ m).bind fun _ m1 => R.ok (Fl.nx ρ) m1) (GS X.K Dn) := h
  refine ⟨ρ, m, ι, en, st, h'.bind.mono fun v ι1 m1 H1 l1 s1 g x r => ?_⟩
  exact PostR.here (RX := RX) (W := W) s1 g σ (en.le l1)
theorem ok_pass : L2.PS X (.Pass pos) (tS X.K RX W (evS Φ L (.pass : PS F))) := PS.imp ps_pass fun Dn σ H ⟨ρ, m, ι, en, st, h⟩ => by
  have h' : PostR X.K RX W ι m H (R.ok (Fl.nx ρ) m) (GS X.K Dn) := h
  exact PostR.here (RX := RX) (W := W) st h' σ en
theorem ok_doc {x : Str} {j : Nat} {pos' : Pos} : L2.PS X (.Expr (.Constant (.str x) j pos) pos') (tS X.K RX W (evS Φ L (.pass : PS F))) := PS.imp ps_doc fun Dn σ H ⟨ρ, m, ι, en, st, h⟩ => by
  have h' : PostR X.K RX W ι m H (R.ok (Fl.nx ρ) m) (GS X.K Dn) := h
  exact PostR.here (RX := RX) (W := W) st h' σ en
theorem ok_ret {e : Expr} {pe : PX F} (he : PE X e (tX X.K RX W (ev Φ pe))) : L2.PS X (.Return (some e) pos) (tS X.K RX W (evS Φ L (.ret pe))) := by
  refine PS.imp (ps_ret he) fun Dn σ H ⟨ρ, m, ι, en, st, h⟩ => ?_
  have h' : PostR X.K RX W ι m H ((ev Φ pe ρ m).bind fun v m1 => R.ok (Fl.rt v) m1) (GS X.K Dn) := h
  refine ⟨ρ, m, ι, en, st, h'.bind.mono fun v ι1 m1 H1 l1 s1 g x r => ?_⟩
  exact PostR.here (RX := RX) (W := W) s1 g x r
theorem ok_ret0 : L2.PS X (.Return none pos) (tS X.K RX W (evS Φ L (.ret0 : PS F))) := PS.imp ps_retN fun Dn σ H ⟨ρ, m, ι, en, st, h⟩ => by
  have h' : PostR X.K RX W ι m H (R.ok (Fl.rt (.d .none)) m) (GS X.K Dn) := h
  exact PostR.here (RX := RX) (W := W) st h' .non .non
theorem ok_if {c : Expr} {a b : List Stmt} {pc : PX F} {pa pb : PSs F} (hc : PT X c (tT X.K RX W (evT Φ pc))) (ha : L2.PSs X a (tS X.K RX W (evSs Φ L pa))) (hb : L2.PSs X b (tS X.K RX W (evSs Φ L pb))) :
    L2.PS X (.If c a b pos) (tS X.K RX W (evS Φ L (.iff pc pa pb))) := by
  refine PS.imp (ps_if hc ha hb) fun Dn σ H ⟨ρ, m, ι, en, st, h⟩ => ?_
  have h' : PostR X.K RX W ι m H ((evT Φ pc ρ m).bind fun t m1 => if t then evSs Φ L pa ρ m1 else evSs Φ L pb ρ m1) (GS X.K Dn) := h
  refine ⟨ρ, m, ι, en, st, h'.bind.mono fun t ι1 m1 H1 l1 s1 g => ?_⟩
  cases t with
  | true => rw [if_pos rfl]; exact ⟨ρ, m1, ι1, en.le l1, s1, g⟩
  | false => rw [if_neg Bool.false_ne_true]; exact ⟨ρ, m1, ι1, en.le l1, s1, g⟩
theorem ok_snil : L2.PSs X [] (tS X.K RX W (evSs Φ L (.nil : PSs F))) := PSs.imp pss_nil fun Dn σ H ⟨ρ, m, ι, en, st, h⟩ => by
  have h' : PostR X.K RX W ι m H (R.ok (Fl.nx ρ) m) (GS X.K Dn) := h
  exact PostR.here (RX := RX) (W := W) st h' σ en
theorem ok_scons {a : Stmt} {b : List Stmt} {pa : PS F} {pb : PSs F} (ha : L2.PS X a (tS X.K RX W (evS Φ L pa))) (hb : L2.PSs X b (tS X.K RX W (evSs Φ L pb))) : L2.PSs X (a :: b) (tS X.K RX W (evSs Φ L (.cons pa pb))) := by
  refine PSs.imp (pss_cons ha hb) fun Dn σ H ⟨ρ, m, ι, en, st, h⟩ => ?_
  have h' : PostR X.K RX W ι m H ((evS Φ L pa ρ m).bind fun o m1 => match o with | .nx ρ1 => evSs Φ L pb ρ1 m1 | .rt v => R.ok (Fl.rt v) m1) (GS X.K Dn) := h
  refine ⟨ρ, m, ι, en, st, h'.bind.mono fun o ι1 m1 H1 l1 s1 g => ?_⟩
  cases o with
  | nx ρ1 => exact fun σ' e' => ⟨ρ1, m1, ι1, e', s1, g⟩
  | rt v => exact PostR.here (RX := RX) (W := W) (G := GS X.K Dn) s1 g
/-! assignments -/
theorem ok_set {i : Nat} {x : Str} {e : Expr} {pe : PX F} {pos' : Pos} (hN : X.N.Nodup) (hi : X.N[i]? = some x) (hx : Loc X.env.scope x) (hf : X.fn x = true ∨ X.env.scope.names.lookup x = some .local) (he : PE X e (tX X.K RX W (ev Φ pe))) (hs : swapsWith e (some (.Name x pos')) pos.line X.env = pure false) :
    L2.PS X (.Assign [.Name x pos'] e pos) (tS X.K RX W (evS Φ L (.asg (.nm i) pe))) := by
  refine PS.imp (ps_set hN hi hx he hs hf) fun Dn σ H ⟨ρ, m, ι, en, st, h⟩ => ?_
  have h' : PostR X.K RX W ι m H ((ev Φ pe ρ m).bind fun v m1 => R.ok (Fl.nx (ρ.set i (some v))) m1) (GS X.K Dn) := h
  refine ⟨ρ, m, ι, en, st, h'.bind.mono fun v ι1 m1 H1 l1 s1 g x r => ?_⟩
  exact PostR.here (RX := RX) (W := W) s1 g _ ((en.le l1).set i r)
theorem ok_setLc {i : Nat} {y : Str} {py : Pos} {elt tg iter : Expr} {ifs : List Expr} {scope : Scope} {own : List (Str × Nat)} {spos : Pos} {pt : Tg} {pit : It F} {pc : PO F} {pe : PX F} (hc : X.calm = true) (hN : X.N.Nodup) (hy : X.N[i]? = some y) (hyl : X.env.scope.names.lookup y = some .local)
    (hsw : swapsWith (.ListComp elt [⟨tg, iter, ifs, 0⟩] scope pos) (some (.Name y py)) spos.line X.env = pure true) (hi : PI X tg iter (tI X.K RX W (evI Φ pit))) (ok : BlkOk X.N X.env.scope scope own) (ho : ∀ i ∈ pt.ns, i ∈ own.map (·.2))
    (hg : ∀ (s : Shared) (H : Hp) (C : Addr) (cl : List (Str × Addr)) (fp : List Addr), PG (X.blk s H scope (compEnvC scope cl C X.env) fp) tg (gOf X.K pt)) (ht : ∀ (s : Shared) (H : Hp) (C : Addr) (cl : List (Str × Addr)) (fp : List Addr), PTs (X.blk s H scope (compEnvC scope cl C X.env) fp) ifs (tT X.K RX W0 (evC Φ pc)))
    (he : ∀ (s : Shared) (H : Hp) (C : Addr) (cl : List (Str × Addr)) (fp : List Addr), PE (X.blk s H scope (compEnvC scope cl C X.env) fp) elt (tX X.K RX W0 (ev Φ pe))) (hs : noSet iter = true) :
    L2.PS X (.Assign [.Name y py] (.ListComp elt [⟨tg, iter, ifs, 0⟩] scope pos) spos) (tS X.K RX W (evS Φ L (.asg (.nm i) (.comp pe pt pit pc (own.map (·.2)))))) := by
  refine PS.imp (ps_setLc hc hN hy hyl hsw hi ok hg ht he (folded_of hs)) fun Dn σ H ⟨ρ, m, ι, en, st, h⟩ => ?_
  have h' : PostR X.K RX W ι m H ((ev Φ (.comp pe pt pit pc (own.map (·.2))) ρ m).bind fun v m1 => R.ok (Fl.nx (ρ.set i (some v))) m1) (GS X.K Dn) := h
  refine read_comp ho σ H _ ⟨ρ, m, ι, en, st, h'.bind.mono fun v ι1 m1 H1 l1 s1 g x r => ?_⟩
  exact PostR.here (RX := RX) (W := W) s1 g _ ((en.le l1).set i r)
theorem asg_tup {K : PySem.W.Frag} {ι : Ix} {m : Store} {H : Hp} {is : List Nat} {v : V} {d : D} {ρ ρ1 : Env} {σ : L2.St} {Q : L2.St → Hp → Prop} (r : RepT K H (Live ι m) v d) (h : asgD (.tp is) d ρ = some ρ1) (en : EnvOk K ι m H ρ σ)
    (k : ∀ σ1, EnvOk K ι m H ρ1 σ1 → Q σ1 H) : gOf K (.tp is) v σ H Q := by
  cases d with
  | tuple ds => exact asg_ok (t := .tp is) r.tupRep h en fun σ1 e1 _ => k σ1 e1
  | _ => cases h
theorem ok_unp {is : List Nat} {tg e : Expr} {pe : PX F} (he : PE X e (tX X.K RX W (ev Φ pe))) (hg : PG X tg (gOf X.K (.tp is))) (hs : swapsWithSole [tg] e pos.line X.env = pure false) (hw : swappedStores [tg] e X.env = pure none) (h1 : (assignEach [tg] X.env).map (·.2) = [assign tg X.env]) :
    L2.PS X (.Assign [tg] e pos) (tS X.K RX W (evS Φ L (.asg (.tp is) pe))) := by
  refine PS.imp (ps_asg he hg hs hw h1) fun Dn σ H ⟨ρ, m, ι, en, st, h⟩ => ?_
  have h' : PostR X.K RX W ι m H ((ev Φ pe ρ m).bind fun v m1 => match rd v m1 with
      | some x => (match asgD (.tp is) x ρ with
        | some ρ1 => R.ok (Fl.nx ρ1) m1
        | none => .no)
      | none => .no) (GS X.K Dn) := h
  refine ⟨ρ, m, ι, en, st, h'.bind.mono fun v ι1 m1 H1 l1 s1 g x r => ?_⟩
  cases e1 : rd v m1 with
  | none => rw [e1] at g; exact False.elim g
  | some d =>
    rw [e1] at g
    dsimp only at g
    cases e2 : asgD (.tp is) d ρ with
    | none => rw [e2] at g; exact False.elim g
    | some ρ1 =>
      rw [e2] at g
      exact asg_tup (RepT.of s1 r e1) e2 (en.le l1) fun σ1 en1 => PostR.here (RX := RX) (W := W) s1 g σ1 en1
theorem ok_par2 {i j : Nat} {x y : Str} {a b : Expr} {qs : PXs F} {px py pt : Pos} {kt k2 pt2} (hc : X.calm = true) (hN : X.N.Nodup) (hi : X.N[i]? = some x) (hj : X.N[j]? = some y) (hij : i ≠ j)
    (hx : X.env.scope.names.lookup x = some .local) (hy : X.env.scope.names.lookup y = some .local) (ha : PA X [a, b] (tA X.K RX W (evs Φ qs)))
    (hw : swappedStores [.Tuple [.Name x px, .Name y py] kt pt] (.Tuple [a, b] k2 pt2) X.env = pure (some [x, y])) :
    L2.PS X (.Assign [.Tuple [.Name x px, .Name y py] kt pt] (.Tuple [a, b] k2 pt2) pos) (tS X.K RX W (evS Φ L (.par [i, j] qs))) := by
  refine PS.imp (ps_par hc hN hi hj hij hx hy ha hw rfl) fun Dn σ H ⟨ρ, m, ι, en, st, h⟩ => ?_
  have h' : PostR X.K RX W ι m H ((evs Φ qs ρ m).bind fun vs m1 => match [i, j], vs with
    | [i, j], [v, w] => R.ok (Fl.nx ((ρ.set i (some v)).set j (some w))) m1
    | [i, j, k], [v, w, u] => R.ok (Fl.nx (((ρ.set i (some v)).set j (some w)).set k (some u))) m1
    | _, _ => .no) (GS X.K Dn) := h
  refine ⟨ρ, m, ι, en, st, h'.bind.mono fun ws ι1 m1 H1 l1 s1 g vs r => ?_⟩
  cases r with
  | nil => exact False.elim g
  | cons r1 r =>
  cases r with
  | nil => exact False.elim g
  | cons r2 r =>
  cases r with
  | nil => exact ⟨_, _, rfl, PostR.here (RX := RX) (W := W) s1 g _ (((en.le l1).set i r1).set j r2)⟩
  | cons _ _ => exact False.elim g
theorem ok_par3 {i j l : Nat} {x y z : Str} {a b c : Expr} {qs : PXs F} {px py pz pt : Pos} {kt k2 pt2} (hc : X.calm = true) (hN : X.N.Nodup) (hi : X.N[i]? = some x) (hj : X.N[j]? = some y) (hl : X.N[l]? = some z) (hij : i ≠ j) (hil : i ≠ l) (hjl : j ≠ l)
    (hx : X.env.scope.names.lookup x = some .local) (hy : X.env.scope.names.lookup y = some .local) (hz : X.env.scope.names.lookup z = some .local) (ha : PA X [a, b, c] (tA X.K RX W (evs Φ qs)))
    (hw : swappedStores [.Tuple [.Name x px, .Name y py, .Name z pz] kt pt] (.Tuple [a, b, c] k2 pt2) X.env = pure (some [x, y, z])) :
    L2.PS X (.Assign [.Tuple [.Name x px, .Name y py, .Name z pz] kt pt] (.Tuple [a, b, c] k2 pt2) pos) (tS X.K RX W (evS Φ L (.par [i, j, l] qs))) := by
  refine PS.imp (ps_par3 hc hN hi hj hl hij hil hjl hx hy hz ha hw rfl) fun Dn σ H ⟨ρ, m, ι, en, st, h⟩ => ?_
  have h' : PostR X.K RX W ι m H ((evs Φ qs ρ m).bind fun vs m1 => match [i, j, l], vs with
    | [i, j], [v, w] => R.ok (Fl.nx ((ρ.set i (some v)).set j (some w))) m1
    | [i, j, k], [v, w, u] => R.ok (Fl.nx (((ρ.set i (some v)).set j (some w)).set k (some u))) m1
    | _, _ => .no) (GS X.K Dn) := h
  refine ⟨ρ, m, ι, en, st, h'.bind.mono fun ws ι1 m1 H1 l1 s1 g vs r => ?_⟩
  cases r with
  | nil => exact False.elim g
  | cons r1 r =>
  cases r with
  | nil => exact False.elim g
  | cons r2 r =>
  cases r with
  | nil => exact False.elim g
  | cons r3 r =>
  cases r with
  | nil => exact ⟨_, _, _, rfl, PostR.here (RX := RX) (W := W) s1 g _ ((((en.le l1).set i r1).set j r2).set l r3)⟩
  | cons _ _ => exact False.elim g
def rAug (K : PySem.W.Frag) : TIp := fun x y H Q => (∃ i j, x = .int i ∧ y = .int j ∧ Q (.int (i + j)) H) ∨ rExtR K x y H Q
theorem aug_ok : PIp X .Add (rAug X.K) := by
  intro pins s σ H x y v u Q I r1 r2 h
  rcases h with h | h
  · exact iop_add pins s σ H x y v u Q I r1 r2 h
  · exact iop_extR pins s σ H x y v u Q I r1 r2 h
theorem ok_aug {i : Nat} {x : Str} {e : Expr} {pe : PX F} {pos' : Pos} (hN : X.N.Nodup) (hi : X.N[i]? = some x) (hx : Loc X.env.scope x) (hf : X.fn x = true ∨ X.env.scope.names.lookup x = some .local) (he : PE X e (tX X.K RX W (ev Φ pe))) :
    L2.PS X (.AugAssign (.Name x pos') .Add e pos) (tS X.K RX W (evS Φ L (.aug i .add pe))) := by
  refine PS.imp (ps_aug hN hi hx he aug_ok hf) fun Dn σ H ⟨ρ, m, ι, en, st, h⟩ => ?_
  have h' : PostR X.K RX W ι m H (match ρ[i]? with
    | some (some v) => (ev Φ pe ρ m).bind fun w m1 => (augR .add v w m1).bind fun u m2 => R.ok (Fl.nx (ρ.set i (some u))) m2
    | _ => .no) (GS X.K Dn) := h
  cases e1 : ρ[i]? with
  | none => rw [e1] at h'; exact False.elim h'
  | some o =>
  cases o with
  | none => rw [e1] at h'; exact False.elim h'
  | some v =>
  rw [e1] at h'
  dsimp only at h'
  obtain ⟨x1, hx1, r1⟩ := en.ok i v e1
  refine ⟨x1, hx1, ρ, m, ι, en, st, h'.bind.mono fun w ι1 m1 H1 l1 s1 g y r => ?_⟩
  have r1 := r1.le l1
  cases v with
  | d d1 =>
    cases d1 with
    | int k =>
      cases r1
      have g : PostR X.K RX W ι1 m1 H1 ((match rd w m1 with | some (.int j) => R.ok (Val.d (.int (k + j))) m1 | _ => .no : R Val).bind fun u m2 => R.ok (Fl.nx (ρ.set i (some u))) m2) (GS X.K Dn) := g
      cases e2 : rd w m1 with
      | none => rw [e2] at g; exact False.elim g
      | some d2 =>
        rw [e2] at g
        cases d2 with
        | int j =>
          have t := RepT.of s1 r e2
          rw [t.int]
          exact .inl ⟨k, j, rfl, rfl, PostR.here (RX := RX) (W := W) s1 g _ ((en.le l1).set i (.int _))⟩
        | _ => exact False.elim g
    | _ => exact False.elim g
  | r n =>
    obtain ⟨a, h1, rfl⟩ := r1
    have g : PostR X.K RX W ι1 m1 H1 ((match m1[n]?, rd w m1 with
      | some (.lst xs), some (.list ys) => if xs.length + ys.length ≤ sizeLine then R.ok (Val.r n) (m1.set n (.lst (xs ++ ys))) else .no
      | _, _ => .no : R Val).bind fun u m2 => R.ok (Fl.nx (ρ.set i (some u))) m2) (GS X.K Dn) := g
    cases e2 : m1[n]? with
    | none => rw [e2] at g; exact False.elim g
    | some c =>
    rw [e2] at g
    cases c with
    | lst xs =>
      cases e3 : rd w m1 with
      | none => rw [e3] at g; exact False.elim g
      | some d2 =>
        rw [e3] at g
        cases d2 with
        | list ys =>
          dsimp only at g
          by_cases hz : xs.length + ys.length ≤ sizeLine
          · rw [if_pos hz] at g
            obtain ⟨vs, hH, ra⟩ := s1.ok n a _ h1 e2
            obtain ⟨b, zs, rfl, hq, rb⟩ := (RepT.of s1 r e3).listR
            have le := le_write (ys := xs ++ ys) (ws := vs ++ zs) s1 h1 e2 hH
            have sw := s1.write h1 e2 hH (ra.app rb)
            refine .inr ⟨a, b, vs, zs, rfl, rfl, hH, hq, by rw [ra.length, rb.length]; exact hz, ?_⟩
            exact g ι1 _ le sw _ (((en.le l1).le le).set i ⟨a, h1, rfl⟩)
          · rw [if_neg hz] at g
            exact False.elim g
        | _ => exact False.elim g
    | _ => exact False.elim g
end
end DL
end
section
set_option Elab.async false
set_option linter.all false
set_option maxRecDepth 100000
set_option autoImplicit false
set_option maxHeartbeats 1000000
/-! DN6: displays of dicts, d.get(..), by values. -/
namespace DL
open PySem PySem.Spec PyProof.Rows L2
variable [Wd]
def flatV : List (V × V) → List V
  | [] => []
  | (y, v) :: r => y :: v :: flatV r
section
variable {K : PySem.W.Frag} {RX : RXT} {W : WX} {F : Type} {Φ : F → List Val → Store → R Val}
inductive TrsOf (K : PySem.W.Frag) (RX : RXT) (W : WX) (Φ : F → List Val → Store → R Val) : PXs F → List (TE × TE) → Prop
  | nil : TrsOf K RX W Φ .nil []
  | cons {p q : PX F} {r : PXs F} {trs : List (TE × TE)} : TrsOf K RX W Φ r trs → TrsOf K RX W Φ (.cons false p (.cons false q r)) ((tX K RX W (ev Φ p), tX K RX W (ev Φ q)) :: trs)
theorem pairs_ok {es : PXs F} {trs : List (TE × TE)} (T : TrsOf K RX W Φ es trs) : ∀ {ρ : Env} {m : Store} {ι : Ix} {σ : L2.St} {H : Hp} {Rr : List (V × V) → Hp → Prop}, EnvOk K ι m H ρ σ → StOk K ι m H →
    PostR K RX W ι m H (evs Φ es ρ m) (fun ws ι' m' H' => ∀ ps : List (V × V), RepWs K ι' m' H' (flatV ps) ws → Rr ps H') → tPairs trs σ H Rr := by
  induction T with
  | nil => exact fun en st h => h.here st [] .nil
  | @cons p q r trs t ih =>
    intro ρ m ι σ H Rr en st h
    have h' : PostR K RX W ι m H ((ev Φ p ρ m).bind fun v m1 => ((fz v m1).bind fun x m2 => R.ok (Val.d x) m2).bind fun w m3 => (((ev Φ q ρ m3).bind fun v2 m4 => ((fz v2 m4).bind fun x2 m5 => R.ok (Val.d x2) m5).bind fun w2 m6 => (evs Φ r ρ m6).bind fun ws2 m7 => R.ok (w2 :: ws2) m7)).bind fun ws m8 => R.ok (w :: ws) m8) _ := h
    refine ⟨ρ, m, ι, en, st, h'.bind.mono fun v ι1 m1 H1 l1 s1 g y ry => ?_⟩
    rw [R.bind_assoc] at g
    obtain ⟨m2, d, l2, s2, r2, g2⟩ := post_fz s1 ry g.bind
    have g2 : PostR K RX W ι1 m2 H1 (((ev Φ q ρ m2).bind fun v2 m4 => ((fz v2 m4).bind fun x2 m5 => R.ok (Val.d x2) m5).bind fun w2 m6 => (evs Φ r ρ m6).bind fun ws2 m7 => R.ok (w2 :: ws2) m7).bind fun ws m8 => R.ok (Val.d d :: ws) m8) _ := g2
    rw [R.bind_assoc] at g2
    have en2 := en.le (l1.trans l2)
    refine ⟨ρ, m2, ι1, en2, s2, g2.bind.mono fun v2 ι4 m4 H4 l4 s4 g4 y2 ry2 => ?_⟩
    rw [R.bind_assoc, R.bind_assoc] at g4
    obtain ⟨m5, d2, l5, s5, r5, g5⟩ := post_fz s4 ry2 g4.bind
    have g5 : PostR K RX W ι4 m5 H4 (((evs Φ r ρ m5).bind fun ws2 m7 => R.ok (Val.d d2 :: ws2) m7).bind fun ws m8 => R.ok (Val.d d :: ws) m8) _ := g5
    rw [R.bind_assoc] at g5
    refine ih (en2.le (l4.trans l5)) s5 (g5.bind.mono fun ws ι7 m7 H7 l7 s7 g7 ps rps => ?_)
    have g8 : PostR K RX W ι7 m7 H7 (R.ok (Val.d d :: Val.d d2 :: ws) m7) _ := g7
    have ra : Rep K H7 (Live ι7 m7) y d := (r2.up (l4.trans l5).up).up l7.up
    have rb : Rep K H7 (Live ι7 m7) y2 d2 := r5.up l7.up
    exact g8.here s7 ((y, y2) :: ps) (.cons ra (.cons rb rps))
end
theorem more_mem {kf : D → Bool} {pf : V → NestedKey → Prop} {K : PySem.W.Frag} {H : Hp} {Lv : Addr → Prop} (hk : ∀ {y k}, Rep K H Lv y k → kf k = true → pf y (nkD k)) : ∀ {ps : List (V × V)} {xs : List D} {acc kvs : List (D × D)} {ns : List Tri}, RepAll K H Lv (flatV ps) xs → dspF xs acc = some kvs →
    KdD acc → ns.map (·.1) = acc.map (fun p => nkD p.1) → RepAll K H Lv (ns.map (·.2.1)) (acc.map (·.1)) → RepAll K H Lv (ns.map (·.2.2)) (acc.map (·.2)) → keysAll kf xs = true →
    ∃ more : List Tri, ps = more.map (fun n => (n.2.1, n.2.2)) ∧ IsAll K H more ∧ (∀ n ∈ more, pf n.2.1 n.1) ∧ KdD kvs ∧ (mergeN ns more).map (·.1) = kvs.map (fun p => nkD p.1) ∧ RepAll K H Lv ((mergeN ns more).map (·.2.1)) (kvs.map (·.1)) ∧ RepAll K H Lv ((mergeN ns more).map (·.2.2)) (kvs.map (·.2))
  | [], _, acc, kvs, ns, .nil, e, kd, e1, rk, rv, _ => by
    cases e
    exact ⟨[], rfl, (fun _ h => nomatch h), (fun _ h => nomatch h), kd, e1, rk, rv⟩
  | (y, v) :: ps, _, acc, kvs, ns, .cons (d := k) r1 (.cons (d := x) (ds := ds) r2 r3), e, kd, e1, rk, rv, hall => by
    have e' : (if agree acc k = true then dspF ds (putD acc k x) else none) = some kvs := e
    have hall' : (kf k && keysAll kf ds) = true := hall
    rw [Bool.and_eq_true] at hall'
    by_cases ha : agree acc k = true
    · rw [if_pos ha] at e'
      obtain ⟨q1, q2, q3⟩ := put_rel (agree_n8 ha) e1 kd.n8 rk rv r1 r2
      obtain ⟨more, m1, m2, m3, m4⟩ := more_mem hk r3 e' (put_kd kd ha) q1 q2 q3 hall'.2
      refine ⟨(nkD k, y, v) :: more, by rw [m1]; rfl, fun n hn => ?_, fun n hn => ?_, m4⟩
      · rcases List.mem_cons.mp hn with rfl | hn
        · exact r1.isK (agree_n8 ha)
        · exact m2 n hn
      · rcases List.mem_cons.mp hn with rfl | hn
        · exact hk r1 hall'.1
        · exact m3 n hn
    · rw [if_neg ha] at e'; cases e'
theorem dsp_rel {K : PySem.W.Frag} {H : Hp} {Lv : Addr → Prop} {ps : List (V × V)} {xs : List D} {kvs : List (D × D)} (r : RepAll K H Lv (flatV ps) xs) (e : dspF xs [] = some kvs) (h : dspOk xs = true) :
    ∃ more : List Tri, ps = more.map (fun n => (n.2.1, n.2.2)) ∧ IsAll K H more ∧ ((∀ n ∈ more, KeyT n.2.1 n.1) ∨ ∀ n ∈ more, KeyS n.2.1 n.1) ∧ KdD kvs ∧ (mergeN [] more).map (·.1) = kvs.map (fun p => nkD p.1) ∧ RepAll K H Lv ((mergeN [] more).map (·.2.1)) (kvs.map (·.1)) ∧ RepAll K H Lv ((mergeN [] more).map (·.2.2)) (kvs.map (·.2)) := by
  unfold dspOk at h
  rw [Bool.or_eq_true] at h
  have kd0 : KdD [] := .inl fun _ h => nomatch h
  rcases h with h | h
  · obtain ⟨more, m1, m2, m3, m4⟩ := more_mem (pf := KeyT) (fun r k => keyT_rep r k) r e kd0 (ns := []) rfl .nil .nil h
    exact ⟨more, m1, m2, .inl m3, m4⟩
  · obtain ⟨more, m1, m2, m3, m4⟩ := more_mem (pf := KeyS) (fun r k => keyS_rep r k) r e kd0 (ns := []) rfl .nil .nil h
    exact ⟨more, m1, m2, .inr m3, m4⟩
theorem merge_kd {ns more : List Tri} {pf : V → NestedKey → Prop} (h : ∀ n ∈ ns, pf n.2.1 n.1) (h2 : ∀ n ∈ more, pf n.2.1 n.1) : ∀ n ∈ mergeN ns more, pf n.2.1 n.1 := by
  induction more generalizing ns with
  | nil => exact h
  | cons m more ih => exact ih (putN_mem h (h2 m List.mem_cons_self)) fun n hn => h2 n (List.mem_cons_of_mem _ hn)
theorem merge_nd {more : List Tri} : ∀ {ns : List Tri}, (ns.map (·.1)).Nodup → ((mergeN ns more).map (·.1)).Nodup := by
  induction more with
  | nil => exact fun h => h
  | cons m more ih => exact fun h => ih (putN_keys _ m.1 m.2.1 m.2.2 h)
theorem merge_len {more : List Tri} : ∀ {ns : List Tri}, (mergeN ns more).length ≤ ns.length + more.length := by
  induction more with
  | nil => exact Nat.le_refl _
  | cons m more ih =>
    intro ns
    have h1 := ih (ns := putN ns m.1 m.2.1 m.2.2)
    have h2 := putN_len ns m.1 m.2.1 m.2.2
    show (mergeN (putN ns m.1 m.2.1 m.2.2) more).length ≤ _
    rw [List.length_cons]
    omega
section
variable {X : Cx} {RX : RXT} {W : WX} {F : Type} {Φ : F → List Val → Store → R Val} {pos : Pos}
theorem ok_dsp0 : PE X (.Dict [] [] pos) (tX X.K RX W (ev Φ (.dsp .nil : PX F))) := by
  refine PE.imp pe_dnewN fun σ H Q ⟨ρ, m, ι, en, st, h⟩ => fun p hp => ?_
  have h' : PostR X.K RX W ι m H (R.ok (Val.r m.length) (m ++ [.dic []])) (GV X.K Q) := by
    have h0 : PostR X.K RX W ι m H (if dspOk [] = true then put (.dic []) m else .no) (GV X.K Q) := h
    have : dspOk [] = true := rfl
    rw [if_pos this] at h0
    unfold put at h0
    dsimp only at h0
    rw [if_pos (show ([] : List (D × D)).length ≤ sizeLine from Nat.zero_le _)] at h0
    exact h0
  have s2 : StOk X.K (ι.add p) (m ++ [.dic []]) (upd H p (DicO p #[] 0)) := st.newC hp ⟨[], ⟨⟨#[], 0, upd_same, .nil⟩, List.nodup_nil, Nat.zero_le _, .inl fun _ h => nomatch h⟩, rfl, .inl (fun _ h => nomatch h), .nil, .nil⟩
  exact h' _ _ (le_new st hp) s2 _ ⟨p, by rw [← st.len]; show (ι.l ++ [p])[ι.l.length]? = some p; simp, rfl⟩
theorem ok_dsp {keys : List (Option Expr)} {values : List Expr} {trs : List (TE × TE)} {es : PXs F} (hu : CU X) (hp : PPs X pos keys values trs) (T : TrsOf X.K RX W Φ es trs) (hall : keys.all (·.isSome) = true) (hl : keys.length = values.length) (h0 : keys ≠ []) (h15 : keys.length ≤ 15) :
    PE X (.Dict keys values pos) (tX X.K RX W (ev Φ (.dsp es))) := by
  refine PE.imp (pe_dispN (by have := hu.1; omega) hp hall hl h0 h15) fun σ H Q ⟨ρ, m, ι, en, st, h⟩ => fun p hpn => ?_
  have h' : PostR X.K RX W ι m H ((evs Φ es ρ m).bind fun vs m1 => match allD vs with
    | some xs => match dspF xs [] with
      | some kvs => if dspOk xs then put (.dic kvs) m1 else .no
      | none => .no
    | none => .no) (GV X.K Q) := h
  have lh := le_hide (o := DicO p #[] 0) st hpn
  cases e0 : evs Φ es ρ m with
  | no => rw [e0] at h'; exact False.elim h'
  | ex x m1 => 
    rw [e0] at h'
    refine pairs_ok T (en.le lh) (st.hide hpn) ?_
    rw [e0]
    exact PostR.shift lh h'
  | ok ws m1 =>
  rw [e0] at h'
  refine pairs_ok T (en.le lh) (st.hide hpn) (post_val e0 fun ι1 H1 l1 s1 ps rps => ?_)
  have g : PostR X.K RX W ι m H (match allD ws with
    | some xs => match dspF xs [] with
      | some kvs => if dspOk xs then put (.dic kvs) m1 else .no
      | none => .no
    | none => .no) (GV X.K Q) := h'
  cases e1 : allD ws with
  | none => rw [e1] at g; exact False.elim g
  | some xs =>
  rw [e1] at g
  dsimp only at g
  cases e2 : dspF xs [] with
  | none => rw [e2] at g; exact False.elim g
  | some kvs =>
  rw [e2] at g
  dsimp only at g
  by_cases hd : dspOk xs = true
  · rw [if_pos hd] at g
    have hx : p ∈ ι1.x := l1.ex p List.mem_cons_self
    have hH : H1 p = some (DicO p #[] 0) := by rw [l1.exk p List.mem_cons_self]; exact upd_same
    refine ⟨hH, ?_⟩
    obtain ⟨more, m1', m2, m3, kd, q1, q2, q3⟩ := dsp_rel (rps.allD e1) e2 hd
    refine ⟨more, m1', m2, m3, fun es2 ep2 pr => ?_⟩
    rw [hu.2] at pr
    unfold put at g
    dsimp only at g
    by_cases hz : kvs.length ≤ sizeLine
    · rw [if_pos hz] at g
      have hml : (mergeN [] more).length = kvs.length := by
        have := congrArg List.length q1
        rwa [List.length_map, List.length_map] at this
      have le1 : Le ι m H ι1 m1 (upd H1 p (DicO p es2 ep2)) := (lh.trans l1).hidC hpn st
      have s2 : StOk X.K ι1 m1 (upd H1 p (DicO p es2 ep2)) := s1.hidC hx hH .dic (fun _ => dic_ne_code)
      have u1 := up_hidC (ι := ι1) (m := m1) (o1 := DicO p es2 ep2) hx hH .dic
      have u2 := up_show (c := .dic kvs) s2 hx rfl
      have s3 : StOk X.K (ι1.show p) (m1 ++ [.dic kvs]) (upd H1 p (DicO p es2 ep2)) := s2.showC hx rfl upd_same ⟨_, ⟨⟨es2, ep2, upd_same, pr⟩, merge_nd List.nodup_nil, by rw [hml]; exact hz, m3.imp (fun h => merge_kd (fun _ h => nomatch h) h) fun h => merge_kd (fun _ h => nomatch h) h⟩, q1, kd, (q2.up u1).up u2, (q3.up u1).up u2⟩
      have g' : PostR X.K RX W ι m H (R.ok (Val.r m1.length) (m1 ++ [.dic kvs])) (GV X.K Q) := g
      exact g' _ _ (le1.show st s2 hpn hx) s3 _ ⟨p, by rw [← s2.len]; show (ι1.l ++ [p])[ι1.l.length]? = some p; simp, rfl⟩
    · rw [if_neg hz] at g; exact False.elim g
  · rw [if_neg hd] at g; exact False.elim g
/-! ### d.get(..) -/
theorem isDic_of {K : PySem.W.Frag} {ι : Ix} {m : Store} {H : Hp} {x : V} {v : Val} (s : StOk K ι m H) (r : RepW K ι m H x v) (h : isDic v m = true) : ∃ a, x = .ref a ∧ IsDic H a := by
  unfold isDic at h
  cases e : rd v m with
  | none => rw [e] at h; cases h
  | some d =>
    rw [e] at h
    cases d with
    | dict kvs =>
      obtain ⟨a, ns, e1, D, _⟩ := (RepT.of s r e).dict
      obtain ⟨es, ep, e2, _⟩ := D.ex
      exact ⟨a, e1, es, ep, e2⟩
    | _ => cases h
variable {o e f : Expr} {apos cpos : Pos} {po pe pf : PX F}
theorem get_fin {σ : L2.St} {H : Hp} {ι : Ix} {m : Store} {x y z : V} {v : Val} {k d : D} {Q : VK} (s : StOk X.K ι m H) (rx : RepW X.K ι m H x v) (ry : Rep X.K H (Live ι m) y k) (rz : Rep X.K H (Live ι m) z d)
    (g : PostR X.K RX W ι m H (match rd v m with | some (.dict kvs) => if agree kvs k then R.ok (Val.d ((fndD kvs k).getD d)) m else .no | _ => .no) (GV X.K Q)) :
    ∃ a ns nk, x = .ref a ∧ DKey X.K H a y ns nk ∧ Q ((fnd ns nk).getD z) H := by
  cases e : rd v m with
  | none => rw [e] at g; exact False.elim g
  | some dd =>
    rw [e] at g
    cases dd with
    | dict kvs =>
      dsimp only at g
      by_cases ha : agree kvs k = true
      · rw [if_pos ha] at g
        obtain ⟨a, ns, e1, D, e2, kd, rk, rv⟩ := (RepT.of s rx e).dict
        refine ⟨a, ns, nkD k, e1, dkey_of D e2 kd rk ry ha, ?_⟩
        have q := fnd_rel (agree_n8 ha) e2 kd.n8 rv
        refine PostR.here (RX := RX) (W := W) s g _ ?_
        cases q0 : fndD kvs k with
        | none => rw [q0] at q; dsimp only at q; rw [q]; exact rz
        | some u => rw [q0] at q; obtain ⟨w, q1, q2⟩ := q; rw [q1]; exact q2
      · rw [if_neg ha] at g; exact False.elim g
    | _ => exact False.elim g
theorem ok_get2 (hu : CU X) (ho : PE X o (tX X.K RX W (ev Φ po))) (he : PE X e (tX X.K RX W (ev Φ pe))) (hf : PE X f (tX X.K RX W (ev Φ pf))) (M : M2 X o "get" apos e f cpos) :
    PE X (.Call (.Attribute o "get" apos) [e, f] [] cpos) (tX X.K RX W (ev Φ (.mget po pe pf))) := by
  refine PE.imp (pe_get2 hu ho he hf M) fun σ H Q ⟨ρ, m, ι, en, st, h⟩ => ?_
  have h' : PostR X.K RX W ι m H ((ev Φ po ρ m).bind fun v m1 => if isDic v m1 then (ev Φ pe ρ m1).bind fun w m2 => (fz w m2).bind fun y m3 => (ev Φ pf ρ m3).bind fun u m4 => (fz u m4).bind fun z m5 => match rd v m5 with
    | some (.dict kvs) => if agree kvs y then .ok (.d ((fndD kvs y).getD z)) m5 else .no
    | _ => .no
    else .no) (GV X.K Q) := h
  refine ⟨ρ, m, ι, en, st, h'.bind.mono fun v ι1 m1 H1 l1 s1 g x rx => ?_⟩
  by_cases hd : isDic v m1 = true
  · rw [if_pos hd] at g
    obtain ⟨a, e1, hd1⟩ := isDic_of s1 rx hd
    subst e1
    refine ⟨a, rfl, hd1, ρ, m1, ι1, en.le l1, s1, g.bind.mono fun w ι2 m2 H2 l2 s2 g2 y ry => ?_⟩
    obtain ⟨m3, k, l3, s3, r3, g3⟩ := post_fz s2 ry g2.bind
    refine ⟨ρ, m3, ι2, en.le ((l1.trans l2).trans l3), s3, g3.bind.mono fun u ι4 m4 H4 l4 s4 g4 z rz => ?_⟩
    obtain ⟨m5, d, l5, s5, r5, g5⟩ := post_fz s4 rz g4.bind
    obtain ⟨a', ns, nk, e1, dk, q⟩ := get_fin (σ := σ) s5 (rx.le (((l2.trans l3).trans l4).trans l5)) (r3.up (l4.trans l5).up) r5 g5
    cases e1
    exact ⟨ns, nk, dk, q⟩
  · rw [if_neg hd] at g; exact False.elim g
theorem ok_get1 (hu : CU X) (ho : PE X o (tX X.K RX W (ev Φ po))) (he : PE X e (tX X.K RX W (ev Φ pe))) (M : M1 X o "get" apos e cpos) :
    PE X (.Call (.Attribute o "get" apos) [e] [] cpos) (tX X.K RX W (ev Φ (.mget po pe (.lit .none)))) := by
  refine PE.imp (pe_get1 hu ho he M) fun σ H Q ⟨ρ, m, ι, en, st, h⟩ => ?_
  have h' : PostR X.K RX W ι m H ((ev Φ po ρ m).bind fun v m1 => if isDic v m1 then (ev Φ pe ρ m1).bind fun w m2 => (fz w m2).bind fun y m3 => match rd v m3 with
    | some (.dict kvs) => if agree kvs y then .ok (.d ((fndD kvs y).getD .none)) m3 else .no
    | _ => .no
    else .no) (GV X.K Q) := h
  refine ⟨ρ, m, ι, en, st, h'.bind.mono fun v ι1 m1 H1 l1 s1 g x rx => ?_⟩
  by_cases hd : isDic v m1 = true
  · rw [if_pos hd] at g
    obtain ⟨a, e1, hd1⟩ := isDic_of s1 rx hd
    subst e1
    refine ⟨a, rfl, hd1, ρ, m1, ι1, en.le l1, s1, g.bind.mono fun w ι2 m2 H2 l2 s2 g2 y ry => ?_⟩
    obtain ⟨m3, k, l3, s3, r3, g3⟩ := post_fz s2 ry g2.bind
    obtain ⟨a', ns, nk, e1, dk, q⟩ := get_fin (σ := σ) (z := .non) (d := .none) s3 (rx.le (l2.trans l3)) r3 .non g3
    cases e1
    exact ⟨ns, nk, dk, q⟩
  · rw [if_neg hd] at g; exact False.elim g
end
end DL
end
section
set_option Elab.async false
set_option linter.all false
set_option maxRecDepth 100000
set_option autoImplicit false
set_option maxHeartbeats 2000000
/-! DN7: comprehensions with two clauses. -/
namespace DL
open PySem PySem.Spec PyProof.Rows L2
variable [Wd]
section
variable {X : Cx} {RX : RXT} {W : WX} {F : Type} {Φ : F → List Val → Store → R Val} {L : Nat}
def outF (t : Tg) (own : List Nat) (it2 : It F) (t2 : Tg) (own2 : List Nat) (c : PO F) (elt : PX F) (ρ : Env) (x : D) (m2 : Store) : R (List D) := match asgD t x (wipeE ρ own) with
  | some ρ1 => (evI Φ it2 ρ1 m2).bind fun ys m3 => compLoop (turnF (Φ := Φ) t2 own2 c elt ρ1) ys [] m3
  | none => .no
omit [Wd] in
theorem flatLoop_len {f : D → Store → R (List D)} : ∀ {xs acc ys : List D} {m m6 : Store}, flatLoop f xs acc m = .ok ys m6 → acc.length ≤ ys.length
  | [], _, _, _, _, h => by cases h; exact Nat.le_refl _
  | x :: xs, acc, ys, m, m6, h => by
    obtain ⟨o, m1, _, h2⟩ := bind_ok (show (f x m).bind _ = _ from h)
    have := flatLoop_len (acc := acc ++ o) h2
    rw [List.length_append] at this
    omega
theorem read_comp2 {t t2 : Tg} {it it2 : It F} {c : PO F} {elt : PX F} {own own2 : List Nat} (ho : ∀ i ∈ t.ns, i ∈ own) (ho2 : ∀ i ∈ t2.ns, i ∈ own2) (σ : L2.St) (H : Hp) (Q : VK) (h : tX X.K RX W (ev Φ (.comp2 elt t it t2 it2 c own own2)) σ H Q) :
    tLc2 (tI X.K RX W (evI Φ it)) (gOf X.K t) (tT X.K RX W0 (evC Φ (.no : PO F))) (tI X.K RX W0 (evI Φ it2)) (gOf X.K t2) (tT X.K RX W0 (evC Φ c)) (tX X.K RX W0 (ev Φ elt)) own own2 σ H Q := by
  obtain ⟨ρ, m, ι, en, st, h⟩ := h
  have h' : PostR X.K RX W ι m H ((evI Φ it ρ m).bind fun xs m1 => (R.calm (flatLoop (outF (Φ := Φ) t own it2 t2 own2 c elt ρ) xs [] m1)).bind fun ys m6 => put (.lst ys) m6) (GV X.K Q) := h
  refine ⟨ρ, m, ι, en, st, h'.bind.mono fun xs ι1 m1 H1 l1 s1 g J fd D hD => ?_⟩
  cases hc : flatLoop (outF (Φ := Φ) t own it2 t2 own2 c elt ρ) xs [] m1 with
  | no => rw [hc] at g; exact False.elim g
  | ex _ _ => rw [hc] at g; exact False.elim g
  | ok ys m6 =>
  rw [hc] at g
  have g : PostR X.K RX W ι1 m1 H1 (put (.lst ys) m6) (GV X.K Q) := g
  unfold put at g
  dsimp only at g
  by_cases hz : ys.length ≤ sizeLine
  · rw [if_pos hz] at g
    refine ⟨fun i n Hi => n = xs.length - i ∧ i ≤ xs.length ∧ ∃ acc vs mi ιi, Hi D = some (.lst vs) ∧ D ∈ ιi.x ∧ RepAll X.K Hi (Live ιi mi) vs acc ∧ Le ι1 m1 H1 ιi mi Hi ∧ StOk X.K ιi mi Hi ∧ flatLoop (outF (Φ := Φ) t own it2 t2 own2 c elt ρ) (xs.drop i) acc mi = .ok ys m6,
      ⟨xs.length, rfl, Nat.zero_le _, [], [], m1, ι1.hide D, upd_same, List.mem_cons_self, .nil, le_hide s1 hD, s1.hide hD, hc⟩, ?_⟩
    rintro i n Hi ⟨rfl, hi, acc, vs, mi, ιi, hDi, hx, ra, li, si, hci⟩
    by_cases hlt : i < xs.length
    · refine .inr ⟨fd.go i _ _ _ hlt li.up si, fun H' => i + 1 ≤ xs.length ∧ ∃ acc vs mi ιi, H' D = some (.lst vs) ∧ D ∈ ιi.x ∧ RepAll X.K H' (Live ιi mi) vs acc ∧ Le ι1 m1 H1 ιi mi H' ∧ StOk X.K ιi mi H' ∧ flatLoop (outF (Φ := Φ) t own it2 t2 own2 c elt ρ) (xs.drop (i + 1)) acc mi = .ok ys m6,
        fun H' w => ⟨xs.length - (i + 1), by omega, rfl, w⟩, fun v H' y => ?_⟩
      have hxi : xs[i]? = some xs[i] := List.getElem?_eq_getElem hlt
      obtain ⟨ly, sy, rv⟩ := fd.yld i _ _ _ _ v H' hxi li.up si y
      rw [List.drop_eq_getElem_cons hlt] at hci
      obtain ⟨zs, m', hf, hrest⟩ := bind_ok (show (outF (Φ := Φ) t own it2 t2 own2 c elt ρ xs[i] mi).bind _ = _ from hci)
      have lall := li.trans ly
      unfold outF at hf
      cases hasg : asgD t xs[i] (wipeE ρ own) with
      | none => rw [hasg] at hf; cases hf
      | some ρ1 =>
      rw [hasg] at hf
      dsimp only at hf
      obtain ⟨ys2, m3, hI, hcl⟩ := bind_ok hf
      refine asg_ok rv hasg (((en.le l1).le lall).wipe own) fun σ1 e1 hw => ⟨(hw own ho).trans (wipe_wipe fun _ h => h), ?_⟩
      refine ⟨ρ1, mi, ιi, e1, sy, post_val rfl fun ι3 H3 l3 s3 => ?_⟩
      dsimp only
      rw [if_pos rfl]
      refine ⟨ρ1, mi, ι3, e1.le l3, s3, post_val hI fun ι4 H4 l4 s4 J1 fd1 => ?_⟩
      have e4 := (e1.le l3).le l4
      have hx4 : D ∈ ι4.x := l4.ex D (l3.ex D hx)
      have hD4 : H4 D = some (.lst vs) := by rw [l4.exk D (l3.ex D hx), l3.exk D hx, ly.exk D hx]; exact hDi
      have l14 : Le ι1 m1 H1 ι4 m3 H4 := (lall.trans l3).trans l4
      refine ⟨fun j n Hj => n = ys2.length - j ∧ j ≤ ys2.length ∧ ∃ acc2 vs2 mj ιj, Hj D = some (.lst vs2) ∧ D ∈ ιj.x ∧ RepAll X.K Hj (Live ιj mj) vs2 (acc ++ acc2) ∧ Up H4 Hj (Live ι4 m3) (Live ιj mj) ∧ (∀ {ρ : Env} {σ : L2.St}, EnvOk X.K ι4 m3 H4 ρ σ → EnvOk X.K ιj mj Hj ρ σ) ∧ Le ι1 m1 H1 ιj mj Hj ∧ StOk X.K ιj mj Hj ∧ compLoop (turnF (Φ := Φ) t2 own2 c elt ρ1) (ys2.drop j) acc2 mj = .ok zs m',
        ⟨ys2.length, rfl, Nat.zero_le _, [], vs, m3, ι4, hD4, hx4, by rw [List.append_nil]; exact (((ra.up ly.up).up l3.up).up l4.up), .rfl', (fun e => e), l14, s4, hcl⟩, ?_⟩
      rintro j n Hj ⟨rfl, hj, acc2, vs2, mj, ιj, hDj, hxj, raj, uj, ej, lj, sj, hcj⟩
      by_cases hlt2 : j < ys2.length
      · refine .inr ⟨fd1.go j _ _ _ hlt2 uj sj, fun H' => j + 1 ≤ ys2.length ∧ ∃ acc2 vs2 mj ιj, H' D = some (.lst vs2) ∧ D ∈ ιj.x ∧ RepAll X.K H' (Live ιj mj) vs2 (acc ++ acc2) ∧ Up H4 H' (Live ι4 m3) (Live ιj mj) ∧ (∀ {ρ : Env} {σ : L2.St}, EnvOk X.K ι4 m3 H4 ρ σ → EnvOk X.K ιj mj H' ρ σ) ∧ Le ι1 m1 H1 ιj mj H' ∧ StOk X.K ιj mj H' ∧ compLoop (turnF (Φ := Φ) t2 own2 c elt ρ1) (ys2.drop (j + 1)) acc2 mj = .ok zs m',
          fun H' w => ⟨ys2.length - (j + 1), by omega, rfl, w⟩, fun v2 H' y2 => ?_⟩
        obtain ⟨ly2, sy2, rv2⟩ := fd1.yld j _ _ _ _ v2 H' (List.getElem?_eq_getElem hlt2) uj sj y2
        rw [List.drop_eq_getElem_cons hlt2] at hcj
        obtain ⟨o, m4, hf2, hrest2⟩ := bind_ok (show (turnF (Φ := Φ) t2 own2 c elt ρ1 ys2[j] mj).bind _ = _ from hcj)
        unfold turnF at hf2
        cases hasg2 : asgD t2 ys2[j] (wipeE ρ1 own2) with
        | none => rw [hasg2] at hf2; cases hf2
        | some ρ2 =>
        rw [hasg2] at hf2
        dsimp only at hf2
        obtain ⟨b, m5, hb, hf3⟩ := bind_ok hf2
        refine asg_ok rv2 hasg2 (((ej e4).le ly2).wipe own2) fun σ2 e2 hw2 => ⟨(hw2 own2 ho2).trans (wipe_wipe fun _ h => h), ?_⟩
        refine ⟨ρ2, mj, ιj, e2, sy2, post_val hb fun ι5 H5 l5 s5 => ?_⟩
        have hD5 : H5 D = some (.lst vs2) := by rw [l5.exk D hxj, ly2.exk D hxj]; exact hDj
        cases b with
        | false =>
          cases hf3
          exact ⟨hlt2, acc2, vs2, _, ι5, hD5, l5.ex D hxj, (raj.up ly2.up).up l5.up, (uj.trans ly2.up).trans l5.up, fun e => ((ej e).le ly2).le l5, (lj.trans ly2).trans l5, s5, hrest2⟩
        | true =>
          rw [if_pos rfl] at hf3
          dsimp only
          rw [if_pos rfl]
          obtain ⟨w, m6', hw4, hf4⟩ := bind_ok hf3
          refine ⟨ρ2, m5, ι5, e2.le l5, s5, post_val hw4 fun ι6 H6 l6 s6 x rx => ?_⟩
          obtain ⟨d, m7, hfz, hf5⟩ := bind_ok hf4
          cases hf5
          obtain ⟨l7, s7, r7⟩ := fz_of s6 rx hfz
          have hD6 : H6 D = some (.lst vs2) := by rw [l6.exk D (l5.ex D hxj)]; exact hD5
          have hx6 : D ∈ ι6.x := l6.ex D (l5.ex D hxj)
          have lall7 := ((ly2.trans l5).trans l6).trans l7
          have ra7 : RepAll X.K H6 (Live ι6 m4) vs2 (acc ++ acc2) := raj.up lall7.up
          have hlen := compLoop_len hrest2
          have hlen3 := flatLoop_len hrest
          rw [List.length_append] at hlen hlen3
          have uh := up_hid (ι := ι6) (m := m4) (ws := vs2 ++ [x]) hx6 hD6
          refine ⟨vs2, hD6, by rw [raj.length, List.length_append]; simp at hlen; omega, hlt2, acc2 ++ [d], vs2 ++ [x], m4, ι6, upd_same, hx6, ?_, (uj.trans lall7.up).trans uh, fun {ρ σ} e => ?_, ?_, s7.hid hx6 hD6, hrest2⟩
          · rw [← List.append_assoc]
            exact (ra7.app (.cons r7 .nil)).up uh
          · have e7 := (ej e).le lall7
            exact ⟨e7.len, fun i w h => let ⟨v, h1, h2⟩ := e7.ok i w h; ⟨v, h1, by
              cases w with
              | d x => exact Rep.up uh h2
              | r n => exact h2⟩⟩
          · exact (lj.trans lall7).hidC hD s1
      · have ej2 : j = ys2.length := by omega
        subst ej2
        rw [List.drop_length] at hcj
        cases hcj
        exact .inl ⟨fd1.stop _ _ _ uj sj, hlt, acc ++ zs, vs2, m', ιj, hDj, hxj, raj, lj, sj, hrest⟩
    · have ei : i = xs.length := by omega
      subst ei
      refine .inl ⟨fd.stop _ _ _ li.up si, ?_⟩
      rw [List.drop_length] at hci
      cases hci
      exact g _ _ (li.show s1 si hD hx) (si.show hx hDi ra) _ ⟨D, by show (ιi.l ++ [D])[_]? = some D; rw [← si.len]; simp, rfl⟩
  · rw [if_neg hz] at g
    exact False.elim g
theorem ok_comp2 {elt tg iter tg1 iter1 : Expr} {ifs1 : List Expr} {scope : Scope} {own : List (Str × Nat)} {pt pt1 : Tg} {pit pit1 : It F} {pc : PO F} {pe : PX F} {pos : Pos} (hc : X.calm = true) (hN : X.N.Nodup) (hi : PI X tg iter (tI X.K RX W (evI Φ pit))) (ok : BlkOk X.N X.env.scope scope own)
    (ho : ∀ i ∈ pt.ns, i ∈ own.map (·.2)) (ho1 : ∀ i ∈ pt1.ns, i ∈ own.map (·.2))
    (hg : ∀ (s : Shared) (H : Hp) (C : Addr) (cl : List (Str × Addr)) (fp : List Addr), PG (X.blk s H scope (compEnvC scope cl C X.env) fp) tg (gOf X.K pt))
    (hi1 : ∀ (s : Shared) (H : Hp) (C : Addr) (cl : List (Str × Addr)) (fp : List Addr), PI (X.blk s H scope (compEnvC scope cl C X.env) fp) tg1 iter1 (tI X.K RX W0 (evI Φ pit1)))
    (hg1 : ∀ (s : Shared) (H : Hp) (C : Addr) (cl : List (Str × Addr)) (fp : List Addr), PG (X.blk s H scope (compEnvC scope cl C X.env) fp) tg1 (gOf X.K pt1))
    (ht1 : ∀ (s : Shared) (H : Hp) (C : Addr) (cl : List (Str × Addr)) (fp : List Addr), PTs (X.blk s H scope (compEnvC scope cl C X.env) fp) ifs1 (tT X.K RX W0 (evC Φ pc)))
    (he : ∀ (s : Shared) (H : Hp) (C : Addr) (cl : List (Str × Addr)) (fp : List Addr), PE (X.blk s H scope (compEnvC scope cl C X.env) fp) elt (tX X.K RX W0 (ev Φ pe))) (hs : noSet iter = true) (hs1 : noSet iter1 = true) :
    PE X (.ListComp elt [⟨tg, iter, [], 0⟩, ⟨tg1, iter1, ifs1, 0⟩] scope pos) (tX X.K RX W (ev Φ (.comp2 pe pt pit pt1 pit1 pc (own.map (·.2)) pt1.ns))) :=
  PE.imp (pe_lc2 (tt := tT X.K RX W0 (evC Φ (.no : PO F))) hc hN hi ok (vs1 := pt1.ns) ho1 hg (fun s H A cl fp => ok_ifs0 (X := X.blk s H scope (compEnvC scope cl A X.env) fp) (RX := RX) (W := W0) (Φ := Φ)) hi1 hg1 ht1 he (folded_of hs) (fun _ => folded_of hs1)) fun σ H Q h => read_comp2 ho (fun _ h => h) σ H Q h
theorem ok_setLc2 {i : Nat} {y : Str} {py : Pos} {elt tg iter tg1 iter1 : Expr} {ifs1 : List Expr} {scope : Scope} {own : List (Str × Nat)} {pos spos : Pos} {pt pt1 : Tg} {pit pit1 : It F} {pc : PO F} {pe : PX F} (hc : X.calm = true) (hN : X.N.Nodup) (hy : X.N[i]? = some y) (hyl : X.env.scope.names.lookup y = some .local)
    (hsw : swapsWith (.ListComp elt [⟨tg, iter, [], 0⟩, ⟨tg1, iter1, ifs1, 0⟩] scope pos) (some (.Name y py)) spos.line X.env = pure true) (hi : PI X tg iter (tI X.K RX W (evI Φ pit))) (ok : BlkOk X.N X.env.scope scope own)
    (ho : ∀ i ∈ pt.ns, i ∈ own.map (·.2)) (ho1 : ∀ i ∈ pt1.ns, i ∈ own.map (·.2))
    (hg : ∀ (s : Shared) (H : Hp) (C : Addr) (cl : List (Str × Addr)) (fp : List Addr), PG (X.blk s H scope (compEnvC scope cl C X.env) fp) tg (gOf X.K pt))
    (hi1 : ∀ (s : Shared) (H : Hp) (C : Addr) (cl : List (Str × Addr)) (fp : List Addr), PI (X.blk s H scope (compEnvC scope cl C X.env) fp) tg1 iter1 (tI X.K RX W0 (evI Φ pit1)))
    (hg1 : ∀ (s : Shared) (H : Hp) (C : Addr) (cl : List (Str × Addr)) (fp : List Addr), PG (X.blk s H scope (compEnvC scope cl C X.env) fp) tg1 (gOf X.K pt1))
    (ht1 : ∀ (s : Shared) (H : Hp) (C : Addr) (cl : List (Str × Addr)) (fp : List Addr), PTs (X.blk s H scope (compEnvC scope cl C X.env) fp) ifs1 (tT X.K RX W0 (evC Φ pc)))
    (he : ∀ (s : Shared) (H : Hp) (C : Addr) (cl : List (Str × Addr)) (fp : List Addr), PE (X.blk s H scope (compEnvC scope cl C X.env) fp) elt (tX X.K RX W0 (ev Φ pe))) (hs : noSet iter = true) (hs1 : noSet iter1 = true) :
    L2.PS X (.Assign [.Name y py] (.ListComp elt [⟨tg, iter, [], 0⟩, ⟨tg1, iter1, ifs1, 0⟩] scope pos) spos) (tS X.K RX W (evS Φ L (.asg (.nm i) (.comp2 pe pt pit pt1 pit1 pc (own.map (·.2)) pt1.ns)))) := by
  refine PS.imp (ps_setLc2 (tt := tT X.K RX W0 (evC Φ (.no : PO F))) hc hN hy hyl hsw hi ok (vs1 := pt1.ns) ho1 hg (fun s H A cl fp => ok_ifs0 (X := X.blk s H scope (compEnvC scope cl A X.env) fp) (RX := RX) (W := W0) (Φ := Φ)) hi1 hg1 ht1 he (folded_of hs) (fun _ => folded_of hs1)) fun Dn σ H ⟨ρ, m, ι, en, st, h⟩ => ?_
  have h' : PostR X.K RX W ι m H ((ev Φ (.comp2 pe pt pit pt1 pit1 pc (own.map (·.2)) pt1.ns) ρ m).bind fun v m1 => R.ok (Fl.nx (ρ.set i (some v))) m1) (GS X.K Dn) := h
  refine read_comp2 ho (fun _ h => h) σ H _ ⟨ρ, m, ι, en, st, h'.bind.mono fun v ι1 m1 H1 l1 s1 g x r => ?_⟩
  exact PostR.here (RX := RX) (W := W) s1 g _ ((en.le l1).set i r)
end
end DL
end
section
set_option Elab.async false
set_option linter.all false
set_option maxRecDepth 100000
set_option autoImplicit false
set_option maxHeartbeats 2000000
/-! DLl: o[i] = e, loops; a def's body. -/
namespace DL
open PySem PySem.Spec PyProof.Rows L2
variable [Wd]
section
variable {X : Cx} {RX : RXT} {W : WX} {F : Type} {Φ : F → List Val → Store → R Val} {L : Nat} {pos : Pos}
def noSlice : Expr → Bool
  | .Slice .. => false
  | _ => true
theorem ok_setI {o i e : Expr} {po pi pe : PX F} {tpos : Pos} (hu : CU X) (he : PE X e (tX X.K RX W (ev Φ pe))) (ho : PE X o (tX X.K RX W (ev Φ po))) (hi : PE X i (tX X.K RX W (ev Φ pi))) (hs : noSlice i = true) (hn : noComp e = true) :
    L2.PS X (.Assign [.Subscript o i tpos] e pos) (tS X.K RX W (evS Φ L (.set po pi pe))) := by
  have both : PSet X (fun o i v H Q => rSetL o i v H Q ∨ rSetDic X.K o i v H Q) := fun pins s σ H o i v ov iv u Q I ro ri rv h => h.elim (set_list pins s σ H o i v ov iv u Q I ro ri rv) (set_dic hu pins s σ H o i v ov iv u Q I ro ri rv)
  have pg : PG X (.Subscript o i tpos) (gSub (tX X.K RX W (ev Φ po)) (tX X.K RX W (ev Φ pi)) (fun o i v H Q => rSetL o i v H Q ∨ rSetDic X.K o i v H Q)) := pg_sub ho hi both (by intro v; cases i <;> first | rfl | cases hs)
  refine PS.imp (ps_asg he pg (by unfold swapsWithSole; exact swaps_of hn)) fun Dn σ H ⟨ρ, m, ι, en, st, h⟩ => ?_
  have h' : PostR X.K RX W ι m H ((ev Φ pe ρ m).bind fun v m1 => (fz v m1).bind fun x m2 => (ev Φ po ρ m2).bind fun w m3 => (ev Φ pi ρ m3).bind fun k m4 => (setAny w k x m4).bind fun _ m5 => R.ok (Fl.nx ρ) m5) (GS X.K Dn) := h
  refine ⟨ρ, m, ι, en, st, h'.bind.mono fun v ι1 m1 H1 l1 s1 g x r => ?_⟩
  obtain ⟨m2, d, l2, s2, r2, g2⟩ := post_fz s1 r g.bind
  refine ⟨ρ, m2, ι1, en.le (l1.trans l2), s2, g2.bind.mono fun w ι3 m3 H3 l3 s3 g3 y ry => ?_⟩
  refine ⟨ρ, m3, ι3, en.le ((l1.trans l2).trans l3), s3, g3.bind.mono fun k ι4 m4 H4 l4 s4 g4 z rz => ?_⟩
  have ry4 := ry.le l4
  have rx := Rep.up (l3.trans l4).up r2
  have en4 := en.le (((l1.trans l2).trans l3).trans l4)
  unfold setAny at g4
  cases e0 : isDicR w m4 with
  | none =>
    rw [e0] at g4
    dsimp only at g4
    refine .inl ?_
    unfold setAt at g4
    cases w with
    | d _ => exact False.elim g4
    | r n =>
    cases e1 : rd k m4 with
    | none => rw [e1] at g4; exact False.elim g4
    | some dk =>
    rw [e1] at g4
    cases dk with
    | int kk =>
      dsimp only at g4
      obtain ⟨a, h1, rfl⟩ := ry4
      cases e2 : m4[n]? with
      | none => rw [e2] at g4; exact False.elim g4
      | some c =>
      rw [e2] at g4
      cases c with
      | lst xs =>
        dsimp only at g4
        cases e3 : L2.ixN xs.length kk with
        | none => rw [e3] at g4; exact False.elim g4
        | some j =>
          rw [e3] at g4
          dsimp only at g4
          obtain ⟨vs, hH, ra⟩ := s4.ok n a _ h1 e2
          have t := (RepT.of s4 rz e1).int
          have le := le_write (ys := xs.set j d) (ws := vs.set j x) s4 h1 e2 hH
          have sw := s4.write h1 e2 hH (ra.set rx j)
          exact ⟨a, vs, kk, j, rfl, t, hH, by rw [ra.length]; exact e3, g4 ι4 _ le sw _ (en4.le le)⟩
      | _ => exact False.elim g4
    | _ => exact False.elim g4
  | some n =>
    rw [e0] at g4
    dsimp only at g4
    refine .inr ?_
    have en0 : w = .r n := by
      unfold isDicR at e0
      cases w with
      | d _ => cases e0
      | r j =>
        dsimp only at e0
        split at e0
        · cases e0; rfl
        · cases e0
    subst en0
    obtain ⟨a, h1, rfl⟩ := ry4
    unfold setDic at g4
    cases e2 : m4[n]? with
    | none => rw [e2] at g4; exact False.elim g4
    | some c =>
    rw [e2] at g4
    cases c with
    | dic kvs =>
      cases k with
      | r _ => exact False.elim g4
      | d dk =>
      dsimp only at g4
      by_cases hz : (agree kvs dk && decide (kvs.length < sizeLine)) = true
      · rw [if_pos hz] at g4
        rw [Bool.and_eq_true] at hz
        obtain ⟨ha, hl⟩ := hz
        have hl := of_decide_eq_true hl
        obtain ⟨ns, D, e, kd, rk, rv⟩ := s4.ok n a _ h1 e2
        have rz : Rep X.K H4 (Live ι4 m4) z dk := rz
        have dk' := dkey_of D e kd rk rz ha
        refine ⟨a, ns, nkD dk, rfl, dk', fun es ep p => ?_⟩
        obtain ⟨es0, ep0, hH, p0⟩ := D.ex
        have hln : ns.length < sizeLine := by
          have := congrArg List.length e
          rw [List.length_map, List.length_map] at this
          omega
        have le := le_writeC (c1 := .dic (putD kvs dk d)) (o1 := DicO a es ep) s4 h1 e2 rfl rfl hH .dic
        obtain ⟨q1, q2, q3⟩ := put_rel (agree_n8 ha) e kd.n8 rk rv rz rx
        have sw : StOk X.K ι4 (m4.set n (.dic (putD kvs dk d))) (upd H4 a (DicO a es ep)) := s4.writeC h1 e2 rfl rfl hH .dic (fun _ => dic_ne_code) ⟨_, put_at D dk'.ag hln p, q1, put_kd kd ha, q2.up le.up, q3.up le.up⟩
        exact PostR.here (RX := RX) (W := W) (G := GS X.K Dn) sw (g4.shift le) σ (en4.le le)
      · rw [if_neg hz] at g4; exact False.elim g4
    | _ => exact False.elim g4
theorem ok_whl {c : Expr} {body : List Stmt} {pc : PX F} {pb : PSs F} (hp : PassesOwn (model X.prog X.w) X.A X.env X.xe) (hc : PT X c (tT X.K RX W (evT Φ pc))) (hb : L2.PSs X body (tS X.K RX W (evSs Φ L pb))) :
    L2.PS X (.While c body [] pos) (tS X.K RX W (evS Φ L (.whl pc pb))) := by
  refine PS.imp (ps_while hp hc hb) fun Dn σ H ⟨ρ, m, ι, en, st, h⟩ => ?_
  have h' : PostR X.K RX W ι m H (whileLoop (fun ρ1 m1 => evT Φ pc ρ1 m1) (fun ρ1 m1 => evSs Φ L pb ρ1 m1) L ρ m) (GS X.K Dn) := h
  refine ⟨fun k σ H => ∃ ρ m ι, EnvOk X.K ι m H ρ σ ∧ StOk X.K ι m H ∧ PostR X.K RX W ι m H (whileLoop (fun ρ1 m1 => evT Φ pc ρ1 m1) (fun ρ1 m1 => evSs Φ L pb ρ1 m1) k ρ m) (GS X.K Dn), ⟨L, ρ, m, ι, en, st, h'⟩, ?_⟩
  rintro k σ H ⟨ρ, m, ι, en, st, h⟩
  cases k with
  | zero => exact False.elim h
  | succ k =>
    have h' : PostR X.K RX W ι m H ((evT Φ pc ρ m).bind fun b m1 => if b then (evSs Φ L pb ρ m1).bind fun o m2 => match o with
        | .nx ρ1 => whileLoop (fun ρ1 m1 => evT Φ pc ρ1 m1) (fun ρ1 m1 => evSs Φ L pb ρ1 m1) k ρ1 m2
        | .rt v => .ok (.rt v) m2
      else .ok (.nx ρ) m1) (GS X.K Dn) := h
    refine ⟨ρ, m, ι, en, st, h'.bind.mono fun t ι1 m1 H1 l1 s1 g => ?_⟩
    cases t with
    | true =>
      rw [if_pos rfl] at g
      rw [if_pos rfl]
      refine ⟨fun σ H => ∃ ρ m ι, EnvOk X.K ι m H ρ σ ∧ StOk X.K ι m H ∧ PostR X.K RX W ι m H (whileLoop (fun ρ1 m1 => evT Φ pc ρ1 m1) (fun ρ1 m1 => evSs Φ L pb ρ1 m1) k ρ m) (GS X.K Dn), fun σ' H' w => ⟨k, Nat.lt_succ_self _, w⟩, ?_⟩
      refine ⟨ρ, m1, ι1, en.le l1, s1, g.bind.mono fun o ι2 m2 H2 l2 s2 g2 => ?_⟩
      cases o with
      | nx ρ1 => exact fun σ' e' => ⟨ρ1, m2, ι2, e', s2, g2⟩
      | rt v => exact PostR.here (RX := RX) (W := W) (G := GS X.K Dn) s2 g2
    | false =>
      rw [if_neg Bool.false_ne_true] at g
      rw [if_neg Bool.false_ne_true]
      exact PostR.here (RX := RX) (W := W) (G := GS X.K Dn) s1 g σ (en.le l1)
theorem ok_for {tg iter : Expr} {body : List Stmt} {pt : Tg} {pit : It F} {pb : PSs F} (hp : PassesOwn (model X.prog X.w) X.A X.env X.xe) (hc : X.calm = true) (hi : PI X tg iter (tI X.K RX W (evI Φ pit))) (hg : PG X tg (gOf X.K pt)) (hb : L2.PSs X body (tS X.K RX W (evSs Φ L pb)))
    (hs : noSet iter = true) : L2.PS X (.For tg iter body [] pos) (tS X.K RX W (evS Φ L (.for pt pit pb))) := by
  refine PS.imp (ps_for hp hc hi hg hb (folded_of hs)) fun Dn σ H ⟨ρ, m, ι, en, st, h⟩ => ?_
  let f : D → Env → Store → R Fl := fun x ρ1 m2 => match asgD pt x ρ1 with
    | some ρ2 => evSs Φ L pb ρ2 m2
    | none => .no
  have h' : PostR X.K RX W ι m H ((evI Φ pit ρ m).bind fun xs m1 => forLoop f xs ρ m1) (GS X.K Dn) := h
  refine ⟨ρ, m, ι, en, st, h'.bind.mono fun xs ι1 m1 H1 l1 s1 g J fd => ?_⟩
  refine ⟨fun i n σ H => n = xs.length - i ∧ i ≤ xs.length ∧ ∃ ρ m ι, EnvOk X.K ι m H ρ σ ∧ StOk X.K ι m H ∧ Le ι1 m1 H1 ι m H ∧ PostR X.K RX W ι m H (forLoop f (xs.drop i) ρ m) (GS X.K Dn), ⟨_, rfl, Nat.zero_le _, ρ, m1, ι1, en.le l1, s1, .refl, g⟩, ?_⟩
  rintro i n σ H ⟨rfl, hi, ρ, m, ι, en, st, le, h⟩
  by_cases hlt : i < xs.length
  · rw [List.drop_eq_getElem_cons hlt] at h
    have h : PostR X.K RX W ι m H ((f xs[i] ρ m).bind fun o m1 => match o with
      | .nx ρ1 => forLoop f (xs.drop (i + 1)) ρ1 m1
      | .rt v => .ok (.rt v) m1) (GS X.K Dn) := h
    refine .inr ⟨fd.go i _ _ _ hlt le.up st, fun σ H => i + 1 ≤ xs.length ∧ ∃ ρ m ι, EnvOk X.K ι m H ρ σ ∧ StOk X.K ι m H ∧ Le ι1 m1 H1 ι m H ∧ PostR X.K RX W ι m H (forLoop f (xs.drop (i + 1)) ρ m) (GS X.K Dn),
      fun σ' H' w => ⟨xs.length - (i + 1), by omega, rfl, w⟩, fun v H' y => ?_⟩
    obtain ⟨ly, sy, rv⟩ := fd.yld i _ _ _ _ v H' (List.getElem?_eq_getElem hlt) le.up st y
    have h := h.shift ly
    cases e1 : asgD pt xs[i] ρ with
    | none =>
      have : f xs[i] ρ m = .no := by show (match asgD pt xs[i] ρ with | some ρ2 => evSs Φ L pb ρ2 m | none => .no) = _; rw [e1]
      rw [this] at h
      exact False.elim h
    | some ρ2 =>
      have : f xs[i] ρ m = evSs Φ L pb ρ2 m := by show (match asgD pt xs[i] ρ with | some ρ2 => evSs Φ L pb ρ2 m | none => .no) = _; rw [e1]
      rw [this] at h
      refine asg_ok rv e1 (en.le ly) fun σ2 e2 _ => ?_
      refine ⟨ρ2, m, ι, e2, sy, h.bind.mono fun o ι3 m3 H3 l3 s3 g3 => ?_⟩
      cases o with
      | nx ρ3 => exact fun σ' e' => ⟨hlt, ρ3, m3, ι3, e', s3, (le.trans ly).trans l3, g3⟩
      | rt v => exact PostR.here (RX := RX) (W := W) (G := GS X.K Dn) s3 g3
  · have ei : i = xs.length := by omega
    subst ei
    rw [List.drop_length] at h
    have h : PostR X.K RX W ι m H (R.ok (Fl.nx ρ) m) (GS X.K Dn) := h
    exact .inl ⟨fd.stop _ _ _ le.up st, PostR.here (RX := RX) (W := W) (G := GS X.K Dn) st h σ en⟩
end

/-! ### a def -/
section
variable {K : PySem.W.Frag} {ι ι' : Ix} {m m' : Store} {H H' : Hp}
def Ix.cut (ι : Ix) (n : Nat) : Ix := ⟨ι.l.take n, ι.x⟩
theorem live_cut {n : Nat} {a : Addr} (h : Live (ι.cut n) (m.take n) a) : Live ι m a := by
  rcases h with ⟨k, c, h1, h2, h3⟩ | h
  · have h1 : (ι.l.take n)[k]? = some a := h1
    rw [List.getElem?_take] at h1
    rw [List.getElem?_take] at h2
    by_cases hk : k < n
    · rw [if_pos hk] at h1 h2
      exact .inl ⟨k, c, h1, h2, h3⟩
    · rw [if_neg hk] at h1
      cases h1
  · exact .inr h
theorem up_cut {n : Nat} : Up H H (Live ι m) (Live (ι.cut n) (m.take n)) := ⟨fun b o h _ l => ⟨h, fun q => l (live_cut q)⟩, fun _ _ h => h, fun _ _ _ h => h⟩
theorem StOk.cut (s : StOk K ι m H) (n : Nat) : StOk K (ι.cut n) (m.take n) H := by
  refine ⟨by show (ι.l.take n).length = _; rw [List.length_take, List.length_take, s.len], ?_, fun a ha hm => s.dis a ha (List.mem_of_mem_take hm), fun a ha => s.trk a (List.mem_of_mem_take ha), s.trx, fun k a c h1 h2 => ?_, s.tb⟩
  · exact s.nd.sublist (List.take_sublist _ _)
  · have h1 : (ι.l.take n)[k]? = some a := h1
    rw [List.getElem?_take] at h1
    rw [List.getElem?_take] at h2
    by_cases hk : k < n
    · rw [if_pos hk] at h1 h2
      exact (s.ok k a c h1 h2).up up_cut fun vs e _ => e
    · rw [if_neg hk] at h1
      cases h1
theorem Le.cut (l : Le ι m H ι' m' H') (s : StOk K ι m H) : Le ι m H (ι'.cut m.length) (m'.take m.length) H' := by
  obtain ⟨k, e⟩ := l.pre
  refine ⟨⟨[], ?_⟩, l.ex, l.exk, fun b o h nt lv => let ⟨h1, h2⟩ := l.keep b o h nt lv; ⟨h1, fun q => h2 (live_cut q)⟩, l.tups, l.frzs⟩
  show ι'.l.take m.length = _
  rw [e, ← s.len, List.take_left, List.append_nil]
end
end DL
end
section
set_option Elab.async false
set_option linter.all false
set_option maxRecDepth 100000
set_option autoImplicit false
set_option maxHeartbeats 2000000
/-! DLm: a def keeps the evaluator's promise. -/
namespace DL
open PySem PySem.Spec PyProof.Rows L2
variable [Wd]
section
variable {P : Program} {w : World} {K : PySem.W.Frag} {mg : Str → Option Value} {base : Heap} {RX : RXT} {F : Type} {Φ : F → List Val → Store → R Val} {L : Nat}
theorem env_start {ι : Ix} {m : Store} {H : Hp} {vs : List V} {ws : List Val} {N : List Str} {k : Nat} (r : RepWs K ι m H vs ws) (hk : k = N.length - vs.length) : EnvOk K ι m H (ws.map some ++ List.replicate k none) (L2.start N vs) := by
  subst hk
  unfold L2.start
  have hl := r.length
  refine ⟨by rw [List.length_append, List.length_append, List.length_map, List.length_map, List.length_replicate, List.length_replicate, hl], fun i w h => ?_⟩
  by_cases hi : i < ws.length
  · rw [List.getElem?_append_left (by simpa using hi), List.getElem?_map] at h
    rw [List.getElem?_append_left (by simpa [hl] using hi), List.getElem?_map]
    clear hl hi
    induction r generalizing i with
    | nil => simp at h
    | @cons v vs w' ws' r1 r2 ih =>
      cases i with
      | zero => simp at h; subst h; exact ⟨v, by simp, r1⟩
      | succ i =>
        obtain ⟨v', h1, h2⟩ := ih i (by simpa using h)
        exact ⟨v', by simpa using h1, h2⟩
  · rw [List.getElem?_append_right (by simpa using hi), List.getElem?_replicate] at h
    split at h <;> cases h
theorem moved {ι : Ix} {m : Store} {H : Hp} {k n : Nat} {a : Addr} {c : Cell} (s : StOk K ι m H) (hk : n ≤ k) (ha : ι.l[k]? = some a) (hc : m[k]? = some c) :
    StOk K ((ι.cut n).add a) (m.take n ++ [c]) H ∧ ∀ b, Live ((ι.cut n).add a) (m.take n ++ [c]) b → Live ι m b := by
  have sc := s.cut n
  have lv : ∀ b, Live ((ι.cut n).add a) (m.take n ++ [c]) b → Live ι m b := fun b h => by
    rcases (live_app sc.len).mp h with h | ⟨e, h⟩
    · exact live_cut h
    · exact .inl ⟨k, c, by rw [e]; exact ha, hc, h⟩
  have up : Up H H (Live ι m) (Live ((ι.cut n).add a) (m.take n ++ [c])) := ⟨fun b o h _ l => ⟨h, fun q => l (lv b q)⟩, fun _ _ h => h, fun _ _ _ h => h⟩
  have hnot : a ∉ (ι.cut n).l := fun hm => by
    obtain ⟨j, hj⟩ := List.getElem?_of_mem hm
    have hj : (ι.l.take n)[j]? = some a := hj
    rw [List.getElem?_take] at hj
    by_cases q : j < n
    · rw [if_pos q] at hj
      have := s.inj hj ha
      omega
    · rw [if_neg q] at hj; cases hj
  refine ⟨⟨by show ((ι.cut n).l ++ [a]).length = _; rw [List.length_append, List.length_append, sc.len]; rfl, ?_, fun b hb hm => ?_, fun b hb => ?_, s.trx, fun j b c' h1 h2 => ?_, s.tb⟩, lv⟩
  · show ((ι.cut n).l ++ [a]).Nodup
    rw [List.nodup_append]
    exact ⟨sc.nd, by simp, fun x hx b hb => by simp at hb; subst hb; exact fun e => hnot (e ▸ hx)⟩
  · rcases List.mem_append.mp (show b ∈ (ι.cut n).l ++ [a] from hm) with h | h
    · exact sc.dis b hb h
    · have e : b = a := by simpa using h
      exact s.dis b hb (by rw [e]; exact List.mem_of_getElem? ha)
  · rcases List.mem_append.mp (show b ∈ (ι.cut n).l ++ [a] from hb) with h | h
    · exact sc.trk b h
    · have e : b = a := by simpa using h
      exact s.trk b (by rw [e]; exact List.mem_of_getElem? ha)
  · have h1 : ((ι.cut n).l ++ [a])[j]? = some b := h1
    by_cases hn : j < (ι.cut n).l.length
    · rw [List.getElem?_append_left hn] at h1
      rw [List.getElem?_append_left (by rw [← sc.len]; exact hn)] at h2
      have h1' : (ι.l.take n)[j]? = some b := h1
      rw [List.getElem?_take] at h1' h2
      by_cases q : j < n
      · rw [if_pos q] at h1' h2
        exact (s.ok j b c' h1' h2).up up fun vs e _ => e
      · rw [if_neg q] at h1'; cases h1'
    · have hl := (List.getElem?_eq_some_iff.mp h1).1
      have en : j = (ι.cut n).l.length := by simp at hl; omega
      subst en
      rw [List.getElem?_append_right (Nat.le_refl _)] at h1
      rw [sc.len, List.getElem?_append_right (Nat.le_refl _)] at h2
      simp at h1 h2
      subst h1 h2
      exact (s.ok k a c ha hc).up up fun vs e _ => e
theorem leave_ok {W : WX} {ι ι' : Ix} {m m' : Store} {H H' : Hp} {v : Val} {x : V} {Q : VK} (s0 : StOk K ι m H) (l : Le ι m H ι' m' H') (s : StOk K ι' m' H') (r : RepW K ι' m' H' x v) (h : PostR K RX W ι m H (leave m.length v m') (GV K Q)) : Q x H' := by
  have lc := l.cut s0
  have sc := s.cut m.length
  cases v with
  | d d => exact h _ _ lc sc x (Rep.up up_cut r)
  | r k =>
    obtain ⟨a, ha, rfl⟩ := r
    have h' : PostR K RX W ι m H (if k < m.length then R.ok (.r k) (m'.take m.length) else match m'[k]? with
      | some (.fz x) => .ok (.d x) (m'.take m.length)
      | some c => .ok (.r m.length) (m'.take m.length ++ [c])
      | none => .no) (GV K Q) := h
    by_cases hk : k < m.length
    · rw [if_pos hk] at h'
      exact h' _ _ lc sc _ ⟨a, by show (ι'.l.take m.length)[k]? = _; rw [List.getElem?_take, if_pos hk]; exact ha, rfl⟩
    · rw [if_neg hk] at h'
      cases hc : m'[k]? with
      | none => rw [hc] at h'; exact False.elim h'
      | some c =>
        have last : c.isFz = false → PostR K RX W ι m H (R.ok (.r m.length) (m'.take m.length ++ [c])) (GV K Q) → Q (.ref a) H' := fun _ h' => by
          obtain ⟨sm, lv⟩ := moved s (Nat.le_of_not_lt hk) ha hc
          obtain ⟨j, e⟩ := l.pre
          have hm : (ι'.cut m.length).l = ι.l := by show ι'.l.take m.length = _; rw [e, ← s0.len, List.take_left]
          refine h' ((ι'.cut m.length).add a) H' ⟨⟨[a], by show (ι'.cut m.length).l ++ [a] = _; rw [hm]⟩, l.ex, l.exk, fun b o h nt lx => let ⟨h1, h2⟩ := l.keep b o h nt lx; ⟨h1, fun q => h2 (lv b q)⟩, l.tups, l.frzs⟩ sm _ ⟨a, ?_, rfl⟩
          show ((ι'.cut m.length).l ++ [a])[m.length]? = _
          rw [hm, ← s0.len]
          simp
        rw [hc] at h'
        cases c with
        | fz d => exact h' _ _ lc sc _ (Rep.up up_cut (s.ok k a _ ha hc))
        | lst xs => exact last rfl h'
        | dic kvs => exact last rfl h'
theorem body_post {E : XK} {ι : Ix} {m : Store} {H : Hp} {fn : Fn F} {ws : List Val} {Q : VK} (s0 : StOk K ι m H) (h : PostR K RX (fun c d _ H => E c d H) ι m H (evFn Φ L fn ws m) (GV K Q)) :
    ws.length = fn.ps ∧ PostR K RX (fun c d _ H => E c d H) ι m H (evSs Φ L fn.body (ws.map some ++ List.replicate (fn.ns - fn.ps) none) m) (GS K { nx := fun _ H' => Q .non H', rt := Q }) := by
  unfold evFn at h
  by_cases hl : ws.length = fn.ps
  · rw [if_pos hl] at h
    refine ⟨hl, ?_⟩
    cases e : evSs Φ L fn.body (ws.map some ++ List.replicate (fn.ns - fn.ps) none) m with
    | no => rw [e] at h; exact False.elim h
    | ex x m1 =>
      rw [e] at h
      intro ι' H' c d σ l s rx
      exact h _ H' c d σ (l.cut s0) (s.cut _) rx
    | ok o m1 =>
      rw [e] at h
      intro ι' H' l s
      cases o with
      | nx ρ => exact fun σ' _ => h _ H' (l.cut s0) (s.cut _) .non .non
      | rt v => exact fun x r => leave_ok s0 l s r h
  · rw [if_neg hl] at h
    exact False.elim h
theorem fn_ok {x qual : Str} {st : Stmt} {f : Addr} {fd : FuncData} {N ps : List Str} {k : Nat} {fn : Fn F} (Fu : Fun K x qual st f fd) (S : FnScope N ps (defScope st)) (hp : fn.ps = ps.length) (hn : fn.ns = N.length)
    (hb : ∀ (cdv : Value) (A : Around) (outer : List PySem.Env) (s : Shared) (H : Hp) (E : XK), Room k (A.deeper (envOfC qual (defScope st) s.heap.objs.size f cdv)) →
      L2.PSs (cxOf (L2.CX P w) P w K mg base N qual (defScope st) f cdv A outer s H E) (defBody st) (tS K RX (fun c d _ H => E c d H) (evSs Φ L fn.body))) :
    FnOk P w K mg base (L2.CX P w) (k + 1) f fd ps (spOf K RX (evFn Φ L fn)) := by
  refine Fun.okX Fu S (fun vs H Q E ⟨ws, m, ι, st, r, h⟩ => ?_) fun cdv A outer s H vs Q E hr ⟨ws, m, ι, st, r, h⟩ => ⟨_, hb cdv A outer s H E hr, ?_⟩
  · rw [r.length, (body_post st h).1, hp]
  · obtain ⟨hl, h⟩ := body_post st h
    exact ⟨_, m, ι, env_start r (by rw [hn, hp, r.length, hl, hp]), st, h⟩
theorem takes_def {N : List Str} {qual : Str} {scope : Scope} {f : Addr} {cdv : Value} {A : Around} {outer : List PySem.Env} {s : Shared} {H : Hp} {E : XK} : Takes (cxOf (L2.CX P w) P w K mg base N qual scope f cdv A outer s H E) (fun c d _ H => E c d H) :=
  takes_of rfl rfl rfl rfl
theorem own_def {N : List Str} {qual : Str} {scope : Scope} {f : Addr} {cdv : Value} {A : Around} {outer : List PySem.Env} {s : Shared} {H : Hp} {E : XK} :
    PassesOwn (model P w) (cxOf (L2.CX P w) P w K mg base N qual scope f cdv A outer s H E).A (cxOf (L2.CX P w) P w K mg base N qual scope f cdv A outer s H E).env (cxOf (L2.CX P w) P w K mg base N qual scope f cdv A outer s H E).xe :=
  passes_of (X := cxOf (L2.CX P w) P w K mg base N qual scope f cdv A outer s H E) rfl
end
end DL
end
section
set_option Elab.async false
set_option linter.all false
set_option maxRecDepth 100000
set_option autoImplicit false
set_option maxHeartbeats 2000000
/-! DLn: from the model's syntax to the evaluator's. -/
namespace DL
open PySem PySem.Spec PyProof.Rows L2
variable [Wd]

def sEq (a b : Str) : Bool := a.cps.toList == b.cps.toList
omit [Wd] in
theorem sEq_eq {a b : Str} (h : sEq a b = true) : a = b := by
  cases a; cases b
  have := eq_of_beq (show (_ == _) = true from h)
  exact congrArg Str.mk (Array.toList_inj.mp this)
omit [Wd] in
theorem sEq_self (a : Str) : sEq a a = true := by unfold sEq; exact beq_self_eq_true _
omit [Wd] in
theorem sEq_ne {a b : Str} (h : sEq a b = false) : a ≠ b := fun e => by rw [e, sEq_self] at h; cases h
omit [Wd] in
theorem sEq_beq {a b : Str} (h : sEq a b = false) : (a == b) = false := beq_eq_false_iff_ne.mpr (sEq_ne h)
def lkS {α : Type} : List (Str × α) → Str → Option α
  | [], _ => none
  | (y, a) :: r, x => if sEq x y then some a else lkS r x
omit [Wd] in
theorem lkS_lookup {α : Type} {x : Str} {a : α} : ∀ {l : List (Str × α)}, lkS l x = some a → l.lookup x = some a
  | [], h => by cases h
  | (y, b) :: r, h => by
    unfold lkS at h
    rw [List.lookup_cons]
    cases e : sEq x y with
    | true =>
      rw [e, if_pos rfl] at h
      rw [sEq_eq e, beq_self_eq_true]
      exact h
    | false =>
      rw [e, if_neg Bool.false_ne_true] at h
      rw [sEq_beq e]
      exact lkS_lookup h
def ixOf : List Str → Str → Option Nat
  | [], _ => none
  | y :: ys, x => if sEq x y then some 0 else (ixOf ys x).map (· + 1)
omit [Wd] in
theorem ixOf_get {x : Str} : ∀ {N : List Str} {i : Nat}, ixOf N x = some i → N[i]? = some x
  | [], _, h => by cases h
  | y :: ys, i, h => by
    unfold ixOf at h
    cases e : sEq x y with
    | true =>
      rw [e, if_pos rfl] at h
      cases h
      rw [sEq_eq e]
      rfl
    | false =>
      rw [e, if_neg Bool.false_ne_true] at h
      cases e2 : ixOf ys x with
      | none => rw [e2] at h; cases h
      | some j =>
        rw [e2] at h
        cases h
        show (y :: ys)[j + 1]? = some x
        rw [List.getElem?_cons_succ]
        exact ixOf_get e2

structure CE (F : Type) where
  N : List Str
  sc : Scope
  fb : Str → Bool
  fn : Str → Option (F × List Bool)
  cs : Str → Option D
  fr : Str → Bool
section
variable {F : Type}
def CE.kd (c : CE F) (x : Str) : Option NameKind := lkS c.sc.names x
def CE.gl (c : CE F) (x : Str) : Bool := match c.kd x with
  | some .globalImplicit => true
  | _ => false
def CE.vis (c : CE F) (x : Str) : Bool := match c.kd x with
  | some .local => true | some .cell => true | some .free => true
  | _ => false
def CE.loc (c : CE F) (x : Str) : Bool := match c.kd x with
  | some .local => true | some .cell => true
  | _ => false
def CE.st (c : CE F) (x : Str) : Bool := c.loc x && (c.fb x || match c.kd x with | some .local => true | _ => false)
def CE.lcl (c : CE F) (x : Str) : Bool := match c.kd x with
  | some .local => true
  | _ => false
def opOf : Operator → Option Op
  | .Add => some .add | .Sub => some .sub | .Mult => some .mul | .FloorDiv => some .fdiv | .Mod => some .mod | .Pow => some .pow
  | _ => none
def cmOf : CmpOp → Option Cm
  | .Eq => some .eq | .NotEq => some .ne | .Lt => some .lt | .LtE => some .le | .Gt => some .gt | .GtE => some .ge | .In => some .isin | .NotIn => some .notin | .Is => some .is | .IsNot => some .isnot
theorem opOf_py {o : Operator} {p : Op} (h : opOf o = some p) : o = opPy p := by cases o <;> cases h <;> rfl
theorem cmOf_py {o : CmpOp} {p : Cm} (h : cmOf o = some p) : o = cmPy p := by cases o <;> cases h <;> rfl
def biOf (x : Str) : Option Bi :=
  if sEq x "len" then some .len else if sEq x "tuple" then some .tuple else if sEq x "list" then some .list else if sEq x "all" then some .all else if sEq x "any" then some .any else
  if sEq x "sorted" then some .sorted else if sEq x "int" then some .int else if sEq x "str" then some .str else if sEq x "bool" then some .bool else if sEq x "min" then some .min else none
theorem biOf_nm {x : Str} {b : Bi} (h : biOf x = some b) : x = (biNm b : String) := by
  unfold biOf at h
  repeat' (split at h)
  all_goals first
    | (cases h; exact sEq_eq (by assumption))
    | cases h
def tyOf (x : Str) : Option Ty :=
  if sEq x "tuple" then some .tuple else if sEq x "list" then some .list else if sEq x "int" then some .int else if sEq x "bool" then some .bool else if sEq x "str" then some .str else none
theorem tyOf_nm {x : Str} {b : Ty} (h : tyOf x = some b) : x = (tyNm b : String) := by
  unfold tyOf at h
  repeat' (split at h)
  all_goals first
    | (cases h; exact sEq_eq (by assumption))
    | cases h
def noDbg (x : Str) : Bool := !sEq x "__debug__" && !sEq x "__classdict__"
def plainIx : Expr → Bool
  | .Slice .. => false
  | .Constant .. => true
  | _ => true
/-- a test is its value's truth, its parts' truth -/
def tst : Nat → Expr → Bool
  | 0, _ => false
  | n + 1, e => match e with
    | .IfExp .. => false
    | .UnaryOp .Not a _ => tst n a
    | .BoolOp _ vs _ => vs.all (tst n)
    | .Compare _ [_] [_] _ => true
    | .Compare _ [_, _] [_, _] _ => true
    | .Compare .. => false
    | _ => true
def ownOf (N : List Str) : List (Str × NameKind) → List (Str × Nat)
  | [] => []
  | (n, k) :: r => match k with
    | .local => (match ixOf N n with | some i => (n, i) :: ownOf N r | none => ownOf N r)
    | .cell => (match ixOf N n with | some i => (n, i) :: ownOf N r | none => ownOf N r)
    | _ => ownOf N r
def CE.block (c : CE F) (scope : Scope) : CE F := { c with sc := relS scope c.sc, fb := fun x => match lkS scope.names x with | some .cell => true | _ => false }
def cNm (c : CE F) : Expr → Option Nat
  | .Name x _ => if c.st x then ixOf c.N x else none
  | _ => none
def cNms (c : CE F) : List Expr → Option (List Nat)
  | [] => some []
  | e :: es => match cNm c e, cNms c es with
    | some i, some is => some (i :: is)
    | _, _ => none
def cTg (c : CE F) : Expr → Option Tg
  | .Tuple es _ _ => (cNms c es).map .tp
  | e => (cNm c e).map .nm
mutual
def cE (c : CE F) : Nat → Expr → Option (PX F)
  | 0, _ => none
  | n + 1, e => match e with
    | .Constant k _ _ => (match k with
      | .none => some (.lit .none) | .bool b => some (.lit (.bool b)) | .int i => some (.lit (.int i)) | .str s => some (.lit (.str s))
      | _ => none)
    | .Name x _ => if noDbg x then (if c.vis x then (ixOf c.N x).map .loc else if c.gl x then (c.cs x).map .lit else none) else none
    | .Tuple es _ _ => if es.all noStar then (cEs c n [] es).map .tup else none
    | .List es _ => if es.all noStar then (cEs c n [] es).map .lst else none
    | .BinOp a op b _ => (match opOf op, cE c n a, cE c n b with
      | some o, some p, some q => some (.bin o p q)
      | _, _, _ => none)
    | .UnaryOp op a _ => (match op, cE c n a with
      | .USub, some p => some (.neg p)
      | .Not, some p => some (.not p)
      | _, _ => none)
    | .BoolOp op vs _ => cB c n op vs
    | .Compare a ops es _ => (match ops, es with
      | [o], [b] => (match cmOf o, cE c n a, cE c n b with
        | some k, some p, some q => if behindInMarks o b then none else some (.cmp k p q)
        | _, _, _ => none)
      | [o, o'], [b, e] => (match cmOf o, cmOf o', cE c n a, cE c n b, cE c n e with
        | some k, some k', some p, some q, some r => if lastMarks [o, o'] [b, e] then none else some (.chain k k' p q r)
        | _, _, _, _, _ => none)
      | _, _ => none)
    | .IfExp t a b _ => if tst n t then (match cE c n t, cE c n a, cE c n b with
      | some p, some q, some r => some (.ite p q r)
      | _, _, _ => none) else none
    | .Subscript a s _ => (match s with
      | .Slice lo hi st _ => (match st with
        | none => (match cE c n a, cO c n lo, cO c n hi with
          | some p, some q, some r => some (.sli p q r)
          | _, _, _ => none)
        | some (.UnaryOp .USub (.Constant (.int 1) _ _) _) => (match lo, hi with
          | none, none => (cE c n a).map .rev
          | _, _ => none)
        | _ => none)
      | s => (match cE c n a, cE c n s with
        | some p, some q => if plainIx s then some (.idx p q) else none
        | _, _ => none))
    | .Call f args kws pos => (match kws with
      | [] => cC c n f args pos
      | _ => none)
    | .ListComp elt gs scope _ => (match gs with
      | [⟨tg, iter, ifs, a⟩] => if a == 0 && noSet iter && blkC c.N c.sc scope (ownOf c.N scope.names) then
          (match cTg (c.block scope) tg, cI c n tg iter, cF (c.block scope) n ifs, cE (c.block scope) n elt with
          | some t, some i, some q, some p => if t.ns.all fun j => ((ownOf c.N scope.names).map (·.2)).contains j then some (.comp p t i q ((ownOf c.N scope.names).map (·.2))) else none
          | _, _, _, _ => none) else none
      | [⟨tg, iter, [], a⟩, ⟨tg2, iter2, ifs2, a2⟩] => if a == 0 && a2 == 0 && noSet iter && noSet iter2 && blkC c.N c.sc scope (ownOf c.N scope.names) then
          (match cTg (c.block scope) tg, cI c n tg iter, cTg (c.block scope) tg2, cI (c.block scope) n tg2 iter2, cF (c.block scope) n ifs2, cE (c.block scope) n elt with
          | some t, some i, some t2, some i2, some q, some p => if (t.ns.all fun j => ((ownOf c.N scope.names).map (·.2)).contains j) && t2.ns.all fun j => ((ownOf c.N scope.names).map (·.2)).contains j then some (.comp2 p t i t2 i2 q ((ownOf c.N scope.names).map (·.2)) t2.ns) else none
          | _, _, _, _, _, _ => none) else none
      | _ => none)
    | .Dict ks vs _ => (match ks, vs with
      | [], [] => some (.dsp .nil)
      | _, _ => if decide (ks.length ≤ 15) then (cPs c n ks vs).map .dsp else none)
    | _ => none
def cPs (c : CE F) : Nat → List (Option Expr) → List Expr → Option (PXs F)
  | 0, _, _ => none
  | n + 1, ks, vs => match ks, vs with
    | [], [] => some .nil
    | some k :: ks, v :: vs => (match cE c n k, cE c n v, cPs c n ks vs with
      | some p, some q, some r => some (.cons false p (.cons false q r))
      | _, _, _ => none)
    | _, _ => none
def cEs (c : CE F) : Nat → List Bool → List Expr → Option (PXs F)
  | 0, _, _ => none
  | n + 1, ks, es => match es with
    | [] => some .nil
    | e :: r => (match cE c n e, cEs c n ks.tail r with
      | some p, some q => some (.cons (ks.headD false) p q)
      | _, _ => none)
def cB (c : CE F) : Nat → BoolOp → List Expr → Option (PX F)
  | 0, _, _ => none
  | n + 1, op, es => match es with
    | [] => none
    | [a] => cE c n a
    | a :: r => (match cE c n a, cB c n op r with
      | some p, some q => some (match op with | .And => .and p q | .Or => .or p q)
      | _, _ => none)
def cO (c : CE F) : Nat → Option Expr → Option (PO F)
  | 0, _ => none
  | n + 1, o => match o with
    | none => some .no
    | some e => (cE c n e).map .so
def cF (c : CE F) : Nat → List Expr → Option (PO F)
  | 0, _ => none
  | n + 1, es => match es with
    | [] => some .no
    | [e] => if tst n e then (cE c n e).map .so else none
    | _ => none
def cC (c : CE F) : Nat → Expr → List Expr → Pos → Option (PX F)
  | 0, _, _, _ => none
  | n + 1, f, args, pos => match f with
    | .Name x _ => if c.gl x && noDbg x then (match c.fn x with
      | some (i, ks) => if args.all noStar then (cEs c n ks args).map (.call i) else none
      | none => if c.fr x then (match biOf x with
        | some b => if args.all noStar && !args.isEmpty then (cEs c n [] args).map (.blt b) else none
        | none => if sEq x "isinstance" then (match args with
          | [e, .Name y _] => (match tyOf y, cE c n e with
            | some t, some p => if c.gl y && c.fr y && noStar e then some (.isi p [t]) else none
            | _, _ => none)
          | [e, .Tuple [.Name y1 _, .Name y2 _] _ _] => (match tyOf y1, tyOf y2, cE c n e with
            | some t1, some t2, some p => if c.gl y1 && c.fr y1 && c.gl y2 && c.fr y2 && noStar e then some (.isi p [t1, t2]) else none
            | _, _, _ => none)
          | _ => none) else none) else none) else none
    | .Attribute o m apos => if noSup o && (apos.endLine == pos.line) then (match args with
      | [] => if sEq m "pop" then (cE c n o).map .mpop else none
      | [e] => if noStar e then (match cE c n o, cE c n e with
        | some p, some q => if sEq m "append" then some (.app p q) else if sEq m "join" then some (.join p q) else if sEq m "split" then some (.split p q) else if sEq m "index" then some (.midx p q) else if sEq m "get" then some (.mget p q (.lit .none)) else none
        | _, _ => none) else none
      | [e, f] => if noStar e && noStar f && sEq m "get" then (match cE c n o, cE c n e, cE c n f with
        | some p, some q, some r => some (.mget p q r)
        | _, _, _ => none) else none
      | _ => none) else none
    | _ => none
def cI (c : CE F) : Nat → Expr → Expr → Option (It F)
  | 0, _, _ => none
  | n + 1, tg, e => match e with
    | .Call (.Name x _) args [] _ => if sEq x "range" && c.gl x && c.fr x then (match args with
        | [a] => if noStar a then (cE c n a).map .rng1 else none
        | [a, b] => if noStar a && noStar b then (match cE c n a, cE c n b with
          | some p, some q => some (.rng2 p q)
          | _, _ => none) else none
        | [a, b, d] => if noStar a && noStar b && noStar d then (match cE c n a, cE c n b, cE c n d with
          | some p, some q, some r => some (.rng3 p q r)
          | _, _, _ => none) else none
        | _ => none) else if sEq x "enumerate" && c.gl x && c.fr x then (match tg, args with
        | .Tuple _ _ _, [a] => if noStar a then (cE c n a).map .enum else none
        | _, _ => none) else if sEq x "zip" && c.gl x && c.fr x then (match tg, args with
        | .Tuple _ _ _, [a, b] => if noStar a && noStar b then (match cE c n a, cE c n b with
          | some p, some q => some (.zip p q)
          | _, _ => none) else none
        | _, _ => none) else (cE c n e).map .of
    | _ => (cE c n e).map .of
end
def nonLcl {F : Type} (c : CE F) : Expr → Bool
  | .Name x _ => !c.lcl x
  | _ => true
def noTup : Expr → Bool
  | .Tuple .. => false
  | _ => true
def isDoc : Stmt → Bool
  | .Expr (.Constant (.str _) _ _) _ => true
  | _ => false
mutual
def cS (c : CE F) : Nat → Stmt → Option (PS F)
  | 0, _ => none
  | n + 1, s => match s with
    | .Pass _ => some .pass
    | .Raise _ _ _ => some (.rais 0 .nil)
    | .Expr e _ => (match e with
      | .Constant (.str _) _ _ => some .pass
      | e => if noComp e then (cE c n e).map .ex else none)
    | .Return o _ => (match o with
      | none => some .ret0
      | some e => (cE c n e).map .ret)
    | .If t a b _ => if tst n t then (match cE c n t, cSs c n a, cSs c n b with
      | some p, some q, some r => some (.iff p q r)
      | _, _, _ => none) else none
    | .While t a b _ => (match b with
      | [] => if tst n t then (match cE c n t, cSs c n a with
        | some p, some q => some (.whl p q)
        | _, _ => none) else none
      | _ => none)
    | .For tg iter a b _ => (match b with
      | [] => if noSet iter then (match cTg c tg, cI c n tg iter, cSs c n a with
        | some t, some i, some q => some (.for t i q)
        | _, _, _ => none) else none
      | _ => none)
    | .AugAssign tg op e _ => (match tg, op with
      | .Name x _, .Add => if c.st x then (match ixOf c.N x, cE c n e with
        | some i, some p => some (.aug i .add p)
        | _, _ => none) else none
      | _, _ => none)
    | .Assign tgs e pos => (match tgs with
      | [.Name x px] => if c.st x then (match ixOf c.N x, cE c n e with
        | some i, some p => (match e with
          | .ListComp _ _ scope cpos => if c.lcl x && (px.line == cpos.line) && !(scope.names.any fun (m, k) => m == x && (k == .local || k == .cell)) then some (.asg (.nm i) p) else some (.asg (.nm i) p)
          | _ => if noComp e then some (.asg (.nm i) p) else none)
        | _, _ => none) else none
      | [.Subscript o i _] => if noSlice i && noComp e then (match cE c n e, cE c n o, cE c n i with
        | some p, some q, some r => some (.set q r p)
        | _, _, _ => none) else none
      | [.Tuple ts _ _] => (match e with
        | .Tuple vs _ _ => if vs.all (foldedForSure 8) || ts.any (nonLcl c) then (match cNms c ts, cE c n e with
          | some is, some p => some (.asg (.tp is) p)
          | _, _ => none) else if vs.all noStar && !(vs.all (foldedForSure 8)) && !(vs.all (constantsAlone 8)) then (match ts, vs with
          | [.Name x px, .Name y py], [a, b] => if c.lcl x && c.lcl y && !sEq x y && (px.line == py.line) then (match ixOf c.N x, ixOf c.N y, cEs c n [] [a, b] with
            | some i, some j, some q => if i == j then none else some (.par [i, j] q)
            | _, _, _ => none) else none
          | [.Name x px, .Name y py, .Name z pz], [a, b, d] => if c.lcl x && c.lcl y && c.lcl z && !sEq x y && !sEq x z && !sEq y z && (px.line == py.line) && (px.line == pz.line) then (match ixOf c.N x, ixOf c.N y, ixOf c.N z, cEs c n [] [a, b, d] with
            | some i, some j, some k, some q => if i == j || i == k || j == k then none else some (.par [i, j, k] q)
            | _, _, _, _ => none) else none
          | _, _ => none) else none
        | e => if noComp e then (match cNms c ts, cE c n e with
          | some is, some p => some (.asg (.tp is) p)
          | _, _ => none) else none)
      | _ => none)
    | _ => none
def cSs (c : CE F) : Nat → List Stmt → Option (PSs F)
  | 0, _ => none
  | n + 1, es => match es with
    | [] => some .nil
    | e :: r => (match cS c n e, cSs c n r with
      | some p, some q => some (.cons p q)
      | _, _ => none)
end
end
end DL
end
section
set_option Elab.async false
set_option linter.all false
set_option maxRecDepth 100000
set_option autoImplicit false
set_option maxHeartbeats 4000000
/-! DLo: what is compiled is sound: expressions. -/
namespace DL
open PySem PySem.Spec PyProof.Rows L2
variable [Wd]

structure CtxOk {F : Type} (X : Cx) (RX : RXT) (Φ : F → List Val → Store → R Val) (c : CE F) : Prop where
  N : X.N = c.N
  nd : c.N.Nodup
  sc : X.env.scope = c.sc
  calm : X.calm = true
  units : CU X
  fb : ∀ x, c.fb x = true → X.fn x = true
  fns : ∀ x i ks, c.fn x = some (i, ks) → ∃ k f fd ps, FnOk X.prog X.w X.K X.mg X.base (L2.CX X.prog X.w) k f fd ps (spOf X.K RX (Φ i)) ∧ Room k X.A ∧ X.mg x = some (.ref f) ∧ PySem.W.keepIn X.K (.ref f) = true ∧ Binds X.K fd ps []
  css : ∀ x d, c.cs x = some d → ∃ u v, X.mg x = some u ∧ RelV v u ∧ ∀ H Lv, Rep X.K H Lv v d
  frs : ∀ x, c.fr x = true → X.mg x = none
section
variable {F : Type} {X : Cx} {RX : RXT} {Φ : F → List Val → Store → R Val} {c : CE F}
theorem CtxOk.kd (C : CtxOk X RX Φ c) {x : Str} {k : NameKind} (h : c.kd x = some k) : X.env.scope.names.lookup x = some k := by rw [C.sc]; exact lkS_lookup h
theorem CtxOk.gl (C : CtxOk X RX Φ c) {x : Str} (h : c.gl x = true) : Gl X x := by
  unfold CE.gl at h
  split at h
  · exact C.kd (by assumption)
  · cases h
theorem CtxOk.vis (C : CtxOk X RX Φ c) {x : Str} (h : c.vis x = true) : Vis X.env.scope x := by
  unfold CE.vis at h
  split at h
  · exact .inl (C.kd (by assumption))
  · exact .inr (.inl (C.kd (by assumption)))
  · exact .inr (.inr (C.kd (by assumption)))
  · cases h
theorem CtxOk.loc (C : CtxOk X RX Φ c) {x : Str} (h : c.loc x = true) : Loc X.env.scope x := by
  unfold CE.loc at h
  split at h
  · exact .inl (C.kd (by assumption))
  · exact .inr (C.kd (by assumption))
  · cases h
theorem CtxOk.lcl (C : CtxOk X RX Φ c) {x : Str} (h : c.lcl x = true) : X.env.scope.names.lookup x = some .local := by
  unfold CE.lcl at h
  split at h
  · exact C.kd (by assumption)
  · cases h
theorem CtxOk.st (C : CtxOk X RX Φ c) {x : Str} (h : c.st x = true) : Loc X.env.scope x ∧ (X.fn x = true ∨ X.env.scope.names.lookup x = some .local) := by
  unfold CE.st at h
  rw [Bool.and_eq_true, Bool.or_eq_true] at h
  refine ⟨C.loc h.1, ?_⟩
  rcases h.2 with h | h
  · exact .inl (C.fb x h)
  · split at h
    · exact .inr (C.kd (by assumption))
    · cases h
theorem CtxOk.get (C : CtxOk X RX Φ c) {x : Str} {i : Nat} (h : ixOf c.N x = some i) : X.N[i]? = some x := by rw [C.N]; exact ixOf_get h
theorem CtxOk.ndX (C : CtxOk X RX Φ c) : X.N.Nodup := by rw [C.N]; exact C.nd
theorem noDbg_1 {x : Str} (h : noDbg x = true) : (x == ("__debug__" : Str)) = false ∧ (x == ("__classdict__" : Str)) = false := by
  unfold noDbg at h
  rw [Bool.and_eq_true, Bool.not_eq_true', Bool.not_eq_true'] at h
  exact ⟨sEq_beq h.1, sEq_beq h.2⟩
theorem plainIx_ok {b : Expr} (h : plainIx b = true) : PlainIx b := fun o i => by
  cases b <;> first | rfl | cases h
/-- the block's own context -/
theorem CtxOk.block (C : CtxOk X RX Φ c) {scope : Scope} (s : Shared) (H : Hp) (A : Addr) (cl : List (Str × Addr)) (fp : List Addr) : CtxOk (X.blk s H scope (compEnvC scope cl A X.env) fp) RX Φ (c.block scope) where
  N := C.N
  nd := C.nd
  sc := by
    show (compEnvC scope cl A X.env).scope = relS scope c.sc
    rw [← C.sc]
    rfl
  calm := C.calm
  units := C.units
  fb := fun x h => by
    have h : (match lkS scope.names x with | some .cell => true | _ => false) = true := h
    split at h
    · rename_i e
      show (scope.names.lookup x == some .cell) = true
      rw [lkS_lookup e]
      rfl
    · cases h
  fns := C.fns
  css := C.css
  frs := C.frs
/-! targets -/
theorem nm_ok (C : CtxOk X RX Φ c) {e : Expr} {i : Nat} (h : cNm c e = some i) : PG X e (gName i) := by
  cases e with
  | Name x p =>
    unfold cNm at h
    dsimp only at h
    split at h
    · rename_i hs
      obtain ⟨h1, h2⟩ := C.st hs
      exact pg_name C.ndX (C.get h) h1 h2
    · cases h
  | _ => cases h
theorem nm_each {e : Expr} {i : Nat} (h : cNm c e = some i) : noStar e = true := by
  cases e <;> first | rfl | cases h
theorem each_cons {e : Expr} {es : List Expr} {env : PySem.Env} (h : noStar e = true) : assignEach (e :: es) env = (false, assign e env) :: assignEach es env := by
  cases e <;> first | rfl | cases h
theorem nms_ok (C : CtxOk X RX Φ c) : ∀ {es : List Expr} {is : List Nat}, cNms c es = some is → PGs X es (gNs is) ∧ (assignEach es X.env).length = is.length ∧ (assignEach es X.env).findIdx? (·.1) = none
  | [], is, h => by cases h; exact ⟨pgs_nil, rfl, rfl⟩
  | e :: es, is, h => by
    unfold cNms at h
    split at h
    · rename_i i is' e1 e2
      cases h
      obtain ⟨h1, h2, h3⟩ := nms_ok C e2
      have hn := nm_each e1
      refine ⟨pgs_cons (nm_ok C e1) h1 (by rw [each_cons hn]; rfl), by rw [each_cons hn, List.length_cons, List.length_cons, h2], ?_⟩
      rw [each_cons hn, List.findIdx?_cons, h3]
      rfl
    · cases h
theorem tup_ok (C : CtxOk X RX Φ c) {es : List Expr} {is : List Nat} {k : Nat} {p : Pos} (h : cNms c es = some is) : PG X (.Tuple es k p) (gOf X.K (.tp is)) := by
  obtain ⟨h1, h2, h3⟩ := nms_ok C h
  exact pg_tup C.calm h1 h2 h3
theorem tg_ok (C : CtxOk X RX Φ c) {e : Expr} {t : Tg} (h : cTg c e = some t) : PG X e (gOf X.K t) := by
  cases e with
  | Tuple es k p =>
    unfold cTg at h
    dsimp only at h
    cases e1 : cNms c es with
    | none => rw [e1] at h; cases h
    | some is => rw [e1] at h; cases h; exact tup_ok C e1
  | Name x p =>
    unfold cTg at h
    dsimp only at h
    cases e1 : cNm c (.Name x p) with
    | none => rw [e1] at h; cases h
    | some i => rw [e1] at h; cases h; exact nm_ok C e1
  | _ => cases h

structure Snd (F : Type) (RX : RXT) (Φ : F → List Val → Store → R Val) (n : Nat) : Prop where
  e : ∀ (c : CE F) (X : Cx) (W : WX), CtxOk X RX Φ c → Takes X W → ∀ e p, cE c n e = some p → PE X e (tX X.K RX W (ev Φ p))
  t : ∀ (c : CE F) (X : Cx) (W : WX), CtxOk X RX Φ c → Takes X W → ∀ e p, cE c n e = some p → ∀ k, tst k e = true → PT X e (tT X.K RX W (evT Φ p))
  es : ∀ (c : CE F) (X : Cx) (W : WX), CtxOk X RX Φ c → Takes X W → ∀ ks es p, cEs c n ks es = some p → es.all noStar = true → PA X es (tA X.K RX W (evs Φ p))
  b : ∀ (c : CE F) (X : Cx) (W : WX), CtxOk X RX Φ c → Takes X W → ∀ op es p pos, cB c n op es = some p → PE X (.BoolOp op es pos) (tX X.K RX W (ev Φ p))
  w : ∀ (c : CE F) (X : Cx) (W : WX), CtxOk X RX Φ c → Takes X W → ∀ op es p pos, cB c n op es = some p → ∀ k, es.all (tst k) = true → PW X (.BoolOp op es pos) (tT X.K RX W (evT Φ p))
  o : ∀ (c : CE F) (X : Cx) (W : WX), CtxOk X RX Φ c → Takes X W → ∀ o p, cO c n o = some p → L2.PO X o (tO X.K RX W (evO Φ p))
  f : ∀ (c : CE F) (X : Cx) (W : WX), CtxOk X RX Φ c → Takes X W → ∀ es p, cF c n es = some p → PTs X es (tT X.K RX W (evC Φ p))
  c : ∀ (c : CE F) (X : Cx) (W : WX), CtxOk X RX Φ c → Takes X W → ∀ f args pos p, cC c n f args pos = some p → PE X (.Call f args [] pos) (tX X.K RX W (ev Φ p))
  i : ∀ (c : CE F) (X : Cx) (W : WX), CtxOk X RX Φ c → Takes X W → ∀ tg e p, cI c n tg e = some p → PI X tg e (tI X.K RX W (evI Φ p))
  ps : ∀ (c : CE F) (X : Cx) (W : WX), CtxOk X RX Φ c → Takes X W → ∀ ks vs p pos, cPs c n ks vs = some p → ∃ trs, PPs X pos ks vs trs ∧ TrsOf X.K RX W Φ p trs ∧ ks.all (·.isSome) = true ∧ ks.length = vs.length
theorem ok_const {W : WX} {k : Const} {j : Nat} {pos : Pos} {d : D} (v : V) (h : PE X (.Constant k j pos) (tC v)) (r : ∀ H Lv, Rep X.K H Lv v d) : PE X (.Constant k j pos) (tX X.K RX W (ev Φ (.lit d : PX F))) :=
  ok_lit h fun σ H Q q => q v fun Lv => r H Lv
theorem snd_ps {n : Nat} (ih : Snd F RX Φ n) {W : WX} (C : CtxOk X RX Φ c) (tk : Takes X W) {ks : List (Option Expr)} {vs : List Expr} {p : PXs F} {pos : Pos} (h : cPs c (n + 1) ks vs = some p) :
    ∃ trs, PPs X pos ks vs trs ∧ TrsOf X.K RX W Φ p trs ∧ ks.all (·.isSome) = true ∧ ks.length = vs.length := by
  unfold cPs at h
  split at h
  · cases h; exact ⟨[], pps_nil, .nil, rfl, rfl⟩
  · rename_i k ks v vs
    split at h
    · rename_i q r t e1 e2 e3
      cases h
      obtain ⟨trs, h1, h2, h3, h4⟩ := ih.ps c X W C tk ks vs t pos e3
      exact ⟨_, pps_cons (ih.e c X W C tk k q e1) (ih.e c X W C tk v r e2) h1, .cons h2, by rw [List.all_cons, h3]; rfl, by rw [List.length_cons, List.length_cons, h4]⟩
    · cases h
  · cases h
theorem m1_of {o e : Expr} {m : Str} {apos pos : Pos} (hn : noStar e = true) (hs : noSup o = true) (hl : (apos.endLine == pos.line) = true) : M1 X o m apos e pos :=
  ⟨base_of hs, by rw [star_cons hn]; rfl, hl, by rw [star_cons hn]; rfl⟩
theorem m2_of {o e f : Expr} {m : Str} {apos pos : Pos} (hn : noStar e = true) (hf : noStar f = true) (hs : noSup o = true) (hl : (apos.endLine == pos.line) = true) : M2 X o m apos e f pos :=
  ⟨base_of hs, by rw [star_cons hn, star_cons hf]; rfl, hl, by rw [star_cons hn, star_cons hf]; rfl⟩
theorem snd_es {n : Nat} (ih : Snd F RX Φ n) {W : WX} (C : CtxOk X RX Φ c) (tk : Takes X W) {ks : List Bool} {es : List Expr} {p : PXs F} (h : cEs c (n + 1) ks es = some p) (hs : es.all noStar = true) : PA X es (tA X.K RX W (evs Φ p)) := by
  cases es with
  | nil => unfold cEs at h; cases h; exact ok_nil
  | cons e r =>
    unfold cEs at h
    dsimp only at h
    rw [List.all_cons, Bool.and_eq_true] at hs
    split at h
    · rename_i p1 q1 e1 e2
      cases h
      exact ok_cons (ih.e c X W C tk e p1 e1) (ih.es c X W C tk _ r q1 e2 hs.2) (star_cons hs.1)
    · cases h
theorem snd_b {n : Nat} (ih : Snd F RX Φ n) {W : WX} (C : CtxOk X RX Φ c) (tk : Takes X W) {op : BoolOp} {es : List Expr} {p : PX F} {pos : Pos} (h : cB c (n + 1) op es = some p) : PE X (.BoolOp op es pos) (tX X.K RX W (ev Φ p)) := by
  cases es with
  | nil => unfold cB at h; cases h
  | cons a r =>
  cases r with
  | nil =>
    unfold cB at h
    exact pe_one (ih.e c X W C tk a p h)
  | cons b r =>
    unfold cB at h
    dsimp only at h
    split at h
    · rename_i p1 q1 e1 e2
      cases h
      have ha := ih.e c X W C tk a p1 e1
      have hb := ih.b c X W C tk op (b :: r) q1 pos e2
      cases op with
      | And => exact ok_and ha hb
      | Or => exact ok_or ha hb
    · cases h
theorem snd_w {n : Nat} (ih : Snd F RX Φ n) {W : WX} (C : CtxOk X RX Φ c) (tk : Takes X W) {op : BoolOp} {es : List Expr} {p : PX F} {pos : Pos} (h : cB c (n + 1) op es = some p) {k : Nat} (ht : es.all (tst k) = true) : PW X (.BoolOp op es pos) (tT X.K RX W (evT Φ p)) := by
  cases es with
  | nil => unfold cB at h; cases h
  | cons a r =>
  rw [List.all_cons, Bool.and_eq_true] at ht
  cases r with
  | nil =>
    unfold cB at h
    have ha := ih.t c X W C tk a p h k ht.1
    cases op with
    | And => exact pw_and1 ha
    | Or => exact pw_or1 ha
  | cons b r =>
    unfold cB at h
    dsimp only at h
    split at h
    · rename_i p1 q1 e1 e2
      cases h
      have ha := ih.t c X W C tk a p1 e1 k ht.1
      have hb := ih.w c X W C tk op (b :: r) q1 pos e2 k ht.2
      cases op with
      | And => exact ok_andT ha hb
      | Or => exact ok_orT ha hb
    · cases h
theorem snd_o {n : Nat} (ih : Snd F RX Φ n) {W : WX} (C : CtxOk X RX Φ c) (tk : Takes X W) {o : Option Expr} {p : PO F} (h : cO c (n + 1) o = some p) : L2.PO X o (tO X.K RX W (evO Φ p)) := by
  cases o with
  | none => unfold cO at h; cases h; exact ok_poNo
  | some e =>
    unfold cO at h
    dsimp only at h
    cases e1 : cE c n e with
    | none => rw [e1] at h; cases h
    | some q => rw [e1] at h; cases h; exact ok_poSo (ih.e c X W C tk e q e1)
theorem snd_f {n : Nat} (ih : Snd F RX Φ n) {W : WX} (C : CtxOk X RX Φ c) (tk : Takes X W) {es : List Expr} {p : PO F} (h : cF c (n + 1) es = some p) : PTs X es (tT X.K RX W (evC Φ p)) := by
  cases es with
  | nil => unfold cF at h; cases h; exact ok_ifs0
  | cons e r =>
  cases r with
  | nil =>
    unfold cF at h
    dsimp only at h
    split at h
    · rename_i ht
      cases e1 : cE c n e with
      | none => rw [e1] at h; cases h
      | some q => rw [e1] at h; cases h; exact ok_ifs1 (ih.t c X W C tk e q e1 n ht)
    · cases h
  | cons _ _ => unfold cF at h; cases h
theorem map_some {α β : Type} {f : α → β} {o : Option α} {b : β} (h : o.map f = some b) : ∃ a, o = some a ∧ b = f a := by
  cases o with
  | none => cases h
  | some a => cases h; exact ⟨a, rfl, rfl⟩
theorem ofI {n : Nat} (ih : Snd F RX Φ n) {W : WX} (C : CtxOk X RX Φ c) (tk : Takes X W) {tg e : Expr} {p : DL.It F} (h : (cE c n e).map DL.It.of = some p) : PI X tg e (tI X.K RX W (evI Φ p)) := by
  obtain ⟨q, e1, rfl⟩ := map_some h
  exact ok_iof C.units (ih.e c X W C tk e q e1)
theorem snd_i {n : Nat} (ih : Snd F RX Φ n) {W : WX} (C : CtxOk X RX Φ c) (tk : Takes X W) {tg e : Expr} {p : DL.It F} (h : cI c (n + 1) tg e = some p) : PI X tg e (tI X.K RX W (evI Φ p)) := by
  unfold cI at h
  split at h
  · rename_i x px args kp
    split at h
    · rename_i hg
      rw [Bool.and_eq_true, Bool.and_eq_true] at hg
      obtain ⟨⟨h1, h2⟩, h3⟩ := hg
      have hx : x = "range" := sEq_eq h1
      split at h
      · rename_i a
        split at h
        · rename_i hn
          obtain ⟨q, e1, rfl⟩ := map_some h
          exact ok_rng1 hx (C.gl h2) (C.frs x h3) (ih.e c X W C tk a q e1) hn
        · cases h
      · rename_i a b
        split at h
        · rename_i hn
          rw [Bool.and_eq_true] at hn
          split at h
          · rename_i q r e1 e2
            cases h
            exact ok_rng2 hx (C.gl h2) (C.frs x h3) (ih.e c X W C tk a q e1) (ih.e c X W C tk b r e2) hn.1 hn.2
          · cases h
        · cases h
      · rename_i a b d
        split at h
        · rename_i hn
          rw [Bool.and_eq_true, Bool.and_eq_true] at hn
          split at h
          · rename_i q r t e1 e2 e3
            cases h
            exact ok_rng3 hx (C.gl h2) (C.frs x h3) (ih.e c X W C tk a q e1) (ih.e c X W C tk b r e2) (ih.e c X W C tk d t e3) hn.1.1 hn.1.2 hn.2
          · cases h
        · cases h
      · cases h
    · split at h
      · rename_i hg
        rw [Bool.and_eq_true, Bool.and_eq_true] at hg
        obtain ⟨⟨h1, h2⟩, h3⟩ := hg
        have hx : x = "enumerate" := sEq_eq h1
        split at h
        · rename_i ts k tp a
          split at h
          · rename_i hn
            obtain ⟨q, e1, rfl⟩ := map_some h
            exact ok_enum hx (C.gl h2) (C.frs x h3) (ih.e c X W C tk a q e1) hn
          · cases h
        · cases h
      · split at h
        · rename_i hg
          rw [Bool.and_eq_true, Bool.and_eq_true] at hg
          obtain ⟨⟨h1, h2⟩, h3⟩ := hg
          have hx : x = "zip" := sEq_eq h1
          split at h
          · rename_i ts k tp a b
            split at h
            · rename_i hn
              rw [Bool.and_eq_true] at hn
              split at h
              · rename_i q r e1 e2
                cases h
                exact ok_zip hx (C.gl h2) (C.frs x h3) (ih.e c X W C tk a q e1) (ih.e c X W C tk b r e2) hn.1 hn.2
              · cases h
            · cases h
          · cases h
        · exact ofI ih C tk h
  · exact ofI ih C tk h
theorem snd_c {n : Nat} (ih : Snd F RX Φ n) {W : WX} (C : CtxOk X RX Φ c) (tk : Takes X W) {f : Expr} {args : List Expr} {pos : Pos} {p : PX F} (h : cC c (n + 1) f args pos = some p) : PE X (.Call f args [] pos) (tX X.K RX W (ev Φ p)) := by
  unfold cC at h
  split at h
  · rename_i x px
    split at h
    · rename_i hg
      rw [Bool.and_eq_true] at hg
      obtain ⟨hg, hd⟩ := hg
      have gx := C.gl hg
      split at h
      · rename_i i ks e1
        split at h
        · rename_i hs
          obtain ⟨q, e2, rfl⟩ := map_some h
          obtain ⟨k, fa, fd, ps, h1, h2, h3, h4, h5⟩ := C.fns x i ks e1
          have ha := ih.es c X W C tk ks args q e2 hs
          cases args with
          | nil =>
            have : q = .nil := by
              cases n with
              | zero => cases e2
              | succ n => unfold cEs at e2; cases e2; rfl
            subst this
            exact ok_call0 tk h1 h2 gx h3 h4 h5 (noDbg_1 hd).1
          | cons a r => exact ok_call tk h1 h2 gx h3 h4 h5 hs (noDbg_1 hd).1 ha
        · cases h
      · split at h
        · rename_i hf
          have mx := C.frs x hf
          split at h
          · rename_i b hb
            split at h
            · rename_i hs
              rw [Bool.and_eq_true] at hs
              obtain ⟨q, e2, rfl⟩ := map_some h
              have ha := ih.es c X W C tk [] args q e2 hs.1
              cases args with
              | nil => cases hs.2
              | cons a r => exact ok_blt (biOf_nm hb) C.calm C.units gx mx hs.1 ha
            · cases h
          · split at h
            · rename_i hi
              have hx : x = "isinstance" := sEq_eq hi
              split at h
              · rename_i e y py
                split at h
                · rename_i t q e1 e2
                  split at h
                  · rename_i hc
                    cases h
                    rw [Bool.and_eq_true, Bool.and_eq_true] at hc
                    exact ok_isi hx (tyOf_nm e1) gx mx (C.gl hc.1.1) (C.frs y hc.1.2) hc.2 (ih.e c X W C tk e q e2)
                  · cases h
                · cases h
              · rename_i e y1 p1 y2 p2 k pt
                split at h
                · rename_i t1 t2 q e1 e2 e3
                  split at h
                  · rename_i hc
                    cases h
                    rw [Bool.and_eq_true, Bool.and_eq_true, Bool.and_eq_true, Bool.and_eq_true] at hc
                    obtain ⟨⟨⟨⟨a1, a2⟩, a3⟩, a4⟩, a5⟩ := hc
                    exact ok_isi2 hx (tyOf_nm e1) (tyOf_nm e2) gx mx (C.gl a1) (C.frs y1 a2) (C.gl a3) (C.frs y2 a4) a5 (ih.e c X W C tk e q e3)
                  · cases h
                · cases h
              · cases h
            · cases h
        · cases h
    · cases h
  · rename_i o m apos
    split at h
    · rename_i hc
      rw [Bool.and_eq_true] at hc
      split at h
      · split at h
        · rename_i hm
          obtain ⟨q, e1, rfl⟩ := map_some h
          have hm := sEq_eq hm
          subst hm
          exact ok_pop (ih.e c X W C tk o q e1) hc.1 hc.2
        · cases h
      · rename_i e
        split at h
        · rename_i hn
          split at h
          · rename_i q r e1 e2
            have ho := ih.e c X W C tk o q e1
            have he := ih.e c X W C tk e r e2
            split at h
            · rename_i hm
              have hm := sEq_eq hm
              subst hm
              cases h
              exact ok_app ho he hn hc.1 hc.2
            · split at h
              · rename_i hm
                have hm := sEq_eq hm
                subst hm
                cases h
                exact ok_join ho he hn hc.1 hc.2
              · split at h
                · rename_i hm
                  have hm := sEq_eq hm
                  subst hm
                  cases h
                  exact ok_split ho he hn hc.1 hc.2
                · split at h
                  · rename_i hm
                    have hm := sEq_eq hm
                    subst hm
                    cases h
                    exact ok_midx ho he hn hc.1 hc.2
                  · split at h
                    · rename_i hm
                      have hm := sEq_eq hm
                      subst hm
                      cases h
                      exact ok_get1 C.units ho he (m1_of hn hc.1 hc.2)
                    · cases h
          · cases h
        · cases h
      · rename_i e f
        split at h
        · rename_i hn
          rw [Bool.and_eq_true, Bool.and_eq_true] at hn
          split at h
          · rename_i q r t e1 e2 e3
            have hm := sEq_eq hn.2
            subst hm
            cases h
            exact ok_get2 C.units (ih.e c X W C tk o q e1) (ih.e c X W C tk e r e2) (ih.e c X W C tk f t e3) (m2_of hn.1.1 hn.1.2 hc.1 hc.2)
          · cases h
        · cases h
      · cases h
    · cases h
  · cases h
end
end DL
end
section
set_option Elab.async false
set_option linter.all false
set_option maxRecDepth 100000
set_option autoImplicit false
set_option maxHeartbeats 4000000
/-! DLp: what is compiled is sound: all forms, statements. -/
namespace DL
open PySem PySem.Spec PyProof.Rows L2
variable [Wd]
section
variable {F : Type} {X : Cx} {RX : RXT} {Φ : F → List Val → Store → R Val} {c : CE F}
theorem snd_e {n : Nat} (ih : Snd F RX Φ n) {W : WX} (C : CtxOk X RX Φ c) (tk : Takes X W) {e : Expr} {p : PX F} (h : cE c (n + 1) e = some p) : PE X e (tX X.K RX W (ev Φ p)) := by
  cases e with
  | Constant k j pos =>
    unfold cE at h
    dsimp only at h
    cases k with
    | none => cases h; exact ok_const .non pe_non fun _ _ => .non
    | bool b => cases h; exact ok_const (.bl b) pe_bl fun _ _ => .bl b
    | int i => cases h; exact ok_const (.int i) pe_int fun _ _ => .int i
    | str s => cases h; exact ok_const (.str s) pe_str fun _ _ => .str s
    | _ => cases h
  | Name x pos =>
    unfold cE at h
    dsimp only at h
    split at h
    · rename_i hd
      obtain ⟨d1, d2⟩ := noDbg_1 hd
      split at h
      · rename_i hv
        obtain ⟨i, e1, rfl⟩ := map_some h
        exact ok_loc (pe_var (C.get e1) (C.vis hv) d1 d2)
      · split at h
        · rename_i hg
          obtain ⟨d, e1, rfl⟩ := map_some h
          obtain ⟨u, v, h1, h2, h3⟩ := C.css x d e1
          exact ok_lit (pe_glob (C.gl hg) h1 h2 d1) fun σ H Q q => q v fun Lv => h3 H Lv
        · cases h
    · cases h
  | Tuple es k pos =>
    unfold cE at h
    dsimp only at h
    split at h
    · rename_i hs
      obtain ⟨q, e1, rfl⟩ := map_some h
      exact ok_tup (ih.es c X W C tk [] es q e1 hs)
    · cases h
  | List es pos =>
    unfold cE at h
    dsimp only at h
    split at h
    · rename_i hs
      obtain ⟨q, e1, rfl⟩ := map_some h
      exact ok_lst (ih.es c X W C tk [] es q e1 hs)
    · cases h
  | BinOp a op b pos =>
    unfold cE at h
    dsimp only at h
    split at h
    · rename_i o q r e1 e2 e3
      cases h
      rw [opOf_py e1]
      exact ok_bin (ih.e c X W C tk a q e2) (ih.e c X W C tk b r e3)
    · cases h
  | UnaryOp op a pos =>
    unfold cE at h
    dsimp only at h
    split at h
    · rename_i q e1
      cases h
      exact ok_neg (ih.e c X W C tk a q e1)
    · rename_i q e1
      cases h
      exact ok_not (ih.e c X W C tk a q e1)
    · cases h
  | BoolOp op vs pos =>
    unfold cE at h
    dsimp only at h
    exact ih.b c X W C tk op vs p pos h
  | Compare a ops es pos =>
    unfold cE at h
    dsimp only at h
    split at h
    · rename_i o b
      split at h
      · rename_i k q r e1 e2 e3
        split at h
        · cases h
        · rename_i hm
          cases h
          have hm := Bool.eq_false_iff.mpr hm
          have e := cmOf_py e1
          subst e
          exact ok_cmp C.units (ih.e c X W C tk a q e2) (ih.e c X W C tk b r e3) hm
      · cases h
    · rename_i o o' b e
      split at h
      · rename_i k k' q r s e1 e2 e3 e4 e5
        split at h
        · cases h
        · rename_i hm
          cases h
          have hm := Bool.eq_false_iff.mpr hm
          have e := cmOf_py e1
          subst e
          have e := cmOf_py e2
          subst e
          exact ok_chain C.units (ih.e c X W C tk a q e3) (ih.e c X W C tk b r e4) (ih.e c X W C tk _ s e5) fun h1 h2 => pe_chain h1 h2 (ih.e c X W C tk a q e3) (ih.e c X W C tk b r e4) (ih.e c X W C tk _ s e5) hm
      · cases h
    · cases h
  | IfExp t a b pos =>
    unfold cE at h
    dsimp only at h
    split at h
    · rename_i ht
      split at h
      · rename_i q r s e1 e2 e3
        cases h
        exact ok_ite (ih.t c X W C tk t q e1 n ht) (ih.e c X W C tk a r e2) (ih.e c X W C tk b s e3)
      · cases h
    · cases h
  | Subscript a s pos =>
    unfold cE at h
    dsimp only at h
    split at h
    · rename_i lo hi st p2
      split at h
      · split at h
        · rename_i q r t e1 e2 e3
          cases h
          exact ok_sli (ih.e c X W C tk a q e1) (ih.o c X W C tk lo r e2) (ih.o c X W C tk hi t e3)
        · cases h
      · split at h
        · obtain ⟨q, e1, rfl⟩ := map_some h
          exact ok_rev (ih.e c X W C tk a q e1)
        · cases h
      · cases h
    · split at h
      · rename_i q r e1 e2
        split at h
        · rename_i hp
          cases h
          exact ok_idx C.units (ih.e c X W C tk a q e1) (ih.e c X W C tk s r e2) (plainIx_ok hp)
        · cases h
      · cases h
  | Call f args kws pos =>
    unfold cE at h
    dsimp only at h
    split at h
    · exact ih.c c X W C tk f args pos p h
    · cases h
  | ListComp elt gs scope pos =>
    unfold cE at h
    dsimp only at h
    split at h
    · rename_i tg iter ifs a
      split at h
      · rename_i hc
        rw [Bool.and_eq_true, Bool.and_eq_true] at hc
        obtain ⟨⟨h1, h2⟩, h3⟩ := hc
        have h1 := eq_of_beq h1
        subst h1
        split at h
        · rename_i t i q r e1 e2 e3 e4
          split at h
          · rename_i ho
            cases h
            rw [List.all_eq_true] at ho
            have ok : BlkOk X.N X.env.scope scope (ownOf c.N scope.names) := by
              rw [C.N, C.sc]
              exact blkOk_by h3
            refine ok_comp C.calm C.ndX (ih.i c X W C tk tg iter i e2) ok (fun j hj => List.contains_iff_mem.mp (ho j hj)) (fun s H A cl fp => tg_ok (C.block s H A cl fp) e1) (fun s H A cl fp => ih.f (c.block scope) _ W0 (C.block s H A cl fp) takes0 ifs q e3)
              (fun s H A cl fp => ih.e (c.block scope) _ W0 (C.block s H A cl fp) takes0 elt r e4) h2
          · cases h
        · cases h
      · cases h
    · rename_i tg iter a tg2 iter2 ifs2 a2
      split at h
      · rename_i hc
        simp only [Bool.and_eq_true] at hc
        obtain ⟨⟨⟨⟨h1, h1'⟩, h2⟩, h2'⟩, h3⟩ := hc
        have h1 := eq_of_beq h1
        subst h1
        have h1' := eq_of_beq h1'
        subst h1'
        split at h
        · rename_i t i t2 i2 q r e1 e2 e3 e4 e5 e6
          split at h
          · rename_i ho
            cases h
            rw [Bool.and_eq_true, List.all_eq_true, List.all_eq_true] at ho
            have ok : BlkOk X.N X.env.scope scope (ownOf c.N scope.names) := by
              rw [C.N, C.sc]
              exact blkOk_by h3
            exact ok_comp2 C.calm C.ndX (ih.i c X W C tk tg iter i e2) ok (fun j hj => List.contains_iff_mem.mp (ho.1 j hj)) (fun j hj => List.contains_iff_mem.mp (ho.2 j hj)) (fun s H A cl fp => tg_ok (C.block s H A cl fp) e1)
              (fun s H A cl fp => ih.i (c.block scope) _ W0 (C.block s H A cl fp) takes0 tg2 iter2 i2 e4) (fun s H A cl fp => tg_ok (C.block s H A cl fp) e3) (fun s H A cl fp => ih.f (c.block scope) _ W0 (C.block s H A cl fp) takes0 ifs2 q e5)
              (fun s H A cl fp => ih.e (c.block scope) _ W0 (C.block s H A cl fp) takes0 elt r e6) h2 h2'
          · cases h
        · cases h
      · cases h
    · cases h
  | Dict ks vs pos =>
    unfold cE at h
    dsimp only at h
    split at h
    · cases h; exact ok_dsp0
    · rename_i hne
      split at h
      · rename_i h15
        obtain ⟨q, e1, rfl⟩ := map_some h
        obtain ⟨trs, h1, h2, h3, h4⟩ := ih.ps c X W C tk ks vs q pos e1
        refine ok_dsp C.units h1 h2 h3 h4 (fun e => ?_) (of_decide_eq_true h15)
        subst e
        cases vs with
        | nil => exact hne rfl rfl
        | cons _ _ => cases h4
      · cases h
  | _ => unfold cE at h; cases h
theorem snd_t {n : Nat} (ih : Snd F RX Φ n) {W : WX} (C : CtxOk X RX Φ c) (tk : Takes X W) {e : Expr} {p : PX F} (h : cE c (n + 1) e = some p) {k : Nat} (ht : tst k e = true) : PT X e (tT X.K RX W (evT Φ p)) := by
  have pe := snd_e ih C tk h
  cases k with
  | zero => cases ht
  | succ k =>
  cases e with
  | IfExp t a b pos => cases ht
  | UnaryOp op a pos =>
    cases op with
    | Not =>
      have ht : tst k a = true := ht
      unfold cE at h
      dsimp only at h
      cases e1 : cE c n a with
      | none => rw [e1] at h; cases h
      | some q =>
        rw [e1] at h
        cases h
        exact ok_notT (ih.t c X W C tk a q e1 k ht)
    | _ => exact ok_truth pe fun _ => rfl
  | BoolOp op vs pos =>
    have ht : vs.all (tst k) = true := ht
    unfold cE at h
    exact (ih.w c X W C tk op vs p pos h k ht).pt
  | Compare a ops es pos =>
    unfold cE at h
    dsimp only at h
    split at h
    · rename_i o b
      split at h
      · rename_i kk q r e1 e2 e3
        split at h
        · cases h
        · rename_i hm
          cases h
          have hm := Bool.eq_false_iff.mpr hm
          have e := cmOf_py e1
          subst e
          exact ok_cmpT C.units (ih.e c X W C tk a q e2) (ih.e c X W C tk b r e3) hm
      · cases h
    · rename_i o o' b e
      split at h
      · rename_i kk kk' q r s e1 e2 e3 e4 e5
        split at h
        · cases h
        · rename_i hm
          cases h
          have hm := Bool.eq_false_iff.mpr hm
          have e := cmOf_py e1
          subst e
          have e := cmOf_py e2
          subst e
          exact ok_chainT C.units (ih.e c X W C tk a q e3) (ih.e c X W C tk b r e4) (ih.e c X W C tk _ s e5) hm
      · cases h
    · cases h
  | _ => exact ok_truth pe fun _ => rfl
theorem snd_all : ∀ n, Snd F RX Φ n
  | 0 => ⟨fun _ _ _ _ _ _ _ h => (by unfold cE at h; cases h), fun _ _ _ _ _ _ _ h => (by unfold cE at h; cases h), fun _ _ _ _ _ _ _ _ h => (by unfold cEs at h; cases h), fun _ _ _ _ _ _ _ _ _ h => (by unfold cB at h; cases h), fun _ _ _ _ _ _ _ _ _ h => (by unfold cB at h; cases h),
    fun _ _ _ _ _ _ _ h => (by unfold cO at h; cases h), fun _ _ _ _ _ _ _ h => (by unfold cF at h; cases h), fun _ _ _ _ _ _ _ _ _ h => (by unfold cC at h; cases h), fun _ _ _ _ _ _ _ _ h => (by unfold cI at h; cases h), fun _ _ _ _ _ _ _ _ _ h => (by unfold cPs at h; cases h)⟩
  | n + 1 =>
    have ih := snd_all n
    ⟨fun _ _ _ C tk _ _ h => snd_e ih C tk h, fun _ _ _ C tk _ _ h _ ht => snd_t ih C tk h ht, fun _ _ _ C tk _ _ _ h hs => snd_es ih C tk h hs, fun _ _ _ C tk _ _ _ _ h => snd_b ih C tk h, fun _ _ _ C tk _ _ _ _ h _ ht => snd_w ih C tk h ht, fun _ _ _ C tk _ _ h => snd_o ih C tk h, fun _ _ _ C tk _ _ h => snd_f ih C tk h, fun _ _ _ C tk _ _ _ _ h => snd_c ih C tk h, fun _ _ _ C tk _ _ _ h => snd_i ih C tk h, fun _ _ _ C tk _ _ _ _ h => snd_ps ih C tk h⟩
end
end DL
end
section
set_option Elab.async false
set_option linter.all false
set_option maxRecDepth 100000
set_option autoImplicit false
set_option maxHeartbeats 4000000
/-! DLq: what is compiled is sound: statements, a def. -/
namespace DL
open PySem PySem.Spec PyProof.Rows L2
variable [Wd]
theorem star_any2 {vs : List Expr} (h : vs.all noStar = true) : (vs.any fun | .Starred .. => true | _ => false) = false := by
  induction vs with
  | nil => rfl
  | cons e es ih =>
    rw [List.all_cons, Bool.and_eq_true] at h
    rw [List.any_cons, ih h.2]
    cases e <;> first | rfl | (exact absurd h.1 (by simp [noStar]))
theorem swap_core {ts vs : List Expr} {kt k2 : Nat} {pt pt2 : Pos} {env : PySem.Env} {xs : List Str} {p : Pos} (hk : env.blockKind = .function) (hn : ts.length = 2 ∨ ts.length = 3) (hv : vs.length = ts.length) (hp : (ts.head?.map (·.pos.line)).getD 0 = p.line)
    (e1 : (ts.filterMap fun
    | .Name id pos => if env.kindOf id == some .local && pos.line == p.line then some id else none
    | _ => none) = xs) (e2 : xs.eraseDups = xs) (e3 : xs.length = ts.length)
    (hs : vs.all noStar = true) (hf : vs.all (foldedForSure 8) = false) (hc : vs.all (constantsAlone 8) = false) : swappedStores [.Tuple ts kt pt] (.Tuple vs k2 pt2) env = pure (some xs) := by
  have s := star_any2 hs
  have c1 : (!(ts.length == 2 || ts.length == 3) || vs.length != ts.length || env.blockKind != .function) = false := by
    rw [hk, hv]
    rcases hn with h | h <;> rw [h] <;> decide
  unfold swappedStores
  show (if _ then _ else _) = _
  rw [if_neg (fun h => Bool.noConfusion (h.symm.trans c1))]
  show (if _ then _ else _) = _
  rw [if_neg (fun h => Bool.noConfusion (h.symm.trans s))]
  show (if (List.filterMap _ ts).length != ts.length || (List.filterMap _ ts).eraseDups.length != (List.filterMap _ ts).length then _ else _) = _
  rw [hp]
  generalize hL : List.filterMap _ ts = Ls
  have e : Ls = xs := by rw [← hL]; exact e1
  subst e
  rw [e2, if_neg (by rw [e3]; simp), if_neg (by rw [hf]; decide), if_neg (by rw [hc]; decide)]
theorem swap2 {x y : Str} {px py pt pt2 : Pos} {kt k2 : Nat} {a b : Expr} {env : PySem.Env} (hk : env.blockKind = .function) (hx : env.kindOf x = some .local) (hy : env.kindOf y = some .local) (hl : (px.line == py.line) = true) (hne : sEq x y = false)
    (hs : [a, b].all noStar = true) (hf : [a, b].all (foldedForSure 8) = false) (hc : [a, b].all (constantsAlone 8) = false) : swappedStores [.Tuple [.Name x px, .Name y py] kt pt] (.Tuple [a, b] k2 pt2) env = pure (some [x, y]) := by
  have hl := eq_of_beq hl
  have h1 : (y == x) = false := beq_eq_false_iff_ne.mpr (Ne.symm (sEq_ne hne))
  refine swap_core (p := px) hk (.inl rfl) rfl rfl ?_ ?_ rfl hs hf hc
  · simp [List.filterMap_cons, hx, hy, hl]
  · simp [List.eraseDups_cons, h1]
theorem swap3 {x y z : Str} {px py pz pt pt2 : Pos} {kt k2 : Nat} {a b d : Expr} {env : PySem.Env} (hk : env.blockKind = .function) (hx : env.kindOf x = some .local) (hy : env.kindOf y = some .local) (hz : env.kindOf z = some .local) (hl : (px.line == py.line) = true) (hl2 : (px.line == pz.line) = true)
    (n1 : sEq x y = false) (n2 : sEq x z = false) (n3 : sEq y z = false)
    (hs : [a, b, d].all noStar = true) (hf : [a, b, d].all (foldedForSure 8) = false) (hc : [a, b, d].all (constantsAlone 8) = false) : swappedStores [.Tuple [.Name x px, .Name y py, .Name z pz] kt pt] (.Tuple [a, b, d] k2 pt2) env = pure (some [x, y, z]) := by
  have hl := eq_of_beq hl
  have hl2 := eq_of_beq hl2
  have h1 : (y == x) = false := beq_eq_false_iff_ne.mpr (Ne.symm (sEq_ne n1))
  have h2 : (z == x) = false := beq_eq_false_iff_ne.mpr (Ne.symm (sEq_ne n2))
  have h3 : (z == y) = false := beq_eq_false_iff_ne.mpr (Ne.symm (sEq_ne n3))
  refine swap_core (p := px) hk (.inr rfl) rfl rfl ?_ ?_ rfl hs hf hc
  · simp [List.filterMap_cons, hx, hy, hz, ← hl, ← hl2]
  · simp [List.eraseDups_cons, h1, h2, h3]
theorem lkS_eq {α : Type} {x : Str} : ∀ l : List (Str × α), lkS l x = l.lookup x
  | [] => rfl
  | (y, b) :: r => by
    unfold lkS
    rw [List.lookup_cons]
    cases e : sEq x y with
    | true => rw [if_pos rfl, sEq_eq e, beq_self_eq_true]
    | false => rw [if_neg Bool.false_ne_true, sEq_beq e, lkS_eq r]
theorem swapF {ts vs : List Expr} {kt k2 : Nat} {pt pt2 : Pos} {env : PySem.Env} (hf : vs.all (foldedForSure 8) = true) : swappedStores [.Tuple ts kt pt] (.Tuple vs k2 pt2) env = pure none := by
  unfold swappedStores
  show (if _ then _ else _) = _
  split
  · rfl
  show (if _ then _ else _) = _
  split
  · rfl
  show (if _ then _ else _) = _
  split
  · rfl
  first
    | rfl
    | exact if_pos hf
theorem fm_len {α β : Type} {f : α → Option β} : ∀ {l : List α}, (l.filterMap f).length ≤ l.length
  | [] => Nat.le_refl _
  | x :: l => by
    rw [List.filterMap_cons]
    have := fm_len (f := f) (l := l)
    cases f x with
    | none => exact Nat.le_succ_of_le this
    | some y => exact Nat.succ_le_succ this
theorem fm_lt {α β : Type} {f : α → Option β} {p : α → Bool} (hp : ∀ x, p x = true → f x = none) : ∀ {l : List α}, l.any p = true → (l.filterMap f).length < l.length
  | [], h => by cases h
  | x :: l, h => by
    rw [List.any_cons, Bool.or_eq_true] at h
    rw [List.filterMap_cons]
    have le := fm_len (f := f) (l := l)
    rcases h with h | h
    · rw [hp x h]
      exact Nat.lt_succ_of_le le
    · have := fm_lt hp h
      cases f x with
      | none => exact Nat.lt_succ_of_le le
      | some y => exact Nat.succ_lt_succ this
theorem swapL {F : Type} {c : CE F} {ts vs : List Expr} {kt k2 : Nat} {pt pt2 : Pos} {env : PySem.Env} (he : ∀ x, c.lcl x = false → env.kindOf x ≠ some .local) (hf : ts.any (nonLcl c) = true) : swappedStores [.Tuple ts kt pt] (.Tuple vs k2 pt2) env = pure none := by
  unfold swappedStores
  show (if _ then _ else _) = _
  split
  · rfl
  show (if _ then _ else _) = _
  split
  · rfl
  show (if (List.filterMap _ ts).length != ts.length || (List.filterMap _ ts).eraseDups.length != (List.filterMap _ ts).length then _ else _) = _
  refine if_pos ?_
  rw [Bool.or_eq_true]
  refine .inl (bne_iff_ne.mpr (Nat.ne_of_lt (fm_lt (p := nonLcl c) (fun x hx => ?_) hf)))
  cases x with
  | Name y p =>
    have hy : c.lcl y = false := by
      have : (!c.lcl y) = true := hx
      simpa using this
    have := he y hy
    show (if (env.kindOf y == some .local && _) = true then some y else none) = none
    rw [if_neg]
    rw [Bool.and_eq_true]
    exact fun h => this (eq_of_beq h.1)
  | _ => rfl
theorem sw_gen {elt : Expr} {gs : List Comprehension} {scope : Scope} {pos py : Pos} {y : Str} {l : Nat} {env : PySem.Env} :
    swapsWith (.ListComp elt gs scope pos) (some (.Name y py)) l env = pure (env.blockKind == .function && env.kindOf y == some .local && py.line == pos.line && !(scope.names.any fun (n, k) => n == y && (k == .local || k == .cell))) := rfl
theorem swap0 {ts : List Expr} {kt : Nat} {pt : Pos} {e : Expr} {env : PySem.Env} (h : noTup e = true) : swappedStores [.Tuple ts kt pt] e env = pure none := by
  cases e <;> first | rfl | cases h
end DL
end
section
set_option Elab.async false
set_option linter.all false
set_option maxRecDepth 100000
set_option autoImplicit false
set_option maxHeartbeats 4000000
/-! DLr: what is compiled is sound: statements, defs. -/
namespace DL
open PySem PySem.Spec PyProof.Rows L2
variable [Wd]
section
variable {F : Type} {X : Cx} {RX : RXT} {Φ : F → List Val → Store → R Val} {c : CE F} {L : Nat}
theorem lc_parts {n : Nat} {elt : Expr} {gs : List Comprehension} {scope : Scope} {pos : Pos} {p : PX F} (h : cE c (n + 1) (.ListComp elt gs scope pos) = some p) :
    (∃ tg iter ifs t i q r, gs = [⟨tg, iter, ifs, 0⟩] ∧ noSet iter = true ∧ blkC c.N c.sc scope (ownOf c.N scope.names) = true ∧ cTg (c.block scope) tg = some t ∧ cI c n tg iter = some i ∧ cF (c.block scope) n ifs = some q ∧ cE (c.block scope) n elt = some r ∧
      (∀ j ∈ t.ns, j ∈ (ownOf c.N scope.names).map (·.2)) ∧ p = .comp r t i q ((ownOf c.N scope.names).map (·.2))) ∨
    (∃ tg iter tg2 iter2 ifs2 t i t2 i2 q r, gs = [⟨tg, iter, [], 0⟩, ⟨tg2, iter2, ifs2, 0⟩] ∧ noSet iter = true ∧ noSet iter2 = true ∧ blkC c.N c.sc scope (ownOf c.N scope.names) = true ∧ cTg (c.block scope) tg = some t ∧ cI c n tg iter = some i ∧ cTg (c.block scope) tg2 = some t2 ∧ cI (c.block scope) n tg2 iter2 = some i2 ∧
      cF (c.block scope) n ifs2 = some q ∧ cE (c.block scope) n elt = some r ∧ (∀ j ∈ t.ns, j ∈ (ownOf c.N scope.names).map (·.2)) ∧ (∀ j ∈ t2.ns, j ∈ (ownOf c.N scope.names).map (·.2)) ∧ p = .comp2 r t i t2 i2 q ((ownOf c.N scope.names).map (·.2)) t2.ns) := by
  unfold cE at h
  dsimp only at h
  split at h
  · rename_i tg iter ifs a
    split at h
    · rename_i hc
      rw [Bool.and_eq_true, Bool.and_eq_true] at hc
      obtain ⟨⟨h1, h2⟩, h3⟩ := hc
      have h1 := eq_of_beq h1
      subst h1
      split at h
      · rename_i t i q r e1 e2 e3 e4
        split at h
        · rename_i ho
          cases h
          rw [List.all_eq_true] at ho
          exact .inl ⟨tg, iter, ifs, t, i, q, r, rfl, h2, h3, e1, e2, e3, e4, fun j hj => List.contains_iff_mem.mp (ho j hj), rfl⟩
        · cases h
      · cases h
    · cases h
  · rename_i tg iter a tg2 iter2 ifs2 a2
    split at h
    · rename_i hc
      simp only [Bool.and_eq_true] at hc
      obtain ⟨⟨⟨⟨h1, h1'⟩, h2⟩, h2'⟩, h3⟩ := hc
      have h1 := eq_of_beq h1
      subst h1
      have h1' := eq_of_beq h1'
      subst h1'
      split at h
      · rename_i t i t2 i2 q r e1 e2 e3 e4 e5 e6
        split at h
        · rename_i ho
          cases h
          rw [Bool.and_eq_true, List.all_eq_true, List.all_eq_true] at ho
          exact .inr ⟨tg, iter, tg2, iter2, ifs2, t, i, t2, i2, q, r, rfl, h2, h2', h3, e1, e2, e3, e4, e5, e6, fun j hj => List.contains_iff_mem.mp (ho.1 j hj), fun j hj => List.contains_iff_mem.mp (ho.2 j hj), rfl⟩
        · cases h
      · cases h
    · cases h
  · cases h
structure SndS (F : Type) (RX : RXT) (Φ : F → List Val → Store → R Val) (L : Nat) (n : Nat) : Prop where
  s : ∀ (c : CE F) (X : Cx) (W : WX), CtxOk X RX Φ c → Takes X W → PassesOwn (model X.prog X.w) X.A X.env X.xe → c.sc.kind = .function → ∀ e p, cS c n e = some p → L2.PS X e (tS X.K RX W (evS Φ L p))
  ss : ∀ (c : CE F) (X : Cx) (W : WX), CtxOk X RX Φ c → Takes X W → PassesOwn (model X.prog X.w) X.A X.env X.xe → c.sc.kind = .function → ∀ e p, cSs c n e = some p → L2.PSs X e (tS X.K RX W (evSs Φ L p))
theorem snd_s {n : Nat} (ih : SndS F RX Φ L n) {W : WX} (C : CtxOk X RX Φ c) (tk : Takes X W) (hp : PassesOwn (model X.prog X.w) X.A X.env X.xe) (hk : c.sc.kind = .function) {e : Stmt} {p : PS F} (h : cS c (n + 1) e = some p) : L2.PS X e (tS X.K RX W (evS Φ L p)) := by
  have E := snd_all (F := F) (RX := RX) (Φ := Φ) n
  have bk : X.env.blockKind = .function := by
    unfold PySem.Env.blockKind
    rw [C.sc, hk]
    rfl
  cases e with
  | Pass pos => unfold cS at h; cases h; exact ok_pass
  | Raise a b pos =>
    unfold cS at h
    cases h
    exact PS.imp ps_never fun Dn σ H ⟨ρ, m, ι, en, st, h⟩ => h
  | Expr e pos =>
    unfold cS at h
    dsimp only at h
    split at h
    · cases h; exact ok_doc
    · split at h
      · rename_i hn
        obtain ⟨q, e1, rfl⟩ := map_some h
        exact ok_expr (E.e c X W C tk _ q e1) hn
      · cases h
  | Return o pos =>
    unfold cS at h
    dsimp only at h
    split at h
    · cases h; exact ok_ret0
    · obtain ⟨q, e1, rfl⟩ := map_some h
      exact ok_ret (E.e c X W C tk _ q e1)
  | If t a b pos =>
    unfold cS at h
    dsimp only at h
    split at h
    · rename_i ht
      split at h
      · rename_i q r s e1 e2 e3
        cases h
        exact ok_if (E.t c X W C tk t q e1 n ht) (ih.ss c X W C tk hp hk a r e2) (ih.ss c X W C tk hp hk b s e3)
      · cases h
    · cases h
  | While t a b pos =>
    unfold cS at h
    dsimp only at h
    split at h
    · split at h
      · rename_i ht
        split at h
        · rename_i q r e1 e2
          cases h
          exact ok_whl hp (E.t c X W C tk t q e1 n ht) (ih.ss c X W C tk hp hk a r e2)
        · cases h
      · cases h
    · cases h
  | For tg iter a b pos =>
    unfold cS at h
    dsimp only at h
    split at h
    · split at h
      · rename_i hs
        split at h
        · rename_i t i q e1 e2 e3
          cases h
          exact ok_for hp C.calm (E.i c X W C tk tg iter i e2) (tg_ok C e1) (ih.ss c X W C tk hp hk a q e3) hs
        · cases h
      · cases h
    · cases h
  | AugAssign tg op e pos =>
    unfold cS at h
    dsimp only at h
    split at h
    · rename_i x px
      split at h
      · rename_i hs
        obtain ⟨h1, h2⟩ := C.st hs
        split at h
        · rename_i i q e1 e2
          cases h
          exact ok_aug C.ndX (C.get e1) h1 h2 (E.e c X W C tk e q e2)
        · cases h
      · cases h
    · cases h
  | Assign tgs e pos =>
    unfold cS at h
    dsimp only at h
    split at h
    · rename_i x px
      split at h
      · rename_i hs
        obtain ⟨h1, h2⟩ := C.st hs
        split at h
        · rename_i i q e1 e2
          split at h
          · rename_i elt gs scope cpos
            split at h
            · rename_i hc
              cases h
              rw [Bool.and_eq_true, Bool.and_eq_true, Bool.not_eq_true'] at hc
              obtain ⟨⟨a1, a2⟩, a3⟩ := hc
              cases n with
              | zero => unfold cE at e2; cases e2
              | succ n =>
                have E' := snd_all (F := F) (RX := RX) (Φ := Φ) n
                have ok : blkC c.N c.sc scope (ownOf c.N scope.names) = true → BlkOk X.N X.env.scope scope (ownOf c.N scope.names) := fun b2 => by
                  rw [C.N, C.sc]
                  exact blkOk_by b2
                rcases lc_parts e2 with ⟨tg, iter, ifs, t, it, q, r, rfl, b1, b2, b3, b4, b5, b6, b7, rfl⟩ | ⟨tg, iter, tg2, iter2, ifs2, t, it, t2, it2, q, r, rfl, b1, b1', b2, b3, b4, b3', b4', b5, b6, b7, b7', rfl⟩
                · exact ok_setLc C.calm C.ndX (C.get e1) (C.lcl a1) (sw_true (by rw [C.sc]; exact hk) (C.lcl a1) a2 a3) (E'.i c X W C tk tg iter it b4) (ok b2) b7 (fun s H A cl fp => tg_ok (C.block s H A cl fp) b3)
                    (fun s H A cl fp => E'.f (c.block scope) _ W0 (C.block s H A cl fp) takes0 ifs q b5) (fun s H A cl fp => E'.e (c.block scope) _ W0 (C.block s H A cl fp) takes0 elt r b6) b1
                · exact ok_setLc2 C.calm C.ndX (C.get e1) (C.lcl a1) (sw_true (by rw [C.sc]; exact hk) (C.lcl a1) a2 a3) (E'.i c X W C tk tg iter it b4) (ok b2) b7 b7' (fun s H A cl fp => tg_ok (C.block s H A cl fp) b3)
                    (fun s H A cl fp => E'.i (c.block scope) _ W0 (C.block s H A cl fp) takes0 tg2 iter2 it2 b4') (fun s H A cl fp => tg_ok (C.block s H A cl fp) b3') (fun s H A cl fp => E'.f (c.block scope) _ W0 (C.block s H A cl fp) takes0 ifs2 q b5)
                    (fun s H A cl fp => E'.e (c.block scope) _ W0 (C.block s H A cl fp) takes0 elt r b6) b1 b1'
            · rename_i hc
              cases h
              refine ok_set C.ndX (C.get e1) h1 h2 (E.e c X W C tk _ q e2) ?_
              rw [sw_gen]
              have hb : (X.env.blockKind == .function && X.env.kindOf x == some .local && px.line == cpos.line && !(scope.names.any fun (n, k) => n == x && (k == .local || k == .cell))) = false := by
                cases hl : c.lcl x with
                | true =>
                  rw [hl, Bool.true_and] at hc
                  have hc := Bool.eq_false_iff.mpr hc
                  rw [bk, C.lcl hl |> (fun e => (show X.env.kindOf x = some .local from e))]
                  simpa using hc
                | false =>
                  have : (X.env.kindOf x == some NameKind.local) = false := by
                    refine beq_eq_false_iff_ne.mpr fun e => ?_
                    have e : X.env.scope.names.lookup x = some .local := e
                    rw [C.sc, ← lkS_eq] at e
                    have : c.lcl x = true := by
                      unfold CE.lcl CE.kd
                      rw [e]
                    rw [this] at hl
                    cases hl
                  rw [this, Bool.and_false, Bool.false_and, Bool.false_and]
              rw [hb]
          · split at h
            · rename_i hn
              cases h
              exact ok_set C.ndX (C.get e1) h1 h2 (E.e c X W C tk e q e2) (swaps_of hn)
            · cases h
        · cases h
      · cases h
    · rename_i o i tp
      split at h
      · rename_i hc
        rw [Bool.and_eq_true] at hc
        split at h
        · rename_i q r s e1 e2 e3
          cases h
          exact ok_setI C.units (E.e c X W C tk e q e1) (E.e c X W C tk o r e2) (E.e c X W C tk i s e3) hc.1 hc.2
        · cases h
      · cases h
    · rename_i ts k pt
      split at h
      · rename_i vs k2 pt2
        split at h
        · rename_i ho
          rw [Bool.or_eq_true] at ho
          have hw : swappedStores [.Tuple ts k pt] (.Tuple vs k2 pt2) X.env = pure none := by
            rcases ho with ho | ho
            · exact swapF ho
            · refine swapL (c := c) (fun x hx e => ?_) ho
              have e : X.env.scope.names.lookup x = some .local := e
              rw [C.sc, ← lkS_eq] at e
              have : c.lcl x = true := by
                unfold CE.lcl CE.kd
                rw [e]
              rw [this] at hx
              cases hx
          split at h
          · rename_i is q e1 e2
            cases h
            exact ok_unp (E.e c X W C tk _ q e2) (tup_ok C e1) rfl hw rfl
          · cases h
        split at h
        · rename_i hc
          rw [Bool.and_eq_true, Bool.and_eq_true, Bool.not_eq_true', Bool.not_eq_true'] at hc
          obtain ⟨⟨c1, c2⟩, c3⟩ := hc
          split at h
          · rename_i x px y py a b _
            split at h
            · rename_i hx
              simp only [Bool.and_eq_true, Bool.not_eq_true'] at hx
              obtain ⟨⟨⟨x1, x2⟩, x3⟩, x4⟩ := hx
              split at h
              · rename_i i j q e1 e2 e3
                split at h
                · cases h
                · rename_i hij
                  cases h
                  have hij : i ≠ j := fun e => hij (by rw [e]; exact beq_self_eq_true _)
                  exact ok_par2 C.calm C.ndX (C.get e1) (C.get e2) hij (C.lcl x1) (C.lcl x2) (E.es c X W C tk [] [a, b] q e3 c1) (swap2 bk (C.lcl x1) (C.lcl x2) x4 x3 c1 c2 c3)
              · cases h
            · cases h
          · rename_i x px y py z pz a b d _
            split at h
            · rename_i hx
              simp only [Bool.and_eq_true, Bool.not_eq_true'] at hx
              obtain ⟨⟨⟨⟨⟨⟨⟨x1, x2⟩, x3⟩, x4⟩, x5⟩, x6⟩, x7⟩, x8⟩ := hx
              split at h
              · rename_i i j k q e1 e2 e3 e4
                split at h
                · cases h
                · rename_i hij
                  cases h
                  have h1 : i ≠ j := fun e => hij (by rw [e]; simp)
                  have h2 : i ≠ k := fun e => hij (by rw [e]; simp)
                  have h3 : j ≠ k := fun e => hij (by rw [e]; simp)
                  exact ok_par3 C.calm C.ndX (C.get e1) (C.get e2) (C.get e3) h1 h2 h3 (C.lcl x1) (C.lcl x2) (C.lcl x3) (E.es c X W C tk [] [a, b, d] q e4 c1) (swap3 bk (C.lcl x1) (C.lcl x2) (C.lcl x3) x7 x8 x4 x5 x6 c1 c2 c3)
              · cases h
            · cases h
          · cases h
        · cases h
      · rename_i hnt
        split at h
        · rename_i hn
          split at h
          · rename_i is q e1 e2
            cases h
            have nt : noTup e = true := by
              cases e <;> first | rfl | exact absurd rfl (hnt _ _ _)
            exact ok_unp (E.e c X W C tk e q e2) (tup_ok C e1) (by unfold swapsWithSole; exact swaps_of hn) (swap0 nt) rfl
          · cases h
        · cases h
    · cases h
  | _ => unfold cS at h; cases h
theorem snd_sall : ∀ n, SndS F RX Φ L n
  | 0 => ⟨fun _ _ _ _ _ _ _ _ _ h => (by unfold cS at h; cases h), fun _ _ _ _ _ _ _ _ _ h => (by unfold cSs at h; cases h)⟩
  | n + 1 =>
    have ih := snd_sall n
    ⟨fun _ _ _ C tk hp hk _ _ h => snd_s ih C tk hp hk h, fun c X W C tk hp hk es p h => by
      cases es with
      | nil => unfold cSs at h; cases h; exact ok_snil
      | cons e r =>
        unfold cSs at h
        dsimp only at h
        split at h
        · rename_i q s e1 e2
          cases h
          exact ok_scons (ih.s c X W C tk hp hk e q e1) (ih.ss c X W C tk hp hk r s e2)
        · cases h⟩
end

/-! ### a table of defs -/
/-- the module's facts for a table -/
structure Tab {F : Type} (P : Program) (w : World) (K : PySem.W.Frag) (mg : Str → Option Value) (fn : Str → Option (F × List Bool)) (cs : Str → Option D) (fr : Str → Bool) (tab : F → Fn F) : Prop where
  fns : ∀ x i ks, fn x = some (i, ks) → ∃ qual st f fd N ps m, mg x = some (.ref f) ∧ Fun K x qual st f fd ∧ FnScope N ps (defScope st) ∧ L2.Binds K fd ps [] ∧ (tab i).ps = ps.length ∧ (tab i).ns = N.length ∧
    cSs ⟨N, defScope st, fun _ => true, fn, cs, fr⟩ m (defBody st) = some (tab i).body
  css : ∀ x d, cs x = some d → ∃ u v, mg x = some u ∧ RelV v u ∧ ∀ H Lv, Rep K H Lv v d
  frs : ∀ x, fr x = true → mg x = none
  hw : w = Wd.w
section
variable {F : Type} {P : Program} {w : World} {K : PySem.W.Frag} {mg : Str → Option Value} {base : Heap} {RX : RXT} {fn : Str → Option (F × List Bool)} {cs : Str → Option D} {fr : Str → Bool} {tab : F → Fn F} {L : Nat}
theorem Tab.ok (T : Tab P w K mg fn cs fr tab) : ∀ (n : Nat) (x : Str) (i : F) (ks : List Bool), fn x = some (i, ks) → ∃ f fd ps, FnOk P w K mg base (L2.CX P w) n f fd ps (spOf K RX (callF tab L n i)) ∧ mg x = some (.ref f) ∧ PySem.W.keepIn K (.ref f) = true ∧ L2.Binds K fd ps []
  | 0, x, i, ks, h => by
    obtain ⟨qual, st, f, fd, N, ps, m, h1, h2, h3, h4, h5, h6, h7⟩ := T.fns x i ks h
    have no : ∀ vs H Q E, ¬ spOf K RX (callF tab L 0 i) vs H Q E := fun vs H Q E ⟨ws, m, ι, _, _, h⟩ => h
    exact ⟨f, fd, ps, ⟨fun vs H Q E h => (no vs H Q E h).elim, fun _ _ _ _ _ _ _ _ _ _ _ _ _ h => (no _ _ _ _ h).elim⟩, h1, h2.kp, h4⟩
  | n + 1, x, i, ks, h => by
    obtain ⟨qual, st, f, fd, N, ps, m, h1, h2, h3, h4, h5, h6, h7⟩ := T.fns x i ks h
    refine ⟨f, fd, ps, ?_, h1, h2.kp, h4⟩
    refine fn_ok (Φ := callF tab L n) (L := L) h2 h3 h5 h6 fun cdv A outer s H E hr => ?_
    refine (snd_sall (F := F) (RX := RX) (Φ := callF tab L n) (L := L) m).ss ⟨N, defScope st, fun _ => true, fn, cs, fr⟩ _ _ ?_ takes_def own_def h3.kind (defBody st) _ h7
    exact ⟨rfl, h3.nd, rfl, rfl, ⟨(by have := hr.un; show (A.deeper (envOfC qual (defScope st) s.heap.objs.size f cdv)).units + 200 < cLine; omega), T.hw⟩, fun _ _ => rfl, fun y j ks' hy => let ⟨f', fd', ps', a1, a2, a3, a4⟩ := T.ok n y j ks' hy; ⟨n, f', fd', ps', a1, hr, a2, a3, a4⟩, T.css, T.frs⟩
theorem Tab.fn1 (T : Tab P w K mg fn cs fr tab) (n : Nat) {x qual : Str} {st : Stmt} {f : Addr} {fd : FuncData} {N ps : List Str} {m : Nat} {i : F} (h2 : Fun K x qual st f fd) (h3 : FnScope N ps (defScope st)) (h5 : (tab i).ps = ps.length) (h6 : (tab i).ns = N.length)
    (h7 : cSs ⟨N, defScope st, fun _ => true, fn, cs, fr⟩ m (defBody st) = some (tab i).body) : FnOk P w K mg base (L2.CX P w) (n + 1) f fd ps (spOf K RX (callF tab L (n + 1) i)) := by
  refine fn_ok (Φ := callF tab L n) (L := L) h2 h3 h5 h6 fun cdv A outer s H E hr => ?_
  refine (snd_sall (F := F) (RX := RX) (Φ := callF tab L n) (L := L) m).ss ⟨N, defScope st, fun _ => true, fn, cs, fr⟩ _ _ ?_ takes_def own_def h3.kind (defBody st) _ h7
  exact ⟨rfl, h3.nd, rfl, rfl, ⟨(by have := hr.un; show (A.deeper (envOfC qual (defScope st) s.heap.objs.size f cdv)).units + 200 < cLine; omega), T.hw⟩, fun _ _ => rfl, fun y j ks' hy => let ⟨f', fd', ps', a1, a2, a3, a4⟩ := T.ok (base := base) (RX := RX) (L := L) n y j ks' hy; ⟨n, f', fd', ps', a1, hr, a2, a3, a4⟩, T.css, T.frs⟩
end
end DL
end
section
set_option Elab.async false
set_option linter.all false
set_option maxRecDepth 100000
set_option autoImplicit false
set_option maxHeartbeats 4000000
/-! DLs: the head: what the top leaves behind, the law's end. -/
namespace DL
open PySem PySem.Spec PyProof.Rows L2
variable [Wd]

/-! ### constants -/
def repV (K : PySem.W.Frag) : Nat → Value → D → Bool
  | 0, _, _ => false
  | n + 1, u, d => match u, d with
    | .none, .none => true
    | .bool b, .bool c => b == c
    | .int i _, .int j => decide (i = j)
    | .str x _, .str y => sEq x y
    | .ref a, .tuple ds => (match K.lookup a with
      | some ⟨.type c, _, .seq its _, _⟩ => decide (c = "tuple") && (decide (its.size ≤ sizeLine) && ((its.toList.length == ds.length) && (its.toList.zip ds).all fun p => repV K n p.1 p.2))
      | _ => false)
    | _, _ => false
theorem repV_ok {K : PySem.W.Frag} : ∀ {n : Nat} {u : Value} {d : D}, repV K n u d = true → ∃ v, RelV v u ∧ ∀ H Lv, Rep K H Lv v d
  | 0, _, _, h => by cases h
  | n + 1, u, d, h => by
    unfold repV at h
    split at h
    · exact ⟨.non, rfl, fun _ _ => .non⟩
    · rename_i b c
      have e := eq_of_beq h
      subst e
      exact ⟨.bl b, rfl, fun _ _ => .bl b⟩
    · rename_i i t j
      have e := of_decide_eq_true h
      subst e
      exact ⟨.int i, ⟨t, rfl⟩, fun _ _ => .int i⟩
    · rename_i x t y
      have e := sEq_eq h
      subst e
      exact ⟨.str x, ⟨t, rfl⟩, fun _ _ => .str x⟩
    · rename_i a ds
      split at h
      · rename_i c dd its m sl q
        rw [Bool.and_eq_true, Bool.and_eq_true, Bool.and_eq_true] at h
        obtain ⟨h1, h2, h3, h4⟩ := h
        have e := of_decide_eq_true h1
        subst e
        have all : ∀ (us : List Value) (es : List D), us.length = es.length → ((us.zip es).all fun p => repV K n p.1 p.2) = true → ∃ vs, Vals vs us ∧ ∀ H Lv, RepAll K H Lv vs es := by
          intro us
          induction us with
          | nil =>
            intro es hl _
            cases es with
            | nil => exact ⟨[], .nil, fun _ _ => .nil⟩
            | cons _ _ => cases hl
          | cons u us ih =>
            intro es hl h
            cases es with
            | nil => cases hl
            | cons e es =>
              rw [List.zip_cons_cons, List.all_cons, Bool.and_eq_true] at h
              obtain ⟨v, r1, r2⟩ := repV_ok h.1
              obtain ⟨vs, r3, r4⟩ := ih es (by simpa using hl) h.2
              exact ⟨v :: vs, .cons r1 r3, fun H Lv => .cons (r2 H Lv) (r4 H Lv)⟩
        obtain ⟨vs, r1, r2⟩ := all its.toList ds (eq_of_beq h3) h4
        exact ⟨.ref a, rfl, fun H Lv => .tup (.inr ⟨_, its, m, q, rfl, rfl, of_decide_eq_true h2, r1⟩) (r2 H Lv)⟩
      · cases h
    · cases h
def conD (K : PySem.W.Frag) (x : Str) (d : D) : Bool := match PySem.W.nsIn K mainGlobals x with
  | some (some u) => repV K 10 u d
  | _ => false
theorem conD_ok {K : PySem.W.Frag} {h : Heap} {mg : Str → Option Value} (X : K.In h) (G : h.Ns mainGlobals mg) {x : Str} {d : D} (c : conD K x d = true) : ∃ u v, mg x = some u ∧ RelV v u ∧ ∀ H Lv, Rep K H Lv v d := by
  unfold conD at c
  split at c
  · rename_i u e
    obtain ⟨v, r1, r2⟩ := repV_ok c
    exact ⟨u, v, PySem.W.mg_of X G e, r1, r2⟩
  · cases c

/-! ### a law's table as data -/
structure Row where
  id : Nat
  name : Str
  ks : List Bool
  st : Stmt
  N : List Str
  ps : List Str
def rIx : List Row → Str → Option (Nat × List Bool)
  | [], _ => none
  | r :: rs, x => if sEq x r.name then some (r.id, r.ks) else rIx rs x
theorem rIx_get {x : Str} {j : Nat} {ks : List Bool} : ∀ {rs : List Row}, rIx rs x = some (j, ks) → ∃ r ∈ rs, r.name = x ∧ r.id = j
  | [], h => by cases h
  | r :: rs, h => by
    unfold rIx at h
    cases e : sEq x r.name with
    | true =>
      rw [e, if_pos rfl] at h
      cases h
      exact ⟨r, List.mem_cons_self, (sEq_eq e).symm, rfl⟩
    | false =>
      rw [e, if_neg Bool.false_ne_true] at h
      obtain ⟨r', h1, h3, h4⟩ := rIx_get h
      exact ⟨r', List.mem_cons_of_mem _ h1, h3, h4⟩
structure LD where
  rows : List Row
  cs : List (Str × D)
  fr : List Str
def LD.fn (l : LD) (x : Str) : Option (Nat × List Bool) := rIx l.rows x
def LD.co (l : LD) (x : Str) : Option D := lkS l.cs x
def LD.free (l : LD) (x : Str) : Bool := l.fr.any fun y => sEq x y
def LD.ce (l : LD) (r : Row) : CE Nat := ⟨r.N, defScope r.st, fun _ => true, l.fn, l.co, l.free⟩
def Row.fnD (r : Row) : He.FnD := ⟨(r.name, none), r.name, r.name, defArgs r.st, defBody r.st, defScope r.st⟩
def LD.chk (l : LD) (K : PySem.W.Frag) : Bool := (l.rows.all fun r => (He.Fa.glo r.name).ok K && ((He.Fa.keep r.name).ok K && (He.Fa.code (r.name, none) r.name).ok K)) && ((l.cs.all fun p => conD K p.1 p.2) && l.fr.all fun x => (He.Fa.free x).ok K)
def obsL (l : LD) (K : PySem.W.Frag) : He.Al := (l.chk K, l.rows.map fun r => He.fnObs K (r.name, none))
def valL (l : LD) : He.Al := (true, l.rows.map fun r => r.fnD.val)
def SaysL (l : LD) (K : PySem.W.Frag) : Prop := obsL l K = valL l
def obsLG (n : Nat) (l : LD) (g : Addr → Option Obj) : He.Al := obsL l (He.frG g (He.asG g n))
def hookL (n : Nat) (l : LD) : PySem.W.Hook where
  α := He.Al
  obs := fun s => obsLG n l s.heap.get?
  val := fun _ => valL l
  says := fun _ h => ∃ K : PySem.W.Frag, K.In h ∧ SaysL l K
  of := fun _ _ e => ⟨_, He.frG_in, e⟩
  keeps := fun _ _ _ ⟨K, hK, c⟩ k => ⟨K, PySem.W.Frag.In.keeps hK k, c⟩
omit [Wd] in
theorem obsLG_eq {n : Nat} {l : LD} {g : Addr → Option Obj} {s : Shared} (h : ∀ a, g a = s.heap.get? a) : obsLG n l g = (hookL n l).obs s := by
  have e : g = s.heap.get? := funext h
  rw [e] <;> rfl
def obL (n : Nat) (l : LD) (s : PySem.W.SharedT) : He.Al := obsLG n l (HandSHeadRun.getT s)
omit [Wd] in
theorem obL_eq (n : Nat) (l : LD) (s : PySem.W.SharedT) : obL n l s = (hookL n l).obs s.abs := obsLG_eq (HandSHeadRun.getT_eq s)
/-- what is checked of each def, once -/
structure RowOk (l : LD) (tab : Nat → Fn Nat) (r : Row) : Prop where
  sc : FnScope r.N r.ps (defScope r.st)
  bd : ∀ (kV doc pm : Value) (an : Option Addr) (cdv ct : Value) (us : List Value), us.length = r.ps.length → bindArgs (PySem.W.fnOf r.name r.name (defArgs r.st) (defBody r.st) (defScope r.st) .none kV doc pm an cdv ct) ⟨us, []⟩ = pure (r.ps.zip us)
  ps : (tab r.id).ps = r.ps.length
  ns : (tab r.id).ns = r.N.length
  body : cSs (l.ce r) 60 (defBody r.st) = some (tab r.id).body
def AllRows (l : LD) (tab : Nat → Fn Nat) : List Row → Prop
  | [] => True
  | r :: rs => RowOk l tab r ∧ AllRows l tab rs
theorem AllRows.get {l : LD} {tab : Nat → Fn Nat} {r : Row} : ∀ {rs : List Row}, AllRows l tab rs → r ∈ rs → RowOk l tab r
  | [], _, h => by cases h
  | r' :: rs, a, h => by
    rcases List.mem_cons.mp h with e | h
    · subst e
      exact a.1
    · exact AllRows.get a.2 h
theorem row_says {l : LD} {K : PySem.W.Frag} (c : SaysL l K) {r : Row} (h : r ∈ l.rows) {hp : Heap} {mg : Str → Option Value} (X : K.In hp) (G : hp.Ns mainGlobals mg) :
    ∃ fd, mg r.name = some (.ref (He.ga K r.name)) ∧ Fun K r.name r.name r.st (He.ga K r.name) fd ∧ (∀ ps : List Str, (∀ (kV doc pm : Value) (an : Option Addr) (cdv ct : Value) (us : List Value), us.length = ps.length → bindArgs (PySem.W.fnOf r.name r.name (defArgs r.st) (defBody r.st) (defScope r.st) .none kV doc pm an cdv ct) ⟨us, []⟩ = pure (ps.zip us)) → L2.Binds K fd ps []) := by
  have c1 : l.chk K = true := congrArg (fun z : He.Al => z.1) c
  have c2 : l.rows.map (fun r => He.fnObs K (r.name, none)) = l.rows.map (fun r => r.fnD.val) := congrArg (fun z : He.Al => z.2) c
  unfold LD.chk at c1
  rw [Bool.and_eq_true, List.all_eq_true] at c1
  have k := c1.1 r h
  rw [Bool.and_eq_true, Bool.and_eq_true] at k
  obtain ⟨k1, k2, k3⟩ := k
  obtain ⟨j, h⟩ := List.getElem?_of_mem h
  have e : (l.rows.map fun r => He.fnObs K (r.name, none))[j]? = (l.rows.map fun r => r.fnD.val)[j]? := by rw [c2]
  rw [List.getElem?_map, List.getElem?_map, h] at e
  obtain ⟨oc, od, osl, kV, doc, pm, an, cdv, ct, h1, h2⟩ := He.fn_ok (d := r.fnD) (Option.some.inj e) k3
  have Fu : Fun K r.name r.name r.st (He.ga K r.name) _ := fun_mk h1 h2 k2
  exact ⟨_, He.glo_ok X G k1, Fu, fun ps hb => Fu.binds hb⟩
theorem tab_of {l : LD} {tab : Nat → Fn Nat} {P : Program} {w : World} {K : PySem.W.Frag} (A : AllRows l tab l.rows) (c : SaysL l K) {hp : Heap} {mg : Str → Option Value} (X : K.In hp) (G : hp.Ns mainGlobals mg) (hw : w = Wd.w) : Tab P w K mg l.fn l.co l.free tab where
  hw := hw
  fns := fun x i ks h => by
    obtain ⟨r, h1, h3, h4⟩ := rIx_get (show rIx l.rows x = some (i, ks) from h)
    subst h3 h4
    have ok := A.get h1
    obtain ⟨fd, a1, a2, a3⟩ := row_says c h1 X G
    exact ⟨r.name, r.st, _, fd, r.N, r.ps, 60, a1, a2, ok.sc, a3 r.ps ok.bd, ok.ps, ok.ns, ok.body⟩
  css := fun x d h => by
    have c1 : l.chk K = true := congrArg (fun z : He.Al => z.1) c
    unfold LD.chk at c1
    rw [Bool.and_eq_true, Bool.and_eq_true, List.all_eq_true, List.all_eq_true, List.all_eq_true] at c1
    have hm : ∀ {cs : List (Str × D)}, lkS cs x = some d → (x, d) ∈ cs := by
      intro cs
      induction cs with
      | nil => intro h; cases h
      | cons p cs ih =>
        obtain ⟨y, e⟩ := p
        intro h
        unfold lkS at h
        cases q : sEq x y with
        | true => rw [q, if_pos rfl] at h; cases h; rw [sEq_eq q]; exact List.mem_cons_self
        | false => rw [q, if_neg Bool.false_ne_true] at h; exact List.mem_cons_of_mem _ (ih h)
    exact conD_ok X G (c1.2.1 _ (hm (show lkS l.cs x = some d from h)))
  frs := fun x h => by
    have c1 : l.chk K = true := congrArg (fun z : He.Al => z.1) c
    unfold LD.chk at c1
    rw [Bool.and_eq_true, Bool.and_eq_true, List.all_eq_true, List.all_eq_true, List.all_eq_true] at c1
    have h : (l.fr.any fun y => sEq x y) = true := h
    obtain ⟨y, hy, e⟩ := List.any_eq_true.mp h
    rw [sEq_eq e]
    exact He.free_ok X G (c1.2.2 y hy)
/-! ### the law -/
def RX0 : RXT := fun _ _ _ _ => False
theorem calm_fn {P : Program} {w : World} {K : PySem.W.Frag} {mg : Str → Option Value} {base : Heap} {k : Nat} {f : Addr} {fd : FuncData} {ps : List Str} {sp : Sp} (F : FnOk P w K mg base (L2.CX P w) k f fd ps sp) :
    FnOk P w K mg base L2.CX0 k f fd ps (fun vs H Q _ => sp vs H Q L2.E0) :=
  ⟨fun vs H Q E h => F.len _ _ _ _ h, fun A outer s H args us vs Q E hr he hb hv hs => codeAny_mono (F.run A outer s H args us vs Q L2.E0 hr he hb hv hs) fun r s' h => by
    cases r with
    | ok fl => cases fl <;> exact h
    | error e =>
      obtain ⟨_, _, _, _, _, _, _, _, _, _, _, _, z⟩ := h
      exact z.elim⟩
theorem rep_ints {K : PySem.W.Frag} {H : Hp} {Lv : Addr → Prop} : ∀ ns : List Int, RepAll K H Lv (ns.map V.int) (ns.map PyData.int)
  | [] => .nil
  | n :: ns => .cons (.int n) (rep_ints ns)
omit [Wd] in
theorem law_F {l : LD} {tab : Nat → Fn Nat} {P : Program} {L k : Nat} {r : Row} {w : World} {K : PySem.W.Frag} {mg : Str → Option Value} {hp : Heap} {fa : Addr} (A : AllRows l tab l.rows) (c : SaysL l K) (X : K.In hp) (G : hp.Ns mainGlobals mg)
    (hj : r ∈ l.rows) (hps : r.ps = [Str.ofString "script"]) (hfa : mg r.name = some (.ref fa))
    (hpure : ∀ ns : List Int, ns.length ≤ 63 → ∃ m', callF tab L (k + 1) r.id [.d (.list (ns.map .int))] [] = .ok (.d (.bool true)) m') :
    ∃ (K : PySem.W.Frag) (fd : FuncData) (sp : Sp), K.In hp ∧ (∀ (s : Shared) (u : Value), BindsTo s fd ⟨[u], []⟩ [(Str.ofString "script", u)]) ∧
        (∀ (H : Hp) (a : Addr) (ns : List Int), ns.length ≤ 63 → Only H → SqL K H a (ns.map V.int) → sp [.ref a] H (fun v _ => v = .bl true) fun _ _ _ => False) ∧
        ∀ base : Heap, K.In base → base.Ns mainGlobals mg → FnOk P w K mg base L2.CX0 (k + 1) fa fd [Str.ofString "script"] sp := by
  letI : Wd := ⟨w, []⟩
  obtain ⟨fd, a1, a2, a3⟩ := row_says c hj X G
  have ok := A.get hj
  have e := a1.symm.trans hfa
  cases e
  refine ⟨K, fd, fun vs H Q _ => spOf K RX0 (callF tab L (k + 1) r.id) vs H Q L2.E0, X, fun s u => ?_, fun H a ns hl ho hs => ?_, fun base kb gb => ?_⟩
  · obtain ⟨oc, od, kV, doc, pm, an, cdv, ct, osl, rfl, lk, hcd⟩ := a2.ex
    refine .of_eq ?_
    have := ok.bd kV doc pm an cdv ct [u] (by rw [hps]; rfl)
    rw [hps] at this
    exact this
  · have rr : Rep K H (Live ⟨[], []⟩ []) (.ref a) (.list (ns.map PyData.int)) := by
      refine .lst (hs.imp (fun h => ⟨h, fun q => ?_⟩) id) (rep_ints ns)
      rcases q with ⟨n, c, h1, _, _⟩ | q
      · simp at h1
      · cases q
    obtain ⟨m', e⟩ := hpure ns hl
    refine ⟨[.d (.list (ns.map .int))], [], ⟨[], []⟩, ⟨rfl, List.nodup_nil, fun a h => (by cases h), fun a h => (by cases h), fun a h => (by cases h), fun n a c h1 _ => (by simp at h1), (fun p hp => nomatch hp)⟩, .cons rr .nil, ?_⟩
    rw [e]
    intro ι' H' l s v r
    cases r
    rfl
  · have T := tab_of (P := P) (w := w) (tab := tab) A c X G rfl
    rw [← hps]
    exact calm_fn (T.fn1 (base := base) (RX := RX0) (L := L) k a2 ok.sc ok.ps ok.ns ok.body)
end DL
end
section
set_option Elab.async false
set_option linter.all false
set_option maxRecDepth 100000
set_option autoImplicit false
set_option maxHeartbeats 4000000
/-! DLt: what stands ahead of a call's own cells does not matter. -/
namespace DL
open PySem
def sh (k : Nat) : Val → Val
  | .d x => .d x
  | .r n => .r (n + k)
def shE (k : Nat) (ρ : Env) : Env := ρ.map (Option.map (sh k))
def frA {α : Type} (f : α → α) (P : Store) : R α → R α
  | .ok a m => .ok (f a) (P ++ m)
  | .ex x m => .ex x (P ++ m)
  | .no => .no
section
variable {P : Store} {α β : Type} {f : α → α} {g : β → β}
theorem bind_fr {r : R α} {r' : R α} {h h' : α → Store → R β} (e : r' = frA f P r) (k : ∀ a m, h' (f a) (P ++ m) = frA g P (h a m)) : r'.bind h' = frA g P (r.bind h) := by
  rw [e]
  cases r with
  | ok a m => exact k a m
  | ex x m => rfl
  | no => rfl
theorem fr_ok {a : α} {m : Store} : frA f P (.ok a m) = .ok (f a) (P ++ m) := rfl
theorem at_fr {n : Nat} {m : Store} : (P ++ m)[n + P.length]? = m[n]? := by
  rw [List.getElem?_append_right (Nat.le_add_left _ _), Nat.add_sub_cancel]
theorem set_fr {n : Nat} {m : Store} {c : Cell} : (P ++ m).set (n + P.length) c = P ++ m.set n c := by
  rw [List.set_append_right _ _ (Nat.le_add_left _ _), Nat.add_sub_cancel]
theorem take_fr {k : Nat} {m : Store} : (P ++ m).take (P.length + k) = P ++ m.take k := by
  rw [List.take_append, List.take_of_length_le (Nat.le_add_right _ _), Nat.add_sub_cancel_left]
theorem rd_fr {v : Val} {m : Store} : rd (sh P.length v) (P ++ m) = rd v m := by
  cases v with
  | d x => rfl
  | r n => show ((P ++ m)[n + P.length]?).map Cell.data = _; rw [at_fr]; rfl
theorem rdAll_fr {m : Store} : ∀ {vs : List Val}, rdAll (P ++ m) (vs.map (sh P.length)) = rdAll m vs
  | [] => rfl
  | v :: vs => by
    show (match rd (sh P.length v) (P ++ m), rdAll (P ++ m) (vs.map (sh P.length)) with | some x, some xs => some (x :: xs) | _, _ => none) = _
    rw [rd_fr, rdAll_fr]
    rfl
theorem allD_fr {k : Nat} : ∀ {vs : List Val}, allD (vs.map (sh k)) = allD vs
  | [] => rfl
  | .d x :: vs => by
    show (allD (vs.map (sh k))).map (x :: ·) = _
    rw [allD_fr]
    rfl
  | .r n :: vs => rfl
abbrev frV (P : Store) : R Val → R Val := frA (sh P.length) P
abbrev frI {α : Type} (P : Store) : R α → R α := frA id P
theorem put_fr {o : Out} {m : Store} : put o (P ++ m) = frV P (put o m) := by
  have nw : ∀ c : Cell, new c (P ++ m) = frV P (new c m) := fun c => by
    show R.ok (Val.r (P ++ m).length) ((P ++ m) ++ [c]) = R.ok (Val.r (m.length + P.length)) (P ++ (m ++ [c]))
    rw [List.length_append, Nat.add_comm, List.append_assoc]
  cases o with
  | «at» d => rfl
  | tup xs =>
    unfold put
    dsimp only
    split
    · rfl
    · rfl
  | lst xs =>
    unfold put
    dsimp only
    split
    · exact nw _
    · rfl
  | dic xs =>
    unfold put
    dsimp only
    split
    · exact nw _
    · rfl
theorem fz_fr {v : Val} {m : Store} : fz (sh P.length v) (P ++ m) = frI P (fz v m) := by
  cases v with
  | d x => rfl
  | r n =>
    show (match (P ++ m)[n + P.length]? with | some c => R.ok c.data ((P ++ m).set (n + P.length) (.fz c.data)) | none => .no) = frI P (match m[n]? with | some c => R.ok c.data (m.set n (.fz c.data)) | none => .no)
    rw [at_fr]
    cases m[n]? with
    | none => rfl
    | some c => show R.ok _ _ = R.ok _ _; rw [set_fr]; rfl
theorem truR_fr {v : Val} {m : Store} : truR (sh P.length v) (P ++ m) = frI P (truR v m) := by
  unfold truR
  rw [rd_fr]
  cases rd v m with
  | none => rfl
  | some x =>
    dsimp only
    cases tru x <;> rfl
theorem opR_fr {o : Op} {v w : Val} {m : Store} : opR o (sh P.length v) (sh P.length w) (P ++ m) = frV P (opR o v w m) := by
  unfold opR
  rw [rd_fr, rd_fr]
  cases rd v m with
  | none => rfl
  | some x =>
    cases rd w m with
    | none => rfl
    | some y =>
      dsimp only
      cases opF o x y with
      | none => rfl
      | some z => exact put_fr
theorem cmR_fr {c : Cm} {v w : Val} {m : Store} : cmR c (sh P.length v) (sh P.length w) (P ++ m) = frV P (cmR c v w m) := by
  unfold cmR
  rw [rd_fr, rd_fr]
  cases rd v m with
  | none => rfl
  | some x =>
    cases rd w m with
    | none => rfl
    | some y =>
      dsimp only
      cases cmF c x y <;> rfl
theorem partI_fr {v : Val} {m : Store} : partI (sh P.length v) (P ++ m) = frI P (partI v m) := by
  unfold partI
  rw [rd_fr]
  cases rd v m with
  | none => rfl
  | some x => cases x <;> rfl
theorem app1_fr {v : Val} {x : D} {m : Store} : app1 (sh P.length v) x (P ++ m) = frV P (app1 v x m) := by
  cases v with
  | d _ => rfl
  | r n =>
    show (match (P ++ m)[n + P.length]? with | some (.lst xs) => if xs.length < sizeLine then R.ok (.d .none) ((P ++ m).set (n + P.length) (.lst (xs ++ [x]))) else .no | _ => .no) = frV P (match m[n]? with | some (.lst xs) => if xs.length < sizeLine then R.ok (.d .none) (m.set n (.lst (xs ++ [x]))) else .no | _ => .no)
    rw [at_fr]
    cases m[n]? with
    | none => rfl
    | some c =>
      cases c with
      | lst xs =>
        dsimp only
        split
        · rw [set_fr]; rfl
        · rfl
      | _ => rfl
theorem pop1_fr {v : Val} {m : Store} : pop1 (sh P.length v) (P ++ m) = frV P (pop1 v m) := by
  cases v with
  | d _ => rfl
  | r n =>
    show (match (P ++ m)[n + P.length]? with | some (.lst xs) => (match xs[xs.length - 1]? with | some y => R.ok (.d y) ((P ++ m).set (n + P.length) (.lst xs.dropLast)) | none => .no) | _ => .no) = frV P (match m[n]? with | some (.lst xs) => (match xs[xs.length - 1]? with | some y => R.ok (.d y) (m.set n (.lst xs.dropLast)) | none => .no) | _ => .no)
    rw [at_fr]
    cases m[n]? with
    | none => rfl
    | some c =>
      cases c with
      | lst xs =>
        dsimp only
        split
        · rw [set_fr]; rfl
        · rfl
      | _ => rfl
theorem setAt_fr {v i : Val} {x : D} {m : Store} : setAt (sh P.length v) (sh P.length i) x (P ++ m) = frI P (setAt v i x m) := by
  cases v with
  | d _ =>
    unfold setAt
    rfl
  | r n =>
    unfold setAt
    show (match Val.r (n + P.length), rd (sh P.length i) (P ++ m) with | .r n, some (.int k) => _ | _, _ => _) = _
    rw [rd_fr]
    cases rd i m with
    | none => rfl
    | some d =>
      cases d with
      | int k =>
        dsimp only
        rw [at_fr]
        cases m[n]? with
        | none => rfl
        | some c =>
          cases c with
          | lst xs =>
            dsimp only
            cases L2.ixN xs.length k with
            | none => rfl
            | some j => dsimp only; rw [set_fr]; rfl
          | _ => rfl
      | _ => rfl
theorem isDicR_fr {v : Val} {m : Store} : isDicR (sh P.length v) (P ++ m) = (isDicR v m).map (· + P.length) := by
  cases v with
  | d _ => rfl
  | r n =>
    show (match (P ++ m)[n + P.length]? with | some (.dic _) => some (n + P.length) | _ => none) = (match m[n]? with | some (.dic _) => some n | _ => none).map (· + P.length)
    rw [at_fr]
    cases m[n]? with
    | none => rfl
    | some c => cases c <;> rfl
theorem setDic_fr {n : Nat} {i : Val} {x : D} {m : Store} : setDic (n + P.length) (sh P.length i) x (P ++ m) = frI P (setDic n i x m) := by
  unfold setDic
  rw [at_fr]
  cases m[n]? with
  | none => rfl
  | some c =>
    cases c with
    | dic kvs =>
      cases i with
      | r _ => rfl
      | d k =>
        show (if (agree kvs k && decide (kvs.length < sizeLine)) = true then R.ok () ((P ++ m).set (n + P.length) (.dic (putD kvs k x))) else .no) = frI P (if (agree kvs k && decide (kvs.length < sizeLine)) = true then R.ok () (m.set n (.dic (putD kvs k x))) else .no)
        split
        · rw [set_fr]; rfl
        · rfl
    | _ => rfl
theorem setAny_fr {v i : Val} {x : D} {m : Store} : setAny (sh P.length v) (sh P.length i) x (P ++ m) = frI P (setAny v i x m) := by
  unfold setAny
  rw [isDicR_fr]
  cases isDicR v m with
  | none => exact setAt_fr
  | some n => exact setDic_fr
theorem augR_fr {o : Op} {v w : Val} {m : Store} : augR o (sh P.length v) (sh P.length w) (P ++ m) = frV P (augR o v w m) := by
  cases o with
  | add =>
    cases v with
    | d x =>
      cases x with
      | int i =>
        show (match rd (sh P.length w) (P ++ m) with | some (.int j) => R.ok (Val.d (.int (i + j))) (P ++ m) | _ => .no) = frV P (match rd w m with | some (.int j) => R.ok (Val.d (.int (i + j))) m | _ => .no)
        rw [rd_fr]
        cases rd w m with
        | none => rfl
        | some d => cases d <;> rfl
      | _ => rfl
    | r n =>
      show (match (P ++ m)[n + P.length]?, rd (sh P.length w) (P ++ m) with | some (.lst xs), some (.list ys) => if xs.length + ys.length ≤ sizeLine then R.ok (Val.r (n + P.length)) ((P ++ m).set (n + P.length) (.lst (xs ++ ys))) else .no | _, _ => .no) =
        frV P (match m[n]?, rd w m with | some (.lst xs), some (.list ys) => if xs.length + ys.length ≤ sizeLine then R.ok (Val.r n) (m.set n (.lst (xs ++ ys))) else .no | _, _ => .no)
      rw [at_fr, rd_fr]
      cases m[n]? with
      | none => rfl
      | some c =>
        cases c with
        | lst xs =>
          cases rd w m with
          | none => rfl
          | some d =>
            cases d with
            | list ys =>
              dsimp only
              split
              · rw [set_fr]; rfl
              · rfl
            | _ => rfl
        | _ => rfl
  | _ => cases v <;> rfl
theorem setAll_fr {k : Nat} : ∀ {is : List Nat} {xs : List D} {ρ : Env}, setAll is xs (shE k ρ) = (setAll is xs ρ).map (shE k)
  | [], [], _ => rfl
  | [], _ :: _, _ => rfl
  | _ :: _, [], _ => rfl
  | i :: is, x :: xs, ρ => by
    show setAll is xs ((shE k ρ).set i (some (.d x))) = (setAll is xs (ρ.set i (some (.d x)))).map (shE k)
    have : (shE k ρ).set i (some (.d x)) = shE k (ρ.set i (some (.d x))) := by
      unfold shE
      rw [List.map_set]
      rfl
    rw [this]
    exact setAll_fr
theorem set_env {k i : Nat} {v : Val} {ρ : Env} : (shE k ρ).set i (some (sh k v)) = shE k (ρ.set i (some v)) := by
  unfold shE
  rw [List.map_set]
  rfl
theorem asgD_fr {k : Nat} {t : Tg} {x : D} {ρ : Env} : asgD t x (shE k ρ) = (asgD t x ρ).map (shE k) := by
  cases t with
  | nm i => exact congrArg some (set_env (v := .d x))
  | tp is =>
    cases x with
    | tuple xs => exact setAll_fr
    | _ => rfl
theorem wipe_fr {k : Nat} {ρ : Env} : ∀ {own : List Nat}, wipeE (shE k ρ) own = shE k (wipeE ρ own)
  | [] => rfl
  | i :: own => by
    show (wipeE (shE k ρ) own).set i none = shE k ((wipeE ρ own).set i none)
    rw [wipe_fr]
    unfold shE
    rw [List.map_set]
    rfl
theorem calm_fr {r : R α} : R.calm (frA f P r) = frA f P (R.calm r) := by cases r <;> rfl
theorem compLoop_fr {h h' : D → Store → R (Option D)} (k : ∀ x m, h' x (P ++ m) = frI P (h x m)) : ∀ {xs acc : List D} {m : Store}, compLoop h' xs acc (P ++ m) = frI P (compLoop h xs acc m)
  | [], _, _ => rfl
  | x :: xs, acc, m => by
    show (h' x (P ++ m)).bind _ = frI P ((h x m).bind _)
    refine bind_fr (f := id) (k x m) fun o m1 => ?_
    cases o with
    | none => exact compLoop_fr k
    | some y => exact compLoop_fr k
theorem flatLoop_fr {h h' : D → Store → R (List D)} (k : ∀ x m, h' x (P ++ m) = frI P (h x m)) : ∀ {xs acc : List D} {m : Store}, flatLoop h' xs acc (P ++ m) = frI P (flatLoop h xs acc m)
  | [], _, _ => rfl
  | x :: xs, acc, m => by
    show (h' x (P ++ m)).bind _ = frI P ((h x m).bind _)
    exact bind_fr (f := id) (k x m) fun o m1 => flatLoop_fr k
def shF (k : Nat) : Fl → Fl
  | .nx ρ => .nx (shE k ρ)
  | .rt v => .rt (sh k v)
abbrev frF (P : Store) : R Fl → R Fl := frA (shF P.length) P
theorem forLoop_fr {h h' : D → Env → Store → R Fl} (k : ∀ x ρ m, h' x (shE P.length ρ) (P ++ m) = frF P (h x ρ m)) : ∀ {xs : List D} {ρ : Env} {m : Store}, forLoop h' xs (shE P.length ρ) (P ++ m) = frF P (forLoop h xs ρ m)
  | [], _, _ => rfl
  | x :: xs, ρ, m => by
    show (h' x (shE P.length ρ) (P ++ m)).bind _ = frF P ((h x ρ m).bind _)
    refine bind_fr (k x ρ m) fun o m1 => ?_
    cases o with
    | nx ρ1 => exact forLoop_fr k
    | rt v => rfl
theorem whileLoop_fr {c c' : Env → Store → R Bool} {h h' : Env → Store → R Fl} (kc : ∀ ρ m, c' (shE P.length ρ) (P ++ m) = frI P (c ρ m)) (k : ∀ ρ m, h' (shE P.length ρ) (P ++ m) = frF P (h ρ m)) : ∀ {n : Nat} {ρ : Env} {m : Store}, whileLoop c' h' n (shE P.length ρ) (P ++ m) = frF P (whileLoop c h n ρ m)
  | 0, _, _ => rfl
  | n + 1, ρ, m => by
    show (c' (shE P.length ρ) (P ++ m)).bind _ = frF P ((c ρ m).bind _)
    refine bind_fr (f := id) (kc ρ m) fun b m1 => ?_
    cases b with
    | false => rfl
    | true =>
      show (h' (shE P.length ρ) (P ++ m1)).bind _ = frF P ((h ρ m1).bind _)
      refine bind_fr (k ρ m1) fun o m2 => ?_
      cases o with
      | nx ρ1 => exact whileLoop_fr kc k
      | rt v => rfl
end
section
variable {F : Type} {Φ : F → List Val → Store → R Val} {L : Nat} {P : Store} (hΦ : ∀ f vs m, Φ f (vs.map (sh P.length)) (P ++ m) = frV P (Φ f vs m))
include hΦ
mutual
theorem ev_fr : ∀ (e : PX F) (ρ : Env) (m : Store), ev Φ e (shE P.length ρ) (P ++ m) = frV P (ev Φ e ρ m)
  | .lit x, ρ, m => rfl
  | .loc i, ρ, m => by
    show (match (shE P.length ρ)[i]? with | some (some v) => R.ok v (P ++ m) | _ => .no) = frV P (match ρ[i]? with | some (some v) => R.ok v m | _ => .no)
    have : (shE P.length ρ)[i]? = (ρ[i]?).map (Option.map (sh P.length)) := List.getElem?_map
    rw [this]
    cases ρ[i]? with
    | none => rfl
    | some o => cases o <;> rfl
  | .tup es, ρ, m => by
    show (evs Φ es (shE P.length ρ) (P ++ m)).bind _ = frV P ((evs Φ es ρ m).bind _)
    refine bind_fr (evs_fr es ρ m) fun vs m1 => ?_
    rw [allD_fr]
    cases allD vs with
    | none => rfl
    | some xs => exact put_fr
  | .lst es, ρ, m => by
    show (evs Φ es (shE P.length ρ) (P ++ m)).bind _ = frV P ((evs Φ es ρ m).bind _)
    refine bind_fr (evs_fr es ρ m) fun vs m1 => ?_
    rw [allD_fr]
    cases allD vs with
    | none => rfl
    | some xs => exact put_fr
  | .dsp es, ρ, m => by
    show (evs Φ es (shE P.length ρ) (P ++ m)).bind _ = frV P ((evs Φ es ρ m).bind _)
    refine bind_fr (evs_fr es ρ m) fun vs m1 => ?_
    rw [allD_fr]
    cases allD vs with
    | none => rfl
    | some xs =>
      dsimp only
      cases dspF xs [] with
      | none => rfl
      | some kvs =>
        dsimp only
        split
        · exact put_fr
        · rfl
  | .fstr es, ρ, m => by
    show (evs Φ es (shE P.length ρ) (P ++ m)).bind _ = frV P ((evs Φ es ρ m).bind _)
    refine bind_fr (evs_fr es ρ m) fun vs m1 => ?_
    rw [allD_fr]
    cases allD vs with
    | none => rfl
    | some xs =>
      dsimp only
      cases fstrF xs <;> rfl
  | .tryl e, ρ, m => by
    show (match (ev Φ e (shE P.length ρ) (P ++ m)).bind fun v m1 => fz v m1 with
      | .ok x m1 => R.ok (Val.d (.tuple [.str (Str.ofString "told"), x])) m1
      | .ex x m1 => ofO ((told x).map Val.d) m1
      | .no => .no) = frV P (match (ev Φ e ρ m).bind fun v m1 => fz v m1 with
      | .ok x m1 => R.ok (Val.d (.tuple [.str (Str.ofString "told"), x])) m1
      | .ex x m1 => ofO ((told x).map Val.d) m1
      | .no => .no)
    have q : ((ev Φ e (shE P.length ρ) (P ++ m)).bind fun v m1 => fz v m1) = frI P ((ev Φ e ρ m).bind fun v m1 => fz v m1) := bind_fr (ev_fr e ρ m) fun v m1 => fz_fr
    rw [q]
    cases ((ev Φ e ρ m).bind fun v m1 => fz v m1) with
    | ok x m1 => rfl
    | ex x m1 => show ofO ((told x).map Val.d) (P ++ m1) = frV P (ofO ((told x).map Val.d) m1); cases told x <;> rfl
    | no => rfl
  | .bin o a b, ρ, m => bind_fr (ev_fr a ρ m) fun v m1 => bind_fr (ev_fr b ρ m1) fun w m2 => opR_fr
  | .neg a, ρ, m => bind_fr (ev_fr a ρ m) fun v m1 => by
    rw [rd_fr]
    cases rd v m1 with
    | none => rfl
    | some d => cases d <;> rfl
  | .not a, ρ, m => bind_fr (f := id) (bind_fr (ev_fr a ρ m) fun v m1 => truR_fr) fun b m1 => rfl
  | .and a b, ρ, m => bind_fr (ev_fr a ρ m) fun v m1 => bind_fr (f := id) truR_fr fun t m2 => by
    cases t with
    | true => exact ev_fr b ρ m2
    | false => rfl
  | .or a b, ρ, m => bind_fr (ev_fr a ρ m) fun v m1 => bind_fr (f := id) truR_fr fun t m2 => by
    cases t with
    | true => rfl
    | false => exact ev_fr b ρ m2
  | .cmp c a b, ρ, m => bind_fr (ev_fr a ρ m) fun v m1 => bind_fr (ev_fr b ρ m1) fun w m2 => cmR_fr
  | .chain c c' a b e, ρ, m => bind_fr (ev_fr a ρ m) fun v m1 => bind_fr (ev_fr b ρ m1) fun w m2 => bind_fr cmR_fr fun t m3 => by
    cases t with
    | r n => rfl
    | d x =>
      cases x with
      | bool q =>
        cases q with
        | true => exact bind_fr (ev_fr e ρ m3) fun u m4 => cmR_fr
        | false => rfl
      | _ => rfl
  | .ite c a b, ρ, m => bind_fr (f := id) (bind_fr (ev_fr c ρ m) fun v m1 => truR_fr) fun t m1 => by
    cases t with
    | true => exact ev_fr a ρ m1
    | false => exact ev_fr b ρ m1
  | .idx a i, ρ, m => bind_fr (ev_fr a ρ m) fun v m1 => bind_fr (ev_fr i ρ m1) fun w m2 => by
    rw [rd_fr, rd_fr]
    cases rd v m2 with
    | none => rfl
    | some x =>
      cases rd w m2 with
      | none => rfl
      | some y =>
        dsimp only
        cases ixF x y <;> rfl
  | .sli a lo hi, ρ, m => bind_fr (ev_fr a ρ m) fun v m1 => bind_fr (f := id) (evO_fr lo ρ m1) fun l m2 => bind_fr (f := id) (evO_fr hi ρ m2) fun h m3 => by
    rw [rd_fr]
    cases rd v m3 with
    | none => rfl
    | some x =>
      dsimp only [id]
      cases slF x l h with
      | none => rfl
      | some z => exact put_fr
  | .rev a, ρ, m => bind_fr (ev_fr a ρ m) fun v m1 => by
    rw [rd_fr]
    cases rd v m1 with
    | none => rfl
    | some x =>
      dsimp only
      cases revF x with
      | none => rfl
      | some z => exact put_fr
  | .call f es, ρ, m => bind_fr (evs_fr es ρ m) fun vs m1 => hΦ f vs m1
  | .blt b es, ρ, m => bind_fr (evs_fr es ρ m) fun vs m1 => by
    rw [rdAll_fr]
    cases rdAll m1 vs with
    | none => rfl
    | some xs =>
      dsimp only
      cases blF b xs with
      | none => rfl
      | some z => exact put_fr
  | .isi e ts, ρ, m => bind_fr (ev_fr e ρ m) fun v m1 => by
    rw [rd_fr]
    cases rd v m1 with
    | none => rfl
    | some x =>
      dsimp only
      cases isiF ts x <;> rfl
  | .app o e, ρ, m => bind_fr (ev_fr o ρ m) fun v m1 => by
    have : isLst (sh P.length v) (P ++ m1) = isLst v m1 := by
      unfold isLst
      rw [rd_fr]
    rw [this]
    cases isLst v m1 with
    | false => rfl
    | true => exact bind_fr (ev_fr e ρ m1) fun w m2 => bind_fr (f := id) fz_fr fun x m3 => app1_fr
  | .mpop o, ρ, m => bind_fr (ev_fr o ρ m) fun v m1 => pop1_fr
  | .mget o k x, ρ, m => bind_fr (ev_fr o ρ m) fun v m1 => by
    have : isDic (sh P.length v) (P ++ m1) = isDic v m1 := by
      unfold isDic
      rw [rd_fr]
    rw [this]
    cases isDic v m1 with
    | false => rfl
    | true =>
      refine bind_fr (ev_fr k ρ m1) fun w m2 => bind_fr (f := id) fz_fr fun y m3 => bind_fr (ev_fr x ρ m3) fun u m4 => bind_fr (f := id) fz_fr fun z m5 => ?_
      rw [rd_fr]
      cases rd v m5 with
      | none => rfl
      | some d =>
        cases d with
        | dict kvs =>
          dsimp only [id]
          split <;> rfl
        | _ => rfl
  | .midx o e, ρ, m => bind_fr (ev_fr o ρ m) fun v m1 => by
    cases v with
    | r n => rfl
    | d x =>
      cases x with
      | str a =>
          refine bind_fr (ev_fr e ρ m1) fun w m2 => ?_
          rw [rd_fr]
          cases rd w m2 with
          | none => rfl
          | some y =>
            cases y with
            | str b =>
              dsimp only
              cases Builtin.Str.occurrences a b 0 a.length 1 <;> rfl
            | _ => rfl
      | _ => rfl
  | .join o e, ρ, m => bind_fr (ev_fr o ρ m) fun v m1 => by
    cases v with
    | r n => rfl
    | d x =>
      cases x with
      | str a =>
          refine bind_fr (ev_fr e ρ m1) fun w m2 => ?_
          rw [rd_fr]
          cases rd w m2 with
          | none => rfl
          | some y =>
            dsimp only
            cases joinF (.str a) y <;> rfl
      | _ => rfl
  | .split o e, ρ, m => bind_fr (ev_fr o ρ m) fun v m1 => by
    cases v with
    | r n => rfl
    | d x =>
      cases x with
      | str a =>
          refine bind_fr (ev_fr e ρ m1) fun w m2 => ?_
          rw [rd_fr]
          cases rd w m2 with
          | none => rfl
          | some y =>
            dsimp only
            cases splitF (.str a) y with
            | none => rfl
            | some zs => exact put_fr
      | _ => rfl
  | .count _ _, _, _ => rfl
  | .comp elt t it c own, ρ, m => bind_fr (f := id) (evI_fr it ρ m) fun xs m1 => bind_fr (f := id) (by
      show R.calm (compLoop _ xs [] (P ++ m1)) = _
      rw [← calm_fr]
      refine congrArg R.calm (compLoop_fr fun x m2 => ?_)
      rw [wipe_fr, asgD_fr]
      cases asgD t x (wipeE ρ own) with
      | none => rfl
      | some ρ1 =>
          refine bind_fr (f := id) (evC_fr c ρ1 m2) fun b m3 => ?_
          cases b with
          | false => rfl
          | true => exact bind_fr (ev_fr elt ρ1 m3) fun v m4 => bind_fr (f := id) fz_fr fun y m5 => rfl) fun ys m6 => put_fr
  | .comp2 elt t it t2 it2 c own own2, ρ, m => bind_fr (f := id) (evI_fr it ρ m) fun xs m1 => bind_fr (f := id) (by
      show R.calm (flatLoop _ xs [] (P ++ m1)) = _
      rw [← calm_fr]
      refine congrArg R.calm (flatLoop_fr fun x m2 => ?_)
      rw [wipe_fr, asgD_fr]
      cases asgD t x (wipeE ρ own) with
      | none => rfl
      | some ρ1 =>
          refine bind_fr (f := id) (evI_fr it2 ρ1 m2) fun ys m3 => compLoop_fr fun y m4 => ?_
          rw [wipe_fr, asgD_fr]
          cases asgD t2 y (wipeE ρ1 own2) with
          | none => rfl
          | some ρ2 =>
            refine bind_fr (f := id) (evC_fr c ρ2 m4) fun b m5 => ?_
            cases b with
            | false => rfl
            | true => exact bind_fr (ev_fr elt ρ2 m5) fun v m6 => bind_fr (f := id) fz_fr fun z m7 => rfl) fun ys m6 => put_fr
  | .dcomp k v t it own, ρ, m => bind_fr (f := id) (evI_fr it ρ m) fun xs m1 => bind_fr (f := id) (by
      show R.calm (compLoop _ xs [] (P ++ m1)) = _
      rw [← calm_fr]
      refine congrArg R.calm (compLoop_fr fun x m2 => ?_)
      rw [wipe_fr, asgD_fr]
      cases asgD t x (wipeE ρ own) with
      | none => rfl
      | some ρ1 => exact bind_fr (ev_fr k ρ1 m2) fun v1 m4 => bind_fr (f := id) fz_fr fun y m5 => bind_fr (ev_fr v ρ1 m5) fun v2 m6 => bind_fr (f := id) fz_fr fun z m7 => rfl) fun ys m6 => by
    dsimp only [id]
    cases pairsF ys [] with
    | none => rfl
    | some kvs => exact put_fr
theorem evs_fr : ∀ (e : PXs F) (ρ : Env) (m : Store), evs Φ e (shE P.length ρ) (P ++ m) = frA (List.map (sh P.length)) P (evs Φ e ρ m)
  | .nil, _, _ => rfl
  | .cons k e r, ρ, m => bind_fr (ev_fr e ρ m) fun v m1 => bind_fr (f := sh P.length) (by
      cases k with
      | true => rfl
      | false => exact bind_fr (f := id) fz_fr fun x m2 => rfl) fun w m3 => bind_fr (evs_fr r ρ m3) fun ws m4 => rfl
theorem evO_fr : ∀ (e : PO F) (ρ : Env) (m : Store), evO Φ e (shE P.length ρ) (P ++ m) = frI P (evO Φ e ρ m)
  | .no, _, _ => rfl
  | .so e, ρ, m => bind_fr (ev_fr e ρ m) fun v m1 => partI_fr
theorem evC_fr : ∀ (e : PO F) (ρ : Env) (m : Store), evC Φ e (shE P.length ρ) (P ++ m) = frI P (evC Φ e ρ m)
  | .no, _, _ => rfl
  | .so e, ρ, m => bind_fr (ev_fr e ρ m) fun v m1 => truR_fr
theorem evI_fr : ∀ (e : DL.It F) (ρ : Env) (m : Store), evI Φ e (shE P.length ρ) (P ++ m) = frI P (evI Φ e ρ m)
  | .of e, ρ, m => bind_fr (ev_fr e ρ m) fun v m1 => bind_fr (f := id) fz_fr fun x m2 => by
    dsimp only [id]
    cases walkOf x <;> rfl
  | .rng1 e, ρ, m => bind_fr (ev_fr e ρ m) fun v m1 => by
    rw [rd_fr]
    cases rd v m1 with
    | none => rfl
    | some d =>
      cases d with
      | int j =>
        dsimp only
        split <;> rfl
      | _ => rfl
  | .rng2 a b, ρ, m => bind_fr (ev_fr a ρ m) fun v m1 => bind_fr (ev_fr b ρ m1) fun w m2 => by
    rw [rd_fr, rd_fr]
    cases rd v m2 with
    | none => rfl
    | some d =>
      cases rd w m2 with
      | none => cases d <;> rfl
      | some d2 =>
        cases d with
        | int i =>
          cases d2 with
          | int j =>
            dsimp only
            split <;> rfl
          | _ => rfl
        | _ => rfl
  | .rng3 a b c, ρ, m => bind_fr (ev_fr a ρ m) fun v m1 => bind_fr (ev_fr b ρ m1) fun w m2 => bind_fr (ev_fr c ρ m2) fun u m3 => by
    rw [rd_fr, rd_fr, rd_fr]
    cases rd v m3 with
    | none => rfl
    | some d =>
      cases rd w m3 with
      | none => cases d <;> rfl
      | some d2 =>
        cases rd u m3 with
        | none => cases d <;> cases d2 <;> rfl
        | some d3 =>
          cases d with
          | int i =>
            cases d2 with
            | int j =>
              cases d3 with
              | int k =>
                dsimp only
                split <;> rfl
              | _ => rfl
            | _ => rfl
          | _ => rfl
  | .enum e, ρ, m => bind_fr (ev_fr e ρ m) fun v m1 => bind_fr (f := id) fz_fr fun x m2 => by
    dsimp only [id]
    cases seqOf x <;> rfl
  | .zip a b, ρ, m => bind_fr (ev_fr a ρ m) fun v m1 => bind_fr (f := id) fz_fr fun x m2 => bind_fr (ev_fr b ρ m2) fun w m3 => bind_fr (f := id) fz_fr fun y m4 => by
    dsimp only [id]
    cases seqOf x with
    | none => rfl
    | some xs =>
      cases seqOf y with
      | none => rfl
      | some ys =>
        dsimp only
        split <;> rfl
end
theorem evT_fr (e : PX F) (ρ : Env) (m : Store) : evT Φ e (shE P.length ρ) (P ++ m) = frI P (evT Φ e ρ m) := bind_fr (ev_fr hΦ e ρ m) fun v m1 => truR_fr
mutual
theorem evS_fr : ∀ (s : PS F) (ρ : Env) (m : Store), evS Φ L s (shE P.length ρ) (P ++ m) = frF P (evS Φ L s ρ m)
  | .asg t e, ρ, m => bind_fr (ev_fr hΦ e ρ m) fun v m1 => by
    cases t with
    | nm i => show R.ok (Fl.nx _) _ = R.ok (Fl.nx _) _; rw [set_env]
    | tp is =>
      dsimp only
      rw [rd_fr]
      cases rd v m1 with
      | none => rfl
      | some x =>
        dsimp only
        rw [asgD_fr]
        cases asgD (.tp is) x ρ <;> rfl
  | .set o i e, ρ, m => bind_fr (ev_fr hΦ e ρ m) fun v m1 => bind_fr (f := id) fz_fr fun x m2 => bind_fr (ev_fr hΦ o ρ m2) fun w m3 => bind_fr (ev_fr hΦ i ρ m3) fun k m4 => bind_fr (f := id) setAny_fr fun _ m5 => rfl
  | .par is es, ρ, m => bind_fr (evs_fr hΦ es ρ m) fun vs m1 => by
    match is, vs with
    | [i, j], [v, w] => show R.ok (Fl.nx _) _ = R.ok (Fl.nx _) _; rw [set_env, set_env]
    | [i, j, k], [v, w, u] => show R.ok (Fl.nx _) _ = R.ok (Fl.nx _) _; rw [set_env, set_env, set_env]
    | [], _ => rfl
    | [_], _ => rfl
    | [_, _], [] => rfl
    | [_, _], [_] => rfl
    | [_, _], _ :: _ :: _ :: _ => rfl
    | [_, _, _], [] => rfl
    | [_, _, _], [_] => rfl
    | [_, _, _], [_, _] => rfl
    | [_, _, _], _ :: _ :: _ :: _ :: _ => rfl
    | _ :: _ :: _ :: _ :: _, _ => rfl
  | .aug i o e, ρ, m => by
    show (match (shE P.length ρ)[i]? with | some (some v) => (ev Φ e (shE P.length ρ) (P ++ m)).bind _ | _ => .no) = frF P (match ρ[i]? with | some (some v) => (ev Φ e ρ m).bind _ | _ => .no)
    have : (shE P.length ρ)[i]? = (ρ[i]?).map (Option.map (sh P.length)) := List.getElem?_map
    rw [this]
    cases ρ[i]? with
    | none => rfl
    | some q =>
      cases q with
      | none => rfl
      | some v => exact bind_fr (ev_fr hΦ e ρ m) fun w m1 => bind_fr augR_fr fun u m2 => by show R.ok (Fl.nx _) _ = R.ok (Fl.nx _) _; rw [set_env]
  | .ex e, ρ, m => bind_fr (ev_fr hΦ e ρ m) fun v m1 => rfl
  | .iff c a b, ρ, m => bind_fr (f := id) (evT_fr hΦ c ρ m) fun t m1 => by
    cases t with
    | true => exact evSs_fr a ρ m1
    | false => exact evSs_fr b ρ m1
  | .for t it b, ρ, m => bind_fr (f := id) (evI_fr hΦ it ρ m) fun xs m1 => forLoop_fr fun x ρ1 m2 => by
    rw [asgD_fr]
    cases asgD t x ρ1 with
    | none => rfl
    | some ρ2 => exact evSs_fr b ρ2 m2
  | .whl c b, ρ, m => whileLoop_fr (fun ρ1 m1 => evT_fr hΦ c ρ1 m1) fun ρ1 m1 => evSs_fr b ρ1 m1
  | .ret e, ρ, m => bind_fr (ev_fr hΦ e ρ m) fun v m1 => rfl
  | .ret0, _, _ => rfl
  | .pass, _, _ => rfl
  | .rais c es, ρ, m => by
    show (if c = 0 then R.no else (evs Φ es (shE P.length ρ) (P ++ m)).bind fun vs m1 => match allD vs with | some xs => R.ex ⟨c, xs⟩ m1 | none => .no) = frF P (if c = 0 then R.no else (evs Φ es ρ m).bind fun vs m1 => match allD vs with | some xs => R.ex ⟨c, xs⟩ m1 | none => .no)
    split
    · rfl
    · refine bind_fr (evs_fr hΦ es ρ m) fun vs m1 => ?_
      rw [allD_fr]
      cases allD vs <;> rfl
theorem evSs_fr : ∀ (s : PSs F) (ρ : Env) (m : Store), evSs Φ L s (shE P.length ρ) (P ++ m) = frF P (evSs Φ L s ρ m)
  | .nil, _, _ => rfl
  | .cons s r, ρ, m => bind_fr (evS_fr s ρ m) fun o m1 => by
    cases o with
    | nx ρ1 => exact evSs_fr r ρ1 m1
    | rt v => rfl
end
theorem leave_fr {k : Nat} {v : Val} {m : Store} : leave (k + P.length) (sh P.length v) (P ++ m) = frV P (leave k v m) := by
  have tk : (P ++ m).take (k + P.length) = P ++ m.take k := by rw [Nat.add_comm]; exact take_fr
  cases v with
  | d x => show R.ok _ _ = R.ok _ _; rw [tk]; rfl
  | r j =>
    show (if j + P.length < k + P.length then R.ok (.r (j + P.length)) ((P ++ m).take (k + P.length)) else match (P ++ m)[j + P.length]? with | some (.fz x) => .ok (.d x) ((P ++ m).take (k + P.length)) | some c => .ok (.r (k + P.length)) ((P ++ m).take (k + P.length) ++ [c]) | none => .no) =
      frV P (if j < k then R.ok (.r j) (m.take k) else match m[j]? with | some (.fz x) => .ok (.d x) (m.take k) | some c => .ok (.r k) (m.take k ++ [c]) | none => .no)
    rw [tk, at_fr]
    by_cases hj : j < k
    · rw [if_pos hj, if_pos (by omega)]
      rfl
    · rw [if_neg hj, if_neg (by omega)]
      cases m[j]? with
      | none => rfl
      | some c => cases c <;> (show R.ok _ _ = R.ok _ _) <;> simp [sh]
theorem evFn_fr (fn : Fn F) (vs : List Val) (m : Store) : evFn Φ L fn (vs.map (sh P.length)) (P ++ m) = frV P (evFn Φ L fn vs m) := by
  unfold evFn
  rw [List.length_map]
  by_cases hl : vs.length = fn.ps
  · rw [if_pos hl, if_pos hl]
    have he : (vs.map (sh P.length)).map some ++ List.replicate (fn.ns - fn.ps) none = shE P.length (vs.map some ++ List.replicate (fn.ns - fn.ps) none) := by
      unfold shE
      rw [List.map_append, List.map_map, List.map_map, List.map_replicate]
      rfl
    rw [he, evSs_fr hΦ]
    have tk : ∀ m1 : Store, (P ++ m1).take (P ++ m).length = P ++ m1.take m.length := fun m1 => by rw [List.length_append]; exact take_fr
    cases evSs Φ L fn.body (vs.map some ++ List.replicate (fn.ns - fn.ps) none) m with
    | no => rfl
    | ex x m1 => show R.ex _ _ = R.ex _ _; rw [tk]
    | ok o m1 =>
      cases o with
      | nx ρ => show R.ok _ _ = R.ok _ _; rw [tk]; rfl
      | rt v =>
        show leave (P ++ m).length (sh P.length v) (P ++ m1) = frV P (leave m.length v m1)
        rw [List.length_append, Nat.add_comm]
        exact leave_fr hΦ
  · rw [if_neg hl, if_neg hl]
    rfl
end
theorem call_fr {F : Type} {tab : F → Fn F} {L : Nat} {P : Store} : ∀ (n : Nat) (f : F) (vs : List Val) (m : Store), callF tab L n f (vs.map (sh P.length)) (P ++ m) = frV P (callF tab L n f vs m)
  | 0, _, _, _ => rfl
  | n + 1, f, vs, m => evFn_fr (Φ := callF tab L n) (fun f vs m => call_fr n f vs m) (tab f) vs m
/-- a call with data alone, told at the empty store -/
theorem lift {F : Type} {tab : F → Fn F} {L n : Nat} {f : F} {xs : List D} {y : D} (h : callF tab L n f (xs.map .d) [] = .ok (.d y) []) (m : Store) : callF tab L n f (xs.map .d) m = .ok (.d y) m := by
  have q := call_fr (tab := tab) (L := L) (P := m) n f (xs.map .d) []
  rw [List.append_nil, h] at q
  have e : (xs.map Val.d).map (sh m.length) = xs.map .d := by
    rw [List.map_map]
    rfl
  rw [e] at q
  rw [q]
  show R.ok _ (m ++ []) = _
  rw [List.append_nil]
  rfl
/-- the answer is a new list -/
theorem liftL {F : Type} {tab : F → Fn F} {L n : Nat} {f : F} {xs ys : List D} (h : callF tab L n f (xs.map .d) [] = .ok (.r 0) [.lst ys]) (m : Store) : callF tab L n f (xs.map .d) m = .ok (.r m.length) (m ++ [.lst ys]) := by
  have q := call_fr (tab := tab) (L := L) (P := m) n f (xs.map .d) []
  rw [List.append_nil, h] at q
  have e : (xs.map Val.d).map (sh m.length) = xs.map .d := by
    rw [List.map_map]
    rfl
  rw [e] at q
  rw [q]
  show R.ok (Val.r (0 + m.length)) _ = _
  rw [Nat.zero_add]
/-- a call with data alone, told at the empty store -/
theorem liftG {F : Type} {tab : F → Fn F} {L n : Nat} {f : F} {xs : List D} (m : Store) : callF tab L n f (xs.map .d) m = frV m (callF tab L n f (xs.map .d) []) := by
  have q := call_fr (tab := tab) (L := L) (P := m) n f (xs.map .d) []
  rw [List.append_nil] at q
  have e : (xs.map Val.d).map (sh m.length) = xs.map .d := by
    rw [List.map_map]
    rfl
  rw [e] at q
  exact q
/-- the answer is a new thing -/
theorem liftC {F : Type} {tab : F → Fn F} {L n : Nat} {f : F} {xs : List D} {c : Cell} (h : callF tab L n f (xs.map .d) [] = .ok (.r 0) [c]) (m : Store) : callF tab L n f (xs.map .d) m = .ok (.r m.length) (m ++ [c]) := by
  rw [liftG, h]
  show R.ok (Val.r (0 + m.length)) _ = _
  rw [Nat.zero_add]
/-- an error -/
theorem liftX {F : Type} {tab : F → Fn F} {L n : Nat} {f : F} {xs : List D} {x : Exn} (h : callF tab L n f (xs.map .d) [] = .ex x []) (m : Store) : callF tab L n f (xs.map .d) m = .ex x m := by
  rw [liftG, h]
  show R.ex x (m ++ []) = _
  rw [List.append_nil]
end DL
end
section
set_option Elab.async false
set_option linter.all false
set_option maxRecDepth 100000
set_option maxHeartbeats 4000000
/-! SO: sorted lists of data of one form: the order of what is sorted does not matter. -/
namespace DL
open PySem PySem.W PyProof.Rows
mutual
theorem toks_inj : ∀ (x y : D) (l m : List (Int ⊕ List Nat)), alike x y = true → keyToks x ++ l = keyToks y ++ m → x = y ∧ l = m
  | .none, .none, l, m, _, e => ⟨rfl, by simpa [keyToks] using e⟩
  | .bool a, .bool b, l, m, _, e => by
    simp [keyToks] at e
    obtain ⟨e1, e2⟩ := e
    refine ⟨?_, e2⟩
    cases a <;> cases b <;> simp_all
  | .int a, .int b, l, m, _, e => by
    simp [keyToks] at e
    exact ⟨by rw [e.1], e.2⟩
  | .str a, .str b, l, m, _, e => by
    simp only [keyToks, List.cons_append, List.nil_append, List.cons.injEq, Sum.inr.injEq] at e
    exact ⟨by rw [str_of_cps e.1], e.2⟩
  | .list xs, .list ys, l, m, h, e => by
    have q := toksAll_inj xs ys l m (by simpa [alike] using h) (by simpa [keyToks] using e)
    exact ⟨by rw [q.1], q.2⟩
  | .tuple xs, .tuple ys, l, m, h, e => by
    have q := toksAll_inj xs ys l m (by simpa [alike] using h) (by simpa [keyToks] using e)
    exact ⟨by rw [q.1], q.2⟩
  | .none, .bool _, _, _, h, _ => by simp [alike] at h
  | .none, .int _, _, _, h, _ => by simp [alike] at h
  | .none, .str _, _, _, h, _ => by simp [alike] at h
  | .none, .list _, _, _, h, _ => by simp [alike] at h
  | .none, .tuple _, _, _, h, _ => by simp [alike] at h
  | .none, .dict _, _, _, h, _ => by simp [alike] at h
  | .bool _, .none, _, _, h, _ => by simp [alike] at h
  | .bool _, .int _, _, _, h, _ => by simp [alike] at h
  | .bool _, .str _, _, _, h, _ => by simp [alike] at h
  | .bool _, .list _, _, _, h, _ => by simp [alike] at h
  | .bool _, .tuple _, _, _, h, _ => by simp [alike] at h
  | .bool _, .dict _, _, _, h, _ => by simp [alike] at h
  | .int _, .none, _, _, h, _ => by simp [alike] at h
  | .int _, .bool _, _, _, h, _ => by simp [alike] at h
  | .int _, .str _, _, _, h, _ => by simp [alike] at h
  | .int _, .list _, _, _, h, _ => by simp [alike] at h
  | .int _, .tuple _, _, _, h, _ => by simp [alike] at h
  | .int _, .dict _, _, _, h, _ => by simp [alike] at h
  | .str _, .none, _, _, h, _ => by simp [alike] at h
  | .str _, .bool _, _, _, h, _ => by simp [alike] at h
  | .str _, .int _, _, _, h, _ => by simp [alike] at h
  | .str _, .list _, _, _, h, _ => by simp [alike] at h
  | .str _, .tuple _, _, _, h, _ => by simp [alike] at h
  | .str _, .dict _, _, _, h, _ => by simp [alike] at h
  | .list _, .none, _, _, h, _ => by simp [alike] at h
  | .list _, .bool _, _, _, h, _ => by simp [alike] at h
  | .list _, .int _, _, _, h, _ => by simp [alike] at h
  | .list _, .str _, _, _, h, _ => by simp [alike] at h
  | .list _, .tuple _, _, _, h, _ => by simp [alike] at h
  | .list _, .dict _, _, _, h, _ => by simp [alike] at h
  | .tuple _, .none, _, _, h, _ => by simp [alike] at h
  | .tuple _, .bool _, _, _, h, _ => by simp [alike] at h
  | .tuple _, .int _, _, _, h, _ => by simp [alike] at h
  | .tuple _, .str _, _, _, h, _ => by simp [alike] at h
  | .tuple _, .list _, _, _, h, _ => by simp [alike] at h
  | .tuple _, .dict _, _, _, h, _ => by simp [alike] at h
  | .dict _, y, _, _, h, _ => by cases y <;> simp [alike] at h
theorem toksAll_inj : ∀ (xs ys : List D) (l m : List (Int ⊕ List Nat)), alikeAll xs ys = true → keyToksAll xs ++ l = keyToksAll ys ++ m → xs = ys ∧ l = m
  | [], [], l, m, _, e => ⟨rfl, by simpa [keyToksAll] using e⟩
  | [], y :: ys, l, m, _, e => by simp [keyToksAll] at e
  | x :: xs, [], l, m, _, e => by simp [keyToksAll] at e
  | x :: xs, y :: ys, l, m, h, e => by
    rw [alikeAll, Bool.and_eq_true] at h
    simp only [keyToksAll, List.cons_append, List.append_assoc, List.cons.injEq, true_and] at e
    obtain ⟨e1, e2⟩ := toks_inj x y _ _ h.1 e
    obtain ⟨e3, e4⟩ := toksAll_inj xs ys _ _ h.2 e2
    exact ⟨by rw [e1, e3], e4⟩
end
theorem le_anti {a b : D} (h : alike a b = true) (h1 : dataLe false id a b = true) (h2 : dataLe false id b a = true) : a = b := by
  have k1 : lexLt itemOrd (keyToks b) (keyToks a) = false := by
    have q : (!lexLt itemOrd (keyToks b) (keyToks a)) = true := h1
    simpa using q
  have k2 : lexLt itemOrd (keyToks a) (keyToks b) = false := by
    have q : (!lexLt itemOrd (keyToks a) (keyToks b)) = true := h2
    simpa using q
  have e : keyToks a = keyToks b := (listOrd itemOrd).total _ _ k2 k1
  exact (toks_inj a b [] [] h (by rw [e])).1
theorem sortD_pair (xs : List D) : (sortD xs).Pairwise fun a b => dataLe false id a b = true :=
  sort_pairwise (sortLe_total (listOrd itemOrd) false fun b : D => keyToks (id b)) xs
theorem sortD_perm {xs ys : List D} (p : xs.Perm ys) (h : ∀ a ∈ xs, ∀ b ∈ xs, alike a b = true) : sortD xs = sortD ys := by
  refine List.Perm.eq_of_pairwise (le := fun a b => dataLe false id a b = true) (fun a b ha hb h1 h2 => le_anti (h a ?_ b ?_) h1 h2) (sortD_pair xs) (sortD_pair ys) (((List.mergeSort_perm xs _).trans p).trans (List.mergeSort_perm ys _).symm)
  · exact (List.mergeSort_perm xs _).mem_iff.mp ha
  · exact p.mem_iff.mpr ((List.mergeSort_perm ys _).mem_iff.mp hb)
theorem sortD_len (xs : List D) : (sortD xs).length = xs.length := (List.mergeSort_perm xs _).length_eq
end DL
end
section
set_option Elab.async false
set_option linter.all false
set_option maxRecDepth 100000
set_option maxHeartbeats 4000000
/-! BG: the bodies. -/
namespace DL.G
open PySem DL
abbrev S (x : String) : Str := Str.ofString x
/-- is_word -/
def b0 : PSs Nat := (.cons (.ret (.and (.isi (.loc 0) [.str]) (.cmp .isin (.loc 0) (.loc 1)))) .nil)
def f0 : Fn Nat := ⟨2, 2, b0⟩
/-- is_habit_value -/
def b1 : PSs Nat := (.cons (.iff (.or (.not (.isi (.loc 0) [.tuple])) (.or (.cmp .ne (.blt .len (.cons false (.loc 0) .nil)) (.lit (.int (5)))) (.not (.isi (.idx (.loc 0) (.lit (.int (0)))) [.bool])))) (.cons (.ret (.lit (.bool false))) .nil) .nil) (.cons (.iff (.or (.not (.call 0 (.cons false (.idx (.loc 0) (.lit (.int (1)))) (.cons false (.lit (.tuple [(.str (S "both")), (.str (S "none")), (.str (S "own"))])) .nil)))) (.not (.call 0 (.cons false (.idx (.loc 0) (.lit (.int (2)))) (.cons false (.lit (.tuple [(.str (S "either")), (.str (S "same"))])) .nil))))) (.cons (.ret (.lit (.bool false))) .nil) .nil) (.cons (.ret (.and (.call 0 (.cons false (.idx (.loc 0) (.lit (.int (3)))) (.cons false (.lit (.tuple [(.str (S "both")), (.str (S "own"))])) .nil))) (.call 0 (.cons false (.idx (.loc 0) (.lit (.int (4)))) (.cons false (.lit (.tuple [(.str (S "all")), (.str (S "bolts")), (.str (S "never")), (.str (S "undoing"))])) .nil))))) .nil)))
def f1 : Fn Nat := ⟨1, 1, b1⟩
/-- is_home -/
def b2 : PSs Nat := (.cons (.iff (.or (.not (.isi (.loc 0) [.tuple])) (.not (.chain .le .le (.lit (.int (1))) (.blt .len (.cons false (.loc 0) .nil)) (.lit (.int (2)))))) (.cons (.ret (.lit (.bool false))) .nil) .nil) (.cons (.ret (.blt .all (.cons false (.comp (.call 1 (.cons false (.loc 1) .nil)) (.nm 1) (.of (.loc 0)) .no [1]) .nil))) .nil))
def f2 : Fn Nat := ⟨1, 2, b2⟩
/-- is_pair -/
def b3 : PSs Nat := (.cons (.ret (.and (.isi (.loc 0) [.tuple]) (.cmp .eq (.blt .len (.cons false (.loc 0) .nil)) (.lit (.int (2)))))) .nil)
def f3 : Fn Nat := ⟨1, 1, b3⟩
/-- is_house_value -/
def b4 : PSs Nat := (.cons (.iff (.or (.not (.isi (.loc 0) [.tuple])) (.cmp .ne (.blt .len (.cons false (.loc 0) .nil)) (.lit (.int (5))))) (.cons (.ret (.lit (.bool false))) .nil) .nil) (.cons (.asg (.tp [1, 2, 3, 4, 5]) (.loc 0)) (.cons (.iff (.or (.not (.call 0 (.cons false (.loc 1) (.cons false (.lit (.tuple [(.str (S "bolts")), (.str (S "none")), (.str (S "within"))])) .nil)))) (.not (.isi (.loc 2) [.bool]))) (.cons (.ret (.lit (.bool false))) .nil) .nil) (.cons (.iff (.or (.not (.call 3 (.cons false (.loc 3) .nil))) (.or (.not (.call 3 (.cons false (.loc 4) .nil))) (.not (.call 3 (.cons false (.loc 5) .nil))))) (.cons (.ret (.lit (.bool false))) .nil) .nil) (.cons (.iff (.or (.not (.blt .all (.cons false (.comp (.isi (.loc 6) [.bool]) (.nm 6) (.of (.loc 3)) .no [6]) .nil))) (.not (.blt .all (.cons false (.comp (.call 0 (.cons false (.loc 6) (.cons false (.lit (.tuple [(.str (S "any")), (.str (S "leaving")), (.str (S "none"))])) .nil))) (.nm 6) (.of (.loc 4)) .no [6]) .nil)))) (.cons (.ret (.lit (.bool false))) .nil) .nil) (.cons (.ret (.blt .all (.cons false (.comp (.call 2 (.cons false (.loc 6) .nil)) (.nm 6) (.of (.loc 5)) .no [6]) .nil))) .nil))))))
def f4 : Fn Nat := ⟨1, 7, b4⟩
/-- need_house -/
def b5 : PSs Nat := (.cons (.iff (.not (.call 4 (.cons false (.loc 0) .nil))) (.cons (.rais 0 .nil) .nil) .nil) .nil)
def f5 : Fn Nat := ⟨1, 1, b5⟩
/-- parts_of -/
def b6 : PSs Nat := (.cons (.asg (.tp [1, 2, 3, 4, 5]) (.loc 0)) (.cons (.asg (.nm 6) (.bin .add (.bin .add (.tup (.cons false (.loc 1) (.cons false (.loc 2) .nil))) (.loc 3)) (.loc 4))) (.cons (.for (.nm 7) (.of (.loc 5)) (.cons (.for (.nm 8) (.of (.loc 7)) (.cons (.asg (.nm 6) (.bin .add (.loc 6) (.loc 8))) .nil)) .nil)) (.cons (.ret (.loc 6)) .nil))))
def f6 : Fn Nat := ⟨1, 9, b6⟩
/-- house_of -/
def b7 : PSs Nat := (.cons (.asg (.nm 2) (.sli (.loc 0) (.so (.lit (.int (6)))) .no)) (.cons (.asg (.nm 3) (.blt .tuple (.cons false (.comp (.sli (.loc 2) (.so (.loc 4)) (.so (.bin .add (.loc 4) (.lit (.int (5)))))) (.nm 4) (.rng3 (.lit (.int (0))) (.blt .len (.cons false (.loc 2) .nil)) (.lit (.int (5)))) .no [4]) .nil))) (.cons (.ret (.tup (.cons false (.idx (.loc 0) (.lit (.int (0)))) (.cons false (.idx (.loc 0) (.lit (.int (1)))) (.cons false (.sli (.loc 0) (.so (.lit (.int (2)))) (.so (.lit (.int (4))))) (.cons false (.sli (.loc 0) (.so (.lit (.int (4)))) (.so (.lit (.int (6))))) (.cons false (.tup (.cons false (.sli (.loc 3) .no (.so (.loc 1))) (.cons false (.sli (.loc 3) (.so (.loc 1)) .no) .nil))) .nil))))))) .nil)))
def f7 : Fn Nat := ⟨2, 5, b7⟩
/-- values_of -/
def b8 : PSs Nat := (.cons (.iff (.cmp .lt (.loc 0) (.lit (.int (6)))) (.cons (.ret (.idx (.tup (.cons false (.lit (.tuple [(.str (S "bolts")), (.str (S "none")), (.str (S "within"))])) (.cons false (.lit (.tuple [(.bool false), (.bool true)])) (.cons false (.lit (.tuple [(.bool false), (.bool true)])) (.cons false (.lit (.tuple [(.bool false), (.bool true)])) (.cons false (.lit (.tuple [(.str (S "any")), (.str (S "leaving")), (.str (S "none"))])) (.cons false (.lit (.tuple [(.str (S "any")), (.str (S "leaving")), (.str (S "none"))])) .nil))))))) (.loc 0))) .nil) .nil) (.cons (.ret (.idx (.tup (.cons false (.lit (.tuple [(.bool false), (.bool true)])) (.cons false (.lit (.tuple [(.str (S "both")), (.str (S "none")), (.str (S "own"))])) (.cons false (.lit (.tuple [(.str (S "either")), (.str (S "same"))])) (.cons false (.lit (.tuple [(.str (S "both")), (.str (S "own"))])) (.cons false (.lit (.tuple [(.str (S "all")), (.str (S "bolts")), (.str (S "never")), (.str (S "undoing"))])) .nil)))))) (.bin .mod (.bin .sub (.loc 0) (.lit (.int (6)))) (.lit (.int (5)))))) .nil))
def f8 : Fn Nat := ⟨1, 1, b8⟩
/-- changed -/
def b9 : PSs Nat := (.cons (.asg (.nm 2) (.lst .nil)) (.cons (.for (.nm 3) (.rng2 (.loc 1) (.blt .len (.cons false (.loc 0) .nil))) (.cons (.for (.nm 4) (.of (.call 8 (.cons false (.loc 3) .nil))) (.cons (.iff (.cmp .ne (.loc 4) (.idx (.loc 0) (.loc 3))) (.cons (.ex (.app (.loc 2) (.tup (.cons false (.loc 3) (.cons false (.bin .add (.bin .add (.sli (.loc 0) .no (.so (.loc 3))) (.tup (.cons false (.loc 4) .nil))) (.sli (.loc 0) (.so (.bin .add (.loc 3) (.lit (.int (1))))) .no)) .nil))))) .nil) .nil) .nil)) .nil)) (.cons (.ret (.loc 2)) .nil)))
def f9 : Fn Nat := ⟨2, 5, b9⟩
/-- ones -/
def b10 : PSs Nat := (.cons (.asg (.tp [1, 2]) (.tup (.cons false (.blt .len (.cons false (.idx (.idx (.loc 0) (.lit (.int (4)))) (.lit (.int (0)))) .nil)) (.cons false (.call 6 (.cons false (.loc 0) .nil)) .nil)))) (.cons (.ret (.blt .sorted (.cons false (.comp (.call 7 (.cons false (.loc 4) (.cons false (.loc 1) .nil))) (.tp [3, 4]) (.of (.call 9 (.cons false (.loc 2) (.cons false (.lit (.int (0))) .nil)))) .no [3, 4]) .nil))) .nil))
def f10 : Fn Nat := ⟨1, 5, b10⟩
/-- changes -/
def b11 : PSs Nat := (.cons (.ex (.call 5 (.cons false (.loc 0) .nil))) (.cons (.ret (.call 10 (.cons false (.loc 0) .nil))) .nil))
def f11 : Fn Nat := ⟨1, 1, b11⟩
/-- _law_deck -/
def b12 : PSs Nat := (.cons (.iff (.cmp .ge (.loc 0) (.bin .pow (.lit (.int (10))) (.lit (.int (18))))) (.cons (.ret (.lst (.cons false (.bin .sub (.loc 0) (.bin .pow (.lit (.int (10))) (.lit (.int (18))))) (.cons false (.bin .mod (.loc 0) (.lit (.int (2147483579)))) (.cons false (.loc 1) .nil))))) .nil) .nil) (.cons (.ret (.lst (.cons false (.lit (.int (0))) (.cons false (.bin .mod (.loc 0) (.lit (.int (2147483579)))) (.cons false (.loc 1) .nil))))) .nil))
def f12 : Fn Nat := ⟨2, 2, b12⟩
/-- _law_pick -/
def b13 : PSs Nat := (.cons (.iff (.cmp .gt (.idx (.loc 0) (.lit (.int (0)))) (.lit (.int (1)))) (.cons (.asg (.nm 3) (.bin .mod (.blt .int (.cons false (.idx (.loc 0) (.lit (.int (0)))) .nil)) (.loc 1))) (.cons (.set (.loc 0) (.lit (.int (0))) (.bin .fdiv (.idx (.loc 0) (.lit (.int (0)))) (.loc 1))) (.cons (.ret (.loc 3)) .nil))) .nil) (.cons (.set (.loc 0) (.lit (.int (2))) (.bin .add (.idx (.loc 0) (.lit (.int (2)))) (.lit (.int (1))))) (.cons (.asg (.nm 2) (.bin .mod (.bin .pow (.bin .add (.idx (.loc 0) (.lit (.int (1)))) (.bin .mul (.lit (.int (15485867))) (.idx (.loc 0) (.lit (.int (2)))))) (.lit (.int (5)))) (.lit (.int (2147483647))))) (.cons (.asg (.nm 3) (.bin .fdiv (.bin .mod (.bin .pow (.bin .add (.loc 2) (.bin .mul (.lit (.int (7919))) (.idx (.loc 0) (.lit (.int (2)))))) (.lit (.int (3)))) (.lit (.int (2147483629)))) (.lit (.int (32))))) (.cons (.ret (.bin .mod (.blt .int (.cons false (.loc 3) .nil)) (.loc 1))) .nil)))))
def f13 : Fn Nat := ⟨2, 4, b13⟩
/-- _law_one -/
def b14 : PSs Nat := (.cons (.ret (.idx (.loc 1) (.call 13 (.cons true (.loc 0) (.cons false (.blt .len (.cons false (.loc 1) .nil)) .nil))))) .nil)
def f14 : Fn Nat := ⟨2, 2, b14⟩
/-- _law_sort -/
def b15 : PSs Nat := (.cons (.iff (.isi (.loc 0) [.bool]) (.cons (.ret (.lit (.int (1)))) .nil) .nil) (.cons (.iff (.isi (.loc 0) [.int]) (.cons (.ret (.lit (.int (2)))) .nil) .nil) (.cons (.iff (.isi (.loc 0) [.str]) (.cons (.ret (.lit (.int (3)))) .nil) .nil) (.cons (.iff (.isi (.loc 0) [.list]) (.cons (.ret (.lit (.int (4)))) .nil) .nil) (.cons (.ret (.ite (.isi (.loc 0) [.tuple]) (.lit (.int (5))) (.lit (.int (6))))) .nil)))))
def f15 : Fn Nat := ⟨1, 1, b15⟩
/-- _law_same -/
def b16 : PSs Nat := (.cons (.iff (.cmp .ne (.call 15 (.cons false (.loc 0) .nil)) (.call 15 (.cons false (.loc 1) .nil))) (.cons (.ret (.lit (.bool false))) .nil) .nil) (.cons (.iff (.and (.cmp .gt (.call 15 (.cons false (.loc 0) .nil)) (.lit (.int (3)))) (.cmp .lt (.call 15 (.cons false (.loc 0) .nil)) (.lit (.int (6))))) (.cons (.iff (.cmp .ne (.blt .len (.cons false (.loc 0) .nil)) (.blt .len (.cons false (.loc 1) .nil))) (.cons (.ret (.lit (.bool false))) .nil) .nil) (.cons (.ret (.cmp .eq (.comp (.loc 2) (.tp [2, 3]) (.enum (.loc 0)) (.so (.not (.call 16 (.cons false (.loc 3) (.cons false (.idx (.loc 1) (.loc 2)) .nil))))) [2, 3]) (.lst .nil))) .nil)) .nil) (.cons (.ret (.cmp .eq (.loc 0) (.loc 1))) .nil)))
def f16 : Fn Nat := ⟨2, 4, b16⟩
/-- _law_habit -/
def b17 : PSs Nat := (.cons (.asg (.nm 1) (.call 14 (.cons true (.loc 0) (.cons false (.lst (.cons false (.lit (.str (S "own"))) (.cons false (.lit (.str (S "own"))) (.cons false (.lit (.str (S "both"))) (.cons false (.lit (.str (S "both"))) (.cons false (.lit (.str (S "none"))) .nil)))))) .nil)))) (.cons (.par [2, 3] (.cons false (.call 14 (.cons true (.loc 0) (.cons false (.lst (.cons false (.lit (.str (S "same"))) (.cons false (.lit (.str (S "either"))) .nil))) .nil))) (.cons false (.call 14 (.cons true (.loc 0) (.cons false (.lst (.cons false (.lit (.str (S "own"))) (.cons false (.lit (.str (S "both"))) .nil))) .nil))) .nil))) (.cons (.asg (.nm 4) (.call 14 (.cons true (.loc 0) (.cons false (.lst (.cons false (.lit (.str (S "never"))) (.cons false (.lit (.str (S "never"))) (.cons false (.lit (.str (S "bolts"))) (.cons false (.lit (.str (S "undoing"))) (.cons false (.lit (.str (S "all"))) .nil)))))) .nil)))) (.cons (.ret (.tup (.cons false (.cmp .eq (.call 13 (.cons true (.loc 0) (.cons false (.lit (.int (3))) .nil))) (.lit (.int (0)))) (.cons false (.loc 1) (.cons false (.loc 2) (.cons false (.loc 3) (.cons false (.loc 4) .nil))))))) .nil))))
def f17 : Fn Nat := ⟨1, 5, b17⟩
/-- _law_room -/
def b18 : PSs Nat := (.cons (.asg (.nm 2) (.call 14 (.cons true (.loc 0) (.cons false (.lst (.cons false (.lit (.str (S "none"))) (.cons false (.lit (.str (S "none"))) (.cons false (.lit (.str (S "bolts"))) (.cons false (.lit (.str (S "within"))) .nil))))) .nil)))) (.cons (.asg (.nm 3) (.tup (.cons false (.cmp .gt (.call 13 (.cons true (.loc 0) (.cons false (.lit (.int (5))) .nil))) (.lit (.int (0)))) (.cons false (.cmp .gt (.call 13 (.cons true (.loc 0) (.cons false (.lit (.int (5))) .nil))) (.lit (.int (0)))) .nil)))) (.cons (.asg (.nm 4) (.lst (.cons false (.lit (.str (S "none"))) (.cons false (.lit (.str (S "none"))) (.cons false (.lit (.str (S "leaving"))) (.cons false (.lit (.str (S "any"))) .nil)))))) (.cons (.asg (.nm 5) (.tup (.cons false (.call 14 (.cons true (.loc 0) (.cons false (.loc 4) .nil))) (.cons false (.call 14 (.cons true (.loc 0) (.cons false (.loc 4) .nil))) .nil)))) (.cons (.asg (.nm 6) (.tup .nil)) (.cons (.for (.nm 7) (.of (.tup (.cons false (.lit (.int (0))) (.cons false (.lit (.int (1))) .nil)))) (.cons (.asg (.nm 8) (.tup .nil)) (.cons (.for (.nm 9) (.rng1 (.bin .add (.lit (.int (1))) (.call 13 (.cons true (.loc 0) (.cons false (.loc 1) .nil))))) (.cons (.asg (.nm 8) (.bin .add (.loc 8) (.tup (.cons false (.call 17 (.cons true (.loc 0) .nil)) .nil)))) .nil)) (.cons (.asg (.nm 6) (.bin .add (.loc 6) (.tup (.cons false (.loc 8) .nil)))) .nil)))) (.cons (.ret (.tup (.cons false (.loc 2) (.cons false (.cmp .eq (.call 13 (.cons true (.loc 0) (.cons false (.lit (.int (3))) .nil))) (.lit (.int (0)))) (.cons false (.loc 3) (.cons false (.loc 5) (.cons false (.loc 6) .nil))))))) .nil)))))))
def f18 : Fn Nat := ⟨2, 10, b18⟩
/-- _law_put -/
def b19 : PSs Nat := (.cons (.ret (.ite (.cmp .eq (.loc 1) (.lit (.int (0)))) (.tup (.cons false (.loc 2) (.cons false (.idx (.loc 0) (.lit (.int (1)))) .nil))) (.tup (.cons false (.idx (.loc 0) (.lit (.int (0)))) (.cons false (.loc 2) .nil))))) .nil)
def f19 : Fn Nat := ⟨3, 3, b19⟩
/-- _law_known -/
def b20 : PSs Nat := (.cons (.asg (.tp [0, 1]) (.tup (.cons false (.tup (.cons false (.lit (.bool false)) (.cons false (.lit (.str (S "own"))) (.cons false (.lit (.str (S "same"))) (.cons false (.lit (.str (S "own"))) (.cons false (.lit (.str (S "never"))) .nil)))))) (.cons false (.tup (.cons false (.lit (.bool false)) (.cons false (.lit (.str (S "both"))) (.cons false (.lit (.str (S "either"))) (.cons false (.lit (.str (S "own"))) (.cons false (.lit (.str (S "never"))) .nil)))))) .nil)))) (.cons (.asg (.tp [2, 3]) (.tup (.cons false (.tup (.cons false (.lit (.bool true)) (.cons false (.lit (.str (S "both"))) (.cons false (.lit (.str (S "either"))) (.cons false (.lit (.str (S "both"))) (.cons false (.lit (.str (S "never"))) .nil)))))) (.cons false (.tup (.cons false (.lit (.bool false)) (.cons false (.lit (.str (S "both"))) (.cons false (.lit (.str (S "same"))) (.cons false (.lit (.str (S "own"))) (.cons false (.lit (.str (S "never"))) .nil)))))) .nil)))) (.cons (.asg (.nm 4) (.tup (.cons false (.lit (.str (S "none"))) (.cons false (.lit (.bool false)) (.cons false (.tup (.cons false (.lit (.bool true)) (.cons false (.lit (.bool true)) .nil))) (.cons false (.tup (.cons false (.lit (.str (S "none"))) (.cons false (.lit (.str (S "none"))) .nil))) .nil)))))) (.cons (.asg (.nm 5) (.lst (.cons false (.bin .add (.loc 4) (.tup (.cons false (.tup (.cons false (.tup (.cons false (.loc 0) .nil)) (.cons false (.tup (.cons false (.loc 0) .nil)) .nil))) .nil))) (.cons false (.bin .add (.loc 4) (.tup (.cons false (.tup (.cons false (.tup (.cons false (.loc 1) .nil)) (.cons false (.tup (.cons false (.loc 1) .nil)) .nil))) .nil))) .nil)))) (.cons (.ex (.app (.loc 5) (.bin .add (.bin .add (.tup (.cons false (.lit (.str (S "none"))) (.cons false (.lit (.bool true)) .nil))) (.sli (.loc 4) (.so (.lit (.int (2)))) .no)) (.tup (.cons false (.tup (.cons false (.tup (.cons false (.loc 1) .nil)) (.cons false (.tup (.cons false (.loc 1) .nil)) .nil))) .nil))))) (.cons (.ex (.app (.loc 5) (.bin .add (.loc 4) (.tup (.cons false (.tup (.cons false (.tup (.cons false (.loc 3) .nil)) (.cons false (.tup (.cons false (.loc 3) .nil)) .nil))) .nil))))) (.cons (.ret (.bin .add (.loc 5) (.lst (.cons false (.tup (.cons false (.lit (.str (S "within"))) (.cons false (.lit (.bool false)) (.cons false (.tup (.cons false (.lit (.bool true)) (.cons false (.lit (.bool true)) .nil))) (.cons false (.tup (.cons false (.lit (.str (S "any"))) (.cons false (.lit (.str (S "any"))) .nil))) (.cons false (.tup (.cons false (.tup (.cons false (.loc 2) .nil)) (.cons false (.tup (.cons false (.loc 2) .nil)) .nil))) .nil)))))) .nil)))) .nil)))))))
def f20 : Fn Nat := ⟨0, 6, b20⟩
/-- _law_ones -/
def b21 : PSs Nat := (.cons (.asg (.tp [1, 2, 3, 4, 5]) (.loc 0)) (.cons (.asg (.nm 6) (.comp (.tup (.cons false (.loc 9) (.cons false (.loc 2) (.cons false (.loc 3) (.cons false (.loc 4) (.cons false (.loc 5) .nil)))))) (.nm 9) (.of (.lst (.cons false (.lit (.str (S "none"))) (.cons false (.lit (.str (S "bolts"))) (.cons false (.lit (.str (S "within"))) .nil))))) (.so (.cmp .ne (.loc 9) (.loc 1))) [9])) (.cons (.ex (.app (.loc 6) (.tup (.cons false (.loc 1) (.cons false (.not (.loc 2)) (.cons false (.loc 3) (.cons false (.loc 4) (.cons false (.loc 5) .nil)))))))) (.cons (.asg (.nm 7) (.lst (.cons false (.lst (.cons false (.lit (.bool false)) (.cons false (.lit (.bool true)) .nil))) (.cons false (.lst (.cons false (.lit (.str (S "none"))) (.cons false (.lit (.str (S "own"))) (.cons false (.lit (.str (S "both"))) .nil)))) (.cons false (.lst (.cons false (.lit (.str (S "same"))) (.cons false (.lit (.str (S "either"))) .nil))) (.cons false (.lst (.cons false (.lit (.str (S "own"))) (.cons false (.lit (.str (S "both"))) .nil))) .nil)))))) (.cons (.ex (.app (.loc 7) (.lst (.cons false (.lit (.str (S "never"))) (.cons false (.lit (.str (S "bolts"))) (.cons false (.lit (.str (S "undoing"))) (.cons false (.lit (.str (S "all"))) .nil))))))) (.cons (.for (.nm 8) (.of (.tup (.cons false (.lit (.int (0))) (.cons false (.lit (.int (1))) .nil)))) (.cons (.ex (.app (.loc 6) (.tup (.cons false (.loc 1) (.cons false (.loc 2) (.cons false (.call 19 (.cons false (.loc 3) (.cons false (.loc 8) (.cons false (.not (.idx (.loc 3) (.loc 8))) .nil)))) (.cons false (.loc 4) (.cons false (.loc 5) .nil)))))))) (.cons (.for (.nm 9) (.of (.lst (.cons false (.lit (.str (S "none"))) (.cons false (.lit (.str (S "leaving"))) (.cons false (.lit (.str (S "any"))) .nil))))) (.cons (.iff (.cmp .ne (.loc 9) (.idx (.loc 4) (.loc 8))) (.cons (.ex (.app (.loc 6) (.tup (.cons false (.loc 1) (.cons false (.loc 2) (.cons false (.loc 3) (.cons false (.call 19 (.cons false (.loc 4) (.cons false (.loc 8) (.cons false (.loc 9) .nil)))) (.cons false (.loc 5) .nil)))))))) .nil) .nil) .nil)) (.cons (.for (.tp [10, 11]) (.enum (.idx (.loc 5) (.loc 8))) (.cons (.for (.nm 12) (.rng1 (.lit (.int (5)))) (.cons (.for (.nm 13) (.of (.idx (.loc 7) (.loc 12))) (.cons (.iff (.cmp .ne (.loc 13) (.idx (.loc 11) (.loc 12))) (.cons (.asg (.nm 14) (.bin .add (.bin .add (.sli (.loc 11) .no (.so (.loc 12))) (.tup (.cons false (.loc 13) .nil))) (.sli (.loc 11) (.so (.bin .add (.loc 12) (.lit (.int (1))))) .no))) (.cons (.asg (.nm 15) (.bin .add (.bin .add (.sli (.idx (.loc 5) (.loc 8)) .no (.so (.loc 10))) (.tup (.cons false (.loc 14) .nil))) (.sli (.idx (.loc 5) (.loc 8)) (.so (.bin .add (.loc 10) (.lit (.int (1))))) .no))) (.cons (.ex (.app (.loc 6) (.tup (.cons false (.loc 1) (.cons false (.loc 2) (.cons false (.loc 3) (.cons false (.loc 4) (.cons false (.call 19 (.cons false (.loc 5) (.cons false (.loc 8) (.cons false (.loc 15) .nil)))) .nil)))))))) .nil))) .nil) .nil)) .nil)) .nil)) .nil)))) (.cons (.ret (.blt .sorted (.cons false (.loc 6) .nil))) .nil)))))))
def f21 : Fn Nat := ⟨1, 16, b21⟩
/-- law -/
def b22 : PSs Nat := (.cons (.for (.nm 1) (.of (.sli (.bin .add (.lst (.cons false (.lit (.int (0))) .nil)) (.loc 0)) .no (.so (.lit (.int (10)))))) (.cons (.asg (.nm 2) (.call 12 (.cons false (.loc 1) (.cons false (.lit (.int (16))) .nil)))) (.cons (.for (.nm 3) (.rng1 (.lit (.int (3)))) (.cons (.asg (.nm 4) (.call 18 (.cons true (.loc 2) (.cons false (.lit (.int (2))) .nil)))) (.cons (.iff (.not (.call 16 (.cons false (.call 11 (.cons false (.loc 4) .nil)) (.cons false (.call 21 (.cons false (.loc 4) .nil)) .nil)))) (.cons (.ret (.lit (.bool false))) .nil) .nil) .nil))) .nil))) (.cons (.ret (.cmp .eq (.blt .len (.cons false (.call 11 (.cons false (.idx (.call 20 .nil) (.lit (.int (0)))) .nil)) .nil)) (.lit (.int (25))))) .nil))
def f22 : Fn Nat := ⟨1, 5, b22⟩
/-- with_bolts -/
def b42 : PSs Nat := (.cons (.asg (.nm 3) (.idx (.loc 0) (.lit (.int (2))))) (.cons (.asg (.nm 4) (.comp (.loc 5) (.nm 5) (.of (.loc 2)) (.so (.idx (.loc 3) (.loc 5))) [5])) (.cons (.iff (.and (.idx (.loc 0) (.lit (.int (1)))) (.cmp .ne (.loc 4) (.lst .nil))) (.cons (.asg (.nm 4) (.comp (.loc 5) (.nm 5) (.of (.tup (.cons false (.lit (.int (0))) (.cons false (.lit (.int (1))) .nil)))) (.so (.idx (.loc 3) (.loc 5))) [5])) .nil) .nil) (.cons (.ret (.blt .tuple (.cons false (.comp (.or (.idx (.loc 1) (.loc 5)) (.cmp .isin (.loc 5) (.loc 4))) (.nm 5) (.of (.tup (.cons false (.lit (.int (0))) (.cons false (.lit (.int (1))) .nil)))) .no [5]) .nil))) .nil))))
def f42 : Fn Nat := ⟨3, 6, b42⟩
/-- without_bolts -/
def b43 : PSs Nat := (.cons (.iff (.and (.idx (.loc 0) (.lit (.int (1)))) (.blt .any (.cons false (.comp (.idx (.loc 1) (.loc 3)) (.nm 3) (.of (.loc 2)) .no [3]) .nil))) (.cons (.ret (.tup (.cons false (.lit (.bool false)) (.cons false (.lit (.bool false)) .nil)))) .nil) .nil) (.cons (.ret (.blt .tuple (.cons false (.comp (.and (.idx (.loc 1) (.loc 3)) (.cmp .notin (.loc 3) (.loc 2))) (.nm 3) (.of (.tup (.cons false (.lit (.int (0))) (.cons false (.lit (.int (1))) .nil)))) .no [3]) .nil))) .nil))
def f43 : Fn Nat := ⟨3, 4, b43⟩
/-- with_truth -/
def b44 : PSs Nat := (.cons (.ret (.ite (.cmp .eq (.loc 1) (.lit (.int (0)))) (.tup (.cons false (.loc 2) (.cons false (.idx (.loc 0) (.lit (.int (1)))) .nil))) (.tup (.cons false (.idx (.loc 0) (.lit (.int (0)))) (.cons false (.loc 2) .nil))))) .nil)
def f44 : Fn Nat := ⟨3, 3, b44⟩
/-- is_lit -/
def b45 : PSs Nat := (.cons (.iff (.cmp .eq (.idx (.loc 0) (.lit (.int (0)))) (.lit (.str (S "bolts")))) (.cons (.ret (.or (.idx (.idx (.loc 1) (.lit (.int (1)))) (.lit (.int (0)))) (.idx (.idx (.loc 1) (.lit (.int (1)))) (.lit (.int (1)))))) .nil) .nil) (.cons (.ret (.and (.cmp .eq (.idx (.loc 0) (.lit (.int (0)))) (.lit (.str (S "within")))) (.cmp .ne (.idx (.loc 1) (.lit (.int (0)))) (.tup .nil)))) .nil))
def f45 : Fn Nat := ⟨2, 2, b45⟩
/-- doors_of -/
def b46 : PSs Nat := (.cons (.ret (.mget (.dsp (.cons false (.lit (.str (S "none"))) (.cons false (.tup .nil) (.cons false (.lit (.str (S "own"))) (.cons false (.tup (.cons false (.loc 1) .nil)) .nil))))) (.loc 0) (.tup (.cons false (.lit (.int (0))) (.cons false (.lit (.int (1))) .nil))))) .nil)
def f46 : Fn Nat := ⟨2, 2, b46⟩
/-- coming -/
def b47 : PSs Nat := (.cons (.asg (.nm 5) (.idx (.idx (.idx (.loc 0) (.lit (.int (4)))) (.loc 2)) (.loc 3))) (.cons (.asg (.tp [6, 7, 8]) (.loc 1)) (.cons (.iff (.and (.idx (.loc 5) (.lit (.int (0)))) (.call 45 (.cons false (.loc 0) (.cons false (.loc 1) .nil)))) (.cons (.ret (.tup (.cons false (.lit (.str (S "turns back"))) (.cons false (.loc 1) .nil)))) .nil) .nil) (.cons (.asg (.nm 8) (.call 44 (.cons false (.loc 8) (.cons false (.loc 2) (.cons false (.lit (.bool false)) .nil))))) (.cons (.iff (.idx (.loc 7) (.loc 2)) (.cons (.ret (.tup (.cons false (.lit (.str (S "closed"))) (.cons false (.tup (.cons false (.loc 6) (.cons false (.loc 7) (.cons false (.loc 8) .nil)))) .nil)))) .nil) .nil) (.cons (.iff (.cmp .ne (.loc 6) (.tup .nil)) (.cons (.ret (.tup (.cons false (.lit (.str (S "walks in"))) (.cons false (.tup (.cons false (.loc 6) (.cons false (.loc 7) (.cons false (.loc 8) .nil)))) .nil)))) .nil) .nil) (.cons (.asg (.nm 9) (.ite (.loc 4) (.tup .nil) (.call 46 (.cons false (.idx (.loc 5) (.lit (.int (1)))) (.cons false (.loc 2) .nil))))) (.cons (.ret (.tup (.cons false (.lit (.str (S "enters"))) (.cons false (.tup (.cons false (.tup (.cons false (.loc 2) (.cons false (.loc 3) .nil))) (.cons false (.call 42 (.cons false (.loc 0) (.cons false (.loc 7) (.cons false (.loc 9) .nil)))) (.cons false (.loc 8) .nil)))) .nil)))) .nil))))))))
def f47 : Fn Nat := ⟨5, 10, b47⟩
/-- come_deeds -/
def b48 : PSs Nat := (.cons (.asg (.nm 3) (.lst .nil)) (.cons (.for (.nm 4) (.rng1 (.blt .len (.cons false (.idx (.idx (.loc 0) (.lit (.int (4)))) (.loc 2)) .nil))) (.cons (.asg (.nm 5) (.idx (.idx (.idx (.loc 0) (.lit (.int (4)))) (.loc 2)) (.loc 4))) (.cons (.asg (.tp [6, 7]) (.call 47 (.cons false (.loc 0) (.cons false (.loc 1) (.cons false (.loc 2) (.cons false (.loc 4) (.cons false (.lit (.bool false)) .nil))))))) (.cons (.asg (.nm 3) (.bin .add (.loc 3) (.lst (.cons false (.tup (.cons false (.tup (.cons false (.lit (.str (S "come"))) (.cons false (.loc 2) (.cons false (.loc 4) (.cons false (.lit (.bool false)) .nil))))) (.cons false (.loc 6) (.cons false (.loc 7) .nil)))) .nil)))) (.cons (.iff (.and (.cmp .eq (.loc 6) (.lit (.str (S "enters")))) (.and (.cmp .ne (.idx (.loc 5) (.lit (.int (1)))) (.lit (.str (S "none")))) (.cmp .isin (.idx (.loc 5) (.lit (.int (4)))) (.tup (.cons false (.lit (.str (S "all"))) (.cons false (.lit (.str (S "bolts"))) .nil)))))) (.cons (.asg (.nm 3) (.bin .add (.loc 3) (.lst (.cons false (.tup (.cons false (.tup (.cons false (.lit (.str (S "come"))) (.cons false (.loc 2) (.cons false (.loc 4) (.cons false (.lit (.bool true)) .nil))))) (.cons false (.loc 6) (.cons false (.idx (.call 47 (.cons false (.loc 0) (.cons false (.loc 1) (.cons false (.loc 2) (.cons false (.loc 4) (.cons false (.lit (.bool true)) .nil)))))) (.lit (.int (1)))) .nil)))) .nil)))) .nil) .nil) .nil))))) (.cons (.ret (.loc 3)) .nil)))
def f48 : Fn Nat := ⟨3, 8, b48⟩
/-- going -/
def b49 : PSs Nat := (.cons (.asg (.tp [4, 5, 6]) (.loc 1)) (.cons (.asg (.nm 7) (.idx (.idx (.idx (.loc 0) (.lit (.int (4)))) (.idx (.loc 4) (.lit (.int (0))))) (.idx (.loc 4) (.lit (.int (1)))))) (.cons (.asg (.nm 8) (.ite (.loc 3) (.tup (.cons false (.loc 2) .nil)) (.call 46 (.cons false (.idx (.loc 7) (.lit (.int (3)))) (.cons false (.loc 2) .nil))))) (.cons (.asg (.nm 6) (.call 44 (.cons false (.loc 6) (.cons false (.loc 2) (.cons false (.cmp .eq (.idx (.idx (.loc 0) (.lit (.int (3)))) (.loc 2)) (.lit (.str (S "leaving")))) .nil))))) (.cons (.ret (.tup (.cons false (.tup .nil) (.cons false (.call 43 (.cons false (.loc 0) (.cons false (.loc 5) (.cons false (.loc 8) .nil)))) (.cons false (.loc 6) .nil))))) .nil)))))
def f49 : Fn Nat := ⟨4, 9, b49⟩
/-- go_deeds -/
def b50 : PSs Nat := (.cons (.asg (.tp [3, 4, 5]) (.loc 1)) (.cons (.iff (.or (.cmp .eq (.loc 3) (.tup .nil)) (.idx (.loc 5) (.loc 2))) (.cons (.ret (.lst .nil)) .nil) .nil) (.cons (.asg (.nm 6) (.idx (.idx (.idx (.loc 0) (.lit (.int (4)))) (.idx (.loc 3) (.lit (.int (0))))) (.idx (.loc 3) (.lit (.int (1)))))) (.cons (.iff (.and (.cmp .eq (.idx (.loc 6) (.lit (.int (2)))) (.lit (.str (S "same")))) (.cmp .ne (.loc 2) (.idx (.loc 3) (.lit (.int (0)))))) (.cons (.ret (.lst .nil)) .nil) .nil) (.cons (.asg (.nm 7) (.lst (.cons false (.tup (.cons false (.tup (.cons false (.lit (.str (S "go"))) (.cons false (.loc 2) (.cons false (.lit (.bool false)) .nil)))) (.cons false (.lit (.str (S "goes"))) (.cons false (.call 49 (.cons false (.loc 0) (.cons false (.loc 1) (.cons false (.loc 2) (.cons false (.lit (.bool false)) .nil))))) .nil)))) .nil))) (.cons (.iff (.and (.cmp .eq (.idx (.loc 6) (.lit (.int (3)))) (.lit (.str (S "both")))) (.cmp .isin (.idx (.loc 6) (.lit (.int (4)))) (.tup (.cons false (.lit (.str (S "all"))) (.cons false (.lit (.str (S "undoing"))) .nil))))) (.cons (.asg (.nm 7) (.bin .add (.loc 7) (.lst (.cons false (.tup (.cons false (.tup (.cons false (.lit (.str (S "go"))) (.cons false (.loc 2) (.cons false (.lit (.bool true)) .nil)))) (.cons false (.lit (.str (S "goes"))) (.cons false (.call 49 (.cons false (.loc 0) (.cons false (.loc 1) (.cons false (.loc 2) (.cons false (.lit (.bool true)) .nil))))) .nil)))) .nil)))) .nil) .nil) (.cons (.ret (.loc 7)) .nil)))))))
def f50 : Fn Nat := ⟨3, 8, b50⟩
/-- shut_deeds -/
def b51 : PSs Nat := (.cons (.asg (.tp [3, 4, 5]) (.loc 1)) (.cons (.iff (.or (.cmp .ne (.idx (.idx (.loc 0) (.lit (.int (3)))) (.loc 2)) (.lit (.str (S "any")))) (.idx (.loc 5) (.loc 2))) (.cons (.ret (.lst .nil)) .nil) .nil) (.cons (.ret (.lst (.cons false (.tup (.cons false (.tup (.cons false (.lit (.str (S "shut"))) (.cons false (.loc 2) .nil))) (.cons false (.lit (.str (S "shuts"))) (.cons false (.tup (.cons false (.loc 3) (.cons false (.loc 4) (.cons false (.call 44 (.cons false (.loc 5) (.cons false (.loc 2) (.cons false (.lit (.bool true)) .nil)))) .nil)))) .nil)))) .nil))) .nil)))
def f51 : Fn Nat := ⟨3, 6, b51⟩
/-- door_deeds -/
def b52 : PSs Nat := (.cons (.ret (.bin .add (.bin .add (.call 48 (.cons false (.loc 0) (.cons false (.loc 1) (.cons false (.loc 2) .nil)))) (.call 50 (.cons false (.loc 0) (.cons false (.loc 1) (.cons false (.loc 2) .nil))))) (.call 51 (.cons false (.loc 0) (.cons false (.loc 1) (.cons false (.loc 2) .nil)))))) .nil)
def f52 : Fn Nat := ⟨3, 3, b52⟩
/-- steps -/
def b53 : PSs Nat := (.cons (.ret (.blt .sorted (.cons false (.bin .add (.call 52 (.cons false (.loc 0) (.cons false (.loc 1) (.cons false (.lit (.int (0))) .nil)))) (.call 52 (.cons false (.loc 0) (.cons false (.loc 1) (.cons false (.lit (.int (1))) .nil))))) .nil))) .nil)
def f53 : Fn Nat := ⟨2, 2, b53⟩
/-- same_deed -/
def b54 : PSs Nat := (.cons (.iff (.or (.not (.isi (.loc 0) [.tuple])) (.cmp .ne (.loc 0) (.loc 1))) (.cons (.ret (.lit (.bool false))) .nil) .nil) (.cons (.ret (.blt .all (.cons false (.comp (.cmp .eq (.isi (.loc 2) [.bool]) (.isi (.loc 3) [.bool])) (.tp [2, 3]) (.zip (.loc 0) (.loc 1)) .no [2, 3]) .nil))) .nil))
def f54 : Fn Nat := ⟨2, 4, b54⟩
/-- step_by -/
def b55 : PSs Nat := (.cons (.for (.nm 3) (.of (.call 53 (.cons false (.loc 0) (.cons false (.loc 1) .nil)))) (.cons (.iff (.call 54 (.cons false (.loc 2) (.cons false (.idx (.loc 3) (.lit (.int (0)))) .nil))) (.cons (.ret (.loc 3)) .nil) .nil) .nil)) (.cons (.ret (.lit .none)) .nil))
def f55 : Fn Nat := ⟨3, 4, b55⟩
/-- led -/
def b56 : PSs Nat := (.cons (.par [2, 3] (.cons false (.lit (.tuple [(.tuple []), (.tuple [(.bool false), (.bool false)]), (.tuple [(.bool false), (.bool false)])])) (.cons false (.lst .nil) .nil))) (.cons (.for (.nm 4) (.of (.loc 1)) (.cons (.asg (.nm 5) (.call 55 (.cons false (.loc 0) (.cons false (.loc 2) (.cons false (.loc 4) .nil))))) (.cons (.iff (.cmp .is (.loc 5) (.lit .none)) (.cons (.ret (.lit .none)) .nil) .nil) (.cons (.par [2, 3] (.cons false (.idx (.loc 5) (.lit (.int (2)))) (.cons false (.bin .add (.loc 3) (.lst (.cons false (.loc 5) .nil))) .nil))) .nil)))) (.cons (.ret (.loc 3)) .nil)))
def f56 : Fn Nat := ⟨2, 6, b56⟩
/-- is_history_value -/
def b57 : PSs Nat := (.cons (.ret (.and (.isi (.loc 1) [.tuple]) (.and (.cmp .le (.blt .len (.cons false (.loc 1) .nil)) (.lit (.int (60)))) (.cmp .isnot (.call 56 (.cons false (.loc 0) (.cons false (.loc 1) .nil))) (.lit .none))))) .nil)
def f57 : Fn Nat := ⟨2, 2, b57⟩
/-- need_history -/
def b58 : PSs Nat := (.cons (.ex (.call 5 (.cons false (.loc 0) .nil))) (.cons (.iff (.not (.call 57 (.cons false (.loc 0) (.cons false (.loc 1) .nil)))) (.cons (.rais 0 .nil) .nil) .nil) (.cons (.ret (.call 56 (.cons false (.loc 0) (.cons false (.loc 1) .nil)))) .nil)))
def f58 : Fn Nat := ⟨2, 2, b58⟩
/-- end_of -/
def b59 : PSs Nat := (.cons (.ret (.ite (.cmp .ne (.loc 0) (.lst .nil)) (.idx (.idx (.loc 0) (.neg (.lit (.int (1))))) (.lit (.int (2)))) (.lit (.tuple [(.tuple []), (.tuple [(.bool false), (.bool false)]), (.tuple [(.bool false), (.bool false)])])))) .nil)
def f59 : Fn Nat := ⟨1, 1, b59⟩
/-- is_history -/
def b60 : PSs Nat := (.cons (.ex (.call 5 (.cons false (.loc 0) .nil))) (.cons (.ret (.call 57 (.cons false (.loc 0) (.cons false (.loc 1) .nil)))) .nil))
def f60 : Fn Nat := ⟨2, 2, b60⟩
/-- stand_behind -/
def b61 : PSs Nat := (.cons (.ret (.call 59 (.cons false (.call 58 (.cons false (.loc 0) (.cons false (.loc 1) .nil))) .nil))) .nil)
def f61 : Fn Nat := ⟨2, 2, b61⟩
/-- deeds_at -/
def b62 : PSs Nat := (.cons (.asg (.nm 2) (.call 59 (.cons false (.call 58 (.cons false (.loc 0) (.cons false (.loc 1) .nil))) .nil))) (.cons (.ret (.comp (.idx (.loc 3) (.lit (.int (0)))) (.nm 3) (.of (.call 53 (.cons false (.loc 0) (.cons false (.loc 2) .nil)))) .no [3])) .nil))
def f62 : Fn Nat := ⟨2, 4, b62⟩
/-- words -/
def b63 : PSs Nat := (.cons (.ret (.comp (.idx (.loc 2) (.lit (.int (1)))) (.nm 2) (.of (.call 58 (.cons false (.loc 0) (.cons false (.loc 1) .nil)))) .no [2])) .nil)
def f63 : Fn Nat := ⟨2, 3, b63⟩
/-- lamp_lit -/
def b64 : PSs Nat := (.cons (.asg (.nm 2) (.call 59 (.cons false (.call 58 (.cons false (.loc 0) (.cons false (.loc 1) .nil))) .nil))) (.cons (.ret (.call 45 (.cons false (.loc 0) (.cons false (.loc 2) .nil)))) .nil))
def f64 : Fn Nat := ⟨2, 3, b64⟩
/-- _law_begin -/
def b65 : PSs Nat := (.cons (.ret (.tup (.cons false (.tup .nil) (.cons false (.tup (.cons false (.lit (.bool false)) (.cons false (.lit (.bool false)) .nil))) (.cons false (.tup (.cons false (.lit (.bool false)) (.cons false (.lit (.bool false)) .nil))) .nil))))) .nil)
def f65 : Fn Nat := ⟨0, 0, b65⟩
/-- _law_shines -/
def b66 : PSs Nat := (.cons (.iff (.cmp .eq (.idx (.loc 0) (.lit (.int (0)))) (.lit (.str (S "within")))) (.cons (.ret (.cmp .ne (.idx (.loc 1) (.lit (.int (0)))) (.tup .nil))) .nil) .nil) (.cons (.ret (.and (.cmp .eq (.idx (.loc 0) (.lit (.int (0)))) (.lit (.str (S "bolts")))) (.cmp .isin (.lit (.bool true)) (.idx (.loc 1) (.lit (.int (1))))))) .nil))
def f66 : Fn Nat := ⟨2, 2, b66⟩
/-- _law_bolted -/
def b67 : PSs Nat := (.cons (.asg (.nm 3) (.comp (.loc 4) (.nm 4) (.of (.loc 2)) (.so (.idx (.idx (.loc 0) (.lit (.int (2)))) (.loc 4))) [4])) (.cons (.iff (.and (.idx (.loc 0) (.lit (.int (1)))) (.cmp .ne (.loc 3) (.lst .nil))) (.cons (.asg (.nm 3) (.comp (.loc 4) (.nm 4) (.of (.tup (.cons false (.lit (.int (0))) (.cons false (.lit (.int (1))) .nil)))) (.so (.idx (.idx (.loc 0) (.lit (.int (2)))) (.loc 4))) [4])) .nil) .nil) (.cons (.ret (.blt .tuple (.cons false (.comp (.or (.idx (.loc 1) (.loc 4)) (.cmp .isin (.loc 4) (.loc 3))) (.nm 4) (.of (.tup (.cons false (.lit (.int (0))) (.cons false (.lit (.int (1))) .nil)))) .no [4]) .nil))) .nil)))
def f67 : Fn Nat := ⟨3, 5, b67⟩
/-- _law_unbolted -/
def b68 : PSs Nat := (.cons (.asg (.nm 3) (.comp (.loc 4) (.nm 4) (.of (.loc 2)) (.so (.idx (.loc 1) (.loc 4))) [4])) (.cons (.iff (.and (.idx (.loc 0) (.lit (.int (1)))) (.cmp .ne (.loc 3) (.lst .nil))) (.cons (.asg (.nm 3) (.lst (.cons false (.lit (.int (0))) (.cons false (.lit (.int (1))) .nil)))) .nil) .nil) (.cons (.ret (.blt .tuple (.cons false (.comp (.and (.idx (.loc 1) (.loc 4)) (.cmp .notin (.loc 4) (.loc 3))) (.nm 4) (.of (.tup (.cons false (.lit (.int (0))) (.cons false (.lit (.int (1))) .nil)))) .no [4]) .nil))) .nil)))
def f68 : Fn Nat := ⟨3, 5, b68⟩
/-- _law_comes -/
def b69 : PSs Nat := (.cons (.asg (.nm 5) (.idx (.idx (.idx (.loc 0) (.lit (.int (4)))) (.loc 2)) (.loc 3))) (.cons (.asg (.tp [6, 7, 8]) (.loc 1)) (.cons (.iff (.and (.idx (.loc 5) (.lit (.int (0)))) (.call 66 (.cons false (.loc 0) (.cons false (.loc 1) .nil)))) (.cons (.ret (.tup (.cons false (.lit (.str (S "turns back"))) (.cons false (.loc 1) .nil)))) .nil) .nil) (.cons (.asg (.nm 9) (.call 19 (.cons false (.loc 8) (.cons false (.loc 2) (.cons false (.lit (.bool false)) .nil))))) (.cons (.iff (.idx (.loc 7) (.loc 2)) (.cons (.ret (.tup (.cons false (.lit (.str (S "closed"))) (.cons false (.tup (.cons false (.loc 6) (.cons false (.loc 7) (.cons false (.loc 9) .nil)))) .nil)))) .nil) .nil) (.cons (.iff (.cmp .ne (.loc 6) (.tup .nil)) (.cons (.ret (.tup (.cons false (.lit (.str (S "walks in"))) (.cons false (.tup (.cons false (.loc 6) (.cons false (.loc 7) (.cons false (.loc 9) .nil)))) .nil)))) .nil) .nil) (.cons (.asg (.nm 10) (.idx (.dsp (.cons false (.lit (.str (S "none"))) (.cons false (.lst .nil) (.cons false (.lit (.str (S "own"))) (.cons false (.lst (.cons false (.loc 2) .nil)) (.cons false (.lit (.str (S "both"))) (.cons false (.lst (.cons false (.lit (.int (0))) (.cons false (.lit (.int (1))) .nil))) .nil))))))) (.idx (.loc 5) (.lit (.int (1)))))) (.cons (.ret (.tup (.cons false (.lit (.str (S "enters"))) (.cons false (.tup (.cons false (.tup (.cons false (.loc 2) (.cons false (.loc 3) .nil))) (.cons false (.ite (.loc 4) (.loc 7) (.call 67 (.cons false (.loc 0) (.cons false (.loc 7) (.cons false (.loc 10) .nil))))) (.cons false (.loc 9) .nil)))) .nil)))) .nil))))))))
def f69 : Fn Nat := ⟨5, 11, b69⟩
/-- _law_at_door -/
def b70 : PSs Nat := (.cons (.asg (.nm 3) (.lst .nil)) (.cons (.for (.nm 4) (.rng1 (.blt .len (.cons false (.idx (.idx (.loc 0) (.lit (.int (4)))) (.loc 2)) .nil))) (.cons (.asg (.nm 8) (.idx (.idx (.idx (.loc 0) (.lit (.int (4)))) (.loc 2)) (.loc 4))) (.cons (.asg (.tp [9, 10]) (.call 69 (.cons false (.loc 0) (.cons false (.loc 1) (.cons false (.loc 2) (.cons false (.loc 4) (.cons false (.lit (.bool false)) .nil))))))) (.cons (.ex (.app (.loc 3) (.tup (.cons false (.tup (.cons false (.lit (.str (S "come"))) (.cons false (.loc 2) (.cons false (.loc 4) (.cons false (.lit (.bool false)) .nil))))) (.cons false (.loc 9) (.cons false (.loc 10) .nil)))))) (.cons (.iff (.and (.cmp .eq (.loc 9) (.lit (.str (S "enters")))) (.and (.cmp .ne (.idx (.loc 8) (.lit (.int (1)))) (.lit (.str (S "none")))) (.cmp .isin (.idx (.loc 8) (.lit (.int (4)))) (.lst (.cons false (.lit (.str (S "bolts"))) (.cons false (.lit (.str (S "all"))) .nil)))))) (.cons (.ex (.app (.loc 3) (.tup (.cons false (.tup (.cons false (.lit (.str (S "come"))) (.cons false (.loc 2) (.cons false (.loc 4) (.cons false (.lit (.bool true)) .nil))))) (.cons false (.loc 9) (.cons false (.idx (.call 69 (.cons false (.loc 0) (.cons false (.loc 1) (.cons false (.loc 2) (.cons false (.loc 4) (.cons false (.lit (.bool true)) .nil)))))) (.lit (.int (1)))) .nil)))))) .nil) .nil) .nil))))) (.cons (.asg (.tp [5, 6, 7]) (.loc 1)) (.cons (.iff (.and (.cmp .ne (.loc 5) (.tup .nil)) (.not (.idx (.loc 7) (.loc 2)))) (.cons (.asg (.nm 8) (.idx (.idx (.idx (.loc 0) (.lit (.int (4)))) (.idx (.loc 5) (.lit (.int (0))))) (.idx (.loc 5) (.lit (.int (1)))))) (.cons (.asg (.nm 11) (.call 19 (.cons false (.loc 7) (.cons false (.loc 2) (.cons false (.cmp .eq (.idx (.idx (.loc 0) (.lit (.int (3)))) (.loc 2)) (.lit (.str (S "leaving")))) .nil))))) (.cons (.iff (.or (.cmp .eq (.idx (.loc 8) (.lit (.int (2)))) (.lit (.str (S "either")))) (.cmp .eq (.idx (.loc 5) (.lit (.int (0)))) (.loc 2))) (.cons (.asg (.nm 12) (.ite (.cmp .eq (.idx (.loc 8) (.lit (.int (3)))) (.lit (.str (S "both")))) (.lst (.cons false (.lit (.int (0))) (.cons false (.lit (.int (1))) .nil))) (.lst (.cons false (.loc 2) .nil)))) (.cons (.ex (.app (.loc 3) (.tup (.cons false (.tup (.cons false (.lit (.str (S "go"))) (.cons false (.loc 2) (.cons false (.lit (.bool false)) .nil)))) (.cons false (.lit (.str (S "goes"))) (.cons false (.tup (.cons false (.tup .nil) (.cons false (.call 68 (.cons false (.loc 0) (.cons false (.loc 6) (.cons false (.loc 12) .nil)))) (.cons false (.loc 11) .nil)))) .nil)))))) (.cons (.iff (.and (.cmp .eq (.idx (.loc 8) (.lit (.int (3)))) (.lit (.str (S "both")))) (.cmp .isin (.idx (.loc 8) (.lit (.int (4)))) (.lst (.cons false (.lit (.str (S "undoing"))) (.cons false (.lit (.str (S "all"))) .nil))))) (.cons (.ex (.app (.loc 3) (.tup (.cons false (.tup (.cons false (.lit (.str (S "go"))) (.cons false (.loc 2) (.cons false (.lit (.bool true)) .nil)))) (.cons false (.lit (.str (S "goes"))) (.cons false (.tup (.cons false (.tup .nil) (.cons false (.call 68 (.cons false (.loc 0) (.cons false (.loc 6) (.cons false (.lst (.cons false (.loc 2) .nil)) .nil)))) (.cons false (.loc 11) .nil)))) .nil)))))) .nil) .nil) .nil))) .nil) .nil))) .nil) (.cons (.iff (.and (.cmp .eq (.idx (.idx (.loc 0) (.lit (.int (3)))) (.loc 2)) (.lit (.str (S "any")))) (.not (.idx (.loc 7) (.loc 2)))) (.cons (.ex (.app (.loc 3) (.tup (.cons false (.tup (.cons false (.lit (.str (S "shut"))) (.cons false (.loc 2) .nil))) (.cons false (.lit (.str (S "shuts"))) (.cons false (.tup (.cons false (.loc 5) (.cons false (.loc 6) (.cons false (.call 19 (.cons false (.loc 7) (.cons false (.loc 2) (.cons false (.lit (.bool true)) .nil)))) .nil)))) .nil)))))) .nil) .nil) (.cons (.ret (.loc 3)) .nil))))))
def f70 : Fn Nat := ⟨3, 13, b70⟩
/-- _law_rows -/
def b71 : PSs Nat := (.cons (.asg (.nm 2) (.bin .add (.call 70 (.cons false (.loc 0) (.cons false (.loc 1) (.cons false (.lit (.int (0))) .nil)))) (.call 70 (.cons false (.loc 0) (.cons false (.loc 1) (.cons false (.lit (.int (1))) .nil)))))) (.cons (.asg (.nm 3) (.blt .sorted (.cons false (.comp (.idx (.loc 5) (.lit (.int (0)))) (.nm 5) (.of (.loc 2)) .no [5]) .nil))) (.cons (.ret (.comp (.idx (.comp (.loc 5) (.nm 5) (.of (.loc 2)) (.so (.cmp .eq (.idx (.loc 5) (.lit (.int (0)))) (.loc 4))) [5]) (.lit (.int (0)))) (.nm 4) (.of (.loc 3)) .no [4])) .nil)))
def f71 : Fn Nat := ⟨2, 6, b71⟩
/-- _law_led -/
def b72 : PSs Nat := (.cons (.par [2, 3] (.cons false (.lst (.cons false (.call 65 .nil) .nil)) (.cons false (.lst .nil) .nil))) (.cons (.for (.nm 4) (.of (.loc 1)) (.cons (.asg (.nm 5) (.idx (.comp (.loc 6) (.nm 6) (.of (.call 71 (.cons false (.loc 0) (.cons false (.idx (.loc 2) (.neg (.lit (.int (1))))) .nil)))) (.so (.cmp .eq (.idx (.loc 6) (.lit (.int (0)))) (.loc 4))) [6]) (.lit (.int (0))))) (.cons (.ex (.app (.loc 2) (.idx (.loc 5) (.lit (.int (2)))))) (.cons (.ex (.app (.loc 3) (.idx (.loc 5) (.lit (.int (1)))))) .nil)))) (.cons (.ret (.tup (.cons false (.loc 2) (.cons false (.loc 3) .nil)))) .nil)))
def f72 : Fn Nat := ⟨2, 7, b72⟩
/-- _law_history -/
def b73 : PSs Nat := (.cons (.par [3, 4] (.cons false (.call 65 .nil) (.cons false (.tup .nil) .nil))) (.cons (.for (.nm 5) (.rng1 (.loc 2)) (.cons (.asg (.nm 6) (.call 14 (.cons true (.loc 0) (.cons false (.call 71 (.cons false (.loc 1) (.cons false (.loc 3) .nil))) .nil)))) (.cons (.par [4, 3] (.cons false (.bin .add (.loc 4) (.tup (.cons false (.idx (.loc 6) (.lit (.int (0)))) .nil))) (.cons false (.idx (.loc 6) (.lit (.int (2)))) .nil))) .nil))) (.cons (.ret (.loc 4)) .nil)))
def f73 : Fn Nat := ⟨3, 7, b73⟩
/-- law -/
def b74 : PSs Nat := (.cons (.for (.nm 1) (.of (.sli (.bin .add (.lst (.cons false (.lit (.int (0))) .nil)) (.loc 0)) .no (.so (.lit (.int (10)))))) (.cons (.asg (.nm 2) (.call 12 (.cons false (.loc 1) (.cons false (.lit (.int (2))) .nil)))) (.cons (.for (.nm 3) (.rng1 (.lit (.int (3)))) (.cons (.asg (.nm 4) (.call 18 (.cons true (.loc 2) (.cons false (.lit (.int (2))) .nil)))) (.cons (.asg (.nm 5) (.call 73 (.cons true (.loc 2) (.cons false (.loc 4) (.cons false (.call 14 (.cons true (.loc 2) (.cons false (.lst (.cons false (.lit (.int (0))) (.cons false (.lit (.int (1))) (.cons false (.lit (.int (5))) (.cons false (.lit (.int (20))) (.cons false (.lit (.int (60))) .nil)))))) .nil))) .nil))))) (.cons (.asg (.tp [6, 7]) (.call 72 (.cons false (.loc 4) (.cons false (.loc 5) .nil)))) (.cons (.iff (.or (.not (.call 16 (.cons false (.call 63 (.cons false (.loc 4) (.cons false (.loc 5) .nil))) (.cons false (.loc 7) .nil)))) (.cmp .isnot (.call 60 (.cons false (.loc 4) (.cons false (.loc 5) .nil))) (.lit (.bool true)))) (.cons (.ret (.lit (.bool false))) .nil) .nil) (.cons (.for (.nm 8) (.of (.lst (.cons false (.lit (.int (0))) (.cons false (.blt .len (.cons false (.loc 5) .nil)) (.cons false (.bin .fdiv (.blt .len (.cons false (.loc 5) .nil)) (.lit (.int (2)))) (.cons false (.bin .fdiv (.blt .len (.cons false (.loc 5) .nil)) (.lit (.int (3)))) (.cons false (.blt .min (.cons false (.lit (.int (2))) (.cons false (.blt .len (.cons false (.loc 5) .nil)) .nil))) .nil))))))) (.cons (.asg (.nm 9) (.idx (.loc 6) (.loc 8))) (.cons (.asg (.nm 10) (.lst (.cons false (.call 61 (.cons false (.loc 4) (.cons false (.sli (.loc 5) .no (.so (.loc 8))) .nil))) (.cons false (.call 64 (.cons false (.loc 4) (.cons false (.sli (.loc 5) .no (.so (.loc 8))) .nil))) .nil)))) (.cons (.iff (.not (.call 16 (.cons false (.loc 10) (.cons false (.lst (.cons false (.loc 9) (.cons false (.call 66 (.cons false (.loc 4) (.cons false (.loc 9) .nil))) .nil))) .nil)))) (.cons (.ret (.lit (.bool false))) .nil) .nil) (.cons (.iff (.not (.call 16 (.cons false (.call 62 (.cons false (.loc 4) (.cons false (.sli (.loc 5) .no (.so (.loc 8))) .nil))) (.cons false (.comp (.idx (.loc 11) (.lit (.int (0)))) (.nm 11) (.of (.call 71 (.cons false (.loc 4) (.cons false (.loc 9) .nil)))) .no [11]) .nil)))) (.cons (.ret (.lit (.bool false))) .nil) .nil) .nil))))) .nil)))))) .nil))) (.cons (.ret (.lit (.bool true))) .nil))
def f74 : Fn Nat := ⟨1, 12, b74⟩
def tab : Nat → Fn Nat
  | 0 => f0
  | 1 => f1
  | 2 => f2
  | 3 => f3
  | 4 => f4
  | 5 => f5
  | 6 => f6
  | 7 => f7
  | 8 => f8
  | 9 => f9
  | 10 => f10
  | 11 => f11
  | 12 => f12
  | 13 => f13
  | 14 => f14
  | 15 => f15
  | 16 => f16
  | 17 => f17
  | 18 => f18
  | 19 => f19
  | 20 => f20
  | 21 => f21
  | 22 => f22
  | 42 => f42
  | 43 => f43
  | 44 => f44
  | 45 => f45
  | 46 => f46
  | 47 => f47
  | 48 => f48
  | 49 => f49
  | 50 => f50
  | 51 => f51
  | 52 => f52
  | 53 => f53
  | 54 => f54
  | 55 => f55
  | 56 => f56
  | 57 => f57
  | 58 => f58
  | 59 => f59
  | 60 => f60
  | 61 => f61
  | 62 => f62
  | 63 => f63
  | 64 => f64
  | 65 => f65
  | 66 => f66
  | 67 => f67
  | 68 => f68
  | 69 => f69
  | 70 => f70
  | 71 => f71
  | 72 => f72
  | 73 => f73
  | 74 => f74
  | _ => ⟨0, 0, .nil⟩
end DL.G
end
section
set_option Elab.async false
set_option linter.all false
set_option maxRecDepth 100000
set_option maxHeartbeats 4000000
/-! KA: the houses' parts. -/
namespace DL.G
open PySem DL
abbrev LL : Nat := 1000000
def Post {α : Type} (r : R α) (G : α → Store → Prop) : Prop := ∃ a m, r = .ok a m ∧ G a m
theorem Post.bind {α β : Type} {r : R α} {f : α → Store → R β} {G : β → Store → Prop} (h : Post r fun a m => Post (f a m) G) : Post (r.bind f) G := by
  obtain ⟨a, m, rfl, b, m', e, g⟩ := h
  exact ⟨b, m', e, g⟩
theorem Post.ok {α : Type} {a : α} {m : Store} {G : α → Store → Prop} (h : G a m) : Post (.ok a m) G := ⟨a, m, rfl, h⟩
theorem Post.mono {α : Type} {r : R α} {G G' : α → Store → Prop} (h : Post r G) (k : ∀ a m, G a m → G' a m) : Post r G' := let ⟨a, m, e, g⟩ := h; ⟨a, m, e, k a m g⟩
theorem Post.eq {α : Type} {r : R α} {a : α} {m : Store} {G : α → Store → Prop} (e : r = .ok a m) (h : G a m) : Post r G := ⟨a, m, e, h⟩
def habD (l : Bool) (b g u f : Str) : D := .tuple [.bool l, .str b, .str g, .str u, .str f]
inductive GB : Str → Prop | own : GB (S "own") | both : GB (S "both") | none : GB (S "none")
inductive GG : Str → Prop | same : GG (S "same") | either : GG (S "either")
inductive GU : Str → Prop | own : GU (S "own") | both : GU (S "both")
inductive GF : Str → Prop | never : GF (S "never") | bolts : GF (S "bolts") | undoing : GF (S "undoing") | all : GF (S "all")
inductive GL : Str → Prop | none : GL (S "none") | bolts : GL (S "bolts") | within : GL (S "within")
inductive GO : Str → Prop | none : GO (S "none") | leaving : GO (S "leaving") | any : GO (S "any")
inductive GHab : D → Prop
  | mk (l : Bool) {b g u f : Str} : GB b → GG g → GU u → GF f → GHab (habD l b g u f)
theorem is_habit {d : D} (h : GHab d) (n : Nat) (m : Store) : callF tab LL (n + 2) 1 [.d d] m = .ok (.d (.bool true)) m := by
  refine lift (xs := [d]) ?_ m
  obtain ⟨l, hb, hg, hu, hf⟩ := h
  cases hb <;> cases hg <;> cases hu <;> cases hf <;> kernel_rfl
inductive GHome : D → Prop
  | one {x : D} : GHab x → GHome (.tuple [x])
  | two {x y : D} : GHab x → GHab y → GHome (.tuple [x, y])
theorem is_home {d : D} (h : GHome d) (n : Nat) (m : Store) : callF tab LL (n + 3) 2 [.d d] m = .ok (.d (.bool true)) m := by
  refine lift (xs := [d]) ?_ m
  show evFn (callF tab LL (n + 2)) LL f2 [.d d] [] = _
  have H := fun {d : D} (h : GHab d) => is_habit h n
  generalize callF tab LL (n + 2) = Φ at H ⊢
  cases h with
  | one hx =>
    have h1 := H hx
    simp [evFn, f2, b2, evSs, evS, evT, ev, evs, evI, evC, evO, truR, rd, rdAll, blF, boolsOf, isiF, tyF, tru, put, new, cmR, cmF, compLoop, R.calm, asgD, wipeE, fz, seqOf, walkOf, ofO, allD, leave, sizeLine_eq, h1, Cell.data]
  | two hx hy =>
    have h1 := H hx
    have h2 := H hy
    simp [evFn, f2, b2, evSs, evS, evT, ev, evs, evI, evC, evO, truR, rd, rdAll, blF, boolsOf, isiF, tyF, tru, put, new, cmR, cmF, compLoop, R.calm, asgD, wipeE, fz, seqOf, walkOf, ofO, allD, leave, sizeLine_eq, h1, h2, Cell.data]
theorem word_lamp {x : Str} (h : GL x) (n : Nat) (m : Store) : callF tab LL (n + 1) 0 [.d (.str x), .d (.tuple [.str (S "bolts"), .str (S "none"), .str (S "within")])] m = .ok (.d (.bool true)) m := by
  refine lift (xs := [.str x, .tuple [.str (S "bolts"), .str (S "none"), .str (S "within")]]) ?_ m
  cases h <;> kernel_rfl
theorem word_outer {x : Str} (h : GO x) (n : Nat) (m : Store) : callF tab LL (n + 1) 0 [.d (.str x), .d (.tuple [.str (S "any"), .str (S "leaving"), .str (S "none")])] m = .ok (.d (.bool true)) m := by
  refine lift (xs := [.str x, .tuple [.str (S "any"), .str (S "leaving"), .str (S "none")]]) ?_ m
  cases h <;> kernel_rfl
theorem is_pair (x y : D) (n : Nat) (m : Store) : callF tab LL (n + 1) 3 [.d (.tuple [x, y])] m = .ok (.d (.bool true)) m := by
  refine lift (xs := [.tuple [x, y]]) ?_ m
  kernel_rfl
def houD (lamp : Str) (linked i0 i1 : Bool) (o0 o1 : Str) (h0 h1 : D) : D := .tuple [.str lamp, .bool linked, .tuple [.bool i0, .bool i1], .tuple [.str o0, .str o1], .tuple [h0, h1]]
inductive GHouse : D → Prop
  | mk {lamp o0 o1 : Str} {h0 h1 : D} (linked i0 i1 : Bool) : GL lamp → GO o0 → GO o1 → GHome h0 → GHome h1 → GHouse (houD lamp linked i0 i1 o0 o1 h0 h1)
theorem is_house {d : D} (h : GHouse d) (n : Nat) (m : Store) : callF tab LL (n + 4) 4 [.d d] m = .ok (.d (.bool true)) m := by
  refine lift (xs := [d]) ?_ m
  obtain ⟨linked, i0, i1, hl, h0, h1, hh0, hh1⟩ := h
  show evFn (callF tab LL (n + 3)) LL f4 [.d _] [] = _
  have w1 := word_lamp hl (n + 2)
  have w2 := word_outer h0 (n + 2)
  have w3 := word_outer h1 (n + 2)
  have w4 := is_home hh0 n
  have w5 := is_home hh1 n
  have w6 := fun x y => is_pair x y (n + 2)
  generalize callF tab LL (n + 3) = Φ at w1 w2 w3 w4 w5 w6 ⊢
  simp [houD, evFn, f4, b4, evSs, evS, evT, ev, evs, evI, evC, evO, truR, rd, rdAll, blF, boolsOf, isiF, tyF, tru, put, new, cmR, cmF, eqD, compLoop, R.calm, asgD, setAll, wipeE, fz, seqOf, walkOf, ofO, allD, leave, sizeLine_eq, w1, w2, w3, w4, w5, w6, Cell.data, SeqAt.shaped, PyData.canLay0, PyData.depth, PyData.eqv]
theorem need_house {d : D} (h : GHouse d) (n : Nat) (m : Store) : callF tab LL (n + 5) 5 [.d d] m = .ok (.d .none) m := by
  refine lift (xs := [d]) ?_ m
  show evFn (callF tab LL (n + 4)) LL f5 [.d _] [] = _
  have w1 := is_house h n
  generalize callF tab LL (n + 4) = Φ at w1 ⊢
  simp [evFn, f5, b5, evSs, evS, evT, ev, evs, truR, rd, tru, fz, w1]
end DL.G
end
section
set_option Elab.async false
set_option linter.all false
set_option maxRecDepth 100000
set_option maxHeartbeats 4000000
/-! KB: the deck, what is drawn. -/
namespace DL.G
open PySem DL
/-- the deck at j: what is drawn so far at most b times -/
def Dk (j : Nat) (b : Int) (m : Store) : Prop := ∃ d0 d1 d2 : Int, m[j]? = some (.lst [.int d0, .int d1, .int d2]) ∧ 0 ≤ d1 ∧ d1 < 2147483579 ∧ 0 ≤ d2 ∧ d2 ≤ b
theorem Dk.lt {j : Nat} {b : Int} {m : Store} (h : Dk j b m) : j < m.length := by
  obtain ⟨_, _, _, h, _⟩ := h
  exact (List.getElem?_eq_some_iff.mp h).1
theorem Dk.app {j : Nat} {b : Int} {m : Store} (h : Dk j b m) (l : Store) : Dk j b (m ++ l) := by
  have hl := h.lt
  obtain ⟨d0, d1, d2, h, r⟩ := h
  exact ⟨d0, d1, d2, by rw [List.getElem?_append_left hl]; exact h, r⟩
theorem Dk.take {j n : Nat} {b : Int} {m : Store} (h : Dk j b m) (hn : j < n) : Dk j b (m.take n) := by
  obtain ⟨d0, d1, d2, h, r⟩ := h
  exact ⟨d0, d1, d2, by rw [List.getElem?_take, if_pos hn]; exact h, r⟩
theorem Dk.set {j k : Nat} {b : Int} {m : Store} {c : Cell} (h : Dk j b m) (hn : k ≠ j) : Dk j b (m.set k c) := by
  obtain ⟨d0, d1, d2, h, r⟩ := h
  exact ⟨d0, d1, d2, by rw [List.getElem?_set_ne hn]; exact h, r⟩
theorem Dk.mono {j : Nat} {b b' : Int} {m : Store} (h : Dk j b m) (hb : b ≤ b') : Dk j b' m := by
  obtain ⟨d0, d1, d2, h, h1, h2, h3, h4⟩ := h
  exact ⟨d0, d1, d2, h, h1, h2, h3, by omega⟩
structure Kp (j : Nat) (m m' : Store) : Prop where
  len : m'.length = m.length
  at_ : ∀ i, i ≠ j → m'[i]? = m[i]?
theorem Kp.trans {j : Nat} {m m1 m2 : Store} (a : Kp j m m1) (b : Kp j m1 m2) : Kp j m m2 := ⟨b.len.trans a.len, fun i h => (b.at_ i h).trans (a.at_ i h)⟩
/-- after cells of one's own -/
theorem Kp.app {j : Nat} {m l m1 : Store} (a : Kp j (m ++ l) m1) : ∀ i, i ≠ j → i < m.length → m1[i]? = m[i]? := fun i h hi => by
  rw [a.at_ i h, List.getElem?_append_left hi]
theorem pick {j : Nat} {b size : Int} {m : Store} (h : Dk j b m) (hb : b < 1000000) (h1 : 1 ≤ size) (h2 : size ≤ 1000) (n : Nat) : Post (callF tab LL (n + 1) 13 [.r j, .d (.int size)] m) fun v m' => ∃ k : Int, v = .d (.int k) ∧ 0 ≤ k ∧ k < size ∧ Kp j m m' ∧ Dk j (b + 1) m' := by
  have hl := h.lt
  obtain ⟨d0, d1, d2, h, q1, q2, q3, q4⟩ := h
  have hj : ∀ (c : Cell), (m.set j c)[j]? = some c := fun c => List.getElem?_set_self hl
  have tk : ∀ c : Cell, (m.set j c).take m.length = m.set j c := fun c => List.take_of_length_le (by simp)
  show Post (evFn (callF tab LL n) LL f13 [.r j, .d (.int size)] m) _
  generalize callF tab LL n = Φ
  have s1 : (0 : Int) < size := by omega
  have s2 : size < 1073741824 := by omega
  by_cases hd : 1 < d0
  · refine ⟨.d (.int (d0 % size)), (m.set j (.lst [.int (d0 / size), .int d1, .int d2])), ?_, d0 % size, rfl, Int.emod_nonneg _ (by omega), Int.emod_lt_of_pos _ s1, ⟨by simp, fun i hi => List.getElem?_set_ne (Ne.symm hi)⟩, d0 / size, d1, d2, hj _, q1, q2, q3, by omega⟩
    simp [evFn, f13, b13, evSs, evS, evT, ev, evs, truR, rd, rdAll, blF, tru, put, new, cmR, cmF, opR, opF, ixF, L2.atI, L2.ixN, fz, ofO, leave, setAt, setAny, isDicR, h, hd, hj, tk, Cell.data, s1, s2]
  · have p1 : smallI 15485867 = true := by decide
    have p2 : smallI 7919 = true := by decide
    have p3 : (d1 + 15485867 * (d2 + 1)).natAbs < 2 ^ 64 := by omega
    have p4 : ((d1 + 15485867 * (d2 + 1)) ^ 5 % 2147483647 + 7919 * (d2 + 1)).natAbs < 2 ^ 64 := by
      have a1 := Int.emod_nonneg ((d1 + 15485867 * (d2 + 1)) ^ 5) (show (2147483647 : Int) ≠ 0 by decide)
      have a2 := Int.emod_lt_of_pos ((d1 + 15485867 * (d2 + 1)) ^ 5) (show (0 : Int) < 2147483647 by decide)
      omega
    refine ⟨.d (.int ((((d1 + 15485867 * (d2 + 1)) ^ 5 % 2147483647 + 7919 * (d2 + 1)) ^ 3 % 2147483629 / 32) % size)), (m.set j (.lst [.int d0, .int d1, .int (d2 + 1)])), ?_, _, rfl, Int.emod_nonneg _ (by omega), Int.emod_lt_of_pos _ s1, ⟨by simp, fun i hi => List.getElem?_set_ne (Ne.symm hi)⟩, d0, d1, d2 + 1, hj _, q1, q2, by omega, by omega⟩
    simp [evFn, f13, b13, evSs, evS, evT, ev, evs, truR, rd, rdAll, blF, tru, put, new, cmR, cmF, opR, opF, ixF, L2.atI, L2.ixN, fz, ofO, leave, setAt, setAny, isDicR, h, hd, hj, tk, Cell.data, s1, s2, p1, p2, p3, p4]
theorem one {j : Nat} {b : Int} {xs : List D} {m : Store} (h : Dk j b m) (hb : b < 1000000) (h1 : 1 ≤ xs.length) (h2 : xs.length ≤ 1000) (n : Nat) : Post (callF tab LL (n + 2) 14 [.r j, .d (.list xs)] m) fun v m' => ∃ x ∈ xs, v = .d x ∧ Kp j m m' ∧ Dk j (b + 1) m' := by
  have hl := h.lt
  obtain ⟨v, m1, e, k, rfl, k1, k2, k3, k4⟩ := pick h hb (size := xs.length) (by omega) (by omega) n
  have hk : k.toNat < xs.length := by omega
  refine ⟨.d xs[k.toNat], m1, ?_, xs[k.toNat], List.getElem_mem hk, rfl, k3, k4⟩
  show evFn (callF tab LL (n + 1)) LL f14 [.r j, .d (.list xs)] m = _
  generalize callF tab LL (n + 1) = Φ at e ⊢
  have tk : m1.take m.length = m1 := List.take_of_length_le (Nat.le_of_eq k3.len)
  simp [evFn, f14, b14, evSs, evS, ev, evs, rd, rdAll, blF, put, fz, e, ixF, L2.atI, L2.ixN, k1, k2, hk, leave, tk]
end DL.G
end
section
set_option Elab.async false
set_option linter.all false
set_option maxRecDepth 100000
set_option maxHeartbeats 4000000
/-! KC: habits and houses that are drawn. -/
namespace DL.G
open PySem DL
theorem last_at {m : Store} {c : Cell} : (m ++ [c])[m.length]? = some c := by simp
theorem set_last {m : Store} {c c' : Cell} : (m ++ [c]).set m.length c' = m ++ [c'] := by
  rw [List.set_append_right _ _ (Nat.le_refl _), Nat.sub_self]
  rfl
theorem habit {j : Nat} {b : Int} {m : Store} (h : Dk j b m) (hb : b < 900000) (n : Nat) : Post (callF tab LL (n + 3) 17 [.r j] m) fun v m' => ∃ d, GHab d ∧ v = .d d ∧ Kp j m m' ∧ Dk j (b + 5) m' := by
  have hl := h.lt
  obtain ⟨v1, m1, e1, x1, hx1, rfl, l1, k1⟩ := one (xs := [.str (S "own"), .str (S "own"), .str (S "both"), .str (S "both"), .str (S "none")]) (h.app [.fz (.list [.str (S "own"), .str (S "own"), .str (S "both"), .str (S "both"), .str (S "none")])]) (by omega) (by decide) (by decide) n
  obtain ⟨v2, m2, e2, x2, hx2, rfl, l2, k2⟩ := one (xs := [.str (S "same"), .str (S "either")]) (k1.app [.fz (.list [.str (S "same"), .str (S "either")])]) (by omega) (by decide) (by decide) n
  obtain ⟨v3, m3, e3, x3, hx3, rfl, l3, k3⟩ := one (xs := [.str (S "own"), .str (S "both")]) (k2.app [.fz (.list [.str (S "own"), .str (S "both")])]) (by omega) (by decide) (by decide) n
  obtain ⟨v4, m4, e4, x4, hx4, rfl, l4, k4⟩ := one (xs := [.str (S "never"), .str (S "never"), .str (S "bolts"), .str (S "undoing"), .str (S "all")]) (k3.app [.fz (.list [.str (S "never"), .str (S "never"), .str (S "bolts"), .str (S "undoing"), .str (S "all")])]) (by omega) (by decide) (by decide) n
  obtain ⟨v5, m5, e5, k, rfl, k5, k6, l5, d5⟩ := pick k4 (by omega) (size := 3) (by decide) (by decide) (n + 1)
  have z1 := l1.len
  have z2 := l2.len
  have z3 := l3.len
  have z4 := l4.len
  have z5 := l5.len
  rw [List.length_append, List.length_singleton] at z1 z2 z3 z4
  have gl : m.length ≤ m5.length := by omega
  have kp : Kp j m (m5.take m.length) := ⟨by rw [List.length_take]; omega, fun i hi => by
    rw [List.getElem?_take]
    by_cases hm : i < m.length
    · rw [if_pos hm, l5.at_ i hi, l4.app i hi (by omega), l3.app i hi (by omega), l2.app i hi (by omega), l1.app i hi hm]
    · rw [if_neg hm, List.getElem?_eq_none (by omega)]⟩
  refine ⟨.d (.tuple [.bool (k == 0), x1, x2, x3, x4]), m5.take m.length, ?_, _, ?_, rfl, kp, (d5.take hl).mono (by omega)⟩
  · show evFn (callF tab LL (n + 2)) LL f17 [.r j] m = _
    generalize callF tab LL (n + 2) = Φ at e1 e2 e3 e4 e5 ⊢
    simp [evFn, f17, b17, evSs, evS, ev, evs, rd, put, new, cmR, cmF, eqD, fz, allD, leave, sizeLine_eq, e1, e2, e3, e4, e5, Cell.data, set_last, SeqAt.shaped, PyData.canLay0, PyData.depth, PyData.eqv]
  · have g1 : ∃ s, x1 = .str s ∧ GB s := by
      simp at hx1
      rcases hx1 with rfl | rfl | rfl
      · exact ⟨_, rfl, .own⟩
      · exact ⟨_, rfl, .both⟩
      · exact ⟨_, rfl, .none⟩
    have g2 : ∃ s, x2 = .str s ∧ GG s := by
      simp at hx2
      rcases hx2 with rfl | rfl
      · exact ⟨_, rfl, .same⟩
      · exact ⟨_, rfl, .either⟩
    have g3 : ∃ s, x3 = .str s ∧ GU s := by
      simp at hx3
      rcases hx3 with rfl | rfl
      · exact ⟨_, rfl, .own⟩
      · exact ⟨_, rfl, .both⟩
    have g4 : ∃ s, x4 = .str s ∧ GF s := by
      simp at hx4
      rcases hx4 with rfl | rfl | rfl | rfl
      · exact ⟨_, rfl, .never⟩
      · exact ⟨_, rfl, .bolts⟩
      · exact ⟨_, rfl, .undoing⟩
      · exact ⟨_, rfl, .all⟩
    obtain ⟨s1, rfl, g1⟩ := g1
    obtain ⟨s2, rfl, g2⟩ := g2
    obtain ⟨s3, rfl, g3⟩ := g3
    obtain ⟨s4, rfl, g4⟩ := g4
    exact .mk _ g1 g2 g3 g4
def DrawHome (j : Nat) (Φ : Nat → List Val → Store → R Val) (b : Int) (m : Store) : Prop := ∃ (k : Int) (m1 : Store), Φ 13 [.r j, .d (.int 2)] m = .ok (.d (.int k)) m1 ∧
  ((k = 0 ∧ ∃ x m2, GHab x ∧ Φ 17 [.r j] m1 = .ok (.d x) m2 ∧ Kp j m m2 ∧ Dk j (b + 20) m2) ∨ (k = 1 ∧ ∃ x m2 y m3, GHab x ∧ GHab y ∧ Φ 17 [.r j] m1 = .ok (.d x) m2 ∧ Φ 17 [.r j] m2 = .ok (.d y) m3 ∧ Kp j m m3 ∧ Dk j (b + 20) m3))
theorem draw_home {j : Nat} {b : Int} {m : Store} (h : Dk j b m) (hb : b < 800000) (n : Nat) : DrawHome j (callF tab LL (n + 3)) b m := by
  obtain ⟨v, m1, e, k, rfl, k1, k2, l1, d1⟩ := pick h (by omega) (size := 2) (by decide) (by decide) (n + 2)
  refine ⟨k, m1, e, ?_⟩
  obtain ⟨v, m2, e2, x, gx, rfl, l2, d2⟩ := habit d1 (by omega) n
  obtain ⟨v, m3, e3, y, gy, rfl, l3, d3⟩ := habit d2 (by omega) n
  by_cases hk : k = 0
  · exact .inl ⟨hk, x, m2, gx, e2, l1.trans l2, d2.mono (by omega)⟩
  · exact .inr ⟨by omega, x, m2, y, m3, gx, gy, e2, e3, (l1.trans l2).trans l3, d3.mono (by omega)⟩
theorem room {j : Nat} {b : Int} {m : Store} (h : Dk j b m) (hb : b < 700000) (n : Nat) : Post (callF tab LL (n + 4) 18 [.r j, .d (.int 2)] m) fun v m' => ∃ d, GHouse d ∧ v = .d d ∧ Kp j m m' ∧ Dk j (b + 60) m' := by
  have hl := h.lt
  let w : Cell := .fz (.list [.str (S "none"), .str (S "none"), .str (S "leaving"), .str (S "any")])
  obtain ⟨v1, m1, e1, x1, hx1, rfl, l1, k1⟩ := one (xs := [.str (S "none"), .str (S "none"), .str (S "bolts"), .str (S "within")]) (h.app [.fz (.list [.str (S "none"), .str (S "none"), .str (S "bolts"), .str (S "within")])]) (by omega) (by decide) (by decide) (n + 1)
  obtain ⟨v2, m2, e2, i0, rfl, i01, i02, l2, k2⟩ := pick k1 (by omega) (size := 5) (by decide) (by decide) (n + 2)
  obtain ⟨v3, m3, e3, i1, rfl, i11, i12, l3, k3⟩ := pick k2 (by omega) (size := 5) (by decide) (by decide) (n + 2)
  obtain ⟨v4, m4, e4, x4, hx4, rfl, l4, k4⟩ := one (xs := [.str (S "none"), .str (S "none"), .str (S "leaving"), .str (S "any")]) (k3.app [.fz (.list [.str (S "none"), .str (S "none"), .str (S "leaving"), .str (S "any")])]) (by omega) (by decide) (by decide) (n + 1)
  have hj3 := k3.lt
  have c4 : m4[m3.length]? = some w := by rw [l4.at_ _ (by omega)]; exact last_at
  have t4 : m4.set m3.length w = m4 := by
    have q := List.getElem?_eq_some_iff.mp c4
    obtain ⟨q1, q2⟩ := q
    rw [← q2]
    exact List.set_getElem_self q1
  obtain ⟨v5, m5, e5, x5, hx5, rfl, l5, k5⟩ := one (xs := [.str (S "none"), .str (S "none"), .str (S "leaving"), .str (S "any")]) k4 (by omega) (by decide) (by decide) (n + 1)
  have g1 : ∃ s, x1 = .str s ∧ GL s := by
    simp at hx1
    rcases hx1 with rfl | rfl | rfl
    · exact ⟨_, rfl, .none⟩
    · exact ⟨_, rfl, .bolts⟩
    · exact ⟨_, rfl, .within⟩
  have g4 : ∃ s, x4 = .str s ∧ GO s := by
    simp at hx4
    rcases hx4 with rfl | rfl | rfl
    · exact ⟨_, rfl, .none⟩
    · exact ⟨_, rfl, .leaving⟩
    · exact ⟨_, rfl, .any⟩
  have g5 : ∃ s, x5 = .str s ∧ GO s := by
    simp at hx5
    rcases hx5 with rfl | rfl | rfl
    · exact ⟨_, rfl, .none⟩
    · exact ⟨_, rfl, .leaving⟩
    · exact ⟨_, rfl, .any⟩
  obtain ⟨s1, rfl, g1⟩ := g1
  obtain ⟨s4, rfl, g4⟩ := g4
  obtain ⟨s5, rfl, g5⟩ := g5
  -- the homes
  have fin : ∀ (h0 h1 : D) (m7 : Store), GHome h0 → GHome h1 → Kp j m5 m7 → Dk j (b + 1 + 1 + 1 + 1 + 1 + 20 + 20) m7 → (∀ q m8, callF tab LL (n + 3) 13 [.r j, .d (.int 3)] m7 = .ok (.d (.int q)) m8 → callF tab LL (n + 4) 18 [.r j, .d (.int 2)] m = .ok (.d (houD s1 (q == 0) (decide (0 < i0)) (decide (0 < i1)) s4 s5 h0 h1)) (m8.take m.length)) →
      Post (callF tab LL (n + 4) 18 [.r j, .d (.int 2)] m) fun v m' => ∃ d, GHouse d ∧ v = .d d ∧ Kp j m m' ∧ Dk j (b + 60) m' := fun h0 h1 m7 gh0 gh1 kp d7 run => by
    obtain ⟨v8, m8, e8, q, rfl, q1, q2, l8, k8⟩ := pick d7 (by omega) (size := 3) (by decide) (by decide) (n + 2)
    have z1 := l1.len
    have z2 := l2.len
    have z3 := l3.len
    have z4 := l4.len
    have z5 := l5.len
    have z7 := kp.len
    have z8 := l8.len
    rw [List.length_append, List.length_singleton] at z1 z4
    refine ⟨_, _, run q m8 e8, _, .mk _ _ _ g1 g4 g5 gh0 gh1, rfl, ⟨by rw [List.length_take]; omega, fun i hi => ?_⟩, (k8.take hl).mono (by omega)⟩
    rw [List.getElem?_take]
    by_cases hm : i < m.length
    · rw [if_pos hm, l8.at_ i hi, kp.at_ i hi, l5.at_ i hi, l4.app i hi (by omega), l3.at_ i hi, l2.at_ i hi, l1.app i hi hm]
    · rw [if_neg hm, List.getElem?_eq_none (by omega)]
  obtain ⟨ka, ma, ea, ha⟩ := draw_home k5 (by omega) n
  rcases ha with ⟨rfl, x, m6, gx, e6, l6, k6⟩ | ⟨rfl, x, m6, y, m6', gx, gy, e6, e6', l6, k6⟩
  · obtain ⟨kb, mb, eb, hb'⟩ := draw_home k6 (by omega) n
    rcases hb' with ⟨rfl, x', m7, gx', e7, l7, k7⟩ | ⟨rfl, x', m7, y', m7', gx', gy', e7, e7', l7, k7⟩
    · refine fin _ _ m7 (.one gx) (.one gx') (l6.trans l7) k7 fun q m8 e8 => ?_
      show evFn (callF tab LL (n + 3)) LL f18 [.r j, .d (.int 2)] m = _
      generalize callF tab LL (n + 3) = Φ at e1 e2 e3 e4 e5 ea e6 eb e7 e8 ⊢
      simp [houD, evFn, f18, b18, evSs, evS, evT, ev, evs, evI, evC, evO, rd, put, new, cmR, cmF, opR, opF, eqD, fz, allD, seqOf, walkOf, ofO, forLoop, asgD, rgOk, rgD, List.range, List.range.loop, leave, sizeLine_eq, e1, e2, e3, e4, e5, ea, e6, eb, e7, e8, c4, t4, w, Cell.data, set_last, SeqAt.shaped, PyData.canLay0, PyData.depth, PyData.eqv]
    · refine fin _ _ m7' (.one gx) (.two gx' gy') (l6.trans l7) k7 fun q m8 e8 => ?_
      show evFn (callF tab LL (n + 3)) LL f18 [.r j, .d (.int 2)] m = _
      generalize callF tab LL (n + 3) = Φ at e1 e2 e3 e4 e5 ea e6 eb e7 e7' e8 ⊢
      simp [houD, evFn, f18, b18, evSs, evS, evT, ev, evs, evI, evC, evO, rd, put, new, cmR, cmF, opR, opF, eqD, fz, allD, seqOf, walkOf, ofO, forLoop, asgD, rgOk, rgD, List.range, List.range.loop, leave, sizeLine_eq, e1, e2, e3, e4, e5, ea, e6, eb, e7, e7', e8, c4, t4, w, Cell.data, set_last, SeqAt.shaped, PyData.canLay0, PyData.depth, PyData.eqv]
  · obtain ⟨kb, mb, eb, hb'⟩ := draw_home k6 (by omega) n
    rcases hb' with ⟨rfl, x', m7, gx', e7, l7, k7⟩ | ⟨rfl, x', m7, y', m7', gx', gy', e7, e7', l7, k7⟩
    · refine fin _ _ m7 (.two gx gy) (.one gx') (l6.trans l7) k7 fun q m8 e8 => ?_
      show evFn (callF tab LL (n + 3)) LL f18 [.r j, .d (.int 2)] m = _
      generalize callF tab LL (n + 3) = Φ at e1 e2 e3 e4 e5 ea e6 e6' eb e7 e8 ⊢
      simp [houD, evFn, f18, b18, evSs, evS, evT, ev, evs, evI, evC, evO, rd, put, new, cmR, cmF, opR, opF, eqD, fz, allD, seqOf, walkOf, ofO, forLoop, asgD, rgOk, rgD, List.range, List.range.loop, leave, sizeLine_eq, e1, e2, e3, e4, e5, ea, e6, e6', eb, e7, e8, c4, t4, w, Cell.data, set_last, SeqAt.shaped, PyData.canLay0, PyData.depth, PyData.eqv]
    · refine fin _ _ m7' (.two gx gy) (.two gx' gy') (l6.trans l7) k7 fun q m8 e8 => ?_
      show evFn (callF tab LL (n + 3)) LL f18 [.r j, .d (.int 2)] m = _
      generalize callF tab LL (n + 3) = Φ at e1 e2 e3 e4 e5 ea e6 e6' eb e7 e7' e8 ⊢
      simp [houD, evFn, f18, b18, evSs, evS, evT, ev, evs, evI, evC, evO, rd, put, new, cmR, cmF, opR, opF, eqD, fz, allD, seqOf, walkOf, ofO, forLoop, asgD, rgOk, rgD, List.range, List.range.loop, leave, sizeLine_eq, e1, e2, e3, e4, e5, ea, e6, e6', eb, e7, e7', e8, c4, t4, w, Cell.data, set_last, SeqAt.shaped, PyData.canLay0, PyData.depth, PyData.eqv]
end DL.G
end
section
set_option Elab.async false
set_option linter.all false
set_option maxRecDepth 100000
set_option maxHeartbeats 4000000
/-! KD: the deck, _law_same, lines. -/
namespace DL.G
open PySem DL
theorem deck (c t : Int) (h0 : 0 ≤ t) (n : Nat) (m : Store) : ∃ d0 d1, callF tab LL (n + 1) 12 [.d (.int c), .d (.int t)] m = .ok (.r m.length) (m ++ [.lst [.int d0, .int d1, .int t]]) ∧ 0 ≤ d1 ∧ d1 < 2147483579 := by
  have q1 := Int.emod_nonneg c (show (2147483579 : Int) ≠ 0 by decide)
  have q2 := Int.emod_lt_of_pos c (show (0 : Int) < 2147483579 by decide)
  by_cases hc : (10 : Int) ^ 18 ≤ c
  · refine ⟨c - 10 ^ 18, c % 2147483579, liftL (xs := [.int c, .int t]) ?_ m, q1, q2⟩
    show evFn (callF tab LL n) LL f12 [.d (.int c), .d (.int t)] [] = _
    generalize callF tab LL n = Φ
    simp at hc
    simp [evFn, f12, b12, evSs, evS, evT, ev, evs, truR, rd, tru, put, new, cmR, cmF, opR, opF, fz, allD, leave, sizeLine_eq, hc]
  · refine ⟨0, c % 2147483579, liftL (xs := [.int c, .int t]) ?_ m, q1, q2⟩
    show evFn (callF tab LL n) LL f12 [.d (.int c), .d (.int t)] [] = _
    generalize callF tab LL n = Φ
    simp at hc
    have hc : ¬ 1000000000000000000 ≤ c := by omega
    simp [evFn, f12, b12, evSs, evS, evT, ev, evs, truR, rd, tru, put, new, cmR, cmF, opR, opF, fz, allD, leave, sizeLine_eq, hc]
inductive Pl : Nat → D → Prop
  | bool (k : Nat) (b : Bool) : Pl k (.bool b)
  | int (k : Nat) (i : Int) : Pl k (.int i)
  | str (k : Nat) (s : Str) : PyData.strOk s = true → Pl k (.str s)
  | tup {k : Nat} {xs : List D} : xs.length ≤ 1000 → (∀ x ∈ xs, Pl k x) → Pl (k + 1) (.tuple xs)
  | lst {k : Nat} {xs : List D} : xs.length ≤ 1000 → (∀ x ∈ xs, Pl k x) → Pl (k + 1) (.list xs)
theorem srt_tup (xs : List D) (n : Nat) (m : Store) : callF tab LL (n + 1) 15 [.d (.tuple xs)] m = .ok (.d (.int 5)) m := lift (xs := [.tuple xs]) (by kernel_rfl) m
theorem srt_lst (xs : List D) (n : Nat) (m : Store) : callF tab LL (n + 1) 15 [.d (.list xs)] m = .ok (.d (.int 4)) m := lift (xs := [.list xs]) (by kernel_rfl) m
theorem srt_bool (x : Bool) (n : Nat) (m : Store) : callF tab LL (n + 1) 15 [.d (.bool x)] m = .ok (.d (.int 1)) m := lift (xs := [.bool x]) (by kernel_rfl) m
theorem srt_int (x : Int) (n : Nat) (m : Store) : callF tab LL (n + 1) 15 [.d (.int x)] m = .ok (.d (.int 2)) m := lift (xs := [.int x]) (by kernel_rfl) m
theorem srt_str (x : Str) (n : Nat) (m : Store) : callF tab LL (n + 1) 15 [.d (.str x)] m = .ok (.d (.int 3)) m := lift (xs := [.str x]) (by kernel_rfl) m
theorem compLoop_none {f : D → Store → R (Option D)} {m : Store} : ∀ {xs acc : List D}, (∀ x ∈ xs, f x m = .ok none m) → compLoop f xs acc m = .ok acc m
  | [], _, _ => rfl
  | x :: xs, acc, h => by
    show (f x m).bind _ = _
    rw [h x List.mem_cons_self]
    exact compLoop_none fun y hy => h y (List.mem_cons_of_mem _ hy)
theorem compLoop_map {f : D → Store → R (Option D)} {g : D → D} {m : Store} : ∀ {xs acc : List D}, (∀ x ∈ xs, f x m = .ok (some (g x)) m) → compLoop f xs acc m = .ok (acc ++ xs.map g) m
  | [], acc, _ => by rw [List.map_nil, List.append_nil]; rfl
  | x :: xs, acc, h => by
    show (f x m).bind _ = _
    rw [h x List.mem_cons_self]
    show compLoop f xs (acc ++ [g x]) m = _
    rw [compLoop_map fun y hy => h y (List.mem_cons_of_mem _ hy), List.map_cons, List.append_assoc]
    rfl
def C16 : PX Nat := .comp (.loc 2) (.tp [2, 3]) (.enum (.loc 0)) (.so (.not (.call 16 (.cons false (.loc 3) (.cons false (.idx (.loc 1) (.loc 2)) .nil))))) [2, 3]
def b16' (C : PX Nat) : PSs Nat := (.cons (.iff (.cmp .ne (.call 15 (.cons false (.loc 0) .nil)) (.call 15 (.cons false (.loc 1) .nil))) (.cons (.ret (.lit (.bool false))) .nil) .nil) (.cons (.iff (.and (.cmp .gt (.call 15 (.cons false (.loc 0) .nil)) (.lit (.int (3)))) (.cmp .lt (.call 15 (.cons false (.loc 0) .nil)) (.lit (.int (6))))) (.cons (.iff (.cmp .ne (.blt .len (.cons false (.loc 0) .nil)) (.blt .len (.cons false (.loc 1) .nil))) (.cons (.ret (.lit (.bool false))) .nil) .nil) (.cons (.ret (.cmp .eq C (.lst .nil))) .nil)) .nil) (.cons (.ret (.cmp .eq (.loc 0) (.loc 1))) .nil)))
theorem b16_eq : b16 = b16' C16 := rfl
theorem same_comp {Φ : Nat → List Val → Store → R Val} {d : D} {xs : List D} (hd : seqOf d = some xs) (hi : ∀ (i : Nat) (x : D), xs[i]? = some x → ixF d (.int (i : Nat)) = some x) (h : ∀ x ∈ xs, ∀ m, Φ 16 [.d x, .d x] m = .ok (.d (.bool true)) m) (m : Store) :
    ev Φ C16 [some (.d d), some (.d d), none, none] m = .ok (.r m.length) (m ++ [.lst []]) := by
  have e1 : evI Φ (.enum (.loc 0)) [some (.d d), some (.d d), none, none] m = .ok (enD xs) m := by
    simp [evI, ev, fz, hd, enD]
  show (evI Φ (.enum (.loc 0)) [some (.d d), some (.d d), none, none] m).bind (fun ys m1 => (R.calm (compLoop (turnF (Φ := Φ) (.tp [2, 3]) [2, 3] (.so (.not (.call 16 (.cons false (.loc 3) (.cons false (.idx (.loc 1) (.loc 2)) .nil))))) (.loc 2) [some (.d d), some (.d d), none, none]) ys [] m1)).bind fun ys m6 => put (.lst ys) m6) = _
  rw [e1]
  show (R.calm (compLoop _ (enD xs) [] m)).bind _ = _
  rw [compLoop_none fun y hy => ?_]
  · simp [R.calm, put, new]
  · obtain ⟨i, hi'⟩ := List.getElem?_of_mem hy
    obtain ⟨x, hx, rfl⟩ := enD_get hi'
    have hm := List.mem_of_getElem? hx
    have hix := hi i x hx
    simp [turnF, asgD, setAll, wipeE, evC, ev, evs, fz, rd, hix, h x hm m, truR, tru]
theorem ix_tup {xs : List D} {i : Nat} {x : D} (h : xs[i]? = some x) : ixF (.tuple xs) (.int (i : Nat)) = some x := by
  obtain ⟨hl, e⟩ := List.getElem?_eq_some_iff.mp h
  simp [ixF, L2.atI, L2.ixN, hl, e]
theorem ix_lst {xs : List D} {i : Nat} {x : D} (h : xs[i]? = some x) : ixF (.list xs) (.int (i : Nat)) = some x := by
  obtain ⟨hl, e⟩ := List.getElem?_eq_some_iff.mp h
  simp [ixF, L2.atI, L2.ixN, hl, e]
theorem lt56 : ltD (.int 5) (.int 6) = some true := by kernel_rfl
theorem lt46 : ltD (.int 4) (.int 6) = some true := by kernel_rfl
theorem same_refl : ∀ {k : Nat} {d : D}, Pl k d → ∀ (n : Nat) (m : Store), callF tab LL (n + 2 + k) 16 [.d d, .d d] m = .ok (.d (.bool true)) m := by
  intro k d h
  induction h with
  | bool k b =>
    intro n m
    refine lift (xs := [.bool b, .bool b]) ?_ m
    rw [show n + 2 + k = (n + k) + 2 by omega]
    show evFn (callF tab LL (n + k + 1)) LL f16 _ [] = _
    have w := srt_bool b (n + k)
    generalize callF tab LL (n + k + 1) = Φ at w ⊢
    simp [evFn, f16, b16_eq, b16', evSs, evS, evT, ev, evs, truR, rd, tru, cmR, cmF, eqD, fz, leave, w, SeqAt.shaped, PyData.canLay0, PyData.depth, PyData.eqv]
  | int k b =>
    intro n m
    refine lift (xs := [.int b, .int b]) ?_ m
    rw [show n + 2 + k = (n + k) + 2 by omega]
    show evFn (callF tab LL (n + k + 1)) LL f16 _ [] = _
    have w := srt_int b (n + k)
    generalize callF tab LL (n + k + 1) = Φ at w ⊢
    simp [evFn, f16, b16_eq, b16', evSs, evS, evT, ev, evs, truR, rd, tru, cmR, cmF, eqD, fz, leave, w, SeqAt.shaped, PyData.canLay0, PyData.depth, PyData.eqv]
  | str k b hs =>
    intro n m
    refine lift (xs := [.str b, .str b]) ?_ m
    rw [show n + 2 + k = (n + k) + 2 by omega]
    show evFn (callF tab LL (n + k + 1)) LL f16 _ [] = _
    have w := srt_str b (n + k)
    generalize callF tab LL (n + k + 1) = Φ at w ⊢
    simp [evFn, f16, b16_eq, b16', evSs, evS, evT, ev, evs, truR, rd, tru, cmR, cmF, eqD, fz, leave, w, hs, SeqAt.shaped, PyData.canLay0, PyData.depth, PyData.eqv]
  | @tup k xs hl hx ih =>
    intro n m
    refine lift (xs := [.tuple xs, .tuple xs]) ?_ m
    show evFn (callF tab LL (n + 2 + k)) LL f16 _ [] = _
    have w := fun m => srt_tup xs (n + 1 + k) m
    rw [show n + 1 + k + 1 = n + 2 + k by omega] at w
    have c := same_comp (Φ := callF tab LL (n + 2 + k)) (d := .tuple xs) rfl (fun i x h => ix_tup h) (fun x hx m => ih x hx n m)
    generalize callF tab LL (n + 2 + k) = Φ at w c ⊢
    rw [show f16 = ⟨2, 4, b16' C16⟩ from rfl]
    generalize C16 = C at c ⊢
    simp [evFn, b16', evSs, evS, evT, ev, evs, truR, rd, rdAll, blF, put, new, allD, tru, cmR, cmF, eqD, lt56, lt46, fz, leave, w, c, Cell.data, SeqAt.shaped, PyData.canLay0, PyData.canLayAll0, PyData.depth, PyData.depthAll, PyData.eqv, PyData.eqvAll]
  | @lst k xs hl hx ih =>
    intro n m
    refine lift (xs := [.list xs, .list xs]) ?_ m
    show evFn (callF tab LL (n + 2 + k)) LL f16 _ [] = _
    have w := fun m => srt_lst xs (n + 1 + k) m
    rw [show n + 1 + k + 1 = n + 2 + k by omega] at w
    have c := same_comp (Φ := callF tab LL (n + 2 + k)) (d := .list xs) rfl (fun i x h => ix_lst h) (fun x hx m => ih x hx n m)
    generalize callF tab LL (n + 2 + k) = Φ at w c ⊢
    rw [show f16 = ⟨2, 4, b16' C16⟩ from rfl]
    generalize C16 = C at c ⊢
    simp [evFn, b16', evSs, evS, evT, ev, evs, truR, rd, rdAll, blF, put, new, allD, tru, cmR, cmF, eqD, lt56, lt46, fz, leave, w, c, Cell.data, SeqAt.shaped, PyData.canLay0, PyData.canLayAll0, PyData.depth, PyData.depthAll, PyData.eqv, PyData.eqvAll]
end DL.G
end
section
set_option Elab.async false
set_option linter.all false
set_option maxRecDepth 100000
set_option maxHeartbeats 4000000
/-! WU: steps of the evaluator, loops. -/
namespace DL.G
open PySem DL
theorem app_at {m : Store} {j : Nat} {c : Cell} (h : m[j]? = some c) (l : Store) : (m ++ l)[j]? = some c := by
  rw [List.getElem?_append_left (List.getElem?_eq_some_iff.mp h).1, h]
theorem leave0 {m : Store} {j : Nat} {xs : List D} (h : m[j]? = some (.lst xs)) : leave 0 (.r j) m = .ok (.r 0) [.lst xs] := by
  show (if j < 0 then R.ok (Val.r j) (m.take 0) else match m[j]? with
    | some (.fz x) => .ok (.d x) (m.take 0)
    | some c => .ok (.r 0) (m.take 0 ++ [c])
    | none => .no) = _
  rw [if_neg (Nat.not_lt_zero _), h]
  rfl
theorem leave0d {m : Store} {j : Nat} {xs : List (D × D)} (h : m[j]? = some (.dic xs)) : leave 0 (.r j) m = .ok (.r 0) [.dic xs] := by
  show (if j < 0 then R.ok (Val.r j) (m.take 0) else match m[j]? with
    | some (.fz x) => .ok (.d x) (m.take 0)
    | some c => .ok (.r 0) (m.take 0 ++ [c])
    | none => .no) = _
  rw [if_neg (Nat.not_lt_zero _), h]
  rfl
def turnS (t : Tg) (b : PSs Nat) (Φ : Nat → List Val → Store → R Val) (L : Nat) (x : D) (ρ : Env) (m : Store) : R Fl := match asgD t x ρ with
  | some ρ1 => evSs Φ L b ρ1 m
  | none => .no
section
variable {Φ : Nat → List Val → Store → R Val} {L : Nat} {s : PS Nat} {r : PSs Nat} {ρ ρ1 : Env} {m m1 m2 : Store} {v w : Val}
theorem ss_nx (h : evS Φ L s ρ m = .ok (.nx ρ1) m1) : evSs Φ L (.cons s r) ρ m = evSs Φ L r ρ1 m1 := by
  show (evS Φ L s ρ m).bind _ = _
  rw [h]
  rfl
theorem ss_rt (h : evS Φ L s ρ m = .ok (.rt v) m1) : evSs Φ L (.cons s r) ρ m = .ok (.rt v) m1 := by
  show (evS Φ L s ρ m).bind _ = _
  rw [h]
  rfl
theorem fn_rt {f : Fn Nat} {vs : List Val} (hl : vs.length = f.ps) (h : evSs Φ L f.body (vs.map some ++ List.replicate (f.ns - f.ps) none) m = .ok (.rt v) m1) : evFn Φ L f vs m = leave m.length v m1 := by
  unfold evFn
  rw [if_pos hl, h]
theorem fn_nx {f : Fn Nat} {vs : List Val} (hl : vs.length = f.ps) (h : evSs Φ L f.body (vs.map some ++ List.replicate (f.ns - f.ps) none) m = .ok (.nx ρ1) m1) : evFn Φ L f vs m = .ok (.d .none) (m1.take m.length) := by
  unfold evFn
  rw [if_pos hl, h]
theorem s_for {t : Tg} {it : DL.It Nat} {b : PSs Nat} {xs : List D} (h : evI Φ it ρ m = .ok xs m1) : evS Φ L (.for t it b) ρ m = forLoop (turnS t b Φ L) xs ρ m1 := by
  show (evI Φ it ρ m).bind _ = _
  rw [h]
  rfl
theorem s_while {c : PX Nat} {b : PSs Nat} : evS Φ L (.whl c b) ρ m = whileLoop (fun ρ m => evT Φ c ρ m) (fun ρ m => evSs Φ L b ρ m) L ρ m := rfl
theorem s_iff {c : PX Nat} {a b : PSs Nat} {t : Bool} (h : evT Φ c ρ m = .ok t m1) : evS Φ L (.iff c a b) ρ m = if t then evSs Φ L a ρ m1 else evSs Φ L b ρ m1 := by
  show (evT Φ c ρ m).bind _ = _
  rw [h]
  rfl
theorem s_asg {i : Nat} {e : PX Nat} (h : ev Φ e ρ m = .ok v m1) : evS Φ L (.asg (.nm i) e) ρ m = .ok (.nx (ρ.set i (some v))) m1 := by
  show (ev Φ e ρ m).bind _ = _
  rw [h]
  rfl
theorem s_ret {e : PX Nat} (h : ev Φ e ρ m = .ok v m1) : evS Φ L (.ret e) ρ m = .ok (.rt v) m1 := by
  show (ev Φ e ρ m).bind _ = _
  rw [h]
  rfl
theorem i_rng1 {e : PX Nat} {i : Int} {n : Nat} (h : ev Φ e ρ m = .ok v m1) (hv : rd v m1 = some (.int i)) (hi : rgOk i = true) (hn : i.toNat = n) : evI Φ (.rng1 e) ρ m = .ok (rgD 0 n) m1 := by
  show (ev Φ e ρ m).bind _ = _
  rw [h]
  show (match rd v m1 with | some (.int j) => if rgOk j then R.ok (rgD 0 j.toNat) m1 else .no | _ => .no) = _
  rw [hv]
  show (if rgOk i then R.ok (rgD 0 i.toNat) m1 else .no) = _
  rw [if_pos hi, hn]
theorem i_rng2 {a b : PX Nat} {i j : Int} (ha : ev Φ a ρ m = .ok v m1) (hb : ev Φ b ρ m1 = .ok w m2) (hv : rd v m2 = some (.int i)) (hw : rd w m2 = some (.int j)) (hi : rgOk i = true) (hj : rgOk j = true) : evI Φ (.rng2 a b) ρ m = .ok (rgD i (j - i).toNat) m2 := by
  show (ev Φ a ρ m).bind _ = _
  rw [ha]
  show (ev Φ b ρ m1).bind _ = _
  rw [hb]
  show (match rd v m2, rd w m2 with | some (.int i), some (.int j) => if rgOk i && rgOk j then R.ok (rgD i (j - i).toNat) m2 else .no | _, _ => .no) = _
  rw [hv, hw]
  show (if rgOk i && rgOk j then R.ok (rgD i (j - i).toNat) m2 else .no) = _
  rw [hi, hj]
  rfl
theorem i_of {e : PX Nat} {x : D} {xs : List D} (h : ev Φ e ρ m = .ok v m1) (hf : fz v m1 = .ok x m2) (hx : walkOf x = some xs) : evI Φ (.of e) ρ m = .ok xs m2 := by
  show (ev Φ e ρ m).bind _ = _
  rw [h]
  show (fz v m1).bind _ = _
  rw [hf]
  show ofO (walkOf x) m2 = _
  rw [hx]
  rfl
end
theorem rg_ok {n : Nat} (h : n ≤ 1000000) : rgOk (n : Int) = true := by
  unfold rgOk
  rw [Bool.and_eq_true, decide_eq_true_eq, decide_eq_true_eq]
  exact ⟨by omega, by omega⟩
def rgF (k n : Nat) : List D := (List.range' k n).map fun i => .int (i : Nat)
theorem rgD_F (n : Nat) : rgD 0 n = rgF 0 n := by
  unfold rgD rgF
  rw [List.range_eq_range']
  exact List.map_congr_left fun i _ => by simp
/-- a for loop, by an invariant over the places -/
theorem for_ix {f : D → Env → Store → R Fl} {xs : List D} (I : Nat → Env → Store → Prop) (step : ∀ (i : Nat) (x : D) (ρ : Env) (m : Store), xs[i]? = some x → I i ρ m → Post (f x ρ m) fun a m' => ∃ ρ', a = .nx ρ' ∧ I (i + 1) ρ' m') {ρ : Env} {m : Store} (h : I 0 ρ m) :
    Post (forLoop f xs ρ m) fun a m' => ∃ ρ', a = .nx ρ' ∧ I xs.length ρ' m' := by
  have gen : ∀ (k : Nat) (ys : List D) (ρ : Env) (m : Store), k + ys.length = xs.length → (∀ i, ys[i]? = xs[k + i]?) → I k ρ m → Post (forLoop f ys ρ m) fun a m' => ∃ ρ', a = .nx ρ' ∧ I xs.length ρ' m' := by
    intro k ys
    induction ys generalizing k with
    | nil => intro ρ m hk _ h; rw [List.length_nil, Nat.add_zero] at hk; subst hk; exact Post.ok ⟨ρ, rfl, h⟩
    | cons y ys ih =>
      intro ρ m hk hy h
      have h0 := hy 0
      rw [Nat.add_zero] at h0
      obtain ⟨a, m1, e, ρ1, rfl, h1⟩ := step k y ρ m (by rw [← h0]; rfl) h
      show Post ((f y ρ m).bind _) _
      rw [e]
      exact ih (k + 1) ρ1 m1 (by rw [List.length_cons] at hk; omega) (fun i => by rw [show k + 1 + i = k + (i + 1) by omega, ← hy]; rfl) h1
  exact gen 0 xs ρ m (Nat.zero_add _) (fun i => by rw [Nat.zero_add]) h
/-- the same, where a turn may return -/
theorem for_ixR {f : D → Env → Store → R Fl} {xs : List D} (I : Nat → Env → Store → Prop) (Rt : Val → Store → Prop) (step : ∀ (i : Nat) (x : D) (ρ : Env) (m : Store), xs[i]? = some x → I i ρ m → Post (f x ρ m) fun a m' => (∃ ρ', a = .nx ρ' ∧ I (i + 1) ρ' m') ∨ ∃ v, a = .rt v ∧ Rt v m') {ρ : Env} {m : Store} (h : I 0 ρ m) :
    Post (forLoop f xs ρ m) fun a m' => (∃ ρ', a = .nx ρ' ∧ I xs.length ρ' m') ∨ ∃ v, a = .rt v ∧ Rt v m' := by
  have gen : ∀ (k : Nat) (ys : List D) (ρ : Env) (m : Store), k + ys.length = xs.length → (∀ i, ys[i]? = xs[k + i]?) → I k ρ m → Post (forLoop f ys ρ m) fun a m' => (∃ ρ', a = .nx ρ' ∧ I xs.length ρ' m') ∨ ∃ v, a = .rt v ∧ Rt v m' := by
    intro k ys
    induction ys generalizing k with
    | nil => intro ρ m hk _ h; rw [List.length_nil, Nat.add_zero] at hk; subst hk; exact Post.ok (.inl ⟨ρ, rfl, h⟩)
    | cons y ys ih =>
      intro ρ m hk hy h
      have h0 := hy 0
      rw [Nat.add_zero] at h0
      obtain ⟨a, m1, e, h1⟩ := step k y ρ m (by rw [← h0]; rfl) h
      show Post ((f y ρ m).bind _) _
      rw [e]
      rcases h1 with ⟨ρ1, rfl, h1⟩ | ⟨v, rfl, h1⟩
      · exact ih (k + 1) ρ1 m1 (by rw [List.length_cons] at hk; omega) (fun i => by rw [show k + 1 + i = k + (i + 1) by omega, ← hy]; rfl) h1
      · exact Post.ok (.inr ⟨v, rfl, h1⟩)
  exact gen 0 xs ρ m (Nat.zero_add _) (fun i => by rw [Nat.zero_add]) h
end DL.G
end
section
set_option Elab.async false
set_option linter.all false
set_option maxRecDepth 100000
set_option maxHeartbeats 4000000
/-! WE: houses, stands, deeds as plain data; the small functions of deeds. -/
namespace DL.G
open PySem DL
inductive La | none | bolts | within deriving DecidableEq
inductive Ou | none | leaving | any deriving DecidableEq
inductive Bo | own | both | none deriving DecidableEq
inductive Go | same | either deriving DecidableEq
inductive Un | own | both deriving DecidableEq
inductive Fo | never | bolts | undoing | all deriving DecidableEq
def La.s : La → Str | .none => S "none" | .bolts => S "bolts" | .within => S "within"
def Ou.s : Ou → Str | .none => S "none" | .leaving => S "leaving" | .any => S "any"
def Bo.s : Bo → Str | .own => S "own" | .both => S "both" | .none => S "none"
def Go.s : Go → Str | .same => S "same" | .either => S "either"
def Un.s : Un → Str | .own => S "own" | .both => S "both"
def Fo.s : Fo → Str | .never => S "never" | .bolts => S "bolts" | .undoing => S "undoing" | .all => S "all"
structure Hab where
  look : Bool
  b : Bo
  g : Go
  u : Un
  f : Fo
  deriving DecidableEq
def Hab.d (h : Hab) : D := habD h.look h.b.s h.g.s h.u.s h.f.s
structure House where
  lamp : La
  linked : Bool
  i0 : Bool
  i1 : Bool
  o0 : Ou
  o1 : Ou
  h0 : List Hab
  h1 : List Hab
  deriving DecidableEq
def homeD (l : List Hab) : D := .tuple (l.map Hab.d)
def House.d (h : House) : D := houD h.lamp.s h.linked h.i0 h.i1 h.o0.s h.o1.s (homeD h.h0) (homeD h.h1)
def okHome (l : List Hab) : Prop := l.length = 1 ∨ l.length = 2
structure House.Ok (h : House) : Prop where
  h0 : okHome h.h0
  h1 : okHome h.h1
theorem gb_of {s : Str} (h : GB s) : ∃ a : Bo, s = a.s := by cases h <;> first | exact ⟨.own, rfl⟩ | exact ⟨.both, rfl⟩ | exact ⟨.none, rfl⟩
theorem gg_of {s : Str} (h : GG s) : ∃ a : Go, s = a.s := by cases h <;> first | exact ⟨.same, rfl⟩ | exact ⟨.either, rfl⟩
theorem gu_of {s : Str} (h : GU s) : ∃ a : Un, s = a.s := by cases h <;> first | exact ⟨.own, rfl⟩ | exact ⟨.both, rfl⟩
theorem gf_of {s : Str} (h : GF s) : ∃ a : Fo, s = a.s := by cases h <;> first | exact ⟨.never, rfl⟩ | exact ⟨.bolts, rfl⟩ | exact ⟨.undoing, rfl⟩ | exact ⟨.all, rfl⟩
theorem gl_of {s : Str} (h : GL s) : ∃ a : La, s = a.s := by cases h <;> first | exact ⟨.none, rfl⟩ | exact ⟨.bolts, rfl⟩ | exact ⟨.within, rfl⟩
theorem go_of {s : Str} (h : GO s) : ∃ a : Ou, s = a.s := by cases h <;> first | exact ⟨.none, rfl⟩ | exact ⟨.leaving, rfl⟩ | exact ⟨.any, rfl⟩
theorem gb_s (a : Bo) : GB a.s := by cases a <;> constructor
theorem gg_s (a : Go) : GG a.s := by cases a <;> constructor
theorem gu_s (a : Un) : GU a.s := by cases a <;> constructor
theorem gf_s (a : Fo) : GF a.s := by cases a <;> constructor
theorem gl_s (a : La) : GL a.s := by cases a <;> constructor
theorem go_s (a : Ou) : GO a.s := by cases a <;> constructor
theorem hab_of {d : D} (h : GHab d) : ∃ x : Hab, d = x.d := by
  obtain ⟨l, hb, hg, hu, hf⟩ := h
  obtain ⟨b, rfl⟩ := gb_of hb
  obtain ⟨g, rfl⟩ := gg_of hg
  obtain ⟨u, rfl⟩ := gu_of hu
  obtain ⟨f, rfl⟩ := gf_of hf
  exact ⟨⟨l, b, g, u, f⟩, rfl⟩
theorem home_of {d : D} (h : GHome d) : ∃ l : List Hab, okHome l ∧ d = homeD l := by
  cases h with
  | one hx => obtain ⟨x, rfl⟩ := hab_of hx; exact ⟨[x], .inl rfl, rfl⟩
  | two hx hy => obtain ⟨x, rfl⟩ := hab_of hx; obtain ⟨y, rfl⟩ := hab_of hy; exact ⟨[x, y], .inr rfl, rfl⟩
theorem house_of {d : D} (h : GHouse d) : ∃ x : House, x.Ok ∧ d = x.d := by
  obtain ⟨linked, i0, i1, hl, ho0, ho1, hh0, hh1⟩ := h
  obtain ⟨l0, k0, rfl⟩ := home_of hh0
  obtain ⟨l1, k1, rfl⟩ := home_of hh1
  obtain ⟨a, rfl⟩ := gl_of hl
  obtain ⟨b, rfl⟩ := go_of ho0
  obtain ⟨c, rfl⟩ := go_of ho1
  exact ⟨⟨a, linked, i0, i1, b, c, l0, l1⟩, ⟨k0, k1⟩, rfl⟩
theorem hab_g (x : Hab) : GHab x.d := .mk x.look (gb_s _) (gg_s _) (gu_s _) (gf_s _)
theorem home_g {l : List Hab} (h : okHome l) : GHome (homeD l) := by
  match l, h with
  | [x], _ => exact .one (hab_g x)
  | [x, y], _ => exact .two (hab_g x) (hab_g y)
  | [], .inl h => cases h
  | [], .inr h => cases h
  | _ :: _ :: _ :: _, .inl h => simp at h
  | _ :: _ :: _ :: _, .inr h => simp at h
theorem house_g {x : House} (h : x.Ok) : GHouse x.d := .mk _ _ _ (gl_s _) (go_s _) (go_s _) (home_g h.h0) (home_g h.h1)
/-! stands -/
structure Stand where
  w : Option (Bool × Nat)
  b0 : Bool
  b1 : Bool
  s0 : Bool
  s1 : Bool
  deriving DecidableEq
def dn (d : Bool) : Int := if d then 1 else 0
def wD : Option (Bool × Nat) → D
  | none => .tuple []
  | some (d, n) => .tuple [.int (dn d), .int n]
def prD (a b : Bool) : D := .tuple [.bool a, .bool b]
def Stand.d (s : Stand) : D := .tuple [wD s.w, prD s.b0 s.b1, prD s.s0 s.s1]
def first : Stand := ⟨none, false, false, false, false⟩
def House.home (h : House) (d : Bool) : List Hab := if d then h.h1 else h.h0
def House.out (h : House) (d : Bool) : Ou := if d then h.o1 else h.o0
def Stand.ok (h : House) (s : Stand) : Prop := match s.w with
  | none => True
  | some (d, n) => n < (h.home d).length
def pick2 (d a b : Bool) : Bool := if d then b else a
/-! the pieces of a house -/
theorem h_lamp (h : House) : ixF h.d (.int 0) = some (.str h.lamp.s) := rfl
theorem h_link (h : House) : ixF h.d (.int 1) = some (.bool h.linked) := rfl
theorem h_in (h : House) : ixF h.d (.int 2) = some (prD h.i0 h.i1) := rfl
theorem h_out (h : House) : ixF h.d (.int 3) = some (.tuple [.str h.o0.s, .str h.o1.s]) := rfl
theorem h_homes (h : House) : ixF h.d (.int 4) = some (.tuple [homeD h.h0, homeD h.h1]) := rfl
theorem h_outD (h : House) (d : Bool) : ixF (.tuple [.str h.o0.s, .str h.o1.s]) (.int (dn d)) = some (.str (h.out d).s) := by cases d <;> rfl
theorem h_home (h : House) (d : Bool) : ixF (.tuple [homeD h.h0, homeD h.h1]) (.int (dn d)) = some (homeD (h.home d)) := by cases d <;> rfl
theorem ixN_lt {n k : Nat} (h : k < n) : L2.ixN n (k : Int) = some k := by
  simp [L2.ixN, h]
theorem h_hab {l : List Hab} {n : Nat} {x : Hab} (h : l[n]? = some x) : ixF (homeD l) (.int (n : Nat)) = some x.d := by
  have hl := (List.getElem?_eq_some_iff.mp h).1
  show L2.atI (l.map Hab.d) (n : Int) = _
  unfold L2.atI
  rw [List.length_map, ixN_lt hl]
  show (l.map Hab.d)[n]? = _
  rw [List.getElem?_map, h]
  rfl
theorem hb_look (x : Hab) : ixF x.d (.int 0) = some (.bool x.look) := rfl
theorem hb_b (x : Hab) : ixF x.d (.int 1) = some (.str x.b.s) := rfl
theorem hb_g (x : Hab) : ixF x.d (.int 2) = some (.str x.g.s) := rfl
theorem hb_u (x : Hab) : ixF x.d (.int 3) = some (.str x.u.s) := rfl
theorem hb_f (x : Hab) : ixF x.d (.int 4) = some (.str x.f.s) := rfl
theorem pr_ix (d a b : Bool) : ixF (prD a b) (.int (dn d)) = some (.bool (pick2 d a b)) := by cases d <;> rfl
theorem w_0 (d : Bool) (n : Nat) : ixF (wD (some (d, n))) (.int 0) = some (.int (dn d)) := rfl
theorem w_1 (d : Bool) (n : Nat) : ixF (wD (some (d, n))) (.int 1) = some (.int n) := rfl
theorem st_w (s : Stand) : ixF s.d (.int 0) = some (wD s.w) := rfl
theorem st_b (s : Stand) : ixF s.d (.int 1) = some (prD s.b0 s.b1) := rfl
theorem st_s (s : Stand) : ixF s.d (.int 2) = some (prD s.s0 s.s1) := rfl
theorem w_ne (w : Option (Bool × Nat)) : eqD (wD w) (.tuple []) = some (!w.isSome) := by
  cases w with
  | none => rfl
  | some p => obtain ⟨d, n⟩ := p; rfl
/-! the small functions -/
def isLit (h : House) (s : Stand) : Bool := match h.lamp with
  | .bolts => s.b0 || s.b1
  | .within => s.w.isSome
  | .none => false
theorem is_lit (h : House) (s : Stand) (n : Nat) (m : Store) : callF tab LL (n + 1) 45 [.d h.d, .d s.d] m = .ok (.d (.bool (isLit h s))) m := by
  refine lift (xs := [h.d, s.d]) ?_ m
  obtain ⟨lamp, linked, i0, i1, o0, o1, h0, h1⟩ := h
  obtain ⟨w, b0, b1, s0, s1⟩ := s
  cases lamp <;> cases b0 <;> cases w <;> kernel_rfl
def withTruth (a b d t : Bool) : Bool × Bool := if d then (a, t) else (t, b)
theorem with_truth (a b d t : Bool) (n : Nat) (m : Store) : callF tab LL (n + 1) 44 [.d (prD a b), .d (.int (dn d)), .d (.bool t)] m = .ok (.d (prD (withTruth a b d t).1 (withTruth a b d t).2)) m := by
  refine lift (xs := [prD a b, .int (dn d), .bool t]) ?_ m
  cases d <;> kernel_rfl
def dsD (ds : List Bool) : D := .tuple (ds.map fun d => .int (dn d))
def doorsOf (b : Bo) (d : Bool) : List Bool := match b with
  | .none => []
  | .own => [d]
  | .both => [false, true]
def unDoors (u : Un) (d : Bool) : List Bool := match u with
  | .own => [d]
  | .both => [false, true]
theorem doors_of (b : Bo) (d : Bool) (n : Nat) (m : Store) : callF tab LL (n + 1) 46 [.d (.str b.s), .d (.int (dn d))] m = .ok (.d (dsD (doorsOf b d))) m := by
  refine lift (xs := [.str b.s, .int (dn d)]) ?_ m
  cases b <;> cases d <;> kernel_rfl
theorem doors_un (u : Un) (d : Bool) (n : Nat) (m : Store) : callF tab LL (n + 1) 46 [.d (.str u.s), .d (.int (dn d))] m = .ok (.d (dsD (unDoors u d))) m := by
  refine lift (xs := [.str u.s, .int (dn d)]) ?_ m
  cases u <;> cases d <;> kernel_rfl
def withBolts (h : House) (b0 b1 : Bool) (ds : List Bool) : Bool × Bool :=
  let m0 := h.i0 && ds.contains false
  let m1 := h.i1 && ds.contains true
  if h.linked && (m0 || m1) then (b0 || h.i0, b1 || h.i1) else (b0 || m0, b1 || m1)
def withoutBolts (h : House) (b0 b1 : Bool) (ds : List Bool) : Bool × Bool :=
  let t0 := b0 && ds.contains false
  let t1 := b1 && ds.contains true
  if h.linked && (t0 || t1) then (false, false) else (b0 && !ds.contains false, b1 && !ds.contains true)
/-- the lists of doors that come -/
inductive Drs : List Bool → Prop | no : Drs [] | one (d : Bool) : Drs [d] | two : Drs [false, true]
theorem doorsOf_ok (b : Bo) (d : Bool) : Drs (doorsOf b d) := match b with | .own => .one d | .both => .two | .none => .no
theorem unDoors_ok (u : Un) (d : Bool) : Drs (unDoors u d) := match u with | .own => .one d | .both => .two
theorem with_bolts (h : House) (b0 b1 : Bool) {ds : List Bool} (hd : Drs ds) (n : Nat) (m : Store) : callF tab LL (n + 1) 42 [.d h.d, .d (prD b0 b1), .d (dsD ds)] m = .ok (.d (prD (withBolts h b0 b1 ds).1 (withBolts h b0 b1 ds).2)) m := by
  refine lift (xs := [h.d, prD b0 b1, dsD ds]) ?_ m
  obtain ⟨lamp, linked, i0, i1, o0, o1, h0, h1⟩ := h
  cases hd with
  | no => cases linked <;> cases i0 <;> cases i1 <;> cases b0 <;> cases b1 <;> kernel_rfl
  | one d => cases d <;> cases linked <;> cases i0 <;> cases i1 <;> cases b0 <;> cases b1 <;> kernel_rfl
  | two => cases linked <;> cases i0 <;> cases i1 <;> cases b0 <;> cases b1 <;> kernel_rfl
theorem without_bolts (h : House) (b0 b1 : Bool) {ds : List Bool} (hd : Drs ds) (n : Nat) (m : Store) : callF tab LL (n + 1) 43 [.d h.d, .d (prD b0 b1), .d (dsD ds)] m = .ok (.d (prD (withoutBolts h b0 b1 ds).1 (withoutBolts h b0 b1 ds).2)) m := by
  refine lift (xs := [h.d, prD b0 b1, dsD ds]) ?_ m
  obtain ⟨lamp, linked, i0, i1, o0, o1, h0, h1⟩ := h
  cases hd with
  | no => cases linked <;> cases b0 <;> cases b1 <;> kernel_rfl
  | one d => cases d <;> cases linked <;> cases b0 <;> cases b1 <;> kernel_rfl
  | two => cases linked <;> cases b0 <;> cases b1 <;> kernel_rfl
end DL.G
end
section
set_option Elab.async false
set_option linter.all false
set_option maxRecDepth 100000
set_option maxHeartbeats 4000000
/-! WF: comings, goings, shutting, all deeds of a stand. -/
namespace DL.G
open PySem DL
inductive Wrd | turns | closed | walks | enters | goes | shuts deriving DecidableEq
def Wrd.s : Wrd → Str | .turns => S "turns back" | .closed => S "closed" | .walks => S "walks in" | .enters => S "enters" | .goes => S "goes" | .shuts => S "shuts"
inductive Deed | come (d : Bool) (n : Nat) (f : Bool) | go (d f : Bool) | shut (d : Bool) deriving DecidableEq
def Deed.d : Deed → D
  | .come d n f => .tuple [.str (S "come"), .int (dn d), .int n, .bool f]
  | .go d f => .tuple [.str (S "go"), .int (dn d), .bool f]
  | .shut d => .tuple [.str (S "shut"), .int (dn d)]
structure Row where
  deed : Deed
  word : Wrd
  st : Stand
  deriving DecidableEq
def Row.d (r : Row) : D := .tuple [r.deed.d, .str r.word.s, r.st.d]
def shutTo (s : Stand) (d t : Bool) : Stand := ⟨s.w, s.b0, s.b1, (withTruth s.s0 s.s1 d t).1, (withTruth s.s0 s.s1 d t).2⟩
def enterD (x : Hab) (d f : Bool) : List Bool := if f then [] else doorsOf x.b d
def enterS (h : House) (s : Stand) (d : Bool) (n : Nat) (x : Hab) (f : Bool) : Stand :=
  ⟨some (d, n), (withBolts h s.b0 s.b1 (enterD x d f)).1, (withBolts h s.b0 s.b1 (enterD x d f)).2, (withTruth s.s0 s.s1 d false).1, (withTruth s.s0 s.s1 d false).2⟩
def coming (h : House) (s : Stand) (d : Bool) (n : Nat) (x : Hab) (f : Bool) : Wrd × Stand :=
  if x.look && isLit h s then (.turns, s)
  else if pick2 d s.b0 s.b1 then (.closed, shutTo s d false)
  else if s.w.isSome then (.walks, shutTo s d false)
  else (.enters, enterS h s d n x f)
theorem eq_word (w v : Wrd) : cmF .eq (.str w.s) (.str v.s) = some (w == v) := by cases w <;> cases v <;> kernel_rfl
theorem b_none (b : Bo) : cmF .ne (.str b.s) (.str (S "none")) = some (!(b == .none)) := by cases b <;> kernel_rfl
theorem f_all (f : Fo) : cmF .isin (.str f.s) (.tuple [.str (S "all"), .str (S "bolts")]) = some (f == .all || f == .bolts) := by cases f <;> kernel_rfl
theorem f_allu (f : Fo) : cmF .isin (.str f.s) (.tuple [.str (S "all"), .str (S "undoing")]) = some (f == .all || f == .undoing) := by cases f <;> kernel_rfl
theorem g_same (g : Go) : cmF .eq (.str g.s) (.str (S "same")) = some (g == .same) := by cases g <;> kernel_rfl
theorem u_both (u : Un) : cmF .eq (.str u.s) (.str (S "both")) = some (u == .both) := by cases u <;> kernel_rfl
theorem o_leav (o : Ou) : cmF .eq (.str o.s) (.str (S "leaving")) = some (o == .leaving) := by cases o <;> kernel_rfl
theorem o_any (o : Ou) : cmF .ne (.str o.s) (.str (S "any")) = some (!(o == .any)) := by cases o <;> kernel_rfl
theorem d_ne (a b : Bool) : cmF .ne (.int (dn a)) (.int (dn b)) = some (!(a == b)) := by cases a <;> cases b <;> kernel_rfl
theorem w_ne2 (w : Option (Bool × Nat)) : cmF .ne (wD w) (.tuple []) = some w.isSome := by
  show (eqD (wD w) (.tuple [])).map not = _
  rw [w_ne]
  simp
theorem w_eq2 (w : Option (Bool × Nat)) : cmF .eq (wD w) (.tuple []) = some (!w.isSome) := w_ne w
theorem a_nm (i : Nat) (x : D) (ρ : Env) : asgD (.nm i) x ρ = some (ρ.set i (some (.d x))) := rfl
theorem a_st (i j k : Nat) (s : Stand) (ρ : Env) : asgD (.tp [i, j, k]) s.d ρ = some (((ρ.set i (some (.d (wD s.w)))).set j (some (.d (prD s.b0 s.b1)))).set k (some (.d (prD s.s0 s.s1)))) := rfl
theorem a_2 (i j : Nat) (x y : D) (ρ : Env) : asgD (.tp [i, j]) (.tuple [x, y]) ρ = some ((ρ.set i (some (.d x))).set j (some (.d y))) := rfl
theorem dsD_nil : dsD [] = .tuple [] := rfl
theorem ix_pair1 (x y : D) : ixF (.tuple [x, y]) (.int 1) = some y := rfl
theorem ix_pair0 (x y : D) : ixF (.tuple [x, y]) (.int 0) = some x := rfl
theorem coming_ok {h : House} {d : Bool} {k : Nat} {x : Hab} (s : Stand) (f : Bool) (hx : (h.home d)[k]? = some x) (n : Nat) (m : Store) :
    callF tab LL (n + 2) 47 [.d h.d, .d s.d, .d (.int (dn d)), .d (.int k), .d (.bool f)] m = .ok (.d (.tuple [.str (coming h s d k x f).1.s, (coming h s d k x f).2.d])) m := by
  refine lift (xs := [h.d, s.d, .int (dn d), .int k, .bool f]) ?_ m
  show evFn (callF tab LL (n + 1)) LL f47 _ [] = _
  have w1 := is_lit h s n
  have w2 := with_truth s.s0 s.s1 d false n
  have w3 := with_bolts h s.b0 s.b1 (ds := enterD x d f) (by cases f; exact doorsOf_ok _ _; exact .no) n
  have w4 := doors_of x.b d n
  have h1 := h_hab hx
  generalize callF tab LL (n + 1) = Φ at w1 w2 w3 w4 ⊢
  have tail : ∀ look : Bool, x.look = look → (look = true → isLit h s = false) → evFn Φ LL f47 [.d h.d, .d s.d, .d (.int (dn d)), .d (.int k), .d (.bool f)] [] = .ok (.d (.tuple [.str (coming h s d k x f).1.s, (coming h s d k x f).2.d])) [] := fun look e1 e2 => by
    have c1 : (x.look && isLit h s) = false := by cases look <;> simp_all
    unfold coming
    rw [c1]
    have w1' : look = true → ∀ m, Φ 45 [.d h.d, .d s.d] m = .ok (.d (.bool false)) m := fun q m => by rw [w1, e2 q]
    cases e3 : pick2 d s.b0 s.b1 with
    | true =>
      cases look with
      | false =>
        simp only [evFn, evSs, evS, evT, ev, evs, evI, evC, evO, truR, tru, rd, rdAll, blF, boolsOf, put, new, cmR, opR, opF, fz, allD, seqOf, walkOf, ofO, forLoop, compLoop, R.calm, wipeE, leave, sizeLine_eq, Cell.data, setAt, setAny, isDicR, app1, isLst, List.set_cons_zero, List.set_cons_succ, List.getElem?_cons_zero, List.getElem?_cons_succ, List.map_cons, List.map_nil, List.cons_append, List.nil_append, List.replicate_succ, List.replicate_zero, R.bind_ok, if_true, if_false, ite_true, ite_false, Bool.false_eq_true, Bool.true_and, Bool.false_and, Option.map_some, Option.map_none, List.length_cons, List.length_nil, Nat.reduceAdd, Nat.reduceSub, Nat.reduceLeDiff, List.take_zero, List.take_nil, reduceIte, List.set_nil, f47, b47, a_nm, a_st, h_homes, h_home, h1, hb_look, hb_b, w2, pr_ix, e1, e3, dsD_nil]
        rfl
      | true =>
        have w1 := w1' rfl
        simp only [evFn, evSs, evS, evT, ev, evs, evI, evC, evO, truR, tru, rd, rdAll, blF, boolsOf, put, new, cmR, opR, opF, fz, allD, seqOf, walkOf, ofO, forLoop, compLoop, R.calm, wipeE, leave, sizeLine_eq, Cell.data, setAt, setAny, isDicR, app1, isLst, List.set_cons_zero, List.set_cons_succ, List.getElem?_cons_zero, List.getElem?_cons_succ, List.map_cons, List.map_nil, List.cons_append, List.nil_append, List.replicate_succ, List.replicate_zero, R.bind_ok, if_true, if_false, ite_true, ite_false, Bool.false_eq_true, Bool.true_and, Bool.false_and, Option.map_some, Option.map_none, List.length_cons, List.length_nil, Nat.reduceAdd, Nat.reduceSub, Nat.reduceLeDiff, List.take_zero, List.take_nil, reduceIte, List.set_nil, f47, b47, a_nm, a_st, h_homes, h_home, h1, hb_look, hb_b, w1, w2, pr_ix, e1, e3, dsD_nil]
        rfl
    | false =>
      cases e4 : s.w.isSome with
      | true =>
        cases look with
        | false =>
          simp only [evFn, evSs, evS, evT, ev, evs, evI, evC, evO, truR, tru, rd, rdAll, blF, boolsOf, put, new, cmR, opR, opF, fz, allD, seqOf, walkOf, ofO, forLoop, compLoop, R.calm, wipeE, leave, sizeLine_eq, Cell.data, setAt, setAny, isDicR, app1, isLst, List.set_cons_zero, List.set_cons_succ, List.getElem?_cons_zero, List.getElem?_cons_succ, List.map_cons, List.map_nil, List.cons_append, List.nil_append, List.replicate_succ, List.replicate_zero, R.bind_ok, if_true, if_false, ite_true, ite_false, Bool.false_eq_true, Bool.true_and, Bool.false_and, Option.map_some, Option.map_none, List.length_cons, List.length_nil, Nat.reduceAdd, Nat.reduceSub, Nat.reduceLeDiff, List.take_zero, List.take_nil, reduceIte, List.set_nil, f47, b47, a_nm, a_st, h_homes, h_home, h1, hb_look, hb_b, w2, pr_ix, e1, e3, e4, w_ne2, dsD_nil]
          rfl
        | true =>
          have w1 := w1' rfl
          simp only [evFn, evSs, evS, evT, ev, evs, evI, evC, evO, truR, tru, rd, rdAll, blF, boolsOf, put, new, cmR, opR, opF, fz, allD, seqOf, walkOf, ofO, forLoop, compLoop, R.calm, wipeE, leave, sizeLine_eq, Cell.data, setAt, setAny, isDicR, app1, isLst, List.set_cons_zero, List.set_cons_succ, List.getElem?_cons_zero, List.getElem?_cons_succ, List.map_cons, List.map_nil, List.cons_append, List.nil_append, List.replicate_succ, List.replicate_zero, R.bind_ok, if_true, if_false, ite_true, ite_false, Bool.false_eq_true, Bool.true_and, Bool.false_and, Option.map_some, Option.map_none, List.length_cons, List.length_nil, Nat.reduceAdd, Nat.reduceSub, Nat.reduceLeDiff, List.take_zero, List.take_nil, reduceIte, List.set_nil, f47, b47, a_nm, a_st, h_homes, h_home, h1, hb_look, hb_b, w1, w2, pr_ix, e1, e3, e4, w_ne2, dsD_nil]
          rfl
      | false =>
        cases f with
        | false =>
          have w3 : ∀ m, Φ 42 [.d h.d, .d (prD s.b0 s.b1), .d (dsD (doorsOf x.b d))] m = .ok (.d (prD (enterS h s d k x false).b0 (enterS h s d k x false).b1)) m := w3
          cases look with
          | false =>
            simp only [evFn, evSs, evS, evT, ev, evs, evI, evC, evO, truR, tru, rd, rdAll, blF, boolsOf, put, new, cmR, opR, opF, fz, allD, seqOf, walkOf, ofO, forLoop, compLoop, R.calm, wipeE, leave, sizeLine_eq, Cell.data, setAt, setAny, isDicR, app1, isLst, List.set_cons_zero, List.set_cons_succ, List.getElem?_cons_zero, List.getElem?_cons_succ, List.map_cons, List.map_nil, List.cons_append, List.nil_append, List.replicate_succ, List.replicate_zero, R.bind_ok, if_true, if_false, ite_true, ite_false, Bool.false_eq_true, Bool.true_and, Bool.false_and, Option.map_some, Option.map_none, List.length_cons, List.length_nil, Nat.reduceAdd, Nat.reduceSub, Nat.reduceLeDiff, List.take_zero, List.take_nil, reduceIte, List.set_nil, f47, b47, a_nm, a_st, h_homes, h_home, h1, hb_look, hb_b, w2, w3, w4, pr_ix, e1, e3, e4, w_ne2, dsD_nil]
            rfl
          | true =>
            have w1 := w1' rfl
            simp only [evFn, evSs, evS, evT, ev, evs, evI, evC, evO, truR, tru, rd, rdAll, blF, boolsOf, put, new, cmR, opR, opF, fz, allD, seqOf, walkOf, ofO, forLoop, compLoop, R.calm, wipeE, leave, sizeLine_eq, Cell.data, setAt, setAny, isDicR, app1, isLst, List.set_cons_zero, List.set_cons_succ, List.getElem?_cons_zero, List.getElem?_cons_succ, List.map_cons, List.map_nil, List.cons_append, List.nil_append, List.replicate_succ, List.replicate_zero, R.bind_ok, if_true, if_false, ite_true, ite_false, Bool.false_eq_true, Bool.true_and, Bool.false_and, Option.map_some, Option.map_none, List.length_cons, List.length_nil, Nat.reduceAdd, Nat.reduceSub, Nat.reduceLeDiff, List.take_zero, List.take_nil, reduceIte, List.set_nil, f47, b47, a_nm, a_st, h_homes, h_home, h1, hb_look, hb_b, w1, w2, w3, w4, pr_ix, e1, e3, e4, w_ne2, dsD_nil]
            rfl
        | true =>
          have w3 : ∀ m, Φ 42 [.d h.d, .d (prD s.b0 s.b1), .d (.tuple [])] m = .ok (.d (prD (enterS h s d k x true).b0 (enterS h s d k x true).b1)) m := w3
          cases look with
          | false =>
            simp only [evFn, evSs, evS, evT, ev, evs, evI, evC, evO, truR, tru, rd, rdAll, blF, boolsOf, put, new, cmR, opR, opF, fz, allD, seqOf, walkOf, ofO, forLoop, compLoop, R.calm, wipeE, leave, sizeLine_eq, Cell.data, setAt, setAny, isDicR, app1, isLst, List.set_cons_zero, List.set_cons_succ, List.getElem?_cons_zero, List.getElem?_cons_succ, List.map_cons, List.map_nil, List.cons_append, List.nil_append, List.replicate_succ, List.replicate_zero, R.bind_ok, if_true, if_false, ite_true, ite_false, Bool.false_eq_true, Bool.true_and, Bool.false_and, Option.map_some, Option.map_none, List.length_cons, List.length_nil, Nat.reduceAdd, Nat.reduceSub, Nat.reduceLeDiff, List.take_zero, List.take_nil, reduceIte, List.set_nil, f47, b47, a_nm, a_st, h_homes, h_home, h1, hb_look, hb_b, w2, w3, w4, pr_ix, e1, e3, e4, w_ne2, dsD_nil]
            rfl
          | true =>
            have w1 := w1' rfl
            simp only [evFn, evSs, evS, evT, ev, evs, evI, evC, evO, truR, tru, rd, rdAll, blF, boolsOf, put, new, cmR, opR, opF, fz, allD, seqOf, walkOf, ofO, forLoop, compLoop, R.calm, wipeE, leave, sizeLine_eq, Cell.data, setAt, setAny, isDicR, app1, isLst, List.set_cons_zero, List.set_cons_succ, List.getElem?_cons_zero, List.getElem?_cons_succ, List.map_cons, List.map_nil, List.cons_append, List.nil_append, List.replicate_succ, List.replicate_zero, R.bind_ok, if_true, if_false, ite_true, ite_false, Bool.false_eq_true, Bool.true_and, Bool.false_and, Option.map_some, Option.map_none, List.length_cons, List.length_nil, Nat.reduceAdd, Nat.reduceSub, Nat.reduceLeDiff, List.take_zero, List.take_nil, reduceIte, List.set_nil, f47, b47, a_nm, a_st, h_homes, h_home, h1, hb_look, hb_b, w1, w2, w3, w4, pr_ix, e1, e3, e4, w_ne2, dsD_nil]
            rfl
  cases e1 : x.look with
  | false => exact tail false e1 (fun h => nomatch h)
  | true =>
    cases e2 : isLit h s with
    | false => exact tail true e1 (fun _ => e2)
    | true =>
      unfold coming
      rw [e1, e2]
      rw [e2] at w1
      simp only [evFn, evSs, evS, evT, ev, evs, evI, evC, evO, truR, tru, rd, rdAll, blF, boolsOf, put, new, cmR, opR, opF, fz, allD, seqOf, walkOf, ofO, forLoop, compLoop, R.calm, wipeE, leave, sizeLine_eq, Cell.data, setAt, setAny, isDicR, app1, isLst, List.set_cons_zero, List.set_cons_succ, List.getElem?_cons_zero, List.getElem?_cons_succ, List.map_cons, List.map_nil, List.cons_append, List.nil_append, List.replicate_succ, List.replicate_zero, R.bind_ok, if_true, if_false, ite_true, ite_false, Bool.false_eq_true, Bool.true_and, Bool.false_and, Option.map_some, Option.map_none, List.length_cons, List.length_nil, Nat.reduceAdd, Nat.reduceSub, Nat.reduceLeDiff, List.take_zero, List.take_nil, reduceIte, List.set_nil, f47, b47, a_nm, a_st, h_homes, h_home, h1, hb_look, hb_b, w1, e1, dsD_nil]
      rfl
end DL.G
end
section
set_option Elab.async false
set_option linter.all false
set_option maxRecDepth 100000
set_option maxHeartbeats 4000000
/-! KE: houses as rows of parts. -/
namespace DL.X
open PySem DL DL.G
def hb (a b c d e : D) : D := .tuple [a, b, c, d, e]
def hs (l k i j o p : D) (x y : List D) : D := .tuple [l, k, .tuple [i, j], .tuple [o, p], .tuple [.tuple x, .tuple y]]
section
variable (l k i j o p a b c d e a' b' c' d' e' f g h q r f' g' h' q' r' : D) (n : Nat)
theorem parts11 : callF tab LL (n + 1) 6 [.d (hs l k i j o p [hb a b c d e] [hb f g h q r])] [] = .ok (.d (.tuple [l, k, i, j, o, p, a, b, c, d, e, f, g, h, q, r])) [] := by kernel_rfl
theorem parts12 : callF tab LL (n + 1) 6 [.d (hs l k i j o p [hb a b c d e] [hb f g h q r, hb f' g' h' q' r'])] [] = .ok (.d (.tuple [l, k, i, j, o, p, a, b, c, d, e, f, g, h, q, r, f', g', h', q', r'])) [] := by kernel_rfl
theorem parts21 : callF tab LL (n + 1) 6 [.d (hs l k i j o p [hb a b c d e, hb a' b' c' d' e'] [hb f g h q r])] [] = .ok (.d (.tuple [l, k, i, j, o, p, a, b, c, d, e, a', b', c', d', e', f, g, h, q, r])) [] := by kernel_rfl
theorem parts22 : callF tab LL (n + 1) 6 [.d (hs l k i j o p [hb a b c d e, hb a' b' c' d' e'] [hb f g h q r, hb f' g' h' q' r'])] [] = .ok (.d (.tuple [l, k, i, j, o, p, a, b, c, d, e, a', b', c', d', e', f, g, h, q, r, f', g', h', q', r'])) [] := by kernel_rfl
theorem house11 : callF tab LL (n + 1) 7 [.d (.tuple [l, k, i, j, o, p, a, b, c, d, e, f, g, h, q, r]), .d (.int 1)] [] = .ok (.d (hs l k i j o p [hb a b c d e] [hb f g h q r])) [] := by kernel_rfl
theorem house12 : callF tab LL (n + 1) 7 [.d (.tuple [l, k, i, j, o, p, a, b, c, d, e, f, g, h, q, r, f', g', h', q', r']), .d (.int 1)] [] = .ok (.d (hs l k i j o p [hb a b c d e] [hb f g h q r, hb f' g' h' q' r'])) [] := by kernel_rfl
theorem house21 : callF tab LL (n + 1) 7 [.d (.tuple [l, k, i, j, o, p, a, b, c, d, e, a', b', c', d', e', f, g, h, q, r]), .d (.int 2)] [] = .ok (.d (hs l k i j o p [hb a b c d e, hb a' b' c' d' e'] [hb f g h q r])) [] := by kernel_rfl
theorem house22 : callF tab LL (n + 1) 7 [.d (.tuple [l, k, i, j, o, p, a, b, c, d, e, a', b', c', d', e', f, g, h, q, r, f', g', h', q', r']), .d (.int 2)] [] = .ok (.d (hs l k i j o p [hb a b c d e, hb a' b' c' d' e'] [hb f g h q r, hb f' g' h' q' r'])) [] := by kernel_rfl
theorem put0 (x y z : D) : callF tab LL (n + 1) 19 [.d (.tuple [x, y]), .d (.int 0), .d z] [] = .ok (.d (.tuple [z, y])) [] := by kernel_rfl
theorem put1 (x y z : D) : callF tab LL (n + 1) 19 [.d (.tuple [x, y]), .d (.int 1), .d z] [] = .ok (.d (.tuple [x, z])) [] := by kernel_rfl
end
def kn (a : Str) (k : Bool) (o : Str) (h : D) : D := hs (.str a) (.bool k) (.bool true) (.bool true) (.str o) (.str o) [h] [h]
def kh (l : Bool) (b g u f : Str) : D := hb (.bool l) (.str b) (.str g) (.str u) (.str f)
def kn0 : D := kn (S "none") false (S "none") (kh false (S "own") (S "same") (S "own") (S "never"))
def knL : List D := [kn0, kn (S "none") false (S "none") (kh false (S "both") (S "either") (S "own") (S "never")), kn (S "none") true (S "none") (kh false (S "both") (S "either") (S "own") (S "never")), kn (S "none") false (S "none") (kh false (S "both") (S "same") (S "own") (S "never")), kn (S "within") false (S "any") (kh true (S "both") (S "either") (S "both") (S "never"))]
theorem known (n : Nat) : callF tab LL (n + 1) 20 [] [] = .ok (.r 0) [.lst knL] := by kernel_rfl
end DL.X
end
section
set_option Elab.async false
set_option linter.all false
set_option maxRecDepth 100000
set_option maxHeartbeats 4000000
/-! KF: the rows with one part changed. -/
namespace DL.X
open PySem DL DL.G
inductive At : D → Prop
  | b (x : Bool) : At (.bool x)
  | s (x : Str) : PyData.strOk x = true → At (.str x)
theorem eqD_at {x y : D} (h : At x) (g : At y) : eqD x y = some (PyData.eqv x y) := by
  cases h with
  | b x =>
    cases g with
    | b y => simp [eqD, SeqAt.shaped, PyData.canLay0, PyData.depth]
    | s y hy => simp [eqD, SeqAt.shaped, PyData.canLay0, PyData.depth, hy]
  | s x hx =>
    cases g with
    | b y => simp [eqD, SeqAt.shaped, PyData.canLay0, PyData.depth, hx]
    | s y hy => simp [eqD, SeqAt.shaped, PyData.canLay0, PyData.depth, hx, hy]
theorem for_inv {f : D → Env → Store → R Fl} {I : List D → Env → Store → Prop} {all : List D} (hf : ∀ p x s ρ m, p ++ x :: s = all → I p ρ m → Post (f x ρ m) fun o m' => ∃ ρ', o = .nx ρ' ∧ I (p ++ [x]) ρ' m') : ∀ (xs pre : List D), pre ++ xs = all → ∀ ρ m, I pre ρ m → Post (forLoop f xs ρ m) fun o m' => ∃ ρ', o = .nx ρ' ∧ I all ρ' m'
  | [], pre, e, ρ, m, h => .ok ⟨ρ, rfl, by rw [List.append_nil] at e; rw [← e]; exact h⟩
  | x :: xs, pre, e, ρ, m, h => by
    obtain ⟨o, m1, e1, ρ1, rfl, h1⟩ := hf pre x xs ρ m e h
    obtain ⟨o, m2, e2, ρ2, rfl, h2⟩ := for_inv (f := f) (I := I) hf xs (pre ++ [x]) (by rw [List.append_assoc]; exact e) ρ1 m1 h1
    refine ⟨.nx ρ2, m2, ?_, ρ2, rfl, h2⟩
    show (f x ρ m).bind _ = _
    rw [e1]
    exact e2
def turnS (t : Tg) (B : PSs Nat) (Φ : Nat → List Val → Store → R Val) (x : D) (ρ1 : Env) (m2 : Store) : R Fl := match asgD t x ρ1 with
  | some ρ2 => evSs Φ LL B ρ2 m2
  | none => .no
theorem evS_for {Φ : Nat → List Val → Store → R Val} {t : Tg} {it : It Nat} {B : PSs Nat} {ρ : Env} {m : Store} : evS Φ LL (.for t it B) ρ m = (evI Φ it ρ m).bind fun xs m1 => forLoop (turnS t B Φ) xs ρ m1 := rfl
def words (s : List String) : List D := s.map fun x => .str (Str.ofString x)
def truths : List D := [.bool false, .bool true]
def habVals : Nat → List D
  | 0 => truths
  | 1 => [.str (S "both"), .str (S "none"), .str (S "own")]
  | 2 => [.str (S "either"), .str (S "same")]
  | 3 => [.str (S "both"), .str (S "own")]
  | _ => [.str (S "all"), .str (S "bolts"), .str (S "never"), .str (S "undoing")]
def vals : Nat → List D
  | 0 => [.str (S "bolts"), .str (S "none"), .str (S "within")]
  | 1 => truths
  | 2 => truths
  | 3 => truths
  | 4 => [.str (S "any"), .str (S "leaving"), .str (S "none")]
  | 5 => [.str (S "any"), .str (S "leaving"), .str (S "none")]
  | a + 6 => habVals (a % 5)
theorem vals_fn (n : Nat) : ∀ a, a < 26 → callF tab LL (n + 1) 8 [.d (.int (a : Nat))] [] = .ok (.d (.tuple (vals a))) [] := by
  intro a h
  match a, h with
  | 0, _ => kernel_rfl
  | 1, _ => kernel_rfl
  | 2, _ => kernel_rfl
  | 3, _ => kernel_rfl
  | 4, _ => kernel_rfl
  | 5, _ => kernel_rfl
  | 6, _ => kernel_rfl
  | 7, _ => kernel_rfl
  | 8, _ => kernel_rfl
  | 9, _ => kernel_rfl
  | 10, _ => kernel_rfl
  | 11, _ => kernel_rfl
  | 12, _ => kernel_rfl
  | 13, _ => kernel_rfl
  | 14, _ => kernel_rfl
  | 15, _ => kernel_rfl
  | 16, _ => kernel_rfl
  | 17, _ => kernel_rfl
  | 18, _ => kernel_rfl
  | 19, _ => kernel_rfl
  | 20, _ => kernel_rfl
  | 21, _ => kernel_rfl
  | 22, _ => kernel_rfl
  | 23, _ => kernel_rfl
  | 24, _ => kernel_rfl
  | 25, _ => kernel_rfl
  | a + 26, h => exact absurd h (by omega)
def atB : D → Bool
  | .bool _ => true
  | .str x => PyData.strOk x
  | _ => false
theorem at_of {v : D} (h : atB v = true) : At v := by
  cases v <;> first | exact .b _ | exact .s _ h | cases h
theorem habVals_at : ∀ a, (habVals a).all atB = true
  | 0 => by kernel_rfl
  | 1 => by kernel_rfl
  | 2 => by kernel_rfl
  | 3 => by kernel_rfl
  | a + 4 => by kernel_rfl
theorem vals_at : ∀ a, (vals a).all atB = true
  | 0 => by kernel_rfl
  | 1 => by kernel_rfl
  | 2 => by kernel_rfl
  | 3 => by kernel_rfl
  | 4 => by kernel_rfl
  | 5 => by kernel_rfl
  | a + 6 => habVals_at _
theorem habVals_len : ∀ a, (habVals a).length ≤ 4
  | 0 => by decide
  | 1 => by decide
  | 2 => by decide
  | 3 => by decide
  | a + 4 => by show (habVals (Nat.succ _)).length ≤ 4; simp [habVals]
theorem vals_len : ∀ a, (vals a).length ≤ 4
  | 0 => by simp [vals]
  | 1 => by simp [vals, truths]
  | 2 => by simp [vals, truths]
  | 3 => by simp [vals, truths]
  | 4 => by simp [vals]
  | 5 => by simp [vals]
  | a + 6 => habVals_len _
/-- another value at a place -/
def alt (vs : List D) (v : D) : List D := vs.filter fun w => !PyData.eqv w v
def chg (P : List D) (a : Nat) (w : D) : D := .tuple [.int (a : Nat), .tuple (P.take a ++ [w] ++ P.drop (a + 1))]
def bV : PSs Nat := (.cons (.iff (.cmp .ne (.loc 4) (.idx (.loc 0) (.loc 3))) (.cons (.ex (.app (.loc 2) (.tup (.cons false (.loc 3) (.cons false (.bin .add (.bin .add (.sli (.loc 0) .no (.so (.loc 3))) (.tup (.cons false (.loc 4) .nil))) (.sli (.loc 0) (.so (.bin .add (.loc 3) (.lit (.int (1))))) .no)) .nil))))) .nil) .nil) .nil)
def bA : PSs Nat := (.cons (.for (.nm 4) (.of (.call 8 (.cons false (.loc 3) .nil))) bV) .nil)
theorem cut_take (P : List D) (a : Nat) : cutD P none (some (a : Int)) = P.take a := by
  unfold cutD
  rw [show HT.sIx P.length 0 none = 0 from rfl, List.drop_zero, Nat.sub_zero]
  have e : HT.sIx P.length P.length (some (a : Int)) = min a P.length := by
    simp [HT.sIx]
    intro q
    omega
  rw [e, List.take_eq_take_iff]
  simp
theorem cut_drop (P : List D) (a : Nat) : cutD P (some (a : Int)) none = P.drop a := by
  unfold cutD
  have e : HT.sIx P.length 0 (some (a : Int)) = min a P.length := by
    simp [HT.sIx]
    intro q
    omega
  rw [e, show HT.sIx P.length P.length none = P.length from rfl]
  by_cases h : a ≤ P.length
  · rw [Nat.min_eq_left h, List.take_of_length_le (by simp)]
  · rw [Nat.min_eq_right (by omega), List.drop_eq_nil_of_le (Nat.le_refl _), List.drop_eq_nil_of_le (by omega), List.take_nil]
theorem val_turn (Φ : Nat → List Val → Store → R Val) (P : List D) (a : Nat) (v w : D) (x y : Option Val) (xs : List D) (hv : P[a]? = some v) (av : At v) (aw : At w) (hP : P.length ≤ 1000) (hx : xs.length ≤ 1000) : turnS (.nm 4) bV Φ w [some (.d (.tuple P)), x, some (.r 0), some (.d (.int (a : Nat))), y] [.lst xs] = .ok (.nx [some (.d (.tuple P)), x, some (.r 0), some (.d (.int (a : Nat))), some (.d w)]) [.lst (xs ++ (alt [w] v).map (chg P a))] := by
  have ha : a < P.length := (List.getElem?_eq_some_iff.mp hv).1
  have e1 := eqD_at aw av
  have e2 : ixF (.tuple P) (.int (a : Nat)) = some v := ix_tup hv
  have e3 := cut_take P a
  have e4 : cutD P (some ((a : Int) + 1)) none = P.drop (a + 1) := cut_drop P (a + 1)
  cases h : PyData.eqv w v with
  | true =>
    rw [h] at e1
    simp [turnS, bV, asgD, evSs, evS, evT, ev, evs, rd, cmR, cmF, truR, tru, e1, e2, alt, h]
  | false =>
    rw [h] at e1
    have z1 : P.length ≤ 16777216 := by omega
    have z2 : min a P.length + 1 ≤ 16777216 := by omega
    have z3 : xs.length < 16777216 := by omega
    have z6 : min a P.length ≤ 16777216 := by omega
    have z7 : P.length - (a + 1) ≤ 16777216 := by omega
    have z9 : min a P.length + (P.length - (a + 1) + 1) ≤ 16777216 := by omega
    have z8 : P.length ≤ 16777216 + (a + 1) := by omega
    have z4 : (P.take a ++ [w] ++ P.drop (a + 1)).length ≤ 16777216 := by simp; omega
    have z5 : min a P.length + 1 + (P.length - (a + 1)) ≤ 16777216 := by omega
    simp [turnS, bV, asgD, evSs, evS, evT, ev, evs, evO, rd, rdAll, fz, put, new, allD, partI, opR, opF, slF, cmR, cmF, truR, tru, isLst, app1, e1, e2, e3, e4, alt, h, chg, sizeLine_eq, Cell.data, z1, z2, z3, z4, z5, z6, z7, z8, z9]
end DL.X
end
section
set_option Elab.async false
set_option linter.all false
set_option maxRecDepth 100000
set_option maxHeartbeats 4000000
/-! KG: all rows with one part changed. -/
namespace DL.X
open PySem DL DL.G
theorem alt_app (xs : List D) (w v : D) : alt (w :: xs) v = alt [w] v ++ alt xs v := by
  show List.filter _ ([w] ++ xs) = _
  rw [List.filter_append]
  rfl
theorem alt_len (xs : List D) (v : D) : (alt xs v).length ≤ xs.length := List.length_filter_le _ _
theorem val_loop (Φ : Nat → List Val → Store → R Val) (P : List D) (a : Nat) (v : D) (x : Option Val) (hv : P[a]? = some v) (av : At v) (hP : P.length ≤ 1000) : ∀ (vs : List D) (y : Option Val) (xs : List D), (∀ w ∈ vs, At w) → xs.length + vs.length ≤ 1000 → ∃ y', forLoop (turnS (.nm 4) bV Φ) vs [some (.d (.tuple P)), x, some (.r 0), some (.d (.int (a : Nat))), y] [.lst xs] = .ok (.nx [some (.d (.tuple P)), x, some (.r 0), some (.d (.int (a : Nat))), y']) [.lst (xs ++ (alt vs v).map (chg P a))]
  | [], y, xs, _, _ => ⟨y, by rw [show alt [] v = [] from rfl, List.map_nil, List.append_nil]; rfl⟩
  | w :: vs, y, xs, hw, hl => by
    rw [List.length_cons] at hl
    have q := alt_len [w] v
    rw [List.length_singleton] at q
    obtain ⟨y', e⟩ := val_loop Φ P a v x hv av hP vs (some (.d w)) (xs ++ (alt [w] v).map (chg P a)) (fun z hz => hw z (List.mem_cons_of_mem _ hz)) (by rw [List.length_append, List.length_map]; omega)
    refine ⟨y', ?_⟩
    show (turnS _ _ _ _ _ _).bind _ = _
    rw [val_turn Φ P a v w x y xs hv av (hw w List.mem_cons_self) hP (by omega)]
    rw [alt_app vs w v, List.map_append, ← List.append_assoc]
    exact e
def atP (P : List D) (a : Nat) : List D := (alt (vals a) ((P[a]?).getD .none)).map (chg P a)
def L1p (P : List D) (as : List Nat) : List D := as.flatMap (atP P)
theorem atP_len (P : List D) (a : Nat) : (atP P a).length ≤ 4 := by
  unfold atP
  rw [List.length_map]
  exact Nat.le_trans (alt_len _ _) (vals_len a)
theorem all_at {xs : List D} (h : xs.all atB = true) : ∀ w ∈ xs, At w := fun w hw => at_of (List.all_eq_true.mp h w hw)
theorem at_turn (n : Nat) (P : List D) (a : Nat) (x z y : Option Val) (xs : List D) (ha : a < P.length) (hP : P.length ≤ 26) (hA : ∀ p ∈ P, At p) (hx : xs.length + 4 ≤ 1000) : ∃ y', turnS (.nm 3) bA (callF tab LL (n + 1)) (.int (a : Nat)) [some (.d (.tuple P)), x, some (.r 0), z, y] [.lst xs] = .ok (.nx [some (.d (.tuple P)), x, some (.r 0), some (.d (.int (a : Nat))), y']) [.lst (xs ++ atP P a)] := by
  have hv : P[a]? = some P[a] := List.getElem?_eq_getElem ha
  have e1 := fun m => lift (xs := [.int (a : Nat)]) (vals_fn n a (by omega)) m
  obtain ⟨y', e⟩ := val_loop (callF tab LL (n + 1)) P a P[a] x hv (hA _ (List.getElem_mem ha)) (by omega) (vals a) y xs (all_at (vals_at a)) (by have := vals_len a; omega)
  refine ⟨y', ?_⟩
  have e2 : atP P a = (alt (vals a) P[a]).map (chg P a) := by
    unfold atP
    rw [hv]
    rfl
  rw [e2]
  generalize callF tab LL (n + 1) = Φ at e1 e ⊢
  unfold turnS bA
  generalize bV = B at e ⊢
  simp only [List.map_cons, List.map_nil] at e1
  simp only [asgD, List.set, evSs, evS_for]
  simp [evS, ev, evs, evI, rd, fz, seqOf, walkOf, ofO, e1, e]
theorem at_loop (n : Nat) (P : List D) (x : Option Val) (hP : P.length ≤ 26) (hA : ∀ p ∈ P, At p) : ∀ (as : List Nat) (z y : Option Val) (xs : List D), (∀ a ∈ as, a < P.length) → xs.length + 4 * as.length ≤ 1000 → ∃ z' y', forLoop (turnS (.nm 3) bA (callF tab LL (n + 1))) (as.map fun a => .int (a : Nat)) [some (.d (.tuple P)), x, some (.r 0), z, y] [.lst xs] = .ok (.nx [some (.d (.tuple P)), x, some (.r 0), z', y']) [.lst (xs ++ L1p P as)]
  | [], z, y, xs, _, _ => ⟨z, y, by rw [show L1p P [] = [] from rfl, List.append_nil]; rfl⟩
  | a :: as, z, y, xs, h, hl => by
    rw [List.length_cons] at hl
    obtain ⟨y1, e1⟩ := at_turn n P a x z y xs (h a List.mem_cons_self) hP hA (by omega)
    have q := atP_len P a
    obtain ⟨z', y', e⟩ := at_loop n P x hP hA as (some (.d (.int (a : Nat)))) y1 (xs ++ atP P a) (fun b hb => h b (List.mem_cons_of_mem _ hb)) (by rw [List.length_append]; omega)
    refine ⟨z', y', ?_⟩
    rw [List.map_cons]
    show (turnS _ _ _ _ _ _).bind _ = _
    rw [e1, show L1p P (a :: as) = atP P a ++ L1p P as from rfl, ← List.append_assoc]
    exact e
theorem rg_eq (n : Nat) : rgD 0 n = (List.range n).map fun a => .int (a : Nat) := by
  simp [rgD]
theorem rg_ok {n : Nat} (h : n ≤ 1000) : rgOk (n : Int) = true := by
  unfold rgOk
  rw [Bool.and_eq_true, decide_eq_true_eq, decide_eq_true_eq]
  exact ⟨by omega, by omega⟩
theorem ss_nx {Φ : Nat → List Val → Store → R Val} {s : PS Nat} {r : PSs Nat} {ρ ρ1 : Env} {m m1 : Store} (h : evS Φ LL s ρ m = .ok (.nx ρ1) m1) : evSs Φ LL (.cons s r) ρ m = evSs Φ LL r ρ1 m1 := by
  show (evS Φ LL s ρ m).bind _ = _
  rw [h]
  rfl
theorem ss_rt {Φ : Nat → List Val → Store → R Val} {s : PS Nat} {r : PSs Nat} {ρ : Env} {v : Val} {m m1 : Store} (h : evS Φ LL s ρ m = .ok (.rt v) m1) : evSs Φ LL (.cons s r) ρ m = .ok (.rt v) m1 := by
  show (evS Φ LL s ρ m).bind _ = _
  rw [h]
  rfl
theorem fn_rt {Φ : Nat → List Val → Store → R Val} {f : Fn Nat} {vs : List Val} {m m1 : Store} {v : Val} (h0 : vs.length = f.ps) (h : evSs Φ LL f.body (vs.map some ++ List.replicate (f.ns - f.ps) none) m = .ok (.rt v) m1) : evFn Φ LL f vs m = leave m.length v m1 := by
  unfold evFn
  rw [if_pos h0, h]
theorem rng2_ok {Φ : Nat → List Val → Store → R Val} {a b : PX Nat} {ρ : Env} {m m1 m2 : Store} {v w : Val} {i j : Int} (ha : ev Φ a ρ m = .ok v m1) (hb : ev Φ b ρ m1 = .ok w m2) (hv : rd v m2 = some (.int i)) (hw : rd w m2 = some (.int j)) (hi : rgOk i = true) (hj : rgOk j = true) : evI Φ (.rng2 a b) ρ m = .ok (rgD i (j - i).toNat) m2 := by
  show (ev Φ a ρ m).bind _ = _
  rw [ha]
  show (ev Φ b ρ m1).bind _ = _
  rw [hb]
  show (match rd v m2, rd w m2 with
    | some (.int i), some (.int j) => if rgOk i && rgOk j then R.ok (rgD i (j - i).toNat) m2 else R.no
    | _, _ => R.no) = _
  rw [hv, hw]
  dsimp only
  rw [hi, hj]
  rfl
def changedFor : PS Nat := .for (.nm 3) (.rng2 (.loc 1) (.blt .len (.cons false (.loc 0) .nil))) bA
theorem changed_fn (n : Nat) (P : List D) (hP : P.length ≤ 26) (hA : ∀ p ∈ P, At p) : callF tab LL (n + 2) 9 [.d (.tuple P), .d (.int 0)] [] = .ok (.r 0) [.lst (L1p P (List.range P.length))] := by
  obtain ⟨z', y', e⟩ := at_loop n P (some (.d (.int 0))) hP hA (List.range P.length) none none [] (fun a h => List.mem_range.mp h) (by simp; omega)
  rw [← rg_eq, List.nil_append] at e
  show evFn (callF tab LL (n + 1)) LL f9 _ [] = _
  generalize callF tab LL (n + 1) = Φ at e ⊢
  have z1 : rgOk (P.length : Int) = true := rg_ok (by omega)
  have z2 : rgOk 0 = true := rg_ok (n := 0) (by decide)
  have z3 : ((P.length : Int) - 0).toNat = P.length := by omega
  have s1 : evS Φ LL (.asg (.nm 2) (.lst .nil)) [some (.d (.tuple P)), some (.d (.int 0)), none, none, none] [] = .ok (.nx [some (.d (.tuple P)), some (.d (.int 0)), some (.r 0), none, none]) [.lst []] := by kernel_rfl
  have i2 : evI Φ (.rng2 (.loc 1) (.blt .len (.cons false (.loc 0) .nil))) [some (.d (.tuple P)), some (.d (.int 0)), some (.r 0), none, none] [.lst []] = .ok (rgD 0 P.length) [.lst []] := by
    have q := rng2_ok (Φ := Φ) (a := .loc 1) (b := .blt .len (.cons false (.loc 0) .nil)) (ρ := [some (.d (.tuple P)), some (.d (.int 0)), some (.r 0), none, none]) (m := [.lst []]) (m1 := [.lst []]) (m2 := [.lst []]) (v := .d (.int 0)) (w := .d (.int (P.length : Nat))) (i := 0) (j := (P.length : Nat)) rfl rfl rfl rfl z2 z1
    rw [z3] at q
    exact q
  have s2 : evS Φ LL changedFor [some (.d (.tuple P)), some (.d (.int 0)), some (.r 0), none, none] [.lst []] = .ok (.nx [some (.d (.tuple P)), some (.d (.int 0)), some (.r 0), z', y']) [.lst (L1p P (List.range P.length))] := by
    unfold changedFor
    rw [evS_for, i2]
    exact e
  have s3 : evS Φ LL (.ret (.loc 2)) [some (.d (.tuple P)), some (.d (.int 0)), some (.r 0), z', y'] [.lst (L1p P (List.range P.length))] = .ok (.rt (.r 0)) [.lst (L1p P (List.range P.length))] := rfl
  have key : evSs Φ LL (.cons (.asg (.nm 2) (.lst .nil)) (.cons changedFor (.cons (.ret (.loc 2)) .nil))) [some (.d (.tuple P)), some (.d (.int 0)), none, none, none] [] = .ok (.rt (.r 0)) [.lst (L1p P (List.range P.length))] := by
    rw [ss_nx s1, ss_nx s2, ss_rt s3]
  rw [show f9 = ⟨2, 5, (.cons (.asg (.nm 2) (.lst .nil)) (.cons changedFor (.cons (.ret (.loc 2)) .nil)))⟩ from rfl]
  exact (fn_rt (f := ⟨2, 5, (.cons (.asg (.nm 2) (.lst .nil)) (.cons changedFor (.cons (.ret (.loc 2)) .nil)))⟩) (vs := [.d (.tuple P), .d (.int 0)]) (m := []) (v := .r 0) (m1 := [.lst (L1p P (List.range P.length))]) rfl key).trans rfl
end DL.X
end
section
set_option Elab.async false
set_option linter.all false
set_option maxRecDepth 100000
set_option maxHeartbeats 4000000
/-! KO: the houses with one part changed, sorted. -/
namespace DL.X
open PySem DL DL.G
def C10 : PX Nat := .comp (.call 7 (.cons false (.loc 4) (.cons false (.loc 1) .nil))) (.tp [3, 4]) (.of (.call 9 (.cons false (.loc 2) (.cons false (.lit (.int (0))) .nil)))) .no [3, 4]
theorem comp_ones {Φ : Nat → List Val → Store → R Val} {a0 many P : D} {g : D → D} {L : List D} (h9 : ∀ m, Φ 9 [.d P, .d (.int 0)] m = .ok (.r m.length) (m ++ [.lst L])) (hL : ∀ y ∈ L, ∃ a Q, y = .tuple [a, Q] ∧ ∀ m, Φ 7 [.d Q, .d many] m = .ok (.d (g y)) m) (hl : L.length ≤ 1000) :
    ev Φ C10 [some (.d a0), some (.d many), some (.d P), none, none] [] = .ok (.r 1) [.fz (.list L), .lst (L.map g)] := by
  have e1 : evI Φ (.of (.call 9 (.cons false (.loc 2) (.cons false (.lit (.int (0))) .nil)))) [some (.d a0), some (.d many), some (.d P), none, none] [] = .ok L [.fz (.list L)] := by
    simp [evI, ev, evs, fz, h9, seqOf, walkOf, ofO, Cell.data]
  show (evI Φ (.of (.call 9 (.cons false (.loc 2) (.cons false (.lit (.int (0))) .nil)))) [some (.d a0), some (.d many), some (.d P), none, none] []).bind (fun ys m1 => (R.calm (compLoop (turnF (Φ := Φ) (.tp [3, 4]) [3, 4] .no (.call 7 (.cons false (.loc 4) (.cons false (.loc 1) .nil))) [some (.d a0), some (.d many), some (.d P), none, none]) ys [] m1)).bind fun ys m6 => put (.lst ys) m6) = _
  rw [e1]
  show (R.calm (compLoop _ L [] [.fz (.list L)])).bind _ = _
  have hz : L.length ≤ 16777216 := by omega
  rw [compLoop_map (g := g) fun y hy => ?_]
  · simp [R.calm, put, new, sizeLine_eq, hz]
  · obtain ⟨a, Q, rfl, h7⟩ := hL y hy
    simp [turnF, asgD, setAll, wipeE, evC, ev, evs, fz, rd, h7, truR, tru]
theorem ones_fn {Φ : Nat → List Val → Store → R Val} {H X many P : D} {Y : List D} {g : D → D} {L : List D} (h4 : ixF H (.int 4) = some X) (hX : ixF X (.int 0) = some (.tuple Y)) (hm : many = .int (Y.length : Nat)) (h6 : ∀ m, Φ 6 [.d H] m = .ok (.d P) m) (h9 : ∀ m, Φ 9 [.d P, .d (.int 0)] m = .ok (.r m.length) (m ++ [.lst L])) (hL : ∀ y ∈ L, ∃ a Q, y = .tuple [a, Q] ∧ ∀ m, Φ 7 [.d Q, .d many] m = .ok (.d (g y)) m) (hl : L.length ≤ 1000) (hs : sortOk (L.map g) = true) :
    evFn Φ LL f10 [.d H] [] = .ok (.r 0) [.lst (sortD (L.map g))] := by
  have c := comp_ones (a0 := H) h9 hL hl
  have hz : (sortD (L.map g)).length ≤ 16777216 := by rw [sortD_len, List.length_map]; omega
  rw [show f10 = ⟨1, 5, (.cons (.asg (.tp [1, 2]) (.tup (.cons false (.blt .len (.cons false (.idx (.idx (.loc 0) (.lit (.int (4)))) (.lit (.int (0)))) .nil)) (.cons false (.call 6 (.cons false (.loc 0) .nil)) .nil)))) (.cons (.ret (.blt .sorted (.cons false C10 .nil))) .nil))⟩ from rfl]
  generalize C10 = C at c ⊢
  subst hm
  simp [evFn, evSs, evS, ev, evs, asgD, setAll, rd, rdAll, fz, blF, put, new, allD, h4, hX, h6, c, hs, sizeLine_eq, hz, Cell.data, leave]
end DL.X
end
section
set_option Elab.async false
set_option linter.all false
set_option maxRecDepth 100000
set_option maxHeartbeats 4000000
/-! KP: the four shapes of a house. -/
namespace DL.X
open PySem DL DL.G
theorem len_s {Q : List D} {n : Nat} (h : Q.length = n + 1) : ∃ x R, Q = x :: R ∧ R.length = n := by
  cases Q with
  | nil => simp at h
  | cons x R => exact ⟨x, R, rfl, by simpa using h⟩
theorem len_z {Q : List D} (h : Q.length = 0) : Q = [] := List.length_eq_zero_iff.mp h
theorem L1p_mem {P : List D} {as : List Nat} (h : ∀ a ∈ as, a < P.length) {y : D} (hy : y ∈ L1p P as) : ∃ a w, a < P.length ∧ w ∈ alt (vals a) ((P[a]?).getD .none) ∧ y = chg P a w := by
  obtain ⟨a, ha, h1⟩ := List.mem_flatMap.mp hy
  obtain ⟨w, hw, rfl⟩ := List.mem_map.mp h1
  exact ⟨a, w, h a ha, hw, rfl⟩
theorem L1p_len (P : List D) : ∀ as : List Nat, (L1p P as).length ≤ 4 * as.length
  | [] => by simp [L1p]
  | a :: as => by
    have h1 := L1p_len P as
    have h2 := atP_len P a
    rw [show L1p P (a :: as) = atP P a ++ L1p P as from rfl, List.length_append, List.length_cons]
    omega
def gOf (hof : List D → D) : D → D
  | .tuple [_, .tuple Q] => hof Q
  | _ => .none
theorem row_len {P : List D} {a : Nat} (h : a < P.length) (w : D) : (P.take a ++ [w] ++ P.drop (a + 1)).length = P.length := by
  simp
  omega
def hof11 : List D → D
  | [x0, x1, x2, x3, x4, x5, x6, x7, x8, x9, x10, x11, x12, x13, x14, x15] => hs x0 x1 x2 x3 x4 x5 [hb x6 x7 x8 x9 x10] [hb x11 x12 x13 x14 x15]
  | _ => .none
theorem split11 {Q : List D} (h : Q.length = 16) : ∃ x0 x1 x2 x3 x4 x5 x6 x7 x8 x9 x10 x11 x12 x13 x14 x15, Q = [x0, x1, x2, x3, x4, x5, x6, x7, x8, x9, x10, x11, x12, x13, x14, x15] := by
  obtain ⟨x0, Q0, rfl, h0⟩ := len_s (n := 15) h
  obtain ⟨x1, Q1, rfl, h1⟩ := len_s (n := 14) h0
  obtain ⟨x2, Q2, rfl, h2⟩ := len_s (n := 13) h1
  obtain ⟨x3, Q3, rfl, h3⟩ := len_s (n := 12) h2
  obtain ⟨x4, Q4, rfl, h4⟩ := len_s (n := 11) h3
  obtain ⟨x5, Q5, rfl, h5⟩ := len_s (n := 10) h4
  obtain ⟨x6, Q6, rfl, h6⟩ := len_s (n := 9) h5
  obtain ⟨x7, Q7, rfl, h7⟩ := len_s (n := 8) h6
  obtain ⟨x8, Q8, rfl, h8⟩ := len_s (n := 7) h7
  obtain ⟨x9, Q9, rfl, h9⟩ := len_s (n := 6) h8
  obtain ⟨x10, Q10, rfl, h10⟩ := len_s (n := 5) h9
  obtain ⟨x11, Q11, rfl, h11⟩ := len_s (n := 4) h10
  obtain ⟨x12, Q12, rfl, h12⟩ := len_s (n := 3) h11
  obtain ⟨x13, Q13, rfl, h13⟩ := len_s (n := 2) h12
  obtain ⟨x14, Q14, rfl, h14⟩ := len_s (n := 1) h13
  obtain ⟨x15, Q15, rfl, h15⟩ := len_s (n := 0) h14
  rw [len_z h15]
  exact ⟨x0, x1, x2, x3, x4, x5, x6, x7, x8, x9, x10, x11, x12, x13, x14, x15, rfl⟩
theorem hofn11 (n : Nat) {Q : List D} (h : Q.length = 16) (m : Store) : callF tab LL (n + 1) 7 [.d (.tuple Q), .d (.int 1)] m = .ok (.d (hof11 Q)) m := by
  obtain ⟨x0, x1, x2, x3, x4, x5, x6, x7, x8, x9, x10, x11, x12, x13, x14, x15, rfl⟩ := split11 h
  refine lift (xs := [.tuple _, .int 1]) ?_ m
  show callF tab LL (n + 1) 7 [.d (.tuple [x0, x1, x2, x3, x4, x5, x6, x7, x8, x9, x10, x11, x12, x13, x14, x15]), .d (.int 1)] [] = .ok (.d (hs x0 x1 x2 x3 x4 x5 [hb x6 x7 x8 x9 x10] [hb x11 x12 x13 x14 x15])) []
  kernel_rfl
theorem ones11 (n : Nat) {P : List D} (h : P.length = 16) (hA : ∀ p ∈ P, At p) (hso : sortOk ((L1p P (List.range P.length)).map (gOf hof11)) = true) : callF tab LL (n + 3) 10 [.d (hof11 P)] [] = .ok (.r 0) [.lst (sortD ((L1p P (List.range P.length)).map (gOf hof11)))] := by
  have h6 : ∀ m, callF tab LL (n + 2) 6 [.d (hof11 P)] m = .ok (.d (.tuple P)) m := fun m => by
    refine lift (xs := [_]) ?_ m
    obtain ⟨x0, x1, x2, x3, x4, x5, x6, x7, x8, x9, x10, x11, x12, x13, x14, x15, rfl⟩ := split11 h
    show callF tab LL (n + 2) 6 [.d (hs x0 x1 x2 x3 x4 x5 [hb x6 x7 x8 x9 x10] [hb x11 x12 x13 x14 x15])] [] = _
    kernel_rfl
  have h4 : ∃ X Y, ixF (hof11 P) (.int 4) = some X ∧ ixF X (.int 0) = some (.tuple Y) ∧ Y.length = 1 := by
    obtain ⟨x0, x1, x2, x3, x4, x5, x6, x7, x8, x9, x10, x11, x12, x13, x14, x15, rfl⟩ := split11 h
    exact ⟨.tuple [.tuple [hb x6 x7 x8 x9 x10], .tuple [hb x11 x12 x13 x14 x15]], [hb x6 x7 x8 x9 x10], by kernel_rfl, by kernel_rfl, rfl⟩
  obtain ⟨X, Y, h4, hX, hY⟩ := h4
  have h9 := fun m => liftL (xs := [.tuple P, .int 0]) (changed_fn n P (by omega) hA) m
  refine ones_fn (Φ := callF tab LL (n + 2)) (many := .int 1) h4 hX (by rw [hY]; rfl) h6 h9 (fun y hy => ?_) ?_ hso
  · obtain ⟨a, w, ha, hw, rfl⟩ := L1p_mem (fun a h => List.mem_range.mp h) hy
    exact ⟨_, _, rfl, fun m => hofn11 (n + 1) ((row_len ha w).trans h) m⟩
  · have := L1p_len P (List.range P.length)
    rw [List.length_range] at this
    omega
def hof12 : List D → D
  | [x0, x1, x2, x3, x4, x5, x6, x7, x8, x9, x10, x11, x12, x13, x14, x15, x16, x17, x18, x19, x20] => hs x0 x1 x2 x3 x4 x5 [hb x6 x7 x8 x9 x10] [hb x11 x12 x13 x14 x15, hb x16 x17 x18 x19 x20]
  | _ => .none
theorem split12 {Q : List D} (h : Q.length = 21) : ∃ x0 x1 x2 x3 x4 x5 x6 x7 x8 x9 x10 x11 x12 x13 x14 x15 x16 x17 x18 x19 x20, Q = [x0, x1, x2, x3, x4, x5, x6, x7, x8, x9, x10, x11, x12, x13, x14, x15, x16, x17, x18, x19, x20] := by
  obtain ⟨x0, Q0, rfl, h0⟩ := len_s (n := 20) h
  obtain ⟨x1, Q1, rfl, h1⟩ := len_s (n := 19) h0
  obtain ⟨x2, Q2, rfl, h2⟩ := len_s (n := 18) h1
  obtain ⟨x3, Q3, rfl, h3⟩ := len_s (n := 17) h2
  obtain ⟨x4, Q4, rfl, h4⟩ := len_s (n := 16) h3
  obtain ⟨x5, Q5, rfl, h5⟩ := len_s (n := 15) h4
  obtain ⟨x6, Q6, rfl, h6⟩ := len_s (n := 14) h5
  obtain ⟨x7, Q7, rfl, h7⟩ := len_s (n := 13) h6
  obtain ⟨x8, Q8, rfl, h8⟩ := len_s (n := 12) h7
  obtain ⟨x9, Q9, rfl, h9⟩ := len_s (n := 11) h8
  obtain ⟨x10, Q10, rfl, h10⟩ := len_s (n := 10) h9
  obtain ⟨x11, Q11, rfl, h11⟩ := len_s (n := 9) h10
  obtain ⟨x12, Q12, rfl, h12⟩ := len_s (n := 8) h11
  obtain ⟨x13, Q13, rfl, h13⟩ := len_s (n := 7) h12
  obtain ⟨x14, Q14, rfl, h14⟩ := len_s (n := 6) h13
  obtain ⟨x15, Q15, rfl, h15⟩ := len_s (n := 5) h14
  obtain ⟨x16, Q16, rfl, h16⟩ := len_s (n := 4) h15
  obtain ⟨x17, Q17, rfl, h17⟩ := len_s (n := 3) h16
  obtain ⟨x18, Q18, rfl, h18⟩ := len_s (n := 2) h17
  obtain ⟨x19, Q19, rfl, h19⟩ := len_s (n := 1) h18
  obtain ⟨x20, Q20, rfl, h20⟩ := len_s (n := 0) h19
  rw [len_z h20]
  exact ⟨x0, x1, x2, x3, x4, x5, x6, x7, x8, x9, x10, x11, x12, x13, x14, x15, x16, x17, x18, x19, x20, rfl⟩
theorem hofn12 (n : Nat) {Q : List D} (h : Q.length = 21) (m : Store) : callF tab LL (n + 1) 7 [.d (.tuple Q), .d (.int 1)] m = .ok (.d (hof12 Q)) m := by
  obtain ⟨x0, x1, x2, x3, x4, x5, x6, x7, x8, x9, x10, x11, x12, x13, x14, x15, x16, x17, x18, x19, x20, rfl⟩ := split12 h
  refine lift (xs := [.tuple _, .int 1]) ?_ m
  show callF tab LL (n + 1) 7 [.d (.tuple [x0, x1, x2, x3, x4, x5, x6, x7, x8, x9, x10, x11, x12, x13, x14, x15, x16, x17, x18, x19, x20]), .d (.int 1)] [] = .ok (.d (hs x0 x1 x2 x3 x4 x5 [hb x6 x7 x8 x9 x10] [hb x11 x12 x13 x14 x15, hb x16 x17 x18 x19 x20])) []
  kernel_rfl
theorem ones12 (n : Nat) {P : List D} (h : P.length = 21) (hA : ∀ p ∈ P, At p) (hso : sortOk ((L1p P (List.range P.length)).map (gOf hof12)) = true) : callF tab LL (n + 3) 10 [.d (hof12 P)] [] = .ok (.r 0) [.lst (sortD ((L1p P (List.range P.length)).map (gOf hof12)))] := by
  have h6 : ∀ m, callF tab LL (n + 2) 6 [.d (hof12 P)] m = .ok (.d (.tuple P)) m := fun m => by
    refine lift (xs := [_]) ?_ m
    obtain ⟨x0, x1, x2, x3, x4, x5, x6, x7, x8, x9, x10, x11, x12, x13, x14, x15, x16, x17, x18, x19, x20, rfl⟩ := split12 h
    show callF tab LL (n + 2) 6 [.d (hs x0 x1 x2 x3 x4 x5 [hb x6 x7 x8 x9 x10] [hb x11 x12 x13 x14 x15, hb x16 x17 x18 x19 x20])] [] = _
    kernel_rfl
  have h4 : ∃ X Y, ixF (hof12 P) (.int 4) = some X ∧ ixF X (.int 0) = some (.tuple Y) ∧ Y.length = 1 := by
    obtain ⟨x0, x1, x2, x3, x4, x5, x6, x7, x8, x9, x10, x11, x12, x13, x14, x15, x16, x17, x18, x19, x20, rfl⟩ := split12 h
    exact ⟨.tuple [.tuple [hb x6 x7 x8 x9 x10], .tuple [hb x11 x12 x13 x14 x15, hb x16 x17 x18 x19 x20]], [hb x6 x7 x8 x9 x10], by kernel_rfl, by kernel_rfl, rfl⟩
  obtain ⟨X, Y, h4, hX, hY⟩ := h4
  have h9 := fun m => liftL (xs := [.tuple P, .int 0]) (changed_fn n P (by omega) hA) m
  refine ones_fn (Φ := callF tab LL (n + 2)) (many := .int 1) h4 hX (by rw [hY]; rfl) h6 h9 (fun y hy => ?_) ?_ hso
  · obtain ⟨a, w, ha, hw, rfl⟩ := L1p_mem (fun a h => List.mem_range.mp h) hy
    exact ⟨_, _, rfl, fun m => hofn12 (n + 1) ((row_len ha w).trans h) m⟩
  · have := L1p_len P (List.range P.length)
    rw [List.length_range] at this
    omega
def hof21 : List D → D
  | [x0, x1, x2, x3, x4, x5, x6, x7, x8, x9, x10, x11, x12, x13, x14, x15, x16, x17, x18, x19, x20] => hs x0 x1 x2 x3 x4 x5 [hb x6 x7 x8 x9 x10, hb x11 x12 x13 x14 x15] [hb x16 x17 x18 x19 x20]
  | _ => .none
theorem split21 {Q : List D} (h : Q.length = 21) : ∃ x0 x1 x2 x3 x4 x5 x6 x7 x8 x9 x10 x11 x12 x13 x14 x15 x16 x17 x18 x19 x20, Q = [x0, x1, x2, x3, x4, x5, x6, x7, x8, x9, x10, x11, x12, x13, x14, x15, x16, x17, x18, x19, x20] := by
  obtain ⟨x0, Q0, rfl, h0⟩ := len_s (n := 20) h
  obtain ⟨x1, Q1, rfl, h1⟩ := len_s (n := 19) h0
  obtain ⟨x2, Q2, rfl, h2⟩ := len_s (n := 18) h1
  obtain ⟨x3, Q3, rfl, h3⟩ := len_s (n := 17) h2
  obtain ⟨x4, Q4, rfl, h4⟩ := len_s (n := 16) h3
  obtain ⟨x5, Q5, rfl, h5⟩ := len_s (n := 15) h4
  obtain ⟨x6, Q6, rfl, h6⟩ := len_s (n := 14) h5
  obtain ⟨x7, Q7, rfl, h7⟩ := len_s (n := 13) h6
  obtain ⟨x8, Q8, rfl, h8⟩ := len_s (n := 12) h7
  obtain ⟨x9, Q9, rfl, h9⟩ := len_s (n := 11) h8
  obtain ⟨x10, Q10, rfl, h10⟩ := len_s (n := 10) h9
  obtain ⟨x11, Q11, rfl, h11⟩ := len_s (n := 9) h10
  obtain ⟨x12, Q12, rfl, h12⟩ := len_s (n := 8) h11
  obtain ⟨x13, Q13, rfl, h13⟩ := len_s (n := 7) h12
  obtain ⟨x14, Q14, rfl, h14⟩ := len_s (n := 6) h13
  obtain ⟨x15, Q15, rfl, h15⟩ := len_s (n := 5) h14
  obtain ⟨x16, Q16, rfl, h16⟩ := len_s (n := 4) h15
  obtain ⟨x17, Q17, rfl, h17⟩ := len_s (n := 3) h16
  obtain ⟨x18, Q18, rfl, h18⟩ := len_s (n := 2) h17
  obtain ⟨x19, Q19, rfl, h19⟩ := len_s (n := 1) h18
  obtain ⟨x20, Q20, rfl, h20⟩ := len_s (n := 0) h19
  rw [len_z h20]
  exact ⟨x0, x1, x2, x3, x4, x5, x6, x7, x8, x9, x10, x11, x12, x13, x14, x15, x16, x17, x18, x19, x20, rfl⟩
theorem hofn21 (n : Nat) {Q : List D} (h : Q.length = 21) (m : Store) : callF tab LL (n + 1) 7 [.d (.tuple Q), .d (.int 2)] m = .ok (.d (hof21 Q)) m := by
  obtain ⟨x0, x1, x2, x3, x4, x5, x6, x7, x8, x9, x10, x11, x12, x13, x14, x15, x16, x17, x18, x19, x20, rfl⟩ := split21 h
  refine lift (xs := [.tuple _, .int 2]) ?_ m
  show callF tab LL (n + 1) 7 [.d (.tuple [x0, x1, x2, x3, x4, x5, x6, x7, x8, x9, x10, x11, x12, x13, x14, x15, x16, x17, x18, x19, x20]), .d (.int 2)] [] = .ok (.d (hs x0 x1 x2 x3 x4 x5 [hb x6 x7 x8 x9 x10, hb x11 x12 x13 x14 x15] [hb x16 x17 x18 x19 x20])) []
  kernel_rfl
theorem ones21 (n : Nat) {P : List D} (h : P.length = 21) (hA : ∀ p ∈ P, At p) (hso : sortOk ((L1p P (List.range P.length)).map (gOf hof21)) = true) : callF tab LL (n + 3) 10 [.d (hof21 P)] [] = .ok (.r 0) [.lst (sortD ((L1p P (List.range P.length)).map (gOf hof21)))] := by
  have h6 : ∀ m, callF tab LL (n + 2) 6 [.d (hof21 P)] m = .ok (.d (.tuple P)) m := fun m => by
    refine lift (xs := [_]) ?_ m
    obtain ⟨x0, x1, x2, x3, x4, x5, x6, x7, x8, x9, x10, x11, x12, x13, x14, x15, x16, x17, x18, x19, x20, rfl⟩ := split21 h
    show callF tab LL (n + 2) 6 [.d (hs x0 x1 x2 x3 x4 x5 [hb x6 x7 x8 x9 x10, hb x11 x12 x13 x14 x15] [hb x16 x17 x18 x19 x20])] [] = _
    kernel_rfl
  have h4 : ∃ X Y, ixF (hof21 P) (.int 4) = some X ∧ ixF X (.int 0) = some (.tuple Y) ∧ Y.length = 2 := by
    obtain ⟨x0, x1, x2, x3, x4, x5, x6, x7, x8, x9, x10, x11, x12, x13, x14, x15, x16, x17, x18, x19, x20, rfl⟩ := split21 h
    exact ⟨.tuple [.tuple [hb x6 x7 x8 x9 x10, hb x11 x12 x13 x14 x15], .tuple [hb x16 x17 x18 x19 x20]], [hb x6 x7 x8 x9 x10, hb x11 x12 x13 x14 x15], by kernel_rfl, by kernel_rfl, rfl⟩
  obtain ⟨X, Y, h4, hX, hY⟩ := h4
  have h9 := fun m => liftL (xs := [.tuple P, .int 0]) (changed_fn n P (by omega) hA) m
  refine ones_fn (Φ := callF tab LL (n + 2)) (many := .int 2) h4 hX (by rw [hY]; rfl) h6 h9 (fun y hy => ?_) ?_ hso
  · obtain ⟨a, w, ha, hw, rfl⟩ := L1p_mem (fun a h => List.mem_range.mp h) hy
    exact ⟨_, _, rfl, fun m => hofn21 (n + 1) ((row_len ha w).trans h) m⟩
  · have := L1p_len P (List.range P.length)
    rw [List.length_range] at this
    omega
def hof22 : List D → D
  | [x0, x1, x2, x3, x4, x5, x6, x7, x8, x9, x10, x11, x12, x13, x14, x15, x16, x17, x18, x19, x20, x21, x22, x23, x24, x25] => hs x0 x1 x2 x3 x4 x5 [hb x6 x7 x8 x9 x10, hb x11 x12 x13 x14 x15] [hb x16 x17 x18 x19 x20, hb x21 x22 x23 x24 x25]
  | _ => .none
theorem split22 {Q : List D} (h : Q.length = 26) : ∃ x0 x1 x2 x3 x4 x5 x6 x7 x8 x9 x10 x11 x12 x13 x14 x15 x16 x17 x18 x19 x20 x21 x22 x23 x24 x25, Q = [x0, x1, x2, x3, x4, x5, x6, x7, x8, x9, x10, x11, x12, x13, x14, x15, x16, x17, x18, x19, x20, x21, x22, x23, x24, x25] := by
  obtain ⟨x0, Q0, rfl, h0⟩ := len_s (n := 25) h
  obtain ⟨x1, Q1, rfl, h1⟩ := len_s (n := 24) h0
  obtain ⟨x2, Q2, rfl, h2⟩ := len_s (n := 23) h1
  obtain ⟨x3, Q3, rfl, h3⟩ := len_s (n := 22) h2
  obtain ⟨x4, Q4, rfl, h4⟩ := len_s (n := 21) h3
  obtain ⟨x5, Q5, rfl, h5⟩ := len_s (n := 20) h4
  obtain ⟨x6, Q6, rfl, h6⟩ := len_s (n := 19) h5
  obtain ⟨x7, Q7, rfl, h7⟩ := len_s (n := 18) h6
  obtain ⟨x8, Q8, rfl, h8⟩ := len_s (n := 17) h7
  obtain ⟨x9, Q9, rfl, h9⟩ := len_s (n := 16) h8
  obtain ⟨x10, Q10, rfl, h10⟩ := len_s (n := 15) h9
  obtain ⟨x11, Q11, rfl, h11⟩ := len_s (n := 14) h10
  obtain ⟨x12, Q12, rfl, h12⟩ := len_s (n := 13) h11
  obtain ⟨x13, Q13, rfl, h13⟩ := len_s (n := 12) h12
  obtain ⟨x14, Q14, rfl, h14⟩ := len_s (n := 11) h13
  obtain ⟨x15, Q15, rfl, h15⟩ := len_s (n := 10) h14
  obtain ⟨x16, Q16, rfl, h16⟩ := len_s (n := 9) h15
  obtain ⟨x17, Q17, rfl, h17⟩ := len_s (n := 8) h16
  obtain ⟨x18, Q18, rfl, h18⟩ := len_s (n := 7) h17
  obtain ⟨x19, Q19, rfl, h19⟩ := len_s (n := 6) h18
  obtain ⟨x20, Q20, rfl, h20⟩ := len_s (n := 5) h19
  obtain ⟨x21, Q21, rfl, h21⟩ := len_s (n := 4) h20
  obtain ⟨x22, Q22, rfl, h22⟩ := len_s (n := 3) h21
  obtain ⟨x23, Q23, rfl, h23⟩ := len_s (n := 2) h22
  obtain ⟨x24, Q24, rfl, h24⟩ := len_s (n := 1) h23
  obtain ⟨x25, Q25, rfl, h25⟩ := len_s (n := 0) h24
  rw [len_z h25]
  exact ⟨x0, x1, x2, x3, x4, x5, x6, x7, x8, x9, x10, x11, x12, x13, x14, x15, x16, x17, x18, x19, x20, x21, x22, x23, x24, x25, rfl⟩
theorem hofn22 (n : Nat) {Q : List D} (h : Q.length = 26) (m : Store) : callF tab LL (n + 1) 7 [.d (.tuple Q), .d (.int 2)] m = .ok (.d (hof22 Q)) m := by
  obtain ⟨x0, x1, x2, x3, x4, x5, x6, x7, x8, x9, x10, x11, x12, x13, x14, x15, x16, x17, x18, x19, x20, x21, x22, x23, x24, x25, rfl⟩ := split22 h
  refine lift (xs := [.tuple _, .int 2]) ?_ m
  show callF tab LL (n + 1) 7 [.d (.tuple [x0, x1, x2, x3, x4, x5, x6, x7, x8, x9, x10, x11, x12, x13, x14, x15, x16, x17, x18, x19, x20, x21, x22, x23, x24, x25]), .d (.int 2)] [] = .ok (.d (hs x0 x1 x2 x3 x4 x5 [hb x6 x7 x8 x9 x10, hb x11 x12 x13 x14 x15] [hb x16 x17 x18 x19 x20, hb x21 x22 x23 x24 x25])) []
  kernel_rfl
theorem ones22 (n : Nat) {P : List D} (h : P.length = 26) (hA : ∀ p ∈ P, At p) (hso : sortOk ((L1p P (List.range P.length)).map (gOf hof22)) = true) : callF tab LL (n + 3) 10 [.d (hof22 P)] [] = .ok (.r 0) [.lst (sortD ((L1p P (List.range P.length)).map (gOf hof22)))] := by
  have h6 : ∀ m, callF tab LL (n + 2) 6 [.d (hof22 P)] m = .ok (.d (.tuple P)) m := fun m => by
    refine lift (xs := [_]) ?_ m
    obtain ⟨x0, x1, x2, x3, x4, x5, x6, x7, x8, x9, x10, x11, x12, x13, x14, x15, x16, x17, x18, x19, x20, x21, x22, x23, x24, x25, rfl⟩ := split22 h
    show callF tab LL (n + 2) 6 [.d (hs x0 x1 x2 x3 x4 x5 [hb x6 x7 x8 x9 x10, hb x11 x12 x13 x14 x15] [hb x16 x17 x18 x19 x20, hb x21 x22 x23 x24 x25])] [] = _
    kernel_rfl
  have h4 : ∃ X Y, ixF (hof22 P) (.int 4) = some X ∧ ixF X (.int 0) = some (.tuple Y) ∧ Y.length = 2 := by
    obtain ⟨x0, x1, x2, x3, x4, x5, x6, x7, x8, x9, x10, x11, x12, x13, x14, x15, x16, x17, x18, x19, x20, x21, x22, x23, x24, x25, rfl⟩ := split22 h
    exact ⟨.tuple [.tuple [hb x6 x7 x8 x9 x10, hb x11 x12 x13 x14 x15], .tuple [hb x16 x17 x18 x19 x20, hb x21 x22 x23 x24 x25]], [hb x6 x7 x8 x9 x10, hb x11 x12 x13 x14 x15], by kernel_rfl, by kernel_rfl, rfl⟩
  obtain ⟨X, Y, h4, hX, hY⟩ := h4
  have h9 := fun m => liftL (xs := [.tuple P, .int 0]) (changed_fn n P (by omega) hA) m
  refine ones_fn (Φ := callF tab LL (n + 2)) (many := .int 2) h4 hX (by rw [hY]; rfl) h6 h9 (fun y hy => ?_) ?_ hso
  · obtain ⟨a, w, ha, hw, rfl⟩ := L1p_mem (fun a h => List.mem_range.mp h) hy
    exact ⟨_, _, rfl, fun m => hofn22 (n + 1) ((row_len ha w).trans h) m⟩
  · have := L1p_len P (List.range P.length)
    rw [List.length_range] at this
    omega
end DL.X
end
section
set_option Elab.async false
set_option linter.all false
set_option maxRecDepth 100000
set_option maxHeartbeats 4000000
/-! YA: the law's own list of houses with one part changed: loops that append. -/
namespace DL.X
open PySem DL DL.G
def tabV : Nat → List D
  | 0 => [.bool false, .bool true]
  | 1 => [.str (S "none"), .str (S "own"), .str (S "both")]
  | 2 => [.str (S "same"), .str (S "either")]
  | 3 => [.str (S "own"), .str (S "both")]
  | _ => [.str (S "never"), .str (S "bolts"), .str (S "undoing"), .str (S "all")]
def tabL : List D := [.list (tabV 0), .list (tabV 1), .list (tabV 2), .list (tabV 3), .list (tabV 4)]
/-- the cells that count -/
structure M (acc : List D) (m : Store) : Prop where
  f : m[1]? = some (.lst acc)
  t : m[6]? = some (.lst tabL)
theorem M.app {acc : List D} {m : Store} (h : M acc m) (l : Store) : M acc (m ++ l) := ⟨app_at h.f _, app_at h.t _⟩
theorem M.set {acc : List D} {m : Store} (h : M acc m) (x : List D) : M x (m.set 1 (.lst x)) := by
  have h1 := (List.getElem?_eq_some_iff.mp h.f).1
  exact ⟨by rw [List.getElem?_set_self h1], by rw [List.getElem?_set_ne (by decide)]; exact h.t⟩
theorem grow {f : D → Env → Store → R Fl} {I : Env → Prop} {G : D → List D} : ∀ (xs : List D) (acc : List D) (ρ : Env) (m : Store),
    (∀ x ∈ xs, ∀ ρ m acc, I ρ → M acc m → acc.length + (G x).length ≤ 1000 → Post (f x ρ m) fun a m' => ∃ ρ', a = .nx ρ' ∧ I ρ' ∧ M (acc ++ G x) m') →
    I ρ → M acc m → acc.length + (xs.flatMap G).length ≤ 1000 → Post (forLoop f xs ρ m) fun a m' => ∃ ρ', a = .nx ρ' ∧ I ρ' ∧ M (acc ++ xs.flatMap G) m'
  | [], acc, ρ, m, _, hI, hM, _ => Post.ok ⟨ρ, rfl, hI, by rw [List.flatMap_nil, List.append_nil]; exact hM⟩
  | x :: xs, acc, ρ, m, st, hI, hM, hz => by
    rw [List.flatMap_cons, List.length_append] at hz
    obtain ⟨a, m1, e, ρ1, rfl, hI1, hM1⟩ := st x List.mem_cons_self ρ m acc hI hM (by omega)
    have q := grow xs (acc ++ G x) ρ1 m1 (fun y hy => st y (List.mem_cons_of_mem _ hy)) hI1 hM1 (by rw [List.length_append]; omega)
    show Post ((f x ρ m).bind _) _
    rw [e, List.flatMap_cons, ← List.append_assoc]
    exact q
def inD (h : House) : D := prD h.i0 h.i1
def ouD (h : House) : D := .tuple [.str h.o0.s, .str h.o1.s]
def hoD (h : House) : D := .tuple [homeD h.h0, homeD h.h1]
def putP (d : Bool) (x y z : D) : D := if d then .tuple [x, z] else .tuple [z, y]
/-- the names of the function -/
def EV (h : House) (c8 c9 c10 c11 c12 c13 c14 c15 : Option Val) : Env := [some (.d h.d), some (.d (.str h.lamp.s)), some (.d (.bool h.linked)), some (.d (inD h)), some (.d (ouD h)), some (.d (hoD h)), some (.r 1), some (.r 6), c8, c9, c10, c11, c12, c13, c14, c15]
def B13 : PSs Nat := (.cons (.iff (.cmp .ne (.loc 13) (.idx (.loc 11) (.loc 12))) (.cons (.asg (.nm 14) (.bin .add (.bin .add (.sli (.loc 11) .no (.so (.loc 12))) (.tup (.cons false (.loc 13) .nil))) (.sli (.loc 11) (.so (.bin .add (.loc 12) (.lit (.int (1))))) .no))) (.cons (.asg (.nm 15) (.bin .add (.bin .add (.sli (.idx (.loc 5) (.loc 8)) .no (.so (.loc 10))) (.tup (.cons false (.loc 14) .nil))) (.sli (.idx (.loc 5) (.loc 8)) (.so (.bin .add (.loc 10) (.lit (.int (1))))) .no))) (.cons (.ex (.app (.loc 6) (.tup (.cons false (.loc 1) (.cons false (.loc 2) (.cons false (.loc 3) (.cons false (.loc 4) (.cons false (.call 19 (.cons false (.loc 5) (.cons false (.loc 8) (.cons false (.loc 15) .nil)))) .nil)))))))) .nil))) .nil) .nil)
def B12 : PSs Nat := (.cons (.for (.nm 13) (.of (.idx (.loc 7) (.loc 12))) (.cons (.iff (.cmp .ne (.loc 13) (.idx (.loc 11) (.loc 12))) (.cons (.asg (.nm 14) (.bin .add (.bin .add (.sli (.loc 11) .no (.so (.loc 12))) (.tup (.cons false (.loc 13) .nil))) (.sli (.loc 11) (.so (.bin .add (.loc 12) (.lit (.int (1))))) .no))) (.cons (.asg (.nm 15) (.bin .add (.bin .add (.sli (.idx (.loc 5) (.loc 8)) .no (.so (.loc 10))) (.tup (.cons false (.loc 14) .nil))) (.sli (.idx (.loc 5) (.loc 8)) (.so (.bin .add (.loc 10) (.lit (.int (1))))) .no))) (.cons (.ex (.app (.loc 6) (.tup (.cons false (.loc 1) (.cons false (.loc 2) (.cons false (.loc 3) (.cons false (.loc 4) (.cons false (.call 19 (.cons false (.loc 5) (.cons false (.loc 8) (.cons false (.loc 15) .nil)))) .nil)))))))) .nil))) .nil) .nil)) .nil)
def B10 : PSs Nat := (.cons (.for (.nm 12) (.rng1 (.lit (.int (5)))) (.cons (.for (.nm 13) (.of (.idx (.loc 7) (.loc 12))) (.cons (.iff (.cmp .ne (.loc 13) (.idx (.loc 11) (.loc 12))) (.cons (.asg (.nm 14) (.bin .add (.bin .add (.sli (.loc 11) .no (.so (.loc 12))) (.tup (.cons false (.loc 13) .nil))) (.sli (.loc 11) (.so (.bin .add (.loc 12) (.lit (.int (1))))) .no))) (.cons (.asg (.nm 15) (.bin .add (.bin .add (.sli (.idx (.loc 5) (.loc 8)) .no (.so (.loc 10))) (.tup (.cons false (.loc 14) .nil))) (.sli (.idx (.loc 5) (.loc 8)) (.so (.bin .add (.loc 10) (.lit (.int (1))))) .no))) (.cons (.ex (.app (.loc 6) (.tup (.cons false (.loc 1) (.cons false (.loc 2) (.cons false (.loc 3) (.cons false (.loc 4) (.cons false (.call 19 (.cons false (.loc 5) (.cons false (.loc 8) (.cons false (.loc 15) .nil)))) .nil)))))))) .nil))) .nil) .nil)) .nil)) .nil)
def B9 : PSs Nat := (.cons (.iff (.cmp .ne (.loc 9) (.idx (.loc 4) (.loc 8))) (.cons (.ex (.app (.loc 6) (.tup (.cons false (.loc 1) (.cons false (.loc 2) (.cons false (.loc 3) (.cons false (.call 19 (.cons false (.loc 4) (.cons false (.loc 8) (.cons false (.loc 9) .nil)))) (.cons false (.loc 5) .nil)))))))) .nil) .nil) .nil)
def B8 : PSs Nat := (.cons (.ex (.app (.loc 6) (.tup (.cons false (.loc 1) (.cons false (.loc 2) (.cons false (.call 19 (.cons false (.loc 3) (.cons false (.loc 8) (.cons false (.not (.idx (.loc 3) (.loc 8))) .nil)))) (.cons false (.loc 4) (.cons false (.loc 5) .nil)))))))) (.cons (.for (.nm 9) (.of (.lst (.cons false (.lit (.str (S "none"))) (.cons false (.lit (.str (S "leaving"))) (.cons false (.lit (.str (S "any"))) .nil))))) (.cons (.iff (.cmp .ne (.loc 9) (.idx (.loc 4) (.loc 8))) (.cons (.ex (.app (.loc 6) (.tup (.cons false (.loc 1) (.cons false (.loc 2) (.cons false (.loc 3) (.cons false (.call 19 (.cons false (.loc 4) (.cons false (.loc 8) (.cons false (.loc 9) .nil)))) (.cons false (.loc 5) .nil)))))))) .nil) .nil) .nil)) (.cons (.for (.tp [10, 11]) (.enum (.idx (.loc 5) (.loc 8))) (.cons (.for (.nm 12) (.rng1 (.lit (.int (5)))) (.cons (.for (.nm 13) (.of (.idx (.loc 7) (.loc 12))) (.cons (.iff (.cmp .ne (.loc 13) (.idx (.loc 11) (.loc 12))) (.cons (.asg (.nm 14) (.bin .add (.bin .add (.sli (.loc 11) .no (.so (.loc 12))) (.tup (.cons false (.loc 13) .nil))) (.sli (.loc 11) (.so (.bin .add (.loc 12) (.lit (.int (1))))) .no))) (.cons (.asg (.nm 15) (.bin .add (.bin .add (.sli (.idx (.loc 5) (.loc 8)) .no (.so (.loc 10))) (.tup (.cons false (.loc 14) .nil))) (.sli (.idx (.loc 5) (.loc 8)) (.so (.bin .add (.loc 10) (.lit (.int (1))))) .no))) (.cons (.ex (.app (.loc 6) (.tup (.cons false (.loc 1) (.cons false (.loc 2) (.cons false (.loc 3) (.cons false (.loc 4) (.cons false (.call 19 (.cons false (.loc 5) (.cons false (.loc 8) (.cons false (.loc 15) .nil)))) .nil)))))))) .nil))) .nil) .nil)) .nil)) .nil)) .nil)))
def newHome (Hm : List D) (k : Nat) (q : List D) (at_ : Nat) (w : D) : D := .tuple (Hm.take k ++ [.tuple (q.take at_ ++ [w] ++ q.drop (at_ + 1))] ++ Hm.drop (k + 1))
def hoF (h : House) (d : Bool) (k : Nat) (q : List D) (at_ : Nat) (w : D) : D := .tuple [.str h.lamp.s, .bool h.linked, inD h, ouD h, putP d (homeD h.h0) (homeD h.h1) (newHome ((h.home d).map Hab.d) k q at_ w)]
def Put (Φ : Nat → List Val → Store → R Val) : Prop := ∀ (d : Bool) (x y z : D) (m : Store), Φ 19 [.d (.tuple [x, y]), .d (.int (dn d)), .d z] m = .ok (.d (putP d x y z)) m
theorem put_ok (n : Nat) : Put (callF tab LL (n + 1)) := fun d x y z m => by
  cases d
  · exact lift (xs := [.tuple [x, y], .int (dn false), z]) (put0 n x y z) m
  · exact lift (xs := [.tuple [x, y], .int (dn true), z]) (put1 n x y z) m
theorem ho_ix (h : House) (d : Bool) : ixF (hoD h) (.int (dn d)) = some (.tuple ((h.home d).map Hab.d)) := by cases d <;> rfl
theorem ou_ix (h : House) (d : Bool) : ixF (ouD h) (.int (dn d)) = some (.str (h.out d).s) := by cases d <;> rfl
theorem in_ix (h : House) (d : Bool) : ixF (inD h) (.int (dn d)) = some (.bool (pick2 d h.i0 h.i1)) := by cases d <;> rfl
theorem alt_flat {F : D → D} {v : D} : ∀ vs : List D, (vs.flatMap fun w => (alt [w] v).map F) = (alt vs v).map F
  | [] => rfl
  | w :: vs => by rw [List.flatMap_cons, alt_flat vs, alt_app vs w v, List.map_append]
def qL (x : Hab) : List D := [.bool x.look, .str x.b.s, .str x.g.s, .str x.u.s, .str x.f.s]
theorem qL_at (x : Hab) {at_ : Nat} (ha : at_ < 5) : ∃ v, (qL x)[at_]? = some v ∧ At v := by
  obtain ⟨l, b, g, u, f⟩ := x
  match at_, ha with
  | 0, _ => exact ⟨_, rfl, .b _⟩
  | 1, _ => exact ⟨_, rfl, .s _ (by cases b <;> kernel_rfl)⟩
  | 2, _ => exact ⟨_, rfl, .s _ (by cases g <;> kernel_rfl)⟩
  | 3, _ => exact ⟨_, rfl, .s _ (by cases u <;> kernel_rfl)⟩
  | 4, _ => exact ⟨_, rfl, .s _ (by cases f <;> kernel_rfl)⟩
theorem tabV_at : ∀ a, (tabV a).all atB = true
  | 0 => by kernel_rfl
  | 1 => by kernel_rfl
  | 2 => by kernel_rfl
  | 3 => by kernel_rfl
  | a + 4 => by kernel_rfl
section
variable {Φ : Nat → List Val → Store → R Val} (hP : Put Φ) (h : House) (d : Bool)
include hP
/-- one value -/
theorem turn13 {k : Nat} {q : List D} {at_ : Nat} {v w : D} (hk : okHome (h.home d)) (hq : q.length = 5) (hv : q[at_]? = some v) (av : At v) (aw : At w) (c9 c13 c14 c15 : Option Val) {m : Store} {acc : List D} (hM : M acc m) (hz : acc.length + ((alt [w] v).map (hoF h d k q at_)).length ≤ 1000) :
    Post (DL.G.turnS (.nm 13) B13 Φ LL w (EV h (some (.d (.int (dn d)))) c9 (some (.d (.int k))) (some (.d (.tuple q))) (some (.d (.int (at_ : Nat)))) c13 c14 c15) m) fun a m' => ∃ ρ', a = .nx ρ' ∧ (∃ c13 c14 c15, ρ' = EV h (some (.d (.int (dn d)))) c9 (some (.d (.int k))) (some (.d (.tuple q))) (some (.d (.int (at_ : Nat)))) c13 c14 c15) ∧ M (acc ++ (alt [w] v).map (hoF h d k q at_)) m' := by
  have e0 := hM.f
  have e1 : cmF .ne w v = _ := rfl
  have eq0 := eqD_at aw av
  have e2 : ixF (.tuple q) (.int (at_ : Nat)) = some v := ix_tup hv
  have e3 := cut_take q at_
  have e4 : cutD q (some ((at_ : Int) + 1)) none = q.drop (at_ + 1) := cut_drop q (at_ + 1)
  have e5 := cut_take ((h.home d).map Hab.d) k
  have e6 : cutD ((h.home d).map Hab.d) (some ((k : Int) + 1)) none = ((h.home d).map Hab.d).drop (k + 1) := cut_drop _ (k + 1)
  have e7 := ho_ix h d
  have e8 := hP d (homeD h.h0) (homeD h.h1)
  have hl : ((h.home d).map Hab.d).length ≤ 2 := by rw [List.length_map]; rcases hk with hk | hk <;> omega
  show Post (evSs Φ LL B13 (EV h (some (.d (.int (dn d)))) c9 (some (.d (.int k))) (some (.d (.tuple q))) (some (.d (.int (at_ : Nat)))) (some (.d w)) c14 c15) m) _
  generalize hH : (h.home d).map Hab.d = Hm at *
  cases hE : PyData.eqv w v with
  | true =>
    rw [hE] at eq0
    have z : alt [w] v = [] := by simp [alt, hE]
    rw [z, List.map_nil, List.append_nil]
    have e1 : cmF .ne w v = some false := by
      show (eqD w v).map _ = _
      rw [eq0]
      rfl
    simp only [evFn, evSs, evS, evT, ev, evs, evI, evC, evO, truR, tru, rd, rdAll, blF, boolsOf, put, new, cmR, opR, opF, fz, allD, seqOf, walkOf, ofO, forLoop, compLoop, R.calm, wipeE, leave, sizeLine_eq, Cell.data, setAt, setAny, isDicR, app1, isLst, List.set_cons_zero, List.set_cons_succ, List.getElem?_cons_zero, List.getElem?_cons_succ, List.map_cons, List.map_nil, List.cons_append, List.nil_append, List.replicate_succ, List.replicate_zero, R.bind_ok, if_true, if_false, ite_true, ite_false, Bool.false_eq_true, Bool.true_and, Bool.false_and, Option.map_some, Option.map_none, List.length_cons, List.length_nil, Nat.reduceAdd, Nat.reduceSub, Nat.reduceLeDiff, List.take_zero, List.take_nil, reduceIte, List.set_nil, B13, EV, a_nm, e1, e2]
    exact Post.ok ⟨_, rfl, ⟨_, _, _, rfl⟩, hM⟩
  | false =>
    rw [hE] at eq0
    have z : alt [w] v = [w] := by simp [alt, hE]
    rw [z] at hz ⊢
    rw [List.map_cons, List.map_nil] at hz ⊢
    have e1 : cmF .ne w v = some true := by
      show (eqD w v).map _ = _
      rw [eq0]
      rfl
    have z1 : (q.take at_).length ≤ 5 := by rw [List.length_take]; omega
    have z2 : (q.drop (at_ + 1)).length ≤ 5 := by rw [List.length_drop]; omega
    have z3 : (Hm.take k).length ≤ 2 := by rw [List.length_take]; omega
    have z4 : (Hm.drop (k + 1)).length ≤ 2 := by rw [List.length_drop]; omega
    have hz : acc.length ≤ 999 := by simpa using hz
    unfold hoF newHome
    rw [hH]
    generalize q.take at_ = A at *
    generalize q.drop (at_ + 1) = B at *
    generalize Hm.take k = C at *
    generalize Hm.drop (k + 1) = E at *
    have y1 : A.length + 1 ≤ 16777216 := by omega
    have y2 : A.length + 1 + B.length ≤ 16777216 := by omega
    have y3 : C.length + 1 ≤ 16777216 := by omega
    have y4 : C.length + 1 + E.length ≤ 16777216 := by omega
    have y5 : acc.length < 16777216 := by omega
    have y6 : A.length ≤ 16777216 := by omega
    have y7 : B.length ≤ 16777216 := by omega
    have y8 : C.length ≤ 16777216 := by omega
    have y9 : E.length ≤ 16777216 := by omega
    have e9 : ∀ z m, Φ 19 [.d (hoD h), .d (.int (dn d)), .d z] m = .ok (.d (putP d (homeD h.h0) (homeD h.h1) z)) m := e8
    simp only [evFn, evSs, evS, evT, ev, evs, evI, evC, evO, truR, tru, rd, rdAll, blF, boolsOf, put, new, cmR, opR, opF, fz, allD, seqOf, walkOf, ofO, forLoop, compLoop, R.calm, wipeE, leave, sizeLine_eq, Cell.data, setAt, setAny, isDicR, app1, isLst, List.set_cons_zero, List.set_cons_succ, List.getElem?_cons_zero, List.getElem?_cons_succ, List.map_cons, List.map_nil, List.cons_append, List.nil_append, List.replicate_succ, List.replicate_zero, R.bind_ok, if_true, if_false, ite_true, ite_false, Bool.false_eq_true, Bool.true_and, Bool.false_and, Option.map_some, Option.map_none, List.length_cons, List.length_nil, Nat.reduceAdd, Nat.reduceSub, Nat.reduceLeDiff, List.take_zero, List.take_nil, reduceIte, List.set_nil, B13, EV, a_nm, e0, e1, e2, e3, e4, e5, e6, e7, e9, opR, opF, slF, partI, List.length_append, List.length_cons, List.length_nil, y1, y2, y3, y4, y5, y6, y7, y8, y9]
    exact Post.ok ⟨_, rfl, ⟨_, _, _, rfl⟩, hM.set _⟩
def atF (h : House) (d : Bool) (k : Nat) (x : Hab) (at_ : Nat) : List D := (alt (tabV at_) (((qL x)[at_]?).getD .none)).map (hoF h d k (qL x) at_)
/-- one part of a habit -/
theorem turn12 {k : Nat} {x : Hab} {at_ : Nat} (hk : okHome (h.home d)) (ha : at_ < 5) (c9 c12 c13 c14 c15 : Option Val) {m : Store} {acc : List D} (hM : M acc m) (hz : acc.length + (atF h d k x at_).length ≤ 1000) :
    Post (DL.G.turnS (.nm 12) B12 Φ LL (.int (at_ : Nat)) (EV h (some (.d (.int (dn d)))) c9 (some (.d (.int k))) (some (.d x.d)) c12 c13 c14 c15) m) fun a m' => ∃ ρ', a = .nx ρ' ∧ (∃ c12 c13 c14 c15, ρ' = EV h (some (.d (.int (dn d)))) c9 (some (.d (.int k))) (some (.d x.d)) c12 c13 c14 c15) ∧ M (acc ++ atF h d k x at_) m' := by
  obtain ⟨v, hv, av⟩ := qL_at x ha
  have hf : atF h d k x at_ = (tabV at_).flatMap fun w => (alt [w] v).map (hoF h d k (qL x) at_) := by
    rw [alt_flat]
    unfold atF
    rw [hv]
    rfl
  rw [hf] at hz ⊢
  show Post (evSs Φ LL B12 (EV h (some (.d (.int (dn d)))) c9 (some (.d (.int k))) (some (.d x.d)) (some (.d (.int (at_ : Nat)))) c13 c14 c15) m) _
  have q := grow (f := DL.G.turnS (.nm 13) B13 Φ LL) (I := fun ρ' => ∃ c13 c14 c15, ρ' = EV h (some (.d (.int (dn d)))) c9 (some (.d (.int k))) (some (.d (.tuple (qL x)))) (some (.d (.int (at_ : Nat)))) c13 c14 c15) (G := fun w => (alt [w] v).map (hoF h d k (qL x) at_)) (tabV at_) acc _ m
    (fun w hw ρ m acc ⟨d13, d14, d15, hρ⟩ hM hz => by subst hρ; exact turn13 hP h d hk rfl hv av (at_of (List.all_eq_true.mp (tabV_at at_) w hw)) c9 d13 d14 d15 hM hz)
    ⟨c13, c14, c15, rfl⟩ hM hz
  have i1 : evI Φ (.of (.idx (.loc 7) (.loc 12))) (EV h (some (.d (.int (dn d)))) c9 (some (.d (.int k))) (some (.d x.d)) (some (.d (.int (at_ : Nat)))) c13 c14 c15) m = .ok (tabV at_) m := by
    have e1 : ixF (.list tabL) (.int (at_ : Nat)) = some (.list (tabV at_)) := by
      match at_, ha with
      | 0, _ => rfl
      | 1, _ => rfl
      | 2, _ => rfl
      | 3, _ => rfl
      | 4, _ => rfl
    have e2 := hM.t
    simp only [evFn, evSs, evS, evT, ev, evs, evI, evC, evO, truR, tru, rd, rdAll, blF, boolsOf, put, new, cmR, opR, opF, fz, allD, seqOf, walkOf, ofO, forLoop, compLoop, R.calm, wipeE, leave, sizeLine_eq, Cell.data, setAt, setAny, isDicR, app1, isLst, List.set_cons_zero, List.set_cons_succ, List.getElem?_cons_zero, List.getElem?_cons_succ, List.map_cons, List.map_nil, List.cons_append, List.nil_append, List.replicate_succ, List.replicate_zero, R.bind_ok, if_true, if_false, ite_true, ite_false, Bool.false_eq_true, Bool.true_and, Bool.false_and, Option.map_some, Option.map_none, List.length_cons, List.length_nil, Nat.reduceAdd, Nat.reduceSub, Nat.reduceLeDiff, List.take_zero, List.take_nil, reduceIte, List.set_nil, EV, e1, e2]
  obtain ⟨a, m1, e, ρ', rfl, ⟨d13, d14, d15, rfl⟩, hM'⟩ := q
  refine Post.eq (a := .nx (EV h (some (.d (.int (dn d)))) c9 (some (.d (.int k))) (some (.d x.d)) (some (.d (.int (at_ : Nat)))) d13 d14 d15)) (m := m1) ?_ ⟨_, rfl, ⟨_, _, _, _, rfl⟩, hM'⟩
  rw [show B12 = .cons (.for (.nm 13) (.of (.idx (.loc 7) (.loc 12))) B13) .nil from rfl]
  rw [DL.G.ss_nx ((DL.G.s_for i1).trans e)]
  rfl
def habL (h : House) (d : Bool) (k : Nat) (x : Hab) : List D := (List.range 5).flatMap (atF h d k x)
/-- one habit -/
theorem turn10 {k : Nat} {x : Hab} (hk : okHome (h.home d)) (c9 c10 c11 c12 c13 c14 c15 : Option Val) {m : Store} {acc : List D} (hM : M acc m) (hz : acc.length + (habL h d k x).length ≤ 1000) :
    Post (DL.G.turnS (.tp [10, 11]) B10 Φ LL (.tuple [.int (k : Nat), x.d]) (EV h (some (.d (.int (dn d)))) c9 c10 c11 c12 c13 c14 c15) m) fun a m' => ∃ ρ', a = .nx ρ' ∧ (∃ c10 c11 c12 c13 c14 c15, ρ' = EV h (some (.d (.int (dn d)))) c9 c10 c11 c12 c13 c14 c15) ∧ M (acc ++ habL h d k x) m' := by
  have hf : habL h d k x = (rgD 0 5).flatMap fun w => match w with | .int i => atF h d k x i.toNat | _ => [] := rfl
  rw [hf] at hz ⊢
  show Post (evSs Φ LL B10 (EV h (some (.d (.int (dn d)))) c9 (some (.d (.int k))) (some (.d x.d)) c12 c13 c14 c15) m) _
  have q := grow (f := DL.G.turnS (.nm 12) B12 Φ LL) (I := fun ρ' => ∃ c12 c13 c14 c15, ρ' = EV h (some (.d (.int (dn d)))) c9 (some (.d (.int k))) (some (.d x.d)) c12 c13 c14 c15) (G := fun w => match w with | .int i => atF h d k x i.toNat | _ => []) (rgD 0 5) acc _ m
    (fun w hw ρ m acc ⟨d12, d13, d14, d15, hρ⟩ hM hz => by
      subst hρ
      obtain ⟨i, hi, rfl⟩ : ∃ i : Nat, i < 5 ∧ w = .int (i : Nat) := by
        rw [rgD_F] at hw
        obtain ⟨i, hi, rfl⟩ := List.mem_map.mp hw
        exact ⟨i, by have := (List.mem_range'_1.mp hi).2; omega, rfl⟩
      exact turn12 hP h d hk hi c9 d12 d13 d14 d15 hM hz)
    ⟨c12, c13, c14, c15, rfl⟩ hM hz
  have i1 : evI Φ (.rng1 (.lit (.int (5)))) (EV h (some (.d (.int (dn d)))) c9 (some (.d (.int k))) (some (.d x.d)) c12 c13 c14 c15) m = .ok (rgD 0 5) m := i_rng1 (i := 5) rfl rfl (by kernel_rfl) rfl
  obtain ⟨a, m1, e, ρ', rfl, ⟨d12, d13, d14, d15, rfl⟩, hM'⟩ := q
  refine Post.eq (a := .nx (EV h (some (.d (.int (dn d)))) c9 (some (.d (.int k))) (some (.d x.d)) d12 d13 d14 d15)) (m := m1) ?_ ⟨_, rfl, ⟨_, _, _, _, _, _, rfl⟩, hM'⟩
  rw [show B10 = .cons (.for (.nm 12) (.rng1 (.lit (.int (5)))) B12) .nil from rfl]
  rw [DL.G.ss_nx ((DL.G.s_for i1).trans e)]
  rfl
end
end DL.X
end
section
set_option Elab.async false
set_option linter.all false
set_option maxRecDepth 100000
set_option maxHeartbeats 4000000
/-! YB: the law's own list of houses with one part changed. -/
namespace DL.X
open PySem DL DL.G
def outT : List D := [.str (S "none"), .str (S "leaving"), .str (S "any")]
def lampT : List D := [.str (S "none"), .str (S "bolts"), .str (S "within")]
theorem outT_at : outT.all atB = true := by kernel_rfl
theorem out_at (o : Ou) : At (.str o.s) := .s _ (by cases o <;> kernel_rfl)
def ouF (h : House) (d : Bool) (w : D) : D := .tuple [.str h.lamp.s, .bool h.linked, inD h, putP d (.str h.o0.s) (.str h.o1.s) w, hoD h]
def inF (h : House) (d : Bool) : D := .tuple [.str h.lamp.s, .bool h.linked, putP d (.bool h.i0) (.bool h.i1) (.bool (!(pick2 d h.i0 h.i1))), ouD h, hoD h]
def lmF (h : House) (w : D) : D := .tuple [w, .bool h.linked, inD h, ouD h, hoD h]
def liF (h : House) : D := .tuple [.str h.lamp.s, .bool (!h.linked), inD h, ouD h, hoD h]
theorem home_cases {l : List Hab} (h : okHome l) : (∃ x, l = [x]) ∨ ∃ x y, l = [x, y] := by
  match l, h with
  | [x], _ => exact .inl ⟨x, rfl⟩
  | [x, y], _ => exact .inr ⟨x, y, rfl⟩
  | [], .inl h => cases h
  | [], .inr h => cases h
  | _ :: _ :: _ :: _, .inl h => simp at h
  | _ :: _ :: _ :: _, .inr h => simp at h
def G10 (h : House) (d : Bool) (z : D) : List D := match z with
  | .tuple [.int i, .tuple q] => (List.range 5).flatMap fun at_ => (alt (tabV at_) ((q[at_]?).getD .none)).map (hoF h d i.toNat q at_)
  | _ => []
theorem G10_eq (h : House) (d : Bool) (k : Nat) (x : Hab) : G10 h d (.tuple [.int (k : Nat), x.d]) = habL h d k x := rfl
def enH (h : House) (d : Bool) : List D := (List.range ((h.home d).map Hab.d).length).zipWith (fun k y => .tuple [.int (k : Nat), y]) ((h.home d).map Hab.d)
theorem enH_mem {h : House} {d : Bool} (hk : okHome (h.home d)) {z : D} (hz : z ∈ enH h d) : ∃ (k : Nat) (x : Hab), z = .tuple [.int (k : Nat), x.d] := by
  unfold enH at hz
  rcases home_cases hk with ⟨x, e⟩ | ⟨x, y, e⟩
  · rw [e] at hz
    rcases hz with _ | ⟨_, hz⟩
    · exact ⟨0, x, rfl⟩
    · cases hz
  · rw [e] at hz
    rcases hz with _ | ⟨_, _ | ⟨_, hz⟩⟩
    · exact ⟨0, x, rfl⟩
    · exact ⟨1, y, rfl⟩
    · cases hz
def Gd (h : House) (d : Bool) : List D := inF h d :: ((alt outT (.str (h.out d).s)).map (ouF h d) ++ (enH h d).flatMap (G10 h d))
def L2 (h : House) : List D := ((alt lampT (.str h.lamp.s)).map (lmF h) ++ [liF h]) ++ (Gd h false ++ Gd h true)
section
variable {Φ : Nat → List Val → Store → R Val} (hP : Put Φ) (h : House) (d : Bool)
include hP
theorem turn9 {w : D} (aw : At w) (c9 c10 c11 c12 c13 c14 c15 : Option Val) {m : Store} {acc : List D} (hM : M acc m) (hz : acc.length + ((alt [w] (.str (h.out d).s)).map (ouF h d)).length ≤ 1000) :
    Post (DL.G.turnS (.nm 9) B9 Φ LL w (EV h (some (.d (.int (dn d)))) c9 c10 c11 c12 c13 c14 c15) m) fun a m' => ∃ ρ', a = .nx ρ' ∧ (∃ c9 c10 c11 c12 c13 c14 c15, ρ' = EV h (some (.d (.int (dn d)))) c9 c10 c11 c12 c13 c14 c15) ∧ M (acc ++ (alt [w] (.str (h.out d).s)).map (ouF h d)) m' := by
  have e0 := hM.f
  have eq0 := eqD_at aw (out_at (h.out d))
  have e2 := ou_ix h d
  have e9 : ∀ z m, Φ 19 [.d (ouD h), .d (.int (dn d)), .d z] m = .ok (.d (putP d (.str h.o0.s) (.str h.o1.s) z)) m := hP d _ _
  show Post (evSs Φ LL B9 (EV h (some (.d (.int (dn d)))) (some (.d w)) c10 c11 c12 c13 c14 c15) m) _
  generalize PyData.str (h.out d).s = v at *
  cases hE : PyData.eqv w v with
  | true =>
    rw [hE] at eq0
    have z : alt [w] v = [] := by simp [alt, hE]
    rw [z, List.map_nil, List.append_nil]
    have e1 : cmF .ne w v = some false := by
      show (eqD w v).map _ = _
      rw [eq0]
      rfl
    simp only [evFn, evSs, evS, evT, ev, evs, evI, evC, evO, truR, tru, rd, rdAll, blF, boolsOf, put, new, cmR, opR, opF, fz, allD, seqOf, walkOf, ofO, forLoop, compLoop, R.calm, wipeE, leave, sizeLine_eq, Cell.data, setAt, setAny, isDicR, app1, isLst, List.set_cons_zero, List.set_cons_succ, List.getElem?_cons_zero, List.getElem?_cons_succ, List.map_cons, List.map_nil, List.cons_append, List.nil_append, List.replicate_succ, List.replicate_zero, R.bind_ok, if_true, if_false, ite_true, ite_false, Bool.false_eq_true, Bool.true_and, Bool.false_and, Option.map_some, Option.map_none, List.length_cons, List.length_nil, Nat.reduceAdd, Nat.reduceSub, Nat.reduceLeDiff, List.take_zero, List.take_nil, reduceIte, List.set_nil, B9, EV, a_nm, e1, e2]
    exact Post.ok ⟨_, rfl, ⟨_, _, _, _, _, _, _, rfl⟩, hM⟩
  | false =>
    rw [hE] at eq0
    have z : alt [w] v = [w] := by simp [alt, hE]
    rw [z] at hz ⊢
    rw [List.map_cons, List.map_nil] at hz ⊢
    have e1 : cmF .ne w v = some true := by
      show (eqD w v).map _ = _
      rw [eq0]
      rfl
    have hz : acc.length ≤ 999 := by simpa using hz
    have y5 : acc.length < 16777216 := by omega
    simp only [evFn, evSs, evS, evT, ev, evs, evI, evC, evO, truR, tru, rd, rdAll, blF, boolsOf, put, new, cmR, opR, opF, fz, allD, seqOf, walkOf, ofO, forLoop, compLoop, R.calm, wipeE, leave, sizeLine_eq, Cell.data, setAt, setAny, isDicR, app1, isLst, List.set_cons_zero, List.set_cons_succ, List.getElem?_cons_zero, List.getElem?_cons_succ, List.map_cons, List.map_nil, List.cons_append, List.nil_append, List.replicate_succ, List.replicate_zero, R.bind_ok, if_true, if_false, ite_true, ite_false, Bool.false_eq_true, Bool.true_and, Bool.false_and, Option.map_some, Option.map_none, List.length_cons, List.length_nil, Nat.reduceAdd, Nat.reduceSub, Nat.reduceLeDiff, List.take_zero, List.take_nil, reduceIte, List.set_nil, B9, EV, a_nm, e0, e1, e2, e9, y5]
    exact Post.ok ⟨_, rfl, ⟨_, _, _, _, _, _, _, rfl⟩, hM.set _⟩
theorem turn8 (hk : okHome (h.home d)) (c8 c9 c10 c11 c12 c13 c14 c15 : Option Val) {m : Store} {acc : List D} (hM : M acc m) (hz : acc.length + (Gd h d).length ≤ 1000) :
    Post (DL.G.turnS (.nm 8) B8 Φ LL (.int (dn d)) (EV h c8 c9 c10 c11 c12 c13 c14 c15) m) fun a m' => ∃ ρ', a = .nx ρ' ∧ (∃ c8 c9 c10 c11 c12 c13 c14 c15, ρ' = EV h c8 c9 c10 c11 c12 c13 c14 c15) ∧ M (acc ++ Gd h d) m' := by
  show Post (evSs Φ LL B8 (EV h (some (.d (.int (dn d)))) c9 c10 c11 c12 c13 c14 c15) m) _
  unfold Gd at hz ⊢
  rw [List.length_cons, List.length_append] at hz
  have e9 : ∀ z m, Φ 19 [.d (inD h), .d (.int (dn d)), .d z] m = .ok (.d (putP d (.bool h.i0) (.bool h.i1) z)) m := hP d _ _
  have e2 := in_ix h d
  have e0 := hM.f
  have y5 : acc.length < 16777216 := by omega
  have s1 : evS Φ LL (.ex (.app (.loc 6) (.tup (.cons false (.loc 1) (.cons false (.loc 2) (.cons false (.call 19 (.cons false (.loc 3) (.cons false (.loc 8) (.cons false (.not (.idx (.loc 3) (.loc 8))) .nil)))) (.cons false (.loc 4) (.cons false (.loc 5) .nil)))))))) (EV h (some (.d (.int (dn d)))) c9 c10 c11 c12 c13 c14 c15) m = .ok (.nx (EV h (some (.d (.int (dn d)))) c9 c10 c11 c12 c13 c14 c15)) (m.set 1 (.lst (acc ++ [inF h d]))) := by
    simp only [evFn, evSs, evS, evT, ev, evs, evI, evC, evO, truR, tru, rd, rdAll, blF, boolsOf, put, new, cmR, opR, opF, fz, allD, seqOf, walkOf, ofO, forLoop, compLoop, R.calm, wipeE, leave, sizeLine_eq, Cell.data, setAt, setAny, isDicR, app1, isLst, List.set_cons_zero, List.set_cons_succ, List.getElem?_cons_zero, List.getElem?_cons_succ, List.map_cons, List.map_nil, List.cons_append, List.nil_append, List.replicate_succ, List.replicate_zero, R.bind_ok, if_true, if_false, ite_true, ite_false, Bool.false_eq_true, Bool.true_and, Bool.false_and, Option.map_some, Option.map_none, List.length_cons, List.length_nil, Nat.reduceAdd, Nat.reduceSub, Nat.reduceLeDiff, List.take_zero, List.take_nil, reduceIte, List.set_nil, EV, e0, e2, e9, y5]
    rfl
  have M1 := hM.set (acc ++ [inF h d])
  generalize m.set 1 (.lst (acc ++ [inF h d])) = m1 at s1 M1
  have i1 : evI Φ (.of (.lst (.cons false (.lit (.str (S "none"))) (.cons false (.lit (.str (S "leaving"))) (.cons false (.lit (.str (S "any"))) .nil))))) (EV h (some (.d (.int (dn d)))) c9 c10 c11 c12 c13 c14 c15) m1 = .ok outT (m1 ++ [.fz (.list outT)]) := by
    simp only [evFn, evSs, evS, evT, ev, evs, evI, evC, evO, truR, tru, rd, rdAll, blF, boolsOf, put, new, cmR, opR, opF, fz, allD, seqOf, walkOf, ofO, forLoop, compLoop, R.calm, wipeE, leave, sizeLine_eq, Cell.data, setAt, setAny, isDicR, app1, isLst, List.set_cons_zero, List.set_cons_succ, List.getElem?_cons_zero, List.getElem?_cons_succ, List.map_cons, List.map_nil, List.cons_append, List.nil_append, List.replicate_succ, List.replicate_zero, R.bind_ok, if_true, if_false, ite_true, ite_false, Bool.false_eq_true, Bool.true_and, Bool.false_and, Option.map_some, Option.map_none, List.length_cons, List.length_nil, Nat.reduceAdd, Nat.reduceSub, Nat.reduceLeDiff, List.take_zero, List.take_nil, reduceIte, List.set_nil, EV, last_at, set_last]
    rfl
  have f1 : (alt outT (.str (h.out d).s)).map (ouF h d) = outT.flatMap fun w => (alt [w] (.str (h.out d).s)).map (ouF h d) := (alt_flat outT).symm
  rw [f1] at hz ⊢
  obtain ⟨a, m2, q1, ρ', rfl, ⟨d9, d10, d11, d12, d13, d14, d15, rfl⟩, M2⟩ := grow (f := DL.G.turnS (.nm 9) B9 Φ LL) (I := fun ρ' => ∃ c9 c10 c11 c12 c13 c14 c15, ρ' = EV h (some (.d (.int (dn d)))) c9 c10 c11 c12 c13 c14 c15) (G := fun w => (alt [w] (.str (h.out d).s)).map (ouF h d)) outT (acc ++ [inF h d]) (EV h (some (.d (.int (dn d)))) c9 c10 c11 c12 c13 c14 c15) (m1 ++ [.fz (.list outT)])
    (fun w hw ρ m acc ⟨d9, d10, d11, d12, d13, d14, d15, hρ⟩ hM hz => by subst hρ; exact turn9 hP h d (at_of (List.all_eq_true.mp outT_at w hw)) d9 d10 d11 d12 d13 d14 d15 hM hz)
    ⟨_, _, _, _, _, _, _, rfl⟩ (M1.app _) (by rw [List.length_append, List.length_singleton]; omega)
  have i2 : evI Φ (.enum (.idx (.loc 5) (.loc 8))) (EV h (some (.d (.int (dn d)))) d9 d10 d11 d12 d13 d14 d15) m2 = .ok (enH h d) m2 := by
    have e7 := ho_ix h d
    simp only [evFn, evSs, evS, evT, ev, evs, evI, evC, evO, truR, tru, rd, rdAll, blF, boolsOf, put, new, cmR, opR, opF, fz, allD, seqOf, walkOf, ofO, forLoop, compLoop, R.calm, wipeE, leave, sizeLine_eq, Cell.data, setAt, setAny, isDicR, app1, isLst, List.set_cons_zero, List.set_cons_succ, List.getElem?_cons_zero, List.getElem?_cons_succ, List.map_cons, List.map_nil, List.cons_append, List.nil_append, List.replicate_succ, List.replicate_zero, R.bind_ok, if_true, if_false, ite_true, ite_false, Bool.false_eq_true, Bool.true_and, Bool.false_and, Option.map_some, Option.map_none, List.length_cons, List.length_nil, Nat.reduceAdd, Nat.reduceSub, Nat.reduceLeDiff, List.take_zero, List.take_nil, reduceIte, List.set_nil, EV, e7]
    rfl
  obtain ⟨a, m3, q2, ρ', rfl, ⟨f10, f11, f12, f13, f14, f15, rfl⟩, M3⟩ := grow (f := DL.G.turnS (.tp [10, 11]) B10 Φ LL) (I := fun ρ' => ∃ c10 c11 c12 c13 c14 c15, ρ' = EV h (some (.d (.int (dn d)))) d9 c10 c11 c12 c13 c14 c15) (G := G10 h d) (enH h d) _ (EV h (some (.d (.int (dn d)))) d9 d10 d11 d12 d13 d14 d15) m2
    (fun z hz' ρ m acc ⟨f10, f11, f12, f13, f14, f15, hρ⟩ hM hz => by
      subst hρ
      obtain ⟨k, x, rfl⟩ := enH_mem hk hz'
      exact turn10 hP h d hk d9 f10 f11 f12 f13 f14 f15 hM hz)
    ⟨_, _, _, _, _, _, rfl⟩ M2 (by rw [List.length_append, List.length_append, List.length_singleton]; omega)
  refine Post.eq (a := .nx (EV h (some (.d (.int (dn d)))) d9 f10 f11 f12 f13 f14 f15)) (m := m3) ?_ ⟨_, rfl, ⟨_, _, _, _, _, _, _, _, rfl⟩, ?_⟩
  · rw [show B8 = .cons (.ex (.app (.loc 6) (.tup (.cons false (.loc 1) (.cons false (.loc 2) (.cons false (.call 19 (.cons false (.loc 3) (.cons false (.loc 8) (.cons false (.not (.idx (.loc 3) (.loc 8))) .nil)))) (.cons false (.loc 4) (.cons false (.loc 5) .nil)))))))) (.cons (.for (.nm 9) (.of (.lst (.cons false (.lit (.str (S "none"))) (.cons false (.lit (.str (S "leaving"))) (.cons false (.lit (.str (S "any"))) .nil))))) B9) (.cons (.for (.tp [10, 11]) (.enum (.idx (.loc 5) (.loc 8))) B10) .nil)) from rfl]
    rw [DL.G.ss_nx s1, DL.G.ss_nx ((DL.G.s_for i1).trans q1), DL.G.ss_nx ((DL.G.s_for i2).trans q2)]
    rfl
  · rw [List.append_assoc, List.append_assoc] at M3
    exact M3
/-- the cells when the loops begin -/
def m5 (acc : List D) : Store := [.fz (.list lampT), .lst acc, .fz (.list (tabV 0)), .fz (.list (tabV 1)), .fz (.list (tabV 2)), .fz (.list (tabV 3)), .lst tabL, .fz (.list (tabV 4))]
def A5 (h : House) : List D := (alt lampT (.str h.lamp.s)).map (lmF h) ++ [liF h]
omit hP in
theorem start (r : PSs Nat) : evSs Φ LL (.cons (.asg (.tp [1, 2, 3, 4, 5]) (.loc 0)) (.cons (.asg (.nm 6) (.comp (.tup (.cons false (.loc 9) (.cons false (.loc 2) (.cons false (.loc 3) (.cons false (.loc 4) (.cons false (.loc 5) .nil)))))) (.nm 9) (.of (.lst (.cons false (.lit (.str (S "none"))) (.cons false (.lit (.str (S "bolts"))) (.cons false (.lit (.str (S "within"))) .nil))))) (.so (.cmp .ne (.loc 9) (.loc 1))) [9])) (.cons (.ex (.app (.loc 6) (.tup (.cons false (.loc 1) (.cons false (.not (.loc 2)) (.cons false (.loc 3) (.cons false (.loc 4) (.cons false (.loc 5) .nil)))))))) (.cons (.asg (.nm 7) (.lst (.cons false (.lst (.cons false (.lit (.bool false)) (.cons false (.lit (.bool true)) .nil))) (.cons false (.lst (.cons false (.lit (.str (S "none"))) (.cons false (.lit (.str (S "own"))) (.cons false (.lit (.str (S "both"))) .nil)))) (.cons false (.lst (.cons false (.lit (.str (S "same"))) (.cons false (.lit (.str (S "either"))) .nil))) (.cons false (.lst (.cons false (.lit (.str (S "own"))) (.cons false (.lit (.str (S "both"))) .nil))) .nil)))))) (.cons (.ex (.app (.loc 7) (.lst (.cons false (.lit (.str (S "never"))) (.cons false (.lit (.str (S "bolts"))) (.cons false (.lit (.str (S "undoing"))) (.cons false (.lit (.str (S "all"))) .nil))))))) r))))) [some (.d h.d), none, none, none, none, none, none, none, none, none, none, none, none, none, none, none] [] = evSs Φ LL r (EV h none none none none none none none none) (m5 (A5 h)) := by
  obtain ⟨lamp, linked, i0, i1, o0, o1, h0, h1⟩ := h
  cases lamp
  · refine (DL.G.ss_nx (ρ1 := [some (.d (⟨.none, linked, i0, i1, o0, o1, h0, h1⟩ : House).d), some (.d (.str (⟨.none, linked, i0, i1, o0, o1, h0, h1⟩ : House).lamp.s)), some (.d (.bool linked)), some (.d (inD (⟨.none, linked, i0, i1, o0, o1, h0, h1⟩ : House))), some (.d (ouD (⟨.none, linked, i0, i1, o0, o1, h0, h1⟩ : House))), some (.d (hoD (⟨.none, linked, i0, i1, o0, o1, h0, h1⟩ : House))), none, none, none, none, none, none, none, none, none, none]) (m1 := []) (by kernel_rfl)).trans ?_
    refine (DL.G.ss_nx (ρ1 := [some (.d (⟨.none, linked, i0, i1, o0, o1, h0, h1⟩ : House).d), some (.d (.str (⟨.none, linked, i0, i1, o0, o1, h0, h1⟩ : House).lamp.s)), some (.d (.bool linked)), some (.d (inD (⟨.none, linked, i0, i1, o0, o1, h0, h1⟩ : House))), some (.d (ouD (⟨.none, linked, i0, i1, o0, o1, h0, h1⟩ : House))), some (.d (hoD (⟨.none, linked, i0, i1, o0, o1, h0, h1⟩ : House))), some (.r 1), none, none, none, none, none, none, none, none, none]) (m1 := [.fz (.list lampT), .lst ((alt lampT (.str (⟨.none, linked, i0, i1, o0, o1, h0, h1⟩ : House).lamp.s)).map (lmF (⟨.none, linked, i0, i1, o0, o1, h0, h1⟩ : House)))]) (by kernel_rfl)).trans ?_
    refine (DL.G.ss_nx (ρ1 := [some (.d (⟨.none, linked, i0, i1, o0, o1, h0, h1⟩ : House).d), some (.d (.str (⟨.none, linked, i0, i1, o0, o1, h0, h1⟩ : House).lamp.s)), some (.d (.bool linked)), some (.d (inD (⟨.none, linked, i0, i1, o0, o1, h0, h1⟩ : House))), some (.d (ouD (⟨.none, linked, i0, i1, o0, o1, h0, h1⟩ : House))), some (.d (hoD (⟨.none, linked, i0, i1, o0, o1, h0, h1⟩ : House))), some (.r 1), none, none, none, none, none, none, none, none, none]) (m1 := [.fz (.list lampT), .lst (A5 (⟨.none, linked, i0, i1, o0, o1, h0, h1⟩ : House))]) (by kernel_rfl)).trans ?_
    refine (DL.G.ss_nx (ρ1 := EV (⟨.none, linked, i0, i1, o0, o1, h0, h1⟩ : House) none none none none none none none none) (m1 := [.fz (.list lampT), .lst (A5 (⟨.none, linked, i0, i1, o0, o1, h0, h1⟩ : House)), .fz (.list (tabV 0)), .fz (.list (tabV 1)), .fz (.list (tabV 2)), .fz (.list (tabV 3)), .lst [.list (tabV 0), .list (tabV 1), .list (tabV 2), .list (tabV 3)]]) (by kernel_rfl)).trans ?_
    exact DL.G.ss_nx (ρ1 := EV (⟨.none, linked, i0, i1, o0, o1, h0, h1⟩ : House) none none none none none none none none) (m1 := m5 (A5 (⟨.none, linked, i0, i1, o0, o1, h0, h1⟩ : House))) (by kernel_rfl)
  · refine (DL.G.ss_nx (ρ1 := [some (.d (⟨.bolts, linked, i0, i1, o0, o1, h0, h1⟩ : House).d), some (.d (.str (⟨.bolts, linked, i0, i1, o0, o1, h0, h1⟩ : House).lamp.s)), some (.d (.bool linked)), some (.d (inD (⟨.bolts, linked, i0, i1, o0, o1, h0, h1⟩ : House))), some (.d (ouD (⟨.bolts, linked, i0, i1, o0, o1, h0, h1⟩ : House))), some (.d (hoD (⟨.bolts, linked, i0, i1, o0, o1, h0, h1⟩ : House))), none, none, none, none, none, none, none, none, none, none]) (m1 := []) (by kernel_rfl)).trans ?_
    refine (DL.G.ss_nx (ρ1 := [some (.d (⟨.bolts, linked, i0, i1, o0, o1, h0, h1⟩ : House).d), some (.d (.str (⟨.bolts, linked, i0, i1, o0, o1, h0, h1⟩ : House).lamp.s)), some (.d (.bool linked)), some (.d (inD (⟨.bolts, linked, i0, i1, o0, o1, h0, h1⟩ : House))), some (.d (ouD (⟨.bolts, linked, i0, i1, o0, o1, h0, h1⟩ : House))), some (.d (hoD (⟨.bolts, linked, i0, i1, o0, o1, h0, h1⟩ : House))), some (.r 1), none, none, none, none, none, none, none, none, none]) (m1 := [.fz (.list lampT), .lst ((alt lampT (.str (⟨.bolts, linked, i0, i1, o0, o1, h0, h1⟩ : House).lamp.s)).map (lmF (⟨.bolts, linked, i0, i1, o0, o1, h0, h1⟩ : House)))]) (by kernel_rfl)).trans ?_
    refine (DL.G.ss_nx (ρ1 := [some (.d (⟨.bolts, linked, i0, i1, o0, o1, h0, h1⟩ : House).d), some (.d (.str (⟨.bolts, linked, i0, i1, o0, o1, h0, h1⟩ : House).lamp.s)), some (.d (.bool linked)), some (.d (inD (⟨.bolts, linked, i0, i1, o0, o1, h0, h1⟩ : House))), some (.d (ouD (⟨.bolts, linked, i0, i1, o0, o1, h0, h1⟩ : House))), some (.d (hoD (⟨.bolts, linked, i0, i1, o0, o1, h0, h1⟩ : House))), some (.r 1), none, none, none, none, none, none, none, none, none]) (m1 := [.fz (.list lampT), .lst (A5 (⟨.bolts, linked, i0, i1, o0, o1, h0, h1⟩ : House))]) (by kernel_rfl)).trans ?_
    refine (DL.G.ss_nx (ρ1 := EV (⟨.bolts, linked, i0, i1, o0, o1, h0, h1⟩ : House) none none none none none none none none) (m1 := [.fz (.list lampT), .lst (A5 (⟨.bolts, linked, i0, i1, o0, o1, h0, h1⟩ : House)), .fz (.list (tabV 0)), .fz (.list (tabV 1)), .fz (.list (tabV 2)), .fz (.list (tabV 3)), .lst [.list (tabV 0), .list (tabV 1), .list (tabV 2), .list (tabV 3)]]) (by kernel_rfl)).trans ?_
    exact DL.G.ss_nx (ρ1 := EV (⟨.bolts, linked, i0, i1, o0, o1, h0, h1⟩ : House) none none none none none none none none) (m1 := m5 (A5 (⟨.bolts, linked, i0, i1, o0, o1, h0, h1⟩ : House))) (by kernel_rfl)
  · refine (DL.G.ss_nx (ρ1 := [some (.d (⟨.within, linked, i0, i1, o0, o1, h0, h1⟩ : House).d), some (.d (.str (⟨.within, linked, i0, i1, o0, o1, h0, h1⟩ : House).lamp.s)), some (.d (.bool linked)), some (.d (inD (⟨.within, linked, i0, i1, o0, o1, h0, h1⟩ : House))), some (.d (ouD (⟨.within, linked, i0, i1, o0, o1, h0, h1⟩ : House))), some (.d (hoD (⟨.within, linked, i0, i1, o0, o1, h0, h1⟩ : House))), none, none, none, none, none, none, none, none, none, none]) (m1 := []) (by kernel_rfl)).trans ?_
    refine (DL.G.ss_nx (ρ1 := [some (.d (⟨.within, linked, i0, i1, o0, o1, h0, h1⟩ : House).d), some (.d (.str (⟨.within, linked, i0, i1, o0, o1, h0, h1⟩ : House).lamp.s)), some (.d (.bool linked)), some (.d (inD (⟨.within, linked, i0, i1, o0, o1, h0, h1⟩ : House))), some (.d (ouD (⟨.within, linked, i0, i1, o0, o1, h0, h1⟩ : House))), some (.d (hoD (⟨.within, linked, i0, i1, o0, o1, h0, h1⟩ : House))), some (.r 1), none, none, none, none, none, none, none, none, none]) (m1 := [.fz (.list lampT), .lst ((alt lampT (.str (⟨.within, linked, i0, i1, o0, o1, h0, h1⟩ : House).lamp.s)).map (lmF (⟨.within, linked, i0, i1, o0, o1, h0, h1⟩ : House)))]) (by kernel_rfl)).trans ?_
    refine (DL.G.ss_nx (ρ1 := [some (.d (⟨.within, linked, i0, i1, o0, o1, h0, h1⟩ : House).d), some (.d (.str (⟨.within, linked, i0, i1, o0, o1, h0, h1⟩ : House).lamp.s)), some (.d (.bool linked)), some (.d (inD (⟨.within, linked, i0, i1, o0, o1, h0, h1⟩ : House))), some (.d (ouD (⟨.within, linked, i0, i1, o0, o1, h0, h1⟩ : House))), some (.d (hoD (⟨.within, linked, i0, i1, o0, o1, h0, h1⟩ : House))), some (.r 1), none, none, none, none, none, none, none, none, none]) (m1 := [.fz (.list lampT), .lst (A5 (⟨.within, linked, i0, i1, o0, o1, h0, h1⟩ : House))]) (by kernel_rfl)).trans ?_
    refine (DL.G.ss_nx (ρ1 := EV (⟨.within, linked, i0, i1, o0, o1, h0, h1⟩ : House) none none none none none none none none) (m1 := [.fz (.list lampT), .lst (A5 (⟨.within, linked, i0, i1, o0, o1, h0, h1⟩ : House)), .fz (.list (tabV 0)), .fz (.list (tabV 1)), .fz (.list (tabV 2)), .fz (.list (tabV 3)), .lst [.list (tabV 0), .list (tabV 1), .list (tabV 2), .list (tabV 3)]]) (by kernel_rfl)).trans ?_
    exact DL.G.ss_nx (ρ1 := EV (⟨.within, linked, i0, i1, o0, o1, h0, h1⟩ : House) none none none none none none none none) (m1 := m5 (A5 (⟨.within, linked, i0, i1, o0, o1, h0, h1⟩ : House))) (by kernel_rfl)
end
def G8 (h : House) (w : D) : List D := match w with | .int 0 => Gd h false | _ => Gd h true
def L01 : List D := [.int (dn false), .int (dn true)]
theorem law_ones_ (h : House) (hk : h.Ok) (n : Nat) (hs : sortOk (L2 h) = true) (hz : (L2 h).length ≤ 1000) : callF tab LL (n + 2) 21 [.d h.d] [] = .ok (.r 0) [.lst (sortD (L2 h))] := by
  have hP := put_ok n
  show evFn (callF tab LL (n + 1)) LL f21 [.d h.d] [] = _
  generalize callF tab LL (n + 1) = Φ at hP ⊢
  have hz' := hz
  unfold L2 at hz
  rw [List.length_append] at hz
  have hG : Gd h false ++ Gd h true = L01.flatMap (G8 h) := by
    unfold L01
    rw [List.flatMap_cons, List.flatMap_cons, List.flatMap_nil, List.append_nil]
    rfl
  rw [hG] at hz
  obtain ⟨a, m, q, ρ', rfl, ⟨d8, d9, d10, d11, d12, d13, d14, d15, rfl⟩, M'⟩ := grow (f := DL.G.turnS (.nm 8) B8 Φ LL) (I := fun ρ' => ∃ c8 c9 c10 c11 c12 c13 c14 c15, ρ' = EV h c8 c9 c10 c11 c12 c13 c14 c15) (G := G8 h) L01 (A5 h) (EV h none none none none none none none none) (m5 (A5 h))
    (fun w hw ρ m acc ⟨d8, d9, d10, d11, d12, d13, d14, d15, hρ⟩ hM hz => by
      subst hρ
      rcases hw with _ | ⟨_, _ | ⟨_, hw⟩⟩
      · exact turn8 hP h false hk.h0 d8 d9 d10 d11 d12 d13 d14 d15 hM hz
      · exact turn8 hP h true hk.h1 d8 d9 d10 d11 d12 d13 d14 d15 hM hz
      · cases hw)
    ⟨_, _, _, _, _, _, _, _, rfl⟩ ⟨rfl, rfl⟩ hz
  rw [← hG] at M'
  have M' : M (L2 h) m := M'
  have i1 : evI Φ (.of (.tup (.cons false (.lit (.int (0))) (.cons false (.lit (.int (1))) .nil)))) (EV h none none none none none none none none) (m5 (A5 h)) = .ok L01 (m5 (A5 h)) := by kernel_rfl
  have e0 := M'.f
  have y1 : (sortD (L2 h)).length ≤ 16777216 := by rw [sortD_len]; omega
  have e1 : ev Φ (.blt .sorted (.cons false (.loc 6) .nil)) (EV h d8 d9 d10 d11 d12 d13 d14 d15) m = .ok (.r m.length) ((m.set 1 (.fz (.list (L2 h)))) ++ [.lst (sortD (L2 h))]) := by
    generalize L2 h = X at *
    simp only [evFn, evSs, evS, evT, ev, evs, evI, evC, evO, truR, tru, rd, rdAll, blF, boolsOf, put, new, cmR, opR, opF, fz, allD, seqOf, walkOf, ofO, forLoop, compLoop, R.calm, wipeE, leave, sizeLine_eq, Cell.data, setAt, setAny, isDicR, app1, isLst, List.set_cons_zero, List.set_cons_succ, List.getElem?_cons_zero, List.getElem?_cons_succ, List.map_cons, List.map_nil, List.cons_append, List.nil_append, List.replicate_succ, List.replicate_zero, R.bind_ok, if_true, if_false, ite_true, ite_false, Bool.false_eq_true, Bool.true_and, Bool.false_and, Option.map_some, Option.map_none, List.length_cons, List.length_nil, Nat.reduceAdd, Nat.reduceSub, Nat.reduceLeDiff, List.take_zero, List.take_nil, reduceIte, List.set_nil, EV, e0, hs, y1, List.length_set]
  have j0 : ((m.set 1 (.fz (.list (L2 h)))) ++ [.lst (sortD (L2 h))])[m.length]? = some (.lst (sortD (L2 h))) := by
    rw [List.getElem?_append_right (by rw [List.length_set]; exact Nat.le_refl _), List.length_set, Nat.sub_self]
    rfl
  refine Eq.trans ?_ (leave0 j0)
  refine DL.G.fn_rt (f := f21) rfl ?_
  show evSs Φ LL b21 [some (.d h.d), none, none, none, none, none, none, none, none, none, none, none, none, none, none, none] [] = _
  rw [show b21 = (.cons (.asg (.tp [1, 2, 3, 4, 5]) (.loc 0)) (.cons (.asg (.nm 6) (.comp (.tup (.cons false (.loc 9) (.cons false (.loc 2) (.cons false (.loc 3) (.cons false (.loc 4) (.cons false (.loc 5) .nil)))))) (.nm 9) (.of (.lst (.cons false (.lit (.str (S "none"))) (.cons false (.lit (.str (S "bolts"))) (.cons false (.lit (.str (S "within"))) .nil))))) (.so (.cmp .ne (.loc 9) (.loc 1))) [9])) (.cons (.ex (.app (.loc 6) (.tup (.cons false (.loc 1) (.cons false (.not (.loc 2)) (.cons false (.loc 3) (.cons false (.loc 4) (.cons false (.loc 5) .nil)))))))) (.cons (.asg (.nm 7) (.lst (.cons false (.lst (.cons false (.lit (.bool false)) (.cons false (.lit (.bool true)) .nil))) (.cons false (.lst (.cons false (.lit (.str (S "none"))) (.cons false (.lit (.str (S "own"))) (.cons false (.lit (.str (S "both"))) .nil)))) (.cons false (.lst (.cons false (.lit (.str (S "same"))) (.cons false (.lit (.str (S "either"))) .nil))) (.cons false (.lst (.cons false (.lit (.str (S "own"))) (.cons false (.lit (.str (S "both"))) .nil))) .nil)))))) (.cons (.ex (.app (.loc 7) (.lst (.cons false (.lit (.str (S "never"))) (.cons false (.lit (.str (S "bolts"))) (.cons false (.lit (.str (S "undoing"))) (.cons false (.lit (.str (S "all"))) .nil))))))) (.cons (.for (.nm 8) (.of (.tup (.cons false (.lit (.int (0))) (.cons false (.lit (.int (1))) .nil)))) B8) (.cons (.ret (.blt .sorted (.cons false (.loc 6) .nil))) .nil))))))) from rfl]
  rw [start h, DL.G.ss_nx ((DL.G.s_for i1).trans q)]
  exact DL.G.ss_rt (DL.G.s_ret e1)
end DL.X
end
section
set_option Elab.async false
set_option linter.all false
set_option maxRecDepth 100000
set_option maxHeartbeats 4000000
/-! YC: parts, values of parts. -/
namespace DL.X
open PySem DL DL.G
def InV (P : List D) : Prop := ∀ i, i < P.length → ((P[i]?).getD .none) ∈ vals i
theorem la_v (a : La) : PyData.str a.s ∈ vals 0 := by cases a <;> simp [vals, La.s]
theorem ou_v (a : Ou) : PyData.str a.s ∈ vals 4 := by cases a <;> simp [vals, Ou.s]
theorem tr_v (b : Bool) : PyData.bool b ∈ truths := by cases b <;> simp [truths]
theorem bo_v (a : Bo) : PyData.str a.s ∈ habVals 1 := by cases a <;> simp [habVals, Bo.s]
theorem go_v (a : Go) : PyData.str a.s ∈ habVals 2 := by cases a <;> simp [habVals, Go.s]
theorem un_v (a : Un) : PyData.str a.s ∈ habVals 3 := by cases a <;> simp [habVals, Un.s]
theorem fo_v (a : Fo) : PyData.str a.s ∈ habVals 4 := by cases a <;> simp [habVals, Fo.s]
theorem la_i {x : D} (h : x ∈ vals 0) : ∃ a : La, x = .str a.s := by
  simp only [vals, List.mem_cons, List.not_mem_nil, or_false] at h
  rcases h with rfl | rfl | rfl
  · exact ⟨.bolts, rfl⟩
  · exact ⟨.none, rfl⟩
  · exact ⟨.within, rfl⟩
theorem ou_i {x : D} (h : x ∈ vals 4) : ∃ a : Ou, x = .str a.s := by
  simp only [vals, List.mem_cons, List.not_mem_nil, or_false] at h
  rcases h with rfl | rfl | rfl
  · exact ⟨.any, rfl⟩
  · exact ⟨.leaving, rfl⟩
  · exact ⟨.none, rfl⟩
theorem tr_i {x : D} (h : x ∈ truths) : ∃ a : Bool, x = .bool a := by
  simp only [truths, List.mem_cons, List.not_mem_nil, or_false] at h
  rcases h with rfl | rfl
  · exact ⟨_, rfl⟩
  · exact ⟨_, rfl⟩
theorem bo_i {x : D} (h : x ∈ habVals 1) : ∃ a : Bo, x = .str a.s := by
  simp only [habVals, List.mem_cons, List.not_mem_nil, or_false] at h
  rcases h with rfl | rfl | rfl
  · exact ⟨.both, rfl⟩
  · exact ⟨.none, rfl⟩
  · exact ⟨.own, rfl⟩
theorem go_i {x : D} (h : x ∈ habVals 2) : ∃ a : Go, x = .str a.s := by
  simp only [habVals, List.mem_cons, List.not_mem_nil, or_false] at h
  rcases h with rfl | rfl
  · exact ⟨.either, rfl⟩
  · exact ⟨.same, rfl⟩
theorem un_i {x : D} (h : x ∈ habVals 3) : ∃ a : Un, x = .str a.s := by
  simp only [habVals, List.mem_cons, List.not_mem_nil, or_false] at h
  rcases h with rfl | rfl
  · exact ⟨.both, rfl⟩
  · exact ⟨.own, rfl⟩
theorem fo_i {x : D} (h : x ∈ habVals 4) : ∃ a : Fo, x = .str a.s := by
  simp only [habVals, List.mem_cons, List.not_mem_nil, or_false] at h
  rcases h with rfl | rfl | rfl | rfl
  · exact ⟨.all, rfl⟩
  · exact ⟨.bolts, rfl⟩
  · exact ⟨.never, rfl⟩
  · exact ⟨.undoing, rfl⟩
theorem pm {vs vs' : List D} (h : vs.Perm vs') (v : D) (f : D → D) : ((alt vs v).map f).Perm ((alt vs' v).map f) := (h.filter _).map f
section
variable {α : Type} (a b c d : α)
theorem p_rot : [a, b, c].Perm [b, c, a] := List.perm_append_comm (l₁ := [a]) (l₂ := [b, c])
theorem p_sw : [a, b].Perm [b, a] := List.Perm.swap b a []
theorem p_sw3 : [a, b, c].Perm [b, a, c] := List.Perm.swap b a [c]
theorem p_rev : [a, b, c].Perm [c, b, a] := ((p_rot a b c).trans (p_rot b c a)).trans (.cons c (p_sw a b))
theorem p_four : [a, b, c, d].Perm [c, b, d, a] := (List.perm_append_comm (l₁ := [a]) (l₂ := [b, c, d])).trans (p_sw3 b c d |>.append_right [a])
end
theorem lampP : (vals 0).Perm lampT := p_sw3 _ _ _
theorem outP : (vals 4).Perm outT := p_rev _ _ _
theorem tabP : ∀ j, (habVals j).Perm (tabV j)
  | 0 => .refl _
  | 1 => p_rot _ _ _
  | 2 => p_sw _ _
  | 3 => p_sw _ _
  | j + 4 => p_four _ _ _ _
def cz (P : List D) (hof : List D → D) (i : Nat) : List D := (alt (vals i) ((P[i]?).getD .none)).map fun w => gOf hof (chg P i w)
theorem L1_flat (P : List D) (hof : List D → D) (as : List Nat) : (L1p P as).map (gOf hof) = as.flatMap (cz P hof) := by
  unfold L1p
  rw [List.map_flatMap]
  congr 1
  funext a
  unfold atP cz
  rw [List.map_map]
  rfl
theorem inv_set {P : List D} (h : InV P) {a : Nat} (ha : a < P.length) {w : D} (hw : w ∈ vals a) : InV (P.take a ++ [w] ++ P.drop (a + 1)) := by
  have e : P.take a ++ [w] ++ P.drop (a + 1) = P.set a w := by
    rw [List.set_eq_take_append_cons_drop, if_pos ha, List.append_assoc]
    rfl
  rw [e]
  intro i hi
  rw [List.length_set] at hi
  by_cases q : a = i
  · subst q
    rw [List.getElem?_set_self ha]
    exact hw
  · rw [List.getElem?_set_ne q]
    exact h i hi
theorem inv_at {P : List D} (h : InV P) : ∀ p ∈ P, At p := fun p hp => by
  obtain ⟨i, hi, rfl⟩ := List.mem_iff_getElem.mp hp
  have q := h i hi
  rw [List.getElem?_eq_getElem hi] at q
  exact at_of (List.all_eq_true.mp (vals_at i) _ q)
/-- like a house -/
def Like (h : House) (y : D) : Prop := ∃ h' : House, h'.h0.length = h.h0.length ∧ h'.h1.length = h.h1.length ∧ y = h'.d
def Shp (n : Nat) (h : House) : Prop := ∃ L1 : List D, L1.Perm (L2 h) ∧ (∀ y ∈ L1, Like h y) ∧ L1.length ≤ 104 ∧ (sortOk L1 = true → callF tab LL (n + 3) 10 [.d h.d] [] = .ok (.r 0) [.lst (sortD L1)])
theorem shp_of {n N : Nat} {h : House} {P : List D} {hof : List D → D} (hp : ((L1p P (List.range N)).map (gOf hof)).Perm (L2 h))
    (hg : ∀ Q : List D, Q.length = N → InV Q → ∃ h' : House, h'.h0.length = h.h0.length ∧ h'.h1.length = h.h1.length ∧ hof Q = h'.d) (iv : InV P) (hl : P.length = N) (hN : N ≤ 26)
    (hc : sortOk ((L1p P (List.range N)).map (gOf hof)) = true → callF tab LL (n + 3) 10 [.d h.d] [] = .ok (.r 0) [.lst (sortD ((L1p P (List.range N)).map (gOf hof)))]) : Shp n h := by
  refine ⟨_, hp, fun y hy => ?_, ?_, hc⟩
  · obtain ⟨z, hz, rfl⟩ := List.mem_map.mp hy
    obtain ⟨a, w, ha, hw, rfl⟩ := L1p_mem (fun a h => by rw [hl]; exact List.mem_range.mp h) hz
    obtain ⟨h', k0, k1, e⟩ := hg (P.take a ++ [w] ++ P.drop (a + 1)) ((row_len ha w).trans hl) (inv_set iv ha (List.mem_filter.mp hw).1)
    exact ⟨h', k0, k1, e⟩
  · have := L1p_len P (List.range N)
    rw [List.length_range] at this
    rw [List.length_map]
    omega
theorem habL_five (h : House) (d : Bool) (k : Nat) (x : Hab) : habL h d k x = (atF h d k x 0 ++ (atF h d k x 1 ++ (atF h d k x 2 ++ (atF h d k x 3 ++ (atF h d k x 4 ++ []))))) := rfl
theorem Gd1 (h : House) (d : Bool) (x : Hab) (e : h.home d = [x]) : Gd h d = [inF h d] ++ ((alt outT (.str (h.out d).s)).map (ouF h d) ++ ((atF h d 0 x 0 ++ (atF h d 0 x 1 ++ (atF h d 0 x 2 ++ (atF h d 0 x 3 ++ (atF h d 0 x 4 ++ []))))) ++ [])) := by
  rw [← habL_five]
  unfold Gd enH
  rw [e]
  rfl
theorem Gd2 (h : House) (d : Bool) (x y : Hab) (e : h.home d = [x, y]) : Gd h d = [inF h d] ++ ((alt outT (.str (h.out d).s)).map (ouF h d) ++ ((atF h d 0 x 0 ++ (atF h d 0 x 1 ++ (atF h d 0 x 2 ++ (atF h d 0 x 3 ++ (atF h d 0 x 4 ++ []))))) ++ ((atF h d 1 y 0 ++ (atF h d 1 y 1 ++ (atF h d 1 y 2 ++ (atF h d 1 y 3 ++ (atF h d 1 y 4 ++ []))))) ++ []))) := by
  rw [← habL_five, ← habL_five]
  unfold Gd enH
  rw [e]
  rfl
theorem L2_eq (h : House) {A B : List D} (e0 : Gd h false = A) (e1 : Gd h true = B) : L2 h = ((alt lampT (.str h.lamp.s)).map (lmF h) ++ [liF h]) ++ (A ++ B) := by
  unfold L2
  rw [e0, e1]
theorem five {α : Type} {c6 c7 c8 c9 c10 T d6 d7 d8 d9 d10 T' : List α} (p6 : c6.Perm d6) (p7 : c7.Perm d7) (p8 : c8.Perm d8) (p9 : c9.Perm d9) (p10 : c10.Perm d10) (pT : T.Perm T') :
    (c6 ++ (c7 ++ (c8 ++ (c9 ++ (c10 ++ T))))).Perm ((d6 ++ (d7 ++ (d8 ++ (d9 ++ (d10 ++ []))))) ++ T') := by
  refine (p6.append (p7.append (p8.append (p9.append (p10.append pT))))).trans (.of_eq ?_)
  rw [List.append_nil, List.append_assoc, List.append_assoc, List.append_assoc, List.append_assoc]
theorem base8 {α : Type} [DecidableEq α] (d0 d1 d2 d3 d4 d5 X Y : List α) : (d0 ++ (d1 ++ (d2 ++ (d3 ++ (d4 ++ (d5 ++ (X ++ Y))))))).Perm ((d0 ++ d1) ++ ((d2 ++ (d4 ++ X)) ++ (d3 ++ (d5 ++ Y)))) := by
  refine List.perm_iff_count.mpr fun z => ?_
  simp only [List.count_append]
  omega
theorem base {c0 c1 c2 c3 c4 c5 R d0 d1 d2 d3 d4 d5 X Y : List D} (p0 : c0.Perm d0) (p1 : c1.Perm d1) (p2 : c2.Perm d2) (p3 : c3.Perm d3) (p4 : c4.Perm d4) (p5 : c5.Perm d5) (pR : R.Perm (X ++ Y)) :
    (c0 ++ (c1 ++ (c2 ++ (c3 ++ (c4 ++ (c5 ++ R)))))).Perm ((d0 ++ d1) ++ ((d2 ++ (d4 ++ X)) ++ (d3 ++ (d5 ++ Y)))) := by
  letI : DecidableEq D := fun a b => Classical.propDecidable (a = b)
  exact (p0.append (p1.append (p2.append (p3.append (p4.append (p5.append pR)))))).trans (base8 d0 d1 d2 d3 d4 d5 X Y)
theorem as1 {α : Type} (x y : List α) : x ++ y = (x ++ []) ++ y := by rw [List.append_nil]
theorem as2 {α : Type} (x y z : List α) : x ++ (y ++ z) = (x ++ (y ++ [])) ++ z := by rw [List.append_nil, List.append_assoc]
end DL.X
end
section
set_option Elab.async false
set_option linter.all false
set_option maxRecDepth 100000
set_option maxHeartbeats 4000000
/-! YD11 (printed by mky.py): one shape of a house. -/
namespace DL.X
open PySem DL DL.G

theorem inv11 (lamp : La) (linked i0 i1 : Bool) (o0 o1 : Ou) (x0 y0 : Hab) : InV ([.str lamp.s, .bool linked, .bool i0, .bool i1, .str o0.s, .str o1.s, .bool x0.look, .str x0.b.s, .str x0.g.s, .str x0.u.s, .str x0.f.s, .bool y0.look, .str y0.b.s, .str y0.g.s, .str y0.u.s, .str y0.f.s] : List D) := by
  intro i hi
  match i, hi with
  | 0, _ => exact la_v _
  | 1, _ => exact tr_v _
  | 2, _ => exact tr_v _
  | 3, _ => exact tr_v _
  | 4, _ => exact ou_v _
  | 5, _ => exact ou_v _
  | 6, _ => show _ ∈ habVals 0; exact tr_v _
  | 7, _ => show _ ∈ habVals 1; exact bo_v _
  | 8, _ => show _ ∈ habVals 2; exact go_v _
  | 9, _ => show _ ∈ habVals 3; exact un_v _
  | 10, _ => show _ ∈ habVals 4; exact fo_v _
  | 11, _ => show _ ∈ habVals 0; exact tr_v _
  | 12, _ => show _ ∈ habVals 1; exact bo_v _
  | 13, _ => show _ ∈ habVals 2; exact go_v _
  | 14, _ => show _ ∈ habVals 3; exact un_v _
  | 15, _ => show _ ∈ habVals 4; exact fo_v _
  | i + 16, hi => exact absurd hi (by simp)
theorem good11 {Q : List D} (hl : Q.length = 16) (hv : InV Q) : ∃ h : House, h.h0.length = 1 ∧ h.h1.length = 1 ∧ hof11 Q = h.d := by
  obtain ⟨q0, q1, q2, q3, q4, q5, q6, q7, q8, q9, q10, q11, q12, q13, q14, q15, rfl⟩ := split11 hl
  obtain ⟨z0, e0⟩ := la_i (hv 0 (by simp))
  obtain ⟨z1, e1⟩ := tr_i (hv 1 (by simp))
  obtain ⟨z2, e2⟩ := tr_i (hv 2 (by simp))
  obtain ⟨z3, e3⟩ := tr_i (hv 3 (by simp))
  obtain ⟨z4, e4⟩ := ou_i (hv 4 (by simp))
  obtain ⟨z5, e5⟩ := ou_i (hv 5 (by simp))
  obtain ⟨z6, e6⟩ := tr_i (hv 6 (by simp))
  obtain ⟨z7, e7⟩ := bo_i (hv 7 (by simp))
  obtain ⟨z8, e8⟩ := go_i (hv 8 (by simp))
  obtain ⟨z9, e9⟩ := un_i (hv 9 (by simp))
  obtain ⟨z10, e10⟩ := fo_i (hv 10 (by simp))
  obtain ⟨z11, e11⟩ := tr_i (hv 11 (by simp))
  obtain ⟨z12, e12⟩ := bo_i (hv 12 (by simp))
  obtain ⟨z13, e13⟩ := go_i (hv 13 (by simp))
  obtain ⟨z14, e14⟩ := un_i (hv 14 (by simp))
  obtain ⟨z15, e15⟩ := fo_i (hv 15 (by simp))
  obtain rfl : q0 = _ := e0
  obtain rfl : q1 = _ := e1
  obtain rfl : q2 = _ := e2
  obtain rfl : q3 = _ := e3
  obtain rfl : q4 = _ := e4
  obtain rfl : q5 = _ := e5
  obtain rfl : q6 = _ := e6
  obtain rfl : q7 = _ := e7
  obtain rfl : q8 = _ := e8
  obtain rfl : q9 = _ := e9
  obtain rfl : q10 = _ := e10
  obtain rfl : q11 = _ := e11
  obtain rfl : q12 = _ := e12
  obtain rfl : q13 = _ := e13
  obtain rfl : q14 = _ := e14
  obtain rfl : q15 = _ := e15
  exact ⟨⟨z0, z1, z2, z3, z4, z5, [⟨z6, z7, z8, z9, z10⟩], [⟨z11, z12, z13, z14, z15⟩]⟩, rfl, rfl, rfl⟩
theorem fl16 (c : Nat → List D) : (List.range 16).flatMap c = (c 0 ++ (c 1 ++ (c 2 ++ (c 3 ++ (c 4 ++ (c 5 ++ (c 6 ++ (c 7 ++ (c 8 ++ (c 9 ++ (c 10 ++ (c 11 ++ (c 12 ++ (c 13 ++ (c 14 ++ (c 15 ++ [])))))))))))))))) := by kernel_rfl
theorem perm11 (lamp : La) (linked i0 i1 : Bool) (o0 o1 : Ou) (x0 y0 : Hab) : ((L1p ([.str lamp.s, .bool linked, .bool i0, .bool i1, .str o0.s, .str o1.s, .bool x0.look, .str x0.b.s, .str x0.g.s, .str x0.u.s, .str x0.f.s, .bool y0.look, .str y0.b.s, .str y0.g.s, .str y0.u.s, .str y0.f.s] : List D) (List.range 16)).map (gOf hof11)).Perm (L2 (⟨lamp, linked, i0, i1, o0, o1, [x0], [y0]⟩ : House)) := by
  rw [L1_flat]
  have p0 : (cz ([.str lamp.s, .bool linked, .bool i0, .bool i1, .str o0.s, .str o1.s, .bool x0.look, .str x0.b.s, .str x0.g.s, .str x0.u.s, .str x0.f.s, .bool y0.look, .str y0.b.s, .str y0.g.s, .str y0.u.s, .str y0.f.s] : List D) hof11 0).Perm ((alt lampT (.str lamp.s)).map (lmF (⟨lamp, linked, i0, i1, o0, o1, [x0], [y0]⟩ : House))) := by
    exact (pm lampP (.str lamp.s) _).trans (.of_eq (congrArg (List.map · (alt lampT (.str lamp.s))) (by funext w; kernel_rfl)))
  have p1 : (cz ([.str lamp.s, .bool linked, .bool i0, .bool i1, .str o0.s, .str o1.s, .bool x0.look, .str x0.b.s, .str x0.g.s, .str x0.u.s, .str x0.f.s, .bool y0.look, .str y0.b.s, .str y0.g.s, .str y0.u.s, .str y0.f.s] : List D) hof11 1).Perm ([liF (⟨lamp, linked, i0, i1, o0, o1, [x0], [y0]⟩ : House)]) := by
    exact .of_eq (by cases linked <;> kernel_rfl)
  have p2 : (cz ([.str lamp.s, .bool linked, .bool i0, .bool i1, .str o0.s, .str o1.s, .bool x0.look, .str x0.b.s, .str x0.g.s, .str x0.u.s, .str x0.f.s, .bool y0.look, .str y0.b.s, .str y0.g.s, .str y0.u.s, .str y0.f.s] : List D) hof11 2).Perm ([inF (⟨lamp, linked, i0, i1, o0, o1, [x0], [y0]⟩ : House) false]) := by
    exact .of_eq (by cases i0 <;> kernel_rfl)
  have p3 : (cz ([.str lamp.s, .bool linked, .bool i0, .bool i1, .str o0.s, .str o1.s, .bool x0.look, .str x0.b.s, .str x0.g.s, .str x0.u.s, .str x0.f.s, .bool y0.look, .str y0.b.s, .str y0.g.s, .str y0.u.s, .str y0.f.s] : List D) hof11 3).Perm ([inF (⟨lamp, linked, i0, i1, o0, o1, [x0], [y0]⟩ : House) true]) := by
    exact .of_eq (by cases i1 <;> kernel_rfl)
  have p4 : (cz ([.str lamp.s, .bool linked, .bool i0, .bool i1, .str o0.s, .str o1.s, .bool x0.look, .str x0.b.s, .str x0.g.s, .str x0.u.s, .str x0.f.s, .bool y0.look, .str y0.b.s, .str y0.g.s, .str y0.u.s, .str y0.f.s] : List D) hof11 4).Perm ((alt outT (.str o0.s)).map (ouF (⟨lamp, linked, i0, i1, o0, o1, [x0], [y0]⟩ : House) false)) := by
    exact (pm outP (.str o0.s) _).trans (.of_eq (congrArg (List.map · (alt outT (.str o0.s))) (by funext w; kernel_rfl)))
  have p5 : (cz ([.str lamp.s, .bool linked, .bool i0, .bool i1, .str o0.s, .str o1.s, .bool x0.look, .str x0.b.s, .str x0.g.s, .str x0.u.s, .str x0.f.s, .bool y0.look, .str y0.b.s, .str y0.g.s, .str y0.u.s, .str y0.f.s] : List D) hof11 5).Perm ((alt outT (.str o1.s)).map (ouF (⟨lamp, linked, i0, i1, o0, o1, [x0], [y0]⟩ : House) true)) := by
    exact (pm outP (.str o1.s) _).trans (.of_eq (congrArg (List.map · (alt outT (.str o1.s))) (by funext w; kernel_rfl)))
  have p6 : (cz ([.str lamp.s, .bool linked, .bool i0, .bool i1, .str o0.s, .str o1.s, .bool x0.look, .str x0.b.s, .str x0.g.s, .str x0.u.s, .str x0.f.s, .bool y0.look, .str y0.b.s, .str y0.g.s, .str y0.u.s, .str y0.f.s] : List D) hof11 6).Perm (atF (⟨lamp, linked, i0, i1, o0, o1, [x0], [y0]⟩ : House) false 0 x0 0) := by
    exact (pm (tabP 0) (.bool x0.look) _).trans (.of_eq (congrArg (List.map · (alt (tabV 0) (.bool x0.look))) (by funext w; kernel_rfl)))
  have p7 : (cz ([.str lamp.s, .bool linked, .bool i0, .bool i1, .str o0.s, .str o1.s, .bool x0.look, .str x0.b.s, .str x0.g.s, .str x0.u.s, .str x0.f.s, .bool y0.look, .str y0.b.s, .str y0.g.s, .str y0.u.s, .str y0.f.s] : List D) hof11 7).Perm (atF (⟨lamp, linked, i0, i1, o0, o1, [x0], [y0]⟩ : House) false 0 x0 1) := by
    exact (pm (tabP 1) (.str x0.b.s) _).trans (.of_eq (congrArg (List.map · (alt (tabV 1) (.str x0.b.s))) (by funext w; kernel_rfl)))
  have p8 : (cz ([.str lamp.s, .bool linked, .bool i0, .bool i1, .str o0.s, .str o1.s, .bool x0.look, .str x0.b.s, .str x0.g.s, .str x0.u.s, .str x0.f.s, .bool y0.look, .str y0.b.s, .str y0.g.s, .str y0.u.s, .str y0.f.s] : List D) hof11 8).Perm (atF (⟨lamp, linked, i0, i1, o0, o1, [x0], [y0]⟩ : House) false 0 x0 2) := by
    exact (pm (tabP 2) (.str x0.g.s) _).trans (.of_eq (congrArg (List.map · (alt (tabV 2) (.str x0.g.s))) (by funext w; kernel_rfl)))
  have p9 : (cz ([.str lamp.s, .bool linked, .bool i0, .bool i1, .str o0.s, .str o1.s, .bool x0.look, .str x0.b.s, .str x0.g.s, .str x0.u.s, .str x0.f.s, .bool y0.look, .str y0.b.s, .str y0.g.s, .str y0.u.s, .str y0.f.s] : List D) hof11 9).Perm (atF (⟨lamp, linked, i0, i1, o0, o1, [x0], [y0]⟩ : House) false 0 x0 3) := by
    exact (pm (tabP 3) (.str x0.u.s) _).trans (.of_eq (congrArg (List.map · (alt (tabV 3) (.str x0.u.s))) (by funext w; kernel_rfl)))
  have p10 : (cz ([.str lamp.s, .bool linked, .bool i0, .bool i1, .str o0.s, .str o1.s, .bool x0.look, .str x0.b.s, .str x0.g.s, .str x0.u.s, .str x0.f.s, .bool y0.look, .str y0.b.s, .str y0.g.s, .str y0.u.s, .str y0.f.s] : List D) hof11 10).Perm (atF (⟨lamp, linked, i0, i1, o0, o1, [x0], [y0]⟩ : House) false 0 x0 4) := by
    exact (pm (tabP 4) (.str x0.f.s) _).trans (.of_eq (congrArg (List.map · (alt (tabV 4) (.str x0.f.s))) (by funext w; kernel_rfl)))
  have p11 : (cz ([.str lamp.s, .bool linked, .bool i0, .bool i1, .str o0.s, .str o1.s, .bool x0.look, .str x0.b.s, .str x0.g.s, .str x0.u.s, .str x0.f.s, .bool y0.look, .str y0.b.s, .str y0.g.s, .str y0.u.s, .str y0.f.s] : List D) hof11 11).Perm (atF (⟨lamp, linked, i0, i1, o0, o1, [x0], [y0]⟩ : House) true 0 y0 0) := by
    exact (pm (tabP 0) (.bool y0.look) _).trans (.of_eq (congrArg (List.map · (alt (tabV 0) (.bool y0.look))) (by funext w; kernel_rfl)))
  have p12 : (cz ([.str lamp.s, .bool linked, .bool i0, .bool i1, .str o0.s, .str o1.s, .bool x0.look, .str x0.b.s, .str x0.g.s, .str x0.u.s, .str x0.f.s, .bool y0.look, .str y0.b.s, .str y0.g.s, .str y0.u.s, .str y0.f.s] : List D) hof11 12).Perm (atF (⟨lamp, linked, i0, i1, o0, o1, [x0], [y0]⟩ : House) true 0 y0 1) := by
    exact (pm (tabP 1) (.str y0.b.s) _).trans (.of_eq (congrArg (List.map · (alt (tabV 1) (.str y0.b.s))) (by funext w; kernel_rfl)))
  have p13 : (cz ([.str lamp.s, .bool linked, .bool i0, .bool i1, .str o0.s, .str o1.s, .bool x0.look, .str x0.b.s, .str x0.g.s, .str x0.u.s, .str x0.f.s, .bool y0.look, .str y0.b.s, .str y0.g.s, .str y0.u.s, .str y0.f.s] : List D) hof11 13).Perm (atF (⟨lamp, linked, i0, i1, o0, o1, [x0], [y0]⟩ : House) true 0 y0 2) := by
    exact (pm (tabP 2) (.str y0.g.s) _).trans (.of_eq (congrArg (List.map · (alt (tabV 2) (.str y0.g.s))) (by funext w; kernel_rfl)))
  have p14 : (cz ([.str lamp.s, .bool linked, .bool i0, .bool i1, .str o0.s, .str o1.s, .bool x0.look, .str x0.b.s, .str x0.g.s, .str x0.u.s, .str x0.f.s, .bool y0.look, .str y0.b.s, .str y0.g.s, .str y0.u.s, .str y0.f.s] : List D) hof11 14).Perm (atF (⟨lamp, linked, i0, i1, o0, o1, [x0], [y0]⟩ : House) true 0 y0 3) := by
    exact (pm (tabP 3) (.str y0.u.s) _).trans (.of_eq (congrArg (List.map · (alt (tabV 3) (.str y0.u.s))) (by funext w; kernel_rfl)))
  have p15 : (cz ([.str lamp.s, .bool linked, .bool i0, .bool i1, .str o0.s, .str o1.s, .bool x0.look, .str x0.b.s, .str x0.g.s, .str x0.u.s, .str x0.f.s, .bool y0.look, .str y0.b.s, .str y0.g.s, .str y0.u.s, .str y0.f.s] : List D) hof11 15).Perm (atF (⟨lamp, linked, i0, i1, o0, o1, [x0], [y0]⟩ : House) true 0 y0 4) := by
    exact (pm (tabP 4) (.str y0.f.s) _).trans (.of_eq (congrArg (List.map · (alt (tabV 4) (.str y0.f.s))) (by funext w; kernel_rfl)))
  have q := base p0 p1 p2 p3 p4 p5 ((five p6 p7 p8 p9 p10 (five p11 p12 p13 p14 p15 (List.Perm.refl []))).trans (.of_eq (as1 _ _)))
  exact (List.Perm.of_eq (fl16 _)).trans (q.trans (List.Perm.of_eq (L2_eq (⟨lamp, linked, i0, i1, o0, o1, [x0], [y0]⟩ : House) (Gd1 _ false x0 rfl) (Gd1 _ true y0 rfl)).symm))
theorem shape11 (n : Nat) (lamp : La) (linked i0 i1 : Bool) (o0 o1 : Ou) (x0 y0 : Hab) : Shp n (⟨lamp, linked, i0, i1, o0, o1, [x0], [y0]⟩ : House) := by
  have iv := inv11 lamp linked i0 i1 o0 o1 x0 y0
  refine shp_of (P := [.str lamp.s, .bool linked, .bool i0, .bool i1, .str o0.s, .str o1.s, .bool x0.look, .str x0.b.s, .str x0.g.s, .str x0.u.s, .str x0.f.s, .bool y0.look, .str y0.b.s, .str y0.g.s, .str y0.u.s, .str y0.f.s]) (hof := hof11) (perm11 lamp linked i0 i1 o0 o1 x0 y0) (fun Q hl hv => good11 hl hv) iv rfl (by decide) ?_
  have hl : ([.str lamp.s, .bool linked, .bool i0, .bool i1, .str o0.s, .str o1.s, .bool x0.look, .str x0.b.s, .str x0.g.s, .str x0.u.s, .str x0.f.s, .bool y0.look, .str y0.b.s, .str y0.g.s, .str y0.u.s, .str y0.f.s] : List D).length = 16 := rfl
  have hd : hof11 ([.str lamp.s, .bool linked, .bool i0, .bool i1, .str o0.s, .str o1.s, .bool x0.look, .str x0.b.s, .str x0.g.s, .str x0.u.s, .str x0.f.s, .bool y0.look, .str y0.b.s, .str y0.g.s, .str y0.u.s, .str y0.f.s] : List D) = (⟨lamp, linked, i0, i1, o0, o1, [x0], [y0]⟩ : House).d := by kernel_rfl
  have q := ones11 n hl (inv_at iv)
  rw [hl, hd] at q
  exact q
end DL.X
end
section
set_option Elab.async false
set_option linter.all false
set_option maxRecDepth 100000
set_option maxHeartbeats 4000000
/-! YD12 (printed by mky.py): one shape of a house. -/
namespace DL.X
open PySem DL DL.G

theorem inv12 (lamp : La) (linked i0 i1 : Bool) (o0 o1 : Ou) (x0 y0 y1 : Hab) : InV ([.str lamp.s, .bool linked, .bool i0, .bool i1, .str o0.s, .str o1.s, .bool x0.look, .str x0.b.s, .str x0.g.s, .str x0.u.s, .str x0.f.s, .bool y0.look, .str y0.b.s, .str y0.g.s, .str y0.u.s, .str y0.f.s, .bool y1.look, .str y1.b.s, .str y1.g.s, .str y1.u.s, .str y1.f.s] : List D) := by
  intro i hi
  match i, hi with
  | 0, _ => exact la_v _
  | 1, _ => exact tr_v _
  | 2, _ => exact tr_v _
  | 3, _ => exact tr_v _
  | 4, _ => exact ou_v _
  | 5, _ => exact ou_v _
  | 6, _ => show _ ∈ habVals 0; exact tr_v _
  | 7, _ => show _ ∈ habVals 1; exact bo_v _
  | 8, _ => show _ ∈ habVals 2; exact go_v _
  | 9, _ => show _ ∈ habVals 3; exact un_v _
  | 10, _ => show _ ∈ habVals 4; exact fo_v _
  | 11, _ => show _ ∈ habVals 0; exact tr_v _
  | 12, _ => show _ ∈ habVals 1; exact bo_v _
  | 13, _ => show _ ∈ habVals 2; exact go_v _
  | 14, _ => show _ ∈ habVals 3; exact un_v _
  | 15, _ => show _ ∈ habVals 4; exact fo_v _
  | 16, _ => show _ ∈ habVals 0; exact tr_v _
  | 17, _ => show _ ∈ habVals 1; exact bo_v _
  | 18, _ => show _ ∈ habVals 2; exact go_v _
  | 19, _ => show _ ∈ habVals 3; exact un_v _
  | 20, _ => show _ ∈ habVals 4; exact fo_v _
  | i + 21, hi => exact absurd hi (by simp)
theorem good12 {Q : List D} (hl : Q.length = 21) (hv : InV Q) : ∃ h : House, h.h0.length = 1 ∧ h.h1.length = 2 ∧ hof12 Q = h.d := by
  obtain ⟨q0, q1, q2, q3, q4, q5, q6, q7, q8, q9, q10, q11, q12, q13, q14, q15, q16, q17, q18, q19, q20, rfl⟩ := split12 hl
  obtain ⟨z0, e0⟩ := la_i (hv 0 (by simp))
  obtain ⟨z1, e1⟩ := tr_i (hv 1 (by simp))
  obtain ⟨z2, e2⟩ := tr_i (hv 2 (by simp))
  obtain ⟨z3, e3⟩ := tr_i (hv 3 (by simp))
  obtain ⟨z4, e4⟩ := ou_i (hv 4 (by simp))
  obtain ⟨z5, e5⟩ := ou_i (hv 5 (by simp))
  obtain ⟨z6, e6⟩ := tr_i (hv 6 (by simp))
  obtain ⟨z7, e7⟩ := bo_i (hv 7 (by simp))
  obtain ⟨z8, e8⟩ := go_i (hv 8 (by simp))
  obtain ⟨z9, e9⟩ := un_i (hv 9 (by simp))
  obtain ⟨z10, e10⟩ := fo_i (hv 10 (by simp))
  obtain ⟨z11, e11⟩ := tr_i (hv 11 (by simp))
  obtain ⟨z12, e12⟩ := bo_i (hv 12 (by simp))
  obtain ⟨z13, e13⟩ := go_i (hv 13 (by simp))
  obtain ⟨z14, e14⟩ := un_i (hv 14 (by simp))
  obtain ⟨z15, e15⟩ := fo_i (hv 15 (by simp))
  obtain ⟨z16, e16⟩ := tr_i (hv 16 (by simp))
  obtain ⟨z17, e17⟩ := bo_i (hv 17 (by simp))
  obtain ⟨z18, e18⟩ := go_i (hv 18 (by simp))
  obtain ⟨z19, e19⟩ := un_i (hv 19 (by simp))
  obtain ⟨z20, e20⟩ := fo_i (hv 20 (by simp))
  obtain rfl : q0 = _ := e0
  obtain rfl : q1 = _ := e1
  obtain rfl : q2 = _ := e2
  obtain rfl : q3 = _ := e3
  obtain rfl : q4 = _ := e4
  obtain rfl : q5 = _ := e5
  obtain rfl : q6 = _ := e6
  obtain rfl : q7 = _ := e7
  obtain rfl : q8 = _ := e8
  obtain rfl : q9 = _ := e9
  obtain rfl : q10 = _ := e10
  obtain rfl : q11 = _ := e11
  obtain rfl : q12 = _ := e12
  obtain rfl : q13 = _ := e13
  obtain rfl : q14 = _ := e14
  obtain rfl : q15 = _ := e15
  obtain rfl : q16 = _ := e16
  obtain rfl : q17 = _ := e17
  obtain rfl : q18 = _ := e18
  obtain rfl : q19 = _ := e19
  obtain rfl : q20 = _ := e20
  exact ⟨⟨z0, z1, z2, z3, z4, z5, [⟨z6, z7, z8, z9, z10⟩], [⟨z11, z12, z13, z14, z15⟩, ⟨z16, z17, z18, z19, z20⟩]⟩, rfl, rfl, rfl⟩
theorem fl21 (c : Nat → List D) : (List.range 21).flatMap c = (c 0 ++ (c 1 ++ (c 2 ++ (c 3 ++ (c 4 ++ (c 5 ++ (c 6 ++ (c 7 ++ (c 8 ++ (c 9 ++ (c 10 ++ (c 11 ++ (c 12 ++ (c 13 ++ (c 14 ++ (c 15 ++ (c 16 ++ (c 17 ++ (c 18 ++ (c 19 ++ (c 20 ++ []))))))))))))))))))))) := by kernel_rfl
theorem perm12 (lamp : La) (linked i0 i1 : Bool) (o0 o1 : Ou) (x0 y0 y1 : Hab) : ((L1p ([.str lamp.s, .bool linked, .bool i0, .bool i1, .str o0.s, .str o1.s, .bool x0.look, .str x0.b.s, .str x0.g.s, .str x0.u.s, .str x0.f.s, .bool y0.look, .str y0.b.s, .str y0.g.s, .str y0.u.s, .str y0.f.s, .bool y1.look, .str y1.b.s, .str y1.g.s, .str y1.u.s, .str y1.f.s] : List D) (List.range 21)).map (gOf hof12)).Perm (L2 (⟨lamp, linked, i0, i1, o0, o1, [x0], [y0, y1]⟩ : House)) := by
  rw [L1_flat]
  have p0 : (cz ([.str lamp.s, .bool linked, .bool i0, .bool i1, .str o0.s, .str o1.s, .bool x0.look, .str x0.b.s, .str x0.g.s, .str x0.u.s, .str x0.f.s, .bool y0.look, .str y0.b.s, .str y0.g.s, .str y0.u.s, .str y0.f.s, .bool y1.look, .str y1.b.s, .str y1.g.s, .str y1.u.s, .str y1.f.s] : List D) hof12 0).Perm ((alt lampT (.str lamp.s)).map (lmF (⟨lamp, linked, i0, i1, o0, o1, [x0], [y0, y1]⟩ : House))) := by
    exact (pm lampP (.str lamp.s) _).trans (.of_eq (congrArg (List.map · (alt lampT (.str lamp.s))) (by funext w; kernel_rfl)))
  have p1 : (cz ([.str lamp.s, .bool linked, .bool i0, .bool i1, .str o0.s, .str o1.s, .bool x0.look, .str x0.b.s, .str x0.g.s, .str x0.u.s, .str x0.f.s, .bool y0.look, .str y0.b.s, .str y0.g.s, .str y0.u.s, .str y0.f.s, .bool y1.look, .str y1.b.s, .str y1.g.s, .str y1.u.s, .str y1.f.s] : List D) hof12 1).Perm ([liF (⟨lamp, linked, i0, i1, o0, o1, [x0], [y0, y1]⟩ : House)]) := by
    exact .of_eq (by cases linked <;> kernel_rfl)
  have p2 : (cz ([.str lamp.s, .bool linked, .bool i0, .bool i1, .str o0.s, .str o1.s, .bool x0.look, .str x0.b.s, .str x0.g.s, .str x0.u.s, .str x0.f.s, .bool y0.look, .str y0.b.s, .str y0.g.s, .str y0.u.s, .str y0.f.s, .bool y1.look, .str y1.b.s, .str y1.g.s, .str y1.u.s, .str y1.f.s] : List D) hof12 2).Perm ([inF (⟨lamp, linked, i0, i1, o0, o1, [x0], [y0, y1]⟩ : House) false]) := by
    exact .of_eq (by cases i0 <;> kernel_rfl)
  have p3 : (cz ([.str lamp.s, .bool linked, .bool i0, .bool i1, .str o0.s, .str o1.s, .bool x0.look, .str x0.b.s, .str x0.g.s, .str x0.u.s, .str x0.f.s, .bool y0.look, .str y0.b.s, .str y0.g.s, .str y0.u.s, .str y0.f.s, .bool y1.look, .str y1.b.s, .str y1.g.s, .str y1.u.s, .str y1.f.s] : List D) hof12 3).Perm ([inF (⟨lamp, linked, i0, i1, o0, o1, [x0], [y0, y1]⟩ : House) true]) := by
    exact .of_eq (by cases i1 <;> kernel_rfl)
  have p4 : (cz ([.str lamp.s, .bool linked, .bool i0, .bool i1, .str o0.s, .str o1.s, .bool x0.look, .str x0.b.s, .str x0.g.s, .str x0.u.s, .str x0.f.s, .bool y0.look, .str y0.b.s, .str y0.g.s, .str y0.u.s, .str y0.f.s, .bool y1.look, .str y1.b.s, .str y1.g.s, .str y1.u.s, .str y1.f.s] : List D) hof12 4).Perm ((alt outT (.str o0.s)).map (ouF (⟨lamp, linked, i0, i1, o0, o1, [x0], [y0, y1]⟩ : House) false)) := by
    exact (pm outP (.str o0.s) _).trans (.of_eq (congrArg (List.map · (alt outT (.str o0.s))) (by funext w; kernel_rfl)))
  have p5 : (cz ([.str lamp.s, .bool linked, .bool i0, .bool i1, .str o0.s, .str o1.s, .bool x0.look, .str x0.b.s, .str x0.g.s, .str x0.u.s, .str x0.f.s, .bool y0.look, .str y0.b.s, .str y0.g.s, .str y0.u.s, .str y0.f.s, .bool y1.look, .str y1.b.s, .str y1.g.s, .str y1.u.s, .str y1.f.s] : List D) hof12 5).Perm ((alt outT (.str o1.s)).map (ouF (⟨lamp, linked, i0, i1, o0, o1, [x0], [y0, y1]⟩ : House) true)) := by
    exact (pm outP (.str o1.s) _).trans (.of_eq (congrArg (List.map · (alt outT (.str o1.s))) (by funext w; kernel_rfl)))
  have p6 : (cz ([.str lamp.s, .bool linked, .bool i0, .bool i1, .str o0.s, .str o1.s, .bool x0.look, .str x0.b.s, .str x0.g.s, .str x0.u.s, .str x0.f.s, .bool y0.look, .str y0.b.s, .str y0.g.s, .str y0.u.s, .str y0.f.s, .bool y1.look, .str y1.b.s, .str y1.g.s, .str y1.u.s, .str y1.f.s] : List D) hof12 6).Perm (atF (⟨lamp, linked, i0, i1, o0, o1, [x0], [y0, y1]⟩ : House) false 0 x0 0) := by
    exact (pm (tabP 0) (.bool x0.look) _).trans (.of_eq (congrArg (List.map · (alt (tabV 0) (.bool x0.look))) (by funext w; kernel_rfl)))
  have p7 : (cz ([.str lamp.s, .bool linked, .bool i0, .bool i1, .str o0.s, .str o1.s, .bool x0.look, .str x0.b.s, .str x0.g.s, .str x0.u.s, .str x0.f.s, .bool y0.look, .str y0.b.s, .str y0.g.s, .str y0.u.s, .str y0.f.s, .bool y1.look, .str y1.b.s, .str y1.g.s, .str y1.u.s, .str y1.f.s] : List D) hof12 7).Perm (atF (⟨lamp, linked, i0, i1, o0, o1, [x0], [y0, y1]⟩ : House) false 0 x0 1) := by
    exact (pm (tabP 1) (.str x0.b.s) _).trans (.of_eq (congrArg (List.map · (alt (tabV 1) (.str x0.b.s))) (by funext w; kernel_rfl)))
  have p8 : (cz ([.str lamp.s, .bool linked, .bool i0, .bool i1, .str o0.s, .str o1.s, .bool x0.look, .str x0.b.s, .str x0.g.s, .str x0.u.s, .str x0.f.s, .bool y0.look, .str y0.b.s, .str y0.g.s, .str y0.u.s, .str y0.f.s, .bool y1.look, .str y1.b.s, .str y1.g.s, .str y1.u.s, .str y1.f.s] : List D) hof12 8).Perm (atF (⟨lamp, linked, i0, i1, o0, o1, [x0], [y0, y1]⟩ : House) false 0 x0 2) := by
    exact (pm (tabP 2) (.str x0.g.s) _).trans (.of_eq (congrArg (List.map · (alt (tabV 2) (.str x0.g.s))) (by funext w; kernel_rfl)))
  have p9 : (cz ([.str lamp.s, .bool linked, .bool i0, .bool i1, .str o0.s, .str o1.s, .bool x0.look, .str x0.b.s, .str x0.g.s, .str x0.u.s, .str x0.f.s, .bool y0.look, .str y0.b.s, .str y0.g.s, .str y0.u.s, .str y0.f.s, .bool y1.look, .str y1.b.s, .str y1.g.s, .str y1.u.s, .str y1.f.s] : List D) hof12 9).Perm (atF (⟨lamp, linked, i0, i1, o0, o1, [x0], [y0, y1]⟩ : House) false 0 x0 3) := by
    exact (pm (tabP 3) (.str x0.u.s) _).trans (.of_eq (congrArg (List.map · (alt (tabV 3) (.str x0.u.s))) (by funext w; kernel_rfl)))
  have p10 : (cz ([.str lamp.s, .bool linked, .bool i0, .bool i1, .str o0.s, .str o1.s, .bool x0.look, .str x0.b.s, .str x0.g.s, .str x0.u.s, .str x0.f.s, .bool y0.look, .str y0.b.s, .str y0.g.s, .str y0.u.s, .str y0.f.s, .bool y1.look, .str y1.b.s, .str y1.g.s, .str y1.u.s, .str y1.f.s] : List D) hof12 10).Perm (atF (⟨lamp, linked, i0, i1, o0, o1, [x0], [y0, y1]⟩ : House) false 0 x0 4) := by
    exact (pm (tabP 4) (.str x0.f.s) _).trans (.of_eq (congrArg (List.map · (alt (tabV 4) (.str x0.f.s))) (by funext w; kernel_rfl)))
  have p11 : (cz ([.str lamp.s, .bool linked, .bool i0, .bool i1, .str o0.s, .str o1.s, .bool x0.look, .str x0.b.s, .str x0.g.s, .str x0.u.s, .str x0.f.s, .bool y0.look, .str y0.b.s, .str y0.g.s, .str y0.u.s, .str y0.f.s, .bool y1.look, .str y1.b.s, .str y1.g.s, .str y1.u.s, .str y1.f.s] : List D) hof12 11).Perm (atF (⟨lamp, linked, i0, i1, o0, o1, [x0], [y0, y1]⟩ : House) true 0 y0 0) := by
    exact (pm (tabP 0) (.bool y0.look) _).trans (.of_eq (congrArg (List.map · (alt (tabV 0) (.bool y0.look))) (by funext w; kernel_rfl)))
  have p12 : (cz ([.str lamp.s, .bool linked, .bool i0, .bool i1, .str o0.s, .str o1.s, .bool x0.look, .str x0.b.s, .str x0.g.s, .str x0.u.s, .str x0.f.s, .bool y0.look, .str y0.b.s, .str y0.g.s, .str y0.u.s, .str y0.f.s, .bool y1.look, .str y1.b.s, .str y1.g.s, .str y1.u.s, .str y1.f.s] : List D) hof12 12).Perm (atF (⟨lamp, linked, i0, i1, o0, o1, [x0], [y0, y1]⟩ : House) true 0 y0 1) := by
    exact (pm (tabP 1) (.str y0.b.s) _).trans (.of_eq (congrArg (List.map · (alt (tabV 1) (.str y0.b.s))) (by funext w; kernel_rfl)))
  have p13 : (cz ([.str lamp.s, .bool linked, .bool i0, .bool i1, .str o0.s, .str o1.s, .bool x0.look, .str x0.b.s, .str x0.g.s, .str x0.u.s, .str x0.f.s, .bool y0.look, .str y0.b.s, .str y0.g.s, .str y0.u.s, .str y0.f.s, .bool y1.look, .str y1.b.s, .str y1.g.s, .str y1.u.s, .str y1.f.s] : List D) hof12 13).Perm (atF (⟨lamp, linked, i0, i1, o0, o1, [x0], [y0, y1]⟩ : House) true 0 y0 2) := by
    exact (pm (tabP 2) (.str y0.g.s) _).trans (.of_eq (congrArg (List.map · (alt (tabV 2) (.str y0.g.s))) (by funext w; kernel_rfl)))
  have p14 : (cz ([.str lamp.s, .bool linked, .bool i0, .bool i1, .str o0.s, .str o1.s, .bool x0.look, .str x0.b.s, .str x0.g.s, .str x0.u.s, .str x0.f.s, .bool y0.look, .str y0.b.s, .str y0.g.s, .str y0.u.s, .str y0.f.s, .bool y1.look, .str y1.b.s, .str y1.g.s, .str y1.u.s, .str y1.f.s] : List D) hof12 14).Perm (atF (⟨lamp, linked, i0, i1, o0, o1, [x0], [y0, y1]⟩ : House) true 0 y0 3) := by
    exact (pm (tabP 3) (.str y0.u.s) _).trans (.of_eq (congrArg (List.map · (alt (tabV 3) (.str y0.u.s))) (by funext w; kernel_rfl)))
  have p15 : (cz ([.str lamp.s, .bool linked, .bool i0, .bool i1, .str o0.s, .str o1.s, .bool x0.look, .str x0.b.s, .str x0.g.s, .str x0.u.s, .str x0.f.s, .bool y0.look, .str y0.b.s, .str y0.g.s, .str y0.u.s, .str y0.f.s, .bool y1.look, .str y1.b.s, .str y1.g.s, .str y1.u.s, .str y1.f.s] : List D) hof12 15).Perm (atF (⟨lamp, linked, i0, i1, o0, o1, [x0], [y0, y1]⟩ : House) true 0 y0 4) := by
    exact (pm (tabP 4) (.str y0.f.s) _).trans (.of_eq (congrArg (List.map · (alt (tabV 4) (.str y0.f.s))) (by funext w; kernel_rfl)))
  have p16 : (cz ([.str lamp.s, .bool linked, .bool i0, .bool i1, .str o0.s, .str o1.s, .bool x0.look, .str x0.b.s, .str x0.g.s, .str x0.u.s, .str x0.f.s, .bool y0.look, .str y0.b.s, .str y0.g.s, .str y0.u.s, .str y0.f.s, .bool y1.look, .str y1.b.s, .str y1.g.s, .str y1.u.s, .str y1.f.s] : List D) hof12 16).Perm (atF (⟨lamp, linked, i0, i1, o0, o1, [x0], [y0, y1]⟩ : House) true 1 y1 0) := by
    exact (pm (tabP 0) (.bool y1.look) _).trans (.of_eq (congrArg (List.map · (alt (tabV 0) (.bool y1.look))) (by funext w; kernel_rfl)))
  have p17 : (cz ([.str lamp.s, .bool linked, .bool i0, .bool i1, .str o0.s, .str o1.s, .bool x0.look, .str x0.b.s, .str x0.g.s, .str x0.u.s, .str x0.f.s, .bool y0.look, .str y0.b.s, .str y0.g.s, .str y0.u.s, .str y0.f.s, .bool y1.look, .str y1.b.s, .str y1.g.s, .str y1.u.s, .str y1.f.s] : List D) hof12 17).Perm (atF (⟨lamp, linked, i0, i1, o0, o1, [x0], [y0, y1]⟩ : House) true 1 y1 1) := by
    exact (pm (tabP 1) (.str y1.b.s) _).trans (.of_eq (congrArg (List.map · (alt (tabV 1) (.str y1.b.s))) (by funext w; kernel_rfl)))
  have p18 : (cz ([.str lamp.s, .bool linked, .bool i0, .bool i1, .str o0.s, .str o1.s, .bool x0.look, .str x0.b.s, .str x0.g.s, .str x0.u.s, .str x0.f.s, .bool y0.look, .str y0.b.s, .str y0.g.s, .str y0.u.s, .str y0.f.s, .bool y1.look, .str y1.b.s, .str y1.g.s, .str y1.u.s, .str y1.f.s] : List D) hof12 18).Perm (atF (⟨lamp, linked, i0, i1, o0, o1, [x0], [y0, y1]⟩ : House) true 1 y1 2) := by
    exact (pm (tabP 2) (.str y1.g.s) _).trans (.of_eq (congrArg (List.map · (alt (tabV 2) (.str y1.g.s))) (by funext w; kernel_rfl)))
  have p19 : (cz ([.str lamp.s, .bool linked, .bool i0, .bool i1, .str o0.s, .str o1.s, .bool x0.look, .str x0.b.s, .str x0.g.s, .str x0.u.s, .str x0.f.s, .bool y0.look, .str y0.b.s, .str y0.g.s, .str y0.u.s, .str y0.f.s, .bool y1.look, .str y1.b.s, .str y1.g.s, .str y1.u.s, .str y1.f.s] : List D) hof12 19).Perm (atF (⟨lamp, linked, i0, i1, o0, o1, [x0], [y0, y1]⟩ : House) true 1 y1 3) := by
    exact (pm (tabP 3) (.str y1.u.s) _).trans (.of_eq (congrArg (List.map · (alt (tabV 3) (.str y1.u.s))) (by funext w; kernel_rfl)))
  have p20 : (cz ([.str lamp.s, .bool linked, .bool i0, .bool i1, .str o0.s, .str o1.s, .bool x0.look, .str x0.b.s, .str x0.g.s, .str x0.u.s, .str x0.f.s, .bool y0.look, .str y0.b.s, .str y0.g.s, .str y0.u.s, .str y0.f.s, .bool y1.look, .str y1.b.s, .str y1.g.s, .str y1.u.s, .str y1.f.s] : List D) hof12 20).Perm (atF (⟨lamp, linked, i0, i1, o0, o1, [x0], [y0, y1]⟩ : House) true 1 y1 4) := by
    exact (pm (tabP 4) (.str y1.f.s) _).trans (.of_eq (congrArg (List.map · (alt (tabV 4) (.str y1.f.s))) (by funext w; kernel_rfl)))
  have q := base p0 p1 p2 p3 p4 p5 ((five p6 p7 p8 p9 p10 (five p11 p12 p13 p14 p15 (five p16 p17 p18 p19 p20 (List.Perm.refl [])))).trans (.of_eq (as1 _ _)))
  exact (List.Perm.of_eq (fl21 _)).trans (q.trans (List.Perm.of_eq (L2_eq (⟨lamp, linked, i0, i1, o0, o1, [x0], [y0, y1]⟩ : House) (Gd1 _ false x0 rfl) (Gd2 _ true y0 y1 rfl)).symm))
theorem shape12 (n : Nat) (lamp : La) (linked i0 i1 : Bool) (o0 o1 : Ou) (x0 y0 y1 : Hab) : Shp n (⟨lamp, linked, i0, i1, o0, o1, [x0], [y0, y1]⟩ : House) := by
  have iv := inv12 lamp linked i0 i1 o0 o1 x0 y0 y1
  refine shp_of (P := [.str lamp.s, .bool linked, .bool i0, .bool i1, .str o0.s, .str o1.s, .bool x0.look, .str x0.b.s, .str x0.g.s, .str x0.u.s, .str x0.f.s, .bool y0.look, .str y0.b.s, .str y0.g.s, .str y0.u.s, .str y0.f.s, .bool y1.look, .str y1.b.s, .str y1.g.s, .str y1.u.s, .str y1.f.s]) (hof := hof12) (perm12 lamp linked i0 i1 o0 o1 x0 y0 y1) (fun Q hl hv => good12 hl hv) iv rfl (by decide) ?_
  have hl : ([.str lamp.s, .bool linked, .bool i0, .bool i1, .str o0.s, .str o1.s, .bool x0.look, .str x0.b.s, .str x0.g.s, .str x0.u.s, .str x0.f.s, .bool y0.look, .str y0.b.s, .str y0.g.s, .str y0.u.s, .str y0.f.s, .bool y1.look, .str y1.b.s, .str y1.g.s, .str y1.u.s, .str y1.f.s] : List D).length = 21 := rfl
  have hd : hof12 ([.str lamp.s, .bool linked, .bool i0, .bool i1, .str o0.s, .str o1.s, .bool x0.look, .str x0.b.s, .str x0.g.s, .str x0.u.s, .str x0.f.s, .bool y0.look, .str y0.b.s, .str y0.g.s, .str y0.u.s, .str y0.f.s, .bool y1.look, .str y1.b.s, .str y1.g.s, .str y1.u.s, .str y1.f.s] : List D) = (⟨lamp, linked, i0, i1, o0, o1, [x0], [y0, y1]⟩ : House).d := by kernel_rfl
  have q := ones12 n hl (inv_at iv)
  rw [hl, hd] at q
  exact q
end DL.X
end
section
set_option Elab.async false
set_option linter.all false
set_option maxRecDepth 100000
set_option maxHeartbeats 4000000
/-! YD21 (printed by mky.py): one shape of a house. -/
namespace DL.X
open PySem DL DL.G

theorem inv21 (lamp : La) (linked i0 i1 : Bool) (o0 o1 : Ou) (x0 x1 y0 : Hab) : InV ([.str lamp.s, .bool linked, .bool i0, .bool i1, .str o0.s, .str o1.s, .bool x0.look, .str x0.b.s, .str x0.g.s, .str x0.u.s, .str x0.f.s, .bool x1.look, .str x1.b.s, .str x1.g.s, .str x1.u.s, .str x1.f.s, .bool y0.look, .str y0.b.s, .str y0.g.s, .str y0.u.s, .str y0.f.s] : List D) := by
  intro i hi
  match i, hi with
  | 0, _ => exact la_v _
  | 1, _ => exact tr_v _
  | 2, _ => exact tr_v _
  | 3, _ => exact tr_v _
  | 4, _ => exact ou_v _
  | 5, _ => exact ou_v _
  | 6, _ => show _ ∈ habVals 0; exact tr_v _
  | 7, _ => show _ ∈ habVals 1; exact bo_v _
  | 8, _ => show _ ∈ habVals 2; exact go_v _
  | 9, _ => show _ ∈ habVals 3; exact un_v _
  | 10, _ => show _ ∈ habVals 4; exact fo_v _
  | 11, _ => show _ ∈ habVals 0; exact tr_v _
  | 12, _ => show _ ∈ habVals 1; exact bo_v _
  | 13, _ => show _ ∈ habVals 2; exact go_v _
  | 14, _ => show _ ∈ habVals 3; exact un_v _
  | 15, _ => show _ ∈ habVals 4; exact fo_v _
  | 16, _ => show _ ∈ habVals 0; exact tr_v _
  | 17, _ => show _ ∈ habVals 1; exact bo_v _
  | 18, _ => show _ ∈ habVals 2; exact go_v _
  | 19, _ => show _ ∈ habVals 3; exact un_v _
  | 20, _ => show _ ∈ habVals 4; exact fo_v _
  | i + 21, hi => exact absurd hi (by simp)
theorem good21 {Q : List D} (hl : Q.length = 21) (hv : InV Q) : ∃ h : House, h.h0.length = 2 ∧ h.h1.length = 1 ∧ hof21 Q = h.d := by
  obtain ⟨q0, q1, q2, q3, q4, q5, q6, q7, q8, q9, q10, q11, q12, q13, q14, q15, q16, q17, q18, q19, q20, rfl⟩ := split21 hl
  obtain ⟨z0, e0⟩ := la_i (hv 0 (by simp))
  obtain ⟨z1, e1⟩ := tr_i (hv 1 (by simp))
  obtain ⟨z2, e2⟩ := tr_i (hv 2 (by simp))
  obtain ⟨z3, e3⟩ := tr_i (hv 3 (by simp))
  obtain ⟨z4, e4⟩ := ou_i (hv 4 (by simp))
  obtain ⟨z5, e5⟩ := ou_i (hv 5 (by simp))
  obtain ⟨z6, e6⟩ := tr_i (hv 6 (by simp))
  obtain ⟨z7, e7⟩ := bo_i (hv 7 (by simp))
  obtain ⟨z8, e8⟩ := go_i (hv 8 (by simp))
  obtain ⟨z9, e9⟩ := un_i (hv 9 (by simp))
  obtain ⟨z10, e10⟩ := fo_i (hv 10 (by simp))
  obtain ⟨z11, e11⟩ := tr_i (hv 11 (by simp))
  obtain ⟨z12, e12⟩ := bo_i (hv 12 (by simp))
  obtain ⟨z13, e13⟩ := go_i (hv 13 (by simp))
  obtain ⟨z14, e14⟩ := un_i (hv 14 (by simp))
  obtain ⟨z15, e15⟩ := fo_i (hv 15 (by simp))
  obtain ⟨z16, e16⟩ := tr_i (hv 16 (by simp))
  obtain ⟨z17, e17⟩ := bo_i (hv 17 (by simp))
  obtain ⟨z18, e18⟩ := go_i (hv 18 (by simp))
  obtain ⟨z19, e19⟩ := un_i (hv 19 (by simp))
  obtain ⟨z20, e20⟩ := fo_i (hv 20 (by simp))
  obtain rfl : q0 = _ := e0
  obtain rfl : q1 = _ := e1
  obtain rfl : q2 = _ := e2
  obtain rfl : q3 = _ := e3
  obtain rfl : q4 = _ := e4
  obtain rfl : q5 = _ := e5
  obtain rfl : q6 = _ := e6
  obtain rfl : q7 = _ := e7
  obtain rfl : q8 = _ := e8
  obtain rfl : q9 = _ := e9
  obtain rfl : q10 = _ := e10
  obtain rfl : q11 = _ := e11
  obtain rfl : q12 = _ := e12
  obtain rfl : q13 = _ := e13
  obtain rfl : q14 = _ := e14
  obtain rfl : q15 = _ := e15
  obtain rfl : q16 = _ := e16
  obtain rfl : q17 = _ := e17
  obtain rfl : q18 = _ := e18
  obtain rfl : q19 = _ := e19
  obtain rfl : q20 = _ := e20
  exact ⟨⟨z0, z1, z2, z3, z4, z5, [⟨z6, z7, z8, z9, z10⟩, ⟨z11, z12, z13, z14, z15⟩], [⟨z16, z17, z18, z19, z20⟩]⟩, rfl, rfl, rfl⟩
theorem fl21_ (c : Nat → List D) : (List.range 21).flatMap c = (c 0 ++ (c 1 ++ (c 2 ++ (c 3 ++ (c 4 ++ (c 5 ++ (c 6 ++ (c 7 ++ (c 8 ++ (c 9 ++ (c 10 ++ (c 11 ++ (c 12 ++ (c 13 ++ (c 14 ++ (c 15 ++ (c 16 ++ (c 17 ++ (c 18 ++ (c 19 ++ (c 20 ++ []))))))))))))))))))))) := by kernel_rfl
theorem perm21 (lamp : La) (linked i0 i1 : Bool) (o0 o1 : Ou) (x0 x1 y0 : Hab) : ((L1p ([.str lamp.s, .bool linked, .bool i0, .bool i1, .str o0.s, .str o1.s, .bool x0.look, .str x0.b.s, .str x0.g.s, .str x0.u.s, .str x0.f.s, .bool x1.look, .str x1.b.s, .str x1.g.s, .str x1.u.s, .str x1.f.s, .bool y0.look, .str y0.b.s, .str y0.g.s, .str y0.u.s, .str y0.f.s] : List D) (List.range 21)).map (gOf hof21)).Perm (L2 (⟨lamp, linked, i0, i1, o0, o1, [x0, x1], [y0]⟩ : House)) := by
  rw [L1_flat]
  have p0 : (cz ([.str lamp.s, .bool linked, .bool i0, .bool i1, .str o0.s, .str o1.s, .bool x0.look, .str x0.b.s, .str x0.g.s, .str x0.u.s, .str x0.f.s, .bool x1.look, .str x1.b.s, .str x1.g.s, .str x1.u.s, .str x1.f.s, .bool y0.look, .str y0.b.s, .str y0.g.s, .str y0.u.s, .str y0.f.s] : List D) hof21 0).Perm ((alt lampT (.str lamp.s)).map (lmF (⟨lamp, linked, i0, i1, o0, o1, [x0, x1], [y0]⟩ : House))) := by
    exact (pm lampP (.str lamp.s) _).trans (.of_eq (congrArg (List.map · (alt lampT (.str lamp.s))) (by funext w; kernel_rfl)))
  have p1 : (cz ([.str lamp.s, .bool linked, .bool i0, .bool i1, .str o0.s, .str o1.s, .bool x0.look, .str x0.b.s, .str x0.g.s, .str x0.u.s, .str x0.f.s, .bool x1.look, .str x1.b.s, .str x1.g.s, .str x1.u.s, .str x1.f.s, .bool y0.look, .str y0.b.s, .str y0.g.s, .str y0.u.s, .str y0.f.s] : List D) hof21 1).Perm ([liF (⟨lamp, linked, i0, i1, o0, o1, [x0, x1], [y0]⟩ : House)]) := by
    exact .of_eq (by cases linked <;> kernel_rfl)
  have p2 : (cz ([.str lamp.s, .bool linked, .bool i0, .bool i1, .str o0.s, .str o1.s, .bool x0.look, .str x0.b.s, .str x0.g.s, .str x0.u.s, .str x0.f.s, .bool x1.look, .str x1.b.s, .str x1.g.s, .str x1.u.s, .str x1.f.s, .bool y0.look, .str y0.b.s, .str y0.g.s, .str y0.u.s, .str y0.f.s] : List D) hof21 2).Perm ([inF (⟨lamp, linked, i0, i1, o0, o1, [x0, x1], [y0]⟩ : House) false]) := by
    exact .of_eq (by cases i0 <;> kernel_rfl)
  have p3 : (cz ([.str lamp.s, .bool linked, .bool i0, .bool i1, .str o0.s, .str o1.s, .bool x0.look, .str x0.b.s, .str x0.g.s, .str x0.u.s, .str x0.f.s, .bool x1.look, .str x1.b.s, .str x1.g.s, .str x1.u.s, .str x1.f.s, .bool y0.look, .str y0.b.s, .str y0.g.s, .str y0.u.s, .str y0.f.s] : List D) hof21 3).Perm ([inF (⟨lamp, linked, i0, i1, o0, o1, [x0, x1], [y0]⟩ : House) true]) := by
    exact .of_eq (by cases i1 <;> kernel_rfl)
  have p4 : (cz ([.str lamp.s, .bool linked, .bool i0, .bool i1, .str o0.s, .str o1.s, .bool x0.look, .str x0.b.s, .str x0.g.s, .str x0.u.s, .str x0.f.s, .bool x1.look, .str x1.b.s, .str x1.g.s, .str x1.u.s, .str x1.f.s, .bool y0.look, .str y0.b.s, .str y0.g.s, .str y0.u.s, .str y0.f.s] : List D) hof21 4).Perm ((alt outT (.str o0.s)).map (ouF (⟨lamp, linked, i0, i1, o0, o1, [x0, x1], [y0]⟩ : House) false)) := by
    exact (pm outP (.str o0.s) _).trans (.of_eq (congrArg (List.map · (alt outT (.str o0.s))) (by funext w; kernel_rfl)))
  have p5 : (cz ([.str lamp.s, .bool linked, .bool i0, .bool i1, .str o0.s, .str o1.s, .bool x0.look, .str x0.b.s, .str x0.g.s, .str x0.u.s, .str x0.f.s, .bool x1.look, .str x1.b.s, .str x1.g.s, .str x1.u.s, .str x1.f.s, .bool y0.look, .str y0.b.s, .str y0.g.s, .str y0.u.s, .str y0.f.s] : List D) hof21 5).Perm ((alt outT (.str o1.s)).map (ouF (⟨lamp, linked, i0, i1, o0, o1, [x0, x1], [y0]⟩ : House) true)) := by
    exact (pm outP (.str o1.s) _).trans (.of_eq (congrArg (List.map · (alt outT (.str o1.s))) (by funext w; kernel_rfl)))
  have p6 : (cz ([.str lamp.s, .bool linked, .bool i0, .bool i1, .str o0.s, .str o1.s, .bool x0.look, .str x0.b.s, .str x0.g.s, .str x0.u.s, .str x0.f.s, .bool x1.look, .str x1.b.s, .str x1.g.s, .str x1.u.s, .str x1.f.s, .bool y0.look, .str y0.b.s, .str y0.g.s, .str y0.u.s, .str y0.f.s] : List D) hof21 6).Perm (atF (⟨lamp, linked, i0, i1, o0, o1, [x0, x1], [y0]⟩ : House) false 0 x0 0) := by
    exact (pm (tabP 0) (.bool x0.look) _).trans (.of_eq (congrArg (List.map · (alt (tabV 0) (.bool x0.look))) (by funext w; kernel_rfl)))
  have p7 : (cz ([.str lamp.s, .bool linked, .bool i0, .bool i1, .str o0.s, .str o1.s, .bool x0.look, .str x0.b.s, .str x0.g.s, .str x0.u.s, .str x0.f.s, .bool x1.look, .str x1.b.s, .str x1.g.s, .str x1.u.s, .str x1.f.s, .bool y0.look, .str y0.b.s, .str y0.g.s, .str y0.u.s, .str y0.f.s] : List D) hof21 7).Perm (atF (⟨lamp, linked, i0, i1, o0, o1, [x0, x1], [y0]⟩ : House) false 0 x0 1) := by
    exact (pm (tabP 1) (.str x0.b.s) _).trans (.of_eq (congrArg (List.map · (alt (tabV 1) (.str x0.b.s))) (by funext w; kernel_rfl)))
  have p8 : (cz ([.str lamp.s, .bool linked, .bool i0, .bool i1, .str o0.s, .str o1.s, .bool x0.look, .str x0.b.s, .str x0.g.s, .str x0.u.s, .str x0.f.s, .bool x1.look, .str x1.b.s, .str x1.g.s, .str x1.u.s, .str x1.f.s, .bool y0.look, .str y0.b.s, .str y0.g.s, .str y0.u.s, .str y0.f.s] : List D) hof21 8).Perm (atF (⟨lamp, linked, i0, i1, o0, o1, [x0, x1], [y0]⟩ : House) false 0 x0 2) := by
    exact (pm (tabP 2) (.str x0.g.s) _).trans (.of_eq (congrArg (List.map · (alt (tabV 2) (.str x0.g.s))) (by funext w; kernel_rfl)))
  have p9 : (cz ([.str lamp.s, .bool linked, .bool i0, .bool i1, .str o0.s, .str o1.s, .bool x0.look, .str x0.b.s, .str x0.g.s, .str x0.u.s, .str x0.f.s, .bool x1.look, .str x1.b.s, .str x1.g.s, .str x1.u.s, .str x1.f.s, .bool y0.look, .str y0.b.s, .str y0.g.s, .str y0.u.s, .str y0.f.s] : List D) hof21 9).Perm (atF (⟨lamp, linked, i0, i1, o0, o1, [x0, x1], [y0]⟩ : House) false 0 x0 3) := by
    exact (pm (tabP 3) (.str x0.u.s) _).trans (.of_eq (congrArg (List.map · (alt (tabV 3) (.str x0.u.s))) (by funext w; kernel_rfl)))
  have p10 : (cz ([.str lamp.s, .bool linked, .bool i0, .bool i1, .str o0.s, .str o1.s, .bool x0.look, .str x0.b.s, .str x0.g.s, .str x0.u.s, .str x0.f.s, .bool x1.look, .str x1.b.s, .str x1.g.s, .str x1.u.s, .str x1.f.s, .bool y0.look, .str y0.b.s, .str y0.g.s, .str y0.u.s, .str y0.f.s] : List D) hof21 10).Perm (atF (⟨lamp, linked, i0, i1, o0, o1, [x0, x1], [y0]⟩ : House) false 0 x0 4) := by
    exact (pm (tabP 4) (.str x0.f.s) _).trans (.of_eq (congrArg (List.map · (alt (tabV 4) (.str x0.f.s))) (by funext w; kernel_rfl)))
  have p11 : (cz ([.str lamp.s, .bool linked, .bool i0, .bool i1, .str o0.s, .str o1.s, .bool x0.look, .str x0.b.s, .str x0.g.s, .str x0.u.s, .str x0.f.s, .bool x1.look, .str x1.b.s, .str x1.g.s, .str x1.u.s, .str x1.f.s, .bool y0.look, .str y0.b.s, .str y0.g.s, .str y0.u.s, .str y0.f.s] : List D) hof21 11).Perm (atF (⟨lamp, linked, i0, i1, o0, o1, [x0, x1], [y0]⟩ : House) false 1 x1 0) := by
    exact (pm (tabP 0) (.bool x1.look) _).trans (.of_eq (congrArg (List.map · (alt (tabV 0) (.bool x1.look))) (by funext w; kernel_rfl)))
  have p12 : (cz ([.str lamp.s, .bool linked, .bool i0, .bool i1, .str o0.s, .str o1.s, .bool x0.look, .str x0.b.s, .str x0.g.s, .str x0.u.s, .str x0.f.s, .bool x1.look, .str x1.b.s, .str x1.g.s, .str x1.u.s, .str x1.f.s, .bool y0.look, .str y0.b.s, .str y0.g.s, .str y0.u.s, .str y0.f.s] : List D) hof21 12).Perm (atF (⟨lamp, linked, i0, i1, o0, o1, [x0, x1], [y0]⟩ : House) false 1 x1 1) := by
    exact (pm (tabP 1) (.str x1.b.s) _).trans (.of_eq (congrArg (List.map · (alt (tabV 1) (.str x1.b.s))) (by funext w; kernel_rfl)))
  have p13 : (cz ([.str lamp.s, .bool linked, .bool i0, .bool i1, .str o0.s, .str o1.s, .bool x0.look, .str x0.b.s, .str x0.g.s, .str x0.u.s, .str x0.f.s, .bool x1.look, .str x1.b.s, .str x1.g.s, .str x1.u.s, .str x1.f.s, .bool y0.look, .str y0.b.s, .str y0.g.s, .str y0.u.s, .str y0.f.s] : List D) hof21 13).Perm (atF (⟨lamp, linked, i0, i1, o0, o1, [x0, x1], [y0]⟩ : House) false 1 x1 2) := by
    exact (pm (tabP 2) (.str x1.g.s) _).trans (.of_eq (congrArg (List.map · (alt (tabV 2) (.str x1.g.s))) (by funext w; kernel_rfl)))
  have p14 : (cz ([.str lamp.s, .bool linked, .bool i0, .bool i1, .str o0.s, .str o1.s, .bool x0.look, .str x0.b.s, .str x0.g.s, .str x0.u.s, .str x0.f.s, .bool x1.look, .str x1.b.s, .str x1.g.s, .str x1.u.s, .str x1.f.s, .bool y0.look, .str y0.b.s, .str y0.g.s, .str y0.u.s, .str y0.f.s] : List D) hof21 14).Perm (atF (⟨lamp, linked, i0, i1, o0, o1, [x0, x1], [y0]⟩ : House) false 1 x1 3) := by
    exact (pm (tabP 3) (.str x1.u.s) _).trans (.of_eq (congrArg (List.map · (alt (tabV 3) (.str x1.u.s))) (by funext w; kernel_rfl)))
  have p15 : (cz ([.str lamp.s, .bool linked, .bool i0, .bool i1, .str o0.s, .str o1.s, .bool x0.look, .str x0.b.s, .str x0.g.s, .str x0.u.s, .str x0.f.s, .bool x1.look, .str x1.b.s, .str x1.g.s, .str x1.u.s, .str x1.f.s, .bool y0.look, .str y0.b.s, .str y0.g.s, .str y0.u.s, .str y0.f.s] : List D) hof21 15).Perm (atF (⟨lamp, linked, i0, i1, o0, o1, [x0, x1], [y0]⟩ : House) false 1 x1 4) := by
    exact (pm (tabP 4) (.str x1.f.s) _).trans (.of_eq (congrArg (List.map · (alt (tabV 4) (.str x1.f.s))) (by funext w; kernel_rfl)))
  have p16 : (cz ([.str lamp.s, .bool linked, .bool i0, .bool i1, .str o0.s, .str o1.s, .bool x0.look, .str x0.b.s, .str x0.g.s, .str x0.u.s, .str x0.f.s, .bool x1.look, .str x1.b.s, .str x1.g.s, .str x1.u.s, .str x1.f.s, .bool y0.look, .str y0.b.s, .str y0.g.s, .str y0.u.s, .str y0.f.s] : List D) hof21 16).Perm (atF (⟨lamp, linked, i0, i1, o0, o1, [x0, x1], [y0]⟩ : House) true 0 y0 0) := by
    exact (pm (tabP 0) (.bool y0.look) _).trans (.of_eq (congrArg (List.map · (alt (tabV 0) (.bool y0.look))) (by funext w; kernel_rfl)))
  have p17 : (cz ([.str lamp.s, .bool linked, .bool i0, .bool i1, .str o0.s, .str o1.s, .bool x0.look, .str x0.b.s, .str x0.g.s, .str x0.u.s, .str x0.f.s, .bool x1.look, .str x1.b.s, .str x1.g.s, .str x1.u.s, .str x1.f.s, .bool y0.look, .str y0.b.s, .str y0.g.s, .str y0.u.s, .str y0.f.s] : List D) hof21 17).Perm (atF (⟨lamp, linked, i0, i1, o0, o1, [x0, x1], [y0]⟩ : House) true 0 y0 1) := by
    exact (pm (tabP 1) (.str y0.b.s) _).trans (.of_eq (congrArg (List.map · (alt (tabV 1) (.str y0.b.s))) (by funext w; kernel_rfl)))
  have p18 : (cz ([.str lamp.s, .bool linked, .bool i0, .bool i1, .str o0.s, .str o1.s, .bool x0.look, .str x0.b.s, .str x0.g.s, .str x0.u.s, .str x0.f.s, .bool x1.look, .str x1.b.s, .str x1.g.s, .str x1.u.s, .str x1.f.s, .bool y0.look, .str y0.b.s, .str y0.g.s, .str y0.u.s, .str y0.f.s] : List D) hof21 18).Perm (atF (⟨lamp, linked, i0, i1, o0, o1, [x0, x1], [y0]⟩ : House) true 0 y0 2) := by
    exact (pm (tabP 2) (.str y0.g.s) _).trans (.of_eq (congrArg (List.map · (alt (tabV 2) (.str y0.g.s))) (by funext w; kernel_rfl)))
  have p19 : (cz ([.str lamp.s, .bool linked, .bool i0, .bool i1, .str o0.s, .str o1.s, .bool x0.look, .str x0.b.s, .str x0.g.s, .str x0.u.s, .str x0.f.s, .bool x1.look, .str x1.b.s, .str x1.g.s, .str x1.u.s, .str x1.f.s, .bool y0.look, .str y0.b.s, .str y0.g.s, .str y0.u.s, .str y0.f.s] : List D) hof21 19).Perm (atF (⟨lamp, linked, i0, i1, o0, o1, [x0, x1], [y0]⟩ : House) true 0 y0 3) := by
    exact (pm (tabP 3) (.str y0.u.s) _).trans (.of_eq (congrArg (List.map · (alt (tabV 3) (.str y0.u.s))) (by funext w; kernel_rfl)))
  have p20 : (cz ([.str lamp.s, .bool linked, .bool i0, .bool i1, .str o0.s, .str o1.s, .bool x0.look, .str x0.b.s, .str x0.g.s, .str x0.u.s, .str x0.f.s, .bool x1.look, .str x1.b.s, .str x1.g.s, .str x1.u.s, .str x1.f.s, .bool y0.look, .str y0.b.s, .str y0.g.s, .str y0.u.s, .str y0.f.s] : List D) hof21 20).Perm (atF (⟨lamp, linked, i0, i1, o0, o1, [x0, x1], [y0]⟩ : House) true 0 y0 4) := by
    exact (pm (tabP 4) (.str y0.f.s) _).trans (.of_eq (congrArg (List.map · (alt (tabV 4) (.str y0.f.s))) (by funext w; kernel_rfl)))
  have q := base p0 p1 p2 p3 p4 p5 ((five p6 p7 p8 p9 p10 (five p11 p12 p13 p14 p15 (five p16 p17 p18 p19 p20 (List.Perm.refl [])))).trans (.of_eq (as2 _ _ _)))
  exact (List.Perm.of_eq (fl21_ _)).trans (q.trans (List.Perm.of_eq (L2_eq (⟨lamp, linked, i0, i1, o0, o1, [x0, x1], [y0]⟩ : House) (Gd2 _ false x0 x1 rfl) (Gd1 _ true y0 rfl)).symm))
theorem shape21 (n : Nat) (lamp : La) (linked i0 i1 : Bool) (o0 o1 : Ou) (x0 x1 y0 : Hab) : Shp n (⟨lamp, linked, i0, i1, o0, o1, [x0, x1], [y0]⟩ : House) := by
  have iv := inv21 lamp linked i0 i1 o0 o1 x0 x1 y0
  refine shp_of (P := [.str lamp.s, .bool linked, .bool i0, .bool i1, .str o0.s, .str o1.s, .bool x0.look, .str x0.b.s, .str x0.g.s, .str x0.u.s, .str x0.f.s, .bool x1.look, .str x1.b.s, .str x1.g.s, .str x1.u.s, .str x1.f.s, .bool y0.look, .str y0.b.s, .str y0.g.s, .str y0.u.s, .str y0.f.s]) (hof := hof21) (perm21 lamp linked i0 i1 o0 o1 x0 x1 y0) (fun Q hl hv => good21 hl hv) iv rfl (by decide) ?_
  have hl : ([.str lamp.s, .bool linked, .bool i0, .bool i1, .str o0.s, .str o1.s, .bool x0.look, .str x0.b.s, .str x0.g.s, .str x0.u.s, .str x0.f.s, .bool x1.look, .str x1.b.s, .str x1.g.s, .str x1.u.s, .str x1.f.s, .bool y0.look, .str y0.b.s, .str y0.g.s, .str y0.u.s, .str y0.f.s] : List D).length = 21 := rfl
  have hd : hof21 ([.str lamp.s, .bool linked, .bool i0, .bool i1, .str o0.s, .str o1.s, .bool x0.look, .str x0.b.s, .str x0.g.s, .str x0.u.s, .str x0.f.s, .bool x1.look, .str x1.b.s, .str x1.g.s, .str x1.u.s, .str x1.f.s, .bool y0.look, .str y0.b.s, .str y0.g.s, .str y0.u.s, .str y0.f.s] : List D) = (⟨lamp, linked, i0, i1, o0, o1, [x0, x1], [y0]⟩ : House).d := by kernel_rfl
  have q := ones21 n hl (inv_at iv)
  rw [hl, hd] at q
  exact q
end DL.X
end
section
set_option Elab.async false
set_option linter.all false
set_option maxRecDepth 100000
set_option maxHeartbeats 4000000
/-! YD22 (printed by mky.py): one shape of a house. -/
namespace DL.X
open PySem DL DL.G

theorem inv22 (lamp : La) (linked i0 i1 : Bool) (o0 o1 : Ou) (x0 x1 y0 y1 : Hab) : InV ([.str lamp.s, .bool linked, .bool i0, .bool i1, .str o0.s, .str o1.s, .bool x0.look, .str x0.b.s, .str x0.g.s, .str x0.u.s, .str x0.f.s, .bool x1.look, .str x1.b.s, .str x1.g.s, .str x1.u.s, .str x1.f.s, .bool y0.look, .str y0.b.s, .str y0.g.s, .str y0.u.s, .str y0.f.s, .bool y1.look, .str y1.b.s, .str y1.g.s, .str y1.u.s, .str y1.f.s] : List D) := by
  intro i hi
  match i, hi with
  | 0, _ => exact la_v _
  | 1, _ => exact tr_v _
  | 2, _ => exact tr_v _
  | 3, _ => exact tr_v _
  | 4, _ => exact ou_v _
  | 5, _ => exact ou_v _
  | 6, _ => show _ ∈ habVals 0; exact tr_v _
  | 7, _ => show _ ∈ habVals 1; exact bo_v _
  | 8, _ => show _ ∈ habVals 2; exact go_v _
  | 9, _ => show _ ∈ habVals 3; exact un_v _
  | 10, _ => show _ ∈ habVals 4; exact fo_v _
  | 11, _ => show _ ∈ habVals 0; exact tr_v _
  | 12, _ => show _ ∈ habVals 1; exact bo_v _
  | 13, _ => show _ ∈ habVals 2; exact go_v _
  | 14, _ => show _ ∈ habVals 3; exact un_v _
  | 15, _ => show _ ∈ habVals 4; exact fo_v _
  | 16, _ => show _ ∈ habVals 0; exact tr_v _
  | 17, _ => show _ ∈ habVals 1; exact bo_v _
  | 18, _ => show _ ∈ habVals 2; exact go_v _
  | 19, _ => show _ ∈ habVals 3; exact un_v _
  | 20, _ => show _ ∈ habVals 4; exact fo_v _
  | 21, _ => show _ ∈ habVals 0; exact tr_v _
  | 22, _ => show _ ∈ habVals 1; exact bo_v _
  | 23, _ => show _ ∈ habVals 2; exact go_v _
  | 24, _ => show _ ∈ habVals 3; exact un_v _
  | 25, _ => show _ ∈ habVals 4; exact fo_v _
  | i + 26, hi => exact absurd hi (by simp)
theorem good22 {Q : List D} (hl : Q.length = 26) (hv : InV Q) : ∃ h : House, h.h0.length = 2 ∧ h.h1.length = 2 ∧ hof22 Q = h.d := by
  obtain ⟨q0, q1, q2, q3, q4, q5, q6, q7, q8, q9, q10, q11, q12, q13, q14, q15, q16, q17, q18, q19, q20, q21, q22, q23, q24, q25, rfl⟩ := split22 hl
  obtain ⟨z0, e0⟩ := la_i (hv 0 (by simp))
  obtain ⟨z1, e1⟩ := tr_i (hv 1 (by simp))
  obtain ⟨z2, e2⟩ := tr_i (hv 2 (by simp))
  obtain ⟨z3, e3⟩ := tr_i (hv 3 (by simp))
  obtain ⟨z4, e4⟩ := ou_i (hv 4 (by simp))
  obtain ⟨z5, e5⟩ := ou_i (hv 5 (by simp))
  obtain ⟨z6, e6⟩ := tr_i (hv 6 (by simp))
  obtain ⟨z7, e7⟩ := bo_i (hv 7 (by simp))
  obtain ⟨z8, e8⟩ := go_i (hv 8 (by simp))
  obtain ⟨z9, e9⟩ := un_i (hv 9 (by simp))
  obtain ⟨z10, e10⟩ := fo_i (hv 10 (by simp))
  obtain ⟨z11, e11⟩ := tr_i (hv 11 (by simp))
  obtain ⟨z12, e12⟩ := bo_i (hv 12 (by simp))
  obtain ⟨z13, e13⟩ := go_i (hv 13 (by simp))
  obtain ⟨z14, e14⟩ := un_i (hv 14 (by simp))
  obtain ⟨z15, e15⟩ := fo_i (hv 15 (by simp))
  obtain ⟨z16, e16⟩ := tr_i (hv 16 (by simp))
  obtain ⟨z17, e17⟩ := bo_i (hv 17 (by simp))
  obtain ⟨z18, e18⟩ := go_i (hv 18 (by simp))
  obtain ⟨z19, e19⟩ := un_i (hv 19 (by simp))
  obtain ⟨z20, e20⟩ := fo_i (hv 20 (by simp))
  obtain ⟨z21, e21⟩ := tr_i (hv 21 (by simp))
  obtain ⟨z22, e22⟩ := bo_i (hv 22 (by simp))
  obtain ⟨z23, e23⟩ := go_i (hv 23 (by simp))
  obtain ⟨z24, e24⟩ := un_i (hv 24 (by simp))
  obtain ⟨z25, e25⟩ := fo_i (hv 25 (by simp))
  obtain rfl : q0 = _ := e0
  obtain rfl : q1 = _ := e1
  obtain rfl : q2 = _ := e2
  obtain rfl : q3 = _ := e3
  obtain rfl : q4 = _ := e4
  obtain rfl : q5 = _ := e5
  obtain rfl : q6 = _ := e6
  obtain rfl : q7 = _ := e7
  obtain rfl : q8 = _ := e8
  obtain rfl : q9 = _ := e9
  obtain rfl : q10 = _ := e10
  obtain rfl : q11 = _ := e11
  obtain rfl : q12 = _ := e12
  obtain rfl : q13 = _ := e13
  obtain rfl : q14 = _ := e14
  obtain rfl : q15 = _ := e15
  obtain rfl : q16 = _ := e16
  obtain rfl : q17 = _ := e17
  obtain rfl : q18 = _ := e18
  obtain rfl : q19 = _ := e19
  obtain rfl : q20 = _ := e20
  obtain rfl : q21 = _ := e21
  obtain rfl : q22 = _ := e22
  obtain rfl : q23 = _ := e23
  obtain rfl : q24 = _ := e24
  obtain rfl : q25 = _ := e25
  exact ⟨⟨z0, z1, z2, z3, z4, z5, [⟨z6, z7, z8, z9, z10⟩, ⟨z11, z12, z13, z14, z15⟩], [⟨z16, z17, z18, z19, z20⟩, ⟨z21, z22, z23, z24, z25⟩]⟩, rfl, rfl, rfl⟩
theorem fl26 (c : Nat → List D) : (List.range 26).flatMap c = (c 0 ++ (c 1 ++ (c 2 ++ (c 3 ++ (c 4 ++ (c 5 ++ (c 6 ++ (c 7 ++ (c 8 ++ (c 9 ++ (c 10 ++ (c 11 ++ (c 12 ++ (c 13 ++ (c 14 ++ (c 15 ++ (c 16 ++ (c 17 ++ (c 18 ++ (c 19 ++ (c 20 ++ (c 21 ++ (c 22 ++ (c 23 ++ (c 24 ++ (c 25 ++ [])))))))))))))))))))))))))) := by kernel_rfl
theorem perm22 (lamp : La) (linked i0 i1 : Bool) (o0 o1 : Ou) (x0 x1 y0 y1 : Hab) : ((L1p ([.str lamp.s, .bool linked, .bool i0, .bool i1, .str o0.s, .str o1.s, .bool x0.look, .str x0.b.s, .str x0.g.s, .str x0.u.s, .str x0.f.s, .bool x1.look, .str x1.b.s, .str x1.g.s, .str x1.u.s, .str x1.f.s, .bool y0.look, .str y0.b.s, .str y0.g.s, .str y0.u.s, .str y0.f.s, .bool y1.look, .str y1.b.s, .str y1.g.s, .str y1.u.s, .str y1.f.s] : List D) (List.range 26)).map (gOf hof22)).Perm (L2 (⟨lamp, linked, i0, i1, o0, o1, [x0, x1], [y0, y1]⟩ : House)) := by
  rw [L1_flat]
  have p0 : (cz ([.str lamp.s, .bool linked, .bool i0, .bool i1, .str o0.s, .str o1.s, .bool x0.look, .str x0.b.s, .str x0.g.s, .str x0.u.s, .str x0.f.s, .bool x1.look, .str x1.b.s, .str x1.g.s, .str x1.u.s, .str x1.f.s, .bool y0.look, .str y0.b.s, .str y0.g.s, .str y0.u.s, .str y0.f.s, .bool y1.look, .str y1.b.s, .str y1.g.s, .str y1.u.s, .str y1.f.s] : List D) hof22 0).Perm ((alt lampT (.str lamp.s)).map (lmF (⟨lamp, linked, i0, i1, o0, o1, [x0, x1], [y0, y1]⟩ : House))) := by
    exact (pm lampP (.str lamp.s) _).trans (.of_eq (congrArg (List.map · (alt lampT (.str lamp.s))) (by funext w; kernel_rfl)))
  have p1 : (cz ([.str lamp.s, .bool linked, .bool i0, .bool i1, .str o0.s, .str o1.s, .bool x0.look, .str x0.b.s, .str x0.g.s, .str x0.u.s, .str x0.f.s, .bool x1.look, .str x1.b.s, .str x1.g.s, .str x1.u.s, .str x1.f.s, .bool y0.look, .str y0.b.s, .str y0.g.s, .str y0.u.s, .str y0.f.s, .bool y1.look, .str y1.b.s, .str y1.g.s, .str y1.u.s, .str y1.f.s] : List D) hof22 1).Perm ([liF (⟨lamp, linked, i0, i1, o0, o1, [x0, x1], [y0, y1]⟩ : House)]) := by
    exact .of_eq (by cases linked <;> kernel_rfl)
  have p2 : (cz ([.str lamp.s, .bool linked, .bool i0, .bool i1, .str o0.s, .str o1.s, .bool x0.look, .str x0.b.s, .str x0.g.s, .str x0.u.s, .str x0.f.s, .bool x1.look, .str x1.b.s, .str x1.g.s, .str x1.u.s, .str x1.f.s, .bool y0.look, .str y0.b.s, .str y0.g.s, .str y0.u.s, .str y0.f.s, .bool y1.look, .str y1.b.s, .str y1.g.s, .str y1.u.s, .str y1.f.s] : List D) hof22 2).Perm ([inF (⟨lamp, linked, i0, i1, o0, o1, [x0, x1], [y0, y1]⟩ : House) false]) := by
    exact .of_eq (by cases i0 <;> kernel_rfl)
  have p3 : (cz ([.str lamp.s, .bool linked, .bool i0, .bool i1, .str o0.s, .str o1.s, .bool x0.look, .str x0.b.s, .str x0.g.s, .str x0.u.s, .str x0.f.s, .bool x1.look, .str x1.b.s, .str x1.g.s, .str x1.u.s, .str x1.f.s, .bool y0.look, .str y0.b.s, .str y0.g.s, .str y0.u.s, .str y0.f.s, .bool y1.look, .str y1.b.s, .str y1.g.s, .str y1.u.s, .str y1.f.s] : List D) hof22 3).Perm ([inF (⟨lamp, linked, i0, i1, o0, o1, [x0, x1], [y0, y1]⟩ : House) true]) := by
    exact .of_eq (by cases i1 <;> kernel_rfl)
  have p4 : (cz ([.str lamp.s, .bool linked, .bool i0, .bool i1, .str o0.s, .str o1.s, .bool x0.look, .str x0.b.s, .str x0.g.s, .str x0.u.s, .str x0.f.s, .bool x1.look, .str x1.b.s, .str x1.g.s, .str x1.u.s, .str x1.f.s, .bool y0.look, .str y0.b.s, .str y0.g.s, .str y0.u.s, .str y0.f.s, .bool y1.look, .str y1.b.s, .str y1.g.s, .str y1.u.s, .str y1.f.s] : List D) hof22 4).Perm ((alt outT (.str o0.s)).map (ouF (⟨lamp, linked, i0, i1, o0, o1, [x0, x1], [y0, y1]⟩ : House) false)) := by
    exact (pm outP (.str o0.s) _).trans (.of_eq (congrArg (List.map · (alt outT (.str o0.s))) (by funext w; kernel_rfl)))
  have p5 : (cz ([.str lamp.s, .bool linked, .bool i0, .bool i1, .str o0.s, .str o1.s, .bool x0.look, .str x0.b.s, .str x0.g.s, .str x0.u.s, .str x0.f.s, .bool x1.look, .str x1.b.s, .str x1.g.s, .str x1.u.s, .str x1.f.s, .bool y0.look, .str y0.b.s, .str y0.g.s, .str y0.u.s, .str y0.f.s, .bool y1.look, .str y1.b.s, .str y1.g.s, .str y1.u.s, .str y1.f.s] : List D) hof22 5).Perm ((alt outT (.str o1.s)).map (ouF (⟨lamp, linked, i0, i1, o0, o1, [x0, x1], [y0, y1]⟩ : House) true)) := by
    exact (pm outP (.str o1.s) _).trans (.of_eq (congrArg (List.map · (alt outT (.str o1.s))) (by funext w; kernel_rfl)))
  have p6 : (cz ([.str lamp.s, .bool linked, .bool i0, .bool i1, .str o0.s, .str o1.s, .bool x0.look, .str x0.b.s, .str x0.g.s, .str x0.u.s, .str x0.f.s, .bool x1.look, .str x1.b.s, .str x1.g.s, .str x1.u.s, .str x1.f.s, .bool y0.look, .str y0.b.s, .str y0.g.s, .str y0.u.s, .str y0.f.s, .bool y1.look, .str y1.b.s, .str y1.g.s, .str y1.u.s, .str y1.f.s] : List D) hof22 6).Perm (atF (⟨lamp, linked, i0, i1, o0, o1, [x0, x1], [y0, y1]⟩ : House) false 0 x0 0) := by
    exact (pm (tabP 0) (.bool x0.look) _).trans (.of_eq (congrArg (List.map · (alt (tabV 0) (.bool x0.look))) (by funext w; kernel_rfl)))
  have p7 : (cz ([.str lamp.s, .bool linked, .bool i0, .bool i1, .str o0.s, .str o1.s, .bool x0.look, .str x0.b.s, .str x0.g.s, .str x0.u.s, .str x0.f.s, .bool x1.look, .str x1.b.s, .str x1.g.s, .str x1.u.s, .str x1.f.s, .bool y0.look, .str y0.b.s, .str y0.g.s, .str y0.u.s, .str y0.f.s, .bool y1.look, .str y1.b.s, .str y1.g.s, .str y1.u.s, .str y1.f.s] : List D) hof22 7).Perm (atF (⟨lamp, linked, i0, i1, o0, o1, [x0, x1], [y0, y1]⟩ : House) false 0 x0 1) := by
    exact (pm (tabP 1) (.str x0.b.s) _).trans (.of_eq (congrArg (List.map · (alt (tabV 1) (.str x0.b.s))) (by funext w; kernel_rfl)))
  have p8 : (cz ([.str lamp.s, .bool linked, .bool i0, .bool i1, .str o0.s, .str o1.s, .bool x0.look, .str x0.b.s, .str x0.g.s, .str x0.u.s, .str x0.f.s, .bool x1.look, .str x1.b.s, .str x1.g.s, .str x1.u.s, .str x1.f.s, .bool y0.look, .str y0.b.s, .str y0.g.s, .str y0.u.s, .str y0.f.s, .bool y1.look, .str y1.b.s, .str y1.g.s, .str y1.u.s, .str y1.f.s] : List D) hof22 8).Perm (atF (⟨lamp, linked, i0, i1, o0, o1, [x0, x1], [y0, y1]⟩ : House) false 0 x0 2) := by
    exact (pm (tabP 2) (.str x0.g.s) _).trans (.of_eq (congrArg (List.map · (alt (tabV 2) (.str x0.g.s))) (by funext w; kernel_rfl)))
  have p9 : (cz ([.str lamp.s, .bool linked, .bool i0, .bool i1, .str o0.s, .str o1.s, .bool x0.look, .str x0.b.s, .str x0.g.s, .str x0.u.s, .str x0.f.s, .bool x1.look, .str x1.b.s, .str x1.g.s, .str x1.u.s, .str x1.f.s, .bool y0.look, .str y0.b.s, .str y0.g.s, .str y0.u.s, .str y0.f.s, .bool y1.look, .str y1.b.s, .str y1.g.s, .str y1.u.s, .str y1.f.s] : List D) hof22 9).Perm (atF (⟨lamp, linked, i0, i1, o0, o1, [x0, x1], [y0, y1]⟩ : House) false 0 x0 3) := by
    exact (pm (tabP 3) (.str x0.u.s) _).trans (.of_eq (congrArg (List.map · (alt (tabV 3) (.str x0.u.s))) (by funext w; kernel_rfl)))
  have p10 : (cz ([.str lamp.s, .bool linked, .bool i0, .bool i1, .str o0.s, .str o1.s, .bool x0.look, .str x0.b.s, .str x0.g.s, .str x0.u.s, .str x0.f.s, .bool x1.look, .str x1.b.s, .str x1.g.s, .str x1.u.s, .str x1.f.s, .bool y0.look, .str y0.b.s, .str y0.g.s, .str y0.u.s, .str y0.f.s, .bool y1.look, .str y1.b.s, .str y1.g.s, .str y1.u.s, .str y1.f.s] : List D) hof22 10).Perm (atF (⟨lamp, linked, i0, i1, o0, o1, [x0, x1], [y0, y1]⟩ : House) false 0 x0 4) := by
    exact (pm (tabP 4) (.str x0.f.s) _).trans (.of_eq (congrArg (List.map · (alt (tabV 4) (.str x0.f.s))) (by funext w; kernel_rfl)))
  have p11 : (cz ([.str lamp.s, .bool linked, .bool i0, .bool i1, .str o0.s, .str o1.s, .bool x0.look, .str x0.b.s, .str x0.g.s, .str x0.u.s, .str x0.f.s, .bool x1.look, .str x1.b.s, .str x1.g.s, .str x1.u.s, .str x1.f.s, .bool y0.look, .str y0.b.s, .str y0.g.s, .str y0.u.s, .str y0.f.s, .bool y1.look, .str y1.b.s, .str y1.g.s, .str y1.u.s, .str y1.f.s] : List D) hof22 11).Perm (atF (⟨lamp, linked, i0, i1, o0, o1, [x0, x1], [y0, y1]⟩ : House) false 1 x1 0) := by
    exact (pm (tabP 0) (.bool x1.look) _).trans (.of_eq (congrArg (List.map · (alt (tabV 0) (.bool x1.look))) (by funext w; kernel_rfl)))
  have p12 : (cz ([.str lamp.s, .bool linked, .bool i0, .bool i1, .str o0.s, .str o1.s, .bool x0.look, .str x0.b.s, .str x0.g.s, .str x0.u.s, .str x0.f.s, .bool x1.look, .str x1.b.s, .str x1.g.s, .str x1.u.s, .str x1.f.s, .bool y0.look, .str y0.b.s, .str y0.g.s, .str y0.u.s, .str y0.f.s, .bool y1.look, .str y1.b.s, .str y1.g.s, .str y1.u.s, .str y1.f.s] : List D) hof22 12).Perm (atF (⟨lamp, linked, i0, i1, o0, o1, [x0, x1], [y0, y1]⟩ : House) false 1 x1 1) := by
    exact (pm (tabP 1) (.str x1.b.s) _).trans (.of_eq (congrArg (List.map · (alt (tabV 1) (.str x1.b.s))) (by funext w; kernel_rfl)))
  have p13 : (cz ([.str lamp.s, .bool linked, .bool i0, .bool i1, .str o0.s, .str o1.s, .bool x0.look, .str x0.b.s, .str x0.g.s, .str x0.u.s, .str x0.f.s, .bool x1.look, .str x1.b.s, .str x1.g.s, .str x1.u.s, .str x1.f.s, .bool y0.look, .str y0.b.s, .str y0.g.s, .str y0.u.s, .str y0.f.s, .bool y1.look, .str y1.b.s, .str y1.g.s, .str y1.u.s, .str y1.f.s] : List D) hof22 13).Perm (atF (⟨lamp, linked, i0, i1, o0, o1, [x0, x1], [y0, y1]⟩ : House) false 1 x1 2) := by
    exact (pm (tabP 2) (.str x1.g.s) _).trans (.of_eq (congrArg (List.map · (alt (tabV 2) (.str x1.g.s))) (by funext w; kernel_rfl)))
  have p14 : (cz ([.str lamp.s, .bool linked, .bool i0, .bool i1, .str o0.s, .str o1.s, .bool x0.look, .str x0.b.s, .str x0.g.s, .str x0.u.s, .str x0.f.s, .bool x1.look, .str x1.b.s, .str x1.g.s, .str x1.u.s, .str x1.f.s, .bool y0.look, .str y0.b.s, .str y0.g.s, .str y0.u.s, .str y0.f.s, .bool y1.look, .str y1.b.s, .str y1.g.s, .str y1.u.s, .str y1.f.s] : List D) hof22 14).Perm (atF (⟨lamp, linked, i0, i1, o0, o1, [x0, x1], [y0, y1]⟩ : House) false 1 x1 3) := by
    exact (pm (tabP 3) (.str x1.u.s) _).trans (.of_eq (congrArg (List.map · (alt (tabV 3) (.str x1.u.s))) (by funext w; kernel_rfl)))
  have p15 : (cz ([.str lamp.s, .bool linked, .bool i0, .bool i1, .str o0.s, .str o1.s, .bool x0.look, .str x0.b.s, .str x0.g.s, .str x0.u.s, .str x0.f.s, .bool x1.look, .str x1.b.s, .str x1.g.s, .str x1.u.s, .str x1.f.s, .bool y0.look, .str y0.b.s, .str y0.g.s, .str y0.u.s, .str y0.f.s, .bool y1.look, .str y1.b.s, .str y1.g.s, .str y1.u.s, .str y1.f.s] : List D) hof22 15).Perm (atF (⟨lamp, linked, i0, i1, o0, o1, [x0, x1], [y0, y1]⟩ : House) false 1 x1 4) := by
    exact (pm (tabP 4) (.str x1.f.s) _).trans (.of_eq (congrArg (List.map · (alt (tabV 4) (.str x1.f.s))) (by funext w; kernel_rfl)))
  have p16 : (cz ([.str lamp.s, .bool linked, .bool i0, .bool i1, .str o0.s, .str o1.s, .bool x0.look, .str x0.b.s, .str x0.g.s, .str x0.u.s, .str x0.f.s, .bool x1.look, .str x1.b.s, .str x1.g.s, .str x1.u.s, .str x1.f.s, .bool y0.look, .str y0.b.s, .str y0.g.s, .str y0.u.s, .str y0.f.s, .bool y1.look, .str y1.b.s, .str y1.g.s, .str y1.u.s, .str y1.f.s] : List D) hof22 16).Perm (atF (⟨lamp, linked, i0, i1, o0, o1, [x0, x1], [y0, y1]⟩ : House) true 0 y0 0) := by
    exact (pm (tabP 0) (.bool y0.look) _).trans (.of_eq (congrArg (List.map · (alt (tabV 0) (.bool y0.look))) (by funext w; kernel_rfl)))
  have p17 : (cz ([.str lamp.s, .bool linked, .bool i0, .bool i1, .str o0.s, .str o1.s, .bool x0.look, .str x0.b.s, .str x0.g.s, .str x0.u.s, .str x0.f.s, .bool x1.look, .str x1.b.s, .str x1.g.s, .str x1.u.s, .str x1.f.s, .bool y0.look, .str y0.b.s, .str y0.g.s, .str y0.u.s, .str y0.f.s, .bool y1.look, .str y1.b.s, .str y1.g.s, .str y1.u.s, .str y1.f.s] : List D) hof22 17).Perm (atF (⟨lamp, linked, i0, i1, o0, o1, [x0, x1], [y0, y1]⟩ : House) true 0 y0 1) := by
    exact (pm (tabP 1) (.str y0.b.s) _).trans (.of_eq (congrArg (List.map · (alt (tabV 1) (.str y0.b.s))) (by funext w; kernel_rfl)))
  have p18 : (cz ([.str lamp.s, .bool linked, .bool i0, .bool i1, .str o0.s, .str o1.s, .bool x0.look, .str x0.b.s, .str x0.g.s, .str x0.u.s, .str x0.f.s, .bool x1.look, .str x1.b.s, .str x1.g.s, .str x1.u.s, .str x1.f.s, .bool y0.look, .str y0.b.s, .str y0.g.s, .str y0.u.s, .str y0.f.s, .bool y1.look, .str y1.b.s, .str y1.g.s, .str y1.u.s, .str y1.f.s] : List D) hof22 18).Perm (atF (⟨lamp, linked, i0, i1, o0, o1, [x0, x1], [y0, y1]⟩ : House) true 0 y0 2) := by
    exact (pm (tabP 2) (.str y0.g.s) _).trans (.of_eq (congrArg (List.map · (alt (tabV 2) (.str y0.g.s))) (by funext w; kernel_rfl)))
  have p19 : (cz ([.str lamp.s, .bool linked, .bool i0, .bool i1, .str o0.s, .str o1.s, .bool x0.look, .str x0.b.s, .str x0.g.s, .str x0.u.s, .str x0.f.s, .bool x1.look, .str x1.b.s, .str x1.g.s, .str x1.u.s, .str x1.f.s, .bool y0.look, .str y0.b.s, .str y0.g.s, .str y0.u.s, .str y0.f.s, .bool y1.look, .str y1.b.s, .str y1.g.s, .str y1.u.s, .str y1.f.s] : List D) hof22 19).Perm (atF (⟨lamp, linked, i0, i1, o0, o1, [x0, x1], [y0, y1]⟩ : House) true 0 y0 3) := by
    exact (pm (tabP 3) (.str y0.u.s) _).trans (.of_eq (congrArg (List.map · (alt (tabV 3) (.str y0.u.s))) (by funext w; kernel_rfl)))
  have p20 : (cz ([.str lamp.s, .bool linked, .bool i0, .bool i1, .str o0.s, .str o1.s, .bool x0.look, .str x0.b.s, .str x0.g.s, .str x0.u.s, .str x0.f.s, .bool x1.look, .str x1.b.s, .str x1.g.s, .str x1.u.s, .str x1.f.s, .bool y0.look, .str y0.b.s, .str y0.g.s, .str y0.u.s, .str y0.f.s, .bool y1.look, .str y1.b.s, .str y1.g.s, .str y1.u.s, .str y1.f.s] : List D) hof22 20).Perm (atF (⟨lamp, linked, i0, i1, o0, o1, [x0, x1], [y0, y1]⟩ : House) true 0 y0 4) := by
    exact (pm (tabP 4) (.str y0.f.s) _).trans (.of_eq (congrArg (List.map · (alt (tabV 4) (.str y0.f.s))) (by funext w; kernel_rfl)))
  have p21 : (cz ([.str lamp.s, .bool linked, .bool i0, .bool i1, .str o0.s, .str o1.s, .bool x0.look, .str x0.b.s, .str x0.g.s, .str x0.u.s, .str x0.f.s, .bool x1.look, .str x1.b.s, .str x1.g.s, .str x1.u.s, .str x1.f.s, .bool y0.look, .str y0.b.s, .str y0.g.s, .str y0.u.s, .str y0.f.s, .bool y1.look, .str y1.b.s, .str y1.g.s, .str y1.u.s, .str y1.f.s] : List D) hof22 21).Perm (atF (⟨lamp, linked, i0, i1, o0, o1, [x0, x1], [y0, y1]⟩ : House) true 1 y1 0) := by
    exact (pm (tabP 0) (.bool y1.look) _).trans (.of_eq (congrArg (List.map · (alt (tabV 0) (.bool y1.look))) (by funext w; kernel_rfl)))
  have p22 : (cz ([.str lamp.s, .bool linked, .bool i0, .bool i1, .str o0.s, .str o1.s, .bool x0.look, .str x0.b.s, .str x0.g.s, .str x0.u.s, .str x0.f.s, .bool x1.look, .str x1.b.s, .str x1.g.s, .str x1.u.s, .str x1.f.s, .bool y0.look, .str y0.b.s, .str y0.g.s, .str y0.u.s, .str y0.f.s, .bool y1.look, .str y1.b.s, .str y1.g.s, .str y1.u.s, .str y1.f.s] : List D) hof22 22).Perm (atF (⟨lamp, linked, i0, i1, o0, o1, [x0, x1], [y0, y1]⟩ : House) true 1 y1 1) := by
    exact (pm (tabP 1) (.str y1.b.s) _).trans (.of_eq (congrArg (List.map · (alt (tabV 1) (.str y1.b.s))) (by funext w; kernel_rfl)))
  have p23 : (cz ([.str lamp.s, .bool linked, .bool i0, .bool i1, .str o0.s, .str o1.s, .bool x0.look, .str x0.b.s, .str x0.g.s, .str x0.u.s, .str x0.f.s, .bool x1.look, .str x1.b.s, .str x1.g.s, .str x1.u.s, .str x1.f.s, .bool y0.look, .str y0.b.s, .str y0.g.s, .str y0.u.s, .str y0.f.s, .bool y1.look, .str y1.b.s, .str y1.g.s, .str y1.u.s, .str y1.f.s] : List D) hof22 23).Perm (atF (⟨lamp, linked, i0, i1, o0, o1, [x0, x1], [y0, y1]⟩ : House) true 1 y1 2) := by
    exact (pm (tabP 2) (.str y1.g.s) _).trans (.of_eq (congrArg (List.map · (alt (tabV 2) (.str y1.g.s))) (by funext w; kernel_rfl)))
  have p24 : (cz ([.str lamp.s, .bool linked, .bool i0, .bool i1, .str o0.s, .str o1.s, .bool x0.look, .str x0.b.s, .str x0.g.s, .str x0.u.s, .str x0.f.s, .bool x1.look, .str x1.b.s, .str x1.g.s, .str x1.u.s, .str x1.f.s, .bool y0.look, .str y0.b.s, .str y0.g.s, .str y0.u.s, .str y0.f.s, .bool y1.look, .str y1.b.s, .str y1.g.s, .str y1.u.s, .str y1.f.s] : List D) hof22 24).Perm (atF (⟨lamp, linked, i0, i1, o0, o1, [x0, x1], [y0, y1]⟩ : House) true 1 y1 3) := by
    exact (pm (tabP 3) (.str y1.u.s) _).trans (.of_eq (congrArg (List.map · (alt (tabV 3) (.str y1.u.s))) (by funext w; kernel_rfl)))
  have p25 : (cz ([.str lamp.s, .bool linked, .bool i0, .bool i1, .str o0.s, .str o1.s, .bool x0.look, .str x0.b.s, .str x0.g.s, .str x0.u.s, .str x0.f.s, .bool x1.look, .str x1.b.s, .str x1.g.s, .str x1.u.s, .str x1.f.s, .bool y0.look, .str y0.b.s, .str y0.g.s, .str y0.u.s, .str y0.f.s, .bool y1.look, .str y1.b.s, .str y1.g.s, .str y1.u.s, .str y1.f.s] : List D) hof22 25).Perm (atF (⟨lamp, linked, i0, i1, o0, o1, [x0, x1], [y0, y1]⟩ : House) true 1 y1 4) := by
    exact (pm (tabP 4) (.str y1.f.s) _).trans (.of_eq (congrArg (List.map · (alt (tabV 4) (.str y1.f.s))) (by funext w; kernel_rfl)))
  have q := base p0 p1 p2 p3 p4 p5 ((five p6 p7 p8 p9 p10 (five p11 p12 p13 p14 p15 (five p16 p17 p18 p19 p20 (five p21 p22 p23 p24 p25 (List.Perm.refl []))))).trans (.of_eq (as2 _ _ _)))
  exact (List.Perm.of_eq (fl26 _)).trans (q.trans (List.Perm.of_eq (L2_eq (⟨lamp, linked, i0, i1, o0, o1, [x0, x1], [y0, y1]⟩ : House) (Gd2 _ false x0 x1 rfl) (Gd2 _ true y0 y1 rfl)).symm))
theorem shape22 (n : Nat) (lamp : La) (linked i0 i1 : Bool) (o0 o1 : Ou) (x0 x1 y0 y1 : Hab) : Shp n (⟨lamp, linked, i0, i1, o0, o1, [x0, x1], [y0, y1]⟩ : House) := by
  have iv := inv22 lamp linked i0 i1 o0 o1 x0 x1 y0 y1
  refine shp_of (P := [.str lamp.s, .bool linked, .bool i0, .bool i1, .str o0.s, .str o1.s, .bool x0.look, .str x0.b.s, .str x0.g.s, .str x0.u.s, .str x0.f.s, .bool x1.look, .str x1.b.s, .str x1.g.s, .str x1.u.s, .str x1.f.s, .bool y0.look, .str y0.b.s, .str y0.g.s, .str y0.u.s, .str y0.f.s, .bool y1.look, .str y1.b.s, .str y1.g.s, .str y1.u.s, .str y1.f.s]) (hof := hof22) (perm22 lamp linked i0 i1 o0 o1 x0 x1 y0 y1) (fun Q hl hv => good22 hl hv) iv rfl (by decide) ?_
  have hl : ([.str lamp.s, .bool linked, .bool i0, .bool i1, .str o0.s, .str o1.s, .bool x0.look, .str x0.b.s, .str x0.g.s, .str x0.u.s, .str x0.f.s, .bool x1.look, .str x1.b.s, .str x1.g.s, .str x1.u.s, .str x1.f.s, .bool y0.look, .str y0.b.s, .str y0.g.s, .str y0.u.s, .str y0.f.s, .bool y1.look, .str y1.b.s, .str y1.g.s, .str y1.u.s, .str y1.f.s] : List D).length = 26 := rfl
  have hd : hof22 ([.str lamp.s, .bool linked, .bool i0, .bool i1, .str o0.s, .str o1.s, .bool x0.look, .str x0.b.s, .str x0.g.s, .str x0.u.s, .str x0.f.s, .bool x1.look, .str x1.b.s, .str x1.g.s, .str x1.u.s, .str x1.f.s, .bool y0.look, .str y0.b.s, .str y0.g.s, .str y0.u.s, .str y0.f.s, .bool y1.look, .str y1.b.s, .str y1.g.s, .str y1.u.s, .str y1.f.s] : List D) = (⟨lamp, linked, i0, i1, o0, o1, [x0, x1], [y0, y1]⟩ : House).d := by kernel_rfl
  have q := ones22 n hl (inv_at iv)
  rw [hl, hd] at q
  exact q
end DL.X
end
section
set_option Elab.async false
set_option linter.all false
set_option maxRecDepth 100000
set_option maxHeartbeats 4000000
/-! YE: both lists are the same. -/
namespace DL.X
open PySem PySem.W PyProof.Rows DL DL.G
theorem shape (n : Nat) {h : House} (hk : h.Ok) : Shp n h := by
  obtain ⟨lamp, linked, i0, i1, o0, o1, h0, h1⟩ := h
  obtain ⟨k0, k1⟩ := hk
  rcases home_cases k0 with ⟨x0, e⟩ | ⟨x0, x1, e⟩ <;> rcases home_cases k1 with ⟨y0, e'⟩ | ⟨y0, y1, e'⟩ <;> (dsimp only at e e'; subst e; subst e')
  · exact shape11 n lamp linked i0 i1 o0 o1 x0 y0
  · exact shape12 n lamp linked i0 i1 o0 o1 x0 y0 y1
  · exact shape21 n lamp linked i0 i1 o0 o1 x0 x1 y0
  · exact shape22 n lamp linked i0 i1 o0 o1 x0 x1 y0 y1
/-- two homes of one size -/
theorem same_home {a b c : List Hab} (h : okHome a) (e : b.length = a.length) (e' : c.length = a.length) : (∃ x y, b = [x] ∧ c = [y]) ∨ ∃ x x' y y', b = [x, x'] ∧ c = [y, y'] := by
  rcases home_cases (l := b) (by rcases h with h | h; exact .inl (by omega); exact .inr (by omega)) with ⟨x, rfl⟩ | ⟨x, x', rfl⟩ <;> rcases home_cases (l := c) (by rcases h with h | h; exact .inl (by omega); exact .inr (by omega)) with ⟨y, rfl⟩ | ⟨y, y', rfl⟩
  · exact .inl ⟨x, y, rfl, rfl⟩
  · exact absurd (e.trans e'.symm) (by simp)
  · exact absurd (e.trans e'.symm) (by simp)
  · exact .inr ⟨x, x', y, y', rfl, rfl⟩
theorem two {h : House} (hk : h.Ok) {y z : D} (hy : Like h y) (hz : Like h z) : alike y z = true ∧ near y z = true := by
  obtain ⟨⟨l, k, i0, i1, o0, o1, a, b⟩, e0, e1, rfl⟩ := hy
  obtain ⟨⟨l', k', i0', i1', o0', o1', a', b'⟩, e0', e1', rfl⟩ := hz
  dsimp only at e0 e1 e0' e1'
  rcases same_home hk.h0 e0 e0' with ⟨x, x', rfl, rfl⟩ | ⟨x, x2, x', x2', rfl, rfl⟩ <;> rcases same_home hk.h1 e1 e1' with ⟨y, y', rfl, rfl⟩ | ⟨y, y2, y', y2', rfl, rfl⟩ <;> exact ⟨by kernel_rfl, by kernel_rfl⟩
theorem la_k (a : La) : PyData.strOk a.s = true := by cases a <;> kernel_rfl
theorem ou_k (a : Ou) : PyData.strOk a.s = true := by cases a <;> kernel_rfl
theorem bo_k (a : Bo) : PyData.strOk a.s = true := by cases a <;> kernel_rfl
theorem go_k (a : Go) : PyData.strOk a.s = true := by cases a <;> kernel_rfl
theorem un_k (a : Un) : PyData.strOk a.s = true := by cases a <;> kernel_rfl
theorem fo_k (a : Fo) : PyData.strOk a.s = true := by cases a <;> kernel_rfl
theorem ok_like {h : House} (hk : h.Ok) {y : D} (hy : Like h y) : ∃ h' : House, h'.Ok ∧ y = h'.d := by
  obtain ⟨h', e0, e1, rfl⟩ := hy
  obtain ⟨k0, k1⟩ := hk
  exact ⟨h', ⟨by unfold okHome at *; omega, by unfold okHome at *; omega⟩, rfl⟩
theorem house_shaped {h : House} (hk : h.Ok) : SeqAt.shaped h.d = true := by
  obtain ⟨l, k, i0, i1, o0, o1, a, b⟩ := h
  obtain ⟨k0, k1⟩ := hk
  rcases home_cases k0 with ⟨x0, e⟩ | ⟨x0, x1, e⟩ <;> rcases home_cases k1 with ⟨y0, e'⟩ | ⟨y0, y1, e'⟩ <;> (dsimp only at e e'; subst e; subst e'; simp [SeqAt.shaped, House.d, houD, homeD, Hab.d, habD, PyData.canLay0, PyData.canLayAll0, PyData.depth, PyData.depthAll, la_k, ou_k, bo_k, go_k, un_k, fo_k])
theorem hab_pl (x : Hab) : Pl 1 x.d := by
  refine .tup (by simp) fun y hy => ?_
  simp only [List.mem_cons, List.not_mem_nil, or_false] at hy
  rcases hy with rfl | rfl | rfl | rfl | rfl
  · exact .bool _ _
  · exact .str _ _ (bo_k _)
  · exact .str _ _ (go_k _)
  · exact .str _ _ (un_k _)
  · exact .str _ _ (fo_k _)
theorem home_pl {l : List Hab} (h : okHome l) : Pl 2 (homeD l) := by
  refine .tup (by rw [List.length_map]; unfold okHome at h; omega) fun y hy => ?_
  obtain ⟨x, _, rfl⟩ := List.mem_map.mp hy
  exact hab_pl x
theorem house_pl {h : House} (hk : h.Ok) : Pl 4 h.d := by
  refine .tup (by simp) fun y hy => ?_
  simp only [List.mem_cons, List.not_mem_nil, or_false] at hy
  rcases hy with rfl | rfl | rfl | rfl | rfl
  · exact .str _ _ (la_k _)
  · exact .bool _ _
  · refine .tup (by simp) fun y hy => ?_
    simp only [List.mem_cons, List.not_mem_nil, or_false] at hy
    rcases hy with rfl | rfl <;> exact .bool _ _
  · refine .tup (by simp) fun y hy => ?_
    simp only [List.mem_cons, List.not_mem_nil, or_false] at hy
    rcases hy with rfl | rfl <;> exact .str _ _ (ou_k _)
  · refine .tup (by simp) fun y hy => ?_
    simp only [List.mem_cons, List.not_mem_nil, or_false] at hy
    rcases hy with rfl | rfl
    · exact home_pl hk.h0
    · exact home_pl hk.h1
theorem sortOk_like {h : House} (hk : h.Ok) {L : List D} (hL : ∀ y ∈ L, Like h y) : sortOk L = true := by
  unfold sortOk
  rw [Bool.and_eq_true, Bool.and_eq_true, Bool.or_eq_true]
  refine ⟨⟨List.all_eq_true.mpr fun y hy => ?_, List.all_eq_true.mpr fun y hy => List.all_eq_true.mpr fun z hz => (two hk (hL y hy) (hL z hz)).2⟩, .inl ?_⟩
  · obtain ⟨h', k', rfl⟩ := ok_like hk (hL y hy)
    exact house_shaped k'
  · rw [Bool.and_eq_true]
    refine ⟨List.all_eq_true.mpr fun y hy => ?_, List.all_eq_true.mpr fun y hy => List.all_eq_true.mpr fun z hz => ?_⟩
    · obtain ⟨h', k', rfl⟩ := ok_like hk (hL y hy)
      rfl
    · obtain ⟨h', k', rfl⟩ := ok_like hk (hL y hy)
      obtain ⟨h'', k'', rfl⟩ := ok_like hk (hL z hz)
      rfl
/-- the program's list and the law's list -/
theorem both_lists {h : House} (hk : h.Ok) : Pl 5 (.list (sortD (L2 h))) ∧ (∀ n, callF tab LL (n + 3) 10 [.d h.d] [] = .ok (.r 0) [.lst (sortD (L2 h))]) ∧ ∀ n, callF tab LL (n + 2) 21 [.d h.d] [] = .ok (.r 0) [.lst (sortD (L2 h))] := by
  have hl2 : (∀ y ∈ L2 h, Like h y) ∧ (L2 h).length ≤ 104 := by
    obtain ⟨L1, p, hl, hz, hc⟩ := shape 0 hk
    exact ⟨fun y hy => hl y (p.mem_iff.mpr hy), by rw [← p.length_eq]; exact hz⟩
  refine ⟨.lst (by rw [sortD_len]; omega) fun y hy => ?_, fun n => ?_, fun n => law_ones_ h hk n (sortOk_like hk hl2.1) (by omega)⟩
  · obtain ⟨h', k', rfl⟩ := ok_like hk (hl2.1 y ((List.mergeSort_perm (L2 h) _).mem_iff.mp hy))
    exact house_pl k'
  · obtain ⟨L1, p, hl, hz, hc⟩ := shape n hk
    have e := sortD_perm p fun a ha b hb => (two hk (hl a ha) (hl b hb)).1
    rw [← e]
    exact hc (sortOk_like hk hl)
theorem changes_ok (n : Nat) {h : House} (hk : h.Ok) (m : Store) : callF tab LL (n + 7) 11 [.d h.d] m = .ok (.r m.length) (m ++ [.lst (sortD (L2 h))]) := by
  refine liftL (xs := [h.d]) ?_ m
  show evFn (callF tab LL (n + 6)) LL f11 [.d h.d] [] = _
  have w1 := need_house (house_g hk) (n + 1)
  have e := (both_lists hk).2.1 (n + 3)
  generalize callF tab LL (n + 6) = Φ at w1 e ⊢
  simp only [evFn, evSs, evS, evT, ev, evs, evI, evC, evO, truR, tru, rd, rdAll, blF, boolsOf, put, new, cmR, opR, opF, fz, allD, seqOf, walkOf, ofO, forLoop, compLoop, R.calm, wipeE, leave, sizeLine_eq, Cell.data, setAt, setAny, isDicR, app1, isLst, List.set_cons_zero, List.set_cons_succ, List.getElem?_cons_zero, List.getElem?_cons_succ, List.map_cons, List.map_nil, List.cons_append, List.nil_append, List.replicate_succ, List.replicate_zero, R.bind_ok, if_true, if_false, ite_true, ite_false, Bool.false_eq_true, Bool.true_and, Bool.false_and, Option.map_some, Option.map_none, List.length_cons, List.length_nil, Nat.reduceAdd, Nat.reduceSub, Nat.reduceLeDiff, List.take_zero, List.take_nil, reduceIte, List.set_nil, f11, b11, w1, e]
  rfl
end DL.X
end
section
set_option Elab.async false
set_option linter.all false
set_option maxRecDepth 100000
set_option maxHeartbeats 4000000
/-! YF: the law of houses with one part changed. -/
namespace DL.X
open PySem DL DL.G
theorem for_post {f : D → Env → Store → R Fl} {I : Nat → Env → Store → Prop} : ∀ (xs : List D) (k : Nat), (∀ x ∈ xs, ∀ i ρ m, i < k + xs.length → I i ρ m → Post (f x ρ m) fun o m' => ∃ ρ', o = .nx ρ' ∧ I (i + 1) ρ' m') → ∀ ρ m, I k ρ m → Post (forLoop f xs ρ m) fun o m' => ∃ ρ', o = .nx ρ' ∧ I (k + xs.length) ρ' m'
  | [], k, _, ρ, m, h => .ok ⟨ρ, rfl, h⟩
  | x :: xs, k, hf, ρ, m, h => by
    obtain ⟨o, m1, e, ρ1, rfl, h1⟩ := hf x List.mem_cons_self k ρ m (by simp) h
    obtain ⟨o, m2, e2, ρ2, rfl, h2⟩ := for_post (f := f) (I := I) xs (k + 1) (fun y hy i ρ m hi h => hf y (List.mem_cons_of_mem _ hy) i ρ m (by simp at hi ⊢; omega) h) ρ1 m1 h1
    refine ⟨_, m2, ?_, ρ2, rfl, ?_⟩
    · show (f x ρ m).bind _ = _
      rw [e]
      exact e2
    · rw [List.length_cons, show k + (xs.length + 1) = k + 1 + xs.length by omega]
      exact h2
def bT : PSs Nat := (.cons (.asg (.nm 4) (.call 18 (.cons true (.loc 2) (.cons false (.lit (.int (2))) .nil)))) (.cons (.iff (.not (.call 16 (.cons false (.call 11 (.cons false (.loc 4) .nil)) (.cons false (.call 21 (.cons false (.loc 4) .nil)) .nil)))) (.cons (.ret (.lit (.bool false))) .nil) .nil) .nil))
def bC : PSs Nat := (.cons (.asg (.nm 2) (.call 12 (.cons false (.loc 1) (.cons false (.lit (.int (16))) .nil)))) (.cons (.for (.nm 3) (.rng1 (.lit (.int (3)))) (.cons (.asg (.nm 4) (.call 18 (.cons true (.loc 2) (.cons false (.lit (.int (2))) .nil)))) (.cons (.iff (.not (.call 16 (.cons false (.call 11 (.cons false (.loc 4) .nil)) (.cons false (.call 21 (.cons false (.loc 4) .nil)) .nil)))) (.cons (.ret (.lit (.bool false))) .nil) .nil) .nil))) .nil))
theorem turn_step {j : Nat} {b : Int} {m : Store} (h : Dk j b m) (hb : b < 700000) (a0 c1 c3 c4 : Option Val) : Post (evSs (callF tab LL 40) LL bT [a0, c1, some (.r j), c3, c4] m) fun o m' => ∃ c4', o = .nx [a0, c1, some (.r j), c3, c4'] ∧ Dk j (b + 60) m' := by
  obtain ⟨v, m1, e1, d, gd, rfl, kp, dk⟩ := room h hb 36
  obtain ⟨x, kx, rfl⟩ := house_of gd
  obtain ⟨pl, _, e3⟩ := both_lists kx
  have e2 := fun m => changes_ok 33 kx m
  have e3 := fun m => liftL (xs := [x.d]) (e3 38) m
  have e6 := fun m => same_refl pl 33 m
  simp only [List.map_cons, List.map_nil] at e3
  generalize sortD (L2 x) = X at e2 e3 e6
  generalize callF tab LL 40 = Φ at e1 e2 e3 e6 ⊢
  refine ⟨.nx [a0, c1, some (.r j), c3, some (.d x.d)], m1 ++ [.fz (.list X)] ++ [.fz (.list X)], ?_, some (.d x.d), rfl, (dk.app _).app _⟩
  simp only [evFn, evSs, evS, evT, ev, evs, evI, evC, evO, truR, tru, rd, rdAll, blF, boolsOf, put, new, cmR, opR, opF, fz, allD, seqOf, walkOf, ofO, forLoop, compLoop, R.calm, wipeE, leave, sizeLine_eq, Cell.data, setAt, setAny, isDicR, app1, isLst, List.set_cons_zero, List.set_cons_succ, List.getElem?_cons_zero, List.getElem?_cons_succ, List.map_cons, List.map_nil, List.cons_append, List.nil_append, List.replicate_succ, List.replicate_zero, R.bind_ok, if_true, if_false, ite_true, ite_false, Bool.false_eq_true, Bool.true_and, Bool.false_and, Option.map_some, Option.map_none, List.length_cons, List.length_nil, Nat.reduceAdd, Nat.reduceSub, Nat.reduceLeDiff, List.take_zero, List.take_nil, reduceIte, List.set_nil, bT, a_nm, e1, e2, e3, e6, last_at, set_last]
  simp [tru, truR, rd]
def IT (j : Nat) (a0 c1 : Option Val) (k : Nat) (ρ : Env) (m : Store) : Prop := ∃ c3 c4, ρ = [a0, c1, some (.r j), c3, c4] ∧ Dk j (16 + 60 * (k : Int)) m
theorem cell_step (m : Store) (a0 c2 c3 c4 : Option Val) (c : Int) : Post (evSs (callF tab LL 40) LL bC [a0, some (.d (.int c)), c2, c3, c4] m) fun o m' => ∃ c2' c3' c4', o = .nx [a0, some (.d (.int c)), c2', c3', c4'] := by
  obtain ⟨d0, d1, e1, h1, h2⟩ := deck c 16 (by decide) 39 m
  have D0 : Dk m.length 16 (m ++ [.lst [.int d0, .int d1, .int 16]]) := ⟨d0, d1, 16, by simp, h1, h2, by decide, by decide⟩
  generalize m ++ [.lst [.int d0, .int d1, .int 16]] = m1 at e1 D0
  obtain ⟨o, m2, e2, ρ', rfl, c3', c4', rfl, _⟩ := for_post (f := DL.G.turnS (.nm 3) bT (callF tab LL 40) LL) (I := IT m.length a0 (some (.d (.int c)))) (rgD 0 3) 0 (fun x hx i ρ m2 hi hI => by
    obtain ⟨q3, q4, rfl, dk⟩ := hI
    have hi : i < 3 := by simpa [rgD] using hi
    obtain ⟨o, m3, e3, z4, rfl, dk'⟩ := turn_step dk (by omega) a0 (some (.d (.int c))) (some (.d x)) q4
    exact ⟨_, m3, e3, _, rfl, some (.d x), z4, rfl, by rw [show (16 + 60 * ((i + 1 : Nat) : Int)) = 16 + 60 * (i : Int) + 60 by omega]; exact dk'⟩)
    [a0, some (.d (.int c)), some (.r m.length), c3, c4] m1 ⟨c3, c4, rfl, by simpa using D0⟩
  refine ⟨.nx [a0, some (.d (.int c)), some (.r m.length), c3', c4'], m2, ?_, some (.r m.length), c3', c4', rfl⟩
  generalize callF tab LL 40 = Φ at e1 e2 ⊢
  have s1 : evS Φ LL (.asg (.nm 2) (.call 12 (.cons false (.loc 1) (.cons false (.lit (.int (16))) .nil)))) [a0, some (.d (.int c)), c2, c3, c4] m = .ok (.nx [a0, some (.d (.int c)), some (.r m.length), c3, c4]) m1 := by
    simp only [evFn, evSs, evS, evT, ev, evs, evI, evC, evO, truR, tru, rd, rdAll, blF, boolsOf, put, new, cmR, opR, opF, fz, allD, seqOf, walkOf, ofO, forLoop, compLoop, R.calm, wipeE, leave, sizeLine_eq, Cell.data, setAt, setAny, isDicR, app1, isLst, List.set_cons_zero, List.set_cons_succ, List.getElem?_cons_zero, List.getElem?_cons_succ, List.map_cons, List.map_nil, List.cons_append, List.nil_append, List.replicate_succ, List.replicate_zero, R.bind_ok, if_true, if_false, ite_true, ite_false, Bool.false_eq_true, Bool.true_and, Bool.false_and, Option.map_some, Option.map_none, List.length_cons, List.length_nil, Nat.reduceAdd, Nat.reduceSub, Nat.reduceLeDiff, List.take_zero, List.take_nil, reduceIte, List.set_nil, e1]
  have i1 : evI Φ (.rng1 (.lit (.int (3)))) [a0, some (.d (.int c)), some (.r m.length), c3, c4] m1 = .ok (rgD 0 3) m1 := i_rng1 (i := 3) rfl rfl (by kernel_rfl) rfl
  rw [show bC = .cons (.asg (.nm 2) (.call 12 (.cons false (.loc 1) (.cons false (.lit (.int (16))) .nil)))) (.cons (.for (.nm 3) (.rng1 (.lit (.int (3)))) bT) .nil) from rfl]
  rw [DL.G.ss_nx s1, DL.G.ss_nx ((DL.G.s_for i1).trans e2)]
  rfl
theorem cut_ints (ns : List Int) (k : Nat) : cutD (.int 0 :: ns.map .int) none (some (k : Int)) = ((0 :: ns).take k).map .int := by
  rw [cut_take, show (PyData.int 0 :: ns.map PyData.int) = (0 :: ns).map PyData.int from rfl, ← List.map_take]
def plain : House := ⟨.none, false, true, true, .none, .none, [⟨false, .own, .same, .own, .never⟩], [⟨false, .own, .same, .own, .never⟩]⟩
theorem plain_ok : plain.Ok := ⟨.inl rfl, .inl rfl⟩
theorem plain_len : (L2 plain).length = 25 := by kernel_rfl
theorem plain_d : kn0 = plain.d := by kernel_rfl
def eLast : PX Nat := (.cmp .eq (.blt .len (.cons false (.call 11 (.cons false (.idx (.call 20 .nil) (.lit (.int (0)))) .nil)) .nil)) (.lit (.int (25))))
theorem last_ok (ρ : Env) (m : Store) : ∃ m', ev (callF tab LL 40) eLast ρ m = .ok (.d (.bool true)) m' := by
  have e1 := fun m => liftL (xs := []) (known 39) m
  have e2 := fun m => changes_ok 33 plain_ok m
  have e4 : (sortD (L2 plain)).length = 25 := by rw [sortD_len, plain_len]
  have e3 : ixF (.list knL) (.int 0) = some plain.d := by rw [← plain_d]; rfl
  simp only [List.map_nil] at e1
  generalize sortD (L2 plain) = X at e2 e4
  generalize callF tab LL 40 = Φ at e1 e2 ⊢
  simp only [evFn, evSs, evS, evT, ev, evs, evI, evC, evO, truR, tru, rd, rdAll, blF, boolsOf, put, new, cmR, opR, opF, fz, allD, seqOf, walkOf, ofO, forLoop, compLoop, R.calm, wipeE, leave, sizeLine_eq, Cell.data, setAt, setAny, isDicR, app1, isLst, List.set_cons_zero, List.set_cons_succ, List.getElem?_cons_zero, List.getElem?_cons_succ, List.map_cons, List.map_nil, List.cons_append, List.nil_append, List.replicate_succ, List.replicate_zero, R.bind_ok, if_true, if_false, ite_true, ite_false, Bool.false_eq_true, Bool.true_and, Bool.false_and, Option.map_some, Option.map_none, List.length_cons, List.length_nil, Nat.reduceAdd, Nat.reduceSub, Nat.reduceLeDiff, List.take_zero, List.take_nil, reduceIte, List.set_nil, eLast, e1, e2, e3, e4, last_at, set_last]
  exact ⟨_, rfl⟩
def iHead : DL.It Nat := (.of (.sli (.bin .add (.lst (.cons false (.lit (.int (0))) .nil)) (.loc 0)) .no (.so (.lit (.int (10))))))
theorem head_ok (Φ : Nat → List Val → Store → R Val) (ns : List Int) (h : ns.length ≤ 63) (c1 c2 c3 c4 : Option Val) : ∃ m', evI Φ iHead [some (.d (.list (ns.map .int))), c1, c2, c3, c4] [] = .ok (((0 :: ns).take 10).map .int) m' := by
  have hc := cut_ints ns 10
  have z1 : ns.length ≤ 16777215 := by omega
  have z2 : 1 + ns.length ≤ 16777216 := by omega
  have z3 : ((0 :: ns).take 10).length ≤ 16777216 := by simp; omega
  have z4 : ([PyData.int 0] ++ ns.map PyData.int) = PyData.int 0 :: ns.map PyData.int := rfl
  have hc : cutD (.int 0 :: ns.map .int) none (some 10) = ((0 :: ns).take 10).map .int := hc
  generalize (0 :: ns).take 10 = ks at hc z3
  simp only [evFn, evSs, evS, evT, ev, evs, evI, evC, evO, truR, tru, rd, rdAll, blF, boolsOf, put, new, cmR, opR, opF, fz, allD, seqOf, walkOf, ofO, forLoop, compLoop, R.calm, wipeE, leave, sizeLine_eq, Cell.data, setAt, setAny, isDicR, app1, isLst, List.set_cons_zero, List.set_cons_succ, List.getElem?_cons_zero, List.getElem?_cons_succ, List.map_cons, List.map_nil, List.cons_append, List.nil_append, List.replicate_succ, List.replicate_zero, R.bind_ok, if_true, if_false, ite_true, ite_false, Bool.false_eq_true, Bool.true_and, Bool.false_and, Option.map_some, Option.map_none, List.length_cons, List.length_nil, Nat.reduceAdd, Nat.reduceSub, Nat.reduceLeDiff, List.take_zero, List.take_nil, reduceIte, List.set_nil, iHead, opR, opF, slF, partI, List.length_append, List.length_map, List.length_cons, List.length_nil, Nat.zero_add, z1, z2, z3, z4, hc]
  exact ⟨_, rfl⟩
theorem law_body (ns : List Int) (h : ns.length ≤ 63) : ∃ m', callF tab LL 41 22 [.d (.list (ns.map .int))] [] = .ok (.d (.bool true)) m' := by
  obtain ⟨m1, i1⟩ := head_ok (callF tab LL 40) ns h none none none none
  obtain ⟨o, m2, q, ρ', rfl, hI⟩ := for_post (f := DL.G.turnS (.nm 1) bC (callF tab LL 40) LL) (I := fun _ ρ _ => ∃ c1 c2 c3 c4, ρ = [some (.d (.list (ns.map .int))), c1, c2, c3, c4]) (((0 :: ns).take 10).map .int) 0 (fun x hx i ρ m2 hi hI => by
    obtain ⟨q1, q2, q3, q4, rfl⟩ := hI
    obtain ⟨c, _, rfl⟩ := List.mem_map.mp hx
    obtain ⟨o, m3, e3, z2, z3, z4, rfl⟩ := cell_step m2 (some (.d (.list (ns.map .int)))) q2 q3 q4 c
    exact ⟨_, m3, e3, _, rfl, some (.d (.int c)), z2, z3, z4, rfl⟩)
    [some (.d (.list (ns.map .int))), none, none, none, none] m1 ⟨none, none, none, none, rfl⟩
  obtain ⟨m3, e3⟩ := last_ok ρ' m2
  refine ⟨[], ?_⟩
  show evFn (callF tab LL 40) LL f22 _ [] = _
  refine (DL.G.fn_rt (f := f22) (v := .d (.bool true)) (m1 := m3) rfl ?_).trans rfl
  show evSs (callF tab LL 40) LL b22 [some (.d (.list (ns.map .int))), none, none, none, none] [] = _
  rw [show b22 = .cons (.for (.nm 1) iHead bC) (.cons (.ret eLast) .nil) from rfl]
  rw [DL.G.ss_nx ((DL.G.s_for i1).trans q)]
  exact DL.G.ss_rt (DL.G.s_ret e3)
end DL.X
end
section
set_option Elab.async false
set_option linter.all false
set_option maxRecDepth 100000
set_option maxHeartbeats 4000000
/-! H16: the table of the law keeps what is asked; the head. -/
namespace DL.K16
open PySem DL DL.G PySem.Spec PyProof.Rows L2 C8

abbrev S (x : String) : Str := Str.ofString x
def bd (j : Nat) : Stmt := PySem.Challenge.pw_doubledoors_k16_houses_with_one_part_cha.main.body.getD j (.Pass ⟨0, 0, 0, 0⟩)
def r0 : Row := ⟨0, S "is_word", [false, false], bd 11, [S "value", S "words"], [S "value", S "words"]⟩
def r1 : Row := ⟨1, S "is_habit_value", [false], bd 12, [S "value"], [S "value"]⟩
def r2 : Row := ⟨2, S "is_home", [false], bd 13, [S "value", S "one"], [S "value"]⟩
def r3 : Row := ⟨3, S "is_pair", [false], bd 14, [S "value"], [S "value"]⟩
def r4 : Row := ⟨4, S "is_house_value", [false], bd 15, [S "value", S "lamp", S "linked", S "inner", S "outer", S "homes", S "one"], [S "value"]⟩
def r5 : Row := ⟨5, S "need_house", [false], bd 16, [S "value"], [S "value"]⟩
def r6 : Row := ⟨6, S "parts_of", [false], bd 19, [S "house", S "lamp", S "linked", S "inner", S "outer", S "homes", S "found", S "home", S "habit"], [S "house"]⟩
def r7 : Row := ⟨7, S "house_of", [false, false], bd 20, [S "parts", S "many", S "rest", S "habits", S "at"], [S "parts", S "many"]⟩
def r8 : Row := ⟨8, S "values_of", [false], bd 21, [S "at"], [S "at"]⟩
def r9 : Row := ⟨9, S "changed", [false, false], bd 22, [S "parts", S "first", S "found", S "at", S "value"], [S "parts", S "first"]⟩
def r10 : Row := ⟨10, S "ones", [false], bd 23, [S "house", S "many", S "parts", S "at", S "other"], [S "house"]⟩
def r11 : Row := ⟨11, S "changes", [false], bd 24, [S "house"], [S "house"]⟩
def r12 : Row := ⟨12, S "_law_deck", [false, false], bd 26, [S "cell", S "turn"], [S "cell", S "turn"]⟩
def r13 : Row := ⟨13, S "_law_pick", [true, false], bd 27, [S "deck", S "size", S "number", S "found"], [S "deck", S "size"]⟩
def r14 : Row := ⟨14, S "_law_one", [true, false], bd 28, [S "deck", S "some"], [S "deck", S "some"]⟩
def r15 : Row := ⟨15, S "_law_sort", [false], bd 29, [S "thing"], [S "thing"]⟩
def r16 : Row := ⟨16, S "_law_same", [false, false], bd 30, [S "told", S "due", S "k", S "part"], [S "told", S "due"]⟩
def r17 : Row := ⟨17, S "_law_habit", [true], bd 31, [S "deck", S "bolts_so", S "goes_so", S "undoes_so", S "forgets_so"], [S "deck"]⟩
def r18 : Row := ⟨18, S "_law_room", [true, false], bd 32, [S "deck", S "most", S "lamp", S "inner", S "words_so", S "outer", S "homes", S "k", S "home", S "turn"], [S "deck", S "most"]⟩
def r19 : Row := ⟨19, S "_law_put", [false, false, false], bd 33, [S "pair", S "k", S "truth"], [S "pair", S "k", S "truth"]⟩
def r20 : Row := ⟨20, S "_law_known", [], bd 34, [S "plain", S "wide", S "looking", S "narrow", S "head", S "some"], []⟩
def r21 : Row := ⟨21, S "_law_ones", [false], bd 35, [S "house", S "lamp", S "linked", S "inner", S "outer", S "homes", S "found", S "table", S "k", S "word", S "number", S "habit", S "at", S "value", S "new", S "home"], [S "house"]⟩
def r22 : Row := ⟨22, S "law", [false], bd 36, [S "script", S "cell", S "deck", S "turn", S "house"], [S "script"]⟩
def ld : LD := ⟨[r0, r1, r2, r3, r4, r5, r6, r7, r8, r9, r10, r11, r12, r13, r14, r15, r16, r17, r18, r19, r20, r21, r22], [(S "LAMPS", (.tuple [(.str (S "bolts")), (.str (S "none")), (.str (S "within"))])), (S "OUTERS", (.tuple [(.str (S "any")), (.str (S "leaving")), (.str (S "none"))])), (S "BOLTS", (.tuple [(.str (S "both")), (.str (S "none")), (.str (S "own"))])), (S "GOES", (.tuple [(.str (S "either")), (.str (S "same"))])), (S "UNDOES", (.tuple [(.str (S "both")), (.str (S "own"))])), (S "FORGETS", (.tuple [(.str (S "all")), (.str (S "bolts")), (.str (S "never")), (.str (S "undoing"))])), (S "MOST_HABITS", (.int (2))), (S "TRUTHS", (.tuple [(.bool false), (.bool true)]))], [S "all", S "bool", S "enumerate", S "int", S "isinstance", S "len", S "list", S "range", S "sorted", S "str", S "tuple"]⟩
theorem ok0 : RowOk ld tab r0 := ⟨fnScope_by (by decide +kernel), fun _ _ _ _ _ _ us hl => match us, hl with | [_, _], _ => rfl, rfl, rfl, by kernel_rfl⟩
theorem ok1 : RowOk ld tab r1 := ⟨fnScope_by (by decide +kernel), fun _ _ _ _ _ _ us hl => match us, hl with | [_], _ => rfl, rfl, rfl, by kernel_rfl⟩
theorem ok2 : RowOk ld tab r2 := ⟨fnScope_by (by decide +kernel), fun _ _ _ _ _ _ us hl => match us, hl with | [_], _ => rfl, rfl, rfl, by kernel_rfl⟩
theorem ok3 : RowOk ld tab r3 := ⟨fnScope_by (by decide +kernel), fun _ _ _ _ _ _ us hl => match us, hl with | [_], _ => rfl, rfl, rfl, by kernel_rfl⟩
theorem ok4 : RowOk ld tab r4 := ⟨fnScope_by (by decide +kernel), fun _ _ _ _ _ _ us hl => match us, hl with | [_], _ => rfl, rfl, rfl, by kernel_rfl⟩
theorem ok5 : RowOk ld tab r5 := ⟨fnScope_by (by decide +kernel), fun _ _ _ _ _ _ us hl => match us, hl with | [_], _ => rfl, rfl, rfl, by kernel_rfl⟩
theorem ok6 : RowOk ld tab r6 := ⟨fnScope_by (by decide +kernel), fun _ _ _ _ _ _ us hl => match us, hl with | [_], _ => rfl, rfl, rfl, by kernel_rfl⟩
theorem ok7 : RowOk ld tab r7 := ⟨fnScope_by (by decide +kernel), fun _ _ _ _ _ _ us hl => match us, hl with | [_, _], _ => rfl, rfl, rfl, by kernel_rfl⟩
theorem ok8 : RowOk ld tab r8 := ⟨fnScope_by (by decide +kernel), fun _ _ _ _ _ _ us hl => match us, hl with | [_], _ => rfl, rfl, rfl, by kernel_rfl⟩
theorem ok9 : RowOk ld tab r9 := ⟨fnScope_by (by decide +kernel), fun _ _ _ _ _ _ us hl => match us, hl with | [_, _], _ => rfl, rfl, rfl, by kernel_rfl⟩
theorem ok10 : RowOk ld tab r10 := ⟨fnScope_by (by decide +kernel), fun _ _ _ _ _ _ us hl => match us, hl with | [_], _ => rfl, rfl, rfl, by kernel_rfl⟩
theorem ok11 : RowOk ld tab r11 := ⟨fnScope_by (by decide +kernel), fun _ _ _ _ _ _ us hl => match us, hl with | [_], _ => rfl, rfl, rfl, by kernel_rfl⟩
theorem ok12 : RowOk ld tab r12 := ⟨fnScope_by (by decide +kernel), fun _ _ _ _ _ _ us hl => match us, hl with | [_, _], _ => rfl, rfl, rfl, by kernel_rfl⟩
theorem ok13 : RowOk ld tab r13 := ⟨fnScope_by (by decide +kernel), fun _ _ _ _ _ _ us hl => match us, hl with | [_, _], _ => rfl, rfl, rfl, by kernel_rfl⟩
theorem ok14 : RowOk ld tab r14 := ⟨fnScope_by (by decide +kernel), fun _ _ _ _ _ _ us hl => match us, hl with | [_, _], _ => rfl, rfl, rfl, by kernel_rfl⟩
theorem ok15 : RowOk ld tab r15 := ⟨fnScope_by (by decide +kernel), fun _ _ _ _ _ _ us hl => match us, hl with | [_], _ => rfl, rfl, rfl, by kernel_rfl⟩
theorem ok16 : RowOk ld tab r16 := ⟨fnScope_by (by decide +kernel), fun _ _ _ _ _ _ us hl => match us, hl with | [_, _], _ => rfl, rfl, rfl, by kernel_rfl⟩
theorem ok17 : RowOk ld tab r17 := ⟨fnScope_by (by decide +kernel), fun _ _ _ _ _ _ us hl => match us, hl with | [_], _ => rfl, rfl, rfl, by kernel_rfl⟩
theorem ok18 : RowOk ld tab r18 := ⟨fnScope_by (by decide +kernel), fun _ _ _ _ _ _ us hl => match us, hl with | [_, _], _ => rfl, rfl, rfl, by kernel_rfl⟩
theorem ok19 : RowOk ld tab r19 := ⟨fnScope_by (by decide +kernel), fun _ _ _ _ _ _ us hl => match us, hl with | [_, _, _], _ => rfl, rfl, rfl, by kernel_rfl⟩
theorem ok20 : RowOk ld tab r20 := ⟨fnScope_by (by decide +kernel), fun _ _ _ _ _ _ us hl => match us, hl with | [], _ => rfl, rfl, rfl, by kernel_rfl⟩
theorem ok21 : RowOk ld tab r21 := ⟨fnScope_by (by decide +kernel), fun _ _ _ _ _ _ us hl => match us, hl with | [_], _ => rfl, rfl, rfl, by kernel_rfl⟩
theorem ok22 : RowOk ld tab r22 := ⟨fnScope_by (by decide +kernel), fun _ _ _ _ _ _ us hl => match us, hl with | [_], _ => rfl, rfl, rfl, by kernel_rfl⟩
theorem all_ok : AllRows ld tab ld.rows := ⟨ok0, ok1, ok2, ok3, ok4, ok5, ok6, ok7, ok8, ok9, ok10, ok11, ok12, ok13, ok14, ok15, ok16, ok17, ok18, ok19, ok20, ok21, ok22, trivial⟩
abbrev Rw : PySem.W.OpenRow := PySem.W.OpenLaw.row PySem.Challenge.rw_doubledoors_k16_houses_with_one_part_cha
def loose : List Str := [S "DoorError", S "InvalidHouse", S "LAMPS", S "OUTERS", S "BOLTS", S "GOES", S "UNDOES", S "FORGETS", S "MOST_HABITS", S "is_word", S "is_habit_value", S "is_home", S "is_pair", S "is_house_value", S "need_house", S "TRUTHS", S "parts_of", S "house_of", S "values_of", S "changed", S "ones", S "changes", S "_law_deck", S "_law_pick", S "_law_one", S "_law_sort", S "_law_same", S "_law_habit", S "_law_room", S "_law_put", S "_law_known", S "_law_ones"]
theorem run (w : World) : HandSHeadRun.RunEq Rw (PySem.W.view Rw.prog [36]) (hookL 6 ld) (obL 6 ld) 20000 loose w := by
  intro os
  kernel_rfl
def DEPTH : Nat := 40
theorem walk (hpure : ∀ ns : List Int, ns.length ≤ 63 → ∃ m', callF tab 1000000 (DEPTH + 1) 22 [.d (.list (ns.map .int))] [] = .ok (.d (.bool true)) m') : (PySem.Challenge.rw_doubledoors_k16_houses_with_one_part_cha).Holds := by
  w_on; o_law
  refine HandSHeadRun.head_any (r := Rw) (q := PySem.W.view Rw.prog [36]) (H := hookL 6 ld) (ob := obL 6 ld) (M := 20000) (loose := loose) (d := HandSHeadRun.topDef Rw.prog 36) (kwd := []) (obL_eq 6 ld)
    (by kernel_rfl) (fun s => by kernel_rfl) run (by kernel_rfl) (by kernel_rfl) (by kernel_rfl) (by rfl) (by first | assumption | decide +kernel) (by decide +kernel) ⟨rfl, rfl, rfl, rfl, rfl, by decide +kernel⟩ ?hw ?hc
  case hw => w_witness2
  case hc =>
    refine L2.walk_ofE (l := PySem.Challenge.rw_doubledoors_k16_houses_with_one_part_cha) (n := 63) (k := DEPTH + 1) (x := Str.ofString "script") (CX := L2.CX0) rfl (by decide) (by kernel_rfl) ⟨rfl, by decide, by decide⟩ ?F (fun _ _ _ _ z => z)
    intro w mg fa h Y G hmg0
    obtain ⟨K, KX, c⟩ := Y
    have hmg : mg r22.name = some (.ref fa) := by
      have e : (HandSHeadRun.topDef Rw.prog 36).name = r22.name := by kernel_rfl
      rw [← e]
      exact hmg0
    exact law_F (r := r22) all_ok c KX G (by simp [ld]) rfl hmg hpure
end DL.K16
end
section
set_option Elab.async false
set_option linter.all false
set_option maxRecDepth 100000

theorem PySem.Challenge.cw_doubledoors_k16_houses_with_one_part_cha_holds : PySem.Challenge.rw_doubledoors_k16_houses_with_one_part_cha.Holds := by
  exact DL.K16.walk DL.X.law_body
end
