import PyProof.Rows.All
import HandS.ForMost
import HandS.Walk
import HandS.IsInst
import HandS.Gcd
import HandS.Wide
import HandS.Deep
import HandS.Conv
import HandS.Style
import HandS.TupLen
import HandS.TupSets
import KE.KDictDisplayH
import HandS.SortInts
import HandS.Small
import HandS.DictComp
import HandS.Defaults
import HandS.MakeKwOnly
import HandS.Codes
import KE.GoesNew
import HandS.Zip
import HandS.Dict
import HandS.Words
import HandS.HeadHook2
import PyProof.Rows.SortShellAny
import HandS.Steps
import HandS.GenList
import HandS.AnyAll
import HandS.Comp
import HandS.HeadHook4
import PyProof.GenQ
import HandS.WordsDict
import HandS.Head0
import HandS.Head1
import HandS.Head2
import HandS.Head3
import HandS.HeadEnd
import HandS.HeadHook1
import HandS.HeadHook3
import HandS.EndTab
import Wide.All
import OpenK.AllK
import Wide.FinOn
import PySem.Challenge.RW_blockedshots_k74_whole_half_lists
set_option Elab.async false
set_option linter.all false
set_option maxRecDepth 100000
set_option maxHeartbeats 1000000
/-! ## NR2 -/
section
/-! NR2: dicts whose keys are tuples of any depth, over HandS. -/
namespace ND
open PySem PySem.Spec PyProof.Rows L2
/-! ### keys -/
mutual
def nk : PyData → NestedKey
  | .none => .none
  | .bool b => .num (if b = true then 1 else 0)
  | .int i => .num i
  | .str x => .text x
  | .tuple ds => .tup (nks ds)
  | .list _ => .none
  | .dict _ => .none
def nks : List PyData → List NestedKey
  | [] => []
  | d :: ds => nk d :: nks ds
end
mutual
/-- hashable data -/
def hd : PyData → Bool
  | .none => true
  | .bool _ => true
  | .int _ => true
  | .str _ => true
  | .tuple ds => hds ds
  | .list _ => false
  | .dict _ => false
def hds : List PyData → Bool
  | [] => true
  | d :: ds => hd d && hds ds
end
def isTup : PyData → Bool
  | .tuple _ => true
  | _ => false
/-- a tuple that may be a key here -/
def keyOk (d : PyData) : Bool := isTup d && hd d && decide ((nk d).depth ≤ 8)
theorem keyOk_hd {d : PyData} (h : keyOk d = true) : hd d = true := (Bool.and_eq_true_iff.mp (Bool.and_eq_true_iff.mp h).1).2
theorem keyOk_tup {d : PyData} (h : keyOk d = true) : ∃ ds, d = .tuple ds := by
  have h1 := (Bool.and_eq_true_iff.mp (Bool.and_eq_true_iff.mp h).1).1
  cases d with
  | tuple ds => exact ⟨ds, rfl⟩
  | _ => cases h1
theorem keyOk_depth {d : PyData} (h : keyOk d = true) : (nk d).depth ≤ 8 := of_decide_eq_true (Bool.and_eq_true_iff.mp h).2
section
variable {K : PySem.W.Frag} {F F' : Hp}
mutual
theorem dp_hd (ht : ∀ a xs, SqT K F a xs → SqT K F' a xs) : ∀ (x : PyData) (v : V), hd x = true → Dp K F v x → Dp K F' v x
  | .none, _, _, h => by cases h; exact .non
  | .bool _, _, _, h => by cases h; exact .bl _
  | .int _, _, _, h => by cases h; exact .int _
  | .str _, _, _, h => by cases h; exact .str _
  | .list ds, _, p, h => by cases p
  | .tuple ds, _, p, h => by
    cases h with
    | tup h1 h2 => exact .tup (ht _ _ h1) (dpa_hd ht ds _ p h2)
  | .dict _, _, _, h => by cases h
theorem dpa_hd (ht : ∀ a xs, SqT K F a xs → SqT K F' a xs) : ∀ (ds : List PyData) (vs : List V), hds ds = true → DpAll K F vs ds → DpAll K F' vs ds
  | [], _, _, h => by cases h; exact .nil
  | d :: ds, _, p, h => by
    cases h with
    | cons h1 h2 =>
      obtain ⟨p1, p2⟩ := Bool.and_eq_true_iff.mp (show (hd d && hds ds) = true from p)
      exact .cons (dp_hd ht d _ p1 h1) (dpa_hd ht ds _ p2 h2)
end
end
section
variable {X : Cx} {pins : List (Addr × Obj)} {σ : L2.St} {H : Hp} {s : Shared}
mutual
theorem nested_of (I : Inv X pins σ H s) : ∀ (d : PyData) (v : V) (u : Value), Dp X.K H v d → RelV v u → hd d = true → NestedIs s.heap (nk d) u
  | .none, _, _, h, r, _ => by cases h; cases r; exact .none
  | .bool b, _, _, h, r, _ => by cases h; cases r; exact .bool rfl
  | .int i, _, _, h, r, _ => by cases h; obtain ⟨t, rfl⟩ := r; exact .int i t
  | .str x, _, _, h, r, _ => by cases h; obtain ⟨t, rfl⟩ := r; exact .text x t
  | .tuple ds, _, _, h, r, k => by
    cases h with
    | tup h1 h2 =>
      cases r
      obtain ⟨its, rv, ⟨o, ho, hc, n, hdt⟩, _⟩ := I.tuple h1
      exact .tup ho hc hdt (by simpa using nested_all I ds _ its h2 rv k)
  | .list _, _, _, _, _, k => by cases k
  | .dict _, _, _, _, _, k => by cases k
theorem nested_all (I : Inv X pins σ H s) : ∀ (ds : List PyData) (vs : List V) (us : List Value), DpAll X.K H vs ds → Vals vs us → hds ds = true → NestedAll s.heap (nks ds) us
  | [], _, _, h, r, _ => by cases h; cases r; exact .nil
  | d :: ds, _, _, h, r, k => by
    cases h with
    | cons h1 h2 =>
      cases r with
      | cons r1 r2 =>
        obtain ⟨k1, k2⟩ := Bool.and_eq_true_iff.mp (show (hd d && hds ds) = true from k)
        exact .cons (nested_of I d _ _ h1 r1 k1) (nested_all I ds _ _ h2 r2 k2)
end
theorem key_is (I : Inv X pins σ H s) {d : PyData} {b : Addr} (h : Dp X.K H (.ref b) d) (k : keyOk d = true) : (nestedKind X.prog X.w).is s.heap (nk d) b := ⟨nested_of I d _ _ h rfl (keyOk_hd k), keyOk_depth k⟩
theorem key_ref {K : PySem.W.Frag} {d : PyData} {v : V} (h : Dp K H v d) (k : keyOk d = true) : ∃ b, v = .ref b := by
  obtain ⟨ds, rfl⟩ := keyOk_tup k
  cases h
  exact ⟨_, rfl⟩
end
/-! ### the object -/
abbrev NE := NestedKey × Addr × V
abbrev NU := NestedKey × Addr × Value
abbrev NR (es : List NE) (us : List NU) : Prop := Paired (fun p q => p.1 = q.1 ∧ p.2.1 = q.2.1 ∧ RelV p.2.2 q.2.2) es us
def nphi (P : Program) (w : World) (a : Addr) (es : List NE) (h : Heap) : Prop := es.length ≤ sizeLine ∧ (a == sysModules) = false ∧ ∃ us : List NU, NR es us ∧ ∃ o es' ep, h.get? a = some o ∧ o.ExactDict ∧ o.data = .dict es' ep ∧ es'.toList = us.map (entryOfKey (nestedKind P w)) ∧ (us.map (·.1)).Nodup
/-- the dict at a, by its keys, where their tuples stand, and the values -/
def NDO (P : Program) (w : World) (a : Addr) (es : List NE) : HO := .ext (nphi P w a es)
theorem ndo_ok {P : Program} {w : World} {H : Hp} {h : Heap} {a : Addr} {es : List NE} (x : nphi P w a es h) : ObjOk P w H h a (NDO P w a es) := by
  refine ⟨x, ?_, fun h1 h2 y st => ?_⟩
  · obtain ⟨_, _, us, _, o, _, _, e, _⟩ := x
    exact ⟨o, e⟩
  · obtain ⟨y1, y2, us, y3, o, es', ep, e, r⟩ := y
    exact ⟨y1, y2, us, y3, o, es', ep, st o e, r⟩
/-- what the dict at a holds: keys as data -/
abbrev NK (K : PySem.W.Frag) (H : Hp) (es : List NE) (kvs : List (PyData × V)) : Prop := Paired (fun p q => p.1 = nk q.1 ∧ Dp K H (.ref p.2.1) q.1 ∧ keyOk q.1 = true ∧ p.2.2 = q.2) es kvs
def NRep (P : Program) (w : World) (K : PySem.W.Frag) (H : Hp) (a : Addr) (kvs : List (PyData × V)) : Prop := ∃ es, H a = some (NDO P w a es) ∧ NK K H es kvs
section
variable {κ : Type}
def valN (kvs : List (PyData × κ)) (k : PyData) : Option κ := (kvs.find? fun p => decide (nk p.1 = nk k)).map (·.2)
def putN (kvs : List (PyData × κ)) (k : PyData) (v : κ) : List (PyData × κ) := if (valN kvs k).isSome = true then kvs.map (fun p => if nk p.1 = nk k then (p.1, v) else p) else kvs ++ [(k, v)]
theorem putN_length (kvs : List (PyData × κ)) (k : PyData) (v : κ) : (putN kvs k v).length ≤ kvs.length + 1 := by
  unfold putN
  split
  · rw [List.length_map]; omega
  · rw [List.length_append, List.length_singleton]; exact Nat.le_refl _
end
def putE (es : List NE) (k : NestedKey) (b : Addr) (v : V) : List NE := if (es.any fun p => decide (p.1 = k)) = true then es.map (fun p => if p.1 = k then (p.1, p.2.1, v) else p) else es ++ [(k, b, v)]
theorem NR.at {es : List NE} {us : List NU} (r : NR es us) (k : NestedKey) : (∃ b v u, atKey us k = some (b, u) ∧ (es.find? fun p => decide (p.1 = k)) = some (k, b, v) ∧ RelV v u) ∨ (atKey us k = none ∧ (es.find? fun p => decide (p.1 = k)) = none) := by
  induction r with
  | nil => exact .inr ⟨rfl, rfl⟩
  | @cons p q ps qs h t ih =>
    obtain ⟨k1, b1, v1⟩ := p
    obtain ⟨k2, b2, u2⟩ := q
    obtain ⟨e1, e2, rv⟩ := h
    have e1 : k1 = k2 := e1
    have e2 : b1 = b2 := e2
    subst e1 e2
    by_cases hk : k1 = k
    · subst hk
      exact .inl ⟨b1, v1, u2, by simp [atKey, List.find?_cons], by simp [List.find?_cons], rv⟩
    · have h1 : atKey ((k1, b1, u2) :: qs) k = atKey qs k := by simp [atKey, List.find?_cons, hk]
      have h2 : (((k1, b1, v1) :: ps).find? fun p => decide (p.1 = k)) = ps.find? fun p => decide (p.1 = k) := by simp [List.find?_cons, hk]
      rw [h1, h2]
      exact ih
theorem NR.any {es : List NE} {us : List NU} (r : NR es us) (k : NestedKey) : (es.any fun p => decide (p.1 = k)) = (atKey us k).isSome := by
  rcases r.at k with ⟨b, v, u, h1, h2, _⟩ | ⟨h1, h2⟩
  · rw [h1]
    have := List.find?_isSome.mp (by rw [h2]; rfl : (es.find? fun p => decide (p.1 = k)).isSome = true)
    obtain ⟨x, hx, hp⟩ := this
    exact List.any_eq_true.mpr ⟨x, hx, hp⟩
  · rw [h1]
    refine List.any_eq_false.mpr fun x hx hp => ?_
    exact (List.find?_eq_none.mp h2) x hx hp
theorem NR.rep {es : List NE} {us : List NU} (r : NR es us) (k : NestedKey) {v : V} {u : Value} (rv : RelV v u) : NR (es.map (fun p => if p.1 = k then (p.1, p.2.1, v) else p)) (us.map (putAt k u)) := by
  induction r with
  | nil => exact .nil
  | @cons p q ps qs h t ih =>
    rw [List.map_cons, List.map_cons]
    refine .cons ?_ ih
    unfold putAt
    obtain ⟨e1, e2, r1⟩ := h
    by_cases hk : p.1 = k
    · rw [if_pos hk, if_pos (e1 ▸ hk)]
      exact ⟨e1, e2, rv⟩
    · rw [if_neg hk, if_neg (e1 ▸ hk)]
      exact ⟨e1, e2, r1⟩
theorem NR.put {es : List NE} {us : List NU} (r : NR es us) (k : NestedKey) (b : Addr) {v : V} {u : Value} (rv : RelV v u) : NR (putE es k b v) (storedH us k b u) := by
  unfold putE storedH
  rw [r.any k]
  split
  · exact r.rep k rv
  · have app : ∀ {es : List NE} {us : List NU}, NR es us → NR (es ++ [(k, b, v)]) (us ++ [(k, b, u)]) := by
      intro es us r
      induction r with
      | nil => exact .cons ⟨rfl, rfl, rv⟩ .nil
      | cons h t ih => exact .cons h ih
    exact app r
theorem putE_length (es : List NE) (k : NestedKey) (b : Addr) (v : V) : (putE es k b v).length ≤ es.length + 1 := by
  unfold putE
  split
  · rw [List.length_map]; omega
  · rw [List.length_append, List.length_singleton]; exact Nat.le_refl _
section
variable {K : PySem.W.Frag} {H : Hp} {es : List NE} {kvs : List (PyData × V)}
theorem NK.find (r : NK K H es kvs) (k : PyData) : (es.find? fun p => decide (p.1 = nk k)).map (·.2.2) = valN kvs k := by
  unfold valN
  induction r with
  | nil => rfl
  | @cons p q ps qs h t ih =>
    obtain ⟨e1, _, _, e2⟩ := h
    by_cases hk : nk q.1 = nk k
    · have h1 : ((p :: ps).find? fun p => decide (p.1 = nk k)) = some p := List.find?_cons_of_pos (decide_eq_true (e1.trans hk))
      have h2 : ((q :: qs).find? fun p => decide (nk p.1 = nk k)) = some q := List.find?_cons_of_pos (decide_eq_true hk)
      rw [h1, h2]
      exact congrArg some e2
    · have h1 : ((p :: ps).find? fun p => decide (p.1 = nk k)) = ps.find? fun p => decide (p.1 = nk k) := List.find?_cons_of_neg (by rw [decide_eq_false (fun z => hk (e1.symm.trans z))]; decide)
      have h2 : ((q :: qs).find? fun p => decide (nk p.1 = nk k)) = qs.find? fun p => decide (nk p.1 = nk k) := List.find?_cons_of_neg (by rw [decide_eq_false hk]; decide)
      rw [h1, h2]
      exact ih
theorem NK.any (r : NK K H es kvs) (k : PyData) : (es.any fun p => decide (p.1 = nk k)) = (valN kvs k).isSome := by
  rw [← r.find k]
  cases e : es.find? fun p => decide (p.1 = nk k) with
  | none =>
    rw [List.any_eq_false.mpr fun x hx hp => (List.find?_eq_none.mp e) x hx hp]
    rfl
  | some x =>
    have h1 := List.find?_some e
    have h2 := List.mem_of_find?_eq_some e
    rw [List.any_eq_true.mpr ⟨x, h2, h1⟩]
    rfl
theorem NK.rep {H' : Hp} (r : NK K H es kvs) (hH : ∀ d v, Dp K H v d → hd d = true → Dp K H' v d) (k : PyData) (v : V) : NK K H' (es.map (fun p => if p.1 = nk k then (p.1, p.2.1, v) else p)) (kvs.map (fun p => if nk p.1 = nk k then (p.1, v) else p)) := by
  induction r with
  | nil => exact .nil
  | @cons p q ps qs h t ih =>
    rw [List.map_cons, List.map_cons]
    refine .cons ?_ ih
    obtain ⟨e1, e2, e3, e4⟩ := h
    have e2 := hH _ _ e2 (keyOk_hd e3)
    by_cases hk : nk q.1 = nk k
    · rw [if_pos (e1.trans hk), if_pos hk]
      exact ⟨e1, e2, e3, rfl⟩
    · rw [if_neg (fun z => hk (e1.symm.trans z)), if_neg hk]
      exact ⟨e1, e2, e3, e4⟩
theorem NK.put {H' : Hp} (r : NK K H es kvs) (hH : ∀ d v, Dp K H v d → hd d = true → Dp K H' v d) {k : PyData} {b : Addr} {v : V} (hb : Dp K H (.ref b) k) (hk : keyOk k = true) : NK K H' (putE es (nk k) b v) (putN kvs k v) := by
  unfold putE putN
  rw [r.any k]
  have up : ∀ {p : NE} {q : PyData × V}, (p.1 = nk q.1 ∧ Dp K H (.ref p.2.1) q.1 ∧ keyOk q.1 = true ∧ p.2.2 = q.2) → (p.1 = nk q.1 ∧ Dp K H' (.ref p.2.1) q.1 ∧ keyOk q.1 = true ∧ p.2.2 = q.2) := fun h => ⟨h.1, hH _ _ h.2.1 (keyOk_hd h.2.2.1), h.2.2⟩
  split
  · exact r.rep hH k v
  · have app : ∀ {es : List NE} {kvs : List (PyData × V)}, NK K H es kvs → NK K H' (es ++ [(nk k, b, v)]) (kvs ++ [(k, v)]) := by
      intro es kvs r
      induction r with
      | nil => exact .cons ⟨rfl, hH _ _ hb (keyOk_hd hk), hk, rfl⟩ .nil
      | cons h t ih => exact .cons (up h) ih
    exact app r
end
section
variable {X : Cx} {pins : List (Addr × Obj)} {σ : L2.St} {H : Hp} {s : Shared} {a : Addr} {kvs : List (PyData × V)}
/-- the dict as the library has it -/
theorem rep_h (I : Inv X pins σ H s) {es : List NE} (h : H a = some (NDO X.prog X.w a es)) (hk : NK X.K H es kvs) : es.length ≤ sizeLine ∧ (a == sysModules) = false ∧ ∃ us, NR es us ∧ s.heap.DictOfH (nestedKind X.prog X.w) a us := by
  obtain ⟨⟨z, hs, us, r, o, es', ep, e, hx, hd, he, hn⟩, _, _⟩ := (show ObjOk X.prog X.w H s.heap a (NDO X.prog X.w a es) from I.hok a _ h)
  refine ⟨z, hs, us, r, o, es', ep, e, hx, hd, he, fun x hx => ?_, hn⟩
  have all : ∀ {es : List NE} {us : List NU} {kvs : List (PyData × V)}, NR es us → NK X.K H es kvs → ∀ x ∈ us, (nestedKind X.prog X.w).is s.heap x.1 x.2.1 := by
    intro es us kvs r
    induction r generalizing kvs with
    | nil => intro _ x hx; exact nomatch hx
    | @cons p q ps qs h t ih =>
      intro k x hx
      cases k with
      | @cons _ q' _ qs' k1 k2 =>
        rcases List.mem_cons.mp hx with e | hx
        · subst e
          obtain ⟨e1, e2, _⟩ := h
          obtain ⟨f1, f2, f3, _⟩ := k1
          rw [← e1, ← e2, f1]
          exact key_is I f2 f3
        · exact ih k2 x hx
  exact all r hk x hx
theorem room_nd {A : Around} (hu : A.units + 9 < cLine) : (nestedKind X.prog X.w).room A.in1 := by show A.units + 1 + 8 < cLine; omega
/-! ### in, [], []= -/
def rIn (P : Program) (w : World) (K : PySem.W.Frag) (neg : Bool) : R2 := fun x y H Q => ∃ a kvs k, y = .ref a ∧ NRep P w K H a kvs ∧ Dp K H x k ∧ keyOk k = true ∧ Q (.bl (if neg then !(valN kvs k).isSome else (valN kvs k).isSome)) H
theorem op_in (hu : X.A.units + 9 < cLine) : OpR X (compareOp .In) (rIn X.prog X.w X.K false) := by
  intro pins s σ H x y v u Q I rx ry h
  obtain ⟨a, kvs, k, rfl, ⟨es, e, r⟩, hx, hk, q⟩ := h
  obtain ⟨b, rfl⟩ := key_ref hx hk
  cases rx
  cases ry
  obtain ⟨z, hs, us, nr, dd⟩ := rep_h I e r
  refine wpAny_in_heap (room_nd hu) (key_is I hx hk) hs dd ⟨.bl _, H, I.tok _, rfl, ?_⟩
  rw [← nr.any, r.any]
  exact q
theorem op_notIn (hu : X.A.units + 9 < cLine) : OpR X (compareOp .NotIn) (rIn X.prog X.w X.K true) := by
  intro pins s σ H x y v u Q I rx ry h
  obtain ⟨a, kvs, k, rfl, ⟨es, e, r⟩, hx, hk, q⟩ := h
  obtain ⟨b, rfl⟩ := key_ref hx hk
  cases rx
  cases ry
  obtain ⟨z, hs, us, nr, dd⟩ := rep_h I e r
  refine wpAny_notIn_heap (room_nd hu) (key_is I hx hk) hs dd ⟨.bl _, H, I.tok _, rfl, ?_⟩
  rw [← nr.any, r.any]
  exact q
/-- d[k] -/
def rGet (P : Program) (w : World) (K : PySem.W.Frag) : R2 := fun x y H Q => ∃ a kvs k v, x = .ref a ∧ NRep P w K H a kvs ∧ Dp K H y k ∧ keyOk k = true ∧ valN kvs k = some v ∧ Q v H
theorem nd_getItem {b : Addr} {k : PyData} {v : V} {Q : Value → Shared → Prop} (hu : X.A.units + 9 < cLine) (I : Inv X pins σ H s) (hr : NRep X.prog X.w X.K H a kvs) (hx : Dp X.K H (.ref b) k) (hk : keyOk k = true) (hv : valN kvs k = some v)
    (h : ∀ w' s', Inv X pins σ H s' → RelV v w' → Q w' s') : wpAny (model X.prog X.w) X.A (getItem (.ref a) (.ref b)) Q X.xe s ∧ s.TypeIs (.ref a) "dict" := by
  obtain ⟨es, e, r⟩ := hr
  obtain ⟨z, hs, us, nr, dd⟩ := rep_h I e r
  refine ⟨?_, dd.typeIs⟩
  rcases nr.at (nk k) with ⟨b', v', u', h1, h2, rv⟩ | ⟨h1, h2⟩
  · refine wpAny_getItem_heap (room_nd hu) (key_is I hx hk) dd h1 (h u' _ (I.tok _) ?_)
    have := r.find k
    rw [h2, hv] at this
    have : v' = v := Option.some.inj this
    rw [← this]
    exact rv
  · have := r.find k
    rw [h2, hv] at this
    cases this
/-- d[k], the key an expression -/
def tGet (P : Program) (w : World) (K : PySem.W.Frag) (td ty : TE) : TE := tOp (rGet P w K) td ty
theorem pe_get {o i : Expr} {pos : Pos} {td ty : TE} (hu : X.A.units + 9 < cLine) (ho : PE X o td) (hi : PE X i ty) (hs : NoSl i) : PE X (.Subscript o i pos) (tOp (rGet X.prog X.w X.K) td ty) := by
  refine ⟨fun pins s σ H Q I h => ?_⟩
  refine subD_of PySem.F.slot_dict_getitem.lookup hs (thn (ho.run pins s σ H _ I h) fun u s1 ⟨x, H1, I1, rx, q1⟩ => thn (hi.run pins s1 σ H1 _ I1 q1) fun iv s2 ⟨y, H2, I2, ry, a, kvs, k, v, ex, hr, hy, hk, hv, q2⟩ => ?_)
  subst ex
  obtain rfl : u = Value.ref a := rx
  obtain ⟨b, rfl⟩ := key_ref hy hk
  obtain rfl : iv = Value.ref b := ry
  have z := nd_getItem (Q := EP X pins σ Q) hu I2 hr hy hk hv fun w' s3 I3 rw' => ⟨v, H2, I3, rw', q2⟩
  exact ⟨z.2, z.1⟩
theorem dp_upd {K : PySem.W.Frag} {o : HO} (hm : ∃ es P w, H a = some (NDO P w a es)) : ∀ d v, Dp K H v d → hd d = true → Dp K (upd H a o) v d := by
  have ht : ∀ b xs, SqT K H b xs → SqT K (upd H a o) b xs := fun b xs h => by
    obtain ⟨es, P, w, e⟩ := hm
    rcases h with (h | ⟨ob, h⟩) | h
    · refine .inl (.inl ?_)
      rw [upd_ne (ne_of h e (by intro z; cases z))]
      exact h
    · refine .inl (.inr ⟨ob, ?_⟩)
      rw [upd_ne (ne_of h e (by intro z; cases z))]
      exact h
    · exact .inr h
  exact fun d v h k => dp_hd ht d v k h
/-- d[k] = v, by values -/
def rSet (P : Program) (w : World) (K : PySem.W.Frag) : V → V → V → Hp → (Hp → Prop) → Prop := fun o i v H Q => ∃ a es kvs k b, o = .ref a ∧ i = .ref b ∧ H a = some (NDO P w a es) ∧ NK K H es kvs ∧ Dp K H (.ref b) k ∧ keyOk k = true ∧ kvs.length < sizeLine ∧
  Q (upd H a (NDO P w a (putE es (nk k) b v)))
theorem set_nd (hu : X.A.units + 9 < cLine) : PSet X (rSet X.prog X.w X.K) := by
  intro pins s σ H o i v ov iv u Q I ro ri rv h
  obtain ⟨a, es, kvs, k, b, rfl, rfl, e, r, hb, hk, hz, q⟩ := h
  cases ro
  cases ri
  obtain ⟨z, hs, us, nr, dd⟩ := rep_h I e r
  have hl : us.length = es.length := (Paired.length nr).symm
  have hl2 : es.length = kvs.length := Paired.length r
  refine wpAny_setItem_heap (hsz := by omega) (room_nd hu) (key_is I hb hk) dd fun h' dd' hs' => ⟨_, ?_, q⟩
  obtain ⟨o', es', ep, ho', hx, hdt, he, _, hn⟩ := dd'
  refine d_write I (by rw [e]; exact True.intro) hs' ⟨o', ho'⟩ (ndo_ok ⟨?_, hs, _, nr.put (nk k) b rv, o', es', ep, ho', hx, hdt, he, hn⟩)
  have := putE_length es (nk k) b v
  omega
/-- the new dict stands empty -/
theorem nd_empty {P : Program} {w : World} {H : Hp} (h : Heap) (hb : sysModules < h.objs.size) : ObjOk P w H (h.push { cls := .type "dict", data := .dict #[] }) h.objs.size (NDO P w h.objs.size []) :=
  ndo_ok ⟨Nat.zero_le _, beq_eq_false_iff_ne.mpr (Ne.symm (Nat.ne_of_lt hb)), [], .nil, _, #[], 0, Heap.get?_push_size _ rfl, ⟨rfl, rfl, rfl⟩, rfl, rfl, List.nodup_nil⟩
/-- {} -/
def tNew (P : Program) (w : World) : TE := fun _ H Q => ∀ p, H p = none → Q (.ref p) (upd H p (NDO P w p []))
theorem pe_new {pos : Pos} : PE X (.Dict [] [] pos) (tNew X.prog X.w) := ⟨fun pins s σ H Q I h =>
  wpAny_Dict_empty ⟨.ref s.heap.objs.size, _, I.laid (a := s.heap.objs.size) (o := NDO X.prog X.w s.heap.objs.size []) (t' := s.toks) (fun _ _ q => Heap.get?_push_of_some _ q) (Nat.le_refl _) (nd_empty s.heap I.big), rfl, h _ (I.hok.fresh (Nat.le_refl _))⟩⟩
/-- {k: v}, k a tuple -/
def tDisp1 (P : Program) (w : World) (K : PySem.W.Frag) (tk tv : TE) : TE := fun σ H Q => ∀ p, H p = none → tk σ (upd H p (NDO P w p [])) fun x H1 => tv σ H1 fun y H2 => ∃ k b, x = .ref b ∧ Dp K H2 x k ∧ keyOk k = true ∧ H2 p = some (NDO P w p []) ∧ Q (.ref p) (upd H2 p (NDO P w p [(nk k, b, y)]))
theorem pe_disp1 {pos : Pos} {ke ve : Expr} {tk tv : TE} (hu : X.A.units + 8 < cLine) (hk : PE X ke tk) (hv : PE X ve tv) : PE X (.Dict [some ke] [ve] pos) (tDisp1 X.prog X.w X.K tk tv) := by
  refine ⟨fun pins s σ H Q I h => ?_⟩
  have hn := I.hok.fresh (Nat.le_refl s.heap.objs.size)
  have I1 := I.laid (a := s.heap.objs.size) (o := NDO X.prog X.w s.heap.objs.size []) (h' := s.heap.push { cls := .type "dict", data := .dict #[] }) (t' := s.toks) (fun _ _ q => Heap.get?_push_of_some _ q) (Nat.le_refl _) (nd_empty s.heap I.big)
  rw [arm_eval_Dict, zip_pairTrees [some ke] [ve] X.env pos rfl rfl, dictDisplay_pairs (pairTrees [some ke] [ve] X.env pos) (by intro z; cases z) (by show 1 < 17; decide)]
  refine wpAny_bind (wpAny_standAt (wpAny_bind (wpAny_subDictH (knd := nestedKind X.prog X.w) (Q := fun d s' => wpAny (model X.prog X.w) X.A (Pure.pure (Value.ref d)) (EP X pins σ Q) X.xe s') hu (by show 1 ≤ 15; decide) ?_)))
  refine pairTrees_cons_walk (thn (hk.run pins _ σ _ _ I1 (h _ hn)) fun u s1 ⟨x, H1, J1, rx, q1⟩ => thn (hv.run pins s1 σ H1 _ J1 q1) fun w2 s2 ⟨y, H2, J2, ry, q2⟩ => pairTrees_nil_walk ?_)
  obtain ⟨k, b, rfl, hx, hko, hp, q⟩ := q2
  obtain rfl : u = Value.ref b := rx
  obtain ⟨z, hs, us, nr, dd⟩ := rep_h (kvs := []) J2 hp .nil
  cases nr
  refine ⟨[(nk k, b, w2)], ⟨rfl, rfl, key_is J2 hx hko, trivial⟩, dd, fun h' tk' dd' hs' => wpAny_pure ⟨.ref s.heap.objs.size, _, ?_, rfl, q⟩⟩
  obtain ⟨o', es', ep, ho', hxd, hdt, he, _, hnd⟩ := dd'
  exact d_write (t' := tk') J2 (by rw [hp]; exact True.intro) hs' ⟨o', ho'⟩ (ndo_ok ⟨by show 1 ≤ sizeLine; decide, hs, _, .cons ⟨rfl, rfl, ry⟩ .nil, o', es', ep, ho', hxd, hdt, he, hnd⟩)
end
end ND
end
/-! ## AB1 -/
section
/-! AB1: an abstract, heap-free state over the layer HandS: slots and a stack hold data. -/
namespace AB
open PySem PySem.Spec PyProof.Rows L2
/-! ### data -/
section
variable {Γ : Wd} {K : PySem.W.Frag} {F F' : Hp}
theorem sql_same {a : Addr} {xs : List V} (e : Same F F') (h : SqL K F a xs) : SqL K F' a xs := e.seq h
theorem sqt_same {a : Addr} {xs : List V} (e : Same F F') (h : SqT K F a xs) : SqT K F' a xs := by
  rcases h with (h | ⟨o, h⟩) | h
  · exact .inl (.inl (e _ _ h))
  · exact .inl (.inr ⟨o, e _ _ h⟩)
  · exact .inr h
mutual
theorem dp_mono (hl : ∀ a xs, SqL K F a xs → SqL K F' a xs) (ht : ∀ a xs, SqT K F a xs → SqT K F' a xs) : ∀ (x : PyData) (v : V), Dp K F v x → Dp K F' v x
  | .none, _, h => by cases h; exact .non
  | .bool _, _, h => by cases h; exact .bl _
  | .int _, _, h => by cases h; exact .int _
  | .str _, _, h => by cases h; exact .str _
  | .list ds, _, h => by
    cases h with
    | lst h1 h2 => exact .lst (hl _ _ h1) (dpa_mono hl ht ds _ h2)
  | .tuple ds, _, h => by
    cases h with
    | tup h1 h2 => exact .tup (ht _ _ h1) (dpa_mono hl ht ds _ h2)
  | .dict _, _, h => by cases h
theorem dpa_mono (hl : ∀ a xs, SqL K F a xs → SqL K F' a xs) (ht : ∀ a xs, SqT K F a xs → SqT K F' a xs) : ∀ (ds : List PyData) (vs : List V), DpAll K F vs ds → DpAll K F' vs ds
  | [], _, h => by cases h; exact .nil
  | d :: ds, _, h => by
    cases h with
    | cons h1 h2 => exact .cons (dp_mono hl ht d _ h1) (dpa_mono hl ht ds _ h2)
end
theorem dp_same {x : PyData} {v : V} (e : Same F F') (h : Dp K F v x) : Dp K F' v x := dp_mono (fun _ _ h => sql_same e h) (fun _ _ h => sqt_same e h) x v h
theorem dpa_same {ds : List PyData} {vs : List V} (e : Same F F') (h : DpAll K F vs ds) : DpAll K F' vs ds := dpa_mono (fun _ _ h => sql_same e h) (fun _ _ h => sqt_same e h) ds vs h
theorem dpa_len : ∀ {ds : List PyData} {vs : List V}, DpAll K F vs ds → vs.length = ds.length
  | [], _, h => by cases h; rfl
  | d :: ds, _, h => by
    cases h with
    | cons h1 h2 => rw [List.length_cons, List.length_cons, dpa_len h2]
theorem dpa_get : ∀ {ds : List PyData} {vs : List V} {i : Nat} {d : PyData}, DpAll K F vs ds → ds[i]? = some d → ∃ v, vs[i]? = some v ∧ Dp K F v d
  | [], _, _, _, h, e => by simp at e
  | x :: ds, _, 0, d, h, e => by
    cases h with
    | cons h1 h2 =>
      have e' : x = d := by simpa using e
      subst e'
      exact ⟨_, rfl, h1⟩
  | x :: ds, _, i + 1, d, h, e => by
    cases h with
    | cons h1 h2 =>
      obtain ⟨v, h3, h4⟩ := dpa_get (i := i) (d := d) h2 (by simpa using e)
      exact ⟨v, by simpa using h3, h4⟩
theorem dpa_getV : ∀ {ds : List PyData} {vs : List V} {i : Nat} {v : V}, DpAll K F vs ds → vs[i]? = some v → ∃ d, ds[i]? = some d ∧ Dp K F v d
  | [], _, _, _, h, e => by cases h; simp at e
  | x :: ds, _, 0, v, h, e => by
    cases h with
    | cons h1 h2 =>
      rw [List.getElem?_cons_zero] at e
      cases e
      exact ⟨_, rfl, h1⟩
  | x :: ds, _, i + 1, v, h, e => by
    cases h with
    | cons h1 h2 =>
      obtain ⟨d, h3, h4⟩ := dpa_getV (i := i) (v := v) h2 (by simpa using e)
      exact ⟨d, by simpa using h3, h4⟩
theorem dpa_append : ∀ {ds es : List PyData} {vs us : List V}, DpAll K F vs ds → DpAll K F us es → DpAll K F (vs ++ us) (ds ++ es)
  | [], _, _, _, h, q => by cases h; exact q
  | d :: ds, _, _, _, h, q => by
    cases h with
    | cons h1 h2 => exact .cons h1 (dpa_append h2 q)
theorem dpa_set : ∀ {ds : List PyData} {vs : List V} {v : V} {d : PyData} (i : Nat), DpAll K F vs ds → Dp K F v d → DpAll K F (vs.set i v) (ds.set i d)
  | [], _, _, _, _, h, q => by cases h; exact .nil
  | x :: ds, _, _, _, 0, h, q => by
    cases h with
    | cons h1 h2 => exact .cons q h2
  | x :: ds, _, _, _, i + 1, h, q => by
    cases h with
    | cons h1 h2 => exact .cons h1 (dpa_set i h2 q)
theorem dpa_take : ∀ {ds : List PyData} {vs : List V} (i : Nat), DpAll K F vs ds → DpAll K F (vs.take i) (ds.take i)
  | _, _, 0, _ => by rw [List.take_zero, List.take_zero]; exact .nil
  | [], _, _ + 1, h => by cases h; exact .nil
  | x :: ds, _, i + 1, h => by
    cases h with
    | cons h1 h2 => exact .cons h1 (dpa_take i h2)
theorem dpa_drop : ∀ {ds : List PyData} {vs : List V} (i : Nat), DpAll K F vs ds → DpAll K F (vs.drop i) (ds.drop i)
  | _, _, 0, h => by rw [List.drop_zero, List.drop_zero]; exact h
  | [], _, _ + 1, h => by cases h; exact .nil
  | x :: ds, _, i + 1, h => by
    cases h with
    | cons h1 h2 => exact dpa_drop i h2
theorem dpa_ints (ns : List Int) : DpAll K F (ns.map V.int) (ns.map PyData.int) := by
  induction ns with
  | nil => exact .nil
  | cons n ns ih => exact .cons (.int n) ih
theorem dpa_reverse : ∀ {ds : List PyData} {vs : List V}, DpAll K F vs ds → DpAll K F vs.reverse ds.reverse
  | [], _, h => by cases h; exact .nil
  | x :: ds, _, h => by
    cases h with
    | cons h1 h2 =>
      rw [List.reverse_cons, List.reverse_cons]
      exact dpa_append (dpa_reverse h2) (.cons h1 .nil)
/-- if the data are ints, so are the values -/
theorem dpa_ints_inv : ∀ {ns : List Int} {vs : List V}, DpAll K F vs (ns.map PyData.int) → vs = ns.map V.int
  | [], _, h => by cases h; rfl
  | n :: ns, _, h => by
    cases h with
    | cons h1 h2 =>
      cases h1
      rw [dpa_ints_inv h2]
      rfl
/-- a permutation of the values is one of the data -/
theorem dpa_mem {ds : List PyData} {vs : List V} (h : DpAll K F vs ds) {v : V} (hv : v ∈ vs) : ∃ d, d ∈ ds ∧ Dp K F v d := by
  obtain ⟨i, hi, e⟩ := List.getElem_of_mem hv
  obtain ⟨d, h1, h2⟩ := dpa_getV h (List.getElem?_eq_some_iff.mpr ⟨hi, e⟩)
  exact ⟨d, List.mem_of_getElem? h1, h2⟩
end
mutual
/-- no list, no dict within -/
def pure : PyData → Bool
  | .none => true
  | .bool _ => true
  | .int _ => true
  | .str _ => true
  | .tuple xs => pureAll xs
  | .list _ => false
  | .dict _ => false
def pureAll : List PyData → Bool
  | [] => true
  | x :: xs => pure x && pureAll xs
end
section
variable {Γ : Wd} {K : PySem.W.Frag} {F F' : Hp}
mutual
theorem dp_pure (ht : ∀ a xs, SqT K F a xs → SqT K F' a xs) : ∀ (x : PyData) (v : V), pure x = true → Dp K F v x → Dp K F' v x
  | .none, _, _, h => by cases h; exact .non
  | .bool _, _, _, h => by cases h; exact .bl _
  | .int _, _, _, h => by cases h; exact .int _
  | .str _, _, _, h => by cases h; exact .str _
  | .list ds, _, p, h => by cases p
  | .tuple ds, _, p, h => by
    cases h with
    | tup h1 h2 => exact .tup (ht _ _ h1) (dpa_pure ht ds _ p h2)
  | .dict _, _, _, h => by cases h
theorem dpa_pure (ht : ∀ a xs, SqT K F a xs → SqT K F' a xs) : ∀ (ds : List PyData) (vs : List V), pureAll ds = true → DpAll K F vs ds → DpAll K F' vs ds
  | [], _, _, h => by cases h; exact .nil
  | d :: ds, _, p, h => by
    cases h with
    | cons h1 h2 =>
      obtain ⟨p1, p2⟩ := Bool.and_eq_true_iff.mp (show (pure d && pureAll ds) = true from p)
      exact .cons (dp_pure ht d _ p1 h1) (dpa_pure ht ds _ p2 h2)
end
end
/-- the program and the world -/
structure Wd where
  P : Program
  w : World
  /-- the tables of code objects that may grow -/
  T : List Addr
/-! ### abstract values -/
inductive AV where
  /-- data that stand still (a list in it: nobody changes it any more) -/
  | d (x : PyData)
  /-- an own list, an own dict of int and text keys, of tuple keys: one name holds it -/
  | ol (ds : List PyData) | oK (kvs : List (Key × PyData)) | oT (kvs : List (List Key × PyData)) | oN (kvs : List (PyData × PyData))
  /-- an instance that stands still -/
  | ob (C : Addr) (fs : List (Str × PyData))
  /-- an own instance: its fields may change -/
  | sI (a C : Addr) (fs : List (Str × PyData))
  | rv (u : V)
  /-- what slot i holds -/
  | al (i : Nat)
  | un
/-- what an owned object may be -/
def Own : Option HO → Prop
  | some (.lst _) => True
  | some (.dK _) => True
  | some (.dT _) => True
  | some (.ext _) => True
  | some (.ins _ _ _) => True
  | some (.tbl _) => True
  | _ => False
abbrev Ow := Addr → Option (Nat × Nat)
abbrev PK2 (K : PySem.W.Frag) (F : Hp) {κ : Type} (ps : List (κ × V)) (kvs : List (κ × PyData)) : Prop := Paired (fun p q => p.1 = q.1 ∧ Dp K F p.2 q.2) ps kvs
def Ent (Γ : Wd) (K : PySem.W.Frag) (F H : Hp) (σ : L2.St) (ow : Ow) (o : Nat × Nat) (v : V) : AV → Prop
  | .d x => Dp K F v x
  | .ol ds => ∃ a xs, v = .ref a ∧ ow a = some o ∧ H a = some (.lst xs) ∧ DpAll K F xs ds
  | .oK kvs => ∃ a ps, v = .ref a ∧ ow a = some o ∧ H a = some (.dK ps) ∧ PK2 K F ps kvs
  | .oT kvs => ∃ a ps, v = .ref a ∧ ow a = some o ∧ H a = some (.dT ps) ∧ PK2 K F ps kvs
  | .oN kvs => ∃ (a : Addr) (es : List ND.NE) (ps : List (PyData × V)), v = .ref a ∧ ow a = some o ∧ H a = some (ND.NDO Γ.P Γ.w a es) ∧ ND.NK K F es ps ∧ PK2 K F ps kvs
  | .ob C fs => ∃ a dx ps, v = .ref a ∧ F a = some (.ins C dx ps) ∧ PK2 K F ps fs
  | .sI a C fs => ∃ dx ps, v = .ref a ∧ ow a = some o ∧ H a = some (.ins C dx ps) ∧ PK2 K F ps fs
  | .rv u => v = u
  | .al i => σ[i]? = some (some v)
  | .un => True
/-- whether an abstract value owns nothing and is no alias -/
def AV.fz : AV → Bool
  | .d _ => true
  | .ob _ _ => true
  | .rv _ => true
  | .un => true
  | _ => false
def AV.owned : AV → Bool
  | .ol _ => true
  | .oK _ => true
  | .oT _ => true
  | .oN _ => true
  | _ => false
/-- the stack: values on the way -/
def SOk (Γ : Wd) (K : PySem.W.Frag) (F H : Hp) (σ : L2.St) (ow : Ow) : List (V × AV) → Prop
  | [] => True
  | e :: E => Ent Γ K F H σ ow (1, E.length) e.1 e.2 ∧ SOk Γ K F H σ ow E
def SlOk (Γ : Wd) (K : PySem.W.Frag) (F H : Hp) (σ : L2.St) (ow : Ow) (i : Nat) (r : AV) : Prop := r = .un ∨ ∃ v, σ[i]? = some (some v) ∧ Ent Γ K F H σ ow (0, i) v r ∧ ∀ l, r ≠ .al l
/-- the law's bag at b -/
def BagOk0 (H : Hp) (ow : Ow) : Option Addr → Prop
  | none => True
  | some b => ∃ (g c : Addr) (l n : Int) (gs cs : List Int), ow b = some (2, 0) ∧ ow g = some (2, 1) ∧ ow c = some (2, 2) ∧ H b = some (.lst [.int l, .int n, .ref g, .ref c]) ∧
      H g = some (.lst (gs.map V.int)) ∧ H c = some (.lst (cs.map V.int)) ∧ cs ≠ [] ∧ cs.length ≤ 1000
/-- the tables stand -/
def TabsOk (Γ : Wd) (H : Hp) (ow : Ow) : Prop := ∀ P ∈ Γ.T, (∃ j, ow P = some (2, j)) ∧ ∃ ps : Array Value, H P = some (.tbl ps) ∧ TriplesOk ps.toList
def BagOk (Γ : Wd) (H : Hp) (ow : Ow) (β : Option Addr) : Prop := BagOk0 H ow β ∧ TabsOk Γ H ow
structure OkF (Γ : Wd) (K : PySem.W.Frag) (β : Option Addr) (Hb : Hp) (F : Hp) (ow : Ow) (E : List (V × AV)) (σ : L2.St) (ρ : List AV) (H : Hp) : Prop where
  base : Same Hb F
  same : Same F H
  own : ∀ a o, ow a = some o → F a = none ∧ Own (H a)
  stk : SOk Γ K F H σ ow E
  len : σ.length = ρ.length
  slot : ∀ i r, ρ[i]? = some r → SlOk Γ K F H σ ow i r
  bag : BagOk Γ H ow β
def Ok (Γ : Wd) (K : PySem.W.Frag) (β : Option Addr) (Hb : Hp) (E : List (V × AV)) (σ : L2.St) (ρ : List AV) (H : Hp) : Prop := ∃ F ow, OkF Γ K β Hb F ow E σ ρ H
section
variable {Γ : Wd} {K : PySem.W.Frag} {β : Option Addr} {Hb F F' H H' : Hp} {ow ow' : Ow} {E : List (V × AV)} {σ σ' : L2.St} {ρ : List AV} {o o' : Nat × Nat} {v : V} {r : AV}
theorem nk_same {es : List ND.NE} {ps : List (PyData × V)} (e : Same F F') (h : ND.NK K F es ps) : ND.NK K F' es ps := Paired.mapP h fun _ _ z => ⟨z.1, dp_same e z.2.1, z.2.2⟩
theorem pk2_same {κ : Type} {ps : List (κ × V)} {kvs : List (κ × PyData)} (e : Same F F') (h : PK2 K F ps kvs) : PK2 K F' ps kvs := Paired.mapP h fun _ _ z => ⟨z.1, dp_same e z.2⟩
/-- F grows, what is owned stays, the slots stay where an alias looks -/
theorem Ent.keep (h : Ent Γ K F H σ ow o v r) (hF : Same F F') (hk : ∀ a, ow a = some o → ow' a = some o' ∧ H' a = H a) (hs : ∀ i, r = .al i → σ'[i]? = σ[i]?) : Ent Γ K F' H' σ' ow' o' v r := by
  cases r with
  | d x => exact dp_same hF h
  | ol ds => obtain ⟨a, xs, e1, e2, e3, e4⟩ := h; exact ⟨a, xs, e1, (hk a e2).1, (hk a e2).2.trans e3, dpa_same hF e4⟩
  | oK kvs => obtain ⟨a, xs, e1, e2, e3, e4⟩ := h; exact ⟨a, xs, e1, (hk a e2).1, (hk a e2).2.trans e3, pk2_same hF e4⟩
  | oT kvs => obtain ⟨a, xs, e1, e2, e3, e4⟩ := h; exact ⟨a, xs, e1, (hk a e2).1, (hk a e2).2.trans e3, pk2_same hF e4⟩
  | oN kvs => obtain ⟨a, es, xs, e1, e2, e3, e5, e4⟩ := h; exact ⟨a, es, xs, e1, (hk a e2).1, (hk a e2).2.trans e3, nk_same hF e5, pk2_same hF e4⟩
  | ob C fs => obtain ⟨a, dx, ps, e1, e2, e3⟩ := h; exact ⟨a, dx, ps, e1, hF _ _ e2, pk2_same hF e3⟩
  | sI a C fs => obtain ⟨dx, ps, e1, e2, e3, e4⟩ := h; exact ⟨dx, ps, e1, (hk a e2).1, (hk a e2).2.trans e3, pk2_same hF e4⟩
  | rv u => exact h
  | al i => exact (hs i rfl).trans h
  | un => trivial
def NoAl (E : List (V × AV)) : Prop := ∀ e ∈ E, ∀ i, e.2 ≠ .al i
theorem NoAl.tail {e : V × AV} (h : NoAl (e :: E)) : NoAl E := fun x hx => h x (List.mem_cons_of_mem _ hx)
theorem NoAl.cons (h : NoAl E) (hr : ∀ i, r ≠ .al i) : NoAl ((v, r) :: E) := fun x hx => by
  rcases List.mem_cons.mp hx with e | e
  · rw [e]; exact hr
  · exact h x e
theorem SOk.keep (h : SOk Γ K F H σ ow E) (hF : Same F F') (hk : ∀ m, m < E.length → ∀ a, ow a = some (1, m) → ow' a = some (1, m) ∧ H' a = H a) (hs : NoAl E ∨ σ' = σ) : SOk Γ K F' H' σ' ow' E := by
  induction E with
  | nil => trivial
  | cons e E ih =>
    refine ⟨h.1.keep hF (hk E.length (Nat.lt_succ_self _)) fun i hi => ?_, ih h.2 (fun m hm => hk m (Nat.lt_succ_of_lt hm)) (hs.imp_left NoAl.tail)⟩
    rcases hs with z | z
    · exact absurd hi (z e List.mem_cons_self i)
    · rw [z]
theorem SlOk.keep {i : Nat} (h : SlOk Γ K F H σ ow i r) (hF : Same F F') (hk : ∀ a, ow a = some (0, i) → ow' a = some (0, i) ∧ H' a = H a) (hs : σ'[i]? = σ[i]?) : SlOk Γ K F' H' σ' ow' i r := by
  rcases h with h | ⟨v, e, h, n⟩
  · exact .inl h
  · exact .inr ⟨v, hs.trans e, h.keep hF hk fun l e => absurd e (n l), n⟩
theorem BagOk.keep (h : BagOk Γ H ow β) (hk : ∀ a j, ow a = some (2, j) → ow' a = some (2, j) ∧ H' a = H a) : BagOk Γ H' ow' β := by
  refine ⟨?_, fun P hP => ?_⟩
  · obtain ⟨h, _⟩ := h
    cases β with
    | none => trivial
    | some b =>
      obtain ⟨g, c, l, n, gs, cs, h1, h2, h3, h4, h5, h6, h7⟩ := h
      exact ⟨g, c, l, n, gs, cs, (hk _ _ h1).1, (hk _ _ h2).1, (hk _ _ h3).1, (hk _ _ h1).2.trans h4, (hk _ _ h2).2.trans h5, (hk _ _ h3).2.trans h6, h7⟩
  · obtain ⟨⟨j, h1⟩, ps, h2, h3⟩ := h.2 P hP
    exact ⟨⟨j, (hk _ _ h1).1⟩, ps, (hk _ _ h1).2.trans h2, h3⟩
theorem Own.ne_none {o : Option HO} (h : Own o) : o ≠ none := fun e => by rw [e] at h; exact h
/-- a new object that stands still -/
theorem OkF.frozen (x : OkF Γ K β Hb F ow E σ ρ H) {p : Addr} {u : HO} (hp : H p = none) : OkF Γ K β Hb (upd F p u) ow E σ ρ (upd H p u) := by
  have fp : F p = none := x.same.free hp
  have sF : Same F (upd F p u) := fun b z e => by rw [upd_ne (ne_of_none e fp)]; exact e
  have on : ∀ a o, ow a = some o → a ≠ p := fun a o e z => by
    have := (x.own a o e).2
    rw [z, hp] at this
    exact this
  have kp : ∀ a o, ow a = some o → ow a = some o ∧ upd H p u a = H a := fun a o e => ⟨e, upd_ne (on a o e)⟩
  refine ⟨x.base.trans sF, fun b z e => ?_, fun a o e => ?_, x.stk.keep sF (fun m _ a e => kp a _ e) (.inr rfl), x.len, fun i r e => (x.slot i r e).keep sF (fun a e => kp a _ e) rfl, x.bag.keep fun a j e => kp a _ e⟩
  · by_cases hb : b = p
    · subst hb; rw [upd_same] at e ⊢; exact e
    · rw [upd_ne hb] at e ⊢; exact x.same b z e
  · rw [upd_ne (on a o e), upd_ne (on a o e)]
    exact x.own a o e
theorem OkF.sameF (x : OkF Γ K β Hb F ow E σ ρ H) {p : Addr} {u : HO} (hp : H p = none) : Same F (upd F p u) := fun b z e => by
  rw [upd_ne (ne_of_none e (x.same.free hp))]; exact e
/-- the owner of an address is set; nobody live had it -/
def setOw (ow : Ow) (p : Addr) (o : Nat × Nat) : Ow := fun a => if a = p then some o else if ow a = some o then none else ow a
theorem setOw_same {p : Addr} : setOw ow p o p = some o := by unfold setOw; rw [if_pos rfl]
theorem setOw_ne {p a : Addr} {q : Nat × Nat} (h : a ≠ p) (e : ow a = some q) (hq : q ≠ o) : setOw ow p o a = some q := by
  unfold setOw
  rw [if_neg h, if_neg (fun z => hq (Option.some.inj (e.symm.trans z))), e]
theorem setOw_inv {p a : Addr} {q : Nat × Nat} (e : setOw ow p o a = some q) : a = p ∨ ow a = some q := by
  unfold setOw at e
  split at e
  · exact .inl ‹_›
  · split at e
    · cases e
    · exact .inr e
/-- a new owned object on the stack -/
theorem OkF.fresh (x : OkF Γ K β Hb F ow E σ ρ H) {p : Addr} {u : HO} (hp : H p = none) (hu : Own (some u)) (he : Ent Γ K F (upd H p u) σ (setOw ow p (1, E.length)) (1, E.length) v r) : OkF Γ K β Hb F (setOw ow p (1, E.length)) ((v, r) :: E) σ ρ (upd H p u) := by
  have on : ∀ a o, ow a = some o → a ≠ p := fun a o e z => by
    have := (x.own a o e).2
    rw [z, hp] at this
    exact this
  have kp : ∀ a o, o ≠ (1, E.length) → ow a = some o → setOw ow p (1, E.length) a = some o ∧ upd H p u a = H a := fun a o h e => ⟨setOw_ne (on a o e) e h, upd_ne (on a o e)⟩
  refine ⟨x.base, fun b z e => ?_, fun a o e => ?_, ⟨he, x.stk.keep (Same.refl F) (fun m hm a e => kp a _ (fun z => by cases z; exact Nat.lt_irrefl _ hm) e) (.inr rfl)⟩, x.len, fun i r e => (x.slot i r e).keep (Same.refl F) (fun a e => kp a _ (fun z => by cases z) e) rfl, x.bag.keep fun a j e => kp a _ (fun z => by cases z) e⟩
  · rw [upd_ne (ne_of_none (x.same b z e) hp)]
    exact x.same b z e
  · rcases setOw_inv e with z | z
    · subst z
      rw [upd_same]
      exact ⟨x.same.free hp, hu⟩
    · rw [upd_ne (on a o z)]
      exact x.own a o z
theorem Ok.pop {e : V × AV} (x : Ok Γ K β Hb (e :: E) σ ρ H) : Ok Γ K β Hb E σ ρ H := by
  obtain ⟨F, ow, x⟩ := x
  exact ⟨F, ow, x.base, x.same, x.own, x.stk.2, x.len, x.slot, x.bag⟩
/-- owners renamed: what q owned is p's; what p owned is nobody's -/
def reOw (ow : Ow) (q p : Nat × Nat) : Ow := fun a => if ow a = some q then some p else if ow a = some p then none else ow a
theorem reOw_to {p q : Nat × Nat} {a : Addr} (e : ow a = some q) : reOw ow q p a = some p := by unfold reOw; rw [if_pos e]
theorem reOw_ne {p q o : Nat × Nat} {a : Addr} (e : ow a = some o) (h1 : o ≠ q) (h2 : o ≠ p) : reOw ow q p a = some o := by
  unfold reOw
  rw [if_neg (fun z => h1 (Option.some.inj (e.symm.trans z))), if_neg (fun z => h2 (Option.some.inj (e.symm.trans z)))]
  exact e
theorem reOw_inv {p q o : Nat × Nat} {a : Addr} (e : reOw ow q p a = some o) : (ow a = some q ∧ o = p) ∨ ow a = some o := by
  unfold reOw at e
  split at e
  · exact .inl ⟨‹_›, (Option.some.inj e).symm⟩
  · split at e
    · cases e
    · exact .inr e
/-- behind the top entry, others are struck out -/
theorem OkF.push (x : OkF Γ K β Hb F ow E σ ρ H) (h : Ent Γ K F H σ ow (1, E.length) v r) : OkF Γ K β Hb F ow ((v, r) :: E) σ ρ H := ⟨x.base, x.same, x.own, ⟨h, x.stk⟩, x.len, x.slot, x.bag⟩
theorem Ent.any (h : Ent Γ K F H σ ow o v r) (f : r.fz = true) : Ent Γ K F H σ' ow' o' v r := by
  cases r with
  | d x => exact h
  | ob C fs => exact h
  | rv u => exact h
  | un => trivial
  | _ => cases f
/-- the stack behind arguments: the first below -/
def pushA : List V → List AV → List (V × AV) → List (V × AV)
  | v :: vs, r :: rs, E => pushA vs rs ((v, r) :: E)
  | _, _, E => E
theorem SOk.args : ∀ {vs : List V} {rs : List AV} {E : List (V × AV)}, SOk Γ K F H σ ow (pushA vs rs E) → SOk Γ K F H σ ow E
  | [], _, _, h => by unfold pushA at h; exact h
  | _ :: _, [], _, h => by unfold pushA at h; exact h
  | v :: vs, r :: rs, E, h => by
    unfold pushA at h
    exact (SOk.args h).2
theorem SOk.argsD : ∀ {vs : List V} {ds : List PyData} {E : List (V × AV)}, vs.length = ds.length → SOk Γ K F H σ ow (pushA vs (ds.map AV.d) E) → DpAll K F vs ds
  | [], [], _, _, h => .nil
  | v :: vs, d :: ds, E, e, h => by
    rw [List.map_cons] at h
    unfold pushA at h
    exact .cons (SOk.args h).1 (SOk.argsD (by simpa using e) h)
theorem Ok.args {vs : List V} {rs : List AV} (x : Ok Γ K β Hb (pushA vs rs E) σ ρ H) : Ok Γ K β Hb E σ ρ H := by
  obtain ⟨F, ow, x⟩ := x
  exact ⟨F, ow, x.base, x.same, x.own, x.stk.args, x.len, x.slot, x.bag⟩
end
end AB
end
/-! ## AB2 -/
section
/-! AB2: what an expression gives, over the abstract state. -/
namespace AB
open PySem PySem.Spec PyProof.Rows L2
abbrev Rho := List AV
def WE (Γ : Wd) (K : PySem.W.Frag) (β : Option Addr) (te : TE) (ρ : Rho) (k : AV → Rho → Prop) : Prop :=
  ∀ Hb E σ H, Ok Γ K β Hb E σ ρ H → ∀ Q : VK, (∀ v r ρ' H', k r ρ' → Ok Γ K β Hb ((v, r) :: E) σ ρ' H' → Q v H') → te σ H Q
def WT (Γ : Wd) (K : PySem.W.Frag) (β : Option Addr) (tt : TT) (ρ : Rho) (k : Bool → Rho → Prop) : Prop :=
  ∀ Hb E σ H, Ok Γ K β Hb E σ ρ H → ∀ Q : Bool → Hp → Prop, (∀ b ρ' H', k b ρ' → Ok Γ K β Hb E σ ρ' H' → Q b H') → tt σ H Q
def WA (Γ : Wd) (K : PySem.W.Frag) (β : Option Addr) (ta : TA) (ρ : Rho) (k : List AV → Rho → Prop) : Prop :=
  ∀ Hb E σ H, Ok Γ K β Hb E σ ρ H → ∀ Q : List V → Hp → Prop, (∀ vs rs ρ' H', k rs ρ' → vs.length = rs.length → Ok Γ K β Hb (pushA vs rs E) σ ρ' H' → Q vs H') → ta σ H Q
def WO (Γ : Wd) (K : PySem.W.Frag) (β : Option Addr) (to : TO) (ρ : Rho) (k : Option Int → Rho → Prop) : Prop :=
  ∀ Hb E σ H, Ok Γ K β Hb E σ ρ H → ∀ Q : Option Int → Hp → Prop, (∀ o ρ' H', k o ρ' → Ok Γ K β Hb E σ ρ' H' → Q o H') → to σ H Q
def lookO : Option AV → Option PyData
  | some (.ol ds) => some (.list ds)
  | _ => none
/-- the datum that an abstract value stands for -/
def look (ρ : Rho) : AV → Option PyData
  | .d x => some x
  | .ol ds => some (.list ds)
  | .al i => lookO ρ[i]?
  | _ => none
section
variable {Γ : Wd} {K : PySem.W.Frag} {β : Option Addr} {Hb F H H' : Hp} {ow : Ow} {E : List (V × AV)} {σ : L2.St} {ρ : Rho} {v : V} {r : AV} {o : Nat × Nat} {te ta tb tc : TE} {tt tu : TT} {tas : TA} {k : AV → Rho → Prop} {kb : Bool → Rho → Prop}
/-- what a list's items are, in F -/
theorem Ent.itemsL (x : OkF Γ K β Hb F ow E σ ρ H) (h : Ent Γ K F H σ ow o v r) {ds : List PyData} (e : look ρ r = some (.list ds)) : ∃ a xs, v = .ref a ∧ SqL K H a xs ∧ DpAll K F xs ds := by
  cases r with
  | d y =>
    cases e
    cases (show Dp K F v (.list ds) from h) with
    | lst h1 h2 => exact ⟨_, _, rfl, x.same.seq h1, h2⟩
  | ol es =>
    cases e
    obtain ⟨a, xs, rfl, _, e3, e4⟩ := h
    exact ⟨a, xs, rfl, .of e3, e4⟩
  | al i =>
    have h' : σ[i]? = some (some v) := h
    have e : lookO ρ[i]? = some (.list ds) := e
    cases q : ρ[i]? with
    | none => rw [q] at e; cases e
    | some r' =>
      rw [q] at e
      cases r' with
      | ol es =>
        cases e
        rcases x.slot i _ q with z | ⟨u, hu, z, _⟩
        · cases z
        · rw [h'] at hu
          cases hu
          obtain ⟨a, xs, rfl, _, e3, e4⟩ := z
          exact ⟨a, xs, rfl, .of e3, e4⟩
      | _ => cases e
  | _ => cases e
theorem Ent.itemsT (x : OkF Γ K β Hb F ow E σ ρ H) (h : Ent Γ K F H σ ow o v r) {ds : List PyData} (e : look ρ r = some (.tuple ds)) : ∃ a xs, v = .ref a ∧ SqT K H a xs ∧ DpAll K F xs ds := by
  cases r with
  | d y =>
    cases e
    cases (show Dp K F v (.tuple ds) from h) with
    | tup h1 h2 => exact ⟨_, _, rfl, sqt_same x.same h1, h2⟩
  | ol es => cases e
  | al i =>
    have e : lookO ρ[i]? = some (.tuple ds) := e
    cases q : ρ[i]? with
    | none => rw [q] at e; cases e
    | some r' =>
      rw [q] at e
      cases r' with
      | _ => cases e
  | _ => cases e
theorem Ent.look (x : OkF Γ K β Hb F ow E σ ρ H) (h : Ent Γ K F H σ ow o v r) {d : PyData} (e : look ρ r = some d) : Dp K H v d := by
  cases r with
  | d y =>
    cases e
    exact dp_same x.same h
  | ol ds =>
    cases e
    obtain ⟨a, xs, rfl, h1, h2⟩ := h.itemsL x rfl
    exact .lst h1 (dpa_same x.same h2)
  | al i =>
    have e' : lookO ρ[i]? = some d := e
    cases q : ρ[i]? with
    | none => rw [q] at e'; cases e'
    | some r' =>
      rw [q] at e'
      cases r' with
      | ol es =>
        cases e'
        obtain ⟨a, xs, rfl, h1, h2⟩ := h.itemsL x e
        exact .lst h1 (dpa_same x.same h2)
      | _ => cases e'
  | _ => cases e
theorem OkF.lookTop (x : OkF Γ K β Hb F ow ((v, r) :: E) σ ρ H) {d : PyData} (e : look ρ r = some d) : Dp K H v d := x.stk.1.look x e
theorem OkF.look2 {v' : V} {r' : AV} (x : OkF Γ K β Hb F ow ((v', r') :: (v, r) :: E) σ ρ H) {d : PyData} (e : look ρ r = some d) : Dp K H v d := x.stk.2.1.look x e
/-! names, constants -/
theorem we_d {i : Nat} {x : PyData} (h : ρ[i]? = some (.d x)) (q : k (.d x) ρ) : WE Γ K β (tVar i) ρ k := fun Hb E σ H x Q f => by
  obtain ⟨F, ow, x⟩ := x
  rcases x.slot i _ h with z | ⟨v, hv, z, _⟩
  · cases z
  · exact ⟨v, hv, f v _ ρ H q ⟨F, ow, x.push z⟩⟩
theorem we_fz {i : Nat} (h : ρ[i]? = some r) (hf : r.fz = true) (hn : r ≠ .un) (q : k r ρ) : WE Γ K β (tVar i) ρ k := fun Hb E σ H x Q f => by
  obtain ⟨F, ow, x⟩ := x
  rcases x.slot i _ h with z | ⟨v, hv, z, _⟩
  · exact absurd z hn
  · exact ⟨v, hv, f v _ ρ H q ⟨F, ow, x.push (z.any hf)⟩⟩
theorem we_ob {i : Nat} {C : Addr} {fs : List (Str × PyData)} (h : ρ[i]? = some (.ob C fs)) (q : k (.ob C fs) ρ) : WE Γ K β (tVar i) ρ k := we_fz h rfl (fun z => by cases z) q
theorem we_rv {i : Nat} {u : V} (h : ρ[i]? = some (.rv u)) (q : k (.rv u) ρ) : WE Γ K β (tVar i) ρ k := we_fz h rfl (fun z => by cases z) q
theorem we_al {i : Nat} (h : ρ[i]? = some r) (hn : r ≠ .un) (q : k (.al i) ρ) : WE Γ K β (tVar i) ρ k := fun Hb E σ H x Q f => by
  obtain ⟨F, ow, x⟩ := x
  rcases x.slot i _ h with z | ⟨v, hv, z, _⟩
  · exact absurd z hn
  · exact ⟨v, hv, f v _ ρ H q ⟨F, ow, x.push hv⟩⟩
theorem we_ol {i : Nat} {ds : List PyData} (h : ρ[i]? = some (.ol ds)) (q : k (.al i) ρ) : WE Γ K β (tVar i) ρ k := we_al h (fun z => by cases z) q
theorem we_oK {i : Nat} {ds : List (Key × PyData)} (h : ρ[i]? = some (.oK ds)) (q : k (.al i) ρ) : WE Γ K β (tVar i) ρ k := we_al h (fun z => by cases z) q
theorem we_oT {i : Nat} {ds : List (List Key × PyData)} (h : ρ[i]? = some (.oT ds)) (q : k (.al i) ρ) : WE Γ K β (tVar i) ρ k := we_al h (fun z => by cases z) q
theorem we_c {u : V} {d : PyData} (h : ∀ F : Hp, Dp K F u d) (q : k (.d d) ρ) : WE Γ K β (tC u) ρ k := fun Hb E σ H x Q f => by
  obtain ⟨F, ow, x⟩ := x
  exact f u _ ρ H q ⟨F, ow, x.push (r := .d d) (h F)⟩
theorem we_int {i : Int} (q : k (.d (.int i)) ρ) : WE Γ K β (tC (.int i)) ρ k := we_c (fun _ => .int i) q
theorem we_bl {b : Bool} (q : k (.d (.bool b)) ρ) : WE Γ K β (tC (.bl b)) ρ k := we_c (fun _ => .bl b) q
theorem we_non (q : k (.d .none) ρ) : WE Γ K β (tC .non) ρ k := we_c (fun _ => .non) q
theorem we_str {x : Str} (q : k (.d (.str x)) ρ) : WE Γ K β (tC (.str x)) ρ k := we_c (fun _ => .str x) q
theorem we_cv {u : V} (q : k (.rv u) ρ) : WE Γ K β (tC u) ρ k := fun Hb E σ H x Q f => by
  obtain ⟨F, ow, x⟩ := x
  exact f u _ ρ H q ⟨F, ow, x.push (r := .rv u) rfl⟩
/-! arguments -/
theorem wa_nil {k : List AV → Rho → Prop} (q : k [] ρ) : WA Γ K β tNil ρ k := fun Hb E σ H x Q f => f [] [] ρ H q rfl x
theorem wa_cons {k : List AV → Rho → Prop} (h : WE Γ K β te ρ fun r ρ1 => WA Γ K β tas ρ1 fun rs ρ2 => k (r :: rs) ρ2) : WA Γ K β (tCons te tas) ρ k := fun Hb E σ H x Q f =>
  h Hb E σ H x _ fun v r ρ1 H1 h1 x1 => h1 Hb _ σ H1 x1 _ fun vs rs ρ2 H2 h2 e x2 => f (v :: vs) (r :: rs) ρ2 H2 h2 (by rw [List.length_cons, List.length_cons, e]) (by unfold pushA; exact x2)
/-! operators -/
theorem okD {d : PyData} (x : OkF Γ K β Hb F ow E σ ρ H) (h : Dp K F v d) : Ok Γ K β Hb ((v, .d d) :: E) σ ρ H := ⟨F, ow, x.push (r := .d d) h⟩
theorem we_op {rr : R2} (h : WE Γ K β ta ρ fun x ρ1 => WE Γ K β tb ρ1 fun y ρ2 => ∀ Hb E σ H vx vy, Ok Γ K β Hb ((vy, y) :: (vx, x) :: E) σ ρ2 H → ∀ Q : VK, (∀ v r' ρ' H', k r' ρ' → Ok Γ K β Hb ((v, r') :: E) σ ρ' H' → Q v H') → rr vx vy H Q) :
    WE Γ K β (tOp rr ta tb) ρ k := fun Hb E σ H x Q f => h Hb E σ H x _ fun vx rx ρ1 H1 h1 x1 => h1 Hb _ σ H1 x1 _ fun vy ry ρ2 H2 h2 x2 => h2 Hb E σ H2 vx vy x2 Q f
theorem we_I0i {f : Int → Int → Int} (h : WE Γ K β ta ρ fun x ρ1 => WE Γ K β tb ρ1 fun y ρ2 => ∃ i j, x = .d (.int i) ∧ y = .d (.int j) ∧ k (.d (.int (f i j))) ρ2) : WE Γ K β (tOp (rI0 fun i j => .int (f i j)) ta tb) ρ k :=
  we_op fun Hb E σ H x Q g => h Hb E σ H x _ fun vx rx ρ1 H1 h1 x1 => g vx rx ρ1 H1 (fun Hb E σ H x Q g => h1 Hb E σ H x _ fun vy ry ρ2 H2 h2 x2 => g vy ry ρ2 H2 (by
    obtain ⟨i, j, rfl, rfl, q⟩ := h2
    intro Hb E σ H vx vy x Q g
    obtain ⟨F, ow, x⟩ := x
    have e1 : Dp K F vy (.int j) := x.stk.1
    have e2 : Dp K F vx (.int i) := x.stk.2.1
    cases e1
    cases e2
    exact ⟨i, j, rfl, rfl, g _ _ ρ2 H q (Ok.pop (Ok.pop ⟨F, ow, x⟩) |> fun ⟨F, ow, x⟩ => okD x (.int _))⟩) x2) x1
theorem we_I0b {f : Int → Int → Bool} (h : WE Γ K β ta ρ fun x ρ1 => WE Γ K β tb ρ1 fun y ρ2 => ∃ i j, x = .d (.int i) ∧ y = .d (.int j) ∧ k (.d (.bool (f i j))) ρ2) : WE Γ K β (tOp (rI0 fun i j => .bl (f i j)) ta tb) ρ k :=
  we_op fun Hb E σ H x Q g => h Hb E σ H x _ fun vx rx ρ1 H1 h1 x1 => g vx rx ρ1 H1 (fun Hb E σ H x Q g => h1 Hb E σ H x _ fun vy ry ρ2 H2 h2 x2 => g vy ry ρ2 H2 (by
    obtain ⟨i, j, rfl, rfl, q⟩ := h2
    intro Hb E σ H vx vy x Q g
    obtain ⟨F, ow, x⟩ := x
    have e1 : Dp K F vy (.int j) := x.stk.1
    have e2 : Dp K F vx (.int i) := x.stk.2.1
    cases e1
    cases e2
    exact ⟨i, j, rfl, rfl, g _ _ ρ2 H q (Ok.pop (Ok.pop ⟨F, ow, x⟩) |> fun ⟨F, ow, x⟩ => okD x (.bl _))⟩) x2) x1
theorem we_Ii {C : Int → Int → Prop} {f : Int → Int → Int} (h : WE Γ K β ta ρ fun x ρ1 => WE Γ K β tb ρ1 fun y ρ2 => ∃ i j, x = .d (.int i) ∧ y = .d (.int j) ∧ C i j ∧ k (.d (.int (f i j))) ρ2) : WE Γ K β (tOp (rI C fun i j => .int (f i j)) ta tb) ρ k :=
  we_op fun Hb E σ H x Q g => h Hb E σ H x _ fun vx rx ρ1 H1 h1 x1 => g vx rx ρ1 H1 (fun Hb E σ H x Q g => h1 Hb E σ H x _ fun vy ry ρ2 H2 h2 x2 => g vy ry ρ2 H2 (by
    obtain ⟨i, j, rfl, rfl, c, q⟩ := h2
    intro Hb E σ H vx vy x Q g
    obtain ⟨F, ow, x⟩ := x
    have e1 : Dp K F vy (.int j) := x.stk.1
    have e2 : Dp K F vx (.int i) := x.stk.2.1
    cases e1
    cases e2
    exact ⟨i, j, rfl, rfl, c, g _ _ ρ2 H q (Ok.pop (Ok.pop ⟨F, ow, x⟩) |> fun ⟨F, ow, x⟩ => okD x (.int _))⟩) x2) x1
/-- a rule for an operator whose answer is a datum that stands nowhere (a number, a truth value) -/
theorem we_opV {rr : R2} (h : WE Γ K β ta ρ fun x ρ1 => WE Γ K β tb ρ1 fun y ρ2 => ∃ z : V, ∃ d : PyData, (∀ F : Hp, Dp K F z d) ∧ k (.d d) ρ2 ∧ ∀ Hb E σ H F ow vx vy, OkF Γ K β Hb F ow ((vy, y) :: (vx, x) :: E) σ ρ2 H → ∀ Q : VK, Q z H → rr vx vy H Q) :
    WE Γ K β (tOp rr ta tb) ρ k :=
  we_op fun Hb E σ H x Q g => h Hb E σ H x _ fun vx rx ρ1 H1 h1 x1 => g vx rx ρ1 H1 (fun Hb E σ H x Q g => h1 Hb E σ H x _ fun vy ry ρ2 H2 h2 x2 => g vy ry ρ2 H2 (by
    obtain ⟨z, d, hz, q, hr⟩ := h2
    intro Hb E σ H vx vy x Q g
    obtain ⟨F, ow, x⟩ := x
    exact hr Hb E σ H F ow vx vy x Q (g z _ ρ2 H q (Ok.pop (Ok.pop ⟨F, ow, x⟩) |> fun ⟨F, ow, x⟩ => okD x (hz F)))) x2) x1
theorem we_eqD (h : WE Γ K β ta ρ fun x ρ1 => WE Γ K β tb ρ1 fun y ρ2 => ∃ d e, look ρ2 x = some d ∧ look ρ2 y = some e ∧ SeqAt.shaped d = true ∧ SeqAt.shaped e = true ∧ k (.d (.bool (PyData.eqv d e))) ρ2) : WE Γ K β (tOp (rEqD K) ta tb) ρ k :=
  we_opV fun Hb E σ H x Q g => h Hb E σ H x _ fun vx rx ρ1 H1 h1 x1 => g vx rx ρ1 H1 (fun Hb E σ H x Q g => h1 Hb E σ H x _ fun vy ry ρ2 H2 h2 x2 => g vy ry ρ2 H2 (by
    obtain ⟨d, e, l1, l2, s1, s2, q⟩ := h2
    exact ⟨.bl _, _, fun _ => .bl _, q, fun Hb E σ H F ow vx vy x Q hq => ⟨d, e, x.look2 l1, x.lookTop l2, s1, s2, hq⟩⟩) x2) x1
theorem we_neD (h : WE Γ K β ta ρ fun x ρ1 => WE Γ K β tb ρ1 fun y ρ2 => ∃ d e, look ρ2 x = some d ∧ look ρ2 y = some e ∧ SeqAt.shaped d = true ∧ SeqAt.shaped e = true ∧ k (.d (.bool (!PyData.eqv d e))) ρ2) : WE Γ K β (tOp (rNeD K) ta tb) ρ k :=
  we_opV fun Hb E σ H x Q g => h Hb E σ H x _ fun vx rx ρ1 H1 h1 x1 => g vx rx ρ1 H1 (fun Hb E σ H x Q g => h1 Hb E σ H x _ fun vy ry ρ2 H2 h2 x2 => g vy ry ρ2 H2 (by
    obtain ⟨d, e, l1, l2, s1, s2, q⟩ := h2
    exact ⟨.bl _, _, fun _ => .bl _, q, fun Hb E σ H F ow vx vy x Q hq => ⟨d, e, x.look2 l1, x.lookTop l2, s1, s2, hq⟩⟩) x2) x1
/-- a number among written or made numbers -/
theorem inV_int (i : Int) (ns : List Int) : inV (.int i) (ns.map V.int) = decide (i ∈ ns) := by
  induction ns with
  | nil => rfl
  | cons n ns ih =>
    unfold inV at ih ⊢
    rw [List.map_cons, List.any_cons, ih]
    have e : eqV (.int n) (.int i) = decide (i = n) := by
      show (n == i) = decide (i = n)
      rw [Bool.eq_iff_iff]
      simp only [beq_iff_eq, decide_eq_true_eq]
      exact ⟨fun h => h.symm, fun h => h.symm⟩
    rw [e, Bool.eq_iff_iff]
    simp
theorem flat_ints (ns : List Int) : (ns.map V.int).all flatV = true := by
  induction ns with
  | nil => rfl
  | cons n ns ih => rw [List.map_cons, List.all_cons, ih]; rfl
theorem we_inI {neg : Bool} (h : WE Γ K β ta ρ fun x ρ1 => WE Γ K β tb ρ1 fun y ρ2 => ∃ (i : Int) (ns : List Int), x = .d (.int i) ∧ (look ρ2 y = some (.list (ns.map .int)) ∨ look ρ2 y = some (.tuple (ns.map .int))) ∧ k (.d (.bool (if neg then !decide (i ∈ ns) else decide (i ∈ ns)))) ρ2) :
    WE Γ K β (tOp (rIn K neg) ta tb) ρ k :=
  we_opV fun Hb E σ H x Q g => h Hb E σ H x _ fun vx rx ρ1 H1 h1 x1 => g vx rx ρ1 H1 (fun Hb E σ H x Q g => h1 Hb E σ H x _ fun vy ry ρ2 H2 h2 x2 => g vy ry ρ2 H2 (by
    obtain ⟨i, ns, rfl, l, q⟩ := h2
    refine ⟨.bl _, _, fun _ => .bl _, q, fun Hb E σ H F ow vx vy x Q hq => ?_⟩
    have e2 : Dp K F vx (.int i) := x.stk.2.1
    cases e2
    rcases l with l | l
    · have e1 := x.lookTop l
      cases e1 with
      | lst hs ha =>
        rw [dpa_ints_inv ha] at hs
        exact ⟨_, _, rfl, .inl hs, rfl, flat_ints ns, by rw [inV_int]; exact hq⟩
    · have e1 := x.lookTop l
      cases e1 with
      | tup hs ha =>
        rw [dpa_ints_inv ha] at hs
        exact ⟨_, _, rfl, .inr hs, rfl, flat_ints ns, by rw [inV_int]; exact hq⟩) x2) x1
theorem we_inD (h : WE Γ K β ta ρ fun x ρ1 => WE Γ K β tb ρ1 fun y ρ2 => ∃ d ds, look ρ2 x = some d ∧ look ρ2 y = some (.list ds) ∧ SeqAt.shaped d = true ∧ SeqAt.shaped (.list ds) = true ∧ k (.d (.bool (ds.any fun z => PyData.eqv z d))) ρ2) : WE Γ K β (tOp (rInD K) ta tb) ρ k :=
  we_opV fun Hb E σ H x Q g => h Hb E σ H x _ fun vx rx ρ1 H1 h1 x1 => g vx rx ρ1 H1 (fun Hb E σ H x Q g => h1 Hb E σ H x _ fun vy ry ρ2 H2 h2 x2 => g vy ry ρ2 H2 (by
    obtain ⟨d, ds, l1, l2, s1, s2, q⟩ := h2
    exact ⟨.bl _, _, fun _ => .bl _, q, fun Hb E σ H F ow vx vy x Q hq => ⟨d, ds, x.look2 l1, x.lookTop l2, s1, s2, hq⟩⟩) x2) x1
theorem we_notInD (h : WE Γ K β ta ρ fun x ρ1 => WE Γ K β tb ρ1 fun y ρ2 => ∃ d ds, look ρ2 x = some d ∧ look ρ2 y = some (.list ds) ∧ SeqAt.shaped d = true ∧ SeqAt.shaped (.list ds) = true ∧ k (.d (.bool (!ds.any fun z => PyData.eqv z d))) ρ2) : WE Γ K β (tOp (rNotInD K) ta tb) ρ k :=
  we_opV fun Hb E σ H x Q g => h Hb E σ H x _ fun vx rx ρ1 H1 h1 x1 => g vx rx ρ1 H1 (fun Hb E σ H x Q g => h1 Hb E σ H x _ fun vy ry ρ2 H2 h2 x2 => g vy ry ρ2 H2 (by
    obtain ⟨d, ds, l1, l2, s1, s2, q⟩ := h2
    exact ⟨.bl _, _, fun _ => .bl _, q, fun Hb E σ H F ow vx vy x Q hq => ⟨d, ds, x.look2 l1, x.lookTop l2, s1, s2, hq⟩⟩) x2) x1
/-- a subscript: the item stands still -/
def atD (ds : List PyData) (i : Int) : Option PyData := atI ds i
theorem atI_dpa {ds : List PyData} {vs : List V} {i : Int} {d : PyData} (h : DpAll K F vs ds) (e : atI ds i = some d) : ∃ v, atI vs i = some v ∧ Dp K F v d := by
  unfold atI at e ⊢
  rw [dpa_len h]
  cases q : ixN ds.length i with
  | none => rw [q] at e; cases e
  | some j =>
    rw [q] at e
    exact dpa_get (i := j) h e
theorem we_ix (h : WE Γ K β ta ρ fun x ρ1 => WE Γ K β tb ρ1 fun y ρ2 => ∃ ds i d, (look ρ2 x = some (.list ds) ∨ look ρ2 x = some (.tuple ds)) ∧ y = .d (.int i) ∧ atI ds i = some d ∧ k (.d d) ρ2) : WE Γ K β (tOp (rIx K) ta tb) ρ k :=
  we_op fun Hb E σ H x Q g => h Hb E σ H x _ fun vx rx ρ1 H1 h1 x1 => g vx rx ρ1 H1 (fun Hb E σ H x Q g => h1 Hb E σ H x _ fun vy ry ρ2 H2 h2 x2 => g vy ry ρ2 H2 (by
    obtain ⟨ds, i, d, l, rfl, ed, q⟩ := h2
    intro Hb E σ H vx vy x Q g
    obtain ⟨F, ow, x⟩ := x
    have e2 : Dp K F vy (.int i) := x.stk.1
    cases e2
    obtain ⟨a, xs, rfl, hs, ha⟩ : ∃ a xs, vx = .ref a ∧ (SqL K H a xs ∨ SqT K H a xs) ∧ DpAll K F xs ds := by
      rcases l with l | l
      · obtain ⟨a, xs, h1, h2, h3⟩ := x.stk.2.1.itemsL x l
        exact ⟨a, xs, h1, .inl h2, h3⟩
      · obtain ⟨a, xs, h1, h2, h3⟩ := x.stk.2.1.itemsT x l
        exact ⟨a, xs, h1, .inr h2, h3⟩
    obtain ⟨v, hv, dv⟩ := atI_dpa ha ed
    have z : Q v H := g v _ ρ2 H q (Ok.pop (Ok.pop ⟨F, ow, x⟩) |> fun ⟨F', ow', x'⟩ => ⟨F, ow, ⟨x.base, x.same, x.own, ⟨dv, x.stk.2.2⟩, x.len, x.slot, x.bag⟩⟩)
    rcases hs with hs | hs
    · exact .inl ⟨a, xs, i, v, rfl, rfl, hs, hv, z⟩
    · exact .inr (.inl ⟨a, xs, i, v, rfl, rfl, hs, hv, z⟩)) x2) x1
/-! displays -/
theorem we_tup (h : WA Γ K β tas ρ fun rs ρ1 => ∃ ds : List PyData, rs = ds.map AV.d ∧ ds.length ≤ 100000 ∧ k (.d (.tuple ds)) ρ1) : WE Γ K β (tTup tas) ρ k := fun Hb E σ H x Q f =>
  h Hb E σ H x _ fun vs rs ρ1 H1 h1 e x1 => by
    obtain ⟨ds, rfl, hl, q⟩ := h1
    rw [List.length_map] at e
    refine ⟨by rw [e]; exact Nat.le_trans hl (by decide), fun p hp => f _ _ ρ1 _ q ?_⟩
    obtain ⟨F, ow, x1⟩ := x1
    have ha := x1.stk.argsD e
    have x0 : OkF Γ K β Hb F ow E σ ρ1 H1 := ⟨x1.base, x1.same, x1.own, x1.stk.args, x1.len, x1.slot, x1.bag⟩
    exact ⟨_, ow, (x0.frozen (u := .tup vs) hp).push (r := .d (.tuple ds)) (.tup (.of upd_same) (dpa_same (x0.sameF hp) ha))⟩
theorem we_lst (h : WA Γ K β tas ρ fun rs ρ1 => ∃ ds : List PyData, rs = ds.map AV.d ∧ ds.length ≤ 100000 ∧ k (.ol ds) ρ1) : WE Γ K β (tLst tas) ρ k := fun Hb E σ H x Q f =>
  h Hb E σ H x _ fun vs rs ρ1 H1 h1 e x1 => by
    obtain ⟨ds, rfl, hl, q⟩ := h1
    rw [List.length_map] at e
    refine ⟨by rw [e]; exact Nat.le_trans hl (by decide), fun p hp => f _ _ ρ1 _ q ?_⟩
    obtain ⟨F, ow, x1⟩ := x1
    have ha := x1.stk.argsD e
    have x0 : OkF Γ K β Hb F ow E σ ρ1 H1 := ⟨x1.base, x1.same, x1.own, x1.stk.args, x1.len, x1.slot, x1.bag⟩
    exact ⟨F, _, x0.fresh (u := .lst vs) (r := .ol ds) hp trivial ⟨p, vs, rfl, setOw_same, upd_same, ha⟩⟩
/-! tests, conditions -/
theorem wt_test (h : WE Γ K β te ρ fun r ρ1 => ∃ b, r = .d (.bool b) ∧ kb b ρ1) : WT Γ K β (tTest te) ρ kb := fun Hb E σ H x Q f =>
  h Hb E σ H x _ fun v r ρ1 H1 h1 x1 => by
    obtain ⟨b, rfl, q⟩ := h1
    obtain ⟨F, ow, x1⟩ := x1
    have e : Dp K F v (.bool b) := x1.stk.1
    cases e
    exact ⟨b, rfl, f b ρ1 H1 q (Ok.pop ⟨F, ow, x1⟩)⟩
theorem wt_B (h : WE Γ K β te ρ fun r ρ1 => ∃ b, r = .d (.bool b) ∧ kb b ρ1) : WT Γ K β (tB te) ρ kb := wt_test h
theorem wt_not (h : WT Γ K β tt ρ fun b ρ1 => kb (!b) ρ1) : WT Γ K β (tNot tt) ρ kb := fun Hb E σ H x Q f => h Hb E σ H x _ fun b ρ1 H1 h1 x1 => f _ ρ1 H1 h1 x1
theorem wt_and (h : WT Γ K β tt ρ fun b ρ1 => (b = true → WT Γ K β tu ρ1 kb) ∧ (b = false → kb false ρ1)) : WT Γ K β (tAnd tt tu) ρ kb := fun Hb E σ H x Q f => h Hb E σ H x _ fun b ρ1 H1 h1 x1 => by
  cases b with
  | true => exact iteT (h1.1 rfl Hb E σ H1 x1 Q f)
  | false => exact iteF (f false ρ1 H1 (h1.2 rfl) x1)
theorem wt_or (h : WT Γ K β tt ρ fun b ρ1 => (b = true → kb true ρ1) ∧ (b = false → WT Γ K β tu ρ1 kb)) : WT Γ K β (tOr tt tu) ρ kb := fun Hb E σ H x Q f => h Hb E σ H x _ fun b ρ1 H1 h1 x1 => by
  cases b with
  | true => exact iteT (f true ρ1 H1 (h1.1 rfl) x1)
  | false => exact iteF (h1.2 rfl Hb E σ H1 x1 Q f)
theorem we_if (h : WT Γ K β tt ρ fun b ρ1 => (b = true → WE Γ K β ta ρ1 k) ∧ (b = false → WE Γ K β tb ρ1 k)) : WE Γ K β (tIf tt ta tb) ρ k := fun Hb E σ H x Q f => h Hb E σ H x _ fun b ρ1 H1 h1 x1 => by
  cases b with
  | true => exact iteT (h1.1 rfl Hb E σ H1 x1 Q f)
  | false => exact iteF (h1.2 rfl Hb E σ H1 x1 Q f)
theorem we_andV (h : WE Γ K β ta ρ fun r ρ1 => ∃ b, r = .d (.bool b) ∧ (b = true → WE Γ K β tb ρ1 k) ∧ (b = false → k (.d (.bool false)) ρ1)) : WE Γ K β (tAndV ta tb) ρ k := fun Hb E σ H x Q f => h Hb E σ H x _ fun v r ρ1 H1 h1 x1 => by
  obtain ⟨b, rfl, q1, q2⟩ := h1
  obtain ⟨F, ow, x1⟩ := x1
  have e : Dp K F v (.bool b) := x1.stk.1
  cases e
  have x0 := Ok.pop ⟨F, ow, x1⟩
  refine ⟨b, rfl, ?_⟩
  cases b with
  | true => exact iteT (q1 rfl Hb E σ H1 x0 Q f)
  | false => exact iteF (f _ _ ρ1 H1 (q2 rfl) ⟨F, ow, x1⟩)
theorem we_orV (h : WE Γ K β ta ρ fun r ρ1 => ∃ b, r = .d (.bool b) ∧ (b = true → k (.d (.bool true)) ρ1) ∧ (b = false → WE Γ K β tb ρ1 k)) : WE Γ K β (tOrV ta tb) ρ k := fun Hb E σ H x Q f => h Hb E σ H x _ fun v r ρ1 H1 h1 x1 => by
  obtain ⟨b, rfl, q1, q2⟩ := h1
  obtain ⟨F, ow, x1⟩ := x1
  have e : Dp K F v (.bool b) := x1.stk.1
  cases e
  have x0 := Ok.pop ⟨F, ow, x1⟩
  refine ⟨b, rfl, ?_⟩
  cases b with
  | true => exact iteT (f _ _ ρ1 H1 (q1 rfl) ⟨F, ow, x1⟩)
  | false => exact iteF (q2 rfl Hb E σ H1 x0 Q f)
theorem we_notV (h : WE Γ K β ta ρ fun r ρ1 => ∃ b, r = .d (.bool b) ∧ k (.d (.bool (!b))) ρ1) : WE Γ K β (tNotV ta) ρ k := fun Hb E σ H x Q f => h Hb E σ H x _ fun v r ρ1 H1 h1 x1 => by
  obtain ⟨b, rfl, q⟩ := h1
  obtain ⟨F, ow, x1⟩ := x1
  have e : Dp K F v (.bool b) := x1.stk.1
  cases e
  exact ⟨b, rfl, f _ _ ρ1 H1 q (Ok.pop ⟨F, ow, x1⟩ |> fun ⟨F, ow, x⟩ => okD x (.bl _))⟩
theorem we_neg {f : Int → Int} (h : WE Γ K β ta ρ fun r ρ1 => ∃ i, r = .d (.int i) ∧ k (.d (.int (f i))) ρ1) : WE Γ K β (tUn (rU fun i => .int (f i)) ta) ρ k := fun Hb E σ H x Q g => h Hb E σ H x _ fun v r ρ1 H1 h1 x1 => by
  obtain ⟨i, rfl, q⟩ := h1
  obtain ⟨F, ow, x1⟩ := x1
  have e : Dp K F v (.int i) := x1.stk.1
  cases e
  exact ⟨i, rfl, g _ _ ρ1 H1 q (Ok.pop ⟨F, ow, x1⟩ |> fun ⟨F, ow, x⟩ => okD x (.int _))⟩
/-- a op b op' c, all ints: the middle asked once -/
theorem we_chain {f g : Int → Int → Bool} (h : WE Γ K β ta ρ fun x ρ1 => WE Γ K β tb ρ1 fun y ρ2 => ∃ i j, x = .d (.int i) ∧ y = .d (.int j) ∧
      (f i j = true → WE Γ K β tc ρ2 fun z ρ3 => ∃ l, z = .d (.int l) ∧ k (.d (.bool (g j l))) ρ3) ∧ (f i j = false → k (.d (.bool false)) ρ2)) :
    WE Γ K β (tChain (rI0 fun i j => .bl (f i j)) (rI0 fun i j => .bl (g i j)) ta tb tc) ρ k := fun Hb E σ H x Q q => h Hb E σ H x _ fun vx rx ρ1 H1 h1 x1 => h1 Hb _ σ H1 x1 _ fun vy ry ρ2 H2 h2 x2 => by
  obtain ⟨i, j, rfl, rfl, q1, q2⟩ := h2
  obtain ⟨F, ow, x2⟩ := x2
  have e1 : Dp K F vy (.int j) := x2.stk.1
  have e2 : Dp K F vx (.int i) := x2.stk.2.1
  cases e1
  cases e2
  have x0 := Ok.pop (Ok.pop ⟨F, ow, x2⟩)
  refine ⟨i, j, rfl, rfl, f i j, rfl, ?_⟩
  cases hf : f i j with
  | true => exact iteT (q1 hf Hb E σ H2 x0 _ fun vz rz ρ3 H3 h3 x3 => by
      obtain ⟨l, rfl, q3⟩ := h3
      obtain ⟨F, ow, x3⟩ := x3
      have e3 : Dp K F vz (.int l) := x3.stk.1
      cases e3
      exact ⟨j, l, rfl, rfl, q _ _ ρ3 H3 q3 (Ok.pop ⟨F, ow, x3⟩ |> fun ⟨F, ow, x⟩ => okD x (.bl _))⟩)
  | false => exact iteF (q _ _ ρ2 H2 (q2 hf) (x0 |> fun ⟨F, ow, x⟩ => okD x (.bl _)))
/-! parts of a slice -/
theorem wo_no {k : Option Int → Rho → Prop} (q : k none ρ) : WO Γ K β tNoPart ρ k := fun Hb E σ H x Q f => f none ρ H q x
theorem wo_some {k : Option Int → Rho → Prop} (h : WE Γ K β te ρ fun r ρ1 => ∃ i, r = .d (.int i) ∧ k (some i) ρ1) : WO Γ K β (tPart te) ρ k := fun Hb E σ H x Q f => h Hb E σ H x _ fun v r ρ1 H1 h1 x1 => by
  obtain ⟨i, rfl, q⟩ := h1
  obtain ⟨F, ow, x1⟩ := x1
  have e : Dp K F v (.int i) := x1.stk.1
  cases e
  exact ⟨i, rfl, f _ ρ1 H1 q (Ok.pop ⟨F, ow, x1⟩)⟩
def cutD (xs : List PyData) (lo hi : Option Int) : List PyData := (xs.drop (HT.sIx xs.length 0 lo)).take (HT.sIx xs.length xs.length hi - HT.sIx xs.length 0 lo)
theorem dpa_cut {ds : List PyData} {vs : List V} (lo hi : Option Int) (h : DpAll K F vs ds) : DpAll K F (cutV vs lo hi) (cutD ds lo hi) := by
  unfold cutV cutD
  rw [dpa_len h]
  exact dpa_take _ (dpa_drop _ h)
theorem we_slT {tl th : TO} (h : WE Γ K β te ρ fun x ρ1 => WO Γ K β tl ρ1 fun lo ρ2 => WO Γ K β th ρ2 fun hi ρ3 => ∃ ds, x = .d (.tuple ds) ∧ ¬ (HT.sIx ds.length 0 lo = 0 ∧ HT.sIx ds.length ds.length hi = ds.length) ∧ k (.d (.tuple (cutD ds lo hi))) ρ3) :
    WE Γ K β (tSl (rSlT K) te tl th) ρ k := fun Hb E σ H x Q f => h Hb E σ H x _ fun vx rx ρ1 H1 h1 x1 => h1 Hb _ σ H1 x1 _ fun lo ρ2 H2 h2 x2 => h2 Hb _ σ H2 x2 _ fun hi ρ3 H3 h3 x3 => by
  obtain ⟨ds, rfl, hw, q⟩ := h3
  obtain ⟨F, ow, x3⟩ := x3
  have e : Dp K F vx (.tuple ds) := x3.stk.1
  cases e with
  | tup hs ha =>
    refine ⟨_, _, rfl, sqt_same x3.same hs, by rw [dpa_len ha]; exact hw, fun p hp => f _ _ ρ3 _ q ?_⟩
    have x0 : OkF Γ K β Hb F ow E σ ρ3 H3 := ⟨x3.base, x3.same, x3.own, x3.stk.2, x3.len, x3.slot, x3.bag⟩
    exact ⟨_, ow, (x0.frozen hp).push (r := .d (.tuple _)) (.tup (.of upd_same) (dpa_same (x0.sameF hp) (dpa_cut lo hi ha)))⟩
theorem we_slL {tl th : TO} (h : WE Γ K β te ρ fun x ρ1 => WO Γ K β tl ρ1 fun lo ρ2 => WO Γ K β th ρ2 fun hi ρ3 => ∃ ds, look ρ3 x = some (.list ds) ∧ k (.ol (cutD ds lo hi)) ρ3) :
    WE Γ K β (tSl (rSlL K) te tl th) ρ k := fun Hb E σ H x Q f => h Hb E σ H x _ fun vx rx ρ1 H1 h1 x1 => h1 Hb _ σ H1 x1 _ fun lo ρ2 H2 h2 x2 => h2 Hb _ σ H2 x2 _ fun hi ρ3 H3 h3 x3 => by
  obtain ⟨ds, l, q⟩ := h3
  obtain ⟨F, ow, x3⟩ := x3
  obtain ⟨a, xs, rfl, hs', ha⟩ := x3.stk.1.itemsL x3 l
  refine ⟨_, _, rfl, hs', fun p hp => f _ _ ρ3 _ q ?_⟩
  have x0 : OkF Γ K β Hb F ow E σ ρ3 H3 := ⟨x3.base, x3.same, x3.own, x3.stk.2, x3.len, x3.slot, x3.bag⟩
  exact ⟨F, _, x0.fresh (u := .lst _) (r := .ol _) hp trivial ⟨p, _, rfl, setOw_same, upd_same, dpa_cut lo hi ha⟩⟩
end
end AB
end
/-! ## AB3 -/
section
/-! AB3: statements, targets, loops, list comprehensions over the abstract state. -/
namespace AB
open PySem PySem.Spec PyProof.Rows L2
structure Kn where
  nx : Rho → Prop
  rt : AV → Prop
  bk : Rho → Prop := fun _ => False
  ct : Rho → Prop := fun _ => False
def WS (Γ : Wd) (K : PySem.W.Frag) (β : Option Addr) (ts : TS) (ρ : Rho) (P : Kn) : Prop :=
  ∀ Hb E σ H, NoAl E → Ok Γ K β Hb E σ ρ H → ∀ D : Ends, (∀ σ' ρ' H', P.nx ρ' → Ok Γ K β Hb E σ' ρ' H' → D.nx σ' H') → (∀ v r E' H', P.rt r → Ok Γ K β Hb ((v, r) :: E') [] [] H' → D.rt v H') →
    (∀ σ' ρ' H', P.bk ρ' → Ok Γ K β Hb E σ' ρ' H' → D.bk σ' H') → (∀ σ' ρ' H', P.ct ρ' → Ok Γ K β Hb E σ' ρ' H' → D.ct σ' H') → ts D σ H
def WG (Γ : Wd) (K : PySem.W.Frag) (β : Option Addr) (g : TG) (r : AV) (ρ : Rho) (k : Rho → Prop) : Prop :=
  ∀ Hb E σ H v, NoAl E → Ok Γ K β Hb ((v, r) :: E) σ ρ H → ∀ Q : L2.St → Hp → Prop, (∀ σ' ρ' H', k ρ' → Ok Γ K β Hb E σ' ρ' H' → Q σ' H') → g v σ H Q
def zipE : List V → List PyData → List (V × AV) → List (V × AV)
  | x :: xs, d :: ds, E => (x, .d d) :: zipE xs ds E
  | _, _, E => E
def WGs (Γ : Wd) (K : PySem.W.Frag) (β : Option Addr) (gs : TGs) (ds : List PyData) (ρ : Rho) (k : Rho → Prop) : Prop :=
  ∀ Hb E σ H xs, NoAl E → xs.length = ds.length → Ok Γ K β Hb (zipE xs ds E) σ ρ H → ∀ Q : L2.St → Hp → Prop, (∀ σ' ρ' H', k ρ' → Ok Γ K β Hb E σ' ρ' H' → Q σ' H') → gs xs σ H Q
section
variable {Γ : Wd} {K : PySem.W.Frag} {β : Option Addr} {Hb F H H' : Hp} {ow : Ow} {E : List (V × AV)} {σ : L2.St} {ρ : Rho} {v : V} {r : AV} {o : Nat × Nat} {te ta tb tc : TE} {tt tu : TT} {tas : TA} {k : AV → Rho → Prop} {kr : Rho → Prop} {P : Kn} {t u : TS} {g : TG} {gs : TGs}
/-! ### the state's changes -/
/-- slot i takes the top entry -/
theorem Ok.asg {i : Nat} (hn : NoAl E) (hr : ∀ j, r ≠ .al j) (x : Ok Γ K β Hb ((v, r) :: E) σ ρ H) : Ok Γ K β Hb E (σ.set i (some v)) (ρ.set i r) H := by
  obtain ⟨F, ow, x⟩ := x
  by_cases hi : i < ρ.length
  · have hi' : i < σ.length := by rw [x.len]; exact hi
    refine ⟨F, reOw ow (1, E.length) (0, i), x.base, x.same, fun a o e => ?_, ?_, by rw [List.length_set, List.length_set]; exact x.len, fun j r' e => ?_, ?_⟩
    · rcases reOw_inv e with ⟨z, _⟩ | z
      · exact x.own a _ z
      · exact x.own a o z
    · exact x.stk.2.keep (Same.refl F) (fun m hm a e => ⟨reOw_ne e (fun z => by cases z; exact Nat.lt_irrefl _ hm) (fun z => by cases z), rfl⟩) (.inl hn)
    · by_cases hj : j = i
      · subst hj
        rw [List.getElem?_set_self hi] at e
        cases e
        exact .inr ⟨v, by rw [List.getElem?_set_self hi'], x.stk.1.keep (Same.refl F) (fun a e => ⟨reOw_to e, rfl⟩) (fun j e => absurd e (hr j)), hr⟩
      · rw [List.getElem?_set_ne (Ne.symm hj)] at e
        exact (x.slot j r' e).keep (Same.refl F) (fun a e => ⟨reOw_ne e (fun z => by cases z) (fun z => by cases z; exact hj rfl), rfl⟩) (List.getElem?_set_ne (Ne.symm hj))
    · exact x.bag.keep fun a j e => ⟨reOw_ne e (fun z => by cases z) (fun z => by cases z), rfl⟩
  · have hi' : ¬ i < σ.length := by rw [x.len]; exact hi
    rw [List.set_eq_of_length_le (by omega), List.set_eq_of_length_le (by omega)]
    exact ⟨F, ow, x.base, x.same, x.own, x.stk.2, x.len, x.slot, x.bag⟩
/-- a slot in use as an alias looks at it -/
theorem OkF.alias {i : Nat} (x : OkF Γ K β Hb F ow E σ ρ H) (h : σ[i]? = some (some v)) (e : ρ[i]? = some r) (hn : r ≠ .un) : Ent Γ K F H σ ow (0, i) v r := by
  rcases x.slot i r e with z | ⟨w, hw, z, _⟩
  · exact absurd z hn
  · rw [h] at hw
    cases hw
    exact z
/-- slot i's object is changed -/
theorem OkF.mut {i : Nat} {a : Addr} {u : HO} {r' : AV} (x : OkF Γ K β Hb F ow E σ ρ H) (hv : σ[i]? = some (some (.ref a))) (ho : ow a = some (0, i)) (hu : Own (some u)) (hr : ∀ l, r' ≠ .al l) (he : Ent Γ K F (upd H a u) σ ow (0, i) (.ref a) r') :
    OkF Γ K β Hb F ow E σ (ρ.set i r') (upd H a u) := by
  have hF := (x.own a _ ho).1
  have ne : ∀ b o, ow b = some o → o ≠ (0, i) → b ≠ a := fun b o e h z => by
    rw [z, ho] at e
    exact h (Option.some.inj e).symm
  refine ⟨x.base, fun b z e => ?_, fun b o e => ?_, x.stk.keep (Same.refl F) (fun m hm b e => ⟨e, upd_ne (ne b _ e (fun z => by cases z))⟩) (.inr rfl), by rw [List.length_set]; exact x.len, fun j r'' e => ?_, x.bag.keep fun b j e => ⟨e, upd_ne (ne b _ e (fun z => by cases z))⟩⟩
  · rw [upd_ne (ne_of_none e hF)]
    exact x.same b z e
  · by_cases hb : b = a
    · subst hb
      rw [upd_same]
      exact ⟨hF, hu⟩
    · rw [upd_ne hb]
      exact x.own b o e
  · by_cases hj : j = i
    · subst hj
      have hl : j < ρ.length := by
        rw [← x.len]
        exact (List.getElem?_eq_some_iff.mp hv).1
      rw [List.getElem?_set_self hl] at e
      cases e
      exact .inr ⟨_, hv, he, hr⟩
    · rw [List.getElem?_set_ne (Ne.symm hj)] at e
      exact (x.slot j r'' e).keep (Same.refl F) (fun b e => ⟨e, upd_ne (ne b _ e (fun z => by cases z; exact hj rfl))⟩) rfl
/-- slot i forgotten -/
theorem Ok.forget {i : Nat} (x : Ok Γ K β Hb E σ ρ H) : Ok Γ K β Hb E σ (ρ.set i .un) H := by
  obtain ⟨F, ow, x⟩ := x
  refine ⟨F, ow, x.base, x.same, x.own, x.stk, by rw [List.length_set]; exact x.len, fun j r' e => ?_, x.bag⟩
  by_cases hj : j = i
  · subst hj
    by_cases hl : j < ρ.length
    · rw [List.getElem?_set_self hl] at e
      cases e
      exact .inl rfl
    · rw [List.set_eq_of_length_le (by omega)] at e
      exact x.slot j r' e
  · rw [List.getElem?_set_ne (Ne.symm hj)] at e
    exact x.slot j r' e
/-- slots forgotten at will -/
def Weak (ρ ρ' : Rho) : Prop := ρ.length = ρ'.length ∧ ∀ (i : Nat) (r : AV), ρ'[i]? = some r → r = AV.un ∨ ρ[i]? = some r
theorem Ok.weak {ρ' : Rho} (h : Weak ρ ρ') (x : Ok Γ K β Hb E σ ρ H) : Ok Γ K β Hb E σ ρ' H := by
  obtain ⟨F, ow, x⟩ := x
  refine ⟨F, ow, x.base, x.same, x.own, x.stk, x.len.trans h.1, fun j r' e => ?_, x.bag⟩
  rcases h.2 j r' e with z | z
  · exact .inl z
  · exact x.slot j r' z
theorem ws_weak {ρ' : Rho} (h : Weak ρ ρ') (q : WS Γ K β t ρ' P) : WS Γ K β t ρ P := fun Hb E σ H hn x D f1 f2 f3 f4 => q Hb E σ H hn (x.weak h) D f1 f2 f3 f4
/-- an own list stands still from here on -/
theorem Ok.freeze {i : Nat} {ds : List PyData} (e : ρ[i]? = some (.ol ds)) (x : Ok Γ K β Hb E σ ρ H) : Ok Γ K β Hb E σ (ρ.set i (.d (.list ds))) H := by
  obtain ⟨F, ow, x⟩ := x
  rcases x.slot i _ e with z | ⟨w, hw, ⟨a, xs, rfl, ha, hH, hd⟩, _⟩
  · cases z
  have hF := (x.own a _ ha).1
  have sF : Same F (upd F a (.lst xs)) := fun b z e => by rw [upd_ne (ne_of_none e hF)]; exact e
  have ne : ∀ b o, ow b = some o → o ≠ (0, i) → b ≠ a := fun b o e h z => by
    rw [z, ha] at e
    exact h (Option.some.inj e).symm
  have re : ∀ b o, ow b = some o → o ≠ (0, i) → (fun b => if ow b = some (0, i) then none else ow b) b = some o := fun b o e h => by
    show (if ow b = some (0, i) then none else ow b) = some o
    rw [if_neg (fun z => h (Option.some.inj (e.symm.trans z)))]
    exact e
  refine ⟨upd F a (.lst xs), fun b => if ow b = some (0, i) then none else ow b, x.base.trans sF, fun b z e => ?_, fun b o e => ?_, x.stk.keep sF (fun m hm b e => ⟨re b _ e (fun z => by cases z), rfl⟩) (.inr rfl), by rw [List.length_set]; exact x.len, fun j r' e => ?_, x.bag.keep fun b j e => ⟨re b _ e (fun z => by cases z), rfl⟩⟩
  · by_cases hb : b = a
    · subst hb
      rw [upd_same] at e
      cases e
      exact hH
    · rw [upd_ne hb] at e
      exact x.same b z e
  · have e : (if ow b = some (0, i) then none else ow b) = some o := e
    split at e
    · cases e
    · have hb : b ≠ a := fun z => by
        rw [z] at e
        rename_i h
        rw [z] at h
        exact h ha
      rw [upd_ne hb]
      exact x.own b o e
  · by_cases hj : j = i
    · subst hj
      have hl : j < ρ.length := (List.getElem?_eq_some_iff.mp ‹ρ[j]? = some (AV.ol ds)›).1
      rw [List.getElem?_set_self hl] at e
      cases e
      exact .inr ⟨_, hw, (show Dp K (upd F a (.lst xs)) (.ref a) (.list ds) from .lst (.of upd_same) (dpa_same sF hd)), fun l z => by cases z⟩
    · rw [List.getElem?_set_ne (Ne.symm hj)] at e
      exact (x.slot j r' e).keep sF (fun b e => ⟨re b _ e (fun z => by cases z; exact hj rfl), rfl⟩) rfl
theorem ws_freeze (i : Nat) {ds : List PyData} (e : ρ[i]? = some (.ol ds)) (q : WS Γ K β t (ρ.set i (.d (.list ds))) P) : WS Γ K β t ρ P := fun Hb E σ H hn x D f1 f2 f3 f4 => q Hb E σ H hn (x.freeze e) D f1 f2 f3 f4
/-! ### targets -/
theorem wg_name {i : Nat} (hr : ∀ j, r ≠ .al j) (q : kr (ρ.set i r)) : WG Γ K β (gName i) r ρ kr := fun Hb E σ H v hn x Q f => f _ _ H q (x.asg hn hr)
theorem wg_d {i : Nat} {x : PyData} (q : kr (ρ.set i (.d x))) : WG Γ K β (gName i) (.d x) ρ kr := wg_name (fun _ z => by cases z) q
theorem wg_ol {i : Nat} {x : List PyData} (q : kr (ρ.set i (.ol x))) : WG Γ K β (gName i) (.ol x) ρ kr := wg_name (fun _ z => by cases z) q
theorem wg_oK {i : Nat} {x : List (Key × PyData)} (q : kr (ρ.set i (.oK x))) : WG Γ K β (gName i) (.oK x) ρ kr := wg_name (fun _ z => by cases z) q
theorem wg_oT {i : Nat} {x : List (List Key × PyData)} (q : kr (ρ.set i (.oT x))) : WG Γ K β (gName i) (.oT x) ρ kr := wg_name (fun _ z => by cases z) q
theorem wg_ob {i : Nat} {C : Addr} {fs : List (Str × PyData)} (q : kr (ρ.set i (.ob C fs))) : WG Γ K β (gName i) (.ob C fs) ρ kr := wg_name (fun _ z => by cases z) q
theorem wg_rv {i : Nat} {u : V} (q : kr (ρ.set i (.rv u))) : WG Γ K β (gName i) (.rv u) ρ kr := wg_name (fun _ z => by cases z) q
theorem zipE_ok : ∀ {xs : List V} {ds : List PyData} {E : List (V × AV)}, DpAll K F xs ds → SOk Γ K F H σ ow E → SOk Γ K F H σ ow (zipE xs ds E)
  | [], [], _, _, h => h
  | x :: xs, [], _, d, _ => by cases d
  | [], _ :: _, _, d, _ => by cases d
  | x :: xs, d :: ds, E, q, h => by
    cases q with
    | cons h1 h2 => exact ⟨h1, zipE_ok h2 h⟩
theorem NoAl.zipE : ∀ {xs : List V} {ds : List PyData} {E : List (V × AV)}, NoAl E → NoAl (AB.zipE xs ds E)
  | [], _, _, h => h
  | _ :: _, [], _, h => h
  | x :: xs, d :: ds, E, h => (NoAl.zipE (xs := xs) (ds := ds) h).cons fun _ z => by cases z
theorem wg_tup {n : Nat} {ds : List PyData} (hl : ds.length = n) (q : WGs Γ K β gs ds ρ kr) : WG Γ K β (gTup K n gs) (.d (.tuple ds)) ρ kr := fun Hb E σ H v hn x Q f => by
  obtain ⟨F, ow, x⟩ := x
  have e : Dp K F v (.tuple ds) := x.stk.1
  cases e with
  | tup hs ha => exact ⟨_, _, rfl, sqt_same x.same hs, (dpa_len ha).trans hl, q Hb E σ H _ hn (dpa_len ha) ⟨F, ow, x.base, x.same, x.own, zipE_ok ha x.stk.2, x.len, x.slot, x.bag⟩ Q f⟩
theorem wgs_nil (q : kr ρ) : WGs Γ K β gNil [] ρ kr := fun Hb E σ H xs hn hl x Q f => by
  cases xs with
  | nil => exact ⟨rfl, f σ ρ H q x⟩
  | cons _ _ => cases hl
theorem wgs_cons {d : PyData} {ds : List PyData} (q : WG Γ K β g (.d d) ρ fun ρ1 => WGs Γ K β gs ds ρ1 kr) : WGs Γ K β (gCons g gs) (d :: ds) ρ kr := fun Hb E σ H xs hn hl x Q f => by
  cases xs with
  | nil => cases hl
  | cons y ys =>
    refine ⟨y, ys, rfl, ?_⟩
    exact q Hb _ σ H y (NoAl.zipE hn) x _ fun σ1 ρ1 H1 q1 x1 => q1 Hb E σ1 H1 ys hn (by simpa using hl) x1 Q f
/-! ### statements -/
theorem ws_seq (h : WS Γ K β t ρ { P with nx := fun ρ1 => WS Γ K β u ρ1 P }) : WS Γ K β (tSeq t u) ρ P := fun Hb E σ H hn x D f1 f2 f3 f4 =>
  h Hb E σ H hn x _ (fun σ' ρ' H' q x' => q Hb E σ' H' hn x' D f1 f2 f3 f4) f2 f3 f4
theorem ws_next (q : P.nx ρ) : WS Γ K β tNext ρ P := fun Hb E σ H hn x D f1 f2 f3 f4 => f1 σ ρ H q x
theorem ws_brk (q : P.bk ρ) : WS Γ K β tBreak ρ P := fun Hb E σ H hn x D f1 f2 f3 f4 => f3 σ ρ H q x
theorem ws_cont (q : P.ct ρ) : WS Γ K β tCont ρ P := fun Hb E σ H hn x D f1 f2 f3 f4 => f4 σ ρ H q x
theorem ws_asg (h : WE Γ K β te ρ fun r ρ1 => WG Γ K β g r ρ1 P.nx) : WS Γ K β (tAsg te g) ρ P := fun Hb E σ H hn x D f1 f2 f3 f4 =>
  h Hb E σ H x _ fun v r ρ1 H1 h1 x1 => h1 Hb E σ H1 v hn x1 _ f1
theorem ws_drop (h : WE Γ K β te ρ fun _ ρ1 => P.nx ρ1) : WS Γ K β (tDrop te) ρ P := fun Hb E σ H hn x D f1 f2 f3 f4 =>
  h Hb E σ H x _ fun v r ρ1 H1 h1 x1 => f1 σ ρ1 H1 h1 x1.pop
theorem ws_if {c : TT} (h : WT Γ K β c ρ fun b ρ1 => (b = true → WS Γ K β t ρ1 P) ∧ (b = false → WS Γ K β u ρ1 P)) : WS Γ K β (tIfS c t u) ρ P := fun Hb E σ H hn x D f1 f2 f3 f4 =>
  h Hb E σ H x _ fun b ρ1 H1 h1 x1 => by
    cases b with
    | true => exact iteT (h1.1 rfl Hb E σ H1 hn x1 D f1 f2 f3 f4)
    | false => exact iteF (h1.2 rfl Hb E σ H1 hn x1 D f1 f2 f3 f4)
theorem Ok.noslots (x : Ok Γ K β Hb E σ ρ H) (hn : NoAl E) : Ok Γ K β Hb E [] [] H := by
  obtain ⟨F, ow, x⟩ := x
  exact ⟨F, ow, x.base, x.same, x.own, x.stk.keep (Same.refl F) (fun _ _ _ e => ⟨e, rfl⟩) (.inl hn), rfl, fun i r e => by simp at e, x.bag⟩
/-- the value that leaves -/
def res (ρ : Rho) : AV → Option AV
  | .al i => ρ[i]?
  | r => some r
theorem ws_ret (h : WE Γ K β te ρ fun r ρ1 => ∃ r', res ρ1 r = some r' ∧ r' ≠ .un ∧ P.rt r') : WS Γ K β (tRet te) ρ P := fun Hb E σ H hn x D f1 f2 f3 f4 =>
  h Hb E σ H x _ fun v r ρ1 H1 h1 x1 => by
    obtain ⟨r', e, hu, q⟩ := h1
    by_cases hr : ∃ i, r = .al i
    · obtain ⟨i, rfl⟩ := hr
      obtain ⟨F, ow, x1⟩ := x1
      have hv : σ[i]? = some (some v) := x1.stk.1
      have e' : ρ1[i]? = some r' := e
      have z := x1.alias hv e' hu
      have nr : ∀ l, r' ≠ .al l := by
        rcases x1.slot i r' e' with z | ⟨_, _, _, z⟩
        · exact absurd z hu
        · exact z
      refine f2 v r' E H1 q ⟨F, reOw ow (0, i) (1, E.length), x1.base, x1.same, fun a o e => ?_, ⟨z.keep (Same.refl F) (fun a e => ⟨reOw_to e, rfl⟩) fun j e => absurd e (nr j), x1.stk.2.keep (Same.refl F) (fun m hm a e => ⟨reOw_ne e (fun z => by cases z) (fun z => by cases z; exact Nat.lt_irrefl _ hm), rfl⟩) (.inl hn)⟩, rfl, fun i r e => by simp at e, x1.bag.keep fun a j e => ⟨reOw_ne e (fun z => by cases z) (fun z => by cases z), rfl⟩⟩
      rcases reOw_inv e with ⟨z, _⟩ | z
      · exact x1.own a _ z
      · exact x1.own a o z
    · have e' : r' = r := by
        cases r with
        | al i => exact absurd ⟨i, rfl⟩ hr
        | _ => exact (Option.some.inj e).symm
      subst e'
      exact f2 v r' E H1 q (x1.noslots (hn.cons fun i z => hr ⟨i, z⟩))
theorem ws_retN (q : P.rt (.d .none)) : WS Γ K β tRetN ρ P := fun Hb E σ H hn x D f1 f2 f3 f4 => by
  have x0 := x.noslots hn
  obtain ⟨F, ow, x0⟩ := x0
  exact f2 .non _ E H q ⟨F, ow, x0.push (r := .d .none) .non⟩
theorem Ok.asgBelow {i : Nat} {w : V} {r' : AV} (hn : NoAl E) (hr : ∀ j, r ≠ .al j) (hr' : ∀ j, r' ≠ .al j) (x : Ok Γ K β Hb ((w, r') :: (v, r) :: E) σ ρ H) {j : Nat} : Ok Γ K β Hb E ((σ.set j (some w)).set i (some v)) ((ρ.set j r').set i r) H :=
  Ok.asg hn hr (Ok.asg (hn.cons hr) hr' x)
theorem ws_par {i j : Nat} (hij : i ≠ j) (h : WA Γ K β tas ρ fun rs ρ1 => ∃ r1 r2, rs = [r1, r2] ∧ (∀ l, r1 ≠ .al l) ∧ (∀ l, r2 ≠ .al l) ∧ P.nx ((ρ1.set i r1).set j r2)) : WS Γ K β (tPar i j tas) ρ P := fun Hb E σ H hn x D f1 f2 f3 f4 =>
  h Hb E σ H x _ fun vs rs ρ1 H1 h1 e x1 => by
    obtain ⟨r1, r2, rfl, n1, n2, q⟩ := h1
    match vs, e with
    | [v, w], _ =>
      refine ⟨v, w, rfl, f1 _ _ H1 q ?_⟩
      have z := Ok.asgBelow (i := i) (j := j) hn n1 n2 (show Ok Γ K β Hb ((w, r2) :: (v, r1) :: E) σ ρ1 H1 from x1)
      rw [List.set_comm _ _ (Ne.symm hij), List.set_comm _ _ (Ne.symm hij)] at z
      exact z
theorem ws_while {c : TT} (I : Nat → Rho → Prop) (h0 : ∃ m, I m ρ)
    (hs : ∀ m ρ', I m ρ' → WT Γ K β c ρ' fun b ρ1 => (b = true → WS Γ K β t ρ1 { nx := fun ρ2 => ∃ m', m' < m ∧ I m' ρ2, rt := P.rt, bk := P.nx, ct := fun ρ2 => ∃ m', m' < m ∧ I m' ρ2 }) ∧ (b = false → P.nx ρ1)) : WS Γ K β (tWhile c t) ρ P := fun Hb E σ H hn x D f1 f2 f3 f4 => by
  obtain ⟨m0, h0⟩ := h0
  refine ⟨fun m σ' H' => ∃ ρ', I m ρ' ∧ Ok Γ K β Hb E σ' ρ' H', ⟨m0, ρ, h0, x⟩, ?_⟩
  rintro m σ' H' ⟨ρ', hI, x'⟩
  refine hs m ρ' hI Hb E σ' H' x' _ fun b ρ1 H1 h1 x1 => ?_
  cases b with
  | true =>
    refine iteT ⟨fun σ2 H2 => ∃ ρ2, (∃ m', m' < m ∧ I m' ρ2) ∧ Ok Γ K β Hb E σ2 ρ2 H2, fun σ2 H2 ⟨ρ2, ⟨m', hm, q⟩, x2⟩ => ⟨m', hm, ρ2, q, x2⟩, ?_⟩
    exact h1.1 rfl Hb E σ' H1 hn x1 _ (fun σ2 ρ2 H2 q x2 => ⟨ρ2, q, x2⟩) f2 f1 (fun σ2 ρ2 H2 q x2 => ⟨ρ2, q, x2⟩)
  | false => exact iteF (f1 σ' ρ1 H1 (h1.2 rfl) x1)
end
end AB
end
/-! ## AB4 -/
section
/-! AB4: loops and list comprehensions; calls of built-ins; methods of lists. -/
namespace AB
open PySem PySem.Spec PyProof.Rows L2
/-- the walk J gives the items its while the entries es are on the stack -/
structure Src (Γ : Wd) (K : PySem.W.Frag) (β : Option Addr) (J : It) (its : List PyData) (es : List (V × AV)) : Prop where
  noal : NoAl es
  walk : ∃ G Y, Walk J its.length G Y ∧ (∀ Hb E E' σ ρ H, Ok Γ K β Hb (E' ++ (es ++ E)) σ ρ H → G H) ∧
    ∀ i Hb E E' σ ρ H x H', i < its.length → Ok Γ K β Hb (E' ++ (es ++ E)) σ ρ H → Y i H x H' → ∃ d, its[i]? = some d ∧ Ok Γ K β Hb ((x, .d d) :: (E' ++ (es ++ E))) σ ρ H'
def WI (Γ : Wd) (K : PySem.W.Frag) (β : Option Addr) (wi : TI) (ρ : Rho) (k : List PyData → Rho → Prop) : Prop :=
  ∀ Hb E σ H, Ok Γ K β Hb E σ ρ H → ∀ R : It → Hp → Prop, (∀ J its es ρ' H', k its ρ' → Src Γ K β J its es → Ok Γ K β Hb (es ++ E) σ ρ' H' → R J H') → wi σ H R
section
variable {Γ : Wd} {K : PySem.W.Frag} {β : Option Addr} {Hb F H H' : Hp} {ow : Ow} {E : List (V × AV)} {σ : L2.St} {ρ : Rho} {v : V} {r : AV} {o : Nat × Nat} {te ta tb tc : TE} {tt tu : TT} {tas : TA} {k : AV → Rho → Prop} {kr : Rho → Prop} {P : Kn} {t u : TS} {g : TG} {gs : TGs} {ki : List PyData → Rho → Prop}
theorem Ok.pops : ∀ {es : List (V × AV)}, Ok Γ K β Hb (es ++ E) σ ρ H → Ok Γ K β Hb E σ ρ H
  | [], x => x
  | _ :: _, x => Ok.pops (Ok.pop x)
theorem NoAl.app {es : List (V × AV)} (h : NoAl es) (q : NoAl E) : NoAl (es ++ E) := fun e he => (List.mem_append.mp he).elim (h e) (q e)
/-! ### what is walked -/
theorem sok_app : ∀ {A : List (V × AV)} {e : V × AV}, SOk Γ K F H σ ow (A ++ e :: E) → Ent Γ K F H σ ow (1, E.length) e.1 e.2
  | [], _, h => h.1
  | _ :: A, _, h => sok_app (A := A) h.2
theorem src_list {a : Addr} {ds : List PyData} : Src Γ K β (Itl K a) ds [(.ref a, .d (.list ds))] := by
  refine ⟨fun e he i z => ?_, fun H => ∃ xs, SqL K H a xs ∧ xs.length = ds.length, fun i H x H' => H' = H ∧ ∀ xs, SqL K H a xs → xs[i]? = some x, ⟨fun i H hi q => ?_, fun H q => ?_, fun i H x H' hi q y => y⟩, fun Hb E E' σ ρ H x => ?_, fun i Hb E E' σ ρ H x H' hi ok y => ?_⟩
  · rw [List.mem_singleton.mp he] at z
    cases z
  · obtain ⟨xs, q, e⟩ := q
    exact ⟨xs, xs[i]'(by omega), q, by simp [show i < xs.length by omega]⟩
  · obtain ⟨xs, q, e⟩ := q
    exact ⟨xs, q, by omega⟩
  · obtain ⟨F, ow, x⟩ := x
    have z : Dp K F (.ref a) (.list ds) := sok_app (A := E') x.stk
    cases z with
    | lst h1 h2 => exact ⟨_, x.same.seq h1, dpa_len h2⟩
  · obtain ⟨F, ow, ok⟩ := ok
    obtain ⟨rfl, y⟩ := y
    have z : Dp K F (.ref a) (.list ds) := sok_app (A := E') ok.stk
    cases z with
    | lst h1 h2 =>
      obtain ⟨d, e1, e2⟩ := dpa_getV h2 (y _ (ok.same.seq h1))
      exact ⟨d, e1, F, ow, ok.push (r := .d d) e2⟩
theorem src_tup {a : Addr} {ds : List PyData} : Src Γ K β (Itt K a) ds [(.ref a, .d (.tuple ds))] := by
  refine ⟨fun e he i z => ?_, fun H => ∃ xs, SqT K H a xs ∧ xs.length = ds.length, fun i H x H' => H' = H ∧ ∀ xs, SqT K H a xs → xs[i]? = some x, ⟨fun i H hi q => ?_, fun H q => ?_, fun i H x H' hi q y => y⟩, fun Hb E E' σ ρ H x => ?_, fun i Hb E E' σ ρ H x H' hi ok y => ?_⟩
  · rw [List.mem_singleton.mp he] at z
    cases z
  · obtain ⟨xs, q, e⟩ := q
    exact ⟨xs, xs[i]'(by omega), q, by simp [show i < xs.length by omega]⟩
  · obtain ⟨xs, q, e⟩ := q
    exact ⟨xs, q, by omega⟩
  · obtain ⟨F, ow, x⟩ := x
    have z : Dp K F (.ref a) (.tuple ds) := sok_app (A := E') x.stk
    cases z with
    | tup h1 h2 => exact ⟨_, sqt_same x.same h1, dpa_len h2⟩
  · obtain ⟨F, ow, ok⟩ := ok
    obtain ⟨rfl, y⟩ := y
    have z : Dp K F (.ref a) (.tuple ds) := sok_app (A := E') ok.stk
    cases z with
    | tup h1 h2 =>
      obtain ⟨d, e1, e2⟩ := dpa_getV h2 (y _ (sqt_same ok.same h1))
      exact ⟨d, e1, F, ow, ok.push (r := .d d) e2⟩
/-- a list that is walked is left as it is: an own one stands still from here on -/
theorem Ok.settleTop {ds : List PyData} (x : Ok Γ K β Hb ((v, .ol ds) :: E) σ ρ H) : Ok Γ K β Hb ((v, .d (.list ds)) :: E) σ ρ H := by
  obtain ⟨F, ow, x⟩ := x
  obtain ⟨a, xs, rfl, ha, hH, hd⟩ := x.stk.1
  have hF := (x.own a _ ha).1
  have sF : Same F (upd F a (.lst xs)) := fun b z e => by rw [upd_ne (ne_of_none e hF)]; exact e
  have re : ∀ b o, ow b = some o → o ≠ (1, E.length) → (fun b => if ow b = some (1, E.length) then none else ow b) b = some o := fun b o e h => by
    show (if ow b = some (1, E.length) then none else ow b) = some o
    rw [if_neg (fun z => h (Option.some.inj (e.symm.trans z)))]
    exact e
  refine ⟨upd F a (.lst xs), fun b => if ow b = some (1, E.length) then none else ow b, x.base.trans sF, fun b z e => ?_, fun b o e => ?_, ⟨.lst (.of upd_same) (dpa_same sF hd), x.stk.2.keep sF (fun m hm b e => ⟨re b _ e (fun z => by cases z; exact Nat.lt_irrefl _ hm), rfl⟩) (.inr rfl)⟩, x.len, fun j r' e => (x.slot j r' e).keep sF (fun b e => ⟨re b _ e (fun z => by cases z), rfl⟩) rfl, x.bag.keep fun b j e => ⟨re b _ e (fun z => by cases z), rfl⟩⟩
  · by_cases hb : b = a
    · subst hb
      rw [upd_same] at e
      cases e
      exact hH
    · rw [upd_ne hb] at e
      exact x.same b z e
  · have e : (if ow b = some (1, E.length) then none else ow b) = some o := e
    split at e
    · cases e
    · rename_i h
      have hb : b ≠ a := fun z => by
        rw [z] at h
        exact h ha
      rw [upd_ne hb]
      exact x.own b o e
theorem wi_list (h : WE Γ K β te ρ fun r ρ1 => (∃ ds, r = .d (.list ds) ∧ ki ds ρ1) ∨ (∃ ds, r = .ol ds ∧ ki ds ρ1) ∨ (∃ i ds, r = .al i ∧ ρ1[i]? = some (.ol ds) ∧ ki ds (ρ1.set i (.d (.list ds))))) : WI Γ K β (iList K te) ρ ki := fun Hb E σ H x R f =>
  h Hb E σ H x _ fun v r ρ1 H1 h1 x1 => by
    have fin : ∀ ds ρ2, ki ds ρ2 → Ok Γ K β Hb ((v, .d (.list ds)) :: E) σ ρ2 H1 → ∃ a, v = .ref a ∧ (∃ xs, SqL K H1 a xs) ∧ R (Itl K a) H1 := fun ds ρ2 q x2 => by
      have x2' := x2
      obtain ⟨F, ow, x2⟩ := x2
      have z : Dp K F v (.list ds) := x2.stk.1
      cases z with
      | lst h1 h2 => exact ⟨_, rfl, ⟨_, x2.same.seq h1⟩, f _ ds _ ρ2 H1 q src_list x2'⟩
    rcases h1 with ⟨ds, rfl, q⟩ | ⟨ds, rfl, q⟩ | ⟨i, ds, rfl, e, q⟩
    · exact fin ds ρ1 q x1
    · exact fin ds ρ1 q x1.settleTop
    · refine fin ds _ q ?_
      have x2 := x1.freeze e
      obtain ⟨F, ow, x2⟩ := x2
      have hv : σ[i]? = some (some v) := x2.stk.1
      have hl : i < ρ1.length := (List.getElem?_eq_some_iff.mp e).1
      have z := x2.alias hv (by rw [List.getElem?_set_self hl]) (fun z => by cases z)
      exact ⟨F, ow, x2.base, x2.same, x2.own, ⟨z, x2.stk.2⟩, x2.len, x2.slot, x2.bag⟩
theorem wi_tup (h : WE Γ K β te ρ fun r ρ1 => ∃ ds, r = .d (.tuple ds) ∧ ki ds ρ1) : WI Γ K β (iTup K te) ρ ki := fun Hb E σ H x R f =>
  h Hb E σ H x _ fun v r ρ1 H1 h1 x1 => by
    obtain ⟨ds, rfl, q⟩ := h1
    have x1' := x1
    obtain ⟨F, ow, x1⟩ := x1
    have z : Dp K F v (.tuple ds) := x1.stk.1
    cases z with
    | tup h1 h2 => exact ⟨_, rfl, ⟨_, sqt_same x1.same h1⟩, f _ ds _ ρ1 H1 q src_tup x1'⟩
/-- numbers from lo on, n of them, c apart -/
def rgD (lo c : Int) (n : Nat) : List PyData := (List.range n).map fun i => .int (lo + (i : Nat) * c)
theorem rgD_length (lo c : Int) (n : Nat) : (rgD lo c n).length = n := by unfold rgD; rw [List.length_map, List.length_range]
theorem rgD_get {lo c : Int} {n i : Nat} {d : PyData} : (rgD lo c n)[i]? = some d ↔ i < n ∧ d = .int (lo + (i : Nat) * c) := by
  unfold rgD
  rw [List.getElem?_map]
  constructor
  · intro h
    cases e : (List.range n)[i]? with
    | none => rw [e] at h; cases h
    | some j =>
      rw [e] at h
      obtain ⟨hi, ej⟩ := List.getElem?_eq_some_iff.mp e
      rw [List.length_range] at hi
      rw [List.getElem_range] at ej
      subst ej
      exact ⟨hi, (Option.some.inj h).symm⟩
  · rintro ⟨hi, rfl⟩
    rw [List.getElem?_range hi]
    rfl
theorem src_range {J : It} {lo c : Int} {n : Nat} (w : Walk J n (fun _ => True) (YFn fun i => .int (lo + (i : Nat) * c))) : Src Γ K β J (rgD lo c n) [] := by
  refine ⟨fun e he => absurd he (by simp), fun _ => True, _, (rgD_length lo c n).symm ▸ w, fun _ _ _ _ _ _ _ => trivial, fun i Hb E E' σ ρ H x H' hi ok y => ?_⟩
  rw [rgD_length] at hi
  obtain ⟨rfl, rfl⟩ := y
  exact ⟨_, rgD_get.mpr ⟨hi, rfl⟩, ok |> fun ⟨F, ow, x⟩ => okD x (.int _)⟩
theorem walk_range1 {lo : Int} {n : Nat} : Walk (Itr lo n) n (fun _ => True) (YFn fun i => .int (lo + (i : Nat) * 1)) := (walk_range (lo := lo) (n := n)).mono (fun _ h => h) fun i H x H' _ _ y => ⟨y.1, by show x = V.int (lo + (i : Nat) * 1); rw [Int.mul_one]; exact y.2⟩
theorem wi_range1 (h : WA Γ K β tas ρ fun rs ρ1 => ∃ n, rs = [.d (.int n)] ∧ n ≤ 100000 ∧ -100000 ≤ n ∧ ki (rgD 0 1 n.toNat) ρ1) : WI Γ K β (iRng1 tas) ρ ki := fun Hb E σ H x R f =>
  h Hb E σ H x _ fun vs rs ρ1 H1 h1 e x1 => by
    obtain ⟨n, rfl, h2, h3, q⟩ := h1
    match vs, e with
    | [v], _ =>
      have x1 : Ok Γ K β Hb ((v, .d (.int n)) :: E) σ ρ1 H1 := x1
      obtain ⟨F, ow, x2⟩ := x1
      have z : Dp K F v (.int n) := x2.stk.1
      cases z
      exact ⟨n, rfl, by omega, by omega, f _ _ [] ρ1 H1 q (src_range walk_range1) (Ok.pop ⟨F, ow, x2⟩)⟩
theorem wi_range2 (h : WA Γ K β tas ρ fun rs ρ1 => ∃ a b, rs = [.d (.int a), .d (.int b)] ∧ a ≤ 100000 ∧ -100000 ≤ a ∧ b ≤ 100000 ∧ -100000 ≤ b ∧ ki (rgD a 1 (b - a).toNat) ρ1) : WI Γ K β (iRng2 tas) ρ ki := fun Hb E σ H x R f =>
  h Hb E σ H x _ fun vs rs ρ1 H1 h1 e x1 => by
    obtain ⟨a, b, rfl, h2, h3, h4, h5, q⟩ := h1
    match vs, e with
    | [v, w], _ =>
      have x1 : Ok Γ K β Hb ((w, .d (.int b)) :: (v, .d (.int a)) :: E) σ ρ1 H1 := x1
      obtain ⟨F, ow, x2⟩ := x1
      have z : Dp K F w (.int b) := x2.stk.1
      have z2 : Dp K F v (.int a) := x2.stk.2.1
      cases z
      cases z2
      exact ⟨a, b, rfl, ⟨by omega, by omega, by omega, by omega⟩, f _ _ [] ρ1 H1 q (src_range walk_range1) (Ok.pop (Ok.pop ⟨F, ow, x2⟩))⟩
theorem wi_range3 (h : WA Γ K β tas ρ fun rs ρ1 => ∃ a b c n, rs = [.d (.int a), .d (.int b), .d (.int c)] ∧ RgC a b c n ∧ ki (rgD a c n) ρ1) : WI Γ K β (iRng3 tas) ρ ki := fun Hb E σ H x R f =>
  h Hb E σ H x _ fun vs rs ρ1 H1 h1 e x1 => by
    obtain ⟨a, b, c, n, rfl, h2, q⟩ := h1
    match vs, e with
    | [v, w, y], _ =>
      have x1 : Ok Γ K β Hb ((y, .d (.int c)) :: (w, .d (.int b)) :: (v, .d (.int a)) :: E) σ ρ1 H1 := x1
      obtain ⟨F, ow, x2⟩ := x1
      have z0 : Dp K F y (.int c) := x2.stk.1
      have z : Dp K F w (.int b) := x2.stk.2.1
      have z2 : Dp K F v (.int a) := x2.stk.2.2.1
      cases z0
      cases z
      cases z2
      exact ⟨a, b, c, n, rfl, h2, f _ _ [] ρ1 H1 q (src_range walk_rangeC) (Ok.pop (Ok.pop (Ok.pop ⟨F, ow, x2⟩)))⟩
/-- enumerate of a list -/
def enD (ds : List PyData) : List PyData := ds.mapIdx fun i d => .tuple [.int i, d]
theorem enD_length (ds : List PyData) : (enD ds).length = ds.length := by unfold enD; simp
theorem enD_get {ds : List PyData} {i : Nat} {d : PyData} (h : ds[i]? = some d) : (enD ds)[i]? = some (.tuple [.int i, d]) := by unfold enD; rw [List.getElem?_mapIdx, h]; rfl
/-! ### loops -/
theorem ws_for {wi : TI} (h : WI Γ K β wi ρ fun its ρ1 => ∃ I : Nat → Rho → Prop, I 0 ρ1 ∧
      (∀ i d ρ', its[i]? = some d → I i ρ' → WG Γ K β g (.d d) ρ' fun ρ'' => WS Γ K β t ρ'' { nx := I (i + 1), rt := P.rt, bk := P.nx, ct := I (i + 1) }) ∧ (∀ ρ', I its.length ρ' → P.nx ρ')) :
    WS Γ K β (tFor wi g t) ρ P := fun Hb E σ H hn x D f1 f2 f3 f4 => h Hb E σ H x _ fun J its es ρ1 H1 h1 S x1 => by
  obtain ⟨I, i0, turn, fin⟩ := h1
  obtain ⟨G, Y, w, hG, hY⟩ := S.walk
  have hne : NoAl (es ++ E) := S.noal.app hn
  refine for_it w (fun i σ' H' => ∃ ρ', I i ρ' ∧ Ok Γ K β Hb (es ++ E) σ' ρ' H') ⟨ρ1, i0, x1⟩ (fun i σ' H' _ ⟨ρ', _, x'⟩ => hG Hb E [] σ' ρ' H' x') (fun i y σ' H' H2 hi ⟨ρ', q, x'⟩ hy => ?_) fun σ' H' ⟨ρ', q, x'⟩ => f1 σ' ρ' H' (fin ρ' q) x'.pops
  obtain ⟨d, ed, x2⟩ := hY i Hb E [] σ' ρ' H' y H2 hi x' hy
  refine turn i d ρ' ed q Hb (es ++ E) σ' H2 y hne x2 _ fun σ2 ρ2 H3 q2 x3 => ?_
  exact q2 Hb (es ++ E) σ2 H3 hne x3 _ (fun σ4 ρ4 H4 q4 x4 => ⟨ρ4, q4, x4⟩) f2 (fun σ4 ρ4 H4 q4 x4 => f1 σ4 ρ4 H4 q4 x4.pops) (fun σ4 ρ4 H4 q4 x4 => ⟨ρ4, q4, x4⟩)
/-! ### list comprehensions -/
/-- aliases hidden -/
def hid (e : V × AV) : V × AV := match e.2 with
  | .al _ => (e.1, .un)
  | _ => e
theorem hid_al {v : V} {i : Nat} : hid (v, .al i) = (v, .un) := rfl
theorem hid_noal (E : List (V × AV)) : NoAl (E.map hid) := fun e he i z => by
  obtain ⟨a, _, rfl⟩ := List.mem_map.mp he
  obtain ⟨v, r⟩ := a
  cases r <;> cases z
/-- what the aliases say -/
def AlOk (σ : L2.St) (E : List (V × AV)) : Prop := ∀ e ∈ E, ∀ i, e.2 = .al i → σ[i]? = some (some e.1)
theorem SOk.alOk : ∀ {E : List (V × AV)}, SOk Γ K F H σ ow E → AlOk σ E
  | [], _ => fun e he => absurd he (by simp)
  | e :: E, h => fun e' he i z => by
    rcases List.mem_cons.mp he with q | q
    · subst q
      obtain ⟨v, r⟩ := e'
      have z : r = .al i := z
      subst z
      exact h.1
    · exact SOk.alOk h.2 e' q i z
theorem SOk.hide : ∀ {E : List (V × AV)}, SOk Γ K F H σ ow E → SOk Γ K F H σ ow (E.map hid)
  | [], _ => trivial
  | e :: E, h => by
    refine ⟨?_, SOk.hide h.2⟩
    rw [List.length_map]
    obtain ⟨v, r⟩ := e
    cases r <;> first | exact h.1 | trivial
theorem SOk.unhide : ∀ {E : List (V × AV)}, SOk Γ K F H σ ow (E.map hid) → AlOk σ E → SOk Γ K F H σ ow E
  | [], _, _ => trivial
  | e :: E, h, a => by
    have h1 := h.1
    rw [List.length_map] at h1
    refine ⟨?_, SOk.unhide h.2 fun e' he => a e' (List.mem_cons_of_mem _ he)⟩
    have a1 := a e List.mem_cons_self
    obtain ⟨v, r⟩ := e
    cases r with
    | al i => exact a1 i rfl
    | _ => exact h1
theorem Ok.hide (x : Ok Γ K β Hb E σ ρ H) : Ok Γ K β Hb (E.map hid) σ ρ H := by
  obtain ⟨F, ow, x⟩ := x
  exact ⟨F, ow, x.base, x.same, x.own, x.stk.hide, x.len, x.slot, x.bag⟩
theorem Ok.unhide (x : Ok Γ K β Hb (E.map hid) σ ρ H) (a : AlOk σ E) : Ok Γ K β Hb E σ ρ H := by
  obtain ⟨F, ow, x⟩ := x
  exact ⟨F, ow, x.base, x.same, x.own, x.stk.unhide a, x.len, x.slot, x.bag⟩
theorem Ok.unhideTop {e : V × AV} (x : Ok Γ K β Hb (e :: E.map hid) σ ρ H) (a : AlOk σ E) : Ok Γ K β Hb (e :: E) σ ρ H := by
  obtain ⟨F, ow, x⟩ := x
  refine ⟨F, ow, x.base, x.same, x.own, ⟨?_, x.stk.2.unhide a⟩, x.len, x.slot, x.bag⟩
  have h1 := x.stk.1
  rw [List.length_map] at h1
  exact h1
/-- the slots vs are not in use -/
def Unused (ρ : Rho) (vs : List Nat) : Prop := ∀ j ∈ vs, ∀ r, ρ[j]? = some r → r = .un
theorem unused_of {vs : List Nat} (h : (vs.all fun j => match ρ[j]? with | some .un => true | none => true | _ => false) = true) : Unused ρ vs := fun j hj r e => by
  have q := List.all_eq_true.mp h j hj
  rw [e] at q
  cases r <;> first | rfl | cases q
theorem Ok.wipe {vs : List Nat} (hv : Unused ρ vs) (hn : NoAl E) (x : Ok Γ K β Hb E σ ρ H) : Ok Γ K β Hb E (wipe σ vs) ρ H := by
  obtain ⟨F, ow, x⟩ := x
  refine ⟨F, ow, x.base, x.same, x.own, x.stk.keep (Same.refl F) (fun _ _ _ e => ⟨e, rfl⟩) (.inl hn), by rw [wipe_length]; exact x.len, fun i r e => ?_, x.bag⟩
  by_cases hi : i ∈ vs
  · exact .inl (hv i hi r e)
  · exact (x.slot i r e).keep (Same.refl F) (fun _ e => ⟨e, rfl⟩) (wipe_out hi)
theorem Ok.unwipe {vs : List Nat} (hv : Unused ρ vs) (hn : NoAl E) (x : Ok Γ K β Hb E (L2.wipe σ vs) ρ H) : Ok Γ K β Hb E σ ρ H := by
  obtain ⟨F, ow, x⟩ := x
  refine ⟨F, ow, x.base, x.same, x.own, x.stk.keep (Same.refl F) (fun _ _ _ e => ⟨e, rfl⟩) (.inl hn), by rw [← x.len, wipe_length], fun i r e => ?_, x.bag⟩
  by_cases hi : i ∈ vs
  · exact .inl (hv i hi r e)
  · exact (x.slot i r e).keep (Same.refl F) (fun _ e => ⟨e, rfl⟩) (wipe_out hi).symm
theorem Ok.dropMid {es : List (V × AV)} (hr : ∀ j, r ≠ .al j) (x : Ok Γ K β Hb ((v, r) :: (es ++ E)) σ ρ H) : Ok Γ K β Hb ((v, r) :: E) σ ρ H := by
  cases es with
  | nil => exact x
  | cons e es =>
    obtain ⟨F, ow, x⟩ := x
    have hE : SOk Γ K F H σ ow E := by
      have : ∀ (A : List (V × AV)), SOk Γ K F H σ ow (A ++ E) → SOk Γ K F H σ ow E := fun A => by
        induction A with
        | nil => exact id
        | cons a A ih => exact fun h => ih h.2
      exact this _ x.stk.2
    have hlt : E.length < (e :: es ++ E).length := by rw [List.length_append, List.length_cons]; omega
    refine ⟨F, reOw ow (1, (e :: es ++ E).length) (1, E.length), x.base, x.same, fun a o h => ?_, ⟨x.stk.1.keep (Same.refl F) (fun a e => ⟨reOw_to e, rfl⟩) fun j e => absurd e (hr j), hE.keep (Same.refl F) (fun m hm a e => ⟨reOw_ne e (fun z => by cases z; omega) (fun z => by cases z; omega), rfl⟩) (.inr rfl)⟩, x.len, fun i r' e => (x.slot i r' e).keep (Same.refl F) (fun a e => ⟨reOw_ne e (fun z => by cases z) (fun z => by cases z), rfl⟩) rfl, x.bag.keep fun a j e => ⟨reOw_ne e (fun z => by cases z) (fun z => by cases z), rfl⟩⟩
    rcases reOw_inv h with ⟨z, _⟩ | z
    · exact x.own a _ z
    · exact x.own a o z
/-- the target's names are the comprehension's own -/
def GOwn (g : TG) (vs : List Nat) : Prop := ∀ x σ H (Q : L2.St → Hp → Prop), g x σ H (fun σ2 H2 => L2.wipe σ2 vs = L2.wipe σ vs → Q σ2 H2) → g x σ H Q
theorem wipe_set {σ : L2.St} {j : Nat} {x : Option V} : ∀ {vs : List Nat}, j ∈ vs → L2.wipe (σ.set j x) vs = L2.wipe σ vs := by
  intro vs hj
  refine List.ext_getElem? fun i => ?_
  by_cases hi : i ∈ vs
  · have h : ∀ (τ : L2.St), τ.length = σ.length → (L2.wipe τ vs)[i]? = (if i < σ.length then some none else none) := fun τ hl => by
      clear hj
      induction vs with
      | nil => exact absurd hi (by simp)
      | cons v vs ih =>
        unfold L2.wipe
        by_cases hv : v = i
        · subst hv
          by_cases hlt : v < σ.length
          · rw [List.getElem?_set_self (by rw [wipe_length, hl]; exact hlt), if_pos hlt]
          · rw [List.getElem?_eq_none (by rw [List.length_set, wipe_length, hl]; omega), if_neg hlt]
        · rw [List.getElem?_set_ne hv]
          rcases List.mem_cons.mp hi with z | z
          · exact absurd z.symm hv
          · exact ih z
    rw [h _ (List.length_set ..), h σ rfl]
  · have hij : j ≠ i := fun z => hi (z ▸ hj)
    rw [wipe_out hi, wipe_out hi, List.getElem?_set_ne hij]
theorem wipe_twice {σ : L2.St} : ∀ {vs : List Nat}, L2.wipe (L2.wipe σ vs) vs = L2.wipe σ vs := by
  intro vs
  refine List.ext_getElem? fun i => ?_
  by_cases hi : i ∈ vs
  · have h : ∀ (τ : L2.St), τ.length = σ.length → (L2.wipe τ vs)[i]? = (if i < σ.length then some none else none) := fun τ hl => by
      induction vs with
      | nil => exact absurd hi (by simp)
      | cons v vs ih =>
        unfold L2.wipe
        by_cases hv : v = i
        · subst hv
          by_cases hlt : v < σ.length
          · rw [List.getElem?_set_self (by rw [wipe_length, hl]; exact hlt), if_pos hlt]
          · rw [List.getElem?_eq_none (by rw [List.length_set, wipe_length, hl]; omega), if_neg hlt]
        · rw [List.getElem?_set_ne hv]
          rcases List.mem_cons.mp hi with z | z
          · exact absurd z.symm hv
          · exact ih z
    rw [h _ (wipe_length ..), h σ rfl]
  · rw [wipe_out hi]
theorem gown_name {j : Nat} {vs : List Nat} (h : j ∈ vs) : GOwn (gName j) vs := fun x σ H Q q => q (wipe_set h)
def GsOwn (g : TGs) (vs : List Nat) : Prop := ∀ x σ H (Q : L2.St → Hp → Prop), g x σ H (fun σ2 H2 => L2.wipe σ2 vs = L2.wipe σ vs → Q σ2 H2) → g x σ H Q
/-- a target hands on what holds of the state -/
def GMono (g : TG) : Prop := ∀ x σ H (Q Q' : L2.St → Hp → Prop), (∀ σ2 H2, Q σ2 H2 → Q' σ2 H2) → g x σ H Q → g x σ H Q'
def GsMono (g : TGs) : Prop := ∀ x σ H (Q Q' : L2.St → Hp → Prop), (∀ σ2 H2, Q σ2 H2 → Q' σ2 H2) → g x σ H Q → g x σ H Q'
theorem gmono_name {j : Nat} : GMono (gName j) := fun x σ H Q Q' h q => h _ _ q
theorem gsmono_nil : GsMono gNil := fun x σ H Q Q' h q => ⟨q.1, h _ _ q.2⟩
theorem gsmono_cons (a : GMono g) (b : GsMono gs) : GsMono (gCons g gs) := fun x σ H Q Q' h ⟨v, r, e, q⟩ => ⟨v, r, e, a _ _ _ _ _ (fun σ2 H2 q2 => b _ _ _ _ _ h q2) q⟩
theorem gmono_tup {n : Nat} (b : GsMono gs) : GMono (gTup K n gs) := fun x σ H Q Q' h ⟨a, xs, e, h1, h2, q⟩ => ⟨a, xs, e, h1, h2, b _ _ _ _ _ h q⟩
theorem gsown_nil {vs : List Nat} : GsOwn gNil vs := fun x σ H Q q => ⟨q.1, q.2 rfl⟩
theorem gsown_cons {vs : List Nat} (a : GOwn g vs) (am : GMono g) (b : GsOwn gs vs) (bm : GsMono gs) : GsOwn (gCons g gs) vs := fun x σ H Q ⟨v, r, e, q⟩ => ⟨v, r, e, a v σ H _ (am _ _ _ _ _ (fun σ2 H2 q2 e2 => b r σ2 H2 _ (bm _ _ _ _ _ (fun σ3 H3 q3 e3 => q3 (e3.trans e2)) q2)) q)⟩
theorem gown_tup {n : Nat} {vs : List Nat} (b : GsOwn gs vs) : GOwn (gTup K n gs) vs := fun x σ H Q ⟨a, xs, e, h1, h2, q⟩ => ⟨a, xs, e, h1, h2, b _ _ _ _ q⟩
/-- a comprehension: I by the turn and what is made so far -/
theorem we_lc {wi : TI} {vs : List Nat} (hg : GOwn g vs) (h : WI Γ K β wi ρ fun its ρ1 => Unused ρ1 vs ∧ its.length ≤ 100000 ∧ ∃ I : Nat → List PyData → Prop, I 0 [] ∧
      (∀ i d acc, its[i]? = some d → acc.length ≤ i → I i acc → WG Γ K β g (.d d) ρ1 fun ρ2 => Weak ρ2 ρ1 ∧ WT Γ K β tt ρ2 fun b ρ3 => ρ3 = ρ2 ∧ ((b = true → WE Γ K β te ρ2 fun r ρ4 => ρ4 = ρ2 ∧ ∃ x, r = .d x ∧ I (i + 1) (acc ++ [x])) ∧ (b = false → I (i + 1) acc))) ∧
      (∀ acc, I its.length acc → acc.length ≤ its.length → k (.ol acc) ρ1)) : WE Γ K β (tLc wi g tt te vs) ρ k := fun Hb E σ H x Q f => by
  obtain ⟨_, _, x'⟩ := id x
  have al : AlOk σ E := x'.stk.alOk
  clear x'
  refine h Hb (E.map hid) σ H x.hide _ fun J its es ρ1 H1 h1 S x1 => ?_
  intro D hD
  obtain ⟨hv, hl, I, i0, turn, fin⟩ := h1
  obtain ⟨G, Y, w, hG, hY⟩ := S.walk
  have hne : NoAl (es ++ E.map hid) := S.noal.app (hid_noal E)
  -- the new list is on the stack, below nothing
  have start : Ok Γ K β Hb ((.ref D, .ol []) :: (es ++ E.map hid)) (L2.wipe σ vs) ρ1 (upd H1 D (.lst [])) := by
    have x2 := x1.wipe hv hne
    obtain ⟨F, ow, x2⟩ := x2
    exact ⟨F, _, x2.fresh (u := .lst []) (r := .ol []) hD trivial ⟨D, [], rfl, setOw_same, upd_same, .nil⟩⟩
  refine lc_it w (fun i H' => ∃ acc, I i acc ∧ acc.length ≤ i ∧ Ok Γ K β Hb ((.ref D, .ol acc) :: (es ++ E.map hid)) (L2.wipe σ vs) ρ1 H') ⟨[], i0, Nat.zero_le _, start⟩ (fun i H' _ ⟨acc, _, _, x2⟩ => hG Hb _ [(.ref D, .ol acc)] _ ρ1 H' x2) (fun i y H' H2 hi ⟨acc, q, hacc, x2⟩ hy => ?_) fun H' ⟨acc, q, hacc, x2⟩ => ?_
  · obtain ⟨d, ed, x3⟩ := hY i Hb _ [(.ref D, .ol acc)] _ ρ1 H' y H2 hi x2 hy
    have hne2 : NoAl ((V.ref D, AV.ol acc) :: (es ++ E.map hid)) := hne.cons fun _ z => by cases z
    refine hg _ _ _ _ (turn i d acc ed hacc q Hb _ _ H2 y hne2 x3 _ fun σ2 ρ2 H3 q2 x4 hw => ?_)
    obtain ⟨hw2, q2⟩ := q2
    refine ⟨by rw [hw, wipe_twice], ?_⟩
    refine q2 Hb _ σ2 H3 x4 _ fun b ρ3 H4 q3 x5 => ?_
    obtain ⟨rfl, qt, qf⟩ := q3
    -- back to the start of a turn
    have back : ∀ {acc' : List PyData} {H5 : Hp}, Ok Γ K β Hb ((V.ref D, AV.ol acc') :: (es ++ E.map hid)) σ2 ρ3 H5 → Ok Γ K β Hb ((V.ref D, AV.ol acc') :: (es ++ E.map hid)) (L2.wipe σ vs) ρ1 H5 := fun {acc' H5} x6 => by
      have x7 := (x6.weak hw2).wipe hv (hne.cons fun _ z => by cases z)
      rw [hw, wipe_twice] at x7
      exact x7
    cases b with
    | true =>
      refine iteT ?_
      refine qt rfl Hb _ σ2 H4 x5 _ fun z r ρ4 H5 q4 x6 => ?_
      obtain ⟨rfl, e, rfl, q5⟩ := q4
      obtain ⟨F, ow, x6⟩ := x6
      obtain ⟨a, xs, ea, ho, hH, hd⟩ := x6.stk.2.1
      cases ea
      have hz : Dp K F z e := x6.stk.1
      refine ⟨xs, hH, ?_, acc ++ [e], q5, by rw [List.length_append, List.length_singleton]; omega, back ?_⟩
      · rw [dpa_len hd]
        exact Nat.lt_of_le_of_lt (Nat.le_trans hacc (Nat.le_trans (Nat.le_of_lt hi) hl)) (by decide)
      · -- the list on the stack grows
        have hF := (x6.own _ _ ho).1
        have ne : ∀ b o, ow b = some o → o ≠ (1, (es ++ E.map hid).length) → b ≠ D := fun b o e h z => by
          rw [z, ho] at e
          exact h (Option.some.inj e).symm
        refine ⟨F, ow, x6.base, fun b u e => ?_, fun b o e => ?_, ⟨⟨D, xs ++ [z], rfl, ho, upd_same, dpa_append hd (.cons hz .nil)⟩, x6.stk.2.2.keep (Same.refl F) (fun m hm b e => ⟨e, upd_ne (ne b _ e (fun z => by cases z; exact Nat.lt_irrefl _ hm))⟩) (.inr rfl)⟩, x6.len, fun j r' e => (x6.slot j r' e).keep (Same.refl F) (fun b e => ⟨e, upd_ne (ne b _ e (fun z => by cases z))⟩) rfl, x6.bag.keep fun b j e => ⟨e, upd_ne (ne b _ e (fun z => by cases z))⟩⟩
        · rw [upd_ne (ne_of_none e hF)]
          exact x6.same b u e
        · by_cases hb : b = D
          · subst hb
            rw [upd_same]
            exact ⟨hF, trivial⟩
          · rw [upd_ne hb]
            exact x6.own b o e
    | false => exact iteF ⟨acc, qf rfl, by omega, back x5⟩
  · refine f _ (.ol acc) ρ1 H' (fin acc q hacc) ?_
    have x3 := Ok.dropMid (E := E.map hid) (es := es) (fun _ z => by cases z) (Ok.unwipe hv (hne.cons fun _ z => by cases z) x2)
    exact x3.unhideTop al
end
end AB
end
/-! ## AB5 -/
section
/-! AB5: calls of built-ins, methods of lists, dicts. -/
namespace AB
open PySem PySem.Spec PyProof.Rows L2
section
variable {Γ : Wd} {K : PySem.W.Frag} {β : Option Addr} {Hb F H H' : Hp} {ow : Ow} {E : List (V × AV)} {σ : L2.St} {ρ : Rho} {v : V} {r : AV} {o : Nat × Nat} {te ta tb tc to : TE} {tt tu : TT} {tas : TA} {k : AV → Rho → Prop} {kr : Rho → Prop} {P : Kn} {t u : TS} {g : TG} {gs : TGs}
/-- a call of a built-in, by what it does -/
theorem we_cb {rr : List V → Hp → VK → Prop} (h : WA Γ K β tas ρ fun rs ρ1 => ∀ Hb E σ H vs, vs.length = rs.length → Ok Γ K β Hb (pushA vs rs E) σ ρ1 H → ∀ Q : VK, (∀ v r' ρ' H', k r' ρ' → Ok Γ K β Hb ((v, r') :: E) σ ρ' H' → Q v H') → rr vs H Q) :
    WE Γ K β (tCB rr tas) ρ k := fun Hb E σ H x Q f => h Hb E σ H x _ fun vs rs ρ1 H1 h1 e x1 => h1 Hb E σ H1 vs e x1 Q f
theorem WA.mono {k k' : List AV → Rho → Prop} (h : WA Γ K β tas ρ k) (q : ∀ rs ρ1, k rs ρ1 → k' rs ρ1) : WA Γ K β tas ρ k' := fun Hb E σ H x Q f => h Hb E σ H x Q fun vs rs ρ1 H1 h1 e x1 => f vs rs ρ1 H1 (q _ _ h1) e x1
theorem WE.mono {k k' : AV → Rho → Prop} (h : WE Γ K β te ρ k) (q : ∀ r ρ1, k r ρ1 → k' r ρ1) : WE Γ K β te ρ k' := fun Hb E σ H x Q f => h Hb E σ H x Q fun v r ρ1 H1 h1 x1 => f v r ρ1 H1 (q _ _ h1) x1
theorem WT.mono {k k' : Bool → Rho → Prop} (h : WT Γ K β tt ρ k) (q : ∀ r ρ1, k r ρ1 → k' r ρ1) : WT Γ K β tt ρ k' := fun Hb E σ H x Q f => h Hb E σ H x Q fun b ρ1 H1 h1 x1 => f b ρ1 H1 (q _ _ h1) x1
/-- one argument, answer a datum that stands nowhere -/
theorem we_cb1V {rr : List V → Hp → VK → Prop} (h : WA Γ K β tas ρ fun rs ρ1 => ∃ r, rs = [r] ∧ ∃ z : V, ∃ d : PyData, (∀ F : Hp, Dp K F z d) ∧ k (.d d) ρ1 ∧ ∀ Hb E σ H F ow v, OkF Γ K β Hb F ow ((v, r) :: E) σ ρ1 H → ∀ Q : VK, Q z H → rr [v] H Q) : WE Γ K β (tCB rr tas) ρ k :=
  we_cb (h.mono fun rs ρ1 ⟨r, e, z, d, hz, q, hr⟩ => by
    subst e
    intro Hb E σ H vs e x Q f
    match vs, e with
    | [v], _ =>
      have x : Ok Γ K β Hb ((v, r) :: E) σ ρ1 H := x
      obtain ⟨F, ow, x⟩ := x
      exact hr Hb E σ H F ow v x Q (f z _ ρ1 H q (Ok.pop ⟨F, ow, x⟩ |> fun ⟨F, ow, x⟩ => okD x (hz F))))
theorem we_len (h : WA Γ K β tas ρ fun rs ρ1 => ∃ r, rs = [r] ∧ ∃ ds, (look ρ1 r = some (.list ds) ∨ look ρ1 r = some (.tuple ds)) ∧ k (.d (.int ds.length)) ρ1) :
    WE Γ K β (tCB (fun xs H Q => ∃ p ys, xs = [.ref p] ∧ (SqL K H p ys ∨ SqT K H p ys) ∧ Q (.int ys.length) H) tas) ρ k := we_cb1V (h.mono fun rs ρ1 ⟨r, e, ds, l, q⟩ => ⟨r, e, .int ds.length, _, fun _ => .int _, q, fun Hb E σ H F ow v x Q hq => by
  rcases l with l | l
  · obtain ⟨a, xs, rfl, h1, h2⟩ := x.stk.1.itemsL x l
    exact ⟨a, xs, rfl, .inl h1, by rw [dpa_len h2]; exact hq⟩
  · obtain ⟨a, xs, rfl, h1, h2⟩ := x.stk.1.itemsT x l
    exact ⟨a, xs, rfl, .inr h1, by rw [dpa_len h2]; exact hq⟩⟩)
/-- what slot i holds, for an alias -/
theorem OkF.at {i : Nat} {r' : AV} (x : OkF Γ K β Hb F ow ((v, .al i) :: E) σ ρ H) (e : ρ[i]? = some r') (hn : r' ≠ .un) : Ent Γ K F H σ ow (0, i) v r' := x.alias x.stk.1 e hn
theorem pk2_len {κ : Type} {ps : List (κ × V)} {kvs : List (κ × PyData)} (h : PK2 K F ps kvs) : ps.length = kvs.length := Paired.length h
theorem we_lenK (h : WA Γ K β tas ρ fun rs ρ1 => ∃ kvs : List (Key × PyData), ((∃ i, rs = [.al i] ∧ ρ1[i]? = some (.oK kvs)) ∨ rs = [.oK kvs]) ∧ k (.d (.int kvs.length)) ρ1) :
    WE Γ K β (tCB (fun xs H Q => ∃ a kvs, xs = [V.ref a] ∧ H a = some (.dK kvs) ∧ Q (.int kvs.length) H) tas) ρ k := we_cb1V (h.mono fun rs ρ1 ⟨kvs, e, q⟩ => by
  rcases e with ⟨i, rfl, e⟩ | rfl
  · exact ⟨.al i, rfl, .int kvs.length, _, fun _ => .int _, q, fun Hb E σ H F ow v x Q hq => by
      obtain ⟨a, ps, rfl, _, h1, h2⟩ := x.at e (fun z => by cases z)
      exact ⟨a, ps, rfl, h1, by rw [pk2_len h2]; exact hq⟩⟩
  · exact ⟨.oK kvs, rfl, .int kvs.length, _, fun _ => .int _, q, fun Hb E σ H F ow v x Q hq => by
      obtain ⟨a, ps, rfl, _, h1, h2⟩ := x.stk.1
      exact ⟨a, ps, rfl, h1, by rw [pk2_len h2]; exact hq⟩⟩)
/-- a datum's built-in class -/
def tyN : PyData → String
  | .none => "NoneType"
  | .bool _ => "bool"
  | .int _ => "int"
  | .str _ => "str"
  | .list _ => "list"
  | .tuple _ => "tuple"
  | .dict _ => "dict"
theorem tyX_of {d : PyData} (h : Dp K H v d) : TyX K H v (.type (tyN d)) := by
  cases h with
  | non => exact .base .non
  | bl b => exact .base (.bl b)
  | int i => exact .base (.int i)
  | str x => exact .base (.str x)
  | lst h1 _ =>
    rcases h1 with (h1 | ⟨o, h1⟩) | ⟨o, its, n, h1, c1, _⟩
    · exact .base (.lst h1)
    · exact .base (.frz h1)
    · exact .kList h1 c1
  | tup h1 _ =>
    rcases h1 with (h1 | ⟨o, h1⟩) | ⟨o, its, n, h1, c1, _⟩
    · exact .base (.tup h1)
    · exact .fTuple h1
    · exact .kTuple h1 c1
theorem we_isi (h : WA Γ K β tas ρ fun rs ρ1 => ∃ r T, rs = [r, .rv (.ty T)] ∧ ∃ d b, look ρ1 r = some d ∧ kitB (tyN d) T = some b ∧ k (.d (.bool b)) ρ1) : WE Γ K β (tCB (rIsi K) tas) ρ k :=
  we_cb (h.mono fun rs ρ1 ⟨r, T, e, d, b, l, hk, q⟩ => by
    subst e
    intro Hb E σ H vs e x Q f
    match vs, e with
    | [v, w], _ =>
      have x : Ok Γ K β Hb ((w, .rv (.ty T)) :: (v, r) :: E) σ ρ1 H := x
      obtain ⟨F, ow, x⟩ := x
      have ew : w = .ty T := x.stk.1
      subst ew
      exact ⟨v, _, _, _, b, rfl, .ty T, tyX_of (x.look2 l), kit_ty hk, f _ _ ρ1 H q (Ok.pop (Ok.pop ⟨F, ow, x⟩) |> fun ⟨F, ow, x⟩ => okD x (.bl b))⟩)
theorem OkF.items (x : OkF Γ K β Hb F ow ((v, r) :: E) σ ρ H) {ds : List PyData} (l : look ρ r = some (.list ds) ∨ look ρ r = some (.tuple ds)) : ∃ a xs, v = .ref a ∧ (SqL K H a xs ∨ SqT K H a xs) ∧ DpAll K F xs ds := by
  rcases l with l | l
  · obtain ⟨a, xs, h1, h2, h3⟩ := x.stk.1.itemsL x l
    exact ⟨a, xs, h1, .inl h2, h3⟩
  · obtain ⟨a, xs, h1, h2, h3⟩ := x.stk.1.itemsT x l
    exact ⟨a, xs, h1, .inr h2, h3⟩
theorem OkF.pop1 {e : V × AV} (x : OkF Γ K β Hb F ow (e :: E) σ ρ H) : OkF Γ K β Hb F ow E σ ρ H := ⟨x.base, x.same, x.own, x.stk.2, x.len, x.slot, x.bag⟩
/-- one argument, a sequence; a new list of those very items (some of them, in another order) -/
theorem OkF.newL (x : OkF Γ K β Hb F ow E σ ρ H) {p : Addr} {xs : List V} {ds : List PyData} (hp : H p = none) (h : DpAll K F xs ds) : Ok Γ K β Hb ((.ref p, .ol ds) :: E) σ ρ (upd H p (.lst xs)) := ⟨F, _, x.fresh (u := .lst xs) (r := .ol ds) hp trivial ⟨p, xs, rfl, setOw_same, upd_same, h⟩⟩
theorem OkF.newT (x : OkF Γ K β Hb F ow E σ ρ H) {p : Addr} {xs : List V} {ds : List PyData} (hp : H p = none) (h : DpAll K F xs ds) : Ok Γ K β Hb ((.ref p, .d (.tuple ds)) :: E) σ ρ (upd H p (.tup xs)) := ⟨_, ow, (x.frozen (u := .tup xs) hp).push (r := .d (.tuple ds)) (.tup (.of upd_same) (dpa_same (x.sameF hp) h))⟩
theorem we_tuple (h : WA Γ K β tas ρ fun rs ρ1 => ∃ r, rs = [r] ∧ ∃ ds, ((look ρ1 r = some (.list ds)) ∨ r = .d (.tuple ds)) ∧ k (.d (.tuple ds)) ρ1) :
    WE Γ K β (tCB (fun xs H Q => ∃ p ys, xs = [.ref p] ∧ ((SqL K H p ys ∧ ∀ l, H l = none → Q (.ref l) (upd H l (.tup ys))) ∨ (SqT K H p ys ∧ Q (.ref p) H))) tas) ρ k := we_cb (h.mono fun rs ρ1 ⟨r, e, ds, l, q⟩ => by
  subst e
  intro Hb E σ H vs e x Q f
  match vs, e with
  | [v], _ =>
    have x : Ok Γ K β Hb ((v, r) :: E) σ ρ1 H := x
    rcases l with l | rfl
    · obtain ⟨F, ow, x⟩ := x
      obtain ⟨a, xs, rfl, h1, h2⟩ := x.stk.1.itemsL x l
      exact ⟨a, xs, rfl, .inl ⟨h1, fun p hp => f _ _ ρ1 _ q (x.pop1.newT hp h2)⟩⟩
    · have x' := x
      obtain ⟨F, ow, x⟩ := x
      have z : Dp K F v (.tuple ds) := x.stk.1
      cases z with
      | tup h1 h2 => exact ⟨_, _, rfl, .inr ⟨sqt_same x.same h1, f _ _ ρ1 H q x'⟩⟩)
theorem we_list (h : WA Γ K β tas ρ fun rs ρ1 => ∃ r, rs = [r] ∧ ∃ ds, (look ρ1 r = some (.list ds) ∨ look ρ1 r = some (.tuple ds)) ∧ k (.ol ds) ρ1) :
    WE Γ K β (tCB (fun xs H Q => ∃ p ys, xs = [.ref p] ∧ (SqL K H p ys ∨ SqT K H p ys) ∧ ∀ l, H l = none → Q (.ref l) (upd H l (.lst ys))) tas) ρ k := we_cb (h.mono fun rs ρ1 ⟨r, e, ds, l, q⟩ => by
  subst e
  intro Hb E σ H vs e x Q f
  match vs, e with
  | [v], _ =>
    have x : Ok Γ K β Hb ((v, r) :: E) σ ρ1 H := x
    obtain ⟨F, ow, x⟩ := x
    obtain ⟨a, xs, rfl, h1, h2⟩ := x.items l
    exact ⟨a, xs, rfl, h1, fun p hp => f _ _ ρ1 _ q (x.pop1.newL hp h2)⟩)
/-- list(range(n)) -/
theorem we_listRg1 (h : WE Γ K β te ρ fun r ρ1 => ∃ n, r = .d (.int n) ∧ n ≤ 100000 ∧ -100000 ≤ n ∧ k (.ol (rgD 0 1 n.toNat)) ρ1) : WE Γ K β (tLstRg (tRg1 te)) ρ k := fun Hb E σ H x Q f => h Hb E σ H x _ fun v r ρ1 H1 h1 x1 => by
  obtain ⟨n, rfl, h2, h3, q⟩ := h1
  obtain ⟨F, ow, x1⟩ := x1
  have z : Dp K F v (.int n) := x1.stk.1
  cases z
  refine ⟨n, rfl, ⟨by omega, by omega, by omega, by omega, by omega⟩, fun p hp => f _ _ ρ1 _ q (x1.pop1.newL hp ?_)⟩
  have e : rgV 0 n = ((List.range n.toNat).map fun i => (0 : Int) + (i : Nat) * 1).map V.int := by
    unfold rgV
    rw [List.map_map, Int.sub_zero]
    refine List.map_congr_left fun i _ => ?_
    show V.int _ = V.int (0 + (i : Nat) * 1)
    rw [Int.mul_one]
  have e2 : rgD 0 1 n.toNat = ((List.range n.toNat).map fun i => (0 : Int) + (i : Nat) * 1).map PyData.int := by
    unfold rgD
    rw [List.map_map]
    rfl
  rw [e, e2]
  exact dpa_ints _
/-- numbers: abs, int, gcd, sum -/
theorem we_abs (h : WA Γ K β tas ρ fun rs ρ1 => ∃ i, rs = [.d (.int i)] ∧ k (.d (.int (if i < 0 then -i else i))) ρ1) : WE Γ K β (tCB (fun xs H Q => ∃ i, xs = [.int i] ∧ Q (.int (if i < 0 then -i else i)) H) tas) ρ k :=
  we_cb1V (h.mono fun rs ρ1 ⟨i, e, q⟩ => ⟨_, e, _, _, fun _ => .int _, q, fun Hb E σ H F ow v x Q hq => by
    have z : Dp K F v (.int i) := x.stk.1
    cases z
    exact ⟨i, rfl, hq⟩⟩)
theorem we_int1 (h : WA Γ K β tas ρ fun rs ρ1 => ∃ i, rs = [.d (.int i)] ∧ k (.d (.int i)) ρ1) : WE Γ K β (tCB (fun xs H Q => (∃ i, xs = [.int i] ∧ Q (.int i) H) ∨ ∃ k, xs = [.bl k] ∧ Q (.int (if k then 1 else 0)) H) tas) ρ k :=
  we_cb1V (h.mono fun rs ρ1 ⟨i, e, q⟩ => ⟨_, e, _, _, fun _ => .int _, q, fun Hb E σ H F ow v x Q hq => by
    have z : Dp K F v (.int i) := x.stk.1
    cases z
    exact .inl ⟨i, rfl, hq⟩⟩)
theorem we_gcd (h : WA Γ K β tas ρ fun rs ρ1 => ∃ a b : Int, rs = [.d (.int a), .d (.int b)] ∧ k (.d (.int ((Nat.gcd a.natAbs b.natAbs : Nat) : Int))) ρ1) : WE Γ K β (tCB rGcd tas) ρ k :=
  we_cb (h.mono fun rs ρ1 ⟨a, b, e, q⟩ => by
    subst e
    intro Hb E σ H vs e x Q f
    match vs, e with
    | [v, w], _ =>
      have x : Ok Γ K β Hb ((w, .d (.int b)) :: (v, .d (.int a)) :: E) σ ρ1 H := x
      obtain ⟨F, ow, x⟩ := x
      have z : Dp K F w (.int b) := x.stk.1
      have z2 : Dp K F v (.int a) := x.stk.2.1
      cases z
      cases z2
      exact ⟨a, b, rfl, f _ _ ρ1 H q (Ok.pop (Ok.pop ⟨F, ow, x⟩) |> fun ⟨F, ow, x⟩ => okD x (.int _))⟩)
theorem we_sum (h : WA Γ K β tas ρ fun rs ρ1 => ∃ r, rs = [r] ∧ ∃ ns : List Int, look ρ1 r = some (.list (ns.map .int)) ∧ k (.d (.int ns.sum)) ρ1) : WE Γ K β (tCB (rSum K) tas) ρ k :=
  we_cb1V (h.mono fun rs ρ1 ⟨r, e, ns, l, q⟩ => ⟨r, e, _, _, fun _ => .int _, q, fun Hb E σ H F ow v x Q hq => by
    obtain ⟨a, xs, rfl, h1, h2⟩ := x.stk.1.itemsL x l
    rw [dpa_ints_inv h2] at h1
    exact ⟨a, ns, rfl, h1, hq⟩⟩)
/-- sorted of ints -/
theorem we_sortedI (h : WA Γ K β tas ρ fun rs ρ1 => ∃ r, rs = [r] ∧ ∃ ns : List Int, look ρ1 r = some (.list (ns.map .int)) ∧ ∀ ms : List Int, ms.Perm ns → ms.Pairwise (· ≤ ·) → k (.ol (ms.map .int)) ρ1) : WE Γ K β (tCB (rSortedI K) tas) ρ k :=
  we_cb (h.mono fun rs ρ1 ⟨r, e, ns, l, q⟩ => by
    subst e
    intro Hb E σ H vs e x Q f
    match vs, e with
    | [v], _ =>
      have x : Ok Γ K β Hb ((v, r) :: E) σ ρ1 H := x
      obtain ⟨F, ow, x⟩ := x
      obtain ⟨a, xs, rfl, h1, h2⟩ := x.stk.1.itemsL x l
      rw [dpa_ints_inv h2] at h1
      exact ⟨a, ns, rfl, h1, fun ms p hm hs hp => f _ _ ρ1 _ (q ms hm hs) (x.pop1.newL hp (dpa_ints ms))⟩)
/-- a tuple of ints -/
abbrev tI (ns : List Int) : PyData := .tuple (ns.map .int)
theorem tupI_of {ns : List Int} (h : Dp K F v (tI ns)) (s : Same F H) : TupI K H v ns := by
  cases h with
  | tup h1 h2 =>
    rw [dpa_ints_inv h2] at h1
    exact ⟨_, rfl, sqt_same s h1⟩
theorem dpa_perm_mem {ds : List PyData} {xs : List V} (h : DpAll K F xs ds) : ∀ x ∈ xs, ∃ d, d ∈ ds ∧ Dp K F x d := fun x hx => dpa_mem h hx
/-- the data of permuted values -/
theorem dpa_perm {xs ys : List V} (p : ys.Perm xs) : ∀ {ds : List PyData}, DpAll K F xs ds → ∃ es, es.Perm ds ∧ DpAll K F ys es := by
  induction p with
  | nil => intro ds h; exact ⟨ds, List.Perm.refl _, h⟩
  | @cons x l1 l2 _ ih =>
    intro ds h
    cases h with
    | @cons _ _ d ds' h1 h2 =>
      obtain ⟨es, p1, p2⟩ := ih h2
      exact ⟨d :: es, p1.cons d, .cons h1 p2⟩
  | swap x y l =>
    intro ds h
    cases h with
    | @cons _ _ d ds' h1 h2 =>
      cases h2 with
      | @cons _ _ d2 ds2 h3 h4 => exact ⟨d2 :: d :: ds2, List.Perm.swap _ _ _, .cons h3 (.cons h1 h4)⟩
  | trans _ _ ih1 ih2 =>
    intro ds h
    obtain ⟨es, p1, h1⟩ := ih2 h
    obtain ⟨fs, p2, h2⟩ := ih1 h1
    exact ⟨fs, p2.trans p1, h2⟩
theorem dpa_tI_inv : ∀ {es : List PyData} {nss : List (List Int)}, es.Perm (nss.map tI) → ∃ mss : List (List Int), es = mss.map tI ∧ mss.Perm nss := by
  intro es nss h
  have : ∀ e ∈ es, ∃ ns, e = tI ns := fun e he => by
    obtain ⟨ns, _, rfl⟩ := List.mem_map.mp (h.mem_iff.mp he)
    exact ⟨ns, rfl⟩
  -- read the ints back
  let back : PyData → List Int := fun d => match d with
    | .tuple xs => xs.filterMap fun x => match x with
      | .int i => some i
      | _ => none
    | _ => []
  have hb : ∀ ns, back (tI ns) = ns := fun ns => by
    show (ns.map PyData.int).filterMap _ = ns
    induction ns with
    | nil => rfl
    | cons n ns ih =>
      rw [List.map_cons, List.filterMap_cons]
      dsimp only
      rw [ih]
  refine ⟨es.map back, ?_, ?_⟩
  · rw [List.map_map]
    have : es.map id = es.map (tI ∘ back) := List.map_congr_left fun e he => by
      obtain ⟨ns, rfl⟩ := this e he
      show tI ns = tI (back (tI ns))
      rw [hb]
    rw [← this, List.map_id]
  · have q := h.map back
    rw [List.map_map] at q
    have e2 : nss.map (back ∘ tI) = nss := by
      have : nss.map (back ∘ tI) = nss.map id := List.map_congr_left fun ns _ => hb ns
      rw [this, List.map_id]
    rw [e2] at q
    exact q
/-- sorted of fewer than 64 tuples of d ints in [0, B) -/
theorem we_sortedT {d : Nat} {B : Int} (h : WA Γ K β tas ρ fun rs ρ1 => ∃ r, rs = [r] ∧ ∃ nss : List (List Int), look ρ1 r = some (.list (nss.map tI)) ∧ nss.length < 64 ∧ (∀ ns ∈ nss, ns.length = d ∧ TS.Bd B ns) ∧
      ∀ mss : List (List Int), mss.Perm nss → mss.Pairwise (fun n m => TS.code B n ≤ TS.code B m) → k (.ol (mss.map tI)) ρ1) : WE Γ K β (tCB (rSortU K d B) tas) ρ k :=
  we_cb (h.mono fun rs ρ1 ⟨r, e, nss, l, h64, hb, q⟩ => by
    subst e
    intro Hb E σ H vs e x Q f
    match vs, e with
    | [v], _ =>
      have x : Ok Γ K β Hb ((v, r) :: E) σ ρ1 H := x
      obtain ⟨F, ow, x⟩ := x
      obtain ⟨a, xs, rfl, h1, h2⟩ := x.stk.1.itemsL x l
      refine ⟨a, xs, rfl, h1, by rw [dpa_len h2, List.length_map]; exact h64, fun y hy => ?_, fun ys p hperm hpw hp => ?_⟩
      · obtain ⟨dd, h3, h4⟩ := dpa_mem h2 hy
        obtain ⟨ns, h5, rfl⟩ := List.mem_map.mp h3
        exact ⟨ns, tupI_of h4 x.same, (hb ns h5).1, (hb ns h5).2⟩
      · obtain ⟨es, p1, p2⟩ := dpa_perm hperm h2
        obtain ⟨mss, rfl, p3⟩ := dpa_tI_inv p1
        refine f _ _ ρ1 _ (q mss p3 ?_) (x.pop1.newL hp p2)
        -- the order, from the values to the numbers
        have : ∀ {ys : List V} {mss : List (List Int)}, DpAll K F ys (mss.map tI) → ys.Pairwise (fun x y => ∀ n m, TupI K H x n → TupI K H y m → TS.code B n ≤ TS.code B m) → mss.Pairwise (fun n m => TS.code B n ≤ TS.code B m) := by
          intro ys mss
          induction mss generalizing ys with
          | nil => intro _ _; exact .nil
          | cons m mss ih =>
            intro h3 h4
            cases h3 with
            | @cons y ys' _ _ h5 h6 =>
              refine List.pairwise_cons.mpr ⟨fun n hn => ?_, ih h6 (List.pairwise_cons.mp h4).2⟩
              obtain ⟨i, hi⟩ := List.mem_iff_getElem?.mp (List.mem_map_of_mem (f := tI) hn)
              obtain ⟨z, hz, dz⟩ := dpa_get h6 hi
              exact (List.pairwise_cons.mp h4).1 z (List.mem_of_getElem? hz) m n (tupI_of h5 x.same) (tupI_of dz x.same)
        exact this p2 hpw)
/-! ### [x] * n, xs + ys -/
theorem we_rep (h : WE Γ K β ta ρ fun x ρ1 => WE Γ K β tb ρ1 fun y ρ2 => ∃ ds i, x = .ol ds ∧ y = .d (.int i) ∧ -100000 ≤ i ∧ i ≤ 100000 ∧ ds.length ≤ 100 ∧ k (.ol (List.flatten (List.replicate i.toNat ds))) ρ2) : WE Γ K β (tOp rRep ta tb) ρ k := fun Hb E σ H x Q f =>
  h Hb E σ H x _ fun vx rx ρ1 H1 h1 x1 => h1 Hb _ σ H1 x1 _ fun vy ry ρ2 H2 h2 x2 => by
    obtain ⟨ds, i, rfl, rfl, b1, b2, b3, q⟩ := h2
    obtain ⟨F, ow, x2⟩ := x2
    have z : Dp K F vy (.int i) := x2.stk.1
    cases z
    obtain ⟨a, xs, rfl, ho, hH, hd⟩ := x2.stk.2.1
    refine ⟨a, i, xs, rfl, rfl, hH, by omega, by omega, ?_, fun p hp => f _ _ ρ2 _ q (x2.pop1.pop1.newL hp ?_)⟩
    · rw [dpa_len hd]
      have h1 : i.toNat ≤ 100000 := by omega
      have h2 := Nat.mul_le_mul b3 h1
      exact Nat.le_trans h2 (by decide)
    · have : ∀ n : Nat, DpAll K F (List.flatten (List.replicate n xs)) (List.flatten (List.replicate n ds)) := fun n => by
        induction n with
        | zero => exact .nil
        | succ n ih =>
          rw [List.replicate_succ, List.replicate_succ, List.flatten_cons, List.flatten_cons]
          exact dpa_append hd ih
      exact this _
theorem we_cat (h : WE Γ K β ta ρ fun x ρ1 => WE Γ K β tb ρ1 fun y ρ2 => ∃ ds es, ((x = .ol ds) ∨ ∃ i, x = .al i ∧ ρ2[i]? = some (.ol ds)) ∧ ((y = .ol es) ∨ ∃ i, y = .al i ∧ ρ2[i]? = some (.ol es)) ∧ ds.length + es.length ≤ 100000 ∧ k (.ol (ds ++ es)) ρ2) : WE Γ K β (tOp rCat ta tb) ρ k := fun Hb E σ H x Q f =>
  h Hb E σ H x _ fun vx rx ρ1 H1 h1 x1 => h1 Hb _ σ H1 x1 _ fun vy ry ρ2 H2 h2 x2 => by
    obtain ⟨ds, es, e1, e2, b, q⟩ := h2
    obtain ⟨F, ow, x2⟩ := x2
    have hx : ∃ a xs, vx = .ref a ∧ H2 a = some (.lst xs) ∧ DpAll K F xs ds := by
      rcases e1 with rfl | ⟨i, rfl, e1⟩
      · obtain ⟨a, xs, rfl, ho, hH, hd⟩ := x2.stk.2.1
        exact ⟨a, xs, rfl, hH, hd⟩
      · obtain ⟨a, xs, rfl, ho, hH, hd⟩ := x2.alias x2.stk.2.1 e1 (fun z => by cases z)
        exact ⟨a, xs, rfl, hH, hd⟩
    have hy : ∃ a xs, vy = .ref a ∧ H2 a = some (.lst xs) ∧ DpAll K F xs es := by
      rcases e2 with rfl | ⟨i, rfl, e2⟩
      · obtain ⟨a, xs, rfl, ho, hH, hd⟩ := x2.stk.1
        exact ⟨a, xs, rfl, hH, hd⟩
      · obtain ⟨a, xs, rfl, ho, hH, hd⟩ := x2.alias x2.stk.1 e2 (fun z => by cases z)
        exact ⟨a, xs, rfl, hH, hd⟩
    obtain ⟨a, xs, rfl, hH, hd⟩ := hx
    obtain ⟨b', ys, rfl, hH', hd'⟩ := hy
    refine ⟨a, b', xs, ys, rfl, rfl, hH, hH', ?_, fun p hp => f _ _ ρ2 _ q (x2.pop1.pop1.newL hp (dpa_append hd hd'))⟩
    rw [dpa_len hd, dpa_len hd']
    exact Nat.le_trans b (by decide)
/-! ### methods of lists -/
theorem tyV_list {a : Addr} {xs : List V} (h : H a = some (.lst xs)) : tyV K "list" (.ref a) H := .inl ⟨rfl, _, .inl (.inl h)⟩
theorem we_append (h : WE Γ K β to ρ fun x ρ1 => ∃ i ds, x = .al i ∧ ρ1[i]? = some (.ol ds) ∧ WE Γ K β te ρ1 fun y ρ2 => ∃ ds e, ρ2[i]? = some (.ol ds) ∧ y = .d e ∧ ds.length < 100000 ∧ k (.d .none) (ρ2.set i (.ol (ds ++ [e])))) :
    WE Γ K β (tBM K "list" rAppend to (tCons te tNil)) ρ k := fun Hb E σ H x Q f => h Hb E σ H x _ fun vx rx ρ1 H1 h1 x1 => by
  obtain ⟨i, ds0, rfl, e0, h1⟩ := h1
  obtain ⟨F, ow, x1⟩ := x1
  obtain ⟨a, xs, rfl, ho, hH, hd⟩ := x1.at e0 (fun z => by cases z)
  have hv : σ[i]? = some (some (.ref a)) := x1.stk.1
  refine ⟨tyV_list hH, ?_⟩
  refine h1 Hb _ σ H1 ⟨F, ow, x1⟩ _ fun vy ry ρ2 H2 h2 x2 => ?_
  obtain ⟨ds, e, e1, rfl, b, q⟩ := h2
  obtain ⟨F2, ow2, x2⟩ := x2
  obtain ⟨a', ys, ea, ho2, hH2, hd2⟩ := x2.alias hv e1 (fun z => by cases z)
  cases ea
  have hy : Dp K F2 vy e := x2.stk.1
  refine ⟨a, ys, vy, rfl, rfl, hH2, ?_, f _ _ _ _ q ?_⟩
  · rw [dpa_len hd2]
    exact Nat.lt_of_lt_of_le b (by decide)
  · have x3 := x2.pop1.pop1.mut (u := .lst (ys ++ [vy])) (r' := .ol (ds ++ [e])) hv ho2 trivial (fun l z => by cases z) ⟨a, _, rfl, ho2, upd_same, dpa_append hd2 (.cons hy .nil)⟩
    exact okD x3 .non
theorem we_pop (h : WE Γ K β to ρ fun x ρ1 => ∃ i ds e, x = .al i ∧ ρ1[i]? = some (.ol (ds ++ [e])) ∧ k (.d e) (ρ1.set i (.ol ds))) : WE Γ K β (tBM0 K "list" rPop to) ρ k := fun Hb E σ H x Q f => h Hb E σ H x _ fun vx rx ρ1 H1 h1 x1 => by
  obtain ⟨i, ds, e, rfl, e0, q⟩ := h1
  obtain ⟨F, ow, x1⟩ := x1
  obtain ⟨a, xs, rfl, ho, hH, hd⟩ := x1.at e0 (fun z => by cases z)
  have hv : σ[i]? = some (some (.ref a)) := x1.stk.1
  have hl := dpa_len hd
  rw [List.length_append, List.length_singleton] at hl
  obtain ⟨y, hy, dy⟩ := dpa_get (i := ds.length) (d := e) hd (by simp)
  refine ⟨tyV_list hH, a, xs, y, rfl, rfl, hH, ?_, f _ _ _ _ q ?_⟩
  · rw [hl]
    exact hy
  · have hdr : DpAll K F xs.dropLast ds := by
      have z := dpa_take ds.length hd
      rw [List.take_left'  rfl] at z
      rw [List.dropLast_eq_take, hl]
      exact z
    have x3 := x1.pop1.mut (u := .lst xs.dropLast) (r' := .ol ds) hv ho trivial (fun l z => by cases z) ⟨a, _, rfl, ho, upd_same, hdr⟩
    exact okD x3 dy
theorem we_reverse (h : WE Γ K β to ρ fun x ρ1 => ∃ i ds, x = .al i ∧ ρ1[i]? = some (.ol ds) ∧ k (.d .none) (ρ1.set i (.ol ds.reverse))) : WE Γ K β (tBM0 K "list" rReverse to) ρ k := fun Hb E σ H x Q f => h Hb E σ H x _ fun vx rx ρ1 H1 h1 x1 => by
  obtain ⟨i, ds, rfl, e0, q⟩ := h1
  obtain ⟨F, ow, x1⟩ := x1
  obtain ⟨a, xs, rfl, ho, hH, hd⟩ := x1.at e0 (fun z => by cases z)
  have hv : σ[i]? = some (some (.ref a)) := x1.stk.1
  refine ⟨tyV_list hH, a, xs, rfl, rfl, hH, f _ _ _ _ q ?_⟩
  have x3 := x1.pop1.mut (u := .lst xs.reverse) (r' := .ol ds.reverse) hv ho trivial (fun l z => by cases z) ⟨a, _, rfl, ho, upd_same, dpa_reverse hd⟩
  exact okD x3 .non
theorem we_extend (h : WE Γ K β to ρ fun x ρ1 => ∃ i ds, x = .al i ∧ ρ1[i]? = some (.ol ds) ∧ WE Γ K β te ρ1 fun y ρ2 => ∃ ds es, ρ2[i]? = some (.ol ds) ∧ y = .ol es ∧ ds.length + es.length ≤ 100000 ∧ k (.d .none) (ρ2.set i (.ol (ds ++ es)))) :
    WE Γ K β (tBM K "list" rExtend to (tCons te tNil)) ρ k := fun Hb E σ H x Q f => h Hb E σ H x _ fun vx rx ρ1 H1 h1 x1 => by
  obtain ⟨i, ds0, rfl, e0, h1⟩ := h1
  obtain ⟨F, ow, x1⟩ := x1
  obtain ⟨a, xs, rfl, ho, hH, hd⟩ := x1.at e0 (fun z => by cases z)
  have hv : σ[i]? = some (some (.ref a)) := x1.stk.1
  refine ⟨tyV_list hH, ?_⟩
  refine h1 Hb _ σ H1 ⟨F, ow, x1⟩ _ fun vy ry ρ2 H2 h2 x2 => ?_
  obtain ⟨ds, es, e1, rfl, b, q⟩ := h2
  obtain ⟨F2, ow2, x2⟩ := x2
  obtain ⟨a', ys, ea, ho2, hH2, hd2⟩ := x2.alias hv e1 (fun z => by cases z)
  cases ea
  obtain ⟨b', zs, rfl, ho3, hH3, hd3⟩ := x2.stk.1
  refine ⟨a, b', ys, zs, rfl, rfl, hH2, hH3, ?_, f _ _ _ _ q ?_⟩
  · rw [dpa_len hd2, dpa_len hd3]
    exact Nat.le_trans b (by decide)
  · have x3 := x2.pop1.pop1.mut (u := .lst (ys ++ zs)) (r' := .ol (ds ++ es)) hv ho2 trivial (fun l z => by cases z) ⟨a, _, rfl, ho2, upd_same, dpa_append hd2 hd3⟩
    exact okD x3 .non
/-- xs[i] = e -/
theorem wg_setL {e : PyData} (h : WE Γ K β ta ρ fun x ρ1 => ∃ i, x = .al i ∧ WE Γ K β tb ρ1 fun y ρ2 => ∃ ds n j, ρ2[i]? = some (.ol ds) ∧ y = .d (.int n) ∧ ixN ds.length n = some j ∧ kr (ρ2.set i (.ol (ds.set j e)))) : WG Γ K β (gSub ta tb rSetL) (.d e) ρ kr := fun Hb E σ H v hn x Q f =>
  h Hb _ σ H x _ fun vx rx ρ1 H1 h1 x1 => by
    obtain ⟨i, rfl, h1⟩ := h1
    have x1' := x1
    obtain ⟨F, ow, x1⟩ := x1
    have hv : σ[i]? = some (some vx) := x1.stk.1
    refine h1 Hb _ σ H1 x1' _ fun vy ry ρ2 H2 h2 x2 => ?_
    obtain ⟨ds, n, j, e1, rfl, ej, q⟩ := h2
    obtain ⟨F2, ow2, x2⟩ := x2
    obtain ⟨a, ys, rfl, ho2, hH2, hd2⟩ := x2.alias hv e1 (fun z => by cases z)
    have hy : Dp K F2 vy (.int n) := x2.stk.1
    cases hy
    have hve : Dp K F2 v e := x2.stk.2.2.1
    refine ⟨a, ys, n, j, rfl, rfl, hH2, by rw [dpa_len hd2]; exact ej, f _ _ _ q ?_⟩
    exact ⟨F2, ow2, x2.pop1.pop1.pop1.mut (u := .lst (ys.set j v)) (r' := .ol (ds.set j e)) hv ho2 trivial (fun l z => by cases z) ⟨a, _, rfl, ho2, upd_same, dpa_set j hd2 hve⟩⟩
end
end AB
end
/-! ## NR3 -/
section
/-! NR3: sorted(d), list(d) of dicts whose keys are tuples. -/
namespace ND
open PySem PySem.Spec PyProof.Rows L2
section
variable {X : Cx} {pins : List (Addr × Obj)} {σ : L2.St} {H : Hp} {s : Shared} {a : Addr} {kvs : List (PyData × V)}
/-- the keys of the dict at a, as values -/
def keysV (es : List NE) : List V := es.map fun p => V.ref p.2.1
/-- the keys collected -/
theorem nd_collect {R : List Value → Shared → Prop} {E : Value → Shared → Prop} {A : Around} (hh : A.handled = none) (I : Inv X pins σ H s) {es : List NE} (h : H a = some (NDO X.prog X.w a es)) (hk : NK X.K H es kvs)
    (hR : ∀ (h' : Heap) (tk : Nat), (∀ b o, s.heap.get? b = some o → h'.get? b = some o) → Inv X pins σ H { s with heap := h', toks := tk } → R (es.map fun p => Value.ref p.2.1) { s with heap := h', toks := tk }) :
    wpAny (model X.prog X.w) A (collect (.ref a)) R E s := by
  obtain ⟨z, lo, us, nr, o, es', ep, ho, hx, hdt, he, _, _⟩ := rep_h I h hk
  have hl : es'.size = es.length := by
    have e := congrArg List.length he
    rw [Array.length_toList, List.length_map] at e
    rw [e]
    exact (Paired.length nr).symm
  have hkeys : ∀ (j : Nat) (en : DictEntry), es'[j]? = some en → (es.map fun p => Value.ref p.2.1)[j]? = some en.key := fun j en e => by
    rw [← Array.getElem?_toList, he, List.getElem?_map] at e
    have : ∀ {es : List NE} {us : List NU} {j : Nat} {q : NU}, NR es us → us[j]? = some q → (es.map fun p => Value.ref p.2.1)[j]? = some (.ref q.2.1) := by
      intro es us j q nr
      induction nr generalizing j with
      | nil => intro e; simp at e
      | cons h t ih =>
        intro e
        cases j with
        | zero =>
          rw [List.getElem?_cons_zero] at e
          cases e
          rw [List.map_cons, List.getElem?_cons_zero, h.2.1]
        | succ j => simpa using ih (by simpa using e)
    cases q : us[j]? with
    | none => rw [q] at e; cases e
    | some x =>
      rw [q] at e
      cases e
      exact this nr q
  refine PySem.W.kdu_collect (kdl_raw lo hx hdt) hh ho (by rw [hl]; exact z) fun h' tk acc hk hacc => ?_
  have e : acc.toList = es.map fun p => Value.ref p.2.1 := by
    refine List.ext_getElem? fun j => ?_
    by_cases hj : j < acc.size
    · obtain ⟨en, e1, e2⟩ := hacc.2 j acc[j] (Array.getElem?_eq_getElem hj)
      rw [Array.getElem?_toList, Array.getElem?_eq_getElem hj, e2]
      exact (hkeys j en e1).symm
    · rw [List.getElem?_eq_none (by rw [Array.length_toList]; omega), List.getElem?_eq_none (by rw [List.length_map, ← hl, ← hacc.1]; omega)]
  rw [e]
  exact hR h' tk hk (I.kept hk)
/-- sorted(d): fewer than 64 keys, tuples of dd ints in [0, B) -/
def rSortN (P : Program) (w : World) (K : PySem.W.Frag) (dd : Nat) (B : Int) : List V → Hp → VK → Prop := fun xs H Q => ∃ a es kvs, xs = [.ref a] ∧ H a = some (NDO P w a es) ∧ NK K H es kvs ∧ kvs.length < 64 ∧
  (∀ p ∈ kvs, ∃ ns : List Int, p.1 = .tuple (ns.map .int) ∧ ns.length = dd ∧ TS.Bd B ns) ∧
  ∀ (ys : List V) (p : Addr), ys.Perm (keysV es) → ys.Pairwise (fun x y => ∀ n m, TupI K H x n → TupI K H y m → TS.code B n ≤ TS.code B m) → H p = none → Q (.ref p) (upd H p (.lst ys))
theorem tupI_of' {K : PySem.W.Frag} {H : Hp} {v : V} {ns : List Int} (h : Dp K H v (.tuple (ns.map .int))) : TupI K H v ns := by
  cases h with
  | tup h1 h2 =>
    have : ∀ {ns : List Int} {vs : List V}, DpAll K H vs (ns.map PyData.int) → vs = ns.map V.int := by
      intro ns
      induction ns with
      | nil => intro vs h; cases h; rfl
      | cons n ns ih =>
        intro vs h
        cases h with
        | cons h1 h2 =>
          cases h1
          rw [ih h2]
          rfl
    rw [this h2] at h1
    exact ⟨_, rfl, h1⟩
theorem cr_sortN {dd : Nat} {B : Int} (hd : 1 ≤ dd) (hc : X.calm = true) : CallR X (.builtin "sorted") (rSortN X.prog X.w X.K dd B) := by
  intro pins s σ H xs us Q I r q
  obtain ⟨a, es, kvs, rfl, e, nk0, h64, hkey, q⟩ := q
  rw [Vals.ref1 r]
  have hlen : es.length = kvs.length := Paired.length nk0
  refine Calls.call_function_entry PyProof.Rows.kind_sorted PyProof.Rows.plain_sorted PyProof.Rows.entry_sorted (PyProof.Rows.args_sorted1 _) ?_
  unfold Builtin.«sorted»
  refine wpAny_bind (m := checkCount "sorted" 1 1 _) (wpAny_pure ?_)
  refine wpAny_bind (nd_collect (A := X.A.in1) (I.ok.hd hc) I e nk0 fun h' tk hk I1 => ?_)
  have hvl : (es.map fun p => Value.ref p.2.1).length < 64 := by rw [List.length_map, hlen]; exact h64
  refine wpAny_bind (wpAny_newList ?_ (by rw [sizeLine_eq]; omega))
  have hoL : (h'.push (seqObj "list" (es.map fun p => Value.ref p.2.1).toArray 0)).get? h'.objs.size = some (seqObj "list" (es.map fun p => Value.ref p.2.1).toArray 0) := Heap.get?_push_size _ rfl
  show wpAny _ _ _ _ _ { s with heap := h'.push (seqObj "list" (es.map fun p => Value.ref p.2.1).toArray 0), toks := tk }
  have rowOf : ∀ v ∈ (es.map fun p => Value.ref p.2.1), ∃ t ns, v = Value.ref t ∧ SqT X.K H t (ns.map V.int) ∧ ns.length = dd ∧ TS.Bd B ns := fun v hv => by
    obtain ⟨p, hp, rfl⟩ := List.mem_map.mp hv
    have : ∀ {es : List NE} {kvs : List (PyData × V)}, NK X.K H es kvs → p ∈ es → ∃ q ∈ kvs, Dp X.K H (.ref p.2.1) q.1 := by
      intro es kvs nk0
      induction nk0 with
      | nil => intro hp; cases hp
      | cons h t ih =>
        intro hp
        rcases List.mem_cons.mp hp with z | z
        · subst z
          exact ⟨_, List.mem_cons_self, h.2.1⟩
        · obtain ⟨q, h1, h2⟩ := ih z
          exact ⟨q, List.mem_cons_of_mem _ h1, h2⟩
    obtain ⟨q', h1, h2⟩ := this nk0 hp
    obtain ⟨ns, e1, e2, e3⟩ := hkey q' h1
    rw [e1] at h2
    obtain ⟨t, et, ht⟩ := tupI_of' h2
    cases et
    exact ⟨_, ns, rfl, ht, e2, e3⟩
  have raw1 : ∀ {t : Addr} {ns : List Int}, SqT X.K H t (ns.map V.int) → TS.TupInts (h'.push (seqObj "list" (es.map fun p => Value.ref p.2.1).toArray 0)) (.ref t) ns := fun {t ns} ht => (tupI_raw I1 ht).keeps fun b o e _ => Heap.get?_push_of_some _ e
  have x : TS.TupsOk (h'.push (seqObj "list" (es.map fun p => Value.ref p.2.1).toArray 0)) dd B (es.map fun p => Value.ref p.2.1) := fun v hv => by
    obtain ⟨t, ns, rfl, h1, h2, h3⟩ := rowOf v hv
    exact ⟨ns, raw1 h1, h2, h3⟩
  refine wpAny_bind (wpAny_holding (TS.call_sort_tups (s := { s with heap := h'.push (seqObj "list" (es.map fun p => Value.ref p.2.1).toArray 0), toks := tk }) hoL hvl hd x fun out a1 a2 => ?_))
  obtain ⟨c, hc'⟩ := PyProof.Rows.sortedHeap_at (vs := (es.map fun p => Value.ref p.2.1)) (out := out) hoL
  have h3 : ∀ u ∈ out.toList, ∃ a, u = Value.ref a := fun u hu => by
    obtain ⟨t, _, e, _⟩ := rowOf u (a1.mem_iff.mp hu)
    exact ⟨t, e⟩
  have hp : (out.toList.map bkV).Perm (keysV es) := by
    have := a1.map bkV
    rw [List.map_map] at this
    exact this
  have hlen2 : (out.toList.map bkV).length ≤ sizeLine := by
    rw [hp.length_eq]
    unfold keysV
    rw [List.length_map, hlen, sizeLine_eq]
    omega
  refine wpAny_pure ⟨_, rfl, .ref h'.objs.size, upd H h'.objs.size (.lst (out.toList.map bkV)), I1.laid (t' := tk) (fun b u e => ?_) (Nat.le_refl _)
    (show ObjOk X.prog X.w _ _ _ (.lst (out.toList.map bkV)) from ⟨hlen2, out.toList, c, bkV_vals h3, by rw [Array.toArray_toList]; exact hc'⟩), rfl, q _ _ hp ?_ (I1.hok.fresh (Nat.le_refl _))⟩
  · have hb : b < h'.objs.size := Heap.lt_size e
    show (PyProof.Rows.sortedHeap _ _ _ _).get? b = some u
    rw [PyProof.Rows.sortedHeap_old (Nat.ne_of_lt hb) (by rw [size_push']; exact Nat.lt_succ_of_lt hb)]
    exact Heap.get?_push_of_some _ e
  · rw [List.pairwise_map]
    refine List.Pairwise.imp (fun {u v} huv n m hn hm => ?_) a2
    obtain ⟨t, et, ht⟩ := hn
    obtain ⟨t', et', ht'⟩ := hm
    have eu := bkV_ref et
    have ev := bkV_ref et'
    have i1 : TS.intsOf (h'.push (seqObj "list" (es.map fun p => Value.ref p.2.1).toArray 0)) u = n := by
      rw [eu]
      exact (raw1 ht).ints
    have i2 : TS.intsOf (h'.push (seqObj "list" (es.map fun p => Value.ref p.2.1).toArray 0)) v = m := by
      rw [ev]
      exact (raw1 ht').ints
    rw [← i1, ← i2]
    exact huv
end
end ND
end
/-! ## AB6 -/
section
/-! AB6: dicts. -/
namespace AB
open PySem PySem.Spec PyProof.Rows L2
/-! ### tables of data -/
section
variable {κ : Type} [DecidableEq κ]
def getP (kvs : List (κ × PyData)) (k : κ) : Option PyData := (kvs.find? fun kv => decide (kv.1 = k)).map (·.2)
def putP (kvs : List (κ × PyData)) (k : κ) (v : PyData) : List (κ × PyData) :=
  if (kvs.any fun kv => decide (kv.1 = k)) = true then kvs.map (fun kv => if kv.1 = k then (kv.1, v) else kv) else kvs ++ [(k, v)]
theorem putP_length (kvs : List (κ × PyData)) (k : κ) (v : PyData) : (putP kvs k v).length ≤ kvs.length + 1 := by
  unfold putP
  split
  · rw [List.length_map]; omega
  · rw [List.length_append, List.length_singleton]; exact Nat.le_refl _
variable {K : PySem.W.Frag} {F : Hp}
theorem pk2_get {ps : List (κ × V)} {kvs : List (κ × PyData)} (h : PK2 K F ps kvs) (k : κ) : (valV ps k = none ∧ getP kvs k = none) ∨ ∃ v d, valV ps k = some v ∧ getP kvs k = some d ∧ Dp K F v d := by
  unfold valV getP
  induction h with
  | nil => exact .inl ⟨rfl, rfl⟩
  | @cons p q ps qs h t ih =>
    by_cases e : p.1 = k
    · have e' : q.1 = k := h.1 ▸ e
      refine .inr ⟨p.2, q.2, by simp [List.find?_cons, e], by simp [List.find?_cons, e'], h.2⟩
    · have e' : ¬ q.1 = k := h.1 ▸ e
      simp only [List.find?_cons, e, e', decide_false]
      exact ih
theorem pk2_any {ps : List (κ × V)} {kvs : List (κ × PyData)} (h : PK2 K F ps kvs) (k : κ) : (ps.any fun kv => decide (kv.1 = k)) = kvs.any fun kv => decide (kv.1 = k) := by
  induction h with
  | nil => rfl
  | cons h t ih => rw [List.any_cons, List.any_cons, ih, h.1]
theorem pk2_rep {k : κ} {v : V} {d : PyData} {ps : List (κ × V)} {kvs : List (κ × PyData)} (h : PK2 K F ps kvs) (hv : Dp K F v d) : PK2 K F (ps.map fun kv => if kv.1 = k then (kv.1, v) else kv) (kvs.map fun kv => if kv.1 = k then (kv.1, d) else kv) := by
  induction h with
  | nil => exact .nil
  | @cons p q ps qs h t ih =>
    rw [List.map_cons, List.map_cons]
    refine .cons ?_ ih
    by_cases e : p.1 = k
    · rw [if_pos e, if_pos (h.1 ▸ e)]
      exact ⟨h.1, hv⟩
    · rw [if_neg e, if_neg (h.1 ▸ e)]
      exact h
theorem pk2_put {ps : List (κ × V)} {kvs : List (κ × PyData)} (h : PK2 K F ps kvs) (k : κ) {v : V} {d : PyData} (hv : Dp K F v d) : PK2 K F (putK ps k v) (putP kvs k d) := by
  unfold putK putP
  rw [pk2_any h k]
  split
  · exact pk2_rep h hv
  · have app : ∀ {ps : List (κ × V)} {kvs : List (κ × PyData)}, PK2 K F ps kvs → PK2 K F (ps ++ [(k, v)]) (kvs ++ [(k, d)]) := by
      intro ps kvs h
      induction h with
      | nil => exact .cons ⟨rfl, hv⟩ .nil
      | cons h t ih => exact .cons h ih
    exact app h
end
section
variable {K : PySem.W.Frag} {F : Hp}
theorem pk2_getN {ps : List (PyData × V)} {kvs : List (PyData × PyData)} (h : PK2 K F ps kvs) (k : PyData) : (ND.valN ps k = none ∧ ND.valN kvs k = none) ∨ ∃ v d, ND.valN ps k = some v ∧ ND.valN kvs k = some d ∧ Dp K F v d := by
  unfold ND.valN
  induction h with
  | nil => exact .inl ⟨rfl, rfl⟩
  | @cons p q ps qs h t ih =>
    by_cases e : ND.nk p.1 = ND.nk k
    · have e' : ND.nk q.1 = ND.nk k := h.1 ▸ e
      refine .inr ⟨p.2, q.2, by simp [List.find?_cons, e], by simp [List.find?_cons, e'], h.2⟩
    · have e' : ¬ ND.nk q.1 = ND.nk k := h.1 ▸ e
      simp only [List.find?_cons, e, e', decide_false]
      exact ih
theorem pk2_isN {ps : List (PyData × V)} {kvs : List (PyData × PyData)} (h : PK2 K F ps kvs) (k : PyData) : (ND.valN ps k).isSome = (ND.valN kvs k).isSome := by
  rcases pk2_getN h k with ⟨e1, e2⟩ | ⟨v, d, e1, e2, _⟩ <;> rw [e1, e2] <;> rfl
theorem pk2_repN {k : PyData} {v : V} {d : PyData} {ps : List (PyData × V)} {kvs : List (PyData × PyData)} (h : PK2 K F ps kvs) (hv : Dp K F v d) : PK2 K F (ps.map fun p => if ND.nk p.1 = ND.nk k then (p.1, v) else p) (kvs.map fun p => if ND.nk p.1 = ND.nk k then (p.1, d) else p) := by
  induction h with
  | nil => exact .nil
  | @cons p q ps qs h t ih =>
    rw [List.map_cons, List.map_cons]
    refine .cons ?_ ih
    by_cases e : ND.nk p.1 = ND.nk k
    · rw [if_pos e, if_pos (h.1 ▸ e)]
      exact ⟨h.1, hv⟩
    · rw [if_neg e, if_neg (h.1 ▸ e)]
      exact h
theorem pk2_putN {ps : List (PyData × V)} {kvs : List (PyData × PyData)} (h : PK2 K F ps kvs) (k : PyData) {v : V} {d : PyData} (hv : Dp K F v d) : PK2 K F (ND.putN ps k v) (ND.putN kvs k d) := by
  unfold ND.putN
  rw [pk2_isN h k]
  split
  · exact pk2_repN h hv
  · have app : ∀ {ps : List (PyData × V)} {kvs : List (PyData × PyData)}, PK2 K F ps kvs → PK2 K F (ps ++ [(k, v)]) (kvs ++ [(k, d)]) := by
      intro ps kvs h
      induction h with
      | nil => exact .cons ⟨rfl, hv⟩ .nil
      | cons h t ih => exact .cons h ih
    exact app h
end
/-- keys that are ints and texts, as data -/
def kP : Key → PyData
  | .inl i => .int i
  | .inr x => .str x
/-- the own dict that r stands for -/
def lookK (ρ : Rho) : AV → Option (List (Key × PyData))
  | .oK kvs => some kvs
  | .al i => match ρ[i]? with
    | some (.oK kvs) => some kvs
    | _ => none
  | _ => none
def lookN (ρ : Rho) : AV → Option (List (PyData × PyData))
  | .oN kvs => some kvs
  | .al i => match ρ[i]? with
    | some (.oN kvs) => some kvs
    | _ => none
  | _ => none
section
variable {Γ : Wd} {K : PySem.W.Frag} {β : Option Addr} {Hb F H H' : Hp} {ow : Ow} {E : List (V × AV)} {σ : L2.St} {ρ : Rho} {v : V} {r : AV} {o : Nat × Nat} {te ta tb tc td ty tx : TE} {tt tu : TT} {tas : TA} {k : AV → Rho → Prop} {kr : Rho → Prop} {P : Kn} {t u : TS} {g : TG} {gs : TGs}
theorem dp_key {K : PySem.W.Frag} {F : Hp} {v : V} {k : Key} (h : Dp K F v (kP k)) : v = kV k := by
  cases k <;> cases h <;> rfl
theorem key_dp {K : PySem.W.Frag} {F : Hp} (k : Key) : Dp K F (kV k) (kP k) := by
  cases k
  · exact .int _
  · exact .str _
theorem Ent.itemsK (x : OkF Γ K β Hb F ow E σ ρ H) (h : Ent Γ K F H σ ow o v r) {kvs : List (Key × PyData)} (e : lookK ρ r = some kvs) : ∃ a ps, v = .ref a ∧ H a = some (.dK ps) ∧ PK2 K F ps kvs := by
  cases r with
  | oK l =>
    cases e
    obtain ⟨a, ps, rfl, _, h1, h2⟩ := h
    exact ⟨a, ps, rfl, h1, h2⟩
  | al i =>
    have h' : σ[i]? = some (some v) := h
    unfold lookK at e
    dsimp only at e
    cases q : ρ[i]? with
    | none => rw [q] at e; cases e
    | some r' =>
      rw [q] at e
      cases r' with
      | oK l =>
        cases e
        obtain ⟨a, ps, rfl, _, h1, h2⟩ := x.alias h' q (fun z => by cases z)
        exact ⟨a, ps, rfl, h1, h2⟩
      | _ => cases e
  | _ => cases e
theorem Ent.itemsN (x : OkF Γ K β Hb F ow E σ ρ H) (h : Ent Γ K F H σ ow o v r) {kvs : List (PyData × PyData)} (e : lookN ρ r = some kvs) : ∃ a es ps, v = .ref a ∧ H a = some (ND.NDO Γ.P Γ.w a es) ∧ ND.NK K H es ps ∧ PK2 K F ps kvs := by
  cases r with
  | oN l =>
    cases e
    obtain ⟨a, es, ps, rfl, _, h1, h3, h2⟩ := h
    exact ⟨a, es, ps, rfl, h1, nk_same x.same h3, h2⟩
  | al i =>
    have h' : σ[i]? = some (some v) := h
    unfold lookN at e
    dsimp only at e
    cases q : ρ[i]? with
    | none => rw [q] at e; cases e
    | some r' =>
      rw [q] at e
      cases r' with
      | oN l =>
        cases e
        obtain ⟨a, es, ps, rfl, _, h1, h3, h2⟩ := x.alias h' q (fun z => by cases z)
        exact ⟨a, es, ps, rfl, h1, nk_same x.same h3, h2⟩
      | _ => cases e
  | _ => cases e
/-! ### keys ints and texts -/
theorem we_dget (h : WE Γ K β td ρ fun x ρ1 => WE Γ K β ty ρ1 fun y ρ2 => ∃ kvs k' d, lookK ρ2 x = some kvs ∧ y = .d (kP k') ∧ getP kvs k' = some d ∧ k (.d d) ρ2) : WE Γ K β (tDGet td ty) ρ k := fun Hb E σ H x Q f =>
  h Hb E σ H x _ fun vx rx ρ1 H1 h1 x1 => h1 Hb _ σ H1 x1 _ fun vy ry ρ2 H2 h2 x2 => by
    obtain ⟨kvs, k', d, l, rfl, g, q⟩ := h2
    obtain ⟨F, ow, x2⟩ := x2
    have ey := dp_key (show Dp K F vy (kP k') from x2.stk.1)
    subst ey
    obtain ⟨a, ps, rfl, hH, hp⟩ := x2.stk.2.1.itemsK x2 l
    rcases pk2_get hp k' with ⟨_, e⟩ | ⟨v, d', e1, e2, dv⟩
    · rw [e] at g; cases g
    · rw [g] at e2
      cases e2
      exact ⟨a, v, rfl, e1 ▸ DGet.k hH, f v _ ρ2 H2 q (okD x2.pop1.pop1 dv)⟩
theorem we_din (h : WE Γ K β ty ρ fun y ρ1 => WE Γ K β td ρ1 fun x ρ2 => ∃ kvs k', lookK ρ2 x = some kvs ∧ y = .d (kP k') ∧ k (.d (.bool (getP kvs k').isSome)) ρ2) : WE Γ K β (tDIn ty td) ρ k := fun Hb E σ H x Q f =>
  h Hb E σ H x _ fun vy ry ρ1 H1 h1 x1 => h1 Hb _ σ H1 x1 _ fun vx rx ρ2 H2 h2 x2 => by
    obtain ⟨kvs, k', l, rfl, q⟩ := h2
    obtain ⟨F, ow, x2⟩ := x2
    have ey := dp_key (show Dp K F vy (kP k') from x2.stk.2.1)
    subst ey
    obtain ⟨a, ps, rfl, hH, hp⟩ := x2.stk.1.itemsK x2 l
    refine ⟨a, _, rfl, DGet.k (k := k') hH, f _ _ ρ2 H2 q ?_⟩
    have e : (valV ps k').isSome = (getP kvs k').isSome := by
      rcases pk2_get hp k' with ⟨e1, e2⟩ | ⟨v, d', e1, e2, dv⟩ <;> rw [e1, e2] <;> rfl
    rw [e]
    exact okD x2.pop1.pop1 (.bl _)
theorem we_dnotin (h : WE Γ K β ty ρ fun y ρ1 => WE Γ K β td ρ1 fun x ρ2 => ∃ kvs k', lookK ρ2 x = some kvs ∧ y = .d (kP k') ∧ k (.d (.bool (!(getP kvs k').isSome))) ρ2) : WE Γ K β (tDNotIn ty td) ρ k := fun Hb E σ H x Q f =>
  h Hb E σ H x _ fun vy ry ρ1 H1 h1 x1 => h1 Hb _ σ H1 x1 _ fun vx rx ρ2 H2 h2 x2 => by
    obtain ⟨kvs, k', l, rfl, q⟩ := h2
    obtain ⟨F, ow, x2⟩ := x2
    have ey := dp_key (show Dp K F vy (kP k') from x2.stk.2.1)
    subst ey
    obtain ⟨a, ps, rfl, hH, hp⟩ := x2.stk.1.itemsK x2 l
    refine ⟨a, _, rfl, DGet.k (k := k') hH, f _ _ ρ2 H2 q ?_⟩
    have e : (valV ps k').isSome = (getP kvs k').isSome := by
      rcases pk2_get hp k' with ⟨e1, e2⟩ | ⟨v, d', e1, e2, dv⟩ <;> rw [e1, e2] <;> rfl
    rw [e]
    exact okD x2.pop1.pop1 (.bl _)
/-- d.get(k, e) of a name's dict -/
theorem we_dget2 (h : WE Γ K β td ρ fun x ρ1 => ∃ i kvs0, x = .al i ∧ ρ1[i]? = some (.oK kvs0) ∧ WE Γ K β ty ρ1 fun y ρ2 => WE Γ K β tx ρ2 fun z ρ3 => ∃ kvs k' d, ρ3[i]? = some (.oK kvs) ∧ y = .d (kP k') ∧ z = .d d ∧ k (.d ((getP kvs k').getD d)) ρ3) :
    WE Γ K β (tDGet2 td ty tx) ρ k := fun Hb E σ H x Q f => h Hb E σ H x _ fun vx rx ρ1 H1 h1 x1 => by
  obtain ⟨i, kvs0, rfl, e0, h1⟩ := h1
  have x1' := x1
  obtain ⟨F, ow, x1⟩ := x1
  have hv : σ[i]? = some (some vx) := x1.stk.1
  obtain ⟨a, ps, rfl, _, hH, hp⟩ := x1.at e0 (fun z => by cases z)
  refine ⟨a, rfl, .inl ⟨ps, .inl hH⟩, h1 Hb _ σ H1 x1' _ fun vy ry ρ2 H2 h2 x2 => h2 Hb _ σ H2 x2 _ fun vz rz ρ3 H3 h3 x3 => ?_⟩
  obtain ⟨kvs, k', d, e3, rfl, rfl, q⟩ := h3
  obtain ⟨F3, ow3, x3⟩ := x3
  have ey := dp_key (show Dp K F3 vy (kP k') from x3.stk.2.1)
  subst ey
  have dz : Dp K F3 vz d := x3.stk.1
  obtain ⟨a', ps', ea, _, hH', hp'⟩ := x3.alias hv e3 (fun z => by cases z)
  cases ea
  refine ⟨_, DGet.k (k := k') hH', f _ _ ρ3 H3 q (okD x3.pop1.pop1.pop1 ?_)⟩
  rcases pk2_get hp' k' with ⟨e1, e2⟩ | ⟨v, d', e1, e2, dv⟩
  · rw [e1, e2]; exact dz
  · rw [e1, e2]; exact dv
theorem wg_setK {e : PyData} (h : WE Γ K β ta ρ fun x ρ1 => ∃ i, x = .al i ∧ WE Γ K β tb ρ1 fun y ρ2 => ∃ kvs k', ρ2[i]? = some (.oK kvs) ∧ y = .d (kP k') ∧ kvs.length < 100000 ∧ kr (ρ2.set i (.oK (putP kvs k' e)))) : WG Γ K β (gSub ta tb rSetD) (.d e) ρ kr := fun Hb E σ H v hn x Q f =>
  h Hb _ σ H x _ fun vx rx ρ1 H1 h1 x1 => by
    obtain ⟨i, rfl, h1⟩ := h1
    have x1' := x1
    obtain ⟨F, ow, x1⟩ := x1
    have hv : σ[i]? = some (some vx) := x1.stk.1
    refine h1 Hb _ σ H1 x1' _ fun vy ry ρ2 H2 h2 x2 => ?_
    obtain ⟨kvs, k', e1, rfl, hl, q⟩ := h2
    obtain ⟨F2, ow2, x2⟩ := x2
    obtain ⟨a, ps, rfl, ho2, hH2, hp⟩ := x2.alias hv e1 (fun z => by cases z)
    have ey := dp_key (show Dp K F2 vy (kP k') from x2.stk.1)
    subst ey
    have hve : Dp K F2 v e := x2.stk.2.2.1
    refine ⟨a, _, rfl, DPut.k (k := k') hH2 (by rw [pk2_len hp]; exact Nat.lt_of_lt_of_le hl (by decide)), f _ _ _ q ?_⟩
    exact ⟨F2, ow2, x2.pop1.pop1.pop1.mut (u := .dK (putK ps k' v)) (r' := .oK (putP kvs k' e)) hv ho2 trivial (fun l z => by cases z) ⟨a, _, rfl, ho2, upd_same, pk2_put hp k' hve⟩⟩
/-- list(d) -/
theorem we_listK (h : WA Γ K β tas ρ fun rs ρ1 => ∃ r, rs = [r] ∧ ∃ kvs, lookK ρ1 r = some kvs ∧ k (.ol (kvs.map fun p => kP p.1)) ρ1) : WE Γ K β (tCB rListD tas) ρ k :=
  we_cb (h.mono fun rs ρ1 ⟨r, e, kvs, l, q⟩ => by
    subst e
    intro Hb E σ H vs e x Q f
    match vs, e with
    | [v], _ =>
      have x : Ok Γ K β Hb ((v, r) :: E) σ ρ1 H := x
      obtain ⟨F, ow, x⟩ := x
      obtain ⟨a, ps, rfl, hH, hp⟩ := x.stk.1.itemsK x l
      refine ⟨a, ps, rfl, hH, fun p hp' => f _ _ ρ1 _ q (x.pop1.newL hp' ?_)⟩
      clear hH l x q f hp'
      induction hp with
      | nil => exact .nil
      | @cons p q ps qs h t ih =>
        rw [List.map_cons, List.map_cons]
        exact .cons (by rw [h.1]; exact key_dp _) ih)
/-- {} and {k: v} -/
theorem we_newK (q : k (.oK []) ρ) : WE Γ K β tDNewK ρ k := fun Hb E σ H x Q f p hp => by
  obtain ⟨F, ow, x⟩ := x
  exact f _ _ ρ _ q ⟨F, _, x.fresh (u := .dK []) (r := .oK []) hp trivial ⟨p, [], rfl, setOw_same, upd_same, .nil⟩⟩
/-- {k: v}: the pair is made while the new dict stands empty -/
theorem we_disp1 (h : WE Γ K β ta ρ fun x ρ1 => WE Γ K β tb ρ1 fun y ρ2 => ∃ k' d, x = .d (kP k') ∧ y = .d d ∧ k (.oK [(k', d)]) ρ2) : WE Γ K β (tDisp [(ta, tb)]) ρ k := fun Hb E σ H x Q f p hp => by
  obtain ⟨F, ow, x⟩ := x
  have x0 : Ok Γ K β Hb ((.ref p, .oK []) :: E) σ ρ (upd H p (.dK [])) := ⟨F, _, x.fresh (u := .dK []) (r := .oK []) hp trivial ⟨p, [], rfl, setOw_same, upd_same, .nil⟩⟩
  refine h Hb _ σ _ x0 _ fun vx rx ρ1 H1 h1 x1 => h1 Hb _ σ H1 x1 _ fun vy ry ρ2 H2 h2 x2 => ?_
  obtain ⟨k', d, rfl, rfl, q⟩ := h2
  obtain ⟨F2, ow2, x2⟩ := x2
  have ex := dp_key (show Dp K F2 vx (kP k') from x2.stk.2.1)
  subst ex
  have hy : Dp K F2 vy d := x2.stk.1
  obtain ⟨a, ps, ea, ho, hH, hp2⟩ := x2.stk.2.2.1
  cases ea
  cases hp2
  refine ⟨hH, [(k', vy)], rfl, by show 1 ≤ 15; decide, f _ _ ρ2 _ q ?_⟩
  have hF := (x2.own _ _ ho).1
  have ne : ∀ b o, ow2 b = some o → o ≠ (1, E.length) → b ≠ p := fun b o e h z => by
    rw [z, ho] at e
    exact h (Option.some.inj e).symm
  refine ⟨F2, ow2, x2.base, fun b u e => ?_, fun b o e => ?_, ⟨⟨p, [(k', vy)], rfl, ho, upd_same, .cons ⟨rfl, hy⟩ .nil⟩, x2.stk.2.2.2.keep (Same.refl F2) (fun m hm b e => ⟨e, upd_ne (ne b _ e (fun z => by cases z; exact Nat.lt_irrefl _ hm))⟩) (.inr rfl)⟩, x2.len, fun j r' e => (x2.slot j r' e).keep (Same.refl F2) (fun b e => ⟨e, upd_ne (ne b _ e (fun z => by cases z))⟩) rfl, x2.bag.keep fun b j e => ⟨e, upd_ne (ne b _ e (fun z => by cases z))⟩⟩
  · rw [upd_ne (ne_of_none e hF)]
    exact x2.same b u e
  · by_cases hb : b = p
    · subst hb
      rw [upd_same]
      exact ⟨hF, trivial⟩
    · rw [upd_ne hb]
      exact x2.own b o e
/-! ### keys that are tuples -/
theorem we_inN {neg : Bool} (h : WE Γ K β ta ρ fun x ρ1 => WE Γ K β tb ρ1 fun y ρ2 => ∃ d kvs, x = .d d ∧ lookN ρ2 y = some kvs ∧ ND.keyOk d = true ∧ k (.d (.bool (if neg then !(ND.valN kvs d).isSome else (ND.valN kvs d).isSome))) ρ2) :
    WE Γ K β (tOp (ND.rIn Γ.P Γ.w K neg) ta tb) ρ k :=
  we_opV fun Hb E σ H x Q g => h Hb E σ H x _ fun vx rx ρ1 H1 h1 x1 => g vx rx ρ1 H1 (fun Hb E σ H x Q g => h1 Hb E σ H x _ fun vy ry ρ2 H2 h2 x2 => g vy ry ρ2 H2 (by
    obtain ⟨d, kvs, rfl, l, hk, q⟩ := h2
    refine ⟨.bl _, _, fun _ => .bl _, q, fun Hb E σ H F ow vx vy x Q hq => ?_⟩
    have e2 : Dp K F vx d := x.stk.2.1
    obtain ⟨a, es, ps, rfl, h1, h2, h3⟩ := x.stk.1.itemsN x l
    exact ⟨a, ps, d, rfl, ⟨es, h1, h2⟩, dp_same x.same e2, hk, by rw [pk2_isN h3]; exact hq⟩) x2) x1
theorem we_getN (h : WE Γ K β ta ρ fun x ρ1 => WE Γ K β tb ρ1 fun y ρ2 => ∃ d kvs e, y = .d d ∧ lookN ρ2 x = some kvs ∧ ND.keyOk d = true ∧ ND.valN kvs d = some e ∧ k (.d e) ρ2) : WE Γ K β (tOp (ND.rGet Γ.P Γ.w K) ta tb) ρ k :=
  we_op fun Hb E σ H x Q g => h Hb E σ H x _ fun vx rx ρ1 H1 h1 x1 => g vx rx ρ1 H1 (fun Hb E σ H x Q g => h1 Hb E σ H x _ fun vy ry ρ2 H2 h2 x2 => g vy ry ρ2 H2 (by
    obtain ⟨d, kvs, e, rfl, l, hk, hv, q⟩ := h2
    intro Hb E σ H vx vy x Q g
    obtain ⟨F, ow, x⟩ := x
    have e2 : Dp K F vy d := x.stk.1
    obtain ⟨a, es, ps, rfl, h1, h2, h3⟩ := x.stk.2.1.itemsN x l
    rcases pk2_getN h3 d with ⟨_, e⟩ | ⟨v, e', e1, e3, dv⟩
    · rw [e] at hv; cases hv
    · rw [hv] at e3
      cases e3
      exact ⟨a, ps, d, v, rfl, ⟨es, h1, h2⟩, dp_same x.same e2, hk, e1, g v _ ρ2 H q (okD x.pop1.pop1 dv)⟩) x2) x1
theorem wg_setN {e : PyData} (h : WE Γ K β ta ρ fun x ρ1 => ∃ i, x = .al i ∧ WE Γ K β tb ρ1 fun y ρ2 => ∃ kvs d, ρ2[i]? = some (.oN kvs) ∧ y = .d d ∧ ND.keyOk d = true ∧ kvs.length < 100000 ∧ kr (ρ2.set i (.oN (ND.putN kvs d e)))) : WG Γ K β (gSub ta tb (ND.rSet Γ.P Γ.w K)) (.d e) ρ kr := fun Hb E σ H v hn x Q f =>
  h Hb _ σ H x _ fun vx rx ρ1 H1 h1 x1 => by
    obtain ⟨i, rfl, h1⟩ := h1
    have x1' := x1
    obtain ⟨F, ow, x1⟩ := x1
    have hv : σ[i]? = some (some vx) := x1.stk.1
    refine h1 Hb _ σ H1 x1' _ fun vy ry ρ2 H2 h2 x2 => ?_
    obtain ⟨kvs, d, e1, rfl, hk, hl, q⟩ := h2
    obtain ⟨F2, ow2, x2⟩ := x2
    obtain ⟨a, es, ps, rfl, ho2, hH2, hnk, hp⟩ := x2.alias hv e1 (fun z => by cases z)
    have hd : Dp K F2 vy d := x2.stk.1
    obtain ⟨b, rfl⟩ := ND.key_ref hd hk
    have hve : Dp K F2 v e := x2.stk.2.2.1
    refine ⟨a, es, ps, d, b, rfl, rfl, hH2, nk_same x2.same hnk, dp_same x2.same hd, hk, by rw [pk2_len hp]; exact Nat.lt_of_lt_of_le hl (by decide), f _ _ _ q ?_⟩
    exact ⟨F2, ow2, x2.pop1.pop1.pop1.mut (u := ND.NDO Γ.P Γ.w a (ND.putE es (ND.nk d) b v)) (r' := .oN (ND.putN kvs d e)) hv ho2 trivial (fun l z => by cases z) ⟨a, _, _, rfl, ho2, upd_same, ND.NK.put hnk (fun _ _ h _ => h) hd hk, pk2_putN hp d hve⟩⟩
theorem we_newN (q : k (.oN []) ρ) : WE Γ K β (ND.tNew Γ.P Γ.w) ρ k := fun Hb E σ H x Q f p hp => by
  obtain ⟨F, ow, x⟩ := x
  exact f _ _ ρ _ q ⟨F, _, x.fresh (u := ND.NDO Γ.P Γ.w p []) (r := .oN []) hp trivial ⟨p, [], [], rfl, setOw_same, upd_same, .nil, .nil⟩⟩
theorem we_disp1N (h : WE Γ K β ta ρ fun x ρ1 => WE Γ K β tb ρ1 fun y ρ2 => ∃ k' d, x = .d k' ∧ ND.keyOk k' = true ∧ y = .d d ∧ k (.oN [(k', d)]) ρ2) : WE Γ K β (ND.tDisp1 Γ.P Γ.w K ta tb) ρ k := fun Hb E σ H x Q f p hp => by
  obtain ⟨F, ow, x⟩ := x
  have x0 : Ok Γ K β Hb ((.ref p, .oN []) :: E) σ ρ (upd H p (ND.NDO Γ.P Γ.w p [])) := ⟨F, _, x.fresh (u := ND.NDO Γ.P Γ.w p []) (r := .oN []) hp trivial ⟨p, [], [], rfl, setOw_same, upd_same, .nil, .nil⟩⟩
  refine h Hb _ σ _ x0 _ fun vx rx ρ1 H1 h1 x1 => h1 Hb _ σ H1 x1 _ fun vy ry ρ2 H2 h2 x2 => ?_
  obtain ⟨k', d, rfl, hk, rfl, q⟩ := h2
  obtain ⟨F2, ow2, x2⟩ := x2
  have hx : Dp K F2 vx k' := x2.stk.2.1
  obtain ⟨b, rfl⟩ := ND.key_ref hx hk
  have hy : Dp K F2 vy d := x2.stk.1
  obtain ⟨a, es, ps, ea, ho, hH, hnk, hp2⟩ := x2.stk.2.2.1
  cases ea
  cases hp2
  cases hnk
  refine ⟨k', b, rfl, dp_same x2.same hx, hk, hH, f _ _ ρ2 _ q ?_⟩
  have hF := (x2.own _ _ ho).1
  have ne : ∀ b o, ow2 b = some o → o ≠ (1, E.length) → b ≠ p := fun b o e h z => by
    rw [z, ho] at e
    exact h (Option.some.inj e).symm
  refine ⟨F2, ow2, x2.base, fun b u e => ?_, fun b o e => ?_, ⟨⟨p, [(ND.nk k', b, vy)], [(k', vy)], rfl, ho, upd_same, .cons ⟨rfl, hx, hk, rfl⟩ .nil, .cons ⟨rfl, hy⟩ .nil⟩, x2.stk.2.2.2.keep (Same.refl F2) (fun m hm b e => ⟨e, upd_ne (ne b _ e (fun z => by cases z; exact Nat.lt_irrefl _ hm))⟩) (.inr rfl)⟩, x2.len, fun j r' e => (x2.slot j r' e).keep (Same.refl F2) (fun b e => ⟨e, upd_ne (ne b _ e (fun z => by cases z))⟩) rfl, x2.bag.keep fun b j e => ⟨e, upd_ne (ne b _ e (fun z => by cases z))⟩⟩
  · rw [upd_ne (ne_of_none e hF)]
    exact x2.same b u e
  · by_cases hb : b = p
    · subst hb
      rw [upd_same]
      exact ⟨hF, trivial⟩
    · rw [upd_ne hb]
      exact x2.own b o e
theorem nk_keys {es : List ND.NE} {ps : List (PyData × V)} {kvs : List (PyData × PyData)} (h : ND.NK K F es ps) (q : PK2 K F ps kvs) : DpAll K F (ND.keysV es) (kvs.map (·.1)) := by
  induction h generalizing kvs with
  | nil => cases q; exact .nil
  | cons h t ih =>
    cases q with
    | cons q1 q2 =>
      rw [List.map_cons]
      refine .cons ?_ (ih q2)
      rw [← q1.1]
      exact h.2.1
theorem pk2_keys {ps : List (PyData × V)} {kvs : List (PyData × PyData)} (q : PK2 K F ps kvs) : ∀ p ∈ ps, ∃ q ∈ kvs, p.1 = q.1 := by
  induction q with
  | nil => intro p hp; cases hp
  | cons h t ih =>
    intro p hp
    rcases List.mem_cons.mp hp with z | z
    · subst z
      exact ⟨_, List.mem_cons_self, h.1⟩
    · obtain ⟨q, h1, h2⟩ := ih p z
      exact ⟨q, List.mem_cons_of_mem _ h1, h2⟩
/-- sorted(d) of fewer than 64 tuples of dd ints in [0, B) -/
theorem we_sortedN {dd : Nat} {B : Int} (h : WA Γ K β tas ρ fun rs ρ1 => ∃ r, rs = [r] ∧ ∃ (kvs : List (PyData × PyData)) (nss : List (List Int)), lookN ρ1 r = some kvs ∧ kvs.map (·.1) = nss.map tI ∧ nss.length < 64 ∧ (∀ ns ∈ nss, ns.length = dd ∧ TS.Bd B ns) ∧
      ∀ mss : List (List Int), mss.Perm nss → mss.Pairwise (fun n m => TS.code B n ≤ TS.code B m) → k (.ol (mss.map tI)) ρ1) : WE Γ K β (tCB (ND.rSortN Γ.P Γ.w K dd B) tas) ρ k :=
  we_cb (h.mono fun rs ρ1 ⟨r, e, kvs, nss, l, hks, h64, hb, q⟩ => by
    subst e
    intro Hb E σ H vs e x Q f
    match vs, e with
    | [v], _ =>
      have x : Ok Γ K β Hb ((v, r) :: E) σ ρ1 H := x
      obtain ⟨F, ow, x⟩ := x
      have hKF : ∃ a es ps, v = .ref a ∧ H a = some (ND.NDO Γ.P Γ.w a es) ∧ ND.NK K F es ps ∧ PK2 K F ps kvs := by
        cases r with
        | oN l' =>
          cases l
          obtain ⟨a, es, ps, rfl, _, h1, h3, h2⟩ := x.stk.1
          exact ⟨a, es, ps, rfl, h1, h3, h2⟩
        | al i =>
          unfold lookN at l
          dsimp only at l
          cases q : ρ1[i]? with
          | none => rw [q] at l; cases l
          | some r' =>
            rw [q] at l
            cases r' with
            | oN l' =>
              cases l
              obtain ⟨a, es, ps, rfl, _, h1, h3, h2⟩ := x.at q (fun z => by cases z)
              exact ⟨a, es, ps, rfl, h1, h3, h2⟩
            | _ => cases l
        | _ => cases l
      obtain ⟨a, es, ps, rfl, hH, hnk, hp⟩ := hKF
      have hdk := nk_keys hnk hp
      rw [hks] at hdk
      have hlen : ps.length = nss.length := by
        rw [pk2_len hp, ← List.length_map (as := kvs) (f := (·.1)), hks, List.length_map]
      refine ⟨a, es, ps, rfl, hH, nk_same x.same hnk, by rw [hlen]; exact h64, fun p hpm => ?_, fun ys p hperm hpw hp' => ?_⟩
      · obtain ⟨q', hq1, hq2⟩ := pk2_keys hp p hpm
        have : q'.1 ∈ nss.map tI := hks ▸ List.mem_map_of_mem (f := (·.1)) hq1
        obtain ⟨ns, h5, h6⟩ := List.mem_map.mp this
        exact ⟨ns, by rw [hq2, ← h6], (hb ns h5).1, (hb ns h5).2⟩
      · obtain ⟨es', p1, p2⟩ := dpa_perm hperm hdk
        obtain ⟨mss, rfl, p3⟩ := dpa_tI_inv p1
        refine f _ _ ρ1 _ (q mss p3 ?_) (x.pop1.newL hp' p2)
        have : ∀ {ys : List V} {mss : List (List Int)}, DpAll K F ys (mss.map tI) → ys.Pairwise (fun x y => ∀ n m, TupI K H x n → TupI K H y m → TS.code B n ≤ TS.code B m) → mss.Pairwise (fun n m => TS.code B n ≤ TS.code B m) := by
          intro ys mss
          induction mss generalizing ys with
          | nil => intro _ _; exact .nil
          | cons m mss ih =>
            intro h3 h4
            cases h3 with
            | @cons y ys' _ _ h5 h6 =>
              refine List.pairwise_cons.mpr ⟨fun n hn => ?_, ih h6 (List.pairwise_cons.mp h4).2⟩
              obtain ⟨i, hi⟩ := List.mem_iff_getElem?.mp (List.mem_map_of_mem (f := tI) hn)
              obtain ⟨z, hz, dz⟩ := dpa_get h6 hi
              exact (List.pairwise_cons.mp h4).1 z (List.mem_of_getElem? hz) m n (tupI_of h5 x.same) (tupI_of dz x.same)
        exact this p2 hpw)
end
end AB
end
/-! ## NR4 -/
section
/-! NR4: in over tuples of data; o.f as a target; f(k = v, ..) without positional arguments. -/
namespace L2
open PySem PySem.Spec PyProof.Rows
section
variable {X : Cx}
def rInTD (K : PySem.W.Frag) : R2 := fun x y H Q => ∃ d ds, Dp K H x d ∧ Dp K H y (.tuple ds) ∧ SeqAt.shaped d = true ∧ SeqAt.shaped (.tuple ds) = true ∧ Q (.bl (ds.any fun z => PyData.eqv z d)) H
def rNotInTD (K : PySem.W.Frag) : R2 := fun x y H Q => ∃ d ds, Dp K H x d ∧ Dp K H y (.tuple ds) ∧ SeqAt.shaped d = true ∧ SeqAt.shaped (.tuple ds) = true ∧ Q (.bl (!ds.any fun z => PyData.eqv z d)) H
theorem op_inTD (hu : X.A.units + 65 < cLine) : OpR X (compareOp .In) (rInTD X.K) := by
  intro pins s σ H x y v u Q I rx ry h
  obtain ⟨d, ds, hd, he, sd, se, q⟩ := h
  obtain ⟨as, r1⟩ := Dp.reads I d x v hd rx
  obtain ⟨bs, r2⟩ := Dp.reads I (.tuple ds) y u he ry
  exact SeqAt.in_tuple_reads r2 r1 (SeqAt.canLay_of_shaped se) (SeqAt.canLay_of_shaped sd) (room_in_shaped sd hu) ⟨.bl _, H, I, rfl, q⟩
theorem op_notInTD (hu : X.A.units + 65 < cLine) : OpR X (compareOp .NotIn) (rNotInTD X.K) := by
  intro pins s σ H x y v u Q I rx ry h
  obtain ⟨d, ds, hd, he, sd, se, q⟩ := h
  obtain ⟨as, r1⟩ := Dp.reads I d x v hd rx
  obtain ⟨bs, r2⟩ := Dp.reads I (.tuple ds) y u he ry
  exact SeqAt.notIn_tuple_reads r2 r1 (SeqAt.canLay_of_shaped se) (SeqAt.canLay_of_shaped sd) (room_in_shaped sd hu) ⟨.bl _, H, I, rfl, q⟩
/-! ### o.f as a target -/
def gFld (K : PySem.W.Frag) (to : TE) (f : Str) : TG := fun v σ H Q => to σ H fun x H1 => ∃ a C dx fs, x = .ref a ∧ H1 a = some (.ins C dx fs) ∧ Cls K C ∧ NoAttr K C f ∧ fs.length < 1000 ∧ Q σ (upd H1 a (.ins C dx (putF f v fs)))
theorem pg_fld {o : Expr} {to : TE} {f : Str} {pos : Pos} (ho : PE X o to) : PG X (.Attribute o f pos) (gFld X.K to f) := by
  refine ⟨fun pins s σ H v u Q I r h => ?_⟩
  rw [assign_Attribute]
  refine wpAny_bind (wpAny_holding (thn (ho.run pins s σ H _ I h) fun ov s1 ⟨x, H1, I1, r1, a, C, dx, fs, ex, ea, c, n, l, q⟩ => ?_))
  subst ex
  obtain rfl : ov = Value.ref a := r1
  refine wpAny_bind (wpAny_standAt (wpAny_bind (wpAny_holding (setattr_ok I1 ea c n l r fun s2 I2 => ?_))))
  exact wpAny_release ⟨σ, _, I2, q⟩
/-! ### f(k = v, ..) -/
variable {CX : CXT} {k n : Nat} {f : Addr} {fd : FuncData} {ps ks : List Str} {sp : Sp} {E : XK} {x : Str} {p pos : Pos} {kws : List Keyword} {t tk : TA} {g : List Value → List Value → List Value} {gV : List V → List V → List V}
theorem pe_callN0 (F : FnOk X.prog X.w X.K X.mg X.base CX k f fd ps sp) (hr : Room k X.A) (hg : Gl X x) (hm : X.mg x = some (.ref f)) (hk : PySem.W.keepIn X.K (.ref f) = true) (hb : KBn X.K fd ps 0 ks g gV) (hx : Passes CX X E)
    (hkw : PK X kws tk) (hall : (backToKw pos (keywordEach kws X.env)).all (·.1.isSome) = true := by rfl) (hks : (backToKw pos (keywordEach kws X.env)).filterMap (·.1) = ks := by rfl)
    (hdb : (x == ("__debug__" : Str)) = false := by decide)
    (hpl : ((backTo pos (starEach [] X.env)).any (·.1) || (backToKw pos (keywordEach kws X.env)).any (·.1.isNone)) = false := by rfl) :
    PE X (.Call (.Name x p) [] kws pos) (tCallN 0 ks.length sp gV E tNil tk) := by
  refine ⟨fun pins s σ H Q I h => ?_⟩
  refine wpAny_Call_Name_kw (ld_glob I hg hm ?_ hdb)
  refine PySem.W.callWith_KW0 (h₀ := X.base) I.ok.mod.kin hk hall ?_ hpl
  refine thn (hkw.run pos pins s σ H _ I h) fun ws s2 ⟨zs, H2, I2, rz, l1, l2, q2⟩ => ⟨I2.kIn, ?_⟩
  rw [hks]
  exact run_fnN (us := []) (vs := []) F hr hb hx I2 .nil rz rfl l2 q2
end
section
variable {K : PySem.W.Frag} {x qual : Str} {params : Arguments} {body : List Stmt} {scope : Scope} {f : Addr} {fd : FuncData} {ps : List Str}
/-- a def without defaults, called with keywords -/
theorem FunD.kbn0 (F : FunD K x qual params body scope [] [] f fd) (n : Nat) (ks : List Str) (g : {α : Type} → List α → List α → List α) (hrel : ∀ {vs zs : List V} {us ws : List Value}, Vals vs us → Vals zs ws → Vals (g vs zs) (g us ws))
    (h : ∀ (kV doc pm : Value) (an : Option Addr) (cdv ct : Value) (us ws : List Value), us.length = n → ws.length = ks.length → bindArgs (PySem.W.fnOf x qual params body scope .none kV doc pm an cdv ct) ⟨us, ks.zip ws⟩ = pure (ps.zip (g us ws))) :
    KBn K fd ps n ks g g := by
  obtain ⟨oc, od, dV, kV, doc, pm, an, cdv, ct, osl, rfl, lk, hcd, hD, hK⟩ := F.ex
  rcases hD with ⟨_, rfl⟩ | ⟨e, _⟩
  · exact ⟨fun s us ws X l1 l2 => .of_eq (h kV doc pm an cdv ct us ws l1 l2), fun r1 r2 => hrel r1 r2⟩
  · exact absurd rfl e
end
end L2
end
/-! ## AB7 -/
section
/-! AB7: defs and calls over the abstract state. -/
namespace AB
open PySem PySem.Spec PyProof.Rows L2
/-- what a def does: the bag, the arguments, what it may answer -/
abbrev DS := Option Addr → List AV → (AV → Prop) → Prop
def spA (Γ : Wd) (K : PySem.W.Frag) (A : DS) : L2.Sp := fun vs H Q E => ∃ (β : Option Addr) (Hb : Hp) (args : List AV) (k : AV → Prop), vs.length = args.length ∧ (∀ r ∈ args, r.fz = true) ∧ A β args k ∧ Ok Γ K β Hb (pushA vs args []) [] [] H ∧
  ∀ v r H', k r → Ok Γ K β Hb [(v, r)] [] [] H' → Q v H'
/-- what stands still of an argument -/
def argAV (ρ : Rho) : AV → Option AV
  | .d x => some (.d x)
  | .ol ds => some (.d (.list ds))
  | .ob C fs => some (.ob C fs)
  | .rv u => some (.rv u)
  | .al i => match ρ[i]? with
    | some (.ol ds) => some (.d (.list ds))
    | _ => none
  | _ => none
/-- an answer that holds no list of the caller's -/
def clean : AV → Bool
  | .d x => pure x
  | .ol ds => pureAll ds
  | .oK kvs => pureAll (kvs.map (·.2))
  | .oN kvs => pureAll (kvs.map (·.2))
  | .rv _ => true
  | .un => true
  | _ => false
section
variable {Γ : Wd} {K : PySem.W.Frag} {β : Option Addr} {Hb F F' H H' : Hp} {ow ow' : Ow} {E : List (V × AV)} {σ : L2.St} {ρ : Rho} {v : V} {r : AV} {o : Nat × Nat} {te ta tb tc to : TE} {tt tu : TT} {tas tks : TA} {k : AV → Rho → Prop} {kr : Rho → Prop} {P : Kn} {t u : TS} {A : DS}
/-- what the callee sees: all but the bag stands still -/
def bagged (ow : Ow) (a : Addr) : Bool := match ow a with
  | some (2, _) => true
  | _ => false
theorem bagged_of {a : Addr} {j : Nat} (h : ow a = some (2, j)) : bagged ow a = true := by
  unfold bagged
  rw [h]
  rfl
theorem bagged_own {a : Addr} (h : bagged ow a = true) : ∃ j, ow a = some (2, j) := by
  unfold bagged at h
  split at h
  · exact ⟨_, ‹_›⟩
  · cases h
def hpC (ow : Ow) (H : Hp) : Hp := fun a => if bagged ow a = true then none else H a
def owC (ow : Ow) : Ow := fun a => if bagged ow a = true then ow a else none
theorem owC_inv {a : Addr} (h : owC ow a = some o) : ow a = some o ∧ ∃ j, o = (2, j) := by
  unfold owC at h
  split at h
  · obtain ⟨j, hj⟩ := bagged_own ‹_›
    rw [hj] at h
    exact ⟨hj ▸ h, j, (Option.some.inj h).symm⟩
  · cases h
theorem OkF.le (x : OkF Γ K β Hb F ow E σ ρ H) : Same F (hpC ow H) := fun a u e => by
  unfold hpC
  by_cases hb : bagged ow a = true
  · obtain ⟨j, hj⟩ := bagged_own hb
    rw [(x.own a _ hj).1] at e
    cases e
  · rw [if_neg hb]
    exact x.same a u e
theorem OkF.atC (x : OkF Γ K β Hb F ow E σ ρ H) {a : Addr} {m n : Nat} (h : ow a = some (m, n)) (hm : m ≠ 2) : hpC ow H a = H a := by
  unfold hpC
  rw [if_neg]
  intro hb
  obtain ⟨j, hj⟩ := bagged_own hb
  rw [h] at hj
  cases hj
  exact hm rfl
/-- an argument, for the callee -/
theorem OkF.argOk (x : OkF Γ K β Hb F ow E σ ρ H) {m : Nat} {r' : AV} (h : Ent Γ K F H σ ow (1, m) v r) (e : argAV ρ r = some r') (ow' : Ow) (o' : Nat × Nat) (σ' : L2.St) : r'.fz = true ∧ Ent Γ K (hpC ow H) H σ' ow' o' v r' := by
  have lst : ∀ {a : Addr} {m n : Nat} {xs : List V} {ds : List PyData}, ow a = some (m, n) → m ≠ 2 → H a = some (.lst xs) → DpAll K F xs ds → Dp K (hpC ow H) (.ref a) (.list ds) := fun ho hm hH hd => .lst (.of (by rw [x.atC ho hm]; exact hH)) (dpa_same x.le hd)
  cases r with
  | d y => cases e; exact ⟨rfl, dp_same x.le h⟩
  | ol ds =>
    cases e
    obtain ⟨a, xs, rfl, ho, hH, hd⟩ := h
    exact ⟨rfl, lst ho (by decide) hH hd⟩
  | ob C fs =>
    cases e
    obtain ⟨a, dx, ps, rfl, hF, hp⟩ := h
    exact ⟨rfl, a, dx, ps, rfl, x.le _ _ hF, pk2_same x.le hp⟩
  | rv w => cases e; exact ⟨rfl, h⟩
  | al i =>
    unfold argAV at e
    dsimp only at e
    cases q : ρ[i]? with
    | none => rw [q] at e; cases e
    | some r2 =>
      rw [q] at e
      cases r2 with
      | ol ds =>
        cases e
        obtain ⟨a, xs, rfl, ho, hH, hd⟩ := x.alias h q (fun z => by cases z)
        exact ⟨rfl, lst ho (by decide) hH hd⟩
      | _ => cases e
  | _ => cases e
/-- the arguments for the callee -/
def ArgsOk (Γ : Wd) (K : PySem.W.Frag) (F H : Hp) (vs : List V) (rs : List AV) : Prop := Paired (fun v r => r.fz = true ∧ ∀ ow o σ, Ent Γ K F H σ ow o v r) vs rs
theorem ArgsOk.stk : ∀ {vs : List V} {rs : List AV} {E : List (V × AV)}, ArgsOk Γ K F H vs rs → SOk Γ K F H σ ow E → SOk Γ K F H σ ow (pushA vs rs E)
  | [], [], _, _, h => h
  | _ :: _, _ :: _, E, .cons q qs, h => by
    unfold pushA
    exact ArgsOk.stk qs ⟨q.2 _ _ _, h⟩
theorem ArgsOk.fz : ∀ {vs : List V} {rs : List AV}, ArgsOk Γ K F H vs rs → ∀ r ∈ rs, r.fz = true
  | [], [], _, r, h => by cases h
  | _ :: _, _ :: _, .cons q qs, r, h => by
    rcases List.mem_cons.mp h with z | z
    · rw [z]; exact q.1
    · exact ArgsOk.fz qs r z
def argAVs (ρ : Rho) (rs : List AV) : Option (List AV) := rs.mapM (argAV ρ)
theorem argAVs_nil : argAVs ρ [] = some [] := rfl
theorem argAVs_cons {r r' : AV} {rs rs' : List AV} (h : argAV ρ r = some r') (q : argAVs ρ rs = some rs') : argAVs ρ (r :: rs) = some (r' :: rs') := by
  unfold argAVs at q ⊢
  rw [List.mapM_cons, h, q]
  rfl
theorem OkF.argsOk : ∀ {vs : List V} {rs rs' : List AV} {E : List (V × AV)}, OkF Γ K β Hb F ow (pushA vs rs E) σ ρ H → vs.length = rs.length → argAVs ρ rs = some rs' → ArgsOk Γ K (hpC ow H) H vs rs' := by
  intro vs rs rs' E x
  have key : ∀ {vs : List V} {rs rs' : List AV} {E : List (V × AV)}, SOk Γ K F H σ ow (pushA vs rs E) → vs.length = rs.length → argAVs ρ rs = some rs' → ArgsOk Γ K (hpC ow H) H vs rs' := by
    intro vs
    induction vs with
    | nil =>
      intro rs rs' E s l e
      cases rs with
      | nil =>
        unfold argAVs at e
        rw [List.mapM_nil] at e
        cases e
        exact .nil
      | cons _ _ => cases l
    | cons v vs ih =>
      intro rs rs' E s l e
      cases rs with
      | nil => cases l
      | cons r rs =>
        unfold argAVs at e
        rw [List.mapM_cons] at e
        cases q1 : argAV ρ r with
        | none => rw [q1] at e; cases e
        | some r1 =>
          rw [q1] at e
          cases q2 : rs.mapM (argAV ρ) with
          | none => rw [q2] at e; cases e
          | some rs1 =>
            rw [q2] at e
            cases e
            unfold pushA at s
            have hv : Ent Γ K F H σ ow (1, E.length) v r := (SOk.args s).1
            exact .cons ⟨(x.argOk hv q1 ow (0, 0) σ).1, fun ow' o' σ' => (x.argOk hv q1 ow' o' σ').2⟩ (ih s (by simpa using l) q2)
  exact key x.stk
/-- the callee's state -/
theorem OkF.enter (x : OkF Γ K β Hb F ow E σ ρ H) {vs : List V} {rs : List AV} (h : ArgsOk Γ K (hpC ow H) H vs rs) : Ok Γ K β (hpC ow H) (pushA vs rs []) [] [] H := by
  refine ⟨hpC ow H, owC ow, Same.refl _, fun a u e => ?_, fun a o e => ?_, h.stk trivial, rfl, fun i r e => by simp at e, x.bag.keep fun a j e => ⟨?_, rfl⟩⟩
  · unfold hpC at e
    split at e
    · cases e
    · exact e
  · obtain ⟨e1, j, rfl⟩ := owC_inv e
    exact ⟨by unfold hpC; rw [if_pos (bagged_of e1)], (x.own a _ e1).2⟩
  · unfold owC
    rw [if_pos (bagged_of e)]
    exact e
/-- behind the call: the owners -/
def owR (ow ow' : Ow) (n : Nat) : Ow := fun a => match ow' a with
  | some (2, j) => some (2, j)
  | some (1, 0) => some (1, n)
  | _ => match ow a with
    | some (2, _) => none
    | some (1, m) => if m < n then some (1, m) else none
    | q => q
def hpR (ow : Ow) (F : Hp) : Hp := fun a => match ow a with
  | some (2, _) => F a
  | some _ => none
  | none => F a
theorem hpR_some {a : Addr} {u : HO} (e : hpR ow F a = some u) : F a = some u ∧ (∀ m n, ow a = some (m, n) → m = 2) := by
  unfold hpR at e
  cases q : ow a with
  | none => rw [q] at e; exact ⟨e, fun m n z => by cases z⟩
  | some o2 =>
    obtain ⟨m, n⟩ := o2
    rw [q] at e
    by_cases hm : m = 2
    · subst hm
      exact ⟨e, fun m n z => by cases z; rfl⟩
    · match m, hm, e with
      | 0, _, e => cases e
      | 1, _, e => cases e
      | m + 3, _, e => cases e
theorem hpR_of {a : Addr} {u : HO} (e : F a = some u) (h : ∀ m n, ow a = some (m, n) → m = 2) : hpR ow F a = some u := by
  unfold hpR
  cases q : ow a with
  | none => exact e
  | some o2 =>
    obtain ⟨m, n⟩ := o2
    have := h m n q
    subst this
    exact e
theorem hpR_none {a : Addr} {m n : Nat} (e : ow a = some (m, n)) (h : m ≠ 2) : hpR ow F a = none := by
  cases q : hpR ow F a with
  | none => rfl
  | some u => exact absurd ((hpR_some q).2 m n e) h
theorem Ok.back' (x : OkF Γ K β Hb F ow E σ ρ H) (hc : clean r = true ∨ ∃ a C fs, r = .ob C fs ∧ v = .ref a ∧ H a = none ∧ pureAll (fs.map (·.2)) = true) (y : Ok Γ K β (hpC ow H) [(v, r)] [] [] H') : Ok Γ K β Hb ((v, r) :: E) σ ρ H' := by
  obtain ⟨F', ow', y⟩ := y
  -- what the caller owns stands, unless it is the bag's
  have keepC : ∀ a u, hpC ow H a = some u → F' a = some u := y.base
  have ownC : ∀ a m n, ow a = some (m, n) → m ≠ 2 → H' a = H a ∧ ow' a = none := fun a m n e hm => by
    have hz := x.atC e hm
    have hne := (x.own a _ e).2.ne_none
    cases q : H a with
    | none => exact absurd q hne
    | some u =>
      have hF' := keepC a u (hz.trans q)
      refine ⟨y.same a u hF', ?_⟩
      cases q2 : ow' a with
      | none => rfl
      | some o2 =>
        rw [(y.own a o2 q2).1] at hF'
        cases hF'
  have sF : Same F (hpR ow F') := fun a u e => by
    refine hpR_of (keepC a u (x.le a u e)) fun m n q => ?_
    rw [(x.own a _ q).1] at e
    cases e
  have sR : Same (hpR ow F') H' := fun a u e => y.same a u (hpR_some e).1
  have keepO : ∀ a m n, ow a = some (m, n) → m ≠ 2 → (m = 1 → n < E.length) → owR ow ow' E.length a = some (m, n) ∧ H' a = H a := fun a m n e hm hn => by
    obtain ⟨h1, h2⟩ := ownC a m n e hm
    refine ⟨?_, h1⟩
    unfold owR
    rw [h2, e]
    match m, hm, hn with
    | 0, _, _ => rfl
    | 1, _, hn => exact if_pos (hn rfl)
    | m + 3, _, _ => rfl
  -- what is no list, no dict of F' is none of the caller's
  have notO : ∀ a u, F' a = some u → (Own (some u) → False) → hpR ow F' a = some u := fun a u e hu => hpR_of e fun m n q => by
    by_cases hm : m = 2
    · exact hm
    · exfalso
      have h1 := (ownC a m n q hm).1
      have h2 := y.same a u e
      rw [h1] at h2
      have := (x.own a _ q).2
      rw [h2] at this
      exact hu this
  have tupR : ∀ a xs, SqT K F' a xs → SqT K (hpR ow F') a xs := fun a xs h => by
    rcases h with (h | ⟨ob, h⟩) | h
    · exact .inl (.inl (notO a _ h (fun z => z)))
    · exact .inl (.inr ⟨ob, notO a _ h (fun z => z)⟩)
    · exact .inr h
  have to1 : ∀ a, ow' a = some (1, 0) → owR ow ow' E.length a = some (1, E.length) := fun a e => by
    unfold owR
    rw [e]
    rfl
  have kvR : ∀ {κ : Type} {ps : List (κ × V)} {kvs : List (κ × PyData)}, PK2 K F' ps kvs → pureAll (kvs.map (·.2)) = true → PK2 K (hpR ow F') ps kvs := by
    intro κ ps kvs h
    induction h with
    | nil => intro _; exact .nil
    | @cons p q ps qs h t ih =>
      intro e
      obtain ⟨e1, e2⟩ := Bool.and_eq_true_iff.mp (show (pure q.2 && pureAll (qs.map (·.2))) = true from e)
      exact .cons ⟨h.1, dp_pure tupR _ _ e1 h.2⟩ (ih e2)
  have nkR : ∀ {es : List ND.NE} {ps : List (PyData × V)}, ND.NK K F' es ps → ND.NK K (hpR ow F') es ps := fun h => Paired.mapP h fun _ _ z => ⟨z.1, ND.dp_hd tupR _ _ (ND.keyOk_hd z.2.2.1) z.2.1, z.2.2⟩
  have er : Ent Γ K (hpR ow F') H' σ (owR ow ow' E.length) (1, E.length) v r := by
    have e0 : Ent Γ K F' H' [] ow' (1, 0) v r := y.stk.1
    rcases hc with hc | ⟨a, C, fs, rfl, rfl, hn, hc⟩
    rotate_left
    · obtain ⟨a', dx, ps, e1, e2, e3⟩ := e0
      cases e1
      refine ⟨a, dx, ps, rfl, hpR_of e2 fun m n q => ?_, kvR e3 hc⟩
      exact absurd hn (x.own a _ q).2.ne_none
    cases r with
    | d z => exact dp_pure tupR _ _ hc e0
    | ol ds =>
      obtain ⟨a, xs, e1, e2, e3, e4⟩ := e0
      exact ⟨a, xs, e1, to1 a e2, e3, dpa_pure tupR _ _ hc e4⟩
    | oK kvs =>
      obtain ⟨a, xs, e1, e2, e3, e4⟩ := e0
      exact ⟨a, xs, e1, to1 a e2, e3, kvR e4 hc⟩
    | oN kvs =>
      obtain ⟨a, es, xs, e1, e2, e3, e5, e4⟩ := e0
      exact ⟨a, es, xs, e1, to1 a e2, e3, nkR e5, kvR e4 hc⟩
    | rv u => exact e0
    | un => trivial
    | _ => cases hc
  refine ⟨hpR ow F', owR ow ow' E.length, x.base.trans sF, sR, fun a o e => ?_, ⟨er, x.stk.keep sF (fun m hm a e => keepO a 1 m e (by decide) (fun _ => hm)) (.inr rfl)⟩, x.len, fun i r e => (x.slot i r e).keep sF (fun a e => keepO a 0 i e (by decide) (fun z => by cases z)) rfl, y.bag.keep fun a j e => ⟨(by unfold owR; rw [e]; rfl), rfl⟩⟩
  -- owners
  have fromY : ∀ o2, ow' a = some o2 → hpR ow F' a = none ∧ Own (H' a) := fun o2 q => by
    refine ⟨?_, (y.own a o2 q).2⟩
    cases z : hpR ow F' a with
    | none => rfl
    | some u =>
      have := (hpR_some z).1
      rw [(y.own a o2 q).1] at this
      cases this
  cases q : ow' a with
  | some o2 => exact fromY o2 q
  | none =>
    unfold owR at e
    rw [q] at e
    cases q2 : ow a with
    | none => rw [q2] at e; cases e
    | some o3 =>
      obtain ⟨m, n⟩ := o3
      by_cases hm : m = 2
      · subst hm
        rw [q2] at e
        cases e
      · refine ⟨hpR_none q2 hm, ?_⟩
        rw [(ownC a m n q2 hm).1]
        exact (x.own a _ q2).2
theorem Ok.back (x : OkF Γ K β Hb F ow E σ ρ H) (hc : clean r = true) (y : Ok Γ K β (hpC ow H) [(v, r)] [] [] H') : Ok Γ K β Hb ((v, r) :: E) σ ρ H' := Ok.back' x (.inl hc) y
end
/-! ### a def by its body -/
theorem start_get {N : List Str} {vs : List V} {i : Nat} {v : V} (h : vs[i]? = some v) : (L2.start N vs)[i]? = some (some v) := by
  unfold L2.start
  have hi : i < vs.length := (List.getElem?_eq_some_iff.mp h).1
  rw [List.getElem?_append_left (by rw [List.length_map]; exact hi), List.getElem?_map, h]
  rfl
section
variable {Γ : Wd} {K : PySem.W.Frag} {β : Option Addr} {Hb F F' H H' : Hp} {ow ow' : Ow} {E : List (V × AV)} {σ : L2.St} {ρ : Rho} {v : V} {r : AV} {o : Nat × Nat} {te ta tb tc to : TE} {tt tu : TT} {tas tks : TA} {k : AV → Rho → Prop} {kr : Rho → Prop} {P : Kn} {t u : TS} {A : DS}
theorem pushA_get : ∀ {vs : List V} {rs : List AV} {E : List (V × AV)} {i : Nat} {v : V} {r : AV}, SOk Γ K F H σ ow (pushA vs rs E) → vs[i]? = some v → rs[i]? = some r → ∃ m, Ent Γ K F H σ ow (1, m) v r
  | v :: vs, r :: rs, E, 0, _, _, h, e1, e2 => by
    rw [List.getElem?_cons_zero] at e1 e2
    cases e1
    cases e2
    unfold pushA at h
    exact ⟨_, (SOk.args h).1⟩
  | v :: vs, r :: rs, E, i + 1, _, _, h, e1, e2 => by
    unfold pushA at h
    exact pushA_get (i := i) h (by simpa using e1) (by simpa using e2)
  | [], _, _, _, _, _, _, e1, _ => by simp at e1
  | _ :: _, [], _, _, _, _, _, _, e2 => by simp at e2
theorem Ok.begin {N : List Str} {vs : List V} {args : List AV} (hl : vs.length = args.length) (hN : vs.length ≤ N.length) (hf : ∀ r ∈ args, r.fz = true) (x : Ok Γ K β Hb (pushA vs args []) [] [] H) : Ok Γ K β Hb [] (L2.start N vs) (args ++ List.replicate (N.length - args.length) .un) H := by
  obtain ⟨F, ow, x⟩ := x
  refine ⟨F, ow, x.base, x.same, x.own, trivial, ?_, fun i r e => ?_, x.bag⟩
  · unfold L2.start
    simp only [List.length_append, List.length_map, List.length_replicate]
    omega
  · by_cases hi : i < args.length
    · rw [List.getElem?_append_left hi] at e
      have hv : vs[i]? = some (vs[i]'(by omega)) := List.getElem?_eq_getElem _
      obtain ⟨m, z⟩ := pushA_get x.stk hv e
      have fz := hf r (List.mem_of_getElem? e)
      exact .inr ⟨_, start_get hv, z.any fz, fun l q => by rw [q] at fz; cases fz⟩
    · rw [List.getElem?_append_right (by omega), List.getElem?_replicate] at e
      split at e
      · cases e; exact .inl rfl
      · cases e
variable {Pg : Program} {w : World} {mg : Str → Option Value} {base : Heap}
/-- THE RULE: a def keeps its promise if its body, run on the arguments, answers as it says -/
theorem fnA {x qual : Str} {params : Arguments} {body : List Stmt} {scope : Scope} {dvs : List V} {kws : List (Str × V)} {f : Addr} {fd : FuncData} {N ps : List Str} {kk : Nat} {t : TS} {A : DS} (D : FunD K x qual params body scope dvs kws f fd) (S : FnScope N ps scope)
    (hA : ∀ β args k, A β args k → args.length = ps.length ∧ WS Γ K β t (args ++ List.replicate (N.length - args.length) .un) { nx := fun _ => k (.d .none), rt := k })
    (hbody : ∀ (cdv : Value) (Ar : Around) (outer : List Env) (s : Shared) (H : Hp) (E : XK), Room kk (Ar.deeper (envOfC qual scope s.heap.objs.size f cdv)) → PSs (cxOf CX0 Pg w K mg base N qual scope f cdv Ar outer s H E) body t) :
    FnOk Pg w K mg base CX0 (kk + 1) f fd ps (spA Γ K A) := by
  refine D.ok S (fun vs H Q E h => ?_) fun cdv Ar outer s H vs Q E hr h => ⟨t, hbody cdv Ar outer s H E hr, ?_⟩
  · obtain ⟨β, Hb, args, k, e, _, a, _⟩ := h
    rw [e]
    exact (hA β args k a).1
  · obtain ⟨β, Hb, args, k, e, hf, a, x, f⟩ := h
    obtain ⟨hl, hw⟩ := hA β args k a
    have hN : vs.length ≤ N.length := by
      rw [e, hl]
      have := congrArg List.length S.pre
      rw [List.length_take] at this
      omega
    refine hw Hb [] _ H (fun e he => by cases he) (x.begin e hN hf) _ (fun σ' ρ' H' q x' => ?_) (fun v r E' H' q x' => ?_) (fun _ _ _ q _ => q) (fun _ _ _ q _ => q)
    · have x0 := x'.noslots (fun e he => by cases he)
      obtain ⟨F, ow, x0⟩ := x0
      exact f _ _ H' q (okD x0 .non)
    · have nr : ∀ j, r ≠ .al j := fun j z => by
        subst z
        obtain ⟨F, ow, x'⟩ := x'
        have h : ([] : L2.St)[j]? = some (some v) := x'.stk.1
        simp at h
      refine f v r H' q ?_
      have x2 : Ok Γ K β Hb ((v, r) :: (E' ++ [])) [] [] H' := by rw [List.append_nil]; exact x'
      exact Ok.dropMid nr x2
/-! ### calls -/
theorem call_core {A : DS} {Q : VK} {E0 : XK} (x : OkF Γ K β Hb F ow E σ ρ H) {vs : List V} {args : List AV} (ha : ArgsOk Γ K (hpC ow H) H vs args) {k' : AV → Prop} (h : A β args k') {ρ' : Rho} {F2 : Hp} {ow2 : Ow} {E2 : List (V × AV)}
    (hq : ∀ v r H', k' r → Ok Γ K β (hpC ow H) [(v, r)] [] [] H' → Q v H') : spA Γ K A vs H Q E0 := ⟨β, hpC ow H, args, k', Paired.length ha, ha.fz, h, x.enter ha, hq⟩
/-- f(..) -/
theorem we_call (h : WA Γ K β tas ρ fun rs ρ1 => ∃ args k', argAVs ρ1 rs = some args ∧ A β args k' ∧ ∀ r, k' r → clean r = true ∧ k r ρ1) : WE Γ K β (tCall (spA Γ K A) [] E0 tas) ρ k := fun Hb E σ H x Q f =>
  h Hb E σ H x _ fun vs rs ρ1 H1 h1 e x1 => by
    obtain ⟨args, k', ea, a, q⟩ := h1
    obtain ⟨F, ow, x1⟩ := x1
    rw [List.append_nil]
    have ha := x1.argsOk e ea
    have x0 : OkF Γ K β Hb F ow E σ ρ1 H1 := ⟨x1.base, x1.same, x1.own, x1.stk.args, x1.len, x1.slot, x1.bag⟩
    exact ⟨β, hpC ow H1, args, k', Paired.length ha, ha.fz, a, x0.enter ha, fun v r H' hk y => f v r ρ1 H' (q r hk).2 (Ok.back x0 (q r hk).1 y)⟩
/-- f(.., k = v, ..) -/
theorem we_callN {n m : Nat} {gV : List V → List V → List V} {gA : List AV → List AV → List AV} (hg : ∀ (R : V → AV → Prop) vs zs rs rz, vs.length = n → zs.length = m → Paired R vs rs → Paired R zs rz → Paired R (gV vs zs) (gA rs rz))
    (h : WA Γ K β tas ρ fun rs ρ1 => WA Γ K β tks ρ1 fun rz ρ2 => ∃ args argz k', rs.length = n ∧ rz.length = m ∧ argAVs ρ2 rs = some args ∧ argAVs ρ2 rz = some argz ∧ A β (gA args argz) k' ∧ ∀ r, k' r → clean r = true ∧ k r ρ2) : WE Γ K β (tCallN n m (spA Γ K A) gV E0 tas tks) ρ k := fun Hb E σ H x Q f =>
  h Hb E σ H x _ fun vs rs ρ1 H1 h1 e x1 => h1 Hb _ σ H1 x1 _ fun zs rz ρ2 H2 h2 e2 x2 => by
    obtain ⟨args, argz, k', l1, l2, ea, ez, a, q⟩ := h2
    obtain ⟨F, ow, x2⟩ := x2
    have haz := x2.argsOk e2 ez
    have x1 : OkF Γ K β Hb F ow (pushA vs rs E) σ ρ2 H2 := ⟨x2.base, x2.same, x2.own, x2.stk.args, x2.len, x2.slot, x2.bag⟩
    have ha := x1.argsOk e ea
    have x0 : OkF Γ K β Hb F ow E σ ρ2 H2 := ⟨x1.base, x1.same, x1.own, x1.stk.args, x1.len, x1.slot, x1.bag⟩
    have hag : ArgsOk Γ K (hpC ow H2) H2 (gV vs zs) (gA args argz) := hg _ _ _ _ _ (by rw [e, l1]) (by rw [e2, l2]) ha haz
    exact ⟨by rw [e, l1], by rw [e2, l2], β, hpC ow H2, gA args argz, k', Paired.length hag, hag.fz, a, x0.enter hag, fun v r H' hk y => f v r ρ2 H' (q r hk).2 (Ok.back x0 (q r hk).1 y)⟩
theorem pk2_lookup {ps : List (Str × V)} {fs : List (Str × PyData)} (h : PK2 K F ps fs) (m : Str) : (ps.lookup m = none ∧ fs.lookup m = none) ∨ ∃ v d, ps.lookup m = some v ∧ fs.lookup m = some d ∧ Dp K F v d := by
  induction h with
  | nil => exact .inl ⟨rfl, rfl⟩
  | @cons p q ps qs h t ih =>
    obtain ⟨p1, p2⟩ := p
    obtain ⟨q1, q2⟩ := q
    obtain ⟨e, hd⟩ := h
    have e : p1 = q1 := e
    subst e
    rw [List.lookup_cons, List.lookup_cons]
    cases z : (m == p1) with
    | true => exact .inr ⟨p2, q2, rfl, rfl, hd⟩
    | false => exact ih
/-- o.m(..) -/
theorem we_meth {C : Addr} {m : Str} (h : WE Γ K β to ρ fun ro ρ1 => ∃ fs, ro = .ob C fs ∧ fs.lookup m = none ∧ WA Γ K β tas ρ1 fun rs ρ2 => ∃ args k', argAVs ρ2 rs = some args ∧ A β (.ob C fs :: args) k' ∧ ∀ r, k' r → clean r = true ∧ k r ρ2) :
    WE Γ K β (tMeth C m (spA Γ K A) [] E0 to tas) ρ k := fun Hb E σ H x Q f => h Hb E σ H x _ fun vo ro ρ1 H1 h1 x1 => by
  obtain ⟨fs, rfl, hm, h1⟩ := h1
  have x1' := x1
  obtain ⟨F, ow, x1⟩ := x1
  obtain ⟨a, dx, ps, rfl, hF, hp⟩ := x1.stk.1
  have hl : ps.lookup m = none := by
    rcases pk2_lookup hp m with ⟨e, _⟩ | ⟨v, d, _, e, _⟩
    · exact e
    · rw [hm] at e; cases e
  refine ⟨a, dx, ps, rfl, x1.same _ _ hF, hl, h1 Hb _ σ H1 x1' _ fun vs rs ρ2 H2 h2 e x2 => ?_⟩
  obtain ⟨args, k', ea, b, q⟩ := h2
  obtain ⟨F2, ow2, x2⟩ := x2
  rw [List.append_nil]
  have x2' : OkF Γ K β Hb F2 ow2 (pushA (.ref a :: vs) (.ob C fs :: rs) E) σ ρ2 H2 := x2
  have ha := x2'.argsOk (vs := .ref a :: vs) (by rw [List.length_cons, List.length_cons, e]) (argAVs_cons (r := .ob C fs) rfl ea)
  have x0 : OkF Γ K β Hb F2 ow2 E σ ρ2 H2 := ⟨x2'.base, x2'.same, x2'.own, SOk.args (vs := .ref a :: vs) (rs := .ob C fs :: rs) x2'.stk, x2'.len, x2'.slot, x2'.bag⟩
  exact ⟨β, hpC ow2 H2, _, k', Paired.length ha, ha.fz, b, x0.enter ha, fun v r H' hk y => f v r ρ2 H' (q r hk).2 (Ok.back x0 (q r hk).1 y)⟩
/-- o.f -/
theorem we_fld {fl : Str} (h : WE Γ K β to ρ fun ro ρ1 => ∃ C fs d, ro = .ob C fs ∧ Cls K C ∧ NoAttr K C fl ∧ fs.lookup fl = some d ∧ k (.d d) ρ1) : WE Γ K β (tFld K to fl) ρ k := fun Hb E σ H x Q f => h Hb E σ H x _ fun vo ro ρ1 H1 h1 x1 => by
  obtain ⟨C, fs, d, rfl, c, n, l, q⟩ := h1
  obtain ⟨F, ow, x1⟩ := x1
  obtain ⟨a, dx, ps, rfl, hF, hp⟩ := x1.stk.1
  rcases pk2_lookup hp fl with ⟨_, e⟩ | ⟨v, d', e1, e2, dv⟩
  · rw [l] at e; cases e
  · rw [l] at e2
    cases e2
    exact ⟨a, C, dx, ps, v, rfl, x1.same _ _ hF, c, n, e1, f v _ ρ1 H1 q (okD x1.pop1 dv)⟩
/-- in, tuples of data -/
theorem we_inTD (h : WE Γ K β ta ρ fun x ρ1 => WE Γ K β tb ρ1 fun y ρ2 => ∃ d ds, look ρ2 x = some d ∧ look ρ2 y = some (.tuple ds) ∧ SeqAt.shaped d = true ∧ SeqAt.shaped (.tuple ds) = true ∧ k (.d (.bool (ds.any fun z => PyData.eqv z d))) ρ2) : WE Γ K β (tOp (rInTD K) ta tb) ρ k :=
  we_opV fun Hb E σ H x Q g => h Hb E σ H x _ fun vx rx ρ1 H1 h1 x1 => g vx rx ρ1 H1 (fun Hb E σ H x Q g => h1 Hb E σ H x _ fun vy ry ρ2 H2 h2 x2 => g vy ry ρ2 H2 (by
    obtain ⟨d, ds, l1, l2, s1, s2, q⟩ := h2
    exact ⟨.bl _, _, fun _ => .bl _, q, fun Hb E σ H F ow vx vy x Q hq => ⟨d, ds, x.look2 l1, x.lookTop l2, s1, s2, hq⟩⟩) x2) x1
theorem we_notInTD (h : WE Γ K β ta ρ fun x ρ1 => WE Γ K β tb ρ1 fun y ρ2 => ∃ d ds, look ρ2 x = some d ∧ look ρ2 y = some (.tuple ds) ∧ SeqAt.shaped d = true ∧ SeqAt.shaped (.tuple ds) = true ∧ k (.d (.bool (!ds.any fun z => PyData.eqv z d))) ρ2) : WE Γ K β (tOp (rNotInTD K) ta tb) ρ k :=
  we_opV fun Hb E σ H x Q g => h Hb E σ H x _ fun vx rx ρ1 H1 h1 x1 => g vx rx ρ1 H1 (fun Hb E σ H x Q g => h1 Hb E σ H x _ fun vy ry ρ2 H2 h2 x2 => g vy ry ρ2 H2 (by
    obtain ⟨d, ds, l1, l2, s1, s2, q⟩ := h2
    exact ⟨.bl _, _, fun _ => .bl _, q, fun Hb E σ H F ow vx vy x Q hq => ⟨d, ds, x.look2 l1, x.lookTop l2, s1, s2, hq⟩⟩) x2) x1
end
end AB
end
/-! ## NR1 -/
section
/-! NR1: further rules over HandS: enumerate(tuple), {t: v} with a tuple key, sorted of a dict of tuple keys, in for tuples of data. -/
namespace PySem
set_option maxHeartbeats 1000000 in
theorem nr_enumerate_new {v : Value} {o : Obj} {H : Heap → Prop} (B : Begins v o H) :
    Meets (Builtin.«enumerate.__new__» ⟨[.type "enumerate", v], []⟩) (fun _ R s => H s.heap ∧
      R (.ok (.ret (.ref (s.heap.push o).objs.size))) { s with heap := (s.heap.push o).push { cls := .type "enumerate", data := .fields #[.none, .bool false, .ref s.heap.objs.size, rawInt 0, .none, .none] } }) :=
  .of_wp fun prog w A R s h => by
    obtain ⟨hp, g, d, tk, os⟩ := s; obtain ⟨h1, h⟩ := h
    have hsub := sub_enumerate
    have q1 : ∀ {A' : Around} {E : Value → Shared → Prop} {Q : Value → Shared → Prop}, Q (.ref hp.objs.size) ⟨hp.push o, g, d, tk, os⟩ → wpAny (model prog w) A' (pyIter v) Q E ⟨hp, g, d, tk, os⟩ :=
      fun q => B.iter prog w _ _ ⟨hp, g, d, tk, os⟩ _ h1 q
    wp_walk using q1
    refine wpAny_stack_any fun st => wpAny_pure ?_
    split
    · rename_i c _ _ _ _ _
      cases (c == Value.type "enumerate")
      · wp_walk using q1
        exact ⟨_, rfl, h⟩
      · wp_walk using q1
        exact ⟨_, rfl, h⟩
    · wp_walk using q1
      exact ⟨_, rfl, h⟩
section
variable {prog : Program} {w : World} {A : Around} {E : Value → Shared → Prop} {s : Shared}
theorem nr_enum_begins {v : Value} {o : Obj} {H : Heap → Prop} {Q : Value → Shared → Prop} (B : Begins v o H) (h1 : H s.heap)
    (h : ∀ h', IsEnum h' (s.heap.objs.size + 1) s.heap.objs.size 0 .none → h'.get? s.heap.objs.size = some o → h'.objs.size = s.heap.objs.size + 2 →
      (∀ b o, s.heap.get? b = some o → h'.get? b = some o) → Q (.ref (s.heap.objs.size + 1)) { s with heap := h' }) :
    wpAny (model prog w) A (call (.type "enumerate") [v]) Q E s := by
  refine callType_new F.called_enumerate (by decide) (F.typeCall_enumerate_1 _) (F.newCall_enumerate_1 _) (fun obj => F.args_object_init_2 obj _) F.entry_enumerate_new
    (nr_enumerate_new B) ⟨h1, ?_⟩
  have hz : (s.heap.push o).objs.size = s.heap.objs.size + 1 := Heap.size_push ..
  show _ ∧ _
  rw [hz]
  have he : IsEnum ((s.heap.push o).push { cls := .type "enumerate", data := .fields #[.none, .bool false, .ref s.heap.objs.size, rawInt 0, .none, .none] }) (s.heap.objs.size + 1) s.heap.objs.size 0 .none := by
    have := Heap.get?_push_size (s.heap.push o) (o := { cls := .type "enumerate", data := .fields #[.none, .bool false, .ref s.heap.objs.size, rawInt 0, .none, .none] }) rfl
    rw [hz] at this; exact this
  refine ⟨⟨_, he, rfl⟩, h _ he (Heap.get?_push_of_some _ (Heap.get?_push_size _ B.free)) (by rw [Heap.size_push, hz]) fun b o x => Heap.get?_push_of_some _ (Heap.get?_push_of_some _ x)⟩
end
end PySem
namespace L2
open PySem PySem.Spec PyProof.Rows
/-! ### enumerate(tuple) -/
def IteT (K : PySem.W.Frag) (a : Addr) : It :=
  ⟨fun i H => ∃ (xs : List V) (x : V), SqT K H a xs ∧ xs[i]? = some x, fun i H v H' => ∃ T x, v = .ref T ∧ H T = none ∧ H' = upd H T (.tup [.int (i : Nat), x]) ∧ ∀ xs, SqT K H a xs → xs[i]? = some x, fun i H => ∃ xs : List V, SqT K H a xs ∧ xs.length = i⟩
/-- the iterator's own objects turn -/
theorem Inv.turnedAll {X : Cx} {pins : List (Addr × Obj)} {σ : St} {H : Hp} {s : Shared} {h' : Heap} {t' : Nat} {ch : List Addr} (I : Inv X pins σ H s) (k : ∀ b o, b ∉ ch → s.heap.get? b = some o → h'.get? b = some o) (hf : ∀ b ∈ ch, FpOk X pins H b) :
    Inv X pins σ H { s with heap := h', toks := t' } := by
  have nit : ∀ b u, H b = some u → b ∉ ch := fun b u e z => by
    have q := (hf b z).1
    rw [q] at e; cases e
  refine I.step (g' := s.gens) (d' := s.drawn) (ch := ch) (fun b hb => ⟨(hf b hb).2.2.2.1, (hf b hb).2.1, (hf b hb).2.2.2.2.1, (hf b hb).2.2.2.2.2⟩) (fun b o _ _ hc e _ => k b o hc e) (fun b o _ _ hc e _ => ⟨o.slots, k b o hc e⟩)
    (fun b o _ e n => n) (fun b o hc e => ⟨o, k b o hc e⟩) (fun b xs e => e) (fun b o u e => e) (fun b ps e => ⟨#[], by rw [e]; simp⟩) (fun m hm => ?_) (fun b u e => ?_) I.bare
  · obtain ⟨o, es, ep, ho, r⟩ := hm
    exact ⟨o, es, ep, k _ o (fun z => (hf _ z).2.1 rfl) ho, r⟩
  · refine (I.hok b u e).stay (fun c v hc q => k c v ?_ q) (fun _ q => q) fun _ _ q => q
    rcases hc with z | z
    · rw [z]; exact nit b u e
    · exact nit c _ z
theorem turn_enumT {P : Program} {w : World} {K : PySem.W.Frag} {elts : List Expr} {kk : Nat} {tpos : Pos} (a e it : Addr) :
    Turn P w K (.Tuple elts kk tpos) (IteT K a) [e, it] e (fun i h => (∃ old, IsEnum h e it (0 + (i : Int)) old) ∧ h.IsTupleIter it a i ∧ e ≠ it) where
  mem := by simp
  obj := fun i h st b hb => by
    obtain ⟨⟨old, he⟩, ⟨o, ho, hc, hd⟩, _⟩ := st
    have e' : b = e ∨ b = it := by simpa using hb
    rcases e' with z | z
    · rw [z]; exact ⟨_, he, fun v q => nomatch q⟩
    · rw [z]; exact ⟨o, ho, fun v q => by rw [hd] at q; cases q⟩
  keep := fun i h h' st k => let ⟨⟨old, he⟩, hi, hne⟩ := st; ⟨⟨old, k e (by simp) _ he⟩, hi.at fun o q => k it (by simp) o q, hne⟩
  item := by
    intro X hP hw hK hc i pins s σ H E I hf st hg
    subst hP hw hK
    obtain ⟨⟨old, he⟩, hit, hne⟩ := st
    obtain ⟨xs, x, hq, hx⟩ := hg
    obtain ⟨its, rv, p, hz⟩ := I.tuple hq
    obtain ⟨u, hu, ru⟩ := rv.get hx
    have hel : e < s.heap.objs.size := Heap.lt_size he
    have hil : it < s.heap.objs.size := by obtain ⟨_, q, _⟩ := hit; exact Heap.lt_size q
    have hta : a ≠ it := fun z => by
      obtain ⟨o, ho, hc, _⟩ := p
      obtain ⟨o', ho', hc', _⟩ := hit
      rw [z, ho'] at ho
      cases ho
      rw [hc'] at hc
      exact absurd (Value.type.inj hc) (by decide)
    have hea : e ≠ a := fun z => by
      obtain ⟨o, ho, hc, _⟩ := p
      have he' := he
      unfold IsEnum at he'
      rw [z, ho] at he'
      cases he'
      exact absurd (Value.type.inj hc) (by decide)
    have hlt : i < its.toArray.size := by
      have := (List.getElem?_eq_some_iff.mp hu).1
      simpa using this
    have W := GoesN.enumFrom (prog := X.prog) (w := X.w) (A := X.A) (elts := elts) (x1 := kk) (pos := tpos) 0 (Draws.tuple (prog := X.prog) (w := X.w) (A := X.A.in1) (I.ok.hd hc) it a hta its.toArray) e hne (by simp; exact ⟨hne, hea⟩) (by simp)
    refine wpAny_mono (W.goes i s (fun v s' => ∃ x' H', Inv X pins σ H' s' ∧ RelV x' v ∧ (IteT X.K a).yld i H x' H' ∧ ((∃ old, IsEnum s'.heap e it (0 + ((i + 1 : Nat) : Int)) old) ∧ s'.heap.IsTupleIter it a (i + 1) ∧ e ≠ it) ∧ ∀ b ∈ [e, it], H' b = none) E hlt ⟨⟨old, he⟩, hit, p⟩ fun v h' tk hY hst hk htk => ?_) (fun r s1 ⟨v, hr, h1⟩ => ⟨v, hr, h1⟩) fun _ _ z => z
    obtain ⟨T, t, x2, rfl, hT, hx2, hTT⟩ := hY
    have ex2 : x2 = u := by
      have h1 : its.toArray[i]? = some u := by simpa using hu
      rw [hx2] at h1
      exact Option.some.inj h1
    subst ex2
    obtain ⟨⟨old2, he2⟩, hit2, _⟩ := hst
    have new : ObjOk X.prog X.w (upd H T (.tup [.int (i : Nat), x])) h' T (.tup [.int (i : Nat), x]) :=
      ⟨by show 2 ≤ sizeLine; decide, [.int (0 + (i : Int)) t, x2], .cons ⟨t, by rw [Int.zero_add]⟩ (.cons ru .nil), hTT⟩
    refine ⟨.ref T, _, I.turnedNew (ch := [e, it]) (t' := tk) (fun b ob hb q => hk b ob (by simpa using hb) q) hf hT new, rfl, ⟨T, x, rfl, I.hok.fresh hT, rfl, fun ys hy => by rw [I.tuple_inj hy hq]; exact hx⟩, ⟨⟨old2, he2⟩, hit2, hne⟩, fun b hb => ?_⟩
    have hb' : b < s.heap.objs.size := by
      have e' : b = e ∨ b = it := by simpa using hb
      rcases e' with z | z
      · rw [z]; exact hel
      · rw [z]; exact hil
    rw [upd_ne (Nat.ne_of_lt (Nat.lt_of_lt_of_le hb' hT))]
    exact (hf b hb).1
  done := by
    intro X hP hw hK hc i pins s σ H E I hf st hg
    subst hP hw hK
    obtain ⟨⟨old, he⟩, hit, hne⟩ := st
    obtain ⟨xs, hq, hx⟩ := hg
    obtain ⟨its, rv, p, hz⟩ := I.tuple hq
    have hta : a ≠ it := fun z => by
      obtain ⟨o, ho, hc, _⟩ := p
      obtain ⟨o', ho', hc', _⟩ := hit
      rw [z, ho'] at ho
      cases ho
      rw [hc'] at hc
      exact absurd (Value.type.inj hc) (by decide)
    have hea : e ≠ a := fun z => by
      obtain ⟨o, ho, hc, _⟩ := p
      have he' := he
      unfold IsEnum at he'
      rw [z, ho] at he'
      cases he'
      exact absurd (Value.type.inj hc) (by decide)
    have hl := rv.length
    obtain ⟨f0, f1, f2, f3, f4, f5⟩ := hf it (by simp)
    obtain ⟨e0, e1, e2, e3, e4, e5⟩ := hf e (by simp)
    have W := GoesN.enumFrom (prog := X.prog) (w := X.w) (A := X.A) (elts := elts) (x1 := kk) (pos := tpos) 0 (Draws.tuple (prog := X.prog) (w := X.w) (A := X.A.in1) (I.ok.hd hc) it a hta its.toArray) e hne (by simp; exact ⟨hne, hea⟩) (by simp)
    have hn : its.toArray.size = i := by simp; omega
    rw [hn] at W
    have st0 : (∃ old, IsEnum s.heap e it (0 + (i : Int)) old) ∧ s.heap.IsTupleIter it a i ∧ s.heap.IsTuple a its.toArray := ⟨⟨old, he⟩, hit, p⟩
    exact W.stops s (fun s1 => Inv X pins σ H s1) E st0 fun h' tk hk htk => I.turnedAll (ch := [e, it]) (t' := tk) (fun b ob hb q => hk b ob (by simpa using hb) q) hf
  self := fun A i s Q E st h => let ⟨⟨_, he⟩, _⟩ := st; wpAny_pyIter_enum he h
def iEnumT (K : PySem.W.Frag) (ta : TA) : TI := fun σ H R => ta σ H fun vs H1 => ∃ a xs, vs = [.ref a] ∧ SqT K H1 a xs ∧ R (IteT K a) H1
theorem pi_enumT {X : Cx} {e : Expr} {ta : TA} {p pos tpos : Pos} {elts : List Expr} {kk : Nat} (hg : Gl X "enumerate") (hm : X.mg "enumerate" = none) (ha : PA X [e] ta) (hs : starEach [e] X.env = [(false, eval e X.env)] := by rfl) :
    PI X (.Tuple elts kk tpos) (.Call (.Name "enumerate" p) [e] [] pos) (iEnumT X.K ta) := by
  refine ⟨fun pins s σ H R I h => ?_⟩
  refine Call_ (ld_blt I hg hm boot_enumerate (PyProof.Rows.callWith_type1 (thn (ha.run pos pins s σ H _ I h) fun us s1 ⟨vs, H1, I1, r1, q1⟩ => ?_) hs rfl))
  obtain ⟨a, xs, ex, hq, q⟩ := q1
  subst ex
  cases r1 with
  | cons r rr =>
    cases rr
    cases r
    obtain ⟨its, rv, p', hz⟩ := I1.tuple hq
    refine nr_enum_begins (begins_tuple a its.toArray) p' fun h' he hit hsz hk => wpAny_pyIter_enum he ?_
    have I2 : Inv X pins σ H1 { s1 with heap := h' } := I1.kept (t' := s1.toks) hk
    refine ⟨s1.heap.objs.size + 1, [s1.heap.objs.size + 1, s1.heap.objs.size], _, _, H1, rfl, I2, turn_enumT a (s1.heap.objs.size + 1) s1.heap.objs.size, ⟨⟨.none, he⟩, ⟨_, hit, rfl, rfl⟩, Nat.succ_ne_self _⟩, fun b hb => ?_, q⟩
    have e' : b = s1.heap.objs.size + 1 ∨ b = s1.heap.objs.size := by simpa using hb
    have hle : s1.heap.objs.size ≤ b := by
      rcases e' with z | z
      · rw [z]; exact Nat.le_add_right _ _
      · rw [z]; exact Nat.le_refl _
    exact I1.fpOk hle (I1.hok.fresh hle)
theorem walk_enumT {K : PySem.W.Frag} {a : Addr} {xs : List V} : Walk (IteT K a) xs.length (fun H => SqT K H a xs) (YPair (fun i => some (.int (i : Nat))) (fun i => xs[i]?)) := by
  refine ⟨fun i _ hi q => ⟨xs, xs[i], q, by simp [hi]⟩, fun _ q => ⟨xs, q, rfl⟩, fun i H v H' _ q y => ?_⟩
  obtain ⟨T, x, h1, h2, h3, h4⟩ := y
  exact ⟨T, .int (i : Nat), x, h1, h2, h3, rfl, h4 xs q⟩
end L2
end
/-! ## AB8 -/
section
/-! AB8: instances, enumerate, dict comprehensions, the bag. -/
namespace AB
open PySem PySem.Spec PyProof.Rows L2
def putFP (f : Str) (v : PyData) : List (Str × PyData) → List (Str × PyData)
  | [] => [(f, v)]
  | (g, x) :: r => if g = f then (g, v) :: r else (g, x) :: putFP f v r
theorem putFP_length (f : Str) (v : PyData) : ∀ fs : List (Str × PyData), (putFP f v fs).length ≤ fs.length + 1
  | [] => Nat.le_refl _
  | (g, x) :: r => by
    unfold putFP
    split
    · show r.length + 1 ≤ r.length + 1 + 1
      omega
    · show (putFP f v r).length + 1 ≤ r.length + 1 + 1
      have := putFP_length f v r
      omega
section
variable {Γ : Wd} {K : PySem.W.Frag} {β : Option Addr} {Hb F F' H H' : Hp} {ow ow' : Ow} {E : List (V × AV)} {σ : L2.St} {ρ : Rho} {v : V} {r : AV} {o : Nat × Nat} {te ta tb tc to tk tv : TE} {tt tu : TT} {tas tks : TA} {k : AV → Rho → Prop} {kr : Rho → Prop} {P : Kn} {t u : TS} {A : DS} {g : TG}
theorem pk2_putF {f : Str} {v : V} {d : PyData} (hv : Dp K F v d) {ps : List (Str × V)} {fs : List (Str × PyData)} (h : PK2 K F ps fs) : PK2 K F (putF f v ps) (putFP f d fs) := by
  induction h with
  | nil => exact .cons ⟨rfl, hv⟩ .nil
  | @cons p q ps qs h t ih =>
    obtain ⟨p1, p2⟩ := p
    obtain ⟨q1, q2⟩ := q
    have e : p1 = q1 := h.1
    subst e
    unfold putF putFP
    by_cases e : p1 = f
    · rw [if_pos e, if_pos e]
      exact .cons ⟨rfl, hv⟩ t
    · rw [if_neg e, if_neg e]
      exact .cons h ih
/-- self.f = e, self made just now -/
theorem wg_fldI {fl : Str} {d : PyData} (h : WE Γ K β to ρ fun ro ρ1 => ∃ i a C fs, ro = .al i ∧ ρ1[i]? = some (.sI a C fs) ∧ Cls K C ∧ NoAttr K C fl ∧ fs.length < 1000 ∧ kr (ρ1.set i (.sI a C (putFP fl d fs)))) : WG Γ K β (gFld K to fl) (.d d) ρ kr := fun Hb E σ H v hn x Q f =>
  h Hb _ σ H x _ fun vo ro ρ1 H1 h1 x1 => by
    obtain ⟨i, a, C, fs, rfl, e, c, n, l, q⟩ := h1
    obtain ⟨F, ow, x1⟩ := x1
    have hv : σ[i]? = some (some vo) := x1.stk.1
    obtain ⟨dx, ps, rfl, ho, hH, hp⟩ := x1.alias hv e (fun z => by cases z)
    have dv : Dp K F v d := x1.stk.2.1
    refine ⟨a, C, dx, ps, rfl, hH, c, n, by rw [pk2_len hp]; exact l, f _ _ _ q ?_⟩
    exact ⟨F, ow, x1.pop1.pop1.mut (u := .ins C dx (putF fl v ps)) (r' := .sI a C (putFP fl d fs)) hv ho trivial (fun l z => by cases z) ⟨dx, _, rfl, ho, upd_same, pk2_putF dv hp⟩⟩
/-- self.f -/
theorem we_fldI {fl : Str} (h : WE Γ K β to ρ fun ro ρ1 => ∃ i a C fs d, ro = .al i ∧ ρ1[i]? = some (.sI a C fs) ∧ Cls K C ∧ NoAttr K C fl ∧ fs.lookup fl = some d ∧ k (.d d) ρ1) : WE Γ K β (tFld K to fl) ρ k := fun Hb E σ H x Q f => h Hb E σ H x _ fun vo ro ρ1 H1 h1 x1 => by
  obtain ⟨i, a, C, fs, d, rfl, e, c, n, l, q⟩ := h1
  obtain ⟨F, ow, x1⟩ := x1
  obtain ⟨dx, ps, rfl, ho, hH, hp⟩ := x1.at e (fun z => by cases z)
  rcases pk2_lookup hp fl with ⟨_, e⟩ | ⟨v, d', e1, e2, dv⟩
  · rw [l] at e; cases e
  · rw [l] at e2
    cases e2
    exact ⟨a, C, dx, ps, v, rfl, hH, c, n, e1, f v _ ρ1 H1 q (okD x1.pop1 dv)⟩
/-- a name of an own instance -/
theorem we_sI {i : Nat} {a C : Addr} {fs : List (Str × PyData)} (h : ρ[i]? = some (.sI a C fs)) (q : k (.al i) ρ) : WE Γ K β (tVar i) ρ k := fun Hb E σ H x Q f => by
  obtain ⟨F, ow, x⟩ := x
  rcases x.slot i _ h with z | ⟨v, hv, z, _⟩
  · cases z
  · exact ⟨v, hv, f v _ ρ H q ⟨F, ow, x.push (r := .al i) hv⟩⟩
/-! ### a class's __init__ -/
/-- what an __init__ does: the bag, self, the arguments behind it, the fields it leaves -/
abbrev DI := Option Addr → List AV → (List (Str × PyData) → Prop) → Prop
def spI (Γ : Wd) (K : PySem.W.Frag) (C : Addr) (A : DI) : L2.Sp := fun vs H Q E => ∃ (β : Option Addr) (Hb : Hp) (args : List AV) (k : List (Str × PyData) → Prop) (a : Addr) (vs' : List V), vs = .ref a :: vs' ∧ vs'.length = args.length ∧ (∀ r ∈ args, r.fz = true) ∧ A β args k ∧
  Ok Γ K β Hb (pushA (.ref a :: vs') (.sI a C [] :: args) []) [] [] H ∧ ∀ fs H', k fs → Ok Γ K β Hb [(.ref a, .sI a C fs)] [] [] H' → Q .non H'
theorem Ok.beginI {N : List Str} {a : Addr} {vs : List V} {C : Addr} {fs : List (Str × PyData)} {args : List AV} (hl : vs.length = args.length) (hN : vs.length + 1 ≤ N.length) (hf : ∀ r ∈ args, r.fz = true) (h : Ok Γ K β Hb (pushA (.ref a :: vs) (.sI a C fs :: args) []) [] [] H) :
    Ok Γ K β Hb [] (L2.start N (.ref a :: vs)) (.sI a C fs :: (args ++ List.replicate (N.length - (args.length + 1)) .un)) H := by
  obtain ⟨F, ow, y⟩ := h
  have hs : SOk Γ K F H [] ow (pushA (.ref a :: vs) (.sI a C fs :: args) []) := y.stk
  obtain ⟨dx, ps, _, ho, hH, hp⟩ : Ent Γ K F H [] ow (1, 0) (.ref a) (.sI a C fs) := (SOk.args (vs := vs) (rs := args) hs).1
  refine ⟨F, reOw ow (1, 0) (0, 0), y.base, y.same, fun a o e => ?_, trivial, ?_, fun i r e => ?_, y.bag.keep fun a j e => ⟨reOw_ne e (fun z => by cases z) (fun z => by cases z), rfl⟩⟩
  · rcases reOw_inv e with ⟨z, _⟩ | z
    · exact y.own a _ z
    · exact y.own a o z
  · unfold L2.start
    simp only [List.length_append, List.length_map, List.length_replicate, List.length_cons]
    omega
  · cases i with
    | zero =>
      rw [List.getElem?_cons_zero] at e
      cases e
      exact .inr ⟨_, start_get (i := 0) rfl, ⟨dx, ps, rfl, reOw_to ho, hH, hp⟩, fun l z => by cases z⟩
    | succ i =>
      rw [List.getElem?_cons_succ] at e
      by_cases hi : i < args.length
      · rw [List.getElem?_append_left hi] at e
        have hv : vs[i]? = some (vs[i]'(by omega)) := List.getElem?_eq_getElem _
        obtain ⟨m, z⟩ := pushA_get (i := i + 1) hs (show (V.ref a :: vs)[i + 1]? = _ from hv) (show (AV.sI a C fs :: args)[i + 1]? = _ from e)
        have fz := hf r (List.mem_of_getElem? e)
        exact .inr ⟨_, start_get (i := i + 1) hv, z.any fz, fun l q => by rw [q] at fz; cases fz⟩
      · rw [List.getElem?_append_right (by omega), List.getElem?_replicate] at e
        split at e
        · cases e; exact .inl rfl
        · cases e
variable {Pg : Program} {w : World} {mg : Str → Option Value} {base : Heap}
theorem fnI {x qual : Str} {params : Arguments} {body : List Stmt} {scope : Scope} {dvs : List V} {kws : List (Str × V)} {f C : Addr} {fd : FuncData} {N ps : List Str} {kk : Nat} {t : TS} {A : DI} (D : FunD K x qual params body scope dvs kws f fd) (S : FnScope N ps scope)
    (hA : ∀ β a args k, A β args k → args.length + 1 = ps.length ∧ WS Γ K β t (.sI a C [] :: (args ++ List.replicate (N.length - (args.length + 1)) .un)) { nx := fun ρ' => ∃ fs, ρ'[0]? = some (.sI a C fs) ∧ k fs, rt := fun _ => False })
    (hbody : ∀ (cdv : Value) (Ar : Around) (outer : List Env) (s : Shared) (H : Hp) (E : XK), Room kk (Ar.deeper (envOfC qual scope s.heap.objs.size f cdv)) → PSs (cxOf CX0 Pg w K mg base N qual scope f cdv Ar outer s H E) body t) :
    FnOk Pg w K mg base CX0 (kk + 1) f fd ps (spI Γ K C A) := by
  refine D.ok S (fun vs H Q E h => ?_) fun cdv Ar outer s H vs Q E hr h => ⟨t, hbody cdv Ar outer s H E hr, ?_⟩
  · obtain ⟨β, Hb, args, k, a, vs', rfl, e, _, b, _⟩ := h
    rw [List.length_cons, e]
    exact (hA β a args k b).1
  · obtain ⟨β, Hb, args, k, a, vs', rfl, e, hf, b, y, f⟩ := h
    obtain ⟨hl, hw⟩ := hA β a args k b
    have hN : vs'.length + 1 ≤ N.length := by
      rw [e, hl]
      have := congrArg List.length S.pre
      rw [List.length_take] at this
      omega
    refine hw Hb [] _ H (fun e he => by cases he) (y.beginI (N := N) e hN hf) _ (fun σ' ρ' H' q x' => ?_) (fun v r E' H' q x' => q.elim) (fun _ _ _ q _ => q) (fun _ _ _ q _ => q)
    obtain ⟨fs, e1, q⟩ := q
    refine f fs H' q ?_
    obtain ⟨F, ow, x'⟩ := x'
    rcases x'.slot 0 _ e1 with z | ⟨v, hv, ⟨dx, ps, rfl, ho, hH, hp⟩, _⟩
    · cases z
    · refine ⟨F, reOw ow (0, 0) (1, 0), x'.base, x'.same, fun a o e => ?_, ⟨⟨dx, ps, rfl, reOw_to ho, hH, hp⟩, trivial⟩, rfl, fun i r e => by simp at e, x'.bag.keep fun a j e => ⟨reOw_ne e (fun z => by cases z) (fun z => by cases z), rfl⟩⟩
      rcases reOw_inv e with ⟨z, _⟩ | z
      · exact x'.own a _ z
      · exact x'.own a o z
/-- C(..): a new instance; its fields stand still from here on -/
theorem we_make {C : Addr} {A : DI} (h : WA Γ K β tas ρ fun rs ρ1 => ∃ args k', argAVs ρ1 rs = some args ∧ A β args k' ∧ ∀ fs, k' fs → pureAll (fs.map (·.2)) = true ∧ k (.ob C fs) ρ1) : WE Γ K β (tMake C (spI Γ K C A) [] E0 tas) ρ k := fun Hb E σ H x Q f =>
  h Hb E σ H x _ fun vs rs ρ1 H1 h1 e x1 xa dx hxa hdx hne => by
    obtain ⟨args, k', ea, b, q⟩ := h1
    obtain ⟨F, ow, x1⟩ := x1
    rw [List.append_nil]
    have x2 := x1.frozen (u := .own xa) hdx
    have ha := x2.argsOk e ea
    have y0 : OkF Γ K β Hb (upd F dx (.own xa)) ow E σ ρ1 (upd H1 dx (.own xa)) := ⟨x2.base, x2.same, x2.own, x2.stk.args, x2.len, x2.slot, x2.bag⟩
    have hxa2 : (upd H1 dx (.own xa)) xa = none := by rw [upd_ne (Ne.symm hne)]; exact hxa
    have ne0 : ∀ a o, ow a = some o → a ≠ xa := fun a o e z => by
      have := (y0.own a o e).2
      rw [z, hxa2] at this
      exact this
    have ha2 : ArgsOk Γ K (hpC ow (upd H1 dx (.own xa))) (upd (upd H1 dx (.own xa)) xa (.ins C dx [])) vs args := by
      refine Paired.mapP ha fun v r z => ⟨z.1, fun ow' o' σ' => ?_⟩
      have z2 := z.2 ow' o' σ'
      have z1 := z.1
      cases r with
      | d _ => exact z2
      | ob _ _ => exact z2
      | rv _ => exact z2
      | un => trivial
      | _ => cases z1
    have hcx : hpC ow (upd H1 dx (.own xa)) xa = none := by
      unfold hpC
      split
      · rfl
      · exact hxa2
    have hcH : ∀ a u, hpC ow (upd H1 dx (.own xa)) a = some u → upd (upd H1 dx (.own xa)) xa (.ins C dx []) a = some u := fun a u e => by
      have hax : a ≠ xa := fun z => by rw [z, hcx] at e; cases e
      rw [upd_ne hax]
      unfold hpC at e
      split at e
      · cases e
      · exact e
    have kb : ∀ a j, ow a = some (2, j) → (fun a => if a = xa then some (1, 0) else owC ow a) a = some (2, j) ∧ upd (upd H1 dx (.own xa)) xa (.ins C dx []) a = (upd H1 dx (.own xa)) a := fun a j e => by
      have hax := ne0 a _ e
      refine ⟨?_, upd_ne hax⟩
      show (if a = xa then some (1, 0) else owC ow a) = _
      rw [if_neg hax]
      unfold owC
      rw [if_pos (bagged_of e)]
      exact e
    have st : Ok Γ K β (hpC ow (upd H1 dx (.own xa))) (pushA (.ref xa :: vs) (.sI xa C [] :: args) []) [] [] (upd (upd H1 dx (.own xa)) xa (.ins C dx [])) := by
      refine ⟨hpC ow (upd H1 dx (.own xa)), fun a => if a = xa then some (1, 0) else owC ow a, Same.refl _, hcH, fun a o e => ?_, ?_, rfl, fun i r e => by simp at e, y0.bag.keep kb⟩
      · have e : (if a = xa then some (1, 0) else owC ow a) = some o := e
        split at e
        · rename_i hax
          subst hax
          exact ⟨hcx, by rw [upd_same]; trivial⟩
        · rename_i hax
          obtain ⟨e1, j, rfl⟩ := owC_inv e
          exact ⟨by unfold hpC; rw [if_pos (bagged_of e1)], by rw [upd_ne hax]; exact (y0.own a _ e1).2⟩
      · show SOk Γ K _ _ _ _ (pushA vs args [(.ref xa, .sI xa C [])])
        exact ha2.stk ⟨⟨dx, [], rfl, if_pos rfl, upd_same, .nil⟩, trivial⟩
    refine ⟨β, _, args, k', xa, vs, rfl, Paired.length ha, ha.fz, b, st, fun fs H' hk y => ⟨rfl, f _ _ ρ1 H' (q fs hk).2 ?_⟩⟩
    -- the instance stands still
    obtain ⟨F', ow', y⟩ := y
    obtain ⟨dx', ps, _, ho, hH, hp⟩ := y.stk.1
    have hF' := (y.own xa _ ho).1
    have sF : Same F' (upd F' xa (.ins C dx' ps)) := fun b z e => by rw [upd_ne (ne_of_none e hF')]; exact e
    have kb2 : ∀ a j, ow' a = some (2, j) → (fun a => if ow' a = some (1, 0) then none else ow' a) a = some (2, j) ∧ H' a = H' a := fun a j e => by
      refine ⟨?_, rfl⟩
      show (if ow' a = some (1, 0) then none else ow' a) = _
      rw [if_neg (fun z => by rw [e] at z; cases z)]
      exact e
    refine Ok.back' y0 (.inr ⟨xa, C, fs, rfl, rfl, hxa2, (q fs hk).1⟩) ⟨upd F' xa (.ins C dx' ps), fun a => if ow' a = some (1, 0) then none else ow' a, y.base.trans sF, fun b z e => ?_, fun b o e => ?_, ⟨⟨xa, dx', ps, rfl, upd_same, pk2_same sF hp⟩, trivial⟩, rfl, fun i r e => by simp at e, y.bag.keep kb2⟩
    · by_cases hb : b = xa
      · subst hb
        rw [upd_same] at e
        cases e
        exact hH
      · rw [upd_ne hb] at e
        exact y.same b z e
    · have e : (if ow' b = some (1, 0) then none else ow' b) = some o := e
      split at e
      · cases e
      · have hb : b ≠ xa := fun z => by
          rw [z] at e
          rename_i h
          rw [z] at h
          exact h ho
        rw [upd_ne hb]
        exact y.own b o e
end
end AB
end
/-! ## AB9 -/
section
/-! AB9: enumerate, dict comprehensions, the bag. -/
namespace AB
open PySem PySem.Spec PyProof.Rows L2
section
variable {Γ : Wd} {K : PySem.W.Frag} {β : Option Addr} {Hb F F' H H' : Hp} {ow ow' : Ow} {E : List (V × AV)} {σ : L2.St} {ρ : Rho} {v : V} {r : AV} {o : Nat × Nat} {te ta tb tc to tk tv : TE} {tt tu : TT} {tas tks : TA} {k : AV → Rho → Prop} {kr : Rho → Prop} {P : Kn} {t u : TS} {A : DS} {g : TG} {ki : List PyData → Rho → Prop}
/-! ### enumerate -/
theorem src_enumT {a : Addr} {ds : List PyData} : Src Γ K β (IteT K a) (enD ds) [(.ref a, .d (.tuple ds))] := by
  refine ⟨fun e he i z => ?_, fun H => ∃ xs, SqT K H a xs ∧ xs.length = (enD ds).length, fun i H x H' => ∃ T y, x = .ref T ∧ H T = none ∧ H' = upd H T (.tup [.int (i : Nat), y]) ∧ ∀ xs, SqT K H a xs → xs[i]? = some y, ⟨fun i H hi q => ?_, fun H q => ?_, fun i H x H' hi q y => y⟩, fun Hb E E' σ ρ H x => ?_, fun i Hb E E' σ ρ H x H' hi ok y => ?_⟩
  · rw [List.mem_singleton.mp he] at z
    cases z
  · obtain ⟨xs, q, e⟩ := q
    exact ⟨xs, xs[i]'(by omega), q, by simp [show i < xs.length by omega]⟩
  · obtain ⟨xs, q, e⟩ := q
    exact ⟨xs, q, by omega⟩
  · obtain ⟨F, ow, x⟩ := x
    have z : Dp K F (.ref a) (.tuple ds) := sok_app (A := E') x.stk
    cases z with
    | tup h1 h2 => exact ⟨_, sqt_same x.same h1, by rw [enD_length]; exact dpa_len h2⟩
  · obtain ⟨F, ow, ok⟩ := ok
    obtain ⟨T, y, rfl, hT, rfl, y1⟩ := y
    have z : Dp K F (.ref a) (.tuple ds) := sok_app (A := E') ok.stk
    cases z with
    | tup h1 h2 =>
      obtain ⟨d, e1, e2⟩ := dpa_getV h2 (y1 _ (sqt_same ok.same h1))
      exact ⟨_, enD_get e1, _, ow, (ok.frozen (u := .tup [.int (i : Nat), y]) hT).push (r := .d (.tuple [.int i, d])) (.tup (.of upd_same) (.cons (.int _) (.cons (dp_same (ok.sameF hT) e2) .nil)))⟩
theorem wi_enumT (h : WA Γ K β tas ρ fun rs ρ1 => ∃ ds, rs = [.d (.tuple ds)] ∧ ki (enD ds) ρ1) : WI Γ K β (iEnumT K tas) ρ ki := fun Hb E σ H x R f =>
  h Hb E σ H x _ fun vs rs ρ1 H1 h1 e x1 => by
    obtain ⟨ds, rfl, q⟩ := h1
    match vs, e with
    | [v], _ =>
      have x1 : Ok Γ K β Hb ((v, .d (.tuple ds)) :: E) σ ρ1 H1 := x1
      have x1' := x1
      obtain ⟨F, ow, x1⟩ := x1
      have z : Dp K F v (.tuple ds) := x1.stk.1
      cases z with
      | tup h1 h2 => exact ⟨_, _, rfl, sqt_same x1.same h1, f _ (enD ds) _ ρ1 H1 q src_enumT x1'⟩
theorem src_enumL {a : Addr} {ds : List PyData} : Src Γ K β (Ite K a) (enD ds) [(.ref a, .d (.list ds))] := by
  refine ⟨fun e he i z => ?_, fun H => ∃ xs, SqL K H a xs ∧ xs.length = (enD ds).length, fun i H x H' => (Ite K a).yld i H x H', ⟨fun i H hi q => ?_, fun H q => ?_, fun i H x H' hi q y => y⟩, fun Hb E E' σ ρ H x => ?_, fun i Hb E E' σ ρ H x H' hi ok y => ?_⟩
  · rw [List.mem_singleton.mp he] at z
    cases z
  · obtain ⟨xs, q, e⟩ := q
    exact ⟨xs, xs[i]'(by omega), q, by simp [show i < xs.length by omega]⟩
  · obtain ⟨xs, q, e⟩ := q
    exact ⟨xs, q, by omega⟩
  · obtain ⟨F, ow, x⟩ := x
    have z : Dp K F (.ref a) (.list ds) := sok_app (A := E') x.stk
    cases z with
    | lst h1 h2 => exact ⟨_, x.same.seq h1, by rw [enD_length]; exact dpa_len h2⟩
  · obtain ⟨F, ow, ok⟩ := ok
    obtain ⟨T, y, rfl, hT, rfl, y1⟩ := y
    have z : Dp K F (.ref a) (.list ds) := sok_app (A := E') ok.stk
    cases z with
    | lst h1 h2 =>
      obtain ⟨d, e1, e2⟩ := dpa_getV h2 (y1 _ (ok.same.seq h1))
      exact ⟨_, enD_get e1, _, ow, (ok.frozen (u := .tup [.int (i : Nat), y]) hT).push (r := .d (.tuple [.int i, d])) (.tup (.of upd_same) (.cons (.int _) (.cons (dp_same (ok.sameF hT) e2) .nil)))⟩
/-! ### dict comprehensions -/
theorem dc_it {J : It} {n : Nat} {G : Hp → Prop} {Y : Nat → Hp → V → Hp → Prop} (w : Walk J n G Y) {g : TG} {tt : TT} {tk tv : TE} {vs : List Nat} {σ : L2.St} {H1 : Hp} {D : Addr} {Qd : Hp → Prop} (Pv : Nat → Hp → Prop) (h0 : Pv 0 (upd H1 D (.dK []))) (hG : ∀ i H, i ≤ n → Pv i H → G H)
    (hs : ∀ i x H H', i < n → Pv i H → Y i H x H' → g x (wipe σ vs) H' fun σ2 H2 => wipe σ2 vs = wipe σ vs ∧ tt σ2 H2 fun b H3 =>
      if b = true then tk σ2 H3 fun y H4 => tv σ2 H4 fun z H5 => ∃ kvs k, y = kV k ∧ H5 D = some (.dK kvs) ∧ kvs.length < sizeLine ∧ Pv (i + 1) (upd H5 D (.dK (putK kvs k z))) else Pv (i + 1) H3) (hd : ∀ H, Pv n H → Qd H) :
    ∃ W : Nat → Nat → Hp → Prop, (∃ m, W 0 m (upd H1 D (.dK []))) ∧ ∀ i m H, W i m H →
      (J.stop i H ∧ Qd H) ∨ (J.go i H ∧ ∃ Nx : Hp → Prop, (∀ H', Nx H' → ∃ m', m' < m ∧ W (i + 1) m' H') ∧ ∀ x H', J.yld i H x H' → g x (wipe σ vs) H' fun σ2 H2 => wipe σ2 vs = wipe σ vs ∧ tt σ2 H2 fun b H3 =>
        if b = true then tk σ2 H3 fun y H4 => tv σ2 H4 fun z H5 => ∃ kvs k, y = kV k ∧ H5 D = some (.dK kvs) ∧ kvs.length < sizeLine ∧ Nx (upd H5 D (.dK (putK kvs k z))) else Nx H3) := by
  refine ⟨fun i m H => m = n - i ∧ i ≤ n ∧ Pv i H, ⟨n, by simp, Nat.zero_le _, h0⟩, ?_⟩
  rintro i m H ⟨rfl, hi, p⟩
  have q := hG i H hi p
  by_cases hlt : i < n
  · refine .inr ⟨w.goes i H hlt q, Pv (i + 1), fun H' p' => ⟨n - (i + 1), by omega, rfl, hlt, p'⟩, fun x H' y => hs i x H H' hlt p (w.yields i H x H' hlt q y)⟩
  · have e : i = n := by omega
    subst e
    exact .inl ⟨w.stops H q, hd H p⟩
/-- {k: v for ..}, keys ints and texts -/
theorem we_dc {wi : TI} {vs : List Nat} (hg : GOwn g vs) (h : WI Γ K β wi ρ fun its ρ1 => Unused ρ1 vs ∧ its.length ≤ 100000 ∧ ∃ I : Nat → List (Key × PyData) → Prop, I 0 [] ∧
      (∀ i d acc, its[i]? = some d → acc.length ≤ i → I i acc → WG Γ K β g (.d d) ρ1 fun ρ2 => Weak ρ2 ρ1 ∧ WT Γ K β tt ρ2 fun b ρ3 => ρ3 = ρ2 ∧ ((b = true → WE Γ K β tk ρ2 fun r ρ4 => ρ4 = ρ2 ∧ ∃ k', r = .d (kP k') ∧ WE Γ K β tv ρ2 fun r2 ρ5 => ρ5 = ρ2 ∧ ∃ x, r2 = .d x ∧ I (i + 1) (putP acc k' x)) ∧ (b = false → I (i + 1) acc))) ∧
      (∀ acc, I its.length acc → acc.length ≤ its.length → k (.oK acc) ρ1)) : WE Γ K β (tDc wi g tt tk tv vs) ρ k := fun Hb E σ H x Q f => by
  obtain ⟨_, _, x'⟩ := id x
  have al : AlOk σ E := x'.stk.alOk
  clear x'
  refine h Hb (E.map hid) σ H x.hide _ fun J its es ρ1 H1 h1 S x1 => ?_
  intro D hD
  obtain ⟨hv, hl, I, i0, turn, fin⟩ := h1
  obtain ⟨G, Y, w, hG, hY⟩ := S.walk
  have hne : NoAl (es ++ E.map hid) := S.noal.app (hid_noal E)
  have start : Ok Γ K β Hb ((.ref D, .oK []) :: (es ++ E.map hid)) (L2.wipe σ vs) ρ1 (upd H1 D (.dK [])) := by
    have x2 := x1.wipe hv hne
    obtain ⟨F, ow, x2⟩ := x2
    exact ⟨F, _, x2.fresh (u := .dK []) (r := .oK []) hD trivial ⟨D, [], rfl, setOw_same, upd_same, .nil⟩⟩
  refine dc_it w (fun i H' => ∃ acc, I i acc ∧ acc.length ≤ i ∧ Ok Γ K β Hb ((.ref D, .oK acc) :: (es ++ E.map hid)) (L2.wipe σ vs) ρ1 H') ⟨[], i0, Nat.zero_le _, start⟩ (fun i H' _ ⟨acc, _, _, x2⟩ => hG Hb _ [(.ref D, .oK acc)] _ ρ1 H' x2) (fun i y H' H2 hi ⟨acc, q, hacc, x2⟩ hy => ?_) fun H' ⟨acc, q, hacc, x2⟩ => ?_
  · obtain ⟨d, ed, x3⟩ := hY i Hb _ [(.ref D, .oK acc)] _ ρ1 H' y H2 hi x2 hy
    have hne2 : NoAl ((V.ref D, AV.oK acc) :: (es ++ E.map hid)) := hne.cons fun _ z => by cases z
    refine hg _ _ _ _ (turn i d acc ed hacc q Hb _ _ H2 y hne2 x3 _ fun σ2 ρ2 H3 q2 x4 hw => ?_)
    obtain ⟨hw2, q2⟩ := q2
    refine ⟨by rw [hw, wipe_twice], ?_⟩
    refine q2 Hb _ σ2 H3 x4 _ fun b ρ3 H4 q3 x5 => ?_
    obtain ⟨rfl, qt, qf⟩ := q3
    have back : ∀ {acc' : List (Key × PyData)} {H5 : Hp}, Ok Γ K β Hb ((V.ref D, AV.oK acc') :: (es ++ E.map hid)) σ2 ρ3 H5 → Ok Γ K β Hb ((V.ref D, AV.oK acc') :: (es ++ E.map hid)) (L2.wipe σ vs) ρ1 H5 := fun {acc' H5} x6 => by
      have x7 := (x6.weak hw2).wipe hv (hne.cons fun _ z => by cases z)
      rw [hw, wipe_twice] at x7
      exact x7
    cases b with
    | true =>
      refine iteT ?_
      refine qt rfl Hb _ σ2 H4 x5 _ fun yk rk ρ4 H5 q4 x6 => ?_
      obtain ⟨rfl, k', rfl, q5⟩ := q4
      refine q5 Hb _ σ2 H5 x6 _ fun z r2 ρ5 H6 q6 x7 => ?_
      obtain ⟨rfl, e, rfl, q7⟩ := q6
      obtain ⟨F, ow, x7⟩ := x7
      have hz : Dp K F z e := x7.stk.1
      have hk := dp_key (show Dp K F yk (kP k') from x7.stk.2.1)
      subst hk
      obtain ⟨a, ps, ea, ho, hH, hd⟩ := x7.stk.2.2.1
      cases ea
      have hlen := putP_length acc k' e
      refine ⟨ps, k', rfl, hH, ?_, putP acc k' e, q7, by omega, back ?_⟩
      · rw [pk2_len hd]
        exact Nat.lt_of_le_of_lt (Nat.le_trans hacc (Nat.le_trans (Nat.le_of_lt hi) hl)) (by decide)
      · have hF := (x7.own _ _ ho).1
        have ne : ∀ b o, ow b = some o → o ≠ (1, (es ++ E.map hid).length) → b ≠ D := fun b o e h z => by
          rw [z, ho] at e
          exact h (Option.some.inj e).symm
        refine ⟨F, ow, x7.base, fun b u e => ?_, fun b o e => ?_, ⟨⟨D, putK ps k' z, rfl, ho, upd_same, pk2_put hd k' hz⟩, x7.stk.2.2.2.keep (Same.refl F) (fun m hm b e => ⟨e, upd_ne (ne b _ e (fun z => by cases z; exact Nat.lt_irrefl _ hm))⟩) (.inr rfl)⟩, x7.len, fun j r' e => (x7.slot j r' e).keep (Same.refl F) (fun b e => ⟨e, upd_ne (ne b _ e (fun z => by cases z))⟩) rfl, x7.bag.keep fun b j e => ⟨e, upd_ne (ne b _ e (fun z => by cases z))⟩⟩
        · rw [upd_ne (ne_of_none e hF)]
          exact x7.same b u e
        · by_cases hb : b = D
          · subst hb
            rw [upd_same]
            exact ⟨hF, trivial⟩
          · rw [upd_ne hb]
            exact x7.own b o e
    | false => exact iteF ⟨acc, qf rfl, by omega, back x5⟩
  · refine f _ (.oK acc) ρ1 H' (fin acc q hacc) ?_
    have x3 := Ok.dropMid (E := E.map hid) (es := es) (fun _ z => by cases z) (Ok.unwipe hv (hne.cons fun _ z => by cases z) x2)
    exact x3.unhideTop al
end
/-! ### the bag -/
/-- a number drawn -/
def ADraw : DS := fun β args k => ∃ (b : Addr) (m : Int), β = some b ∧ args = [.rv (.ref b), .d (.int m)] ∧ (0 < m ∧ m < 1073741824) ∧ ∀ n, 0 ≤ n → n < m → k (.d (.int n))
/-- the draw over the heap -/
def spDraw : L2.Sp := fun vs H Q _ => ∃ (b g c : Addr) (m l n : Int) (gs cs : List Int), vs = [.ref b, .int m] ∧ (0 < m ∧ m < 1073741824) ∧ H b = some (.lst [.int l, .int n, .ref g, .ref c]) ∧ H g = some (.lst (gs.map V.int)) ∧ H c = some (.lst (cs.map V.int)) ∧ cs ≠ [] ∧ cs.length ≤ 1000 ∧ b ≠ g ∧ b ≠ c ∧ g ≠ c ∧
  ∀ (d l' n' : Int) (gs' : List Int), 0 ≤ d → d < m → Q (.int d) (upd (upd H b (.lst [.int l', .int n', .ref g, .ref c])) g (.lst (gs'.map V.int)))
theorem draw_to {Γ : Wd} {K : PySem.W.Frag} (vs : List V) (H : Hp) (Q : VK) (E : XK) (h : spA Γ K ADraw vs H Q E) : spDraw vs H Q E := by
  obtain ⟨β, Hb, args, k, e, _, ⟨b, m, rfl, rfl, hm, hk⟩, x, f⟩ := h
  match vs, e with
  | [vb, vm], _ =>
    have x : Ok Γ K (some b) Hb [(vm, .d (.int m)), (vb, .rv (.ref b))] [] [] H := x
    obtain ⟨F, ow, x⟩ := x
    have e1 : Dp K F vm (.int m) := x.stk.1
    cases e1
    have e2 : vb = .ref b := x.stk.2.1
    subst e2
    obtain ⟨⟨g, c, l, n, gs, cs, o1, o2, o3, h1, h2, h3, h4, h5⟩, tb⟩ := x.bag
    have bg : b ≠ g := fun z => by rw [z, o2] at o1; cases o1
    have bc : b ≠ c := fun z => by rw [z, o3] at o1; cases o1
    have gc : g ≠ c := fun z => by rw [z, o3] at o2; cases o2
    refine ⟨b, g, c, m, l, n, gs, cs, rfl, hm, h1, h2, h3, h4, h5, bg, bc, gc, fun d l' n' gs' d0 d1 => f _ (.d (.int d)) _ (hk d d0 d1) ⟨F, ow, x.base, fun a u e => ?_, fun a o e => ?_, ⟨.int d, trivial⟩, rfl, fun i r e => by simp at e, ?_⟩⟩
    · have ha : a ≠ b := fun z => by rw [z, (x.own b _ o1).1] at e; cases e
      have ha2 : a ≠ g := fun z => by rw [z, (x.own g _ o2).1] at e; cases e
      rw [upd_ne ha2, upd_ne ha]
      exact x.same a u e
    · refine ⟨(x.own a o e).1, ?_⟩
      by_cases ha : a = g
      · subst ha; rw [upd_same]; trivial
      · rw [upd_ne ha]
        by_cases ha : a = b
        · subst ha; rw [upd_same]; trivial
        · rw [upd_ne ha]; exact (x.own a o e).2
    · refine ⟨⟨g, c, l', n', gs', cs, o1, o2, o3, by rw [upd_ne bg, upd_same], upd_same, by rw [upd_ne (Ne.symm gc), upd_ne (Ne.symm bc)]; exact h3, h4, h5⟩, fun P hP => ?_⟩
      obtain ⟨hj, ps, hp, ht⟩ := tb P hP
      have np : P ≠ b := fun z => by rw [z, h1] at hp; cases hp
      have np2 : P ≠ g := fun z => by rw [z, h2] at hp; cases hp
      exact ⟨hj, ps, by rw [upd_ne np2, upd_ne np]; exact hp, ht⟩
/-- what _law_bag gives -/
def spBag (Γ : Wd) (K : PySem.W.Frag) : L2.Sp := fun vs H Q _ => ∃ (Hb : Hp) (v : V) (ns : List Int), vs = [v] ∧ ns.length ≤ 900 ∧ Ok Γ K none Hb [(v, .d (.list (ns.map .int)))] [] [] H ∧ ∀ b H', Ok Γ K (some b) Hb [(.ref b, .rv (.ref b))] [] [] H' → Q (.ref b) H'
section
variable {Γ : Wd} {K : PySem.W.Frag} {Hb H : Hp} {E : List (V × AV)} {σ : L2.St} {ρ : Rho} {tas : TA} {D : Ends}
/-- return [0, 0, great, cells] -/
theorem bag_ret (hn : NoAl E) (x : Ok Γ K none Hb E σ ρ H) (hD : ∀ b H', Ok Γ K (some b) Hb ((.ref b, .rv (.ref b)) :: E) [] [] H' → D.rt (.ref b) H')
    (h : WA Γ K none tas ρ fun rs ρ1 => ∃ (i : Nat) (gs cs : List Int), rs = [.d (.int 0), .d (.int 0), .al i, .ol (cs.map .int)] ∧ ρ1[i]? = some (.ol (gs.map .int)) ∧ cs ≠ [] ∧ cs.length ≤ 1000) : tRet (tLst tas) D σ H :=
  h Hb E σ H x _ fun vs rs ρ1 H1 h1 e x1 => by
    obtain ⟨i, gs, cs, rfl, eg, hc, hl⟩ := h1
    match vs, e with
    | [v0, v1, vg, vc], _ =>
      refine ⟨by show 4 ≤ sizeLine; decide, fun p hp => ?_⟩
      have x1 : Ok Γ K none Hb ((vc, .ol (cs.map .int)) :: (vg, .al i) :: (v1, .d (.int 0)) :: (v0, .d (.int 0)) :: E) σ ρ1 H1 := x1
      obtain ⟨F, ow, x1⟩ := x1
      have e0 : Dp K F v0 (.int 0) := x1.stk.2.2.2.1
      have e1 : Dp K F v1 (.int 0) := x1.stk.2.2.1
      cases e0
      cases e1
      obtain ⟨c, xs, rfl, oc, hHc, hdc⟩ := x1.stk.1
      obtain ⟨g, ys, rfl, og, hHg, hdg⟩ := x1.alias x1.stk.2.1 eg (fun z => by cases z)
      have ex := dpa_ints_inv hdc
      have ey := dpa_ints_inv hdg
      subst ex ey
      have ne : ∀ a o, ow a = some o → a ≠ p := fun a o e z => by
        have := (x1.own a o e).2
        rw [z, hp] at this
        exact this
      -- the owners: the bag's three, and what is on the stack below
      let ow2 : Ow := fun a => if a = p then some (2, 0) else if a = g then some (2, 1) else if a = c then some (2, 2) else match ow a with
        | some (1, m) => if m < E.length then some (1, m) else none
        | some (2, j) => some (2, j)
        | _ => none
      have gc : g ≠ c := fun z => by rw [z, oc] at og; cases og
      have gp := ne g _ og
      have cp := ne c _ oc
      have kE : ∀ m, m < E.length → ∀ a, ow a = some (1, m) → ow2 a = some (1, m) ∧ upd H1 p (.lst [.int 0, .int 0, .ref g, .ref c]) a = H1 a := fun m hm' a e => by
        have h1 : a ≠ g := fun z => by rw [z, og] at e; cases e
        have h2 : a ≠ c := fun z => by
          rw [z, oc] at e
          have := Option.some.inj e
          injection this with _ this
          have hh : ((V.ref g, AV.al i) :: (V.int 0, AV.d (.int 0)) :: (V.int 0, AV.d (.int 0)) :: E).length = E.length + 3 := rfl
          have this : ((V.ref g, AV.al i) :: (V.int 0, AV.d (.int 0)) :: (V.int 0, AV.d (.int 0)) :: E).length = m := this
          omega
        refine ⟨?_, upd_ne (ne a _ e)⟩
        show (if a = p then _ else if a = g then _ else if a = c then _ else _) = _
        rw [if_neg (ne a _ e), if_neg h1, if_neg h2, e]
        exact if_pos hm'
      refine hD p _ ⟨F, ow2, x1.base, fun a u e => ?_, fun a o e => ?_, ⟨rfl, x1.stk.2.2.2.2.keep (Same.refl F) kE (.inl hn)⟩, rfl, fun i r e => by simp at e, ?_⟩
      · rw [upd_ne (fun z => by rw [z, x1.same.free hp] at e; cases e)]
        exact x1.same a u e
      · have e : (if a = p then some (2, 0) else if a = g then some (2, 1) else if a = c then some (2, 2) else match ow a with
          | some (1, m) => if m < E.length then some (1, m) else none
          | some (2, j) => some (2, j)
          | _ => none) = some o := e
        by_cases h1 : a = p
        · subst h1
          exact ⟨x1.same.free hp, by rw [upd_same]; trivial⟩
        · rw [if_neg h1] at e
          rw [upd_ne h1]
          by_cases h2 : a = g
          · subst h2; exact x1.own _ _ og
          · rw [if_neg h2] at e
            by_cases h3 : a = c
            · subst h3; exact x1.own _ _ oc
            · rw [if_neg h3] at e
              split at e
              · rename_i m hm
                exact x1.own _ _ hm
              · rename_i j hj
                exact x1.own _ _ hj
              · cases e
      · refine ⟨⟨g, c, 0, 0, gs, cs, if_pos rfl, ?_, ?_, upd_same, by rw [upd_ne gp]; exact hHg, by rw [upd_ne cp]; exact hHc, hc, hl⟩, fun P hP => ?_⟩
        · show (if g = p then _ else if g = g then _ else _) = _
          rw [if_neg gp, if_pos rfl]
        · show (if c = p then _ else if c = g then _ else if c = c then _ else _) = _
          rw [if_neg cp, if_neg (Ne.symm gc), if_pos rfl]
        · obtain ⟨⟨j, hj⟩, ps, hps, ht⟩ := x1.bag.2 P hP
          have n1 := ne P _ hj
          have n2 : P ≠ g := fun z => by rw [z, og] at hj; cases hj
          have n3 : P ≠ c := fun z => by rw [z, oc] at hj; cases hj
          refine ⟨⟨j, ?_⟩, ps, by rw [upd_ne n1]; exact hps, ht⟩
          show (if P = p then _ else if P = g then _ else if P = c then _ else match ow P with
            | some (1, m) => if m < E.length then some (1, m) else none
            | some (2, j) => some (2, j)
            | _ => none) = _
          rw [if_neg n1, if_neg n2, if_neg n3, hj] <;> rfl
end
end AB
end
/-! ## NR5 -/
section
/-! NR5: sorted(tuple), rules for printed text, constants of the module. -/
namespace L2
open PySem PySem.Spec PyProof.Rows
section
variable {prog : Program} {w : World} {A : Around} {E : Value → Shared → Prop} {s : Shared}
theorem nr_collect_tuple {l : Addr} {vs : List Value} {Q : List Value → Shared → Prop} (hl : s.heap.IsTuple l vs.toArray)
    (h : Q vs { s with heap := (s.heap.push (seqObj "list" #[] 0)).update s.heap.objs.size (Obj.mapSeq (· ++ vs.toArray)) }) (hsz : vs.length ≤ sizeLine) :
    wpAny (model prog w) A (collect (.ref l)) Q E s := by
  obtain ⟨o, ho, hc, n, hd⟩ := id hl
  unfold collect
  refine wpAny_bind (wpAny_runValue (codeAny_builtin entry_proto_collect' ?_))
  show wpAny _ _ (do again (.builtin "list.__iadd__" ⟨[← newList [], .ref l], []⟩)) _ _ s
  refine wpAny_bind (wpAny_newList (wpAny_pure ⟨Code.quiet_builtin _ (by decide +kernel), codeAny_builtin entry_list_iadd' ?_⟩))
  show wpAny _ _ (Builtin.List.listExtendWith (.ref s.heap.objs.size) (.ref l) (.ref s.heap.objs.size)) _ _ { s with heap := s.heap.push (seqObj "list" #[] 0) }
  unfold Builtin.List.listExtendWith
  have ho' : (s.heap.push (seqObj "list" #[] 0)).get? l = some o := Heap.get?_push_of_some _ ho
  refine wpAny_bind (wpAny_typeOf (T := "tuple") ⟨o, ho', hc⟩ ?_)
  have ht : (Value.type "tuple" == Value.type "tuple") = true := by rfl
  rw [if_pos (by rw [ht]; simp)]
  refine wpAny_bind (listItems_at ho' hd ?_)
  refine wpAny_bind (listItems_at (xs := #[]) (n := 0) (Heap.get?_push_size _ rfl) rfl ?_)
  rw [if_neg (by simp)]
  refine wpAny_bind (listUpdate_at (xs := #[]) (n := 0) (Heap.get?_push_size _ rfl) rfl ?_ (Nat.zero_le _) (by show (#[] ++ vs.toArray).size ≤ sizeLine + 1; simp only [Array.size_append, List.size_toArray, List.length_nil]; omega))
  refine wpAny_pure ?_
  show wpAny (model prog w) A (do
      let o ← load s.heap.objs.size
      match o.data with
      | .seq xs _ => pure xs.toList
      | _ => unsupported "internal:collect") Q E { s with heap := (s.heap.push (seqObj "list" #[] 0)).update s.heap.objs.size (Obj.mapSeq (· ++ vs.toArray)) }
  refine wpAny_bind (wpAny_load (get?_update_seq (Heap.get?_push_size _ rfl) _) ?_)
  show wpAny _ _ (pure ((#[] : Array Value) ++ vs.toArray).toList) Q E _
  rw [show ((#[] : Array Value) ++ vs.toArray).toList = vs by simp]
  exact wpAny_pure h
theorem nr_sorted_tuple {l : Addr} {vs : List Value} {ns : List Int} {Q : Value → Shared → Prop} (hl : s.heap.IsTuple l vs.toArray) (hI : IntsAre vs ns) (hL : vs.length ≤ sizeLine)
    (h : ∀ (out : Array Value) (ns' : List Int), IntsAre out.toList ns' → ns'.Perm ns → ns'.Pairwise (· ≤ ·) → Q (.ref (s.heap.objs.size + 1)) { s with heap := sortedAll s.heap vs out }) :
    wpAny (model prog w) A (call (.builtin "sorted") [.ref l]) Q E s := by
  refine Calls.call_function_entry kind_sorted plain_sorted entry_sorted (args_sorted1 _) ?_
  unfold Builtin.«sorted»
  refine wpAny_bind (m := checkCount "sorted" 1 1 _) (wpAny_pure ?_)
  refine wpAny_bind (nr_collect_tuple hl ?_ hL)
  refine wpAny_bind (wpAny_newList ?_ hL)
  have hsz : ((s.heap.push (seqObj "list" #[] 0)).update s.heap.objs.size (Obj.mapSeq (· ++ vs.toArray))).objs.size = s.heap.objs.size + 1 := by
    rw [Heap.size_update, size_push']
  have hoL : (((s.heap.push (seqObj "list" #[] 0)).update s.heap.objs.size (Obj.mapSeq (· ++ vs.toArray))).push (seqObj "list" vs.toArray 0)).get? (s.heap.objs.size + 1) = some (seqObj "list" vs.toArray 0) := by
    rw [← hsz]; exact Heap.get?_push_size _ rfl
  show wpAny _ _ _ _ _ { s with heap := ((s.heap.push (seqObj "list" #[] 0)).update s.heap.objs.size (Obj.mapSeq (· ++ vs.toArray))).push (seqObj "list" vs.toArray 0) }
  rw [hsz]
  refine wpAny_bind (wpAny_holding (wpAny_call_entry slot_list_sort ⟨_, hoL, rfl⟩ entry_list_sort (list_sort_treeAny hoL hI hL fun out ns' a1 a2 a3 => ⟨_, rfl, ?_⟩) (args_list_sort _)))
  exact wpAny_pure ⟨_, rfl, h out ns' a1 a2 a3⟩
end
section
variable {X : Cx}
/-- sorted(t), t a tuple of ints -/
def rSortedIT (K : PySem.W.Frag) : List V → Hp → VK → Prop := fun vs H Q => ∃ (a : Addr) (ns : List Int), vs = [V.ref a] ∧ SqT K H a (ns.map V.int) ∧
  ∀ (ns' : List Int) (p : Addr), ns'.Perm ns → ns'.Pairwise (· ≤ ·) → H p = none → Q (.ref p) (upd H p (.lst (ns'.map V.int)))
theorem cr_sortedIT : CallR X (.builtin "sorted") (rSortedIT X.K) := by
  intro pins s σ H vs us Q I r h
  obtain ⟨a, ns, rfl, hs, q⟩ := h
  obtain ⟨its, rv, hl, hz⟩ := I.tuple hs
  rw [Vals.ref1 r]
  have hi := rv.ints
  have hlen := rv.length
  refine nr_sorted_tuple hl hi (by rw [← hlen]; exact hz) fun out ns' k1 k2 k3 => ?_
  obtain ⟨ep, he'⟩ := PyProof.Rows.sortedAll_at s.heap its out
  have hl2 : (ns'.map V.int).length ≤ sizeLine := by
    rw [List.length_map, k2.length_eq]
    rw [List.length_map] at hz
    exact hz
  exact ⟨.ref _, upd H (s.heap.objs.size + 1) (.lst (ns'.map V.int)), I.laid (t' := s.toks) (fun _ _ => PyProof.Rows.sortedAll_old) (Nat.le_succ _) ⟨hl2, out.toList, ep, vals_of_ints k1, he'⟩, rfl, q _ _ k2 k3 (I.hok.fresh (Nat.le_succ _))⟩
/-- the width and the bound chosen by the walk -/
def rSortUE (K : PySem.W.Frag) : List V → Hp → VK → Prop := fun vs H Q => ∃ (d : Nat) (B : Int), 1 ≤ d ∧ rSortU K d B vs H Q
theorem cr_sortUE : CallR X (.builtin "sorted") (rSortUE X.K) := by
  intro pins s σ H vs us Q I r h
  obtain ⟨d, B, hd, h⟩ := h
  exact cr_sortT hd pins s σ H vs us Q I r h
def rSortNE (P : Program) (w : World) (K : PySem.W.Frag) : List V → Hp → VK → Prop := fun vs H Q => ∃ (d : Nat) (B : Int), 1 ≤ d ∧ ND.rSortN P w K d B vs H Q
theorem cr_sortNE (hc : X.calm = true) : CallR X (.builtin "sorted") (rSortNE X.prog X.w X.K) := by
  intro pins s σ H vs us Q I r h
  obtain ⟨d, B, hd, h⟩ := h
  exact ND.cr_sortN hd hc pins s σ H vs us Q I r h
theorem Room.u65 {k : Nat} {A : Around} (r : Room k A) : A.units + 65 < cLine := by have := r.un; omega
theorem Room.u9 {k : Nat} {A : Around} (r : Room k A) : A.units + 9 < cLine := by have := r.un; omega
theorem Room.u8 {k : Nat} {A : Around} (r : Room k A) : A.units + 8 < cLine := by have := r.un; omega
theorem Room.u1 {k : Nat} {A : Around} (r : Room k A) : A.units + 1 < cLine := by have := r.un; omega
end
/-! ### constants of the module -/
def vOf : Value → V
  | .ref a => .ref a
  | .int i _ => .int i
  | .str z _ => .str z
  | .bool b => .bl b
  | _ => .non
mutual
def cdB (K : PySem.W.Frag) : PyData → Value → Bool
  | .none => fun u => match u with
    | .none => true
    | _ => false
  | .bool b => fun u => match u with
    | .bool c => decide (b = c)
    | _ => false
  | .int i => fun u => match u with
    | .int j _ => decide (i = j)
    | _ => false
  | .str x => fun u => match u with
    | .str y _ => decide (x = y)
    | _ => false
  | .tuple ds => fun u => match u with
    | .ref a => match K.lookup a with
      | some ⟨.type c, _, .seq its _, _⟩ => decide (c = "tuple") && (decide (its.size ≤ sizeLine) && cdsB K ds its.toList)
      | _ => false
    | _ => false
  | .list _ => fun _ => false
  | .dict _ => fun _ => false
def cdsB (K : PySem.W.Frag) : List PyData → List Value → Bool
  | [] => fun us => us.isEmpty
  | d :: ds => fun us => match us with
    | [] => false
    | u :: us => cdB K d u && cdsB K ds us
end
mutual
theorem cdB_ok {K : PySem.W.Frag} : ∀ (d : PyData) (u : Value), cdB K d u = true → RelV (vOf u) u ∧ ∀ H, Dp K H (vOf u) d
  | .none, u, h => by
    unfold cdB at h
    cases u with
    | none => exact ⟨rfl, fun _ => .non⟩
    | _ => cases h
  | .bool b, u, h => by
    unfold cdB at h
    cases u with
    | bool c =>
      have e := of_decide_eq_true (show decide (b = c) = true from h)
      subst e
      exact ⟨rfl, fun _ => .bl _⟩
    | _ => cases h
  | .int i, u, h => by
    unfold cdB at h
    cases u with
    | int j t =>
      have e := of_decide_eq_true (show decide (i = j) = true from h)
      subst e
      exact ⟨⟨t, rfl⟩, fun _ => .int _⟩
    | _ => cases h
  | .str x, u, h => by
    unfold cdB at h
    cases u with
    | str y t =>
      have e := of_decide_eq_true (show decide (x = y) = true from h)
      subst e
      exact ⟨⟨t, rfl⟩, fun _ => .str _⟩
    | _ => cases h
  | .tuple ds, u, h => by
    unfold cdB at h
    cases u with
    | ref a =>
      refine ⟨rfl, fun H => ?_⟩
      dsimp only at h
      cases q : K.lookup a with
      | none => rw [q] at h; cases h
      | some o =>
        obtain ⟨oc, od, dt, osl⟩ := o
        rw [q] at h
        cases oc with
        | type c =>
          cases dt with
          | seq its n =>
            obtain ⟨h1, h2⟩ := Bool.and_eq_true_iff.mp (show (decide (c = "tuple") && (decide (its.size ≤ sizeLine) && cdsB K ds its.toList)) = true from h)
            obtain ⟨h3, h4⟩ := Bool.and_eq_true_iff.mp h2
            obtain ⟨h5, h6⟩ := cdsB_ok ds its.toList h4
            exact .tup (.inr ⟨_, its, n, q, congrArg Value.type (of_decide_eq_true h1), rfl, of_decide_eq_true h3, h5⟩) (h6 H)
          | _ => cases h
        | _ => cases dt <;> cases h
    | _ => cases h
  | .list _, u, h => by
    unfold cdB at h
    cases h
  | .dict _, u, h => by
    unfold cdB at h
    cases h
theorem cdsB_ok {K : PySem.W.Frag} : ∀ (ds : List PyData) (us : List Value), cdsB K ds us = true → Vals (us.map vOf) us ∧ ∀ H, DpAll K H (us.map vOf) ds
  | [], [], _ => ⟨.nil, fun _ => .nil⟩
  | d :: ds, u :: us, h => by
    unfold cdsB at h
    obtain ⟨h1, h2⟩ := Bool.and_eq_true_iff.mp (show (cdB K d u && cdsB K ds us) = true from h)
    obtain ⟨h3, h4⟩ := cdB_ok d u h1
    obtain ⟨h5, h6⟩ := cdsB_ok ds us h2
    exact ⟨.cons h3 h5, fun H => .cons (h4 H) (h6 H)⟩
  | [], _ :: _, h => by unfold cdsB at h; cases h
  | _ :: _, [], h => by unfold cdsB at h; cases h
end
/-- the value under a name of the module -/
def gv (K : PySem.W.Frag) (x : Str) : V := match PySem.W.nsIn K mainGlobals x with
  | some (some u) => vOf u
  | _ => .non
/-- the module's name x holds d -/
def conB (K : PySem.W.Frag) (x : Str) (d : PyData) : Bool := match PySem.W.nsIn K mainGlobals x with
  | some (some u) => cdB K d u
  | _ => false
/-- a constant of the module, as the walk takes it -/
structure GCn (K : PySem.W.Frag) (mg : Str → Option Value) (x : Str) (d : PyData) : Prop where
  mg : ∃ u, mg x = some u ∧ RelV (gv K x) u
  dp : ∀ H, Dp K H (gv K x) d
theorem gc_of {K : PySem.W.Frag} {h : Heap} {mg : Str → Option Value} (X : K.In h) (G : h.Ns mainGlobals mg) {x : Str} {d : PyData} (c : conB K x d = true) : GCn K mg x d := by
  unfold conB at c
  cases e : PySem.W.nsIn K mainGlobals x with
  | none => rw [e] at c; cases c
  | some o =>
    rw [e] at c
    cases o with
    | none => cases c
    | some u =>
      obtain ⟨h1, h2⟩ := cdB_ok d u c
      have eg : gv K x = vOf u := by
        unfold gv
        rw [e]
      exact ⟨⟨u, PySem.W.mg_of X G e, eg ▸ h1⟩, fun H => eg ▸ h2 H⟩
theorem pe_gc {X : Cx} {x : Str} {pos : Pos} {d : PyData} (c : GCn X.K X.mg x d) (hg : Gl X x) (hd : (x == ("__debug__" : Str)) = false := by decide) : PE X (.Name x pos) (tC (gv X.K x)) := by
  obtain ⟨u, hm, r⟩ := c.mg
  exact pe_glob hg hm r hd
/-- the module's name x is a built-in -/
def bltB (K : PySem.W.Frag) (x : Str) (id : String) : Bool := He.eqO (PySem.W.nsIn K mainGlobals x) (some (some (.builtin id)))
theorem blt_of {K : PySem.W.Frag} {h : Heap} {mg : Str → Option Value} (X : K.In h) (G : h.Ns mainGlobals mg) {x : Str} {id : String} (c : bltB K x id = true) : mg x = some (.builtin id) := PySem.W.mg_of X G (He.eqO_ok c)
/-! ### calls by keywords -/
structure CalN (P : Program) (w : World) (K : PySem.W.Frag) (mg : Str → Option Value) (base : Heap) (k : Nat) (x : Str) (ks : List Str) (gV : List V → List V → List V) (sp : Sp) : Prop where
  ex : ∃ (f : Addr) (fd : FuncData) (ps : List Str) (g : List Value → List Value → List Value), FnOk P w K mg base CX0 k f fd ps sp ∧ mg x = some (.ref f) ∧ PySem.W.keepIn K (.ref f) = true ∧ KBn K fd ps 0 ks g gV
theorem pe_cN {X : Cx} {k j : Nat} {x : Str} {ks : List Str} {gV : List V → List V → List V} {sp : Sp} {p pos : Pos} {kws : List Keyword} {tk : TA} (c : CalN X.prog X.w X.K X.mg X.base k x ks gV sp) (hr : Room j X.A) (hk : k ≤ j) (hg : Gl X x)
    (hkw : PK X kws tk) (hall : (backToKw pos (keywordEach kws X.env)).all (·.1.isSome) = true := by rfl) (hks : (backToKw pos (keywordEach kws X.env)).filterMap (·.1) = ks := by rfl)
    (hdb : (x == ("__debug__" : Str)) = false := by decide)
    (hpl : ((backTo pos (starEach [] X.env)).any (·.1) || (backToKw pos (keywordEach kws X.env)).any (·.1.isNone)) = false := by rfl) :
    PE X (.Call (.Name x p) [] kws pos) (tCallN 0 ks.length sp gV E0 tNil tk) := by
  obtain ⟨f, fd, ps, g, F, hm, kp, b⟩ := c.ex
  exact pe_callN0 F (hr.mono hk) hg hm kp b pass0 hkw hall hks hdb hpl
end L2
namespace He
open PySem PySem.Spec PyProof.Rows L2
abbrev AlZ : Type := AlD × Bool
def obsZG (n : Nat) (fa : List Fa) (fn : List DefD) (ex : PySem.W.Frag → Bool) (g : Addr → Option Obj) : AlZ := (obsD fa fn (frG g (asD g n)), ex (frG g (asD g n)))
/-- facts, defs and one Bool more -/
def hookZ (n : Nat) (fa : List Fa) (fn : List DefD) (ex : PySem.W.Frag → Bool) : PySem.W.Hook where
  α := AlZ
  obs := fun s => obsZG n fa fn ex s.heap.get?
  val := fun _ => (valD fn, true)
  says := fun _ h => ∃ K : PySem.W.Frag, K.In h ∧ SaysD fa fn K ∧ ex K = true
  of := fun _ _ e => ⟨_, frG_in, congrArg (fun z : AlZ => z.1) e, congrArg (fun z : AlZ => z.2) e⟩
  keeps := fun _ _ _ ⟨K, hK, c⟩ k => ⟨K, PySem.W.Frag.In.keeps hK k, c⟩
theorem obsZG_eq {n : Nat} {fa : List Fa} {fn : List DefD} {ex : PySem.W.Frag → Bool} {g : Addr → Option Obj} {s : Shared} (h : ∀ a, g a = s.heap.get? a) : obsZG n fa fn ex g = (hookZ n fa fn ex).obs s := by
  have e : g = s.heap.get? := funext h
  rw [e] <;> rfl
end He
end
/-! ## NR6 -/
section
/-! NR6: calls by names, as the printed texts use them. -/
namespace AB
open PySem PySem.Spec PyProof.Rows L2
theorem bo_len : bootBuiltins "len" = some (.builtin "len") := by decide +kernel
theorem bo_int : bootBuiltins "int" = some (.type "int") := by decide +kernel
theorem bo_bool : bootBuiltins "bool" = some (.type "bool") := by decide +kernel
theorem bo_str : bootBuiltins "str" = some (.type "str") := by decide +kernel
theorem bo_list : bootBuiltins "list" = some (.type "list") := by decide +kernel
theorem bo_tuple : bootBuiltins "tuple" = some (.type "tuple") := by decide +kernel
theorem bo_dict : bootBuiltins "dict" = some (.type "dict") := by decide +kernel
theorem bo_isinstance : bootBuiltins "isinstance" = some (.builtin "isinstance") := by decide +kernel
theorem bo_sum : bootBuiltins "sum" = some (.builtin "sum") := by decide +kernel
theorem bo_sorted : bootBuiltins "sorted" = some (.builtin "sorted") := by decide +kernel
theorem bo_abs : bootBuiltins "abs" = some (.builtin "abs") := by decide +kernel
theorem bo_min : bootBuiltins "min" = some (.builtin "min") := by decide +kernel
theorem bo_max : bootBuiltins "max" = some (.builtin "max") := by decide +kernel
theorem bo_all : bootBuiltins "all" = some (.builtin "all") := by decide +kernel
theorem bo_any : bootBuiltins "any" = some (.builtin "any") := by decide +kernel
def clsBody : Stmt → List Stmt
  | .ClassDef (body := b) .. => b
  | _ => []
/-- a def that may be called by its name, with these defaults -/
structure Cal (P : Program) (w : World) (K : PySem.W.Frag) (mg : Str → Option Value) (base : Heap) (k : Nat) (x : Str) (sp : Sp) (dvs : List V) : Prop where
  ex : ∃ (f : Addr) (fd : FuncData) (ps : List Str) (ds : List Value), FnOk P w K mg base CX0 k f fd ps sp ∧ mg x = some (.ref f) ∧ PySem.W.keepIn K (.ref f) = true ∧ Binds K fd ps ds ∧ Vals dvs ds
/-- a method of the class at C -/
structure Met (P : Program) (w : World) (K : PySem.W.Frag) (mg : Str → Option Value) (base : Heap) (k : Nat) (C : Addr) (m : Str) (sp : Sp) (dvs : List V) : Prop where
  ex : ∃ (f : Addr) (fd : FuncData) (ps : List Str) (ds : List Value), Cls K C ∧ Meth K C m f ∧ FnOk P w K mg base CX0 k f fd ps sp ∧ Binds K fd ps ds ∧ Vals dvs ds
/-- a class that may be made by its name; sp: its __init__ -/
structure Mak (P : Program) (w : World) (K : PySem.W.Frag) (mg : Str → Option Value) (base : Heap) (k : Nat) (x : Str) (C : Addr) (sp : Sp) (dvs : List V) : Prop where
  ex : ∃ (f : Addr) (fd : FuncData) (ps : List Str) (ds : List Value), Mk K C f ∧ FnOk P w K mg base CX0 k f fd ps sp ∧ mg x = some (.ref C) ∧ Binds K fd ps ds ∧ Vals dvs ds
section
variable {X : Cx} {k j : Nat} {C : Addr} {x m : Str} {sp : Sp} {dvs : List V} {p pos apos : Pos} {e o : Expr} {es : List Expr} {ta : TE} {t : TA}
theorem pe_c (c : Cal X.prog X.w X.K X.mg X.base k x sp dvs) (hr : Room j X.A) (hk : k ≤ j) (hg : Gl X x) (ha : PA X (e :: es) t)
    (hdb : (x == ("__debug__" : Str)) = false := by decide) (he : starEach (e :: es) X.env = (false, eval e X.env) :: starEach es X.env := by rfl) (hpl : (backTo pos (starEach es X.env)).any (·.1) = false := by rfl) :
    PE X (.Call (.Name x p) (e :: es) [] pos) (tCall sp dvs E0 t) := by
  obtain ⟨f, fd, ps, ds, F, hm, kp, b, d⟩ := c.ex
  exact pe_call F (hr.mono hk) hg hm kp b d pass0 ha hdb he hpl
theorem pe_mk (c : Mak X.prog X.w X.K X.mg X.base k x C sp dvs) (hr : Room j X.A) (hk : k + 1 ≤ j) (hg : Gl X x) (ha : PA X (e :: es) t)
    (hdb : (x == ("__debug__" : Str)) = false := by decide) (he : starEach (e :: es) X.env = (false, eval e X.env) :: starEach es X.env := by rfl) (hpl : (backTo pos (starEach es X.env)).any (·.1) = false := by rfl) :
    PE X (.Call (.Name x p) (e :: es) [] pos) (tMake C sp dvs E0 t) := by
  obtain ⟨f, fd, ps, ds, M, F, hm, b, d⟩ := c.ex
  exact pe_make M F (hr.mono hk) hg hm b d pass0 ha hdb he hpl
theorem pe_mt {pl : Sem Bool} (c : Met X.prog X.w X.K X.mg X.base k C m sp dvs) (hr : Room j X.A) (hk : k ≤ j) (he : PE X o ta) (ha : PA X (e :: es) t)
    (hst : starEach (e :: es) X.env = (false, eval e X.env) :: starEach es X.env := by rfl) (hpl : (backTo pos (starEach es X.env)).any (·.1) = false := by rfl)
    (ht : eval (.Call (.Attribute o m apos) (e :: es) [] pos) X.env = (do
      let ov ← eval o X.env
      standAt apos.atName
      let (f, first) ← holding [ov] (getMethod ov m pl)
      callWith pos f first (backTo pos (starEach (e :: es) X.env)) (backToKw pos (keywordEach [] X.env))) := by rfl) :
    PE X (.Call (.Attribute o m apos) (e :: es) [] pos) (tMeth C m sp dvs E0 ta t) := by
  obtain ⟨f, fd, ps, ds, hc, hm, F, b, d⟩ := c.ex
  exact pe_meth (pl := pl) he hc hm F (hr.mono hk) b d pass0 ha hst hpl ht
end
end AB
end
/-! ## ABD -/
section
/-! ABD: data of natural numbers; truth; small helps for walks. -/
namespace AB
open PySem PySem.Spec PyProof.Rows L2
def iN (l : List Nat) : List Int := l.map fun (k : Nat) => (k : Int)
abbrev lN (l : List Nat) : List PyData := (iN l).map .int
abbrev tN (l : List Nat) : PyData := .tuple (lN l)
theorem iN_length (l : List Nat) : (iN l).length = l.length := by unfold iN; simp
theorem lN_length (l : List Nat) : (lN l).length = l.length := by rw [List.length_map, iN_length]
theorem iN_get (l : List Nat) (k : Nat) : (iN l)[k]? = l[k]?.map fun (k : Nat) => (k : Int) := by unfold iN; simp
theorem lN_get {l : List Nat} {k : Nat} (h : k < l.length) : (lN l)[k]? = some (.int (l.getD k 0 : Nat)) := by
  rw [List.getElem?_map, iN_get, List.getElem?_eq_getElem h]
  simp [List.getD_eq_getElem?_getD, h]
theorem ixN_nat {n k : Nat} (h : k < n) : ixN n (k : Int) = some k := by
  unfold ixN
  split <;> simp_all <;> omega
theorem atI_N {l : List Nat} {k : Nat} (h : k < l.length) : atI (lN l) (k : Int) = some (.int (l.getD k 0 : Nat)) := by
  unfold atI
  rw [lN_length, ixN_nat h]
  exact lN_get h
theorem atI_D {l : List PyData} {k : Nat} {d : PyData} (h : l[k]? = some d) : atI l (k : Int) = some d := by
  unfold atI
  rw [ixN_nat (List.getElem?_eq_some_iff.mp h).1]
  exact h
theorem mem_iN {l : List Nat} {k : Nat} : (k : Int) ∈ iN l ↔ k ∈ l := by
  unfold iN
  rw [List.mem_map]
  constructor
  · rintro ⟨j, h, e⟩
    have : j = k := by omega
    rw [← this]; exact h
  · intro h; exact ⟨k, h, rfl⟩
theorem rg0 {n i : Nat} {d : PyData} (h : (rgD 0 1 n)[i]? = some d) : i < n ∧ d = .int (i : Int) := by
  obtain ⟨h1, h2⟩ := rgD_get.mp h
  refine ⟨h1, h2.trans ?_⟩
  congr 1
  omega
theorem lN_append (a b : List Nat) : lN (a ++ b) = lN a ++ lN b := by unfold lN iN; simp
theorem lN_set (l : List Nat) (k x : Nat) : (lN l).set k (.int (x : Int)) = lN (l.set k x) := by unfold lN iN; simp [List.map_set]
theorem lN_rep (n : Nat) : List.flatten (List.replicate n [PyData.int 0]) = lN (List.replicate n 0) := by
  induction n with
  | zero => rfl
  | succ n ih => rw [List.replicate_succ, List.flatten_cons, ih]; rfl
theorem lN_inj {a b : List Nat} (h : lN a = lN b) : a = b := by
  have hi : ∀ x y : Nat, PyData.int (x : Int) = PyData.int (y : Int) → x = y := fun x y e => by
    injection e with e
    omega
  unfold lN iN at h
  rw [List.map_map, List.map_map] at h
  induction a generalizing b with
  | nil => cases b with
    | nil => rfl
    | cons _ _ => cases h
  | cons x a ih => cases b with
    | nil => cases h
    | cons y b =>
      rw [List.map_cons, List.map_cons] at h
      injection h with h1 h2
      rw [hi x y h1, ih h2]
theorem pureAll_ints (l : List Int) : pureAll (l.map .int) = true := by
  induction l with
  | nil => rfl
  | cons x l ih => rw [List.map_cons]; show (pure (.int x) && pureAll (l.map .int)) = true; rw [ih]; rfl
theorem pure_tN (l : List Nat) : pure (tN l) = true := pureAll_ints _
theorem pure_tI (l : List Int) : pure (tI l) = true := pureAll_ints _
theorem pureAll_tIs (l : List (List Int)) : pureAll (l.map tI) = true := by
  induction l with
  | nil => rfl
  | cons x l ih => rw [List.map_cons]; show (pure (tI x) && pureAll (l.map tI)) = true; rw [ih, pure_tI]; rfl
theorem rgD0_lN (n : Nat) : rgD 0 1 n = lN (List.range n) := by
  unfold rgD lN iN
  rw [List.map_map]
  refine List.map_congr_left fun i _ => ?_
  show PyData.int (0 + (i : Int) * 1) = PyData.int (i : Int)
  congr 1
  omega
theorem un_d {x : PyData} : AV.d x ≠ AV.un := fun h => by cases h
theorem un_ol {x : List PyData} : AV.ol x ≠ AV.un := fun h => by cases h
theorem un_oK {x : List (Key × PyData)} : AV.oK x ≠ AV.un := fun h => by cases h
theorem un_oN {x : List (PyData × PyData)} : AV.oN x ≠ AV.un := fun h => by cases h
theorem un_rv {x : V} : AV.rv x ≠ AV.un := fun h => by cases h
theorem al_d {x : PyData} : ∀ l, AV.d x ≠ AV.al l := fun l h => by cases h
theorem al_ol {x : List PyData} : ∀ l, AV.ol x ≠ AV.al l := fun l h => by cases h
theorem al_oK {x : List (Key × PyData)} : ∀ l, AV.oK x ≠ AV.al l := fun l h => by cases h
theorem al_oN {x : List (PyData × PyData)} : ∀ l, AV.oN x ≠ AV.al l := fun l h => by cases h
theorem al_rv {x : V} : ∀ l, AV.rv x ≠ AV.al l := fun l h => by cases h
theorem tt_ff {p : Prop} : true = false → p := fun h => by cases h
theorem ff_tt {p : Prop} : false = true → p := fun h => by cases h
/-! ### calls with one answer -/
section
variable {Γ : Wd} {K : PySem.W.Frag} {β : Option Addr} {ρ : Rho} {tas : TA} {to : TE} {k : AV → Rho → Prop} {A : DS}
theorem we_callE (h : WA Γ K β tas ρ fun rs ρ1 => ∃ args res, argAVs ρ1 rs = some args ∧ A β args (· = res) ∧ clean res = true ∧ k res ρ1) : WE Γ K β (tCall (spA Γ K A) [] E0 tas) ρ k :=
  we_call (h.mono fun rs ρ1 ⟨args, res, h1, h2, h3, h4⟩ => ⟨args, _, h1, h2, fun r hr => by subst hr; exact ⟨h3, h4⟩⟩)
theorem WE.monoC {te : TE} {k k' : AV → Rho → Prop} (h : WE Γ K β te ρ k) (q : ∀ r ρ1, k r ρ1 → k' r ρ1) : WE Γ K β te ρ k' := h.mono q
theorem we_methE {C : Addr} {m : Str} (h : WE Γ K β to ρ fun ro ρ1 => ∃ fs, ro = .ob C fs ∧ fs.lookup m = none ∧ WA Γ K β tas ρ1 fun rs ρ2 => ∃ args res, argAVs ρ2 rs = some args ∧ A β (.ob C fs :: args) (· = res) ∧ clean res = true ∧ k res ρ2) :
    WE Γ K β (tMeth C m (spA Γ K A) [] E0 to tas) ρ k := we_meth (h.mono fun ro ρ1 ⟨fs, h1, h2, h3⟩ => ⟨fs, h1, h2, h3.mono fun rs ρ2 ⟨args, res, h4, h5, h6, h7⟩ => ⟨args, _, h4, h5, fun r hr => by subst hr; exact ⟨h6, h7⟩⟩⟩)
theorem we_callNE {tks : TA} {n m : Nat} {gV : List V → List V → List V} {gA : List AV → List AV → List AV} (hg : ∀ (R : V → AV → Prop) vs zs rs rz, vs.length = n → zs.length = m → Paired R vs rs → Paired R zs rz → Paired R (gV vs zs) (gA rs rz))
    (h : WA Γ K β tas ρ fun rs ρ1 => WA Γ K β tks ρ1 fun rz ρ2 => ∃ args argz res, rs.length = n ∧ rz.length = m ∧ argAVs ρ2 rs = some args ∧ argAVs ρ2 rz = some argz ∧ A β (gA args argz) (· = res) ∧ clean res = true ∧ k res ρ2) : WE Γ K β (tCallN n m (spA Γ K A) gV E0 tas tks) ρ k :=
  we_callN hg (h.mono fun rs ρ1 h1 => h1.mono fun rz ρ2 ⟨args, argz, res, h2, h3, h4, h5, h6, h7, h8⟩ => ⟨args, argz, _, h2, h3, h4, h5, h6, fun r hr => by subst hr; exact ⟨h7, h8⟩⟩)
end
theorem we_gcdG {Γ : Wd} {K : PySem.W.Frag} {β : Option Addr} {ρ : Rho} {tas : TA} {k : AV → Rho → Prop} (h : WA Γ K β tas ρ fun rs ρ1 => ∃ a b : Int, rs = [.d (.int a), .d (.int b)] ∧ ∀ g : Int, g = ((Nat.gcd a.natAbs b.natAbs : Nat) : Int) → k (.d (.int g)) ρ1) : WE Γ K β (tCB rGcd tas) ρ k :=
  we_gcd (h.mono fun rs ρ1 ⟨a, b, e, q⟩ => ⟨a, b, e, q _ rfl⟩)
/-- an object that nobody follows -/
theorem Ok.extra {Γ : Wd} {K : PySem.W.Frag} {β : Option Addr} {Hb H : Hp} {E : List (V × AV)} {σ : L2.St} {ρ : Rho} {p : Addr} {u : HO} (x : Ok Γ K β Hb E σ ρ H) (hp : H p = none) : Ok Γ K β Hb E σ ρ (upd H p u) := by
  obtain ⟨F, ow, x⟩ := x
  have fp : F p = none := x.same.free hp
  have on : ∀ a o, ow a = some o → a ≠ p := fun a o e z => by
    have := (x.own a o e).2
    rw [z, hp] at this
    exact this
  have kp : ∀ a o, ow a = some o → ow a = some o ∧ upd H p u a = H a := fun a o e => ⟨e, upd_ne (on a o e)⟩
  refine ⟨F, ow, x.base, fun b z e => ?_, fun a o e => ?_, x.stk.keep (Same.refl F) (fun m _ a e => kp a _ e) (.inr rfl), x.len, fun i r e => (x.slot i r e).keep (Same.refl F) (fun a e => kp a _ e) rfl, x.bag.keep fun a j e => kp a _ e⟩
  · rw [upd_ne (ne_of_none e fp)]
    exact x.same b z e
  · rw [upd_ne (on a o e)]
    exact x.own a o e
/-- a, b = (x, y), the tuple made and taken apart -/
theorem ws_asg2 {Γ : Wd} {K : PySem.W.Frag} {β : Option Addr} {ρ : Rho} {tas : TA} {P : Kn} {i j : Nat} (hij : i ≠ j) (h : WA Γ K β tas ρ fun rs ρ1 => ∃ r1 r2, rs = [r1, r2] ∧ (∀ l, r1 ≠ .al l) ∧ (∀ l, r2 ≠ .al l) ∧ P.nx ((ρ1.set i r1).set j r2)) :
    WS Γ K β (tAsg (tTup tas) (gTup K 2 (gCons (gName i) (gCons (gName j) gNil)))) ρ P := fun Hb E σ H hn x D f1 f2 f3 f4 =>
  h Hb E σ H x _ fun vs rs ρ1 H1 h1 e x1 => by
    obtain ⟨r1, r2, rfl, n1, n2, q⟩ := h1
    match vs, e with
    | [v, w], _ =>
      refine ⟨by show 2 ≤ sizeLine; decide, fun p hp => ⟨p, [v, w], rfl, .of upd_same, rfl, v, [w], rfl, w, [], rfl, rfl, f1 _ _ _ q ?_⟩⟩
      have z := Ok.asgBelow (i := i) (j := j) hn n1 n2 (Ok.extra (u := .tup [v, w]) (show Ok Γ K β Hb ((w, r2) :: (v, r1) :: E) σ ρ1 H1 from x1) hp)
      rw [List.set_comm _ _ (Ne.symm hij)] at z
      rw [List.set_comm _ _ (Ne.symm hij)] at z
      exact z
/-! ### truth -/
/-- a datum's truth -/
def truD : PyData → Bool
  | .none => false
  | .bool b => b
  | .int i => i != 0
  | .str x => (x.length : Int) != 0
  | .list ds => !ds.isEmpty
  | .tuple ds => !ds.isEmpty
  | .dict _ => false
section
variable {Γ : Wd} {K : PySem.W.Frag} {β : Option Addr} {Hb F H H' : Hp} {ow : Ow} {E : List (V × AV)} {σ : L2.St} {ρ : Rho} {v : V} {r : AV} {te : TE} {kb : Bool → Rho → Prop} {k : AV → Rho → Prop}
theorem isEmpty_dpa {vs : List V} {ds : List PyData} (h : DpAll K F vs ds) : vs.isEmpty = ds.isEmpty := by cases h <;> rfl
/-- if x, x a list or a tuple -/
theorem wt_tru (h : WE Γ K β te ρ fun r ρ1 => ∃ ds, (look ρ1 r = some (.list ds) ∨ look ρ1 r = some (.tuple ds)) ∧ kb (!ds.isEmpty) ρ1) : WT Γ K β (tTru K te) ρ kb := fun Hb E σ H x Q f => h Hb E σ H x _ fun v r ρ1 H1 h1 x1 => by
  obtain ⟨ds, l, q⟩ := h1
  obtain ⟨F, ow, x1⟩ := x1
  rcases l with l | l
  · obtain ⟨a, xs, rfl, h2, h3⟩ := x1.stk.1.itemsL x1 l
    exact ⟨!xs.isEmpty, .inl ⟨xs, h2, rfl⟩, by rw [isEmpty_dpa h3]; exact f _ ρ1 H1 q (Ok.pop ⟨F, ow, x1⟩)⟩
  · obtain ⟨a, xs, rfl, h2, h3⟩ := x1.stk.1.itemsT x1 l
    exact ⟨!xs.isEmpty, .inr (.inl ⟨xs, h2, rfl⟩), by rw [isEmpty_dpa h3]; exact f _ ρ1 H1 q (Ok.pop ⟨F, ow, x1⟩)⟩
theorem we_oN {i : Nat} {ds : List (PyData × PyData)} (h : ρ[i]? = some (.oN ds)) (q : k (.al i) ρ) : WE Γ K β (tVar i) ρ k := we_al h (fun z => by cases z) q
/-- sorted(t) of a tuple of ints -/
theorem we_sortedIT {tas : TA} (h : WA Γ K β tas ρ fun rs ρ1 => ∃ ns : List Int, rs = [.d (tI ns)] ∧ ∀ ms : List Int, ms.Perm ns → ms.Pairwise (· ≤ ·) → k (.ol (ms.map .int)) ρ1) : WE Γ K β (tCB (rSortedIT K) tas) ρ k :=
  we_cb (h.mono fun rs ρ1 ⟨ns, e, q⟩ => by
    subst e
    intro Hb E σ H vs e x Q f
    match vs, e with
    | [v], _ =>
      have x : Ok Γ K β Hb ((v, .d (tI ns)) :: E) σ ρ1 H := x
      obtain ⟨F, ow, x⟩ := x
      obtain ⟨a, rfl, hs⟩ := tupI_of (show Dp K F v (tI ns) from x.stk.1) x.same
      exact ⟨a, ns, rfl, hs, fun ms p hm hs hp => f _ _ ρ1 _ (q ms hm hs) (x.pop1.newL hp (dpa_ints ms))⟩)
/-- sorted of fewer than 64 tuples of d ints in [0, B) -/
theorem we_sortedUE {tas : TA} (h : WA Γ K β tas ρ fun rs ρ1 => ∃ r, rs = [r] ∧ ∃ (d : Nat) (B : Int), 1 ≤ d ∧ ∃ nss : List (List Int), look ρ1 r = some (.list (nss.map tI)) ∧ nss.length < 64 ∧ (∀ ns ∈ nss, ns.length = d ∧ TS.Bd B ns) ∧
      ∀ mss : List (List Int), mss.Perm nss → mss.Pairwise (fun n m => TS.code B n ≤ TS.code B m) → k (.ol (mss.map tI)) ρ1) : WE Γ K β (tCB (rSortUE K) tas) ρ k :=
  we_cb (h.mono fun rs ρ1 ⟨r, e, d, B, hd1, nss, l, h64, hb, q⟩ => by
    subst e
    intro Hb E σ H vs e x Q f
    match vs, e with
    | [v], _ =>
      have x : Ok Γ K β Hb ((v, r) :: E) σ ρ1 H := x
      obtain ⟨F, ow, x⟩ := x
      obtain ⟨a, xs, rfl, h1, h2⟩ := x.stk.1.itemsL x l
      refine ⟨d, B, hd1, a, xs, rfl, h1, by rw [dpa_len h2, List.length_map]; exact h64, fun y hy => ?_, fun ys p hperm hpw hp => ?_⟩
      · obtain ⟨dd, h3, h4⟩ := dpa_mem h2 hy
        obtain ⟨ns, h5, rfl⟩ := List.mem_map.mp h3
        exact ⟨ns, tupI_of h4 x.same, (hb ns h5).1, (hb ns h5).2⟩
      · obtain ⟨es, p1, p2⟩ := dpa_perm hperm h2
        obtain ⟨mss, rfl, p3⟩ := dpa_tI_inv p1
        refine f _ _ ρ1 _ (q mss p3 ?_) (x.pop1.newL hp p2)
        -- the order, from the values to the numbers
        have : ∀ {ys : List V} {mss : List (List Int)}, DpAll K F ys (mss.map tI) → ys.Pairwise (fun x y => ∀ n m, TupI K H x n → TupI K H y m → TS.code B n ≤ TS.code B m) → mss.Pairwise (fun n m => TS.code B n ≤ TS.code B m) := by
          intro ys mss
          induction mss generalizing ys with
          | nil => intro _ _; exact .nil
          | cons m mss ih =>
            intro h3 h4
            cases h3 with
            | @cons y ys' _ _ h5 h6 =>
              refine List.pairwise_cons.mpr ⟨fun n hn => ?_, ih h6 (List.pairwise_cons.mp h4).2⟩
              obtain ⟨i, hi⟩ := List.mem_iff_getElem?.mp (List.mem_map_of_mem (f := tI) hn)
              obtain ⟨z, hz, dz⟩ := dpa_get h6 hi
              exact (List.pairwise_cons.mp h4).1 z (List.mem_of_getElem? hz) m n (tupI_of h5 x.same) (tupI_of dz x.same)
        exact this p2 hpw)
/-- sorted(d) of fewer than 64 tuples of dd ints in [0, B) -/
theorem we_sortedNE {tas : TA} (h : WA Γ K β tas ρ fun rs ρ1 => ∃ r, rs = [r] ∧ ∃ (dd : Nat) (B : Int), 1 ≤ dd ∧ ∃ (kvs : List (PyData × PyData)) (nss : List (List Int)), lookN ρ1 r = some kvs ∧ kvs.map (·.1) = nss.map tI ∧ nss.length < 64 ∧ (∀ ns ∈ nss, ns.length = dd ∧ TS.Bd B ns) ∧
      ∀ mss : List (List Int), mss.Perm nss → mss.Pairwise (fun n m => TS.code B n ≤ TS.code B m) → k (.ol (mss.map tI)) ρ1) : WE Γ K β (tCB (rSortNE Γ.P Γ.w K) tas) ρ k :=
  we_cb (h.mono fun rs ρ1 ⟨r, e, dd, B, hd1, kvs, nss, l, hks, h64, hb, q⟩ => by
    subst e
    intro Hb E σ H vs e x Q f
    match vs, e with
    | [v], _ =>
      have x : Ok Γ K β Hb ((v, r) :: E) σ ρ1 H := x
      obtain ⟨F, ow, x⟩ := x
      have hKF : ∃ a es ps, v = .ref a ∧ H a = some (ND.NDO Γ.P Γ.w a es) ∧ ND.NK K F es ps ∧ PK2 K F ps kvs := by
        cases r with
        | oN l' =>
          cases l
          obtain ⟨a, es, ps, rfl, _, h1, h3, h2⟩ := x.stk.1
          exact ⟨a, es, ps, rfl, h1, h3, h2⟩
        | al i =>
          unfold lookN at l
          dsimp only at l
          cases q : ρ1[i]? with
          | none => rw [q] at l; cases l
          | some r' =>
            rw [q] at l
            cases r' with
            | oN l' =>
              cases l
              obtain ⟨a, es, ps, rfl, _, h1, h3, h2⟩ := x.at q (fun z => by cases z)
              exact ⟨a, es, ps, rfl, h1, h3, h2⟩
            | _ => cases l
        | _ => cases l
      obtain ⟨a, es, ps, rfl, hH, hnk, hp⟩ := hKF
      have hdk := nk_keys hnk hp
      rw [hks] at hdk
      have hlen : ps.length = nss.length := by
        rw [pk2_len hp, ← List.length_map (as := kvs) (f := (·.1)), hks, List.length_map]
      refine ⟨dd, B, hd1, a, es, ps, rfl, hH, nk_same x.same hnk, by rw [hlen]; exact h64, fun p hpm => ?_, fun ys p hperm hpw hp' => ?_⟩
      · obtain ⟨q', hq1, hq2⟩ := pk2_keys hp p hpm
        have : q'.1 ∈ nss.map tI := hks ▸ List.mem_map_of_mem (f := (·.1)) hq1
        obtain ⟨ns, h5, h6⟩ := List.mem_map.mp this
        exact ⟨ns, by rw [hq2, ← h6], (hb ns h5).1, (hb ns h5).2⟩
      · obtain ⟨es', p1, p2⟩ := dpa_perm hperm hdk
        obtain ⟨mss, rfl, p3⟩ := dpa_tI_inv p1
        refine f _ _ ρ1 _ (q mss p3 ?_) (x.pop1.newL hp' p2)
        have : ∀ {ys : List V} {mss : List (List Int)}, DpAll K F ys (mss.map tI) → ys.Pairwise (fun x y => ∀ n m, TupI K H x n → TupI K H y m → TS.code B n ≤ TS.code B m) → mss.Pairwise (fun n m => TS.code B n ≤ TS.code B m) := by
          intro ys mss
          induction mss generalizing ys with
          | nil => intro _ _; exact .nil
          | cons m mss ih =>
            intro h3 h4
            cases h3 with
            | @cons y ys' _ _ h5 h6 =>
              refine List.pairwise_cons.mpr ⟨fun n hn => ?_, ih h6 (List.pairwise_cons.mp h4).2⟩
              obtain ⟨i, hi⟩ := List.mem_iff_getElem?.mp (List.mem_map_of_mem (f := tI) hn)
              obtain ⟨z, hz, dz⟩ := dpa_get h6 hi
              exact (List.pairwise_cons.mp h4).1 z (List.mem_of_getElem? hz) m n (tupI_of h5 x.same) (tupI_of dz x.same)
        exact this p2 hpw)
end
end AB
end
/-! ## NG1 -/
section
set_option maxHeartbeats 4000000
/-! NG1: any, all of a generator expression over anything that PI serves; the element may call defs. -/
namespace GX
open PySem PySem.Spec PyProof.Rows L2 GenW
/-- the context of a generator expression's own frame -/
abbrev gx (X : Cx) (A : Around) (s : Shared) (H : Hp) (cenv : Env) (fp : List Addr) (pn : List (Addr × Obj)) : Cx :=
  { X with A := A, s_0 := s, H_0 := H, env := cenv, outer := X.stack, stack := cenv :: X.stack, ex := fp, fn := fun _ => false, pn := pn, xe := fun _ _ => False }
section
variable {X : Cx} {pins : List (Addr × Obj)} {σ : L2.St} {H : Hp} {s : Shared}
theorem gx_start {A : Around} {scope : Scope} {own : List (Str × Nat)} {fp : List Addr} {code : Value} {h5 : Heap} {g5 : Array GenState} {t5 : Nat} {a : Addr} {go : Obj} {m5 : Str → Option Value}
    (I : Inv X pins σ H s) (ok : BlkOk X.N X.env.scope scope own) (hN : X.N.Nodup) (ncell : ∀ y ∈ scope.names, y.2 ≠ .cell) (hfp : ∀ b ∈ fp, FpOk X pins H b ∧ b < s.heap.objs.size)
    (hA : A.frames = some (genEnv scope (cloFrom X.env.cells scope.names []) s.heap.objs.size code builtinsNs X.env :: X.stack)) (hAh : X.calm = true → A.handled = none)
    (hn : h5.Ns s.heap.objs.size m5) (kp : ∀ b o, s.heap.get? b = some o → h5.get? b = some o) (ha : s.heap.objs.size < a) (hgo : h5.get? a = some go) (hgd : ∀ v, go.data ≠ .cell v) (hg5 : AllBare g5) :
    Inv (gx X A s H (genEnv scope (cloFrom X.env.cells scope.names []) s.heap.objs.size code builtinsNs X.env) fp [(a, go)]) [] (wipe σ (own.map (·.2))) H { s with heap := h5, gens := g5, toks := t5 } := by
  have hfree : ∀ y ∈ scope.names, y.2 = .free → ∃ c, X.env.cells.lookup y.1 = some c := fun y hy e => by
    rcases ok.free y hy e with k | k
    · exact I.ok.has _ (.inl k)
    · exact I.ok.has _ (.inr k)
  generalize hcenv : genEnv scope (cloFrom X.env.cells scope.names []) s.heap.objs.size code builtinsNs X.env = cenv at hA ⊢
  have hL : cenv.locals = s.heap.objs.size := by rw [← hcenv]; rfl
  have hF : cenv.frame = some cenv.locals := by rw [← hcenv]; rfl
  have hcl : cenv.cells = cloFrom X.env.cells scope.names [] := by rw [← hcenv]; rfl
  have hsc : cenv.scope = scope := by rw [← hcenv]; rfl
  have cm : ∀ {y c}, (y, c) ∈ cloFrom X.env.cells scope.names [] → X.env.cells.lookup y = some c ∧ c < s.heap.objs.size := fun {y c} hm => by
    rcases cloFrom_mem hm with hm | ⟨h1, rfl⟩
    · cases hm
    · obtain ⟨c, hc⟩ := hfree _ h1 rfl
      rw [hc]
      obtain ⟨w, z⟩ := I.cell _ _ hc
      exact ⟨rfl, z.lt⟩
  have mem : ∀ {y c}, cenv.cells.lookup y = some c → X.env.cells.lookup y = some c ∧ c < s.heap.objs.size := fun {y c} e => by
    rw [hcl] at e
    exact cm (PySem.mem_of_lookup e)
  have look : ∀ {y}, scope.names.lookup y = some .free → ∃ c, cenv.cells.lookup y = some c ∧ X.env.cells.lookup y = some c := fun {y} hl => by
    have hy : (y, NameKind.free) ∈ scope.names := PySem.mem_of_lookup hl
    obtain ⟨c', e'⟩ := mem_lookup (cloFrom_has (cells := X.env.cells) (acc := []) hy)
    rw [← hcl] at e'
    exact ⟨c', e', (mem e').1⟩
  have nocell : ∀ {y}, scope.names.lookup y = some .cell → False := fun {y} hl => ncell _ (PySem.mem_of_lookup hl) rfl
  have okB : (gx X A s H cenv fp [(a, go)]).Ok := by
    refine ⟨I.ok.mod, by show cenv.scope.kind = _; rw [hsc]; exact ok.kind, by show cenv.globals = _; rw [← hcenv]; exact I.ok.glob, by show cenv.builtins = _; rw [← hcenv]; rfl, by show s.heap.objs.size ≤ cenv.locals; rw [hL]; exact Nat.le_refl _,
      fun y z c e1 e2 => ?_, fun y hy => ?_, fun y c z e => ?_, hAh, hA, .inr ⟨rfl, hF⟩, fun b hb => ⟨?_, fun y c e z => ?_⟩, I.bs, Nat.le_trans I.ok.bsz I.sz, fun b o e hb => ?_, fun b hb z => ?_, I.stack, I.stkFree⟩
    · exact I.ok.inj y z c (mem e1).1 (mem e2).1
    · show ∃ c, cenv.cells.lookup y = some c
      have hy : scope.names.lookup y = some .cell ∨ scope.names.lookup y = some .free := by
        have hy : cenv.scope.names.lookup y = some .cell ∨ cenv.scope.names.lookup y = some .free := hy
        rwa [hsc] at hy
      rcases hy with hy | hy
      · exact (nocell hy).elim
      · obtain ⟨c, h1, _⟩ := look hy
        exact ⟨c, h1⟩
    · cases z
    · show b ≠ cenv.locals
      rw [hL]; exact Nat.ne_of_lt (hfp b hb).2
    · have e : cenv.cells.lookup y = some c := e
      exact (hfp b hb).1.2.2.2.2.1 y c (mem e).1 z
    · rcases (hfp b hb).1.2.2.2.1 with z | z
      · exact I.ok.noex b o e z
      · exact absurd (Nat.lt_of_lt_of_le (Heap.lt_size e) (Nat.le_trans I.ok.bsz z)) (Nat.lt_irrefl _)
    · rcases List.mem_cons.mp (I.stkSub b z) with z | z
      · exact (hfp b hb).1.2.1 z
      · exact (hfp b hb).1.2.2.1 z
  refine ⟨okB, rfl, hg5, Un.kept kp, ⟨m5, by rw [show (gx X A s H cenv fp [(a, go)]).env.locals = s.heap.objs.size from hL]; exact hn, fun i y av e1 e2 e3 => ?_⟩, fun y c e => ?_, ?_, fun y c e => ?_, fun p hp => ?_, I.hok.kept kp, by rw [wipe_length]; exact I.len⟩
  · obtain ⟨e2, hne⟩ := wipe_some e2
    have e3 : Vis cenv.scope y := e3
    have hfr : scope.names.lookup y = some .free := by
      rw [hsc] at e3
      have no : ∀ k', scope.names.lookup y = some k' → (k' = .local ∨ k' = .cell) → False := fun k' e hh => by
        rcases ok.own _ (PySem.mem_of_lookup e) hh with e' | e'
        · obtain ⟨p, hp, hpy⟩ := List.mem_map.mp e'
          have e3 := ok.ix p hp
          have : p.1 = y := hpy
          rw [this] at e3
          exact hne (List.mem_map.mpr ⟨p, hp, nodup_ix hN e3 e1⟩)
        · exact e' (List.mem_of_getElem? e1)
      rcases e3 with e3 | e3 | e3
      · exact (no _ e3 (.inl rfl)).elim
      · exact (no _ e3 (.inr rfl)).elim
      · exact e3
    obtain ⟨m, hn', hl⟩ := I.loc
    have hvis : Vis X.env.scope y := (ok.free _ (PySem.mem_of_lookup hfr) rfl).elim (fun k => .inr (.inl k)) (fun k => .inr (.inr k))
    obtain ⟨w, r, q⟩ := hl i y av e1 e2 hvis
    obtain ⟨c, h1, h2⟩ := look hfr
    have hk : cenv.kindOf y = some .free := by unfold Env.kindOf; rw [hsc]; exact hfr
    refine ⟨w, r, .inr ⟨.inr hk, ?_⟩⟩
    rcases q with ⟨k, _⟩ | ⟨_, c', e', z⟩
    · have k : X.env.scope.names.lookup y = some .local := k
      rcases ok.free _ (PySem.mem_of_lookup hfr) rfl with k' | k' <;> rw [show X.env.scope.names.lookup y = _ from k'] at k <;> cases k
    · rw [h2] at e'; cases e'
      exact ⟨c, h1, z.keeps kp⟩
  · have e : cenv.cells.lookup y = some c := e
    obtain ⟨w, z⟩ := I.cell y c (mem e).1
    exact ⟨w, z.keeps kp⟩
  · show H cenv.locals = none
    rw [hL]; exact I.hok.fresh (Nat.le_refl _)
  · have e : cenv.cells.lookup y = some c := e
    exact I.freeC y c (mem e).1
  · have hp : p = (a, go) := by simpa using hp
    subst hp
    refine ⟨hgo, I.hok.fresh (Nat.le_of_lt ha), ?_, fun z => ?_, hgd⟩
    · show a ≠ cenv.locals
      rw [hL]
      exact Nat.ne_of_gt ha
    · have z : a ∈ frs X.stack := z
      rcases List.mem_cons.mp (I.stkSub a z) with z | z
      · have := I.lt
        rw [← z] at this
        exact absurd (Nat.lt_trans ha this) (Nat.lt_irrefl _)
      · exact I.nofs (Nat.le_of_lt ha) z
/-- what any, all of a generator expression reads: d, the answer at the end -/
def tGx (d : Bool) (P : Addr) (wi : TI) (g : TG) (tt : TT) (te : TE) (vs : List Nat) : TE := fun σ H Q => wi σ H fun J H1 => GxR.TabG H1 P ∧ ∀ H2, GxR.Tabbed P H1 H2 → ∃ W : Nat → Nat → Hp → Prop, (∃ m, W 0 m H2) ∧ ∀ i m H, W i m H →
  (J.stop i H ∧ Q (.bl d) H) ∨ (J.go i H ∧ ∃ Nx : Hp → Prop, (∀ H', Nx H' → ∃ m', m' < m ∧ W (i + 1) m' H') ∧ ∀ x H', J.yld i H x H' → g x (wipe σ vs) H' fun σ2 H2 => wipe σ2 vs = wipe σ vs ∧ tt σ2 H2 fun b H3 =>
    if b = true then te σ2 H3 fun y H4 => ∃ c : Bool, y = .bl c ∧ if c = d then Nx H4 else Q (.bl (!d)) H4 else Nx H3)
/-- the run's end -/
def gxR (X : Cx) (pins : List (Addr × Obj)) (σ : L2.St) (Q : VK) (d : Bool) : GenEnd := fun n s₀ r s => r = .ok .next ∧ ∃ H', Inv X pins σ H' s ∧ Q (.bl d) H'
/-- an item is handed out -/
def gxY (X : Cx) (pins : List (Addr × Obj)) (σ : L2.St) (Q : VK) (d : Bool) (a : Addr) (g : Nat) : Protocol := fun n s₀ v s kap =>
  ∃ (c : Bool) (H' : Hp), v = .bool c ∧ Inv X pins σ H' s ∧ s.heap.IsGen a g ∧ (c ≠ d → Q (.bl (!d)) H') ∧ (c = d → ∀ s', s'.heap = s.heap → s'.os = s.os → AllBare s'.gens → kap (.send .none) s')
/-- a generator that is ready to be woken -/
def gxRdy (X : Cx) (pins : List (Addr × Obj)) (σ : L2.St) (Q : VK) (d : Bool) (a : Addr) (g n : Nat) (s : Shared) : Prop :=
  s.heap.IsGen a g ∧ s.heap.NoLimit ∧ ∃ gs, s.gens[g]? = some gs ∧ gs.Goes (model X.prog X.w) X.A.in1.in1 (gxR X pins σ Q d) (gxY X pins σ Q d a g) n (.send .none) (s.setGen g .running)
/-- the state, but for the generators' table and what is drawn -/
theorem Inv.regen {s' : Shared} (I : Inv X pins σ H s) (hh : s'.heap = s.heap) (ho : s'.os = s.os) (hb : AllBare s'.gens) : Inv X pins σ H s' :=
  ⟨I.ok, ho.trans I.os, hb, hh ▸ I.base, hh ▸ I.loc, fun x c e => hh ▸ I.cell x c e, I.free, I.freeC, fun p hp => hh ▸ I.pin p hp, hh ▸ I.hok, I.len⟩
/-- the loop of all -/
theorem loop_all {Q : VK} {a : Addr} {g : Nat} {R' : Result → Shared → Prop} (hh : X.A.handled = none) (hroom : X.A.depth < recursionLimit) (hR : ∀ b H' s', Inv X pins σ H' s' → Q (.bl b) H' → R' (.ok (.ret (.bool b))) s') :
    ∀ (n : Nat) (s : Shared), gxRdy X pins σ Q true a g n s → codeAny (model X.prog X.w) X.A (.builtin "all.loop" ⟨[.ref a], []⟩) R' s := by
  intro n
  induction n with
  | zero =>
    intro s ⟨hg, hl, gs, hgs, hgo⟩
    have hgl : g < s.gens.size := (Array.getElem?_eq_some_iff.mp hgs).1
    refine codeAny_builtin F.entry_all_loop ?_
    rw [Around.under_plainId F.plain_all_loop _]
    show wpAny _ X.A.in1 (pyNext (.ref a) >>= _) _ _ s
    refine wpAny_bind (wpAny_gsz (n := g + 1) hgl (wpAny_pyNext_genexpQ (A := X.A.in1) (P := fun n s₀ s₁ => ∃ H', Inv X pins σ H' s₁ ∧ Q (.bl true) H') hh hl hroom hg hgs hgo (fun v s₁ gs' hbare hv => ?_) (fun s₁ hp h' hk => ?_)))
    · intro hsz
      obtain ⟨c, H', rfl, I, hg1, hq1, hq2⟩ := hv
      by_cases hc : c = true
      · exact (hq2 hc s₁ rfl rfl I.bare).elim
      · refine wpAny_bind (wpAny_holding (wpAny_truthy_bool ?_))
        refine wpAny_bind (wpAny_letGo ?_)
        have hc : c = false := by simpa using hc
        subst hc
        simp only [Bool.false_eq_true, if_false]
        refine wpAny_bind (wpAny_rule (wpAny_pure ?_))
        exact hR false H' _ (Inv.regen I rfl rfl (allBare_setGen I.bare hbare)) (hq1 (by decide))
    · intro hsz
      obtain ⟨H', I, q⟩ := hp
      refine wpAny_bind (wpAny_rule (wpAny_pure ?_))
      exact hR true H' _ ((Inv.regen (s' := s₁.setGen g .finished) I rfl rfl (allBare_setGen I.bare rfl)).kept (t' := s₁.toks) hk) q
  | succ n ih =>
    intro s ⟨hg, hl, gs, hgs, hgo⟩
    have hgl : g < s.gens.size := (Array.getElem?_eq_some_iff.mp hgs).1
    refine codeAny_builtin F.entry_all_loop ?_
    rw [Around.under_plainId F.plain_all_loop _]
    show wpAny _ X.A.in1 (pyNext (.ref a) >>= _) _ _ s
    refine wpAny_bind (wpAny_gsz (n := g + 1) hgl (wpAny_pyNext_genexpQ (A := X.A.in1) (P := fun n s₀ s₁ => ∃ H', Inv X pins σ H' s₁ ∧ Q (.bl true) H') hh hl hroom hg hgs hgo (fun v s₁ gs' hbare hv => ?_) (fun s₁ hp h' hk => ?_)))
    · intro hsz
      obtain ⟨c, H', rfl, I, hg1, hq1, hq2⟩ := hv
      refine wpAny_bind (wpAny_holding (wpAny_truthy_bool ?_))
      refine wpAny_bind (wpAny_letGo ?_)
      have hsz1 : g < s₁.gens.size := by
        have q : (s₁.setGen g gs').gens.size = s₁.gens.size := setGen_size _ _ _
        omega
      cases c with
      | true =>
        simp only [if_true]
        refine wpAny_pure ⟨plainId_quiet F.plain_all_loop _, ih _ ⟨hg1, I.nolimit, gs', setGen_at hsz1, ?_⟩⟩
        exact hq2 rfl _ rfl rfl (allBare_setGen (allBare_setGen I.bare hbare) rfl)
      | false =>
        simp only [Bool.false_eq_true, if_false]
        refine wpAny_bind (wpAny_rule (wpAny_pure ?_))
        exact hR false H' _ (Inv.regen I rfl rfl (allBare_setGen I.bare hbare)) (hq1 (by decide))
    · intro hsz
      obtain ⟨H', I, q⟩ := hp
      refine wpAny_bind (wpAny_rule (wpAny_pure ?_))
      exact hR true H' _ ((Inv.regen (s' := s₁.setGen g .finished) I rfl rfl (allBare_setGen I.bare rfl)).kept (t' := s₁.toks) hk) q
theorem loop_any {Q : VK} {a : Addr} {g : Nat} {R' : Result → Shared → Prop} (hh : X.A.handled = none) (hroom : X.A.depth < recursionLimit) (hR : ∀ b H' s', Inv X pins σ H' s' → Q (.bl b) H' → R' (.ok (.ret (.bool b))) s') :
    ∀ (n : Nat) (s : Shared), gxRdy X pins σ Q false a g n s → codeAny (model X.prog X.w) X.A (.builtin "any.loop" ⟨[.ref a], []⟩) R' s := by
  intro n
  induction n with
  | zero =>
    intro s ⟨hg, hl, gs, hgs, hgo⟩
    have hgl : g < s.gens.size := (Array.getElem?_eq_some_iff.mp hgs).1
    refine codeAny_builtin F.entry_any_loop ?_
    rw [Around.under_plainId F.plain_any_loop _]
    show wpAny _ X.A.in1 (pyNext (.ref a) >>= _) _ _ s
    refine wpAny_bind (wpAny_gsz (n := g + 1) hgl (wpAny_pyNext_genexpQ (A := X.A.in1) (P := fun n s₀ s₁ => ∃ H', Inv X pins σ H' s₁ ∧ Q (.bl false) H') hh hl hroom hg hgs hgo (fun v s₁ gs' hbare hv => ?_) (fun s₁ hp h' hk => ?_)))
    · intro hsz
      obtain ⟨c, H', rfl, I, hg1, hq1, hq2⟩ := hv
      by_cases hc : c = false
      · exact (hq2 hc s₁ rfl rfl I.bare).elim
      · refine wpAny_bind (wpAny_holding (wpAny_truthy_bool ?_))
        refine wpAny_bind (wpAny_letGo ?_)
        have hc : c = true := by simpa using hc
        subst hc
        simp only [if_true]
        refine wpAny_bind (wpAny_rule (wpAny_pure ?_))
        exact hR true H' _ (Inv.regen I rfl rfl (allBare_setGen I.bare hbare)) (hq1 (by decide))
    · intro hsz
      obtain ⟨H', I, q⟩ := hp
      refine wpAny_bind (wpAny_rule (wpAny_pure ?_))
      exact hR false H' _ ((Inv.regen (s' := s₁.setGen g .finished) I rfl rfl (allBare_setGen I.bare rfl)).kept (t' := s₁.toks) hk) q
  | succ n ih =>
    intro s ⟨hg, hl, gs, hgs, hgo⟩
    have hgl : g < s.gens.size := (Array.getElem?_eq_some_iff.mp hgs).1
    refine codeAny_builtin F.entry_any_loop ?_
    rw [Around.under_plainId F.plain_any_loop _]
    show wpAny _ X.A.in1 (pyNext (.ref a) >>= _) _ _ s
    refine wpAny_bind (wpAny_gsz (n := g + 1) hgl (wpAny_pyNext_genexpQ (A := X.A.in1) (P := fun n s₀ s₁ => ∃ H', Inv X pins σ H' s₁ ∧ Q (.bl false) H') hh hl hroom hg hgs hgo (fun v s₁ gs' hbare hv => ?_) (fun s₁ hp h' hk => ?_)))
    · intro hsz
      obtain ⟨c, H', rfl, I, hg1, hq1, hq2⟩ := hv
      refine wpAny_bind (wpAny_holding (wpAny_truthy_bool ?_))
      refine wpAny_bind (wpAny_letGo ?_)
      have hsz1 : g < s₁.gens.size := by
        have q : (s₁.setGen g gs').gens.size = s₁.gens.size := setGen_size _ _ _
        omega
      cases c with
      | false =>
        simp only [Bool.false_eq_true, if_false]
        refine wpAny_pure ⟨plainId_quiet F.plain_any_loop _, ih _ ⟨hg1, I.nolimit, gs', setGen_at hsz1, ?_⟩⟩
        exact hq2 rfl _ rfl rfl (allBare_setGen (allBare_setGen I.bare hbare) rfl)
      | true =>
        simp only [if_true]
        refine wpAny_bind (wpAny_rule (wpAny_pure ?_))
        exact hR true H' _ (Inv.regen I rfl rfl (allBare_setGen I.bare hbare)) (hq1 (by decide))
    · intro hsz
      obtain ⟨H', I, q⟩ := hp
      refine wpAny_bind (wpAny_rule (wpAny_pure ?_))
      exact hR false H' _ ((Inv.regen (s' := s₁.setGen g .finished) I rfl rfl (allBare_setGen I.bare rfl)).kept (t' := s₁.toks) hk) q
end
end GX
end
/-! ## NG2 -/
section
set_option maxHeartbeats 4000000
/-! NG2: the generator expression's run, the expressions all(..), any(..). -/
namespace GX
open PySem PySem.Spec PyProof.Rows L2 GenW
/-- the around of the generator's code -/
abbrev gxA (A : Around) (elt target iter : Expr) (ifs : List Expr) (scope : Scope) (pos : Pos) (it : Value) (cenv : Env) : Around := A.in1.in1.over (.compLoop (.GeneratorExp elt [⟨target, iter, ifs, 0⟩] scope pos) 0 it .none cenv) []
section
variable {X : Cx} {pins : List (Addr × Obj)} {σ : L2.St} {H : Hp} {s : Shared}
theorem gx_seg {d : Bool} {Q : VK} {A : Around} {elt tg iter : Expr} {ifs : List Expr} {scope : Scope} {own : List (Str × Nat)} {pos : Pos} {g : TG} {tt : TT} {te : TE} {a : Addr} {gn : Nat} {it : Addr} {fp : List Addr} {tn : Nat → Heap → Prop} {J : It} {H3 : Hp} {s3 : Shared} {cenv : Env} {go : Obj} {W : Nat → Nat → Hp → Prop}
    (hc : X.calm = true) (T : Turn X.prog X.w X.K tg J fp it tn) (I3 : Inv X pins σ H3 s3) (f3 : ∀ b ∈ fp, FpOk X pins H3 b ∧ b < s3.heap.objs.size) (hgo : ∀ s' : Shared, s'.heap.get? a = some go → s'.heap.IsGen a gn) (hco : cenv.scope.isCoroutine = false)
    (hA : A.over (.compLoop (.GeneratorExp elt [⟨tg, iter, ifs, 0⟩] scope pos) 0 (.ref it) .none cenv) [] = A')
    (pg : PG (gx X A' s3 H3 cenv fp [(a, go)]) tg g) (pt : PTs (gx X A' s3 H3 cenv fp [(a, go)]) ifs tt) (pe : PE (gx X A' s3 H3 cenv fp [(a, go)]) elt te)
    (hap : ∀ b ∈ fp, b ≠ a)
    (turn : ∀ i m H, W i m H → (J.stop i H ∧ Q (.bl d) H) ∨ (J.go i H ∧ ∃ Nx : Hp → Prop, (∀ H', Nx H' → ∃ m', m' < m ∧ W (i + 1) m' H') ∧ ∀ x H', J.yld i H x H' → g x (wipe σ (own.map (·.2))) H' fun σ2 H2 => wipe σ2 (own.map (·.2)) = wipe σ (own.map (·.2)) ∧ tt σ2 H2 fun b H3 =>
      if b = true then te σ2 H3 fun y H4 => ∃ c : Bool, y = .bl c ∧ if c = d then Nx H4 else Q (.bl (!d)) H4 else Nx H3)) :
    ∀ (m n : Nat), m < n → ∀ (i : Nat) (s₀ s : Shared) (H5 : Hp), Inv (gx X A' s3 H3 cenv fp [(a, go)]) [] (wipe σ (own.map (·.2))) H5 s → tn i s.heap → (∀ b ∈ fp, H5 b = none) → W i m H5 →
      Seg (model X.prog X.w) A (gxR X pins σ Q d) (gxY X pins σ Q d a gn) n s₀ (.compLoop (.GeneratorExp elt [⟨tg, iter, ifs, 0⟩] scope pos) 0 (.ref it) .none cenv)
        ((model X.prog X.w).den (.compLoop (.GeneratorExp elt [⟨tg, iter, ifs, 0⟩] scope pos) 0 (.ref it) .none cenv)) [] s := by
  have back : ∀ {pl : List (Addr × Obj)} {σ' : L2.St} {H' : Hp} {s' : Shared}, Inv (gx X A' s3 H3 cenv fp [(a, go)]) pl σ' H' s' → Inv X pins σ H' s' := fun {pl σ' H' s'} I6 =>
    I3.call' (ch := fp) I6.os I6.base I6.hok I6.bare fun b hb => ⟨(f3 b hb).1.2.2.2.1, (f3 b hb).1.2.1, (f3 b hb).1.2.2.2.2.1, (f3 b hb).1.2.2.2.2.2⟩
  have stat : ∀ {σ' : L2.St} {H' : Hp} {s' : Shared}, Inv (gx X A' s3 H3 cenv fp [(a, go)]) [] σ' H' s' → (∀ b ∈ fp, H' b = none) → ∀ b ∈ fp, FpOk (gx X A' s3 H3 cenv fp [(a, go)]) [] H' b := fun {σ' H' s'} I' hn b hb =>
    ⟨hn b hb, (I'.ok.exf b hb).1, I'.ok.exfs b hb, .inl hb, fun x c e => (I'.ok.exf b hb).2 x c e, fun p hp => by
      have hp : p = (a, go) := by simpa using hp
      rw [hp]
      exact Ne.symm (hap b hb)⟩
  have goAt : ∀ {pl : List (Addr × Obj)} {σ' : L2.St} {H' : Hp} {s' : Shared}, Inv (gx X A' s3 H3 cenv fp [(a, go)]) pl σ' H' s' → s'.heap.IsGen a gn := fun {pl σ' H' s'} I6 => hgo s' (I6.pin (a, go) (List.mem_append_left _ List.mem_cons_self)).1
  intro m
  induction m using Nat.strongRecOn with
  | ind m ih =>
    intro n hmn i s₀ s H5 I5 st5 n5 w5
    show Seg _ A _ _ _ s₀ _ ((compTurn (.GeneratorExp elt [⟨tg, iter, ifs, 0⟩] scope pos) 0 (.ref it) .none cenv).onRaise (leaving cenv)) [] s
    rw [compTurn_gen, Sem.onRaise_eq_wrap]
    refine seg_bind_wrap (wpAny_standAt ?_)
    rcases turn i m H5 w5 with ⟨stop, qq⟩ | ⟨go', Nx, hNx, step⟩
    · refine seg_bind_wrap ?_
      rw [hA]
      have td := T.done (gx X A' s3 H3 cenv fp [(a, go)]) rfl rfl rfl hc i [] s _ H5 (fun _ _ => False) I5 (stat I5 n5) st5 stop
      refine thnF td fun r s6 ⟨hr, I6⟩ => ?_
      subst hr
      exact seg_end (.ok .next) ⟨rfl, H5, back I6, qq⟩
    · refine seg_bind_wrap ?_
      rw [hA]
      have ti := T.item (gx X A' s3 H3 cenv fp [(a, go)]) rfl rfl rfl hc i [] s _ H5 (fun _ _ => False) I5 (stat I5 n5) st5 go'
      refine thnF ti fun r s6 ⟨u, hr, h6⟩ => ?_
      subst hr
      refine seg_bind_wrap ?_
      rw [hA]
      refine thnF h6 fun _ s7 ⟨x, H7, I7, r7, y7, st7, n7⟩ => ?_
      have I7' := I7.pinned (stat I7 n7) (T.obj _ _ st7)
      refine seg_bind_wrap ?_
      rw [hA]
      refine thnF (pg.run _ s7 _ H7 x u _ I7' r7 (step x H7 y7)) fun _ s8 ⟨σ8, H8, I8, hw8, q8⟩ => ?_
      refine seg_bind_wrap ?_
      rw [hA]
      refine thnF (pt.run _ s8 σ8 H8 _ I8 q8) fun b s9 ⟨H9, I9, q9⟩ => ?_
      -- the turn's end
      have fin : ∀ {s' s'' : Shared} {H' : Hp}, Inv (gx X A' s3 H3 cenv fp [(a, go)]) ([] ++ pinsAt fp s7.heap) σ8 H' s' → Nx H' → s''.heap = s'.heap → s''.os = s'.os → AllBare s''.gens → ∀ n', m ≤ n' → ∀ s₀,
          Seg (model X.prog X.w) A (gxR X pins σ Q d) (gxY X pins σ Q d a gn) n' s₀ (.compLoop (.GeneratorExp elt [⟨tg, iter, ifs, 0⟩] scope pos) 0 (.ref it) .none cenv)
            ((model X.prog X.w).den (.compLoop (.GeneratorExp elt [⟨tg, iter, ifs, 0⟩] scope pos) 0 (.ref it) .none cenv)) [] s'' := fun {s' s'' H'} I' nx hh ho hb n' hn' s₀ => by
        obtain ⟨m', hm, w'⟩ := hNx H' nx
        have pin' : ∀ b ∈ fp, ∀ o, s7.heap.get? b = some o → s'.heap.get? b = some o ∧ H' b = none := fun b hb o e =>
          let z := I'.pin (b, o) (List.mem_append_right _ (List.mem_append_right _ (mem_pinsAt hb e)))
          ⟨z.1, z.2.1⟩
        have hl : (wipe σ (own.map (·.2))).length = σ8.length := by rw [← hw8, wipe_length]
        refine ih m' hm n' (by omega) (i + 1) s₀ s'' H' (Inv.regen ((I'.unpinned (pins := [])).weak hl (fun j v e => ?_)) hh ho hb) ?_ (fun b hb => ?_) w'
        · rw [← hw8] at e
          exact (wipe_some e).1
        · rw [hh]
          exact T.keep _ _ _ st7 fun b hb o e => (pin' b hb o e).1
        · obtain ⟨o, e, _⟩ := T.obj _ _ st7 b hb
          exact (pin' b hb o e).2
      cases b with
      | false =>
        simp only [Bool.false_eq_true, if_false] at q9 ⊢
        exact seg_again rfl (fin I9 q9 rfl rfl I9.bare n (by omega) s₀)
      | true =>
        simp only [if_true] at q9 ⊢
        have hy : ∀ v, yieldOut cenv v = yieldValue v := fun v => by simp only [yieldOut, hco, Bool.false_eq_true, if_false]
        simp only [hy]
        rw [Sem.bind_eq_wrap', Sem.bind_eq_wrap', Sem.wrap_wrap, Sem.wrap_wrap]
        refine seg_wrap ?_
        rw [hA]
        refine thnF (pe.run _ s9 σ8 H9 _ I9 q9) fun z s10 ⟨yv, H10, I10, r10, c, hyc, qc⟩ => ?_
        subst hyc
        obtain rfl : z = Value.bool c := r10
        refine seg_at ?_
        by_cases hcd : c = d
        · rw [if_pos hcd] at qc
          obtain ⟨m', hm, _⟩ := hNx H10 qc
          obtain ⟨n', rfl⟩ : ∃ k, n = k + 1 := ⟨n - 1, by omega⟩
          refine seg_yield rfl rfl rfl ⟨c, H10, rfl, back I10, goAt I10, fun h => absurd hcd h, fun _ s'' hh ho hb => ?_⟩
          exact seg_again rfl (fin I10 qc hh ho hb n' (by omega) s'')
        · rw [if_neg hcd] at qc
          obtain ⟨n', rfl⟩ : ∃ k, n = k + 1 := ⟨n - 1, by omega⟩
          refine seg_yield rfl rfl rfl ⟨c, H10, rfl, back I10, goAt I10, fun _ => qc, fun h => absurd h hcd⟩
theorem Room.gx {k : Nat} {A : Around} {elt tg iter : Expr} {ifs : List Expr} {scope : Scope} {pos : Pos} {it : Value} {cenv : Env} (r : Room (k + 1) A) : Room k (gxA A elt tg iter ifs scope pos it cenv) := by
  have h1 : (gxA A elt tg iter ifs scope pos it cenv).depth ≤ A.depth + 1 := Nat.le_of_eq rfl
  have h2 : (gxA A elt tg iter ifs scope pos it cenv).units ≤ A.units + 5 := Nat.le_of_eq rfl
  exact ⟨r.hd, by have := r.dp; omega, by have := r.un; omega⟩
/-- the expression's own: a generator, ready to be woken -/
theorem gx_make {d : Bool} {Q : VK} {elt tg iter : Expr} {ifs : List Expr} {scope : Scope} {own : List (Str × Nat)} {pos : Pos} {wi : TI} {g : TG} {tt : TT} {te : TE} {k : Nat} {c P : Addr} {Q' : Value → Shared → Prop}
    (hr : Room (k + 1) X.A) (TB : GxR.TabB X.base X.mg c P) (hcode : X.env.code = .ref c) (hc : X.calm = true) (hN : X.N.Nodup) (hi : PI X tg iter wi) (ok : BlkOk X.N X.env.scope scope own) (ncell : ∀ y ∈ scope.names, y.2 ≠ .cell) (hco : scope.isCoroutine = false)
    (h0 : scope.names.lookup (".0" : Str) = some NameKind.local)
    (hg : ∀ (A : Around) (s : Shared) (H : Hp) (C : Addr) (cl : List (Str × Addr)) (code : Value) (fp : List Addr) (pn : List (Addr × Obj)), Room k A → PG (gx X A s H (genEnv scope cl C code builtinsNs X.env) fp pn) tg g)
    (ht : ∀ (A : Around) (s : Shared) (H : Hp) (C : Addr) (cl : List (Str × Addr)) (code : Value) (fp : List Addr) (pn : List (Addr × Obj)), Room k A → PTs (gx X A s H (genEnv scope cl C code builtinsNs X.env) fp pn) ifs tt)
    (he : ∀ (A : Around) (s : Shared) (H : Hp) (C : Addr) (cl : List (Str × Addr)) (code : Value) (fp : List Addr) (pn : List (Addr × Obj)), Room k A → PE (gx X A s H (genEnv scope cl C code builtinsNs X.env) fp pn) elt te)
    (hs : ∀ x, genFold iter X.env x = pure x) (I : Inv X pins σ H s) (h : tGx d P wi g tt te (own.map (·.2)) σ H Q) (hQ : ∀ a gn n s', gxRdy X pins σ Q d a gn n s' → Q' (.ref a) s') :
    wpAny (model X.prog X.w) X.A (eval (.GeneratorExp elt [⟨tg, iter, ifs, 0⟩] scope pos) X.env) Q' X.xe s := by
  have hfree : ∀ y ∈ scope.names, y.2 = .free → ∃ c, X.env.cells.lookup y.1 = some c := fun y hy e => by
    rcases ok.free y hy e with k | k
    · exact I.ok.has _ (.inl k)
    · exact I.ok.has _ (.inr k)
  refine wpAny_GeneratorExp_make hco (closure_ok hfree) ncell h0 ok.kind (by have := hr.dp; omega) (thn (hi.run pins s σ H _ I h) fun xv s1 hx => thn hx fun itv s2 h2 => ?_) hs
  obtain ⟨it, fp, tn, J, H2, e, I2, T, st2, f2, ⟨ps, hP, htr⟩, q⟩ := h2
  subst e
  refine ⟨I2.nolimit, ?_⟩
  have hPs : s2.heap.get? P = some { cls := .none, data := .fields ps } := I2.hok P _ hP
  have cd : PySem.W.CodeHd s2.heap c P := TB.code.keeps fun b u e => I2.bk b u e
  have fpP : ∀ b ∈ fp, b ≠ P := fun b hb z => by
    have := (f2 b hb).1
    rw [z, hP] at this
    cases this
  have cont : ∀ (code : Value) (s3 : Shared) (H3 : Hp), Inv X pins σ H3 s3 → GxR.Tabbed P H2 H3 → tn 0 s3.heap → (∀ b ∈ fp, FpOk X pins H3 b) →
      wpAny (model X.prog X.w) X.A (builtinsFor X.env.globals X.env.builtins) (fun bi s₄ =>
        ∀ h', h'.Ns s₄.heap.objs.size (fun y => if y = ".0" then some (.ref it) else none) → Heap.SameBut s₄.heap.objs.size (s₄.heap.push { cls := .type "frame", data := .dict #[] }) h' →
          Q' (.ref h'.objs.size) { s₄ with
            gens := s₄.gens.push (.fresh (.compStart (.GeneratorExp elt [⟨tg, iter, ifs, 0⟩] scope pos) 0 (.ref it) .none (genEnv scope (cloFrom X.env.cells scope.names []) s₄.heap.objs.size code bi X.env))),
            toks := s₄.toks + 1 + 1 + 1,
            heap := h'.push { cls := .type "generator", data := .fields #[.int s₄.gens.size 0, .str "<genexpr>" (s₄.toks + 1), .str (X.env.qual ++ "<genexpr>") (s₄.toks + 1 + 1)] } }) X.xe s3 := by
    intro code s3 H3 I3 hT st3 f3
    obtain ⟨bm, ob, e1, e2, e3, e4, e5, e6, e7, e8⟩ := TB.bm
    refine wpAny_builtinsFor (m := X.mg) (by rw [I3.ok.glob]; exact I3.mod.glob.keeps I3.bk) e1 e2 (I3.bk _ _ e5) e6 e7 e8 ?_
    intro h' hn' hs'
    have hsz : h'.objs.size = s3.heap.objs.size + 1 := by rw [hs'.1, Heap.size_push]
    have keep' : ∀ b o, s3.heap.get? b = some o → h'.get? b = some o := fun b o e => hs'.extBut b o (Nat.ne_of_lt (Heap.lt_size e)) (Heap.get?_push_of_some _ e)
    obtain ⟨W, ⟨m0, w0⟩, turn⟩ := q H3 hT
    generalize hgo : ({ cls := .type "generator", data := .fields #[.int s3.gens.size 0, .str "<genexpr>" (s3.toks + 1), .str (X.env.qual ++ "<genexpr>") (s3.toks + 1 + 1)] } : Obj) = go
    have keep5 : ∀ b o, s3.heap.get? b = some o → (h'.push go).get? b = some o := fun b o e => Heap.get?_push_of_some _ (keep' b o e)
    have gAt : (h'.push go).get? h'.objs.size = some go := by rw [← hgo]; exact Heap.get?_push_size _ rfl
    have isG : ∀ s' : Shared, s'.heap.get? h'.objs.size = some go → s'.heap.IsGen h'.objs.size s3.gens.size := fun s' e => by
      rw [← hgo] at e
      exact ⟨_, _, _, e, rfl, rfl, rfl⟩
    have lt3 : ∀ b ∈ fp, b < s3.heap.objs.size := fun b hb => by
      obtain ⟨o, e, _⟩ := T.obj _ _ st3 b hb
      exact Heap.lt_size e
    have f3' : ∀ b ∈ fp, FpOk X pins H3 b ∧ b < s3.heap.objs.size := fun b hb => ⟨f3 b hb, lt3 b hb⟩
    have bare5 : ∀ cc : Code, AllBare (s3.gens.push (.fresh cc)) := fun cc => I3.bare.push rfl
    refine hQ h'.objs.size s3.gens.size (m0 + 1) _ ⟨isG _ gAt, I3.nolimit.keeps keep5, _, Array.getElem?_push_size .., rfl, ?_⟩
    -- begun
    generalize hcv : genEnv scope (cloFrom X.env.cells scope.names []) s3.heap.objs.size code builtinsNs X.env = cenv
    have hAf : (gxA X.A elt tg iter ifs scope pos (.ref it) cenv).frames = some (cenv :: X.stack) := by
      show pushEnvs [cenv] (pushEnvs [] X.A.frames) = _
      rw [I3.ok.frames]
      rfl
    have start : ∀ s5 : Shared, s5.heap = h'.push go → s5.os = s3.os → AllBare s5.gens → Inv (gx X (gxA X.A elt tg iter ifs scope pos (.ref it) cenv) s3 H3 cenv fp [(h'.objs.size, go)]) [] (wipe σ (own.map (·.2))) H3 s5 := fun s5 hh ho hb => by
      have J := gx_start (A := gxA X.A elt tg iter ifs scope pos (.ref it) cenv) (code := code) (h5 := h'.push go) (g5 := s5.gens) (t5 := s5.toks) (a := h'.objs.size) (go := go) I3 ok hN ncell f3' (by rw [hcv]; exact hAf) (fun _ => hr.hd) (hn'.push _) keep5 (by omega) gAt (by rw [← hgo]; intro v z; cases z) hb
      rw [hcv] at J
      exact Inv.regen J hh ho hb
    have hgx := Room.gx (elt := elt) (tg := tg) (iter := iter) (ifs := ifs) (scope := scope) (pos := pos) (it := .ref it) (cenv := cenv) hr
    have pg := hg (gxA X.A elt tg iter ifs scope pos (.ref it) cenv) s3 H3 s3.heap.objs.size (cloFrom X.env.cells scope.names []) code fp [(h'.objs.size, go)] hgx
    have pt := ht (gxA X.A elt tg iter ifs scope pos (.ref it) cenv) s3 H3 s3.heap.objs.size (cloFrom X.env.cells scope.names []) code fp [(h'.objs.size, go)] hgx
    have pe := he (gxA X.A elt tg iter ifs scope pos (.ref it) cenv) s3 H3 s3.heap.objs.size (cloFrom X.env.cells scope.names []) code fp [(h'.objs.size, go)] hgx
    rw [hcv] at pg pt pe
    have loop : ∀ (s₀ s5 : Shared), s5.heap = h'.push go → s5.os = s3.os → AllBare s5.gens → Seg (model X.prog X.w) X.A.in1.in1 (gxR X pins σ Q d) (gxY X pins σ Q d h'.objs.size s3.gens.size) (m0 + 1) s₀ (.compLoop (.GeneratorExp elt [⟨tg, iter, ifs, 0⟩] scope pos) 0 (.ref it) .none cenv)
        ((model X.prog X.w).den (.compLoop (.GeneratorExp elt [⟨tg, iter, ifs, 0⟩] scope pos) 0 (.ref it) .none cenv)) [] s5 := fun s₀ s5 hh ho hb =>
      gx_seg (own := own) (W := W) hc T I3 f3' isG (by rw [← hcv]; exact hco) rfl pg pt pe (fun b hb => Nat.ne_of_lt (Nat.lt_of_lt_of_le (lt3 b hb) (by omega))) turn m0 (m0 + 1) (Nat.lt_succ_self _) 0 s₀ s5 H3 (start s5 hh ho hb) (by rw [hh]; exact T.keep _ _ _ st3 fun b _ o e => keep5 b o e) (fun b hb => (f3 b hb).1) w0
    have bareR : ∀ cc : Code, AllBare (({ s3 with gens := s3.gens.push (.fresh cc), toks := s3.toks + 1 + 1 + 1, heap := h'.push go } : Shared).setGen s3.gens.size .running).gens := fun cc => allBare_setGen (bare5 cc) rfl
    show Seg _ X.A.in1.in1 _ _ _ _ _ ((compStart (.GeneratorExp elt [⟨tg, iter, ifs, 0⟩] scope pos) 0 (.ref it) .none cenv).onRaise (leaving cenv)) [] _
    unfold compStart
    rw [Sem.onRaise_eq_wrap]
    show Seg _ X.A.in1.in1 _ _ _ _ _ ((ask >>= _).wrap _ _ _ _) [] _
    refine seg_bind_wrap (wpAny_askSetting ?_)
    have stS : tn 0 (h'.push go) := T.keep _ _ _ st3 fun b _ o e => keep5 b o e
    split
    · exact seg_again rfl (loop _ _ rfl rfl (bareR _))
    · first
        | exact seg_bind_wrap (wpAny_rule (seg_bind_wrap (wpAny_standAt (seg_bind_wrap (T.self _ 0 _ _ _ stS (seg_again rfl (loop _ _ rfl rfl (bareR _))))))))
        | (refine seg_bind_wrap (wpAny_rule ?_); show Seg _ X.A.in1.in1 _ _ _ _ _ ((standAt iter.pos >>= _).wrap _ _ _ _) [] _; exact seg_bind_wrap (wpAny_standAt (seg_bind_wrap (T.self _ 0 _ _ _ stS (seg_again rfl (loop _ _ rfl rfl (bareR _)))))))
  cases hf : codeAmong pos ps.toList with
  | none =>
    refine wpAny_genexprCodeX hcode (cd.code hPs htr) (cd.tab hPs) hf fun c' h' tk hx hge hlt hco' _ htab' _ => ?_
    obtain ⟨o1, vs, f1, tf, fl, tg', inF, tx, tt', op, _, _, _, _, _, _, _, _, _, htr', _⟩ := hco'
    have J3 := GxR.inv_tab (more := #[rawInt pos.line, rawInt pos.col, .ref c']) (h' := h') (g' := s2.gens) (d' := s2.drawn) (t' := tk) I2 hP (fun b u hb e => hx b u hb e) htab'.2 I2.bare
    refine cont _ _ _ J3 ⟨⟨_, upd_same, htr'⟩, fun b hb => upd_ne hb⟩ (T.keep _ _ _ st2 fun b hb o e => hx b o (fpP b hb) e) fun b hb => ⟨by rw [upd_ne (fpP b hb)]; exact (f2 b hb).1, (f2 b hb).2⟩
  | some cv =>
    refine wpAny_genexprCode_hit hcode (cd.code hPs htr) hf ?_
    exact cont cv s2 H2 I2 ⟨⟨ps, hP, htr⟩, fun _ _ => rfl⟩ st2 f2
variable {nm : Str} {p gpos : Pos}
/-- all(elt for target in iter if ..) -/
theorem pe_allG {elt tg iter : Expr} {ifs : List Expr} {scope : Scope} {own : List (Str × Nat)} {pos : Pos} {wi : TI} {g : TG} {tt : TT} {te : TE} {k : Nat} {c P : Addr}
    (hr : Room (k + 1) X.A) (hgl : Gl X "all") (hm : X.mg "all" = none) (hb : bootBuiltins "all" = some (.builtin "all")) (TB : GxR.TabB X.base X.mg c P) (hcode : X.env.code = .ref c) (hc : X.calm = true) (hN : X.N.Nodup) (hi : PI X tg iter wi) (ok : BlkOk X.N X.env.scope scope own) (ncell : ∀ y ∈ scope.names, y.2 ≠ .cell) (hco : scope.isCoroutine = false)
    (h0 : scope.names.lookup (".0" : Str) = some NameKind.local)
    (hg : ∀ (A : Around) (s : Shared) (H : Hp) (C : Addr) (cl : List (Str × Addr)) (code : Value) (fp : List Addr) (pn : List (Addr × Obj)), Room k A → PG (gx X A s H (genEnv scope cl C code builtinsNs X.env) fp pn) tg g)
    (ht : ∀ (A : Around) (s : Shared) (H : Hp) (C : Addr) (cl : List (Str × Addr)) (code : Value) (fp : List Addr) (pn : List (Addr × Obj)), Room k A → PTs (gx X A s H (genEnv scope cl C code builtinsNs X.env) fp pn) ifs tt)
    (he : ∀ (A : Around) (s : Shared) (H : Hp) (C : Addr) (cl : List (Str × Addr)) (code : Value) (fp : List Addr) (pn : List (Addr × Obj)), Room k A → PE (gx X A s H (genEnv scope cl C code builtinsNs X.env) fp pn) elt te)
    (hs : ∀ x, genFold iter X.env x = pure x := by intro _; rfl)
    (hst : starEach [.GeneratorExp elt [⟨tg, iter, ifs, 0⟩] scope gpos] X.env = (false, eval (.GeneratorExp elt [⟨tg, iter, ifs, 0⟩] scope gpos) X.env) :: starEach [] X.env := by rfl) :
    PE X (.Call (.Name "all" p) [.GeneratorExp elt [⟨tg, iter, ifs, 0⟩] scope gpos] [] pos) (tGx true P wi g tt te (own.map (·.2))) := by
  refine ⟨fun pins s σ H Q I h => ?_⟩
  refine wpAny_Call_Name_kw (ld_blt I hgl hm hb ?_)
  refine PyProof.Rows.callWith_builtin1 ?_ hst (by rfl)
  rw [hst]
  show wpAny _ _ (spliced ((false, eval (.GeneratorExp elt [⟨tg, iter, ifs, 0⟩] scope gpos) X.env) :: backTo pos (starEach [] X.env))) _ _ s
  refine Calls.spliced_cons (gx_make (d := true) (Q := Q) hr TB hcode hc hN hi ok ncell hco h0 hg ht he hs I h fun a gn n s' hG => ?_)
  refine Calls.spliced_nil ?_
  refine call_function_tree F.kind_all F.plain_all F.entry_all (F.args_all1 _) ?_
  unfold Builtin.«all»
  refine wpAny_bind (m := oneArg "all" _) (wpAny_pure ?_)
  refine wpAny_bind (wpAny_pyIter_gen hG.1 ?_)
  exact wpAny_pure ⟨plainId_quiet F.plain_all_loop _, loop_all hr.hd (by have := hr.dp; omega) (fun b H' s' I' q => ⟨.bl b, H', I', rfl, q⟩) n s' hG⟩
theorem pe_anyG {elt tg iter : Expr} {ifs : List Expr} {scope : Scope} {own : List (Str × Nat)} {pos : Pos} {wi : TI} {g : TG} {tt : TT} {te : TE} {k : Nat} {c P : Addr}
    (hr : Room (k + 1) X.A) (hgl : Gl X "any") (hm : X.mg "any" = none) (TB : GxR.TabB X.base X.mg c P) (hcode : X.env.code = .ref c) (hc : X.calm = true) (hN : X.N.Nodup) (hi : PI X tg iter wi) (ok : BlkOk X.N X.env.scope scope own) (ncell : ∀ y ∈ scope.names, y.2 ≠ .cell) (hco : scope.isCoroutine = false)
    (h0 : scope.names.lookup (".0" : Str) = some NameKind.local)
    (hg : ∀ (A : Around) (s : Shared) (H : Hp) (C : Addr) (cl : List (Str × Addr)) (code : Value) (fp : List Addr) (pn : List (Addr × Obj)), Room k A → PG (gx X A s H (genEnv scope cl C code builtinsNs X.env) fp pn) tg g)
    (ht : ∀ (A : Around) (s : Shared) (H : Hp) (C : Addr) (cl : List (Str × Addr)) (code : Value) (fp : List Addr) (pn : List (Addr × Obj)), Room k A → PTs (gx X A s H (genEnv scope cl C code builtinsNs X.env) fp pn) ifs tt)
    (he : ∀ (A : Around) (s : Shared) (H : Hp) (C : Addr) (cl : List (Str × Addr)) (code : Value) (fp : List Addr) (pn : List (Addr × Obj)), Room k A → PE (gx X A s H (genEnv scope cl C code builtinsNs X.env) fp pn) elt te)
    (hs : ∀ x, genFold iter X.env x = pure x := by intro _; rfl)
    (hst : starEach [.GeneratorExp elt [⟨tg, iter, ifs, 0⟩] scope gpos] X.env = (false, eval (.GeneratorExp elt [⟨tg, iter, ifs, 0⟩] scope gpos) X.env) :: starEach [] X.env := by rfl) :
    PE X (.Call (.Name "any" p) [.GeneratorExp elt [⟨tg, iter, ifs, 0⟩] scope gpos] [] pos) (tGx false P wi g tt te (own.map (·.2))) := by
  refine ⟨fun pins s σ H Q I h => ?_⟩
  refine wpAny_Call_Name_kw (ld_blt I hgl hm boot_any ?_)
  refine PyProof.Rows.callWith_builtin1 ?_ hst (by rfl)
  rw [hst]
  show wpAny _ _ (spliced ((false, eval (.GeneratorExp elt [⟨tg, iter, ifs, 0⟩] scope gpos) X.env) :: backTo pos (starEach [] X.env))) _ _ s
  refine Calls.spliced_cons (gx_make (d := false) (Q := Q) hr TB hcode hc hN hi ok ncell hco h0 hg ht he hs I h fun a gn n s' hG => ?_)
  refine Calls.spliced_nil ?_
  refine call_function_tree F.kind_any F.plain_any F.entry_any (F.args_any1 _) ?_
  unfold Builtin.«any»
  refine wpAny_bind (m := oneArg "any" _) (wpAny_pure ?_)
  refine wpAny_bind (wpAny_pyIter_gen hG.1 ?_)
  exact wpAny_pure ⟨plainId_quiet F.plain_any_loop _, loop_any hr.hd (by have := hr.dp; omega) (fun b H' s' I' q => ⟨.bl b, H', I', rfl, q⟩) n s' hG⟩
end
end GX
end
/-! ## ABG -/
section
/-! ABG: generator expressions in any, all; defs that hold such. -/
namespace AB
open PySem PySem.Spec PyProof.Rows L2
section
variable {Γ : Wd} {K : PySem.W.Frag} {β : Option Addr} {Hb F F' H H' : Hp} {ow ow' : Ow} {E : List (V × AV)} {σ : L2.St} {ρ : Rho} {v : V} {r : AV} {te : TE} {tt : TT} {k : AV → Rho → Prop} {g : TG}
/-- a table has grown -/
theorem Ok.tabbed {P : Addr} (hP : P ∈ Γ.T) (h : GxR.Tabbed P H H') (x : Ok Γ K β Hb E σ ρ H) : Ok Γ K β Hb E σ ρ H' := by
  obtain ⟨F, ow, x⟩ := x
  obtain ⟨⟨ps', h1, h2⟩, h3⟩ := h
  obtain ⟨⟨j, hj⟩, ps, hps, hts⟩ := x.bag.2 P hP
  have nP : ∀ a o, ow a = some o → o ≠ (2, j) → a ≠ P := fun a o e n z => by
    rw [z, hj] at e
    exact n (Option.some.inj e).symm
  refine ⟨F, ow, x.base, fun a u e => ?_, fun a o e => ?_, x.stk.keep (Same.refl F) (fun m _ a e => ⟨e, h3 a (nP a _ e (fun z => by cases z))⟩) (.inr rfl), x.len, fun i r e => (x.slot i r e).keep (Same.refl F) (fun a e => ⟨e, h3 a (nP a _ e (fun z => by cases z))⟩) rfl, ⟨?_, fun P' hP' => ?_⟩⟩
  · have ha : a ≠ P := fun z => by rw [z, (x.own P _ hj).1] at e; cases e
    rw [h3 a ha]
    exact x.same a u e
  · by_cases ha : a = P
    · subst ha
      exact ⟨(x.own a o e).1, by rw [h1]; trivial⟩
    · rw [h3 a ha]
      exact x.own a o e
  · have hb := x.bag.1
    cases β with
    | none => trivial
    | some b =>
      obtain ⟨g, c, l, n, gs, cs, o1, o2, o3, q1, q2, q3, q4, q5⟩ := hb
      have nb : ∀ {a : Addr} {xs : List V}, H a = some (.lst xs) → a ≠ P := fun {a xs} e z => by rw [z, hps] at e; cases e
      exact ⟨g, c, l, n, gs, cs, o1, o2, o3, (h3 _ (nb q1)).trans q1, (h3 _ (nb q2)).trans q2, (h3 _ (nb q3)).trans q3, q4, q5⟩
  · by_cases e : P' = P
    · subst e
      exact ⟨⟨j, hj⟩, ps', h1, h2⟩
    · obtain ⟨q1, ps2, q2, q3⟩ := x.bag.2 P' hP'
      exact ⟨q1, ps2, (h3 P' e).trans q2, q3⟩
theorem Ok.tabG {P : Addr} (hP : P ∈ Γ.T) (x : Ok Γ K β Hb E σ ρ H) : GxR.TabG H P := by
  obtain ⟨F, ow, x⟩ := x
  obtain ⟨_, ps, hps, hts⟩ := x.bag.2 P hP
  exact ⟨ps, hps, hts⟩
theorem gx_it {J : It} {n : Nat} {G : Hp → Prop} {Y : Nat → Hp → V → Hp → Prop} (w : Walk J n G Y) {g : TG} {tt : TT} {te : TE} {vs : List Nat} {σ : L2.St} {H2 : Hp} {d : Bool} {Q : VK} (Pv : Nat → Hp → Prop) (h0 : Pv 0 H2) (hG : ∀ i H, i ≤ n → Pv i H → G H)
    (hs : ∀ i x H H', i < n → Pv i H → Y i H x H' → g x (wipe σ vs) H' fun σ2 H2 => wipe σ2 vs = wipe σ vs ∧ tt σ2 H2 fun b H3 =>
      if b = true then te σ2 H3 fun y H4 => ∃ c : Bool, y = .bl c ∧ if c = d then Pv (i + 1) H4 else Q (.bl (!d)) H4 else Pv (i + 1) H3) (hd : ∀ H, Pv n H → Q (.bl d) H) :
    ∃ W : Nat → Nat → Hp → Prop, (∃ m, W 0 m H2) ∧ ∀ i m H, W i m H →
      (J.stop i H ∧ Q (.bl d) H) ∨ (J.go i H ∧ ∃ Nx : Hp → Prop, (∀ H', Nx H' → ∃ m', m' < m ∧ W (i + 1) m' H') ∧ ∀ x H', J.yld i H x H' → g x (wipe σ vs) H' fun σ2 H2 => wipe σ2 vs = wipe σ vs ∧ tt σ2 H2 fun b H3 =>
        if b = true then te σ2 H3 fun y H4 => ∃ c : Bool, y = .bl c ∧ if c = d then Nx H4 else Q (.bl (!d)) H4 else Nx H3) := by
  refine ⟨fun i m H => m = n - i ∧ i ≤ n ∧ Pv i H, ⟨n, by simp, Nat.zero_le _, h0⟩, ?_⟩
  rintro i m H ⟨rfl, hi, p⟩
  have q := hG i H hi p
  by_cases hlt : i < n
  · refine .inr ⟨w.goes i H hlt q, Pv (i + 1), fun H' p' => ⟨n - (i + 1), by omega, rfl, hlt, p'⟩, fun x H' y => hs i x H H' hlt p (w.yields i H x H' hlt q y)⟩
  · have e : i = n := by omega
    subst e
    exact .inl ⟨w.stops H q, hd H p⟩
/-- any(..), all(..) of a generator expression -/
theorem we_gx {d : Bool} {P : Addr} {wi : TI} {vs : List Nat} (hP : P ∈ Γ.T) (hg : GOwn g vs) (h : WI Γ K β wi ρ fun its ρ1 => Unused ρ1 vs ∧ ∃ I : Nat → Prop, I 0 ∧
      (∀ i x, its[i]? = some x → I i → WG Γ K β g (.d x) ρ1 fun ρ2 => Weak ρ2 ρ1 ∧ WT Γ K β tt ρ2 fun b ρ3 => ρ3 = ρ2 ∧ ((b = true → WE Γ K β te ρ2 fun r ρ4 => ρ4 = ρ2 ∧ ∃ c : Bool, r = .d (.bool c) ∧ (c = d → I (i + 1)) ∧ (c ≠ d → k (.d (.bool (!d))) ρ1)) ∧ (b = false → I (i + 1)))) ∧
      (I its.length → k (.d (.bool d)) ρ1)) : WE Γ K β (GX.tGx d P wi g tt te vs) ρ k := fun Hb E σ H x Q f => by
  obtain ⟨_, _, x'⟩ := id x
  have al : AlOk σ E := x'.stk.alOk
  clear x'
  refine h Hb (E.map hid) σ H x.hide _ fun J its es ρ1 H1 h1 S x1 => ?_
  refine ⟨x1.tabG hP, fun H2 hT => ?_⟩
  obtain ⟨hv, I, i0, turn, fin⟩ := h1
  obtain ⟨G, Y, w, hG, hY⟩ := S.walk
  have hne : NoAl (es ++ E.map hid) := S.noal.app (hid_noal E)
  have start : Ok Γ K β Hb (es ++ E.map hid) (L2.wipe σ vs) ρ1 H2 := (x1.tabbed hP hT).wipe hv hne
  have give : ∀ (b : Bool) (H' : Hp), k (.d (.bool b)) ρ1 → Ok Γ K β Hb (es ++ E.map hid) (L2.wipe σ vs) ρ1 H' → Q (.bl b) H' := fun b H' hk x2 => by
    have x3 := x2.unwipe hv hne
    obtain ⟨F, ow, x4⟩ := x3
    have x5 : Ok Γ K β Hb ((V.bl b, AV.d (.bool b)) :: (es ++ E.map hid)) σ ρ1 H' := okD x4 (.bl b)
    exact f _ _ ρ1 H' hk ((Ok.dropMid (E := E.map hid) (es := es) (fun _ z => by cases z) x5).unhideTop al)
  refine gx_it w (fun i H' => I i ∧ Ok Γ K β Hb (es ++ E.map hid) (L2.wipe σ vs) ρ1 H') ⟨i0, start⟩ (fun i H' _ ⟨_, x2⟩ => hG Hb _ [] _ ρ1 H' x2) (fun i y H' H2 hi ⟨q, x2⟩ hy => ?_) fun H' ⟨q, x2⟩ => give d H' (fin q) x2
  obtain ⟨dt, ed, x3⟩ := hY i Hb _ [] _ ρ1 H' y H2 hi x2 hy
  refine hg _ _ _ _ (turn i dt ed q Hb _ _ H2 y hne x3 _ fun σ2 ρ2 H3 q2 x4 hw => ?_)
  obtain ⟨hw2, q2⟩ := q2
  refine ⟨by rw [hw, wipe_twice], ?_⟩
  refine q2 Hb _ σ2 H3 x4 _ fun b ρ3 H4 q3 x5 => ?_
  obtain ⟨rfl, qt, qf⟩ := q3
  have back : ∀ {H5 : Hp}, Ok Γ K β Hb (es ++ E.map hid) σ2 ρ3 H5 → Ok Γ K β Hb (es ++ E.map hid) (L2.wipe σ vs) ρ1 H5 := fun {H5} x6 => by
    have x7 := (x6.weak hw2).wipe hv hne
    rw [hw, wipe_twice] at x7
    exact x7
  cases b with
  | true =>
    refine iteT ?_
    refine qt rfl Hb _ σ2 H4 x5 _ fun z r ρ4 H5 q4 x6 => ?_
    obtain ⟨rfl, c, rfl, q5, q6⟩ := q4
    obtain ⟨F, ow, x6⟩ := x6
    have hz : Dp K F z (.bool c) := x6.stk.1
    cases hz
    refine ⟨c, rfl, ?_⟩
    have x7 := back (Ok.pop ⟨F, ow, x6⟩)
    by_cases hc : c = d
    · rw [if_pos hc]
      exact ⟨q5 hc, x7⟩
    · rw [if_neg hc]
      exact give (!d) H5 (q6 hc) x7
  | false => exact iteF ⟨qf rfl, back x5⟩
variable {Pg : Program} {w : World} {mg : Str → Option Value} {base : Heap}
/-- FunD.ok, the def's code object told -/
theorem okC {CX : CXT} {N ps : List Str} {k : Nat} {sp : L2.Sp} {x qual : Str} {params : Arguments} {body : List Stmt} {scope : Scope} {dvs : List V} {kws : List (Str × V)} {f : Addr} {fd : FuncData} {at_ : Str × Option Str} (hf : f = He.fAd K at_) (F : FunD K x qual params body scope dvs kws f fd) (S : FnScope N ps scope) (len : ∀ vs H Q E, sp vs H Q E → vs.length = ps.length)
    (hbody : ∀ (A : Around) (outer : List Env) (s : Shared) (H : Hp) (vs : List V) (Q : VK) (E : XK), Room k (A.deeper (envOfC qual scope s.heap.objs.size f (.ref (He.codeOf K at_)))) → sp vs H Q E →
      ∃ t, PSs (cxOf CX Pg w K mg base N qual scope f (.ref (He.codeOf K at_)) A outer s H E) body t ∧ t { nx := fun _ H' => Q .non H', rt := Q } (L2.start N vs) H) : FnOk Pg w K mg base CX (k + 1) f fd ps sp := by
  obtain ⟨oc, od, dV, kV, doc, pm, an, cdv, ct, osl, rfl, lk, hcd, _, _⟩ := F.ex
  obtain ⟨c, rfl⟩ := He.codeIn_ref hcd
  subst hf
  have e := He.codeOf_eq (p := at_) (c := c) lk rfl
  rw [e] at hbody
  exact fn_of lk hcd S len fun A outer s H vs Q E hr hsp => hbody A outer s H vs Q E hr hsp
theorem fnAC {x qual : Str} {params : Arguments} {body : List Stmt} {scope : Scope} {dvs : List V} {kws : List (Str × V)} {f : Addr} {fd : FuncData} {N ps : List Str} {kk : Nat} {t : TS} {A : DS} {at_ : Str × Option Str} (hf : f = He.fAd K at_) (D : FunD K x qual params body scope dvs kws f fd) (S : FnScope N ps scope)
    (hA : ∀ β args k, A β args k → args.length = ps.length ∧ WS Γ K β t (args ++ List.replicate (N.length - args.length) .un) { nx := fun _ => k (.d .none), rt := k })
    (hbody : ∀ (Ar : Around) (outer : List Env) (s : Shared) (H : Hp) (E : XK), Room kk (Ar.deeper (envOfC qual scope s.heap.objs.size f (.ref (He.codeOf K at_)))) → PSs (cxOf CX0 Pg w K mg base N qual scope f (.ref (He.codeOf K at_)) Ar outer s H E) body t) :
    FnOk Pg w K mg base CX0 (kk + 1) f fd ps (spA Γ K A) := by
  refine okC hf D S (fun vs H Q E h => ?_) fun Ar outer s H vs Q E hr h => ⟨t, hbody Ar outer s H E hr, ?_⟩
  · obtain ⟨β, Hb, args, k, e, _, a, _⟩ := h
    rw [e]
    exact (hA β args k a).1
  · obtain ⟨β, Hb, args, k, e, hf, a, x, f⟩ := h
    obtain ⟨hl, hw⟩ := hA β args k a
    have hN : vs.length ≤ N.length := by
      rw [e, hl]
      have := congrArg List.length S.pre
      rw [List.length_take] at this
      omega
    refine hw Hb [] _ H (fun e he => by cases he) (x.begin e hN hf) _ (fun σ' ρ' H' q x' => ?_) (fun v r E' H' q x' => ?_) (fun _ _ _ q _ => q) (fun _ _ _ q _ => q)
    · have x0 := x'.noslots (fun e he => by cases he)
      obtain ⟨F, ow, x0⟩ := x0
      exact f _ _ H' q (okD x0 .non)
    · have nr : ∀ j, r ≠ .al j := fun j z => by
        subst z
        obtain ⟨F, ow, x'⟩ := x'
        have h : ([] : L2.St)[j]? = some (some v) := x'.stk.1
        simp at h
      refine f v r H' q ?_
      have x2 : Ok Γ K β Hb ((v, r) :: (E' ++ [])) [] [] H' := by rw [List.append_nil]; exact x'
      exact Ok.dropMid nr x2
end
end AB
end
/-! ## T74 -/
section
set_option maxHeartbeats 4000000
/-! the readings of the defs (printed by gen.py) -/
namespace K74
open PySem PySem.Spec PyProof.Rows L2 He AB
def top (i : Nat) : Stmt := PySem.Challenge.pw_blockedshots_k74_whole_half_lists.main.body.getD i (.Pass ⟨0, 0, 0, 0⟩)
/-- what the module holds -/
structure Md (K : PySem.W.Frag) (mg : Str → Option Value) : Prop where
  n_abs : mg ("abs" : Str) = none
  n_all : mg ("all" : Str) = none
  n_bool : mg ("bool" : Str) = none
  n_enumerate : mg ("enumerate" : Str) = none
  n_int : mg ("int" : Str) = none
  n_isinstance : mg ("isinstance" : Str) = none
  n_len : mg ("len" : Str) = none
  n_list : mg ("list" : Str) = none
  n_range : mg ("range" : Str) = none
  n_sorted : mg ("sorted" : Str) = none
  n_str : mg ("str" : Str) = none
  n_sum : mg ("sum" : Str) = none
  n_tuple : mg ("tuple" : Str) = none
  b_gcd : mg ("gcd" : Str) = some (.builtin "math.gcd")
  c_ZERO : GCn K mg ("ZERO" : Str) (.tuple [.int 0, .int 1])
  c_HALF_contraries : GCn K mg ("HALF_contraries" : Str) (.tuple [.int 1, .int 2])
  c_HALF_halfturns : GCn K mg ("HALF_halfturns" : Str) (.tuple [.int 1, .int 2])
  c_NONE : GCn K mg ("NONE" : Str) (.tuple [.int 0, .int 1])
abbrev st_is_number : Stmt := top 2
abbrev sc_is_number : Scope := defScope st_is_number
abbrev N_is_number : List Str := [("value" : Str)]
abbrev P_is_number : List Str := [("value" : Str)]
theorem S_is_number : FnScope N_is_number P_is_number sc_is_number := ⟨rfl, rfl, rfl, by decide +kernel, rfl, by decide +kernel, by decide +kernel⟩
abbrev D_is_number (K : PySem.W.Frag) (f : Addr) (fd : FuncData) : Prop := FunD K ("is_number" : Str) ("is_number" : Str) (defArgs st_is_number) (defBody st_is_number) (defScope st_is_number) [] [] f fd
def lv_is_number : Nat := 1
abbrev st_is_from_to : Stmt := top 3
abbrev sc_is_from_to : Scope := defScope st_is_from_to
abbrev N_is_from_to : List Str := [("value" : Str), ("low" : Str), ("high" : Str)]
abbrev P_is_from_to : List Str := [("value" : Str), ("low" : Str), ("high" : Str)]
theorem S_is_from_to : FnScope N_is_from_to P_is_from_to sc_is_from_to := ⟨rfl, rfl, rfl, by decide +kernel, rfl, by decide +kernel, by decide +kernel⟩
abbrev D_is_from_to (K : PySem.W.Frag) (f : Addr) (fd : FuncData) : Prop := FunD K ("is_from_to" : Str) ("is_from_to" : Str) (defArgs st_is_from_to) (defBody st_is_from_to) (defScope st_is_from_to) [] [] f fd
def lv_is_from_to : Nat := 2
abbrev st_is_row : Stmt := top 4
abbrev sc_is_row : Scope := defScope st_is_row
abbrev N_is_row : List Str := [("value" : Str), ("many" : Str)]
abbrev P_is_row : List Str := [("value" : Str), ("many" : Str)]
theorem S_is_row : FnScope N_is_row P_is_row sc_is_row := ⟨rfl, rfl, rfl, by decide +kernel, rfl, by decide +kernel, by decide +kernel⟩
abbrev D_is_row (K : PySem.W.Frag) (f : Addr) (fd : FuncData) : Prop := FunD K ("is_row" : Str) ("is_row" : Str) (defArgs st_is_row) (defBody st_is_row) (defScope st_is_row) [] [] f fd
def lv_is_row : Nat := 1
abbrev st_is_fraction : Stmt := top 5
abbrev sc_is_fraction : Scope := defScope st_is_fraction
abbrev N_is_fraction : List Str := [("value" : Str)]
abbrev P_is_fraction : List Str := [("value" : Str)]
theorem S_is_fraction : FnScope N_is_fraction P_is_fraction sc_is_fraction := ⟨rfl, rfl, rfl, by decide +kernel, rfl, by decide +kernel, by decide +kernel⟩
abbrev D_is_fraction (K : PySem.W.Frag) (f : Addr) (fd : FuncData) : Prop := FunD K ("is_fraction" : Str) ("is_fraction" : Str) (defArgs st_is_fraction) (defBody st_is_fraction) (defScope st_is_fraction) [] [] f fd
def lv_is_fraction : Nat := 2
abbrev st_contrary : Stmt := top 7
abbrev sc_contrary : Scope := defScope st_contrary
abbrev N_contrary : List Str := [("steps" : Str), ("found" : Str), ("square" : Str), ("other" : Str)]
abbrev P_contrary : List Str := [("steps" : Str)]
theorem S_contrary : FnScope N_contrary P_contrary sc_contrary := ⟨rfl, rfl, rfl, by decide +kernel, rfl, by decide +kernel, by decide +kernel⟩
abbrev D_contrary (K : PySem.W.Frag) (f : Addr) (fd : FuncData) : Prop := FunD K ("contrary" : Str) ("contrary" : Str) (defArgs st_contrary) (defBody st_contrary) (defScope st_contrary) [] [] f fd
def lv_contrary : Nat := 1
abbrev st_left_of : Stmt := top 8
abbrev sc_left_of : Scope := defScope st_left_of
abbrev N_left_of : List Str := [("board" : Str)]
abbrev P_left_of : List Str := [("board" : Str)]
theorem S_left_of : FnScope N_left_of P_left_of sc_left_of := ⟨rfl, rfl, rfl, by decide +kernel, rfl, by decide +kernel, by decide +kernel⟩
abbrev D_left_of (K : PySem.W.Frag) (f : Addr) (fd : FuncData) : Prop := FunD K ("left_of" : Str) ("left_of" : Str) (defArgs st_left_of) (defBody st_left_of) (defScope st_left_of) [] [] f fd
def lv_left_of : Nat := 2
abbrev st_below_of : Stmt := top 9
abbrev sc_below_of : Scope := defScope st_below_of
abbrev N_below_of : List Str := [("board" : Str)]
abbrev P_below_of : List Str := [("board" : Str)]
theorem S_below_of : FnScope N_below_of P_below_of sc_below_of := ⟨rfl, rfl, rfl, by decide +kernel, rfl, by decide +kernel, by decide +kernel⟩
abbrev D_below_of (K : PySem.W.Frag) (f : Addr) (fd : FuncData) : Prop := FunD K ("below_of" : Str) ("below_of" : Str) (defArgs st_below_of) (defBody st_below_of) (defScope st_below_of) [] [] f fd
def lv_below_of : Nat := 2
abbrev st_ends_at : Stmt := top 10
abbrev sc_ends_at : Scope := defScope st_ends_at
abbrev N_ends_at : List Str := [("board" : Str), ("square" : Str)]
abbrev P_ends_at : List Str := [("board" : Str), ("square" : Str)]
theorem S_ends_at : FnScope N_ends_at P_ends_at sc_ends_at := ⟨rfl, rfl, rfl, by decide +kernel, rfl, by decide +kernel, by decide +kernel⟩
abbrev D_ends_at (K : PySem.W.Frag) (f : Addr) (fd : FuncData) : Prop := FunD K ("ends_at" : Str) ("ends_at" : Str) (defArgs st_ends_at) (defBody st_ends_at) (defScope st_ends_at) [] [] f fd
def lv_ends_at : Nat := 1
abbrev st_is_corner : Stmt := top 11
abbrev sc_is_corner : Scope := defScope st_is_corner
abbrev N_is_corner : List Str := [("place" : Str)]
abbrev P_is_corner : List Str := [("place" : Str)]
theorem S_is_corner : FnScope N_is_corner P_is_corner sc_is_corner := ⟨rfl, rfl, rfl, by decide +kernel, rfl, by decide +kernel, by decide +kernel⟩
abbrev D_is_corner (K : PySem.W.Frag) (f : Addr) (fd : FuncData) : Prop := FunD K ("is_corner" : Str) ("is_corner" : Str) (defArgs st_is_corner) (defBody st_is_corner) (defScope st_is_corner) [] [] f fd
def lv_is_corner : Nat := 1
abbrev st_is_place : Stmt := top 12
abbrev sc_is_place : Scope := defScope st_is_place
abbrev N_is_place : List Str := [("board" : Str), ("value" : Str), ("part" : Str)]
abbrev P_is_place : List Str := [("board" : Str), ("value" : Str)]
theorem S_is_place : FnScope N_is_place P_is_place sc_is_place := ⟨rfl, rfl, rfl, by decide +kernel, rfl, by decide +kernel, by decide +kernel⟩
abbrev D_is_place (K : PySem.W.Frag) (f : Addr) (fd : FuncData) : Prop := FunD K ("is_place" : Str) ("is_place" : Str) (defArgs st_is_place) (defBody st_is_place) (defScope st_is_place) [] [] f fd
def lv_is_place : Nat := 3
abbrev st_frac : Stmt := top 14
abbrev sc_frac : Scope := defScope st_frac
abbrev N_frac : List Str := [("above" : Str), ("below" : Str), ("by" : Str)]
abbrev P_frac : List Str := [("above" : Str), ("below" : Str)]
theorem S_frac : FnScope N_frac P_frac sc_frac := ⟨rfl, rfl, rfl, by decide +kernel, rfl, by decide +kernel, by decide +kernel⟩
abbrev D_frac (K : PySem.W.Frag) (f : Addr) (fd : FuncData) : Prop := FunD K ("frac" : Str) ("frac" : Str) (defArgs st_frac) (defBody st_frac) (defScope st_frac) [] [] f fd
def lv_frac : Nat := 1
abbrev st_whole : Stmt := top 15
abbrev sc_whole : Scope := defScope st_whole
abbrev N_whole : List Str := [("number" : Str)]
abbrev P_whole : List Str := [("number" : Str)]
theorem S_whole : FnScope N_whole P_whole sc_whole := ⟨rfl, rfl, rfl, by decide +kernel, rfl, by decide +kernel, by decide +kernel⟩
abbrev D_whole (K : PySem.W.Frag) (f : Addr) (fd : FuncData) : Prop := FunD K ("whole" : Str) ("whole" : Str) (defArgs st_whole) (defBody st_whole) (defScope st_whole) [] [] f fd
def lv_whole : Nat := 1
abbrev st_minus : Stmt := top 16
abbrev sc_minus : Scope := defScope st_minus
abbrev N_minus : List Str := [("one" : Str), ("other" : Str)]
abbrev P_minus : List Str := [("one" : Str), ("other" : Str)]
theorem S_minus : FnScope N_minus P_minus sc_minus := ⟨rfl, rfl, rfl, by decide +kernel, rfl, by decide +kernel, by decide +kernel⟩
abbrev D_minus (K : PySem.W.Frag) (f : Addr) (fd : FuncData) : Prop := FunD K ("minus" : Str) ("minus" : Str) (defArgs st_minus) (defBody st_minus) (defScope st_minus) [] [] f fd
def lv_minus : Nat := 2
abbrev st_Pairs___init__ : Stmt := (clsBody (top 20)).getD 0 (.Pass ⟨0, 0, 0, 0⟩)
abbrev sc_Pairs___init__ : Scope := defScope st_Pairs___init__
abbrev N_Pairs___init__ : List Str := [("self" : Str), ("board" : Str)]
abbrev P_Pairs___init__ : List Str := [("self" : Str), ("board" : Str)]
theorem S_Pairs___init__ : FnScope N_Pairs___init__ P_Pairs___init__ sc_Pairs___init__ := ⟨rfl, rfl, rfl, by decide +kernel, rfl, by decide +kernel, by decide +kernel⟩
abbrev D_Pairs___init__ (K : PySem.W.Frag) (f : Addr) (fd : FuncData) : Prop := FunD K ("__init__" : Str) ("Pairs.__init__" : Str) (defArgs st_Pairs___init__) (defBody st_Pairs___init__) (defScope st_Pairs___init__) [] [] f fd
def lv_Pairs___init__ : Nat := 3
abbrev st_Pairs_first : Stmt := (clsBody (top 20)).getD 1 (.Pass ⟨0, 0, 0, 0⟩)
abbrev sc_Pairs_first : Scope := defScope st_Pairs_first
abbrev N_Pairs_first : List Str := [("self" : Str), ("half" : Str), ("ways" : Str), ("square" : Str), ("x" : Str), ("y" : Str), ("low" : Str), ("high" : Str), ("way" : Str)]
abbrev P_Pairs_first : List Str := [("self" : Str), ("half" : Str), ("ways" : Str)]
theorem S_Pairs_first : FnScope N_Pairs_first P_Pairs_first sc_Pairs_first := ⟨rfl, rfl, rfl, by decide +kernel, rfl, by decide +kernel, by decide +kernel⟩
abbrev D_Pairs_first (K : PySem.W.Frag) (f : Addr) (fd : FuncData) : Prop := FunD K ("first" : Str) ("Pairs.first" : Str) (defArgs st_Pairs_first) (defBody st_Pairs_first) (defScope st_Pairs_first) [] [] f fd
def lv_Pairs_first : Nat := 1
abbrev st_Pairs_across : Stmt := (clsBody (top 20)).getD 2 (.Pass ⟨0, 0, 0, 0⟩)
abbrev sc_Pairs_across : Scope := defScope st_Pairs_across
abbrev N_Pairs_across : List Str := [("self" : Str), ("pair" : Str), ("way" : Str), ("one" : Str), ("other" : Str)]
abbrev P_Pairs_across : List Str := [("self" : Str), ("pair" : Str), ("way" : Str)]
theorem S_Pairs_across : FnScope N_Pairs_across P_Pairs_across sc_Pairs_across := ⟨rfl, rfl, rfl, by decide +kernel, rfl, by decide +kernel, by decide +kernel⟩
abbrev D_Pairs_across (K : PySem.W.Frag) (f : Addr) (fd : FuncData) : Prop := FunD K ("across" : Str) ("Pairs.across" : Str) (defArgs st_Pairs_across) (defBody st_Pairs_across) (defScope st_Pairs_across) [] [] f fd
def lv_Pairs_across : Nat := 1
abbrev st_Pairs_upward : Stmt := (clsBody (top 20)).getD 3 (.Pass ⟨0, 0, 0, 0⟩)
abbrev sc_Pairs_upward : Scope := defScope st_Pairs_upward
abbrev N_Pairs_upward : List Str := [("self" : Str), ("pair" : Str), ("way" : Str), ("one" : Str), ("other" : Str)]
abbrev P_Pairs_upward : List Str := [("self" : Str), ("pair" : Str), ("way" : Str)]
theorem S_Pairs_upward : FnScope N_Pairs_upward P_Pairs_upward sc_Pairs_upward := ⟨rfl, rfl, rfl, by decide +kernel, rfl, by decide +kernel, by decide +kernel⟩
abbrev D_Pairs_upward (K : PySem.W.Frag) (f : Addr) (fd : FuncData) : Prop := FunD K ("upward" : Str) ("Pairs.upward" : Str) (defArgs st_Pairs_upward) (defBody st_Pairs_upward) (defScope st_Pairs_upward) [] [] f fd
def lv_Pairs_upward : Nat := 1
abbrev st_Pairs_closed : Stmt := (clsBody (top 20)).getD 4 (.Pass ⟨0, 0, 0, 0⟩)
abbrev sc_Pairs_closed : Scope := defScope st_Pairs_closed
abbrev N_Pairs_closed : List Str := [("self" : Str), ("pair" : Str), ("found" : Str), ("waiting" : Str), ("told" : Str), ("other" : Str)]
abbrev P_Pairs_closed : List Str := [("self" : Str), ("pair" : Str)]
theorem S_Pairs_closed : FnScope N_Pairs_closed P_Pairs_closed sc_Pairs_closed := ⟨rfl, rfl, rfl, by decide +kernel, rfl, by decide +kernel, by decide +kernel⟩
abbrev D_Pairs_closed (K : PySem.W.Frag) (f : Addr) (fd : FuncData) : Prop := FunD K ("closed" : Str) ("Pairs.closed" : Str) (defArgs st_Pairs_closed) (defBody st_Pairs_closed) (defScope st_Pairs_closed) [] [] f fd
def lv_Pairs_closed : Nat := 2
abbrev st_halves : Stmt := top 21
abbrev sc_halves : Scope := defScope st_halves
abbrev N_halves : List Str := [("board" : Str), ("half" : Str), ("pairs" : Str)]
abbrev P_halves : List Str := [("board" : Str), ("half" : Str)]
theorem S_halves : FnScope N_halves P_halves sc_halves := ⟨rfl, rfl, rfl, by decide +kernel, rfl, by decide +kernel, by decide +kernel⟩
abbrev D_halves (K : PySem.W.Frag) (f : Addr) (fd : FuncData) : Prop := FunD K ("halves" : Str) ("halves" : Str) (defArgs st_halves) (defBody st_halves) (defScope st_halves) [] [] f fd
def lv_halves : Nat := 5
abbrev st_half_places : Stmt := top 22
abbrev sc_half_places : Scope := defScope st_half_places
abbrev N_half_places : List Str := [("board" : Str), ("found" : Str), ("square" : Str), ("x" : Str), ("y" : Str)]
abbrev P_half_places : List Str := [("board" : Str)]
theorem S_half_places : FnScope N_half_places P_half_places sc_half_places := ⟨rfl, rfl, rfl, by decide +kernel, rfl, by decide +kernel, by decide +kernel⟩
abbrev D_half_places (K : PySem.W.Frag) (f : Addr) (fd : FuncData) : Prop := FunD K ("half_places" : Str) ("half_places" : Str) (defArgs st_half_places) (defBody st_half_places) (defScope st_half_places) [] [] f fd
def lv_half_places : Nat := 4
abbrev st_needed : Stmt := top 23
abbrev sc_needed : Scope := defScope st_needed
abbrev N_needed : List Str := [("board" : Str), ("i" : Str), ("j" : Str), ("pairs" : Str), ("told" : Str), ("half" : Str)]
abbrev P_needed : List Str := [("board" : Str), ("i" : Str), ("j" : Str)]
theorem S_needed : FnScope N_needed P_needed sc_needed := ⟨rfl, rfl, rfl, by decide +kernel, rfl, by decide +kernel, by decide +kernel⟩
abbrev D_needed (K : PySem.W.Frag) (f : Addr) (fd : FuncData) : Prop := FunD K ("needed" : Str) ("needed" : Str) (defArgs st_needed) (defBody st_needed) (defScope st_needed) [] [] f fd
def lv_needed : Nat := 5
abbrev st_turn_from : Stmt := top 27
abbrev sc_turn_from : Scope := defScope st_turn_from
abbrev N_turn_from : List Str := [("board" : Str), ("first" : Str), ("right" : Str), ("above" : Str), ("_" : Str), ("left" : Str), ("below" : Str), ("turn" : Str), ("waiting" : Str), ("square" : Str), ("other" : Str), ("due" : Str)]
abbrev P_turn_from : List Str := [("board" : Str), ("first" : Str)]
theorem S_turn_from : FnScope N_turn_from P_turn_from sc_turn_from := ⟨rfl, rfl, rfl, by decide +kernel, rfl, by decide +kernel, by decide +kernel⟩
abbrev D_turn_from (K : PySem.W.Frag) (f : Addr) (fd : FuncData) : Prop := FunD K ("turn_from" : Str) ("turn_from" : Str) (defArgs st_turn_from) (defBody st_turn_from) (defScope st_turn_from) [] [] f fd
def lv_turn_from : Nat := 3
abbrev st_far_corner : Stmt := top 28
abbrev sc_far_corner : Scope := defScope st_far_corner
abbrev N_far_corner : List Str := [("board" : Str), ("square" : Str)]
abbrev P_far_corner : List Str := [("board" : Str), ("square" : Str)]
theorem S_far_corner : FnScope N_far_corner P_far_corner sc_far_corner := ⟨rfl, rfl, rfl, by decide +kernel, rfl, by decide +kernel, by decide +kernel⟩
abbrev D_far_corner (K : PySem.W.Frag) (f : Addr) (fd : FuncData) : Prop := FunD K ("far_corner" : Str) ("far_corner" : Str) (defArgs st_far_corner) (defBody st_far_corner) (defScope st_far_corner) [] [] f fd
def lv_far_corner : Nat := 1
abbrev st_keeps_ends : Stmt := top 29
abbrev sc_keeps_ends : Scope := defScope st_keeps_ends
abbrev N_keeps_ends : List Str := [("board" : Str), ("turn" : Str), ("square" : Str)]
abbrev P_keeps_ends : List Str := [("board" : Str), ("turn" : Str)]
theorem S_keeps_ends : FnScope N_keeps_ends P_keeps_ends sc_keeps_ends := ⟨rfl, rfl, rfl, by decide +kernel, rfl, by decide +kernel, by decide +kernel⟩
abbrev D_keeps_ends (K : PySem.W.Frag) (f : Addr) (fd : FuncData) : Prop := FunD K ("keeps_ends" : Str) ("keeps_ends" : Str) (defArgs st_keeps_ends) (defBody st_keeps_ends) (defScope st_keeps_ends) [] [] f fd
def lv_keeps_ends : Nat := 3
abbrev st_half_turns : Stmt := top 30
abbrev sc_half_turns : Scope := defScope st_half_turns
abbrev N_half_turns : List Str := [("board" : Str), ("many" : Str), ("found" : Str), ("first" : Str), ("turn" : Str), ("square" : Str)]
abbrev P_half_turns : List Str := [("board" : Str)]
theorem S_half_turns : FnScope N_half_turns P_half_turns sc_half_turns := ⟨rfl, rfl, rfl, by decide +kernel, rfl, by decide +kernel, by decide +kernel⟩
abbrev D_half_turns (K : PySem.W.Frag) (f : Addr) (fd : FuncData) : Prop := FunD K ("half_turns" : Str) ("half_turns" : Str) (defArgs st_half_turns) (defBody st_half_turns) (defScope st_half_turns) [] [] f fd
def lv_half_turns : Nat := 4
abbrev st_turned : Stmt := top 31
abbrev sc_turned : Scope := defScope st_turned
abbrev N_turned : List Str := [("board" : Str), ("turn" : Str), ("place" : Str), ("square" : Str), ("x" : Str), ("y" : Str)]
abbrev P_turned : List Str := [("board" : Str), ("turn" : Str), ("place" : Str)]
theorem S_turned : FnScope N_turned P_turned sc_turned := ⟨rfl, rfl, rfl, by decide +kernel, rfl, by decide +kernel, by decide +kernel⟩
abbrev D_turned (K : PySem.W.Frag) (f : Addr) (fd : FuncData) : Prop := FunD K ("turned" : Str) ("turned" : Str) (defArgs st_turned) (defBody st_turned) (defScope st_turned) [] [] f fd
def lv_turned : Nat := 4
abbrev st_other_end : Stmt := top 32
abbrev sc_other_end : Scope := defScope st_other_end
abbrev N_other_end : List Str := [("part" : Str)]
abbrev P_other_end : List Str := [("part" : Str)]
theorem S_other_end : FnScope N_other_end P_other_end sc_other_end := ⟨rfl, rfl, rfl, by decide +kernel, rfl, by decide +kernel, by decide +kernel⟩
abbrev D_other_end (K : PySem.W.Frag) (f : Addr) (fd : FuncData) : Prop := FunD K ("other_end" : Str) ("other_end" : Str) (defArgs st_other_end) (defBody st_other_end) (defScope st_other_end) [] [] f fd
def lv_other_end : Nat := 3
abbrev st_places_tried : Stmt := top 33
abbrev sc_places_tried : Scope := defScope st_places_tried
abbrev N_places_tried : List Str := [("board" : Str), ("square" : Str), ("corner" : Str)]
abbrev P_places_tried : List Str := [("board" : Str), ("square" : Str)]
theorem S_places_tried : FnScope N_places_tried P_places_tried sc_places_tried := ⟨rfl, rfl, rfl, by decide +kernel, rfl, by decide +kernel, by decide +kernel⟩
abbrev D_places_tried (K : PySem.W.Frag) (f : Addr) (fd : FuncData) : Prop := FunD K ("places_tried" : Str) ("places_tried" : Str) (defArgs st_places_tried) (defBody st_places_tried) (defScope st_places_tried) [] [] f fd
def lv_places_tried : Nat := 2
abbrev st_still : Stmt := top 34
abbrev sc_still : Scope := defScope st_still
abbrev N_still : List Str := [("board" : Str), ("turn" : Str), ("found" : Str), ("square" : Str), ("place" : Str)]
abbrev P_still : List Str := [("board" : Str), ("turn" : Str)]
theorem S_still : FnScope N_still P_still sc_still := ⟨rfl, rfl, rfl, by decide +kernel, rfl, by decide +kernel, by decide +kernel⟩
abbrev D_still (K : PySem.W.Frag) (f : Addr) (fd : FuncData) : Prop := FunD K ("still" : Str) ("still" : Str) (defArgs st_still) (defBody st_still) (defScope st_still) [] [] f fd
def lv_still : Nat := 5
abbrev st__law_bag : Stmt := top 36
abbrev sc__law_bag : Scope := defScope st__law_bag
abbrev N__law_bag : List Str := [("script" : Str), ("cells" : Str), ("great" : Str), ("cell" : Str)]
abbrev P__law_bag : List Str := [("script" : Str)]
theorem S__law_bag : FnScope N__law_bag P__law_bag sc__law_bag := ⟨rfl, rfl, rfl, by decide +kernel, rfl, by decide +kernel, by decide +kernel⟩
abbrev D__law_bag (K : PySem.W.Frag) (f : Addr) (fd : FuncData) : Prop := FunD K ("_law_bag" : Str) ("_law_bag" : Str) (defArgs st__law_bag) (defBody st__law_bag) (defScope st__law_bag) [] [] f fd
def lv__law_bag : Nat := 1
abbrev st__law_draw : Stmt := top 37
abbrev sc__law_draw : Scope := defScope st__law_draw
abbrev N__law_draw : List Str := [("bag" : Str), ("many" : Str), ("digit" : Str), ("cell" : Str), ("mixed" : Str)]
abbrev P__law_draw : List Str := [("bag" : Str), ("many" : Str)]
theorem S__law_draw : FnScope N__law_draw P__law_draw sc__law_draw := ⟨rfl, rfl, rfl, by decide +kernel, rfl, by decide +kernel, by decide +kernel⟩
abbrev D__law_draw (K : PySem.W.Frag) (f : Addr) (fd : FuncData) : Prop := FunD K ("_law_draw" : Str) ("_law_draw" : Str) (defArgs st__law_draw) (defBody st__law_draw) (defScope st__law_draw) [] [] f fd
def lv__law_draw : Nat := 1
abbrev st__law_same : Stmt := top 38
abbrev sc__law_same : Scope := defScope st__law_same
abbrev N__law_same : List Str := [("found" : Str), ("due" : Str), ("k" : Str)]
abbrev P__law_same : List Str := [("found" : Str), ("due" : Str)]
theorem S__law_same : FnScope N__law_same P__law_same sc__law_same := ⟨rfl, rfl, rfl, by decide +kernel, rfl, by decide +kernel, by decide +kernel⟩
abbrev D__law_same (K : PySem.W.Frag) (f : Addr) (fd : FuncData) : Prop := FunD K ("_law_same" : Str) ("_law_same" : Str) (defArgs st__law_same) (defBody st__law_same) (defScope st__law_same) [] [] f fd
def lv__law_same : Nat := 7
abbrev st__law_contrary_of : Stmt := top 39
abbrev sc__law_contrary_of : Scope := defScope st__law_contrary_of
abbrev N__law_contrary_of : List Str := [("row" : Str), ("k" : Str), ("out" : Str)]
abbrev P__law_contrary_of : List Str := [("row" : Str)]
theorem S__law_contrary_of : FnScope N__law_contrary_of P__law_contrary_of sc__law_contrary_of := ⟨rfl, rfl, rfl, by decide +kernel, rfl, by decide +kernel, by decide +kernel⟩
abbrev D__law_contrary_of (K : PySem.W.Frag) (f : Addr) (fd : FuncData) : Prop := FunD K ("_law_contrary_of" : Str) ("_law_contrary_of" : Str) (defArgs st__law_contrary_of) (defBody st__law_contrary_of) (defScope st__law_contrary_of) [] [] f fd
def lv__law_contrary_of : Nat := 1
abbrev st__law_ends : Stmt := top 40
abbrev sc__law_ends : Scope := defScope st__law_ends
abbrev N__law_ends : List Str := [("right" : Str), ("above" : Str), ("left" : Str), ("below" : Str), ("k" : Str)]
abbrev P__law_ends : List Str := [("right" : Str), ("above" : Str)]
theorem S__law_ends : FnScope N__law_ends P__law_ends sc__law_ends := ⟨rfl, rfl, rfl, by decide +kernel, rfl, by decide +kernel, by decide +kernel⟩
abbrev D__law_ends (K : PySem.W.Frag) (f : Addr) (fd : FuncData) : Prop := FunD K ("_law_ends" : Str) ("_law_ends" : Str) (defArgs st__law_ends) (defBody st__law_ends) (defScope st__law_ends) [] [] f fd
def lv__law_ends : Nat := 2
abbrev st__law_reach : Stmt := top 41
abbrev sc__law_reach : Scope := defScope st__law_reach
abbrev N__law_reach : List Str := [("right" : Str), ("above" : Str), ("found" : Str), ("k" : Str), ("to" : Str)]
abbrev P__law_reach : List Str := [("right" : Str), ("above" : Str)]
theorem S__law_reach : FnScope N__law_reach P__law_reach sc__law_reach := ⟨rfl, rfl, rfl, by decide +kernel, rfl, by decide +kernel, by decide +kernel⟩
abbrev D__law_reach (K : PySem.W.Frag) (f : Addr) (fd : FuncData) : Prop := FunD K ("_law_reach" : Str) ("_law_reach" : Str) (defArgs st__law_reach) (defBody st__law_reach) (defScope st__law_reach) [] [] f fd
def lv__law_reach : Nat := 1
abbrev st__law_shuffle : Stmt := top 42
abbrev sc__law_shuffle : Scope := defScope st__law_shuffle
abbrev N__law_shuffle : List Str := [("bag" : Str), ("many" : Str), ("out" : Str), ("k" : Str), ("j" : Str)]
abbrev P__law_shuffle : List Str := [("bag" : Str), ("many" : Str)]
theorem S__law_shuffle : FnScope N__law_shuffle P__law_shuffle sc__law_shuffle := ⟨rfl, rfl, rfl, by decide +kernel, rfl, by decide +kernel, by decide +kernel⟩
abbrev D__law_shuffle (K : PySem.W.Frag) (f : Addr) (fd : FuncData) : Prop := FunD K ("_law_shuffle" : Str) ("_law_shuffle" : Str) (defArgs st__law_shuffle) (defBody st__law_shuffle) (defScope st__law_shuffle) [] [] f fd
def lv__law_shuffle : Nat := 2
abbrev st__law_hung : Stmt := top 43
abbrev sc__law_hung : Scope := defScope st__law_hung
abbrev N__law_hung : List Str := [("right" : Str), ("above" : Str), ("lap" : Str), ("found" : Str), ("apart" : Str), ("k" : Str)]
abbrev P__law_hung : List Str := [("right" : Str), ("above" : Str)]
theorem S__law_hung : FnScope N__law_hung P__law_hung sc__law_hung := ⟨rfl, rfl, rfl, by decide +kernel, rfl, by decide +kernel, by decide +kernel⟩
abbrev D__law_hung (K : PySem.W.Frag) (f : Addr) (fd : FuncData) : Prop := FunD K ("_law_hung" : Str) ("_law_hung" : Str) (defArgs st__law_hung) (defBody st__law_hung) (defScope st__law_hung) [] [] f fd
def lv__law_hung : Nat := 2
abbrev st__law_board : Stmt := top 44
abbrev sc__law_board : Scope := defScope st__law_board
abbrev N__law_board : List Str := [("bag" : Str), ("most" : Str), ("many" : Str), ("right" : Str), ("above" : Str)]
abbrev P__law_board : List Str := [("bag" : Str), ("most" : Str)]
theorem S__law_board : FnScope N__law_board P__law_board sc__law_board := ⟨rfl, rfl, rfl, by decide +kernel, rfl, by decide +kernel, by decide +kernel⟩
abbrev D__law_board (K : PySem.W.Frag) (f : Addr) (fd : FuncData) : Prop := FunD K ("_law_board" : Str) ("_law_board" : Str) (defArgs st__law_board) (defBody st__law_board) (defScope st__law_board) [] [] f fd
def lv__law_board : Nat := 3
abbrev st__law_half_places : Stmt := top 45
abbrev sc__law_half_places : Scope := defScope st__law_half_places
abbrev N__law_half_places : List Str := [("board" : Str), ("found" : Str), ("s" : Str), ("x" : Str), ("y" : Str)]
abbrev P__law_half_places : List Str := [("board" : Str)]
theorem S__law_half_places : FnScope N__law_half_places P__law_half_places sc__law_half_places := ⟨rfl, rfl, rfl, by decide +kernel, rfl, by decide +kernel, by decide +kernel⟩
abbrev D__law_half_places (K : PySem.W.Frag) (f : Addr) (fd : FuncData) : Prop := FunD K ("_law_half_places" : Str) ("_law_half_places" : Str) (defArgs st__law_half_places) (defBody st__law_half_places) (defScope st__law_half_places) [] [] f fd
def lv__law_half_places : Nat := 1
abbrev st__law_own_halves : Stmt := top 46
abbrev sc__law_own_halves : Scope := defScope st__law_own_halves
abbrev N__law_own_halves : List Str := [("board" : Str), ("p" : Str), ("right" : Str), ("above" : Str), ("left" : Str), ("below" : Str), ("s" : Str), ("to" : Str), ("found" : Str), ("k" : Str), ("u" : Str), ("w" : Str), ("pair" : Str)]
abbrev P__law_own_halves : List Str := [("board" : Str), ("p" : Str)]
theorem S__law_own_halves : FnScope N__law_own_halves P__law_own_halves sc__law_own_halves := ⟨rfl, rfl, rfl, by decide +kernel, rfl, by decide +kernel, by decide +kernel⟩
abbrev D__law_own_halves (K : PySem.W.Frag) (f : Addr) (fd : FuncData) : Prop := FunD K ("_law_own_halves" : Str) ("_law_own_halves" : Str) (defArgs st__law_own_halves) (defBody st__law_own_halves) (defScope st__law_own_halves) [] [] f fd
def lv__law_own_halves : Nat := 2
abbrev st__law_is_half_turn : Stmt := top 47
abbrev sc__law_is_half_turn : Scope := defScope st__law_is_half_turn
abbrev N__law_is_half_turn : List Str := [("board" : Str), ("turn" : Str), ("right" : Str), ("above" : Str), ("left" : Str), ("below" : Str), ("i" : Str), ("corner" : Str)]
abbrev P__law_is_half_turn : List Str := [("board" : Str), ("turn" : Str)]
theorem S__law_is_half_turn : FnScope N__law_is_half_turn P__law_is_half_turn sc__law_is_half_turn := ⟨rfl, rfl, rfl, by decide +kernel, rfl, by decide +kernel, by decide +kernel⟩
abbrev D__law_is_half_turn (K : PySem.W.Frag) (f : Addr) (fd : FuncData) : Prop := FunD K ("_law_is_half_turn" : Str) ("_law_is_half_turn" : Str) (defArgs st__law_is_half_turn) (defBody st__law_is_half_turn) (defScope st__law_is_half_turn) [] [] f fd
def lv__law_is_half_turn : Nat := 2
abbrev st__law_turns_of : Stmt := top 48
abbrev sc__law_turns_of : Scope := defScope st__law_turns_of
abbrev N__law_turns_of : List Str := [("board" : Str), ("right" : Str), ("above" : Str), ("left" : Str), ("below" : Str), ("found" : Str), ("to" : Str), ("turn" : Str), ("lap" : Str), ("i" : Str), ("row" : Str)]
abbrev P__law_turns_of : List Str := [("board" : Str)]
theorem S__law_turns_of : FnScope N__law_turns_of P__law_turns_of sc__law_turns_of := ⟨rfl, rfl, rfl, by decide +kernel, rfl, by decide +kernel, by decide +kernel⟩
abbrev D__law_turns_of (K : PySem.W.Frag) (f : Addr) (fd : FuncData) : Prop := FunD K ("_law_turns_of" : Str) ("_law_turns_of" : Str) (defArgs st__law_turns_of) (defBody st__law_turns_of) (defScope st__law_turns_of) [] [] f fd
def lv__law_turns_of : Nat := 3
abbrev st_law : Stmt := top 49
abbrev sc_law : Scope := defScope st_law
abbrev N_law : List Str := [("script" : Str), ("bag" : Str), ("lap" : Str), ("drawn" : Str), ("board" : Str), ("many" : Str), ("own" : Str), ("given" : Str), ("p" : Str), ("here" : Str), ("a" : Str), ("b" : Str), ("total" : Str), ("i" : Str), ("j" : Str), ("turns_of" : Str), ("turn" : Str), ("k" : Str), ("row" : Str), ("pair" : Str)]
abbrev P_law : List Str := [("script" : Str)]
theorem S_law : FnScope N_law P_law sc_law := ⟨rfl, rfl, rfl, by decide +kernel, rfl, by decide +kernel, by decide +kernel⟩
abbrev D_law (K : PySem.W.Frag) (f : Addr) (fd : FuncData) : Prop := FunD K ("law" : Str) ("law" : Str) (defArgs st_law) (defBody st_law) (defScope st_law) [] [] f fd
def lv_law : Nat := 8
/-- the keywords in the order of the parameters -/
def g_half_turns__board {α : Type} : List α → List α → List α := fun _ zs => match zs with
  | [a0] => [a0]
  | _ => []
/-- the keywords in the order of the parameters -/
def g_halves__half_board {α : Type} : List α → List α → List α := fun _ zs => match zs with
  | [a0, a1] => [a1, a0]
  | _ => []
/-- the keywords in the order of the parameters -/
def g_needed__j_i_board {α : Type} : List α → List α → List α := fun _ zs => match zs with
  | [a0, a1, a2] => [a2, a1, a0]
  | _ => []
/-- the keywords in the order of the parameters -/
def g_still__turn_board {α : Type} : List α → List α → List α := fun _ zs => match zs with
  | [a0, a1] => [a1, a0]
  | _ => []
def t_is_number (Γ : Wd) (K : PySem.W.Frag) : TS :=
  (tRet (tAndV (tCB (rIsi K) (tCons (tVar 0) (tCons (tC (.ty "int")) tNil))) (tNotV (tCB (rIsi K) (tCons (tVar 0) (tCons (tC (.ty "bool")) tNil))))))
theorem ps_is_number {P : Program} {w : World} {K : PySem.W.Frag} {mg : Str → Option Value} {base : Heap} {Tb : List Addr} {f : Addr} (M : Md K mg)  {cdv : Value} {Ar : Around} {outer : List Env} {s : Shared} {H : Hp} {E : XK}
    (hr : Room 0 (Ar.deeper (envOfC ("is_number" : Str) sc_is_number s.heap.objs.size f cdv))) : PSs (cxOf CX0 P w K mg base N_is_number ("is_number" : Str) sc_is_number f cdv Ar outer s H E) (defBody st_is_number) (t_is_number ⟨P, w, Tb⟩ K) := by
  have nd : N_is_number.Nodup := S_is_number.nd
  exact PSs.nox (pss_one (ps_ret (pe_and (pe_callB call_isi (by rfl) M.n_isinstance bo_isinstance (pa_cons (pv 0) (pa_cons (pe_bltn (v := .ty "int") (by rfl) M.n_int bo_int rfl) pa_nil))) (pe_one (pe_not (pe_callB call_isi (by rfl) M.n_isinstance bo_isinstance (pa_cons (pv 0) (pa_cons (pe_bltn (v := .ty "bool") (by rfl) M.n_bool bo_bool rfl) pa_nil))))))))
def t_is_from_to (Γ : Wd) (K : PySem.W.Frag) (A_is_number : DS) : TS :=
  (tRet (tAndV (tCall (spA Γ K A_is_number) [] E0 (tCons (tVar 0) tNil)) (tChain (rI0 fun i j => .bl (decide (i ≤ j))) (rI0 fun i j => .bl (decide (i ≤ j))) (tVar 1) (tVar 0) (tVar 2))))
theorem ps_is_from_to {P : Program} {w : World} {K : PySem.W.Frag} {mg : Str → Option Value} {base : Heap} {Tb : List Addr} {f : Addr} {A_is_number : DS} (M : Md K mg) (c_is_number : Cal P w K mg base 1 ("is_number" : Str) (spA ⟨P, w, Tb⟩ K A_is_number) []) {cdv : Value} {Ar : Around} {outer : List Env} {s : Shared} {H : Hp} {E : XK}
    (hr : Room 1 (Ar.deeper (envOfC ("is_from_to" : Str) sc_is_from_to s.heap.objs.size f cdv))) : PSs (cxOf CX0 P w K mg base N_is_from_to ("is_from_to" : Str) sc_is_from_to f cdv Ar outer s H E) (defBody st_is_from_to) (t_is_from_to ⟨P, w, Tb⟩ K A_is_number) := by
  have nd : N_is_from_to.Nodup := S_is_from_to.nd
  exact PSs.nox (pss_one (ps_ret (pe_and (pe_c c_is_number hr (by decide) (by rfl) (pa_cons (pv 0) pa_nil)) (pe_one (pe_chain op_le op_le (pv 1) (pv 0) (pv 2))))))
def t_is_row (Γ : Wd) (K : PySem.W.Frag) : TS :=
  (tRet (tAndV (tCB (rIsi K) (tCons (tVar 0) (tCons (tC (.ty "tuple")) tNil))) (tOp (rEqD K) (tCB (fun xs H Q => ∃ p ys, xs = [.ref p] ∧ (SqL K H p ys ∨ SqT K H p ys) ∧ Q (.int ys.length) H) (tCons (tVar 0) tNil)) (tVar 1))))
theorem ps_is_row {P : Program} {w : World} {K : PySem.W.Frag} {mg : Str → Option Value} {base : Heap} {Tb : List Addr} {f : Addr} (M : Md K mg)  {cdv : Value} {Ar : Around} {outer : List Env} {s : Shared} {H : Hp} {E : XK}
    (hr : Room 0 (Ar.deeper (envOfC ("is_row" : Str) sc_is_row s.heap.objs.size f cdv))) : PSs (cxOf CX0 P w K mg base N_is_row ("is_row" : Str) sc_is_row f cdv Ar outer s H E) (defBody st_is_row) (t_is_row ⟨P, w, Tb⟩ K) := by
  have nd : N_is_row.Nodup := S_is_row.nd
  exact PSs.nox (pss_one (ps_ret (pe_and (pe_callB call_isi (by rfl) M.n_isinstance bo_isinstance (pa_cons (pv 0) (pa_cons (pe_bltn (v := .ty "tuple") (by rfl) M.n_tuple bo_tuple rfl) pa_nil))) (pe_one (pe_cmpR (op_eqD hr.units) (pe_callB call_len_seq (by rfl) M.n_len bo_len (pa_cons (pv 0) pa_nil)) (pv 1) (nomark _))))))
def t_is_fraction (Γ : Wd) (K : PySem.W.Frag) (A_is_row : DS) (A_is_number : DS) : TS :=
  (tSeq (tIfS (tOr (tNot (tB (tCall (spA Γ K A_is_row) [] E0 (tCons (tVar 0) (tCons (tC (.int 2)) tNil))))) (tOr (tNot (tB (tCall (spA Γ K A_is_number) [] E0 (tCons (tOp (rIx K) (tVar 0) (tC (.int 0))) tNil)))) (tOr (tNot (tB (tCall (spA Γ K A_is_number) [] E0 (tCons (tOp (rIx K) (tVar 0) (tC (.int 1))) tNil)))) (tTest (tOp (rI0 fun i j => .bl (decide (i < j))) (tOp (rIx K) (tVar 0) (tC (.int 1))) (tC (.int 1)))))))
  (tRet (tC (.bl false)))
  tNext)
  (tRet (tOp (rEqD K) (tCB rGcd (tCons (tOp (rIx K) (tVar 0) (tC (.int 0))) (tCons (tOp (rIx K) (tVar 0) (tC (.int 1))) tNil))) (tC (.int 1)))))
theorem ps_is_fraction {P : Program} {w : World} {K : PySem.W.Frag} {mg : Str → Option Value} {base : Heap} {Tb : List Addr} {f : Addr} {A_is_row : DS} {A_is_number : DS} (M : Md K mg) (c_is_row : Cal P w K mg base 1 ("is_row" : Str) (spA ⟨P, w, Tb⟩ K A_is_row) []) (c_is_number : Cal P w K mg base 1 ("is_number" : Str) (spA ⟨P, w, Tb⟩ K A_is_number) []) {cdv : Value} {Ar : Around} {outer : List Env} {s : Shared} {H : Hp} {E : XK}
    (hr : Room 1 (Ar.deeper (envOfC ("is_fraction" : Str) sc_is_fraction s.heap.objs.size f cdv))) : PSs (cxOf CX0 P w K mg base N_is_fraction ("is_fraction" : Str) sc_is_fraction f cdv Ar outer s H E) (defBody st_is_fraction) (t_is_fraction ⟨P, w, Tb⟩ K A_is_row A_is_number) := by
  have nd : N_is_fraction.Nodup := S_is_fraction.nd
  exact PSs.nox (pss_cons (ps_if ((pw_or (pt_not (pt_val (pe_c c_is_row hr (by decide) (by rfl) (pa_cons (pv 0) (pa_cons pe_int pa_nil))))) (pw_or (pt_not (pt_val (pe_c c_is_number hr (by decide) (by rfl) (pa_cons (pe_ix ix_seq (pv 0) pe_int (by intro _ _; rfl)) pa_nil)))) (pw_or (pt_not (pt_val (pe_c c_is_number hr (by decide) (by rfl) (pa_cons (pe_ix ix_seq (pv 0) pe_int (by intro _ _; rfl)) pa_nil)))) (pw_or1 (pt_cmpR op_lt (pe_ix ix_seq (pv 0) pe_int (by intro _ _; rfl)) pe_int (nomark _))))))).pt
  (pss_one (ps_ret pe_bl))
  pss_nil)
  (pss_one (ps_ret (pe_cmpR (op_eqD hr.units) (pe_callBfun cr_gcd (by rfl) M.b_gcd (pa_cons (pe_ix ix_seq (pv 0) pe_int (by intro _ _; rfl)) (pa_cons (pe_ix ix_seq (pv 0) pe_int (by intro _ _; rfl)) pa_nil))) pe_int (nomark _)))))
def t_contrary (Γ : Wd) (K : PySem.W.Frag) : TS :=
  (tSeq (tAsg (tOp rRep (tLst (tCons (tC (.int 0)) tNil)) (tCB (fun xs H Q => ∃ p ys, xs = [.ref p] ∧ (SqL K H p ys ∨ SqT K H p ys) ∧ Q (.int ys.length) H) (tCons (tVar 0) tNil))) (gName 1))
  (tSeq (tFor (iEnumT K (tCons (tVar 0) tNil)) (gTup K 2 (gCons (gName 2) (gCons (gName 3) gNil)))
  (tAsg (tVar 2) (gSub (tVar 1) (tVar 3) rSetL)))
  (tRet (tCB (fun xs H Q => ∃ p ys, xs = [.ref p] ∧ ((SqL K H p ys ∧ ∀ l, H l = none → Q (.ref l) (upd H l (.tup ys))) ∨ (SqT K H p ys ∧ Q (.ref p) H))) (tCons (tVar 1) tNil)))))
theorem ps_contrary {P : Program} {w : World} {K : PySem.W.Frag} {mg : Str → Option Value} {base : Heap} {Tb : List Addr} {f : Addr} (M : Md K mg)  {cdv : Value} {Ar : Around} {outer : List Env} {s : Shared} {H : Hp} {E : XK}
    (hr : Room 0 (Ar.deeper (envOfC ("contrary" : Str) sc_contrary s.heap.objs.size f cdv))) : PSs (cxOf CX0 P w K mg base N_contrary ("contrary" : Str) sc_contrary f cdv Ar outer s H E) (defBody st_contrary) (t_contrary ⟨P, w, Tb⟩ K) := by
  have nd : N_contrary.Nodup := S_contrary.nd
  exact PSs.nox (pss_cons (ps_asg (pe_op op_rep (pe_lst (pa_cons pe_int pa_nil)) (pe_callB call_len_seq (by rfl) M.n_len bo_len (pa_cons (pv 0) pa_nil))) (pg_name (i := 1) nd rfl (Or.inl rfl)))
  (pss_cons (ps_for PassesOwn.never rfl (pi_enumT (by rfl) M.n_enumerate (pa_cons (pv 0) pa_nil)) (pg_tup rfl (pgs_cons (pg_name (i := 2) nd rfl (Or.inl rfl)) (pgs_cons (pg_name (i := 3) nd rfl (Or.inl rfl)) pgs_nil)))
  (pss_one (ps_asg (pv 2) (pg_sub (pv 1) (pv 3) set_list))))
  (pss_one (ps_ret (pe_callTy call_tuple_of (by rfl) M.n_tuple bo_tuple (pa_cons (pv 1) pa_nil))))))
def t_left_of (Γ : Wd) (K : PySem.W.Frag) (A_contrary : DS) : TS :=
  (tRet (tCall (spA Γ K A_contrary) [] E0 (tCons (tOp (rIx K) (tVar 0) (tC (.int 0))) tNil)))
theorem ps_left_of {P : Program} {w : World} {K : PySem.W.Frag} {mg : Str → Option Value} {base : Heap} {Tb : List Addr} {f : Addr} {A_contrary : DS} (M : Md K mg) (c_contrary : Cal P w K mg base 1 ("contrary" : Str) (spA ⟨P, w, Tb⟩ K A_contrary) []) {cdv : Value} {Ar : Around} {outer : List Env} {s : Shared} {H : Hp} {E : XK}
    (hr : Room 1 (Ar.deeper (envOfC ("left_of" : Str) sc_left_of s.heap.objs.size f cdv))) : PSs (cxOf CX0 P w K mg base N_left_of ("left_of" : Str) sc_left_of f cdv Ar outer s H E) (defBody st_left_of) (t_left_of ⟨P, w, Tb⟩ K A_contrary) := by
  have nd : N_left_of.Nodup := S_left_of.nd
  exact PSs.nox (pss_one (ps_ret (pe_c c_contrary hr (by decide) (by rfl) (pa_cons (pe_ix ix_seq (pv 0) pe_int (by intro _ _; rfl)) pa_nil))))
def t_below_of (Γ : Wd) (K : PySem.W.Frag) (A_contrary : DS) : TS :=
  (tRet (tCall (spA Γ K A_contrary) [] E0 (tCons (tOp (rIx K) (tVar 0) (tC (.int 1))) tNil)))
theorem ps_below_of {P : Program} {w : World} {K : PySem.W.Frag} {mg : Str → Option Value} {base : Heap} {Tb : List Addr} {f : Addr} {A_contrary : DS} (M : Md K mg) (c_contrary : Cal P w K mg base 1 ("contrary" : Str) (spA ⟨P, w, Tb⟩ K A_contrary) []) {cdv : Value} {Ar : Around} {outer : List Env} {s : Shared} {H : Hp} {E : XK}
    (hr : Room 1 (Ar.deeper (envOfC ("below_of" : Str) sc_below_of s.heap.objs.size f cdv))) : PSs (cxOf CX0 P w K mg base N_below_of ("below_of" : Str) sc_below_of f cdv Ar outer s H E) (defBody st_below_of) (t_below_of ⟨P, w, Tb⟩ K A_contrary) := by
  have nd : N_below_of.Nodup := S_below_of.nd
  exact PSs.nox (pss_one (ps_ret (pe_c c_contrary hr (by decide) (by rfl) (pa_cons (pe_ix ix_seq (pv 0) pe_int (by intro _ _; rfl)) pa_nil))))
def t_ends_at (Γ : Wd) (K : PySem.W.Frag) : TS :=
  (tRet (tOp (L2.rIn K false) (tVar 1) (tOp (rIx K) (tVar 0) (tC (.int 2)))))
theorem ps_ends_at {P : Program} {w : World} {K : PySem.W.Frag} {mg : Str → Option Value} {base : Heap} {Tb : List Addr} {f : Addr} (M : Md K mg)  {cdv : Value} {Ar : Around} {outer : List Env} {s : Shared} {H : Hp} {E : XK}
    (hr : Room 0 (Ar.deeper (envOfC ("ends_at" : Str) sc_ends_at s.heap.objs.size f cdv))) : PSs (cxOf CX0 P w K mg base N_ends_at ("ends_at" : Str) sc_ends_at f cdv Ar outer s H E) (defBody st_ends_at) (t_ends_at ⟨P, w, Tb⟩ K) := by
  have nd : N_ends_at.Nodup := S_ends_at.nd
  exact PSs.nox (pss_one (ps_ret (pe_cmpR op_in_seq (pv 1) (pe_ix ix_seq (pv 0) pe_int (by intro _ _; rfl)) (by rfl))))
def t_is_corner (Γ : Wd) (K : PySem.W.Frag) : TS :=
  (tRet (tAndV (tOp (rEqD K) (tOp (rIx K) (tOp (rIx K) (tVar 0) (tC (.int 1))) (tC (.int 0))) (tC (.int 0))) (tOp (rEqD K) (tOp (rIx K) (tOp (rIx K) (tVar 0) (tC (.int 2))) (tC (.int 0))) (tC (.int 0)))))
theorem ps_is_corner {P : Program} {w : World} {K : PySem.W.Frag} {mg : Str → Option Value} {base : Heap} {Tb : List Addr} {f : Addr} (M : Md K mg)  {cdv : Value} {Ar : Around} {outer : List Env} {s : Shared} {H : Hp} {E : XK}
    (hr : Room 0 (Ar.deeper (envOfC ("is_corner" : Str) sc_is_corner s.heap.objs.size f cdv))) : PSs (cxOf CX0 P w K mg base N_is_corner ("is_corner" : Str) sc_is_corner f cdv Ar outer s H E) (defBody st_is_corner) (t_is_corner ⟨P, w, Tb⟩ K) := by
  have nd : N_is_corner.Nodup := S_is_corner.nd
  exact PSs.nox (pss_one (ps_ret (pe_and (pe_cmpR (op_eqD hr.units) (pe_ix ix_seq (pe_ix ix_seq (pv 0) pe_int (by intro _ _; rfl)) pe_int (by intro _ _; rfl)) pe_int (nomark _)) (pe_one (pe_cmpR (op_eqD hr.units) (pe_ix ix_seq (pe_ix ix_seq (pv 0) pe_int (by intro _ _; rfl)) pe_int (by intro _ _; rfl)) pe_int (nomark _))))))
def t_is_place (Γ : Wd) (K : PySem.W.Frag) (A_is_row : DS) (A_is_from_to : DS) (A_is_fraction : DS) (A_is_corner : DS) (A_ends_at : DS) : TS :=
  (tSeq (tIfS (tOr (tNot (tB (tCall (spA Γ K A_is_row) [] E0 (tCons (tVar 1) (tCons (tC (.int 3)) tNil))))) (tNot (tB (tCall (spA Γ K A_is_from_to) [] E0 (tCons (tOp (rIx K) (tVar 1) (tC (.int 0))) (tCons (tC (.int 0)) (tCons (tOp (rI0 fun i j => .int (i - j)) (tCB (fun xs H Q => ∃ p ys, xs = [.ref p] ∧ (SqL K H p ys ∨ SqT K H p ys) ∧ Q (.int ys.length) H) (tCons (tOp (rIx K) (tVar 0) (tC (.int 0))) tNil)) (tC (.int 1))) tNil)))))))
  (tRet (tC (.bl false)))
  tNext)
  (tSeq (tFor (iTup K (tSl (rSlT K) (tVar 1) (tPart (tC (.int 1))) tNoPart)) (gName 2)
  (tIfS (tOr (tNot (tB (tCall (spA Γ K A_is_fraction) [] E0 (tCons (tVar 2) tNil)))) (tNot (tTest (tChain (rI0 fun i j => .bl (decide (i ≤ j))) (rI0 fun i j => .bl (decide (i < j))) (tC (.int 0)) (tOp (rIx K) (tVar 2) (tC (.int 0))) (tOp (rIx K) (tVar 2) (tC (.int 1)))))))
  (tRet (tC (.bl false)))
  tNext))
  (tRet (tNotV (tAndV (tCall (spA Γ K A_is_corner) [] E0 (tCons (tVar 1) tNil)) (tCall (spA Γ K A_ends_at) [] E0 (tCons (tVar 0) (tCons (tOp (rIx K) (tVar 1) (tC (.int 0))) tNil))))))))
theorem ps_is_place {P : Program} {w : World} {K : PySem.W.Frag} {mg : Str → Option Value} {base : Heap} {Tb : List Addr} {f : Addr} {A_is_row : DS} {A_is_from_to : DS} {A_is_fraction : DS} {A_is_corner : DS} {A_ends_at : DS} (M : Md K mg) (c_is_row : Cal P w K mg base 1 ("is_row" : Str) (spA ⟨P, w, Tb⟩ K A_is_row) []) (c_is_from_to : Cal P w K mg base 2 ("is_from_to" : Str) (spA ⟨P, w, Tb⟩ K A_is_from_to) []) (c_is_fraction : Cal P w K mg base 2 ("is_fraction" : Str) (spA ⟨P, w, Tb⟩ K A_is_fraction) []) (c_is_corner : Cal P w K mg base 1 ("is_corner" : Str) (spA ⟨P, w, Tb⟩ K A_is_corner) []) (c_ends_at : Cal P w K mg base 1 ("ends_at" : Str) (spA ⟨P, w, Tb⟩ K A_ends_at) []) {cdv : Value} {Ar : Around} {outer : List Env} {s : Shared} {H : Hp} {E : XK}
    (hr : Room 2 (Ar.deeper (envOfC ("is_place" : Str) sc_is_place s.heap.objs.size f cdv))) : PSs (cxOf CX0 P w K mg base N_is_place ("is_place" : Str) sc_is_place f cdv Ar outer s H E) (defBody st_is_place) (t_is_place ⟨P, w, Tb⟩ K A_is_row A_is_from_to A_is_fraction A_is_corner A_ends_at) := by
  have nd : N_is_place.Nodup := S_is_place.nd
  exact PSs.nox (pss_cons (ps_if ((pw_or (pt_not (pt_val (pe_c c_is_row hr (by decide) (by rfl) (pa_cons (pv 1) (pa_cons pe_int pa_nil))))) (pw_or1 (pt_not (pt_val (pe_c c_is_from_to hr (by decide) (by rfl) (pa_cons (pe_ix ix_seq (pv 1) pe_int (by intro _ _; rfl)) (pa_cons pe_int (pa_cons (pe_op op_sub (pe_callB call_len_seq (by rfl) M.n_len bo_len (pa_cons (pe_ix ix_seq (pv 0) pe_int (by intro _ _; rfl)) pa_nil)) pe_int) pa_nil))))))))).pt
  (pss_one (ps_ret pe_bl))
  pss_nil)
  (pss_cons (ps_for PassesOwn.never rfl (pi_tup (pe_slice sl_tup (pv 1) (po_some pe_int) po_none)) (pg_name (i := 2) nd rfl (Or.inl rfl))
  (pss_one (ps_if ((pw_or (pt_not (pt_val (pe_c c_is_fraction hr (by decide) (by rfl) (pa_cons (pv 2) pa_nil)))) (pw_or1 (pt_not (pt_chain op_le op_lt pe_int (pe_ix ix_seq (pv 2) pe_int (by intro _ _; rfl)) (pe_ix ix_seq (pv 2) pe_int (by intro _ _; rfl))))))).pt
  (pss_one (ps_ret pe_bl))
  pss_nil)))
  (pss_one (ps_ret (pe_not (pe_and (pe_c c_is_corner hr (by decide) (by rfl) (pa_cons (pv 1) pa_nil)) (pe_one (pe_c c_ends_at hr (by decide) (by rfl) (pa_cons (pv 0) (pa_cons (pe_ix ix_seq (pv 1) pe_int (by intro _ _; rfl)) pa_nil))))))))))
def t_frac (Γ : Wd) (K : PySem.W.Frag) : TS :=
  (tSeq (tAsg (tCB rGcd (tCons (tVar 0) (tCons (tVar 1) tNil))) (gName 2))
  (tSeq (tIfS (tTest (tOp (rI0 fun i j => .bl (decide (i < j))) (tVar 1) (tC (.int 0))))
  (tAsg (tUn (rU fun i => .int (-i)) (tVar 2)) (gName 2))
  tNext)
  (tRet (tTup (tCons (tOp (rI CDiv fun i j => .int (i / j)) (tVar 0) (tVar 2)) (tCons (tOp (rI CDiv fun i j => .int (i / j)) (tVar 1) (tVar 2)) tNil))))))
theorem ps_frac {P : Program} {w : World} {K : PySem.W.Frag} {mg : Str → Option Value} {base : Heap} {Tb : List Addr} {f : Addr} (M : Md K mg)  {cdv : Value} {Ar : Around} {outer : List Env} {s : Shared} {H : Hp} {E : XK}
    (hr : Room 0 (Ar.deeper (envOfC ("frac" : Str) sc_frac s.heap.objs.size f cdv))) : PSs (cxOf CX0 P w K mg base N_frac ("frac" : Str) sc_frac f cdv Ar outer s H E) (defBody st_frac) (t_frac ⟨P, w, Tb⟩ K) := by
  have nd : N_frac.Nodup := S_frac.nd
  exact PSs.nox (pss_cons (ps_asg (pe_callBfun cr_gcd (by rfl) M.b_gcd (pa_cons (pv 0) (pa_cons (pv 1) pa_nil))) (pg_name (i := 2) nd rfl (Or.inl rfl)))
  (pss_cons (ps_if (pt_cmpR op_lt (pv 1) pe_int (nomark _))
  (pss_one (ps_asg (pe_un un_neg (pv 2)) (pg_name (i := 2) nd rfl (Or.inl rfl))))
  pss_nil)
  (pss_one (ps_ret (pe_tup (pa_cons (pe_op op_fdiv (pv 0) (pv 2)) (pa_cons (pe_op op_fdiv (pv 1) (pv 2)) pa_nil)))))))
def t_whole (Γ : Wd) (K : PySem.W.Frag) : TS :=
  (tRet (tTup (tCons (tVar 0) (tCons (tC (.int 1)) tNil))))
theorem ps_whole {P : Program} {w : World} {K : PySem.W.Frag} {mg : Str → Option Value} {base : Heap} {Tb : List Addr} {f : Addr} (M : Md K mg)  {cdv : Value} {Ar : Around} {outer : List Env} {s : Shared} {H : Hp} {E : XK}
    (hr : Room 0 (Ar.deeper (envOfC ("whole" : Str) sc_whole s.heap.objs.size f cdv))) : PSs (cxOf CX0 P w K mg base N_whole ("whole" : Str) sc_whole f cdv Ar outer s H E) (defBody st_whole) (t_whole ⟨P, w, Tb⟩ K) := by
  have nd : N_whole.Nodup := S_whole.nd
  exact PSs.nox (pss_one (ps_ret (pe_tup (pa_cons (pv 0) (pa_cons pe_int pa_nil)))))
def t_minus (Γ : Wd) (K : PySem.W.Frag) (A_frac : DS) : TS :=
  (tRet (tCall (spA Γ K A_frac) [] E0 (tCons (tOp (rI0 fun i j => .int (i - j)) (tOp (rI CMul fun i j => .int (i * j)) (tOp (rIx K) (tVar 0) (tC (.int 0))) (tOp (rIx K) (tVar 1) (tC (.int 1)))) (tOp (rI CMul fun i j => .int (i * j)) (tOp (rIx K) (tVar 1) (tC (.int 0))) (tOp (rIx K) (tVar 0) (tC (.int 1))))) (tCons (tOp (rI CMul fun i j => .int (i * j)) (tOp (rIx K) (tVar 0) (tC (.int 1))) (tOp (rIx K) (tVar 1) (tC (.int 1)))) tNil))))
theorem ps_minus {P : Program} {w : World} {K : PySem.W.Frag} {mg : Str → Option Value} {base : Heap} {Tb : List Addr} {f : Addr} {A_frac : DS} (M : Md K mg) (c_frac : Cal P w K mg base 1 ("frac" : Str) (spA ⟨P, w, Tb⟩ K A_frac) []) {cdv : Value} {Ar : Around} {outer : List Env} {s : Shared} {H : Hp} {E : XK}
    (hr : Room 1 (Ar.deeper (envOfC ("minus" : Str) sc_minus s.heap.objs.size f cdv))) : PSs (cxOf CX0 P w K mg base N_minus ("minus" : Str) sc_minus f cdv Ar outer s H E) (defBody st_minus) (t_minus ⟨P, w, Tb⟩ K A_frac) := by
  have nd : N_minus.Nodup := S_minus.nd
  exact PSs.nox (pss_one (ps_ret (pe_c c_frac hr (by decide) (by rfl) (pa_cons (pe_op op_sub (pe_op op_mul (pe_ix ix_seq (pv 0) pe_int (by intro _ _; rfl)) (pe_ix ix_seq (pv 1) pe_int (by intro _ _; rfl))) (pe_op op_mul (pe_ix ix_seq (pv 1) pe_int (by intro _ _; rfl)) (pe_ix ix_seq (pv 0) pe_int (by intro _ _; rfl)))) (pa_cons (pe_op op_mul (pe_ix ix_seq (pv 0) pe_int (by intro _ _; rfl)) (pe_ix ix_seq (pv 1) pe_int (by intro _ _; rfl))) pa_nil)))))
def t_Pairs___init__ (Γ : Wd) (K : PySem.W.Frag) (A_left_of : DS) (A_below_of : DS) : TS :=
  (tSeq (tAsg (tTup (tCons (tOp (rIx K) (tVar 1) (tC (.int 0))) (tCons (tOp (rIx K) (tVar 1) (tC (.int 1))) tNil))) (gTup K 2 (gCons (gFld K (tVar 0) ("right" : Str)) (gCons (gFld K (tVar 0) ("above" : Str)) gNil))))
  (tAsg (tTup (tCons (tCall (spA Γ K A_left_of) [] E0 (tCons (tVar 1) tNil)) (tCons (tCall (spA Γ K A_below_of) [] E0 (tCons (tVar 1) tNil)) tNil))) (gTup K 2 (gCons (gFld K (tVar 0) ("left" : Str)) (gCons (gFld K (tVar 0) ("below" : Str)) gNil)))))
theorem ps_Pairs___init__ {P : Program} {w : World} {K : PySem.W.Frag} {mg : Str → Option Value} {base : Heap} {Tb : List Addr} {f : Addr} {A_left_of : DS} {A_below_of : DS} (M : Md K mg) (c_left_of : Cal P w K mg base 2 ("left_of" : Str) (spA ⟨P, w, Tb⟩ K A_left_of) []) (c_below_of : Cal P w K mg base 2 ("below_of" : Str) (spA ⟨P, w, Tb⟩ K A_below_of) []) {cdv : Value} {Ar : Around} {outer : List Env} {s : Shared} {H : Hp} {E : XK}
    (hr : Room 2 (Ar.deeper (envOfC ("Pairs.__init__" : Str) sc_Pairs___init__ s.heap.objs.size f cdv))) : PSs (cxOf CX0 P w K mg base N_Pairs___init__ ("Pairs.__init__" : Str) sc_Pairs___init__ f cdv Ar outer s H E) (defBody st_Pairs___init__) (t_Pairs___init__ ⟨P, w, Tb⟩ K A_left_of A_below_of) := by
  have nd : N_Pairs___init__.Nodup := S_Pairs___init__.nd
  exact PSs.nox (pss_cons (ps_asg (pe_tup (pa_cons (pe_ix ix_seq (pv 1) pe_int (by intro _ _; rfl)) (pa_cons (pe_ix ix_seq (pv 1) pe_int (by intro _ _; rfl)) pa_nil))) (pg_tup rfl (pgs_cons (pg_fld (pv 0)) (pgs_cons (pg_fld (pv 0)) pgs_nil))))
  (pss_one (ps_asg (pe_tup (pa_cons (pe_c c_left_of hr (by decide) (by rfl) (pa_cons (pv 1) pa_nil)) (pa_cons (pe_c c_below_of hr (by decide) (by rfl) (pa_cons (pv 1) pa_nil)) pa_nil))) (pg_tup rfl (pgs_cons (pg_fld (pv 0)) (pgs_cons (pg_fld (pv 0)) pgs_nil))))))
def t_Pairs_first (Γ : Wd) (K : PySem.W.Frag) : TS :=
  (tSeq (tAsg (tVar 1) (gTup K 3 (gCons (gName 3) (gCons (gName 4) (gCons (gName 5) gNil)))))
  (tSeq (tPar 6 7 (tCons (tVar 3) (tCons (tVar 3) tNil)))
  (tSeq (tIfS (tTest (tOp (rEqD K) (tVar 4) (tC (gv K ("ZERO" : Str)))))
  (tAsg (tOp (rIx K) (tFld K (tVar 0) ("left" : Str)) (tVar 6)) (gName 6))
  tNext)
  (tSeq (tIfS (tTest (tOp (rEqD K) (tVar 5) (tC (gv K ("ZERO" : Str)))))
  (tAsg (tOp (rIx K) (tFld K (tVar 0) ("below" : Str)) (tVar 6)) (gName 6))
  tNext)
  (tSeq (tIfS (tAnd (tTest (tOp (rEqD K) (tVar 4) (tC (gv K ("ZERO" : Str))))) (tAnd (tTest (tOp (rNeD K) (tOp (rIx K) (tVar 2) (tC (.int 0))) (tOp (rIx K) (tVar 2) (tC (.int 1))))) (tTest (tOp (rEqD K) (tVar 5) (tC (gv K ("ZERO" : Str)))))))
  (tSeq (tPar 6 7 (tCons (tOp (rIx K) (tFld K (tVar 0) ("left" : Str)) (tVar 3)) (tCons (tOp (rIx K) (tFld K (tVar 0) ("below" : Str)) (tVar 3)) tNil)))
  (tRet (tIf (tTest (tOp (rI0 fun i j => .bl (decide (j < i))) (tOp (rIx K) (tVar 2) (tC (.int 0))) (tC (.int 0)))) (tTup (tCons (tVar 7) (tCons (tVar 6) tNil))) (tTup (tCons (tVar 6) (tCons (tVar 7) tNil))))))
  tNext)
  (tSeq (tAsg (tIf (tTest (tOp (rEqD K) (tVar 4) (tC (gv K ("ZERO" : Str))))) (tOp (rIx K) (tVar 2) (tC (.int 0))) (tOp (rIx K) (tVar 2) (tC (.int 1)))) (gName 8))
  (tRet (tIf (tTest (tOp (rI0 fun i j => .bl (decide (j < i))) (tVar 8) (tC (.int 0)))) (tTup (tCons (tVar 7) (tCons (tVar 6) tNil))) (tTup (tCons (tVar 6) (tCons (tVar 7) tNil)))))))))))
theorem ps_Pairs_first {P : Program} {w : World} {K : PySem.W.Frag} {mg : Str → Option Value} {base : Heap} {Tb : List Addr} {f : Addr} (M : Md K mg)  {cdv : Value} {Ar : Around} {outer : List Env} {s : Shared} {H : Hp} {E : XK}
    (hr : Room 0 (Ar.deeper (envOfC ("Pairs.first" : Str) sc_Pairs_first s.heap.objs.size f cdv))) : PSs (cxOf CX0 P w K mg base N_Pairs_first ("Pairs.first" : Str) sc_Pairs_first f cdv Ar outer s H E) (defBody st_Pairs_first) (t_Pairs_first ⟨P, w, Tb⟩ K) := by
  have nd : N_Pairs_first.Nodup := S_Pairs_first.nd
  exact PSs.nox (pss_cons (ps_asg (pv 1) (pg_tup rfl (pgs_cons (pg_name (i := 3) nd rfl (Or.inl rfl)) (pgs_cons (pg_name (i := 4) nd rfl (Or.inl rfl)) (pgs_cons (pg_name (i := 5) nd rfl (Or.inl rfl)) pgs_nil)))))
  (pss_cons (ps_par (i := 6) (j := 7) rfl nd rfl rfl (by decide) rfl rfl (pa_cons (pv 3) (pa_cons (pv 3) pa_nil)) rfl)
  (pss_cons (ps_if (pt_cmpR (op_eqD hr.units) (pv 4) (pe_gc M.c_ZERO (by rfl)) (nomark _))
  (pss_one (ps_asg (pe_ix ix_seq (pe_fld (pv 0) rfl) (pv 6) (by intro _ _; rfl)) (pg_name (i := 6) nd rfl (Or.inl rfl))))
  pss_nil)
  (pss_cons (ps_if (pt_cmpR (op_eqD hr.units) (pv 5) (pe_gc M.c_ZERO (by rfl)) (nomark _))
  (pss_one (ps_asg (pe_ix ix_seq (pe_fld (pv 0) rfl) (pv 6) (by intro _ _; rfl)) (pg_name (i := 6) nd rfl (Or.inl rfl))))
  pss_nil)
  (pss_cons (ps_if ((pw_and (pt_cmpR (op_eqD hr.units) (pv 4) (pe_gc M.c_ZERO (by rfl)) (nomark _)) (pw_and (pt_cmpR (op_neD hr.units) (pe_ix ix_seq (pv 2) pe_int (by intro _ _; rfl)) (pe_ix ix_seq (pv 2) pe_int (by intro _ _; rfl)) (nomark _)) (pw_and1 (pt_cmpR (op_eqD hr.units) (pv 5) (pe_gc M.c_ZERO (by rfl)) (nomark _)))))).pt
  (pss_cons (ps_par (i := 6) (j := 7) rfl nd rfl rfl (by decide) rfl rfl (pa_cons (pe_ix ix_seq (pe_fld (pv 0) rfl) (pv 3) (by intro _ _; rfl)) (pa_cons (pe_ix ix_seq (pe_fld (pv 0) rfl) (pv 3) (by intro _ _; rfl)) pa_nil)) rfl)
  (pss_one (ps_ret (pe_ifExp (pt_cmpR op_gt (pe_ix ix_seq (pv 2) pe_int (by intro _ _; rfl)) pe_int (nomark _)) (pe_tup (pa_cons (pv 7) (pa_cons (pv 6) pa_nil))) (pe_tup (pa_cons (pv 6) (pa_cons (pv 7) pa_nil)))))))
  pss_nil)
  (pss_cons (ps_asg (pe_ifExp (pt_cmpR (op_eqD hr.units) (pv 4) (pe_gc M.c_ZERO (by rfl)) (nomark _)) (pe_ix ix_seq (pv 2) pe_int (by intro _ _; rfl)) (pe_ix ix_seq (pv 2) pe_int (by intro _ _; rfl))) (pg_name (i := 8) nd rfl (Or.inl rfl)))
  (pss_one (ps_ret (pe_ifExp (pt_cmpR op_gt (pv 8) pe_int (nomark _)) (pe_tup (pa_cons (pv 7) (pa_cons (pv 6) pa_nil))) (pe_tup (pa_cons (pv 6) (pa_cons (pv 7) pa_nil))))))))))))
def t_Pairs_across (Γ : Wd) (K : PySem.W.Frag) : TS :=
  (tSeq (tAsg (tVar 1) (gTup K 2 (gCons (gName 3) (gCons (gName 4) gNil))))
  (tRet (tIf (tTest (tOp (rI0 fun i j => .bl (decide (j < i))) (tVar 2) (tC (.int 0)))) (tTup (tCons (tOp (rIx K) (tFld K (tVar 0) ("right" : Str)) (tVar 3)) (tCons (tOp (rIx K) (tFld K (tVar 0) ("left" : Str)) (tVar 4)) tNil))) (tTup (tCons (tOp (rIx K) (tFld K (tVar 0) ("left" : Str)) (tVar 3)) (tCons (tOp (rIx K) (tFld K (tVar 0) ("right" : Str)) (tVar 4)) tNil))))))
theorem ps_Pairs_across {P : Program} {w : World} {K : PySem.W.Frag} {mg : Str → Option Value} {base : Heap} {Tb : List Addr} {f : Addr} (M : Md K mg)  {cdv : Value} {Ar : Around} {outer : List Env} {s : Shared} {H : Hp} {E : XK}
    (hr : Room 0 (Ar.deeper (envOfC ("Pairs.across" : Str) sc_Pairs_across s.heap.objs.size f cdv))) : PSs (cxOf CX0 P w K mg base N_Pairs_across ("Pairs.across" : Str) sc_Pairs_across f cdv Ar outer s H E) (defBody st_Pairs_across) (t_Pairs_across ⟨P, w, Tb⟩ K) := by
  have nd : N_Pairs_across.Nodup := S_Pairs_across.nd
  exact PSs.nox (pss_cons (ps_asg (pv 1) (pg_tup rfl (pgs_cons (pg_name (i := 3) nd rfl (Or.inl rfl)) (pgs_cons (pg_name (i := 4) nd rfl (Or.inl rfl)) pgs_nil))))
  (pss_one (ps_ret (pe_ifExp (pt_cmpR op_gt (pv 2) pe_int (nomark _)) (pe_tup (pa_cons (pe_ix ix_seq (pe_fld (pv 0) rfl) (pv 3) (by intro _ _; rfl)) (pa_cons (pe_ix ix_seq (pe_fld (pv 0) rfl) (pv 4) (by intro _ _; rfl)) pa_nil))) (pe_tup (pa_cons (pe_ix ix_seq (pe_fld (pv 0) rfl) (pv 3) (by intro _ _; rfl)) (pa_cons (pe_ix ix_seq (pe_fld (pv 0) rfl) (pv 4) (by intro _ _; rfl)) pa_nil)))))))
def t_Pairs_upward (Γ : Wd) (K : PySem.W.Frag) : TS :=
  (tSeq (tAsg (tVar 1) (gTup K 2 (gCons (gName 3) (gCons (gName 4) gNil))))
  (tRet (tIf (tTest (tOp (rI0 fun i j => .bl (decide (j < i))) (tVar 2) (tC (.int 0)))) (tTup (tCons (tOp (rIx K) (tFld K (tVar 0) ("above" : Str)) (tVar 3)) (tCons (tOp (rIx K) (tFld K (tVar 0) ("below" : Str)) (tVar 4)) tNil))) (tTup (tCons (tOp (rIx K) (tFld K (tVar 0) ("below" : Str)) (tVar 3)) (tCons (tOp (rIx K) (tFld K (tVar 0) ("above" : Str)) (tVar 4)) tNil))))))
theorem ps_Pairs_upward {P : Program} {w : World} {K : PySem.W.Frag} {mg : Str → Option Value} {base : Heap} {Tb : List Addr} {f : Addr} (M : Md K mg)  {cdv : Value} {Ar : Around} {outer : List Env} {s : Shared} {H : Hp} {E : XK}
    (hr : Room 0 (Ar.deeper (envOfC ("Pairs.upward" : Str) sc_Pairs_upward s.heap.objs.size f cdv))) : PSs (cxOf CX0 P w K mg base N_Pairs_upward ("Pairs.upward" : Str) sc_Pairs_upward f cdv Ar outer s H E) (defBody st_Pairs_upward) (t_Pairs_upward ⟨P, w, Tb⟩ K) := by
  have nd : N_Pairs_upward.Nodup := S_Pairs_upward.nd
  exact PSs.nox (pss_cons (ps_asg (pv 1) (pg_tup rfl (pgs_cons (pg_name (i := 3) nd rfl (Or.inl rfl)) (pgs_cons (pg_name (i := 4) nd rfl (Or.inl rfl)) pgs_nil))))
  (pss_one (ps_ret (pe_ifExp (pt_cmpR op_gt (pv 2) pe_int (nomark _)) (pe_tup (pa_cons (pe_ix ix_seq (pe_fld (pv 0) rfl) (pv 3) (by intro _ _; rfl)) (pa_cons (pe_ix ix_seq (pe_fld (pv 0) rfl) (pv 4) (by intro _ _; rfl)) pa_nil))) (pe_tup (pa_cons (pe_ix ix_seq (pe_fld (pv 0) rfl) (pv 3) (by intro _ _; rfl)) (pa_cons (pe_ix ix_seq (pe_fld (pv 0) rfl) (pv 4) (by intro _ _; rfl)) pa_nil)))))))
def t_Pairs_closed (Γ : Wd) (K : PySem.W.Frag) (A_Pairs_across : DS) (A_Pairs_upward : DS) : TS :=
  (tSeq (tPar 2 3 (tCons (ND.tDisp1 Γ.P Γ.w K (tVar 1) (tC (.bl true))) (tCons (tLst (tCons (tVar 1) tNil)) tNil)))
  (tSeq (tWhile (tTru K (tVar 3))
  (tSeq (tAsg (tBM0 K "list" rPop (tVar 3)) (gName 4))
  (tFor (iTup K (tTup (tCons (tMeth (ga K ("Pairs" : Str)) ("across" : Str) (spA Γ K A_Pairs_across) [] E0 (tVar 0) (tCons (tVar 4) (tCons (tC (.int 1)) tNil))) (tCons (tMeth (ga K ("Pairs" : Str)) ("upward" : Str) (spA Γ K A_Pairs_upward) [] E0 (tVar 0) (tCons (tVar 4) (tCons (tC (.int 1)) tNil))) tNil)))) (gName 5)
  (tIfS (tTest (tOp (ND.rIn Γ.P Γ.w K true) (tVar 5) (tVar 2)))
  (tSeq (tAsg (tC (.bl true)) (gSub (tVar 2) (tVar 5) (ND.rSet Γ.P Γ.w K)))
  (tDrop (tBM K "list" rAppend (tVar 3) (tCons (tVar 5) tNil))))
  tNext))))
  (tRet (tVar 2))))
theorem ps_Pairs_closed {P : Program} {w : World} {K : PySem.W.Frag} {mg : Str → Option Value} {base : Heap} {Tb : List Addr} {f : Addr} {A_Pairs_across : DS} {A_Pairs_upward : DS} (M : Md K mg) (c_Pairs_across : Met P w K mg base 1 (ga K ("Pairs" : Str)) ("across" : Str) (spA ⟨P, w, Tb⟩ K A_Pairs_across) []) (c_Pairs_upward : Met P w K mg base 1 (ga K ("Pairs" : Str)) ("upward" : Str) (spA ⟨P, w, Tb⟩ K A_Pairs_upward) []) {cdv : Value} {Ar : Around} {outer : List Env} {s : Shared} {H : Hp} {E : XK}
    (hr : Room 1 (Ar.deeper (envOfC ("Pairs.closed" : Str) sc_Pairs_closed s.heap.objs.size f cdv))) : PSs (cxOf CX0 P w K mg base N_Pairs_closed ("Pairs.closed" : Str) sc_Pairs_closed f cdv Ar outer s H E) (defBody st_Pairs_closed) (t_Pairs_closed ⟨P, w, Tb⟩ K A_Pairs_across A_Pairs_upward) := by
  have nd : N_Pairs_closed.Nodup := S_Pairs_closed.nd
  exact PSs.nox (pss_cons (ps_par (i := 2) (j := 3) rfl nd rfl rfl (by decide) rfl rfl (pa_cons (ND.pe_disp1 hr.u8 (pv 1) pe_bl) (pa_cons (pe_lst (pa_cons (pv 1) pa_nil)) pa_nil)) rfl)
  (pss_cons (ps_while PassesOwn.never (pt_truth (pv 3) (by intro _; rfl))
  (pss_cons (ps_asg (pe_bm0 PySem.F.plainAttrs_list PySem.F.slot_list_pop PySem.F.type_list_pop mt_pop (pv 3)) (pg_name (i := 4) nd rfl (Or.inl rfl)))
  (pss_one (ps_for PassesOwn.never rfl (pi_tup (pe_tup (pa_cons (pe_mt c_Pairs_across hr (by decide) (pv 0) (pa_cons (pv 4) (pa_cons pe_int pa_nil))) (pa_cons (pe_mt c_Pairs_upward hr (by decide) (pv 0) (pa_cons (pv 4) (pa_cons pe_int pa_nil))) pa_nil)))) (pg_name (i := 5) nd rfl (Or.inl rfl))
  (pss_one (ps_if (pt_cmpR (ND.op_notIn hr.u9) (pv 5) (pv 2) (by rfl))
  (pss_cons (ps_asg pe_bl (pg_sub (pv 2) (pv 5) (ND.set_nd hr.u9)))
  (pss_one (ps_expr (pe_bm PySem.F.plainAttrs_list PySem.F.slot_list_append PySem.F.type_list_append mt_append (pv 3) (pa_cons (pv 5) pa_nil)))))
  pss_nil))))))
  (pss_one (ps_ret (pv 2)))))
def t_halves (Γ : Wd) (K : PySem.W.Frag) (A_Pairs : DI) (A_Pairs_closed : DS) (A_Pairs_first : DS) : TS :=
  (tSeq (tAsg (tMake (ga K ("Pairs" : Str)) (spI Γ K (ga K ("Pairs" : Str)) A_Pairs) [] E0 (tCons (tVar 0) tNil)) (gName 2))
  (tRet (tCB (fun xs H Q => ∃ p ys, xs = [.ref p] ∧ ((SqL K H p ys ∧ ∀ l, H l = none → Q (.ref l) (upd H l (.tup ys))) ∨ (SqT K H p ys ∧ Q (.ref p) H))) (tCons (tCB (rSortNE Γ.P Γ.w K) (tCons (tMeth (ga K ("Pairs" : Str)) ("closed" : Str) (spA Γ K A_Pairs_closed) [] E0 (tVar 2) (tCons (tMeth (ga K ("Pairs" : Str)) ("first" : Str) (spA Γ K A_Pairs_first) [] E0 (tVar 2) (tCons (tVar 1) (tCons (tTup (tCons (tC (.int 1)) (tCons (tC (.int 1)) tNil))) tNil))) tNil)) tNil)) tNil))))
theorem ps_halves {P : Program} {w : World} {K : PySem.W.Frag} {mg : Str → Option Value} {base : Heap} {Tb : List Addr} {f : Addr} {A_Pairs : DI} {A_Pairs_closed : DS} {A_Pairs_first : DS} (M : Md K mg) (c_Pairs : Mak P w K mg base 3 ("Pairs" : Str) (ga K ("Pairs" : Str)) (spI ⟨P, w, Tb⟩ K (ga K ("Pairs" : Str)) A_Pairs) []) (c_Pairs_closed : Met P w K mg base 2 (ga K ("Pairs" : Str)) ("closed" : Str) (spA ⟨P, w, Tb⟩ K A_Pairs_closed) []) (c_Pairs_first : Met P w K mg base 1 (ga K ("Pairs" : Str)) ("first" : Str) (spA ⟨P, w, Tb⟩ K A_Pairs_first) []) {cdv : Value} {Ar : Around} {outer : List Env} {s : Shared} {H : Hp} {E : XK}
    (hr : Room 4 (Ar.deeper (envOfC ("halves" : Str) sc_halves s.heap.objs.size f cdv))) : PSs (cxOf CX0 P w K mg base N_halves ("halves" : Str) sc_halves f cdv Ar outer s H E) (defBody st_halves) (t_halves ⟨P, w, Tb⟩ K A_Pairs A_Pairs_closed A_Pairs_first) := by
  have nd : N_halves.Nodup := S_halves.nd
  exact PSs.nox (pss_cons (ps_asg (pe_mk c_Pairs hr (by decide) (by rfl) (pa_cons (pv 0) pa_nil)) (pg_name (i := 2) nd rfl (Or.inl rfl)))
  (pss_one (ps_ret (pe_callTy call_tuple_of (by rfl) M.n_tuple bo_tuple (pa_cons (pe_callB (cr_sortNE rfl) (by rfl) M.n_sorted bo_sorted (pa_cons (pe_mt c_Pairs_closed hr (by decide) (pv 2) (pa_cons (pe_mt c_Pairs_first hr (by decide) (pv 2) (pa_cons (pv 1) (pa_cons (pe_tup (pa_cons pe_int (pa_cons pe_int pa_nil))) pa_nil))) pa_nil)) pa_nil)) pa_nil)))))
def t_half_places (Γ : Wd) (K : PySem.W.Frag) (A_is_place : DS) : TS :=
  (tSeq (tAsg (tLst tNil) (gName 1))
  (tSeq (tFor (iRng1 (tCons (tCB (fun xs H Q => ∃ p ys, xs = [.ref p] ∧ (SqL K H p ys ∨ SqT K H p ys) ∧ Q (.int ys.length) H) (tCons (tOp (rIx K) (tVar 0) (tC (.int 0))) tNil)) tNil)) (gName 2)
  (tFor (iTup K (tTup (tCons (tC (gv K ("ZERO" : Str))) (tCons (tC (gv K ("HALF_contraries" : Str))) tNil)))) (gName 3)
  (tDrop (tBM K "list" rExtend (tVar 1) (tCons (tLc (iTup K (tTup (tCons (tC (gv K ("ZERO" : Str))) (tCons (tC (gv K ("HALF_contraries" : Str))) tNil)))) (gName 4) (tB (tCall (spA Γ K A_is_place) [] E0 (tCons (tVar 0) (tCons (tTup (tCons (tVar 2) (tCons (tVar 3) (tCons (tVar 4) tNil)))) tNil)))) (tTup (tCons (tVar 2) (tCons (tVar 3) (tCons (tVar 4) tNil)))) [4]) tNil)))))
  (tRet (tVar 1))))
theorem ps_half_places {P : Program} {w : World} {K : PySem.W.Frag} {mg : Str → Option Value} {base : Heap} {Tb : List Addr} {f : Addr} {A_is_place : DS} (M : Md K mg) (c_is_place : Cal P w K mg base 3 ("is_place" : Str) (spA ⟨P, w, Tb⟩ K A_is_place) []) {cdv : Value} {Ar : Around} {outer : List Env} {s : Shared} {H : Hp} {E : XK}
    (hr : Room 3 (Ar.deeper (envOfC ("half_places" : Str) sc_half_places s.heap.objs.size f cdv))) : PSs (cxOf CX0 P w K mg base N_half_places ("half_places" : Str) sc_half_places f cdv Ar outer s H E) (defBody st_half_places) (t_half_places ⟨P, w, Tb⟩ K A_is_place) := by
  have nd : N_half_places.Nodup := S_half_places.nd
  exact PSs.nox (pss_cons (ps_asg (pe_lst pa_nil) (pg_name (i := 1) nd rfl (Or.inl rfl)))
  (pss_cons (ps_for PassesOwn.never rfl (pi_range1 (by rfl) M.n_range (pa_cons (pe_callB call_len_seq (by rfl) M.n_len bo_len (pa_cons (pe_ix ix_seq (pv 0) pe_int (by intro _ _; rfl)) pa_nil)) pa_nil)) (pg_name (i := 2) nd rfl (Or.inr rfl))
  (pss_one (ps_for PassesOwn.never rfl (pi_tup (pe_tup (pa_cons (pe_gc M.c_ZERO (by rfl)) (pa_cons (pe_gc M.c_HALF_contraries (by rfl)) pa_nil)))) (pg_name (i := 3) nd rfl (Or.inr rfl))
  (pss_one (ps_expr (pe_bm PySem.F.plainAttrs_list PySem.F.slot_list_extend PySem.F.type_list_extend mt_extend (pv 1) (pa_cons (pe_lc (own := [(("y" : Str), 4)]) (g := (gName 4)) (tt := (tB (tCall (spA (⟨P, w, Tb⟩ : Wd) K A_is_place) [] E0 (tCons (tVar 0) (tCons (tTup (tCons (tVar 2) (tCons (tVar 3) (tCons (tVar 4) tNil)))) tNil))))) rfl nd (pi_tup (pe_tup (pa_cons (pe_gc M.c_ZERO (by rfl)) (pa_cons (pe_gc M.c_HALF_contraries (by rfl)) pa_nil)))) (blkOk_by (own := [(("y" : Str), 4)]) (N := N_half_places) (sc := sc_half_places) (by decide +kernel)) (fun _ _ _ _ _ => (pg_name (i := 4) nd rfl (Or.inl rfl))) (fun _ _ _ _ _ => (pts_one (pt_val (pe_c c_is_place hr (by decide) (by rfl) (pa_cons (pv 0) (pa_cons (pe_tup (pa_cons (pv 2) (pa_cons (pv 3) (pa_cons (pv 4) pa_nil)))) pa_nil)))))) (fun _ _ _ _ _ => (pe_tup (pa_cons (pv 2) (pa_cons (pv 3) (pa_cons (pv 4) pa_nil)))))) pa_nil)))))))
  (pss_one (ps_ret (pv 1)))))
def t_needed (Γ : Wd) (K : PySem.W.Frag) (A_Pairs : DI) (A_Pairs_closed : DS) (A_half_places : DS) (A_Pairs_first : DS) : TS :=
  (tSeq (tAsg (tMake (ga K ("Pairs" : Str)) (spI Γ K (ga K ("Pairs" : Str)) A_Pairs) [] E0 (tCons (tVar 0) tNil)) (gName 3))
  (tSeq (tAsg (tMeth (ga K ("Pairs" : Str)) ("closed" : Str) (spA Γ K A_Pairs_closed) [] E0 (tVar 3) (tCons (tTup (tCons (tVar 2) (tCons (tVar 1) tNil))) tNil)) (gName 4))
  (tRet (tCB (fun xs H Q => ∃ p ys, xs = [.ref p] ∧ ((SqL K H p ys ∧ ∀ l, H l = none → Q (.ref l) (upd H l (.tup ys))) ∨ (SqT K H p ys ∧ Q (.ref p) H))) (tCons (tLc (iList K (tCall (spA Γ K A_half_places) [] E0 (tCons (tVar 0) tNil))) (gName 5) (tTest (tOp (ND.rIn Γ.P Γ.w K false) (tMeth (ga K ("Pairs" : Str)) ("first" : Str) (spA Γ K A_Pairs_first) [] E0 (tVar 3) (tCons (tVar 5) (tCons (tTup (tCons (tC (.int 1)) (tCons (tC (.int 1)) tNil))) tNil))) (tVar 4))) (tVar 5) [5]) tNil)))))
theorem ps_needed {P : Program} {w : World} {K : PySem.W.Frag} {mg : Str → Option Value} {base : Heap} {Tb : List Addr} {f : Addr} {A_Pairs : DI} {A_Pairs_closed : DS} {A_half_places : DS} {A_Pairs_first : DS} (M : Md K mg) (c_Pairs : Mak P w K mg base 3 ("Pairs" : Str) (ga K ("Pairs" : Str)) (spI ⟨P, w, Tb⟩ K (ga K ("Pairs" : Str)) A_Pairs) []) (c_Pairs_closed : Met P w K mg base 2 (ga K ("Pairs" : Str)) ("closed" : Str) (spA ⟨P, w, Tb⟩ K A_Pairs_closed) []) (c_half_places : Cal P w K mg base 4 ("half_places" : Str) (spA ⟨P, w, Tb⟩ K A_half_places) []) (c_Pairs_first : Met P w K mg base 1 (ga K ("Pairs" : Str)) ("first" : Str) (spA ⟨P, w, Tb⟩ K A_Pairs_first) []) {cdv : Value} {Ar : Around} {outer : List Env} {s : Shared} {H : Hp} {E : XK}
    (hr : Room 4 (Ar.deeper (envOfC ("needed" : Str) sc_needed s.heap.objs.size f cdv))) : PSs (cxOf CX0 P w K mg base N_needed ("needed" : Str) sc_needed f cdv Ar outer s H E) (defBody st_needed) (t_needed ⟨P, w, Tb⟩ K A_Pairs A_Pairs_closed A_half_places A_Pairs_first) := by
  have nd : N_needed.Nodup := S_needed.nd
  exact PSs.nox (pss_cons (ps_asg (pe_mk c_Pairs hr (by decide) (by rfl) (pa_cons (pv 0) pa_nil)) (pg_name (i := 3) nd rfl (Or.inr rfl)))
  (pss_cons (ps_asg (pe_mt c_Pairs_closed hr (by decide) (pv 3) (pa_cons (pe_tup (pa_cons (pv 2) (pa_cons (pv 1) pa_nil))) pa_nil)) (pg_name (i := 4) nd rfl (Or.inr rfl)))
  (pss_one (ps_ret (pe_callTy call_tuple_of (by rfl) M.n_tuple bo_tuple (pa_cons (pe_lc (own := [(("half" : Str), 5)]) (g := (gName 5)) (tt := (tTest (tOp (ND.rIn (⟨P, w, Tb⟩ : Wd).P (⟨P, w, Tb⟩ : Wd).w K false) (tMeth (ga K ("Pairs" : Str)) ("first" : Str) (spA (⟨P, w, Tb⟩ : Wd) K A_Pairs_first) [] E0 (tVar 3) (tCons (tVar 5) (tCons (tTup (tCons (tC (.int 1)) (tCons (tC (.int 1)) tNil))) tNil))) (tVar 4)))) rfl nd (pi_list (pe_c c_half_places hr (by decide) (by rfl) (pa_cons (pv 0) pa_nil))) (blkOk_by (own := [(("half" : Str), 5)]) (N := N_needed) (sc := sc_needed) (by decide +kernel)) (fun _ _ _ _ _ => (pg_name (i := 5) nd rfl (Or.inl rfl))) (fun _ _ _ _ _ => (pts_one (pt_cmpR (ND.op_in hr.u9) (pe_mt c_Pairs_first hr (by decide) (pv 3) (pa_cons (pv 5) (pa_cons (pe_tup (pa_cons pe_int (pa_cons pe_int pa_nil))) pa_nil))) (pv 4) (by rfl)))) (fun _ _ _ _ _ => (pv 5))) pa_nil))))))
def t_turn_from (Γ : Wd) (K : PySem.W.Frag) (A_left_of : DS) (A_below_of : DS) : TS :=
  (tSeq (tAsg (tVar 0) (gTup K 3 (gCons (gName 2) (gCons (gName 3) (gCons (gName 4) gNil)))))
  (tSeq (tPar 5 6 (tCons (tCall (spA Γ K A_left_of) [] E0 (tCons (tVar 0) tNil)) (tCons (tCall (spA Γ K A_below_of) [] E0 (tCons (tVar 0) tNil)) tNil)))
  (tSeq (tAsg (tTup (tCons (tDisp [((tC (.int 0)), (tVar 1))]) (tCons (tLst (tCons (tC (.int 0)) tNil)) tNil))) (gTup K 2 (gCons (gName 7) (gCons (gName 8) gNil))))
  (tSeq (tWhile (tTru K (tVar 8))
  (tSeq (tAsg (tBM0 K "list" rPop (tVar 8)) (gName 9))
  (tFor (iTup K (tTup (tCons (tTup (tCons (tOp (rIx K) (tVar 2) (tVar 9)) (tCons (tOp (rIx K) (tVar 5) (tDGet (tVar 7) (tVar 9))) tNil))) (tCons (tTup (tCons (tOp (rIx K) (tVar 3) (tVar 9)) (tCons (tOp (rIx K) (tVar 6) (tDGet (tVar 7) (tVar 9))) tNil))) tNil)))) (gTup K 2 (gCons (gName 10) (gCons (gName 11) gNil)))
  (tIfS (tB (tDNotIn (tVar 10) (tVar 7)))
  (tSeq (tAsg (tVar 11) (gSub (tVar 7) (tVar 10) rSetD))
  (tDrop (tBM K "list" rAppend (tVar 8) (tCons (tVar 10) tNil))))
  (tIfS (tTest (tOp (rNeD K) (tDGet (tVar 7) (tVar 10)) (tVar 11)))
  (tRet (tTup tNil))
  tNext)))))
  (tRet (tCB (fun xs H Q => ∃ p ys, xs = [.ref p] ∧ ((SqL K H p ys ∧ ∀ l, H l = none → Q (.ref l) (upd H l (.tup ys))) ∨ (SqT K H p ys ∧ Q (.ref p) H))) (tCons (tLc (iRng1 (tCons (tCB (fun xs H Q => ∃ p ys, xs = [.ref p] ∧ (SqL K H p ys ∨ SqT K H p ys) ∧ Q (.int ys.length) H) (tCons (tVar 2) tNil)) tNil)) (gName 9) tYes (tDGet (tVar 7) (tVar 9)) [9]) tNil)))))))
theorem ps_turn_from {P : Program} {w : World} {K : PySem.W.Frag} {mg : Str → Option Value} {base : Heap} {Tb : List Addr} {f : Addr} {A_left_of : DS} {A_below_of : DS} (M : Md K mg) (c_left_of : Cal P w K mg base 2 ("left_of" : Str) (spA ⟨P, w, Tb⟩ K A_left_of) []) (c_below_of : Cal P w K mg base 2 ("below_of" : Str) (spA ⟨P, w, Tb⟩ K A_below_of) []) {cdv : Value} {Ar : Around} {outer : List Env} {s : Shared} {H : Hp} {E : XK}
    (hr : Room 2 (Ar.deeper (envOfC ("turn_from" : Str) sc_turn_from s.heap.objs.size f cdv))) : PSs (cxOf CX0 P w K mg base N_turn_from ("turn_from" : Str) sc_turn_from f cdv Ar outer s H E) (defBody st_turn_from) (t_turn_from ⟨P, w, Tb⟩ K A_left_of A_below_of) := by
  have nd : N_turn_from.Nodup := S_turn_from.nd
  exact PSs.nox (pss_cons (ps_asg (pv 0) (pg_tup rfl (pgs_cons (pg_name (i := 2) nd rfl (Or.inl rfl)) (pgs_cons (pg_name (i := 3) nd rfl (Or.inl rfl)) (pgs_cons (pg_name (i := 4) nd rfl (Or.inl rfl)) pgs_nil)))))
  (pss_cons (ps_par (i := 5) (j := 6) rfl nd rfl rfl (by decide) rfl rfl (pa_cons (pe_c c_left_of hr (by decide) (by rfl) (pa_cons (pv 0) pa_nil)) (pa_cons (pe_c c_below_of hr (by decide) (by rfl) (pa_cons (pv 0) pa_nil)) pa_nil)) rfl)
  (pss_cons (ps_asg (pe_tup (pa_cons (pe_disp (pps_cons pe_int (pv 1) pps_nil) rfl rfl (by decide) (by decide)) (pa_cons (pe_lst (pa_cons pe_int pa_nil)) pa_nil))) (pg_tup rfl (pgs_cons (pg_name (i := 7) nd rfl (Or.inr rfl)) (pgs_cons (pg_name (i := 8) nd rfl (Or.inl rfl)) pgs_nil))))
  (pss_cons (ps_while PassesOwn.never (pt_truth (pv 8) (by intro _; rfl))
  (pss_cons (ps_asg (pe_bm0 PySem.F.plainAttrs_list PySem.F.slot_list_pop PySem.F.type_list_pop mt_pop (pv 8)) (pg_name (i := 9) nd rfl (Or.inl rfl)))
  (pss_one (ps_for PassesOwn.never rfl (pi_tup (pe_tup (pa_cons (pe_tup (pa_cons (pe_ix ix_seq (pv 2) (pv 9) (by intro _ _; rfl)) (pa_cons (pe_ix ix_seq (pv 5) (pe_dget hr.u1 (pv 7) (pv 9) (by intro _ _; rfl)) (by intro _ _; rfl)) pa_nil))) (pa_cons (pe_tup (pa_cons (pe_ix ix_seq (pv 3) (pv 9) (by intro _ _; rfl)) (pa_cons (pe_ix ix_seq (pv 6) (pe_dget hr.u1 (pv 7) (pv 9) (by intro _ _; rfl)) (by intro _ _; rfl)) pa_nil))) pa_nil)))) (pg_tup rfl (pgs_cons (pg_name (i := 10) nd rfl (Or.inl rfl)) (pgs_cons (pg_name (i := 11) nd rfl (Or.inl rfl)) pgs_nil)))
  (pss_one (ps_if (pt_cmp (pc_dnotin hr.u1 (pv 10) (pv 7)))
  (pss_cons (ps_asg (pv 11) (pg_sub (pv 7) (pv 10) (set_dict hr.u1)))
  (pss_one (ps_expr (pe_bm PySem.F.plainAttrs_list PySem.F.slot_list_append PySem.F.type_list_append mt_append (pv 8) (pa_cons (pv 10) pa_nil)))))
  (pss_one (ps_if (pt_cmpR (op_neD hr.units) (pe_dget hr.u1 (pv 7) (pv 10) (by intro _ _; rfl)) (pv 11) (nomark _))
  (pss_one (ps_ret (pe_tup pa_nil)))
  pss_nil))))))))
  (pss_one (ps_ret (pe_callTy call_tuple_of (by rfl) M.n_tuple bo_tuple (pa_cons (pe_lc (own := [(("square" : Str), 9)]) (g := (gName 9)) (tt := tYes) rfl nd (pi_range1 (by rfl) M.n_range (pa_cons (pe_callB call_len_seq (by rfl) M.n_len bo_len (pa_cons (pv 2) pa_nil)) pa_nil)) (blkOk_by (own := [(("square" : Str), 9)]) (N := N_turn_from) (sc := sc_turn_from) (by decide +kernel)) (fun _ _ _ _ _ => (pg_name (i := 9) nd rfl (Or.inl rfl))) (fun _ _ _ _ _ => pts_nil) (fun _ _ _ _ _ => (pe_dget hr.u1 (pv 7) (pv 9) (by intro _ _; rfl)))) pa_nil))))))))
def t_far_corner (Γ : Wd) (K : PySem.W.Frag) : TS :=
  (tRet (tOp (rIx K) (tOp (rIx K) (tVar 0) (tC (.int 1))) (tOp (rIx K) (tOp (rIx K) (tVar 0) (tC (.int 0))) (tVar 1))))
theorem ps_far_corner {P : Program} {w : World} {K : PySem.W.Frag} {mg : Str → Option Value} {base : Heap} {Tb : List Addr} {f : Addr} (M : Md K mg)  {cdv : Value} {Ar : Around} {outer : List Env} {s : Shared} {H : Hp} {E : XK}
    (hr : Room 0 (Ar.deeper (envOfC ("far_corner" : Str) sc_far_corner s.heap.objs.size f cdv))) : PSs (cxOf CX0 P w K mg base N_far_corner ("far_corner" : Str) sc_far_corner f cdv Ar outer s H E) (defBody st_far_corner) (t_far_corner ⟨P, w, Tb⟩ K) := by
  have nd : N_far_corner.Nodup := S_far_corner.nd
  exact PSs.nox (pss_one (ps_ret (pe_ix ix_seq (pe_ix ix_seq (pv 0) pe_int (by intro _ _; rfl)) (pe_ix ix_seq (pe_ix ix_seq (pv 0) pe_int (by intro _ _; rfl)) (pv 1) (by intro _ _; rfl)) (by intro _ _; rfl))))
def t_keeps_ends (Γ : Wd) (K : PySem.W.Frag) (A_ends_at : DS) (A_far_corner : DS) : TS :=
  (tRet (GX.tGx true (He.cT K (("keeps_ends" : Str), none)).2 (iRng1 (tCons (tCB (fun xs H Q => ∃ p ys, xs = [.ref p] ∧ (SqL K H p ys ∨ SqT K H p ys) ∧ Q (.int ys.length) H) (tCons (tVar 1) tNil)) tNil)) (gName 2) tYes (tOp (rEqD K) (tCall (spA Γ K A_ends_at) [] E0 (tCons (tVar 0) (tCons (tVar 2) tNil))) (tCall (spA Γ K A_ends_at) [] E0 (tCons (tVar 0) (tCons (tCall (spA Γ K A_far_corner) [] E0 (tCons (tVar 0) (tCons (tOp (rIx K) (tVar 1) (tVar 2)) tNil))) tNil)))) [2]))
theorem ps_keeps_ends {P : Program} {w : World} {K : PySem.W.Frag} {mg : Str → Option Value} {base : Heap} {Tb : List Addr} {f : Addr} {A_ends_at : DS} {A_far_corner : DS} (M : Md K mg) (c_ends_at : Cal P w K mg base 1 ("ends_at" : Str) (spA ⟨P, w, Tb⟩ K A_ends_at) []) (c_far_corner : Cal P w K mg base 1 ("far_corner" : Str) (spA ⟨P, w, Tb⟩ K A_far_corner) []) (TB : GxR.TabB base mg (He.cT K (("keeps_ends" : Str), none)).1 (He.cT K (("keeps_ends" : Str), none)).2) {Ar : Around} {outer : List Env} {s : Shared} {H : Hp} {E : XK}
    (hr : Room 2 (Ar.deeper (envOfC ("keeps_ends" : Str) sc_keeps_ends s.heap.objs.size f (.ref (He.codeOf K (("keeps_ends" : Str), none)))))) : PSs (cxOf CX0 P w K mg base N_keeps_ends ("keeps_ends" : Str) sc_keeps_ends f (.ref (He.codeOf K (("keeps_ends" : Str), none))) Ar outer s H E) (defBody st_keeps_ends) (t_keeps_ends ⟨P, w, Tb⟩ K A_ends_at A_far_corner) := by
  have nd : N_keeps_ends.Nodup := S_keeps_ends.nd
  exact PSs.nox (pss_one (ps_ret (GX.pe_allG (own := [(("square" : Str), 2)]) (g := (gName 2)) (tt := tYes) hr (by rfl) M.n_all boot_all TB rfl rfl nd (pi_range1 (by rfl) M.n_range (pa_cons (pe_callB call_len_seq (by rfl) M.n_len bo_len (pa_cons (pv 1) pa_nil)) pa_nil)) (blkOk_by (own := [(("square" : Str), 2)]) (N := N_keeps_ends) (sc := sc_keeps_ends) (by decide +kernel)) (by decide +kernel) rfl (by decide +kernel) (fun Ar s H C cl code fp pn hr => (pg_name (i := 2) nd rfl (Or.inl rfl))) (fun Ar s H C cl code fp pn hr => pts_nil) (fun Ar s H C cl code fp pn hr => (pe_cmpR (op_eqD hr.units) (pe_c c_ends_at hr (by decide) (by rfl) (pa_cons (pv 0) (pa_cons (pv 2) pa_nil))) (pe_c c_ends_at hr (by decide) (by rfl) (pa_cons (pv 0) (pa_cons (pe_c c_far_corner hr (by decide) (by rfl) (pa_cons (pv 0) (pa_cons (pe_ix ix_seq (pv 1) (pv 2) (by intro _ _; rfl)) pa_nil))) pa_nil))) (nomark _))))))
def t_half_turns (Γ : Wd) (K : PySem.W.Frag) (A_turn_from : DS) (A_keeps_ends : DS) : TS :=
  (tSeq (tAsg (tCB (fun xs H Q => ∃ p ys, xs = [.ref p] ∧ (SqL K H p ys ∨ SqT K H p ys) ∧ Q (.int ys.length) H) (tCons (tOp (rIx K) (tVar 0) (tC (.int 0))) tNil)) (gName 1))
  (tSeq (tAsg (tLst tNil) (gName 2))
  (tSeq (tFor (iRng1 (tCons (tVar 1) tNil)) (gName 3)
  (tSeq (tAsg (tCall (spA Γ K A_turn_from) [] E0 (tCons (tVar 0) (tCons (tVar 3) tNil))) (gName 4))
  (tIfS (tAnd (tTru K (tVar 4)) (tAnd (tTest (tOp (rEqD K) (tCB (fun xs H Q => ∃ a kvs, xs = [V.ref a] ∧ H a = some (.dK kvs) ∧ Q (.int kvs.length) H) (tCons (tDc (iTup K (tVar 4)) (gName 5) tYes (tVar 5) (tC (.bl true)) [5]) tNil)) (tVar 1))) (tB (tCall (spA Γ K A_keeps_ends) [] E0 (tCons (tVar 0) (tCons (tVar 4) tNil))))))
  (tDrop (tBM K "list" rAppend (tVar 2) (tCons (tVar 4) tNil)))
  tNext)))
  (tRet (tCB (fun xs H Q => ∃ p ys, xs = [.ref p] ∧ ((SqL K H p ys ∧ ∀ l, H l = none → Q (.ref l) (upd H l (.tup ys))) ∨ (SqT K H p ys ∧ Q (.ref p) H))) (tCons (tCB (rSortUE K) (tCons (tVar 2) tNil)) tNil))))))
theorem ps_half_turns {P : Program} {w : World} {K : PySem.W.Frag} {mg : Str → Option Value} {base : Heap} {Tb : List Addr} {f : Addr} {A_turn_from : DS} {A_keeps_ends : DS} (M : Md K mg) (c_turn_from : Cal P w K mg base 3 ("turn_from" : Str) (spA ⟨P, w, Tb⟩ K A_turn_from) []) (c_keeps_ends : Cal P w K mg base 3 ("keeps_ends" : Str) (spA ⟨P, w, Tb⟩ K A_keeps_ends) []) {cdv : Value} {Ar : Around} {outer : List Env} {s : Shared} {H : Hp} {E : XK}
    (hr : Room 3 (Ar.deeper (envOfC ("half_turns" : Str) sc_half_turns s.heap.objs.size f cdv))) : PSs (cxOf CX0 P w K mg base N_half_turns ("half_turns" : Str) sc_half_turns f cdv Ar outer s H E) (defBody st_half_turns) (t_half_turns ⟨P, w, Tb⟩ K A_turn_from A_keeps_ends) := by
  have nd : N_half_turns.Nodup := S_half_turns.nd
  exact PSs.nox (pss_cons (ps_asg (pe_callB call_len_seq (by rfl) M.n_len bo_len (pa_cons (pe_ix ix_seq (pv 0) pe_int (by intro _ _; rfl)) pa_nil)) (pg_name (i := 1) nd rfl (Or.inl rfl)))
  (pss_cons (ps_asg (pe_lst pa_nil) (pg_name (i := 2) nd rfl (Or.inl rfl)))
  (pss_cons (ps_for PassesOwn.never rfl (pi_range1 (by rfl) M.n_range (pa_cons (pv 1) pa_nil)) (pg_name (i := 3) nd rfl (Or.inl rfl))
  (pss_cons (ps_asg (pe_c c_turn_from hr (by decide) (by rfl) (pa_cons (pv 0) (pa_cons (pv 3) pa_nil))) (pg_name (i := 4) nd rfl (Or.inl rfl)))
  (pss_one (ps_if ((pw_and (pt_truth (pv 4) (by intro _; rfl)) (pw_and (pt_cmpR (op_eqD hr.units) (pe_callB call_lenD (by rfl) M.n_len bo_len (pa_cons (pe_dc (own := [(("square" : Str), 5)]) (g := (gName 5)) (tt := tYes) rfl nd (pi_tup (pv 4)) (blkOk_by (own := [(("square" : Str), 5)]) (N := N_half_turns) (sc := sc_half_turns) (by decide +kernel)) (fun _ _ _ _ _ => (pg_name (i := 5) nd rfl (Or.inl rfl))) (fun _ _ _ _ _ => pts_nil) (fun _ _ _ _ _ => (pv 5)) (fun _ _ _ _ _ => pe_bl)) pa_nil)) (pv 1) (nomark _)) (pw_and1 (pt_val (pe_c c_keeps_ends hr (by decide) (by rfl) (pa_cons (pv 0) (pa_cons (pv 4) pa_nil)))))))).pt
  (pss_one (ps_expr (pe_bm PySem.F.plainAttrs_list PySem.F.slot_list_append PySem.F.type_list_append mt_append (pv 2) (pa_cons (pv 4) pa_nil))))
  pss_nil))))
  (pss_one (ps_ret (pe_callTy call_tuple_of (by rfl) M.n_tuple bo_tuple (pa_cons (pe_callB cr_sortUE (by rfl) M.n_sorted bo_sorted (pa_cons (pv 2) pa_nil)) pa_nil)))))))
def t_turned (Γ : Wd) (K : PySem.W.Frag) (A_other_end : DS) : TS :=
  (tSeq (tAsg (tVar 2) (gTup K 3 (gCons (gName 3) (gCons (gName 4) (gCons (gName 5) gNil)))))
  (tSeq (tAsg (tOp (rIx K) (tVar 1) (tVar 3)) (gName 3))
  (tSeq (tIfS (tTest (tOp (rEqD K) (tOp (rIx K) (tVar 5) (tC (.int 0))) (tC (.int 0))))
  (tAsg (tOp (rIx K) (tOp (rIx K) (tVar 0) (tC (.int 1))) (tVar 3)) (gName 3))
  tNext)
  (tSeq (tIfS (tTest (tOp (rEqD K) (tOp (rIx K) (tVar 4) (tC (.int 0))) (tC (.int 0))))
  (tAsg (tOp (rIx K) (tOp (rIx K) (tVar 0) (tC (.int 0))) (tVar 3)) (gName 3))
  tNext)
  (tRet (tTup (tCons (tVar 3) (tCons (tCall (spA Γ K A_other_end) [] E0 (tCons (tVar 4) tNil)) (tCons (tCall (spA Γ K A_other_end) [] E0 (tCons (tVar 5) tNil)) tNil)))))))))
theorem ps_turned {P : Program} {w : World} {K : PySem.W.Frag} {mg : Str → Option Value} {base : Heap} {Tb : List Addr} {f : Addr} {A_other_end : DS} (M : Md K mg) (c_other_end : Cal P w K mg base 3 ("other_end" : Str) (spA ⟨P, w, Tb⟩ K A_other_end) []) {cdv : Value} {Ar : Around} {outer : List Env} {s : Shared} {H : Hp} {E : XK}
    (hr : Room 3 (Ar.deeper (envOfC ("turned" : Str) sc_turned s.heap.objs.size f cdv))) : PSs (cxOf CX0 P w K mg base N_turned ("turned" : Str) sc_turned f cdv Ar outer s H E) (defBody st_turned) (t_turned ⟨P, w, Tb⟩ K A_other_end) := by
  have nd : N_turned.Nodup := S_turned.nd
  exact PSs.nox (pss_cons (ps_asg (pv 2) (pg_tup rfl (pgs_cons (pg_name (i := 3) nd rfl (Or.inl rfl)) (pgs_cons (pg_name (i := 4) nd rfl (Or.inl rfl)) (pgs_cons (pg_name (i := 5) nd rfl (Or.inl rfl)) pgs_nil)))))
  (pss_cons (ps_asg (pe_ix ix_seq (pv 1) (pv 3) (by intro _ _; rfl)) (pg_name (i := 3) nd rfl (Or.inl rfl)))
  (pss_cons (ps_if (pt_cmpR (op_eqD hr.units) (pe_ix ix_seq (pv 5) pe_int (by intro _ _; rfl)) pe_int (nomark _))
  (pss_one (ps_asg (pe_ix ix_seq (pe_ix ix_seq (pv 0) pe_int (by intro _ _; rfl)) (pv 3) (by intro _ _; rfl)) (pg_name (i := 3) nd rfl (Or.inl rfl))))
  pss_nil)
  (pss_cons (ps_if (pt_cmpR (op_eqD hr.units) (pe_ix ix_seq (pv 4) pe_int (by intro _ _; rfl)) pe_int (nomark _))
  (pss_one (ps_asg (pe_ix ix_seq (pe_ix ix_seq (pv 0) pe_int (by intro _ _; rfl)) (pv 3) (by intro _ _; rfl)) (pg_name (i := 3) nd rfl (Or.inl rfl))))
  pss_nil)
  (pss_one (ps_ret (pe_tup (pa_cons (pv 3) (pa_cons (pe_c c_other_end hr (by decide) (by rfl) (pa_cons (pv 4) pa_nil)) (pa_cons (pe_c c_other_end hr (by decide) (by rfl) (pa_cons (pv 5) pa_nil)) pa_nil))))))))))
def t_other_end (Γ : Wd) (K : PySem.W.Frag) (A_minus : DS) (A_whole : DS) : TS :=
  (tRet (tIf (tTest (tOp (rNeD K) (tOp (rIx K) (tVar 0) (tC (.int 0))) (tC (.int 0)))) (tCall (spA Γ K A_minus) [] E0 (tCons (tCall (spA Γ K A_whole) [] E0 (tCons (tC (.int 1)) tNil)) (tCons (tVar 0) tNil))) (tVar 0)))
theorem ps_other_end {P : Program} {w : World} {K : PySem.W.Frag} {mg : Str → Option Value} {base : Heap} {Tb : List Addr} {f : Addr} {A_minus : DS} {A_whole : DS} (M : Md K mg) (c_minus : Cal P w K mg base 2 ("minus" : Str) (spA ⟨P, w, Tb⟩ K A_minus) []) (c_whole : Cal P w K mg base 1 ("whole" : Str) (spA ⟨P, w, Tb⟩ K A_whole) []) {cdv : Value} {Ar : Around} {outer : List Env} {s : Shared} {H : Hp} {E : XK}
    (hr : Room 2 (Ar.deeper (envOfC ("other_end" : Str) sc_other_end s.heap.objs.size f cdv))) : PSs (cxOf CX0 P w K mg base N_other_end ("other_end" : Str) sc_other_end f cdv Ar outer s H E) (defBody st_other_end) (t_other_end ⟨P, w, Tb⟩ K A_minus A_whole) := by
  have nd : N_other_end.Nodup := S_other_end.nd
  exact PSs.nox (pss_one (ps_ret (pe_ifExp (pt_cmpR (op_neD hr.units) (pe_ix ix_seq (pv 0) pe_int (by intro _ _; rfl)) pe_int (nomark _)) (pe_c c_minus hr (by decide) (by rfl) (pa_cons (pe_c c_whole hr (by decide) (by rfl) (pa_cons pe_int pa_nil)) (pa_cons (pv 0) pa_nil))) (pv 0))))
def t_places_tried (Γ : Wd) (K : PySem.W.Frag) (A_ends_at : DS) : TS :=
  (tSeq (tAsg (tIf (tB (tCall (spA Γ K A_ends_at) [] E0 (tCons (tVar 0) (tCons (tVar 1) tNil)))) (tLst tNil) (tLst (tCons (tTup (tCons (tVar 1) (tCons (tC (gv K ("NONE" : Str))) (tCons (tC (gv K ("NONE" : Str))) tNil)))) tNil))) (gName 2))
  (tRet (tOp rCat (tVar 2) (tLst (tCons (tTup (tCons (tVar 1) (tCons (tC (gv K ("NONE" : Str))) (tCons (tC (gv K ("HALF_halfturns" : Str))) tNil)))) (tCons (tTup (tCons (tVar 1) (tCons (tC (gv K ("HALF_halfturns" : Str))) (tCons (tC (gv K ("NONE" : Str))) tNil)))) (tCons (tTup (tCons (tVar 1) (tCons (tC (gv K ("HALF_halfturns" : Str))) (tCons (tC (gv K ("HALF_halfturns" : Str))) tNil)))) tNil)))))))
theorem ps_places_tried {P : Program} {w : World} {K : PySem.W.Frag} {mg : Str → Option Value} {base : Heap} {Tb : List Addr} {f : Addr} {A_ends_at : DS} (M : Md K mg) (c_ends_at : Cal P w K mg base 1 ("ends_at" : Str) (spA ⟨P, w, Tb⟩ K A_ends_at) []) {cdv : Value} {Ar : Around} {outer : List Env} {s : Shared} {H : Hp} {E : XK}
    (hr : Room 1 (Ar.deeper (envOfC ("places_tried" : Str) sc_places_tried s.heap.objs.size f cdv))) : PSs (cxOf CX0 P w K mg base N_places_tried ("places_tried" : Str) sc_places_tried f cdv Ar outer s H E) (defBody st_places_tried) (t_places_tried ⟨P, w, Tb⟩ K A_ends_at) := by
  have nd : N_places_tried.Nodup := S_places_tried.nd
  exact PSs.nox (pss_cons (ps_asg (pe_ifExp (pt_val (pe_c c_ends_at hr (by decide) (by rfl) (pa_cons (pv 0) (pa_cons (pv 1) pa_nil)))) (pe_lst pa_nil) (pe_lst (pa_cons (pe_tup (pa_cons (pv 1) (pa_cons (pe_gc M.c_NONE (by rfl)) (pa_cons (pe_gc M.c_NONE (by rfl)) pa_nil)))) pa_nil))) (pg_name (i := 2) nd rfl (Or.inl rfl)))
  (pss_one (ps_ret (pe_op op_cat (pv 2) (pe_lst (pa_cons (pe_tup (pa_cons (pv 1) (pa_cons (pe_gc M.c_NONE (by rfl)) (pa_cons (pe_gc M.c_HALF_halfturns (by rfl)) pa_nil)))) (pa_cons (pe_tup (pa_cons (pv 1) (pa_cons (pe_gc M.c_HALF_halfturns (by rfl)) (pa_cons (pe_gc M.c_NONE (by rfl)) pa_nil)))) (pa_cons (pe_tup (pa_cons (pv 1) (pa_cons (pe_gc M.c_HALF_halfturns (by rfl)) (pa_cons (pe_gc M.c_HALF_halfturns (by rfl)) pa_nil)))) pa_nil))))))))
def t_still (Γ : Wd) (K : PySem.W.Frag) (A_places_tried : DS) (A_turned : DS) : TS :=
  (tSeq (tAsg (tLst tNil) (gName 2))
  (tSeq (tFor (iRng1 (tCons (tCB (fun xs H Q => ∃ p ys, xs = [.ref p] ∧ (SqL K H p ys ∨ SqT K H p ys) ∧ Q (.int ys.length) H) (tCons (tVar 1) tNil)) tNil)) (gName 3)
  (tDrop (tBM K "list" rExtend (tVar 2) (tCons (tLc (iList K (tCall (spA Γ K A_places_tried) [] E0 (tCons (tVar 0) (tCons (tVar 3) tNil)))) (gName 4) (tTest (tOp (rEqD K) (tCall (spA Γ K A_turned) [] E0 (tCons (tVar 0) (tCons (tVar 1) (tCons (tVar 4) tNil)))) (tVar 4))) (tVar 4) [4]) tNil))))
  (tRet (tCB (fun xs H Q => ∃ p ys, xs = [.ref p] ∧ ((SqL K H p ys ∧ ∀ l, H l = none → Q (.ref l) (upd H l (.tup ys))) ∨ (SqT K H p ys ∧ Q (.ref p) H))) (tCons (tVar 2) tNil)))))
theorem ps_still {P : Program} {w : World} {K : PySem.W.Frag} {mg : Str → Option Value} {base : Heap} {Tb : List Addr} {f : Addr} {A_places_tried : DS} {A_turned : DS} (M : Md K mg) (c_places_tried : Cal P w K mg base 2 ("places_tried" : Str) (spA ⟨P, w, Tb⟩ K A_places_tried) []) (c_turned : Cal P w K mg base 4 ("turned" : Str) (spA ⟨P, w, Tb⟩ K A_turned) []) {cdv : Value} {Ar : Around} {outer : List Env} {s : Shared} {H : Hp} {E : XK}
    (hr : Room 4 (Ar.deeper (envOfC ("still" : Str) sc_still s.heap.objs.size f cdv))) : PSs (cxOf CX0 P w K mg base N_still ("still" : Str) sc_still f cdv Ar outer s H E) (defBody st_still) (t_still ⟨P, w, Tb⟩ K A_places_tried A_turned) := by
  have nd : N_still.Nodup := S_still.nd
  exact PSs.nox (pss_cons (ps_asg (pe_lst pa_nil) (pg_name (i := 2) nd rfl (Or.inl rfl)))
  (pss_cons (ps_for PassesOwn.never rfl (pi_range1 (by rfl) M.n_range (pa_cons (pe_callB call_len_seq (by rfl) M.n_len bo_len (pa_cons (pv 1) pa_nil)) pa_nil)) (pg_name (i := 3) nd rfl (Or.inl rfl))
  (pss_one (ps_expr (pe_bm PySem.F.plainAttrs_list PySem.F.slot_list_extend PySem.F.type_list_extend mt_extend (pv 2) (pa_cons (pe_lc (own := [(("place" : Str), 4)]) (g := (gName 4)) (tt := (tTest (tOp (rEqD K) (tCall (spA (⟨P, w, Tb⟩ : Wd) K A_turned) [] E0 (tCons (tVar 0) (tCons (tVar 1) (tCons (tVar 4) tNil)))) (tVar 4)))) rfl nd (pi_list (pe_c c_places_tried hr (by decide) (by rfl) (pa_cons (pv 0) (pa_cons (pv 3) pa_nil)))) (blkOk_by (own := [(("place" : Str), 4)]) (N := N_still) (sc := sc_still) (by decide +kernel)) (fun _ _ _ _ _ => (pg_name (i := 4) nd rfl (Or.inl rfl))) (fun _ _ _ _ _ => (pts_one (pt_cmpR (op_eqD hr.units) (pe_c c_turned hr (by decide) (by rfl) (pa_cons (pv 0) (pa_cons (pv 1) (pa_cons (pv 4) pa_nil)))) (pv 4) (nomark _)))) (fun _ _ _ _ _ => (pv 4))) pa_nil)))))
  (pss_one (ps_ret (pe_callTy call_tuple_of (by rfl) M.n_tuple bo_tuple (pa_cons (pv 2) pa_nil))))))
def t__law_bag (Γ : Wd) (K : PySem.W.Frag) : TS :=
  (tSeq (tAsg (tOp rCat (tLc (iList K (tVar 0)) (gName 3) tYes (tCB (fun xs H Q => ∃ i, xs = [.int i] ∧ Q (.int (if i < 0 then -i else i)) H) (tCons (tCB (fun xs H Q => (∃ i, xs = [.int i] ∧ Q (.int i) H) ∨ ∃ k, xs = [.bl k] ∧ Q (.int (if k then 1 else 0)) H) (tCons (tVar 3) tNil)) tNil)) [3]) (tLst (tCons (tC (.int 7)) tNil))) (gName 1))
  (tSeq (tAsg (tLst tNil) (gName 2))
  (tSeq (tIfS (tTest (tOp (rEqD K) (tOp (rI (fun _ j => 0 < j) fun i j => .int (i % j)) (tCB (fun xs H Q => (∃ i, xs = [.int i] ∧ Q (.int i) H) ∨ ∃ k, xs = [.bl k] ∧ Q (.int (if k then 1 else 0)) H) (tCons (tOp (rIx K) (tVar 1) (tC (.int 0))) tNil)) (tC (.int 2))) (tC (.int 0))))
  (tSeq (tAsg (tLc (iList K (tVar 1)) (gName 3) (tTest (tOp (rI0 fun i j => .bl (decide (j ≤ i))) (tVar 3) (tOp (rI CPow fun i j => .int (i ^ j.toNat)) (tC (.int 10)) (tC (.int 18))))) (tOp (rI CDiv fun i j => .int (i / j)) (tVar 3) (tC (.int 2))) [3]) (gName 2))
  (tDrop (tBM0 K "list" rReverse (tVar 2))))
  tNext)
  (tRet (tLst (tCons (tC (.int 0)) (tCons (tC (.int 0)) (tCons (tVar 2) (tCons (tLc (iList K (tVar 1)) (gName 3) tYes (tOp (rI (fun _ j => 0 < j) fun i j => .int (i % j)) (tCB (fun xs H Q => (∃ i, xs = [.int i] ∧ Q (.int i) H) ∨ ∃ k, xs = [.bl k] ∧ Q (.int (if k then 1 else 0)) H) (tCons (tVar 3) tNil)) (tC (.int 2147483647))) [3]) tNil)))))))))
theorem ps__law_bag {P : Program} {w : World} {K : PySem.W.Frag} {mg : Str → Option Value} {base : Heap} {Tb : List Addr} {f : Addr} (M : Md K mg)  {cdv : Value} {Ar : Around} {outer : List Env} {s : Shared} {H : Hp} {E : XK}
    (hr : Room 0 (Ar.deeper (envOfC ("_law_bag" : Str) sc__law_bag s.heap.objs.size f cdv))) : PSs (cxOf CX0 P w K mg base N__law_bag ("_law_bag" : Str) sc__law_bag f cdv Ar outer s H E) (defBody st__law_bag) (t__law_bag ⟨P, w, Tb⟩ K) := by
  have nd : N__law_bag.Nodup := S__law_bag.nd
  exact PSs.nox (pss_cons (ps_asg (pe_op op_cat (pe_lc (own := [(("cell" : Str), 3)]) (g := (gName 3)) (tt := tYes) rfl nd (pi_list (pv 0)) (blkOk_by (own := [(("cell" : Str), 3)]) (N := N__law_bag) (sc := sc__law_bag) (by decide +kernel)) (fun _ _ _ _ _ => (pg_name (i := 3) nd rfl (Or.inl rfl))) (fun _ _ _ _ _ => pts_nil) (fun _ _ _ _ _ => (pe_callB call_abs (by rfl) M.n_abs bo_abs (pa_cons (pe_callTy call_int1 (by rfl) M.n_int bo_int (pa_cons (pv 3) pa_nil)) pa_nil)))) (pe_lst (pa_cons pe_int pa_nil))) (pg_name (i := 1) nd rfl (Or.inl rfl)))
  (pss_cons (ps_asg (pe_lst pa_nil) (pg_name (i := 2) nd rfl (Or.inl rfl)))
  (pss_cons (ps_if (pt_cmpR (op_eqD hr.units) (pe_op op_mod (pe_callTy call_int1 (by rfl) M.n_int bo_int (pa_cons (pe_ix ix_seq (pv 1) pe_int (by intro _ _; rfl)) pa_nil)) pe_int) pe_int (nomark _))
  (pss_cons (ps_setLc (i := 2) (own := [(("cell" : Str), 3)]) (g := (gName 3)) (tt := (tTest (tOp (rI0 fun i j => .bl (decide (j ≤ i))) (tVar 3) (tOp (rI CPow fun i j => .int (i ^ j.toNat)) (tC (.int 10)) (tC (.int 18)))))) rfl nd rfl rfl (sw_true rfl rfl rfl (by decide +kernel)) (pi_list (pv 1)) (blkOk_by (own := [(("cell" : Str), 3)]) (N := N__law_bag) (sc := sc__law_bag) (by decide +kernel)) (fun _ _ _ _ _ => (pg_name (i := 3) nd rfl (Or.inl rfl))) (fun _ _ _ _ _ => (pts_one (pt_cmpR op_ge (pv 3) (pe_op op_pow pe_int pe_int) (nomark _)))) (fun _ _ _ _ _ => (pe_op op_fdiv (pv 3) pe_int)))
  (pss_one (ps_expr (pe_bm0 PySem.F.plainAttrs_list PySem.F.slot_list_reverse PySem.F.type_list_reverse mt_reverse (pv 2)))))
  pss_nil)
  (pss_one (ps_ret (pe_lst (pa_cons pe_int (pa_cons pe_int (pa_cons (pv 2) (pa_cons (pe_lc (own := [(("cell" : Str), 3)]) (g := (gName 3)) (tt := tYes) rfl nd (pi_list (pv 1)) (blkOk_by (own := [(("cell" : Str), 3)]) (N := N__law_bag) (sc := sc__law_bag) (by decide +kernel)) (fun _ _ _ _ _ => (pg_name (i := 3) nd rfl (Or.inl rfl))) (fun _ _ _ _ _ => pts_nil) (fun _ _ _ _ _ => (pe_op op_mod (pe_callTy call_int1 (by rfl) M.n_int bo_int (pa_cons (pv 3) pa_nil)) pe_int))) pa_nil))))))))))
def t__law_draw (Γ : Wd) (K : PySem.W.Frag) : TS :=
  (tSeq (tAsg (tOp (rI0 fun i j => .int (i + j)) (tOp (rIx K) (tVar 0) (tC (.int 1))) (tC (.int 1))) (gSub (tVar 0) (tC (.int 1)) rSetL))
  (tSeq (tIfS (tAnd (tTest (tOp (rEqD K) (tOp (rIx K) (tVar 0) (tC (.int 0))) (tC (.int 0)))) (tTest (tOp (rI0 fun i j => .bl (decide (j < i))) (tCB (fun xs H Q => ∃ p ys, xs = [.ref p] ∧ (SqL K H p ys ∨ SqT K H p ys) ∧ Q (.int ys.length) H) (tCons (tOp (rIx K) (tVar 0) (tC (.int 2))) tNil)) (tC (.int 0)))))
  (tAsg (tBM0 K "list" rPop (tOp (rIx K) (tVar 0) (tC (.int 2)))) (gSub (tVar 0) (tC (.int 0)) rSetL))
  tNext)
  (tSeq (tIfS (tTest (tOp (rI0 fun i j => .bl (decide (j < i))) (tOp (rIx K) (tVar 0) (tC (.int 0))) (tC (.int 0))))
  (tSeq (tAsg (tOp (rI (fun _ j => 0 < j) fun i j => .int (i % j)) (tCB (fun xs H Q => (∃ i, xs = [.int i] ∧ Q (.int i) H) ∨ ∃ k, xs = [.bl k] ∧ Q (.int (if k then 1 else 0)) H) (tCons (tOp (rIx K) (tVar 0) (tC (.int 0))) tNil)) (tVar 1)) (gName 2))
  (tSeq (tAsg (tOp (rI CDiv fun i j => .int (i / j)) (tOp (rIx K) (tVar 0) (tC (.int 0))) (tVar 1)) (gSub (tVar 0) (tC (.int 0)) rSetL))
  (tRet (tVar 2))))
  tNext)
  (tSeq (tAsg (tOp (rIx K) (tOp (rIx K) (tVar 0) (tC (.int 3))) (tOp (rI (fun _ j => 0 < j) fun i j => .int (i % j)) (tCB (fun xs H Q => (∃ i, xs = [.int i] ∧ Q (.int i) H) ∨ ∃ k, xs = [.bl k] ∧ Q (.int (if k then 1 else 0)) H) (tCons (tOp (rIx K) (tVar 0) (tC (.int 1))) tNil)) (tCB (fun xs H Q => ∃ p ys, xs = [.ref p] ∧ (SqL K H p ys ∨ SqT K H p ys) ∧ Q (.int ys.length) H) (tCons (tOp (rIx K) (tVar 0) (tC (.int 3))) tNil)))) (gName 3))
  (tSeq (tAsg (tOp (rI (fun _ j => 0 < j) fun i j => .int (i % j)) (tCB (fun xs H Q => (∃ i, xs = [.int i] ∧ Q (.int i) H) ∨ ∃ k, xs = [.bl k] ∧ Q (.int (if k then 1 else 0)) H) (tCons (tOp (rI0 fun i j => .int (i + j)) (tOp (rI0 fun i j => .int (i + j)) (tOp (rI CMul fun i j => .int (i * j)) (tVar 3) (tC (.int 48271))) (tOp (rI CMul fun i j => .int (i * j)) (tOp (rIx K) (tVar 0) (tC (.int 1))) (tC (.int 69621)))) (tC (.int 1))) tNil)) (tC (.int 2147483647))) (gName 4))
  (tRet (tOp (rI (fun _ j => 0 < j) fun i j => .int (i % j)) (tOp (rI CDiv fun i j => .int (i / j)) (tOp (rI (fun _ j => 0 < j) fun i j => .int (i % j)) (tCB (fun xs H Q => (∃ i, xs = [.int i] ∧ Q (.int i) H) ∨ ∃ k, xs = [.bl k] ∧ Q (.int (if k then 1 else 0)) H) (tCons (tOp (rI0 fun i j => .int (i + j)) (tOp (rI0 fun i j => .int (i + j)) (tOp (rI CMul fun i j => .int (i * j)) (tVar 4) (tVar 4)) (tOp (rI CMul fun i j => .int (i * j)) (tVar 4) (tC (.int 16807)))) (tOp (rI CMul fun i j => .int (i * j)) (tOp (rIx K) (tVar 0) (tC (.int 1))) (tC (.int 40014)))) tNil)) (tC (.int 2147483629))) (tC (.int 32))) (tVar 1))))))))
theorem ps__law_draw {P : Program} {w : World} {K : PySem.W.Frag} {mg : Str → Option Value} {base : Heap} {Tb : List Addr} {f : Addr} (M : Md K mg)  {cdv : Value} {Ar : Around} {outer : List Env} {s : Shared} {H : Hp} {E : XK}
    (hr : Room 0 (Ar.deeper (envOfC ("_law_draw" : Str) sc__law_draw s.heap.objs.size f cdv))) : PSs (cxOf CX0 P w K mg base N__law_draw ("_law_draw" : Str) sc__law_draw f cdv Ar outer s H E) (defBody st__law_draw) (t__law_draw ⟨P, w, Tb⟩ K) := by
  have nd : N__law_draw.Nodup := S__law_draw.nd
  exact PSs.nox (pss_cons (ps_asg (pe_op op_add (pe_ix ix_seq (pv 0) pe_int (by intro _ _; rfl)) pe_int) (pg_sub (pv 0) pe_int set_list))
  (pss_cons (ps_if ((pw_and (pt_cmpR (op_eqD hr.units) (pe_ix ix_seq (pv 0) pe_int (by intro _ _; rfl)) pe_int (nomark _)) (pw_and1 (pt_cmpR op_gt (pe_callB call_len_seq (by rfl) M.n_len bo_len (pa_cons (pe_ix ix_seq (pv 0) pe_int (by intro _ _; rfl)) pa_nil)) pe_int (nomark _))))).pt
  (pss_one (ps_asg (pe_bm0 PySem.F.plainAttrs_list PySem.F.slot_list_pop PySem.F.type_list_pop mt_pop (pe_ix ix_seq (pv 0) pe_int (by intro _ _; rfl))) (pg_sub (pv 0) pe_int set_list)))
  pss_nil)
  (pss_cons (ps_if (pt_cmpR op_gt (pe_ix ix_seq (pv 0) pe_int (by intro _ _; rfl)) pe_int (nomark _))
  (pss_cons (ps_asg (pe_op op_mod (pe_callTy call_int1 (by rfl) M.n_int bo_int (pa_cons (pe_ix ix_seq (pv 0) pe_int (by intro _ _; rfl)) pa_nil)) (pv 1)) (pg_name (i := 2) nd rfl (Or.inl rfl)))
  (pss_cons (ps_asg (pe_op op_fdiv (pe_ix ix_seq (pv 0) pe_int (by intro _ _; rfl)) (pv 1)) (pg_sub (pv 0) pe_int set_list))
  (pss_one (ps_ret (pv 2)))))
  pss_nil)
  (pss_cons (ps_asg (pe_ix ix_seq (pe_ix ix_seq (pv 0) pe_int (by intro _ _; rfl)) (pe_op op_mod (pe_callTy call_int1 (by rfl) M.n_int bo_int (pa_cons (pe_ix ix_seq (pv 0) pe_int (by intro _ _; rfl)) pa_nil)) (pe_callB call_len_seq (by rfl) M.n_len bo_len (pa_cons (pe_ix ix_seq (pv 0) pe_int (by intro _ _; rfl)) pa_nil))) (by intro _ _; rfl)) (pg_name (i := 3) nd rfl (Or.inl rfl)))
  (pss_cons (ps_asg (pe_op op_mod (pe_callTy call_int1 (by rfl) M.n_int bo_int (pa_cons (pe_op op_add (pe_op op_add (pe_op op_mul (pv 3) pe_int) (pe_op op_mul (pe_ix ix_seq (pv 0) pe_int (by intro _ _; rfl)) pe_int)) pe_int) pa_nil)) pe_int) (pg_name (i := 4) nd rfl (Or.inl rfl)))
  (pss_one (ps_ret (pe_op op_mod (pe_op op_fdiv (pe_op op_mod (pe_callTy call_int1 (by rfl) M.n_int bo_int (pa_cons (pe_op op_add (pe_op op_add (pe_op op_mul (pv 4) (pv 4)) (pe_op op_mul (pv 4) pe_int)) (pe_op op_mul (pe_ix ix_seq (pv 0) pe_int (by intro _ _; rfl)) pe_int)) pa_nil)) pe_int) pe_int) (pv 1)))))))))
def t__law_same (Γ : Wd) (K : PySem.W.Frag) (A__law_same : DS) : TS :=
  (tSeq (tIfS (tB (tIsN (tVar 1)))
  (tRet (tIsN (tVar 0)))
  tNext)
  (tSeq (tIfS (tOr (tB (tCB (rIsi K) (tCons (tVar 1) (tCons (tC (.ty "bool")) tNil)))) (tB (tCB (rIsi K) (tCons (tVar 0) (tCons (tC (.ty "bool")) tNil)))))
  (tRet (tAndV (tCB (rIsi K) (tCons (tVar 1) (tCons (tC (.ty "bool")) tNil))) (tAndV (tCB (rIsi K) (tCons (tVar 0) (tCons (tC (.ty "bool")) tNil))) (tOp (rEqD K) (tVar 0) (tVar 1)))))
  tNext)
  (tSeq (tIfS (tB (tCB (rIsi K) (tCons (tVar 1) (tCons (tC (.ty "int")) tNil))))
  (tRet (tAndV (tCB (rIsi K) (tCons (tVar 0) (tCons (tC (.ty "int")) tNil))) (tOp (rEqD K) (tVar 0) (tVar 1))))
  tNext)
  (tSeq (tIfS (tB (tCB (rIsi K) (tCons (tVar 1) (tCons (tC (.ty "str")) tNil))))
  (tRet (tAndV (tCB (rIsi K) (tCons (tVar 0) (tCons (tC (.ty "str")) tNil))) (tOp (rEqD K) (tVar 0) (tVar 1))))
  tNext)
  (tSeq (tIfS (tOr (tNot (tB (tCB (rIsi K) (tCons (tVar 1) (tCons (tC (.ty "tuple")) tNil))))) (tOr (tNot (tB (tCB (rIsi K) (tCons (tVar 0) (tCons (tC (.ty "tuple")) tNil))))) (tTest (tOp (rNeD K) (tCB (fun xs H Q => ∃ p ys, xs = [.ref p] ∧ (SqL K H p ys ∨ SqT K H p ys) ∧ Q (.int ys.length) H) (tCons (tVar 0) tNil)) (tCB (fun xs H Q => ∃ p ys, xs = [.ref p] ∧ (SqL K H p ys ∨ SqT K H p ys) ∧ Q (.int ys.length) H) (tCons (tVar 1) tNil))))))
  (tRet (tC (.bl false)))
  tNext)
  (tSeq (tFor (iRng1 (tCons (tCB (fun xs H Q => ∃ p ys, xs = [.ref p] ∧ (SqL K H p ys ∨ SqT K H p ys) ∧ Q (.int ys.length) H) (tCons (tVar 1) tNil)) tNil)) (gName 2)
  (tIfS (tNot (tB (tCall (spA Γ K A__law_same) [] E0 (tCons (tOp (rIx K) (tVar 0) (tVar 2)) (tCons (tOp (rIx K) (tVar 1) (tVar 2)) tNil)))))
  (tRet (tC (.bl false)))
  tNext))
  (tRet (tC (.bl true)))))))))
theorem ps__law_same {P : Program} {w : World} {K : PySem.W.Frag} {mg : Str → Option Value} {base : Heap} {Tb : List Addr} {f : Addr} {A__law_same : DS} (M : Md K mg) {j : Nat} (c__law_same : Cal P w K mg base j ("_law_same" : Str) (spA ⟨P, w, Tb⟩ K A__law_same) []) {n : Nat} (hn : 0 ≤ n) (hj : j ≤ n) {cdv : Value} {Ar : Around} {outer : List Env} {s : Shared} {H : Hp} {E : XK}
    (hr : Room n (Ar.deeper (envOfC ("_law_same" : Str) sc__law_same s.heap.objs.size f cdv))) : PSs (cxOf CX0 P w K mg base N__law_same ("_law_same" : Str) sc__law_same f cdv Ar outer s H E) (defBody st__law_same) (t__law_same ⟨P, w, Tb⟩ K A__law_same) := by
  have nd : N__law_same.Nodup := S__law_same.nd
  exact PSs.nox (pss_cons (ps_if (pt_cmp (pc_isN (pv 1)))
  (pss_one (ps_ret (pe_cmp (pc_isN (pv 0)))))
  pss_nil)
  (pss_cons (ps_if ((pw_or (pt_val (pe_callB call_isi (by rfl) M.n_isinstance bo_isinstance (pa_cons (pv 1) (pa_cons (pe_bltn (v := .ty "bool") (by rfl) M.n_bool bo_bool rfl) pa_nil)))) (pw_or1 (pt_val (pe_callB call_isi (by rfl) M.n_isinstance bo_isinstance (pa_cons (pv 0) (pa_cons (pe_bltn (v := .ty "bool") (by rfl) M.n_bool bo_bool rfl) pa_nil))))))).pt
  (pss_one (ps_ret (pe_and (pe_callB call_isi (by rfl) M.n_isinstance bo_isinstance (pa_cons (pv 1) (pa_cons (pe_bltn (v := .ty "bool") (by rfl) M.n_bool bo_bool rfl) pa_nil))) (pe_and (pe_callB call_isi (by rfl) M.n_isinstance bo_isinstance (pa_cons (pv 0) (pa_cons (pe_bltn (v := .ty "bool") (by rfl) M.n_bool bo_bool rfl) pa_nil))) (pe_one (pe_cmpR (op_eqD hr.units) (pv 0) (pv 1) (nomark _)))))))
  pss_nil)
  (pss_cons (ps_if (pt_val (pe_callB call_isi (by rfl) M.n_isinstance bo_isinstance (pa_cons (pv 1) (pa_cons (pe_bltn (v := .ty "int") (by rfl) M.n_int bo_int rfl) pa_nil))))
  (pss_one (ps_ret (pe_and (pe_callB call_isi (by rfl) M.n_isinstance bo_isinstance (pa_cons (pv 0) (pa_cons (pe_bltn (v := .ty "int") (by rfl) M.n_int bo_int rfl) pa_nil))) (pe_one (pe_cmpR (op_eqD hr.units) (pv 0) (pv 1) (nomark _))))))
  pss_nil)
  (pss_cons (ps_if (pt_val (pe_callB call_isi (by rfl) M.n_isinstance bo_isinstance (pa_cons (pv 1) (pa_cons (pe_bltn (v := .ty "str") (by rfl) M.n_str bo_str rfl) pa_nil))))
  (pss_one (ps_ret (pe_and (pe_callB call_isi (by rfl) M.n_isinstance bo_isinstance (pa_cons (pv 0) (pa_cons (pe_bltn (v := .ty "str") (by rfl) M.n_str bo_str rfl) pa_nil))) (pe_one (pe_cmpR (op_eqD hr.units) (pv 0) (pv 1) (nomark _))))))
  pss_nil)
  (pss_cons (ps_if ((pw_or (pt_not (pt_val (pe_callB call_isi (by rfl) M.n_isinstance bo_isinstance (pa_cons (pv 1) (pa_cons (pe_bltn (v := .ty "tuple") (by rfl) M.n_tuple bo_tuple rfl) pa_nil))))) (pw_or (pt_not (pt_val (pe_callB call_isi (by rfl) M.n_isinstance bo_isinstance (pa_cons (pv 0) (pa_cons (pe_bltn (v := .ty "tuple") (by rfl) M.n_tuple bo_tuple rfl) pa_nil))))) (pw_or1 (pt_cmpR (op_neD hr.units) (pe_callB call_len_seq (by rfl) M.n_len bo_len (pa_cons (pv 0) pa_nil)) (pe_callB call_len_seq (by rfl) M.n_len bo_len (pa_cons (pv 1) pa_nil)) (nomark _)))))).pt
  (pss_one (ps_ret pe_bl))
  pss_nil)
  (pss_cons (ps_for PassesOwn.never rfl (pi_range1 (by rfl) M.n_range (pa_cons (pe_callB call_len_seq (by rfl) M.n_len bo_len (pa_cons (pv 1) pa_nil)) pa_nil)) (pg_name (i := 2) nd rfl (Or.inl rfl))
  (pss_one (ps_if (pt_not (pt_val (pe_c c__law_same hr hj (by rfl) (pa_cons (pe_ix ix_seq (pv 0) (pv 2) (by intro _ _; rfl)) (pa_cons (pe_ix ix_seq (pv 1) (pv 2) (by intro _ _; rfl)) pa_nil)))))
  (pss_one (ps_ret pe_bl))
  pss_nil)))
  (pss_one (ps_ret pe_bl))))))))
def t__law_contrary_of (Γ : Wd) (K : PySem.W.Frag) : TS :=
  (tSeq (tAsg (tLc (iTup K (tVar 0)) (gName 1) tYes (tC (.int 0)) [1]) (gName 2))
  (tSeq (tFor (iRng1 (tCons (tCB (fun xs H Q => ∃ p ys, xs = [.ref p] ∧ (SqL K H p ys ∨ SqT K H p ys) ∧ Q (.int ys.length) H) (tCons (tVar 0) tNil)) tNil)) (gName 1)
  (tAsg (tVar 1) (gSub (tVar 2) (tOp (rIx K) (tVar 0) (tVar 1)) rSetL)))
  (tRet (tCB (fun xs H Q => ∃ p ys, xs = [.ref p] ∧ ((SqL K H p ys ∧ ∀ l, H l = none → Q (.ref l) (upd H l (.tup ys))) ∨ (SqT K H p ys ∧ Q (.ref p) H))) (tCons (tVar 2) tNil)))))
theorem ps__law_contrary_of {P : Program} {w : World} {K : PySem.W.Frag} {mg : Str → Option Value} {base : Heap} {Tb : List Addr} {f : Addr} (M : Md K mg)  {cdv : Value} {Ar : Around} {outer : List Env} {s : Shared} {H : Hp} {E : XK}
    (hr : Room 0 (Ar.deeper (envOfC ("_law_contrary_of" : Str) sc__law_contrary_of s.heap.objs.size f cdv))) : PSs (cxOf CX0 P w K mg base N__law_contrary_of ("_law_contrary_of" : Str) sc__law_contrary_of f cdv Ar outer s H E) (defBody st__law_contrary_of) (t__law_contrary_of ⟨P, w, Tb⟩ K) := by
  have nd : N__law_contrary_of.Nodup := S__law_contrary_of.nd
  exact PSs.nox (pss_cons (ps_setLc (i := 2) (own := [(("k" : Str), 1)]) (g := (gName 1)) (tt := tYes) rfl nd rfl rfl (sw_true rfl rfl rfl (by decide +kernel)) (pi_tup (pv 0)) (blkOk_by (own := [(("k" : Str), 1)]) (N := N__law_contrary_of) (sc := sc__law_contrary_of) (by decide +kernel)) (fun _ _ _ _ _ => (pg_name (i := 1) nd rfl (Or.inl rfl))) (fun _ _ _ _ _ => pts_nil) (fun _ _ _ _ _ => pe_int))
  (pss_cons (ps_for PassesOwn.never rfl (pi_range1 (by rfl) M.n_range (pa_cons (pe_callB call_len_seq (by rfl) M.n_len bo_len (pa_cons (pv 0) pa_nil)) pa_nil)) (pg_name (i := 1) nd rfl (Or.inl rfl))
  (pss_one (ps_asg (pv 1) (pg_sub (pv 2) (pe_ix ix_seq (pv 0) (pv 1) (by intro _ _; rfl)) set_list))))
  (pss_one (ps_ret (pe_callTy call_tuple_of (by rfl) M.n_tuple bo_tuple (pa_cons (pv 2) pa_nil))))))
def t__law_ends (Γ : Wd) (K : PySem.W.Frag) (A__law_contrary_of : DS) : TS :=
  (tSeq (tAsg (tTup (tCons (tCall (spA Γ K A__law_contrary_of) [] E0 (tCons (tVar 0) tNil)) (tCons (tCall (spA Γ K A__law_contrary_of) [] E0 (tCons (tVar 1) tNil)) tNil))) (gTup K 2 (gCons (gName 2) (gCons (gName 3) gNil))))
  (tRet (tCB (fun xs H Q => ∃ p ys, xs = [.ref p] ∧ ((SqL K H p ys ∧ ∀ l, H l = none → Q (.ref l) (upd H l (.tup ys))) ∨ (SqT K H p ys ∧ Q (.ref p) H))) (tCons (tLc (iRng1 (tCons (tCB (fun xs H Q => ∃ p ys, xs = [.ref p] ∧ (SqL K H p ys ∨ SqT K H p ys) ∧ Q (.int ys.length) H) (tCons (tVar 0) tNil)) tNil)) (gName 4) (tTest (tOp (rNeD K) (tOp (rIx K) (tVar 1) (tOp (rIx K) (tVar 0) (tOp (rIx K) (tVar 3) (tOp (rIx K) (tVar 2) (tVar 4))))) (tVar 4))) (tVar 4) [4]) tNil))))
theorem ps__law_ends {P : Program} {w : World} {K : PySem.W.Frag} {mg : Str → Option Value} {base : Heap} {Tb : List Addr} {f : Addr} {A__law_contrary_of : DS} (M : Md K mg) (c__law_contrary_of : Cal P w K mg base 1 ("_law_contrary_of" : Str) (spA ⟨P, w, Tb⟩ K A__law_contrary_of) []) {cdv : Value} {Ar : Around} {outer : List Env} {s : Shared} {H : Hp} {E : XK}
    (hr : Room 1 (Ar.deeper (envOfC ("_law_ends" : Str) sc__law_ends s.heap.objs.size f cdv))) : PSs (cxOf CX0 P w K mg base N__law_ends ("_law_ends" : Str) sc__law_ends f cdv Ar outer s H E) (defBody st__law_ends) (t__law_ends ⟨P, w, Tb⟩ K A__law_contrary_of) := by
  have nd : N__law_ends.Nodup := S__law_ends.nd
  exact PSs.nox (pss_cons (ps_asg (pe_tup (pa_cons (pe_c c__law_contrary_of hr (by decide) (by rfl) (pa_cons (pv 0) pa_nil)) (pa_cons (pe_c c__law_contrary_of hr (by decide) (by rfl) (pa_cons (pv 1) pa_nil)) pa_nil))) (pg_tup rfl (pgs_cons (pg_name (i := 2) nd rfl (Or.inr rfl)) (pgs_cons (pg_name (i := 3) nd rfl (Or.inr rfl)) pgs_nil))))
  (pss_one (ps_ret (pe_callTy call_tuple_of (by rfl) M.n_tuple bo_tuple (pa_cons (pe_lc (own := [(("k" : Str), 4)]) (g := (gName 4)) (tt := (tTest (tOp (rNeD K) (tOp (rIx K) (tVar 1) (tOp (rIx K) (tVar 0) (tOp (rIx K) (tVar 3) (tOp (rIx K) (tVar 2) (tVar 4))))) (tVar 4)))) rfl nd (pi_range1 (by rfl) M.n_range (pa_cons (pe_callB call_len_seq (by rfl) M.n_len bo_len (pa_cons (pv 0) pa_nil)) pa_nil)) (blkOk_by (own := [(("k" : Str), 4)]) (N := N__law_ends) (sc := sc__law_ends) (by decide +kernel)) (fun _ _ _ _ _ => (pg_name (i := 4) nd rfl (Or.inl rfl))) (fun _ _ _ _ _ => (pts_one (pt_cmpR (op_neD hr.units) (pe_ix ix_seq (pv 1) (pe_ix ix_seq (pv 0) (pe_ix ix_seq (pv 3) (pe_ix ix_seq (pv 2) (pv 4) (by intro _ _; rfl)) (by intro _ _; rfl)) (by intro _ _; rfl)) (by intro _ _; rfl)) (pv 4) (nomark _)))) (fun _ _ _ _ _ => (pv 4))) pa_nil)))))
def t__law_reach (Γ : Wd) (K : PySem.W.Frag) : TS :=
  (tSeq (tAsg (tLst (tCons (tC (.int 0)) tNil)) (gName 2))
  (tSeq (tFor (iRng1 (tCons (tCB (fun xs H Q => ∃ p ys, xs = [.ref p] ∧ (SqL K H p ys ∨ SqT K H p ys) ∧ Q (.int ys.length) H) (tCons (tVar 0) tNil)) tNil)) (gName 3)
  (tIfS (tTest (tOp (rI0 fun i j => .bl (decide (i < j))) (tVar 3) (tCB (fun xs H Q => ∃ p ys, xs = [.ref p] ∧ (SqL K H p ys ∨ SqT K H p ys) ∧ Q (.int ys.length) H) (tCons (tVar 2) tNil))))
  (tFor (iTup K (tTup (tCons (tOp (rIx K) (tVar 0) (tOp (rIx K) (tVar 2) (tVar 3))) (tCons (tOp (rIx K) (tVar 1) (tOp (rIx K) (tVar 2) (tVar 3))) tNil)))) (gName 4)
  (tIfS (tTest (tOp (L2.rIn K true) (tVar 4) (tVar 2)))
  (tDrop (tBM K "list" rAppend (tVar 2) (tCons (tVar 4) tNil)))
  tNext))
  tNext))
  (tRet (tVar 2))))
theorem ps__law_reach {P : Program} {w : World} {K : PySem.W.Frag} {mg : Str → Option Value} {base : Heap} {Tb : List Addr} {f : Addr} (M : Md K mg)  {cdv : Value} {Ar : Around} {outer : List Env} {s : Shared} {H : Hp} {E : XK}
    (hr : Room 0 (Ar.deeper (envOfC ("_law_reach" : Str) sc__law_reach s.heap.objs.size f cdv))) : PSs (cxOf CX0 P w K mg base N__law_reach ("_law_reach" : Str) sc__law_reach f cdv Ar outer s H E) (defBody st__law_reach) (t__law_reach ⟨P, w, Tb⟩ K) := by
  have nd : N__law_reach.Nodup := S__law_reach.nd
  exact PSs.nox (pss_cons (ps_asg (pe_lst (pa_cons pe_int pa_nil)) (pg_name (i := 2) nd rfl (Or.inl rfl)))
  (pss_cons (ps_for PassesOwn.never rfl (pi_range1 (by rfl) M.n_range (pa_cons (pe_callB call_len_seq (by rfl) M.n_len bo_len (pa_cons (pv 0) pa_nil)) pa_nil)) (pg_name (i := 3) nd rfl (Or.inl rfl))
  (pss_one (ps_if (pt_cmpR op_lt (pv 3) (pe_callB call_len_seq (by rfl) M.n_len bo_len (pa_cons (pv 2) pa_nil)) (nomark _))
  (pss_one (ps_for PassesOwn.never rfl (pi_tup (pe_tup (pa_cons (pe_ix ix_seq (pv 0) (pe_ix ix_seq (pv 2) (pv 3) (by intro _ _; rfl)) (by intro _ _; rfl)) (pa_cons (pe_ix ix_seq (pv 1) (pe_ix ix_seq (pv 2) (pv 3) (by intro _ _; rfl)) (by intro _ _; rfl)) pa_nil)))) (pg_name (i := 4) nd rfl (Or.inl rfl))
  (pss_one (ps_if (pt_cmpR op_notIn_seq (pv 4) (pv 2) (by rfl))
  (pss_one (ps_expr (pe_bm PySem.F.plainAttrs_list PySem.F.slot_list_append PySem.F.type_list_append mt_append (pv 2) (pa_cons (pv 4) pa_nil))))
  pss_nil))))
  pss_nil)))
  (pss_one (ps_ret (pv 2)))))
def t__law_shuffle (Γ : Wd) (K : PySem.W.Frag) (A__law_draw : DS) : TS :=
  (tSeq (tAsg (tLstRg (tRg1 (tVar 1))) (gName 2))
  (tSeq (tFor (iRng3 (tCons (tOp (rI0 fun i j => .int (i - j)) (tVar 1) (tC (.int 1))) (tCons (tC (.int 0)) (tCons (tUn (rU fun i => .int (-i)) (tC (.int 1))) tNil)))) (gName 3)
  (tSeq (tAsg (tCall (spA Γ K A__law_draw) [] E0 (tCons (tVar 0) (tCons (tOp (rI0 fun i j => .int (i + j)) (tVar 3) (tC (.int 1))) tNil))) (gName 4))
  (tAsg (tTup (tCons (tOp (rIx K) (tVar 2) (tVar 4)) (tCons (tOp (rIx K) (tVar 2) (tVar 3)) tNil))) (gTup K 2 (gCons (gSub (tVar 2) (tVar 3) rSetL) (gCons (gSub (tVar 2) (tVar 4) rSetL) gNil))))))
  (tRet (tVar 2))))
theorem ps__law_shuffle {P : Program} {w : World} {K : PySem.W.Frag} {mg : Str → Option Value} {base : Heap} {Tb : List Addr} {f : Addr} {A__law_draw : DS} (M : Md K mg) (c__law_draw : Cal P w K mg base 1 ("_law_draw" : Str) (spA ⟨P, w, Tb⟩ K A__law_draw) []) {cdv : Value} {Ar : Around} {outer : List Env} {s : Shared} {H : Hp} {E : XK}
    (hr : Room 1 (Ar.deeper (envOfC ("_law_shuffle" : Str) sc__law_shuffle s.heap.objs.size f cdv))) : PSs (cxOf CX0 P w K mg base N__law_shuffle ("_law_shuffle" : Str) sc__law_shuffle f cdv Ar outer s H E) (defBody st__law_shuffle) (t__law_shuffle ⟨P, w, Tb⟩ K A__law_draw) := by
  have nd : N__law_shuffle.Nodup := S__law_shuffle.nd
  exact PSs.nox (pss_cons (ps_asg (pe_listRg (by rfl) (by rfl) M.n_list (prg_1 (by rfl) M.n_range (pv 1))) (pg_name (i := 2) nd rfl (Or.inl rfl)))
  (pss_cons (ps_for PassesOwn.never rfl (pi_range3 (by rfl) M.n_range (pa_cons (pe_op op_sub (pv 1) pe_int) (pa_cons pe_int (pa_cons (pe_un un_neg pe_int) pa_nil)))) (pg_name (i := 3) nd rfl (Or.inl rfl))
  (pss_cons (ps_asg (pe_c c__law_draw hr (by decide) (by rfl) (pa_cons (pv 0) (pa_cons (pe_op op_add (pv 3) pe_int) pa_nil))) (pg_name (i := 4) nd rfl (Or.inl rfl)))
  (pss_one (ps_asg (pe_tup (pa_cons (pe_ix ix_seq (pv 2) (pv 4) (by intro _ _; rfl)) (pa_cons (pe_ix ix_seq (pv 2) (pv 3) (by intro _ _; rfl)) pa_nil))) (pg_tup rfl (pgs_cons (pg_sub (pv 2) (pv 3) set_list) (pgs_cons (pg_sub (pv 2) (pv 4) set_list) pgs_nil)))))))
  (pss_one (ps_ret (pv 2)))))
def t__law_hung (Γ : Wd) (K : PySem.W.Frag) (A__law_reach : DS) : TS :=
  (tSeq (tAsg (tCB (fun xs H Q => ∃ p ys, xs = [.ref p] ∧ (SqL K H p ys ∨ SqT K H p ys) ∧ ∀ l, H l = none → Q (.ref l) (upd H l (.lst ys))) (tCons (tVar 1) tNil)) (gName 1))
  (tSeq (tFor (iRng1 (tCons (tCB (fun xs H Q => ∃ p ys, xs = [.ref p] ∧ (SqL K H p ys ∨ SqT K H p ys) ∧ Q (.int ys.length) H) (tCons (tVar 0) tNil)) tNil)) (gName 2)
  (tSeq (tAsg (tCall (spA Γ K A__law_reach) [] E0 (tCons (tVar 0) (tCons (tVar 1) tNil))) (gName 3))
  (tSeq (tAsg (tLc (iRng1 (tCons (tCB (fun xs H Q => ∃ p ys, xs = [.ref p] ∧ (SqL K H p ys ∨ SqT K H p ys) ∧ Q (.int ys.length) H) (tCons (tVar 0) tNil)) tNil)) (gName 5) (tTest (tOp (L2.rIn K true) (tVar 5) (tVar 3))) (tVar 5) [5]) (gName 4))
  (tIfS (tTest (tOp (rI0 fun i j => .bl (decide (j < i))) (tCB (fun xs H Q => ∃ p ys, xs = [.ref p] ∧ (SqL K H p ys ∨ SqT K H p ys) ∧ Q (.int ys.length) H) (tCons (tVar 4) tNil)) (tC (.int 0))))
  (tAsg (tTup (tCons (tOp (rIx K) (tVar 1) (tC (.int 0))) (tCons (tOp (rIx K) (tVar 1) (tOp (rIx K) (tVar 4) (tC (.int 0)))) tNil))) (gTup K 2 (gCons (gSub (tVar 1) (tOp (rIx K) (tVar 4) (tC (.int 0))) rSetL) (gCons (gSub (tVar 1) (tC (.int 0)) rSetL) gNil))))
  tNext))))
  (tRet (tVar 1))))
theorem ps__law_hung {P : Program} {w : World} {K : PySem.W.Frag} {mg : Str → Option Value} {base : Heap} {Tb : List Addr} {f : Addr} {A__law_reach : DS} (M : Md K mg) (c__law_reach : Cal P w K mg base 1 ("_law_reach" : Str) (spA ⟨P, w, Tb⟩ K A__law_reach) []) {cdv : Value} {Ar : Around} {outer : List Env} {s : Shared} {H : Hp} {E : XK}
    (hr : Room 1 (Ar.deeper (envOfC ("_law_hung" : Str) sc__law_hung s.heap.objs.size f cdv))) : PSs (cxOf CX0 P w K mg base N__law_hung ("_law_hung" : Str) sc__law_hung f cdv Ar outer s H E) (defBody st__law_hung) (t__law_hung ⟨P, w, Tb⟩ K A__law_reach) := by
  have nd : N__law_hung.Nodup := S__law_hung.nd
  exact PSs.nox (pss_cons (ps_asg (pe_callTy call_list_of (by rfl) M.n_list bo_list (pa_cons (pv 1) pa_nil)) (pg_name (i := 1) nd rfl (Or.inl rfl)))
  (pss_cons (ps_for PassesOwn.never rfl (pi_range1 (by rfl) M.n_range (pa_cons (pe_callB call_len_seq (by rfl) M.n_len bo_len (pa_cons (pv 0) pa_nil)) pa_nil)) (pg_name (i := 2) nd rfl (Or.inl rfl))
  (pss_cons (ps_asg (pe_c c__law_reach hr (by decide) (by rfl) (pa_cons (pv 0) (pa_cons (pv 1) pa_nil))) (pg_name (i := 3) nd rfl (Or.inr rfl)))
  (pss_cons (ps_setLc (i := 4) (own := [(("k" : Str), 5)]) (g := (gName 5)) (tt := (tTest (tOp (L2.rIn K true) (tVar 5) (tVar 3)))) rfl nd rfl rfl (sw_true rfl rfl rfl (by decide +kernel)) (pi_range1 (by rfl) M.n_range (pa_cons (pe_callB call_len_seq (by rfl) M.n_len bo_len (pa_cons (pv 0) pa_nil)) pa_nil)) (blkOk_by (own := [(("k" : Str), 5)]) (N := N__law_hung) (sc := sc__law_hung) (by decide +kernel)) (fun _ _ _ _ _ => (pg_name (i := 5) nd rfl (Or.inl rfl))) (fun _ _ _ _ _ => (pts_one (pt_cmpR op_notIn_seq (pv 5) (pv 3) (by rfl)))) (fun _ _ _ _ _ => (pv 5)))
  (pss_one (ps_if (pt_cmpR op_gt (pe_callB call_len_seq (by rfl) M.n_len bo_len (pa_cons (pv 4) pa_nil)) pe_int (nomark _))
  (pss_one (ps_asg (pe_tup (pa_cons (pe_ix ix_seq (pv 1) pe_int (by intro _ _; rfl)) (pa_cons (pe_ix ix_seq (pv 1) (pe_ix ix_seq (pv 4) pe_int (by intro _ _; rfl)) (by intro _ _; rfl)) pa_nil))) (pg_tup rfl (pgs_cons (pg_sub (pv 1) (pe_ix ix_seq (pv 4) pe_int (by intro _ _; rfl)) set_list) (pgs_cons (pg_sub (pv 1) pe_int set_list) pgs_nil)))))
  pss_nil)))))
  (pss_one (ps_ret (pv 1)))))
def t__law_board (Γ : Wd) (K : PySem.W.Frag) (A__law_draw : DS) (A__law_shuffle : DS) (A__law_hung : DS) (A__law_ends : DS) : TS :=
  (tSeq (tAsg (tOp (rI0 fun i j => .int (i + j)) (tC (.int 1)) (tCall (spA Γ K A__law_draw) [] E0 (tCons (tVar 0) (tCons (tVar 1) tNil)))) (gName 2))
  (tSeq (tPar 3 4 (tCons (tCall (spA Γ K A__law_shuffle) [] E0 (tCons (tVar 0) (tCons (tVar 2) tNil))) (tCons (tCall (spA Γ K A__law_shuffle) [] E0 (tCons (tVar 0) (tCons (tVar 2) tNil))) tNil)))
  (tSeq (tAsg (tCall (spA Γ K A__law_hung) [] E0 (tCons (tVar 3) (tCons (tVar 4) tNil))) (gName 4))
  (tRet (tTup (tCons (tCB (fun xs H Q => ∃ p ys, xs = [.ref p] ∧ ((SqL K H p ys ∧ ∀ l, H l = none → Q (.ref l) (upd H l (.tup ys))) ∨ (SqT K H p ys ∧ Q (.ref p) H))) (tCons (tVar 3) tNil)) (tCons (tCB (fun xs H Q => ∃ p ys, xs = [.ref p] ∧ ((SqL K H p ys ∧ ∀ l, H l = none → Q (.ref l) (upd H l (.tup ys))) ∨ (SqT K H p ys ∧ Q (.ref p) H))) (tCons (tVar 4) tNil)) (tCons (tCall (spA Γ K A__law_ends) [] E0 (tCons (tCB (fun xs H Q => ∃ p ys, xs = [.ref p] ∧ ((SqL K H p ys ∧ ∀ l, H l = none → Q (.ref l) (upd H l (.tup ys))) ∨ (SqT K H p ys ∧ Q (.ref p) H))) (tCons (tVar 3) tNil)) (tCons (tCB (fun xs H Q => ∃ p ys, xs = [.ref p] ∧ ((SqL K H p ys ∧ ∀ l, H l = none → Q (.ref l) (upd H l (.tup ys))) ∨ (SqT K H p ys ∧ Q (.ref p) H))) (tCons (tVar 4) tNil)) tNil))) tNil))))))))
theorem ps__law_board {P : Program} {w : World} {K : PySem.W.Frag} {mg : Str → Option Value} {base : Heap} {Tb : List Addr} {f : Addr} {A__law_draw : DS} {A__law_shuffle : DS} {A__law_hung : DS} {A__law_ends : DS} (M : Md K mg) (c__law_draw : Cal P w K mg base 1 ("_law_draw" : Str) (spA ⟨P, w, Tb⟩ K A__law_draw) []) (c__law_shuffle : Cal P w K mg base 2 ("_law_shuffle" : Str) (spA ⟨P, w, Tb⟩ K A__law_shuffle) []) (c__law_hung : Cal P w K mg base 2 ("_law_hung" : Str) (spA ⟨P, w, Tb⟩ K A__law_hung) []) (c__law_ends : Cal P w K mg base 2 ("_law_ends" : Str) (spA ⟨P, w, Tb⟩ K A__law_ends) []) {cdv : Value} {Ar : Around} {outer : List Env} {s : Shared} {H : Hp} {E : XK}
    (hr : Room 2 (Ar.deeper (envOfC ("_law_board" : Str) sc__law_board s.heap.objs.size f cdv))) : PSs (cxOf CX0 P w K mg base N__law_board ("_law_board" : Str) sc__law_board f cdv Ar outer s H E) (defBody st__law_board) (t__law_board ⟨P, w, Tb⟩ K A__law_draw A__law_shuffle A__law_hung A__law_ends) := by
  have nd : N__law_board.Nodup := S__law_board.nd
  exact PSs.nox (pss_cons (ps_asg (pe_op op_add pe_int (pe_c c__law_draw hr (by decide) (by rfl) (pa_cons (pv 0) (pa_cons (pv 1) pa_nil)))) (pg_name (i := 2) nd rfl (Or.inl rfl)))
  (pss_cons (ps_par (i := 3) (j := 4) rfl nd rfl rfl (by decide) rfl rfl (pa_cons (pe_c c__law_shuffle hr (by decide) (by rfl) (pa_cons (pv 0) (pa_cons (pv 2) pa_nil))) (pa_cons (pe_c c__law_shuffle hr (by decide) (by rfl) (pa_cons (pv 0) (pa_cons (pv 2) pa_nil))) pa_nil)) rfl)
  (pss_cons (ps_asg (pe_c c__law_hung hr (by decide) (by rfl) (pa_cons (pv 3) (pa_cons (pv 4) pa_nil))) (pg_name (i := 4) nd rfl (Or.inl rfl)))
  (pss_one (ps_ret (pe_tup (pa_cons (pe_callTy call_tuple_of (by rfl) M.n_tuple bo_tuple (pa_cons (pv 3) pa_nil)) (pa_cons (pe_callTy call_tuple_of (by rfl) M.n_tuple bo_tuple (pa_cons (pv 4) pa_nil)) (pa_cons (pe_c c__law_ends hr (by decide) (by rfl) (pa_cons (pe_callTy call_tuple_of (by rfl) M.n_tuple bo_tuple (pa_cons (pv 3) pa_nil)) (pa_cons (pe_callTy call_tuple_of (by rfl) M.n_tuple bo_tuple (pa_cons (pv 4) pa_nil)) pa_nil))) pa_nil)))))))))
def t__law_half_places (Γ : Wd) (K : PySem.W.Frag) : TS :=
  (tSeq (tAsg (tLst tNil) (gName 1))
  (tSeq (tFor (iRng1 (tCons (tCB (fun xs H Q => ∃ p ys, xs = [.ref p] ∧ (SqL K H p ys ∨ SqT K H p ys) ∧ Q (.int ys.length) H) (tCons (tOp (rIx K) (tVar 0) (tC (.int 0))) tNil)) tNil)) (gName 2)
  (tFor (iList K (tLst (tCons (tTup (tCons (tTup (tCons (tC (.int 0)) (tCons (tC (.int 1)) tNil))) (tCons (tTup (tCons (tC (.int 0)) (tCons (tC (.int 1)) tNil))) tNil))) (tCons (tTup (tCons (tTup (tCons (tC (.int 0)) (tCons (tC (.int 1)) tNil))) (tCons (tTup (tCons (tC (.int 1)) (tCons (tC (.int 2)) tNil))) tNil))) (tCons (tTup (tCons (tTup (tCons (tC (.int 1)) (tCons (tC (.int 2)) tNil))) (tCons (tTup (tCons (tC (.int 0)) (tCons (tC (.int 1)) tNil))) tNil))) (tCons (tTup (tCons (tTup (tCons (tC (.int 1)) (tCons (tC (.int 2)) tNil))) (tCons (tTup (tCons (tC (.int 1)) (tCons (tC (.int 2)) tNil))) tNil))) tNil)))))) (gTup K 2 (gCons (gName 3) (gCons (gName 4) gNil)))
  (tIfS (tOr (tTest (tOp (rI0 fun i j => .bl (decide (j < i))) (tOp (rI0 fun i j => .int (i + j)) (tOp (rIx K) (tVar 3) (tC (.int 0))) (tOp (rIx K) (tVar 4) (tC (.int 0)))) (tC (.int 0)))) (tTest (tOp (L2.rIn K true) (tVar 2) (tOp (rIx K) (tVar 0) (tC (.int 2))))))
  (tDrop (tBM K "list" rAppend (tVar 1) (tCons (tTup (tCons (tVar 2) (tCons (tVar 3) (tCons (tVar 4) tNil)))) tNil)))
  tNext)))
  (tRet (tCB (fun xs H Q => ∃ p ys, xs = [.ref p] ∧ ((SqL K H p ys ∧ ∀ l, H l = none → Q (.ref l) (upd H l (.tup ys))) ∨ (SqT K H p ys ∧ Q (.ref p) H))) (tCons (tVar 1) tNil)))))
theorem ps__law_half_places {P : Program} {w : World} {K : PySem.W.Frag} {mg : Str → Option Value} {base : Heap} {Tb : List Addr} {f : Addr} (M : Md K mg)  {cdv : Value} {Ar : Around} {outer : List Env} {s : Shared} {H : Hp} {E : XK}
    (hr : Room 0 (Ar.deeper (envOfC ("_law_half_places" : Str) sc__law_half_places s.heap.objs.size f cdv))) : PSs (cxOf CX0 P w K mg base N__law_half_places ("_law_half_places" : Str) sc__law_half_places f cdv Ar outer s H E) (defBody st__law_half_places) (t__law_half_places ⟨P, w, Tb⟩ K) := by
  have nd : N__law_half_places.Nodup := S__law_half_places.nd
  exact PSs.nox (pss_cons (ps_asg (pe_lst pa_nil) (pg_name (i := 1) nd rfl (Or.inl rfl)))
  (pss_cons (ps_for PassesOwn.never rfl (pi_range1 (by rfl) M.n_range (pa_cons (pe_callB call_len_seq (by rfl) M.n_len bo_len (pa_cons (pe_ix ix_seq (pv 0) pe_int (by intro _ _; rfl)) pa_nil)) pa_nil)) (pg_name (i := 2) nd rfl (Or.inl rfl))
  (pss_one (ps_for PassesOwn.never rfl (pi_list (pe_lst (pa_cons (pe_tup (pa_cons (pe_tup (pa_cons pe_int (pa_cons pe_int pa_nil))) (pa_cons (pe_tup (pa_cons pe_int (pa_cons pe_int pa_nil))) pa_nil))) (pa_cons (pe_tup (pa_cons (pe_tup (pa_cons pe_int (pa_cons pe_int pa_nil))) (pa_cons (pe_tup (pa_cons pe_int (pa_cons pe_int pa_nil))) pa_nil))) (pa_cons (pe_tup (pa_cons (pe_tup (pa_cons pe_int (pa_cons pe_int pa_nil))) (pa_cons (pe_tup (pa_cons pe_int (pa_cons pe_int pa_nil))) pa_nil))) (pa_cons (pe_tup (pa_cons (pe_tup (pa_cons pe_int (pa_cons pe_int pa_nil))) (pa_cons (pe_tup (pa_cons pe_int (pa_cons pe_int pa_nil))) pa_nil))) pa_nil)))))) (pg_tup rfl (pgs_cons (pg_name (i := 3) nd rfl (Or.inl rfl)) (pgs_cons (pg_name (i := 4) nd rfl (Or.inl rfl)) pgs_nil)))
  (pss_one (ps_if ((pw_or (pt_cmpR op_gt (pe_op op_add (pe_ix ix_seq (pv 3) pe_int (by intro _ _; rfl)) (pe_ix ix_seq (pv 4) pe_int (by intro _ _; rfl))) pe_int (nomark _)) (pw_or1 (pt_cmpR op_notIn_seq (pv 2) (pe_ix ix_seq (pv 0) pe_int (by intro _ _; rfl)) (by rfl))))).pt
  (pss_one (ps_expr (pe_bm PySem.F.plainAttrs_list PySem.F.slot_list_append PySem.F.type_list_append mt_append (pv 1) (pa_cons (pe_tup (pa_cons (pv 2) (pa_cons (pv 3) (pa_cons (pv 4) pa_nil)))) pa_nil))))
  pss_nil)))))
  (pss_one (ps_ret (pe_callTy call_tuple_of (by rfl) M.n_tuple bo_tuple (pa_cons (pv 1) pa_nil))))))
def t__law_own_halves (Γ : Wd) (K : PySem.W.Frag) (A__law_contrary_of : DS) : TS :=
  (tSeq (tPar 2 3 (tCons (tOp (rIx K) (tVar 0) (tC (.int 0))) (tCons (tOp (rIx K) (tVar 0) (tC (.int 1))) tNil)))
  (tSeq (tPar 4 5 (tCons (tCall (spA Γ K A__law_contrary_of) [] E0 (tCons (tVar 2) tNil)) (tCons (tCall (spA Γ K A__law_contrary_of) [] E0 (tCons (tVar 3) tNil)) tNil)))
  (tSeq (tAsg (tOp (rIx K) (tVar 1) (tC (.int 0))) (gName 6))
  (tSeq (tAsg (tIf (tTest (tOp (rI0 fun i j => .bl (decide (j < i))) (tOp (rIx K) (tOp (rIx K) (tVar 1) (tC (.int 1))) (tC (.int 0))) (tC (.int 0)))) (tVar 6) (tOp (rIx K) (tVar 4) (tVar 6))) (gName 7))
  (tSeq (tIfS (tTest (tOp (rEqD K) (tOp (rIx K) (tOp (rIx K) (tVar 1) (tC (.int 2))) (tC (.int 0))) (tC (.int 0))))
  (tAsg (tIf (tTest (tOp (rI0 fun i j => .bl (decide (j < i))) (tOp (rIx K) (tOp (rIx K) (tVar 1) (tC (.int 1))) (tC (.int 0))) (tC (.int 0)))) (tOp (rIx K) (tVar 5) (tVar 6)) (tOp (rIx K) (tVar 4) (tOp (rIx K) (tVar 5) (tVar 6)))) (gName 7))
  tNext)
  (tSeq (tAsg (tLst (tCons (tTup (tCons (tVar 6) (tCons (tVar 7) tNil))) tNil)) (gName 8))
  (tSeq (tFor (iRng1 (tCons (tOp (rI CMul fun i j => .int (i * j)) (tCB (fun xs H Q => ∃ p ys, xs = [.ref p] ∧ (SqL K H p ys ∨ SqT K H p ys) ∧ Q (.int ys.length) H) (tCons (tVar 2) tNil)) (tCB (fun xs H Q => ∃ p ys, xs = [.ref p] ∧ (SqL K H p ys ∨ SqT K H p ys) ∧ Q (.int ys.length) H) (tCons (tVar 2) tNil))) tNil)) (gName 9)
  (tIfS (tTest (tOp (rI0 fun i j => .bl (decide (i < j))) (tVar 9) (tCB (fun xs H Q => ∃ p ys, xs = [.ref p] ∧ (SqL K H p ys ∨ SqT K H p ys) ∧ Q (.int ys.length) H) (tCons (tVar 8) tNil))))
  (tSeq (tAsg (tOp (rIx K) (tVar 8) (tVar 9)) (gTup K 2 (gCons (gName 10) (gCons (gName 11) gNil))))
  (tFor (iTup K (tTup (tCons (tTup (tCons (tOp (rIx K) (tVar 2) (tVar 10)) (tCons (tOp (rIx K) (tVar 4) (tVar 11)) tNil))) (tCons (tTup (tCons (tOp (rIx K) (tVar 3) (tVar 10)) (tCons (tOp (rIx K) (tVar 5) (tVar 11)) tNil))) tNil)))) (gName 12)
  (tIfS (tTest (tOp (rNotInD K) (tVar 12) (tVar 8)))
  (tDrop (tBM K "list" rAppend (tVar 8) (tCons (tVar 12) tNil)))
  tNext)))
  tNext))
  (tRet (tCB (fun xs H Q => ∃ p ys, xs = [.ref p] ∧ ((SqL K H p ys ∧ ∀ l, H l = none → Q (.ref l) (upd H l (.tup ys))) ∨ (SqT K H p ys ∧ Q (.ref p) H))) (tCons (tCB (rSortUE K) (tCons (tVar 8) tNil)) tNil))))))))))
theorem ps__law_own_halves {P : Program} {w : World} {K : PySem.W.Frag} {mg : Str → Option Value} {base : Heap} {Tb : List Addr} {f : Addr} {A__law_contrary_of : DS} (M : Md K mg) (c__law_contrary_of : Cal P w K mg base 1 ("_law_contrary_of" : Str) (spA ⟨P, w, Tb⟩ K A__law_contrary_of) []) {cdv : Value} {Ar : Around} {outer : List Env} {s : Shared} {H : Hp} {E : XK}
    (hr : Room 1 (Ar.deeper (envOfC ("_law_own_halves" : Str) sc__law_own_halves s.heap.objs.size f cdv))) : PSs (cxOf CX0 P w K mg base N__law_own_halves ("_law_own_halves" : Str) sc__law_own_halves f cdv Ar outer s H E) (defBody st__law_own_halves) (t__law_own_halves ⟨P, w, Tb⟩ K A__law_contrary_of) := by
  have nd : N__law_own_halves.Nodup := S__law_own_halves.nd
  exact PSs.nox (pss_cons (ps_par (i := 2) (j := 3) rfl nd rfl rfl (by decide) rfl rfl (pa_cons (pe_ix ix_seq (pv 0) pe_int (by intro _ _; rfl)) (pa_cons (pe_ix ix_seq (pv 0) pe_int (by intro _ _; rfl)) pa_nil)) rfl)
  (pss_cons (ps_par (i := 4) (j := 5) rfl nd rfl rfl (by decide) rfl rfl (pa_cons (pe_c c__law_contrary_of hr (by decide) (by rfl) (pa_cons (pv 2) pa_nil)) (pa_cons (pe_c c__law_contrary_of hr (by decide) (by rfl) (pa_cons (pv 3) pa_nil)) pa_nil)) rfl)
  (pss_cons (ps_asg (pe_ix ix_seq (pv 1) pe_int (by intro _ _; rfl)) (pg_name (i := 6) nd rfl (Or.inl rfl)))
  (pss_cons (ps_asg (pe_ifExp (pt_cmpR op_gt (pe_ix ix_seq (pe_ix ix_seq (pv 1) pe_int (by intro _ _; rfl)) pe_int (by intro _ _; rfl)) pe_int (nomark _)) (pv 6) (pe_ix ix_seq (pv 4) (pv 6) (by intro _ _; rfl))) (pg_name (i := 7) nd rfl (Or.inl rfl)))
  (pss_cons (ps_if (pt_cmpR (op_eqD hr.units) (pe_ix ix_seq (pe_ix ix_seq (pv 1) pe_int (by intro _ _; rfl)) pe_int (by intro _ _; rfl)) pe_int (nomark _))
  (pss_one (ps_asg (pe_ifExp (pt_cmpR op_gt (pe_ix ix_seq (pe_ix ix_seq (pv 1) pe_int (by intro _ _; rfl)) pe_int (by intro _ _; rfl)) pe_int (nomark _)) (pe_ix ix_seq (pv 5) (pv 6) (by intro _ _; rfl)) (pe_ix ix_seq (pv 4) (pe_ix ix_seq (pv 5) (pv 6) (by intro _ _; rfl)) (by intro _ _; rfl))) (pg_name (i := 7) nd rfl (Or.inl rfl))))
  pss_nil)
  (pss_cons (ps_asg (pe_lst (pa_cons (pe_tup (pa_cons (pv 6) (pa_cons (pv 7) pa_nil))) pa_nil)) (pg_name (i := 8) nd rfl (Or.inl rfl)))
  (pss_cons (ps_for PassesOwn.never rfl (pi_range1 (by rfl) M.n_range (pa_cons (pe_op op_mul (pe_callB call_len_seq (by rfl) M.n_len bo_len (pa_cons (pv 2) pa_nil)) (pe_callB call_len_seq (by rfl) M.n_len bo_len (pa_cons (pv 2) pa_nil))) pa_nil)) (pg_name (i := 9) nd rfl (Or.inl rfl))
  (pss_one (ps_if (pt_cmpR op_lt (pv 9) (pe_callB call_len_seq (by rfl) M.n_len bo_len (pa_cons (pv 8) pa_nil)) (nomark _))
  (pss_cons (ps_asg (pe_ix ix_seq (pv 8) (pv 9) (by intro _ _; rfl)) (pg_tup rfl (pgs_cons (pg_name (i := 10) nd rfl (Or.inl rfl)) (pgs_cons (pg_name (i := 11) nd rfl (Or.inl rfl)) pgs_nil))))
  (pss_one (ps_for PassesOwn.never rfl (pi_tup (pe_tup (pa_cons (pe_tup (pa_cons (pe_ix ix_seq (pv 2) (pv 10) (by intro _ _; rfl)) (pa_cons (pe_ix ix_seq (pv 4) (pv 11) (by intro _ _; rfl)) pa_nil))) (pa_cons (pe_tup (pa_cons (pe_ix ix_seq (pv 3) (pv 10) (by intro _ _; rfl)) (pa_cons (pe_ix ix_seq (pv 5) (pv 11) (by intro _ _; rfl)) pa_nil))) pa_nil)))) (pg_name (i := 12) nd rfl (Or.inl rfl))
  (pss_one (ps_if (pt_cmpR (op_notInD hr.u65) (pv 12) (pv 8) (by rfl))
  (pss_one (ps_expr (pe_bm PySem.F.plainAttrs_list PySem.F.slot_list_append PySem.F.type_list_append mt_append (pv 8) (pa_cons (pv 12) pa_nil))))
  pss_nil)))))
  pss_nil)))
  (pss_one (ps_ret (pe_callTy call_tuple_of (by rfl) M.n_tuple bo_tuple (pa_cons (pe_callB cr_sortUE (by rfl) M.n_sorted bo_sorted (pa_cons (pv 8) pa_nil)) pa_nil)))))))))))
def t__law_is_half_turn (Γ : Wd) (K : PySem.W.Frag) (A__law_contrary_of : DS) : TS :=
  (tSeq (tPar 2 3 (tCons (tOp (rIx K) (tVar 0) (tC (.int 0))) (tCons (tOp (rIx K) (tVar 0) (tC (.int 1))) tNil)))
  (tSeq (tPar 4 5 (tCons (tCall (spA Γ K A__law_contrary_of) [] E0 (tCons (tVar 2) tNil)) (tCons (tCall (spA Γ K A__law_contrary_of) [] E0 (tCons (tVar 3) tNil)) tNil)))
  (tSeq (tFor (iRng1 (tCons (tCB (fun xs H Q => ∃ p ys, xs = [.ref p] ∧ (SqL K H p ys ∨ SqT K H p ys) ∧ Q (.int ys.length) H) (tCons (tVar 2) tNil)) tNil)) (gName 6)
  (tSeq (tIfS (tOr (tTest (tOp (rNeD K) (tOp (rIx K) (tVar 1) (tOp (rIx K) (tVar 2) (tVar 6))) (tOp (rIx K) (tVar 4) (tOp (rIx K) (tVar 1) (tVar 6))))) (tTest (tOp (rNeD K) (tOp (rIx K) (tVar 1) (tOp (rIx K) (tVar 3) (tVar 6))) (tOp (rIx K) (tVar 5) (tOp (rIx K) (tVar 1) (tVar 6))))))
  (tRet (tC (.bl false)))
  tNext)
  (tSeq (tAsg (tOp (rIx K) (tVar 3) (tOp (rIx K) (tVar 2) (tOp (rIx K) (tVar 1) (tVar 6)))) (gName 7))
  (tIfS (tTest (tOp (rNeD K) (tOp (L2.rIn K false) (tVar 6) (tOp (rIx K) (tVar 0) (tC (.int 2)))) (tOp (L2.rIn K false) (tVar 7) (tOp (rIx K) (tVar 0) (tC (.int 2))))))
  (tRet (tC (.bl false)))
  tNext))))
  (tRet (tOp (rEqD K) (tCB (rSortedIT K) (tCons (tVar 1) tNil)) (tLstRg (tRg1 (tCB (fun xs H Q => ∃ p ys, xs = [.ref p] ∧ (SqL K H p ys ∨ SqT K H p ys) ∧ Q (.int ys.length) H) (tCons (tVar 2) tNil)))))))))
theorem ps__law_is_half_turn {P : Program} {w : World} {K : PySem.W.Frag} {mg : Str → Option Value} {base : Heap} {Tb : List Addr} {f : Addr} {A__law_contrary_of : DS} (M : Md K mg) (c__law_contrary_of : Cal P w K mg base 1 ("_law_contrary_of" : Str) (spA ⟨P, w, Tb⟩ K A__law_contrary_of) []) {cdv : Value} {Ar : Around} {outer : List Env} {s : Shared} {H : Hp} {E : XK}
    (hr : Room 1 (Ar.deeper (envOfC ("_law_is_half_turn" : Str) sc__law_is_half_turn s.heap.objs.size f cdv))) : PSs (cxOf CX0 P w K mg base N__law_is_half_turn ("_law_is_half_turn" : Str) sc__law_is_half_turn f cdv Ar outer s H E) (defBody st__law_is_half_turn) (t__law_is_half_turn ⟨P, w, Tb⟩ K A__law_contrary_of) := by
  have nd : N__law_is_half_turn.Nodup := S__law_is_half_turn.nd
  exact PSs.nox (pss_cons (ps_par (i := 2) (j := 3) rfl nd rfl rfl (by decide) rfl rfl (pa_cons (pe_ix ix_seq (pv 0) pe_int (by intro _ _; rfl)) (pa_cons (pe_ix ix_seq (pv 0) pe_int (by intro _ _; rfl)) pa_nil)) rfl)
  (pss_cons (ps_par (i := 4) (j := 5) rfl nd rfl rfl (by decide) rfl rfl (pa_cons (pe_c c__law_contrary_of hr (by decide) (by rfl) (pa_cons (pv 2) pa_nil)) (pa_cons (pe_c c__law_contrary_of hr (by decide) (by rfl) (pa_cons (pv 3) pa_nil)) pa_nil)) rfl)
  (pss_cons (ps_for PassesOwn.never rfl (pi_range1 (by rfl) M.n_range (pa_cons (pe_callB call_len_seq (by rfl) M.n_len bo_len (pa_cons (pv 2) pa_nil)) pa_nil)) (pg_name (i := 6) nd rfl (Or.inl rfl))
  (pss_cons (ps_if ((pw_or (pt_cmpR (op_neD hr.units) (pe_ix ix_seq (pv 1) (pe_ix ix_seq (pv 2) (pv 6) (by intro _ _; rfl)) (by intro _ _; rfl)) (pe_ix ix_seq (pv 4) (pe_ix ix_seq (pv 1) (pv 6) (by intro _ _; rfl)) (by intro _ _; rfl)) (nomark _)) (pw_or1 (pt_cmpR (op_neD hr.units) (pe_ix ix_seq (pv 1) (pe_ix ix_seq (pv 3) (pv 6) (by intro _ _; rfl)) (by intro _ _; rfl)) (pe_ix ix_seq (pv 5) (pe_ix ix_seq (pv 1) (pv 6) (by intro _ _; rfl)) (by intro _ _; rfl)) (nomark _))))).pt
  (pss_one (ps_ret pe_bl))
  pss_nil)
  (pss_cons (ps_asg (pe_ix ix_seq (pv 3) (pe_ix ix_seq (pv 2) (pe_ix ix_seq (pv 1) (pv 6) (by intro _ _; rfl)) (by intro _ _; rfl)) (by intro _ _; rfl)) (pg_name (i := 7) nd rfl (Or.inl rfl)))
  (pss_one (ps_if (pt_cmpR (op_neD hr.units) (pe_cmpR op_in_seq (pv 6) (pe_ix ix_seq (pv 0) pe_int (by intro _ _; rfl)) (by rfl)) (pe_cmpR op_in_seq (pv 7) (pe_ix ix_seq (pv 0) pe_int (by intro _ _; rfl)) (by rfl)) (nomark _))
  (pss_one (ps_ret pe_bl))
  pss_nil)))))
  (pss_one (ps_ret (pe_cmpR (op_eqD hr.units) (pe_callB cr_sortedIT (by rfl) M.n_sorted bo_sorted (pa_cons (pv 1) pa_nil)) (pe_listRg (by rfl) (by rfl) M.n_list (prg_1 (by rfl) M.n_range (pe_callB call_len_seq (by rfl) M.n_len bo_len (pa_cons (pv 2) pa_nil)))) (nomark _)))))))
def t__law_turns_of (Γ : Wd) (K : PySem.W.Frag) (A__law_contrary_of : DS) (A__law_is_half_turn : DS) : TS :=
  (tSeq (tPar 1 2 (tCons (tOp (rIx K) (tVar 0) (tC (.int 0))) (tCons (tOp (rIx K) (tVar 0) (tC (.int 1))) tNil)))
  (tSeq (tPar 3 4 (tCons (tCall (spA Γ K A__law_contrary_of) [] E0 (tCons (tVar 1) tNil)) (tCons (tCall (spA Γ K A__law_contrary_of) [] E0 (tCons (tVar 2) tNil)) tNil)))
  (tSeq (tAsg (tLst tNil) (gName 5))
  (tSeq (tFor (iRng1 (tCons (tCB (fun xs H Q => ∃ p ys, xs = [.ref p] ∧ (SqL K H p ys ∨ SqT K H p ys) ∧ Q (.int ys.length) H) (tCons (tVar 1) tNil)) tNil)) (gName 6)
  (tSeq (tAsg (tDisp [((tC (.int 0)), (tVar 6))]) (gName 7))
  (tSeq (tFor (iRng1 (tCons (tCB (fun xs H Q => ∃ p ys, xs = [.ref p] ∧ (SqL K H p ys ∨ SqT K H p ys) ∧ Q (.int ys.length) H) (tCons (tVar 1) tNil)) tNil)) (gName 8)
  (tFor (iList K (tCB rListD (tCons (tVar 7) tNil))) (gName 9)
  (tSeq (tAsg (tDGet2 (tVar 7) (tOp (rIx K) (tVar 1) (tVar 9)) (tOp (rIx K) (tVar 3) (tDGet (tVar 7) (tVar 9)))) (gSub (tVar 7) (tOp (rIx K) (tVar 1) (tVar 9)) rSetD))
  (tAsg (tDGet2 (tVar 7) (tOp (rIx K) (tVar 2) (tVar 9)) (tOp (rIx K) (tVar 4) (tDGet (tVar 7) (tVar 9)))) (gSub (tVar 7) (tOp (rIx K) (tVar 2) (tVar 9)) rSetD)))))
  (tSeq (tAsg (tCB (fun xs H Q => ∃ p ys, xs = [.ref p] ∧ ((SqL K H p ys ∧ ∀ l, H l = none → Q (.ref l) (upd H l (.tup ys))) ∨ (SqT K H p ys ∧ Q (.ref p) H))) (tCons (tLc (iRng1 (tCons (tCB (fun xs H Q => ∃ p ys, xs = [.ref p] ∧ (SqL K H p ys ∨ SqT K H p ys) ∧ Q (.int ys.length) H) (tCons (tVar 1) tNil)) tNil)) (gName 9) tYes (tDGet (tVar 7) (tVar 9)) [9]) tNil)) (gName 10))
  (tIfS (tB (tCall (spA Γ K A__law_is_half_turn) [] E0 (tCons (tVar 0) (tCons (tVar 10) tNil))))
  (tDrop (tBM K "list" rAppend (tVar 5) (tCons (tVar 10) tNil)))
  tNext)))))
  (tRet (tCB (fun xs H Q => ∃ p ys, xs = [.ref p] ∧ ((SqL K H p ys ∧ ∀ l, H l = none → Q (.ref l) (upd H l (.tup ys))) ∨ (SqT K H p ys ∧ Q (.ref p) H))) (tCons (tCB (rSortUE K) (tCons (tVar 5) tNil)) tNil)))))))
theorem ps__law_turns_of {P : Program} {w : World} {K : PySem.W.Frag} {mg : Str → Option Value} {base : Heap} {Tb : List Addr} {f : Addr} {A__law_contrary_of : DS} {A__law_is_half_turn : DS} (M : Md K mg) (c__law_contrary_of : Cal P w K mg base 1 ("_law_contrary_of" : Str) (spA ⟨P, w, Tb⟩ K A__law_contrary_of) []) (c__law_is_half_turn : Cal P w K mg base 2 ("_law_is_half_turn" : Str) (spA ⟨P, w, Tb⟩ K A__law_is_half_turn) []) {cdv : Value} {Ar : Around} {outer : List Env} {s : Shared} {H : Hp} {E : XK}
    (hr : Room 2 (Ar.deeper (envOfC ("_law_turns_of" : Str) sc__law_turns_of s.heap.objs.size f cdv))) : PSs (cxOf CX0 P w K mg base N__law_turns_of ("_law_turns_of" : Str) sc__law_turns_of f cdv Ar outer s H E) (defBody st__law_turns_of) (t__law_turns_of ⟨P, w, Tb⟩ K A__law_contrary_of A__law_is_half_turn) := by
  have nd : N__law_turns_of.Nodup := S__law_turns_of.nd
  exact PSs.nox (pss_cons (ps_par (i := 1) (j := 2) rfl nd rfl rfl (by decide) rfl rfl (pa_cons (pe_ix ix_seq (pv 0) pe_int (by intro _ _; rfl)) (pa_cons (pe_ix ix_seq (pv 0) pe_int (by intro _ _; rfl)) pa_nil)) rfl)
  (pss_cons (ps_par (i := 3) (j := 4) rfl nd rfl rfl (by decide) rfl rfl (pa_cons (pe_c c__law_contrary_of hr (by decide) (by rfl) (pa_cons (pv 1) pa_nil)) (pa_cons (pe_c c__law_contrary_of hr (by decide) (by rfl) (pa_cons (pv 2) pa_nil)) pa_nil)) rfl)
  (pss_cons (ps_asg (pe_lst pa_nil) (pg_name (i := 5) nd rfl (Or.inl rfl)))
  (pss_cons (ps_for PassesOwn.never rfl (pi_range1 (by rfl) M.n_range (pa_cons (pe_callB call_len_seq (by rfl) M.n_len bo_len (pa_cons (pv 1) pa_nil)) pa_nil)) (pg_name (i := 6) nd rfl (Or.inl rfl))
  (pss_cons (ps_asg (pe_disp (pps_cons pe_int (pv 6) pps_nil) rfl rfl (by decide) (by decide)) (pg_name (i := 7) nd rfl (Or.inr rfl)))
  (pss_cons (ps_for PassesOwn.never rfl (pi_range1 (by rfl) M.n_range (pa_cons (pe_callB call_len_seq (by rfl) M.n_len bo_len (pa_cons (pv 1) pa_nil)) pa_nil)) (pg_name (i := 8) nd rfl (Or.inl rfl))
  (pss_one (ps_for PassesOwn.never rfl (pi_list (pe_callTy (call_list_dK rfl) (by rfl) M.n_list bo_list (pa_cons (pv 7) pa_nil))) (pg_name (i := 9) nd rfl (Or.inl rfl))
  (pss_cons (ps_asg (pe_dget2 hr.u1 (pv 7) (pe_ix ix_seq (pv 1) (pv 9) (by intro _ _; rfl)) (pe_ix ix_seq (pv 3) (pe_dget hr.u1 (pv 7) (pv 9) (by intro _ _; rfl)) (by intro _ _; rfl)) ⟨rfl, rfl, rfl, rfl⟩) (pg_sub (pv 7) (pe_ix ix_seq (pv 1) (pv 9) (by intro _ _; rfl)) (set_dict hr.u1)))
  (pss_one (ps_asg (pe_dget2 hr.u1 (pv 7) (pe_ix ix_seq (pv 2) (pv 9) (by intro _ _; rfl)) (pe_ix ix_seq (pv 4) (pe_dget hr.u1 (pv 7) (pv 9) (by intro _ _; rfl)) (by intro _ _; rfl)) ⟨rfl, rfl, rfl, rfl⟩) (pg_sub (pv 7) (pe_ix ix_seq (pv 2) (pv 9) (by intro _ _; rfl)) (set_dict hr.u1))))))))
  (pss_cons (ps_asg (pe_callTy call_tuple_of (by rfl) M.n_tuple bo_tuple (pa_cons (pe_lc (own := [(("i" : Str), 9)]) (g := (gName 9)) (tt := tYes) rfl nd (pi_range1 (by rfl) M.n_range (pa_cons (pe_callB call_len_seq (by rfl) M.n_len bo_len (pa_cons (pv 1) pa_nil)) pa_nil)) (blkOk_by (own := [(("i" : Str), 9)]) (N := N__law_turns_of) (sc := sc__law_turns_of) (by decide +kernel)) (fun _ _ _ _ _ => (pg_name (i := 9) nd rfl (Or.inl rfl))) (fun _ _ _ _ _ => pts_nil) (fun _ _ _ _ _ => (pe_dget hr.u1 (pv 7) (pv 9) (by intro _ _; rfl)))) pa_nil)) (pg_name (i := 10) nd rfl (Or.inl rfl)))
  (pss_one (ps_if (pt_val (pe_c c__law_is_half_turn hr (by decide) (by rfl) (pa_cons (pv 0) (pa_cons (pv 10) pa_nil))))
  (pss_one (ps_expr (pe_bm PySem.F.plainAttrs_list PySem.F.slot_list_append PySem.F.type_list_append mt_append (pv 5) (pa_cons (pv 10) pa_nil))))
  pss_nil))))))
  (pss_one (ps_ret (pe_callTy call_tuple_of (by rfl) M.n_tuple bo_tuple (pa_cons (pe_callB cr_sortUE (by rfl) M.n_sorted bo_sorted (pa_cons (pv 5) pa_nil)) pa_nil))))))))
def t_law (Γ : Wd) (K : PySem.W.Frag) (A__law_board : DS) (A__law_draw : DS) (A__law_half_places : DS) (A_halves : DS) (A__law_same : DS) (A__law_own_halves : DS) (A_needed : DS) (A__law_turns_of : DS) (A_half_turns : DS) (A_still : DS) : TS :=
  (tSeq (tAsg (tCall (spBag Γ K) [] E0 (tCons (tVar 0) tNil)) (gName 1))
  (tSeq (tFor (iRng1 (tCons (tC (.int 3)) tNil)) (gName 2)
  (tSeq (tAsg (tCall (spA Γ K A__law_board) [] E0 (tCons (tVar 1) (tCons (tC (.int 6)) tNil))) (gName 3))
  (tSeq (tAsg (tTup (tCons (tOp (rIx K) (tVar 3) (tC (.int 0))) (tCons (tOp (rIx K) (tVar 3) (tC (.int 1))) (tCons (tCB (fun xs H Q => ∃ p ys, xs = [.ref p] ∧ ((SqL K H p ys ∧ ∀ l, H l = none → Q (.ref l) (upd H l (.tup ys))) ∨ (SqT K H p ys ∧ Q (.ref p) H))) (tCons (tLc (iRng1 (tCons (tCB (fun xs H Q => ∃ p ys, xs = [.ref p] ∧ (SqL K H p ys ∨ SqT K H p ys) ∧ Q (.int ys.length) H) (tCons (tOp (rIx K) (tVar 3) (tC (.int 0))) tNil)) tNil)) (gName 17) (tOr (tTest (tOp (L2.rIn K false) (tVar 17) (tOp (rIx K) (tVar 3) (tC (.int 2))))) (tTest (tOp (rEqD K) (tCall (spA Γ K A__law_draw) [] E0 (tCons (tVar 1) (tCons (tC (.int 5)) tNil))) (tC (.int 0))))) (tVar 17) [17]) tNil)) tNil)))) (gName 4))
  (tSeq (tAsg (tCB (fun xs H Q => ∃ p ys, xs = [.ref p] ∧ (SqL K H p ys ∨ SqT K H p ys) ∧ Q (.int ys.length) H) (tCons (tOp (rIx K) (tVar 4) (tC (.int 0))) tNil)) (gName 5))
  (tSeq (tAsg (tCall (spA Γ K A__law_half_places) [] E0 (tCons (tVar 4) tNil)) (gName 6))
  (tSeq (tAsg (tLst tNil) (gName 7))
  (tSeq (tFor (iTup K (tVar 6)) (gName 8)
  (tSeq (tAsg (tIf (tTest (tOp (rI0 fun i j => .bl (decide (j < i))) (tVar 2) (tC (.int 0)))) (tCall (spA Γ K A_halves) [] E0 (tCons (tVar 4) (tCons (tVar 8) tNil))) (tCallN 0 2 (spA Γ K A_halves) g_halves__half_board E0 tNil (tCons (tVar 8) (tCons (tVar 4) tNil)))) (gName 9))
  (tSeq (tIfS (tNot (tB (tCall (spA Γ K A__law_same) [] E0 (tCons (tVar 9) (tCons (tCall (spA Γ K A__law_own_halves) [] E0 (tCons (tVar 4) (tCons (tVar 8) tNil))) tNil)))))
  (tRet (tC (.bl false)))
  tNext)
  (tDrop (tBM K "list" rAppend (tVar 7) (tCons (tVar 9) tNil))))))
  (tSeq (tFor (iRng1 (tCons (tCB (fun xs H Q => ∃ p ys, xs = [.ref p] ∧ (SqL K H p ys ∨ SqT K H p ys) ∧ Q (.int ys.length) H) (tCons (tVar 7) tNil)) tNil)) (gName 10)
  (tFor (iRng1 (tCons (tVar 10) tNil)) (gName 11)
  (tIfS (tAnd (tNot (tB (tCall (spA Γ K A__law_same) [] E0 (tCons (tOp (rIx K) (tVar 7) (tVar 10)) (tCons (tOp (rIx K) (tVar 7) (tVar 11)) tNil))))) (tTest (tOp (rI0 fun i j => .bl (decide (j < i))) (tCB (fun xs H Q => ∃ p ys, xs = [.ref p] ∧ (SqL K H p ys ∨ SqT K H p ys) ∧ Q (.int ys.length) H) (tCons (tLc (iTup K (tOp (rIx K) (tVar 7) (tVar 10))) (gName 19) (tTest (tOp (rInTD K) (tVar 19) (tOp (rIx K) (tVar 7) (tVar 11)))) (tVar 19) [19]) tNil)) (tC (.int 0)))))
  (tRet (tC (.bl false)))
  tNext)))
  (tSeq (tAsg (tC (.int 0)) (gName 12))
  (tSeq (tFor (iRng1 (tCons (tVar 5) tNil)) (gName 13)
  (tFor (iRng1 (tCons (tVar 5) tNil)) (gName 14)
  (tSeq (tAsg (tIf (tTest (tOp (rI0 fun i j => .bl (decide (j < i))) (tVar 2) (tC (.int 0)))) (tCall (spA Γ K A_needed) [] E0 (tCons (tVar 4) (tCons (tVar 13) (tCons (tVar 14) tNil)))) (tCallN 0 3 (spA Γ K A_needed) g_needed__j_i_board E0 tNil (tCons (tVar 14) (tCons (tVar 13) (tCons (tVar 4) tNil))))) (gName 9))
  (tSeq (tIfS (tNot (tB (tCall (spA Γ K A__law_same) [] E0 (tCons (tVar 9) (tCons (tCB (fun xs H Q => ∃ p ys, xs = [.ref p] ∧ ((SqL K H p ys ∧ ∀ l, H l = none → Q (.ref l) (upd H l (.tup ys))) ∨ (SqT K H p ys ∧ Q (.ref p) H))) (tCons (tLc (iRng1 (tCons (tCB (fun xs H Q => ∃ p ys, xs = [.ref p] ∧ (SqL K H p ys ∨ SqT K H p ys) ∧ Q (.int ys.length) H) (tCons (tVar 6) tNil)) tNil)) (gName 17) (tTest (tOp (rInTD K) (tTup (tCons (tVar 14) (tCons (tVar 13) tNil))) (tOp (rIx K) (tVar 7) (tVar 17)))) (tOp (rIx K) (tVar 6) (tVar 17)) [17]) tNil)) tNil)))))
  (tRet (tC (.bl false)))
  tNext)
  (tAsg (tOp (rI0 fun i j => .int (i + j)) (tVar 12) (tCB (fun xs H Q => ∃ p ys, xs = [.ref p] ∧ (SqL K H p ys ∨ SqT K H p ys) ∧ Q (.int ys.length) H) (tCons (tVar 9) tNil))) (gName 12))))))
  (tSeq (tIfS (tTest (tOp (rNeD K) (tVar 12) (tCB (rSum K) (tCons (tLc (iList K (tVar 7)) (gName 18) tYes (tCB (fun xs H Q => ∃ p ys, xs = [.ref p] ∧ (SqL K H p ys ∨ SqT K H p ys) ∧ Q (.int ys.length) H) (tCons (tVar 18) tNil)) [18]) tNil))))
  (tRet (tC (.bl false)))
  tNext)
  (tSeq (tAsg (tCall (spA Γ K A__law_turns_of) [] E0 (tCons (tVar 4) tNil)) (gName 15))
  (tSeq (tIfS (tNot (tB (tCall (spA Γ K A__law_same) [] E0 (tCons (tIf (tTest (tOp (rI0 fun i j => .bl (decide (j < i))) (tVar 2) (tC (.int 0)))) (tCall (spA Γ K A_half_turns) [] E0 (tCons (tVar 4) tNil)) (tCallN 0 1 (spA Γ K A_half_turns) g_half_turns__board E0 tNil (tCons (tVar 4) tNil))) (tCons (tVar 15) tNil)))))
  (tRet (tC (.bl false)))
  tNext)
  (tFor (iTup K (tVar 15)) (gName 16)
  (tSeq (tAsg (tIf (tTest (tOp (rI0 fun i j => .bl (decide (j < i))) (tVar 2) (tC (.int 0)))) (tCall (spA Γ K A_still) [] E0 (tCons (tVar 4) (tCons (tVar 16) tNil))) (tCallN 0 2 (spA Γ K A_still) g_still__turn_board E0 tNil (tCons (tVar 16) (tCons (tVar 4) tNil)))) (gName 9))
  (tFor (iRng1 (tCons (tVar 5) tNil)) (gName 13)
  (tIfS (tNot (tB (tCall (spA Γ K A__law_same) [] E0 (tCons (tCall (spA Γ K A_needed) [] E0 (tCons (tVar 4) (tCons (tVar 13) (tCons (tOp (rIx K) (tVar 16) (tVar 13)) tNil)))) (tCons (tVar 9) tNil)))))
  (tRet (tC (.bl false)))
  tNext)))))))))))))))))
  (tRet (tC (.bl true)))))
theorem ps_law {P : Program} {w : World} {K : PySem.W.Frag} {mg : Str → Option Value} {base : Heap} {Tb : List Addr} {f : Addr} {A__law_board : DS} {A__law_draw : DS} {A__law_half_places : DS} {A_halves : DS} {A__law_same : DS} {A__law_own_halves : DS} {A_needed : DS} {A__law_turns_of : DS} {A_half_turns : DS} {A_still : DS} (M : Md K mg) (c__law_bag : Cal P w K mg base 1 ("_law_bag" : Str) (spBag ⟨P, w, Tb⟩ K) []) (c__law_board : Cal P w K mg base 3 ("_law_board" : Str) (spA ⟨P, w, Tb⟩ K A__law_board) []) (c__law_draw : Cal P w K mg base 1 ("_law_draw" : Str) (spA ⟨P, w, Tb⟩ K A__law_draw) []) (c__law_half_places : Cal P w K mg base 1 ("_law_half_places" : Str) (spA ⟨P, w, Tb⟩ K A__law_half_places) []) (c_halves : Cal P w K mg base 5 ("halves" : Str) (spA ⟨P, w, Tb⟩ K A_halves) []) (c_halves__half_board : CalN P w K mg base 5 ("halves" : Str) [("half" : Str), ("board" : Str)] g_halves__half_board (spA ⟨P, w, Tb⟩ K A_halves)) (c__law_same : Cal P w K mg base 7 ("_law_same" : Str) (spA ⟨P, w, Tb⟩ K A__law_same) []) (c__law_own_halves : Cal P w K mg base 2 ("_law_own_halves" : Str) (spA ⟨P, w, Tb⟩ K A__law_own_halves) []) (c_needed : Cal P w K mg base 5 ("needed" : Str) (spA ⟨P, w, Tb⟩ K A_needed) []) (c_needed__j_i_board : CalN P w K mg base 5 ("needed" : Str) [("j" : Str), ("i" : Str), ("board" : Str)] g_needed__j_i_board (spA ⟨P, w, Tb⟩ K A_needed)) (c__law_turns_of : Cal P w K mg base 3 ("_law_turns_of" : Str) (spA ⟨P, w, Tb⟩ K A__law_turns_of) []) (c_half_turns : Cal P w K mg base 4 ("half_turns" : Str) (spA ⟨P, w, Tb⟩ K A_half_turns) []) (c_half_turns__board : CalN P w K mg base 4 ("half_turns" : Str) [("board" : Str)] g_half_turns__board (spA ⟨P, w, Tb⟩ K A_half_turns)) (c_still : Cal P w K mg base 5 ("still" : Str) (spA ⟨P, w, Tb⟩ K A_still) []) (c_still__turn_board : CalN P w K mg base 5 ("still" : Str) [("turn" : Str), ("board" : Str)] g_still__turn_board (spA ⟨P, w, Tb⟩ K A_still)) {cdv : Value} {Ar : Around} {outer : List Env} {s : Shared} {H : Hp} {E : XK}
    (hr : Room 7 (Ar.deeper (envOfC ("law" : Str) sc_law s.heap.objs.size f cdv))) : PSs (cxOf CX0 P w K mg base N_law ("law" : Str) sc_law f cdv Ar outer s H E) (defBody st_law) (t_law ⟨P, w, Tb⟩ K A__law_board A__law_draw A__law_half_places A_halves A__law_same A__law_own_halves A_needed A__law_turns_of A_half_turns A_still) := by
  have nd : N_law.Nodup := S_law.nd
  exact PSs.nox (pss_cons (ps_asg (pe_c c__law_bag hr (by decide) (by rfl) (pa_cons (pv 0) pa_nil)) (pg_name (i := 1) nd rfl (Or.inr rfl)))
  (pss_cons (ps_for PassesOwn.never rfl (pi_range1 (by rfl) M.n_range (pa_cons pe_int pa_nil)) (pg_name (i := 2) nd rfl (Or.inl rfl))
  (pss_cons (ps_asg (pe_c c__law_board hr (by decide) (by rfl) (pa_cons (pv 1) (pa_cons pe_int pa_nil))) (pg_name (i := 3) nd rfl (Or.inr rfl)))
  (pss_cons (ps_asg (pe_tup (pa_cons (pe_ix ix_seq (pv 3) pe_int (by intro _ _; rfl)) (pa_cons (pe_ix ix_seq (pv 3) pe_int (by intro _ _; rfl)) (pa_cons (pe_callTy call_tuple_of (by rfl) M.n_tuple bo_tuple (pa_cons (pe_lc (own := [(("k" : Str), 17)]) (g := (gName 17)) (tt := (tOr (tTest (tOp (L2.rIn K false) (tVar 17) (tOp (rIx K) (tVar 3) (tC (.int 2))))) (tTest (tOp (rEqD K) (tCall (spA (⟨P, w, Tb⟩ : Wd) K A__law_draw) [] E0 (tCons (tVar 1) (tCons (tC (.int 5)) tNil))) (tC (.int 0)))))) rfl nd (pi_range1 (by rfl) M.n_range (pa_cons (pe_callB call_len_seq (by rfl) M.n_len bo_len (pa_cons (pe_ix ix_seq (pv 3) pe_int (by intro _ _; rfl)) pa_nil)) pa_nil)) (blkOk_by (own := [(("k" : Str), 17)]) (N := N_law) (sc := sc_law) (by decide +kernel)) (fun _ _ _ _ _ => (pg_name (i := 17) nd rfl (Or.inl rfl))) (fun _ _ _ _ _ => (pts_one ((pw_or (pt_cmpR op_in_seq (pv 17) (pe_ix ix_seq (pv 3) pe_int (by intro _ _; rfl)) (by rfl)) (pw_or1 (pt_cmpR (op_eqD hr.units) (pe_c c__law_draw hr (by decide) (by rfl) (pa_cons (pv 1) (pa_cons pe_int pa_nil))) pe_int (nomark _))))).pt)) (fun _ _ _ _ _ => (pv 17))) pa_nil)) pa_nil)))) (pg_name (i := 4) nd rfl (Or.inl rfl)))
  (pss_cons (ps_asg (pe_callB call_len_seq (by rfl) M.n_len bo_len (pa_cons (pe_ix ix_seq (pv 4) pe_int (by intro _ _; rfl)) pa_nil)) (pg_name (i := 5) nd rfl (Or.inl rfl)))
  (pss_cons (ps_asg (pe_c c__law_half_places hr (by decide) (by rfl) (pa_cons (pv 4) pa_nil)) (pg_name (i := 6) nd rfl (Or.inr rfl)))
  (pss_cons (ps_asg (pe_lst pa_nil) (pg_name (i := 7) nd rfl (Or.inr rfl)))
  (pss_cons (ps_for PassesOwn.never rfl (pi_tup (pv 6)) (pg_name (i := 8) nd rfl (Or.inl rfl))
  (pss_cons (ps_asg (pe_ifExp (pt_cmpR op_gt (pv 2) pe_int (nomark _)) (pe_c c_halves hr (by decide) (by rfl) (pa_cons (pv 4) (pa_cons (pv 8) pa_nil))) (pe_cN (ks := [("half" : Str), ("board" : Str)]) c_halves__half_board hr (by decide) rfl (pk_cons (pv 8) (pk_cons (pv 4) pk_nil)))) (pg_name (i := 9) nd rfl (Or.inl rfl)))
  (pss_cons (ps_if (pt_not (pt_val (pe_c c__law_same hr (by decide) (by rfl) (pa_cons (pv 9) (pa_cons (pe_c c__law_own_halves hr (by decide) (by rfl) (pa_cons (pv 4) (pa_cons (pv 8) pa_nil))) pa_nil)))))
  (pss_one (ps_ret pe_bl))
  pss_nil)
  (pss_one (ps_expr (pe_bm PySem.F.plainAttrs_list PySem.F.slot_list_append PySem.F.type_list_append mt_append (pv 7) (pa_cons (pv 9) pa_nil)))))))
  (pss_cons (ps_for PassesOwn.never rfl (pi_range1 (by rfl) M.n_range (pa_cons (pe_callB call_len_seq (by rfl) M.n_len bo_len (pa_cons (pv 7) pa_nil)) pa_nil)) (pg_name (i := 10) nd rfl (Or.inl rfl))
  (pss_one (ps_for PassesOwn.never rfl (pi_range1 (by rfl) M.n_range (pa_cons (pv 10) pa_nil)) (pg_name (i := 11) nd rfl (Or.inr rfl))
  (pss_one (ps_if ((pw_and (pt_not (pt_val (pe_c c__law_same hr (by decide) (by rfl) (pa_cons (pe_ix ix_seq (pv 7) (pv 10) (by intro _ _; rfl)) (pa_cons (pe_ix ix_seq (pv 7) (pv 11) (by intro _ _; rfl)) pa_nil))))) (pw_and1 (pt_cmpR op_gt (pe_callB call_len_seq (by rfl) M.n_len bo_len (pa_cons (pe_lc (own := [(("pair" : Str), 19)]) (g := (gName 19)) (tt := (tTest (tOp (rInTD K) (tVar 19) (tOp (rIx K) (tVar 7) (tVar 11))))) rfl nd (pi_tup (pe_ix ix_seq (pv 7) (pv 10) (by intro _ _; rfl))) (blkOk_by (own := [(("pair" : Str), 19)]) (N := N_law) (sc := sc_law) (by decide +kernel)) (fun _ _ _ _ _ => (pg_name (i := 19) nd rfl (Or.inl rfl))) (fun _ _ _ _ _ => (pts_one (pt_cmpR (op_inTD hr.u65) (pv 19) (pe_ix ix_seq (pv 7) (pv 11) (by intro _ _; rfl)) (by rfl)))) (fun _ _ _ _ _ => (pv 19))) pa_nil)) pe_int (nomark _))))).pt
  (pss_one (ps_ret pe_bl))
  pss_nil)))))
  (pss_cons (ps_asg pe_int (pg_name (i := 12) nd rfl (Or.inl rfl)))
  (pss_cons (ps_for PassesOwn.never rfl (pi_range1 (by rfl) M.n_range (pa_cons (pv 5) pa_nil)) (pg_name (i := 13) nd rfl (Or.inr rfl))
  (pss_one (ps_for PassesOwn.never rfl (pi_range1 (by rfl) M.n_range (pa_cons (pv 5) pa_nil)) (pg_name (i := 14) nd rfl (Or.inr rfl))
  (pss_cons (ps_asg (pe_ifExp (pt_cmpR op_gt (pv 2) pe_int (nomark _)) (pe_c c_needed hr (by decide) (by rfl) (pa_cons (pv 4) (pa_cons (pv 13) (pa_cons (pv 14) pa_nil)))) (pe_cN (ks := [("j" : Str), ("i" : Str), ("board" : Str)]) c_needed__j_i_board hr (by decide) rfl (pk_cons (pv 14) (pk_cons (pv 13) (pk_cons (pv 4) pk_nil))))) (pg_name (i := 9) nd rfl (Or.inl rfl)))
  (pss_cons (ps_if (pt_not (pt_val (pe_c c__law_same hr (by decide) (by rfl) (pa_cons (pv 9) (pa_cons (pe_callTy call_tuple_of (by rfl) M.n_tuple bo_tuple (pa_cons (pe_lc (own := [(("k" : Str), 17)]) (g := (gName 17)) (tt := (tTest (tOp (rInTD K) (tTup (tCons (tVar 14) (tCons (tVar 13) tNil))) (tOp (rIx K) (tVar 7) (tVar 17))))) rfl nd (pi_range1 (by rfl) M.n_range (pa_cons (pe_callB call_len_seq (by rfl) M.n_len bo_len (pa_cons (pv 6) pa_nil)) pa_nil)) (blkOk_by (own := [(("k" : Str), 17)]) (N := N_law) (sc := sc_law) (by decide +kernel)) (fun _ _ _ _ _ => (pg_name (i := 17) nd rfl (Or.inl rfl))) (fun _ _ _ _ _ => (pts_one (pt_cmpR (op_inTD hr.u65) (pe_tup (pa_cons (pv 14) (pa_cons (pv 13) pa_nil))) (pe_ix ix_seq (pv 7) (pv 17) (by intro _ _; rfl)) (by rfl)))) (fun _ _ _ _ _ => (pe_ix ix_seq (pv 6) (pv 17) (by intro _ _; rfl)))) pa_nil)) pa_nil)))))
  (pss_one (ps_ret pe_bl))
  pss_nil)
  (pss_one (ps_asg (pe_op op_add (pv 12) (pe_callB call_len_seq (by rfl) M.n_len bo_len (pa_cons (pv 9) pa_nil))) (pg_name (i := 12) nd rfl (Or.inl rfl)))))))))
  (pss_cons (ps_if (pt_cmpR (op_neD hr.units) (pv 12) (pe_callB (cr_sum rfl) (by rfl) M.n_sum bo_sum (pa_cons (pe_lc (own := [(("row" : Str), 18)]) (g := (gName 18)) (tt := tYes) rfl nd (pi_list (pv 7)) (blkOk_by (own := [(("row" : Str), 18)]) (N := N_law) (sc := sc_law) (by decide +kernel)) (fun _ _ _ _ _ => (pg_name (i := 18) nd rfl (Or.inl rfl))) (fun _ _ _ _ _ => pts_nil) (fun _ _ _ _ _ => (pe_callB call_len_seq (by rfl) M.n_len bo_len (pa_cons (pv 18) pa_nil)))) pa_nil)) (nomark _))
  (pss_one (ps_ret pe_bl))
  pss_nil)
  (pss_cons (ps_asg (pe_c c__law_turns_of hr (by decide) (by rfl) (pa_cons (pv 4) pa_nil)) (pg_name (i := 15) nd rfl (Or.inl rfl)))
  (pss_cons (ps_if (pt_not (pt_val (pe_c c__law_same hr (by decide) (by rfl) (pa_cons (pe_ifExp (pt_cmpR op_gt (pv 2) pe_int (nomark _)) (pe_c c_half_turns hr (by decide) (by rfl) (pa_cons (pv 4) pa_nil)) (pe_cN (ks := [("board" : Str)]) c_half_turns__board hr (by decide) rfl (pk_cons (pv 4) pk_nil))) (pa_cons (pv 15) pa_nil)))))
  (pss_one (ps_ret pe_bl))
  pss_nil)
  (pss_one (ps_for PassesOwn.never rfl (pi_tup (pv 15)) (pg_name (i := 16) nd rfl (Or.inl rfl))
  (pss_cons (ps_asg (pe_ifExp (pt_cmpR op_gt (pv 2) pe_int (nomark _)) (pe_c c_still hr (by decide) (by rfl) (pa_cons (pv 4) (pa_cons (pv 16) pa_nil))) (pe_cN (ks := [("turn" : Str), ("board" : Str)]) c_still__turn_board hr (by decide) rfl (pk_cons (pv 16) (pk_cons (pv 4) pk_nil)))) (pg_name (i := 9) nd rfl (Or.inl rfl)))
  (pss_one (ps_for PassesOwn.never rfl (pi_range1 (by rfl) M.n_range (pa_cons (pv 5) pa_nil)) (pg_name (i := 13) nd rfl (Or.inr rfl))
  (pss_one (ps_if (pt_not (pt_val (pe_c c__law_same hr (by decide) (by rfl) (pa_cons (pe_c c_needed hr (by decide) (by rfl) (pa_cons (pv 4) (pa_cons (pv 13) (pa_cons (pe_ix ix_seq (pv 16) (pv 13) (by intro _ _; rfl)) pa_nil)))) (pa_cons (pv 9) pa_nil)))))
  (pss_one (ps_ret pe_bl))
  pss_nil))))))))))))))))))))
  (pss_one (ps_ret pe_bl))))
end K74
end
/-! ## M74a -/
section
/-! M74a: permutations as lists. -/
namespace K74
/-- a row of steps: a permutation -/
structure Pm (R : List Nat) : Prop where
  nd : R.Nodup
  lt : ∀ x ∈ R, x < R.length
  le : R.length ≤ 100
def inv (R : List Nat) : List Nat := (List.range R.length).map fun j => R.idxOf j
abbrev at0 (R : List Nat) (k : Nat) : Nat := R.getD k 0
theorem nodup_sub_len : ∀ {l m : List Nat}, l.Nodup → (∀ x ∈ l, x ∈ m) → l.length ≤ m.length
  | [], _, _, _ => Nat.zero_le _
  | x :: l, m, nd, h => by
    obtain ⟨hx, nd'⟩ := List.nodup_cons.mp nd
    have hm : x ∈ m := h x List.mem_cons_self
    have h2 := nodup_sub_len (l := l) (m := m.erase x) nd' fun y hy => by
      have hne : y ≠ x := fun e => hx (e ▸ hy)
      exact (List.mem_erase_of_ne hne).mpr (h y (List.mem_cons_of_mem _ hy))
    have h3 := List.length_erase_of_mem hm
    have h4 : 0 < m.length := List.length_pos_of_mem hm
    rw [List.length_cons]
    omega
theorem Pm.mem {R : List Nat} (hp : Pm R) {j : Nat} (hj : j < R.length) : j ∈ R := by
  refine Classical.byContradiction fun hn => ?_
  have h := nodup_sub_len (l := R) (m := (List.range R.length).erase j) hp.nd fun x hx => by
    have hne : x ≠ j := fun e => hn (e ▸ hx)
    exact (List.mem_erase_of_ne hne).mpr (List.mem_range.mpr (hp.lt x hx))
  have h3 := List.length_erase_of_mem (List.mem_range.mpr hj)
  rw [List.length_range] at h3
  omega
theorem at0_get {R : List Nat} {k : Nat} (h : k < R.length) : at0 R k = R[k] := by simp [at0, List.getD_eq_getElem?_getD, h]
theorem at0_mem {R : List Nat} {k : Nat} (h : k < R.length) : at0 R k ∈ R := by rw [at0_get h]; exact List.getElem_mem h
theorem Pm.lt' {R : List Nat} (hp : Pm R) {k : Nat} (h : k < R.length) : at0 R k < R.length := hp.lt _ (at0_mem h)
theorem inv_length (R : List Nat) : (inv R).length = R.length := by unfold inv; simp
theorem at0_inv {R : List Nat} {j : Nat} (hj : j < R.length) : at0 (inv R) j = R.idxOf j := by
  rw [at0_get (by rw [inv_length]; exact hj)]
  unfold inv
  simp
theorem Pm.right {R : List Nat} (hp : Pm R) {j : Nat} (hj : j < R.length) : at0 R (at0 (inv R) j) = j := by
  rw [at0_inv hj]
  have hm := hp.mem hj
  have hlt : R.idxOf j < R.length := List.idxOf_lt_length_iff.mpr hm
  rw [at0_get hlt]
  exact List.getElem_idxOf hlt
theorem Pm.inj {R : List Nat} (hp : Pm R) {i j : Nat} (hi : i < R.length) (hj : j < R.length) (e : at0 R i = at0 R j) : i = j := by
  rw [at0_get hi, at0_get hj] at e
  have h := List.pairwise_iff_getElem.mp hp.nd
  rcases Nat.lt_trichotomy i j with z | z | z
  · exact absurd e (h i j hi hj z)
  · exact z
  · exact absurd e.symm (h j i hj hi z)
theorem inv_lt {R : List Nat} (hp : Pm R) {j : Nat} (hj : j < R.length) : at0 (inv R) j < R.length := by
  rw [at0_inv hj]
  exact List.idxOf_lt_length_iff.mpr (hp.mem hj)
theorem Pm.left {R : List Nat} (hp : Pm R) {k : Nat} (hk : k < R.length) : at0 (inv R) (at0 R k) = k :=
  hp.inj (inv_lt hp (hp.lt' hk)) hk (hp.right (hp.lt' hk))
theorem inv_of {R L : List Nat} (hp : Pm R) (hl : L.length = R.length) (h : ∀ k, k < R.length → at0 L (at0 R k) = k) : L = inv R := by
  refine List.ext_getElem (by rw [hl, inv_length]) fun j h1 h2 => ?_
  have hj : j < R.length := by omega
  rw [← at0_get h1, ← at0_get h2]
  have e := hp.right hj
  have h3 := h _ (inv_lt hp hj)
  rw [e] at h3
  exact h3
theorem nodup_of_inj : ∀ {L : List Nat}, (∀ i j, i < L.length → j < L.length → at0 L i = at0 L j → i = j) → L.Nodup
  | [], _ => List.nodup_nil
  | x :: L, h => by
    refine List.nodup_cons.mpr ⟨fun hx => ?_, nodup_of_inj fun i j hi hj e => ?_⟩
    · obtain ⟨i, hi, e⟩ := List.getElem_of_mem hx
      have := h 0 (i + 1) (by simp) (by simp; omega) (by simp [at0, List.getD_eq_getElem?_getD, hi, e])
      omega
    · have := h (i + 1) (j + 1) (by simp; omega) (by simp; omega) (by simpa [at0, List.getD_eq_getElem?_getD] using e)
      omega
theorem Pm.invP {R : List Nat} (hp : Pm R) : Pm (inv R) := by
  refine ⟨nodup_of_inj fun i j hi hj e => ?_, fun x hx => ?_, by rw [inv_length]; exact hp.le⟩
  · rw [inv_length] at hi hj
    have := congrArg (at0 R) e
    rw [hp.right hi, hp.right hj] at this
    exact this
  · obtain ⟨i, hi, e⟩ := List.getElem_of_mem hx
    rw [inv_length] at hi
    rw [← e, ← at0_get (by rw [inv_length]; exact hi), inv_length]
    exact inv_lt hp hi
theorem inv_inv {R : List Nat} (hp : Pm R) : inv (inv R) = R := by
  symm
  refine inv_of hp.invP (by rw [inv_length]) fun k hk => ?_
  rw [inv_length] at hk
  exact hp.right hk
theorem at0_set {L : List Nat} {i j x : Nat} (hi : i < L.length) : at0 (L.set i x) j = if j = i then x else at0 L j := by
  unfold at0
  rw [List.getD_eq_getElem?_getD, List.getD_eq_getElem?_getD, List.getElem?_set]
  by_cases h : i = j
  · subst h
    simp [hi]
  · rw [if_neg h, if_neg (fun e => h e.symm)]
end K74
end
/-! ## W74a -/
section
namespace K74
open PySem PySem.Spec PyProof.Rows L2 AB
/-- one step of a walk -/
local macro_rules | `(tactic| walk_at "v") => `(tactic| first
  | refine we_d rfl ?_ | refine we_ol rfl ?_ | refine we_oK rfl ?_ | refine we_oN rfl ?_ | refine we_ob rfl ?_ | refine we_rv rfl ?_ | refine we_int ?_ | refine we_bl ?_ | refine we_non ?_ | refine we_str ?_ | refine we_sI rfl ?_ | refine we_c (L2.GCn.dp (by assumption)) ?_ | refine we_cv ?_)
local macro_rules | `(tactic| walk_at "e") => `(tactic| first
  | walk_at "v" | with_reducible refine wa_nil ?_ | with_reducible refine wa_cons ?_ | with_reducible refine we_I0i ?_ | with_reducible refine we_I0b ?_ | with_reducible refine we_Ii ?_ | with_reducible refine we_eqD ?_ | with_reducible refine we_neD ?_ | with_reducible refine we_ix ?_ | with_reducible refine we_tup ?_ | with_reducible refine we_lst ?_ | with_reducible refine wt_test ?_ | with_reducible refine wt_B ?_ | with_reducible refine wt_not ?_ | with_reducible refine wt_and ?_ | with_reducible refine wt_or ?_ | with_reducible refine we_if ?_ | with_reducible refine we_andV ?_ | with_reducible refine we_orV ?_ | with_reducible refine we_notV ?_ | with_reducible refine we_neg ?_ | with_reducible refine we_chain ?_ | with_reducible refine we_slT ?_ | with_reducible refine wo_no ?_ | with_reducible refine wo_some ?_
  | with_reducible refine ws_seq ?_ | with_reducible refine ws_ret ?_ | with_reducible refine ws_asg ?_ | with_reducible refine ws_drop ?_ | with_reducible refine ws_if ?_ | with_reducible refine wg_d ?_ | with_reducible refine wg_ol ?_ | with_reducible refine wg_oK ?_ | with_reducible refine wgs_nil ?_ | with_reducible refine wgs_cons ?_  | with_reducible refine ws_next ?_
  | with_reducible refine we_len ?_ | with_reducible refine we_isi ?_ | with_reducible refine we_gcdG ?_ | with_reducible refine we_fld ?_ | with_reducible refine we_tuple ?_ | with_reducible refine we_list ?_ | with_reducible refine we_inI ?_
  | refine wg_tup rfl ?_)
/-- what a step asks, where it is plain -/
local macro_rules | `(tactic| walk_at "c") => `(tactic| first
  | refine ⟨_, rfl, un_d, ?_⟩ | refine ⟨_, rfl, un_ol, ?_⟩ | refine ⟨_, rfl, un_oK, ?_⟩ | refine ⟨_, rfl, un_oN, ?_⟩ | refine ⟨_, rfl, un_rv, ?_⟩
  | with_reducible refine ⟨_, rfl, fun _ => ?_, tt_ff⟩ | with_reducible refine ⟨_, rfl, ff_tt, fun _ => ?_⟩ | refine ⟨_, rfl, fun _ => ?_, fun _ => ?_⟩
  | with_reducible refine ⟨fun _ => ?_, tt_ff⟩ | with_reducible refine ⟨ff_tt, fun _ => ?_⟩ | with_reducible refine ⟨fun _ => ?_, fun _ => ?_⟩
  | refine ⟨_, _, rfl, rfl, fun _ => ?_, fun _ => ?_⟩
  | refine ⟨_, rfl, ?_⟩
  | refine ⟨_, _, rfl, fun _ _ => ?_⟩
  | refine ⟨_, _, rfl, rfl, rfl, rfl, ?_⟩
  | refine ⟨_, _, rfl, rfl, ?_⟩
  | refine ⟨_, _, rfl, _, true, rfl, rfl, ?_⟩ | refine ⟨_, _, rfl, _, false, rfl, rfl, ?_⟩
  | refine ⟨_, _, _, .inr rfl, rfl, rfl, ?_⟩
  | refine ⟨_, rfl, _, .inr rfl, ?_⟩ | refine ⟨_, .inr rfl, ?_⟩ | refine ⟨_, .inl rfl, ?_⟩
  | refine ⟨[_, _], rfl, (by decide), ?_⟩
  | refine ⟨[_, _, _], rfl, (by decide), ?_⟩)
local macro_rules | `(tactic| walk_at "E") => `(tactic| repeat' first | walk_at "e" | walk_at "c" | fail)
abbrev Goes (Γ : Wd) (K : PySem.W.Frag) (n m : Nat) (t : TS) (A : DS) : Prop := ∀ β args k, A β args k → args.length = n ∧ WS Γ K β t (args ++ List.replicate (m - args.length) .un) { nx := fun _ => k (.d .none), rt := k }
theorem fk {k : AV → Prop} {a b : PyData} (h : k (.d a)) (e : a = b) : k (.d b) := e ▸ h
abbrev bd (R U E : List Nat) : PyData := .tuple [tN R, tN U, tN E]
theorem eqvI (i j : Int) : PyData.eqv (.int i) (.int j) = decide (i = j) := by
  show (i == j) = decide (i = j)
  rw [Bool.beq_eq_decide_eq]
section
variable {Γ : Wd} {K : PySem.W.Frag}
def A_is_number : DS := fun _ args k => ∃ i : Int, args = [.d (.int i)] ∧ k (.d (.bool true))
theorem ws_is_number : Goes Γ K 1 1 (t_is_number Γ K) A_is_number := by
  rintro β args k ⟨i, rfl, hk⟩
  refine ⟨rfl, ?_⟩
  show WS _ _ _ _ [_] _
  unfold t_is_number
  walk_at "E"
  exact hk
def A_is_from_to : DS := fun _ args k => ∃ i a b : Int, args = [.d (.int i), .d (.int a), .d (.int b)] ∧ a ≤ i ∧ i ≤ b ∧ k (.d (.bool true))
theorem ws_is_from_to : Goes Γ K 3 3 (t_is_from_to Γ K A_is_number) A_is_from_to := by
  rintro β args k ⟨i, a, b, rfl, h1, h2, hk⟩
  refine ⟨rfl, ?_⟩
  show WS _ _ _ _ [_, _, _] _
  unfold t_is_from_to
  walk_at "E"
  refine we_callE ?_
  walk_at "E"
  refine ⟨_, _, rfl, ⟨_, rfl, rfl⟩, rfl, ?_⟩
  walk_at "E"
  · exact fk hk (by rw [decide_eq_true h2])
  · exact absurd h1 (of_decide_eq_false (by assumption))
def A_is_row : DS := fun _ args k => ∃ (ds : List PyData), args = [.d (.tuple ds), .d (.int (ds.length : Nat))] ∧ k (.d (.bool true))
theorem ws_is_row : Goes Γ K 2 2 (t_is_row Γ K) A_is_row := by
  rintro β args k ⟨ds, rfl, hk⟩
  refine ⟨rfl, ?_⟩
  show WS _ _ _ _ [_, _] _
  unfold t_is_row
  walk_at "E"
  exact fk hk (by rw [eqvI, decide_eq_true rfl])
def A_is_fraction : DS := fun _ args k => ∃ (a b : Int), args = [.d (.tuple [.int a, .int b])] ∧ 1 ≤ b ∧ Nat.gcd a.natAbs b.natAbs = 1 ∧ k (.d (.bool true))
theorem ws_is_fraction : Goes Γ K 1 1 (t_is_fraction Γ K A_is_row A_is_number) A_is_fraction := by
  rintro β args k ⟨a, b, rfl, hb, hg, hk⟩
  refine ⟨rfl, ?_⟩
  show WS _ _ _ _ [_] _
  unfold t_is_fraction
  walk_at "E"
  refine we_callE ?_
  walk_at "E"
  refine ⟨_, _, rfl, ⟨_, rfl, rfl⟩, rfl, ?_⟩
  walk_at "E"
  refine we_callE ?_
  walk_at "E"
  refine ⟨_, _, rfl, ⟨_, rfl, rfl⟩, rfl, ?_⟩
  walk_at "E"
  refine we_callE ?_
  walk_at "E"
  refine ⟨_, _, rfl, ⟨_, rfl, rfl⟩, rfl, ?_⟩
  walk_at "E"
  · have h : b < 1 := of_decide_eq_true (by assumption)
    omega
  · rename_i g e
    exact fk hk (by rw [eqvI, e, hg]; rfl)
def A_is_corner : DS := fun _ args k => ∃ (s : PyData) (a b c d : Int), args = [.d (.tuple [s, .tuple [.int a, .int b], .tuple [.int c, .int d]])] ∧ k (.d (.bool (decide (a = 0) && decide (c = 0))))
theorem ws_is_corner : Goes Γ K 1 1 (t_is_corner Γ K) A_is_corner := by
  rintro β args k ⟨s, a, b, c, d, rfl, hk⟩
  refine ⟨rfl, ?_⟩
  show WS _ _ _ _ [_] _
  unfold t_is_corner
  walk_at "E"
  · rename_i h
    rw [eqvI] at h
    exact fk hk (by rw [h, eqvI]; rfl)
  · rename_i h
    rw [eqvI] at h
    exact fk hk (by rw [h]; rfl)
def A_ends_at : DS := fun _ args k => ∃ (R U E : List Nat) (s : Nat), args = [.d (bd R U E), .d (.int s)] ∧ k (.d (.bool (decide (s ∈ E))))
theorem ws_ends_at : Goes Γ K 2 2 (t_ends_at Γ K) A_ends_at := by
  rintro β args k ⟨R, U, E, s, rfl, hk⟩
  refine ⟨rfl, ?_⟩
  show WS _ _ _ _ [_, _] _
  unfold t_ends_at
  walk_at "E"
  refine ⟨_, iN E, rfl, .inr rfl, _, rfl, un_d, ?_⟩
  exact fk hk (by simp only [mem_iN, Bool.false_eq_true, if_false])
def A_contrary : DS := fun _ args k => ∃ (R : List Nat), args = [.d (tN R)] ∧ Pm R ∧ k (.d (tN (inv R)))
theorem ws_contrary : Goes Γ K 1 4 (t_contrary Γ K) A_contrary := by
  rintro β args k ⟨R, rfl, hp, hk⟩
  refine ⟨rfl, ?_⟩
  show WS _ _ _ _ [_, _, _, _] _
  unfold t_contrary
  have hle := hp.le
  refine ws_seq (ws_asg (we_rep ?_))
  walk_at "E"
  refine ⟨[.int 0], rfl, by decide, ?_⟩
  walk_at "E"
  refine ⟨by rw [lN_length]; omega, by rw [lN_length]; omega, by decide, ?_⟩
  rw [lN_length, Int.toNat_natCast, lN_rep]
  walk_at "E"
  refine ws_for (wi_enumT ?_)
  walk_at "E"
  refine ⟨fun i ρ' => ∃ (L : List Nat) (s2 s3 : AV), ρ' = [.d (tN R), .ol (lN L), s2, s3] ∧ L.length = R.length ∧ ∀ k, k < i → k < R.length → at0 L (at0 R k) = k, ⟨_, _, _, rfl, List.length_replicate .., fun k h => absurd h (Nat.not_lt_zero _)⟩, ?_, ?_⟩
  · rintro i d ρ' hd ⟨L, s2, s3, rfl, hl, hL⟩
    have hi : i < R.length := by
      have := (List.getElem?_eq_some_iff.mp hd).1
      rw [enD_length, lN_length] at this
      exact this
    rw [enD_get (lN_get hi)] at hd
    cases hd
    walk_at "E"
    refine wg_setL ?_
    walk_at "E"
    refine ⟨_, _, _, rfl, rfl, ixN_nat (k := R.getD i 0) (by rw [lN_length, hl]; exact hp.lt' hi), ?_⟩
    rw [lN_set]
    refine ⟨_, _, _, rfl, by rw [List.length_set]; exact hl, fun k hk hkR => ?_⟩
    rw [at0_set (by rw [hl]; exact hp.lt' hi)]
    by_cases h : at0 R k = R.getD i 0
    · rw [if_pos h]
      exact (hp.inj hkR hi h).symm
    · rw [if_neg h]
      refine hL k ?_ hkR
      have : k ≠ i := fun e => h (by rw [e])
      omega
  · rintro ρ' ⟨L, s2, s3, rfl, hl, hL⟩
    rw [enD_length, lN_length] at hL
    have e : L = inv R := inv_of hp hl fun k hk => hL k hk hk
    subst e
    walk_at "E"
    exact hk
def A_of1 : DS := fun _ args k => ∃ (R U E : List Nat), args = [.d (bd R U E)] ∧ Pm R ∧ k (.d (tN (inv R)))
def A_of2 : DS := fun _ args k => ∃ (R U E : List Nat), args = [.d (bd R U E)] ∧ Pm U ∧ k (.d (tN (inv U)))
theorem ws_left_of : Goes Γ K 1 1 (t_left_of Γ K A_contrary) A_of1 := by
  rintro β args k ⟨R, U, E, rfl, hp, hk⟩
  refine ⟨rfl, ?_⟩
  show WS _ _ _ _ [_] _
  unfold t_left_of
  walk_at "E"
  refine we_callE ?_
  walk_at "E"
  refine ⟨_, _, rfl, ⟨_, rfl, hp, rfl⟩, pure_tN _, ?_⟩
  walk_at "E"
  exact hk
theorem ws_below_of : Goes Γ K 1 1 (t_below_of Γ K A_contrary) A_of2 := by
  rintro β args k ⟨R, U, E, rfl, hp, hk⟩
  refine ⟨rfl, ?_⟩
  show WS _ _ _ _ [_] _
  unfold t_below_of
  walk_at "E"
  refine we_callE ?_
  walk_at "E"
  refine ⟨_, _, rfl, ⟨_, rfl, hp, rfl⟩, pure_tN _, ?_⟩
  walk_at "E"
  exact hk
end
end K74
end
/-! ## W74b -/
section
namespace K74
open PySem PySem.Spec PyProof.Rows L2 AB
/-- one step of a walk -/
local macro_rules | `(tactic| walk_at "v") => `(tactic| first
  | refine we_d rfl ?_ | refine we_ol rfl ?_ | refine we_oK rfl ?_ | refine we_oN rfl ?_ | refine we_ob rfl ?_ | refine we_rv rfl ?_ | refine we_int ?_ | refine we_bl ?_ | refine we_non ?_ | refine we_str ?_ | refine we_sI rfl ?_ | refine we_c (L2.GCn.dp (by assumption)) ?_ | refine we_cv ?_)
local macro_rules | `(tactic| walk_at "e") => `(tactic| first
  | walk_at "v" | with_reducible refine wa_nil ?_ | with_reducible refine wa_cons ?_ | with_reducible refine we_I0i ?_ | with_reducible refine we_I0b ?_ | with_reducible refine we_Ii ?_ | with_reducible refine we_eqD ?_ | with_reducible refine we_neD ?_ | with_reducible refine we_ix ?_ | with_reducible refine we_tup ?_ | with_reducible refine we_lst ?_ | with_reducible refine wt_test ?_ | with_reducible refine wt_B ?_ | with_reducible refine wt_not ?_ | with_reducible refine wt_and ?_ | with_reducible refine wt_or ?_ | with_reducible refine we_if ?_ | with_reducible refine we_andV ?_ | with_reducible refine we_orV ?_ | with_reducible refine we_notV ?_ | with_reducible refine we_neg ?_ | with_reducible refine we_chain ?_ | with_reducible refine we_slT ?_ | with_reducible refine wo_no ?_ | with_reducible refine wo_some ?_
  | with_reducible refine ws_seq ?_ | with_reducible refine ws_ret ?_ | with_reducible refine ws_asg ?_ | with_reducible refine ws_drop ?_ | with_reducible refine ws_if ?_ | with_reducible refine wg_d ?_ | with_reducible refine wg_ol ?_ | with_reducible refine wg_oK ?_ | with_reducible refine wgs_nil ?_ | with_reducible refine wgs_cons ?_  | with_reducible refine ws_next ?_ | with_reducible refine ws_par (by decide) ?_
  | with_reducible refine we_len ?_ | with_reducible refine we_isi ?_ | with_reducible refine we_gcdG ?_ | with_reducible refine we_fld ?_ | with_reducible refine we_tuple ?_ | with_reducible refine we_list ?_ | with_reducible refine we_inI ?_
  | refine wg_tup rfl ?_ | refine wgs_cons ?_ | refine wgs_nil ?_)
/-- what a step asks, where it is plain -/
local macro_rules | `(tactic| walk_at "c") => `(tactic| first
  | refine ⟨_, rfl, un_d, ?_⟩ | refine ⟨_, rfl, un_ol, ?_⟩ | refine ⟨_, rfl, un_oK, ?_⟩ | refine ⟨_, rfl, un_oN, ?_⟩ | refine ⟨_, rfl, un_rv, ?_⟩
  | refine ⟨true, rfl, fun _ => ?_, tt_ff⟩ | refine ⟨true, rfl, ff_tt, fun _ => ?_⟩ | refine ⟨false, rfl, ff_tt, fun _ => ?_⟩ | refine ⟨false, rfl, fun _ => ?_, tt_ff⟩
  | with_reducible refine ⟨_, rfl, fun _ => ?_, tt_ff⟩ | with_reducible refine ⟨_, rfl, ff_tt, fun _ => ?_⟩ | refine ⟨_, rfl, fun _ => ?_, fun _ => ?_⟩
  | with_reducible refine ⟨fun _ => ?_, tt_ff⟩ | with_reducible refine ⟨ff_tt, fun _ => ?_⟩ | with_reducible refine ⟨fun _ => ?_, fun _ => ?_⟩
  | refine ⟨_, _, rfl, rfl, fun _ => ?_, tt_ff⟩ | refine ⟨_, _, rfl, rfl, ff_tt, fun _ => ?_⟩ | refine ⟨_, _, rfl, rfl, fun _ => ?_, fun _ => ?_⟩
  | refine ⟨_, rfl, ?_⟩
  | refine ⟨_, _, rfl, fun _ _ => ?_⟩
  | refine ⟨_, _, rfl, al_d, al_d, ?_⟩ | refine ⟨_, _, rfl, al_oN, al_ol, ?_⟩ | refine ⟨_, _, rfl, al_oK, al_ol, ?_⟩ | refine ⟨_, _, rfl, al_ol, al_ol, ?_⟩ | refine ⟨_, _, rfl, al_d, al_ol, ?_⟩
  | refine ⟨_, _, rfl, rfl, rfl, rfl, ?_⟩
  | refine ⟨_, _, rfl, rfl, ?_⟩
  | refine ⟨_, _, rfl, _, true, rfl, rfl, ?_⟩ | refine ⟨_, _, rfl, _, false, rfl, rfl, ?_⟩
  | refine ⟨_, _, _, .inr rfl, rfl, rfl, ?_⟩
  | refine ⟨_, rfl, _, .inr rfl, ?_⟩ | refine ⟨_, .inr rfl, ?_⟩ | refine ⟨_, .inl rfl, ?_⟩
  | refine ⟨[_, _], rfl, Nat.le_of_ble_eq_true rfl, ?_⟩
  | refine ⟨[_, _, _], rfl, Nat.le_of_ble_eq_true rfl, ?_⟩
  | refine ⟨[_], rfl, Nat.le_of_ble_eq_true rfl, ?_⟩
  | refine ⟨[], rfl, Nat.le_of_ble_eq_true rfl, ?_⟩)
local macro_rules | `(tactic| walk_at "E") => `(tactic| repeat' first | walk_at "e" | walk_at "c" | fail)
section
variable {Γ : Wd} {K : PySem.W.Frag}
/-- the two parts of a half place: 0 or 1 | 2 -/
abbrev hf (b : Bool) : PyData := if b then .tuple [.int 1, .int 2] else .tuple [.int 0, .int 1]
abbrev hfp (s : Nat) (x y : Bool) : PyData := .tuple [.int (s : Int), hf x, hf y]
def A_is_place : DS := fun _ args k => ∃ (R U E : List Nat) (s : Nat) (x y : Bool), args = [.d (bd R U E), .d (hfp s x y)] ∧ s < R.length ∧ k (.d (.bool (!(!x && !y && decide (s ∈ E)))))
theorem ws_is_place : Goes Γ K 2 3 (t_is_place Γ K A_is_row A_is_from_to A_is_fraction A_is_corner A_ends_at) A_is_place := by
  rintro β args k ⟨R, U, E, s, x, y, rfl, hs, hk⟩
  refine ⟨rfl, ?_⟩
  show WS _ _ _ _ [_, _, _] _
  unfold t_is_place
  walk_at "E"
  refine we_callE ?_
  walk_at "E"
  refine ⟨_, _, rfl, ⟨_, rfl, rfl⟩, rfl, ?_⟩
  walk_at "E"
  refine we_callE ?_
  walk_at "E"
  refine ⟨_, _, rfl, ⟨_, _, _, rfl, Int.natCast_nonneg _, by rw [lN_length]; omega, rfl⟩, rfl, ?_⟩
  walk_at "E"
  refine ws_for (wi_tup ?_)
  walk_at "E"
  refine ⟨by show ¬ (1 = 0 ∧ _); omega, _, rfl, fun i ρ' => ∃ s2, ρ' = [.d (bd R U E), .d (hfp s x y), s2], ⟨_, rfl⟩, ?_, ?_⟩
  · rintro i d ρ' hd ⟨s2, rfl⟩
    have hd2 : ∃ b : Bool, d = hf b := by
      match i, hd with
      | 0, hd => cases hd; exact ⟨x, rfl⟩
      | 1, hd => cases hd; exact ⟨y, rfl⟩
      | i + 2, hd => cases hd
    obtain ⟨b, rfl⟩ := hd2
    walk_at "E"
    refine we_callE ?_
    walk_at "E"
    cases b
    · refine ⟨_, _, rfl, ⟨_, _, rfl, by decide, by decide, rfl⟩, rfl, ?_⟩
      walk_at "E"
      exact ⟨_, rfl⟩
    · refine ⟨_, _, rfl, ⟨_, _, rfl, by decide, by decide, rfl⟩, rfl, ?_⟩
      walk_at "E"
      exact ⟨_, rfl⟩
  · rintro ρ' ⟨s2, rfl⟩
    walk_at "E"
    refine we_callE ?_
    walk_at "E"
    cases x <;> cases y
    all_goals refine ⟨_, _, rfl, ⟨_, _, _, _, _, rfl, rfl⟩, rfl, ?_⟩
    all_goals refine ⟨_, rfl, fun h => ?_, fun h => ?_⟩
    · refine we_callE ?_
      walk_at "E"
      refine ⟨_, _, rfl, ⟨_, _, _, _, rfl, rfl⟩, rfl, ?_⟩
      exact ⟨_, rfl, _, rfl, un_d, hk⟩
    · exact absurd h (by decide)
    all_goals first
      | exact absurd h (by decide)
      | exact ⟨_, rfl, _, rfl, un_d, hk⟩
/-! ### pairs -/
/-- what the module says of the class Pairs -/
structure PC (K : PySem.W.Frag) : Prop where
  c : Cls K (He.ga K ("Pairs" : Str))
  r : NoAttr K (He.ga K ("Pairs" : Str)) ("right" : Str)
  a : NoAttr K (He.ga K ("Pairs" : Str)) ("above" : Str)
  l : NoAttr K (He.ga K ("Pairs" : Str)) ("left" : Str)
  b : NoAttr K (He.ga K ("Pairs" : Str)) ("below" : Str)
abbrev pf (R U : List Nat) : List (Str × PyData) := [("right", tN R), ("above", tN U), ("left", tN (inv R)), ("below", tN (inv U))]
abbrev pO (K : PySem.W.Frag) (R U : List Nat) : AV := .ob (He.ga K ("Pairs" : Str)) (pf R U)
abbrev pr (p : Nat × Nat) : PyData := tI [(p.1 : Int), (p.2 : Int)]
/-- the half place's pair -/
def fst0 (R U : List Nat) (s : Nat) (x y : Bool) : Nat × Nat := (s, (if y then id else at0 (inv U)) ((if x then id else at0 (inv R)) s))
def A_first (K : PySem.W.Frag) : DS := fun _ args k => ∃ (R U : List Nat) (s : Nat) (x y : Bool), args = [pO K R U, .d (hfp s x y), .d (.tuple [.int 1, .int 1])] ∧ Pm R ∧ Pm U ∧ U.length = R.length ∧ s < R.length ∧ k (.d (pr (fst0 R U s x y)))
variable {mg : Str → Option Value}
theorem ws_first (pc : PC K) (gz : GCn K mg ("ZERO" : Str) (.tuple [.int 0, .int 1])) : Goes Γ K 3 9 (t_Pairs_first Γ K) (A_first K) := by
  rintro β args k ⟨R, U, s, x, y, rfl, hR, hU, hl, hs, hk⟩
  refine ⟨rfl, ?_⟩
  show WS _ _ _ _ [_, _, _, _, _, _, _, _, _] _
  unfold t_Pairs_first
  have h1 : at0 (inv R) s < U.length := by rw [hl]; exact inv_lt hR hs
  have hi : (inv R).length = R.length := inv_length R
  have hi2 : (inv U).length = U.length := inv_length U
  cases x <;> cases y
  · walk_at "E"
    refine ⟨_, _, _, rfl, pc.c, pc.l, rfl, ?_⟩
    walk_at "E"
    refine ⟨_, _, _, .inr rfl, rfl, atI_N (k := s) (by omega), ?_⟩
    walk_at "E"
    refine ⟨_, _, _, rfl, pc.c, pc.b, rfl, ?_⟩
    walk_at "E"
    refine ⟨_, _, _, .inr rfl, rfl, atI_N (k := at0 (inv R) s) (by omega), ?_⟩
    walk_at "E"
    exact hk
  · walk_at "E"
    refine ⟨_, _, _, rfl, pc.c, pc.l, rfl, ?_⟩
    walk_at "E"
    refine ⟨_, _, _, .inr rfl, rfl, atI_N (k := s) (by omega), ?_⟩
    walk_at "E"
    exact hk
  · walk_at "E"
    refine ⟨_, _, _, rfl, pc.c, pc.b, rfl, ?_⟩
    walk_at "E"
    refine ⟨_, _, _, .inr rfl, rfl, atI_N (k := s) (by omega), ?_⟩
    walk_at "E"
    exact hk
  · walk_at "E"
    exact hk
/-- the pair's next ones -/
def stR (R : List Nat) (p : Nat × Nat) : Nat × Nat := (at0 R p.1, at0 (inv R) p.2)
def A_across (K : PySem.W.Frag) : DS := fun _ args k => ∃ (R U : List Nat) (p : Nat × Nat), args = [pO K R U, .d (pr p), .d (.int 1)] ∧ p.1 < R.length ∧ p.2 < R.length ∧ k (.d (pr (stR R p)))
def A_upward (K : PySem.W.Frag) : DS := fun _ args k => ∃ (R U : List Nat) (p : Nat × Nat), args = [pO K R U, .d (pr p), .d (.int 1)] ∧ p.1 < U.length ∧ p.2 < U.length ∧ k (.d (pr (stR U p)))
theorem ws_across (pc : PC K) : Goes Γ K 3 5 (t_Pairs_across Γ K) (A_across K) := by
  rintro β args k ⟨R, U, p, rfl, h1, h2, hk⟩
  refine ⟨rfl, ?_⟩
  show WS _ _ _ _ [_, _, _, _, _] _
  unfold t_Pairs_across
  walk_at "E"
  refine ⟨_, _, _, rfl, pc.c, pc.r, rfl, ?_⟩
  walk_at "E"
  refine ⟨_, _, _, .inr rfl, rfl, atI_N (k := p.1) h1, ?_⟩
  walk_at "E"
  refine ⟨_, _, _, rfl, pc.c, pc.l, rfl, ?_⟩
  walk_at "E"
  refine ⟨_, _, _, .inr rfl, rfl, atI_N (k := p.2) (by rw [inv_length]; exact h2), ?_⟩
  walk_at "E"
  exact hk
theorem ws_upward (pc : PC K) : Goes Γ K 3 5 (t_Pairs_upward Γ K) (A_upward K) := by
  rintro β args k ⟨R, U, p, rfl, h1, h2, hk⟩
  refine ⟨rfl, ?_⟩
  show WS _ _ _ _ [_, _, _, _, _] _
  unfold t_Pairs_upward
  walk_at "E"
  refine ⟨_, _, _, rfl, pc.c, pc.a, rfl, ?_⟩
  walk_at "E"
  refine ⟨_, _, _, .inr rfl, rfl, atI_N (k := p.1) h1, ?_⟩
  walk_at "E"
  refine ⟨_, _, _, rfl, pc.c, pc.b, rfl, ?_⟩
  walk_at "E"
  refine ⟨_, _, _, .inr rfl, rfl, atI_N (k := p.2) (by rw [inv_length]; exact h2), ?_⟩
  walk_at "E"
  exact hk
/-- Pairs.__init__ -/
def A_init : DI := fun _ args k => ∃ (R U E : List Nat), args = [.d (bd R U E)] ∧ Pm R ∧ Pm U ∧ k (pf R U)
theorem ws_init (pc : PC K) (C : Addr) (hC : C = He.ga K ("Pairs" : Str)) : ∀ β a args k, A_init β args k → args.length + 1 = 2 ∧ WS Γ K β (t_Pairs___init__ Γ K A_of1 A_of2) (.sI a C [] :: (args ++ List.replicate (2 - (args.length + 1)) .un)) { nx := fun ρ' => ∃ fs, ρ'[0]? = some (.sI a C fs) ∧ k fs, rt := fun _ => False } := by
  rintro β a args k ⟨R, U, E, rfl, hR, hU, hk⟩
  subst hC
  refine ⟨rfl, ?_⟩
  show WS _ _ _ _ [_, _] _
  unfold t_Pairs___init__
  walk_at "E"
  refine wg_fldI ?_
  walk_at "E"
  refine ⟨_, _, _, _, rfl, rfl, pc.c, pc.r, Nat.le_of_ble_eq_true rfl, ?_⟩
  walk_at "E"
  refine wg_fldI ?_
  walk_at "E"
  refine ⟨_, _, _, _, rfl, rfl, pc.c, pc.a, Nat.le_of_ble_eq_true rfl, ?_⟩
  walk_at "E"
  refine we_callE ?_
  walk_at "E"
  refine ⟨_, _, rfl, ⟨_, _, _, rfl, hR, rfl⟩, pure_tN _, ?_⟩
  walk_at "E"
  refine we_callE ?_
  walk_at "E"
  refine ⟨_, _, rfl, ⟨_, _, _, rfl, hU, rfl⟩, pure_tN _, ?_⟩
  walk_at "E"
  refine wg_fldI ?_
  walk_at "E"
  refine ⟨_, _, _, _, rfl, rfl, pc.c, pc.l, Nat.le_of_ble_eq_true rfl, ?_⟩
  walk_at "E"
  refine wg_fldI ?_
  walk_at "E"
  refine ⟨_, _, _, _, rfl, rfl, pc.c, pc.b, Nat.le_of_ble_eq_true rfl, ?_⟩
  walk_at "E"
  exact hk
end
end K74
end
/-! ## W74c -/
section
namespace K74
open PySem PySem.Spec PyProof.Rows L2 AB
/-- one step of a walk -/
local macro_rules | `(tactic| walk_at "v") => `(tactic| first
  | refine we_d rfl ?_ | refine we_ol rfl ?_ | refine we_oK rfl ?_ | refine we_oN rfl ?_ | refine we_ob rfl ?_ | refine we_rv rfl ?_ | refine we_int ?_ | refine we_bl ?_ | refine we_non ?_ | refine we_str ?_ | refine we_sI rfl ?_ | refine we_c (L2.GCn.dp (by assumption)) ?_ | refine we_cv ?_)
local macro_rules | `(tactic| walk_at "e") => `(tactic| first
  | walk_at "v" | with_reducible refine wa_nil ?_ | with_reducible refine wa_cons ?_ | with_reducible refine we_I0i ?_ | with_reducible refine we_I0b ?_ | with_reducible refine we_Ii ?_ | with_reducible refine we_eqD ?_ | with_reducible refine we_neD ?_ | with_reducible refine we_ix ?_ | with_reducible refine we_tup ?_ | with_reducible refine we_lst ?_ | with_reducible refine wt_test ?_ | with_reducible refine wt_B ?_ | with_reducible refine wt_not ?_ | with_reducible refine wt_and ?_ | with_reducible refine wt_or ?_ | with_reducible refine we_if ?_ | with_reducible refine we_andV ?_ | with_reducible refine we_orV ?_ | with_reducible refine we_notV ?_ | with_reducible refine we_neg ?_ | with_reducible refine we_chain ?_ | with_reducible refine we_slT ?_ | with_reducible refine wo_no ?_ | with_reducible refine wo_some ?_
  | with_reducible refine ws_seq ?_ | with_reducible refine ws_ret ?_ | with_reducible refine ws_asg ?_ | with_reducible refine ws_drop ?_ | with_reducible refine ws_if ?_ | with_reducible refine wg_d ?_ | with_reducible refine wg_ol ?_ | with_reducible refine wg_oK ?_ | with_reducible refine wgs_nil ?_ | with_reducible refine wgs_cons ?_  | with_reducible refine ws_next ?_ | with_reducible refine ws_par (by decide) ?_
  | with_reducible refine we_len ?_ | with_reducible refine we_isi ?_ | with_reducible refine we_gcdG ?_ | with_reducible refine we_fld ?_ | with_reducible refine we_tuple ?_ | with_reducible refine we_list ?_ | with_reducible refine we_inI ?_
  | refine wg_tup rfl ?_ | refine wgs_cons ?_ | refine wgs_nil ?_)
/-- what a step asks, where it is plain -/
local macro_rules | `(tactic| walk_at "c") => `(tactic| first
  | refine ⟨_, rfl, un_d, ?_⟩ | refine ⟨_, rfl, un_ol, ?_⟩ | refine ⟨_, rfl, un_oK, ?_⟩ | refine ⟨_, rfl, un_oN, ?_⟩ | refine ⟨_, rfl, un_rv, ?_⟩
  | refine ⟨true, rfl, fun _ => ?_, tt_ff⟩ | refine ⟨true, rfl, ff_tt, fun _ => ?_⟩ | refine ⟨false, rfl, ff_tt, fun _ => ?_⟩ | refine ⟨false, rfl, fun _ => ?_, tt_ff⟩
  | with_reducible refine ⟨_, rfl, fun _ => ?_, tt_ff⟩ | with_reducible refine ⟨_, rfl, ff_tt, fun _ => ?_⟩ | refine ⟨_, rfl, fun _ => ?_, fun _ => ?_⟩
  | with_reducible refine ⟨fun _ => ?_, tt_ff⟩ | with_reducible refine ⟨ff_tt, fun _ => ?_⟩ | with_reducible refine ⟨fun _ => ?_, fun _ => ?_⟩
  | refine ⟨_, _, rfl, rfl, fun _ => ?_, tt_ff⟩ | refine ⟨_, _, rfl, rfl, ff_tt, fun _ => ?_⟩ | refine ⟨_, _, rfl, rfl, fun _ => ?_, fun _ => ?_⟩
  | refine ⟨_, rfl, ?_⟩
  | refine ⟨_, _, rfl, fun _ _ => ?_⟩
  | refine ⟨_, _, rfl, al_d, al_d, ?_⟩ | refine ⟨_, _, rfl, al_oN, al_ol, ?_⟩ | refine ⟨_, _, rfl, al_oK, al_ol, ?_⟩ | refine ⟨_, _, rfl, al_ol, al_ol, ?_⟩ | refine ⟨_, _, rfl, al_d, al_ol, ?_⟩
  | refine ⟨_, _, rfl, rfl, rfl, rfl, ?_⟩
  | refine ⟨_, _, rfl, rfl, ?_⟩
  | refine ⟨_, _, rfl, _, true, rfl, rfl, ?_⟩ | refine ⟨_, _, rfl, _, false, rfl, rfl, ?_⟩
  | refine ⟨_, _, _, .inr rfl, rfl, rfl, ?_⟩
  | refine ⟨_, rfl, _, .inr rfl, ?_⟩ | refine ⟨_, .inr rfl, ?_⟩ | refine ⟨_, .inl rfl, ?_⟩
  | refine ⟨[_, _], rfl, Nat.le_of_ble_eq_true rfl, ?_⟩
  | refine ⟨[_, _, _], rfl, Nat.le_of_ble_eq_true rfl, ?_⟩
  | refine ⟨[_], rfl, Nat.le_of_ble_eq_true rfl, ?_⟩
  | refine ⟨[], rfl, Nat.le_of_ble_eq_true rfl, ?_⟩)
local macro_rules | `(tactic| walk_at "E") => `(tactic| repeat' first | walk_at "e" | walk_at "c" | fail)
section
variable {Γ : Wd} {K : PySem.W.Frag} {mg : Str → Option Value}
def A_far_corner : DS := fun _ args k => ∃ (R U E : List Nat) (s : Nat), args = [.d (bd R U E), .d (.int s)] ∧ Pm R ∧ U.length = R.length ∧ s < R.length ∧ k (.d (.int (at0 U (at0 R s) : Nat)))
theorem ws_far_corner : Goes Γ K 2 2 (t_far_corner Γ K) A_far_corner := by
  rintro β args k ⟨R, U, E, s, rfl, hR, hl, hs, hk⟩
  refine ⟨rfl, ?_⟩
  show WS _ _ _ _ [_, _] _
  unfold t_far_corner
  walk_at "E"
  refine ⟨_, _, _, .inr rfl, rfl, atI_N (k := s) hs, ?_⟩
  walk_at "E"
  refine ⟨_, _, _, .inr rfl, rfl, atI_N (k := at0 R s) (by rw [hl]; exact hR.lt' hs), ?_⟩
  walk_at "E"
  exact hk
def A_whole : DS := fun _ args k => ∃ n : Int, args = [.d (.int n)] ∧ k (.d (.tuple [.int n, .int 1]))
theorem ws_whole : Goes Γ K 1 1 (t_whole Γ K) A_whole := by
  rintro β args k ⟨n, rfl, hk⟩
  refine ⟨rfl, ?_⟩
  show WS _ _ _ _ [_] _
  unfold t_whole
  walk_at "E"
  exact hk
def A_frac : DS := fun _ args k => args = [.d (.int 1), .d (.int 2)] ∧ k (.d (.tuple [.int 1, .int 2]))
theorem ws_frac : Goes Γ K 2 3 (t_frac Γ K) A_frac := by
  rintro β args k ⟨rfl, hk⟩
  refine ⟨rfl, ?_⟩
  show WS _ _ _ _ [_, _, _] _
  unfold t_frac
  walk_at "E"
  rename_i g e _
  have e1 : g = 1 := e.trans (by decide)
  subst e1
  refine ⟨⟨by decide, by decide⟩, ?_⟩
  walk_at "E"
  refine ⟨⟨by decide, by decide⟩, ?_⟩
  walk_at "E"
  exact hk
def A_minus : DS := fun _ args k => args = [.d (.tuple [.int 1, .int 1]), .d (.tuple [.int 1, .int 2])] ∧ k (.d (.tuple [.int 1, .int 2]))
theorem ws_minus : Goes Γ K 2 2 (t_minus Γ K A_frac) A_minus := by
  rintro β args k ⟨rfl, hk⟩
  refine ⟨rfl, ?_⟩
  show WS _ _ _ _ [_, _] _
  unfold t_minus
  walk_at "E"
  refine we_callE ?_
  walk_at "E"
  refine ⟨.inl ⟨by decide, by decide⟩, ?_⟩
  walk_at "E"
  refine ⟨.inl ⟨by decide, by decide⟩, ?_⟩
  walk_at "E"
  refine ⟨.inl ⟨by decide, by decide⟩, ?_⟩
  walk_at "E"
  refine ⟨_, _, rfl, ⟨rfl, rfl⟩, rfl, ?_⟩
  walk_at "E"
  exact hk
def A_other_end : DS := fun _ args k => ∃ x : Bool, args = [.d (hf x)] ∧ k (.d (hf x))
theorem ws_other_end : Goes Γ K 1 1 (t_other_end Γ K A_minus A_whole) A_other_end := by
  rintro β args k ⟨x, rfl, hk⟩
  refine ⟨rfl, ?_⟩
  show WS _ _ _ _ [_] _
  unfold t_other_end
  cases x
  · walk_at "E"
    exact hk
  · walk_at "E"
    refine we_callE ?_
    walk_at "E"
    refine we_callE ?_
    walk_at "E"
    refine ⟨_, _, rfl, ⟨_, rfl, rfl⟩, rfl, ?_⟩
    walk_at "E"
    refine ⟨_, _, rfl, ⟨rfl, rfl⟩, rfl, ?_⟩
    walk_at "E"
    exact hk
abbrev bDb (b : Bool) : PyData := .bool b
def A_places_tried : DS := fun _ args k => ∃ (R U E : List Nat) (s : Nat), args = [.d (bd R U E), .d (.int s)] ∧ k (.ol ((if s ∈ E then [] else [hfp s false false]) ++ [hfp s false true, hfp s true false, hfp s true true]))
theorem ws_places_tried (g1 : GCn K mg ("NONE" : Str) (.tuple [.int 0, .int 1])) (g2 : GCn K mg ("HALF_halfturns" : Str) (.tuple [.int 1, .int 2])) : Goes Γ K 2 3 (t_places_tried Γ K A_ends_at) A_places_tried := by
  rintro β args k ⟨R, U, E, s, rfl, hk⟩
  refine ⟨rfl, ?_⟩
  show WS _ _ _ _ [_, _, _] _
  unfold t_places_tried
  walk_at "E"
  refine we_callE ?_
  walk_at "E"
  refine ⟨_, _, rfl, ⟨_, _, _, _, rfl, rfl⟩, rfl, ?_⟩
  walk_at "E"
  · rename_i h
    refine we_cat ?_
    walk_at "E"
    refine ⟨_, _, .inr ⟨_, rfl, rfl⟩, .inl rfl, Nat.le_of_ble_eq_true rfl, ?_⟩
    walk_at "E"
    rw [if_pos (of_decide_eq_true h)] at hk
    exact hk
  · rename_i h
    refine we_cat ?_
    walk_at "E"
    refine ⟨_, _, .inr ⟨_, rfl, rfl⟩, .inl rfl, Nat.le_of_ble_eq_true rfl, ?_⟩
    walk_at "E"
    rw [if_neg (of_decide_eq_false h)] at hk
    exact hk
/-- the turned place's square -/
def tsq (R U T : List Nat) (s : Nat) (x y : Bool) : Nat := (if x then id else at0 R) ((if y then id else at0 U) (at0 T s))
def A_turned : DS := fun _ args k => ∃ (R U E T : List Nat) (s : Nat) (x y : Bool), args = [.d (bd R U E), .d (tN T), .d (hfp s x y)] ∧ Pm R ∧ Pm U ∧ U.length = R.length ∧ T.length = R.length ∧ (∀ z ∈ T, z < R.length) ∧ s < R.length ∧ k (.d (hfp (tsq R U T s x y) x y))
theorem ws_turned : Goes Γ K 3 6 (t_turned Γ K A_other_end) A_turned := by
  rintro β args k ⟨R, U, E, T, s, x, y, rfl, hR, hU, hl, hT, hTl, hs, hk⟩
  refine ⟨rfl, ?_⟩
  show WS _ _ _ _ [_, _, _, _, _, _] _
  unfold t_turned
  have ht : at0 T s < R.length := hTl _ (at0_mem (by omega))
  have hu : at0 U (at0 T s) < R.length := by
    have := hU.lt' (k := at0 T s) (by omega)
    omega
  walk_at "E"
  refine ⟨_, _, _, .inr rfl, rfl, atI_N (k := s) (by omega), ?_⟩
  cases x <;> cases y
  · walk_at "E"
    refine ⟨_, _, _, .inr rfl, rfl, atI_N (k := at0 T s) (by omega), ?_⟩
    walk_at "E"
    refine ⟨_, _, _, .inr rfl, rfl, atI_N (k := at0 U (at0 T s)) (by omega), ?_⟩
    walk_at "E"
    refine we_callE ?_
    walk_at "E"
    refine ⟨_, _, rfl, ⟨false, rfl, rfl⟩, rfl, ?_⟩
    walk_at "E"
    refine we_callE ?_
    walk_at "E"
    refine ⟨_, _, rfl, ⟨false, rfl, rfl⟩, rfl, ?_⟩
    walk_at "E"
    exact hk
  · walk_at "E"
    refine ⟨_, _, _, .inr rfl, rfl, atI_N (k := at0 T s) (by omega), ?_⟩
    walk_at "E"
    refine we_callE ?_
    walk_at "E"
    refine ⟨_, _, rfl, ⟨false, rfl, rfl⟩, rfl, ?_⟩
    walk_at "E"
    refine we_callE ?_
    walk_at "E"
    refine ⟨_, _, rfl, ⟨true, rfl, rfl⟩, rfl, ?_⟩
    walk_at "E"
    exact hk
  · walk_at "E"
    refine ⟨_, _, _, .inr rfl, rfl, atI_N (k := at0 T s) (by omega), ?_⟩
    walk_at "E"
    refine we_callE ?_
    walk_at "E"
    refine ⟨_, _, rfl, ⟨true, rfl, rfl⟩, rfl, ?_⟩
    walk_at "E"
    refine we_callE ?_
    walk_at "E"
    refine ⟨_, _, rfl, ⟨false, rfl, rfl⟩, rfl, ?_⟩
    walk_at "E"
    exact hk
  · walk_at "E"
    refine we_callE ?_
    walk_at "E"
    refine ⟨_, _, rfl, ⟨true, rfl, rfl⟩, rfl, ?_⟩
    walk_at "E"
    refine we_callE ?_
    walk_at "E"
    refine ⟨_, _, rfl, ⟨true, rfl, rfl⟩, rfl, ?_⟩
    walk_at "E"
    exact hk
end
end K74
end
/-! ## W74d -/
section
namespace K74
open PySem PySem.Spec PyProof.Rows L2 AB
/-- one step of a walk -/
local macro_rules | `(tactic| walk_at "v") => `(tactic| first
  | refine we_d rfl ?_ | refine we_ol rfl ?_ | refine we_oK rfl ?_ | refine we_oN rfl ?_ | refine we_ob rfl ?_ | refine we_rv rfl ?_ | refine we_int ?_ | refine we_bl ?_ | refine we_non ?_ | refine we_str ?_ | refine we_sI rfl ?_ | refine we_c (L2.GCn.dp (by assumption)) ?_ | refine we_cv ?_)
local macro_rules | `(tactic| walk_at "e") => `(tactic| first
  | walk_at "v" | with_reducible refine wa_nil ?_ | with_reducible refine wa_cons ?_ | with_reducible refine we_I0i ?_ | with_reducible refine we_I0b ?_ | with_reducible refine we_Ii ?_ | with_reducible refine we_eqD ?_ | with_reducible refine we_neD ?_ | with_reducible refine we_ix ?_ | with_reducible refine we_tup ?_ | with_reducible refine we_lst ?_ | with_reducible refine wt_test ?_ | with_reducible refine wt_B ?_ | with_reducible refine wt_not ?_ | with_reducible refine wt_and ?_ | with_reducible refine wt_or ?_ | with_reducible refine we_if ?_ | with_reducible refine we_andV ?_ | with_reducible refine we_orV ?_ | with_reducible refine we_notV ?_ | with_reducible refine we_neg ?_ | with_reducible refine we_chain ?_ | with_reducible refine we_slT ?_ | with_reducible refine wo_no ?_ | with_reducible refine wo_some ?_
  | with_reducible refine ws_seq ?_ | with_reducible refine ws_ret ?_ | with_reducible refine ws_asg ?_ | with_reducible refine ws_drop ?_ | with_reducible refine ws_if ?_ | with_reducible refine wg_d ?_ | with_reducible refine wg_ol ?_ | with_reducible refine wg_oK ?_ | with_reducible refine wgs_nil ?_ | with_reducible refine wgs_cons ?_  | with_reducible refine ws_next ?_ | with_reducible refine ws_par (by decide) ?_
  | with_reducible refine we_len ?_ | with_reducible refine we_isi ?_ | with_reducible refine we_gcdG ?_ | with_reducible refine we_fld ?_ | with_reducible refine we_tuple ?_ | with_reducible refine we_list ?_ | with_reducible refine we_inI ?_
  | refine wg_tup rfl ?_ | refine wgs_cons ?_ | refine wgs_nil ?_)
/-- what a step asks, where it is plain -/
local macro_rules | `(tactic| walk_at "c") => `(tactic| first
  | refine ⟨_, rfl, un_d, ?_⟩ | refine ⟨_, rfl, un_ol, ?_⟩ | refine ⟨_, rfl, un_oK, ?_⟩ | refine ⟨_, rfl, un_oN, ?_⟩ | refine ⟨_, rfl, un_rv, ?_⟩
  | refine ⟨true, rfl, fun _ => ?_, tt_ff⟩ | refine ⟨true, rfl, ff_tt, fun _ => ?_⟩ | refine ⟨false, rfl, ff_tt, fun _ => ?_⟩ | refine ⟨false, rfl, fun _ => ?_, tt_ff⟩
  | with_reducible refine ⟨_, rfl, fun _ => ?_, tt_ff⟩ | with_reducible refine ⟨_, rfl, ff_tt, fun _ => ?_⟩ | refine ⟨_, rfl, fun _ => ?_, fun _ => ?_⟩
  | with_reducible refine ⟨fun _ => ?_, tt_ff⟩ | with_reducible refine ⟨ff_tt, fun _ => ?_⟩ | with_reducible refine ⟨fun _ => ?_, fun _ => ?_⟩
  | refine ⟨_, _, rfl, rfl, fun _ => ?_, tt_ff⟩ | refine ⟨_, _, rfl, rfl, ff_tt, fun _ => ?_⟩ | refine ⟨_, _, rfl, rfl, fun _ => ?_, fun _ => ?_⟩
  | refine ⟨_, rfl, ?_⟩
  | refine ⟨_, _, rfl, fun _ _ => ?_⟩
  | refine ⟨_, _, rfl, al_d, al_d, ?_⟩ | refine ⟨_, _, rfl, al_oN, al_ol, ?_⟩ | refine ⟨_, _, rfl, al_oK, al_ol, ?_⟩ | refine ⟨_, _, rfl, al_ol, al_ol, ?_⟩ | refine ⟨_, _, rfl, al_d, al_ol, ?_⟩
  | refine ⟨_, _, rfl, rfl, rfl, rfl, ?_⟩
  | refine ⟨_, _, rfl, rfl, ?_⟩
  | refine ⟨_, _, rfl, _, true, rfl, rfl, ?_⟩ | refine ⟨_, _, rfl, _, false, rfl, rfl, ?_⟩
  | refine ⟨_, _, _, .inr rfl, rfl, rfl, ?_⟩
  | refine ⟨_, rfl, _, .inr rfl, ?_⟩ | refine ⟨_, .inr rfl, ?_⟩ | refine ⟨_, .inl rfl, ?_⟩
  | refine ⟨[_, _], rfl, Nat.le_of_ble_eq_true rfl, ?_⟩
  | refine ⟨[_, _, _], rfl, Nat.le_of_ble_eq_true rfl, ?_⟩
  | refine ⟨[_], rfl, Nat.le_of_ble_eq_true rfl, ?_⟩
  | refine ⟨[], rfl, Nat.le_of_ble_eq_true rfl, ?_⟩)
local macro_rules | `(tactic| walk_at "E") => `(tactic| repeat' first | walk_at "e" | walk_at "c" | fail)
/-! ### the closure of a pair -/
/-- a dict of pairs, all True -/
def dk (ps : List (Nat × Nat)) : List (PyData × PyData) := ps.map fun p => (pr p, .bool true)
theorem nk_pr (p : Nat × Nat) : ND.nk (pr p) = .tup [.num (p.1 : Int), .num (p.2 : Int)] := rfl
theorem nk_pr_inj {p q : Nat × Nat} (h : ND.nk (pr p) = ND.nk (pr q)) : p = q := by
  rw [nk_pr, nk_pr] at h
  injection h with h
  injection h with h1 h2
  injection h2 with h2
  injection h1 with h1
  injection h2 with h2
  exact Prod.ext (by omega) (by omega)
theorem key_pr (p : Nat × Nat) : ND.keyOk (pr p) = true := rfl
theorem valN_dk (ps : List (Nat × Nat)) (q : Nat × Nat) : (ND.valN (dk ps) (pr q)).isSome = decide (q ∈ ps) := by
  induction ps with
  | nil => rfl
  | cons p ps ih =>
    unfold ND.valN dk at ih ⊢
    rw [List.map_cons, List.find?_cons]
    by_cases h : p = q
    · subst h
      simp
    · have h2 : ¬ ND.nk (pr p) = ND.nk (pr q) := fun e => h (nk_pr_inj e)
      have h3 : ¬ q = p := fun e => h e.symm
      simp only [h2, decide_false]
      rw [ih]
      simp [h3]
theorem putN_dk {ps : List (Nat × Nat)} {q : Nat × Nat} (h : q ∉ ps) : ND.putN (dk ps) (pr q) (.bool true) = dk (ps ++ [q]) := by
  unfold ND.putN
  rw [if_neg (by rw [valN_dk]; simpa using h)]
  unfold dk
  rw [List.map_append]
  rfl
/-- what is reached from p by right-left and above-below -/
inductive Rch (R U : List Nat) (p : Nat × Nat) : Nat × Nat → Prop
  | refl : Rch R U p p
  | r {q} : Rch R U p q → Rch R U p (stR R q)
  | u {q} : Rch R U p q → Rch R U p (stR U q)
/-- the board's part of a state -/
structure Bq (R U : List Nat) (n : Nat) : Prop where
  r : Pm R
  u : Pm U
  rl : R.length = n
  ul : U.length = n
  n6 : n ≤ 6
theorem Bq.stR {R U : List Nat} {n : Nat} (b : Bq R U n) {q : Nat × Nat} (h : q.1 < n ∧ q.2 < n) : (stR R q).1 < n ∧ (stR R q).2 < n := by
  have h1 := b.r.lt' (k := q.1) (by rw [b.rl]; exact h.1)
  have h2 := inv_lt b.r (j := q.2) (by rw [b.rl]; exact h.2)
  rw [b.rl] at h1 h2
  exact ⟨h1, h2⟩
theorem Bq.stU {R U : List Nat} {n : Nat} (b : Bq R U n) {q : Nat × Nat} (h : q.1 < n ∧ q.2 < n) : (K74.stR U q).1 < n ∧ (K74.stR U q).2 < n := by
  have h1 := b.u.lt' (k := q.1) (by rw [b.ul]; exact h.1)
  have h2 := inv_lt b.u (j := q.2) (by rw [b.ul]; exact h.2)
  rw [b.ul] at h1 h2
  exact ⟨h1, h2⟩
theorem Bq.rch {R U : List Nat} {n : Nat} (b : Bq R U n) {p q : Nat × Nat} (hp : p.1 < n ∧ p.2 < n) (h : Rch R U p q) : q.1 < n ∧ q.2 < n := by
  induction h with
  | refl => exact hp
  | r _ ih => exact b.stR ih
  | u _ ih => exact b.stU ih
/-- all pairs of a board -/
def allP (n : Nat) : List (Nat × Nat) := (List.range n).flatMap fun i => (List.range n).map fun j => (i, j)
theorem allP_mem {n : Nat} {p : Nat × Nat} (h : p.1 < n ∧ p.2 < n) : p ∈ allP n := by
  unfold allP
  rw [List.mem_flatMap]
  exact ⟨p.1, List.mem_range.mpr h.1, List.mem_map.mpr ⟨p.2, List.mem_range.mpr h.2, rfl⟩⟩
theorem allP_len (n : Nat) (h : n ≤ 6) : (allP n).length ≤ 36 := by
  match n, h with
  | 0, _ => decide
  | 1, _ => decide
  | 2, _ => decide
  | 3, _ => decide
  | 4, _ => decide
  | 5, _ => decide
  | 6, _ => decide
theorem nodup_sub_lenP : ∀ {l m : List (Nat × Nat)}, l.Nodup → (∀ x ∈ l, x ∈ m) → l.length ≤ m.length
  | [], _, _, _ => Nat.zero_le _
  | x :: l, m, nd, h => by
    obtain ⟨hx, nd'⟩ := List.nodup_cons.mp nd
    have hm : x ∈ m := h x List.mem_cons_self
    have h2 := nodup_sub_lenP (l := l) (m := m.erase x) nd' fun y hy => by
      have hne : y ≠ x := fun e => hx (e ▸ hy)
      exact (List.mem_erase_of_ne hne).mpr (h y (List.mem_cons_of_mem _ hy))
    have h3 := List.length_erase_of_mem hm
    have h4 : 0 < m.length := List.length_pos_of_mem hm
    rw [List.length_cons]
    omega
/-- found and waiting, on the way -/
structure Cq (R U : List Nat) (n : Nat) (p : Nat × Nat) (ps ws : List (Nat × Nat)) : Prop where
  nd : ps.Nodup
  rch : ∀ q ∈ ps, Rch R U p q
  p0 : p ∈ ps
  sub : ∀ q ∈ ws, q ∈ ps
  cl : ∀ q ∈ ps, q ∈ ws ∨ (stR R q ∈ ps ∧ stR U q ∈ ps)
theorem Cq.len {R U : List Nat} {n : Nat} {p : Nat × Nat} {ps ws : List (Nat × Nat)} (b : Bq R U n) (hp : p.1 < n ∧ p.2 < n) (c : Cq R U n p ps ws) : ps.length ≤ 36 :=
  Nat.le_trans (nodup_sub_lenP c.nd fun q hq => allP_mem (b.rch hp (c.rch q hq))) (allP_len n b.n6)
theorem Cq.done {R U : List Nat} {n : Nat} {p : Nat × Nat} {ps : List (Nat × Nat)} (c : Cq R U n p ps []) (q : Nat × Nat) : q ∈ ps ↔ Rch R U p q := by
  refine ⟨c.rch q, fun h => ?_⟩
  induction h with
  | refl => exact c.p0
  | r _ ih => exact ((c.cl _ ih).resolve_left (by simp)).1
  | u _ ih => exact ((c.cl _ ih).resolve_left (by simp)).2
abbrev prs (ps : List (Nat × Nat)) : List PyData := ps.map pr
theorem prs_append (a : List (Nat × Nat)) (q : Nat × Nat) : prs (a ++ [q]) = prs a ++ [pr q] := by unfold prs; rw [List.map_append]; rfl
/-- within a turn: q is taken off -/
structure Dq (R U : List Nat) (p q : Nat × Nat) (ps ws : List (Nat × Nat)) : Prop where
  nd : ps.Nodup
  rch : ∀ x ∈ ps, Rch R U p x
  p0 : p ∈ ps
  q0 : q ∈ ps
  sub : ∀ x ∈ ws, x ∈ ps
  cl : ∀ x ∈ ps, x ∈ ws ∨ x = q ∨ (stR R x ∈ ps ∧ stR U x ∈ ps)
theorem Dq.add {R U : List Nat} {p q o : Nat × Nat} {ps ws : List (Nat × Nat)} (c : Dq R U p q ps ws) (ho : Rch R U p o) (hn : o ∉ ps) : Dq R U p q (ps ++ [o]) (ws ++ [o]) := by
  refine ⟨?_, fun x hx => ?_, List.mem_append_left _ c.p0, List.mem_append_left _ c.q0, fun x hx => ?_, fun x hx => ?_⟩
  · rw [List.nodup_append]
    exact ⟨c.nd, by simp, fun x hx y hy e => hn (by rw [List.mem_singleton] at hy; rw [← hy, ← e]; exact hx)⟩
  · rcases List.mem_append.mp hx with h | h
    · exact c.rch x h
    · rw [List.mem_singleton.mp h]; exact ho
  · rcases List.mem_append.mp hx with h | h
    · exact List.mem_append_left _ (c.sub x h)
    · exact List.mem_append_right _ h
  · rcases List.mem_append.mp hx with h | h
    · rcases c.cl x h with z | z | z
      · exact .inl (List.mem_append_left _ z)
      · exact .inr (.inl z)
      · exact .inr (.inr ⟨List.mem_append_left _ z.1, List.mem_append_left _ z.2⟩)
    · exact .inl (List.mem_append_right _ h)
section
variable {Γ : Wd} {K : PySem.W.Frag} {mg : Str → Option Value}
def A_closed (K : PySem.W.Frag) : DS := fun _ args k => ∃ (R U : List Nat) (n : Nat) (p : Nat × Nat), args = [pO K R U, .d (pr p)] ∧ Bq R U n ∧ (p.1 < n ∧ p.2 < n) ∧ ∀ ps : List (Nat × Nat), ps.Nodup → (∀ q, q ∈ ps ↔ Rch R U p q) → k (.oN (dk ps))
theorem ws_closed : Goes Γ K 2 6 (t_Pairs_closed Γ K (A_across K) (A_upward K)) (A_closed K) := by
  rintro β args k ⟨R, U, n, p, rfl, b, hp, hk⟩
  refine ⟨rfl, ?_⟩
  show WS _ _ _ _ [_, _, _, _, _, _] _
  unfold t_Pairs_closed
  walk_at "E"
  refine we_disp1N ?_
  walk_at "E"
  refine ⟨_, _, rfl, key_pr p, rfl, ?_⟩
  walk_at "E"
  refine ws_while (fun m ρ' => ∃ (ps ws : List (Nat × Nat)) (s4 s5 : AV), ρ' = [pO K R U, .d (pr p), .oN (dk ps), .ol (prs ws), s4, s5] ∧ Cq R U n p ps ws ∧ m ≤ 71 ∧ m = 2 * (36 - ps.length) + ws.length)
    ⟨_, [p], [p], _, _, rfl, ⟨by simp, fun q hq => by rw [List.mem_singleton.mp hq]; exact .refl, by simp, fun q hq => hq, fun q hq => .inl hq⟩, Nat.le_refl 71, rfl⟩ ?_
  rintro m ρ' ⟨ps, ws, s4, s5, rfl, c, hm71, hm⟩
  refine wt_tru (we_ol rfl ?_)
  refine ⟨_, .inl rfl, fun hb => ?_, fun hb => ?_⟩
  · have hlen := c.len b hp
    rcases List.eq_nil_or_concat ws with e | ⟨ws', q, e⟩
    · rw [e] at hb
      cases hb
    · have e : ws = ws' ++ [q] := by rw [e, List.concat_eq_append]
      subst e
      have hq : q ∈ ps := c.sub q (by simp)
      have hqn := b.rch hp (c.rch q hq)
      walk_at "E"
      refine we_pop ?_
      walk_at "E"
      refine ⟨_, prs ws', pr q, rfl, by rw [prs_append]; rfl, ?_⟩
      walk_at "E"
      refine ws_for (wi_tup ?_)
      walk_at "E"
      refine we_methE ?_
      walk_at "E"
      refine ⟨rfl, ?_⟩
      walk_at "E"
      refine ⟨_, _, rfl, ⟨R, U, q, rfl, by rw [b.rl]; exact hqn.1, by rw [b.rl]; exact hqn.2, rfl⟩, pure_tI _, ?_⟩
      walk_at "E"
      refine we_methE ?_
      walk_at "E"
      refine ⟨rfl, ?_⟩
      walk_at "E"
      refine ⟨_, _, rfl, ⟨R, U, q, rfl, by rw [b.ul]; exact hqn.1, by rw [b.ul]; exact hqn.2, rfl⟩, pure_tI _, ?_⟩
      walk_at "E"
      have pick : ∀ (i : Nat) (d : PyData), [pr (stR R q), pr (stR U q)][i]? = some d → ∃ o, d = pr o ∧ Rch R U p o ∧ (i = 0 ∧ o = stR R q ∨ i = 1 ∧ o = stR U q) := fun i d hd => by
        match i, hd with
        | 0, hd => cases hd; exact ⟨_, rfl, .r (c.rch q hq), .inl ⟨rfl, rfl⟩⟩
        | 1, hd => cases hd; exact ⟨_, rfl, .u (c.rch q hq), .inr ⟨rfl, rfl⟩⟩
        | i + 2, hd => cases hd
      refine ⟨fun i ρ' => ∃ (ps1 ws1 : List (Nat × Nat)) (s5 : AV), ρ' = [pO K R U, .d (pr p), .oN (dk ps1), .ol (prs ws1), .d (pr q), s5] ∧ Dq R U p q ps1 ws1 ∧ (1 ≤ i → stR R q ∈ ps1) ∧ (2 ≤ i → stR U q ∈ ps1) ∧ ps.length ≤ ps1.length ∧ 2 * (36 - ps1.length) + ws1.length ≤ 2 * (36 - ps.length) + ws'.length,
        ⟨_, _, _, rfl, ⟨c.nd, c.rch, c.p0, hq, fun x hx => c.sub x (List.mem_append_left _ hx), fun x hx => ?_⟩, by omega, by omega, Nat.le_refl _, Nat.le_refl _⟩, ?_, ?_⟩
      · rcases c.cl x hx with z | z
        · rcases List.mem_append.mp z with z | z
          · exact .inl z
          · exact .inr (.inl (List.mem_singleton.mp z))
        · exact .inr (.inr z)
      · rintro i d ρ' hd ⟨ps1, ws1, s5, rfl, dq, g1, g2, hle, hms⟩
        obtain ⟨o, rfl, ho, hi⟩ := pick i d hd
        have hl1 : ps1.length ≤ 36 := Nat.le_trans (nodup_sub_lenP dq.nd fun x hx => allP_mem (b.rch hp (dq.rch x hx))) (allP_len n b.n6)
        walk_at "E"
        refine we_inN ?_
        walk_at "E"
        refine ⟨key_pr o, ?_⟩
        rw [valN_dk]
        have hws : ws1.length ≤ 200 := by
          rw [List.length_append, List.length_singleton] at hm
          omega
        by_cases hm2 : o ∈ ps1
        · rw [decide_eq_true hm2]
          walk_at "E"
          refine ⟨ps1, ws1, _, rfl, dq, fun _ => ?_, fun h => ?_, hle, hms⟩
          · rcases hi with ⟨e, e2⟩ | ⟨e, _⟩
            · exact e2 ▸ hm2
            · exact g1 (by omega)
          · rcases hi with ⟨e, _⟩ | ⟨e, e2⟩
            · omega
            · exact e2 ▸ hm2
        · rw [decide_eq_false hm2]
          walk_at "E"
          refine wg_setN ?_
          walk_at "E"
          refine ⟨key_pr o, by unfold dk; rw [List.length_map]; omega, ?_⟩
          rw [putN_dk hm2]
          walk_at "E"
          refine we_append ?_
          walk_at "E"
          refine ⟨by rw [List.length_map]; omega, ?_⟩
          have hl2 : (ps1 ++ [o]).length ≤ 36 := by
            have dq2 := dq.add ho hm2
            exact Nat.le_trans (nodup_sub_lenP dq2.nd fun x hx => allP_mem (b.rch hp (dq2.rch x hx))) (allP_len n b.n6)
          rw [List.length_append, List.length_singleton] at hl2
          refine ⟨ps1 ++ [o], ws1 ++ [o], _, by rw [prs_append]; rfl, dq.add ho hm2, fun _ => ?_, fun h => ?_, by rw [List.length_append]; omega, by rw [List.length_append, List.length_append, List.length_singleton]; omega⟩
          · rcases hi with ⟨e, e2⟩ | ⟨e, _⟩
            · rw [← e2]; exact List.mem_append_right _ (List.mem_singleton.mpr rfl)
            · exact List.mem_append_left _ (g1 (by omega))
          · rcases hi with ⟨e, _⟩ | ⟨e, e2⟩
            · omega
            · rw [← e2]; exact List.mem_append_right _ (List.mem_singleton.mpr rfl)
      · rintro ρ' ⟨ps1, ws1, s5, rfl, dq, g1, g2, hle, hms⟩
        refine ⟨_, ?_, ps1, ws1, _, _, rfl, ⟨dq.nd, dq.rch, dq.p0, dq.sub, fun x hx => ?_⟩, ?_, rfl⟩
        · rw [hm, List.length_append, List.length_singleton]
          omega
        rotate_left
        · rw [List.length_append, List.length_singleton] at hm
          omega
        · rcases dq.cl x hx with z | z | z
          · exact .inl z
          · subst z; exact .inr ⟨g1 (Nat.le_of_ble_eq_true rfl), g2 (Nat.le_of_ble_eq_true rfl)⟩
          · exact .inr z
  · have e : ws = [] := by
      cases ws with
      | nil => rfl
      | cons _ _ => cases hb
    subst e
    walk_at "E"
    exact hk ps c.nd c.done
end
end K74
end
/-! ## W74e -/
section
namespace K74
open PySem PySem.Spec PyProof.Rows L2 AB
/-- one step of a walk -/
local macro_rules | `(tactic| walk_at "v") => `(tactic| first
  | refine we_d rfl ?_ | refine we_ol rfl ?_ | refine we_oK rfl ?_ | refine we_oN rfl ?_ | refine we_ob rfl ?_ | refine we_rv rfl ?_ | refine we_int ?_ | refine we_bl ?_ | refine we_non ?_ | refine we_str ?_ | refine we_sI rfl ?_ | refine we_c (L2.GCn.dp (by assumption)) ?_ | refine we_cv ?_)
local macro_rules | `(tactic| walk_at "e") => `(tactic| first
  | walk_at "v" | with_reducible refine wa_nil ?_ | with_reducible refine wa_cons ?_ | with_reducible refine we_I0i ?_ | with_reducible refine we_I0b ?_ | with_reducible refine we_Ii ?_ | with_reducible refine we_eqD ?_ | with_reducible refine we_neD ?_ | with_reducible refine we_ix ?_ | with_reducible refine we_tup ?_ | with_reducible refine we_lst ?_ | with_reducible refine wt_test ?_ | with_reducible refine wt_B ?_ | with_reducible refine wt_not ?_ | with_reducible refine wt_and ?_ | with_reducible refine wt_or ?_ | with_reducible refine we_if ?_ | with_reducible refine we_andV ?_ | with_reducible refine we_orV ?_ | with_reducible refine we_notV ?_ | with_reducible refine we_neg ?_ | with_reducible refine we_chain ?_ | with_reducible refine we_slT ?_ | with_reducible refine wo_no ?_ | with_reducible refine wo_some ?_
  | with_reducible refine ws_seq ?_ | with_reducible refine ws_ret ?_ | with_reducible refine ws_asg ?_ | with_reducible refine ws_drop ?_ | with_reducible refine ws_if ?_ | with_reducible refine wg_d ?_ | with_reducible refine wg_ol ?_ | with_reducible refine wg_oK ?_ | with_reducible refine wgs_nil ?_ | with_reducible refine wgs_cons ?_  | with_reducible refine ws_next ?_ | with_reducible refine ws_par (by decide) ?_
  | with_reducible refine we_len ?_ | with_reducible refine we_isi ?_ | with_reducible refine we_gcdG ?_ | with_reducible refine we_fld ?_ | with_reducible refine we_tuple ?_ | with_reducible refine we_list ?_ | with_reducible refine we_inI ?_
  | refine wg_tup rfl ?_ | refine wgs_cons ?_ | refine wgs_nil ?_)
/-- what a step asks, where it is plain -/
local macro_rules | `(tactic| walk_at "c") => `(tactic| first
  | refine ⟨_, rfl, un_d, ?_⟩ | refine ⟨_, rfl, un_ol, ?_⟩ | refine ⟨_, rfl, un_oK, ?_⟩ | refine ⟨_, rfl, un_oN, ?_⟩ | refine ⟨_, rfl, un_rv, ?_⟩
  | refine ⟨true, rfl, fun _ => ?_, tt_ff⟩ | refine ⟨true, rfl, ff_tt, fun _ => ?_⟩ | refine ⟨false, rfl, ff_tt, fun _ => ?_⟩ | refine ⟨false, rfl, fun _ => ?_, tt_ff⟩
  | with_reducible refine ⟨_, rfl, fun _ => ?_, tt_ff⟩ | with_reducible refine ⟨_, rfl, ff_tt, fun _ => ?_⟩ | refine ⟨_, rfl, fun _ => ?_, fun _ => ?_⟩
  | with_reducible refine ⟨fun _ => ?_, tt_ff⟩ | with_reducible refine ⟨ff_tt, fun _ => ?_⟩ | with_reducible refine ⟨fun _ => ?_, fun _ => ?_⟩
  | refine ⟨_, _, rfl, rfl, fun _ => ?_, tt_ff⟩ | refine ⟨_, _, rfl, rfl, ff_tt, fun _ => ?_⟩ | refine ⟨_, _, rfl, rfl, fun _ => ?_, fun _ => ?_⟩
  | refine ⟨_, rfl, ?_⟩
  | refine ⟨_, _, rfl, fun _ _ => ?_⟩
  | refine ⟨_, _, rfl, al_d, al_d, ?_⟩ | refine ⟨_, _, rfl, al_oN, al_ol, ?_⟩ | refine ⟨_, _, rfl, al_oK, al_ol, ?_⟩ | refine ⟨_, _, rfl, al_ol, al_ol, ?_⟩ | refine ⟨_, _, rfl, al_d, al_ol, ?_⟩
  | refine ⟨_, _, rfl, rfl, rfl, rfl, ?_⟩
  | refine ⟨_, _, rfl, rfl, ?_⟩
  | refine ⟨_, _, rfl, _, true, rfl, rfl, ?_⟩ | refine ⟨_, _, rfl, _, false, rfl, rfl, ?_⟩
  | refine ⟨_, _, _, .inr rfl, rfl, rfl, ?_⟩
  | refine ⟨_, rfl, _, .inr rfl, ?_⟩ | refine ⟨_, .inr rfl, ?_⟩ | refine ⟨_, .inl rfl, ?_⟩
  | refine ⟨[_, _], rfl, Nat.le_of_ble_eq_true rfl, ?_⟩
  | refine ⟨[_, _, _], rfl, Nat.le_of_ble_eq_true rfl, ?_⟩
  | refine ⟨[_], rfl, Nat.le_of_ble_eq_true rfl, ?_⟩
  | refine ⟨[], rfl, Nat.le_of_ble_eq_true rfl, ?_⟩)
local macro_rules | `(tactic| walk_at "E") => `(tactic| repeat' first | walk_at "e" | walk_at "c" | fail)
section
variable {Γ : Wd} {K : PySem.W.Frag} {mg : Str → Option Value}
/-- order of pairs -/
def cd (p : Nat × Nat) : Nat := p.1 * 64 + p.2
def SrtP (l : List (Nat × Nat)) : Prop := l.Pairwise fun p q => cd p ≤ cd q
abbrev nn (p : Nat × Nat) : List Int := [(p.1 : Int), (p.2 : Int)]
theorem dk_keys (ps : List (Nat × Nat)) : (dk ps).map (·.1) = (ps.map nn).map tI := by unfold dk; rw [List.map_map, List.map_map]; rfl
theorem code_nn (p : Nat × Nat) : TS.code 64 (nn p) = ((cd p : Nat) : Int) := by
  rw [L2.code_pair]
  unfold cd
  omega
theorem bd_nn {p : Nat × Nat} (h : p.1 < 6 ∧ p.2 < 6) : TS.Bd 64 (nn p) := fun m hm => by
  rcases List.mem_cons.mp hm with e | hm
  · subst e; omega
  · rw [List.mem_singleton.mp hm]; omega
/-- permuted pairs, read back -/
theorem perm_nn {mss : List (List Int)} {ps : List (Nat × Nat)} (h : mss.Perm (ps.map nn)) : ∃ qs : List (Nat × Nat), mss = qs.map nn ∧ qs.Perm ps := by
  have all : ∀ ms ∈ mss, ∃ p, ms = nn p := fun ms hm => by
    obtain ⟨p, _, e⟩ := List.mem_map.mp (h.mem_iff.mp hm)
    exact ⟨p, e.symm⟩
  let back : List Int → Nat × Nat := fun l => (l.getD 0 0 |>.toNat, l.getD 1 0 |>.toNat)
  have hb : ∀ p, back (nn p) = p := fun p => by
    show ((p.1 : Int).toNat, (p.2 : Int).toNat) = p
    rw [Int.toNat_natCast, Int.toNat_natCast]
  refine ⟨mss.map back, ?_, ?_⟩
  · rw [List.map_map]
    have : mss.map id = mss.map (nn ∘ back) := List.map_congr_left fun ms hm => by
      obtain ⟨p, rfl⟩ := all ms hm
      show nn p = nn (back (nn p))
      rw [hb]
    rw [← this, List.map_id]
  · have q := h.map back
    rw [List.map_map] at q
    have e : ps.map (back ∘ nn) = ps.map id := List.map_congr_left fun p _ => hb p
    rw [e, List.map_id] at q
    exact q
theorem pure_pf (R U : List Nat) : pureAll ((pf R U).map (·.2)) = true := by
  show (pure (tN R) && (pure (tN U) && (pure (tN (inv R)) && (pure (tN (inv U)) && true)))) = true
  rw [pure_tN, pure_tN, pure_tN, pure_tN]
  rfl
theorem pure_dk (ps : List (Nat × Nat)) : pureAll ((dk ps).map (·.2)) = true := by
  unfold dk
  induction ps with
  | nil => rfl
  | cons p ps ih => rw [List.map_cons, List.map_cons]; exact ih
theorem prs_nn (ps : List (Nat × Nat)) : (ps.map nn).map tI = prs ps := by rw [List.map_map]; rfl
def A_halves : DS := fun _ args k => ∃ (R U E : List Nat) (n s : Nat) (x y : Bool), args = [.d (bd R U E), .d (hfp s x y)] ∧ Bq R U n ∧ s < n ∧ ∀ ps : List (Nat × Nat), ps.Nodup → (∀ q, q ∈ ps ↔ Rch R U (fst0 R U s x y) q) → SrtP ps → k (.d (.tuple (prs ps)))
theorem fst0_lt {R U : List Nat} {n s : Nat} {x y : Bool} (b : Bq R U n) (hs : s < n) : (fst0 R U s x y).1 < n ∧ (fst0 R U s x y).2 < n := by
  refine ⟨hs, ?_⟩
  have h1 : ∀ j, j < n → at0 (inv R) j < n := fun j hj => by
    have := inv_lt b.r (j := j) (by rw [b.rl]; exact hj)
    rw [b.rl] at this
    exact this
  have h2 : ∀ j, j < n → at0 (inv U) j < n := fun j hj => by
    have := inv_lt b.u (j := j) (by rw [b.ul]; exact hj)
    rw [b.ul] at this
    exact this
  unfold fst0
  cases x <;> cases y
  · exact h2 _ (h1 _ hs)
  · exact h1 _ hs
  · exact h2 _ hs
  · exact hs
theorem ws_halves : Goes Γ K 2 3 (t_halves Γ K A_init (A_closed K) (A_first K)) A_halves := by
  rintro β args k ⟨R, U, E, n, s, x, y, rfl, b, hs, hk⟩
  refine ⟨rfl, ?_⟩
  show WS _ _ _ _ [_, _, _] _
  unfold t_halves
  walk_at "E"
  refine we_make ?_
  walk_at "E"
  refine ⟨_, (· = pf R U), rfl, ⟨R, U, E, rfl, b.r, b.u, rfl⟩, fun fs hfs => ?_⟩
  subst hfs
  refine ⟨pure_pf R U, wg_ob ?_⟩
  walk_at "E"
  refine we_sortedNE ?_
  walk_at "E"
  refine we_meth ?_
  walk_at "E"
  refine ⟨rfl, ?_⟩
  walk_at "E"
  refine we_methE ?_
  walk_at "E"
  refine ⟨rfl, ?_⟩
  walk_at "E"
  refine ⟨_, _, rfl, ⟨R, U, s, x, y, rfl, b.r, b.u, b.ul.trans b.rl.symm, by rw [b.rl]; exact hs, rfl⟩, pure_tI _, ?_⟩
  walk_at "E"
  refine ⟨_, fun r => ∃ ps : List (Nat × Nat), ps.Nodup ∧ (∀ q, q ∈ ps ↔ Rch R U (fst0 R U s x y) q) ∧ r = .oN (dk ps), rfl, ⟨R, U, n, _, rfl, b, fst0_lt b hs, fun ps h1 h2 => ⟨ps, h1, h2, rfl⟩⟩, ?_⟩
  rintro r ⟨ps, h1, h2, rfl⟩
  refine ⟨pure_dk ps, ?_⟩
  walk_at "E"
  have hlt : ∀ q ∈ ps, q.1 < n ∧ q.2 < n := fun q hq => b.rch (fst0_lt b hs) ((h2 q).mp hq)
  have hlen : ps.length ≤ 36 := Nat.le_trans (nodup_sub_lenP h1 fun q hq => allP_mem (hlt q hq)) (allP_len n b.n6)
  have n6 := b.n6
  refine ⟨2, 64, by decide, dk ps, ps.map nn, rfl, dk_keys ps, by rw [List.length_map]; omega, fun ns hn => ?_, fun mss hm hs => ?_⟩
  · obtain ⟨q, hq, rfl⟩ := List.mem_map.mp hn
    have := hlt q hq
    exact ⟨rfl, bd_nn ⟨by omega, by omega⟩⟩
  · obtain ⟨qs, rfl, hp⟩ := perm_nn hm
    rw [prs_nn]
    walk_at "E"
    refine hk qs (hp.nodup_iff.mpr h1) (fun q => (hp.mem_iff).trans (h2 q)) ?_
    rw [List.pairwise_map] at hs
    refine hs.imp fun {p q} h => ?_
    rw [code_nn, code_nn] at h
    omega
end
end K74
end
/-! ## W74f -/
section
namespace K74
open PySem PySem.Spec PyProof.Rows L2 AB
/-- one step of a walk -/
local macro_rules | `(tactic| walk_at "v") => `(tactic| first
  | refine we_d rfl ?_ | refine we_ol rfl ?_ | refine we_oK rfl ?_ | refine we_oN rfl ?_ | refine we_ob rfl ?_ | refine we_rv rfl ?_ | refine we_int ?_ | refine we_bl ?_ | refine we_non ?_ | refine we_str ?_ | refine we_sI rfl ?_ | refine we_c (L2.GCn.dp (by assumption)) ?_ | refine we_cv ?_)
local macro_rules | `(tactic| walk_at "e") => `(tactic| first
  | walk_at "v" | with_reducible refine wa_nil ?_ | with_reducible refine wa_cons ?_ | with_reducible refine we_I0i ?_ | with_reducible refine we_I0b ?_ | with_reducible refine we_Ii ?_ | with_reducible refine we_eqD ?_ | with_reducible refine we_neD ?_ | with_reducible refine we_ix ?_ | with_reducible refine we_tup ?_ | with_reducible refine we_lst ?_ | with_reducible refine wt_test ?_ | with_reducible refine wt_B ?_ | with_reducible refine wt_not ?_ | with_reducible refine wt_and ?_ | with_reducible refine wt_or ?_ | with_reducible refine we_if ?_ | with_reducible refine we_andV ?_ | with_reducible refine we_orV ?_ | with_reducible refine we_notV ?_ | with_reducible refine we_neg ?_ | with_reducible refine we_chain ?_ | with_reducible refine we_slT ?_ | with_reducible refine wo_no ?_ | with_reducible refine wo_some ?_
  | with_reducible refine ws_seq ?_ | with_reducible refine ws_ret ?_ | with_reducible refine ws_asg ?_ | with_reducible refine ws_drop ?_ | with_reducible refine ws_if ?_ | with_reducible refine wg_d ?_ | with_reducible refine wg_ol ?_ | with_reducible refine wg_oK ?_ | with_reducible refine wgs_nil ?_ | with_reducible refine wgs_cons ?_  | with_reducible refine ws_next ?_ | with_reducible refine ws_par (by decide) ?_
  | with_reducible refine we_len ?_ | with_reducible refine we_isi ?_ | with_reducible refine we_gcdG ?_ | with_reducible refine we_fld ?_ | with_reducible refine we_tuple ?_ | with_reducible refine we_list ?_ | with_reducible refine we_inI ?_
  | refine wg_tup rfl ?_ | refine wgs_cons ?_ | refine wgs_nil ?_)
/-- what a step asks, where it is plain -/
local macro_rules | `(tactic| walk_at "c") => `(tactic| first
  | refine ⟨_, rfl, un_d, ?_⟩ | refine ⟨_, rfl, un_ol, ?_⟩ | refine ⟨_, rfl, un_oK, ?_⟩ | refine ⟨_, rfl, un_oN, ?_⟩ | refine ⟨_, rfl, un_rv, ?_⟩
  | refine ⟨true, rfl, fun _ => ?_, tt_ff⟩ | refine ⟨true, rfl, ff_tt, fun _ => ?_⟩ | refine ⟨false, rfl, ff_tt, fun _ => ?_⟩ | refine ⟨false, rfl, fun _ => ?_, tt_ff⟩
  | with_reducible refine ⟨_, rfl, fun _ => ?_, tt_ff⟩ | with_reducible refine ⟨_, rfl, ff_tt, fun _ => ?_⟩ | refine ⟨_, rfl, fun _ => ?_, fun _ => ?_⟩
  | with_reducible refine ⟨fun _ => ?_, tt_ff⟩ | with_reducible refine ⟨ff_tt, fun _ => ?_⟩ | with_reducible refine ⟨fun _ => ?_, fun _ => ?_⟩
  | refine ⟨_, _, rfl, rfl, fun _ => ?_, tt_ff⟩ | refine ⟨_, _, rfl, rfl, ff_tt, fun _ => ?_⟩ | refine ⟨_, _, rfl, rfl, fun _ => ?_, fun _ => ?_⟩
  | refine ⟨_, rfl, ?_⟩
  | refine ⟨_, _, rfl, fun _ _ => ?_⟩
  | refine ⟨_, _, rfl, al_d, al_d, ?_⟩ | refine ⟨_, _, rfl, al_oN, al_ol, ?_⟩ | refine ⟨_, _, rfl, al_oK, al_ol, ?_⟩ | refine ⟨_, _, rfl, al_ol, al_ol, ?_⟩ | refine ⟨_, _, rfl, al_d, al_ol, ?_⟩
  | refine ⟨_, _, rfl, rfl, rfl, rfl, ?_⟩
  | refine ⟨_, _, rfl, rfl, ?_⟩
  | refine ⟨_, _, rfl, _, true, rfl, rfl, ?_⟩ | refine ⟨_, _, rfl, _, false, rfl, rfl, ?_⟩
  | refine ⟨_, _, _, .inr rfl, rfl, rfl, ?_⟩
  | refine ⟨_, rfl, _, .inr rfl, ?_⟩ | refine ⟨_, .inr rfl, ?_⟩ | refine ⟨_, .inl rfl, ?_⟩
  | refine ⟨[_, _], rfl, Nat.le_of_ble_eq_true rfl, ?_⟩
  | refine ⟨[_, _, _], rfl, Nat.le_of_ble_eq_true rfl, ?_⟩
  | refine ⟨[_], rfl, Nat.le_of_ble_eq_true rfl, ?_⟩
  | refine ⟨[], rfl, Nat.le_of_ble_eq_true rfl, ?_⟩)
local macro_rules | `(tactic| walk_at "E") => `(tactic| repeat' first | walk_at "e" | walk_at "c" | fail)
theorem weak_set {ρ : Rho} {i : Nat} {r : AV} (h : ρ[i]? = some .un) : Weak (ρ.set i r) ρ := by
  refine ⟨List.length_set .., fun j r' e => ?_⟩
  by_cases hj : i = j
  · subst hj
    rw [h] at e
    cases e
    exact .inl rfl
  · refine .inr ?_
    rw [List.getElem?_set_ne hj]
    exact e
/-! ### half places -/
abbrev HP := Nat × Bool × Bool
abbrev hfq (h : HP) : PyData := hfp h.1 h.2.1 h.2.2
def hrow (s : Nat) (E : List Nat) (x : Bool) : List HP := if x then [(s, true, false), (s, true, true)] else (if s ∈ E then [] else [(s, false, false)]) ++ [(s, false, true)]
def hpl (n : Nat) (E : List Nat) : List HP := (List.range n).flatMap fun s => hrow s E false ++ hrow s E true
theorem hpl_succ (n : Nat) (E : List Nat) : hpl (n + 1) E = hpl n E ++ (hrow n E false ++ hrow n E true) := by
  unfold hpl
  rw [List.range_succ, List.flatMap_append]
  simp
theorem hrow_len (s : Nat) (E : List Nat) (x : Bool) : (hrow s E x).length ≤ 2 := by
  unfold hrow
  cases x
  · simp only [Bool.false_eq_true, if_false]
    split <;> simp
  · simp
theorem hpl_len (n : Nat) (E : List Nat) : (hpl n E).length ≤ 4 * n := by
  induction n with
  | zero => simp [hpl]
  | succ n ih =>
    rw [hpl_succ, List.length_append, List.length_append]
    have h1 := hrow_len n E false
    have h2 := hrow_len n E true
    omega
section
variable {Γ : Wd} {K : PySem.W.Frag} {mg : Str → Option Value}
def A_half_places : DS := fun _ args k => ∃ (R U E : List Nat), args = [.d (bd R U E)] ∧ R.length ≤ 6 ∧ k (.ol ((hpl R.length E).map hfq))
theorem ws_half_places (g1 : GCn K mg ("ZERO" : Str) (.tuple [.int 0, .int 1])) (g2 : GCn K mg ("HALF_contraries" : Str) (.tuple [.int 1, .int 2])) : Goes Γ K 1 5 (t_half_places Γ K A_is_place) A_half_places := by
  rintro β args k ⟨R, U, E, rfl, h6, hk⟩
  refine ⟨rfl, ?_⟩
  show WS _ _ _ _ [_, _, _, _, _] _
  unfold t_half_places
  walk_at "E"
  refine ws_for (wi_range1 ?_)
  walk_at "E"
  refine ⟨by rw [lN_length]; omega, by omega, ?_⟩
  rw [lN_length, Int.toNat_natCast]
  refine ⟨fun i ρ' => ∃ s2 s3, ρ' = [.d (bd R U E), .ol ((hpl i E).map hfq), s2, s3, .un], ⟨_, _, rfl⟩, ?_, ?_⟩
  · rintro i d ρ' hd ⟨s2, s3, rfl⟩
    obtain ⟨hi, rfl⟩ := rg0 hd
    walk_at "E"
    refine ws_for (wi_tup ?_)
    walk_at "E"
    refine ⟨fun j ρ' => ∃ s3, ρ' = [.d (bd R U E), .ol ((hpl i E ++ (if 1 ≤ j then hrow i E false else []) ++ (if 2 ≤ j then hrow i E true else [])).map hfq), .d (.int (i : Nat)), s3, .un], ⟨s3, by simp⟩, ?_, ?_⟩
    · rintro j d ρ' hd ⟨s3, rfl⟩
      have pick : ∃ x : Bool, d = hf x ∧ (j = 0 ∧ x = false ∨ j = 1 ∧ x = true) := by
        match j, hd with
        | 0, hd => cases hd; exact ⟨false, rfl, .inl ⟨rfl, rfl⟩⟩
        | 1, hd => cases hd; exact ⟨true, rfl, .inr ⟨rfl, rfl⟩⟩
        | j + 2, hd => cases hd
      obtain ⟨x, rfl, hx⟩ := pick
      walk_at "E"
      refine we_extend ?_
      walk_at "E"
      refine we_lc (gown_name (by decide)) (wi_tup ?_)
      walk_at "E"
      refine ⟨unused_of rfl, by decide, fun m acc => acc = ((if m = 0 then [] else if m = 1 then (if x then [(i, true, false)] else (if i ∈ E then [] else [(i, false, false)])) else hrow i E x) : List HP).map hfq, rfl, ?_, ?_⟩
      · intro m d acc hd hacc hI
        have pickY : ∃ y : Bool, d = hf y ∧ (m = 0 ∧ y = false ∨ m = 1 ∧ y = true) := by
          match m, hd with
          | 0, hd => cases hd; exact ⟨false, rfl, .inl ⟨rfl, rfl⟩⟩
          | 1, hd => cases hd; exact ⟨true, rfl, .inr ⟨rfl, rfl⟩⟩
          | m + 2, hd => cases hd
        obtain ⟨y, rfl, hy⟩ := pickY
        walk_at "E"
        refine ⟨weak_set rfl, ?_⟩
        walk_at "E"
        refine we_callE ?_
        walk_at "E"
        refine ⟨_, _, rfl, ⟨R, U, E, i, x, y, rfl, hi, rfl⟩, rfl, ?_⟩
        walk_at "E"
        refine ⟨rfl, fun hb => ?_, fun hb => ?_⟩
        · walk_at "E"
          refine ⟨rfl, _, rfl, ?_⟩
          rcases hx with ⟨e1, e2⟩ | ⟨e1, e2⟩ <;> rcases hy with ⟨e3, e4⟩ | ⟨e3, e4⟩ <;> subst e2 e3 e4 <;> rw [hI]
          · have he : i ∉ E := by simpa using hb
            simp [he]
          · by_cases he : i ∈ E <;> simp [he, hrow]
          · simp
          · simp [hrow]
        · rcases hx with ⟨e1, e2⟩ | ⟨e1, e2⟩ <;> rcases hy with ⟨e3, e4⟩ | ⟨e3, e4⟩ <;> subst e2 e3 e4 <;> (try cases hb)
          have he : i ∈ E := by simpa using hb
          rw [hI]
          simp [he]
      · intro acc hacc hl
        have e : acc = (hrow i E x).map hfq := hacc
        subst e
        have hle := hrow_len i E x
        have hpn := hpl_len i E
        have hf1 := hrow_len i E false
        have hf2 := hrow_len i E true
        walk_at "E"
        refine ⟨by simp only [List.length_map, List.length_append]; split <;> split <;> (try simp only [List.length_nil]) <;> omega, ?_⟩
        refine ⟨.d (hf x), ?_⟩
        rcases hx with ⟨e1, e2⟩ | ⟨e1, e2⟩ <;> subst e1 e2
        · simp
        · simp
    · rintro ρ' ⟨s3', rfl⟩
      refine ⟨.d (.int (i : Nat)), s3', ?_⟩
      rw [hpl_succ]
      simp
  · rintro ρ' ⟨s2, s3, rfl⟩
    rw [rgD_length]
    walk_at "E"
    exact hk
theorem hpl_lt {n : Nat} {E : List Nat} {h : HP} (hh : h ∈ hpl n E) : h.1 < n := by
  unfold hpl at hh
  obtain ⟨s, hs, hh⟩ := List.mem_flatMap.mp hh
  have hs := List.mem_range.mp hs
  have key : ∀ x, h ∈ hrow s E x → h.1 = s := fun x hx => by
    unfold hrow at hx
    cases x
    · simp only [Bool.false_eq_true, if_false] at hx
      rcases List.mem_append.mp hx with z | z
      · split at z
        · cases z
        · rw [List.mem_singleton.mp z]
      · rw [List.mem_singleton.mp z]
    · simp only [if_true] at hx
      rcases List.mem_cons.mp hx with z | z
      · rw [z]
      · rw [List.mem_singleton.mp z]
  rcases List.mem_append.mp hh with z | z
  · rw [key _ z]; exact hs
  · rw [key _ z]; exact hs
theorem take_filter_succ {α : Type} {l : List α} {f : α → Bool} {i : Nat} {x : α} (h : l[i]? = some x) : (l.take (i + 1)).filter f = (l.take i).filter f ++ (if f x then [x] else []) := by
  rw [List.take_add_one, h, List.filter_append]
  congr 1
  show List.filter f [x] = _
  cases e : f x <;> simp [e]
theorem pure_hf (b : Bool) : pure (hf b) = true := by cases b <;> rfl
theorem pure_hfq (h : HP) : pure (hfq h) = true := by
  show (pure (.int (h.1 : Int)) && (pure (hf h.2.1) && (pure (hf h.2.2) && true))) = true
  rw [pure_hf, pure_hf]
  rfl
theorem pureAll_hfq (l : List HP) : pureAll (l.map hfq) = true := by
  induction l with
  | nil => rfl
  | cons h l ih =>
    rw [List.map_cons]
    show (pure (hfq h) && pureAll (l.map hfq)) = true
    rw [ih, pure_hfq]
    rfl
def A_needed : DS := fun _ args k => ∃ (R U E : List Nat) (n i j : Nat), args = [.d (bd R U E), .d (.int (i : Nat)), .d (.int (j : Nat))] ∧ Bq R U n ∧ i < n ∧ j < n ∧ ∀ f : HP → Bool, (∀ h ∈ hpl n E, f h = true ↔ Rch R U (j, i) (fst0 R U h.1 h.2.1 h.2.2)) → k (.d (.tuple (((hpl n E).filter f).map hfq)))
theorem ws_needed : Goes Γ K 3 6 (t_needed Γ K A_init (A_closed K) A_half_places (A_first K)) A_needed := by
  rintro β args k ⟨R, U, E, n, i, j, rfl, b, hi, hj, hk⟩
  refine ⟨rfl, ?_⟩
  show WS _ _ _ _ [_, _, _, _, _, _] _
  unfold t_needed
  walk_at "E"
  refine we_make ?_
  walk_at "E"
  refine ⟨_, (· = pf R U), rfl, ⟨R, U, E, rfl, b.r, b.u, rfl⟩, fun fs hfs => ?_⟩
  subst hfs
  refine ⟨pure_pf R U, wg_ob ?_⟩
  walk_at "E"
  refine we_meth ?_
  walk_at "E"
  refine ⟨rfl, ?_⟩
  walk_at "E"
  refine ⟨_, fun r => ∃ ps : List (Nat × Nat), ps.Nodup ∧ (∀ q, q ∈ ps ↔ Rch R U (j, i) q) ∧ r = .oN (dk ps), rfl, ⟨R, U, n, (j, i), rfl, b, ⟨hj, hi⟩, fun ps h1 h2 => ⟨ps, h1, h2, rfl⟩⟩, ?_⟩
  rintro r ⟨ps, h1, h2, rfl⟩
  refine ⟨pure_dk ps, wg_name al_oN ?_⟩
  have n6 := b.n6
  walk_at "E"
  refine we_lc (gown_name (by decide)) (wi_list ?_)
  refine we_callE ?_
  walk_at "E"
  refine ⟨_, _, rfl, ⟨R, U, E, rfl, by rw [b.rl]; exact n6, rfl⟩, ?_, .inr (.inl ⟨_, rfl, ?_⟩)⟩
  · exact pureAll_hfq _
  rw [b.rl]
  have hlen := hpl_len n E
  refine ⟨unused_of rfl, by rw [List.length_map]; omega, fun m acc => acc = (((hpl n E).take m).filter fun h => decide (fst0 R U h.1 h.2.1 h.2.2 ∈ ps)).map hfq, rfl, ?_, ?_⟩
  · intro m d acc hd hacc hI
    rw [List.getElem?_map] at hd
    cases e : (hpl n E)[m]? with
    | none => rw [e] at hd; cases hd
    | some h =>
      rw [e] at hd
      cases hd
      have hlt := hpl_lt (List.mem_of_getElem? e)
      walk_at "E"
      refine ⟨weak_set rfl, ?_⟩
      walk_at "E"
      refine we_inN ?_
      walk_at "E"
      refine we_methE ?_
      walk_at "E"
      refine ⟨rfl, ?_⟩
      walk_at "E"
      refine ⟨_, _, rfl, ⟨R, U, h.1, h.2.1, h.2.2, rfl, b.r, b.u, b.ul.trans b.rl.symm, by rw [b.rl]; exact hlt, rfl⟩, pure_tI _, ?_⟩
      walk_at "E"
      refine ⟨key_pr _, ?_⟩
      rw [valN_dk]
      refine ⟨_, rfl, rfl, fun hb => ?_, fun hb => ?_⟩
      · walk_at "E"
        refine ⟨rfl, _, rfl, ?_⟩
        have hb : decide (fst0 R U h.1 h.2.1 h.2.2 ∈ ps) = true := hb
        dsimp only
        rw [take_filter_succ e, hI, hb]
        simp
      · have hb : decide (fst0 R U h.1 h.2.1 h.2.2 ∈ ps) = false := hb
        dsimp only
        rw [take_filter_succ e, hI, hb]
        simp
  · intro acc hacc hl
    have e : acc = (((hpl n E).take ((hpl n E).map hfq).length).filter fun h => decide (fst0 R U h.1 h.2.1 h.2.2 ∈ ps)).map hfq := hacc
    rw [List.length_map, List.take_length] at e
    subst e
    walk_at "E"
    exact hk _ fun h hh => by rw [decide_eq_true_iff, h2]
end
end K74
end
/-! ## W74g -/
section
namespace K74
open PySem PySem.Spec PyProof.Rows L2 AB
/-- one step of a walk -/
local macro_rules | `(tactic| walk_at "v") => `(tactic| first
  | refine we_d rfl ?_ | refine we_ol rfl ?_ | refine we_oK rfl ?_ | refine we_oN rfl ?_ | refine we_ob rfl ?_ | refine we_rv rfl ?_ | refine we_int ?_ | refine we_bl ?_ | refine we_non ?_ | refine we_str ?_ | refine we_sI rfl ?_ | refine we_c (L2.GCn.dp (by assumption)) ?_ | refine we_cv ?_)
local macro_rules | `(tactic| walk_at "e") => `(tactic| first
  | walk_at "v" | with_reducible refine wa_nil ?_ | with_reducible refine wa_cons ?_ | with_reducible refine we_I0i ?_ | with_reducible refine we_I0b ?_ | with_reducible refine we_Ii ?_ | with_reducible refine we_eqD ?_ | with_reducible refine we_neD ?_ | with_reducible refine we_ix ?_ | with_reducible refine we_tup ?_ | with_reducible refine we_lst ?_ | with_reducible refine wt_test ?_ | with_reducible refine wt_B ?_ | with_reducible refine wt_not ?_ | with_reducible refine wt_and ?_ | with_reducible refine wt_or ?_ | with_reducible refine we_if ?_ | with_reducible refine we_andV ?_ | with_reducible refine we_orV ?_ | with_reducible refine we_notV ?_ | with_reducible refine we_neg ?_ | with_reducible refine we_chain ?_ | with_reducible refine we_slT ?_ | with_reducible refine wo_no ?_ | with_reducible refine wo_some ?_
  | with_reducible refine ws_seq ?_ | with_reducible refine ws_ret ?_ | with_reducible refine ws_asg2 (by decide) ?_ | with_reducible refine ws_asg ?_ | with_reducible refine ws_drop ?_ | with_reducible refine ws_if ?_ | with_reducible refine wg_d ?_ | with_reducible refine wg_ol ?_ | with_reducible refine wg_oK ?_ | with_reducible refine wgs_nil ?_ | with_reducible refine wgs_cons ?_  | with_reducible refine ws_next ?_ | with_reducible refine ws_par (by decide) ?_ | with_reducible refine ws_asg2 (by decide) ?_
  | with_reducible refine we_len ?_ | with_reducible refine we_isi ?_ | with_reducible refine we_gcdG ?_ | with_reducible refine we_fld ?_ | with_reducible refine we_tuple ?_ | with_reducible refine we_list ?_ | with_reducible refine we_inI ?_
  | refine wg_tup rfl ?_ | refine wgs_cons ?_ | refine wgs_nil ?_)
/-- what a step asks, where it is plain -/
local macro_rules | `(tactic| walk_at "c") => `(tactic| first
  | refine ⟨_, rfl, un_d, ?_⟩ | refine ⟨_, rfl, un_ol, ?_⟩ | refine ⟨_, rfl, un_oK, ?_⟩ | refine ⟨_, rfl, un_oN, ?_⟩ | refine ⟨_, rfl, un_rv, ?_⟩
  | refine ⟨true, rfl, fun _ => ?_, tt_ff⟩ | refine ⟨true, rfl, ff_tt, fun _ => ?_⟩ | refine ⟨false, rfl, ff_tt, fun _ => ?_⟩ | refine ⟨false, rfl, fun _ => ?_, tt_ff⟩
  | with_reducible refine ⟨_, rfl, fun _ => ?_, tt_ff⟩ | with_reducible refine ⟨_, rfl, ff_tt, fun _ => ?_⟩ | refine ⟨_, rfl, fun _ => ?_, fun _ => ?_⟩
  | with_reducible refine ⟨fun _ => ?_, tt_ff⟩ | with_reducible refine ⟨ff_tt, fun _ => ?_⟩ | with_reducible refine ⟨fun _ => ?_, fun _ => ?_⟩
  | refine ⟨_, _, rfl, rfl, fun _ => ?_, tt_ff⟩ | refine ⟨_, _, rfl, rfl, ff_tt, fun _ => ?_⟩ | refine ⟨_, _, rfl, rfl, fun _ => ?_, fun _ => ?_⟩
  | refine ⟨_, rfl, ?_⟩
  | refine ⟨_, _, rfl, fun _ _ => ?_⟩
  | refine ⟨_, _, rfl, al_d, al_d, ?_⟩ | refine ⟨_, _, rfl, al_oN, al_ol, ?_⟩ | refine ⟨_, _, rfl, al_oK, al_ol, ?_⟩ | refine ⟨_, _, rfl, al_ol, al_ol, ?_⟩ | refine ⟨_, _, rfl, al_d, al_ol, ?_⟩
  | refine ⟨_, _, rfl, rfl, rfl, rfl, ?_⟩
  | refine ⟨_, _, rfl, rfl, ?_⟩
  | refine ⟨_, _, rfl, _, true, rfl, rfl, ?_⟩ | refine ⟨_, _, rfl, _, false, rfl, rfl, ?_⟩
  | refine ⟨_, _, _, .inr rfl, rfl, rfl, ?_⟩
  | refine ⟨_, rfl, _, .inr rfl, ?_⟩ | refine ⟨_, .inr rfl, ?_⟩ | refine ⟨_, .inl rfl, ?_⟩
  | refine ⟨[_, _], rfl, Nat.le_of_ble_eq_true rfl, ?_⟩
  | refine ⟨[_, _, _], rfl, Nat.le_of_ble_eq_true rfl, ?_⟩
  | refine ⟨[_], rfl, Nat.le_of_ble_eq_true rfl, ?_⟩
  | refine ⟨[], rfl, Nat.le_of_ble_eq_true rfl, ?_⟩)
local macro_rules | `(tactic| walk_at "E") => `(tactic| repeat' first | walk_at "e" | walk_at "c" | fail)
theorem wt_yes {Γ : Wd} {K : PySem.W.Frag} {β : Option Addr} {ρ : Rho} {kb : Bool → Rho → Prop} (q : kb true ρ) : WT Γ K β tYes ρ kb := fun Hb E σ H x Q f => f true ρ H q x
/-! ### turns -/
/-- reached from square 0 -/
inductive R0 (R U : List Nat) : Nat → Prop
  | zero : R0 R U 0
  | r {s} : R0 R U s → R0 R U (at0 R s)
  | u {s} : R0 R U s → R0 R U (at0 U s)
def Conn (R U : List Nat) (n : Nat) : Prop := ∀ s, s < n → R0 R U s
structure Hom (R U : List Nat) (n t : Nat) (T : List Nat) : Prop where
  len : T.length = n
  lt : ∀ z ∈ T, z < n
  t0 : at0 T 0 = t
  r : ∀ s, s < n → at0 T (at0 R s) = at0 (inv R) (at0 T s)
  u : ∀ s, s < n → at0 T (at0 U s) = at0 (inv U) (at0 T s)
/-- a dict of numbers by numbers -/
def dN (m : List (Nat × Nat)) : List (Key × PyData) := m.map fun p => (Sum.inl (p.1 : Int), .int (p.2 : Int))
theorem getP_dN (m : List (Nat × Nat)) (s : Nat) : getP (dN m) (Sum.inl (s : Int)) = (m.lookup s).map fun v => PyData.int (v : Int) := by
  induction m with
  | nil => rfl
  | cons p m ih =>
    unfold getP dN at ih ⊢
    rw [List.map_cons, List.find?_cons, List.lookup_cons]
    by_cases h : p.1 = s
    · subst h
      simp
    · have h2 : ¬ (Sum.inl (p.1 : Int) : Key) = Sum.inl (s : Int) := fun e => h (by injection e with e; omega)
      have h3 : (s == p.1) = false := by
        rw [beq_eq_false_iff_ne]
        exact fun e => h e.symm
      simp only [h2, decide_false, h3]
      exact ih
theorem putP_dN {m : List (Nat × Nat)} {s v : Nat} (h : m.lookup s = none) : putP (dN m) (Sum.inl (s : Int)) (.int (v : Int)) = dN (m ++ [(s, v)]) := by
  have h1 : ((dN m).any fun kv => decide (kv.1 = Sum.inl (s : Int))) = false := by
    rw [List.any_eq_false]
    intro x hx e
    unfold dN at hx
    obtain ⟨p, hp, rfl⟩ := List.mem_map.mp hx
    have e := of_decide_eq_true e
    have e2 : p.1 = s := by injection e with e; omega
    have : m.lookup p.1 ≠ none := by
      rw [Ne, List.lookup_eq_none_iff]
      intro hh
      have := hh p hp
      simp at this
    rw [e2] at this
    exact this h
  unfold putP
  rw [h1]
  unfold dN
  rw [List.map_append]
  rfl
theorem lookup_append {m : List (Nat × Nat)} {s v : Nat} (h : m.lookup s = none) (x : Nat) : (m ++ [(s, v)]).lookup x = if x = s then some v else m.lookup x := by
  rw [List.lookup_append]
  by_cases e : x = s
  · subst e
    rw [h]
    simp
  · have h3 : (x == s) = false := by rw [beq_eq_false_iff_ne]; exact e
    simp [List.lookup_cons, h3, e]
/-- the turn so far: m the mapping, ws waits -/
structure Tq (R U : List Nat) (n t : Nat) (m : List (Nat × Nat)) (ws : List Nat) : Prop where
  z : m.lookup 0 = some t
  lt : ∀ s v, m.lookup s = some v → s < n ∧ v < n
  hom : ∀ T, Hom R U n t T → ∀ s v, m.lookup s = some v → at0 T s = v
  sub : ∀ s ∈ ws, (m.lookup s).isSome = true
  cl : ∀ s v, m.lookup s = some v → s ∈ ws ∨ (m.lookup (at0 R s) = some (at0 (inv R) v) ∧ m.lookup (at0 U s) = some (at0 (inv U) v))
  nd : (m.map (·.1)).Nodup
theorem look1 {a t s v : Nat} (h : [(a, t)].lookup s = some v) : s = a ∧ v = t := by
  rw [List.lookup_cons] at h
  by_cases e : s = a
  · subst e
    simp at h
    exact ⟨rfl, h.symm⟩
  · have e2 : (s == a) = false := by rw [beq_eq_false_iff_ne]; exact e
    rw [e2] at h
    cases h
theorem Tq.len {R U : List Nat} {n t : Nat} {m : List (Nat × Nat)} {ws : List Nat} (c : Tq R U n t m ws) : m.length ≤ n := by
  have h := nodup_sub_len (l := m.map (·.1)) (m := List.range n) c.nd fun x hx => by
    obtain ⟨p, hp, rfl⟩ := List.mem_map.mp hx
    cases e : m.lookup p.1 with
    | none =>
      rw [List.lookup_eq_none_iff] at e
      have := e p hp
      simp at this
    | some v => exact List.mem_range.mpr (c.lt _ _ e).1
  rw [List.length_map, List.length_range] at h
  exact h
/-- within a turn -/
structure Uq (R U : List Nat) (n t q v : Nat) (m : List (Nat × Nat)) (ws : List Nat) : Prop where
  z : m.lookup 0 = some t
  lt : ∀ s v, m.lookup s = some v → s < n ∧ v < n
  hom : ∀ T, Hom R U n t T → ∀ s v, m.lookup s = some v → at0 T s = v
  sub : ∀ s ∈ ws, (m.lookup s).isSome = true
  cl : ∀ s v, m.lookup s = some v → s ∈ ws ∨ s = q ∨ (m.lookup (at0 R s) = some (at0 (inv R) v) ∧ m.lookup (at0 U s) = some (at0 (inv U) v))
  nd : (m.map (·.1)).Nodup
  q0 : m.lookup q = some v
theorem Uq.len {R U : List Nat} {n t q v : Nat} {m : List (Nat × Nat)} {ws : List Nat} (c : Uq R U n t q v m ws) : m.length ≤ n := by
  have h := nodup_sub_len (l := m.map (·.1)) (m := List.range n) c.nd fun x hx => by
    obtain ⟨p, hp, rfl⟩ := List.mem_map.mp hx
    cases e : m.lookup p.1 with
    | none =>
      rw [List.lookup_eq_none_iff] at e
      have := e p hp
      simp at this
    | some v => exact List.mem_range.mpr (c.lt _ _ e).1
  rw [List.length_map, List.length_range] at h
  exact h
theorem Uq.add {R U : List Nat} {n t q v o w : Nat} {m : List (Nat × Nat)} {ws : List Nat} (c : Uq R U n t q v m ws) (hn : m.lookup o = none) (ho : o < n) (hw : w < n) (hT : ∀ T, Hom R U n t T → at0 T o = w) : Uq R U n t q v (m ++ [(o, w)]) (ws ++ [o]) := by
  have keep : ∀ s x, m.lookup s = some x → (m ++ [(o, w)]).lookup s = some x := fun s x h => by
    rw [lookup_append hn]
    by_cases e : s = o
    · subst e; rw [hn] at h; cases h
    · rw [if_neg e]; exact h
  have back : ∀ s x, (m ++ [(o, w)]).lookup s = some x → (s = o ∧ x = w) ∨ m.lookup s = some x := fun s x h => by
    rw [lookup_append hn] at h
    by_cases e : s = o
    · rw [if_pos e] at h; exact .inl ⟨e, (Option.some.inj h).symm⟩
    · rw [if_neg e] at h; exact .inr h
  refine ⟨keep _ _ c.z, fun s x h => ?_, fun T hh s x h => ?_, fun s hs => ?_, fun s x h => ?_, ?_, keep _ _ c.q0⟩
  · rcases back s x h with ⟨e1, e2⟩ | h
    · rw [e1, e2]; exact ⟨ho, hw⟩
    · exact c.lt s x h
  · rcases back s x h with ⟨e1, e2⟩ | h
    · rw [e1, e2]; exact hT T hh
    · exact c.hom T hh s x h
  · rcases List.mem_append.mp hs with h | h
    · have := c.sub s h
      cases e : m.lookup s with
      | none => rw [e] at this; cases this
      | some x => rw [keep s x e]; rfl
    · rw [List.mem_singleton.mp h, lookup_append hn, if_pos rfl]; rfl
  · rcases back s x h with ⟨e1, e2⟩ | h
    · rw [e1]; exact .inl (List.mem_append_right _ (List.mem_singleton.mpr rfl))
    · rcases c.cl s x h with z | z | z
      · exact .inl (List.mem_append_left _ z)
      · exact .inr (.inl z)
      · exact .inr (.inr ⟨keep _ _ z.1, keep _ _ z.2⟩)
  · rw [List.map_append, List.nodup_append]
    refine ⟨c.nd, by simp, fun x hx y hy e => ?_⟩
    rw [List.map_cons, List.map_nil, List.mem_singleton] at hy
    obtain ⟨p, hp, e2⟩ := List.mem_map.mp hx
    have : m.lookup o ≠ none := by
      rw [Ne, List.lookup_eq_none_iff]
      intro hh
      have := hh p hp
      have e3 : p.1 = o := by rw [e2, e, hy]
      simp [e3] at this
    exact this hn
section
variable {Γ : Wd} {K : PySem.W.Frag} {mg : Str → Option Value}
def A_turn_from : DS := fun _ args k => ∃ (R U E : List Nat) (n t : Nat), args = [.d (bd R U E), .d (.int (t : Nat))] ∧ Bq R U n ∧ 0 < n ∧ t < n ∧ Conn R U n ∧ (∀ T, Hom R U n t T → k (.d (tN T))) ∧ ((∀ T, ¬ Hom R U n t T) → k (.d (.tuple [])))
theorem ws_turn_from : Goes Γ K 2 12 (t_turn_from Γ K A_of1 A_of2) A_turn_from := by
  rintro β args k ⟨R, U, E, n, t, rfl, b, hn, ht, hc, hk1, hk2⟩
  refine ⟨rfl, ?_⟩
  show WS _ _ _ _ [_, _, _, _, _, _, _, _, _, _, _, _] _
  unfold t_turn_from
  have n6 := b.n6
  have hiR : (inv R).length = n := (inv_length R).trans b.rl
  have hiU : (inv U).length = n := (inv_length U).trans b.ul
  walk_at "E"
  refine we_callE ?_
  walk_at "E"
  refine ⟨_, _, rfl, ⟨R, U, E, rfl, b.r, rfl⟩, pure_tN _, ?_⟩
  walk_at "E"
  refine we_callE ?_
  walk_at "E"
  refine ⟨_, _, rfl, ⟨R, U, E, rfl, b.u, rfl⟩, pure_tN _, ?_⟩
  walk_at "E"
  refine we_disp1 ?_
  walk_at "E"
  refine ⟨.inl 0, _, rfl, rfl, ?_⟩
  walk_at "E"
  refine ws_while (fun μ ρ' => ∃ (m : List (Nat × Nat)) (ws : List Nat) (s9 s10 s11 : AV), ρ' = [.d (bd R U E), .d (.int (t : Nat)), .d (tN R), .d (tN U), .d (tN E), .d (tN (inv R)), .d (tN (inv U)), .oK (dN m), .ol (lN ws), s9, s10, s11] ∧ Tq R U n t m ws ∧ μ ≤ 11 ∧ μ = 2 * (6 - m.length) + ws.length)
    ⟨_, [(0, t)], [0], _, _, _, rfl, ⟨by simp, fun s v h => ?_, fun T hT s v h => ?_, fun s hs => by rw [List.mem_singleton.mp hs]; rfl, fun s v h => ?_, by simp⟩, Nat.le_refl 11, rfl⟩ ?_
  · obtain ⟨rfl, rfl⟩ := look1 h; exact ⟨hn, ht⟩
  · obtain ⟨rfl, rfl⟩ := look1 h; exact hT.t0
  · obtain ⟨rfl, rfl⟩ := look1 h; exact .inl (by simp)
  rintro μ ρ' ⟨m, ws, s9, s10, s11, rfl, c, hμ11, hμ⟩
  have hm6 := c.len
  refine wt_tru (we_ol rfl ?_)
  refine ⟨_, .inl rfl, fun hb => ?_, fun hb => ?_⟩
  · rcases List.eq_nil_or_concat ws with e | ⟨ws', q, e⟩
    · rw [e] at hb
      cases hb
    · have e : ws = ws' ++ [q] := by rw [e, List.concat_eq_append]
      subst e
      obtain ⟨v, hv⟩ := Option.isSome_iff_exists.mp (c.sub q (by simp))
      obtain ⟨hq, hvn⟩ := c.lt q v hv
      have hLv : at0 (inv R) v < n := by
        have := inv_lt b.r (j := v) (by rw [b.rl]; exact hvn)
        rw [b.rl] at this; exact this
      have hBv : at0 (inv U) v < n := by
        have := inv_lt b.u (j := v) (by rw [b.ul]; exact hvn)
        rw [b.ul] at this; exact this
      have hRq : at0 R q < n := by
        have := b.r.lt' (k := q) (by rw [b.rl]; exact hq)
        rw [b.rl] at this; exact this
      have hUq : at0 U q < n := by
        have := b.u.lt' (k := q) (by rw [b.ul]; exact hq)
        rw [b.ul] at this; exact this
      walk_at "E"
      refine we_pop ?_
      walk_at "E"
      refine ⟨_, lN ws', .int (q : Nat), rfl, by rw [lN_append]; rfl, ?_⟩
      walk_at "E"
      refine ws_for (wi_tup ?_)
      walk_at "E"
      refine ⟨_, _, _, .inr rfl, rfl, atI_N (k := q) (by rw [b.rl]; exact hq), ?_⟩
      walk_at "E"
      refine we_dget ?_
      walk_at "E"
      refine ⟨_, .inl (q : Int), _, rfl, rfl, by rw [getP_dN, hv]; rfl, ?_⟩
      walk_at "E"
      refine ⟨_, _, _, .inr rfl, rfl, atI_N (k := v) (by rw [hiR]; exact hvn), ?_⟩
      walk_at "E"
      refine ⟨_, _, _, .inr rfl, rfl, atI_N (k := q) (by rw [b.ul]; exact hq), ?_⟩
      walk_at "E"
      refine we_dget ?_
      walk_at "E"
      refine ⟨_, .inl (q : Int), _, rfl, rfl, by rw [getP_dN, hv]; rfl, ?_⟩
      walk_at "E"
      refine ⟨_, _, _, .inr rfl, rfl, atI_N (k := v) (by rw [hiU]; exact hvn), ?_⟩
      walk_at "E"
      have pick : ∀ (i : Nat) (d : PyData), [PyData.tuple [PyData.int (R.getD q 0 : Nat), PyData.int ((inv R).getD v 0 : Nat)], PyData.tuple [PyData.int (U.getD q 0 : Nat), PyData.int ((inv U).getD v 0 : Nat)]][i]? = some d →
          ∃ o w : Nat, d = .tuple [.int (o : Int), .int (w : Int)] ∧ o < n ∧ w < n ∧ (∀ T, Hom R U n t T → at0 T o = w) ∧ (i = 0 ∧ o = at0 R q ∧ w = at0 (inv R) v ∨ i = 1 ∧ o = at0 U q ∧ w = at0 (inv U) v) := fun i d hd => by
        match i, hd with
        | 0, hd => cases hd; exact ⟨_, _, rfl, hRq, hLv, fun T hT => by rw [hT.r q hq, c.hom T hT q v hv], .inl ⟨rfl, rfl, rfl⟩⟩
        | 1, hd => cases hd; exact ⟨_, _, rfl, hUq, hBv, fun T hT => by rw [hT.u q hq, c.hom T hT q v hv], .inr ⟨rfl, rfl, rfl⟩⟩
        | i + 2, hd => cases hd
      refine ⟨fun i ρ' => ∃ (m1 : List (Nat × Nat)) (ws1 : List Nat) (s10 s11 : AV), ρ' = [.d (bd R U E), .d (.int (t : Nat)), .d (tN R), .d (tN U), .d (tN E), .d (tN (inv R)), .d (tN (inv U)), .oK (dN m1), .ol (lN ws1), .d (.int (q : Nat)), s10, s11] ∧ Uq R U n t q v m1 ws1 ∧
        (1 ≤ i → m1.lookup (at0 R q) = some (at0 (inv R) v)) ∧ (2 ≤ i → m1.lookup (at0 U q) = some (at0 (inv U) v)) ∧ m.length ≤ m1.length ∧ 2 * (6 - m1.length) + ws1.length ≤ 2 * (6 - m.length) + ws'.length,
        ⟨_, _, _, _, rfl, ⟨c.z, c.lt, c.hom, fun s hs => c.sub s (List.mem_append_left _ hs), fun s x h => ?_, c.nd, hv⟩, by omega, by omega, Nat.le_refl _, Nat.le_refl _⟩, ?_, ?_⟩
      · rcases c.cl s x h with z | z
        · rcases List.mem_append.mp z with z | z
          · exact .inl z
          · exact .inr (.inl (List.mem_singleton.mp z))
        · exact .inr (.inr z)
      · rintro i d ρ' hd ⟨m1, ws1, s10, s11, rfl, u, g1, g2, hle, hms⟩
        obtain ⟨o, w, rfl, ho, hw, hT, hi⟩ := pick i d hd
        have hl1 := u.len
        rw [List.length_append, List.length_singleton] at hμ
        walk_at "E"
        refine we_dnotin ?_
        walk_at "E"
        refine ⟨_, .inl (o : Int), rfl, rfl, ?_⟩
        rw [getP_dN]
        cases hlo : m1.lookup o with
        | none =>
          walk_at "E"
          refine wg_setK ?_
          walk_at "E"
          refine ⟨_, .inl (o : Int), rfl, rfl, by unfold dN; rw [List.length_map]; omega, ?_⟩
          rw [putP_dN hlo]
          walk_at "E"
          refine we_append ?_
          walk_at "E"
          have u2 := u.add hlo ho hw hT
          have hl2 := u2.len
          rw [List.length_append, List.length_singleton] at hl2
          refine ⟨by rw [lN_length]; omega, ?_⟩
          refine ⟨m1 ++ [(o, w)], ws1 ++ [o], _, _, by rw [lN_append]; rfl, u2, fun _ => ?_, fun h => ?_, by rw [List.length_append]; omega, by rw [List.length_append, List.length_append, List.length_singleton, List.length_singleton]; omega⟩
          · rcases hi with ⟨e, e2, e3⟩ | ⟨e, _⟩
            · rw [lookup_append hlo, if_pos e2.symm, e3]
            · have g := g1 (by omega)
              rw [lookup_append hlo, if_neg (fun z => by rw [z, hlo] at g; cases g)]
              exact g
          · rcases hi with ⟨e, _⟩ | ⟨e, e2, e3⟩
            · omega
            · rw [lookup_append hlo, if_pos e2.symm, e3]
        | some w' =>
          walk_at "E"
          refine we_dget ?_
          walk_at "E"
          refine ⟨_, .inl (o : Int), _, rfl, rfl, by rw [getP_dN, hlo]; rfl, ?_⟩
          walk_at "E"
          · rename_i hb2
            rw [eqvI] at hb2
            have hne : ¬ w' = w := fun e => by
              rw [e, decide_eq_true rfl] at hb2
              cases hb2
            refine hk2 fun T hT' => hne ?_
            rw [← u.hom T hT' o w' hlo, hT T hT']
          · rename_i hb2
            rw [eqvI] at hb2
            have e : w' = w := by
              have h3 : decide ((w' : Int) = (w : Int)) = true := by
                cases h4 : decide ((w' : Int) = (w : Int)) with
                | true => rfl
                | false => rw [h4] at hb2; cases hb2
              have := of_decide_eq_true h3
              omega
            subst e
            refine ⟨m1, ws1, _, _, rfl, u, fun _ => ?_, fun h => ?_, hle, hms⟩
            · rcases hi with ⟨e, e2, e3⟩ | ⟨e, _⟩
              · rw [← e2, ← e3]; exact hlo
              · exact g1 (by omega)
            · rcases hi with ⟨e, _⟩ | ⟨e, e2, e3⟩
              · omega
              · rw [← e2, ← e3]; exact hlo
      · rintro ρ' ⟨m1, ws1, s10, s11, rfl, u, g1, g2, hle, hms⟩
        refine ⟨_, ?_, m1, ws1, _, _, _, rfl, ⟨u.z, u.lt, u.hom, u.sub, fun s x h => ?_, u.nd⟩, ?_, rfl⟩
        · rw [hμ, List.length_append, List.length_singleton]
          omega
        · rcases u.cl s x h with z | z | z
          · exact .inl z
          · subst z
            rw [u.q0] at h
            cases h
            exact .inr ⟨g1 (Nat.le_of_ble_eq_true rfl), g2 (Nat.le_of_ble_eq_true rfl)⟩
          · exact .inr z
        · rw [List.length_append, List.length_singleton] at hμ
          omega
  · have e : ws = [] := by
      cases ws with
      | nil => rfl
      | cons _ _ => cases hb
    subst e
    -- every square is there
    have all : ∀ s, s < n → ∃ v, m.lookup s = some v := fun s hs => by
      have h := hc s hs
      clear hs
      induction h with
      | zero => exact ⟨t, c.z⟩
      | r _ ih => obtain ⟨v, hv⟩ := ih; exact ⟨_, ((c.cl _ v hv).resolve_left (by simp)).1⟩
      | u _ ih => obtain ⟨v, hv⟩ := ih; exact ⟨_, ((c.cl _ v hv).resolve_left (by simp)).2⟩
    have hT : ∀ s, s < n → at0 ((List.range n).map fun s => (m.lookup s).getD 0) s = (m.lookup s).getD 0 := fun s hs => by
      rw [at0_get (by simpa using hs)]
      simp
    have fin : Hom R U n t ((List.range n).map fun s => (m.lookup s).getD 0) := by
      refine ⟨by simp, fun z hz => ?_, by rw [hT 0 hn, c.z]; rfl, fun s hs => ?_, fun s hs => ?_⟩
      · obtain ⟨s, hs, rfl⟩ := List.mem_map.mp hz
        obtain ⟨v, hv⟩ := all s (List.mem_range.mp hs)
        rw [hv]
        exact (c.lt s v hv).2
      · obtain ⟨v, hv⟩ := all s hs
        have h2 := ((c.cl _ v hv).resolve_left (by simp)).1
        rw [hT s hs, hT _ (c.lt _ _ h2).1, hv, h2]
        rfl
      · obtain ⟨v, hv⟩ := all s hs
        have h2 := ((c.cl _ v hv).resolve_left (by simp)).2
        rw [hT s hs, hT _ (c.lt _ _ h2).1, hv, h2]
        rfl
    refine ws_weak (ρ' := [.d (bd R U E), .d (.int (t : Nat)), .d (tN R), .d (tN U), .d (tN E), .d (tN (inv R)), .d (tN (inv U)), .oK (dN m), .ol (lN []), .un, .un, .un]) ⟨rfl, fun i r e => ?_⟩ ?_
    · match i, e with
      | 0, e => exact .inr e
      | 1, e => exact .inr e
      | 2, e => exact .inr e
      | 3, e => exact .inr e
      | 4, e => exact .inr e
      | 5, e => exact .inr e
      | 6, e => exact .inr e
      | 7, e => exact .inr e
      | 8, e => exact .inr e
      | 9, e => cases e; exact .inl rfl
      | 10, e => cases e; exact .inl rfl
      | 11, e => cases e; exact .inl rfl
      | i + 12, e => cases e
    walk_at "E"
    refine we_lc (gown_name (by decide)) (wi_range1 ?_)
    walk_at "E"
    refine ⟨by rw [lN_length, b.rl]; omega, by omega, ?_⟩
    rw [lN_length, Int.toNat_natCast, b.rl]
    refine ⟨unused_of rfl, by rw [rgD_length]; omega, fun i acc => acc = lN ((List.range i).map fun s => (m.lookup s).getD 0), rfl, ?_, ?_⟩
    · intro i d acc hd hacc hI
      obtain ⟨hi, rfl⟩ := rg0 hd
      walk_at "E"
      refine ⟨weak_set rfl, wt_yes ⟨rfl, fun _ => ?_, fun h => by cases h⟩⟩
      obtain ⟨v, hv⟩ := all i hi
      refine we_dget ?_
      walk_at "E"
      refine ⟨_, .inl (i : Int), _, rfl, rfl, by rw [getP_dN, hv]; rfl, rfl, _, rfl, ?_⟩
      dsimp only
      rw [hI, List.range_succ, List.map_append, lN_append, List.map_cons, List.map_nil, hv]
      rfl
    · intro acc hacc hl
      have e : acc = lN ((List.range (rgD 0 1 n).length).map fun s => (m.lookup s).getD 0) := hacc
      rw [rgD_length] at e
      subst e
      walk_at "E"
      exact hk1 _ fin
end
end K74
end
/-! ## W74h -/
section
namespace K74
open PySem PySem.Spec PyProof.Rows L2 AB
/-- one step of a walk -/
local macro_rules | `(tactic| walk_at "v") => `(tactic| first
  | refine we_d rfl ?_ | refine we_ol rfl ?_ | refine we_oK rfl ?_ | refine we_oN rfl ?_ | refine we_ob rfl ?_ | refine we_rv rfl ?_ | refine we_int ?_ | refine we_bl ?_ | refine we_non ?_ | refine we_str ?_ | refine we_sI rfl ?_ | refine we_c (L2.GCn.dp (by assumption)) ?_ | refine we_cv ?_)
local macro_rules | `(tactic| walk_at "e") => `(tactic| first
  | walk_at "v" | with_reducible refine wa_nil ?_ | with_reducible refine wa_cons ?_ | with_reducible refine we_I0i ?_ | with_reducible refine we_I0b ?_ | with_reducible refine we_Ii ?_ | with_reducible refine we_eqD ?_ | with_reducible refine we_neD ?_ | with_reducible refine we_ix ?_ | with_reducible refine we_tup ?_ | with_reducible refine we_lst ?_ | with_reducible refine wt_test ?_ | with_reducible refine wt_B ?_ | with_reducible refine wt_not ?_ | with_reducible refine wt_and ?_ | with_reducible refine wt_or ?_ | with_reducible refine we_if ?_ | with_reducible refine we_andV ?_ | with_reducible refine we_orV ?_ | with_reducible refine we_notV ?_ | with_reducible refine we_neg ?_ | with_reducible refine we_chain ?_ | with_reducible refine we_slT ?_ | with_reducible refine wo_no ?_ | with_reducible refine wo_some ?_
  | with_reducible refine ws_seq ?_ | with_reducible refine ws_ret ?_ | with_reducible refine ws_asg2 (by decide) ?_ | with_reducible refine ws_asg ?_ | with_reducible refine ws_drop ?_ | with_reducible refine ws_if ?_ | with_reducible refine wg_d ?_ | with_reducible refine wg_ol ?_ | with_reducible refine wg_oK ?_ | with_reducible refine wgs_nil ?_ | with_reducible refine wgs_cons ?_  | with_reducible refine ws_next ?_ | with_reducible refine ws_par (by decide) ?_ | with_reducible refine ws_asg2 (by decide) ?_
  | with_reducible refine we_len ?_ | with_reducible refine we_isi ?_ | with_reducible refine we_gcdG ?_ | with_reducible refine we_fld ?_ | with_reducible refine we_tuple ?_ | with_reducible refine we_list ?_ | with_reducible refine we_inI ?_
  | refine wg_tup rfl ?_ | refine wgs_cons ?_ | refine wgs_nil ?_)
/-- what a step asks, where it is plain -/
local macro_rules | `(tactic| walk_at "c") => `(tactic| first
  | refine ⟨_, rfl, un_d, ?_⟩ | refine ⟨_, rfl, un_ol, ?_⟩ | refine ⟨_, rfl, un_oK, ?_⟩ | refine ⟨_, rfl, un_oN, ?_⟩ | refine ⟨_, rfl, un_rv, ?_⟩
  | refine ⟨true, rfl, fun _ => ?_, tt_ff⟩ | refine ⟨true, rfl, ff_tt, fun _ => ?_⟩ | refine ⟨false, rfl, ff_tt, fun _ => ?_⟩ | refine ⟨false, rfl, fun _ => ?_, tt_ff⟩
  | with_reducible refine ⟨_, rfl, fun _ => ?_, tt_ff⟩ | with_reducible refine ⟨_, rfl, ff_tt, fun _ => ?_⟩ | refine ⟨_, rfl, fun _ => ?_, fun _ => ?_⟩
  | with_reducible refine ⟨fun _ => ?_, tt_ff⟩ | with_reducible refine ⟨ff_tt, fun _ => ?_⟩ | with_reducible refine ⟨fun _ => ?_, fun _ => ?_⟩
  | refine ⟨_, _, rfl, rfl, fun _ => ?_, tt_ff⟩ | refine ⟨_, _, rfl, rfl, ff_tt, fun _ => ?_⟩ | refine ⟨_, _, rfl, rfl, fun _ => ?_, fun _ => ?_⟩
  | refine ⟨_, rfl, ?_⟩
  | refine ⟨_, _, rfl, fun _ _ => ?_⟩
  | refine ⟨_, _, rfl, al_d, al_d, ?_⟩ | refine ⟨_, _, rfl, al_oN, al_ol, ?_⟩ | refine ⟨_, _, rfl, al_oK, al_ol, ?_⟩ | refine ⟨_, _, rfl, al_ol, al_ol, ?_⟩ | refine ⟨_, _, rfl, al_d, al_ol, ?_⟩
  | refine ⟨_, _, rfl, rfl, rfl, rfl, ?_⟩
  | refine ⟨_, _, rfl, rfl, ?_⟩
  | refine ⟨_, _, rfl, _, true, rfl, rfl, ?_⟩ | refine ⟨_, _, rfl, _, false, rfl, rfl, ?_⟩
  | refine ⟨_, _, _, .inr rfl, rfl, rfl, ?_⟩
  | refine ⟨_, rfl, _, .inr rfl, ?_⟩ | refine ⟨_, .inr rfl, ?_⟩ | refine ⟨_, .inl rfl, ?_⟩
  | refine ⟨[_, _], rfl, Nat.le_of_ble_eq_true rfl, ?_⟩
  | refine ⟨[_, _, _], rfl, Nat.le_of_ble_eq_true rfl, ?_⟩
  | refine ⟨[_], rfl, Nat.le_of_ble_eq_true rfl, ?_⟩
  | refine ⟨[], rfl, Nat.le_of_ble_eq_true rfl, ?_⟩)
local macro_rules | `(tactic| walk_at "E") => `(tactic| repeat' first | walk_at "e" | walk_at "c" | fail)
theorem eqv_hfp (a b : Nat) (x y : Bool) : PyData.eqv (hfp a x y) (hfp b x y) = decide (a = b) := by
  have h : PyData.eqv (hfp a x y) (hfp b x y) = (((a : Int) == (b : Int)) && true) := by
    cases x <;> cases y <;> rfl
  rw [h, Bool.and_true, Bool.eq_iff_iff]
  simp only [beq_iff_eq, decide_eq_true_eq]
  omega
theorem shaped_hfp (a : Nat) (x y : Bool) : SeqAt.shaped (hfp a x y) = true := by cases x <;> cases y <;> rfl
theorem tried_eq (s : Nat) (E : List Nat) : (if s ∈ E then [] else [hfp s false false]) ++ [hfp s false true, hfp s true false, hfp s true true] = (hrow s E false ++ hrow s E true).map hfq := by
  unfold hrow
  by_cases h : s ∈ E <;> simp [h]
section
variable {Γ : Wd} {K : PySem.W.Frag} {mg : Str → Option Value}
def A_still : DS := fun _ args k => ∃ (R U E T : List Nat) (n : Nat), args = [.d (bd R U E), .d (tN T)] ∧ Bq R U n ∧ T.length = n ∧ (∀ z ∈ T, z < n) ∧ k (.d (.tuple (((hpl n E).filter fun h => decide (tsq R U T h.1 h.2.1 h.2.2 = h.1)).map hfq)))
theorem ws_still : Goes Γ K 2 5 (t_still Γ K A_places_tried A_turned) A_still := by
  rintro β args k ⟨R, U, E, T, n, rfl, b, hTl, hTn, hk⟩
  refine ⟨rfl, ?_⟩
  show WS _ _ _ _ [_, _, _, _, _] _
  unfold t_still
  have n6 := b.n6
  walk_at "E"
  refine ws_for (wi_range1 ?_)
  walk_at "E"
  refine ⟨by rw [lN_length]; omega, by omega, ?_⟩
  rw [lN_length, Int.toNat_natCast, hTl]
  refine ⟨fun i ρ' => ∃ s3, ρ' = [.d (bd R U E), .d (tN T), .ol (((hpl i E).filter fun h => decide (tsq R U T h.1 h.2.1 h.2.2 = h.1)).map hfq), s3, .un], ⟨_, rfl⟩, ?_, ?_⟩
  · rintro i d ρ' hd ⟨s3, rfl⟩
    obtain ⟨hi, rfl⟩ := rg0 hd
    have hpn := hpl_len i E
    walk_at "E"
    refine we_extend ?_
    walk_at "E"
    refine we_lc (gown_name (by decide)) (wi_list ?_)
    refine we_callE ?_
    walk_at "E"
    refine ⟨_, _, rfl, ⟨R, U, E, i, rfl, rfl⟩, ?_, .inr (.inl ⟨_, rfl, ?_⟩)⟩
    · rw [tried_eq]
      exact pureAll_hfq _
    rw [tried_eq]
    have hpr1 := hrow_len i E false
    have hpr2 := hrow_len i E true
    refine ⟨unused_of rfl, by rw [List.length_map, List.length_append]; omega, fun m acc => acc = (((hrow i E false ++ hrow i E true).take m).filter fun h => decide (tsq R U T h.1 h.2.1 h.2.2 = h.1)).map hfq, rfl, ?_, ?_⟩
    · intro m d acc hd hacc hI
      rw [List.getElem?_map] at hd
      cases e : (hrow i E false ++ hrow i E true)[m]? with
      | none => rw [e] at hd; cases hd
      | some h =>
        rw [e] at hd
        cases hd
        have hlt : h.1 < n := by
          have h2 : h ∈ hpl (i + 1) E := by rw [hpl_succ]; exact List.mem_append_right _ (List.mem_of_getElem? e)
          have := hpl_lt h2
          omega
        walk_at "E"
        refine ⟨weak_set rfl, ?_⟩
        walk_at "E"
        refine we_callE ?_
        walk_at "E"
        refine ⟨_, _, rfl, ⟨R, U, E, T, h.1, h.2.1, h.2.2, rfl, b.r, b.u, b.ul.trans b.rl.symm, hTl.trans b.rl.symm, by rw [b.rl]; exact hTn, by rw [b.rl]; exact hlt, rfl⟩, pure_hfq (_, h.2.1, h.2.2), ?_⟩
        walk_at "v"
        refine ⟨_, _, rfl, rfl, shaped_hfp _ _ _, shaped_hfp _ _ _, ?_⟩
        rw [eqv_hfp]
        refine ⟨_, rfl, rfl, fun hb => ?_, fun hb => ?_⟩
        · walk_at "v"
          refine ⟨rfl, _, rfl, ?_⟩
          dsimp only
          rw [take_filter_succ e, hI, hb]
          simp
        · dsimp only
          rw [take_filter_succ e, hI, hb]
          simp
    · intro acc hacc hl
      have e : acc = (((hrow i E false ++ hrow i E true).take ((hrow i E false ++ hrow i E true).map hfq).length).filter fun h => decide (tsq R U T h.1 h.2.1 h.2.2 = h.1)).map hfq := hacc
      rw [List.length_map, List.take_length] at e
      subst e
      have hf1 := List.length_filter_le (fun h : HP => decide (tsq R U T h.1 h.2.1 h.2.2 = h.1)) (hpl i E)
      have hf2 := List.length_filter_le (fun h : HP => decide (tsq R U T h.1 h.2.1 h.2.2 = h.1)) (hrow i E false ++ hrow i E true)
      rw [List.length_append] at hf2
      walk_at "E"
      refine ⟨by rw [List.length_map, List.length_map]; omega, ?_⟩
      refine ⟨.d (.int (i : Nat)), ?_⟩
      simp only [hpl_succ, List.filter_append, List.map_append]
      rfl
  · rintro ρ' ⟨s3, rfl⟩
    rw [rgD_length]
    walk_at "E"
    exact hk
end
end K74
end
/-! ## W74i -/
section
namespace K74
open PySem PySem.Spec PyProof.Rows L2 AB
/-- one step of a walk -/
local macro_rules | `(tactic| walk_at "v") => `(tactic| first
  | refine we_d rfl ?_ | refine we_ol rfl ?_ | refine we_oK rfl ?_ | refine we_oN rfl ?_ | refine we_ob rfl ?_ | refine we_rv rfl ?_ | refine we_int ?_ | refine we_bl ?_ | refine we_non ?_ | refine we_str ?_ | refine we_sI rfl ?_ | refine we_c (L2.GCn.dp (by assumption)) ?_ | refine we_cv ?_)
local macro_rules | `(tactic| walk_at "e") => `(tactic| first
  | walk_at "v" | with_reducible refine wa_nil ?_ | with_reducible refine wa_cons ?_ | with_reducible refine we_I0i ?_ | with_reducible refine we_I0b ?_ | with_reducible refine we_Ii ?_ | with_reducible refine we_eqD ?_ | with_reducible refine we_neD ?_ | with_reducible refine we_ix ?_ | with_reducible refine we_tup ?_ | with_reducible refine we_lst ?_ | with_reducible refine wt_test ?_ | with_reducible refine wt_B ?_ | with_reducible refine wt_not ?_ | with_reducible refine wt_and ?_ | with_reducible refine wt_or ?_ | with_reducible refine we_if ?_ | with_reducible refine we_andV ?_ | with_reducible refine we_orV ?_ | with_reducible refine we_notV ?_ | with_reducible refine we_neg ?_ | with_reducible refine we_chain ?_ | with_reducible refine we_slT ?_ | with_reducible refine wo_no ?_ | with_reducible refine wo_some ?_
  | with_reducible refine ws_seq ?_ | with_reducible refine ws_ret ?_ | with_reducible refine ws_asg2 (by decide) ?_ | with_reducible refine ws_asg ?_ | with_reducible refine ws_drop ?_ | with_reducible refine ws_if ?_ | with_reducible refine wg_d ?_ | with_reducible refine wg_ol ?_ | with_reducible refine wg_oK ?_ | with_reducible refine wgs_nil ?_ | with_reducible refine wgs_cons ?_  | with_reducible refine ws_next ?_ | with_reducible refine ws_par (by decide) ?_ | with_reducible refine ws_asg2 (by decide) ?_
  | with_reducible refine we_len ?_ | with_reducible refine we_isi ?_ | with_reducible refine we_gcdG ?_ | with_reducible refine we_fld ?_ | with_reducible refine we_tuple ?_ | with_reducible refine we_list ?_ | with_reducible refine we_inI ?_
  | refine wg_tup rfl ?_ | refine wgs_cons ?_ | refine wgs_nil ?_)
/-- what a step asks, where it is plain -/
local macro_rules | `(tactic| walk_at "c") => `(tactic| first
  | refine ⟨_, rfl, un_d, ?_⟩ | refine ⟨_, rfl, un_ol, ?_⟩ | refine ⟨_, rfl, un_oK, ?_⟩ | refine ⟨_, rfl, un_oN, ?_⟩ | refine ⟨_, rfl, un_rv, ?_⟩
  | refine ⟨true, rfl, fun _ => ?_, tt_ff⟩ | refine ⟨true, rfl, ff_tt, fun _ => ?_⟩ | refine ⟨false, rfl, ff_tt, fun _ => ?_⟩ | refine ⟨false, rfl, fun _ => ?_, tt_ff⟩
  | with_reducible refine ⟨_, rfl, fun _ => ?_, tt_ff⟩ | with_reducible refine ⟨_, rfl, ff_tt, fun _ => ?_⟩ | refine ⟨_, rfl, fun _ => ?_, fun _ => ?_⟩
  | with_reducible refine ⟨fun _ => ?_, tt_ff⟩ | with_reducible refine ⟨ff_tt, fun _ => ?_⟩ | with_reducible refine ⟨fun _ => ?_, fun _ => ?_⟩
  | refine ⟨_, _, rfl, rfl, fun _ => ?_, tt_ff⟩ | refine ⟨_, _, rfl, rfl, ff_tt, fun _ => ?_⟩ | refine ⟨_, _, rfl, rfl, fun _ => ?_, fun _ => ?_⟩
  | refine ⟨_, rfl, ?_⟩
  | refine ⟨_, _, rfl, fun _ _ => ?_⟩
  | refine ⟨_, _, rfl, al_d, al_d, ?_⟩ | refine ⟨_, _, rfl, al_oN, al_ol, ?_⟩ | refine ⟨_, _, rfl, al_oK, al_ol, ?_⟩ | refine ⟨_, _, rfl, al_ol, al_ol, ?_⟩ | refine ⟨_, _, rfl, al_d, al_ol, ?_⟩
  | refine ⟨_, _, rfl, rfl, rfl, rfl, ?_⟩
  | refine ⟨_, _, rfl, rfl, ?_⟩
  | refine ⟨_, _, rfl, _, true, rfl, rfl, ?_⟩ | refine ⟨_, _, rfl, _, false, rfl, rfl, ?_⟩
  | refine ⟨_, _, _, .inr rfl, rfl, rfl, ?_⟩
  | refine ⟨_, rfl, _, .inr rfl, ?_⟩ | refine ⟨_, .inr rfl, ?_⟩ | refine ⟨_, .inl rfl, ?_⟩
  | refine ⟨[_, _], rfl, Nat.le_of_ble_eq_true rfl, ?_⟩
  | refine ⟨[_, _, _], rfl, Nat.le_of_ble_eq_true rfl, ?_⟩
  | refine ⟨[_], rfl, Nat.le_of_ble_eq_true rfl, ?_⟩
  | refine ⟨[], rfl, Nat.le_of_ble_eq_true rfl, ?_⟩)
local macro_rules | `(tactic| walk_at "E") => `(tactic| repeat' first | walk_at "e" | walk_at "c" | fail)
section
variable {Γ : Wd} {K : PySem.W.Frag} {mg : Str → Option Value}
/-- the turn keeps the ends -/
def Kp (R U E T : List Nat) (n : Nat) : Bool := (List.range n).all fun s => decide (s ∈ E) == decide (at0 U (at0 R (at0 T s)) ∈ E)
def A_keeps : DS := fun _ args k => ∃ (R U E T : List Nat) (n : Nat), args = [.d (bd R U E), .d (tN T)] ∧ Bq R U n ∧ T.length = n ∧ (∀ z ∈ T, z < n) ∧ k (.d (.bool (Kp R U E T n)))
/-- a half turn -/
structure HT2 (R U E : List Nat) (n t : Nat) (T : List Nat) : Prop where
  hom : Hom R U n t T
  nd : T.Nodup
  kp : Kp R U E T n = true
theorem Hom.uniq {R U : List Nat} {n t : Nat} {T T' : List Nat} (hc : Conn R U n) (b : Bq R U n) (h : Hom R U n t T) (h' : Hom R U n t T') : T = T' := by
  have lt : ∀ s, R0 R U s → 0 < n → s < n := fun s hs hn => by
    induction hs with
    | zero => exact hn
    | r _ ih => have := b.r.lt' (by rw [b.rl]; exact ih); rw [b.rl] at this; exact this
    | u _ ih => have := b.u.lt' (by rw [b.ul]; exact ih); rw [b.ul] at this; exact this
  refine List.ext_getElem (h.len.trans h'.len.symm) fun s h1 h2 => ?_
  rw [← at0_get h1, ← at0_get h2]
  have hs : s < n := by rw [← h.len]; exact h1
  have hn : 0 < n := by omega
  have hr := hc s hs
  clear h1 h2 hs
  induction hr with
  | zero => rw [h.t0, h'.t0]
  | r hr ih => rw [h.r _ (lt _ hr hn), h'.r _ (lt _ hr hn), ih]
  | u hr ih => rw [h.u _ (lt _ hr hn), h'.u _ (lt _ hr hn), ih]
open Classical in
/-- the half turn that takes square 0 to t -/
noncomputable def fT (R U E : List Nat) (n t : Nat) : Option (List Nat) := if h : ∃ T, HT2 R U E n t T then some h.choose else none
theorem fT_some {R U E : List Nat} {n t : Nat} {T : List Nat} (hc : Conn R U n) (b : Bq R U n) (h : HT2 R U E n t T) : fT R U E n t = some T := by
  unfold fT
  have hx : ∃ T, HT2 R U E n t T := ⟨T, h⟩
  rw [dif_pos hx]
  congr 1
  exact Hom.uniq hc b hx.choose_spec.hom h.hom
theorem fT_none {R U E : List Nat} {n t : Nat} (h : ∀ T, ¬ HT2 R U E n t T) : fT R U E n t = none := by
  unfold fT
  rw [dif_neg (fun ⟨T, hT⟩ => h T hT)]
theorem fT_spec {R U E : List Nat} {n t : Nat} {T : List Nat} (h : fT R U E n t = some T) : HT2 R U E n t T := by
  unfold fT at h
  split at h
  · rename_i hx
    cases h
    exact hx.choose_spec
  · cases h
noncomputable def turns (R U E : List Nat) (n m : Nat) : List (List Nat) := (List.range m).filterMap (fT R U E n)
theorem turns_succ (R U E : List Nat) (n m : Nat) : turns R U E n (m + 1) = turns R U E n m ++ (fT R U E n m).toList := by
  unfold turns
  rw [List.range_succ, List.filterMap_append]
  congr 1
  all_goals (show List.filterMap _ [m] = _; cases e : fT R U E n m <;> simp [e])
theorem turns_len (R U E : List Nat) (n m : Nat) : (turns R U E n m).length ≤ m := by
  have := List.length_filterMap_le (fT R U E n) (List.range m)
  rw [List.length_range] at this
  exact this
theorem turns_mem {R U E : List Nat} {n m : Nat} {T : List Nat} (h : T ∈ turns R U E n m) : ∃ t, t < m ∧ HT2 R U E n t T := by
  unfold turns at h
  obtain ⟨t, ht, e⟩ := List.mem_filterMap.mp h
  exact ⟨t, List.mem_range.mp ht, fT_spec e⟩
theorem perm_iN {mss : List (List Int)} {ps : List (List Nat)} (h : mss.Perm (ps.map iN)) : ∃ qs : List (List Nat), mss = qs.map iN ∧ qs.Perm ps := by
  have all : ∀ ms ∈ mss, ∃ p, ms = iN p := fun ms hm => by
    obtain ⟨p, _, e⟩ := List.mem_map.mp (h.mem_iff.mp hm)
    exact ⟨p, e.symm⟩
  let back : List Int → List Nat := fun l => l.map Int.toNat
  have hb : ∀ p, back (iN p) = p := fun p => by
    show (iN p).map Int.toNat = p
    unfold iN
    rw [List.map_map]
    have : p.map (Int.toNat ∘ fun (k : Nat) => (k : Int)) = p.map id := List.map_congr_left fun x _ => Int.toNat_natCast x
    rw [this, List.map_id]
  refine ⟨mss.map back, ?_, ?_⟩
  · rw [List.map_map]
    have : mss.map id = mss.map (iN ∘ back) := List.map_congr_left fun ms hm => by
      obtain ⟨p, rfl⟩ := all ms hm
      show iN p = iN (back (iN p))
      rw [hb]
    rw [← this, List.map_id]
  · have q := h.map back
    rw [List.map_map] at q
    have e : ps.map (back ∘ iN) = ps.map id := List.map_congr_left fun p _ => hb p
    rw [e, List.map_id] at q
    exact q
theorem tIs_iN (us : List (List Nat)) : (us.map iN).map tI = us.map tN := by rw [List.map_map]; rfl
def A_half_turns : DS := fun _ args k => ∃ (R U E : List Nat) (n : Nat), args = [.d (bd R U E)] ∧ Bq R U n ∧ 0 < n ∧ Conn R U n ∧ ∀ us : List (List Nat), us.Perm (turns R U E n n) → us.Pairwise (fun a b => TS.code 64 (iN a) ≤ TS.code 64 (iN b)) → k (.d (.tuple (us.map tN)))
/-- the keys that a row's dict has -/
def ksS (acc : List Nat) (x : Nat) : List Nat := if x ∈ acc then acc else acc ++ [x]
def ks (T : List Nat) : List Nat := T.foldl ksS []
theorem ks_len (T : List Nat) : ∀ acc : List Nat, (T.foldl ksS acc).length ≤ acc.length + T.length ∧ ((T.foldl ksS acc).length = acc.length + T.length ↔ T.Nodup ∧ ∀ x ∈ T, x ∉ acc) := by
  induction T with
  | nil => intro acc; simp
  | cons x T ih =>
    intro acc
    rw [List.foldl_cons]
    obtain ⟨h1, h2⟩ := ih (ksS acc x)
    unfold ksS at h1 h2 ⊢
    by_cases hx : x ∈ acc
    · rw [if_pos hx] at h1 h2 ⊢
      refine ⟨by rw [List.length_cons]; omega, fun e => ?_, fun ⟨_, h⟩ => absurd hx (h x (by simp))⟩
      rw [List.length_cons] at e
      omega
    · rw [if_neg hx] at h1 h2 ⊢
      rw [List.length_append, List.length_singleton] at h1 h2
      refine ⟨by rw [List.length_cons]; omega, ?_⟩
      rw [List.length_cons, show acc.length + (T.length + 1) = acc.length + 1 + T.length by omega, h2, List.nodup_cons]
      constructor
      · rintro ⟨a, b⟩
        refine ⟨⟨fun hm => b x hm (by simp), a⟩, fun y hy => ?_⟩
        rcases List.mem_cons.mp hy with e | hy
        · rw [e]; exact hx
        · exact fun hm => b y hy (List.mem_append_left _ hm)
      · rintro ⟨⟨a, b⟩, c⟩
        refine ⟨b, fun y hy hm => ?_⟩
        rcases List.mem_append.mp hm with hm | hm
        · exact c y (List.mem_cons_of_mem _ hy) hm
        · rw [List.mem_singleton.mp hm] at hy; exact a hy
theorem ks_nd (T : List Nat) : (ks T).length = T.length ↔ T.Nodup := by
  have := (ks_len T []).2
  rw [List.length_nil, Nat.zero_add] at this
  rw [ks, this]
  simp
def dS (l : List Nat) : List (Key × PyData) := l.map fun (x : Nat) => (Sum.inl (x : Int), .bool true)
theorem dS_any (l : List Nat) (x : Nat) : ((dS l).any fun kv => decide (kv.1 = Sum.inl (x : Int))) = decide (x ∈ l) := by
  induction l with
  | nil => rfl
  | cons y l ih =>
    unfold dS at ih ⊢
    rw [List.map_cons, List.any_cons, ih]
    by_cases h : y = x
    · subst h; simp
    · have h2 : ¬ (Sum.inl (y : Int) : Key) = Sum.inl (x : Int) := fun e => h (by injection e with e; omega)
      have h3 : ¬ x = y := fun e => h e.symm
      simp [h2, h3]
theorem putP_dS (l : List Nat) (x : Nat) : putP (dS l) (Sum.inl (x : Int)) (.bool true) = dS (ksS l x) := by
  unfold putP ksS
  rw [dS_any]
  by_cases h : x ∈ l
  · rw [if_pos (decide_eq_true h), if_pos h]
    unfold dS
    rw [List.map_map]
    refine List.map_congr_left fun y _ => ?_
    show (if _ then _ else _) = _
    split <;> rfl
  · rw [if_neg (by simpa using h), if_neg h]
    unfold dS
    rw [List.map_append]
    rfl
theorem ks_take {T : List Nat} {i : Nat} (h : i < T.length) : ks (T.take (i + 1)) = ksS (ks (T.take i)) (at0 T i) := by
  unfold ks
  rw [List.take_add_one, List.getElem?_eq_getElem h, List.foldl_append, at0_get h]
  rfl
theorem ws_half_turns : Goes Γ K 1 6 (t_half_turns Γ K A_turn_from A_keeps) A_half_turns := by
  rintro β args k ⟨R, U, E, n, rfl, b, hn, hc, hk⟩
  refine ⟨rfl, ?_⟩
  show WS _ _ _ _ [_, _, _, _, _, _] _
  unfold t_half_turns
  have n6 := b.n6
  walk_at "E"
  refine ws_for (wi_range1 ?_)
  walk_at "E"
  refine ⟨by rw [lN_length, b.rl]; omega, by omega, ?_⟩
  rw [lN_length, Int.toNat_natCast, b.rl]
  refine ⟨fun i ρ' => ∃ s3 s4, ρ' = [.d (bd R U E), .d (.int (n : Nat)), .ol ((turns R U E n i).map tN), s3, s4, .un], ⟨_, _, rfl⟩, ?_, ?_⟩
  · rintro i d ρ' hd ⟨s3, s4, rfl⟩
    obtain ⟨hi, rfl⟩ := rg0 hd
    walk_at "E"
    refine we_call ?_
    walk_at "E"
    refine ⟨_, fun r => ∃ x, r = .d x ∧ pure x = true ∧ ((∃ T, Hom R U n i T ∧ x = tN T) ∨ ((∀ T, ¬ Hom R U n i T) ∧ x = .tuple [])), rfl, ⟨R, U, E, n, i, rfl, b, hn, hi, hc, fun T hT => ⟨_, rfl, pure_tN _, .inl ⟨T, hT, rfl⟩⟩, fun h => ⟨_, rfl, rfl, .inr ⟨h, rfl⟩⟩⟩, ?_⟩
    rintro r ⟨x, rfl, hpx, hx⟩
    refine ⟨hpx, ?_⟩
    rcases hx with ⟨T, hT, rfl⟩ | ⟨hno, rfl⟩
    · walk_at "E"
      have hTn := hT.len
      have none_of : (¬ T.Nodup ∨ Kp R U E T n = false) → fT R U E n i = none := fun h => fT_none fun T' h' => by
        have e : T' = T := Hom.uniq hc b h'.hom hT
        subst e
        rcases h with h | h
        · exact h h'.nd
        · rw [h'.kp] at h; cases h
      have keep : fT R U E n i = none → turns R U E n (i + 1) = turns R U E n i := fun h => by rw [turns_succ, h]; simp
      refine wt_tru (we_d rfl ?_)
      refine ⟨lN T, .inr rfl, fun _ => ?_, fun hb => ?_⟩
      · walk_at "E"
        refine we_lenK ?_
        walk_at "E"
        refine we_dc (gown_name (by decide)) (wi_tup ?_)
        walk_at "E"
        refine ⟨unused_of rfl, by rw [lN_length]; omega, fun j acc => acc = dS (ks (T.take j)), rfl, ?_, ?_⟩
        · intro j d acc hd hacc hI
          have hj : j < T.length := by
            have := (List.getElem?_eq_some_iff.mp hd).1
            rw [lN_length] at this
            exact this
          rw [lN_get hj] at hd
          cases hd
          walk_at "E"
          refine ⟨weak_set rfl, wt_yes ⟨rfl, fun _ => ?_, fun h => by cases h⟩⟩
          walk_at "v"
          refine ⟨rfl, .inl (at0 T j : Int), rfl, ?_⟩
          walk_at "v"
          refine ⟨rfl, _, rfl, ?_⟩
          dsimp only
          rw [hI, putP_dS, ks_take hj]
        · intro acc hacc hl
          have e : acc = dS (ks (T.take (lN T).length)) := hacc
          rw [lN_length, List.take_length] at e
          subst e
          have hkl : ((dS (ks T)).length = n) ↔ T.Nodup := by
            unfold dS
            rw [List.length_map, ← ks_nd, hTn]
          walk_at "E"
          · rename_i h1
            rw [eqvI] at h1
            have hnd : T.Nodup := hkl.mp (by have := of_decide_eq_true h1; omega)
            refine we_callE ?_
            walk_at "E"
            refine ⟨_, _, rfl, ⟨R, U, E, T, n, rfl, b, hTn, hT.lt, rfl⟩, rfl, ?_⟩
            walk_at "E"
            · rename_i h2
              refine we_append ?_
              walk_at "E"
              have hl := turns_len R U E n i
              refine ⟨by rw [List.length_map]; omega, ?_⟩
              refine ⟨.d (.int (i : Nat)), .d (tN T), ?_⟩
              rw [turns_succ, fT_some hc b ⟨hT, hnd, h2⟩, List.map_append]
              rfl
            · rename_i h2
              refine ⟨.d (.int (i : Nat)), .d (tN T), ?_⟩
              rw [keep (none_of (.inr h2))]
              rfl
          · rename_i h1 _
            rw [eqvI] at h1
            have hnd : ¬ T.Nodup := fun h => by
              have h3 := hkl.mpr h
              rw [h3, decide_eq_true rfl] at h1
              cases h1
            refine ⟨.d (.int (i : Nat)), .d (tN T), ?_⟩
            rw [keep (none_of (.inl hnd))]
            rfl
      · have h0 : (lN T).isEmpty = true := by simpa using hb
        rw [List.isEmpty_iff] at h0
        have := congrArg List.length h0
        rw [lN_length, hTn] at this
        simp at this
        omega
    · walk_at "E"
      refine wt_tru (we_d rfl ?_)
      refine ⟨[], .inr rfl, ff_tt, fun _ => ?_⟩
      walk_at "E"
      refine ⟨.d (.int (i : Nat)), .d (.tuple []), ?_⟩
      rw [turns_succ, fT_none fun T' h' => hno T' h'.hom]
      simp
  · rintro ρ' ⟨s3, s4, rfl⟩
    rw [rgD_length]
    walk_at "E"
    refine we_sortedUE ?_
    walk_at "E"
    have hlen := turns_len R U E n n
    refine ⟨n, 64, hn, (turns R U E n n).map iN, by rw [tIs_iN]; rfl, by rw [List.length_map]; omega, fun ns hns => ?_, fun mss hm hs => ?_⟩
    · obtain ⟨T, hT, rfl⟩ := List.mem_map.mp hns
      obtain ⟨t, ht, h⟩ := turns_mem hT
      refine ⟨by rw [iN_length, h.hom.len], fun x hx => ?_⟩
      unfold iN at hx
      obtain ⟨z, hz, rfl⟩ := List.mem_map.mp hx
      have := h.hom.lt z hz
      omega
    · obtain ⟨qs, rfl, hp⟩ := perm_iN hm
      rw [tIs_iN]
      walk_at "E"
      rw [List.pairwise_map] at hs
      exact hk qs hp hs
end
end K74
end
/-! ## W74j -/
section
namespace K74
open PySem PySem.Spec PyProof.Rows L2 AB
/-- one step of a walk -/
local macro_rules | `(tactic| walk_at "v") => `(tactic| first
  | refine we_d rfl ?_ | refine we_ol rfl ?_ | refine we_oK rfl ?_ | refine we_oN rfl ?_ | refine we_ob rfl ?_ | refine we_rv rfl ?_ | refine we_int ?_ | refine we_bl ?_ | refine we_non ?_ | refine we_str ?_ | refine we_sI rfl ?_ | refine we_c (L2.GCn.dp (by assumption)) ?_ | refine we_cv ?_)
local macro_rules | `(tactic| walk_at "e") => `(tactic| first
  | walk_at "v" | with_reducible refine wa_nil ?_ | with_reducible refine wa_cons ?_ | with_reducible refine we_I0i ?_ | with_reducible refine we_I0b ?_ | with_reducible refine we_Ii ?_ | with_reducible refine we_eqD ?_ | with_reducible refine we_neD ?_ | with_reducible refine we_ix ?_ | with_reducible refine we_tup ?_ | with_reducible refine we_lst ?_ | with_reducible refine wt_test ?_ | with_reducible refine wt_B ?_ | with_reducible refine wt_not ?_ | with_reducible refine wt_and ?_ | with_reducible refine wt_or ?_ | with_reducible refine we_if ?_ | with_reducible refine we_andV ?_ | with_reducible refine we_orV ?_ | with_reducible refine we_notV ?_ | with_reducible refine we_neg ?_ | with_reducible refine we_chain ?_ | with_reducible refine we_slT ?_ | with_reducible refine wo_no ?_ | with_reducible refine wo_some ?_
  | with_reducible refine ws_seq ?_ | with_reducible refine ws_ret ?_ | with_reducible refine ws_asg2 (by decide) ?_ | with_reducible refine ws_asg ?_ | with_reducible refine ws_drop ?_ | with_reducible refine ws_if ?_ | with_reducible refine wg_d ?_ | with_reducible refine wg_ol ?_ | with_reducible refine wg_oK ?_ | with_reducible refine wgs_nil ?_ | with_reducible refine wgs_cons ?_  | with_reducible refine ws_next ?_ | with_reducible refine ws_par (by decide) ?_ | with_reducible refine ws_asg2 (by decide) ?_
  | with_reducible refine we_len ?_ | with_reducible refine we_isi ?_ | with_reducible refine we_gcdG ?_ | with_reducible refine we_fld ?_ | with_reducible refine we_tuple ?_ | with_reducible refine we_list ?_ | with_reducible refine we_inI ?_
  | refine wg_tup rfl ?_ | refine wgs_cons ?_ | refine wgs_nil ?_)
/-- what a step asks, where it is plain -/
local macro_rules | `(tactic| walk_at "c") => `(tactic| first
  | refine ⟨_, rfl, un_d, ?_⟩ | refine ⟨_, rfl, un_ol, ?_⟩ | refine ⟨_, rfl, un_oK, ?_⟩ | refine ⟨_, rfl, un_oN, ?_⟩ | refine ⟨_, rfl, un_rv, ?_⟩
  | refine ⟨true, rfl, fun _ => ?_, tt_ff⟩ | refine ⟨true, rfl, ff_tt, fun _ => ?_⟩ | refine ⟨false, rfl, ff_tt, fun _ => ?_⟩ | refine ⟨false, rfl, fun _ => ?_, tt_ff⟩
  | with_reducible refine ⟨_, rfl, fun _ => ?_, tt_ff⟩ | with_reducible refine ⟨_, rfl, ff_tt, fun _ => ?_⟩ | refine ⟨_, rfl, fun _ => ?_, fun _ => ?_⟩
  | with_reducible refine ⟨fun _ => ?_, tt_ff⟩ | with_reducible refine ⟨ff_tt, fun _ => ?_⟩ | with_reducible refine ⟨fun _ => ?_, fun _ => ?_⟩
  | refine ⟨_, _, rfl, rfl, fun _ => ?_, tt_ff⟩ | refine ⟨_, _, rfl, rfl, ff_tt, fun _ => ?_⟩ | refine ⟨_, _, rfl, rfl, fun _ => ?_, fun _ => ?_⟩
  | refine ⟨_, rfl, ?_⟩
  | refine ⟨_, _, rfl, fun _ _ => ?_⟩
  | refine ⟨_, _, rfl, al_d, al_d, ?_⟩ | refine ⟨_, _, rfl, al_oN, al_ol, ?_⟩ | refine ⟨_, _, rfl, al_oK, al_ol, ?_⟩ | refine ⟨_, _, rfl, al_ol, al_ol, ?_⟩ | refine ⟨_, _, rfl, al_d, al_ol, ?_⟩
  | refine ⟨_, _, rfl, rfl, rfl, rfl, ?_⟩
  | refine ⟨_, _, rfl, rfl, ?_⟩
  | refine ⟨_, _, rfl, _, true, rfl, rfl, ?_⟩ | refine ⟨_, _, rfl, _, false, rfl, rfl, ?_⟩
  | refine ⟨_, _, _, .inr rfl, rfl, rfl, ?_⟩
  | refine ⟨_, rfl, _, .inr rfl, ?_⟩ | refine ⟨_, .inr rfl, ?_⟩ | refine ⟨_, .inl rfl, ?_⟩
  | refine ⟨[_, _], rfl, Nat.le_of_ble_eq_true rfl, ?_⟩
  | refine ⟨[_, _, _], rfl, Nat.le_of_ble_eq_true rfl, ?_⟩
  | refine ⟨[_], rfl, Nat.le_of_ble_eq_true rfl, ?_⟩
  | refine ⟨[], rfl, Nat.le_of_ble_eq_true rfl, ?_⟩)
local macro_rules | `(tactic| walk_at "E") => `(tactic| repeat' first | walk_at "e" | walk_at "c" | fail)
section
variable {Γ : Wd} {K : PySem.W.Frag} {mg : Str → Option Value}
theorem ws_law_contrary_of : Goes Γ K 1 3 (t__law_contrary_of Γ K) A_contrary := by
  rintro β args k ⟨R, rfl, hp, hk⟩
  refine ⟨rfl, ?_⟩
  show WS _ _ _ _ [_, _, _] _
  unfold t__law_contrary_of
  have hle := hp.le
  walk_at "E"
  refine we_lc (gown_name (by decide)) (wi_tup ?_)
  walk_at "E"
  refine ⟨unused_of rfl, by rw [lN_length]; omega, fun i acc => acc = lN (List.replicate i 0), rfl, ?_, ?_⟩
  · intro i d acc hd hacc hI
    walk_at "E"
    refine ⟨weak_set rfl, wt_yes ⟨rfl, fun _ => ?_, fun h => by cases h⟩⟩
    walk_at "v"
    refine ⟨rfl, _, rfl, ?_⟩
    dsimp only
    rw [hI, List.replicate_succ', lN_append]
    rfl
  · intro acc hacc hl
    have e : acc = lN (List.replicate (lN R).length 0) := hacc
    rw [lN_length] at e
    subst e
    walk_at "E"
    refine ws_for (wi_range1 ?_)
    walk_at "E"
    refine ⟨by rw [lN_length]; omega, by omega, ?_⟩
    rw [lN_length, Int.toNat_natCast]
    refine ⟨fun i ρ' => ∃ (L : List Nat) (s1 : AV), ρ' = [.d (tN R), s1, .ol (lN L)] ∧ L.length = R.length ∧ ∀ k, k < i → k < R.length → at0 L (at0 R k) = k, ⟨_, _, rfl, List.length_replicate .., fun k h => absurd h (Nat.not_lt_zero _)⟩, ?_, ?_⟩
    · rintro i d ρ' hd ⟨L, s1, rfl, hl, hL⟩
      obtain ⟨hi, rfl⟩ := rg0 hd
      walk_at "E"
      refine wg_setL ?_
      walk_at "E"
      refine ⟨_, _, _, .inr rfl, rfl, atI_N (k := i) hi, ?_⟩
      refine ⟨_, _, _, rfl, rfl, ixN_nat (k := R.getD i 0) (by rw [lN_length, hl]; exact hp.lt' hi), ?_⟩
      rw [lN_set]
      refine ⟨_, _, rfl, by rw [List.length_set]; exact hl, fun k hk hkR => ?_⟩
      rw [at0_set (by rw [hl]; exact hp.lt' hi)]
      by_cases h : at0 R k = R.getD i 0
      · rw [if_pos h]
        exact (hp.inj hkR hi h).symm
      · rw [if_neg h]
        refine hL k ?_ hkR
        have : k ≠ i := fun e => h (by rw [e])
        omega
    · rintro ρ' ⟨L, s1, rfl, hl, hL⟩
      rw [rgD_length] at hL
      have e : L = inv R := inv_of hp hl fun k hk => hL k hk hk
      subst e
      walk_at "E"
      exact hk
def all4 (s : Nat) : List HP := [(s, false, false), (s, false, true), (s, true, false), (s, true, true)]
def hpk (E : List Nat) (h : HP) : Bool := h.2.1 || h.2.2 || decide (h.1 ∉ E)
theorem all4_row (s : Nat) (E : List Nat) : (all4 s).filter (hpk E) = hrow s E false ++ hrow s E true := by
  unfold all4 hpk hrow
  by_cases h : s ∈ E <;> simp [h]
def A_law_half_places : DS := fun _ args k => ∃ (R U E : List Nat), args = [.d (bd R U E)] ∧ R.length ≤ 6 ∧ k (.d (.tuple ((hpl R.length E).map hfq)))
theorem ws_law_half_places : Goes Γ K 1 5 (t__law_half_places Γ K) A_law_half_places := by
  rintro β args k ⟨R, U, E, rfl, h6, hk⟩
  refine ⟨rfl, ?_⟩
  show WS _ _ _ _ [_, _, _, _, _] _
  unfold t__law_half_places
  walk_at "E"
  refine ws_for (wi_range1 ?_)
  walk_at "E"
  refine ⟨by rw [lN_length]; omega, by omega, ?_⟩
  rw [lN_length, Int.toNat_natCast]
  refine ⟨fun i ρ' => ∃ s2 s3 s4, ρ' = [.d (bd R U E), .ol ((hpl i E).map hfq), s2, s3, s4], ⟨_, _, _, rfl⟩, ?_, ?_⟩
  · rintro i d ρ' hd ⟨s2, s3, s4, rfl⟩
    obtain ⟨hi, rfl⟩ := rg0 hd
    have hpn := hpl_len i E
    walk_at "E"
    refine ws_for (wi_list ?_)
    walk_at "E"
    refine ⟨[_, _, _, _], rfl, Nat.le_of_ble_eq_true rfl, .inr (.inl ⟨_, rfl, ?_⟩)⟩
    refine ⟨fun j ρ' => ∃ s3 s4, ρ' = [.d (bd R U E), .ol ((hpl i E ++ ((all4 i).take j).filter (hpk E)).map hfq), .d (.int (i : Nat)), s3, s4], ⟨s3, s4, by simp⟩, ?_, ?_⟩
    · rintro j d ρ' hd ⟨s3, s4, rfl⟩
      have pick : ∃ x y : Bool, d = .tuple [hf x, hf y] ∧ (all4 i)[j]? = some (i, x, y) := by
        match j, hd with
        | 0, hd => cases hd; exact ⟨false, false, rfl, rfl⟩
        | 1, hd => cases hd; exact ⟨false, true, rfl, rfl⟩
        | 2, hd => cases hd; exact ⟨true, false, rfl, rfl⟩
        | 3, hd => cases hd; exact ⟨true, true, rfl, rfl⟩
        | j + 4, hd => cases hd
      obtain ⟨x, y, rfl, hj⟩ := pick
      have hlen4 : (((all4 i).take j).filter (hpk E)).length ≤ 4 := by
        have h1 := List.length_filter_le (hpk E) ((all4 i).take j)
        have h2 := List.length_take_le' j (all4 i)
        have h3 : (all4 i).length = 4 := rfl
        omega
      have next : ∀ (b : Bool) , hpk E (i, x, y) = b → ((all4 i).take (j + 1)).filter (hpk E) = ((all4 i).take j).filter (hpk E) ++ (if b then [(i, x, y)] else []) := fun b hb => by rw [take_filter_succ hj, hb]
      cases x <;> cases y
      · walk_at "E"
        refine ⟨_, iN E, rfl, .inr rfl, _, rfl, fun hb => ?_, fun hb => ?_⟩
        · have he : i ∉ E := by simpa [mem_iN] using hb
          walk_at "E"
          refine we_append ?_
          walk_at "E"
          refine ⟨by rw [List.length_map, List.length_append]; omega, ?_⟩
          refine ⟨.d (hf false), .d (hf false), ?_⟩
          rw [next true (by simp [hpk, he])]
          simp only [List.map_append]
          simp
        · have he : i ∈ E := by simpa [mem_iN] using hb
          walk_at "E"
          refine ⟨.d (hf false), .d (hf false), ?_⟩
          rw [next false (by simp [hpk, he])]
          simp
      · walk_at "E"
        refine we_append ?_
        walk_at "E"
        refine ⟨by rw [List.length_map, List.length_append]; omega, ?_⟩
        refine ⟨.d (hf false), .d (hf true), ?_⟩
        rw [next true rfl]
        simp only [List.map_append]
        simp
      · walk_at "E"
        refine we_append ?_
        walk_at "E"
        refine ⟨by rw [List.length_map, List.length_append]; omega, ?_⟩
        refine ⟨.d (hf true), .d (hf false), ?_⟩
        rw [next true rfl]
        simp only [List.map_append]
        simp
      · walk_at "E"
        refine we_append ?_
        walk_at "E"
        refine ⟨by rw [List.length_map, List.length_append]; omega, ?_⟩
        refine ⟨.d (hf true), .d (hf true), ?_⟩
        rw [next true rfl]
        simp only [List.map_append]
        simp
    · rintro ρ' ⟨s3, s4, rfl⟩
      refine ⟨.d (.int (i : Nat)), s3, s4, ?_⟩
      show [_, AV.ol ((hpl i E ++ ((all4 i).take 4).filter (hpk E)).map hfq), _, _, _] = _
      rw [show ((all4 i).take 4).filter (hpk E) = hrow i E false ++ hrow i E true from all4_row i E, hpl_succ]
  · rintro ρ' ⟨s2, s3, s4, rfl⟩
    rw [rgD_length]
    walk_at "E"
    exact hk
end
end K74
end
/-! ## W74k -/
section
namespace K74
open PySem PySem.Spec PyProof.Rows L2 AB
/-- one step of a walk -/
local macro_rules | `(tactic| walk_at "v") => `(tactic| first
  | refine we_d rfl ?_ | refine we_ol rfl ?_ | refine we_oK rfl ?_ | refine we_oN rfl ?_ | refine we_ob rfl ?_ | refine we_rv rfl ?_ | refine we_int ?_ | refine we_bl ?_ | refine we_non ?_ | refine we_str ?_ | refine we_sI rfl ?_ | refine we_c (L2.GCn.dp (by assumption)) ?_ | refine we_cv ?_)
local macro_rules | `(tactic| walk_at "e") => `(tactic| first
  | walk_at "v" | with_reducible refine wa_nil ?_ | with_reducible refine wa_cons ?_ | with_reducible refine we_I0i ?_ | with_reducible refine we_I0b ?_ | with_reducible refine we_Ii ?_ | with_reducible refine we_eqD ?_ | with_reducible refine we_neD ?_ | with_reducible refine we_ix ?_ | with_reducible refine we_tup ?_ | with_reducible refine we_lst ?_ | with_reducible refine wt_test ?_ | with_reducible refine wt_B ?_ | with_reducible refine wt_not ?_ | with_reducible refine wt_and ?_ | with_reducible refine wt_or ?_ | with_reducible refine we_if ?_ | with_reducible refine we_andV ?_ | with_reducible refine we_orV ?_ | with_reducible refine we_notV ?_ | with_reducible refine we_neg ?_ | with_reducible refine we_chain ?_ | with_reducible refine we_slT ?_ | with_reducible refine wo_no ?_ | with_reducible refine wo_some ?_
  | with_reducible refine ws_seq ?_ | with_reducible refine ws_ret ?_ | with_reducible refine ws_asg2 (by decide) ?_ | with_reducible refine ws_asg ?_ | with_reducible refine ws_drop ?_ | with_reducible refine ws_if ?_ | with_reducible refine wg_d ?_ | with_reducible refine wg_ol ?_ | with_reducible refine wg_oK ?_ | with_reducible refine wgs_nil ?_ | with_reducible refine wgs_cons ?_  | with_reducible refine ws_next ?_ | with_reducible refine ws_par (by decide) ?_ | with_reducible refine ws_asg2 (by decide) ?_
  | with_reducible refine we_len ?_ | with_reducible refine we_isi ?_ | with_reducible refine we_gcdG ?_ | with_reducible refine we_fld ?_ | with_reducible refine we_tuple ?_ | with_reducible refine we_list ?_ | with_reducible refine we_inI ?_
  | refine wg_tup rfl ?_ | refine wgs_cons ?_ | refine wgs_nil ?_)
/-- what a step asks, where it is plain -/
local macro_rules | `(tactic| walk_at "c") => `(tactic| first
  | refine ⟨_, rfl, un_d, ?_⟩ | refine ⟨_, rfl, un_ol, ?_⟩ | refine ⟨_, rfl, un_oK, ?_⟩ | refine ⟨_, rfl, un_oN, ?_⟩ | refine ⟨_, rfl, un_rv, ?_⟩
  | refine ⟨true, rfl, fun _ => ?_, tt_ff⟩ | refine ⟨true, rfl, ff_tt, fun _ => ?_⟩ | refine ⟨false, rfl, ff_tt, fun _ => ?_⟩ | refine ⟨false, rfl, fun _ => ?_, tt_ff⟩
  | with_reducible refine ⟨_, rfl, fun _ => ?_, tt_ff⟩ | with_reducible refine ⟨_, rfl, ff_tt, fun _ => ?_⟩ | refine ⟨_, rfl, fun _ => ?_, fun _ => ?_⟩
  | with_reducible refine ⟨fun _ => ?_, tt_ff⟩ | with_reducible refine ⟨ff_tt, fun _ => ?_⟩ | with_reducible refine ⟨fun _ => ?_, fun _ => ?_⟩
  | refine ⟨_, _, rfl, rfl, fun _ => ?_, tt_ff⟩ | refine ⟨_, _, rfl, rfl, ff_tt, fun _ => ?_⟩ | refine ⟨_, _, rfl, rfl, fun _ => ?_, fun _ => ?_⟩
  | refine ⟨_, rfl, ?_⟩
  | refine ⟨_, _, rfl, fun _ _ => ?_⟩
  | refine ⟨_, _, rfl, al_d, al_d, ?_⟩ | refine ⟨_, _, rfl, al_oN, al_ol, ?_⟩ | refine ⟨_, _, rfl, al_oK, al_ol, ?_⟩ | refine ⟨_, _, rfl, al_ol, al_ol, ?_⟩ | refine ⟨_, _, rfl, al_d, al_ol, ?_⟩
  | refine ⟨_, _, rfl, rfl, rfl, rfl, ?_⟩
  | refine ⟨_, _, rfl, rfl, ?_⟩
  | refine ⟨_, _, rfl, _, true, rfl, rfl, ?_⟩ | refine ⟨_, _, rfl, _, false, rfl, rfl, ?_⟩
  | refine ⟨_, _, _, .inr rfl, rfl, rfl, ?_⟩
  | refine ⟨_, rfl, _, .inr rfl, ?_⟩ | refine ⟨_, .inr rfl, ?_⟩ | refine ⟨_, .inl rfl, ?_⟩
  | refine ⟨[_, _], rfl, Nat.le_of_ble_eq_true rfl, ?_⟩
  | refine ⟨[_, _, _], rfl, Nat.le_of_ble_eq_true rfl, ?_⟩
  | refine ⟨[_], rfl, Nat.le_of_ble_eq_true rfl, ?_⟩
  | refine ⟨[], rfl, Nat.le_of_ble_eq_true rfl, ?_⟩)
local macro_rules | `(tactic| walk_at "E") => `(tactic| repeat' first | walk_at "e" | walk_at "c" | fail)
section
variable {Γ : Wd} {K : PySem.W.Frag} {mg : Str → Option Value}
theorem Bq.at {R U : List Nat} {n : Nat} (b : Bq R U n) {k : Nat} (h : k < n) : at0 R k < n ∧ at0 U k < n ∧ at0 (inv R) k < n ∧ at0 (inv U) k < n := by
  have h1 := b.r.lt' (k := k) (by rw [b.rl]; exact h)
  have h2 := b.u.lt' (k := k) (by rw [b.ul]; exact h)
  have h3 := inv_lt b.r (j := k) (by rw [b.rl]; exact h)
  have h4 := inv_lt b.u (j := k) (by rw [b.ul]; exact h)
  rw [b.rl] at h1 h3
  rw [b.ul] at h2 h4
  exact ⟨h1, h2, h3, h4⟩
def isEnd (R U : List Nat) (k : Nat) : Bool := !decide (at0 U (at0 R (at0 (inv U) (at0 (inv R) k))) = k)
def A_law_ends : DS := fun _ args k => ∃ (R U : List Nat) (n : Nat), args = [.d (tN R), .d (tN U)] ∧ Bq R U n ∧ k (.d (tN ((List.range n).filter (isEnd R U))))
theorem ws_law_ends : Goes Γ K 2 5 (t__law_ends Γ K A_contrary) A_law_ends := by
  rintro β args k ⟨R, U, n, rfl, b, hk⟩
  refine ⟨rfl, ?_⟩
  show WS _ _ _ _ [_, _, _, _, _] _
  unfold t__law_ends
  have n6 := b.n6
  walk_at "E"
  refine we_callE ?_
  walk_at "E"
  refine ⟨_, _, rfl, ⟨R, rfl, b.r, rfl⟩, pure_tN _, ?_⟩
  walk_at "E"
  refine we_callE ?_
  walk_at "E"
  refine ⟨_, _, rfl, ⟨U, rfl, b.u, rfl⟩, pure_tN _, ?_⟩
  walk_at "E"
  refine we_lc (gown_name (by decide)) (wi_range1 ?_)
  walk_at "E"
  refine ⟨by rw [lN_length, b.rl]; omega, by omega, ?_⟩
  rw [lN_length, Int.toNat_natCast, b.rl]
  refine ⟨unused_of rfl, by rw [rgD_length]; omega, fun i acc => acc = lN (((List.range n).take i).filter (isEnd R U)), rfl, ?_, ?_⟩
  · intro i d acc hd hacc hI
    obtain ⟨hi, rfl⟩ := rg0 hd
    have e : (List.range n)[i]? = some i := by rw [List.getElem?_range hi]
    have h1 := (b.at hi).2.2.1
    have h2 := (b.at h1).2.2.2
    have h3 := (b.at h2).1
    walk_at "E"
    refine ⟨weak_set rfl, ?_⟩
    walk_at "E"
    refine ⟨_, _, _, .inr rfl, rfl, atI_N (k := i) (by rw [inv_length, b.rl]; exact hi), ?_⟩
    walk_at "E"
    refine ⟨_, _, _, .inr rfl, rfl, atI_N (k := at0 (inv R) i) (by rw [inv_length, b.ul]; exact h1), ?_⟩
    walk_at "E"
    refine ⟨_, _, _, .inr rfl, rfl, atI_N (k := at0 (inv U) (at0 (inv R) i)) (by rw [b.rl]; exact h2), ?_⟩
    walk_at "E"
    refine ⟨_, _, _, .inr rfl, rfl, atI_N (k := at0 R (at0 (inv U) (at0 (inv R) i))) (by rw [b.ul]; exact h3), ?_⟩
    walk_at "v"
    refine ⟨_, _, rfl, rfl, rfl, rfl, _, rfl, rfl, fun hb => ?_, fun hb => ?_⟩
    · walk_at "v"
      refine ⟨rfl, _, rfl, ?_⟩
      dsimp only
      rw [eqvI] at hb
      have he : isEnd R U i = true := by
        unfold isEnd
        rw [← hb]
        congr 1
        rw [decide_eq_decide]
        exact Int.ofNat_inj.symm
      rw [take_filter_succ e, hI, he, lN_append]
      rfl
    · dsimp only
      rw [eqvI] at hb
      have he : isEnd R U i = false := by
        unfold isEnd
        rw [← hb]
        congr 1
        rw [decide_eq_decide]
        exact Int.ofNat_inj.symm
      rw [take_filter_succ e, hI, he]
      simp
  · intro acc hacc hl
    have e : acc = lN (((List.range n).take (rgD 0 1 n).length).filter (isEnd R U)) := hacc
    rw [rgD_length, List.take_of_length_le (by simp)] at e
    subst e
    walk_at "E"
    exact hk
end
end K74
end
/-! ## W74l -/
section
namespace K74
open PySem PySem.Spec PyProof.Rows L2 AB
/-- one step of a walk -/
local macro_rules | `(tactic| walk_at "v") => `(tactic| first
  | refine we_d rfl ?_ | refine we_ol rfl ?_ | refine we_oK rfl ?_ | refine we_oN rfl ?_ | refine we_ob rfl ?_ | refine we_rv rfl ?_ | refine we_int ?_ | refine we_bl ?_ | refine we_non ?_ | refine we_str ?_ | refine we_sI rfl ?_ | refine we_c (L2.GCn.dp (by assumption)) ?_ | refine we_cv ?_)
local macro_rules | `(tactic| walk_at "e") => `(tactic| first
  | walk_at "v" | with_reducible refine wa_nil ?_ | with_reducible refine wa_cons ?_ | with_reducible refine we_I0i ?_ | with_reducible refine we_I0b ?_ | with_reducible refine we_Ii ?_ | with_reducible refine we_eqD ?_ | with_reducible refine we_neD ?_ | with_reducible refine we_ix ?_ | with_reducible refine we_tup ?_ | with_reducible refine we_lst ?_ | with_reducible refine wt_test ?_ | with_reducible refine wt_B ?_ | with_reducible refine wt_not ?_ | with_reducible refine wt_and ?_ | with_reducible refine wt_or ?_ | with_reducible refine we_if ?_ | with_reducible refine we_andV ?_ | with_reducible refine we_orV ?_ | with_reducible refine we_notV ?_ | with_reducible refine we_neg ?_ | with_reducible refine we_chain ?_ | with_reducible refine we_slT ?_ | with_reducible refine wo_no ?_ | with_reducible refine wo_some ?_
  | with_reducible refine ws_seq ?_ | with_reducible refine ws_ret ?_ | with_reducible refine ws_asg2 (by decide) ?_ | with_reducible refine ws_asg ?_ | with_reducible refine ws_drop ?_ | with_reducible refine ws_if ?_ | with_reducible refine wg_d ?_ | with_reducible refine wg_ol ?_ | with_reducible refine wg_oK ?_ | with_reducible refine wgs_nil ?_ | with_reducible refine wgs_cons ?_  | with_reducible refine ws_next ?_ | with_reducible refine ws_par (by decide) ?_ | with_reducible refine ws_asg2 (by decide) ?_
  | with_reducible refine we_len ?_ | with_reducible refine we_isi ?_ | with_reducible refine we_gcdG ?_ | with_reducible refine we_fld ?_ | with_reducible refine we_tuple ?_ | with_reducible refine we_list ?_ | with_reducible refine we_inI ?_
  | refine wg_tup rfl ?_ | refine wgs_cons ?_ | refine wgs_nil ?_)
/-- what a step asks, where it is plain -/
local macro_rules | `(tactic| walk_at "c") => `(tactic| first
  | refine ⟨_, rfl, un_d, ?_⟩ | refine ⟨_, rfl, un_ol, ?_⟩ | refine ⟨_, rfl, un_oK, ?_⟩ | refine ⟨_, rfl, un_oN, ?_⟩ | refine ⟨_, rfl, un_rv, ?_⟩
  | refine ⟨true, rfl, fun _ => ?_, tt_ff⟩ | refine ⟨true, rfl, ff_tt, fun _ => ?_⟩ | refine ⟨false, rfl, ff_tt, fun _ => ?_⟩ | refine ⟨false, rfl, fun _ => ?_, tt_ff⟩
  | with_reducible refine ⟨_, rfl, fun _ => ?_, tt_ff⟩ | with_reducible refine ⟨_, rfl, ff_tt, fun _ => ?_⟩ | refine ⟨_, rfl, fun _ => ?_, fun _ => ?_⟩
  | with_reducible refine ⟨fun _ => ?_, tt_ff⟩ | with_reducible refine ⟨ff_tt, fun _ => ?_⟩ | with_reducible refine ⟨fun _ => ?_, fun _ => ?_⟩
  | refine ⟨_, _, rfl, rfl, fun _ => ?_, tt_ff⟩ | refine ⟨_, _, rfl, rfl, ff_tt, fun _ => ?_⟩ | refine ⟨_, _, rfl, rfl, fun _ => ?_, fun _ => ?_⟩
  | refine ⟨_, rfl, ?_⟩
  | refine ⟨_, _, rfl, fun _ _ => ?_⟩
  | refine ⟨_, _, rfl, al_d, al_d, ?_⟩ | refine ⟨_, _, rfl, al_oN, al_ol, ?_⟩ | refine ⟨_, _, rfl, al_oK, al_ol, ?_⟩ | refine ⟨_, _, rfl, al_ol, al_ol, ?_⟩ | refine ⟨_, _, rfl, al_d, al_ol, ?_⟩
  | refine ⟨_, _, rfl, rfl, rfl, rfl, ?_⟩
  | refine ⟨_, _, rfl, rfl, ?_⟩
  | refine ⟨_, _, rfl, _, true, rfl, rfl, ?_⟩ | refine ⟨_, _, rfl, _, false, rfl, rfl, ?_⟩
  | refine ⟨_, _, _, .inr rfl, rfl, rfl, ?_⟩
  | refine ⟨_, rfl, _, .inr rfl, ?_⟩ | refine ⟨_, .inr rfl, ?_⟩ | refine ⟨_, .inl rfl, ?_⟩
  | refine ⟨[_, _], rfl, Nat.le_of_ble_eq_true rfl, ?_⟩
  | refine ⟨[_, _, _], rfl, Nat.le_of_ble_eq_true rfl, ?_⟩
  | refine ⟨[_], rfl, Nat.le_of_ble_eq_true rfl, ?_⟩
  | refine ⟨[], rfl, Nat.le_of_ble_eq_true rfl, ?_⟩)
local macro_rules | `(tactic| walk_at "E") => `(tactic| repeat' first | walk_at "e" | walk_at "c" | fail)
/-- a row of the numbers below m, each once -/
structure Pl (L : List Nat) (m : Nat) : Prop where
  len : L.length = m
  nd : L.Nodup
  lt : ∀ x ∈ L, x < m
def swp (L : List Nat) (i j : Nat) : List Nat := (L.set i (at0 L j)).set j (at0 L i)
theorem at0_swp {L : List Nat} {i j : Nat} (hi : i < L.length) (hj : j < L.length) (x : Nat) : at0 (swp L i j) x = if x = j then at0 L i else if x = i then at0 L j else at0 L x := by
  unfold swp
  rw [at0_set (by rw [List.length_set]; exact hj), at0_set hi]
theorem Pl.swp {L : List Nat} {m i j : Nat} (h : Pl L m) (hi : i < m) (hj : j < m) : Pl (K74.swp L i j) m := by
  have hl : (K74.swp L i j).length = L.length := by unfold K74.swp; rw [List.length_set, List.length_set]
  have hi' : i < L.length := by rw [h.len]; exact hi
  have hj' : j < L.length := by rw [h.len]; exact hj
  have inj : ∀ x y, x < L.length → y < L.length → at0 L x = at0 L y → x = y := fun x y hx hy e => by
    rw [at0_get hx, at0_get hy] at e
    have hp := List.pairwise_iff_getElem.mp h.nd
    rcases Nat.lt_trichotomy x y with z | z | z
    · exact absurd e (hp x y hx hy z)
    · exact z
    · exact absurd e.symm (hp y x hy hx z)
  refine ⟨hl.trans h.len, nodup_of_inj fun x y hx hy e => ?_, fun z hz => ?_⟩
  · rw [hl] at hx hy
    have sg : ∀ x, at0 (K74.swp L i j) x = at0 L (if x = j then i else if x = i then j else x) := fun x => by
      rw [at0_swp hi' hj']
      split
      · rfl
      · split <;> rfl
    rw [sg, sg] at e
    have q := inj _ _ (by split <;> (try split) <;> assumption) (by split <;> (try split) <;> assumption) e
    by_cases x1 : x = j
    · rw [if_pos x1] at q
      by_cases y1 : y = j
      · omega
      · rw [if_neg y1] at q
        by_cases y2 : y = i
        · rw [if_pos y2] at q; omega
        · rw [if_neg y2] at q; omega
    · rw [if_neg x1] at q
      by_cases x2 : x = i
      · rw [if_pos x2] at q
        by_cases y1 : y = j
        · rw [if_pos y1] at q; omega
        · rw [if_neg y1] at q
          by_cases y2 : y = i
          · omega
          · rw [if_neg y2] at q; omega
      · rw [if_neg x2] at q
        by_cases y1 : y = j
        · rw [if_pos y1] at q; omega
        · rw [if_neg y1] at q
          by_cases y2 : y = i
          · rw [if_pos y2] at q; omega
          · rw [if_neg y2] at q; omega
  · obtain ⟨x, hx, rfl⟩ := List.getElem_of_mem hz
    rw [← at0_get hx, at0_swp hi' hj']
    rw [hl] at hx
    split
    · exact h.lt _ (at0_mem hi')
    · split
      · exact h.lt _ (at0_mem hj')
      · exact h.lt _ (at0_mem hx)
section
variable {Γ : Wd} {K : PySem.W.Frag} {mg : Str → Option Value}
def A_shuffle : DS := fun β args k => ∃ (b : Addr) (m : Nat), β = some b ∧ args = [.rv (.ref b), .d (.int (m : Nat))] ∧ 0 < m ∧ m ≤ 6 ∧ ∀ L, Pl L m → k (.ol (lN L))
theorem ws_law_shuffle : Goes Γ K 2 5 (t__law_shuffle Γ K ADraw) A_shuffle := by
  rintro β args k ⟨b, m, rfl, rfl, hm, h6, hk⟩
  refine ⟨rfl, ?_⟩
  show WS _ _ _ _ [_, _, _, _, _] _
  unfold t__law_shuffle
  walk_at "E"
  refine we_listRg1 ?_
  walk_at "E"
  refine ⟨by omega, by omega, ?_⟩
  rw [Int.toNat_natCast, rgD0_lN]
  walk_at "E"
  refine ws_for (wi_range3 ?_)
  walk_at "E"
  refine ⟨_, _, _, m - 1, rfl, ?_, ?_⟩
  · have h := RgC.neg (i := (m : Int) - 1) (j := 0) (by omega) (by omega) (by omega) (by omega)
    rwa [show ((m : Int) - 1 - 0).toNat = m - 1 by omega] at h
  refine ⟨fun i ρ' => ∃ (L : List Nat) (s3 s4 : AV), ρ' = [.rv (.ref b), .d (.int (m : Nat)), .ol (lN L), s3, s4] ∧ Pl L m, ⟨_, _, _, rfl, ⟨by simp, List.nodup_range, fun x hx => List.mem_range.mp hx⟩⟩, ?_, ?_⟩
  · rintro i d ρ' hd ⟨L, s3, s4, rfl, hL⟩
    obtain ⟨hi, rfl⟩ := rgD_get.mp hd
    have e : ((m : Int) - 1 + (i : Nat) * (-1)) = ((m - 1 - i : Nat) : Int) := by omega
    rw [e]
    walk_at "E"
    refine we_call ?_
    walk_at "E"
    refine ⟨_, fun r => ∃ j : Nat, j < m - 1 - i + 1 ∧ r = .d (.int (j : Nat)), rfl, ⟨b, _, rfl, rfl, by omega, fun z h0 h1 => ⟨z.toNat, by omega, by rw [Int.toNat_of_nonneg h0]⟩⟩, ?_⟩
    rintro r ⟨j, hj, rfl⟩
    refine ⟨rfl, ?_⟩
    have hk1 : m - 1 - i < m := by omega
    have hj1 : j < m := by omega
    walk_at "E"
    refine ⟨_, _, _, .inl rfl, rfl, atI_N (k := j) (by rw [hL.len]; exact hj1), ?_⟩
    walk_at "E"
    refine ⟨_, _, _, .inl rfl, rfl, atI_N (k := m - 1 - i) (by rw [hL.len]; exact hk1), ?_⟩
    walk_at "E"
    refine wg_setL ?_
    walk_at "E"
    refine ⟨_, _, _, rfl, rfl, ixN_nat (k := m - 1 - i) (by rw [lN_length, hL.len]; exact hk1), ?_⟩
    rw [lN_set]
    walk_at "E"
    refine wg_setL ?_
    walk_at "E"
    refine ⟨_, _, _, rfl, rfl, ixN_nat (k := j) (by rw [lN_length, List.length_set, hL.len]; exact hj1), ?_⟩
    rw [lN_set]
    walk_at "E"
    exact ⟨_, _, _, rfl, hL.swp hk1 hj1⟩
  · rintro ρ' ⟨L, s3, s4, rfl, hL⟩
    walk_at "E"
    exact hk L hL
end
end K74
end
/-! ## W74m -/
section
namespace K74
open PySem PySem.Spec PyProof.Rows L2 AB
/-- one step of a walk -/
local macro_rules | `(tactic| walk_at "v") => `(tactic| first
  | refine we_d rfl ?_ | refine we_ol rfl ?_ | refine we_oK rfl ?_ | refine we_oN rfl ?_ | refine we_ob rfl ?_ | refine we_rv rfl ?_ | refine we_int ?_ | refine we_bl ?_ | refine we_non ?_ | refine we_str ?_ | refine we_sI rfl ?_ | refine we_c (L2.GCn.dp (by assumption)) ?_ | refine we_cv ?_)
local macro_rules | `(tactic| walk_at "e") => `(tactic| first
  | walk_at "v" | with_reducible refine wa_nil ?_ | with_reducible refine wa_cons ?_ | with_reducible refine we_I0i ?_ | with_reducible refine we_I0b ?_ | with_reducible refine we_Ii ?_ | with_reducible refine we_eqD ?_ | with_reducible refine we_neD ?_ | with_reducible refine we_ix ?_ | with_reducible refine we_tup ?_ | with_reducible refine we_lst ?_ | with_reducible refine wt_test ?_ | with_reducible refine wt_B ?_ | with_reducible refine wt_not ?_ | with_reducible refine wt_and ?_ | with_reducible refine wt_or ?_ | with_reducible refine we_if ?_ | with_reducible refine we_andV ?_ | with_reducible refine we_orV ?_ | with_reducible refine we_notV ?_ | with_reducible refine we_neg ?_ | with_reducible refine we_chain ?_ | with_reducible refine we_slT ?_ | with_reducible refine wo_no ?_ | with_reducible refine wo_some ?_
  | with_reducible refine ws_seq ?_ | with_reducible refine ws_ret ?_ | with_reducible refine ws_asg2 (by decide) ?_ | with_reducible refine ws_asg ?_ | with_reducible refine ws_drop ?_ | with_reducible refine ws_if ?_ | with_reducible refine wg_d ?_ | with_reducible refine wg_ol ?_ | with_reducible refine wg_oK ?_ | with_reducible refine wgs_nil ?_ | with_reducible refine wgs_cons ?_  | with_reducible refine ws_next ?_ | with_reducible refine ws_par (by decide) ?_ | with_reducible refine ws_asg2 (by decide) ?_
  | with_reducible refine we_len ?_ | with_reducible refine we_isi ?_ | with_reducible refine we_gcdG ?_ | with_reducible refine we_fld ?_ | with_reducible refine we_tuple ?_ | with_reducible refine we_list ?_ | with_reducible refine we_inI ?_
  | refine wg_tup rfl ?_ | refine wgs_cons ?_ | refine wgs_nil ?_)
/-- what a step asks, where it is plain -/
local macro_rules | `(tactic| walk_at "c") => `(tactic| first
  | refine ⟨_, rfl, un_d, ?_⟩ | refine ⟨_, rfl, un_ol, ?_⟩ | refine ⟨_, rfl, un_oK, ?_⟩ | refine ⟨_, rfl, un_oN, ?_⟩ | refine ⟨_, rfl, un_rv, ?_⟩
  | refine ⟨true, rfl, fun _ => ?_, tt_ff⟩ | refine ⟨true, rfl, ff_tt, fun _ => ?_⟩ | refine ⟨false, rfl, ff_tt, fun _ => ?_⟩ | refine ⟨false, rfl, fun _ => ?_, tt_ff⟩
  | with_reducible refine ⟨_, rfl, fun _ => ?_, tt_ff⟩ | with_reducible refine ⟨_, rfl, ff_tt, fun _ => ?_⟩ | refine ⟨_, rfl, fun _ => ?_, fun _ => ?_⟩
  | with_reducible refine ⟨fun _ => ?_, tt_ff⟩ | with_reducible refine ⟨ff_tt, fun _ => ?_⟩ | with_reducible refine ⟨fun _ => ?_, fun _ => ?_⟩
  | refine ⟨_, _, rfl, rfl, fun _ => ?_, tt_ff⟩ | refine ⟨_, _, rfl, rfl, ff_tt, fun _ => ?_⟩ | refine ⟨_, _, rfl, rfl, fun _ => ?_, fun _ => ?_⟩
  | refine ⟨_, rfl, ?_⟩
  | refine ⟨_, _, rfl, fun _ _ => ?_⟩
  | refine ⟨_, _, rfl, al_d, al_d, ?_⟩ | refine ⟨_, _, rfl, al_oN, al_ol, ?_⟩ | refine ⟨_, _, rfl, al_oK, al_ol, ?_⟩ | refine ⟨_, _, rfl, al_ol, al_ol, ?_⟩ | refine ⟨_, _, rfl, al_d, al_ol, ?_⟩
  | refine ⟨_, _, rfl, rfl, rfl, rfl, ?_⟩
  | refine ⟨_, _, rfl, rfl, ?_⟩
  | refine ⟨_, _, rfl, _, true, rfl, rfl, ?_⟩ | refine ⟨_, _, rfl, _, false, rfl, rfl, ?_⟩
  | refine ⟨_, _, _, .inr rfl, rfl, rfl, ?_⟩
  | refine ⟨_, rfl, _, .inr rfl, ?_⟩ | refine ⟨_, .inr rfl, ?_⟩ | refine ⟨_, .inl rfl, ?_⟩
  | refine ⟨[_, _], rfl, Nat.le_of_ble_eq_true rfl, ?_⟩
  | refine ⟨[_, _, _], rfl, Nat.le_of_ble_eq_true rfl, ?_⟩
  | refine ⟨[_], rfl, Nat.le_of_ble_eq_true rfl, ?_⟩
  | refine ⟨[], rfl, Nat.le_of_ble_eq_true rfl, ?_⟩)
local macro_rules | `(tactic| walk_at "E") => `(tactic| repeat' first | walk_at "e" | walk_at "c" | fail)
/-! ### what is reached from square 0 -/
/-- found so far: the first i were followed -/
structure Fq (R U : List Nat) (n i : Nat) (L : List Nat) : Prop where
  nd : L.Nodup
  lt : ∀ x ∈ L, x < n
  r0 : ∀ x ∈ L, R0 R U x
  z : 0 ∈ L
  cl : ∀ m, m < i → m < L.length → at0 R (at0 L m) ∈ L ∧ at0 U (at0 L m) ∈ L
theorem Fq.len {R U : List Nat} {n i : Nat} {L : List Nat} (h : Fq R U n i L) : L.length ≤ n := by
  have q := nodup_sub_len (l := L) (m := List.range n) h.nd fun x hx => List.mem_range.mpr (h.lt x hx)
  rw [List.length_range] at q
  exact q
theorem Fq.done {R U : List Nat} {n : Nat} {L : List Nat} (h : Fq R U n n L) (x : Nat) : x ∈ L ↔ R0 R U x := by
  refine ⟨h.r0 x, fun hx => ?_⟩
  have step : ∀ y, y ∈ L → at0 R y ∈ L ∧ at0 U y ∈ L := fun y hy => by
    obtain ⟨m, hm, e⟩ := List.getElem_of_mem hy
    have := h.cl m (Nat.lt_of_lt_of_le hm h.len) hm
    rw [at0_get hm, e] at this
    exact this
  induction hx with
  | zero => exact h.z
  | r _ ih => exact (step _ ih).1
  | u _ ih => exact (step _ ih).2
section
variable {Γ : Wd} {K : PySem.W.Frag} {mg : Str → Option Value}
/-- right and above as two lists; what is reached -/
def A_reach : DS := fun _ args k => ∃ (R U : List Nat) (n : Nat), args = [.d (.list (lN R)), .d (.list (lN U))] ∧ Bq R U n ∧ 0 < n ∧ ∀ L : List Nat, L.Nodup → (∀ x ∈ L, x < n) → (∀ x, x ∈ L ↔ R0 R U x) → k (.ol (lN L))
theorem ws_law_reach : Goes Γ K 2 5 (t__law_reach Γ K) A_reach := by
  rintro β args k ⟨R, U, n, rfl, b, hn, hk⟩
  refine ⟨rfl, ?_⟩
  show WS _ _ _ _ [_, _, _, _, _] _
  unfold t__law_reach
  have n6 := b.n6
  walk_at "E"
  refine ws_for (wi_range1 ?_)
  walk_at "E"
  refine ⟨by rw [lN_length, b.rl]; omega, by omega, ?_⟩
  rw [lN_length, Int.toNat_natCast, b.rl]
  refine ⟨fun i ρ' => ∃ (L : List Nat) (s3 s4 : AV), ρ' = [.d (.list (lN R)), .d (.list (lN U)), .ol (lN L), s3, s4] ∧ Fq R U n i L, ⟨[0], _, _, rfl, ⟨by simp, fun x hx => by rw [List.mem_singleton.mp hx]; exact hn, fun x hx => by rw [List.mem_singleton.mp hx]; exact .zero, by simp, fun m h => absurd h (Nat.not_lt_zero _)⟩⟩, ?_, ?_⟩
  · rintro i d ρ' hd ⟨L, s3, s4, rfl, f⟩
    obtain ⟨hi, rfl⟩ := rg0 hd
    walk_at "E"
    · rename_i h1
      have h1 := of_decide_eq_true h1
      rw [lN_length] at h1
      have hiL : i < L.length := by omega
      have hv : at0 L i < n := f.lt _ (at0_mem hiL)
      have hv0 : R0 R U (at0 L i) := f.r0 _ (at0_mem hiL)
      refine ws_for (wi_tup ?_)
      walk_at "E"
      refine ⟨_, _, _, .inl rfl, rfl, atI_N (k := i) hiL, ?_⟩
      walk_at "E"
      refine ⟨_, _, _, .inl rfl, rfl, atI_N (k := at0 L i) (by rw [b.rl]; exact hv), ?_⟩
      walk_at "E"
      refine ⟨_, _, _, .inl rfl, rfl, atI_N (k := i) hiL, ?_⟩
      walk_at "E"
      refine ⟨_, _, _, .inl rfl, rfl, atI_N (k := at0 L i) (by rw [b.ul]; exact hv), ?_⟩
      walk_at "E"
      have pick : ∀ (j : Nat) (d : PyData), [PyData.int (R.getD (at0 L i) 0 : Nat), PyData.int (U.getD (at0 L i) 0 : Nat)][j]? = some d → ∃ o : Nat, d = .int (o : Int) ∧ o < n ∧ R0 R U o ∧ (j = 0 ∧ o = at0 R (at0 L i) ∨ j = 1 ∧ o = at0 U (at0 L i)) := fun j d hd => by
        match j, hd with
        | 0, hd => cases hd; exact ⟨_, rfl, (b.at hv).1, .r hv0, .inl ⟨rfl, rfl⟩⟩
        | 1, hd => cases hd; exact ⟨_, rfl, (b.at hv).2.1, .u hv0, .inr ⟨rfl, rfl⟩⟩
        | j + 2, hd => cases hd
      refine ⟨fun j ρ' => ∃ (t : List Nat) (s4 : AV), ρ' = [.d (.list (lN R)), .d (.list (lN U)), .ol (lN (L ++ t)), .d (.int (i : Nat)), s4] ∧ (L ++ t).Nodup ∧ (∀ x ∈ L ++ t, x < n) ∧ (∀ x ∈ L ++ t, R0 R U x) ∧ (1 ≤ j → at0 R (at0 L i) ∈ L ++ t) ∧ (2 ≤ j → at0 U (at0 L i) ∈ L ++ t),
        ⟨[], s4, by rw [List.append_nil]; rfl, by rw [List.append_nil]; exact f.nd, by rw [List.append_nil]; exact f.lt, by rw [List.append_nil]; exact f.r0, by omega, by omega⟩, ?_, ?_⟩
      · rintro j d ρ' hd ⟨t, s4, rfl, nd, lt, r0, g1, g2⟩
        obtain ⟨o, rfl, ho, hor, hj⟩ := pick j d hd
        have hlen : (L ++ t).length ≤ n := by
          have q := nodup_sub_len (l := L ++ t) (m := List.range n) nd fun x hx => List.mem_range.mpr (lt x hx)
          rw [List.length_range] at q
          exact q
        walk_at "E"
        refine ⟨_, iN (L ++ t), rfl, .inl rfl, _, rfl, fun hb => ?_, fun hb => ?_⟩
        · have hno : o ∉ L ++ t := fun h => by
            rw [if_pos rfl, decide_eq_true (mem_iN.mpr h)] at hb
            cases hb
          walk_at "E"
          refine we_append ?_
          walk_at "E"
          refine ⟨by rw [lN_length]; omega, ?_⟩
          refine ⟨t ++ [o], .d (.int (o : Int)), by rw [← List.append_assoc, lN_append (L ++ t)]; rfl, ?_, ?_, ?_, fun _ => ?_, fun h => ?_⟩
          · rw [← List.append_assoc, List.nodup_append]
            exact ⟨nd, by simp, fun x hx y hy e => hno (by rw [List.mem_singleton] at hy; rw [← hy, ← e]; exact hx)⟩
          · intro x hx
            rw [← List.append_assoc] at hx
            rcases List.mem_append.mp hx with h | h
            · exact lt x h
            · rw [List.mem_singleton.mp h]; exact ho
          · intro x hx
            rw [← List.append_assoc] at hx
            rcases List.mem_append.mp hx with h | h
            · exact r0 x h
            · rw [List.mem_singleton.mp h]; exact hor
          · rw [← List.append_assoc]
            rcases hj with ⟨e, e2⟩ | ⟨e, _⟩
            · rw [← e2]; exact List.mem_append_right _ (List.mem_singleton.mpr rfl)
            · exact List.mem_append_left _ (g1 (by omega))
          · rw [← List.append_assoc]
            rcases hj with ⟨e, _⟩ | ⟨e, e2⟩
            · omega
            · rw [← e2]; exact List.mem_append_right _ (List.mem_singleton.mpr rfl)
        · have hin : o ∈ L ++ t := by
            refine Classical.byContradiction fun h => ?_
            rw [if_pos rfl, decide_eq_false (fun z => h (mem_iN.mp z))] at hb
            cases hb
          walk_at "E"
          refine ⟨t, .d (.int (o : Int)), rfl, nd, lt, r0, fun _ => ?_, fun h => ?_⟩
          · rcases hj with ⟨e, e2⟩ | ⟨e, _⟩
            · rw [← e2]; exact hin
            · exact g1 (by omega)
          · rcases hj with ⟨e, _⟩ | ⟨e, e2⟩
            · omega
            · rw [← e2]; exact hin
      · rintro ρ' ⟨t, s4, rfl, nd, lt, r0, g1, g2⟩
        refine ⟨L ++ t, _, _, rfl, nd, lt, r0, List.mem_append_left _ f.z, fun m hm hmL => ?_⟩
        have hmL2 : m < L.length := by omega
        have e : at0 (L ++ t) m = at0 L m := by
          unfold at0
          rw [List.getD_eq_getElem?_getD, List.getD_eq_getElem?_getD, List.getElem?_append_left hmL2]
        rw [e]
        by_cases hmi : m = i
        · subst hmi
          exact ⟨g1 (Nat.le_of_ble_eq_true rfl), g2 (Nat.le_of_ble_eq_true rfl)⟩
        · have := f.cl m (by omega) hmL2
          exact ⟨List.mem_append_left _ this.1, List.mem_append_left _ this.2⟩
    · rename_i h1
      have h1 := of_decide_eq_false h1
      rw [lN_length] at h1
      exact ⟨L, _, _, rfl, f.nd, f.lt, f.r0, f.z, fun m hm hmL => f.cl m (by omega) hmL⟩
  · rintro ρ' ⟨L, s3, s4, rfl, f⟩
    rw [rgD_length] at f
    walk_at "E"
    exact hk L f.nd f.lt f.done
end
end K74
end
/-! ## M74b -/
section
/-! M74b: iterates of permutations. -/
namespace K74
def itr (f : Nat → Nat) : Nat → Nat → Nat
  | 0, x => x
  | k + 1, x => f (itr f k x)
theorem itr_add (f : Nat → Nat) (i j x : Nat) : itr f (i + j) x = itr f i (itr f j x) := by
  induction i with
  | zero => rw [Nat.zero_add]; rfl
  | succ i ih => rw [Nat.succ_add]; show f (itr f (i + j) x) = f (itr f i (itr f j x)); rw [ih]
theorem itr_lt {f : Nat → Nat} {n : Nat} (h : ∀ x, x < n → f x < n) {x : Nat} (hx : x < n) : ∀ k, itr f k x < n
  | 0 => hx
  | k + 1 => h _ (itr_lt h hx k)
theorem itr_inj {f : Nat → Nat} {n : Nat} (h : ∀ x, x < n → f x < n) (inj : ∀ x y, x < n → y < n → f x = f y → x = y) : ∀ (k x y : Nat), x < n → y < n → itr f k x = itr f k y → x = y
  | 0, _, _, _, _, e => e
  | k + 1, x, y, hx, hy, e => itr_inj h inj k x y hx hy (inj _ _ (itr_lt h hx k) (itr_lt h hy k) e)
/-- one comes back -/
theorem itr_back {f : Nat → Nat} {n : Nat} (h : ∀ x, x < n → f x < n) (inj : ∀ x y, x < n → y < n → f x = f y → x = y) {a : Nat} (ha : a < n) : ∃ k, itr f (k + 1) a = a := by
  refine Classical.byContradiction fun hno => ?_
  have hnd : ((List.range (n + 1)).map fun k => itr f k a).Nodup := by
    rw [List.nodup_iff_pairwise_ne, List.pairwise_map]
    refine List.Pairwise.imp_of_mem (fun {i j} hi hj hlt e => ?_) (List.pairwise_lt_range (n := n + 1))
    have e2 : j = i + (j - i - 1 + 1) := by omega
    rw [e2, itr_add] at e
    exact hno ⟨j - i - 1, (itr_inj h inj i _ _ ha (itr_lt h ha _) e).symm⟩
  have hl := nodup_sub_len (m := List.range n) hnd fun x hx => by
    obtain ⟨k, _, rfl⟩ := List.mem_map.mp hx
    exact List.mem_range.mpr (itr_lt h ha k)
  rw [List.length_map, List.length_range, List.length_range] at hl
  omega
end K74
end
/-! ## W74n -/
section
namespace K74
open PySem PySem.Spec PyProof.Rows L2 AB
/-- one step of a walk -/
local macro_rules | `(tactic| walk_at "v") => `(tactic| first
  | refine we_d rfl ?_ | refine we_ol rfl ?_ | refine we_oK rfl ?_ | refine we_oN rfl ?_ | refine we_ob rfl ?_ | refine we_rv rfl ?_ | refine we_int ?_ | refine we_bl ?_ | refine we_non ?_ | refine we_str ?_ | refine we_sI rfl ?_ | refine we_c (L2.GCn.dp (by assumption)) ?_ | refine we_cv ?_)
local macro_rules | `(tactic| walk_at "e") => `(tactic| first
  | walk_at "v" | with_reducible refine wa_nil ?_ | with_reducible refine wa_cons ?_ | with_reducible refine we_I0i ?_ | with_reducible refine we_I0b ?_ | with_reducible refine we_Ii ?_ | with_reducible refine we_eqD ?_ | with_reducible refine we_neD ?_ | with_reducible refine we_ix ?_ | with_reducible refine we_tup ?_ | with_reducible refine we_lst ?_ | with_reducible refine wt_test ?_ | with_reducible refine wt_B ?_ | with_reducible refine wt_not ?_ | with_reducible refine wt_and ?_ | with_reducible refine wt_or ?_ | with_reducible refine we_if ?_ | with_reducible refine we_andV ?_ | with_reducible refine we_orV ?_ | with_reducible refine we_notV ?_ | with_reducible refine we_neg ?_ | with_reducible refine we_chain ?_ | with_reducible refine we_slT ?_ | with_reducible refine wo_no ?_ | with_reducible refine wo_some ?_
  | with_reducible refine ws_seq ?_ | with_reducible refine ws_ret ?_ | with_reducible refine ws_asg2 (by decide) ?_ | with_reducible refine ws_asg ?_ | with_reducible refine ws_drop ?_ | with_reducible refine ws_if ?_ | with_reducible refine wg_d ?_ | with_reducible refine wg_ol ?_ | with_reducible refine wg_oK ?_ | with_reducible refine wgs_nil ?_ | with_reducible refine wgs_cons ?_  | with_reducible refine ws_next ?_ | with_reducible refine ws_par (by decide) ?_ | with_reducible refine ws_asg2 (by decide) ?_
  | with_reducible refine we_len ?_ | with_reducible refine we_isi ?_ | with_reducible refine we_gcdG ?_ | with_reducible refine we_fld ?_ | with_reducible refine we_tuple ?_ | with_reducible refine we_list ?_ | with_reducible refine we_inI ?_
  | refine wg_tup rfl ?_ | refine wgs_cons ?_ | refine wgs_nil ?_)
/-- what a step asks, where it is plain -/
local macro_rules | `(tactic| walk_at "c") => `(tactic| first
  | refine ⟨_, rfl, un_d, ?_⟩ | refine ⟨_, rfl, un_ol, ?_⟩ | refine ⟨_, rfl, un_oK, ?_⟩ | refine ⟨_, rfl, un_oN, ?_⟩ | refine ⟨_, rfl, un_rv, ?_⟩
  | refine ⟨true, rfl, fun _ => ?_, tt_ff⟩ | refine ⟨true, rfl, ff_tt, fun _ => ?_⟩ | refine ⟨false, rfl, ff_tt, fun _ => ?_⟩ | refine ⟨false, rfl, fun _ => ?_, tt_ff⟩
  | with_reducible refine ⟨_, rfl, fun _ => ?_, tt_ff⟩ | with_reducible refine ⟨_, rfl, ff_tt, fun _ => ?_⟩ | refine ⟨_, rfl, fun _ => ?_, fun _ => ?_⟩
  | with_reducible refine ⟨fun _ => ?_, tt_ff⟩ | with_reducible refine ⟨ff_tt, fun _ => ?_⟩ | with_reducible refine ⟨fun _ => ?_, fun _ => ?_⟩
  | refine ⟨_, _, rfl, rfl, fun _ => ?_, tt_ff⟩ | refine ⟨_, _, rfl, rfl, ff_tt, fun _ => ?_⟩ | refine ⟨_, _, rfl, rfl, fun _ => ?_, fun _ => ?_⟩
  | refine ⟨_, rfl, ?_⟩
  | refine ⟨_, _, rfl, fun _ _ => ?_⟩
  | refine ⟨_, _, rfl, al_d, al_d, ?_⟩ | refine ⟨_, _, rfl, al_oN, al_ol, ?_⟩ | refine ⟨_, _, rfl, al_oK, al_ol, ?_⟩ | refine ⟨_, _, rfl, al_ol, al_ol, ?_⟩ | refine ⟨_, _, rfl, al_d, al_ol, ?_⟩
  | refine ⟨_, _, rfl, rfl, rfl, rfl, ?_⟩
  | refine ⟨_, _, rfl, rfl, ?_⟩
  | refine ⟨_, _, rfl, _, true, rfl, rfl, ?_⟩ | refine ⟨_, _, rfl, _, false, rfl, rfl, ?_⟩
  | refine ⟨_, _, _, .inr rfl, rfl, rfl, ?_⟩
  | refine ⟨_, rfl, _, .inr rfl, ?_⟩ | refine ⟨_, .inr rfl, ?_⟩ | refine ⟨_, .inl rfl, ?_⟩
  | refine ⟨[_, _], rfl, Nat.le_of_ble_eq_true rfl, ?_⟩
  | refine ⟨[_, _, _], rfl, Nat.le_of_ble_eq_true rfl, ?_⟩
  | refine ⟨[_], rfl, Nat.le_of_ble_eq_true rfl, ?_⟩
  | refine ⟨[], rfl, Nat.le_of_ble_eq_true rfl, ?_⟩)
local macro_rules | `(tactic| walk_at "E") => `(tactic| repeat' first | walk_at "e" | walk_at "c" | fail)
/-! ### two orbits joined -/
theorem Bq.pl {R U : List Nat} {n : Nat} (b : Bq R U n) : Pl U n := ⟨b.ul, b.u.nd, fun x hx => by have := b.u.lt x hx; rw [b.ul] at this; exact this⟩
theorem Bq.withU {R U V : List Nat} {n : Nat} (b : Bq R U n) (h : Pl V n) : Bq R V n := ⟨b.r, ⟨h.nd, fun x hx => by rw [h.len]; exact h.lt x hx, by rw [h.len]; have := b.n6; omega⟩, b.rl, h.len, b.n6⟩
theorem hung_step {R V : List Nat} {n a : Nat} (b : Bq R V n) (hn : 0 < n) (ha : a < n) (hna : ¬ R0 R V a) : Bq R (swp V a 0) n ∧ (∀ x, R0 R V x → R0 R (swp V a 0) x) ∧ R0 R (swp V a 0) a := by
  have hV : ∀ x, x < n → at0 V x < n := fun x hx => (b.at hx).2.1
  have hinj : ∀ x y, x < n → y < n → at0 V x = at0 V y → x = y := fun x y hx hy e => b.u.inj (by rw [b.ul]; exact hx) (by rw [b.ul]; exact hy) e
  have ne0 : a ≠ 0 := fun e => hna (e ▸ .zero)
  have sw : ∀ x, at0 (swp V a 0) x = if x = 0 then at0 V a else if x = a then at0 V 0 else at0 V x := at0_swp (by rw [b.ul]; exact ha) (by rw [b.ul]; exact hn)
  obtain ⟨k, hk⟩ := itr_back hV hinj ha
  have hmul : ∀ t, itr (at0 V) ((k + 1) * t) a = a := fun t => by
    induction t with
    | zero => rfl
    | succ t ih => rw [Nat.mul_succ, itr_add, hk, ih]
  have from0 : ∀ j, R0 R V (itr (at0 V) j 0) := fun j => by
    induction j with
    | zero => exact .zero
    | succ j ih => exact .u ih
  have not0 : ∀ m, itr (at0 V) m a ≠ 0 := fun m e => hna (by
    have h1 := hmul m
    rw [show (k + 1) * m = k * m + m by rw [Nat.succ_mul], itr_add, e] at h1
    rw [← h1]
    exact from0 _)
  have ra : ∀ m, R0 R (swp V a 0) (itr (at0 V) (m + 1) a) ∨ R0 R (swp V a 0) a := fun m => by
    induction m with
    | zero =>
      have h : R0 R (swp V a 0) (at0 (swp V a 0) 0) := .u .zero
      rw [sw, if_pos rfl] at h
      exact .inl h
    | succ m ih =>
      rcases ih with ih | ih
      · by_cases e : itr (at0 V) (m + 1) a = a
        · rw [e] at ih; exact .inr ih
        · have h : R0 R (swp V a 0) (at0 (swp V a 0) (itr (at0 V) (m + 1) a)) := .u ih
          rw [sw, if_neg (not0 _), if_neg e] at h
          exact .inl h
      · exact .inr ih
  have haR : R0 R (swp V a 0) a := by
    rcases ra k with h | h
    · rw [hk] at h; exact h
    · exact h
  refine ⟨b.withU (b.pl.swp ha hn), fun x hx => ?_, haR⟩
  induction hx with
  | zero => exact .zero
  | r _ ih => exact .r ih
  | @u s hs ih =>
    have hsa : s ≠ a := fun e => hna (e ▸ hs)
    by_cases e : s = 0
    · subst e
      have h : R0 R (swp V a 0) (at0 (swp V a 0) a) := .u haR
      rw [sw, if_neg ne0, if_pos rfl] at h
      exact h
    · have h : R0 R (swp V a 0) (at0 (swp V a 0) s) := .u ih
      rw [sw, if_neg e, if_neg hsa] at h
      exact h
end K74
end
/-! ## W74o -/
section
namespace K74
open PySem PySem.Spec PyProof.Rows L2 AB
/-- one step of a walk -/
local macro_rules | `(tactic| walk_at "v") => `(tactic| first
  | refine we_d rfl ?_ | refine we_ol rfl ?_ | refine we_oK rfl ?_ | refine we_oN rfl ?_ | refine we_ob rfl ?_ | refine we_rv rfl ?_ | refine we_int ?_ | refine we_bl ?_ | refine we_non ?_ | refine we_str ?_ | refine we_sI rfl ?_ | refine we_c (L2.GCn.dp (by assumption)) ?_ | refine we_cv ?_)
local macro_rules | `(tactic| walk_at "e") => `(tactic| first
  | walk_at "v" | with_reducible refine wa_nil ?_ | with_reducible refine wa_cons ?_ | with_reducible refine we_I0i ?_ | with_reducible refine we_I0b ?_ | with_reducible refine we_Ii ?_ | with_reducible refine we_eqD ?_ | with_reducible refine we_neD ?_ | with_reducible refine we_ix ?_ | with_reducible refine we_tup ?_ | with_reducible refine we_lst ?_ | with_reducible refine wt_test ?_ | with_reducible refine wt_B ?_ | with_reducible refine wt_not ?_ | with_reducible refine wt_and ?_ | with_reducible refine wt_or ?_ | with_reducible refine we_if ?_ | with_reducible refine we_andV ?_ | with_reducible refine we_orV ?_ | with_reducible refine we_notV ?_ | with_reducible refine we_neg ?_ | with_reducible refine we_chain ?_ | with_reducible refine we_slT ?_ | with_reducible refine wo_no ?_ | with_reducible refine wo_some ?_
  | with_reducible refine ws_seq ?_ | with_reducible refine ws_ret ?_ | with_reducible refine ws_asg2 (by decide) ?_ | with_reducible refine ws_asg ?_ | with_reducible refine ws_drop ?_ | with_reducible refine ws_if ?_ | with_reducible refine wg_d ?_ | with_reducible refine wg_ol ?_ | with_reducible refine wg_oK ?_ | with_reducible refine wgs_nil ?_ | with_reducible refine wgs_cons ?_  | with_reducible refine ws_next ?_ | with_reducible refine ws_par (by decide) ?_ | with_reducible refine ws_asg2 (by decide) ?_
  | with_reducible refine we_len ?_ | with_reducible refine we_isi ?_ | with_reducible refine we_gcdG ?_ | with_reducible refine we_fld ?_ | with_reducible refine we_tuple ?_ | with_reducible refine we_list ?_ | with_reducible refine we_inI ?_
  | refine wg_tup rfl ?_ | refine wgs_cons ?_ | refine wgs_nil ?_)
/-- what a step asks, where it is plain -/
local macro_rules | `(tactic| walk_at "c") => `(tactic| first
  | refine ⟨_, rfl, un_d, ?_⟩ | refine ⟨_, rfl, un_ol, ?_⟩ | refine ⟨_, rfl, un_oK, ?_⟩ | refine ⟨_, rfl, un_oN, ?_⟩ | refine ⟨_, rfl, un_rv, ?_⟩
  | refine ⟨true, rfl, fun _ => ?_, tt_ff⟩ | refine ⟨true, rfl, ff_tt, fun _ => ?_⟩ | refine ⟨false, rfl, ff_tt, fun _ => ?_⟩ | refine ⟨false, rfl, fun _ => ?_, tt_ff⟩
  | with_reducible refine ⟨_, rfl, fun _ => ?_, tt_ff⟩ | with_reducible refine ⟨_, rfl, ff_tt, fun _ => ?_⟩ | refine ⟨_, rfl, fun _ => ?_, fun _ => ?_⟩
  | with_reducible refine ⟨fun _ => ?_, tt_ff⟩ | with_reducible refine ⟨ff_tt, fun _ => ?_⟩ | with_reducible refine ⟨fun _ => ?_, fun _ => ?_⟩
  | refine ⟨_, _, rfl, rfl, fun _ => ?_, tt_ff⟩ | refine ⟨_, _, rfl, rfl, ff_tt, fun _ => ?_⟩ | refine ⟨_, _, rfl, rfl, fun _ => ?_, fun _ => ?_⟩
  | refine ⟨_, rfl, ?_⟩
  | refine ⟨_, _, rfl, fun _ _ => ?_⟩
  | refine ⟨_, _, rfl, al_d, al_d, ?_⟩ | refine ⟨_, _, rfl, al_oN, al_ol, ?_⟩ | refine ⟨_, _, rfl, al_oK, al_ol, ?_⟩ | refine ⟨_, _, rfl, al_ol, al_ol, ?_⟩ | refine ⟨_, _, rfl, al_d, al_ol, ?_⟩
  | refine ⟨_, _, rfl, rfl, rfl, rfl, ?_⟩
  | refine ⟨_, _, rfl, rfl, ?_⟩
  | refine ⟨_, _, rfl, _, true, rfl, rfl, ?_⟩ | refine ⟨_, _, rfl, _, false, rfl, rfl, ?_⟩
  | refine ⟨_, _, _, .inr rfl, rfl, rfl, ?_⟩
  | refine ⟨_, rfl, _, .inr rfl, ?_⟩ | refine ⟨_, .inr rfl, ?_⟩ | refine ⟨_, .inl rfl, ?_⟩
  | refine ⟨[_, _], rfl, Nat.le_of_ble_eq_true rfl, ?_⟩
  | refine ⟨[_, _, _], rfl, Nat.le_of_ble_eq_true rfl, ?_⟩
  | refine ⟨[_], rfl, Nat.le_of_ble_eq_true rfl, ?_⟩
  | refine ⟨[], rfl, Nat.le_of_ble_eq_true rfl, ?_⟩)
local macro_rules | `(tactic| walk_at "E") => `(tactic| repeat' first | walk_at "e" | walk_at "c" | fail)
section
variable {Γ : Wd} {K : PySem.W.Frag} {mg : Str → Option Value}
def A_hung : DS := fun _ args k => ∃ (R U : List Nat) (n : Nat), args = [.d (.list (lN R)), .d (.list (lN U))] ∧ Bq R U n ∧ 0 < n ∧ ∀ V, Bq R V n → Conn R V n → k (.ol (lN V))
theorem ws_law_hung : Goes Γ K 2 6 (t__law_hung Γ K A_reach) A_hung := by
  rintro β args k ⟨R, U, n, rfl, b, hn, hk⟩
  refine ⟨rfl, ?_⟩
  show WS _ _ _ _ [_, _, _, _, _, _] _
  unfold t__law_hung
  have n6 := b.n6
  walk_at "E"
  refine ws_for (wi_range1 ?_)
  walk_at "E"
  refine ⟨by rw [lN_length, b.rl]; omega, by omega, ?_⟩
  rw [lN_length, Int.toNat_natCast, b.rl]
  refine ⟨fun i ρ' => ∃ (V : List Nat) (s2 s3 s4 : AV), ρ' = [.d (.list (lN R)), .ol (lN V), s2, s3, s4, .un] ∧ Bq R V n ∧ ∃ L : List Nat, L.Nodup ∧ (∀ x ∈ L, x < n ∧ R0 R V x) ∧ (i + 1 ≤ L.length ∨ L.length = n), ⟨U, _, _, _, rfl, b, [0], by simp, fun x hx => by rw [List.mem_singleton.mp hx]; exact ⟨hn, .zero⟩, .inl (Nat.le_refl 1)⟩, ?_, ?_⟩
  · rintro i d ρ' hd ⟨V, s2, s3, s4, rfl, bV, L, hL1, hL2, hL3⟩
    obtain ⟨hi, rfl⟩ := rg0 hd
    walk_at "E"
    refine we_call ?_
    walk_at "E"
    refine ⟨_, fun r => ∃ F : List Nat, F.Nodup ∧ (∀ x ∈ F, x < n) ∧ (∀ x, x ∈ F ↔ R0 R V x) ∧ r = .ol (lN F), rfl, ⟨R, V, n, rfl, bV, hn, fun F h1 h2 h3 => ⟨F, h1, h2, h3, rfl⟩⟩, ?_⟩
    rintro r ⟨F, hF1, hF2, hF3, rfl⟩
    refine ⟨pureAll_ints _, ?_⟩
    walk_at "E"
    refine we_lc (gown_name (by decide)) (wi_range1 ?_)
    walk_at "E"
    refine ⟨by rw [lN_length, b.rl]; omega, by omega, ?_⟩
    rw [lN_length, Int.toNat_natCast, b.rl]
    refine ⟨unused_of rfl, by rw [rgD_length]; omega, fun m acc => acc = lN (((List.range n).take m).filter fun z => decide (z ∉ F)), rfl, ?_, ?_⟩
    · intro m d acc hd hacc hI
      obtain ⟨hm, rfl⟩ := rg0 hd
      have e : (List.range n)[m]? = some m := by rw [List.getElem?_range hm]
      walk_at "E"
      refine ⟨weak_set rfl, ?_⟩
      walk_at "E"
      refine ⟨_, iN F, rfl, .inl rfl, _, rfl, rfl, fun hb => ?_, fun hb => ?_⟩
      · walk_at "v"
        refine ⟨rfl, _, rfl, ?_⟩
        have he : decide (m ∉ F) = true := by simpa [mem_iN] using hb
        dsimp only
        rw [take_filter_succ e, hI, he, lN_append]
        rfl
      · have he : decide (m ∉ F) = false := by simpa [mem_iN] using hb
        dsimp only
        rw [take_filter_succ e, hI, he]
        simp
    · intro acc hacc hl
      have e : acc = lN (((List.range n).take (rgD 0 1 n).length).filter fun z => decide (z ∉ F)) := hacc
      rw [rgD_length, List.take_of_length_le (by simp)] at e
      subst e
      walk_at "E"
      · rename_i h1
        have h1 := of_decide_eq_true h1
        have hP : 0 < ((List.range n).filter fun z => decide (z ∉ F)).length := by
          rw [lN_length] at h1; omega
        have hmem := at0_mem hP
        rw [List.mem_filter, List.mem_range] at hmem
        obtain ⟨ha, hna⟩ := hmem
        have hna := of_decide_eq_true hna
        obtain ⟨b2, keep, ra⟩ := hung_step bV hn ha (fun h => hna ((hF3 _).mpr h))
        have hLF : L.length ≤ F.length := nodup_sub_len hL1 fun x hx => (hF3 x).mpr (hL2 x hx).2
        have hFn := nodup_sub_len (l := F ++ [at0 ((List.range n).filter fun z => decide (z ∉ F)) 0]) (m := List.range n) (by
          rw [List.nodup_append]
          exact ⟨hF1, by simp, fun x hx y hy e => hna (by rw [List.mem_singleton] at hy; rw [← hy, ← e]; exact hx)⟩) fun x hx => by
            rcases List.mem_append.mp hx with h | h
            · exact List.mem_range.mpr (hF2 x h)
            · rw [List.mem_singleton.mp h]; exact List.mem_range.mpr ha
        rw [List.length_append, List.length_singleton, List.length_range] at hFn
        have hl := bV.ul
        refine ⟨_, _, _, .inl rfl, rfl, atI_N (k := 0) (by omega), ?_⟩
        walk_at "E"
        refine ⟨_, _, _, .inl rfl, rfl, atI_N (k := 0) hP, ?_⟩
        walk_at "E"
        refine ⟨_, _, _, .inl rfl, rfl, atI_N (k := at0 ((List.range n).filter fun z => decide (z ∉ F)) 0) (by omega), ?_⟩
        walk_at "E"
        refine wg_setL ?_
        walk_at "E"
        refine ⟨_, _, _, .inl rfl, rfl, atI_N (k := 0) hP, ?_⟩
        refine ⟨_, _, _, rfl, rfl, ixN_nat (k := at0 ((List.range n).filter fun z => decide (z ∉ F)) 0) (by rw [lN_length]; omega), ?_⟩
        rw [lN_set]
        walk_at "E"
        refine wg_setL ?_
        walk_at "E"
        refine ⟨_, _, _, rfl, rfl, ixN_nat (k := 0) (by rw [lN_length, List.length_set]; omega), ?_⟩
        rw [lN_set]
        walk_at "E"
        refine ⟨_, _, _, _, rfl, b2, F ++ [at0 ((List.range n).filter fun z => decide (z ∉ F)) 0], ?_, fun x hx => ?_, ?_⟩
        · rw [List.nodup_append]
          exact ⟨hF1, by simp, fun x hx y hy e => hna (by rw [List.mem_singleton] at hy; rw [← hy, ← e]; exact hx)⟩
        · rcases List.mem_append.mp hx with h | h
          · exact ⟨hF2 x h, keep x ((hF3 x).mp h)⟩
          · rw [List.mem_singleton.mp h]; exact ⟨ha, ra⟩
        · rw [List.length_append, List.length_singleton]
          omega
      · rename_i h1
        have h1 := of_decide_eq_false h1
        have h0 : ((List.range n).filter fun z => decide (z ∉ F)) = [] := by
          rw [lN_length] at h1
          exact List.eq_nil_of_length_eq_zero (by omega)
        have hall := nodup_sub_len (l := List.range n) (m := F) List.nodup_range fun x hx => by
          refine Classical.byContradiction fun hx2 => ?_
          have : x ∈ ((List.range n).filter fun z => decide (z ∉ F)) := List.mem_filter.mpr ⟨hx, decide_eq_true hx2⟩
          rw [h0] at this
          cases this
        have hle := nodup_sub_len (l := F) (m := List.range n) hF1 fun x hx => List.mem_range.mpr (hF2 x hx)
        rw [List.length_range] at hall hle
        exact ⟨V, _, _, _, rfl, bV, F, hF1, fun x hx => ⟨hF2 x hx, (hF3 x).mp hx⟩, .inr (by omega)⟩
  · rintro ρ' ⟨V, s2, s3, s4, rfl, bV, L, hL1, hL2, hL3⟩
    rw [rgD_length] at hL3
    have hle := nodup_sub_len (l := L) (m := List.range n) hL1 fun x hx => List.mem_range.mpr (hL2 x hx).1
    rw [List.length_range] at hle
    walk_at "E"
    have hLn : L.length = n := by omega
    have hp : Pm L := ⟨hL1, fun x hx => by rw [hLn]; exact (hL2 x hx).1, by omega⟩
    exact hk V bV fun s hs => (hL2 s (hp.mem (by rw [hLn]; exact hs))).2
end
end K74
end
/-! ## W74p -/
section
namespace K74
open PySem PySem.Spec PyProof.Rows L2 AB
/-- one step of a walk -/
local macro_rules | `(tactic| walk_at "v") => `(tactic| first
  | refine we_d rfl ?_ | refine we_ol rfl ?_ | refine we_oK rfl ?_ | refine we_oN rfl ?_ | refine we_ob rfl ?_ | refine we_rv rfl ?_ | refine we_int ?_ | refine we_bl ?_ | refine we_non ?_ | refine we_str ?_ | refine we_sI rfl ?_ | refine we_c (L2.GCn.dp (by assumption)) ?_ | refine we_cv ?_)
local macro_rules | `(tactic| walk_at "e") => `(tactic| first
  | walk_at "v" | with_reducible refine wa_nil ?_ | with_reducible refine wa_cons ?_ | with_reducible refine we_I0i ?_ | with_reducible refine we_I0b ?_ | with_reducible refine we_Ii ?_ | with_reducible refine we_eqD ?_ | with_reducible refine we_neD ?_ | with_reducible refine we_ix ?_ | with_reducible refine we_tup ?_ | with_reducible refine we_lst ?_ | with_reducible refine wt_test ?_ | with_reducible refine wt_B ?_ | with_reducible refine wt_not ?_ | with_reducible refine wt_and ?_ | with_reducible refine wt_or ?_ | with_reducible refine we_if ?_ | with_reducible refine we_andV ?_ | with_reducible refine we_orV ?_ | with_reducible refine we_notV ?_ | with_reducible refine we_neg ?_ | with_reducible refine we_chain ?_ | with_reducible refine we_slT ?_ | with_reducible refine wo_no ?_ | with_reducible refine wo_some ?_
  | with_reducible refine ws_seq ?_ | with_reducible refine ws_ret ?_ | with_reducible refine ws_asg2 (by decide) ?_ | with_reducible refine ws_asg ?_ | with_reducible refine ws_drop ?_ | with_reducible refine ws_if ?_ | with_reducible refine wg_d ?_ | with_reducible refine wg_ol ?_ | with_reducible refine wg_oK ?_ | with_reducible refine wgs_nil ?_ | with_reducible refine wgs_cons ?_  | with_reducible refine ws_next ?_ | with_reducible refine ws_par (by decide) ?_ | with_reducible refine ws_asg2 (by decide) ?_
  | with_reducible refine we_len ?_ | with_reducible refine we_isi ?_ | with_reducible refine we_gcdG ?_ | with_reducible refine we_fld ?_ | with_reducible refine we_tuple ?_ | with_reducible refine we_list ?_ | with_reducible refine we_inI ?_
  | refine wg_tup rfl ?_ | refine wgs_cons ?_ | refine wgs_nil ?_)
/-- what a step asks, where it is plain -/
local macro_rules | `(tactic| walk_at "c") => `(tactic| first
  | refine ⟨_, rfl, un_d, ?_⟩ | refine ⟨_, rfl, un_ol, ?_⟩ | refine ⟨_, rfl, un_oK, ?_⟩ | refine ⟨_, rfl, un_oN, ?_⟩ | refine ⟨_, rfl, un_rv, ?_⟩
  | refine ⟨true, rfl, fun _ => ?_, tt_ff⟩ | refine ⟨true, rfl, ff_tt, fun _ => ?_⟩ | refine ⟨false, rfl, ff_tt, fun _ => ?_⟩ | refine ⟨false, rfl, fun _ => ?_, tt_ff⟩
  | with_reducible refine ⟨_, rfl, fun _ => ?_, tt_ff⟩ | with_reducible refine ⟨_, rfl, ff_tt, fun _ => ?_⟩ | refine ⟨_, rfl, fun _ => ?_, fun _ => ?_⟩
  | with_reducible refine ⟨fun _ => ?_, tt_ff⟩ | with_reducible refine ⟨ff_tt, fun _ => ?_⟩ | with_reducible refine ⟨fun _ => ?_, fun _ => ?_⟩
  | refine ⟨_, _, rfl, rfl, fun _ => ?_, tt_ff⟩ | refine ⟨_, _, rfl, rfl, ff_tt, fun _ => ?_⟩ | refine ⟨_, _, rfl, rfl, fun _ => ?_, fun _ => ?_⟩
  | refine ⟨_, rfl, ?_⟩
  | refine ⟨_, _, rfl, fun _ _ => ?_⟩
  | refine ⟨_, _, rfl, al_d, al_d, ?_⟩ | refine ⟨_, _, rfl, al_oN, al_ol, ?_⟩ | refine ⟨_, _, rfl, al_oK, al_ol, ?_⟩ | refine ⟨_, _, rfl, al_ol, al_ol, ?_⟩ | refine ⟨_, _, rfl, al_d, al_ol, ?_⟩
  | refine ⟨_, _, rfl, rfl, rfl, rfl, ?_⟩
  | refine ⟨_, _, rfl, rfl, ?_⟩
  | refine ⟨_, _, rfl, _, true, rfl, rfl, ?_⟩ | refine ⟨_, _, rfl, _, false, rfl, rfl, ?_⟩
  | refine ⟨_, _, _, .inr rfl, rfl, rfl, ?_⟩
  | refine ⟨_, rfl, _, .inr rfl, ?_⟩ | refine ⟨_, .inr rfl, ?_⟩ | refine ⟨_, .inl rfl, ?_⟩
  | refine ⟨[_, _], rfl, Nat.le_of_ble_eq_true rfl, ?_⟩
  | refine ⟨[_, _, _], rfl, Nat.le_of_ble_eq_true rfl, ?_⟩
  | refine ⟨[_], rfl, Nat.le_of_ble_eq_true rfl, ?_⟩
  | refine ⟨[], rfl, Nat.le_of_ble_eq_true rfl, ?_⟩)
local macro_rules | `(tactic| walk_at "E") => `(tactic| repeat' first | walk_at "e" | walk_at "c" | fail)
section
variable {Γ : Wd} {K : PySem.W.Frag} {mg : Str → Option Value}
def A_board : DS := fun β args k => ∃ (b : Addr), β = some b ∧ args = [.rv (.ref b), .d (.int 6)] ∧ ∀ (n : Nat) (R U : List Nat), 0 < n → Bq R U n → Conn R U n → k (.d (bd R U ((List.range n).filter (isEnd R U))))
theorem Pl.pm {L : List Nat} {m : Nat} (h : Pl L m) (h6 : m ≤ 6) : Pm L := ⟨h.nd, fun x hx => by rw [h.len]; exact h.lt x hx, by rw [h.len]; omega⟩
theorem pure_bd (R U E : List Nat) : pure (bd R U E) = true := by
  show (pure (tN R) && (pure (tN U) && (pure (tN E) && true))) = true
  rw [pure_tN, pure_tN, pure_tN]
  rfl
theorem ws_law_board : Goes Γ K 2 5 (t__law_board Γ K ADraw A_shuffle A_hung A_law_ends) A_board := by
  rintro β args k ⟨b, rfl, rfl, hk⟩
  refine ⟨rfl, ?_⟩
  show WS _ _ _ _ [_, _, _, _, _] _
  unfold t__law_board
  walk_at "E"
  refine we_call ?_
  walk_at "E"
  refine ⟨_, fun r => ∃ j : Nat, j < 6 ∧ r = .d (.int (j : Nat)), rfl, ⟨b, _, rfl, rfl, by decide, fun z h0 h1 => ⟨z.toNat, by omega, by rw [Int.toNat_of_nonneg h0]⟩⟩, ?_⟩
  rintro r ⟨j, hj, rfl⟩
  refine ⟨rfl, ?_⟩
  walk_at "E"
  rw [show (1 : Int) + (j : Int) = ((j + 1 : Nat) : Int) by omega]
  refine we_call ?_
  walk_at "E"
  refine ⟨_, fun r => ∃ L, Pl L (j + 1) ∧ r = .ol (lN L), rfl, ⟨b, _, rfl, rfl, by omega, by omega, fun L hL => ⟨L, hL, rfl⟩⟩, ?_⟩
  rintro r ⟨R, hR, rfl⟩
  refine ⟨pureAll_ints _, ?_⟩
  walk_at "E"
  refine we_call ?_
  walk_at "E"
  refine ⟨_, fun r => ∃ L, Pl L (j + 1) ∧ r = .ol (lN L), rfl, ⟨b, _, rfl, rfl, by omega, by omega, fun L hL => ⟨L, hL, rfl⟩⟩, ?_⟩
  rintro r ⟨U, hU, rfl⟩
  refine ⟨pureAll_ints _, ?_⟩
  have bq : Bq R U (j + 1) := ⟨hR.pm (by omega), hU.pm (by omega), hR.len, hU.len, by omega⟩
  walk_at "E"
  refine we_call ?_
  walk_at "E"
  refine ⟨_, fun r => ∃ V, Bq R V (j + 1) ∧ Conn R V (j + 1) ∧ r = .ol (lN V), rfl, ⟨R, U, j + 1, rfl, bq, by omega, fun V h1 h2 => ⟨V, h1, h2, rfl⟩⟩, ?_⟩
  rintro r ⟨V, bV, hV, rfl⟩
  refine ⟨pureAll_ints _, ?_⟩
  walk_at "E"
  refine we_callE ?_
  walk_at "E"
  refine ⟨_, _, rfl, ⟨R, V, j + 1, rfl, bV, rfl⟩, pure_tN _, ?_⟩
  walk_at "E"
  exact hk (j + 1) R V (by omega) bV hV
end
end K74
end
/-! ## M74c -/
section
/-! M74c: sorted lists are equal; == of lists of numbers. -/
namespace K74
open PySem PySem.Spec PyProof.Rows L2 AB
theorem sorted_eq {α : Type} {f : α → Int} (inj : ∀ x y, f x = f y → x = y) : ∀ {a b : List α}, a.Perm b → a.Pairwise (fun x y => f x ≤ f y) → b.Pairwise (fun x y => f x ≤ f y) → a = b
  | [], b, p, _, _ => (List.perm_nil.mp p.symm).symm
  | x :: a, [], p, _, _ => absurd p.length_eq (by simp)
  | x :: a, y :: b, p, ha, hb => by
    obtain ⟨ha1, ha2⟩ := List.pairwise_cons.mp ha
    obtain ⟨hb1, hb2⟩ := List.pairwise_cons.mp hb
    have hx : x ∈ y :: b := p.mem_iff.mp List.mem_cons_self
    have hy : y ∈ x :: a := p.mem_iff.mpr List.mem_cons_self
    have e : x = y := by
      rcases List.mem_cons.mp hx with h | h
      · exact h
      · rcases List.mem_cons.mp hy with h' | h'
        · exact h'.symm
        · exact inj _ _ (Int.le_antisymm (ha1 _ h') (hb1 _ h))
    subst e
    rw [sorted_eq inj ((List.perm_cons x).mp p) ha2 hb2]
theorem eqvAll_ints : ∀ a b : List Int, PyData.eqvAll (a.map .int) (b.map .int) = decide (a = b)
  | [], [] => rfl
  | [], _ :: _ => rfl
  | _ :: _, [] => rfl
  | x :: a, y :: b => by
    show ((x == y) && PyData.eqvAll (a.map .int) (b.map .int)) = _
    rw [eqvAll_ints a b, Bool.eq_iff_iff]
    simp
theorem eqv_lists (a b : List Int) : PyData.eqv (.list (a.map .int)) (.list (b.map .int)) = decide (a = b) := eqvAll_ints a b
theorem eqv_tups (a b : List Int) : PyData.eqv (.tuple (a.map .int)) (.tuple (b.map .int)) = decide (a = b) := eqvAll_ints a b
end K74
end
/-! ## W74q -/
section
namespace K74
open PySem PySem.Spec PyProof.Rows L2 AB
/-- one step of a walk -/
local macro_rules | `(tactic| walk_at "v") => `(tactic| first
  | refine we_d rfl ?_ | refine we_ol rfl ?_ | refine we_oK rfl ?_ | refine we_oN rfl ?_ | refine we_ob rfl ?_ | refine we_rv rfl ?_ | refine we_int ?_ | refine we_bl ?_ | refine we_non ?_ | refine we_str ?_ | refine we_sI rfl ?_ | refine we_c (L2.GCn.dp (by assumption)) ?_ | refine we_cv ?_)
local macro_rules | `(tactic| walk_at "e") => `(tactic| first
  | walk_at "v" | with_reducible refine wa_nil ?_ | with_reducible refine wa_cons ?_ | with_reducible refine we_I0i ?_ | with_reducible refine we_I0b ?_ | with_reducible refine we_Ii ?_ | with_reducible refine we_eqD ?_ | with_reducible refine we_neD ?_ | with_reducible refine we_ix ?_ | with_reducible refine we_tup ?_ | with_reducible refine we_lst ?_ | with_reducible refine wt_test ?_ | with_reducible refine wt_B ?_ | with_reducible refine wt_not ?_ | with_reducible refine wt_and ?_ | with_reducible refine wt_or ?_ | with_reducible refine we_if ?_ | with_reducible refine we_andV ?_ | with_reducible refine we_orV ?_ | with_reducible refine we_notV ?_ | with_reducible refine we_neg ?_ | with_reducible refine we_chain ?_ | with_reducible refine we_slT ?_ | with_reducible refine wo_no ?_ | with_reducible refine wo_some ?_
  | with_reducible refine ws_seq ?_ | with_reducible refine ws_ret ?_ | with_reducible refine ws_asg2 (by decide) ?_ | with_reducible refine ws_asg ?_ | with_reducible refine ws_drop ?_ | with_reducible refine ws_if ?_ | with_reducible refine wg_d ?_ | with_reducible refine wg_ol ?_ | with_reducible refine wg_oK ?_ | with_reducible refine wgs_nil ?_ | with_reducible refine wgs_cons ?_  | with_reducible refine ws_next ?_ | with_reducible refine ws_par (by decide) ?_ | with_reducible refine ws_asg2 (by decide) ?_
  | with_reducible refine we_len ?_ | with_reducible refine we_isi ?_ | with_reducible refine we_gcdG ?_ | with_reducible refine we_fld ?_ | with_reducible refine we_tuple ?_ | with_reducible refine we_list ?_ | with_reducible refine we_inI ?_
  | refine wg_tup rfl ?_ | refine wgs_cons ?_ | refine wgs_nil ?_)
/-- what a step asks, where it is plain -/
local macro_rules | `(tactic| walk_at "c") => `(tactic| first
  | refine ⟨_, rfl, un_d, ?_⟩ | refine ⟨_, rfl, un_ol, ?_⟩ | refine ⟨_, rfl, un_oK, ?_⟩ | refine ⟨_, rfl, un_oN, ?_⟩ | refine ⟨_, rfl, un_rv, ?_⟩
  | refine ⟨true, rfl, fun _ => ?_, tt_ff⟩ | refine ⟨true, rfl, ff_tt, fun _ => ?_⟩ | refine ⟨false, rfl, ff_tt, fun _ => ?_⟩ | refine ⟨false, rfl, fun _ => ?_, tt_ff⟩
  | with_reducible refine ⟨_, rfl, fun _ => ?_, tt_ff⟩ | with_reducible refine ⟨_, rfl, ff_tt, fun _ => ?_⟩ | refine ⟨_, rfl, fun _ => ?_, fun _ => ?_⟩
  | with_reducible refine ⟨fun _ => ?_, tt_ff⟩ | with_reducible refine ⟨ff_tt, fun _ => ?_⟩ | with_reducible refine ⟨fun _ => ?_, fun _ => ?_⟩
  | refine ⟨_, _, rfl, rfl, fun _ => ?_, tt_ff⟩ | refine ⟨_, _, rfl, rfl, ff_tt, fun _ => ?_⟩ | refine ⟨_, _, rfl, rfl, fun _ => ?_, fun _ => ?_⟩
  | refine ⟨_, rfl, ?_⟩
  | refine ⟨_, _, rfl, fun _ _ => ?_⟩
  | refine ⟨_, _, rfl, al_d, al_d, ?_⟩ | refine ⟨_, _, rfl, al_oN, al_ol, ?_⟩ | refine ⟨_, _, rfl, al_oK, al_ol, ?_⟩ | refine ⟨_, _, rfl, al_ol, al_ol, ?_⟩ | refine ⟨_, _, rfl, al_d, al_ol, ?_⟩
  | refine ⟨_, _, rfl, rfl, rfl, rfl, ?_⟩
  | refine ⟨_, _, rfl, rfl, ?_⟩
  | refine ⟨_, _, rfl, _, true, rfl, rfl, ?_⟩ | refine ⟨_, _, rfl, _, false, rfl, rfl, ?_⟩
  | refine ⟨_, _, _, .inr rfl, rfl, rfl, ?_⟩
  | refine ⟨_, rfl, _, .inr rfl, ?_⟩ | refine ⟨_, .inr rfl, ?_⟩ | refine ⟨_, .inl rfl, ?_⟩
  | refine ⟨[_, _], rfl, Nat.le_of_ble_eq_true rfl, ?_⟩
  | refine ⟨[_, _, _], rfl, Nat.le_of_ble_eq_true rfl, ?_⟩
  | refine ⟨[_], rfl, Nat.le_of_ble_eq_true rfl, ?_⟩
  | refine ⟨[], rfl, Nat.le_of_ble_eq_true rfl, ?_⟩)
local macro_rules | `(tactic| walk_at "E") => `(tactic| repeat' first | walk_at "e" | walk_at "c" | fail)
section
variable {Γ : Wd} {K : PySem.W.Frag} {mg : Str → Option Value}
/-- sorted numbers that are 0..n-1 -/
theorem sorted_range {T : List Nat} {n : Nat} {ms : List Int} (hl : T.length = n) (hlt : ∀ z ∈ T, z < n) (h6 : n ≤ 6) (hp : ms.Perm (iN T)) (hs : ms.Pairwise (· ≤ ·)) : ms = iN (List.range n) ↔ T.Nodup := by
  have hn : (iN (List.range n)).Nodup := by
    unfold iN
    rw [List.nodup_iff_pairwise_ne, List.pairwise_map]
    exact (List.pairwise_lt_range (n := n)).imp fun {a b} h e => by omega
  have hr : (iN (List.range n)).Pairwise (· ≤ ·) := by
    unfold iN
    rw [List.pairwise_map]
    exact (List.pairwise_lt_range (n := n)).imp fun {a b} h => by omega
  constructor
  · intro e
    have h2 : (iN T).Nodup := hp.nodup_iff.mp (e ▸ hn)
    unfold iN at h2
    rw [List.nodup_iff_pairwise_ne, List.pairwise_map] at h2
    rw [List.nodup_iff_pairwise_ne]
    exact h2.imp fun {a b} h e => h (by rw [e])
  · intro nd
    have hT : T.Perm (List.range n) := by
      have p : Pm T := ⟨nd, fun x hx => by rw [hl]; exact hlt x hx, by omega⟩
      refine (List.perm_ext_iff_of_nodup nd List.nodup_range).mpr fun x => ⟨fun hx => List.mem_range.mpr (hlt x hx), fun hx => p.mem (by rw [hl]; exact List.mem_range.mp hx)⟩
    exact sorted_eq (f := id) (fun _ _ e => e) (hp.trans (hT.map _)) hs hr
end
end K74
end
/-! ## W74r -/
section
namespace K74
open PySem PySem.Spec PyProof.Rows L2 AB
/-- one step of a walk -/
local macro_rules | `(tactic| walk_at "v") => `(tactic| first
  | refine we_d rfl ?_ | refine we_ol rfl ?_ | refine we_oK rfl ?_ | refine we_oN rfl ?_ | refine we_ob rfl ?_ | refine we_rv rfl ?_ | refine we_int ?_ | refine we_bl ?_ | refine we_non ?_ | refine we_str ?_ | refine we_sI rfl ?_ | refine we_c (L2.GCn.dp (by assumption)) ?_ | refine we_cv ?_)
local macro_rules | `(tactic| walk_at "e") => `(tactic| first
  | walk_at "v" | with_reducible refine wa_nil ?_ | with_reducible refine wa_cons ?_ | with_reducible refine we_I0i ?_ | with_reducible refine we_I0b ?_ | with_reducible refine we_Ii ?_ | with_reducible refine we_eqD ?_ | with_reducible refine we_neD ?_ | with_reducible refine we_ix ?_ | with_reducible refine we_tup ?_ | with_reducible refine we_lst ?_ | with_reducible refine wt_test ?_ | with_reducible refine wt_B ?_ | with_reducible refine wt_not ?_ | with_reducible refine wt_and ?_ | with_reducible refine wt_or ?_ | with_reducible refine we_if ?_ | with_reducible refine we_andV ?_ | with_reducible refine we_orV ?_ | with_reducible refine we_notV ?_ | with_reducible refine we_neg ?_ | with_reducible refine we_chain ?_ | with_reducible refine we_slT ?_ | with_reducible refine wo_no ?_ | with_reducible refine wo_some ?_
  | with_reducible refine ws_seq ?_ | with_reducible refine ws_ret ?_ | with_reducible refine ws_asg2 (by decide) ?_ | with_reducible refine ws_asg ?_ | with_reducible refine ws_drop ?_ | with_reducible refine ws_if ?_ | with_reducible refine wg_d ?_ | with_reducible refine wg_ol ?_ | with_reducible refine wg_oK ?_ | with_reducible refine wgs_nil ?_ | with_reducible refine wgs_cons ?_  | with_reducible refine ws_next ?_ | with_reducible refine ws_par (by decide) ?_ | with_reducible refine ws_asg2 (by decide) ?_
  | with_reducible refine we_len ?_ | with_reducible refine we_isi ?_ | with_reducible refine we_gcdG ?_ | with_reducible refine we_fld ?_ | with_reducible refine we_tuple ?_ | with_reducible refine we_list ?_ | with_reducible refine we_inI ?_
  | refine wg_tup rfl ?_ | refine wgs_cons ?_ | refine wgs_nil ?_)
/-- what a step asks, where it is plain -/
local macro_rules | `(tactic| walk_at "c") => `(tactic| first
  | refine ⟨_, rfl, un_d, ?_⟩ | refine ⟨_, rfl, un_ol, ?_⟩ | refine ⟨_, rfl, un_oK, ?_⟩ | refine ⟨_, rfl, un_oN, ?_⟩ | refine ⟨_, rfl, un_rv, ?_⟩
  | refine ⟨true, rfl, fun _ => ?_, tt_ff⟩ | refine ⟨true, rfl, ff_tt, fun _ => ?_⟩ | refine ⟨false, rfl, ff_tt, fun _ => ?_⟩ | refine ⟨false, rfl, fun _ => ?_, tt_ff⟩
  | with_reducible refine ⟨_, rfl, fun _ => ?_, tt_ff⟩ | with_reducible refine ⟨_, rfl, ff_tt, fun _ => ?_⟩ | refine ⟨_, rfl, fun _ => ?_, fun _ => ?_⟩
  | with_reducible refine ⟨fun _ => ?_, tt_ff⟩ | with_reducible refine ⟨ff_tt, fun _ => ?_⟩ | with_reducible refine ⟨fun _ => ?_, fun _ => ?_⟩
  | refine ⟨_, _, rfl, rfl, fun _ => ?_, tt_ff⟩ | refine ⟨_, _, rfl, rfl, ff_tt, fun _ => ?_⟩ | refine ⟨_, _, rfl, rfl, fun _ => ?_, fun _ => ?_⟩
  | refine ⟨_, rfl, ?_⟩
  | refine ⟨_, _, rfl, fun _ _ => ?_⟩
  | refine ⟨_, _, rfl, al_d, al_d, ?_⟩ | refine ⟨_, _, rfl, al_oN, al_ol, ?_⟩ | refine ⟨_, _, rfl, al_oK, al_ol, ?_⟩ | refine ⟨_, _, rfl, al_ol, al_ol, ?_⟩ | refine ⟨_, _, rfl, al_d, al_ol, ?_⟩
  | refine ⟨_, _, rfl, rfl, rfl, rfl, ?_⟩
  | refine ⟨_, _, rfl, rfl, ?_⟩
  | refine ⟨_, _, rfl, _, true, rfl, rfl, ?_⟩ | refine ⟨_, _, rfl, _, false, rfl, rfl, ?_⟩
  | refine ⟨_, _, _, .inr rfl, rfl, rfl, ?_⟩
  | refine ⟨_, rfl, _, .inr rfl, ?_⟩ | refine ⟨_, .inr rfl, ?_⟩ | refine ⟨_, .inl rfl, ?_⟩
  | refine ⟨[_, _], rfl, Nat.le_of_ble_eq_true rfl, ?_⟩
  | refine ⟨[_, _, _], rfl, Nat.le_of_ble_eq_true rfl, ?_⟩
  | refine ⟨[_], rfl, Nat.le_of_ble_eq_true rfl, ?_⟩
  | refine ⟨[], rfl, Nat.le_of_ble_eq_true rfl, ?_⟩)
local macro_rules | `(tactic| walk_at "E") => `(tactic| repeat' first | walk_at "e" | walk_at "c" | fail)
def Qt (R U E T : List Nat) (i : Nat) : Prop := at0 T (at0 R i) = at0 (inv R) (at0 T i) ∧ at0 T (at0 U i) = at0 (inv U) (at0 T i) ∧ decide (i ∈ E) = decide (at0 U (at0 R (at0 T i)) ∈ E)
theorem ht2_iff {R U E T : List Nat} {n : Nat} (hl : T.length = n) (hlt : ∀ z ∈ T, z < n) : HT2 R U E n (at0 T 0) T ↔ (∀ i, i < n → Qt R U E T i) ∧ T.Nodup := by
  constructor
  · intro h
    refine ⟨fun i hi => ⟨h.hom.r i hi, h.hom.u i hi, ?_⟩, h.nd⟩
    have := h.kp
    unfold Kp at this
    have := List.all_eq_true.mp this i (List.mem_range.mpr hi)
    exact eq_of_beq this
  · rintro ⟨h, nd⟩
    refine ⟨⟨hl, hlt, rfl, fun s hs => (h s hs).1, fun s hs => (h s hs).2.1⟩, nd, ?_⟩
    unfold Kp
    refine List.all_eq_true.mpr fun i hi => ?_
    rw [(h i (List.mem_range.mp hi)).2.2]
    exact beq_self_eq_true _
theorem clI : ∀ l : List Int, PyData.canLayAll0 (l.map .int) = true
  | [] => rfl
  | _ :: l => by
    show (_ && PyData.canLayAll0 (l.map .int)) = true
    rw [clI l]; rfl
theorem dpI : ∀ l : List Int, PyData.depthAll (l.map .int) ≤ 1
  | [] => Nat.zero_le _
  | _ :: l => Nat.max_le.mpr ⟨Nat.le_of_ble_eq_true rfl, dpI l⟩
theorem shI (l : List Int) : SeqAt.shaped (.list (l.map .int)) = true :=
  Bool.and_eq_true_iff.mpr ⟨clI l, decide_eq_true (show PyData.depthAll (l.map .int) + 1 ≤ 64 from by have := dpI l; omega)⟩
theorem neq_t {a b : Nat} (h : (!(PyData.int (a : Int)).eqv (PyData.int (b : Int))) = true) : a ≠ b := fun e => by
  rw [e, eqvI, decide_eq_true rfl] at h
  exact absurd h (by decide)
theorem neq_f {a b : Nat} (h : (!(PyData.int (a : Int)).eqv (PyData.int (b : Int))) = false) : a = b := by
  rw [eqvI] at h
  have h2 : decide ((a : Int) = (b : Int)) = true := by
    cases h3 : decide ((a : Int) = (b : Int)) with
    | true => rfl
    | false => rw [h3] at h; exact absurd h (by decide)
  exact Int.ofNat.inj (of_decide_eq_true h2)
theorem nb_t {a b : Nat} {l : List Nat} (h : (!(PyData.bool (if false then !decide ((a : Int) ∈ iN l) else decide ((a : Int) ∈ iN l))).eqv (PyData.bool (if false then !decide ((b : Int) ∈ iN l) else decide ((b : Int) ∈ iN l)))) = true) : ¬ decide (a ∈ l) = decide (b ∈ l) := fun e => by
  have e2 : decide ((a : Int) ∈ iN l) = decide ((b : Int) ∈ iN l) := by simpa only [mem_iN] using e
  rw [show (if false then !decide ((a : Int) ∈ iN l) else decide ((a : Int) ∈ iN l)) = decide ((a : Int) ∈ iN l) from rfl, e2] at h
  revert h
  cases decide ((b : Int) ∈ iN l) <;> decide
theorem nb_f {a b : Nat} {l : List Nat} (h : (!(PyData.bool (if false then !decide ((a : Int) ∈ iN l) else decide ((a : Int) ∈ iN l))).eqv (PyData.bool (if false then !decide ((b : Int) ∈ iN l) else decide ((b : Int) ∈ iN l)))) = false) : decide (a ∈ l) = decide (b ∈ l) := by
  have e2 : decide ((a : Int) ∈ iN l) = decide ((b : Int) ∈ iN l) := by
    revert h
    show (!(PyData.bool (decide ((a : Int) ∈ iN l))).eqv (PyData.bool (decide ((b : Int) ∈ iN l)))) = false → _
    cases decide ((a : Int) ∈ iN l) <;> cases decide ((b : Int) ∈ iN l) <;> decide
  simpa only [mem_iN] using e2
section
variable {Γ : Wd} {K : PySem.W.Frag} {mg : Str → Option Value}
def A_is_ht : DS := fun _ args k => ∃ (R U E T : List Nat) (n : Nat), args = [.d (bd R U E), .d (tN T)] ∧ Bq R U n ∧ T.length = n ∧ (∀ z ∈ T, z < n) ∧ ∀ bb : Bool, (bb = true ↔ HT2 R U E n (at0 T 0) T) → k (.d (.bool bb))
theorem ws_law_is_half_turn : Goes Γ K 2 8 (t__law_is_half_turn Γ K A_contrary) A_is_ht := by
  rintro β args k ⟨R, U, E, T, n, rfl, b, hl, hlt, hk⟩
  refine ⟨rfl, ?_⟩
  show WS _ _ _ _ [_, _, _, _, _, _, _, _] _
  unfold t__law_is_half_turn
  have n6 := b.n6
  walk_at "E"
  refine we_callE ?_
  walk_at "E"
  refine ⟨_, _, rfl, ⟨R, rfl, b.r, rfl⟩, pure_tN _, ?_⟩
  walk_at "E"
  refine we_callE ?_
  walk_at "E"
  refine ⟨_, _, rfl, ⟨U, rfl, b.u, rfl⟩, pure_tN _, ?_⟩
  walk_at "E"
  refine ws_for (wi_range1 ?_)
  walk_at "E"
  refine ⟨by rw [lN_length, b.rl]; omega, by omega, ?_⟩
  rw [lN_length, Int.toNat_natCast, b.rl]
  refine ⟨fun i ρ' => ∃ (s6 s7 : AV), ρ' = [.d (bd R U E), .d (tN T), .d (tN R), .d (tN U), .d (tN (inv R)), .d (tN (inv U)), s6, s7] ∧ ∀ j, j < i → Qt R U E T j, ⟨_, _, rfl, fun j h => absurd h (Nat.not_lt_zero _)⟩, ?_, ?_⟩
  · rintro i d ρ' hd ⟨s6, s7, rfl, hQ⟩
    obtain ⟨hi, rfl⟩ := rg0 hd
    have ht : at0 T i < n := hlt _ (at0_mem (by rw [hl]; exact hi))
    have hR := (b.at hi).1
    have hU := (b.at hi).2.1
    have hRt := (b.at ht).1
    have bad : ¬ Qt R U E T i → k (.d (.bool false)) := fun h => hk false (Iff.intro (fun e => absurd e (by decide)) (fun e => absurd (((ht2_iff hl hlt).mp e).1 i hi) h))
    walk_at "E"
    refine ⟨_, _, _, .inr rfl, rfl, atI_N (k := i) (by rw [b.rl]; exact hi), ?_⟩
    walk_at "E"
    refine ⟨_, _, _, .inr rfl, rfl, atI_N (k := at0 R i) (by rw [hl]; exact hR), ?_⟩
    walk_at "E"
    refine ⟨_, _, _, .inr rfl, rfl, atI_N (k := i) (by rw [hl]; exact hi), ?_⟩
    walk_at "E"
    refine ⟨_, _, _, .inr rfl, rfl, atI_N (k := at0 T i) (by rw [inv_length, b.rl]; exact ht), ?_⟩
    walk_at "E"
    all_goals trace_state
    · rename_i hx _
      exact bad fun q => neq_t hx q.1
    · rename_i hx
      have h1 : at0 T (at0 R i) = at0 (inv R) (at0 T i) := neq_f hx
      refine ⟨_, _, _, .inr rfl, rfl, atI_N (k := i) (by rw [b.ul]; exact hi), ?_⟩
      walk_at "E"
      refine ⟨_, _, _, .inr rfl, rfl, atI_N (k := at0 U i) (by rw [hl]; exact hU), ?_⟩
      walk_at "E"
      refine ⟨_, _, _, .inr rfl, rfl, atI_N (k := i) (by rw [hl]; exact hi), ?_⟩
      walk_at "E"
      refine ⟨_, _, _, .inr rfl, rfl, atI_N (k := at0 T i) (by rw [inv_length, b.ul]; exact ht), ?_⟩
      walk_at "E"
      · rename_i hx2
        exact bad fun q => neq_t hx2 q.2.1
      · rename_i hx2
        have h2 : at0 T (at0 U i) = at0 (inv U) (at0 T i) := neq_f hx2
        refine ⟨_, _, _, .inr rfl, rfl, atI_N (k := i) (by rw [hl]; exact hi), ?_⟩
        walk_at "E"
        refine ⟨_, _, _, .inr rfl, rfl, atI_N (k := at0 T i) (by rw [b.rl]; exact ht), ?_⟩
        walk_at "E"
        refine ⟨_, _, _, .inr rfl, rfl, atI_N (k := at0 R (at0 T i)) (by rw [b.ul]; exact hRt), ?_⟩
        walk_at "E"
        refine ⟨_, iN E, rfl, .inr rfl, ?_⟩
        walk_at "E"
        refine ⟨_, iN E, rfl, .inr rfl, ?_⟩
        walk_at "E"
        · rename_i hx3
          exact bad fun q => nb_t hx3 q.2.2
        · rename_i hx3 j hj
          have h3 := nb_f hx3
          rcases Nat.lt_succ_iff_lt_or_eq.mp hj with h | h
          · exact hQ j h
          · rw [h]
            exact ⟨h1, h2, h3⟩
  · rintro ρ' ⟨s6, s7, rfl, hQ⟩
    rw [rgD_length] at hQ
    walk_at "E"
    refine we_sortedIT ?_
    walk_at "E"
    intro ms hp hs
    refine we_listRg1 ?_
    walk_at "E"
    refine ⟨by rw [lN_length, b.rl]; omega, by omega, ?_⟩
    walk_at "E"
    have hr : rgD 0 1 n = (iN (List.range n)).map .int := by
      simp [rgD, iN, List.map_map, Function.comp_def]
    rw [lN_length, Int.toNat_natCast, b.rl, hr]
    refine ⟨shI _, shI _, _, rfl, un_d, hk _ ?_⟩
    rw [eqv_lists, decide_eq_true_iff, sorted_range hl hlt n6 hp hs, ht2_iff hl hlt]
    exact Iff.intro (fun h => ⟨hQ, h⟩) (fun h => h.2)
end
end K74
end
/-! ## W74s -/
section
namespace K74
open PySem PySem.Spec PyProof.Rows L2 AB
/-- one step of a walk -/
local macro_rules | `(tactic| walk_at "v") => `(tactic| first
  | refine we_d rfl ?_ | refine we_ol rfl ?_ | refine we_oK rfl ?_ | refine we_oN rfl ?_ | refine we_ob rfl ?_ | refine we_rv rfl ?_ | refine we_int ?_ | refine we_bl ?_ | refine we_non ?_ | refine we_str ?_ | refine we_sI rfl ?_ | refine we_c (L2.GCn.dp (by assumption)) ?_ | refine we_cv ?_)
local macro_rules | `(tactic| walk_at "e") => `(tactic| first
  | walk_at "v" | with_reducible refine wa_nil ?_ | with_reducible refine wa_cons ?_ | with_reducible refine we_I0i ?_ | with_reducible refine we_I0b ?_ | with_reducible refine we_Ii ?_ | with_reducible refine we_eqD ?_ | with_reducible refine we_neD ?_ | with_reducible refine we_ix ?_ | with_reducible refine we_tup ?_ | with_reducible refine we_lst ?_ | with_reducible refine wt_test ?_ | with_reducible refine wt_B ?_ | with_reducible refine wt_not ?_ | with_reducible refine wt_and ?_ | with_reducible refine wt_or ?_ | with_reducible refine we_if ?_ | with_reducible refine we_andV ?_ | with_reducible refine we_orV ?_ | with_reducible refine we_notV ?_ | with_reducible refine we_neg ?_ | with_reducible refine we_chain ?_ | with_reducible refine we_slT ?_ | with_reducible refine wo_no ?_ | with_reducible refine wo_some ?_
  | with_reducible refine ws_seq ?_ | with_reducible refine ws_ret ?_ | with_reducible refine ws_asg2 (by decide) ?_ | with_reducible refine ws_asg ?_ | with_reducible refine ws_drop ?_ | with_reducible refine ws_if ?_ | with_reducible refine wg_d ?_ | with_reducible refine wg_ol ?_ | with_reducible refine wg_oK ?_ | with_reducible refine wgs_nil ?_ | with_reducible refine wgs_cons ?_  | with_reducible refine ws_next ?_ | with_reducible refine ws_par (by decide) ?_ | with_reducible refine ws_asg2 (by decide) ?_
  | with_reducible refine we_len ?_ | with_reducible refine we_isi ?_ | with_reducible refine we_gcdG ?_ | with_reducible refine we_fld ?_ | with_reducible refine we_tuple ?_ | with_reducible refine we_list ?_ | with_reducible refine we_inI ?_
  | refine wg_tup rfl ?_ | refine wgs_cons ?_ | refine wgs_nil ?_)
/-- what a step asks, where it is plain -/
local macro_rules | `(tactic| walk_at "c") => `(tactic| first
  | refine ⟨_, rfl, un_d, ?_⟩ | refine ⟨_, rfl, un_ol, ?_⟩ | refine ⟨_, rfl, un_oK, ?_⟩ | refine ⟨_, rfl, un_oN, ?_⟩ | refine ⟨_, rfl, un_rv, ?_⟩
  | refine ⟨true, rfl, fun _ => ?_, tt_ff⟩ | refine ⟨true, rfl, ff_tt, fun _ => ?_⟩ | refine ⟨false, rfl, ff_tt, fun _ => ?_⟩ | refine ⟨false, rfl, fun _ => ?_, tt_ff⟩
  | with_reducible refine ⟨_, rfl, fun _ => ?_, tt_ff⟩ | with_reducible refine ⟨_, rfl, ff_tt, fun _ => ?_⟩ | refine ⟨_, rfl, fun _ => ?_, fun _ => ?_⟩
  | with_reducible refine ⟨fun _ => ?_, tt_ff⟩ | with_reducible refine ⟨ff_tt, fun _ => ?_⟩ | with_reducible refine ⟨fun _ => ?_, fun _ => ?_⟩
  | refine ⟨_, _, rfl, rfl, fun _ => ?_, tt_ff⟩ | refine ⟨_, _, rfl, rfl, ff_tt, fun _ => ?_⟩ | refine ⟨_, _, rfl, rfl, fun _ => ?_, fun _ => ?_⟩
  | refine ⟨_, rfl, ?_⟩
  | refine ⟨_, _, rfl, fun _ _ => ?_⟩
  | refine ⟨_, _, rfl, al_d, al_d, ?_⟩ | refine ⟨_, _, rfl, al_oN, al_ol, ?_⟩ | refine ⟨_, _, rfl, al_oK, al_ol, ?_⟩ | refine ⟨_, _, rfl, al_ol, al_ol, ?_⟩ | refine ⟨_, _, rfl, al_d, al_ol, ?_⟩
  | refine ⟨_, _, rfl, rfl, rfl, rfl, ?_⟩
  | refine ⟨_, _, rfl, rfl, ?_⟩
  | refine ⟨_, _, rfl, _, true, rfl, rfl, ?_⟩ | refine ⟨_, _, rfl, _, false, rfl, rfl, ?_⟩
  | refine ⟨_, _, _, .inr rfl, rfl, rfl, ?_⟩
  | refine ⟨_, rfl, _, .inr rfl, ?_⟩ | refine ⟨_, .inr rfl, ?_⟩ | refine ⟨_, .inl rfl, ?_⟩
  | refine ⟨[_, _], rfl, Nat.le_of_ble_eq_true rfl, ?_⟩
  | refine ⟨[_, _, _], rfl, Nat.le_of_ble_eq_true rfl, ?_⟩
  | refine ⟨[_], rfl, Nat.le_of_ble_eq_true rfl, ?_⟩
  | refine ⟨[], rfl, Nat.le_of_ble_eq_true rfl, ?_⟩)
local macro_rules | `(tactic| walk_at "E") => `(tactic| repeat' first | walk_at "e" | walk_at "c" | fail)
section
variable {Γ : Wd} {K : PySem.W.Frag} {mg : Str → Option Value}
theorem ws_keeps_ends (hT : (He.cT K (("keeps_ends" : Str), none)).2 ∈ Γ.T) : Goes Γ K 2 3 (t_keeps_ends Γ K A_ends_at A_far_corner) A_keeps := by
  rintro β args k ⟨R, U, E, T, n, rfl, b, hl, hlt, hk⟩
  refine ⟨rfl, ?_⟩
  show WS _ _ _ _ [_, _, _] _
  unfold t_keeps_ends
  have n6 := b.n6
  refine ws_ret ?_
  refine we_gx hT (gown_name (by decide)) (wi_range1 ?_)
  walk_at "E"
  refine ⟨by rw [lN_length, hl]; omega, by omega, ?_⟩
  rw [lN_length, Int.toNat_natCast, hl]
  have hx : ∀ i, i < n → (decide (i ∈ E) == decide (at0 U (at0 R (at0 T i)) ∈ E)) = Kp R U E T n ∨ (decide (i ∈ E) == decide (at0 U (at0 R (at0 T i)) ∈ E)) = true := fun i hi => by
    cases h : (decide (i ∈ E) == decide (at0 U (at0 R (at0 T i)) ∈ E)) with
    | true => exact .inr rfl
    | false =>
      left
      symm
      unfold Kp
      rw [List.all_eq_false]
      exact ⟨i, List.mem_range.mpr hi, by rw [h]; decide⟩
  refine ⟨unused_of rfl, fun i => ∀ j, j < i → (decide (j ∈ E) == decide (at0 U (at0 R (at0 T j)) ∈ E)) = true, fun j h => absurd h (Nat.not_lt_zero _), ?_, ?_⟩
  · intro i d hd hI
    obtain ⟨hi, rfl⟩ := rg0 hd
    have ht : at0 T i < n := hlt _ (at0_mem (by rw [hl]; exact hi))
    walk_at "E"
    refine ⟨weak_set rfl, wt_yes ⟨rfl, fun _ => ?_, fun h => by cases h⟩⟩
    refine we_eqD ?_
    refine we_callE ?_
    walk_at "E"
    refine ⟨_, _, rfl, ⟨R, U, E, i, rfl, rfl⟩, rfl, ?_⟩
    refine we_callE ?_
    walk_at "E"
    refine we_callE ?_
    walk_at "E"
    refine ⟨_, _, _, .inr rfl, rfl, atI_N (k := i) (by rw [hl]; exact hi), ?_⟩
    walk_at "E"
    refine ⟨_, _, rfl, ⟨R, U, E, at0 T i, rfl, b.r, b.ul.trans b.rl.symm, by rw [b.rl]; exact ht, rfl⟩, rfl, ?_⟩
    walk_at "E"
    refine ⟨_, _, rfl, ⟨R, U, E, at0 U (at0 R (at0 T i)), rfl, rfl⟩, rfl, ?_⟩
    refine ⟨_, _, rfl, rfl, rfl, rfl, rfl, _, rfl, fun hc j hj => ?_, fun hc => ?_⟩
    · rcases Nat.lt_succ_iff_lt_or_eq.mp hj with h | h
      · exact hI j h
      · rw [h]; exact hc
    · refine ⟨_, rfl, un_d, ?_⟩
      have h := hx i hi
      rcases h with h | h
      · have e : Kp R U E T n = false := by
          rw [← h]
          exact Bool.eq_false_iff.mpr hc
        rw [e] at hk
        exact hk
      · exact absurd h hc
  · intro hI
    rw [rgD_length] at hI
    refine ⟨_, rfl, un_d, ?_⟩
    have e : Kp R U E T n = true := by
      unfold Kp
      exact List.all_eq_true.mpr fun i hi => hI i (List.mem_range.mp hi)
    rw [e] at hk
    exact hk
end
end K74
end
/-! ## D74 -/
section
/-! D74: the draw, by hand over the heap. -/
namespace AB
open PySem PySem.Spec PyProof.Rows L2
section
variable {K : PySem.W.Frag}
abbrev dPlus : R2 := rI0 fun i j => .int (i + j)
abbrev dMul : R2 := rI CMul fun i j => .int (i * j)
abbrev dMod : R2 := rI (fun _ j => 0 < j) fun i j => .int (i % j)
abbrev dDiv : R2 := rI CDiv fun i j => .int (i / j)
abbrev dGt : R2 := rI0 fun i j => .bl (decide (j < i))
abbrev dLen (K : PySem.W.Frag) : List V → Hp → VK → Prop := fun xs H Q => ∃ p ys, xs = [.ref p] ∧ (SqL K H p ys ∨ SqT K H p ys) ∧ Q (.int ys.length) H
abbrev dInt : List V → Hp → VK → Prop := fun xs H Q => (∃ i, xs = [.int i] ∧ Q (.int i) H) ∨ ∃ k, xs = [.bl k] ∧ Q (.int (if k then 1 else 0)) H
theorem dx_var {i : Nat} {σ : L2.St} {H : Hp} {Q : VK} {v : V} (h : σ[i]? = some (some v)) (q : Q v H) : tVar i σ H Q := ⟨v, h, q⟩
theorem dx_ix {ta tb : TE} {σ : L2.St} {H : Hp} {Q : VK} {p : Addr} {xs : List V} {i : Int} {v : V} (ha : ∀ Q' : VK, Q' (.ref p) H → ta σ H Q') (hb : ∀ Q' : VK, Q' (.int i) H → tb σ H Q') (hx : H p = some (.lst xs)) (e : atI xs i = some v) (q : Q v H) : tOp (rIx K) ta tb σ H Q :=
  ha _ (hb _ (.inl ⟨p, xs, i, v, rfl, rfl, .of hx, e, q⟩))
theorem dx_I0 {g : Int → Int → V} {ta tb : TE} {σ : L2.St} {H : Hp} {Q : VK} {i j : Int} (ha : ∀ Q' : VK, Q' (.int i) H → ta σ H Q') (hb : ∀ Q' : VK, Q' (.int j) H → tb σ H Q') (q : Q (g i j) H) : tOp (rI0 g) ta tb σ H Q :=
  ha _ (hb _ ⟨i, j, rfl, rfl, q⟩)
theorem dx_I {C : Int → Int → Prop} {g : Int → Int → V} {ta tb : TE} {σ : L2.St} {H : Hp} {Q : VK} {i j : Int} (ha : ∀ Q' : VK, Q' (.int i) H → ta σ H Q') (hb : ∀ Q' : VK, Q' (.int j) H → tb σ H Q') (c : C i j) (q : Q (g i j) H) : tOp (rI C g) ta tb σ H Q :=
  ha _ (hb _ ⟨i, j, rfl, rfl, c, q⟩)
theorem dx_int {ta : TE} {σ : L2.St} {H : Hp} {Q : VK} {i : Int} (ha : ∀ Q' : VK, Q' (.int i) H → ta σ H Q') (q : Q (.int i) H) : tCB dInt (tCons ta tNil) σ H Q := ha _ (.inl ⟨i, rfl, q⟩)
theorem dx_len {ta : TE} {σ : L2.St} {H : Hp} {Q : VK} {p : Addr} {xs : List V} (ha : ∀ Q' : VK, Q' (.ref p) H → ta σ H Q') (hx : H p = some (.lst xs)) (q : Q (.int xs.length) H) : tCB (dLen K) (tCons ta tNil) σ H Q := ha _ ⟨p, xs, rfl, .inl (.of hx), q⟩
/-- the draw's reading -/
def tDraw (K : PySem.W.Frag) : TS :=
  (tSeq (tAsg (tOp dPlus (tOp (rIx K) (tVar 0) (tC (.int 1))) (tC (.int 1))) (gSub (tVar 0) (tC (.int 1)) rSetL))
  (tSeq (tIfS (tAnd (tTest (tOp (rEqD K) (tOp (rIx K) (tVar 0) (tC (.int 0))) (tC (.int 0)))) (tTest (tOp dGt (tCB (dLen K) (tCons (tOp (rIx K) (tVar 0) (tC (.int 2))) tNil)) (tC (.int 0)))))
  (tAsg (tBM0 K "list" rPop (tOp (rIx K) (tVar 0) (tC (.int 2)))) (gSub (tVar 0) (tC (.int 0)) rSetL))
  tNext)
  (tSeq (tIfS (tTest (tOp dGt (tOp (rIx K) (tVar 0) (tC (.int 0))) (tC (.int 0))))
  (tSeq (tAsg (tOp dMod (tCB dInt (tCons (tOp (rIx K) (tVar 0) (tC (.int 0))) tNil)) (tVar 1)) (gName 2))
  (tSeq (tAsg (tOp dDiv (tOp (rIx K) (tVar 0) (tC (.int 0))) (tVar 1)) (gSub (tVar 0) (tC (.int 0)) rSetL))
  (tRet (tVar 2))))
  tNext)
  (tSeq (tAsg (tOp (rIx K) (tOp (rIx K) (tVar 0) (tC (.int 3))) (tOp dMod (tCB dInt (tCons (tOp (rIx K) (tVar 0) (tC (.int 1))) tNil)) (tCB (dLen K) (tCons (tOp (rIx K) (tVar 0) (tC (.int 3))) tNil)))) (gName 3))
  (tSeq (tAsg (tOp dMod (tCB dInt (tCons (tOp dPlus (tOp dPlus (tOp dMul (tVar 3) (tC (.int 48271))) (tOp dMul (tOp (rIx K) (tVar 0) (tC (.int 1))) (tC (.int 69621)))) (tC (.int 1))) tNil)) (tC (.int 2147483647))) (gName 4))
  (tRet (tOp dMod (tOp dDiv (tOp dMod (tCB dInt (tCons (tOp dPlus (tOp dPlus (tOp dMul (tVar 4) (tVar 4)) (tOp dMul (tVar 4) (tC (.int 16807)))) (tOp dMul (tOp (rIx K) (tVar 0) (tC (.int 1))) (tC (.int 40014)))) tNil)) (tC (.int 2147483629))) (tC (.int 32))) (tVar 1))))))))
theorem upd_upd {H : Hp} {a : Addr} {o o' : HO} : upd (upd H a o) a o' = upd H a o' := by
  funext b
  by_cases h : b = a
  · subst h; rw [upd_same, upd_same]
  · rw [upd_ne h, upd_ne h, upd_ne h]
theorem upd_comm {H : Hp} {a c : Addr} {o o' : HO} (h : a ≠ c) : upd (upd H a o) c o' = upd (upd H c o') a o := by
  funext b
  by_cases h1 : b = a
  · subst h1
    rw [upd_ne h, upd_same, upd_same]
  · by_cases h2 : b = c
    · subst h2
      rw [upd_same, upd_ne h1, upd_same]
    · rw [upd_ne h2, upd_ne h1, upd_ne h1, upd_ne h2]
theorem atI_ints {cs : List Int} (hc : cs ≠ []) (z : Int) : ∃ c : Int, atI (cs.map V.int) (z % ((cs.map V.int).length : Int)) = some (.int c) := by
  have hl : 0 < cs.length := List.length_pos_iff.mpr hc
  have hm : (cs.map V.int).length = cs.length := List.length_map ..
  have h0 := Int.emod_nonneg z (show (((cs.map V.int).length : Nat) : Int) ≠ 0 by omega)
  have h1 := Int.emod_lt_of_pos z (show (0 : Int) < (((cs.map V.int).length : Nat) : Int) by omega)
  obtain ⟨j, hj⟩ : ∃ j : Nat, z % (((cs.map V.int).length : Nat) : Int) = (j : Int) := ⟨(z % (((cs.map V.int).length : Nat) : Int)).toNat, by omega⟩
  rw [hj] at h1 ⊢
  have hj2 : j < cs.length := by omega
  refine ⟨cs[j], ?_⟩
  unfold atI
  rw [hm, ixN_nat hj2]
  show (cs.map V.int)[j]? = _
  simp [hj2]
theorem ds_asg {te : TE} {i : Nat} {u : TS} {D : Ends} {σ : L2.St} {H : Hp} {v : V} (h : ∀ Q' : VK, Q' v H → te σ H Q') (q : u D (σ.set i (some v)) H) : tSeq (tAsg te (gName i)) u D σ H := h _ q
theorem ds_ret {te : TE} {D : Ends} {σ : L2.St} {H : Hp} (h : te σ H D.rt) : tRet te D σ H := h
/-- the last of it: the digit of a great cell, or twice mixed -/
theorem draw_tail {b g c : Addr} {m l n : Int} {cs : List Int} {H : Hp} {Q : VK} {σ : L2.St} (hm : 0 < m ∧ m < 1073741824) (h0 : σ[0]? = some (some (.ref b))) (h1 : σ[1]? = some (some (.int m))) (hl : 5 ≤ σ.length) (hb : H b = some (.lst [.int l, .int n, .ref g, .ref c])) (hcs : H c = some (.lst (cs.map V.int))) (hc : cs ≠ []) (bc : b ≠ c)
    (hq : ∀ (d l' n' : Int), 0 ≤ d → d < m → Q (.int d) (upd H b (.lst [.int l', .int n', .ref g, .ref c]))) {nx : L2.St → Hp → Prop} :
    (tSeq (tIfS (tTest (tOp dGt (tOp (rIx K) (tVar 0) (tC (.int 0))) (tC (.int 0))))
  (tSeq (tAsg (tOp dMod (tCB dInt (tCons (tOp (rIx K) (tVar 0) (tC (.int 0))) tNil)) (tVar 1)) (gName 2))
  (tSeq (tAsg (tOp dDiv (tOp (rIx K) (tVar 0) (tC (.int 0))) (tVar 1)) (gSub (tVar 0) (tC (.int 0)) rSetL))
  (tRet (tVar 2))))
  tNext)
  (tSeq (tAsg (tOp (rIx K) (tOp (rIx K) (tVar 0) (tC (.int 3))) (tOp dMod (tCB dInt (tCons (tOp (rIx K) (tVar 0) (tC (.int 1))) tNil)) (tCB (dLen K) (tCons (tOp (rIx K) (tVar 0) (tC (.int 3))) tNil)))) (gName 3))
  (tSeq (tAsg (tOp dMod (tCB dInt (tCons (tOp dPlus (tOp dPlus (tOp dMul (tVar 3) (tC (.int 48271))) (tOp dMul (tOp (rIx K) (tVar 0) (tC (.int 1))) (tC (.int 69621)))) (tC (.int 1))) tNil)) (tC (.int 2147483647))) (gName 4))
  (tRet (tOp dMod (tOp dDiv (tOp dMod (tCB dInt (tCons (tOp dPlus (tOp dPlus (tOp dMul (tVar 4) (tVar 4)) (tOp dMul (tVar 4) (tC (.int 16807)))) (tOp dMul (tOp (rIx K) (tVar 0) (tC (.int 1))) (tC (.int 40014)))) tNil)) (tC (.int 2147483629))) (tC (.int 32))) (tVar 1)))))) { nx := nx, rt := Q } σ H := by
  have v0 : ∀ {σ' : L2.St}, σ'[0]? = some (some (.ref b)) → ∀ {H' : Hp} (Q' : VK), Q' (.ref b) H' → tVar 0 σ' H' Q' := fun h _ _ q => dx_var h q
  have lit : ∀ {σ' : L2.St} {z : Int} {H' : Hp} (Q' : VK), Q' (.int z) H' → tC (.int z) σ' H' Q' := fun _ q => q
  have cell : ∀ {σ' : L2.St} (hσ : σ'[0]? = some (some (.ref b))) {z : Int} {v : V}, atI [V.int l, .int n, .ref g, .ref c] z = some v → ∀ Q' : VK, Q' v H → tOp (rIx K) (tVar 0) (tC (.int z)) σ' H Q' := fun {σ'} hσ {z v} e Q' q => dx_ix (v0 hσ) lit hb e q
  refine dx_I0 (cell h0 (v := .int l) rfl) lit ⟨_, rfl, ?_⟩
  by_cases hl0 : (0 : Int) < l
  · rw [decide_eq_true hl0]
    refine iteT ?_
    refine dx_I (i := l) (j := m) (fun Q' q => dx_int (cell h0 (v := .int l) rfl) q) (fun Q' q => dx_var h1 q) hm.1 ?_
    have g0 : (σ.set 2 (some (.int (l % m))))[0]? = some (some (.ref b)) := by rw [List.getElem?_set_ne (by decide)]; exact h0
    have g1 : (σ.set 2 (some (.int (l % m))))[1]? = some (some (.int m)) := by rw [List.getElem?_set_ne (by decide)]; exact h1
    refine dx_I (i := l) (j := m) (cell g0 (v := .int l) rfl) (fun Q' q => dx_var g1 q) hm ?_
    refine dx_var g0 ⟨b, _, 0, 0, rfl, rfl, hb, rfl, ?_⟩
    refine dx_var (v := .int (l % m)) (by rw [List.getElem?_set_self (by omega)]) ?_
    exact hq _ _ _ (Int.emod_nonneg _ (by omega)) (Int.emod_lt_of_pos _ hm.1)
  · rw [decide_eq_false hl0]
    refine iteF ?_
    obtain ⟨cv, hcv⟩ := atI_ints hc n
    have part : (tSeq (tAsg (tOp (rIx K) (tOp (rIx K) (tVar 0) (tC (.int 3))) (tOp dMod (tCB dInt (tCons (tOp (rIx K) (tVar 0) (tC (.int 1))) tNil)) (tCB (dLen K) (tCons (tOp (rIx K) (tVar 0) (tC (.int 3))) tNil)))) (gName 3))
  (tSeq (tAsg (tOp dMod (tCB dInt (tCons (tOp dPlus (tOp dPlus (tOp dMul (tVar 3) (tC (.int 48271))) (tOp dMul (tOp (rIx K) (tVar 0) (tC (.int 1))) (tC (.int 69621)))) (tC (.int 1))) tNil)) (tC (.int 2147483647))) (gName 4))
  (tRet (tOp dMod (tOp dDiv (tOp dMod (tCB dInt (tCons (tOp dPlus (tOp dPlus (tOp dMul (tVar 4) (tVar 4)) (tOp dMul (tVar 4) (tC (.int 16807)))) (tOp dMul (tOp (rIx K) (tVar 0) (tC (.int 1))) (tC (.int 40014)))) tNil)) (tC (.int 2147483629))) (tC (.int 32))) (tVar 1))))) { nx := nx, rt := Q } σ H := by
      refine ds_asg (v := .int cv) (fun Q' q => ?_) ?_
      · refine dx_ix (p := c) (xs := cs.map V.int) (i := n % ((cs.map V.int).length : Int)) (v := .int cv) (cell h0 (v := .ref c) rfl) (fun Q' q => ?_) hcs hcv q
        refine dx_I (i := n) (j := (cs.map V.int).length) (fun Q' q => dx_int (cell h0 (v := .int n) rfl) q) (fun Q' q => dx_len (cell h0 (v := .ref c) rfl) hcs q) ?_ q
        have : 0 < cs.length := List.length_pos_iff.mpr hc
        show (0 : Int) < (((cs.map V.int).length : Nat) : Int)
        rw [List.length_map]
        omega
      have g0 : (σ.set 3 (some (.int cv)))[0]? = some (some (.ref b)) := by rw [List.getElem?_set_ne (by decide)]; exact h0
      have g3 : (σ.set 3 (some (.int cv)))[3]? = some (some (.int cv)) := by rw [List.getElem?_set_self (by omega)]
      refine ds_asg (v := .int ((cv * 48271 + n * 69621 + 1) % 2147483647)) (fun Q' q => ?_) ?_
      · refine dx_I (i := cv * 48271 + n * 69621 + 1) (j := 2147483647) (fun Q' q => dx_int (fun Q' q => ?_) q) lit (show (0 : Int) < 2147483647 by decide) q
        refine dx_I0 (i := cv * 48271 + n * 69621) (j := 1) (fun Q' q => ?_) lit q
        refine dx_I0 (i := cv * 48271) (j := n * 69621) (fun Q' q => ?_) (fun Q' q => ?_) q
        · exact dx_I (fun Q' q => dx_var g3 q) lit (.inr ⟨by decide, by decide⟩) q
        · exact dx_I (cell g0 (v := .int n) rfl) lit (.inr ⟨by decide, by decide⟩) q
      have hm0 : (0 : Int) ≤ (cv * 48271 + n * 69621 + 1) % 2147483647 := Int.emod_nonneg _ (by decide)
      have hm1 : (cv * 48271 + n * 69621 + 1) % 2147483647 < 2147483647 := Int.emod_lt_of_pos _ (by decide)
      generalize (cv * 48271 + n * 69621 + 1) % 2147483647 = mx at hm0 hm1 ⊢
      have k0 : ((σ.set 3 (some (.int cv))).set 4 (some (.int mx)))[0]? = some (some (.ref b)) := by rw [List.getElem?_set_ne (by decide)]; exact g0
      have k1 : ((σ.set 3 (some (.int cv))).set 4 (some (.int mx)))[1]? = some (some (.int m)) := by rw [List.getElem?_set_ne (by decide), List.getElem?_set_ne (by decide)]; exact h1
      have k4 : ((σ.set 3 (some (.int cv))).set 4 (some (.int mx)))[4]? = some (some (.int mx)) := by rw [List.getElem?_set_self (by rw [List.length_set]; omega)]
      have big : ∀ x : Int, 0 ≤ x → x < 2147483647 → -(2 ^ 64) < x ∧ x < 2 ^ 64 := fun x _ _ => ⟨by omega, by omega⟩
      refine ds_ret ?_
      refine dx_I (i := (mx * mx + mx * 16807 + n * 40014) % 2147483629 / 32) (j := m) (fun Q' q => ?_) (fun Q' q => dx_var k1 q) hm.1 ?_
      · refine dx_I (i := (mx * mx + mx * 16807 + n * 40014) % 2147483629) (j := 32) (fun Q' q => ?_) lit ⟨by decide, by decide⟩ q
        refine dx_I (i := mx * mx + mx * 16807 + n * 40014) (j := 2147483629) (fun Q' q => dx_int (fun Q' q => ?_) q) lit (show (0 : Int) < 2147483629 by decide) q
        refine dx_I0 (i := mx * mx + mx * 16807) (j := n * 40014) (fun Q' q => ?_) (fun Q' q => dx_I (cell k0 (v := .int n) rfl) lit (.inr ⟨by decide, by decide⟩) q) q
        refine dx_I0 (i := mx * mx) (j := mx * 16807) (fun Q' q => ?_) (fun Q' q => dx_I (fun Q' q => dx_var k4 q) lit (.inr ⟨by decide, by decide⟩) q) q
        exact dx_I (fun Q' q => dx_var k4 q) (fun Q' q => dx_var k4 q) (.inl (big mx hm0 hm1)) q
      · have e : H = upd H b (.lst [.int l, .int n, .ref g, .ref c]) := by
          funext a
          by_cases ha : a = b
          · subst ha; rw [upd_same]; exact hb
          · rw [upd_ne ha]
        have z := hq ((mx * mx + mx * 16807 + n * 40014) % 2147483629 / 32 % m) l n (Int.emod_nonneg _ (by omega)) (Int.emod_lt_of_pos _ hm.1)
        rw [← e] at z
        exact z
    exact part
theorem pure_draw {vs : List V} {H : Hp} {Q : VK} {E : XK} {nx : L2.St → Hp → Prop} (h : spDraw vs H Q E) (N : List Str) (hN : N.length = 5) : tDraw K { nx := nx, rt := Q } (L2.start N vs) H := by
  obtain ⟨b, g, c, m, l, n, gs, cs, rfl, hm, hb, hg, hcs, hc, hcl, bg, bc, gc, hq⟩ := h
  have hs : L2.start N [.ref b, .int m] = [some (.ref b), some (.int m), none, none, none] := by
    unfold L2.start
    show [some (V.ref b), some (V.int m)] ++ List.replicate (N.length - 2) none = _
    rw [hN]
    rfl
  rw [hs]
  have h0 : ([some (.ref b), some (.int m), none, none, none] : L2.St)[0]? = some (some (.ref b)) := rfl
  have h1 : ([some (.ref b), some (.int m), none, none, none] : L2.St)[1]? = some (some (.int m)) := rfl
  generalize hσ : ([some (.ref b), some (.int m), none, none, none] : L2.St) = σ at h0 h1
  have hl : 5 ≤ σ.length := by rw [← hσ]; exact Nat.le_of_ble_eq_true rfl
  clear hσ hs
  have lit : ∀ {σ' : L2.St} {z : Int} {H' : Hp} (Q' : VK), Q' (.int z) H' → tC (.int z) σ' H' Q' := fun _ q => q
  unfold tDraw
  refine dx_I0 (i := n) (j := 1) (fun Q' q => dx_ix (fun Q' q => dx_var h0 q) lit hb (i := 1) (v := .int n) rfl q) lit ?_
  refine dx_var h0 ⟨b, _, 1, 1, rfl, rfl, hb, rfl, ?_⟩
  show (tSeq _ _) _ σ (upd H b (.lst [.int l, .int (n + 1), .ref g, .ref c]))
  have hb1 : upd H b (.lst [.int l, .int (n + 1), .ref g, .ref c]) b = some (.lst [.int l, .int (n + 1), .ref g, .ref c]) := upd_same
  have hg1 : upd H b (.lst [.int l, .int (n + 1), .ref g, .ref c]) g = some (.lst (gs.map V.int)) := by rw [upd_ne (Ne.symm bg)]; exact hg
  have hc1 : upd H b (.lst [.int l, .int (n + 1), .ref g, .ref c]) c = some (.lst (cs.map V.int)) := by rw [upd_ne (Ne.symm bc)]; exact hcs
  generalize hH1 : upd H b (.lst [.int l, .int (n + 1), .ref g, .ref c]) = H1 at hb1 hg1 hc1 ⊢
  have fin : ∀ (d l' n' : Int), 0 ≤ d → d < m → Q (.int d) (upd H1 b (.lst [.int l', .int n', .ref g, .ref c])) := fun d l' n' d0 d1 => by
    have z := hq d l' n' gs d0 d1
    have e : upd H1 b (.lst [.int l', .int n', .ref g, .ref c]) = upd (upd H b (.lst [.int l', .int n', .ref g, .ref c])) g (.lst (gs.map V.int)) := by
      rw [← hH1, upd_upd]
      funext a
      by_cases ha : a = g
      · subst ha; rw [upd_same, upd_ne (Ne.symm bg)]; exact hg
      · rw [upd_ne ha]
    rw [e]
    exact z
  have tail0 := draw_tail (K := K) (nx := nx) hm h0 h1 hl hb1 hc1 hc bc fin
  refine dx_ix (p := b) (fun Q' q => dx_var h0 q) lit hb1 (i := 0) (v := .int l) rfl ⟨.int l, .int 0, .int l, .int 0, rfl, rfl, ⟨_, rfl, ?_⟩⟩
  have cnt : ∀ (kb : Bool → Hp → Prop), kb (decide ((0 : Int) < gs.length)) H1 → tTest (tOp dGt (tCB (dLen K) (tCons (tOp (rIx K) (tVar 0) (tC (.int 2))) tNil)) (tC (.int 0))) σ H1 kb := fun kb q => by
    refine dx_I0 (i := ((gs.map V.int).length : Int)) (j := 0) (fun Q' q => dx_len (fun Q' q => dx_ix (fun Q' q => dx_var h0 q) lit hb1 (i := 2) (v := .ref g) rfl q) hg1 q) lit ⟨_, rfl, ?_⟩
    rw [List.length_map]
    exact q
  by_cases hl0 : PyData.eqv (.int l) (.int 0) = true
  · rw [hl0]
    refine iteT ?_
    refine cnt _ ?_
    by_cases hn0 : (0 : Int) < gs.length
    · rw [decide_eq_true hn0]
      refine iteT ?_
      refine dx_ix (p := b) (fun Q' q => dx_var h0 q) lit hb1 (i := 2) (v := .ref g) rfl ?_
      have hlen : 0 < gs.length := by omega
      refine ⟨?_, g, gs.map V.int, .int (gs[gs.length - 1]'(by omega)), rfl, rfl, hg1, by simp [show gs.length - 1 < gs.length by omega], ?_⟩
      · exact tyV_list hg1
      refine dx_var h0 ⟨b, _, 0, 0, rfl, rfl, by rw [upd_ne bg]; exact hb1, rfl, ?_⟩
      show (tSeq _ _) _ σ _
      have eg : (gs.map V.int).dropLast = gs.dropLast.map V.int := by rw [List.map_dropLast]
      rw [eg]
      refine draw_tail (K := K) (nx := nx) (l := gs[gs.length - 1]'(by omega)) (n := n + 1) (g := g) hm h0 h1 hl upd_same (by rw [upd_ne (Ne.symm bc), upd_ne (Ne.symm gc)]; exact hc1) hc bc fun d l' n' d0 d1 => ?_
      have z := hq d l' n' gs.dropLast d0 d1
      have e : upd (upd (upd H1 g (.lst (gs.dropLast.map V.int))) b (.lst ([V.int l, .int (n + 1), .ref g, .ref c].set 0 (.int (gs[gs.length - 1]'(by omega)))))) b (.lst [.int l', .int n', .ref g, .ref c]) = upd (upd H b (.lst [.int l', .int n', .ref g, .ref c])) g (.lst (gs.dropLast.map V.int)) := by
        rw [upd_upd, ← hH1, upd_comm (Ne.symm bg), upd_upd]
      exact e ▸ z
    · rw [decide_eq_false hn0]
      refine iteF ?_
      exact tail0
  · rw [Bool.eq_false_iff.mpr hl0]
    refine iteF (iteF ?_)
    exact tail0
end
end AB
end
/-! ## W74t -/
section
namespace K74
open PySem PySem.Spec PyProof.Rows L2 AB
/-- one step of a walk -/
local macro_rules | `(tactic| walk_at "v") => `(tactic| first
  | refine we_d rfl ?_ | refine we_ol rfl ?_ | refine we_oK rfl ?_ | refine we_oN rfl ?_ | refine we_ob rfl ?_ | refine we_rv rfl ?_ | refine we_int ?_ | refine we_bl ?_ | refine we_non ?_ | refine we_str ?_ | refine we_sI rfl ?_ | refine we_c (L2.GCn.dp (by assumption)) ?_ | refine we_cv ?_)
local macro_rules | `(tactic| walk_at "e") => `(tactic| first
  | walk_at "v" | with_reducible refine wa_nil ?_ | with_reducible refine wa_cons ?_ | with_reducible refine we_I0i ?_ | with_reducible refine we_I0b ?_ | with_reducible refine we_Ii ?_ | with_reducible refine we_eqD ?_ | with_reducible refine we_neD ?_ | with_reducible refine we_ix ?_ | with_reducible refine we_tup ?_ | with_reducible refine we_lst ?_ | with_reducible refine wt_test ?_ | with_reducible refine wt_B ?_ | with_reducible refine wt_not ?_ | with_reducible refine wt_and ?_ | with_reducible refine wt_or ?_ | with_reducible refine we_if ?_ | with_reducible refine we_andV ?_ | with_reducible refine we_orV ?_ | with_reducible refine we_notV ?_ | with_reducible refine we_neg ?_ | with_reducible refine we_chain ?_ | with_reducible refine we_slT ?_ | with_reducible refine wo_no ?_ | with_reducible refine wo_some ?_
  | with_reducible refine ws_seq ?_ | with_reducible refine ws_ret ?_ | with_reducible refine ws_asg2 (by decide) ?_ | with_reducible refine ws_asg ?_ | with_reducible refine ws_drop ?_ | with_reducible refine ws_if ?_ | with_reducible refine wg_d ?_ | with_reducible refine wg_ol ?_ | with_reducible refine wg_oK ?_ | with_reducible refine wgs_nil ?_ | with_reducible refine wgs_cons ?_  | with_reducible refine ws_next ?_ | with_reducible refine ws_par (by decide) ?_ | with_reducible refine ws_asg2 (by decide) ?_
  | with_reducible refine we_len ?_ | with_reducible refine we_isi ?_ | with_reducible refine we_gcdG ?_ | with_reducible refine we_fld ?_ | with_reducible refine we_tuple ?_ | with_reducible refine we_list ?_ | with_reducible refine we_inI ?_
  | refine wg_tup rfl ?_ | refine wgs_cons ?_ | refine wgs_nil ?_)
/-- what a step asks, where it is plain -/
local macro_rules | `(tactic| walk_at "c") => `(tactic| first
  | refine ⟨_, rfl, un_d, ?_⟩ | refine ⟨_, rfl, un_ol, ?_⟩ | refine ⟨_, rfl, un_oK, ?_⟩ | refine ⟨_, rfl, un_oN, ?_⟩ | refine ⟨_, rfl, un_rv, ?_⟩
  | refine ⟨true, rfl, fun _ => ?_, tt_ff⟩ | refine ⟨true, rfl, ff_tt, fun _ => ?_⟩ | refine ⟨false, rfl, ff_tt, fun _ => ?_⟩ | refine ⟨false, rfl, fun _ => ?_, tt_ff⟩
  | with_reducible refine ⟨_, rfl, fun _ => ?_, tt_ff⟩ | with_reducible refine ⟨_, rfl, ff_tt, fun _ => ?_⟩ | refine ⟨_, rfl, fun _ => ?_, fun _ => ?_⟩
  | with_reducible refine ⟨fun _ => ?_, tt_ff⟩ | with_reducible refine ⟨ff_tt, fun _ => ?_⟩ | with_reducible refine ⟨fun _ => ?_, fun _ => ?_⟩
  | refine ⟨_, _, rfl, rfl, fun _ => ?_, tt_ff⟩ | refine ⟨_, _, rfl, rfl, ff_tt, fun _ => ?_⟩ | refine ⟨_, _, rfl, rfl, fun _ => ?_, fun _ => ?_⟩
  | refine ⟨_, rfl, ?_⟩
  | refine ⟨_, _, rfl, fun _ _ => ?_⟩
  | refine ⟨_, _, rfl, al_d, al_d, ?_⟩ | refine ⟨_, _, rfl, al_oN, al_ol, ?_⟩ | refine ⟨_, _, rfl, al_oK, al_ol, ?_⟩ | refine ⟨_, _, rfl, al_ol, al_ol, ?_⟩ | refine ⟨_, _, rfl, al_d, al_ol, ?_⟩
  | refine ⟨_, _, rfl, rfl, rfl, rfl, ?_⟩
  | refine ⟨_, _, rfl, rfl, ?_⟩
  | refine ⟨_, _, rfl, _, true, rfl, rfl, ?_⟩ | refine ⟨_, _, rfl, _, false, rfl, rfl, ?_⟩
  | refine ⟨_, _, _, .inr rfl, rfl, rfl, ?_⟩
  | refine ⟨_, rfl, _, .inr rfl, ?_⟩ | refine ⟨_, .inr rfl, ?_⟩ | refine ⟨_, .inl rfl, ?_⟩
  | refine ⟨[_, _], rfl, Nat.le_of_ble_eq_true rfl, ?_⟩
  | refine ⟨[_, _, _], rfl, Nat.le_of_ble_eq_true rfl, ?_⟩
  | refine ⟨[_], rfl, Nat.le_of_ble_eq_true rfl, ?_⟩
  | refine ⟨[], rfl, Nat.le_of_ble_eq_true rfl, ?_⟩)
local macro_rules | `(tactic| walk_at "E") => `(tactic| repeat' first | walk_at "e" | walk_at "c" | fail)
section
variable {Γ : Wd} {K : PySem.W.Frag} {mg : Str → Option Value} {Hb H : Hp} {E : List (V × AV)} {σ : L2.St} {ρ : Rho}
/-- a statement by its abstract walk, what follows by hand -/
theorem ws_pre {β : Option Addr} {t u : TS} {D : Ends} {nx : Rho → Prop} (h : WS Γ K β t ρ { nx := nx, rt := fun _ => False }) (hn : NoAl E) (x : Ok Γ K β Hb E σ ρ H) (q : ∀ σ' ρ' H', nx ρ' → Ok Γ K β Hb E σ' ρ' H' → u D σ' H') : tSeq t u D σ H :=
  h Hb E σ H hn x _ q (fun _ _ _ _ f _ => f.elim) (fun _ _ _ f _ => f.elim) (fun _ _ _ f _ => f.elim)
theorem ints_of_all {ds : List PyData} (h : ∀ d ∈ ds, ∃ i : Int, d = .int i) : ∃ ns : List Int, ds = ns.map .int := by
  induction ds with
  | nil => exact ⟨[], rfl⟩
  | cons d ds ih =>
    obtain ⟨i, rfl⟩ := h d List.mem_cons_self
    obtain ⟨ns, rfl⟩ := ih fun e he => h e (List.mem_cons_of_mem _ he)
    exact ⟨i :: ns, rfl⟩
theorem bag_pure {vs : List V} {H : Hp} {Q : VK} {E : XK} {nx : L2.St → Hp → Prop} (h : spBag Γ K vs H Q E) : t__law_bag Γ K { nx := nx, rt := Q } (L2.start N__law_bag vs) H := by
  obtain ⟨Hb, v, ns, rfl, hl, x, hq⟩ := h
  have x0 := Ok.begin (N := N__law_bag) (vs := [v]) (args := [.d (.list (ns.map .int))]) rfl (show 1 ≤ 4 by decide) (fun r hr => by rw [List.mem_singleton.mp hr]; rfl) x
  have noE : NoAl ([] : List (V × AV)) := fun e he => by cases he
  have x1 : Ok Γ K none Hb [] (L2.start N__law_bag [v]) [.d (.list (ns.map .int)), .un, .un, .un] H := x0
  unfold t__law_bag
  -- cells
  refine ws_pre (nx := fun ρ' => ∃ cs : List Int, cs ≠ [] ∧ cs.length ≤ 901 ∧ ρ' = [.d (.list (ns.map .int)), .ol (cs.map .int), .un, .un]) ?_ noE x1 ?_
  · refine ws_asg (we_cat ?_)
    refine we_lc (gown_name (by decide)) (wi_list (we_d rfl (.inl ⟨_, rfl, ?_⟩)))
    refine ⟨unused_of rfl, by rw [List.length_map]; omega, fun i acc => acc.length = i ∧ ∃ cs : List Int, acc = cs.map .int, ⟨rfl, [], rfl⟩, ?_, ?_⟩
    · rintro i d acc hd hacc ⟨hl1, cs, rfl⟩
      obtain ⟨z, rfl⟩ : ∃ z : Int, d = .int z := by
        rw [List.getElem?_map] at hd
        cases q : ns[i]? with
        | none => rw [q] at hd; cases hd
        | some z => rw [q] at hd; cases hd; exact ⟨z, rfl⟩
      walk_at "E"
      refine ⟨weak_set rfl, wt_yes ⟨rfl, fun _ => ?_, fun h => by cases h⟩⟩
      refine we_abs (wa_cons (we_int1 (wa_cons (we_d rfl (wa_nil ⟨_, rfl, wa_nil ⟨_, rfl, ?_⟩⟩)))))
      refine ⟨rfl, _, rfl, by rw [List.length_append, hl1]; rfl, cs ++ [_], by rw [List.map_append]; rfl⟩
    · rintro acc ⟨hl1, cs, rfl⟩ _
      rw [List.length_map] at hl1 
      have hl2 : cs.length = ns.length := by rw [hl1, List.length_map]
      walk_at "E"
      refine ⟨_, [.int 7], .inl rfl, .inl rfl, by rw [List.length_map]; simp; omega, ?_⟩
      walk_at "E"
      exact ⟨cs ++ [7], by simp, by rw [List.length_append]; simp; omega, by rw [List.map_append]; rfl⟩
  · rintro σ1 ρ1 H1 ⟨cs, hc, hcl, rfl⟩ x2
    -- great
    refine ws_pre (nx := fun ρ' => ρ' = [.d (.list (ns.map .int)), .ol (cs.map .int), .ol [], .un]) ?_ noE x2 ?_
    · walk_at "E"
      exact rfl
    · rintro σ2 ρ2 H2 rfl x3
      refine ws_pre (nx := fun ρ' => ∃ (gs : List Int) (s1 : AV), (s1 = .ol (cs.map .int) ∨ s1 = .d (.list (cs.map .int))) ∧ ρ' = [.d (.list (ns.map .int)), s1, .ol (gs.map .int), .un]) ?_ noE x3 ?_
      · have ge : ∀ {ds : List PyData} {i : Nat} {d : PyData} {l : List Int}, ds = l.map .int → ds[i]? = some d → ∃ z : Int, d = .int z := fun {ds i d l} e hd => by
          rw [e, List.getElem?_map] at hd
          cases q : l[i]? with
          | none => rw [q] at hd; cases hd
          | some z => rw [q] at hd; cases hd; exact ⟨z, rfl⟩
        obtain ⟨c0, rest, rfl⟩ : ∃ c0 rest, cs = c0 :: rest := by
          cases cs with
          | nil => exact absurd rfl hc
          | cons a b => exact ⟨a, b, rfl⟩
        refine ws_if (wt_test (we_eqD ?_))
        refine we_Ii (we_int1 (wa_cons (we_ix (we_ol rfl (we_int ?_)))))
        refine ⟨_, _, .int c0, .inl rfl, rfl, atI_D (l := (c0 :: rest).map PyData.int) (k := 0) rfl, wa_nil ⟨_, rfl, ?_⟩⟩
        refine we_int ⟨_, _, rfl, rfl, by decide, we_int ⟨_, _, rfl, rfl, rfl, rfl, _, rfl, fun _ => ?_, fun _ => ?_⟩⟩
        · refine ws_seq (ws_asg ?_)
          refine we_lc (gown_name (by decide)) (wi_list (we_ol rfl (.inr (.inr ⟨_, _, rfl, rfl, ?_⟩))))
          refine ⟨unused_of rfl, by rw [List.length_map]; omega, fun i acc => ∃ gs : List Int, acc = gs.map .int, ⟨[], rfl⟩, ?_, ?_⟩
          · rintro i d acc hd hacc ⟨gs, rfl⟩
            obtain ⟨z, rfl⟩ := ge rfl hd
            refine wg_d ⟨weak_set rfl, wt_test (we_I0b (we_d rfl (we_Ii (we_int (we_int ⟨_, _, rfl, rfl, ⟨by decide, by decide, by decide⟩, ⟨_, _, rfl, rfl, _, rfl, rfl, fun _ => ?_, fun _ => ?_⟩⟩)))))⟩
            · refine we_Ii (we_d rfl (we_int ⟨_, _, rfl, rfl, ⟨by decide, by decide⟩, rfl, _, rfl, gs ++ [_], by rw [List.map_append]; rfl⟩))
            · exact ⟨gs, rfl⟩
          · rintro acc ⟨gs, rfl⟩ _
            refine wg_ol (ws_drop (we_reverse (we_ol rfl ⟨_, _, rfl, rfl, ?_⟩)))
            refine ⟨gs.reverse, _, .inr rfl, ?_⟩
            rw [← List.map_reverse]
            rfl
        · exact ws_next ⟨[], _, .inl rfl, rfl⟩
      · rintro σ3 ρ3 H3 ⟨gs, s1, hs1, rfl⟩ x4
        refine bag_ret noE x4 (fun b H' x5 => hq b H' x5) ?_
        refine wa_cons (we_int (wa_cons (we_int (wa_cons (we_ol rfl (wa_cons ?_))))))
        have go : ∀ ρ', ρ' = [.d (.list (ns.map .int)), .d (.list (cs.map .int)), .ol (gs.map .int), .un] → Unused ρ' [3] ∧ (cs.map PyData.int).length ≤ 100000 ∧ ∃ I : Nat → List PyData → Prop, I 0 [] ∧
            (∀ i d acc, (cs.map PyData.int)[i]? = some d → acc.length ≤ i → I i acc → WG Γ K none (gName 3) (.d d) ρ' fun ρ2 => Weak ρ2 ρ' ∧ WT Γ K none tYes ρ2 fun b ρ3 => ρ3 = ρ2 ∧ ((b = true → WE Γ K none (tOp (rI (fun _ j => 0 < j) fun i j => .int (i % j)) (tCB (fun xs H Q => (∃ i, xs = [.int i] ∧ Q (.int i) H) ∨ ∃ k, xs = [.bl k] ∧ Q (.int (if k then 1 else 0)) H) (tCons (tVar 3) tNil)) (tC (.int 2147483647))) ρ2 fun r ρ4 => ρ4 = ρ2 ∧ ∃ x, r = .d x ∧ I (i + 1) (acc ++ [x])) ∧ (b = false → I (i + 1) acc))) ∧
            (∀ acc, I (cs.map PyData.int).length acc → acc.length ≤ (cs.map PyData.int).length → WA Γ K none tNil ρ' fun rs ρ1 => ∃ (i : Nat) (gs' cs' : List Int), .d (.int 0) :: .d (.int 0) :: .al 2 :: .ol acc :: rs = [.d (.int 0), .d (.int 0), .al i, .ol (cs'.map .int)] ∧ ρ1[i]? = some (.ol (gs'.map .int)) ∧ cs' ≠ [] ∧ cs'.length ≤ 1000) := fun ρ' e => by
          subst e
          refine ⟨unused_of rfl, by rw [List.length_map]; omega, fun i acc => acc.length = i ∧ ∃ gs : List Int, acc = gs.map .int, ⟨rfl, [], rfl⟩, ?_, ?_⟩
          · rintro i d acc hd hacc ⟨hl, gs, rfl⟩
            obtain ⟨z, rfl⟩ : ∃ z : Int, d = .int z := by
              rw [List.getElem?_map] at hd
              cases q : cs[i]? with
              | none => rw [q] at hd; cases hd
              | some z => rw [q] at hd; cases hd; exact ⟨z, rfl⟩
            refine wg_d ⟨weak_set rfl, wt_yes ⟨rfl, fun _ => ?_, fun h => by cases h⟩⟩
            refine we_Ii (we_int1 (wa_cons (we_d rfl (wa_nil ⟨_, rfl, we_int ⟨_, _, rfl, rfl, by decide, rfl, _, rfl, by rw [List.length_append, hl]; rfl, gs ++ [_], by rw [List.map_append]; rfl⟩⟩))))
          · rintro acc ⟨hl, ms, rfl⟩ _
            rw [List.length_map, List.length_map] at hl
            refine wa_nil ⟨2, gs, ms, rfl, rfl, ?_, by omega⟩
            intro e
            rw [e] at hl
            exact hc (List.length_eq_zero_iff.mp hl.symm)
        refine we_lc (gown_name (by decide)) (wi_list ?_)
        rcases hs1 with rfl | rfl
        · exact we_ol rfl (.inr (.inr ⟨_, _, rfl, rfl, go _ rfl⟩))
        · exact we_d rfl (.inl ⟨_, rfl, go _ rfl⟩)
end
end K74
end
/-! ## ABH -/
section
/-! ABH: is None; data of ints and tuples; a promise that nobody asks. -/
namespace AB
open PySem PySem.Spec PyProof.Rows L2
section
variable {Γ : Wd} {K : PySem.W.Frag} {β : Option Addr} {Hb F F' H H' : Hp} {ow ow' : Ow} {E : List (V × AV)} {σ : L2.St} {ρ : Rho} {v : V} {r : AV} {te : TE} {tt : TT} {k : AV → Rho → Prop} {g : TG}
def isNoneD : PyData → Bool
  | .none => true
  | _ => false
theorem isNone_dp {x : PyData} {v : V} (h : Dp K F v x) : decide (v = .non) = isNoneD x := by
  cases h <;> first | rfl | exact decide_eq_false (fun z => by cases z)
theorem we_isN (h : WE Γ K β te ρ fun r ρ1 => ∃ d, look ρ1 r = some d ∧ k (.d (.bool (isNoneD d))) ρ1) : WE Γ K β (tIsN te) ρ k := fun Hb E σ H x Q f => h Hb E σ H x _ fun v r ρ1 H1 h1 x1 => by
  obtain ⟨d, l, q⟩ := h1
  obtain ⟨F, ow, x1⟩ := x1
  have e := x1.lookTop l
  show Q (.bl (decide (v = .non))) H1
  rw [isNone_dp e]
  exact f _ _ ρ1 H1 q (okD x1.pop1 (.bl _))
theorem we_notN (h : WE Γ K β te ρ fun r ρ1 => ∃ d, look ρ1 r = some d ∧ k (.d (.bool (!isNoneD d))) ρ1) : WE Γ K β (tNotN te) ρ k := fun Hb E σ H x Q f => h Hb E σ H x _ fun v r ρ1 H1 h1 x1 => by
  obtain ⟨d, l, q⟩ := h1
  obtain ⟨F, ow, x1⟩ := x1
  have e := x1.lookTop l
  show Q (.bl (!decide (v = .non))) H1
  rw [isNone_dp e]
  exact f _ _ ρ1 H1 q (okD x1.pop1 (.bl _))
mutual
/-- ints, tuples of such -/
def intT : PyData → Bool
  | .int _ => true
  | .tuple ds => intTs ds
  | _ => false
def intTs : List PyData → Bool
  | [] => true
  | d :: ds => intT d && intTs ds
end
mutual
/-- how deep the tuples stand -/
def dpt : PyData → Nat
  | .tuple ds => dpts ds + 1
  | _ => 0
def dpts : List PyData → Nat
  | [] => 0
  | d :: ds => max (dpt d) (dpts ds)
end
theorem intTs_get : ∀ {ds : List PyData} {i : Nat} {d : PyData}, intTs ds = true → ds[i]? = some d → intT d = true
  | [], _, _, _, e => by simp at e
  | x :: ds, 0, d, h, e => by
    rw [List.getElem?_cons_zero] at e
    have e' : x = d := Option.some.inj e
    subst e'
    exact (Bool.and_eq_true_iff.mp (show (intT x && intTs ds) = true from h)).1
  | x :: ds, i + 1, d, h, e => by
    rw [List.getElem?_cons_succ] at e
    exact intTs_get (i := i) (Bool.and_eq_true_iff.mp (show (intT x && intTs ds) = true from h)).2 e
theorem dpts_get : ∀ {ds : List PyData} {i : Nat} {d : PyData}, ds[i]? = some d → dpt d ≤ dpts ds
  | [], _, _, e => by simp at e
  | x :: ds, 0, d, e => by
    rw [List.getElem?_cons_zero] at e
    cases e
    exact Nat.le_max_left _ _
  | x :: ds, i + 1, d, e => by
    rw [List.getElem?_cons_succ] at e
    exact Nat.le_trans (dpts_get (i := i) e) (Nat.le_max_right _ _)
theorem eqvAll_len : ∀ {xs ys : List PyData}, PyData.eqvAll xs ys = true → xs.length = ys.length
  | [], [], _ => rfl
  | [], _ :: _, h => by cases h
  | _ :: _, [], h => by cases h
  | x :: xs, y :: ys, h => by
    have h : (PyData.eqv x y && PyData.eqvAll xs ys) = true := h
    rw [List.length_cons, List.length_cons, eqvAll_len (Bool.and_eq_true_iff.mp h).2]
theorem eqvAll_of : ∀ {xs ys : List PyData}, xs.length = ys.length → (∀ (i : Nat) (x y : PyData), xs[i]? = some x → ys[i]? = some y → PyData.eqv x y = true) → PyData.eqvAll xs ys = true
  | [], [], _, _ => rfl
  | [], _ :: _, h, _ => by simp at h
  | _ :: _, [], h, _ => by simp at h
  | x :: xs, y :: ys, h, q => by
    show (PyData.eqv x y && PyData.eqvAll xs ys) = true
    rw [q 0 x y rfl rfl, eqvAll_of (xs := xs) (ys := ys) (by simpa using h) fun i a b ea eb => q (i + 1) a b ea eb]
    rfl
theorem eqvAll_get : ∀ {xs ys : List PyData} {i : Nat} {x y : PyData}, PyData.eqvAll xs ys = true → xs[i]? = some x → ys[i]? = some y → PyData.eqv x y = true
  | [], _, _, _, _, _, e, _ => by simp at e
  | _ :: _, [], _, _, _, _, _, e => by simp at e
  | x :: xs, y :: ys, 0, a, b, h, ea, eb => by
    rw [List.getElem?_cons_zero] at ea eb
    cases ea
    cases eb
    exact (Bool.and_eq_true_iff.mp (show (PyData.eqv _ _ && PyData.eqvAll xs ys) = true from h)).1
  | x :: xs, y :: ys, i + 1, a, b, h, ea, eb => by
    rw [List.getElem?_cons_succ] at ea eb
    exact eqvAll_get (i := i) (Bool.and_eq_true_iff.mp (show (PyData.eqv x y && PyData.eqvAll xs ys) = true from h)).2 ea eb
mutual
theorem intT_eq : ∀ {x y : PyData}, intT x = true → intT y = true → PyData.eqv x y = true → x = y
  | .int i, .int j, _, _, h => by
    have h : (i == j) = true := h
    rw [eq_of_beq h]
  | .tuple xs, .tuple ys, h1, h2, h => by rw [intTs_eq (xs := xs) (ys := ys) h1 h2 h]
  | .int _, .tuple _, _, _, h => by cases h
  | .tuple _, .int _, _, _, h => by cases h
  | .none, _, h, _, _ => by cases h
  | .bool _, _, h, _, _ => by cases h
  | .str _, _, h, _, _ => by cases h
  | .list _, _, h, _, _ => by cases h
  | .dict _, _, h, _, _ => by cases h
  | .int _, .none, _, h, _ => by cases h
  | .int _, .bool _, _, h, _ => by cases h
  | .int _, .str _, _, h, _ => by cases h
  | .int _, .list _, _, h, _ => by cases h
  | .int _, .dict _, _, h, _ => by cases h
  | .tuple _, .none, _, h, _ => by cases h
  | .tuple _, .bool _, _, h, _ => by cases h
  | .tuple _, .str _, _, h, _ => by cases h
  | .tuple _, .list _, _, h, _ => by cases h
  | .tuple _, .dict _, _, h, _ => by cases h
theorem intTs_eq : ∀ {xs ys : List PyData}, intTs xs = true → intTs ys = true → PyData.eqvAll xs ys = true → xs = ys
  | [], [], _, _, _ => rfl
  | [], _ :: _, _, _, h => by cases h
  | _ :: _, [], _, _, h => by cases h
  | x :: xs, y :: ys, h1, h2, h => by
    obtain ⟨a1, a2⟩ := Bool.and_eq_true_iff.mp (show (intT x && intTs xs) = true from h1)
    obtain ⟨b1, b2⟩ := Bool.and_eq_true_iff.mp (show (intT y && intTs ys) = true from h2)
    obtain ⟨c1, c2⟩ := Bool.and_eq_true_iff.mp (show (PyData.eqv x y && PyData.eqvAll xs ys) = true from h)
    rw [intT_eq a1 b1 c1, intTs_eq a2 b2 c2]
end
mutual
theorem intT_refl : ∀ {x : PyData}, intT x = true → PyData.eqv x x = true
  | .int i, _ => by show (i == i) = true; exact beq_self_eq_true i
  | .tuple xs, h => by show PyData.eqvAll xs xs = true; exact intTs_refl (xs := xs) h
  | .none, h => by cases h
  | .bool _, h => by cases h
  | .str _, h => by cases h
  | .list _, h => by cases h
  | .dict _, h => by cases h
theorem intTs_refl : ∀ {xs : List PyData}, intTs xs = true → PyData.eqvAll xs xs = true
  | [], _ => rfl
  | x :: xs, h => by
    obtain ⟨a1, a2⟩ := Bool.and_eq_true_iff.mp (show (intT x && intTs xs) = true from h)
    show (PyData.eqv x x && PyData.eqvAll xs xs) = true
    rw [intT_refl a1, intTs_refl a2]
    rfl
end
mutual
theorem intT_pure : ∀ {x : PyData}, intT x = true → pure x = true
  | .int i, _ => rfl
  | .tuple xs, h => intTs_pure (xs := xs) h
  | .none, h => by cases h
  | .bool _, h => by cases h
  | .str _, h => by cases h
  | .list _, h => by cases h
  | .dict _, h => by cases h
theorem intTs_pure : ∀ {xs : List PyData}, intTs xs = true → pureAll xs = true
  | [], _ => rfl
  | x :: xs, h => by
    obtain ⟨a1, a2⟩ := Bool.and_eq_true_iff.mp (show (intT x && intTs xs) = true from h)
    show (pure x && pureAll xs) = true
    rw [intT_pure a1, intTs_pure a2]
    rfl
end
theorem fn_never {P : Program} {w : World} {mg : Str → Option Value} {base : Heap} {CX : CXT} {n : Nat} {f : Addr} {fd : FuncData} {ps : List Str} {sp : L2.Sp} (h : ∀ vs H Q E, sp vs H Q E → False) : FnOk P w K mg base CX n f fd ps sp :=
  ⟨fun vs H Q E q => (h _ _ _ _ q).elim, fun A outer s H args us vs Q E hr e0 hb hv q => (h _ _ _ _ q).elim⟩
theorem spA_never {Γ : Wd} {A : DS} (h : ∀ β args k, A β args k → False) : ∀ vs H Q E, spA Γ K A vs H Q E → False := fun vs H Q E ⟨β, Hb, args, k, _, _, a, _⟩ => h β args k a
end
end AB
end
/-! ## W74u -/
section
namespace K74
open PySem PySem.Spec PyProof.Rows L2 AB
/-- one step of a walk -/
local macro_rules | `(tactic| walk_at "v") => `(tactic| first
  | refine we_d rfl ?_ | refine we_ol rfl ?_ | refine we_oK rfl ?_ | refine we_oN rfl ?_ | refine we_ob rfl ?_ | refine we_rv rfl ?_ | refine we_int ?_ | refine we_bl ?_ | refine we_non ?_ | refine we_str ?_ | refine we_sI rfl ?_ | refine we_c (L2.GCn.dp (by assumption)) ?_ | refine we_cv ?_)
local macro_rules | `(tactic| walk_at "e") => `(tactic| first
  | walk_at "v" | with_reducible refine wa_nil ?_ | with_reducible refine wa_cons ?_ | with_reducible refine we_I0i ?_ | with_reducible refine we_I0b ?_ | with_reducible refine we_Ii ?_ | with_reducible refine we_eqD ?_ | with_reducible refine we_neD ?_ | with_reducible refine we_ix ?_ | with_reducible refine we_tup ?_ | with_reducible refine we_lst ?_ | with_reducible refine wt_test ?_ | with_reducible refine wt_B ?_ | with_reducible refine wt_not ?_ | with_reducible refine wt_and ?_ | with_reducible refine wt_or ?_ | with_reducible refine we_if ?_ | with_reducible refine we_andV ?_ | with_reducible refine we_orV ?_ | with_reducible refine we_notV ?_ | with_reducible refine we_neg ?_ | with_reducible refine we_chain ?_ | with_reducible refine we_slT ?_ | with_reducible refine wo_no ?_ | with_reducible refine wo_some ?_
  | with_reducible refine ws_seq ?_ | with_reducible refine ws_ret ?_ | with_reducible refine ws_asg2 (by decide) ?_ | with_reducible refine ws_asg ?_ | with_reducible refine ws_drop ?_ | with_reducible refine ws_if ?_ | with_reducible refine wg_d ?_ | with_reducible refine wg_ol ?_ | with_reducible refine wg_oK ?_ | with_reducible refine wgs_nil ?_ | with_reducible refine wgs_cons ?_  | with_reducible refine ws_next ?_ | with_reducible refine ws_par (by decide) ?_ | with_reducible refine ws_asg2 (by decide) ?_
  | with_reducible refine we_len ?_ | with_reducible refine we_isi ?_ | with_reducible refine we_gcdG ?_ | with_reducible refine we_fld ?_ | with_reducible refine we_tuple ?_ | with_reducible refine we_list ?_ | with_reducible refine we_inI ?_ | with_reducible refine we_isN ?_ | with_reducible refine we_notN ?_
  | refine wg_tup rfl ?_ | refine wgs_cons ?_ | refine wgs_nil ?_)
/-- what a step asks, where it is plain -/
local macro_rules | `(tactic| walk_at "c") => `(tactic| first
  | refine ⟨_, rfl, un_d, ?_⟩ | refine ⟨_, rfl, un_ol, ?_⟩ | refine ⟨_, rfl, un_oK, ?_⟩ | refine ⟨_, rfl, un_oN, ?_⟩ | refine ⟨_, rfl, un_rv, ?_⟩
  | refine ⟨true, rfl, fun _ => ?_, tt_ff⟩ | refine ⟨true, rfl, ff_tt, fun _ => ?_⟩ | refine ⟨false, rfl, ff_tt, fun _ => ?_⟩ | refine ⟨false, rfl, fun _ => ?_, tt_ff⟩
  | with_reducible refine ⟨_, rfl, fun _ => ?_, tt_ff⟩ | with_reducible refine ⟨_, rfl, ff_tt, fun _ => ?_⟩ | refine ⟨_, rfl, fun _ => ?_, fun _ => ?_⟩
  | with_reducible refine ⟨fun _ => ?_, tt_ff⟩ | with_reducible refine ⟨ff_tt, fun _ => ?_⟩ | with_reducible refine ⟨fun _ => ?_, fun _ => ?_⟩
  | refine ⟨_, _, rfl, rfl, fun _ => ?_, tt_ff⟩ | refine ⟨_, _, rfl, rfl, ff_tt, fun _ => ?_⟩ | refine ⟨_, _, rfl, rfl, fun _ => ?_, fun _ => ?_⟩
  | refine ⟨_, rfl, ?_⟩
  | refine ⟨_, _, rfl, fun _ _ => ?_⟩
  | refine ⟨_, _, rfl, al_d, al_d, ?_⟩ | refine ⟨_, _, rfl, al_oN, al_ol, ?_⟩ | refine ⟨_, _, rfl, al_oK, al_ol, ?_⟩ | refine ⟨_, _, rfl, al_ol, al_ol, ?_⟩ | refine ⟨_, _, rfl, al_d, al_ol, ?_⟩
  | refine ⟨_, _, rfl, rfl, rfl, rfl, ?_⟩
  | refine ⟨_, _, rfl, rfl, ?_⟩
  | refine ⟨_, _, rfl, _, true, rfl, rfl, ?_⟩ | refine ⟨_, _, rfl, _, false, rfl, rfl, ?_⟩
  | refine ⟨_, _, _, .inr rfl, rfl, rfl, ?_⟩
  | refine ⟨_, rfl, _, .inr rfl, ?_⟩ | refine ⟨_, .inr rfl, ?_⟩ | refine ⟨_, .inl rfl, ?_⟩
  | refine ⟨[_, _], rfl, Nat.le_of_ble_eq_true rfl, ?_⟩
  | refine ⟨[_, _, _], rfl, Nat.le_of_ble_eq_true rfl, ?_⟩
  | refine ⟨[_], rfl, Nat.le_of_ble_eq_true rfl, ?_⟩
  | refine ⟨[], rfl, Nat.le_of_ble_eq_true rfl, ?_⟩)
local macro_rules | `(tactic| walk_at "E") => `(tactic| repeat' first | walk_at "e" | walk_at "c" | fail)
/-! ### the same, kind by kind: of ints and tuples -/
/-- ints, tuples of such, n deep, not long -/
def dat : Nat → PyData → Prop
  | 0, y => ∃ j : Int, y = .int j
  | n + 1, y => (∃ j : Int, y = .int j) ∨ ∃ ys, y = .tuple ys ∧ ys.length ≤ 1000 ∧ ∀ d ∈ ys, dat n d
theorem dat_int : ∀ (n : Nat) (j : Int), dat n (.int j)
  | 0, j => ⟨j, rfl⟩
  | _ + 1, j => .inl ⟨j, rfl⟩
theorem dat_intT : ∀ {n : Nat} {y : PyData}, dat n y → intT y = true
  | 0, _, ⟨j, e⟩ => by rw [e]; rfl
  | _ + 1, _, .inl ⟨j, e⟩ => by rw [e]; rfl
  | n + 1, _, .inr ⟨ys, e, _, h⟩ => by
    rw [e]
    show intTs ys = true
    have all : ∀ zs : List PyData, (∀ d ∈ zs, dat n d) → intTs zs = true := fun zs => by
      induction zs with
      | nil => exact fun _ => rfl
      | cons a zs ih =>
        intro h
        show (intT a && intTs zs) = true
        rw [dat_intT (h a List.mem_cons_self), ih fun d hd => h d (List.mem_cons_of_mem _ hd)]
        rfl
    exact all ys h
def A_same : Nat → DS
  | 0 => fun _ _ _ => False
  | n + 1 => fun _ args k => ∃ x y : PyData, args = [.d x, .d y] ∧ intT x = true ∧ dat n y ∧ k (.d (.bool (PyData.eqv x y)))
section
variable {Γ : Wd} {K : PySem.W.Frag} {mg : Str → Option Value}
theorem ws_law_same (n : Nat) : Goes Γ K 2 3 (t__law_same Γ K (A_same n)) (A_same (n + 1)) := by
  rintro β args k ⟨x, y, rfl, hx, hy, hk⟩
  refine ⟨rfl, ?_⟩
  show WS _ _ _ _ [_, _, _] _
  unfold t__law_same
  cases y with
  | int j =>
    cases x with
    | int i =>
      walk_at "E"
      exact hk
    | tuple xs =>
      walk_at "E"
      exact hk
    | _ => cases hx
  | tuple ys =>
    cases x with
    | int i =>
      walk_at "E"
      exact hk
    | tuple xs =>
      obtain ⟨m, rfl, hl, hy⟩ : ∃ m, n = m + 1 ∧ ys.length ≤ 1000 ∧ ∀ d ∈ ys, dat m d := by
        cases n with
        | zero => obtain ⟨j, e⟩ := hy; cases e
        | succ m =>
          rcases hy with ⟨j, e⟩ | ⟨zs, e, h1, h2⟩
          · cases e
          · cases e; exact ⟨m, rfl, h1, h2⟩
      have hx : intTs xs = true := hx
      have hk : k (.d (.bool (PyData.eqvAll xs ys))) := hk
      walk_at "E"
      · rename_i h1
        have e : PyData.eqvAll xs ys = false := by
          cases h : PyData.eqvAll xs ys with
          | false => rfl
          | true =>
            rw [eqvI, eqvAll_len h, decide_eq_true rfl] at h1
            cases h1
        rw [e] at hk
        exact hk
      · rename_i h1
        have el : xs.length = ys.length := by
          rw [eqvI] at h1
          have h2 : decide ((xs.length : Int) = (ys.length : Int)) = true := by
            cases h3 : decide ((xs.length : Int) = (ys.length : Int)) with
            | true => rfl
            | false => rw [h3] at h1; cases h1
          have := of_decide_eq_true h2
          omega
        refine ws_for (wi_range1 ?_)
        walk_at "E"
        refine ⟨by omega, by omega, ?_⟩
        rw [Int.toNat_natCast]
        refine ⟨fun i ρ' => ∃ s2 : AV, ρ' = [.d (.tuple xs), .d (.tuple ys), s2] ∧ ∀ j x y, j < i → xs[j]? = some x → ys[j]? = some y → PyData.eqv x y = true, ⟨_, rfl, fun j x y h => absurd h (Nat.not_lt_zero _)⟩, ?_, ?_⟩
        · rintro i d ρ' hd ⟨s2, rfl, hI⟩
          obtain ⟨hi, rfl⟩ := rg0 hd
          have ex : xs[i]? = some (xs[i]'(by omega)) := List.getElem?_eq_getElem _
          have ey : ys[i]? = some (ys[i]'(by omega)) := List.getElem?_eq_getElem _
          generalize xs[i]'(by omega) = x at ex
          generalize ys[i]'(by omega) = y at ey
          walk_at "E"
          refine we_callE ?_
          walk_at "E"
          refine ⟨xs, _, x, .inr rfl, rfl, atI_D ex, ?_⟩
          walk_at "E"
          refine ⟨ys, _, y, .inr rfl, rfl, atI_D ey, ?_⟩
          walk_at "E"
          refine ⟨_, _, rfl, ⟨x, y, rfl, intTs_get hx ex, hy y (List.mem_of_getElem? ey), rfl⟩, rfl, ?_⟩
          walk_at "E"
          · rename_i h2
            have e : PyData.eqvAll xs ys = false := by
              cases h : PyData.eqvAll xs ys with
              | false => rfl
              | true =>
                rw [eqvAll_get h ex ey] at h2
                cases h2
            rw [e] at hk
            exact hk
          · rename_i h2
            intro j a b hj ea eb
            rcases Nat.lt_succ_iff_lt_or_eq.mp hj with h | h
            · exact hI j a b h ea eb
            · subst h
              rw [ex] at ea
              rw [ey] at eb
              cases ea
              cases eb
              cases h3 : PyData.eqv x y with
              | true => rfl
              | false => rw [h3] at h2; cases h2
        · rintro ρ' ⟨s2, rfl, hI⟩
          rw [rgD_length] at hI
          have e : PyData.eqvAll xs ys = true := eqvAll_of el fun i x y ex ey => hI i x y (List.getElem?_eq_some_iff.mp ey).1 ex ey
          walk_at "E"
          rw [e] at hk
          exact hk
    | _ => cases hx
  | _ =>
    have := dat_intT hy
    cases this
end
end K74
end
/-! ## W74v -/
section
namespace K74
open PySem PySem.Spec PyProof.Rows L2 AB
/-- one step of a walk -/
local macro_rules | `(tactic| walk_at "v") => `(tactic| first
  | refine we_d rfl ?_ | refine we_ol rfl ?_ | refine we_oK rfl ?_ | refine we_oN rfl ?_ | refine we_ob rfl ?_ | refine we_rv rfl ?_ | refine we_int ?_ | refine we_bl ?_ | refine we_non ?_ | refine we_str ?_ | refine we_sI rfl ?_ | refine we_c (L2.GCn.dp (by assumption)) ?_ | refine we_cv ?_)
local macro_rules | `(tactic| walk_at "e") => `(tactic| first
  | walk_at "v" | with_reducible refine wa_nil ?_ | with_reducible refine wa_cons ?_ | with_reducible refine we_I0i ?_ | with_reducible refine we_I0b ?_ | with_reducible refine we_Ii ?_ | with_reducible refine we_eqD ?_ | with_reducible refine we_neD ?_ | with_reducible refine we_ix ?_ | with_reducible refine we_tup ?_ | with_reducible refine we_lst ?_ | with_reducible refine wt_test ?_ | with_reducible refine wt_B ?_ | with_reducible refine wt_not ?_ | with_reducible refine wt_and ?_ | with_reducible refine wt_or ?_ | with_reducible refine we_if ?_ | with_reducible refine we_andV ?_ | with_reducible refine we_orV ?_ | with_reducible refine we_notV ?_ | with_reducible refine we_neg ?_ | with_reducible refine we_chain ?_ | with_reducible refine we_slT ?_ | with_reducible refine wo_no ?_ | with_reducible refine wo_some ?_
  | with_reducible refine ws_seq ?_ | with_reducible refine ws_ret ?_ | with_reducible refine ws_asg2 (by decide) ?_ | with_reducible refine ws_asg ?_ | with_reducible refine ws_drop ?_ | with_reducible refine ws_if ?_ | with_reducible refine wg_d ?_ | with_reducible refine wg_ol ?_ | with_reducible refine wg_oK ?_ | with_reducible refine wgs_nil ?_ | with_reducible refine wgs_cons ?_  | with_reducible refine ws_next ?_ | with_reducible refine ws_par (by decide) ?_ | with_reducible refine ws_asg2 (by decide) ?_
  | with_reducible refine we_len ?_ | with_reducible refine we_isi ?_ | with_reducible refine we_gcdG ?_ | with_reducible refine we_fld ?_ | with_reducible refine we_tuple ?_ | with_reducible refine we_list ?_ | with_reducible refine we_inI ?_ | with_reducible refine we_isN ?_ | with_reducible refine we_notN ?_
  | refine wg_tup rfl ?_ | refine wgs_cons ?_ | refine wgs_nil ?_)
/-- what a step asks, where it is plain -/
local macro_rules | `(tactic| walk_at "c") => `(tactic| first
  | refine ⟨_, rfl, un_d, ?_⟩ | refine ⟨_, rfl, un_ol, ?_⟩ | refine ⟨_, rfl, un_oK, ?_⟩ | refine ⟨_, rfl, un_oN, ?_⟩ | refine ⟨_, rfl, un_rv, ?_⟩
  | refine ⟨true, rfl, fun _ => ?_, tt_ff⟩ | refine ⟨true, rfl, ff_tt, fun _ => ?_⟩ | refine ⟨false, rfl, ff_tt, fun _ => ?_⟩ | refine ⟨false, rfl, fun _ => ?_, tt_ff⟩
  | with_reducible refine ⟨_, rfl, fun _ => ?_, tt_ff⟩ | with_reducible refine ⟨_, rfl, ff_tt, fun _ => ?_⟩ | refine ⟨_, rfl, fun _ => ?_, fun _ => ?_⟩
  | with_reducible refine ⟨fun _ => ?_, tt_ff⟩ | with_reducible refine ⟨ff_tt, fun _ => ?_⟩ | with_reducible refine ⟨fun _ => ?_, fun _ => ?_⟩
  | refine ⟨_, _, rfl, rfl, fun _ => ?_, tt_ff⟩ | refine ⟨_, _, rfl, rfl, ff_tt, fun _ => ?_⟩ | refine ⟨_, _, rfl, rfl, fun _ => ?_, fun _ => ?_⟩
  | refine ⟨_, rfl, ?_⟩
  | refine ⟨_, _, rfl, fun _ _ => ?_⟩
  | refine ⟨_, _, rfl, al_d, al_d, ?_⟩ | refine ⟨_, _, rfl, al_oN, al_ol, ?_⟩ | refine ⟨_, _, rfl, al_oK, al_ol, ?_⟩ | refine ⟨_, _, rfl, al_ol, al_ol, ?_⟩ | refine ⟨_, _, rfl, al_d, al_ol, ?_⟩
  | refine ⟨_, _, rfl, rfl, rfl, rfl, ?_⟩
  | refine ⟨_, _, rfl, rfl, ?_⟩
  | refine ⟨_, _, rfl, _, true, rfl, rfl, ?_⟩ | refine ⟨_, _, rfl, _, false, rfl, rfl, ?_⟩
  | refine ⟨_, _, _, .inr rfl, rfl, rfl, ?_⟩
  | refine ⟨_, rfl, _, .inr rfl, ?_⟩ | refine ⟨_, .inr rfl, ?_⟩ | refine ⟨_, .inl rfl, ?_⟩
  | refine ⟨[_, _], rfl, Nat.le_of_ble_eq_true rfl, ?_⟩
  | refine ⟨[_, _, _], rfl, Nat.le_of_ble_eq_true rfl, ?_⟩
  | refine ⟨[_], rfl, Nat.le_of_ble_eq_true rfl, ?_⟩
  | refine ⟨[], rfl, Nat.le_of_ble_eq_true rfl, ?_⟩)
local macro_rules | `(tactic| walk_at "E") => `(tactic| repeat' first | walk_at "e" | walk_at "c" | fail)
/-! ### the law's own list of a half place -/
def own_tail (K : PySem.W.Frag) : TS :=
  (tSeq (tFor (iRng1 (tCons (tOp (rI CMul fun i j => .int (i * j)) (tCB (fun xs H Q => ∃ p ys, xs = [.ref p] ∧ (SqL K H p ys ∨ SqT K H p ys) ∧ Q (.int ys.length) H) (tCons (tVar 2) tNil)) (tCB (fun xs H Q => ∃ p ys, xs = [.ref p] ∧ (SqL K H p ys ∨ SqT K H p ys) ∧ Q (.int ys.length) H) (tCons (tVar 2) tNil))) tNil)) (gName 9)
  (tIfS (tTest (tOp (rI0 fun i j => .bl (decide (i < j))) (tVar 9) (tCB (fun xs H Q => ∃ p ys, xs = [.ref p] ∧ (SqL K H p ys ∨ SqT K H p ys) ∧ Q (.int ys.length) H) (tCons (tVar 8) tNil))))
  (tSeq (tAsg (tOp (rIx K) (tVar 8) (tVar 9)) (gTup K 2 (gCons (gName 10) (gCons (gName 11) gNil))))
  (tFor (iTup K (tTup (tCons (tTup (tCons (tOp (rIx K) (tVar 2) (tVar 10)) (tCons (tOp (rIx K) (tVar 4) (tVar 11)) tNil))) (tCons (tTup (tCons (tOp (rIx K) (tVar 3) (tVar 10)) (tCons (tOp (rIx K) (tVar 5) (tVar 11)) tNil))) tNil)))) (gName 12)
  (tIfS (tTest (tOp (rNotInD K) (tVar 12) (tVar 8)))
  (tDrop (tBM K "list" rAppend (tVar 8) (tCons (tVar 12) tNil)))
  tNext)))
  tNext))
  (tRet (tCB (fun xs H Q => ∃ p ys, xs = [.ref p] ∧ ((SqL K H p ys ∧ ∀ l, H l = none → Q (.ref l) (upd H l (.tup ys))) ∨ (SqT K H p ys ∧ Q (.ref p) H))) (tCons (tCB (rSortUE K) (tCons (tVar 8) tNil)) tNil))))
/-- found so far: the first i were followed -/
structure Gq (R U : List Nat) (p : Nat × Nat) (i : Nat) (L : List (Nat × Nat)) : Prop where
  nd : L.Nodup
  rch : ∀ q ∈ L, Rch R U p q
  p0 : p ∈ L
  cl : ∀ m q, m < i → L[m]? = some q → stR R q ∈ L ∧ stR U q ∈ L
theorem Gq.len {R U : List Nat} {n i : Nat} {p : Nat × Nat} {L : List (Nat × Nat)} (b : Bq R U n) (hp : p.1 < n ∧ p.2 < n) (c : Gq R U p i L) : L.length ≤ n * n := by
  have h := nodup_sub_lenP c.nd fun q hq => allP_mem (b.rch hp (c.rch q hq))
  have e : (allP n).length = n * n := by
    unfold allP
    rw [List.length_flatMap]
    simp only [List.length_map, List.length_range]
    rw [show (fun _ : Nat => n) = fun _ => n from rfl, List.map_const', List.sum_replicate_nat, List.length_range]
  omega
theorem Gq.done {R U : List Nat} {n : Nat} {p : Nat × Nat} {L : List (Nat × Nat)} (b : Bq R U n) (hp : p.1 < n ∧ p.2 < n) (c : Gq R U p (n * n) L) (q : Nat × Nat) : q ∈ L ↔ Rch R U p q := by
  refine ⟨c.rch q, fun h => ?_⟩
  have hl := c.len b hp
  have step : ∀ q, q ∈ L → stR R q ∈ L ∧ stR U q ∈ L := fun q hq => by
    obtain ⟨m, hm, e⟩ := List.getElem_of_mem hq
    exact c.cl m q (by omega) (by rw [List.getElem?_eq_getElem hm, e])
  induction h with
  | refl => exact c.p0
  | r _ ih => exact (step _ ih).1
  | u _ ih => exact (step _ ih).2
theorem eqv_pr (a b : Nat × Nat) : PyData.eqv (pr a) (pr b) = decide (a = b) := by
  have h := eqv_tups [(a.1 : Int), (a.2 : Int)] [(b.1 : Int), (b.2 : Int)]
  rw [show PyData.eqv (pr a) (pr b) = PyData.eqv (.tuple ([(a.1 : Int), (a.2 : Int)].map .int)) (.tuple ([(b.1 : Int), (b.2 : Int)].map .int)) from rfl, h, Bool.eq_iff_iff]
  simp only [decide_eq_true_eq]
  constructor
  · intro e
    injection e with e1 e2
    injection e2 with e2
    exact Prod.ext (by omega) (by omega)
  · rintro rfl; rfl
theorem any_pr (L : List (Nat × Nat)) (q : Nat × Nat) : ((prs L).any fun z => PyData.eqv z (pr q)) = decide (q ∈ L) := by
  induction L with
  | nil => rfl
  | cons p L ih =>
    show (PyData.eqv (pr p) (pr q) || (prs L).any fun z => PyData.eqv z (pr q)) = _
    rw [eqv_pr, ih, Bool.eq_iff_iff, Bool.or_eq_true, decide_eq_true_eq, decide_eq_true_eq, decide_eq_true_eq, List.mem_cons]
    constructor
    · rintro (h | h)
      · exact .inl h.symm
      · exact .inr h
    · rintro (h | h)
      · exact .inl h.symm
      · exact .inr h
theorem sh_prs0 : ∀ L : List (Nat × Nat), PyData.canLayAll0 (prs L) = true
  | [] => rfl
  | p :: L => by
    show (_ && PyData.canLayAll0 (prs L)) = true
    rw [sh_prs0 L]; rfl
theorem dp_prs : ∀ L : List (Nat × Nat), PyData.depthAll (prs L) ≤ 2
  | [] => Nat.zero_le _
  | p :: L => Nat.max_le.mpr ⟨Nat.le_of_ble_eq_true rfl, dp_prs L⟩
theorem sh_prsL (L : List (Nat × Nat)) : SeqAt.shaped (.list (prs L)) = true :=
  Bool.and_eq_true_iff.mpr ⟨sh_prs0 L, decide_eq_true (show PyData.depthAll (prs L) + 1 ≤ 64 from by have := dp_prs L; omega)⟩
theorem sh_prsT (L : List (Nat × Nat)) : SeqAt.shaped (.tuple (prs L)) = true :=
  Bool.and_eq_true_iff.mpr ⟨sh_prs0 L, decide_eq_true (show PyData.depthAll (prs L) + 1 ≤ 64 from by have := dp_prs L; omega)⟩
theorem sh_pr (p : Nat × Nat) : SeqAt.shaped (pr p) = true := rfl
theorem prs_get {L : List (Nat × Nat)} {i : Nat} {q : Nat × Nat} (h : L[i]? = some q) : (prs L)[i]? = some (pr q) := by unfold prs; rw [List.getElem?_map, h]; rfl
section
variable {Γ : Wd} {K : PySem.W.Frag} {mg : Str → Option Value} {β : Option Addr}
theorem ws_own_tail {R U E : List Nat} {n : Nat} {p : Nat × Nat} {d1 : PyData} {k : AV → Prop} {nx : Rho → Prop} (b : Bq R U n) (hp : p.1 < n ∧ p.2 < n)
    (hk : ∀ ps : List (Nat × Nat), ps.Nodup → (∀ q, q ∈ ps ↔ Rch R U p q) → SrtP ps → k (.d (.tuple (prs ps)))) :
    WS Γ K β (own_tail K) [.d (bd R U E), .d d1, .d (tN R), .d (tN U), .d (tN (inv R)), .d (tN (inv U)), .d (.int (p.1 : Nat)), .d (.int (p.2 : Nat)), .ol (prs [p]), .un, .un, .un, .un] { nx := nx, rt := k } := by
  unfold own_tail
  have n6 := b.n6
  have nn36 : n * n ≤ 36 := Nat.mul_le_mul n6 n6
  refine ws_seq (ws_for (wi_range1 ?_))
  walk_at "E"
  refine ⟨.inl ⟨by rw [lN_length, b.rl]; omega, by rw [lN_length, b.rl]; omega⟩, ?_⟩
  walk_at "E"
  have en : ((lN R).length : Int) * ((lN R).length : Int) = ((n * n : Nat) : Int) := by rw [lN_length, b.rl]; simp
  refine ⟨by rw [en]; omega, by rw [en]; omega, ?_⟩
  rw [en, Int.toNat_natCast]
  refine ⟨fun i ρ' => ∃ (L : List (Nat × Nat)) (s9 s10 s11 s12 : AV), ρ' = [.d (bd R U E), .d d1, .d (tN R), .d (tN U), .d (tN (inv R)), .d (tN (inv U)), .d (.int (p.1 : Nat)), .d (.int (p.2 : Nat)), .ol (prs L), s9, s10, s11, s12] ∧ Gq R U p i L,
    ⟨[p], _, _, _, _, rfl, ⟨by simp, fun q hq => by rw [List.mem_singleton.mp hq]; exact .refl, by simp, fun m q h => absurd h (Nat.not_lt_zero _)⟩⟩, ?_, ?_⟩
  · rintro i d ρ' hd ⟨L, s9, s10, s11, s12, rfl, c⟩
    obtain ⟨hi, rfl⟩ := rg0 hd
    have hL36 : L.length ≤ 36 := Nat.le_trans (c.len b hp) nn36
    walk_at "E"
    · rename_i h1
      have h1 := of_decide_eq_true h1
      rw [show (prs L).length = L.length from List.length_map ..] at h1
      have hiL : i < L.length := by omega
      obtain ⟨q, hq⟩ : ∃ q, L[i]? = some q := ⟨L[i], List.getElem?_eq_getElem hiL⟩
      have hqL : q ∈ L := List.mem_of_getElem? hq
      have hqr := c.rch q hqL
      have hqn := b.rch hp hqr
      refine ⟨_, _, pr q, .inl rfl, rfl, atI_D (prs_get hq), ?_⟩
      walk_at "E"
      refine ws_for (wi_tup ?_)
      walk_at "E"
      refine ⟨_, _, _, .inr rfl, rfl, atI_N (k := q.1) (by rw [b.rl]; exact hqn.1), ?_⟩
      walk_at "E"
      refine ⟨_, _, _, .inr rfl, rfl, atI_N (k := q.2) (by rw [inv_length, b.rl]; exact hqn.2), ?_⟩
      walk_at "E"
      refine ⟨_, _, _, .inr rfl, rfl, atI_N (k := q.1) (by rw [b.ul]; exact hqn.1), ?_⟩
      walk_at "E"
      refine ⟨_, _, _, .inr rfl, rfl, atI_N (k := q.2) (by rw [inv_length, b.ul]; exact hqn.2), ?_⟩
      walk_at "E"
      refine ⟨fun j ρ' => ∃ (t : List (Nat × Nat)) (s12 : AV), ρ' = [.d (bd R U E), .d d1, .d (tN R), .d (tN U), .d (tN (inv R)), .d (tN (inv U)), .d (.int (p.1 : Nat)), .d (.int (p.2 : Nat)), .ol (prs (L ++ t)), .d (.int (i : Nat)), .d (.int (q.1 : Nat)), .d (.int (q.2 : Nat)), s12] ∧
          (L ++ t).Nodup ∧ (∀ x ∈ L ++ t, Rch R U p x) ∧ (1 ≤ j → stR R q ∈ L ++ t) ∧ (2 ≤ j → stR U q ∈ L ++ t), ⟨[], s12, by rw [List.append_nil]; rfl, by rw [List.append_nil]; exact c.nd, by rw [List.append_nil]; exact c.rch, by omega, by omega⟩, ?_, ?_⟩
      · rintro j d ρ' hd ⟨t, s12, rfl, nd, rch, g1, g2⟩
        have pick : ∃ o : Nat × Nat, d = pr o ∧ Rch R U p o ∧ (j = 0 ∧ o = stR R q ∨ j = 1 ∧ o = stR U q) := by
          match j, hd with
          | 0, hd => cases hd; exact ⟨stR R q, rfl, .r hqr, .inl ⟨rfl, rfl⟩⟩
          | 1, hd => cases hd; exact ⟨stR U q, rfl, .u hqr, .inr ⟨rfl, rfl⟩⟩
          | j + 2, hd => cases hd
        obtain ⟨o, rfl, hor, hj⟩ := pick
        have hlen : (L ++ t).length ≤ 36 := Nat.le_trans (nodup_sub_lenP nd fun x hx => allP_mem (b.rch hp (rch x hx))) (allP_len n b.n6)
        refine wg_d (ws_if (wt_test (we_notInD (we_d rfl (we_ol rfl ⟨_, _, rfl, rfl, sh_pr o, sh_prsL _, _, rfl, fun hb => ?_, fun hb => ?_⟩)))))
        · rw [any_pr] at hb
          have hno : o ∉ L ++ t := fun h => by rw [decide_eq_true h] at hb; cases hb
          walk_at "E"
          refine we_append ?_
          walk_at "E"
          refine ⟨by rw [show (prs (L ++ t)).length = (L ++ t).length from List.length_map ..]; omega, ?_⟩
          refine ⟨t ++ [o], .d (pr o), by rw [← List.append_assoc, prs_append (L ++ t)]; rfl, ?_, ?_, fun _ => ?_, fun h => ?_⟩
          · rw [← List.append_assoc, List.nodup_append]
            exact ⟨nd, by simp, fun x hx y hy e => hno (by rw [List.mem_singleton] at hy; rw [← hy, ← e]; exact hx)⟩
          · intro x hx
            rw [← List.append_assoc] at hx
            rcases List.mem_append.mp hx with h | h
            · exact rch x h
            · rw [List.mem_singleton.mp h]; exact hor
          · rw [← List.append_assoc]
            rcases hj with ⟨e, e2⟩ | ⟨e, _⟩
            · rw [← e2]; exact List.mem_append_right _ (List.mem_singleton.mpr rfl)
            · exact List.mem_append_left _ (g1 (by omega))
          · rw [← List.append_assoc]
            rcases hj with ⟨e, _⟩ | ⟨e, e2⟩
            · omega
            · rw [← e2]; exact List.mem_append_right _ (List.mem_singleton.mpr rfl)
        · rw [any_pr] at hb
          have hin : o ∈ L ++ t := by
            refine Classical.byContradiction fun h => ?_
            rw [decide_eq_false h] at hb
            cases hb
          refine ws_next ⟨t, .d (pr o), rfl, nd, rch, fun _ => ?_, fun h => ?_⟩
          · rcases hj with ⟨e, e2⟩ | ⟨e, _⟩
            · rw [← e2]; exact hin
            · exact g1 (by omega)
          · rcases hj with ⟨e, _⟩ | ⟨e, e2⟩
            · omega
            · rw [← e2]; exact hin
      · rintro ρ' ⟨t, s12, rfl, nd, rch, g1, g2⟩
        refine ⟨L ++ t, _, _, _, _, rfl, nd, rch, List.mem_append_left _ c.p0, fun m x hm hx => ?_⟩
        by_cases hmi : m = i
        · subst hmi
          rw [List.getElem?_append_left hiL, hq] at hx
          cases hx
          exact ⟨g1 (Nat.le_of_ble_eq_true rfl), g2 (Nat.le_of_ble_eq_true rfl)⟩
        · rw [List.getElem?_append_left (by omega)] at hx
          have := c.cl m x (by omega) hx
          exact ⟨List.mem_append_left _ this.1, List.mem_append_left _ this.2⟩
    · rename_i h1
      have h1 := of_decide_eq_false h1
      rw [show (prs L).length = L.length from List.length_map ..] at h1
      refine ⟨L, _, _, _, _, rfl, c.nd, c.rch, c.p0, fun m x hm hx => ?_⟩
      have := (List.getElem?_eq_some_iff.mp hx).1
      exact c.cl m x (by omega) hx
  · rintro ρ' ⟨L, s9, s10, s11, s12, rfl, c⟩
    rw [rgD_length] at c
    have hL36 : L.length ≤ 36 := Nat.le_trans (c.len b hp) nn36
    refine ws_ret (we_tuple (wa_cons (we_sortedUE (wa_cons (we_ol rfl (wa_nil ⟨_, rfl, 2, 64, by decide, L.map nn, ?_, by rw [List.length_map]; omega, fun ns hn => ?_, fun mss hm hs => ?_⟩))))))
    · show some (PyData.list (prs L)) = some (.list ((L.map nn).map tI))
      rw [prs_nn]
    · obtain ⟨q, hq, rfl⟩ := List.mem_map.mp hn
      have := b.rch hp (c.rch q hq)
      exact ⟨rfl, bd_nn ⟨by omega, by omega⟩⟩
    · obtain ⟨qs, rfl, hpm⟩ := perm_nn hm
      rw [prs_nn]
      refine wa_nil ⟨_, rfl, _, .inl rfl, _, rfl, un_d, ?_⟩
      refine hk qs (hpm.nodup_iff.mpr c.nd) (fun q => (hpm.mem_iff).trans (c.done b hp q)) ?_
      rw [List.pairwise_map] at hs
      refine hs.imp fun {p q} h => ?_
      rw [code_nn, code_nn] at h
      omega
def A_own : DS := fun _ args k => ∃ (R U E : List Nat) (n s : Nat) (x y : Bool), args = [.d (bd R U E), .d (hfp s x y)] ∧ Bq R U n ∧ s < n ∧ (x = false → y = false → at0 (inv U) (at0 (inv R) s) = at0 (inv R) (at0 (inv U) s)) ∧
  ∀ ps : List (Nat × Nat), ps.Nodup → (∀ q, q ∈ ps ↔ Rch R U (fst0 R U s x y) q) → SrtP ps → k (.d (.tuple (prs ps)))
theorem ws_law_own_halves : Goes Γ K 2 13 (t__law_own_halves Γ K A_contrary) A_own := by
  rintro β args k ⟨R, U, E, n, s, x, y, rfl, b, hs, hxy, hk⟩
  refine ⟨rfl, ?_⟩
  show WS _ _ _ _ [_, _, _, _, _, _, _, _, _, _, _, _, _] _
  have hp := fst0_lt (x := x) (y := y) b hs
  have tl := fun d1 => ws_own_tail (Γ := Γ) (K := K) (β := β) (E := E) (d1 := d1) (k := k) (nx := fun _ => k (.d .none)) b hp hk
  unfold t__law_own_halves
  show WS _ _ _ (tSeq _ (tSeq _ (tSeq _ (tSeq _ (tSeq _ (tSeq _ (own_tail K))))))) _ _
  walk_at "E"
  refine we_callE ?_
  walk_at "E"
  refine ⟨_, _, rfl, ⟨R, rfl, b.r, rfl⟩, pure_tN _, ?_⟩
  walk_at "E"
  refine we_callE ?_
  walk_at "E"
  refine ⟨_, _, rfl, ⟨U, rfl, b.u, rfl⟩, pure_tN _, ?_⟩
  have hsn : s < n := hs
  have hRs : at0 (inv R) s < n := (b.at hs).2.2.1
  have hUs : at0 (inv U) s < n := (b.at hs).2.2.2
  have iR : ∀ {j : Nat}, j < n → atI (lN (inv R)) (j : Int) = some (.int (at0 (inv R) j : Nat)) := fun hj => atI_N (by rw [inv_length, b.rl]; exact hj)
  have iU : ∀ {j : Nat}, j < n → atI (lN (inv U)) (j : Int) = some (.int (at0 (inv U) j : Nat)) := fun hj => atI_N (by rw [inv_length, b.ul]; exact hj)
  cases x with
  | true =>
    cases y with
    | true =>
      walk_at "E"
      exact tl _
    | false =>
      walk_at "E"
      refine ⟨_, _, _, .inr rfl, rfl, iU hs, ?_⟩
      walk_at "E"
      exact tl _
  | false =>
    cases y with
    | true =>
      walk_at "E"
      refine ⟨_, _, _, .inr rfl, rfl, iR hs, ?_⟩
      walk_at "E"
      exact tl _
    | false =>
      have e := hxy rfl rfl
      have tl2 : ∀ d1 : PyData, WS Γ K β (own_tail K) [.d (bd R U E), .d d1, .d (tN R), .d (tN U), .d (tN (inv R)), .d (tN (inv U)), .d (.int (s : Nat)), .d (.int (at0 (inv R) (at0 (inv U) s) : Nat)), .ol [.tuple [.int (s : Nat), .int (at0 (inv R) (at0 (inv U) s) : Nat)]], .un, .un, .un, .un] { nx := fun _ => k (.d .none), rt := k } := fun d1 => by
        rw [← e]
        exact tl d1
      walk_at "E"
      refine ⟨_, _, _, .inr rfl, rfl, iR hs, ?_⟩
      walk_at "E"
      refine ⟨_, _, _, .inr rfl, rfl, iU hs, ?_⟩
      walk_at "E"
      refine ⟨_, _, _, .inr rfl, rfl, iR hUs, ?_⟩
      walk_at "E"
      exact tl2 _
end
end K74
end
/-! ## W74w -/
section
namespace K74
open PySem PySem.Spec PyProof.Rows L2 AB
/-- one step of a walk -/
local macro_rules | `(tactic| walk_at "v") => `(tactic| first
  | refine we_d rfl ?_ | refine we_ol rfl ?_ | refine we_oK rfl ?_ | refine we_oN rfl ?_ | refine we_ob rfl ?_ | refine we_rv rfl ?_ | refine we_int ?_ | refine we_bl ?_ | refine we_non ?_ | refine we_str ?_ | refine we_sI rfl ?_ | refine we_c (L2.GCn.dp (by assumption)) ?_ | refine we_cv ?_)
local macro_rules | `(tactic| walk_at "e") => `(tactic| first
  | walk_at "v" | with_reducible refine wa_nil ?_ | with_reducible refine wa_cons ?_ | with_reducible refine we_I0i ?_ | with_reducible refine we_I0b ?_ | with_reducible refine we_Ii ?_ | with_reducible refine we_eqD ?_ | with_reducible refine we_neD ?_ | with_reducible refine we_ix ?_ | with_reducible refine we_tup ?_ | with_reducible refine we_lst ?_ | with_reducible refine wt_test ?_ | with_reducible refine wt_B ?_ | with_reducible refine wt_not ?_ | with_reducible refine wt_and ?_ | with_reducible refine wt_or ?_ | with_reducible refine we_if ?_ | with_reducible refine we_andV ?_ | with_reducible refine we_orV ?_ | with_reducible refine we_notV ?_ | with_reducible refine we_neg ?_ | with_reducible refine we_chain ?_ | with_reducible refine we_slT ?_ | with_reducible refine wo_no ?_ | with_reducible refine wo_some ?_
  | with_reducible refine ws_seq ?_ | with_reducible refine ws_ret ?_ | with_reducible refine ws_asg2 (by decide) ?_ | with_reducible refine ws_asg ?_ | with_reducible refine ws_drop ?_ | with_reducible refine ws_if ?_ | with_reducible refine wg_d ?_ | with_reducible refine wg_ol ?_ | with_reducible refine wg_oK ?_ | with_reducible refine wgs_nil ?_ | with_reducible refine wgs_cons ?_  | with_reducible refine ws_next ?_ | with_reducible refine ws_par (by decide) ?_ | with_reducible refine ws_asg2 (by decide) ?_
  | with_reducible refine we_len ?_ | with_reducible refine we_isi ?_ | with_reducible refine we_gcdG ?_ | with_reducible refine we_fld ?_ | with_reducible refine we_tuple ?_ | with_reducible refine we_list ?_ | with_reducible refine we_inI ?_ | with_reducible refine we_isN ?_ | with_reducible refine we_notN ?_
  | refine wg_tup rfl ?_ | refine wgs_cons ?_ | refine wgs_nil ?_)
/-- what a step asks, where it is plain -/
local macro_rules | `(tactic| walk_at "c") => `(tactic| first
  | refine ⟨_, rfl, un_d, ?_⟩ | refine ⟨_, rfl, un_ol, ?_⟩ | refine ⟨_, rfl, un_oK, ?_⟩ | refine ⟨_, rfl, un_oN, ?_⟩ | refine ⟨_, rfl, un_rv, ?_⟩
  | refine ⟨true, rfl, fun _ => ?_, tt_ff⟩ | refine ⟨true, rfl, ff_tt, fun _ => ?_⟩ | refine ⟨false, rfl, ff_tt, fun _ => ?_⟩ | refine ⟨false, rfl, fun _ => ?_, tt_ff⟩
  | with_reducible refine ⟨_, rfl, fun _ => ?_, tt_ff⟩ | with_reducible refine ⟨_, rfl, ff_tt, fun _ => ?_⟩ | refine ⟨_, rfl, fun _ => ?_, fun _ => ?_⟩
  | with_reducible refine ⟨fun _ => ?_, tt_ff⟩ | with_reducible refine ⟨ff_tt, fun _ => ?_⟩ | with_reducible refine ⟨fun _ => ?_, fun _ => ?_⟩
  | refine ⟨_, _, rfl, rfl, fun _ => ?_, tt_ff⟩ | refine ⟨_, _, rfl, rfl, ff_tt, fun _ => ?_⟩ | refine ⟨_, _, rfl, rfl, fun _ => ?_, fun _ => ?_⟩
  | refine ⟨_, rfl, ?_⟩
  | refine ⟨_, _, rfl, fun _ _ => ?_⟩
  | refine ⟨_, _, rfl, al_d, al_d, ?_⟩ | refine ⟨_, _, rfl, al_oN, al_ol, ?_⟩ | refine ⟨_, _, rfl, al_oK, al_ol, ?_⟩ | refine ⟨_, _, rfl, al_ol, al_ol, ?_⟩ | refine ⟨_, _, rfl, al_d, al_ol, ?_⟩
  | refine ⟨_, _, rfl, rfl, rfl, rfl, ?_⟩
  | refine ⟨_, _, rfl, rfl, ?_⟩
  | refine ⟨_, _, rfl, _, true, rfl, rfl, ?_⟩ | refine ⟨_, _, rfl, _, false, rfl, rfl, ?_⟩
  | refine ⟨_, _, _, .inr rfl, rfl, rfl, ?_⟩
  | refine ⟨_, rfl, _, .inr rfl, ?_⟩ | refine ⟨_, .inr rfl, ?_⟩ | refine ⟨_, .inl rfl, ?_⟩
  | refine ⟨[_, _], rfl, Nat.le_of_ble_eq_true rfl, ?_⟩
  | refine ⟨[_, _, _], rfl, Nat.le_of_ble_eq_true rfl, ?_⟩
  | refine ⟨[_], rfl, Nat.le_of_ble_eq_true rfl, ?_⟩
  | refine ⟨[], rfl, Nat.le_of_ble_eq_true rfl, ?_⟩)
local macro_rules | `(tactic| walk_at "E") => `(tactic| repeat' first | walk_at "e" | walk_at "c" | fail)
/-! ### the law's own half turns -/
/-- the dict so far -/
def Vq (R U : List Nat) (n t : Nat) (m : List (Nat × Nat)) : Prop := Uq R U n t 0 t m (m.map (·.1))
theorem Vq.add {R U : List Nat} {n t o w : Nat} {m : List (Nat × Nat)} (c : Vq R U n t m) (hn : m.lookup o = none) (ho : o < n) (hw : w < n) (hT : ∀ T, Hom R U n t T → at0 T o = w) : Vq R U n t (m ++ [(o, w)]) := by
  have h := Uq.add c hn ho hw hT
  unfold Vq
  rw [List.map_append]
  exact h
theorem key_look {m : List (Nat × Nat)} {x : Nat} : x ∈ m.map (·.1) ↔ (m.lookup x).isSome = true := by
  constructor
  · intro h
    obtain ⟨p, hp, e⟩ := List.mem_map.mp h
    cases q : m.lookup x with
    | some v => rfl
    | none =>
      rw [List.lookup_eq_none_iff] at q
      have := q p hp
      rw [← e] at this
      simp at this
  · intro h
    obtain ⟨v, e⟩ := Option.isSome_iff_exists.mp h
    obtain ⟨l1, l2, e2, _⟩ := List.lookup_eq_some_iff.mp e
    rw [e2]
    simp
theorem look_mem {m : List (Nat × Nat)} (nd : (m.map (·.1)).Nodup) {s v : Nat} (h : m.lookup s = some v) : ∀ p ∈ m, p.1 = s → p.2 = v := by
  induction m with
  | nil => intro p hp; cases hp
  | cons a m ih =>
    rw [List.map_cons, List.nodup_cons] at nd
    rw [List.lookup_cons] at h
    intro p hp e
    by_cases hb : s = a.1
    · rw [show (s == a.1) = true from by rw [beq_iff_eq]; exact hb] at h
      have h : a.2 = v := Option.some.inj h
      rcases List.mem_cons.mp hp with z | z
      · rw [z]; exact h
      · exact absurd (by rw [← hb, ← e]; exact List.mem_map_of_mem (f := (·.1)) z) nd.1
    · rw [show (s == a.1) = false from by rw [beq_eq_false_iff_ne]; exact hb] at h
      rcases List.mem_cons.mp hp with z | z
      · rw [z] at e; exact absurd e.symm hb
      · exact ih nd.2 h p z e
theorem putP_old {m : List (Nat × Nat)} (nd : (m.map (·.1)).Nodup) {s v : Nat} (h : m.lookup s = some v) : putP (dN m) (Sum.inl (s : Int)) (.int (v : Int)) = dN m := by
  unfold putP
  have hs : s ∈ m.map (·.1) := key_look.mpr (by rw [h]; rfl)
  obtain ⟨p, hp, e⟩ := List.mem_map.mp hs
  rw [if_pos]
  · unfold dN
    rw [List.map_map]
    refine List.map_congr_left fun p hp => ?_
    show (if (Sum.inl (p.1 : Int) : Key) = Sum.inl (s : Int) then _ else _) = _
    by_cases e : p.1 = s
    · rw [if_pos (by rw [e]), look_mem nd h p hp e]
    · rw [if_neg (fun z => e (by injection z with z; omega))]
  · rw [List.any_eq_true]
    exact ⟨(Sum.inl (p.1 : Int), .int (p.2 : Int)), List.mem_map.mpr ⟨p, hp, rfl⟩, decide_eq_true (by rw [e])⟩
/-- d[s] = d.get(s, w) -/
def sd (m : List (Nat × Nat)) (s w : Nat) : List (Nat × Nat) := if (m.lookup s).isSome = true then m else m ++ [(s, w)]
theorem sd_put {m : List (Nat × Nat)} (nd : (m.map (·.1)).Nodup) (s w : Nat) : putP (dN m) (Sum.inl (s : Int)) ((getP (dN m) (Sum.inl (s : Int))).getD (.int (w : Int))) = dN (sd m s w) := by
  unfold sd
  rw [getP_dN]
  cases h : m.lookup s with
  | none => rw [if_neg (by decide)]; exact putP_dN h
  | some v => rw [if_pos (show (some v).isSome = true from rfl)]; exact putP_old nd h
theorem sd_keep {m : List (Nat × Nat)} {s w x v : Nat} (h : m.lookup x = some v) : (sd m s w).lookup x = some v := by
  unfold sd
  cases e : m.lookup s with
  | some z => rw [if_pos (show (some z).isSome = true from rfl)]; exact h
  | none =>
    rw [if_neg (by decide), lookup_append e]
    by_cases hx : x = s
    · subst hx; rw [h] at e; cases e
    · rw [if_neg hx]; exact h
theorem sd_has (m : List (Nat × Nat)) (s w : Nat) : ((sd m s w).lookup s).isSome = true := by
  unfold sd
  cases e : m.lookup s with
  | some z => rw [if_pos (show (some z).isSome = true from rfl), e]; rfl
  | none => rw [if_neg (by decide), lookup_append e, if_pos rfl]; rfl
theorem sd_pre (m : List (Nat × Nat)) (s w : Nat) : ∃ t, sd m s w = m ++ t := by
  unfold sd
  split
  · exact ⟨[], (List.append_nil _).symm⟩
  · exact ⟨_, rfl⟩
theorem Vq.sd {R U : List Nat} {n t o w : Nat} {m : List (Nat × Nat)} (c : Vq R U n t m) (ho : o < n) (hw : w < n) (hT : ∀ T, Hom R U n t T → at0 T o = w) : Vq R U n t (K74.sd m o w) := by
  unfold K74.sd
  cases e : m.lookup o with
  | some z => rw [if_pos (show (some z).isSome = true from rfl)]; exact c
  | none => rw [if_neg (by decide)]; exact c.add e ho hw hT
theorem Vq.len {R U : List Nat} {n t : Nat} {m : List (Nat × Nat)} (c : Vq R U n t m) : m.length ≤ n := Uq.len c
/-- a mapping that knows all that it leads to knows all -/
theorem Vq.full {R U : List Nat} {n t : Nat} {m : List (Nat × Nat)} (hc : Conn R U n) (c : Vq R U n t m) (cl : ∀ x, x ∈ m.map (·.1) → at0 R x ∈ m.map (·.1) ∧ at0 U x ∈ m.map (·.1)) : n ≤ m.length := by
  have all : ∀ s, R0 R U s → s ∈ m.map (·.1) := fun s h => by
    induction h with
    | zero => exact key_look.mpr (by rw [Uq.z c]; rfl)
    | r _ ih => exact (cl _ ih).1
    | u _ ih => exact (cl _ ih).2
  have h := nodup_sub_len (l := List.range n) (m := m.map (·.1)) List.nodup_range fun x hx => all x (hc x (List.mem_range.mp hx))
  rw [List.length_range, List.length_map] at h
  exact h
theorem keys_dN (m : List (Nat × Nat)) : ((dN m).map fun p => kP p.1) = lN (m.map (·.1)) := by
  unfold dN lN iN
  rw [List.map_map, List.map_map, List.map_map]
  rfl
section
variable {Γ : Wd} {K : PySem.W.Frag} {mg : Str → Option Value} {β : Option Addr}
def lap_body (K : PySem.W.Frag) : TS := (tFor (iList K (tCB rListD (tCons (tVar 7) tNil))) (gName 9)
  (tSeq (tAsg (tDGet2 (tVar 7) (tOp (rIx K) (tVar 1) (tVar 9)) (tOp (rIx K) (tVar 3) (tDGet (tVar 7) (tVar 9)))) (gSub (tVar 7) (tOp (rIx K) (tVar 1) (tVar 9)) rSetD))
  (tAsg (tDGet2 (tVar 7) (tOp (rIx K) (tVar 2) (tVar 9)) (tOp (rIx K) (tVar 4) (tDGet (tVar 7) (tVar 9)))) (gSub (tVar 7) (tOp (rIx K) (tVar 2) (tVar 9)) rSetD))))
/-- one lap: what was known leads on -/
theorem ws_lap {R U E : List Nat} {n t : Nat} {m : List (Nat × Nat)} {s5 s6 s8 s9 s10 : AV} {P : Kn} (b : Bq R U n) (c : Vq R U n t m)
    (hP : ∀ (m' : List (Nat × Nat)) (s9 : AV), Vq R U n t m' → (∃ e, m' = m ++ e) → (∀ x, x ∈ m.map (·.1) → at0 R x ∈ m'.map (·.1) ∧ at0 U x ∈ m'.map (·.1)) → P.nx [.d (bd R U E), .d (tN R), .d (tN U), .d (tN (inv R)), .d (tN (inv U)), s5, s6, .oK (dN m'), s8, s9, s10]) :
    WS Γ K β (lap_body K) [.d (bd R U E), .d (tN R), .d (tN U), .d (tN (inv R)), .d (tN (inv U)), s5, s6, .oK (dN m), s8, s9, s10] P := by
  unfold lap_body
  have n6 := b.n6
  refine ws_for (wi_list (we_listK (wa_cons (we_oK rfl (wa_nil ⟨_, rfl, dN m, rfl, .inr (.inl ⟨_, rfl, ?_⟩)⟩)))))
  rw [keys_dN]
  refine ⟨fun i ρ' => ∃ (m' : List (Nat × Nat)) (s9 : AV), ρ' = [.d (bd R U E), .d (tN R), .d (tN U), .d (tN (inv R)), .d (tN (inv U)), s5, s6, .oK (dN m'), s8, s9, s10] ∧ Vq R U n t m' ∧ (∃ e, m' = m ++ e) ∧
      ∀ j x, j < i → (m.map (·.1))[j]? = some x → at0 R x ∈ m'.map (·.1) ∧ at0 U x ∈ m'.map (·.1), ⟨m, _, rfl, c, ⟨[], (List.append_nil _).symm⟩, fun j x h => absurd h (Nat.not_lt_zero _)⟩, ?_, ?_⟩
  · rintro i d ρ' hd ⟨m', s9, rfl, c', ⟨e', he'⟩, hI⟩
    have hi : i < (m.map (·.1)).length := by
      have := (List.getElem?_eq_some_iff.mp hd).1
      rwa [lN_length] at this
    rw [lN_get hi] at hd
    cases hd
    obtain ⟨x, ex⟩ : ∃ x, (m.map (·.1)).getD i 0 = x := ⟨_, rfl⟩
    have hx : (m.map (·.1))[i]? = some x := by rw [List.getElem?_eq_getElem hi, ← ex]; exact congrArg some (at0_get hi).symm
    rw [ex]
    clear ex
    have hxm : x ∈ m.map (·.1) := List.mem_of_getElem? hx
    have hxm' : x ∈ m'.map (·.1) := by rw [he', List.map_append]; exact List.mem_append_left _ hxm
    obtain ⟨v, hv⟩ := Option.isSome_iff_exists.mp (key_look.mp hxm')
    obtain ⟨xn, vn⟩ := Uq.lt c' x v hv
    have bx := b.at xn
    have bv := b.at vn
    have hT1 : ∀ T, Hom R U n t T → at0 T (at0 R x) = at0 (inv R) v := fun T hT => by rw [hT.r x xn, Uq.hom c' T hT x v hv]
    have hT2 : ∀ T, Hom R U n t T → at0 T (at0 U x) = at0 (inv U) v := fun T hT => by rw [hT.u x xn, Uq.hom c' T hT x v hv]
    have c1 := c'.sd bx.1 bv.2.2.1 hT1
    have hv1 : (sd m' (at0 R x) (at0 (inv R) v)).lookup x = some v := sd_keep hv
    have c2 := c1.sd bx.2.1 bv.2.2.2 hT2
    refine wg_d (ws_seq (ws_asg (we_dget2 (we_oK rfl ⟨_, _, rfl, rfl, ?_⟩))))
    refine we_ix (we_d rfl (we_d rfl ⟨_, _, _, .inr rfl, rfl, atI_N (k := x) (by rw [b.rl]; exact xn), ?_⟩))
    refine we_ix (we_d rfl (we_dget (we_oK rfl (we_d rfl ⟨_, .inl (x : Int), .int (v : Nat), rfl, rfl, by rw [getP_dN, hv]; rfl, ?_⟩))))
    refine ⟨_, _, _, .inr rfl, rfl, atI_N (k := v) (by rw [inv_length, b.rl]; exact vn), _, .inl ((at0 R x : Nat) : Int), _, rfl, rfl, rfl, ?_⟩
    refine wg_setK (we_oK rfl ⟨_, rfl, we_ix (we_d rfl (we_d rfl ⟨_, _, _, .inr rfl, rfl, atI_N (k := x) (by rw [b.rl]; exact xn), _, .inl ((at0 R x : Nat) : Int), rfl, rfl, ?_, ?_⟩))⟩)
    · unfold dN; rw [List.length_map]; have := c'.len; omega
    rw [sd_put (Uq.nd c')]
    refine ws_asg (we_dget2 (we_oK rfl ⟨_, _, rfl, rfl, ?_⟩))
    refine we_ix (we_d rfl (we_d rfl ⟨_, _, _, .inr rfl, rfl, atI_N (k := x) (by rw [b.ul]; exact xn), ?_⟩))
    refine we_ix (we_d rfl (we_dget (we_oK rfl (we_d rfl ⟨_, .inl (x : Int), .int (v : Nat), rfl, rfl, by rw [getP_dN, hv1]; rfl, ?_⟩))))
    refine ⟨_, _, _, .inr rfl, rfl, atI_N (k := v) (by rw [inv_length, b.ul]; exact vn), _, .inl ((at0 U x : Nat) : Int), _, rfl, rfl, rfl, ?_⟩
    refine wg_setK (we_oK rfl ⟨_, rfl, we_ix (we_d rfl (we_d rfl ⟨_, _, _, .inr rfl, rfl, atI_N (k := x) (by rw [b.ul]; exact xn), _, .inl ((at0 U x : Nat) : Int), rfl, rfl, ?_, ?_⟩))⟩)
    · exact Nat.lt_of_le_of_lt (Nat.le_trans (Nat.le_of_eq (List.length_map ..)) c1.len) (by omega)
    rw [sd_put (Uq.nd c1)]
    obtain ⟨e1, h1⟩ := sd_pre m' (at0 R x) (at0 (inv R) v)
    obtain ⟨e2, h2⟩ := sd_pre (sd m' (at0 R x) (at0 (inv R) v)) (at0 U x) (at0 (inv U) v)
    have up : ∀ z, z ∈ m'.map (·.1) → z ∈ (sd (sd m' (at0 R x) (at0 (inv R) v)) (at0 U x) (at0 (inv U) v)).map (·.1) := fun z hz => by
      rw [h2, h1, List.map_append, List.map_append]
      exact List.mem_append_left _ (List.mem_append_left _ hz)
    refine ⟨_, _, rfl, c2, ⟨e' ++ e1 ++ e2, by rw [h2, h1, he', List.append_assoc, List.append_assoc, List.append_assoc]⟩, fun j y hj hy => ?_⟩
    rcases Nat.lt_succ_iff_lt_or_eq.mp hj with h | h
    · have := hI j y h hy
      exact ⟨up _ this.1, up _ this.2⟩
    · subst h
      rw [hx] at hy
      cases hy
      refine ⟨?_, key_look.mpr (sd_has _ _ _)⟩
      have h3 : at0 R x ∈ (sd m' (at0 R x) (at0 (inv R) v)).map (·.1) := key_look.mpr (sd_has _ _ _)
      rw [h2, List.map_append]
      exact List.mem_append_left _ h3
  · rintro ρ' ⟨m', s9, rfl, c', he', hI⟩
    rw [lN_length] at hI
    refine hP m' s9 c' he' fun x hx => ?_
    obtain ⟨j, hj, e⟩ := List.getElem_of_mem hx
    exact hI j x hj (by rw [List.getElem?_eq_getElem hj, e])
end
end K74
end
/-! ## W74x -/
section
namespace K74
open PySem PySem.Spec PyProof.Rows L2 AB
/-- one step of a walk -/
local macro_rules | `(tactic| walk_at "v") => `(tactic| first
  | refine we_d rfl ?_ | refine we_ol rfl ?_ | refine we_oK rfl ?_ | refine we_oN rfl ?_ | refine we_ob rfl ?_ | refine we_rv rfl ?_ | refine we_int ?_ | refine we_bl ?_ | refine we_non ?_ | refine we_str ?_ | refine we_sI rfl ?_ | refine we_c (L2.GCn.dp (by assumption)) ?_ | refine we_cv ?_)
local macro_rules | `(tactic| walk_at "e") => `(tactic| first
  | walk_at "v" | with_reducible refine wa_nil ?_ | with_reducible refine wa_cons ?_ | with_reducible refine we_I0i ?_ | with_reducible refine we_I0b ?_ | with_reducible refine we_Ii ?_ | with_reducible refine we_eqD ?_ | with_reducible refine we_neD ?_ | with_reducible refine we_ix ?_ | with_reducible refine we_tup ?_ | with_reducible refine we_lst ?_ | with_reducible refine wt_test ?_ | with_reducible refine wt_B ?_ | with_reducible refine wt_not ?_ | with_reducible refine wt_and ?_ | with_reducible refine wt_or ?_ | with_reducible refine we_if ?_ | with_reducible refine we_andV ?_ | with_reducible refine we_orV ?_ | with_reducible refine we_notV ?_ | with_reducible refine we_neg ?_ | with_reducible refine we_chain ?_ | with_reducible refine we_slT ?_ | with_reducible refine wo_no ?_ | with_reducible refine wo_some ?_
  | with_reducible refine ws_seq ?_ | with_reducible refine ws_ret ?_ | with_reducible refine ws_asg2 (by decide) ?_ | with_reducible refine ws_asg ?_ | with_reducible refine ws_drop ?_ | with_reducible refine ws_if ?_ | with_reducible refine wg_d ?_ | with_reducible refine wg_ol ?_ | with_reducible refine wg_oK ?_ | with_reducible refine wgs_nil ?_ | with_reducible refine wgs_cons ?_  | with_reducible refine ws_next ?_ | with_reducible refine ws_par (by decide) ?_ | with_reducible refine ws_asg2 (by decide) ?_
  | with_reducible refine we_len ?_ | with_reducible refine we_isi ?_ | with_reducible refine we_gcdG ?_ | with_reducible refine we_fld ?_ | with_reducible refine we_tuple ?_ | with_reducible refine we_list ?_ | with_reducible refine we_inI ?_ | with_reducible refine we_isN ?_ | with_reducible refine we_notN ?_
  | refine wg_tup rfl ?_ | refine wgs_cons ?_ | refine wgs_nil ?_)
/-- what a step asks, where it is plain -/
local macro_rules | `(tactic| walk_at "c") => `(tactic| first
  | refine ⟨_, rfl, un_d, ?_⟩ | refine ⟨_, rfl, un_ol, ?_⟩ | refine ⟨_, rfl, un_oK, ?_⟩ | refine ⟨_, rfl, un_oN, ?_⟩ | refine ⟨_, rfl, un_rv, ?_⟩
  | refine ⟨true, rfl, fun _ => ?_, tt_ff⟩ | refine ⟨true, rfl, ff_tt, fun _ => ?_⟩ | refine ⟨false, rfl, ff_tt, fun _ => ?_⟩ | refine ⟨false, rfl, fun _ => ?_, tt_ff⟩
  | with_reducible refine ⟨_, rfl, fun _ => ?_, tt_ff⟩ | with_reducible refine ⟨_, rfl, ff_tt, fun _ => ?_⟩ | refine ⟨_, rfl, fun _ => ?_, fun _ => ?_⟩
  | with_reducible refine ⟨fun _ => ?_, tt_ff⟩ | with_reducible refine ⟨ff_tt, fun _ => ?_⟩ | with_reducible refine ⟨fun _ => ?_, fun _ => ?_⟩
  | refine ⟨_, _, rfl, rfl, fun _ => ?_, tt_ff⟩ | refine ⟨_, _, rfl, rfl, ff_tt, fun _ => ?_⟩ | refine ⟨_, _, rfl, rfl, fun _ => ?_, fun _ => ?_⟩
  | refine ⟨_, rfl, ?_⟩
  | refine ⟨_, _, rfl, fun _ _ => ?_⟩
  | refine ⟨_, _, rfl, al_d, al_d, ?_⟩ | refine ⟨_, _, rfl, al_oN, al_ol, ?_⟩ | refine ⟨_, _, rfl, al_oK, al_ol, ?_⟩ | refine ⟨_, _, rfl, al_ol, al_ol, ?_⟩ | refine ⟨_, _, rfl, al_d, al_ol, ?_⟩
  | refine ⟨_, _, rfl, rfl, rfl, rfl, ?_⟩
  | refine ⟨_, _, rfl, rfl, ?_⟩
  | refine ⟨_, _, rfl, _, true, rfl, rfl, ?_⟩ | refine ⟨_, _, rfl, _, false, rfl, rfl, ?_⟩
  | refine ⟨_, _, _, .inr rfl, rfl, rfl, ?_⟩
  | refine ⟨_, rfl, _, .inr rfl, ?_⟩ | refine ⟨_, .inr rfl, ?_⟩ | refine ⟨_, .inl rfl, ?_⟩
  | refine ⟨[_, _], rfl, Nat.le_of_ble_eq_true rfl, ?_⟩
  | refine ⟨[_, _, _], rfl, Nat.le_of_ble_eq_true rfl, ?_⟩
  | refine ⟨[_], rfl, Nat.le_of_ble_eq_true rfl, ?_⟩
  | refine ⟨[], rfl, Nat.le_of_ble_eq_true rfl, ?_⟩)
local macro_rules | `(tactic| walk_at "E") => `(tactic| repeat' first | walk_at "e" | walk_at "c" | fail)
/-- the row that a full dict tells -/
def rowOf (n : Nat) (m : List (Nat × Nat)) : List Nat := (List.range n).map fun s => (m.lookup s).getD 0
theorem rowOf_len (n : Nat) (m : List (Nat × Nat)) : (rowOf n m).length = n := by unfold rowOf; simp
theorem rowOf_at {n s : Nat} (m : List (Nat × Nat)) (h : s < n) : at0 (rowOf n m) s = (m.lookup s).getD 0 := by
  rw [at0_get (by rw [rowOf_len]; exact h)]
  unfold rowOf
  simp
theorem Vq.all {R U : List Nat} {n t : Nat} {m : List (Nat × Nat)} (c : Vq R U n t m) (h : n ≤ m.length) {s : Nat} (hs : s < n) : ∃ v, m.lookup s = some v := by
  refine Option.isSome_iff_exists.mp (key_look.mp (Classical.byContradiction fun hn => ?_))
  have q := nodup_sub_len (l := m.map (·.1)) (m := (List.range n).erase s) (Uq.nd c) fun x hx => by
    have hne : x ≠ s := fun e => hn (e ▸ hx)
    obtain ⟨v, hv⟩ := Option.isSome_iff_exists.mp (key_look.mp hx)
    exact (List.mem_erase_of_ne hne).mpr (List.mem_range.mpr (Uq.lt c x v hv).1)
  have h3 := List.length_erase_of_mem (List.mem_range.mpr hs)
  rw [List.length_range] at h3
  rw [List.length_map] at q
  omega
theorem weak_forget (ρ : Rho) (i : Nat) : Weak ρ (ρ.set i .un) := by
  refine ⟨by rw [List.length_set], fun j r e => ?_⟩
  by_cases hj : i = j
  · subst hj
    by_cases hl : i < ρ.length
    · rw [List.getElem?_set_self hl] at e
      exact .inl (Option.some.inj e).symm
    · rw [List.set_eq_of_length_le (by omega)] at e
      exact .inr e
  · rw [List.getElem?_set_ne hj] at e
    exact .inr e
section
variable {Γ : Wd} {K : PySem.W.Frag} {mg : Str → Option Value} {β : Option Addr}
theorem ws_law_turns_of : Goes Γ K 1 11 (t__law_turns_of Γ K A_contrary A_is_ht) A_half_turns := by
  rintro β args k ⟨R, U, E, n, rfl, b, hn, hc, hk⟩
  refine ⟨rfl, ?_⟩
  show WS _ _ _ _ [_, _, _, _, _, _, _, _, _, _, _] _
  have n6 := b.n6
  unfold t__law_turns_of
  show WS _ _ _ (tSeq _ (tSeq _ (tSeq _ (tSeq (tFor _ _ (tSeq _ (tSeq (tFor _ _ (lap_body K)) _))) _)))) _ _
  walk_at "E"
  refine we_callE ?_
  walk_at "E"
  refine ⟨_, _, rfl, ⟨R, rfl, b.r, rfl⟩, pure_tN _, ?_⟩
  walk_at "E"
  refine we_callE ?_
  walk_at "E"
  refine ⟨_, _, rfl, ⟨U, rfl, b.u, rfl⟩, pure_tN _, ?_⟩
  walk_at "E"
  refine ws_for (wi_range1 ?_)
  walk_at "E"
  refine ⟨by rw [lN_length, b.rl]; omega, by omega, ?_⟩
  rw [lN_length, Int.toNat_natCast, b.rl]
  refine ⟨fun i ρ' => ∃ (s6 s7 s8 s9 s10 : AV), ρ' = [.d (bd R U E), .d (tN R), .d (tN U), .d (tN (inv R)), .d (tN (inv U)), .ol ((turns R U E n i).map tN), s6, s7, s8, s9, s10], ⟨_, _, _, _, _, rfl⟩, ?_, ?_⟩
  · rintro i d ρ' hd ⟨s6, s7, s8, s9, s10, rfl⟩
    obtain ⟨hi, rfl⟩ := rg0 hd
    walk_at "E"
    refine we_disp1 ?_
    walk_at "E"
    refine ⟨.inl 0, .int (i : Nat), rfl, rfl, ?_⟩
    walk_at "E"
    refine ws_for (wi_range1 ?_)
    walk_at "E"
    refine ⟨by rw [lN_length, b.rl]; omega, by omega, ?_⟩
    rw [lN_length, Int.toNat_natCast, b.rl]
    have v0 : Vq R U n i [(0, i)] := by
      refine ⟨rfl, fun s v h => ?_, fun T hT s v h => ?_, fun s h => ?_, fun s v h => ?_, by simp, rfl⟩
      · obtain ⟨e1, e2⟩ := look1 h; omega
      · obtain ⟨e1, e2⟩ := look1 h; rw [e1, e2]; exact hT.t0
      · exact key_look.mp h
      · exact .inl (key_look.mpr (by rw [h]; rfl))
    refine ⟨fun l ρ' => ∃ (m : List (Nat × Nat)) (s8 s9 : AV), ρ' = [.d (bd R U E), .d (tN R), .d (tN U), .d (tN (inv R)), .d (tN (inv U)), .ol ((turns R U E n i).map tN), .d (.int (i : Nat)), .oK (dN m), s8, s9, s10] ∧ Vq R U n i m ∧ (n ≤ m.length ∨ l + 1 ≤ m.length),
      ⟨[(0, i)], _, _, rfl, v0, .inr (by simp)⟩, ?_, ?_⟩
    · rintro l d ρ' hd ⟨m, s8, s9, rfl, c, hl⟩
      refine wg_d (ws_lap b c fun m' s9 c' ⟨e, he⟩ hcl => ⟨m', _, s9, rfl, c', ?_⟩)
      by_cases h0 : e = []
      · left
        subst h0
        rw [List.append_nil] at he
        subst he
        exact c'.full hc hcl
      · rw [he, List.length_append]
        have : 0 < e.length := List.length_pos_iff.mpr h0
        omega
    · rintro ρ' ⟨m, s8, s9, rfl, c, hl⟩
      rw [rgD_length] at hl
      have hlen := c.len
      have hm : n ≤ m.length := by omega
      have hT := rowOf_len n m
      have look : ∀ s, s < n → m.lookup s = some (at0 (rowOf n m) s) := fun s hs => by
        obtain ⟨v, hv⟩ := c.all hm hs
        rw [rowOf_at m hs, hv]
        rfl
      have t0 : at0 (rowOf n m) 0 = i := by
        have h1 := look 0 hn
        rw [Uq.z c] at h1
        exact (Option.some.inj h1).symm
      have hlt : ∀ z ∈ rowOf n m, z < n := fun z hz => by
        obtain ⟨s, hs, e⟩ := List.getElem_of_mem hz
        rw [hT] at hs
        have h1 := look s hs
        rw [at0_get (by rw [hT]; exact hs), e] at h1
        exact (Uq.lt c s z h1).2
      generalize hTe : rowOf n m = T at look t0 hT hlt
      have uniq : ∀ T', HT2 R U E n i T' → T' = T := fun T' h' => by
        refine List.ext_getElem (h'.hom.len.trans hT.symm) fun s h1 h2 => ?_
        rw [← at0_get h1, ← at0_get h2]
        have hs : s < n := by rw [← hT]; exact h2
        exact Uq.hom c T' h'.hom s _ (look s hs)
      have hl2 := turns_len R U E n i
      refine ws_weak (weak_forget _ 9) ?_
      show WS _ _ _ _ [.d (bd R U E), .d (tN R), .d (tN U), .d (tN (inv R)), .d (tN (inv U)), .ol ((turns R U E n i).map tN), .d (.int (i : Nat)), .oK (dN m), s8, .un, s10] _
      refine ws_seq (ws_asg (we_tuple (wa_cons (we_lc (gown_name (by decide)) (wi_range1 ?_)))))
      walk_at "E"
      refine ⟨by rw [lN_length, b.rl]; omega, by omega, ?_⟩
      rw [lN_length, Int.toNat_natCast, b.rl]
      refine ⟨unused_of rfl, by rw [rgD_length]; omega, fun j acc => acc = lN (T.take j), rfl, ?_, ?_⟩
      · intro j d acc hd hacc hI
        obtain ⟨hj, rfl⟩ := rg0 hd
        refine wg_d ⟨weak_set rfl, wt_yes ⟨rfl, fun _ => ?_, fun h => by cases h⟩⟩
        refine we_dget (we_oK rfl (we_d rfl ⟨_, .inl (j : Int), .int (at0 T j : Nat), rfl, rfl, by rw [getP_dN, look j hj]; rfl, rfl, _, rfl, ?_⟩))
        show acc ++ [_] = _
        rw [hI, List.take_add_one, List.getElem?_eq_getElem (by rw [hT]; exact hj), lN_append, at0_get (by rw [hT]; exact hj)]
        rfl
      · intro acc hacc _
        rw [rgD_length] at hacc
        have hacc : acc = lN (T.take n) := hacc
        rw [← hT, List.take_length] at hacc
        subst hacc
        refine wa_nil ⟨_, rfl, _, .inl rfl, wg_d ?_⟩
        refine ws_if (wt_B (we_call (wa_cons (we_d rfl (wa_cons (we_d rfl (wa_nil ?_)))))))
        refine ⟨_, fun r => ∃ bb : Bool, r = .d (.bool bb) ∧ (bb = true ↔ HT2 R U E n (at0 T 0) T), rfl, ⟨R, U, E, T, n, rfl, b, hT, hlt, fun bb h => ⟨bb, rfl, h⟩⟩, ?_⟩
        rintro r ⟨bb, rfl, hbb⟩
        rw [t0] at hbb
        refine ⟨rfl, _, rfl, fun h => ?_, fun h => ?_⟩
        · have h2 := hbb.mp h
          refine ws_drop (we_append (we_ol rfl ⟨_, _, rfl, rfl, we_d rfl ⟨_, _, rfl, rfl, by rw [List.length_map]; omega, ?_⟩⟩))
          refine ⟨.d (.int (i : Nat)), .oK (dN m), s8, .un, .d (tN T), ?_⟩
          rw [turns_succ, fT_some hc b h2, List.map_append]
          rfl
        · have h2 : fT R U E n i = none := fT_none fun T' h' => by
            have e := uniq T' h'
            subst e
            rw [hbb.mpr h'] at h
            cases h
          refine ws_next ⟨.d (.int (i : Nat)), .oK (dN m), s8, .un, .d (tN T), ?_⟩
          rw [turns_succ, h2]
          simp only [Option.toList_none, List.append_nil]
          rfl
  · rintro ρ' ⟨s6, s7, s8, s9, s10, rfl⟩
    rw [rgD_length]
    walk_at "E"
    refine we_sortedUE ?_
    walk_at "E"
    have hlen := turns_len R U E n n
    refine ⟨n, 64, hn, (turns R U E n n).map iN, by rw [tIs_iN]; rfl, by rw [List.length_map]; omega, fun ns hns => ?_, fun mss hm hs => ?_⟩
    · obtain ⟨T, hT, rfl⟩ := List.mem_map.mp hns
      obtain ⟨t, ht, h⟩ := turns_mem hT
      refine ⟨by rw [iN_length, h.hom.len], fun x hx => ?_⟩
      unfold iN at hx
      obtain ⟨z, hz, rfl⟩ := List.mem_map.mp hx
      have := h.hom.lt z hz
      omega
    · obtain ⟨qs, rfl, hp⟩ := perm_iN hm
      rw [tIs_iN]
      walk_at "E"
      rw [List.pairwise_map] at hs
      exact hk qs hp hs
end
end K74
end
/-! ## M74d -/
section
/-! M74d: orbits of pairs: symmetric, equal or apart; half turns and still places. -/
namespace K74
open PySem PySem.Spec PyProof.Rows L2 AB
theorem Rch.trans {R U : List Nat} {p q r : Nat × Nat} (h : Rch R U p q) (g : Rch R U q r) : Rch R U p r := by
  induction g with
  | refl => exact h
  | r _ ih => exact .r ih
  | u _ ih => exact .u ih
def itp (f : Nat × Nat → Nat × Nat) : Nat → Nat × Nat → Nat × Nat
  | 0, x => x
  | k + 1, x => f (itp f k x)
theorem itp_add (f : Nat × Nat → Nat × Nat) (i j : Nat) (x : Nat × Nat) : itp f (i + j) x = itp f i (itp f j x) := by
  induction i with
  | zero => rw [Nat.zero_add]; rfl
  | succ i ih => rw [Nat.succ_add]; show f (itp f (i + j) x) = f (itp f i (itp f j x)); rw [ih]
/-- one comes back -/
theorem itp_back {f : Nat × Nat → Nat × Nat} {n : Nat} (h : ∀ x : Nat × Nat, x.1 < n ∧ x.2 < n → (f x).1 < n ∧ (f x).2 < n) (inj : ∀ x y : Nat × Nat, x.1 < n ∧ x.2 < n → y.1 < n ∧ y.2 < n → f x = f y → x = y) {a : Nat × Nat} (ha : a.1 < n ∧ a.2 < n) : ∃ k, itp f (k + 1) a = a := by
  have lt : ∀ k x, (x : Nat × Nat).1 < n ∧ x.2 < n → (itp f k x).1 < n ∧ (itp f k x).2 < n := fun k x hx => by
    induction k with
    | zero => exact hx
    | succ k ih => exact h _ ih
  have inj' : ∀ k x y, (x : Nat × Nat).1 < n ∧ x.2 < n → (y : Nat × Nat).1 < n ∧ y.2 < n → itp f k x = itp f k y → x = y := fun k => by
    induction k with
    | zero => exact fun _ _ _ _ e => e
    | succ k ih => exact fun x y hx hy e => ih x y hx hy (inj _ _ (lt k x hx) (lt k y hy) e)
  refine Classical.byContradiction fun hno => ?_
  have hnd : ((List.range ((allP n).length + 1)).map fun k => itp f k a).Nodup := by
    rw [List.nodup_iff_pairwise_ne, List.pairwise_map]
    refine List.Pairwise.imp_of_mem (fun {i j} hi hj hlt e => ?_) (List.pairwise_lt_range (n := (allP n).length + 1))
    have e2 : j = i + (j - i - 1 + 1) := by omega
    rw [e2, itp_add] at e
    exact hno ⟨j - i - 1, (inj' i _ _ ha (lt _ _ ha) e).symm⟩
  have hl := nodup_sub_lenP (m := allP n) hnd fun x hx => by
    obtain ⟨k, _, rfl⟩ := List.mem_map.mp hx
    exact allP_mem (lt k a ha)
  rw [List.length_map, List.length_range] at hl
  omega
theorem stR_inj {R : List Nat} {n : Nat} (p : Pm R) (hl : R.length = n) {x y : Nat × Nat} (hx : x.1 < n ∧ x.2 < n) (hy : y.1 < n ∧ y.2 < n) (e : stR R x = stR R y) : x = y := by
  have e1 : at0 R x.1 = at0 R y.1 := congrArg (·.1) e
  have e2 : at0 (inv R) x.2 = at0 (inv R) y.2 := congrArg (·.2) e
  refine Prod.ext (p.inj (by omega) (by omega) e1) ?_
  have q1 := p.right (j := x.2) (by omega)
  have q2 := p.right (j := y.2) (by omega)
  rw [← q1, ← q2, e2]
theorem rch_it {R U : List Nat} {p : Nat × Nat} : ∀ k, Rch R U p (itp (stR R) k p) ∧ Rch R U p (itp (stR U) k p)
  | 0 => ⟨.refl, .refl⟩
  | k + 1 => ⟨.r (rch_it k).1, .u (rch_it k).2⟩
theorem Bq.backR {R U : List Nat} {n : Nat} (b : Bq R U n) {q : Nat × Nat} (hq : q.1 < n ∧ q.2 < n) : Rch R U (K74.stR R q) q := by
  obtain ⟨k, e⟩ := itp_back (f := K74.stR R) (fun x hx => b.stR hx) (fun x y hx hy e => stR_inj b.r b.rl hx hy e) hq
  rw [itp_add] at e
  have := (rch_it (R := R) (U := U) (p := K74.stR R q) k).1
  rw [show itp (K74.stR R) k (K74.stR R q) = q from e] at this
  exact this
theorem Bq.backU {R U : List Nat} {n : Nat} (b : Bq R U n) {q : Nat × Nat} (hq : q.1 < n ∧ q.2 < n) : Rch R U (K74.stR U q) q := by
  obtain ⟨k, e⟩ := itp_back (f := K74.stR U) (fun x hx => b.stU hx) (fun x y hx hy e => stR_inj b.u b.ul hx hy e) hq
  rw [itp_add] at e
  have := (rch_it (R := R) (U := U) (p := K74.stR U q) k).2
  rw [show itp (K74.stR U) k (K74.stR U q) = q from e] at this
  exact this
theorem Bq.sym {R U : List Nat} {n : Nat} (b : Bq R U n) {p q : Nat × Nat} (hp : p.1 < n ∧ p.2 < n) (h : Rch R U p q) : Rch R U q p := by
  induction h with
  | refl => exact .refl
  | r h ih => exact (b.backR (b.rch hp h)).trans ih
  | u h ih => exact (b.backU (b.rch hp h)).trans ih
/-! ### the orbit as a list -/
open Classical in
noncomputable def orb (R U : List Nat) (n : Nat) (p : Nat × Nat) : List (Nat × Nat) := (allP n).filter fun q => decide (Rch R U p q)
theorem mem_allP {n : Nat} {p : Nat × Nat} : p ∈ allP n ↔ p.1 < n ∧ p.2 < n := by
  refine ⟨fun h => ?_, allP_mem⟩
  unfold allP at h
  obtain ⟨i, hi, h⟩ := List.mem_flatMap.mp h
  obtain ⟨j, hj, rfl⟩ := List.mem_map.mp h
  exact ⟨List.mem_range.mp hi, List.mem_range.mp hj⟩
open Classical in
theorem orb_mem {R U : List Nat} {n : Nat} (b : Bq R U n) {p q : Nat × Nat} (hp : p.1 < n ∧ p.2 < n) : q ∈ orb R U n p ↔ Rch R U p q := by
  unfold orb
  rw [List.mem_filter, decide_eq_true_eq]
  exact ⟨fun h => h.2, fun h => ⟨allP_mem (b.rch hp h), h⟩⟩
theorem allP_srt (n : Nat) (h : n ≤ 6) : (allP n).Pairwise fun p q => cd p < cd q := by
  unfold allP
  rw [List.pairwise_flatMap]
  refine ⟨fun i hi => ?_, ?_⟩
  · rw [List.pairwise_map]
    exact (List.pairwise_lt_range (n := n)).imp fun {a b} hab => by unfold cd; show i * 64 + a < i * 64 + b; omega
  · refine List.Pairwise.imp_of_mem (fun {i j} hi hj hij x hx y hy => ?_) (List.pairwise_lt_range (n := n))
    obtain ⟨a, ha, rfl⟩ := List.mem_map.mp hx
    obtain ⟨c, hc, rfl⟩ := List.mem_map.mp hy
    have h1 := List.mem_range.mp ha
    show i * 64 + a < j * 64 + c
    omega
theorem orb_srt {R U : List Nat} {n : Nat} (h : n ≤ 6) (p : Nat × Nat) : (orb R U n p).Pairwise fun p q => cd p < cd q := (allP_srt n h).sublist List.filter_sublist
theorem orb_nd {R U : List Nat} {n : Nat} (h : n ≤ 6) (p : Nat × Nat) : (orb R U n p).Nodup := by
  rw [List.nodup_iff_pairwise_ne]
  exact (orb_srt h p).imp fun {a b} hab e => by rw [e] at hab; omega
/-- sorted lists of the same members are equal -/
theorem sorted_eqM {α : Type} {f : α → Int} : ∀ {a b : List α}, (∀ x ∈ a, ∀ y ∈ a, f x = f y → x = y) → a.Perm b → a.Pairwise (fun x y => f x ≤ f y) → b.Pairwise (fun x y => f x ≤ f y) → a = b
  | [], b, _, p, _, _ => (List.perm_nil.mp p.symm).symm
  | x :: a, [], _, p, _, _ => absurd p.length_eq (by simp)
  | x :: a, y :: b, inj, p, ha, hb => by
    obtain ⟨ha1, ha2⟩ := List.pairwise_cons.mp ha
    obtain ⟨hb1, hb2⟩ := List.pairwise_cons.mp hb
    have hx : x ∈ y :: b := p.mem_iff.mp List.mem_cons_self
    have hy : y ∈ x :: a := p.mem_iff.mpr List.mem_cons_self
    have e : x = y := by
      rcases List.mem_cons.mp hx with h | h
      · exact h
      · rcases List.mem_cons.mp hy with h' | h'
        · exact h'.symm
        · exact inj _ List.mem_cons_self _ hy (Int.le_antisymm (ha1 _ h') (hb1 _ h))
    subst e
    rw [sorted_eqM (fun u hu v hv => inj u (List.mem_cons_of_mem _ hu) v (List.mem_cons_of_mem _ hv)) ((List.perm_cons x).mp p) ha2 hb2]
theorem orb_uniq {R U : List Nat} {n : Nat} (b : Bq R U n) {p : Nat × Nat} (hp : p.1 < n ∧ p.2 < n) {ps : List (Nat × Nat)} (nd : ps.Nodup) (hm : ∀ q, q ∈ ps ↔ Rch R U p q) (hs : SrtP ps) : ps = orb R U n p := by
  have hn := b.n6
  refine sorted_eqM (f := fun p => ((cd p : Nat) : Int)) (fun x hx y hy e => ?_) ((List.perm_ext_iff_of_nodup nd (orb_nd hn p)).mpr fun q => (hm q).trans (orb_mem b hp).symm) (hs.imp fun {p q} h => by omega) ((orb_srt hn p).imp fun {p q} h => by omega)
  have h1 := b.rch hp ((hm x).mp hx)
  have h2 := b.rch hp ((hm y).mp hy)
  unfold cd at e
  exact Prod.ext (by omega) (by omega)
theorem orb_len {R U : List Nat} {n : Nat} (h : n ≤ 6) (p : Nat × Nat) : (orb R U n p).length ≤ 36 := Nat.le_trans (List.length_filter_le _ _) (allP_len n h)
/-- two orbits that meet are the same -/
theorem orb_meet {R U : List Nat} {n : Nat} (b : Bq R U n) {p p' q : Nat × Nat} (hp : p.1 < n ∧ p.2 < n) (hp' : p'.1 < n ∧ p'.2 < n) (h : q ∈ orb R U n p) (h' : q ∈ orb R U n p') : orb R U n p = orb R U n p' := by
  have h1 := (orb_mem b hp).mp h
  have h2 := (orb_mem b hp').mp h'
  refine orb_uniq b hp' (orb_nd b.n6 p) (fun x => (orb_mem b hp).trans ?_) ((orb_srt b.n6 p).imp fun {p q} h => by omega)
  exact ⟨fun h3 => (h2.trans (b.sym hp h1)).trans h3, fun h3 => (h1.trans (b.sym hp' h2)).trans h3⟩
/-! ### half turns -/
theorem Hom.onR {R U T : List Nat} {n t : Nat} (b : Bq R U n) (h : Hom R U n t T) {s : Nat} (hs : s < n) : at0 T (at0 (inv R) s) = at0 R (at0 T s) := by
  have h1 := h.r (at0 (inv R) s) (b.at hs).2.2.1
  rw [b.r.right (by rw [b.rl]; exact hs)] at h1
  rw [h1, b.r.right (by rw [b.rl]; exact h.lt _ (at0_mem (by rw [h.len]; exact (b.at hs).2.2.1)))]
theorem Hom.onU {R U T : List Nat} {n t : Nat} (b : Bq R U n) (h : Hom R U n t T) {s : Nat} (hs : s < n) : at0 T (at0 (inv U) s) = at0 U (at0 T s) := by
  have h1 := h.u (at0 (inv U) s) (b.at hs).2.2.2
  rw [b.u.right (by rw [b.ul]; exact hs)] at h1
  rw [h1, b.u.right (by rw [b.ul]; exact h.lt _ (at0_mem (by rw [h.len]; exact (b.at hs).2.2.2)))]
theorem Hom.at {R U T : List Nat} {n t : Nat} (h : Hom R U n t T) {s : Nat} (hs : s < n) : at0 T s < n := h.lt _ (at0_mem (by rw [h.len]; exact hs))
/-- what is reached from (T i, i) is T's graph -/
theorem Hom.graph {R U T : List Nat} {n t : Nat} (b : Bq R U n) (hc : Conn R U n) (h : Hom R U n t T) {i : Nat} (hi : i < n) (q : Nat × Nat) (hq : q.1 < n ∧ q.2 < n) : Rch R U (at0 T i, i) q ↔ q.1 = at0 T q.2 := by
  have hti : ((at0 T i, i) : Nat × Nat).1 < n ∧ ((at0 T i, i) : Nat × Nat).2 < n := ⟨h.at hi, hi⟩
  constructor
  · intro hr
    have : q.1 = at0 T q.2 ∧ q.2 < n := by
      clear hq
      induction hr with
      | refl => exact ⟨rfl, hi⟩
      | r _ ih =>
        obtain ⟨e, hn⟩ := ih
        refine ⟨?_, (b.at hn).2.2.1⟩
        show at0 R _ = at0 T (at0 (inv R) _)
        rw [h.onR b hn, e]
      | u _ ih =>
        obtain ⟨e, hn⟩ := ih
        refine ⟨?_, (b.at hn).2.2.2⟩
        show at0 U _ = at0 T (at0 (inv U) _)
        rw [h.onU b hn, e]
    exact this.1
  · intro e
    -- each point of the graph is reached from (T 0, 0), and so is (T i, i)
    have h0 : 0 < n := by omega
    have all : ∀ s, R0 R U s → s < n ∧ Rch R U (at0 T s, s) (at0 T 0, 0) := fun s hs => by
      induction hs with
      | zero => exact ⟨h0, .refl⟩
      | @r s _ ih =>
        obtain ⟨hs, ih⟩ := ih
        have hR := (b.at hs).1
        refine ⟨hR, ?_⟩
        have st : Rch R U (at0 T (at0 R s), at0 R s) (K74.stR R (at0 T (at0 R s), at0 R s)) := .r .refl
        have e2 : K74.stR R (at0 T (at0 R s), at0 R s) = (at0 T s, s) := by
          show (at0 R (at0 T (at0 R s)), at0 (inv R) (at0 R s)) = _
          rw [h.r s hs, b.r.right (by rw [b.rl]; exact h.at hs), b.r.left (by rw [b.rl]; exact hs)]
        rw [e2] at st
        exact st.trans ih
      | @u s _ ih =>
        obtain ⟨hs, ih⟩ := ih
        have hU := (b.at hs).2.1
        refine ⟨hU, ?_⟩
        have st : Rch R U (at0 T (at0 U s), at0 U s) (K74.stR U (at0 T (at0 U s), at0 U s)) := .u .refl
        have e2 : K74.stR U (at0 T (at0 U s), at0 U s) = (at0 T s, s) := by
          show (at0 U (at0 T (at0 U s)), at0 (inv U) (at0 U s)) = _
          rw [h.u s hs, b.u.right (by rw [b.ul]; exact h.at hs), b.u.left (by rw [b.ul]; exact hs)]
        rw [e2] at st
        exact st.trans ih
    have h1 := (all i (hc i hi)).2
    have h2 := (all q.2 (hc q.2 hq.2)).2
    have e3 : q = (at0 T q.2, q.2) := Prod.ext e rfl
    rw [e3]
    exact h1.trans (b.sym ⟨h.at hq.2, hq.2⟩ h2)
/-- a corner with no turns more: left below is below left -/
theorem Bq.corner {R U : List Nat} {n s : Nat} (b : Bq R U n) (hs : s < n) (h : isEnd R U s = false) : at0 (inv U) (at0 (inv R) s) = at0 (inv R) (at0 (inv U) s) := by
  unfold isEnd at h
  have h : at0 U (at0 R (at0 (inv U) (at0 (inv R) s))) = s := by simpa using h
  have h1 := (b.at hs).2.2.1
  have h2 := (b.at h1).2.2.2
  have h3 := (b.at h2).1
  have e1 := b.u.left (k := at0 R (at0 (inv U) (at0 (inv R) s))) (by rw [b.ul]; exact h3)
  rw [h] at e1
  have e2 := b.r.left (k := at0 (inv U) (at0 (inv R) s)) (by rw [b.rl]; exact h2)
  rw [← e1] at e2
  exact e2.symm
theorem still_iff {R U E T : List Nat} {n t i s : Nat} {x y : Bool} (b : Bq R U n) (hc : Conn R U n) (h : Hom R U n t T) (hi : i < n) (hs : s < n) (he : x = false → y = false → isEnd R U s = false) :
    Rch R U (at0 T i, i) (fst0 R U s x y) ↔ tsq R U T s x y = s := by
  rw [h.graph b hc hi _ (fst0_lt b hs)]
  have hR := (b.at hs).2.2.1
  have hU := (b.at hs).2.2.2
  have hT := h.at hs
  cases x with
  | true =>
    cases y with
    | true => exact ⟨fun e => e.symm, fun e => e.symm⟩
    | false =>
      show s = at0 T (at0 (inv U) s) ↔ at0 U (at0 T s) = s
      rw [h.onU b hs]
      exact ⟨fun e => e.symm, fun e => e.symm⟩
  | false =>
    cases y with
    | true =>
      show s = at0 T (at0 (inv R) s) ↔ at0 R (at0 T s) = s
      rw [h.onR b hs]
      exact ⟨fun e => e.symm, fun e => e.symm⟩
    | false =>
      show s = at0 T (at0 (inv U) (at0 (inv R) s)) ↔ at0 R (at0 U (at0 T s)) = s
      rw [h.onU b hR, h.onR b hs]
      have hco := b.corner hs (he rfl rfl)
      have hRT := (b.at hT).1
      have hUT := (b.at hT).2.1
      constructor
      · intro e
        have e1 : at0 T s = at0 (inv R) (at0 (inv U) s) := by
          have q1 := b.u.left (k := at0 R (at0 T s)) (by rw [b.ul]; exact hRT)
          rw [← e] at q1
          have q2 := b.r.left (k := at0 T s) (by rw [b.rl]; exact hT)
          rw [← q1] at q2
          exact q2.symm
        rw [e1, ← hco, b.u.right (by rw [b.ul]; exact hR), b.r.right (by rw [b.rl]; exact hs)]
      · intro e
        have e1 : at0 T s = at0 (inv U) (at0 (inv R) s) := by
          have q1 := b.r.left (k := at0 U (at0 T s)) (by rw [b.rl]; exact hUT)
          rw [e] at q1
          have q2 := b.u.left (k := at0 T s) (by rw [b.ul]; exact hT)
          rw [← q1] at q2
          exact q2.symm
        rw [e1, hco, b.r.right (by rw [b.rl]; exact hU), b.u.right (by rw [b.ul]; exact hs)]
end K74
end
/-! ## M74e -/
section
/-! M74e: data of the law; counting; sorted turns. -/
namespace K74
open PySem PySem.Spec PyProof.Rows L2 AB
theorem dat_up : ∀ {n : Nat} {y : PyData}, dat n y → dat (n + 1) y
  | 0, _, ⟨j, e⟩ => .inl ⟨j, e⟩
  | _ + 1, _, .inl h => .inl h
  | n + 1, _, .inr ⟨ys, e, h, q⟩ => .inr ⟨ys, e, h, fun d hd => dat_up (q d hd)⟩
theorem dat_pr (p : Nat × Nat) : dat 1 (pr p) := .inr ⟨_, rfl, Nat.le_of_ble_eq_true rfl, fun d hd => by
  rcases List.mem_cons.mp hd with e | hd
  · exact ⟨_, e⟩
  · rcases List.mem_cons.mp hd with e | hd
    · exact ⟨_, e⟩
    · cases hd⟩
theorem dat_prs {L : List (Nat × Nat)} (h : L.length ≤ 36) : dat 2 (.tuple (prs L)) := .inr ⟨_, rfl, by rw [List.length_map]; omega, fun d hd => by
  obtain ⟨p, _, rfl⟩ := List.mem_map.mp hd
  exact dat_pr p⟩
theorem dat_hf (x : Bool) : dat 1 (hf x) := by
  cases x <;> exact .inr ⟨_, rfl, Nat.le_of_ble_eq_true rfl, fun d hd => by
    rcases List.mem_cons.mp hd with e | hd
    · exact ⟨_, e⟩
    · rcases List.mem_cons.mp hd with e | hd
      · exact ⟨_, e⟩
      · cases hd⟩
theorem dat_hfq (h : HP) : dat 2 (hfq h) := .inr ⟨_, rfl, Nat.le_of_ble_eq_true rfl, fun d hd => by
  rcases List.mem_cons.mp hd with e | hd
  · exact .inl ⟨_, e⟩
  · rcases List.mem_cons.mp hd with e | hd
    · rw [e]; exact dat_hf _
    · rcases List.mem_cons.mp hd with e | hd
      · rw [e]; exact dat_hf _
      · cases hd⟩
theorem dat_hfqs {hs : List HP} (h : hs.length ≤ 24) : dat 3 (.tuple (hs.map hfq)) := .inr ⟨_, rfl, by rw [List.length_map]; omega, fun d hd => by
  obtain ⟨p, _, rfl⟩ := List.mem_map.mp hd
  exact dat_hfq p⟩
theorem dat_tN {T : List Nat} (h : T.length ≤ 6) : dat 1 (tN T) := .inr ⟨_, rfl, by show (lN T).length ≤ _; rw [lN_length]; omega, fun d hd => by
  have hd : d ∈ lN T := hd
  unfold lN iN at hd
  rw [List.map_map] at hd
  obtain ⟨p, _, rfl⟩ := List.mem_map.mp hd
  exact ⟨_, rfl⟩⟩
theorem dat_tNs {us : List (List Nat)} (hl : us.length ≤ 6) (h : ∀ T ∈ us, T.length ≤ 6) : dat 2 (.tuple (us.map tN)) := .inr ⟨_, rfl, by rw [List.length_map]; omega, fun d hd => by
  obtain ⟨T, hT, rfl⟩ := List.mem_map.mp hd
  exact dat_tN (h T hT)⟩
/-- the code of rows of the same length tells the row -/
theorem code_inj {B : Int} : ∀ {a b : List Int}, a.length = b.length → TS.Bd B a → TS.Bd B b → TS.code B a = TS.code B b → a = b
  | [], [], _, _, _, _ => rfl
  | [], _ :: _, h, _, _, _ => by cases h
  | _ :: _, [], h, _, _, _ => by cases h
  | x :: a, y :: b, h, ha, hb, e => by
    have hl : a.length = b.length := by simpa using h
    have e : x * B ^ a.length + TS.code B a = y * B ^ b.length + TS.code B b := e
    rw [← hl] at e
    obtain ⟨a0, a1⟩ := TS.code_bd a ha.tail
    obtain ⟨b0, b1⟩ := TS.code_bd b hb.tail
    rw [← hl] at b1
    have hx : x = y := by
      rcases Int.lt_trichotomy x y with z | z | z
      · have := TS.num2 a0 a1 b0 z
        omega
      · exact z
      · have := TS.num2 b0 b1 a0 z
        omega
    subst hx
    rw [code_inj hl ha.tail hb.tail (by omega)]
theorem iN_inj {a b : List Nat} (h : iN a = iN b) : a = b := lN_inj (by unfold lN; rw [h])
/-- the half turns, sorted, in one way alone -/
theorem turns_uniq {R U E : List Nat} {n : Nat} (h6 : n ≤ 6) {us vs : List (List Nat)} (p : us.Perm (turns R U E n n)) (q : vs.Perm (turns R U E n n)) (hu : us.Pairwise fun a b => TS.code 64 (iN a) ≤ TS.code 64 (iN b)) (hv : vs.Pairwise fun a b => TS.code 64 (iN a) ≤ TS.code 64 (iN b)) : us = vs := by
  have bd : ∀ T ∈ us, (iN T).length = n ∧ TS.Bd 64 (iN T) := fun T hT => by
    obtain ⟨t, ht, h⟩ := turns_mem (p.mem_iff.mp hT)
    refine ⟨by rw [iN_length, h.hom.len], fun x hx => ?_⟩
    unfold iN at hx
    obtain ⟨z, hz, rfl⟩ := List.mem_map.mp hx
    have := h.hom.lt z hz
    omega
  exact sorted_eqM (f := fun T => TS.code 64 (iN T)) (fun x hx y hy e => iN_inj (code_inj ((bd x hx).1.trans (bd y hy).1.symm) (bd x hx).2 (bd y hy).2 e)) (p.trans q.symm) hu hv
/-! ### half places -/
theorem hpl_mem {n : Nat} {E : List Nat} {h : HP} (hh : h ∈ hpl n E) : h.1 < n ∧ (h.2.1 = false → h.2.2 = false → h.1 ∉ E) := by
  unfold hpl at hh
  obtain ⟨s, hs, hh⟩ := List.mem_flatMap.mp hh
  rw [← all4_row, List.mem_filter] at hh
  obtain ⟨h1, h2⟩ := hh
  have hs := List.mem_range.mp hs
  have e : h.1 = s := by
    unfold all4 at h1
    rcases List.mem_cons.mp h1 with e | h1
    · rw [e]
    · rcases List.mem_cons.mp h1 with e | h1
      · rw [e]
      · rcases List.mem_cons.mp h1 with e | h1
        · rw [e]
        · rw [List.mem_singleton.mp h1]
  refine ⟨by omega, fun hx hy => ?_⟩
  unfold hpk at h2
  rw [hx, hy] at h2
  exact of_decide_eq_true h2
/-! ### counting -/
def sumN (f : Nat → Nat) : Nat → Nat
  | 0 => 0
  | n + 1 => sumN f n + f n
theorem sumN_congr {f g : Nat → Nat} : ∀ {n : Nat}, (∀ i, i < n → f i = g i) → sumN f n = sumN g n
  | 0, _ => rfl
  | n + 1, h => by
    show sumN f n + f n = sumN g n + g n
    rw [sumN_congr (n := n) fun i hi => h i (by omega), h n (by omega)]
theorem sumN_add (f g : Nat → Nat) : ∀ n, sumN (fun i => f i + g i) n = sumN f n + sumN g n
  | 0 => rfl
  | n + 1 => by
    show sumN (fun i => f i + g i) n + (f n + g n) = (sumN f n + f n) + (sumN g n + g n)
    rw [sumN_add f g n]
    omega
theorem sumN_zero : ∀ n, sumN (fun _ => 0) n = 0
  | 0 => rfl
  | n + 1 => by show sumN (fun _ => 0) n + 0 = 0; rw [sumN_zero n]
theorem sumN_swap (f : Nat → Nat → Nat) (m : Nat) : ∀ n, sumN (fun i => sumN (fun j => f i j) m) n = sumN (fun j => sumN (fun i => f i j) n) m
  | 0 => by
    show 0 = sumN (fun _ => 0) m
    rw [sumN_zero]
  | n + 1 => by
    show sumN (fun i => sumN (fun j => f i j) m) n + sumN (fun j => f n j) m = sumN (fun j => sumN (fun i => f i j) n + f n j) m
    rw [sumN_swap f m n, ← sumN_add]
/-- 1 where it holds -/
def one (b : Bool) : Nat := if b then 1 else 0
theorem range_count (f : Nat → Bool) : ∀ n, ((List.range n).filter f).length = sumN (fun j => one (f j)) n
  | 0 => rfl
  | n + 1 => by
    rw [List.range_succ, List.filter_append, List.length_append, range_count f n]
    show _ + ([n].filter f).length = sumN (fun j => one (f j)) n + one (f n)
    congr 1
    unfold one
    cases h : f n <;> simp [h]
theorem map_filter_len {α γ : Type} (g : α → γ) (f : γ → Bool) (l : List α) : ((l.map g).filter f).length = (l.filter fun x => f (g x)).length := by
  rw [List.filter_map, List.length_map]
  rfl
theorem allP_count (f : Nat × Nat → Bool) (n : Nat) : ((allP n).filter f).length = sumN (fun i => sumN (fun j => one (f (i, j))) n) n := by
  have key : ∀ m, (((List.range m).flatMap fun i => (List.range n).map fun j => (i, j)).filter f).length = sumN (fun i => sumN (fun j => one (f (i, j))) n) m := fun m => by
    induction m with
    | zero => rfl
    | succ m ih =>
      rw [List.range_succ, List.flatMap_append, List.filter_append, List.length_append, ih]
      show _ + (([m].flatMap fun i => (List.range n).map fun j => (i, j)).filter f).length = _ + _
      congr 1
      rw [List.flatMap_singleton, map_filter_len, range_count]
  exact key n
/-- how many lists hold the pairs: counted by pairs, counted by lists -/
theorem count_both (f : HP → Nat × Nat → Bool) (n : Nat) (hs : List HP) : sumN (fun i => sumN (fun j => (hs.filter fun h => f h (j, i)).length) n) n = (hs.map fun h => ((allP n).filter (f h)).length).sum := by
  induction hs with
  | nil =>
    show sumN (fun i => sumN (fun j => 0) n) n = 0
    rw [sumN_congr (g := fun _ => 0) fun i _ => sumN_zero n, sumN_zero]
  | cons h hs ih =>
    rw [List.map_cons, List.sum_cons, ← ih, allP_count, sumN_swap (fun i j => one (f h (i, j))), ← sumN_add]
    refine sumN_congr fun i _ => ?_
    rw [← sumN_add]
    refine sumN_congr fun j _ => ?_
    rw [List.filter_cons]
    unfold one
    cases f h (j, i)
    · simp
    · simp
      omega
theorem sum_ints (l : List Nat) : ((l.map fun x : Nat => (x : Int)).sum) = ((l.sum : Nat) : Int) := by
  induction l with
  | nil => rfl
  | cons x l ih => rw [List.map_cons, List.sum_cons, List.sum_cons, ih]; omega
end K74
end
/-! ## W74y -/
section
namespace K74
open PySem PySem.Spec PyProof.Rows L2 AB
/-- one step of a walk -/
local macro_rules | `(tactic| walk_at "v") => `(tactic| first
  | refine we_d rfl ?_ | refine we_ol rfl ?_ | refine we_oK rfl ?_ | refine we_oN rfl ?_ | refine we_ob rfl ?_ | refine we_rv rfl ?_ | refine we_int ?_ | refine we_bl ?_ | refine we_non ?_ | refine we_str ?_ | refine we_sI rfl ?_ | refine we_c (L2.GCn.dp (by assumption)) ?_ | refine we_cv ?_)
local macro_rules | `(tactic| walk_at "e") => `(tactic| first
  | walk_at "v" | with_reducible refine wa_nil ?_ | with_reducible refine wa_cons ?_ | with_reducible refine we_I0i ?_ | with_reducible refine we_I0b ?_ | with_reducible refine we_Ii ?_ | with_reducible refine we_eqD ?_ | with_reducible refine we_neD ?_ | with_reducible refine we_ix ?_ | with_reducible refine we_tup ?_ | with_reducible refine we_lst ?_ | with_reducible refine wt_test ?_ | with_reducible refine wt_B ?_ | with_reducible refine wt_not ?_ | with_reducible refine wt_and ?_ | with_reducible refine wt_or ?_ | with_reducible refine we_if ?_ | with_reducible refine we_andV ?_ | with_reducible refine we_orV ?_ | with_reducible refine we_notV ?_ | with_reducible refine we_neg ?_ | with_reducible refine we_chain ?_ | with_reducible refine we_slT ?_ | with_reducible refine wo_no ?_ | with_reducible refine wo_some ?_
  | with_reducible refine ws_seq ?_ | with_reducible refine ws_ret ?_ | with_reducible refine ws_asg2 (by decide) ?_ | with_reducible refine ws_asg ?_ | with_reducible refine ws_drop ?_ | with_reducible refine ws_if ?_ | with_reducible refine wg_d ?_ | with_reducible refine wg_ol ?_ | with_reducible refine wg_oK ?_ | with_reducible refine wgs_nil ?_ | with_reducible refine wgs_cons ?_  | with_reducible refine ws_next ?_ | with_reducible refine ws_par (by decide) ?_ | with_reducible refine ws_asg2 (by decide) ?_
  | with_reducible refine we_len ?_ | with_reducible refine we_isi ?_ | with_reducible refine we_gcdG ?_ | with_reducible refine we_fld ?_ | with_reducible refine we_tuple ?_ | with_reducible refine we_list ?_ | with_reducible refine we_inI ?_ | with_reducible refine we_isN ?_ | with_reducible refine we_notN ?_
  | refine wg_tup rfl ?_ | refine wgs_cons ?_ | refine wgs_nil ?_)
/-- what a step asks, where it is plain -/
local macro_rules | `(tactic| walk_at "c") => `(tactic| first
  | refine ⟨_, rfl, un_d, ?_⟩ | refine ⟨_, rfl, un_ol, ?_⟩ | refine ⟨_, rfl, un_oK, ?_⟩ | refine ⟨_, rfl, un_oN, ?_⟩ | refine ⟨_, rfl, un_rv, ?_⟩
  | refine ⟨true, rfl, fun _ => ?_, tt_ff⟩ | refine ⟨true, rfl, ff_tt, fun _ => ?_⟩ | refine ⟨false, rfl, ff_tt, fun _ => ?_⟩ | refine ⟨false, rfl, fun _ => ?_, tt_ff⟩
  | with_reducible refine ⟨_, rfl, fun _ => ?_, tt_ff⟩ | with_reducible refine ⟨_, rfl, ff_tt, fun _ => ?_⟩ | refine ⟨_, rfl, fun _ => ?_, fun _ => ?_⟩
  | with_reducible refine ⟨fun _ => ?_, tt_ff⟩ | with_reducible refine ⟨ff_tt, fun _ => ?_⟩ | with_reducible refine ⟨fun _ => ?_, fun _ => ?_⟩
  | refine ⟨_, _, rfl, rfl, fun _ => ?_, tt_ff⟩ | refine ⟨_, _, rfl, rfl, ff_tt, fun _ => ?_⟩ | refine ⟨_, _, rfl, rfl, fun _ => ?_, fun _ => ?_⟩
  | refine ⟨_, rfl, ?_⟩
  | refine ⟨_, _, rfl, fun _ _ => ?_⟩
  | refine ⟨_, _, rfl, al_d, al_d, ?_⟩ | refine ⟨_, _, rfl, al_oN, al_ol, ?_⟩ | refine ⟨_, _, rfl, al_oK, al_ol, ?_⟩ | refine ⟨_, _, rfl, al_ol, al_ol, ?_⟩ | refine ⟨_, _, rfl, al_d, al_ol, ?_⟩
  | refine ⟨_, _, rfl, rfl, rfl, rfl, ?_⟩
  | refine ⟨_, _, rfl, rfl, ?_⟩
  | refine ⟨_, _, rfl, _, true, rfl, rfl, ?_⟩ | refine ⟨_, _, rfl, _, false, rfl, rfl, ?_⟩
  | refine ⟨_, _, _, .inr rfl, rfl, rfl, ?_⟩
  | refine ⟨_, rfl, _, .inr rfl, ?_⟩ | refine ⟨_, .inr rfl, ?_⟩ | refine ⟨_, .inl rfl, ?_⟩
  | refine ⟨[_, _], rfl, Nat.le_of_ble_eq_true rfl, ?_⟩
  | refine ⟨[_, _, _], rfl, Nat.le_of_ble_eq_true rfl, ?_⟩
  | refine ⟨[_], rfl, Nat.le_of_ble_eq_true rfl, ?_⟩
  | refine ⟨[], rfl, Nat.le_of_ble_eq_true rfl, ?_⟩)
local macro_rules | `(tactic| walk_at "E") => `(tactic| repeat' first | walk_at "e" | walk_at "c" | fail)
/-! ### the law's loops -/
section
variable (Γ : Wd) (K : PySem.W.Frag) (A_halves : DS) (A__law_same : DS) (A__law_own_halves : DS) (A_needed : DS) (A_still : DS)
def l1 : TS := (tFor (iTup K (tVar 6)) (gName 8)
  (tSeq (tAsg (tIf (tTest (tOp (rI0 fun i j => .bl (decide (j < i))) (tVar 2) (tC (.int 0)))) (tCall (spA Γ K A_halves) [] E0 (tCons (tVar 4) (tCons (tVar 8) tNil))) (tCallN 0 2 (spA Γ K A_halves) g_halves__half_board E0 tNil (tCons (tVar 8) (tCons (tVar 4) tNil)))) (gName 9))
  (tSeq (tIfS (tNot (tB (tCall (spA Γ K A__law_same) [] E0 (tCons (tVar 9) (tCons (tCall (spA Γ K A__law_own_halves) [] E0 (tCons (tVar 4) (tCons (tVar 8) tNil))) tNil)))))
  (tRet (tC (.bl false)))
  tNext)
  (tDrop (tBM K "list" rAppend (tVar 7) (tCons (tVar 9) tNil))))))
def l2 : TS := (tFor (iRng1 (tCons (tCB (fun xs H Q => ∃ p ys, xs = [.ref p] ∧ (SqL K H p ys ∨ SqT K H p ys) ∧ Q (.int ys.length) H) (tCons (tVar 7) tNil)) tNil)) (gName 10)
  (tFor (iRng1 (tCons (tVar 10) tNil)) (gName 11)
  (tIfS (tAnd (tNot (tB (tCall (spA Γ K A__law_same) [] E0 (tCons (tOp (rIx K) (tVar 7) (tVar 10)) (tCons (tOp (rIx K) (tVar 7) (tVar 11)) tNil))))) (tTest (tOp (rI0 fun i j => .bl (decide (j < i))) (tCB (fun xs H Q => ∃ p ys, xs = [.ref p] ∧ (SqL K H p ys ∨ SqT K H p ys) ∧ Q (.int ys.length) H) (tCons (tLc (iTup K (tOp (rIx K) (tVar 7) (tVar 10))) (gName 19) (tTest (tOp (rInTD K) (tVar 19) (tOp (rIx K) (tVar 7) (tVar 11)))) (tVar 19) [19]) tNil)) (tC (.int 0)))))
  (tRet (tC (.bl false)))
  tNext)))
def l3 : TS := (tFor (iRng1 (tCons (tVar 5) tNil)) (gName 13)
  (tFor (iRng1 (tCons (tVar 5) tNil)) (gName 14)
  (tSeq (tAsg (tIf (tTest (tOp (rI0 fun i j => .bl (decide (j < i))) (tVar 2) (tC (.int 0)))) (tCall (spA Γ K A_needed) [] E0 (tCons (tVar 4) (tCons (tVar 13) (tCons (tVar 14) tNil)))) (tCallN 0 3 (spA Γ K A_needed) g_needed__j_i_board E0 tNil (tCons (tVar 14) (tCons (tVar 13) (tCons (tVar 4) tNil))))) (gName 9))
  (tSeq (tIfS (tNot (tB (tCall (spA Γ K A__law_same) [] E0 (tCons (tVar 9) (tCons (tCB (fun xs H Q => ∃ p ys, xs = [.ref p] ∧ ((SqL K H p ys ∧ ∀ l, H l = none → Q (.ref l) (upd H l (.tup ys))) ∨ (SqT K H p ys ∧ Q (.ref p) H))) (tCons (tLc (iRng1 (tCons (tCB (fun xs H Q => ∃ p ys, xs = [.ref p] ∧ (SqL K H p ys ∨ SqT K H p ys) ∧ Q (.int ys.length) H) (tCons (tVar 6) tNil)) tNil)) (gName 17) (tTest (tOp (rInTD K) (tTup (tCons (tVar 14) (tCons (tVar 13) tNil))) (tOp (rIx K) (tVar 7) (tVar 17)))) (tOp (rIx K) (tVar 6) (tVar 17)) [17]) tNil)) tNil)))))
  (tRet (tC (.bl false)))
  tNext)
  (tAsg (tOp (rI0 fun i j => .int (i + j)) (tVar 12) (tCB (fun xs H Q => ∃ p ys, xs = [.ref p] ∧ (SqL K H p ys ∨ SqT K H p ys) ∧ Q (.int ys.length) H) (tCons (tVar 9) tNil))) (gName 12))))))
def l4 : TS := (tFor (iTup K (tVar 15)) (gName 16)
  (tSeq (tAsg (tIf (tTest (tOp (rI0 fun i j => .bl (decide (j < i))) (tVar 2) (tC (.int 0)))) (tCall (spA Γ K A_still) [] E0 (tCons (tVar 4) (tCons (tVar 16) tNil))) (tCallN 0 2 (spA Γ K A_still) g_still__turn_board E0 tNil (tCons (tVar 16) (tCons (tVar 4) tNil)))) (gName 9))
  (tFor (iRng1 (tCons (tVar 5) tNil)) (gName 13)
  (tIfS (tNot (tB (tCall (spA Γ K A__law_same) [] E0 (tCons (tCall (spA Γ K A_needed) [] E0 (tCons (tVar 4) (tCons (tVar 13) (tCons (tOp (rIx K) (tVar 16) (tVar 13)) tNil)))) (tCons (tVar 9) tNil)))))
  (tRet (tC (.bl false)))
  tNext))))
end
abbrev rhoL (b : Addr) (s2 s3 s4 s5 s6 s7 s8 s9 s10 s11 s12 s13 s14 s15 s16 : AV) : Rho := [.un, .rv (.ref b), s2, s3, s4, s5, s6, s7, s8, s9, s10, s11, s12, s13, s14, s15, s16, .un, .un, .un]
theorem kw1 (R : V → AV → Prop) (vs zs : List V) (rs rz : List AV) (h1 : vs.length = 0) (h2 : zs.length = 1) (p : Paired R vs rs) (q : Paired R zs rz) : Paired R (g_half_turns__board vs zs) (g_half_turns__board rs rz) := by
  cases q with
  | nil => cases h2
  | cons a q =>
    cases q with
    | nil => exact .cons a .nil
    | cons _ _ => simp at h2
theorem kw2 (R : V → AV → Prop) (vs zs : List V) (rs rz : List AV) (h1 : vs.length = 0) (h2 : zs.length = 2) (p : Paired R vs rs) (q : Paired R zs rz) : Paired R (g_halves__half_board vs zs) (g_halves__half_board rs rz) := by
  cases q with
  | nil => cases h2
  | cons a q =>
    cases q with
    | nil => cases h2
    | cons b q =>
      cases q with
      | nil => exact .cons b (.cons a .nil)
      | cons _ _ => simp at h2
theorem kw2s (R : V → AV → Prop) (vs zs : List V) (rs rz : List AV) (h1 : vs.length = 0) (h2 : zs.length = 2) (p : Paired R vs rs) (q : Paired R zs rz) : Paired R (g_still__turn_board vs zs) (g_still__turn_board rs rz) := by
  cases q with
  | nil => cases h2
  | cons a q =>
    cases q with
    | nil => cases h2
    | cons b q =>
      cases q with
      | nil => exact .cons b (.cons a .nil)
      | cons _ _ => simp at h2
theorem kw3 (R : V → AV → Prop) (vs zs : List V) (rs rz : List AV) (h1 : vs.length = 0) (h2 : zs.length = 3) (p : Paired R vs rs) (q : Paired R zs rz) : Paired R (g_needed__j_i_board vs zs) (g_needed__j_i_board rs rz) := by
  cases q with
  | nil => cases h2
  | cons a q =>
    cases q with
    | nil => cases h2
    | cons b q =>
      cases q with
      | nil => cases h2
      | cons c q =>
        cases q with
        | nil => exact .cons c (.cons b (.cons a .nil))
        | cons _ _ => simp at h2
/-- the first pair of a half place -/
abbrev fs0 (R U : List Nat) (h : HP) : Nat × Nat := fst0 R U h.1 h.2.1 h.2.2
noncomputable abbrev gv0 (R U : List Nat) (n : Nat) (h : HP) : PyData := .tuple (prs (orb R U n (fs0 R U h)))
section
variable {Γ : Wd} {K : PySem.W.Frag} {mg : Str → Option Value} {β : Option Addr}
theorem ws_l1 {a : Addr} {R U E : List Nat} {n lap : Nat} {s3 s5 s8 s9 s10 s11 s12 s13 s14 s15 s16 : AV} {P : Kn} (b : Bq R U n) (hE : ∀ k, k < n → k ∉ E → isEnd R U k = false)
    (hP : ∀ s8 s9, P.nx (rhoL a (.d (.int (lap : Nat))) s3 (.d (bd R U E)) s5 (.d (.tuple ((hpl n E).map hfq))) (.ol ((hpl n E).map (gv0 R U n))) s8 s9 s10 s11 s12 s13 s14 s15 s16)) :
    WS Γ K β (l1 Γ K A_halves (A_same 4) A_own) (rhoL a (.d (.int (lap : Nat))) s3 (.d (bd R U E)) s5 (.d (.tuple ((hpl n E).map hfq))) (.ol []) s8 s9 s10 s11 s12 s13 s14 s15 s16) P := by
  unfold l1
  have n6 := b.n6
  have hl := hpl_len n E
  refine ws_for (wi_tup (we_d rfl ⟨_, rfl, ?_⟩))
  refine ⟨fun i ρ' => ∃ s8 s9, ρ' = rhoL a (.d (.int (lap : Nat))) s3 (.d (bd R U E)) s5 (.d (.tuple ((hpl n E).map hfq))) (.ol (((hpl n E).take i).map (gv0 R U n))) s8 s9 s10 s11 s12 s13 s14 s15 s16, ⟨s8, s9, rfl⟩, ?_, ?_⟩
  · rintro i d ρ' hd ⟨s8, s9, rfl⟩
    obtain ⟨h, hh, rfl⟩ : ∃ h, (hpl n E)[i]? = some h ∧ d = hfq h := by
      rw [List.getElem?_map] at hd
      cases q : (hpl n E)[i]? with
      | none => rw [q] at hd; cases hd
      | some h => rw [q] at hd; cases hd; exact ⟨h, rfl, rfl⟩
    obtain ⟨hs, hcn⟩ := hpl_mem (List.mem_of_getElem? hh)
    have hp := fst0_lt (x := h.2.1) (y := h.2.2) b hs
    have hco : h.2.1 = false → h.2.2 = false → at0 (inv U) (at0 (inv R) h.1) = at0 (inv R) (at0 (inv U) h.1) := fun h1 h2 => b.corner hs (hE _ hs (hcn h1 h2))
    have hpu : pure (gv0 R U n h) = true := intT_pure (dat_intT (dat_prs (orb_len n6 _)))
    refine wg_d (ws_seq (ws_asg ?_))
    have next : WG Γ K β (gName 9) (.d (gv0 R U n h)) (rhoL a (.d (.int (lap : Nat))) s3 (.d (bd R U E)) s5 (.d (.tuple ((hpl n E).map hfq))) (.ol (((hpl n E).take i).map (gv0 R U n))) (.d (hfq h)) s9 s10 s11 s12 s13 s14 s15 s16) fun ρ1 => WS Γ K β (tSeq (tIfS (tNot (tB (tCall (spA Γ K (A_same 4)) [] E0 (tCons (tVar 9) (tCons (tCall (spA Γ K A_own) [] E0 (tCons (tVar 4) (tCons (tVar 8) tNil))) tNil)))))
  (tRet (tC (.bl false)))
  tNext)
  (tDrop (tBM K "list" rAppend (tVar 7) (tCons (tVar 9) tNil)))) ρ1 { nx := fun ρ' => ∃ s8 s9, ρ' = rhoL a (.d (.int (lap : Nat))) s3 (.d (bd R U E)) s5 (.d (.tuple ((hpl n E).map hfq))) (.ol (((hpl n E).take (i + 1)).map (gv0 R U n))) s8 s9 s10 s11 s12 s13 s14 s15 s16, rt := P.rt, bk := P.nx, ct := fun ρ' => ∃ s8 s9, ρ' = rhoL a (.d (.int (lap : Nat))) s3 (.d (bd R U E)) s5 (.d (.tuple ((hpl n E).map hfq))) (.ol (((hpl n E).take (i + 1)).map (gv0 R U n))) s8 s9 s10 s11 s12 s13 s14 s15 s16 } := by
      refine wg_d (ws_seq (ws_if (wt_not (wt_B (we_callE (wa_cons (we_d rfl (wa_cons (we_call (wa_cons (we_d rfl (wa_cons (we_d rfl (wa_nil ?_))))))))))))))
      refine ⟨_, (· = .d (gv0 R U n h)), rfl, ⟨R, U, E, n, h.1, h.2.1, h.2.2, rfl, b, hs, hco, fun ps nd hm hsr => by rw [orb_uniq b hp nd hm hsr]⟩, ?_⟩
      rintro r rfl
      refine ⟨hpu, wa_nil ⟨_, _, rfl, ⟨_, _, rfl, dat_intT (dat_prs (orb_len n6 _)), dat_up (dat_prs (orb_len n6 _)), rfl⟩, rfl, _, rfl, fun hf => ?_, fun hf => ?_⟩⟩
      · rw [intT_refl (dat_intT (dat_prs (orb_len n6 _)))] at hf
        cases hf
      · refine ws_next (ws_drop (we_append (we_ol rfl ⟨_, _, rfl, rfl, we_d rfl ⟨_, _, rfl, rfl, by rw [List.length_map, List.length_take]; omega, ?_⟩⟩)))
        refine ⟨.d (hfq h), .d (gv0 R U n h), ?_⟩
        rw [List.take_add_one, hh, List.map_append]
        rfl
    refine we_if (wt_test (we_I0b (we_d rfl (we_int ⟨_, _, rfl, rfl, _, rfl, fun _ => ?_, fun _ => ?_⟩))))
    · refine we_call (wa_cons (we_d rfl (wa_cons (we_d rfl (wa_nil ?_)))))
      refine ⟨_, (· = .d (gv0 R U n h)), rfl, ⟨R, U, E, n, h.1, h.2.1, h.2.2, rfl, b, hs, fun ps nd hm hsr => by rw [orb_uniq b hp nd hm hsr]⟩, ?_⟩
      rintro r rfl
      exact ⟨hpu, next⟩
    · refine we_callN kw2 (wa_nil (wa_cons (we_d rfl (wa_cons (we_d rfl (wa_nil ?_))))))
      refine ⟨_, _, (· = .d (gv0 R U n h)), rfl, rfl, rfl, rfl, ⟨R, U, E, n, h.1, h.2.1, h.2.2, rfl, b, hs, fun ps nd hm hsr => by rw [orb_uniq b hp nd hm hsr]⟩, ?_⟩
      rintro r rfl
      exact ⟨hpu, next⟩
  · rintro ρ' ⟨s8, s9, rfl⟩
    rw [List.length_map, List.take_length]
    exact hP s8 s9
end
end K74
end
/-! ## W74z -/
section
namespace K74
open PySem PySem.Spec PyProof.Rows L2 AB
/-- one step of a walk -/
local macro_rules | `(tactic| walk_at "v") => `(tactic| first
  | refine we_d rfl ?_ | refine we_ol rfl ?_ | refine we_oK rfl ?_ | refine we_oN rfl ?_ | refine we_ob rfl ?_ | refine we_rv rfl ?_ | refine we_int ?_ | refine we_bl ?_ | refine we_non ?_ | refine we_str ?_ | refine we_sI rfl ?_ | refine we_c (L2.GCn.dp (by assumption)) ?_ | refine we_cv ?_)
local macro_rules | `(tactic| walk_at "e") => `(tactic| first
  | walk_at "v" | with_reducible refine wa_nil ?_ | with_reducible refine wa_cons ?_ | with_reducible refine we_I0i ?_ | with_reducible refine we_I0b ?_ | with_reducible refine we_Ii ?_ | with_reducible refine we_eqD ?_ | with_reducible refine we_neD ?_ | with_reducible refine we_ix ?_ | with_reducible refine we_tup ?_ | with_reducible refine we_lst ?_ | with_reducible refine wt_test ?_ | with_reducible refine wt_B ?_ | with_reducible refine wt_not ?_ | with_reducible refine wt_and ?_ | with_reducible refine wt_or ?_ | with_reducible refine we_if ?_ | with_reducible refine we_andV ?_ | with_reducible refine we_orV ?_ | with_reducible refine we_notV ?_ | with_reducible refine we_neg ?_ | with_reducible refine we_chain ?_ | with_reducible refine we_slT ?_ | with_reducible refine wo_no ?_ | with_reducible refine wo_some ?_
  | with_reducible refine ws_seq ?_ | with_reducible refine ws_ret ?_ | with_reducible refine ws_asg2 (by decide) ?_ | with_reducible refine ws_asg ?_ | with_reducible refine ws_drop ?_ | with_reducible refine ws_if ?_ | with_reducible refine wg_d ?_ | with_reducible refine wg_ol ?_ | with_reducible refine wg_oK ?_ | with_reducible refine wgs_nil ?_ | with_reducible refine wgs_cons ?_  | with_reducible refine ws_next ?_ | with_reducible refine ws_par (by decide) ?_ | with_reducible refine ws_asg2 (by decide) ?_
  | with_reducible refine we_len ?_ | with_reducible refine we_isi ?_ | with_reducible refine we_gcdG ?_ | with_reducible refine we_fld ?_ | with_reducible refine we_tuple ?_ | with_reducible refine we_list ?_ | with_reducible refine we_inI ?_ | with_reducible refine we_isN ?_ | with_reducible refine we_notN ?_
  | refine wg_tup rfl ?_ | refine wgs_cons ?_ | refine wgs_nil ?_)
/-- what a step asks, where it is plain -/
local macro_rules | `(tactic| walk_at "c") => `(tactic| first
  | refine ⟨_, rfl, un_d, ?_⟩ | refine ⟨_, rfl, un_ol, ?_⟩ | refine ⟨_, rfl, un_oK, ?_⟩ | refine ⟨_, rfl, un_oN, ?_⟩ | refine ⟨_, rfl, un_rv, ?_⟩
  | refine ⟨true, rfl, fun _ => ?_, tt_ff⟩ | refine ⟨true, rfl, ff_tt, fun _ => ?_⟩ | refine ⟨false, rfl, ff_tt, fun _ => ?_⟩ | refine ⟨false, rfl, fun _ => ?_, tt_ff⟩
  | with_reducible refine ⟨_, rfl, fun _ => ?_, tt_ff⟩ | with_reducible refine ⟨_, rfl, ff_tt, fun _ => ?_⟩ | refine ⟨_, rfl, fun _ => ?_, fun _ => ?_⟩
  | with_reducible refine ⟨fun _ => ?_, tt_ff⟩ | with_reducible refine ⟨ff_tt, fun _ => ?_⟩ | with_reducible refine ⟨fun _ => ?_, fun _ => ?_⟩
  | refine ⟨_, _, rfl, rfl, fun _ => ?_, tt_ff⟩ | refine ⟨_, _, rfl, rfl, ff_tt, fun _ => ?_⟩ | refine ⟨_, _, rfl, rfl, fun _ => ?_, fun _ => ?_⟩
  | refine ⟨_, rfl, ?_⟩
  | refine ⟨_, _, rfl, fun _ _ => ?_⟩
  | refine ⟨_, _, rfl, al_d, al_d, ?_⟩ | refine ⟨_, _, rfl, al_oN, al_ol, ?_⟩ | refine ⟨_, _, rfl, al_oK, al_ol, ?_⟩ | refine ⟨_, _, rfl, al_ol, al_ol, ?_⟩ | refine ⟨_, _, rfl, al_d, al_ol, ?_⟩
  | refine ⟨_, _, rfl, rfl, rfl, rfl, ?_⟩
  | refine ⟨_, _, rfl, rfl, ?_⟩
  | refine ⟨_, _, rfl, _, true, rfl, rfl, ?_⟩ | refine ⟨_, _, rfl, _, false, rfl, rfl, ?_⟩
  | refine ⟨_, _, _, .inr rfl, rfl, rfl, ?_⟩
  | refine ⟨_, rfl, _, .inr rfl, ?_⟩ | refine ⟨_, .inr rfl, ?_⟩ | refine ⟨_, .inl rfl, ?_⟩
  | refine ⟨[_, _], rfl, Nat.le_of_ble_eq_true rfl, ?_⟩
  | refine ⟨[_, _, _], rfl, Nat.le_of_ble_eq_true rfl, ?_⟩
  | refine ⟨[_], rfl, Nat.le_of_ble_eq_true rfl, ?_⟩
  | refine ⟨[], rfl, Nat.le_of_ble_eq_true rfl, ?_⟩)
local macro_rules | `(tactic| walk_at "E") => `(tactic| repeat' first | walk_at "e" | walk_at "c" | fail)
section
variable {Γ : Wd} {K : PySem.W.Frag} {mg : Str → Option Value} {β : Option Addr}
theorem ws_l2 {a : Addr} {R U E : List Nat} {n : Nat} {s2 s3 s4 s5 s6 s8 s9 s10 s11 s12 s13 s14 s15 s16 : AV} {P : Kn} (b : Bq R U n)
    (hP : ∀ s10 s11, P.nx (rhoL a s2 s3 s4 s5 s6 (.ol ((hpl n E).map (gv0 R U n))) s8 s9 s10 s11 s12 s13 s14 s15 s16)) :
    WS Γ K β (l2 Γ K (A_same 4)) (rhoL a s2 s3 s4 s5 s6 (.ol ((hpl n E).map (gv0 R U n))) s8 s9 s10 s11 s12 s13 s14 s15 s16) P := by
  unfold l2
  have n6 := b.n6
  have hl := hpl_len n E
  have hG : ((hpl n E).map (gv0 R U n)).length = (hpl n E).length := List.length_map ..
  have get : ∀ {i : Nat} {h : HP}, (hpl n E)[i]? = some h → ((hpl n E).map (gv0 R U n))[i]? = some (gv0 R U n h) := fun e => by rw [List.getElem?_map, e]; rfl
  refine ws_for (wi_range1 ?_)
  walk_at "E"
  refine ⟨by omega, by omega, ?_⟩
  rw [hG, Int.toNat_natCast]
  refine ⟨fun i ρ' => ∃ s10 s11, ρ' = rhoL a s2 s3 s4 s5 s6 (.ol ((hpl n E).map (gv0 R U n))) s8 s9 s10 s11 s12 s13 s14 s15 s16, ⟨s10, s11, rfl⟩, ?_, ?_⟩
  · rintro i d ρ' hd ⟨s10, s11, rfl⟩
    obtain ⟨hi, rfl⟩ := rg0 hd
    refine wg_d (ws_for (wi_range1 ?_))
    walk_at "E"
    refine ⟨by omega, by omega, ?_⟩
    rw [Int.toNat_natCast]
    refine ⟨fun j ρ' => ∃ s11, ρ' = rhoL a s2 s3 s4 s5 s6 (.ol ((hpl n E).map (gv0 R U n))) s8 s9 (.d (.int (i : Nat))) s11 s12 s13 s14 s15 s16, ⟨_, rfl⟩, ?_, ?_⟩
    · rintro j d ρ' hd ⟨s11, rfl⟩
      obtain ⟨hj, rfl⟩ := rg0 hd
      obtain ⟨h, eh⟩ : ∃ h, (hpl n E)[i]? = some h := ⟨_, List.getElem?_eq_getElem hi⟩
      obtain ⟨g, eg⟩ : ∃ g, (hpl n E)[j]? = some g := ⟨_, List.getElem?_eq_getElem (by omega)⟩
      have hp := fst0_lt (x := h.2.1) (y := h.2.2) b (hpl_mem (List.mem_of_getElem? eh)).1
      have gp := fst0_lt (x := g.2.1) (y := g.2.2) b (hpl_mem (List.mem_of_getElem? eg)).1
      refine wg_d (ws_if (wt_and (wt_not (wt_B (we_callE (wa_cons (we_ix (we_ol rfl (we_d rfl ⟨_, _, _, .inl rfl, rfl, atI_D (get eh), wa_cons (we_ix (we_ol rfl (we_d rfl ⟨_, _, _, .inl rfl, rfl, atI_D (get eg), wa_nil ?_⟩)))⟩))))))))) 
      refine ⟨_, _, rfl, ⟨_, _, rfl, dat_intT (dat_prs (orb_len n6 _)), dat_up (dat_prs (orb_len n6 _)), rfl⟩, rfl, ?_⟩
      refine ⟨_, rfl, fun hq => ?_, fun _ => ⟨ff_tt, fun _ => ws_next (by exact ⟨_, rfl⟩)⟩⟩
      have hq : PyData.eqv (gv0 R U n h) (gv0 R U n g) = false := by
        cases z : PyData.eqv (gv0 R U n h) (gv0 R U n g) with
        | false => rfl
        | true => rw [z] at hq; cases hq
      have ho := orb_len n6 (R := R) (U := U) (fs0 R U h)
      refine wt_test (we_I0b (we_len (wa_cons (we_lc (gown_name (by decide)) (wi_tup (we_ix (we_ol rfl (we_d rfl ⟨_, _, _, .inl rfl, rfl, atI_D (get eh), ⟨_, rfl, unused_of rfl, by rw [List.length_map]; omega, fun _ acc => acc = [], rfl, ?_, ?_⟩⟩))))))))
      · intro m d acc hm hacc hI
        obtain ⟨q, hq1, rfl⟩ : ∃ q, q ∈ orb R U n (fs0 R U h) ∧ d = pr q := by
          obtain ⟨q, hq1, hq2⟩ := List.mem_map.mp (List.mem_of_getElem? hm)
          exact ⟨q, hq1, hq2.symm⟩
        refine wg_d ⟨weak_set rfl, wt_test (we_inTD (we_d rfl (we_ix (we_ol rfl (we_d rfl ⟨_, _, _, .inl rfl, rfl, atI_D (get eg), ⟨_, _, rfl, rfl, sh_pr q, sh_prsT _, _, rfl, rfl, fun ht => ?_, fun ht => ?_⟩⟩)))))⟩
        · rw [any_pr] at ht
          refine absurd hq ?_
          rw [show gv0 R U n h = gv0 R U n g from by
            show PyData.tuple _ = PyData.tuple _
            rw [orb_meet b hp gp hq1 (of_decide_eq_true ht)], intT_refl (dat_intT (dat_prs (orb_len n6 _)))]
          decide
        · exact hI
      · rintro acc rfl hacc
        refine wa_nil ⟨_, rfl, _, .inl rfl, ?_⟩
        walk_at "E"
        exact ⟨_, rfl⟩
    · rintro ρ' ⟨s11, rfl⟩
      exact ⟨_, _, rfl⟩
  · rintro ρ' ⟨s10, s11, rfl⟩
    exact hP s10 s11
end
end K74
end
/-! ## X74a -/
section
namespace K74
open PySem PySem.Spec PyProof.Rows L2 AB
/-- one step of a walk -/
local macro_rules | `(tactic| walk_at "v") => `(tactic| first
  | refine we_d rfl ?_ | refine we_ol rfl ?_ | refine we_oK rfl ?_ | refine we_oN rfl ?_ | refine we_ob rfl ?_ | refine we_rv rfl ?_ | refine we_int ?_ | refine we_bl ?_ | refine we_non ?_ | refine we_str ?_ | refine we_sI rfl ?_ | refine we_c (L2.GCn.dp (by assumption)) ?_ | refine we_cv ?_)
local macro_rules | `(tactic| walk_at "e") => `(tactic| first
  | walk_at "v" | with_reducible refine wa_nil ?_ | with_reducible refine wa_cons ?_ | with_reducible refine we_I0i ?_ | with_reducible refine we_I0b ?_ | with_reducible refine we_Ii ?_ | with_reducible refine we_eqD ?_ | with_reducible refine we_neD ?_ | with_reducible refine we_ix ?_ | with_reducible refine we_tup ?_ | with_reducible refine we_lst ?_ | with_reducible refine wt_test ?_ | with_reducible refine wt_B ?_ | with_reducible refine wt_not ?_ | with_reducible refine wt_and ?_ | with_reducible refine wt_or ?_ | with_reducible refine we_if ?_ | with_reducible refine we_andV ?_ | with_reducible refine we_orV ?_ | with_reducible refine we_notV ?_ | with_reducible refine we_neg ?_ | with_reducible refine we_chain ?_ | with_reducible refine we_slT ?_ | with_reducible refine wo_no ?_ | with_reducible refine wo_some ?_
  | with_reducible refine ws_seq ?_ | with_reducible refine ws_ret ?_ | with_reducible refine ws_asg2 (by decide) ?_ | with_reducible refine ws_asg ?_ | with_reducible refine ws_drop ?_ | with_reducible refine ws_if ?_ | with_reducible refine wg_d ?_ | with_reducible refine wg_ol ?_ | with_reducible refine wg_oK ?_ | with_reducible refine wgs_nil ?_ | with_reducible refine wgs_cons ?_  | with_reducible refine ws_next ?_ | with_reducible refine ws_par (by decide) ?_ | with_reducible refine ws_asg2 (by decide) ?_
  | with_reducible refine we_len ?_ | with_reducible refine we_isi ?_ | with_reducible refine we_gcdG ?_ | with_reducible refine we_fld ?_ | with_reducible refine we_tuple ?_ | with_reducible refine we_list ?_ | with_reducible refine we_inI ?_ | with_reducible refine we_isN ?_ | with_reducible refine we_notN ?_
  | refine wg_tup rfl ?_ | refine wgs_cons ?_ | refine wgs_nil ?_)
/-- what a step asks, where it is plain -/
local macro_rules | `(tactic| walk_at "c") => `(tactic| first
  | refine ⟨_, rfl, un_d, ?_⟩ | refine ⟨_, rfl, un_ol, ?_⟩ | refine ⟨_, rfl, un_oK, ?_⟩ | refine ⟨_, rfl, un_oN, ?_⟩ | refine ⟨_, rfl, un_rv, ?_⟩
  | refine ⟨true, rfl, fun _ => ?_, tt_ff⟩ | refine ⟨true, rfl, ff_tt, fun _ => ?_⟩ | refine ⟨false, rfl, ff_tt, fun _ => ?_⟩ | refine ⟨false, rfl, fun _ => ?_, tt_ff⟩
  | with_reducible refine ⟨_, rfl, fun _ => ?_, tt_ff⟩ | with_reducible refine ⟨_, rfl, ff_tt, fun _ => ?_⟩ | refine ⟨_, rfl, fun _ => ?_, fun _ => ?_⟩
  | with_reducible refine ⟨fun _ => ?_, tt_ff⟩ | with_reducible refine ⟨ff_tt, fun _ => ?_⟩ | with_reducible refine ⟨fun _ => ?_, fun _ => ?_⟩
  | refine ⟨_, _, rfl, rfl, fun _ => ?_, tt_ff⟩ | refine ⟨_, _, rfl, rfl, ff_tt, fun _ => ?_⟩ | refine ⟨_, _, rfl, rfl, fun _ => ?_, fun _ => ?_⟩
  | refine ⟨_, rfl, ?_⟩
  | refine ⟨_, _, rfl, fun _ _ => ?_⟩
  | refine ⟨_, _, rfl, al_d, al_d, ?_⟩ | refine ⟨_, _, rfl, al_oN, al_ol, ?_⟩ | refine ⟨_, _, rfl, al_oK, al_ol, ?_⟩ | refine ⟨_, _, rfl, al_ol, al_ol, ?_⟩ | refine ⟨_, _, rfl, al_d, al_ol, ?_⟩
  | refine ⟨_, _, rfl, rfl, rfl, rfl, ?_⟩
  | refine ⟨_, _, rfl, rfl, ?_⟩
  | refine ⟨_, _, rfl, _, true, rfl, rfl, ?_⟩ | refine ⟨_, _, rfl, _, false, rfl, rfl, ?_⟩
  | refine ⟨_, _, _, .inr rfl, rfl, rfl, ?_⟩
  | refine ⟨_, rfl, _, .inr rfl, ?_⟩ | refine ⟨_, .inr rfl, ?_⟩ | refine ⟨_, .inl rfl, ?_⟩
  | refine ⟨[_, _], rfl, Nat.le_of_ble_eq_true rfl, ?_⟩
  | refine ⟨[_, _, _], rfl, Nat.le_of_ble_eq_true rfl, ?_⟩
  | refine ⟨[_], rfl, Nat.le_of_ble_eq_true rfl, ?_⟩
  | refine ⟨[], rfl, Nat.le_of_ble_eq_true rfl, ?_⟩)
local macro_rules | `(tactic| walk_at "E") => `(tactic| repeat' first | walk_at "e" | walk_at "c" | fail)
/-- the half places whose own list holds the pair -/
noncomputable abbrev hit (R U : List Nat) (n : Nat) (p : Nat × Nat) : HP → Bool := fun h => decide (p ∈ orb R U n (fs0 R U h))
noncomputable abbrev cnt (R U E : List Nat) (n i j : Nat) : Nat := ((hpl n E).filter (hit R U n (j, i))).length
theorem hit_iff {R U E : List Nat} {n i j : Nat} (b : Bq R U n) (hi : i < n) (hj : j < n) : ∀ h ∈ hpl n E, hit R U n (j, i) h = true ↔ Rch R U (j, i) (fst0 R U h.1 h.2.1 h.2.2) := fun h hh => by
  have hp := fst0_lt (x := h.2.1) (y := h.2.2) b (hpl_mem hh).1
  show decide _ = true ↔ _
  rw [decide_eq_true_iff, orb_mem b hp]
  exact ⟨fun r => b.sym hp r, fun r => b.sym ⟨hj, hi⟩ r⟩
theorem len_filt {α : Type} (f : α → Bool) (l : List α) : (l.filter f).length ≤ l.length := List.length_filter_le _ _
section
variable {Γ : Wd} {K : PySem.W.Frag} {mg : Str → Option Value} {β : Option Addr}
theorem ws_l3 {a : Addr} {R U E : List Nat} {n lap : Nat} {s3 s8 s9 s10 s11 s13 s14 s15 s16 : AV} {P : Kn} (b : Bq R U n)
    (hP : ∀ s9 s13 s14, P.nx (rhoL a (.d (.int (lap : Nat))) s3 (.d (bd R U E)) (.d (.int (n : Nat))) (.d (.tuple ((hpl n E).map hfq))) (.ol ((hpl n E).map (gv0 R U n))) s8 s9 s10 s11 (.d (.int ((sumN (fun i => sumN (fun j => cnt R U E n i j) n) n : Nat) : Int))) s13 s14 s15 s16)) :
    WS Γ K β (l3 Γ K (A_same 4) A_needed) (rhoL a (.d (.int (lap : Nat))) s3 (.d (bd R U E)) (.d (.int (n : Nat))) (.d (.tuple ((hpl n E).map hfq))) (.ol ((hpl n E).map (gv0 R U n))) s8 s9 s10 s11 (.d (.int 0)) s13 s14 s15 s16) P := by
  unfold l3
  have n6 := b.n6
  have hl := hpl_len n E
  have hG : ((hpl n E).map (gv0 R U n)).length = (hpl n E).length := List.length_map ..
  have get : ∀ {i : Nat} {h : HP}, (hpl n E)[i]? = some h → ((hpl n E).map (gv0 R U n))[i]? = some (gv0 R U n h) := fun e => by rw [List.getElem?_map, e]; rfl
  have geth : ∀ {i : Nat} {h : HP}, (hpl n E)[i]? = some h → ((hpl n E).map hfq)[i]? = some (hfq h) := fun e => by rw [List.getElem?_map, e]; rfl
  refine ws_for (wi_range1 ?_)
  walk_at "E"
  refine ⟨by omega, by omega, ?_⟩
  rw [Int.toNat_natCast]
  refine ⟨fun i ρ' => ∃ s9 s13 s14, ρ' = rhoL a (.d (.int (lap : Nat))) s3 (.d (bd R U E)) (.d (.int (n : Nat))) (.d (.tuple ((hpl n E).map hfq))) (.ol ((hpl n E).map (gv0 R U n))) s8 s9 s10 s11 (.d (.int ((sumN (fun i => sumN (fun j => cnt R U E n i j) n) i : Nat) : Int))) s13 s14 s15 s16, ⟨s9, s13, s14, rfl⟩, ?_, ?_⟩
  · rintro i d ρ' hd ⟨s9, s13, s14, rfl⟩
    obtain ⟨hi, rfl⟩ := rg0 hd
    refine wg_d (ws_for (wi_range1 ?_))
    walk_at "E"
    refine ⟨by omega, by omega, ?_⟩
    rw [Int.toNat_natCast]
    refine ⟨fun j ρ' => ∃ s9 s14, ρ' = rhoL a (.d (.int (lap : Nat))) s3 (.d (bd R U E)) (.d (.int (n : Nat))) (.d (.tuple ((hpl n E).map hfq))) (.ol ((hpl n E).map (gv0 R U n))) s8 s9 s10 s11 (.d (.int ((sumN (fun i => sumN (fun j => cnt R U E n i j) n) i + sumN (fun j => cnt R U E n i j) j : Nat) : Int))) (.d (.int (i : Nat))) s14 s15 s16, ⟨s9, s14, rfl⟩, ?_, ?_⟩
    · rintro j d ρ' hd ⟨s9, s14, rfl⟩
      obtain ⟨hj, rfl⟩ := rg0 hd
      have hc : cnt R U E n i j ≤ (hpl n E).length := len_filt _ _
      have hdat : dat 3 (.tuple (((hpl n E).filter (hit R U n (j, i))).map hfq)) := dat_hfqs (Nat.le_trans hc (by omega))
      have next : WG Γ K β (gName 9) (.d (.tuple (((hpl n E).filter (hit R U n (j, i))).map hfq))) (rhoL a (.d (.int (lap : Nat))) s3 (.d (bd R U E)) (.d (.int (n : Nat))) (.d (.tuple ((hpl n E).map hfq))) (.ol ((hpl n E).map (gv0 R U n))) s8 s9 s10 s11 (.d (.int ((sumN (fun i => sumN (fun j => cnt R U E n i j) n) i + sumN (fun j => cnt R U E n i j) j : Nat) : Int))) (.d (.int (i : Nat))) (.d (.int (j : Nat))) s15 s16) fun ρ1 => WS Γ K β (tSeq (tIfS (tNot (tB (tCall (spA Γ K (A_same 4)) [] E0 (tCons (tVar 9) (tCons (tCB (fun xs H Q => ∃ p ys, xs = [.ref p] ∧ ((SqL K H p ys ∧ ∀ l, H l = none → Q (.ref l) (upd H l (.tup ys))) ∨ (SqT K H p ys ∧ Q (.ref p) H))) (tCons (tLc (iRng1 (tCons (tCB (fun xs H Q => ∃ p ys, xs = [.ref p] ∧ (SqL K H p ys ∨ SqT K H p ys) ∧ Q (.int ys.length) H) (tCons (tVar 6) tNil)) tNil)) (gName 17) (tTest (tOp (rInTD K) (tTup (tCons (tVar 14) (tCons (tVar 13) tNil))) (tOp (rIx K) (tVar 7) (tVar 17)))) (tOp (rIx K) (tVar 6) (tVar 17)) [17]) tNil)) tNil)))))
  (tRet (tC (.bl false)))
  tNext)
  (tAsg (tOp (rI0 fun i j => .int (i + j)) (tVar 12) (tCB (fun xs H Q => ∃ p ys, xs = [.ref p] ∧ (SqL K H p ys ∨ SqT K H p ys) ∧ Q (.int ys.length) H) (tCons (tVar 9) tNil))) (gName 12))) ρ1 { nx := fun ρ' => ∃ s9 s14, ρ' = rhoL a (.d (.int (lap : Nat))) s3 (.d (bd R U E)) (.d (.int (n : Nat))) (.d (.tuple ((hpl n E).map hfq))) (.ol ((hpl n E).map (gv0 R U n))) s8 s9 s10 s11 (.d (.int ((sumN (fun i => sumN (fun j => cnt R U E n i j) n) i + sumN (fun j => cnt R U E n i j) (j + 1) : Nat) : Int))) (.d (.int (i : Nat))) s14 s15 s16, rt := P.rt, bk := fun ρ' => ∃ s9 s13 s14, ρ' = rhoL a (.d (.int (lap : Nat))) s3 (.d (bd R U E)) (.d (.int (n : Nat))) (.d (.tuple ((hpl n E).map hfq))) (.ol ((hpl n E).map (gv0 R U n))) s8 s9 s10 s11 (.d (.int ((sumN (fun i => sumN (fun j => cnt R U E n i j) n) (i + 1) : Nat) : Int))) s13 s14 s15 s16, ct := fun ρ' => ∃ s9 s14, ρ' = rhoL a (.d (.int (lap : Nat))) s3 (.d (bd R U E)) (.d (.int (n : Nat))) (.d (.tuple ((hpl n E).map hfq))) (.ol ((hpl n E).map (gv0 R U n))) s8 s9 s10 s11 (.d (.int ((sumN (fun i => sumN (fun j => cnt R U E n i j) n) i + sumN (fun j => cnt R U E n i j) (j + 1) : Nat) : Int))) (.d (.int (i : Nat))) s14 s15 s16 } := by
        refine wg_d (ws_seq (ws_if (wt_not (wt_B (we_callE (wa_cons (we_d rfl (wa_cons (we_tuple (wa_cons (we_lc (gown_name (by decide)) (wi_range1 ?_))))))))))))
        walk_at "E"
        refine ⟨by rw [List.length_map]; omega, by omega, ?_⟩
        rw [Int.toNat_natCast, List.length_map]
        refine ⟨unused_of rfl, by rw [rgD_length]; omega, fun m acc => acc = (((hpl n E).take m).filter (hit R U n (j, i))).map hfq, rfl, ?_, ?_⟩
        · intro m d acc hm hacc hI
          obtain ⟨hm2, rfl⟩ := rg0 hm
          obtain ⟨h, eh⟩ : ∃ h, (hpl n E)[m]? = some h := ⟨_, List.getElem?_eq_getElem hm2⟩
          refine wg_d ⟨weak_set rfl, wt_test (we_inTD ?_)⟩
          walk_at "E"
          refine ⟨_, _, _, .inl rfl, rfl, atI_D (get eh), pr (j, i), _, rfl, rfl, sh_pr _, sh_prsT _, _, rfl, rfl, fun hb => ?_, fun hb => ?_⟩
          · rw [any_pr] at hb
            walk_at "E"
            refine ⟨_, _, _, .inr rfl, rfl, atI_D (geth eh), rfl, _, rfl, ?_⟩
            dsimp only
            rw [take_filter_succ eh, hI, show hit R U n (j, i) h = true from hb]
            simp
          · rw [any_pr] at hb
            rw [take_filter_succ eh, hI, show hit R U n (j, i) h = false from hb]
            simp
        · intro acc hacc _
          have e : acc = (((hpl n E).take (rgD 0 1 (hpl n E).length).length).filter (hit R U n (j, i))).map hfq := hacc
          rw [rgD_length, List.take_length] at e
          subst e
          refine wa_nil ⟨_, rfl, _, .inl rfl, wa_nil ⟨_, _, rfl, ⟨_, _, rfl, dat_intT hdat, hdat, rfl⟩, rfl, _, rfl, fun hf => ?_, fun _ => ?_⟩⟩
          · rw [intT_refl (dat_intT hdat)] at hf
            cases hf
          · walk_at "E"
            refine ⟨.d (.tuple (((hpl n E).filter (hit R U n (j, i))).map hfq)), .d (.int (j : Nat)), ?_⟩
            have e : ((sumN (fun i => sumN (fun j => cnt R U E n i j) n) i + sumN (fun j => cnt R U E n i j) (j + 1) : Nat) : Int) = ((sumN (fun i => sumN (fun j => cnt R U E n i j) n) i + sumN (fun j => cnt R U E n i j) j : Nat) : Int) + ((((hpl n E).filter (hit R U n (j, i))).map hfq).length : Nat) := by
              rw [List.length_map]
              show ((_ + (_ + cnt R U E n i j) : Nat) : Int) = ((_ + _ : Nat) : Int) + (cnt R U E n i j : Nat)
              omega
            rw [e]
            rfl
      refine wg_d (ws_seq (ws_asg ?_))
      refine we_if (wt_test (we_I0b (we_d rfl (we_int ⟨_, _, rfl, rfl, _, rfl, fun _ => ?_, fun _ => ?_⟩))))
      · refine we_call (wa_cons (we_d rfl (wa_cons (we_d rfl (wa_cons (we_d rfl (wa_nil ?_)))))))
        refine ⟨_, (· = .d (.tuple (((hpl n E).filter (hit R U n (j, i))).map hfq))), rfl, ⟨R, U, E, n, i, j, rfl, b, hi, hj, fun f hf => ?_⟩, ?_⟩
        · rw [List.filter_congr fun h hh => Bool.eq_iff_iff.mpr ((hf h hh).trans (hit_iff b hi hj h hh).symm)]
        rintro r rfl
        exact ⟨intT_pure (dat_intT hdat), next⟩
      · refine we_callN kw3 (wa_nil (wa_cons (we_d rfl (wa_cons (we_d rfl (wa_cons (we_d rfl (wa_nil ?_))))))))
        refine ⟨_, _, (· = .d (.tuple (((hpl n E).filter (hit R U n (j, i))).map hfq))), rfl, rfl, rfl, rfl, ⟨R, U, E, n, i, j, rfl, b, hi, hj, fun f hf => ?_⟩, ?_⟩
        · rw [List.filter_congr fun h hh => Bool.eq_iff_iff.mpr ((hf h hh).trans (hit_iff b hi hj h hh).symm)]
        rintro r rfl
        exact ⟨intT_pure (dat_intT hdat), next⟩
    · rintro ρ' ⟨s9, s14, rfl⟩
      rw [rgD_length]
      exact ⟨_, _, _, rfl⟩
  · rintro ρ' ⟨s9, s13, s14, rfl⟩
    rw [rgD_length]
    exact hP _ _ _
end
end K74
end
/-! ## X74b -/
section
namespace K74
open PySem PySem.Spec PyProof.Rows L2 AB
/-- one step of a walk -/
local macro_rules | `(tactic| walk_at "v") => `(tactic| first
  | refine we_d rfl ?_ | refine we_ol rfl ?_ | refine we_oK rfl ?_ | refine we_oN rfl ?_ | refine we_ob rfl ?_ | refine we_rv rfl ?_ | refine we_int ?_ | refine we_bl ?_ | refine we_non ?_ | refine we_str ?_ | refine we_sI rfl ?_ | refine we_c (L2.GCn.dp (by assumption)) ?_ | refine we_cv ?_)
local macro_rules | `(tactic| walk_at "e") => `(tactic| first
  | walk_at "v" | with_reducible refine wa_nil ?_ | with_reducible refine wa_cons ?_ | with_reducible refine we_I0i ?_ | with_reducible refine we_I0b ?_ | with_reducible refine we_Ii ?_ | with_reducible refine we_eqD ?_ | with_reducible refine we_neD ?_ | with_reducible refine we_ix ?_ | with_reducible refine we_tup ?_ | with_reducible refine we_lst ?_ | with_reducible refine wt_test ?_ | with_reducible refine wt_B ?_ | with_reducible refine wt_not ?_ | with_reducible refine wt_and ?_ | with_reducible refine wt_or ?_ | with_reducible refine we_if ?_ | with_reducible refine we_andV ?_ | with_reducible refine we_orV ?_ | with_reducible refine we_notV ?_ | with_reducible refine we_neg ?_ | with_reducible refine we_chain ?_ | with_reducible refine we_slT ?_ | with_reducible refine wo_no ?_ | with_reducible refine wo_some ?_
  | with_reducible refine ws_seq ?_ | with_reducible refine ws_ret ?_ | with_reducible refine ws_asg2 (by decide) ?_ | with_reducible refine ws_asg ?_ | with_reducible refine ws_drop ?_ | with_reducible refine ws_if ?_ | with_reducible refine wg_d ?_ | with_reducible refine wg_ol ?_ | with_reducible refine wg_oK ?_ | with_reducible refine wgs_nil ?_ | with_reducible refine wgs_cons ?_  | with_reducible refine ws_next ?_ | with_reducible refine ws_par (by decide) ?_ | with_reducible refine ws_asg2 (by decide) ?_
  | with_reducible refine we_len ?_ | with_reducible refine we_isi ?_ | with_reducible refine we_gcdG ?_ | with_reducible refine we_fld ?_ | with_reducible refine we_tuple ?_ | with_reducible refine we_list ?_ | with_reducible refine we_inI ?_ | with_reducible refine we_isN ?_ | with_reducible refine we_notN ?_
  | refine wg_tup rfl ?_ | refine wgs_cons ?_ | refine wgs_nil ?_)
/-- what a step asks, where it is plain -/
local macro_rules | `(tactic| walk_at "c") => `(tactic| first
  | refine ⟨_, rfl, un_d, ?_⟩ | refine ⟨_, rfl, un_ol, ?_⟩ | refine ⟨_, rfl, un_oK, ?_⟩ | refine ⟨_, rfl, un_oN, ?_⟩ | refine ⟨_, rfl, un_rv, ?_⟩
  | refine ⟨true, rfl, fun _ => ?_, tt_ff⟩ | refine ⟨true, rfl, ff_tt, fun _ => ?_⟩ | refine ⟨false, rfl, ff_tt, fun _ => ?_⟩ | refine ⟨false, rfl, fun _ => ?_, tt_ff⟩
  | with_reducible refine ⟨_, rfl, fun _ => ?_, tt_ff⟩ | with_reducible refine ⟨_, rfl, ff_tt, fun _ => ?_⟩ | refine ⟨_, rfl, fun _ => ?_, fun _ => ?_⟩
  | with_reducible refine ⟨fun _ => ?_, tt_ff⟩ | with_reducible refine ⟨ff_tt, fun _ => ?_⟩ | with_reducible refine ⟨fun _ => ?_, fun _ => ?_⟩
  | refine ⟨_, _, rfl, rfl, fun _ => ?_, tt_ff⟩ | refine ⟨_, _, rfl, rfl, ff_tt, fun _ => ?_⟩ | refine ⟨_, _, rfl, rfl, fun _ => ?_, fun _ => ?_⟩
  | refine ⟨_, rfl, ?_⟩
  | refine ⟨_, _, rfl, fun _ _ => ?_⟩
  | refine ⟨_, _, rfl, al_d, al_d, ?_⟩ | refine ⟨_, _, rfl, al_oN, al_ol, ?_⟩ | refine ⟨_, _, rfl, al_oK, al_ol, ?_⟩ | refine ⟨_, _, rfl, al_ol, al_ol, ?_⟩ | refine ⟨_, _, rfl, al_d, al_ol, ?_⟩
  | refine ⟨_, _, rfl, rfl, rfl, rfl, ?_⟩
  | refine ⟨_, _, rfl, rfl, ?_⟩
  | refine ⟨_, _, rfl, _, true, rfl, rfl, ?_⟩ | refine ⟨_, _, rfl, _, false, rfl, rfl, ?_⟩
  | refine ⟨_, _, _, .inr rfl, rfl, rfl, ?_⟩
  | refine ⟨_, rfl, _, .inr rfl, ?_⟩ | refine ⟨_, .inr rfl, ?_⟩ | refine ⟨_, .inl rfl, ?_⟩
  | refine ⟨[_, _], rfl, Nat.le_of_ble_eq_true rfl, ?_⟩
  | refine ⟨[_, _, _], rfl, Nat.le_of_ble_eq_true rfl, ?_⟩
  | refine ⟨[_], rfl, Nat.le_of_ble_eq_true rfl, ?_⟩
  | refine ⟨[], rfl, Nat.le_of_ble_eq_true rfl, ?_⟩)
local macro_rules | `(tactic| walk_at "E") => `(tactic| repeat' first | walk_at "e" | walk_at "c" | fail)
section
variable {Γ : Wd} {K : PySem.W.Frag} {mg : Str → Option Value} {β : Option Addr}
theorem ws_l4 {a : Addr} {R U E : List Nat} {n lap : Nat} {us : List (List Nat)} {s3 s6 s7 s8 s9 s10 s11 s12 s13 s14 s16 : AV} {P : Kn} (b : Bq R U n) (hc : Conn R U n) (hE : ∀ k, k < n → k ∉ E → isEnd R U k = false) (hus : ∀ T ∈ us, ∃ t, Hom R U n t T)
    (hP : ∀ s9 s13 s16, P.nx (rhoL a (.d (.int (lap : Nat))) s3 (.d (bd R U E)) (.d (.int (n : Nat))) s6 s7 s8 s9 s10 s11 s12 s13 s14 (.d (.tuple (us.map tN))) s16)) :
    WS Γ K β (l4 Γ K (A_same 4) A_needed A_still) (rhoL a (.d (.int (lap : Nat))) s3 (.d (bd R U E)) (.d (.int (n : Nat))) s6 s7 s8 s9 s10 s11 s12 s13 s14 (.d (.tuple (us.map tN))) s16) P := by
  unfold l4
  have n6 := b.n6
  have hl := hpl_len n E
  refine ws_for (wi_tup (we_d rfl ⟨_, rfl, ?_⟩))
  refine ⟨fun i ρ' => ∃ s9 s13 s16, ρ' = rhoL a (.d (.int (lap : Nat))) s3 (.d (bd R U E)) (.d (.int (n : Nat))) s6 s7 s8 s9 s10 s11 s12 s13 s14 (.d (.tuple (us.map tN))) s16, ⟨s9, s13, s16, rfl⟩, ?_, ?_⟩
  · rintro m d ρ' hd ⟨s9, s13, s16, rfl⟩
    obtain ⟨T, hT, rfl⟩ : ∃ T, T ∈ us ∧ d = tN T := by
      obtain ⟨T, h1, h2⟩ := List.mem_map.mp (List.mem_of_getElem? hd)
      exact ⟨T, h1, h2.symm⟩
    obtain ⟨t, hh⟩ := hus T hT
    have hlen : ((hpl n E).filter fun h => decide (tsq R U T h.1 h.2.1 h.2.2 = h.1)).length ≤ (hpl n E).length := len_filt _ _
    have hdat : dat 3 (.tuple (((hpl n E).filter fun h => decide (tsq R U T h.1 h.2.1 h.2.2 = h.1)).map hfq)) := dat_hfqs (Nat.le_trans hlen (by omega))
    refine wg_d (ws_seq (ws_asg ?_))
    have next : WG Γ K β (gName 9) (.d (.tuple (((hpl n E).filter fun h => decide (tsq R U T h.1 h.2.1 h.2.2 = h.1)).map hfq))) (rhoL a (.d (.int (lap : Nat))) s3 (.d (bd R U E)) (.d (.int (n : Nat))) s6 s7 s8 s9 s10 s11 s12 s13 s14 (.d (.tuple (us.map tN))) (.d (tN T))) fun ρ1 => WS Γ K β (tFor (iRng1 (tCons (tVar 5) tNil)) (gName 13)
  (tIfS (tNot (tB (tCall (spA Γ K (A_same 4)) [] E0 (tCons (tCall (spA Γ K A_needed) [] E0 (tCons (tVar 4) (tCons (tVar 13) (tCons (tOp (rIx K) (tVar 16) (tVar 13)) tNil)))) (tCons (tVar 9) tNil)))))
  (tRet (tC (.bl false)))
  tNext)) ρ1 { nx := fun ρ' => ∃ s9 s13 s16, ρ' = rhoL a (.d (.int (lap : Nat))) s3 (.d (bd R U E)) (.d (.int (n : Nat))) s6 s7 s8 s9 s10 s11 s12 s13 s14 (.d (.tuple (us.map tN))) s16, rt := P.rt, bk := P.nx, ct := fun ρ' => ∃ s9 s13 s16, ρ' = rhoL a (.d (.int (lap : Nat))) s3 (.d (bd R U E)) (.d (.int (n : Nat))) s6 s7 s8 s9 s10 s11 s12 s13 s14 (.d (.tuple (us.map tN))) s16 } := by
      refine wg_d (ws_for (wi_range1 ?_))
      walk_at "E"
      refine ⟨by omega, by omega, ?_⟩
      rw [Int.toNat_natCast]
      refine ⟨fun i ρ' => ∃ s13, ρ' = rhoL a (.d (.int (lap : Nat))) s3 (.d (bd R U E)) (.d (.int (n : Nat))) s6 s7 s8 (.d (.tuple (((hpl n E).filter fun h => decide (tsq R U T h.1 h.2.1 h.2.2 = h.1)).map hfq))) s10 s11 s12 s13 s14 (.d (.tuple (us.map tN))) (.d (tN T)), ⟨_, rfl⟩, ?_, ?_⟩
      · rintro i d ρ' hd ⟨s13, rfl⟩
        obtain ⟨hi, rfl⟩ := rg0 hd
        refine wg_d (ws_if (wt_not (wt_B (we_callE (wa_cons (we_callE (wa_cons (we_d rfl (wa_cons (we_d rfl (wa_cons (we_ix (we_d rfl (we_d rfl ⟨_, _, _, .inr rfl, rfl, atI_N (k := i) (by rw [hh.len]; exact hi), wa_nil ?_⟩)))))))))))))) 
        refine ⟨_, .d (.tuple (((hpl n E).filter fun h => decide (tsq R U T h.1 h.2.1 h.2.2 = h.1)).map hfq)), rfl, ⟨R, U, E, n, i, at0 T i, rfl, b, hi, hh.at hi, fun f hf => ?_⟩, intT_pure (dat_intT hdat), wa_cons (we_d rfl (wa_nil ?_))⟩
        · have e : (hpl n E).filter f = (hpl n E).filter fun h => decide (tsq R U T h.1 h.2.1 h.2.2 = h.1) := List.filter_congr fun h hm => by
            have hs := hpl_mem hm
            rw [Bool.eq_iff_iff, hf h hm, decide_eq_true_iff]
            exact still_iff (E := E) b hc hh hi hs.1 fun h1 h2 => hE _ hs.1 (hs.2 h1 h2)
          show AV.d (.tuple (List.map hfq _)) = _
          rw [e]
        refine ⟨_, _, rfl, ⟨_, _, rfl, dat_intT hdat, hdat, rfl⟩, rfl, _, rfl, fun hf => ?_, fun _ => ws_next (by exact ⟨_, rfl⟩)⟩
        rw [intT_refl (dat_intT hdat)] at hf
        cases hf
      · rintro ρ' ⟨s13, rfl⟩
        exact ⟨_, _, _, rfl⟩
    refine we_if (wt_test (we_I0b (we_d rfl (we_int ⟨_, _, rfl, rfl, _, rfl, fun _ => ?_, fun _ => ?_⟩))))
    · refine we_call (wa_cons (we_d rfl (wa_cons (we_d rfl (wa_nil ?_)))))
      refine ⟨_, (· = .d (.tuple (((hpl n E).filter fun h => decide (tsq R U T h.1 h.2.1 h.2.2 = h.1)).map hfq))), rfl, ⟨R, U, E, T, n, rfl, b, hh.len, hh.lt, rfl⟩, ?_⟩
      rintro r rfl
      exact ⟨intT_pure (dat_intT hdat), next⟩
    · refine we_callN kw2s (wa_nil (wa_cons (we_d rfl (wa_cons (we_d rfl (wa_nil ?_))))))
      refine ⟨_, _, (· = .d (.tuple (((hpl n E).filter fun h => decide (tsq R U T h.1 h.2.1 h.2.2 = h.1)).map hfq))), rfl, rfl, rfl, rfl, ⟨R, U, E, T, n, rfl, b, hh.len, hh.lt, rfl⟩, ?_⟩
      rintro r rfl
      exact ⟨intT_pure (dat_intT hdat), next⟩
  · rintro ρ' ⟨s9, s13, s16, rfl⟩
    exact hP _ _ _
end
end K74
end
/-! ## X74c -/
section
namespace K74
open PySem PySem.Spec PyProof.Rows L2 AB
/-- one step of a walk -/
local macro_rules | `(tactic| walk_at "v") => `(tactic| first
  | refine we_d rfl ?_ | refine we_ol rfl ?_ | refine we_oK rfl ?_ | refine we_oN rfl ?_ | refine we_ob rfl ?_ | refine we_rv rfl ?_ | refine we_int ?_ | refine we_bl ?_ | refine we_non ?_ | refine we_str ?_ | refine we_sI rfl ?_ | refine we_c (L2.GCn.dp (by assumption)) ?_ | refine we_cv ?_)
local macro_rules | `(tactic| walk_at "e") => `(tactic| first
  | walk_at "v" | with_reducible refine wa_nil ?_ | with_reducible refine wa_cons ?_ | with_reducible refine we_I0i ?_ | with_reducible refine we_I0b ?_ | with_reducible refine we_Ii ?_ | with_reducible refine we_eqD ?_ | with_reducible refine we_neD ?_ | with_reducible refine we_ix ?_ | with_reducible refine we_tup ?_ | with_reducible refine we_lst ?_ | with_reducible refine wt_test ?_ | with_reducible refine wt_B ?_ | with_reducible refine wt_not ?_ | with_reducible refine wt_and ?_ | with_reducible refine wt_or ?_ | with_reducible refine we_if ?_ | with_reducible refine we_andV ?_ | with_reducible refine we_orV ?_ | with_reducible refine we_notV ?_ | with_reducible refine we_neg ?_ | with_reducible refine we_chain ?_ | with_reducible refine we_slT ?_ | with_reducible refine wo_no ?_ | with_reducible refine wo_some ?_
  | with_reducible refine ws_seq ?_ | with_reducible refine ws_ret ?_ | with_reducible refine ws_asg2 (by decide) ?_ | with_reducible refine ws_asg ?_ | with_reducible refine ws_drop ?_ | with_reducible refine ws_if ?_ | with_reducible refine wg_d ?_ | with_reducible refine wg_ol ?_ | with_reducible refine wg_oK ?_ | with_reducible refine wgs_nil ?_ | with_reducible refine wgs_cons ?_  | with_reducible refine ws_next ?_ | with_reducible refine ws_par (by decide) ?_ | with_reducible refine ws_asg2 (by decide) ?_
  | with_reducible refine we_len ?_ | with_reducible refine we_isi ?_ | with_reducible refine we_gcdG ?_ | with_reducible refine we_fld ?_ | with_reducible refine we_tuple ?_ | with_reducible refine we_list ?_ | with_reducible refine we_inI ?_ | with_reducible refine we_isN ?_ | with_reducible refine we_notN ?_
  | refine wg_tup rfl ?_ | refine wgs_cons ?_ | refine wgs_nil ?_)
/-- what a step asks, where it is plain -/
local macro_rules | `(tactic| walk_at "c") => `(tactic| first
  | refine ⟨_, rfl, un_d, ?_⟩ | refine ⟨_, rfl, un_ol, ?_⟩ | refine ⟨_, rfl, un_oK, ?_⟩ | refine ⟨_, rfl, un_oN, ?_⟩ | refine ⟨_, rfl, un_rv, ?_⟩
  | refine ⟨true, rfl, fun _ => ?_, tt_ff⟩ | refine ⟨true, rfl, ff_tt, fun _ => ?_⟩ | refine ⟨false, rfl, ff_tt, fun _ => ?_⟩ | refine ⟨false, rfl, fun _ => ?_, tt_ff⟩
  | with_reducible refine ⟨_, rfl, fun _ => ?_, tt_ff⟩ | with_reducible refine ⟨_, rfl, ff_tt, fun _ => ?_⟩ | refine ⟨_, rfl, fun _ => ?_, fun _ => ?_⟩
  | with_reducible refine ⟨fun _ => ?_, tt_ff⟩ | with_reducible refine ⟨ff_tt, fun _ => ?_⟩ | with_reducible refine ⟨fun _ => ?_, fun _ => ?_⟩
  | refine ⟨_, _, rfl, rfl, fun _ => ?_, tt_ff⟩ | refine ⟨_, _, rfl, rfl, ff_tt, fun _ => ?_⟩ | refine ⟨_, _, rfl, rfl, fun _ => ?_, fun _ => ?_⟩
  | refine ⟨_, rfl, ?_⟩
  | refine ⟨_, _, rfl, fun _ _ => ?_⟩
  | refine ⟨_, _, rfl, al_d, al_d, ?_⟩ | refine ⟨_, _, rfl, al_oN, al_ol, ?_⟩ | refine ⟨_, _, rfl, al_oK, al_ol, ?_⟩ | refine ⟨_, _, rfl, al_ol, al_ol, ?_⟩ | refine ⟨_, _, rfl, al_d, al_ol, ?_⟩
  | refine ⟨_, _, rfl, rfl, rfl, rfl, ?_⟩
  | refine ⟨_, _, rfl, rfl, ?_⟩
  | refine ⟨_, _, rfl, _, true, rfl, rfl, ?_⟩ | refine ⟨_, _, rfl, _, false, rfl, rfl, ?_⟩
  | refine ⟨_, _, _, .inr rfl, rfl, rfl, ?_⟩
  | refine ⟨_, rfl, _, .inr rfl, ?_⟩ | refine ⟨_, .inr rfl, ?_⟩ | refine ⟨_, .inl rfl, ?_⟩
  | refine ⟨[_, _], rfl, Nat.le_of_ble_eq_true rfl, ?_⟩
  | refine ⟨[_, _, _], rfl, Nat.le_of_ble_eq_true rfl, ?_⟩
  | refine ⟨[_], rfl, Nat.le_of_ble_eq_true rfl, ?_⟩
  | refine ⟨[], rfl, Nat.le_of_ble_eq_true rfl, ?_⟩)
local macro_rules | `(tactic| walk_at "E") => `(tactic| repeat' first | walk_at "e" | walk_at "c" | fail)
theorem total_eq (R U E : List Nat) (n : Nat) : ((sumN (fun i => sumN (fun j => cnt R U E n i j) n) n : Nat) : Int) = ((hpl n E).map fun h => ((prs (orb R U n (fs0 R U h))).length : Int)).sum := by
  have h1 := count_both (fun h p => hit R U n p h) n (hpl n E)
  have h2 : ((hpl n E).map fun h => ((allP n).filter (fun p => hit R U n p h)).length) = (hpl n E).map fun h => (prs (orb R U n (fs0 R U h))).length := by
    refine List.map_congr_left fun h hh => ?_
    rw [List.length_map]
    show _ = (orb R U n (fs0 R U h)).length
    have e : (allP n).filter (fun p => hit R U n p h) = orb R U n (fs0 R U h) := by
      show _ = (allP n).filter _
      refine List.filter_congr fun q hq => ?_
      rw [Bool.eq_iff_iff]
      show decide (q ∈ (allP n).filter _) = true ↔ _
      rw [decide_eq_true_iff, List.mem_filter]
      exact ⟨fun z => z.2, fun z => ⟨hq, z⟩⟩
    rw [e]
  rw [h2] at h1
  have h3 : (hpl n E).map (fun h => ((prs (orb R U n (fs0 R U h))).length : Int)) = ((hpl n E).map fun h => (prs (orb R U n (fs0 R U h))).length).map fun x : Nat => (x : Int) := by rw [List.map_map]; rfl
  rw [h3, sum_ints, ← h1]
section
variable {Γ : Wd} {K : PySem.W.Frag} {mg : Str → Option Value} {β : Option Addr}
/-- from the sum on -/
def l5 (Γ : Wd) (K : PySem.W.Frag) : TS :=
  (tSeq (tIfS (tTest (tOp (rNeD K) (tVar 12) (tCB (rSum K) (tCons (tLc (iList K (tVar 7)) (gName 18) tYes (tCB (fun xs H Q => ∃ p ys, xs = [.ref p] ∧ (SqL K H p ys ∨ SqT K H p ys) ∧ Q (.int ys.length) H) (tCons (tVar 18) tNil)) [18]) tNil))))
  (tRet (tC (.bl false)))
  tNext)
  (tSeq (tAsg (tCall (spA Γ K A_half_turns) [] E0 (tCons (tVar 4) tNil)) (gName 15))
  (tSeq (tIfS (tNot (tB (tCall (spA Γ K (A_same 4)) [] E0 (tCons (tIf (tTest (tOp (rI0 fun i j => .bl (decide (j < i))) (tVar 2) (tC (.int 0)))) (tCall (spA Γ K A_half_turns) [] E0 (tCons (tVar 4) tNil)) (tCallN 0 1 (spA Γ K A_half_turns) g_half_turns__board E0 tNil (tCons (tVar 4) tNil))) (tCons (tVar 15) tNil)))))
  (tRet (tC (.bl false)))
  tNext)
  (l4 Γ K (A_same 4) A_needed A_still))))
theorem ws_l5 {a : Addr} {R U E : List Nat} {n lap : Nat} {s3 s6 s8 s9 s10 s11 s13 s14 s15 s16 : AV} {P : Kn} (b : Bq R U n) (n0 : 0 < n) (hc : Conn R U n) (hE : ∀ k, k < n → k ∉ E → isEnd R U k = false)
    (hP : ∀ s7 s9 s12 s13 s15 s16, P.nx (rhoL a (.d (.int (lap : Nat))) s3 (.d (bd R U E)) (.d (.int (n : Nat))) s6 s7 s8 s9 s10 s11 s12 s13 s14 s15 s16)) :
    WS Γ K β (l5 Γ K) (rhoL a (.d (.int (lap : Nat))) s3 (.d (bd R U E)) (.d (.int (n : Nat))) s6 (.ol ((hpl n E).map (gv0 R U n))) s8 s9 s10 s11 (.d (.int ((sumN (fun i => sumN (fun j => cnt R U E n i j) n) n : Nat) : Int))) s13 s14 s15 s16) P := by
  unfold l5
  have n6 := b.n6
  have hl := hpl_len n E
  refine ws_seq (ws_if (wt_test (we_neD (we_d rfl (we_sum (wa_cons (we_lc (gown_name (by decide)) (wi_list (we_ol rfl (.inr (.inr ⟨_, _, rfl, rfl, ?_⟩)))))))))))
  refine ⟨unused_of rfl, by rw [List.length_map]; omega, fun m acc => acc = (((hpl n E).take m).map fun h => ((prs (orb R U n (fs0 R U h))).length : Int)).map .int, rfl, ?_, ?_⟩
  · intro m d acc hm hacc hI
    obtain ⟨h, eh, rfl⟩ : ∃ h, (hpl n E)[m]? = some h ∧ d = gv0 R U n h := by
      rw [List.getElem?_map] at hm
      cases q : (hpl n E)[m]? with
      | none => rw [q] at hm; cases hm
      | some h => rw [q] at hm; cases hm; exact ⟨h, rfl, rfl⟩
    refine wg_d ⟨weak_set rfl, wt_yes ⟨rfl, fun _ => ?_, fun z => (by cases z)⟩⟩
    walk_at "E"
    refine ⟨rfl, _, rfl, ?_⟩
    dsimp only
    rw [hI, List.take_add_one, eh, List.map_append, List.map_append]
    rfl
  · intro acc hacc _
    have e : acc = (((hpl n E).take ((hpl n E).map (gv0 R U n)).length).map fun h => ((prs (orb R U n (fs0 R U h))).length : Int)).map .int := hacc
    rw [List.length_map, List.take_length] at e
    subst e
    refine wa_nil ⟨_, rfl, _, rfl, _, _, rfl, rfl, rfl, rfl, _, rfl, fun z => ?_, fun _ => ?_⟩
    · rw [total_eq, eqvI, decide_eq_true rfl] at z
      cases z
    refine ws_next (ws_seq (ws_asg (we_call (wa_cons (we_d rfl (wa_nil ?_))))))
    refine ⟨_, fun r => ∃ us : List (List Nat), us.Perm (turns R U E n n) ∧ us.Pairwise (fun a b => TS.code 64 (iN a) ≤ TS.code 64 (iN b)) ∧ r = .d (.tuple (us.map tN)), rfl, ⟨R, U, E, n, rfl, b, n0, hc, fun us h1 h2 => ⟨us, h1, h2, rfl⟩⟩, ?_⟩
    rintro r ⟨us, h1, h2, rfl⟩
    have ul : us.length ≤ 6 := by
      rw [h1.length_eq]
      exact Nat.le_trans (turns_len R U E n n) n6
    have um : ∀ T ∈ us, ∃ t, Hom R U n t T := fun T hT => by
      obtain ⟨t, _, h⟩ := turns_mem (h1.mem_iff.mp hT)
      exact ⟨t, h.hom⟩
    have hdat : dat 2 (.tuple (us.map tN)) := dat_tNs ul fun T hT => by
      obtain ⟨t, h⟩ := um T hT
      rw [h.len]; exact n6
    have hcl : clean (.d (.tuple (us.map tN))) = true := intT_pure (dat_intT hdat)
    refine ⟨hcl, wg_d (ws_seq (ws_if (wt_not (wt_B (we_callE (wa_cons ?_))))))⟩
    have same : ∀ r, (∃ vs : List (List Nat), vs.Perm (turns R U E n n) ∧ vs.Pairwise (fun a b => TS.code 64 (iN a) ≤ TS.code 64 (iN b)) ∧ r = AV.d (.tuple (vs.map tN))) → r = .d (.tuple (us.map tN)) := by
      rintro r ⟨vs, g1, g2, rfl⟩
      rw [turns_uniq n6 g1 h1 g2 h2]
    refine we_if (wt_test (we_I0b (we_d rfl (we_int ⟨_, _, rfl, rfl, _, rfl, fun _ => ?_, fun _ => ?_⟩))))
    · refine we_call (wa_cons (we_d rfl (wa_nil ?_)))
      refine ⟨_, fun r => ∃ us : List (List Nat), us.Perm (turns R U E n n) ∧ us.Pairwise (fun a b => TS.code 64 (iN a) ≤ TS.code 64 (iN b)) ∧ r = .d (.tuple (us.map tN)), rfl, ⟨R, U, E, n, rfl, b, n0, hc, fun us h1 h2 => ⟨us, h1, h2, rfl⟩⟩, fun r hr => ?_⟩
      cases same r hr
      refine ⟨hcl, wa_cons (we_d rfl (wa_nil ⟨_, _, rfl, ⟨_, _, rfl, dat_intT hdat, dat_up hdat, rfl⟩, rfl, _, rfl, fun hf => ?_, fun _ => ws_next (ws_l4 b hc hE um fun s9 s13 s16 => hP _ _ _ _ _ _)⟩))⟩
      rw [intT_refl (dat_intT hdat)] at hf
      cases hf
    · refine we_callN kw1 (wa_nil (wa_cons (we_d rfl (wa_nil ?_))))
      refine ⟨_, _, fun r => ∃ us : List (List Nat), us.Perm (turns R U E n n) ∧ us.Pairwise (fun a b => TS.code 64 (iN a) ≤ TS.code 64 (iN b)) ∧ r = .d (.tuple (us.map tN)), rfl, rfl, rfl, rfl, ⟨R, U, E, n, rfl, b, n0, hc, fun us h1 h2 => ⟨us, h1, h2, rfl⟩⟩, fun r hr => ?_⟩
      cases same r hr
      refine ⟨hcl, wa_cons (we_d rfl (wa_nil ⟨_, _, rfl, ⟨_, _, rfl, dat_intT hdat, dat_up hdat, rfl⟩, rfl, _, rfl, fun hf => ?_, fun _ => ws_next (ws_l4 b hc hE um fun s9 s13 s16 => hP _ _ _ _ _ _)⟩))⟩
      rw [intT_refl (dat_intT hdat)] at hf
      cases hf
end
end K74
end
/-! ## X74d -/
section
namespace K74
open PySem PySem.Spec PyProof.Rows L2 AB
/-- one step of a walk -/
local macro_rules | `(tactic| walk_at "v") => `(tactic| first
  | refine we_d rfl ?_ | refine we_ol rfl ?_ | refine we_oK rfl ?_ | refine we_oN rfl ?_ | refine we_ob rfl ?_ | refine we_rv rfl ?_ | refine we_int ?_ | refine we_bl ?_ | refine we_non ?_ | refine we_str ?_ | refine we_sI rfl ?_ | refine we_c (L2.GCn.dp (by assumption)) ?_ | refine we_cv ?_)
local macro_rules | `(tactic| walk_at "e") => `(tactic| first
  | walk_at "v" | with_reducible refine wa_nil ?_ | with_reducible refine wa_cons ?_ | with_reducible refine we_I0i ?_ | with_reducible refine we_I0b ?_ | with_reducible refine we_Ii ?_ | with_reducible refine we_eqD ?_ | with_reducible refine we_neD ?_ | with_reducible refine we_ix ?_ | with_reducible refine we_tup ?_ | with_reducible refine we_lst ?_ | with_reducible refine wt_test ?_ | with_reducible refine wt_B ?_ | with_reducible refine wt_not ?_ | with_reducible refine wt_and ?_ | with_reducible refine wt_or ?_ | with_reducible refine we_if ?_ | with_reducible refine we_andV ?_ | with_reducible refine we_orV ?_ | with_reducible refine we_notV ?_ | with_reducible refine we_neg ?_ | with_reducible refine we_chain ?_ | with_reducible refine we_slT ?_ | with_reducible refine wo_no ?_ | with_reducible refine wo_some ?_
  | with_reducible refine ws_seq ?_ | with_reducible refine ws_ret ?_ | with_reducible refine ws_asg2 (by decide) ?_ | with_reducible refine ws_asg ?_ | with_reducible refine ws_drop ?_ | with_reducible refine ws_if ?_ | with_reducible refine wg_d ?_ | with_reducible refine wg_ol ?_ | with_reducible refine wg_oK ?_ | with_reducible refine wgs_nil ?_ | with_reducible refine wgs_cons ?_  | with_reducible refine ws_next ?_ | with_reducible refine ws_par (by decide) ?_ | with_reducible refine ws_asg2 (by decide) ?_
  | with_reducible refine we_len ?_ | with_reducible refine we_isi ?_ | with_reducible refine we_gcdG ?_ | with_reducible refine we_fld ?_ | with_reducible refine we_tuple ?_ | with_reducible refine we_list ?_ | with_reducible refine we_inI ?_ | with_reducible refine we_isN ?_ | with_reducible refine we_notN ?_
  | refine wg_tup rfl ?_ | refine wgs_cons ?_ | refine wgs_nil ?_)
/-- what a step asks, where it is plain -/
local macro_rules | `(tactic| walk_at "c") => `(tactic| first
  | refine ⟨_, rfl, un_d, ?_⟩ | refine ⟨_, rfl, un_ol, ?_⟩ | refine ⟨_, rfl, un_oK, ?_⟩ | refine ⟨_, rfl, un_oN, ?_⟩ | refine ⟨_, rfl, un_rv, ?_⟩
  | refine ⟨true, rfl, fun _ => ?_, tt_ff⟩ | refine ⟨true, rfl, ff_tt, fun _ => ?_⟩ | refine ⟨false, rfl, ff_tt, fun _ => ?_⟩ | refine ⟨false, rfl, fun _ => ?_, tt_ff⟩
  | with_reducible refine ⟨_, rfl, fun _ => ?_, tt_ff⟩ | with_reducible refine ⟨_, rfl, ff_tt, fun _ => ?_⟩ | refine ⟨_, rfl, fun _ => ?_, fun _ => ?_⟩
  | with_reducible refine ⟨fun _ => ?_, tt_ff⟩ | with_reducible refine ⟨ff_tt, fun _ => ?_⟩ | with_reducible refine ⟨fun _ => ?_, fun _ => ?_⟩
  | refine ⟨_, _, rfl, rfl, fun _ => ?_, tt_ff⟩ | refine ⟨_, _, rfl, rfl, ff_tt, fun _ => ?_⟩ | refine ⟨_, _, rfl, rfl, fun _ => ?_, fun _ => ?_⟩
  | refine ⟨_, rfl, ?_⟩
  | refine ⟨_, _, rfl, fun _ _ => ?_⟩
  | refine ⟨_, _, rfl, al_d, al_d, ?_⟩ | refine ⟨_, _, rfl, al_oN, al_ol, ?_⟩ | refine ⟨_, _, rfl, al_oK, al_ol, ?_⟩ | refine ⟨_, _, rfl, al_ol, al_ol, ?_⟩ | refine ⟨_, _, rfl, al_d, al_ol, ?_⟩
  | refine ⟨_, _, rfl, rfl, rfl, rfl, ?_⟩
  | refine ⟨_, _, rfl, rfl, ?_⟩
  | refine ⟨_, _, rfl, _, true, rfl, rfl, ?_⟩ | refine ⟨_, _, rfl, _, false, rfl, rfl, ?_⟩
  | refine ⟨_, _, _, .inr rfl, rfl, rfl, ?_⟩
  | refine ⟨_, rfl, _, .inr rfl, ?_⟩ | refine ⟨_, .inr rfl, ?_⟩ | refine ⟨_, .inl rfl, ?_⟩
  | refine ⟨[_, _], rfl, Nat.le_of_ble_eq_true rfl, ?_⟩
  | refine ⟨[_, _, _], rfl, Nat.le_of_ble_eq_true rfl, ?_⟩
  | refine ⟨[_], rfl, Nat.le_of_ble_eq_true rfl, ?_⟩
  | refine ⟨[], rfl, Nat.le_of_ble_eq_true rfl, ?_⟩)
local macro_rules | `(tactic| walk_at "E") => `(tactic| repeat' first | walk_at "e" | walk_at "c" | fail)
section
variable {Γ : Wd} {K : PySem.W.Frag} {mg : Str → Option Value}
/-- one turn of the law's outer loop, and what follows the bag's making -/
def l7 (Γ : Wd) (K : PySem.W.Frag) : TS :=
  (tSeq (tAsg (tCall (spA Γ K A_board) [] E0 (tCons (tVar 1) (tCons (tC (.int 6)) tNil))) (gName 3))
  (tSeq (tAsg (tTup (tCons (tOp (rIx K) (tVar 3) (tC (.int 0))) (tCons (tOp (rIx K) (tVar 3) (tC (.int 1))) (tCons (tCB (fun xs H Q => ∃ p ys, xs = [.ref p] ∧ ((SqL K H p ys ∧ ∀ l, H l = none → Q (.ref l) (upd H l (.tup ys))) ∨ (SqT K H p ys ∧ Q (.ref p) H))) (tCons (tLc (iRng1 (tCons (tCB (fun xs H Q => ∃ p ys, xs = [.ref p] ∧ (SqL K H p ys ∨ SqT K H p ys) ∧ Q (.int ys.length) H) (tCons (tOp (rIx K) (tVar 3) (tC (.int 0))) tNil)) tNil)) (gName 17) (tOr (tTest (tOp (L2.rIn K false) (tVar 17) (tOp (rIx K) (tVar 3) (tC (.int 2))))) (tTest (tOp (rEqD K) (tCall (spA Γ K ADraw) [] E0 (tCons (tVar 1) (tCons (tC (.int 5)) tNil))) (tC (.int 0))))) (tVar 17) [17]) tNil)) tNil)))) (gName 4))
  (tSeq (tAsg (tCB (fun xs H Q => ∃ p ys, xs = [.ref p] ∧ (SqL K H p ys ∨ SqT K H p ys) ∧ Q (.int ys.length) H) (tCons (tOp (rIx K) (tVar 4) (tC (.int 0))) tNil)) (gName 5))
  (tSeq (tAsg (tCall (spA Γ K A_law_half_places) [] E0 (tCons (tVar 4) tNil)) (gName 6))
  (tSeq (tAsg (tLst tNil) (gName 7))
  (tSeq (l1 Γ K A_halves (A_same 4) A_own)
  (tSeq (l2 Γ K (A_same 4))
  (tSeq (tAsg (tC (.int 0)) (gName 12))
  (tSeq (l3 Γ K (A_same 4) A_needed)
  (l5 Γ K))))))))))
theorem ws_l7 {b : Addr} {lap : Nat} {s3 s4 s5 s6 s7 s8 s9 s10 s11 s12 s13 s14 s15 s16 : AV} {P : Kn}
    (hP : ∀ s3 s4 s5 s6 s7 s8 s9 s10 s11 s12 s13 s14 s15 s16, P.nx (rhoL b (.d (.int (lap : Nat))) s3 s4 s5 s6 s7 s8 s9 s10 s11 s12 s13 s14 s15 s16)) :
    WS Γ K (some b) (l7 Γ K) (rhoL b (.d (.int (lap : Nat))) s3 s4 s5 s6 s7 s8 s9 s10 s11 s12 s13 s14 s15 s16) P := by
  unfold l7
  refine ws_seq (ws_asg (we_call (wa_cons (we_rv rfl (wa_cons (we_int (wa_nil ?_)))))))
  refine ⟨_, fun r => ∃ (n : Nat) (R U : List Nat), 0 < n ∧ Bq R U n ∧ Conn R U n ∧ r = .d (bd R U ((List.range n).filter (isEnd R U))), rfl, ⟨b, rfl, rfl, fun n R U h1 h2 h3 => ⟨n, R, U, h1, h2, h3, rfl⟩⟩, ?_⟩
  rintro r ⟨n, R, U, n0, bq, hc, rfl⟩
  have n6 := bq.n6
  refine ⟨intT_pure (show intT (bd R U ((List.range n).filter (isEnd R U))) = true from ?_), wg_d (ws_seq (ws_asg ?_))⟩
  · show (intTs (lN R) && (intTs (lN U) && (intTs (lN _) && true))) = true
    have h : ∀ l : List Nat, intTs (lN l) = true := fun l => by
      induction l with
      | nil => rfl
      | cons x l ih => exact ih
    rw [h, h, h]
    rfl
  walk_at "E"
  refine we_lc (gown_name (by decide)) (wi_range1 ?_)
  walk_at "E"
  refine ⟨by rw [lN_length, bq.rl]; omega, by omega, ?_⟩
  rw [lN_length, Int.toNat_natCast, bq.rl]
  refine ⟨unused_of rfl, by rw [rgD_length]; omega, fun m acc => ∃ E : List Nat, acc = lN E ∧ ∀ k, k < m → k ∉ E → isEnd R U k = false, ⟨[], rfl, fun k h => absurd h (Nat.not_lt_zero _)⟩, ?_, ?_⟩
  · rintro m d acc hd hacc ⟨E, rfl, hE⟩
    obtain ⟨hm, rfl⟩ := rg0 hd
    have yes : ∃ E', lN E ++ [PyData.int (m : Nat)] = lN E' ∧ ∀ k, k < m + 1 → k ∉ E' → isEnd R U k = false := ⟨E ++ [m], by rw [lN_append]; rfl, fun k hk hn => by
      rw [List.mem_append, List.mem_singleton] at hn
      exact hE k (by have : k ≠ m := fun e => hn (.inr e); omega) fun h => hn (.inl h)⟩
    refine wg_d ⟨weak_set rfl, wt_or (wt_test (we_inI ?_))⟩
    walk_at "E"
    refine ⟨(m : Int), iN ((List.range n).filter (isEnd R U)), rfl, .inr rfl, _, rfl, fun hin => ?_, fun hin => ?_⟩
    · exact ⟨rfl, fun _ => we_d rfl ⟨rfl, _, rfl, yes⟩, fun z => by cases z⟩
    · have hm2 : isEnd R U m = false := by
        cases z : isEnd R U m with
        | false => rfl
        | true =>
          have : (m : Int) ∈ iN ((List.range n).filter (isEnd R U)) := mem_iN.mpr (List.mem_filter.mpr ⟨List.mem_range.mpr hm, z⟩)
          rw [show (if false = true then !decide ((m : Int) ∈ iN ((List.range n).filter (isEnd R U))) else decide ((m : Int) ∈ iN ((List.range n).filter (isEnd R U)))) = decide ((m : Int) ∈ iN ((List.range n).filter (isEnd R U))) from rfl, decide_eq_true this] at hin
          cases hin
      refine wt_test (we_eqD (we_call (wa_cons (we_rv rfl (wa_cons (we_int (wa_nil ?_)))))))
      refine ⟨_, fun r => ∃ z : Int, r = .d (.int z), rfl, ⟨b, 5, rfl, rfl, by decide, fun z _ _ => ⟨z, rfl⟩⟩, ?_⟩
      rintro r ⟨z, rfl⟩
      refine ⟨rfl, we_int ⟨_, _, rfl, rfl, rfl, rfl, _, rfl, rfl, fun _ => we_d rfl ⟨rfl, _, rfl, yes⟩, fun _ => ⟨E, rfl, fun k hk hn => ?_⟩⟩⟩
      by_cases e : k = m
      · rw [e]; exact hm2
      · exact hE k (by omega) hn
  · rintro acc ⟨E, rfl, hE⟩ _
    rw [rgD_length] at hE
    refine wa_nil ⟨_, rfl, _, .inl rfl, wa_nil ⟨[_, _, _], rfl, Nat.le_of_ble_eq_true rfl, wg_d (ws_seq (ws_asg ?_))⟩⟩
    walk_at "E"
    rw [lN_length, bq.rl]
    refine we_callE (wa_cons (we_d rfl (wa_nil ⟨_, .d (.tuple ((hpl n E).map hfq)), rfl, ⟨R, U, E, rfl, by rw [bq.rl]; exact n6, by rw [bq.rl]⟩, ?_, wg_d (ws_seq (ws_asg (we_lst (wa_nil ⟨[], rfl, Nat.le_of_ble_eq_true rfl, ?_⟩))))⟩)))
    · have hl := hpl_len n E
      exact intT_pure (dat_intT (dat_hfqs (by omega)))
    walk_at "E"
    exact ws_l1 bq hE fun s8 s9 => ws_seq (ws_l2 bq fun s10 s11 => ws_seq (ws_asg (we_int (wg_d (ws_seq (ws_l3 bq fun s9 s13 s14 => ws_l5 bq n0 hc hE fun s7 s9 s12 s13 s15 s16 => hP _ _ _ _ _ _ _ _ _ _ _ _ _ _))))))
/-- what follows the bag's making -/
def l8 (Γ : Wd) (K : PySem.W.Frag) : TS :=
  (tSeq (tFor (iRng1 (tCons (tC (.int 3)) tNil)) (gName 2) (l7 Γ K))
  (tRet (tC (.bl true))))
theorem ws_l8 {b : Addr} {P : Kn} (hP : P.rt (.d (.bool true))) :
    WS Γ K (some b) (l8 Γ K) (rhoL b .un .un .un .un .un .un .un .un .un .un .un .un .un .un .un) P := by
  unfold l8
  refine ws_seq (ws_for (wi_range1 (wa_cons (we_int (wa_nil ⟨_, rfl, by decide, by decide, ?_⟩)))))
  refine ⟨fun _ ρ' => ∃ s2 s3 s4 s5 s6 s7 s8 s9 s10 s11 s12 s13 s14 s15 s16, ρ' = rhoL b s2 s3 s4 s5 s6 s7 s8 s9 s10 s11 s12 s13 s14 s15 s16, ⟨_, _, _, _, _, _, _, _, _, _, _, _, _, _, _, rfl⟩, ?_, ?_⟩
  · rintro i d ρ' hd ⟨s2, s3, s4, s5, s6, s7, s8, s9, s10, s11, s12, s13, s14, s15, s16, rfl⟩
    obtain ⟨hi, rfl⟩ := rg0 hd
    exact wg_d (ws_l7 fun s3 s4 s5 s6 s7 s8 s9 s10 s11 s12 s13 s14 s15 s16 => ⟨_, _, _, _, _, _, _, _, _, _, _, _, _, _, _, rfl⟩)
  · rintro ρ' ⟨s2, s3, s4, s5, s6, s7, s8, s9, s10, s11, s12, s13, s14, s15, s16, rfl⟩
    walk_at "E"
    exact hP
theorem law_shape : t_law Γ K A_board ADraw A_law_half_places A_halves (A_same 4) A_own A_needed A_half_turns A_half_turns A_still = tSeq (tAsg (tCall (spBag Γ K) [] E0 (tCons (tVar 0) tNil)) (gName 1)) (l8 Γ K) := rfl
end
end K74
end
/-! ## X74e -/
section
namespace K74
open PySem PySem.Spec PyProof.Rows L2 AB
/-- one step of a walk -/
local macro_rules | `(tactic| walk_at "v") => `(tactic| first
  | refine we_d rfl ?_ | refine we_ol rfl ?_ | refine we_oK rfl ?_ | refine we_oN rfl ?_ | refine we_ob rfl ?_ | refine we_rv rfl ?_ | refine we_int ?_ | refine we_bl ?_ | refine we_non ?_ | refine we_str ?_ | refine we_sI rfl ?_ | refine we_c (L2.GCn.dp (by assumption)) ?_ | refine we_cv ?_)
local macro_rules | `(tactic| walk_at "e") => `(tactic| first
  | walk_at "v" | with_reducible refine wa_nil ?_ | with_reducible refine wa_cons ?_ | with_reducible refine we_I0i ?_ | with_reducible refine we_I0b ?_ | with_reducible refine we_Ii ?_ | with_reducible refine we_eqD ?_ | with_reducible refine we_neD ?_ | with_reducible refine we_ix ?_ | with_reducible refine we_tup ?_ | with_reducible refine we_lst ?_ | with_reducible refine wt_test ?_ | with_reducible refine wt_B ?_ | with_reducible refine wt_not ?_ | with_reducible refine wt_and ?_ | with_reducible refine wt_or ?_ | with_reducible refine we_if ?_ | with_reducible refine we_andV ?_ | with_reducible refine we_orV ?_ | with_reducible refine we_notV ?_ | with_reducible refine we_neg ?_ | with_reducible refine we_chain ?_ | with_reducible refine we_slT ?_ | with_reducible refine wo_no ?_ | with_reducible refine wo_some ?_
  | with_reducible refine ws_seq ?_ | with_reducible refine ws_ret ?_ | with_reducible refine ws_asg2 (by decide) ?_ | with_reducible refine ws_asg ?_ | with_reducible refine ws_drop ?_ | with_reducible refine ws_if ?_ | with_reducible refine wg_d ?_ | with_reducible refine wg_ol ?_ | with_reducible refine wg_oK ?_ | with_reducible refine wgs_nil ?_ | with_reducible refine wgs_cons ?_  | with_reducible refine ws_next ?_ | with_reducible refine ws_par (by decide) ?_ | with_reducible refine ws_asg2 (by decide) ?_
  | with_reducible refine we_len ?_ | with_reducible refine we_isi ?_ | with_reducible refine we_gcdG ?_ | with_reducible refine we_fld ?_ | with_reducible refine we_tuple ?_ | with_reducible refine we_list ?_ | with_reducible refine we_inI ?_ | with_reducible refine we_isN ?_ | with_reducible refine we_notN ?_
  | refine wg_tup rfl ?_ | refine wgs_cons ?_ | refine wgs_nil ?_)
/-- what a step asks, where it is plain -/
local macro_rules | `(tactic| walk_at "c") => `(tactic| first
  | refine ⟨_, rfl, un_d, ?_⟩ | refine ⟨_, rfl, un_ol, ?_⟩ | refine ⟨_, rfl, un_oK, ?_⟩ | refine ⟨_, rfl, un_oN, ?_⟩ | refine ⟨_, rfl, un_rv, ?_⟩
  | refine ⟨true, rfl, fun _ => ?_, tt_ff⟩ | refine ⟨true, rfl, ff_tt, fun _ => ?_⟩ | refine ⟨false, rfl, ff_tt, fun _ => ?_⟩ | refine ⟨false, rfl, fun _ => ?_, tt_ff⟩
  | with_reducible refine ⟨_, rfl, fun _ => ?_, tt_ff⟩ | with_reducible refine ⟨_, rfl, ff_tt, fun _ => ?_⟩ | refine ⟨_, rfl, fun _ => ?_, fun _ => ?_⟩
  | with_reducible refine ⟨fun _ => ?_, tt_ff⟩ | with_reducible refine ⟨ff_tt, fun _ => ?_⟩ | with_reducible refine ⟨fun _ => ?_, fun _ => ?_⟩
  | refine ⟨_, _, rfl, rfl, fun _ => ?_, tt_ff⟩ | refine ⟨_, _, rfl, rfl, ff_tt, fun _ => ?_⟩ | refine ⟨_, _, rfl, rfl, fun _ => ?_, fun _ => ?_⟩
  | refine ⟨_, rfl, ?_⟩
  | refine ⟨_, _, rfl, fun _ _ => ?_⟩
  | refine ⟨_, _, rfl, al_d, al_d, ?_⟩ | refine ⟨_, _, rfl, al_oN, al_ol, ?_⟩ | refine ⟨_, _, rfl, al_oK, al_ol, ?_⟩ | refine ⟨_, _, rfl, al_ol, al_ol, ?_⟩ | refine ⟨_, _, rfl, al_d, al_ol, ?_⟩
  | refine ⟨_, _, rfl, rfl, rfl, rfl, ?_⟩
  | refine ⟨_, _, rfl, rfl, ?_⟩
  | refine ⟨_, _, rfl, _, true, rfl, rfl, ?_⟩ | refine ⟨_, _, rfl, _, false, rfl, rfl, ?_⟩
  | refine ⟨_, _, _, .inr rfl, rfl, rfl, ?_⟩
  | refine ⟨_, rfl, _, .inr rfl, ?_⟩ | refine ⟨_, .inr rfl, ?_⟩ | refine ⟨_, .inl rfl, ?_⟩
  | refine ⟨[_, _], rfl, Nat.le_of_ble_eq_true rfl, ?_⟩
  | refine ⟨[_, _, _], rfl, Nat.le_of_ble_eq_true rfl, ?_⟩
  | refine ⟨[_], rfl, Nat.le_of_ble_eq_true rfl, ?_⟩
  | refine ⟨[], rfl, Nat.le_of_ble_eq_true rfl, ?_⟩)
local macro_rules | `(tactic| walk_at "E") => `(tactic| repeat' first | walk_at "e" | walk_at "c" | fail)
section
variable {Γ : Wd} {K : PySem.W.Frag} {mg : Str → Option Value}
def spLaw (Γ : Wd) (K : PySem.W.Frag) : L2.Sp := fun vs H Q _ => ∃ (a : Addr) (ns : List Int), vs = [.ref a] ∧ ns.length ≤ 63 ∧ SqL K H a (ns.map V.int) ∧ (∀ P ∈ Γ.T, H P = some (.tbl #[])) ∧ ∀ H', Q (.bl true) H'
open Classical in
noncomputable def FT (T : List Addr) (H : Hp) : Hp := fun a => if a ∈ T then none else H a
open Classical in
noncomputable def owT (T : List Addr) : Ow := fun a => if a ∈ T then some (2, 0) else none
theorem dpa_ints (F : Hp) : ∀ ns : List Int, DpAll K F (ns.map V.int) (ns.map .int)
  | [] => .nil
  | n :: ns => .cons (.int n) (dpa_ints F ns)
theorem ok_start {a : Addr} {ns : List Int} {H : Hp} (hS : SqL K H a (ns.map V.int)) (hT : ∀ P ∈ Γ.T, H P = some (.tbl #[])) : ∃ Hb, Ok Γ K none Hb [(.ref a, .d (.list (ns.map .int)))] [] [] H := by
  classical
  have le : ∀ b u, FT Γ.T H b = some u → H b = some u ∧ b ∉ Γ.T := fun b u e => by
    unfold FT at e
    split at e
    · cases e
    · exact ⟨e, by assumption⟩
  have ge : ∀ b u, b ∉ Γ.T → H b = some u → FT Γ.T H b = some u := fun b u h e => by
    unfold FT
    rw [if_neg h]
    exact e
  refine ⟨FT Γ.T H, FT Γ.T H, owT Γ.T, fun _ _ e => e, fun b u e => (le b u e).1, fun b o e => ?_, ⟨?_, trivial⟩, rfl, fun i r e => by simp at e, trivial, fun P hP => ⟨⟨0, ?_⟩, #[], hT P hP, ?_⟩⟩
  · unfold owT at e
    split at e
    · rename_i h
      refine ⟨by unfold FT; rw [if_pos h], ?_⟩
      rw [hT b h]
      trivial
    · cases e
  · refine .lst (xs := ns.map V.int) ?_ (dpa_ints _ ns)
    rcases hS with h | h
    · have na : a ∉ Γ.T := fun hP => by
        rcases h with h | ⟨o, h⟩
        · rw [hT a hP] at h; cases h
        · rw [hT a hP] at h; cases h
      rcases h with h | ⟨o, h⟩
      · exact .inl (.inl (ge _ _ na h))
      · exact .inl (.inr ⟨o, ge _ _ na h⟩)
    · exact .inr h
  · unfold owT
    rw [if_pos hP]
  · trivial
theorem ok_bag {Hb H : Hp} {a b : Addr} (x : Ok Γ K (some b) Hb [(.ref b, .rv (.ref b))] [] [] H) : Ok Γ K (some b) Hb [] ((L2.start N_law [.ref a]).set 1 (some (.ref b))) (rhoL b .un .un .un .un .un .un .un .un .un .un .un .un .un .un .un) H := by
  obtain ⟨F, ow, x⟩ := x
  refine ⟨F, ow, x.base, x.same, x.own, trivial, rfl, fun i r e => ?_, x.bag⟩
  match i with
  | 1 => cases e; exact .inr ⟨.ref b, rfl, rfl, fun l z => by cases z⟩
  | 0 => cases e; exact .inl rfl
  | 2 => cases e; exact .inl rfl
  | 3 => cases e; exact .inl rfl
  | 4 => cases e; exact .inl rfl
  | 5 => cases e; exact .inl rfl
  | 6 => cases e; exact .inl rfl
  | 7 => cases e; exact .inl rfl
  | 8 => cases e; exact .inl rfl
  | 9 => cases e; exact .inl rfl
  | 10 => cases e; exact .inl rfl
  | 11 => cases e; exact .inl rfl
  | 12 => cases e; exact .inl rfl
  | 13 => cases e; exact .inl rfl
  | 14 => cases e; exact .inl rfl
  | 15 => cases e; exact .inl rfl
  | 16 => cases e; exact .inl rfl
  | 17 => cases e; exact .inl rfl
  | 18 => cases e; exact .inl rfl
  | 19 => cases e; exact .inl rfl
  | i + 20 => simp at e
theorem pure_law {vs : List V} {H : Hp} {Q : VK} {E : XK} (h : spLaw Γ K vs H Q E) : t_law Γ K A_board ADraw A_law_half_places A_halves (A_same 4) A_own A_needed A_half_turns A_half_turns A_still { nx := fun _ H' => Q .non H', rt := Q } (L2.start N_law vs) H := by
  obtain ⟨a, ns, rfl, hl, hS, hT, hQ⟩ := h
  obtain ⟨Hb, x⟩ := ok_start (Γ := Γ) hS hT
  rw [law_shape]
  refine ⟨.ref a, rfl, Hb, .ref a, ns, rfl, by omega, x, fun b H' x' => ?_⟩
  refine ws_l8 (P := { nx := fun _ => False, rt := fun r => r = .d (.bool true) }) rfl Hb [] _ H' (fun e he => by cases he) (ok_bag x') _ (fun _ _ _ f _ => f.elim) (fun v r E' H'' q x2 => ?_) (fun _ _ _ f _ => f.elim) (fun _ _ _ f _ => f.elim)
  subst q
  obtain ⟨F, ow, x2⟩ := x2
  have hv : Dp K F v (.bool true) := x2.stk.1
  cases hv
  exact hQ H''
end
end K74
end
/-! ## NE1 -/
section
/-! NE1: the end of a law row with tables, the fragment found by the head. -/
namespace LamX
open PySem PySem.Spec PyProof.Rows L2
theorem walk_ofTX {l : PySem.W.OpenLaw} {n k : Nat} {q : Program} {loose : List Str} {XP : (Str → Option Value) → Heap → Prop} {YP : World → Heap → Prop} {d : DefRec} {CX : CXT} {x : Str}
    (hn : l.most = some n) (hn2 : n ≤ sizeLine) (hdf : d.params.defaults = []) (hr : Room k callerA)
    (F : ∀ (w : World) (mg : Str → Option Value) (fa : Addr) (h : Heap), YP w h → h.Ns mainGlobals mg → mg d.name = some (.ref fa) → ∃ K : PySem.W.Frag, K.In h ∧ LawAtS l w K CX k n x mg fa h)
    (hCX : ∀ (H : Hp) (s : Shared) (e : Value) (s' : Shared), CX [] H s (fun _ _ _ => False) e s' → False) :
    PySem.W.WalkO q loose XP YP l.row.toRowW d [] (fun f vs => PySem.call f vs) := by
  refine Att.attach_callB hn hdf fun w s₀ s₁ mg mb fa o pm cd doc a vs ns G Y ho hd hcd hmg hobj hints hlen hbits hg => ?_
  obtain ⟨K, KX, fd, cs, sp, hT, nT, C, hb, hsp, hF⟩ := F w mg fa _ Y G.T.g hmg
  exact law_callTs KX G.T.g G.T.b G.T.builtins G.T.nolimit hg hT nT C G.T.bmain hobj hints (Nat.le_trans hlen hn2) hr hF hb (fun H hH hS => hsp H a ns hlen hbits hH hS) fun H e s' => hCX H s₁ e s'
end LamX
end
/-! ## H74 -/
section
set_option maxHeartbeats 0
/-! the head: facts by names, the run (printed by gen.py) -/
namespace K74
open PySem PySem.Spec PyProof.Rows L2 AB
def d_is_number : He.DefD := ⟨(("is_number" : Str), none), ("is_number" : Str), ("is_number" : Str), defArgs st_is_number, defBody st_is_number, defScope st_is_number, [], []⟩
def d_is_from_to : He.DefD := ⟨(("is_from_to" : Str), none), ("is_from_to" : Str), ("is_from_to" : Str), defArgs st_is_from_to, defBody st_is_from_to, defScope st_is_from_to, [], []⟩
def d_is_row : He.DefD := ⟨(("is_row" : Str), none), ("is_row" : Str), ("is_row" : Str), defArgs st_is_row, defBody st_is_row, defScope st_is_row, [], []⟩
def d_is_fraction : He.DefD := ⟨(("is_fraction" : Str), none), ("is_fraction" : Str), ("is_fraction" : Str), defArgs st_is_fraction, defBody st_is_fraction, defScope st_is_fraction, [], []⟩
def d_contrary : He.DefD := ⟨(("contrary" : Str), none), ("contrary" : Str), ("contrary" : Str), defArgs st_contrary, defBody st_contrary, defScope st_contrary, [], []⟩
def d_left_of : He.DefD := ⟨(("left_of" : Str), none), ("left_of" : Str), ("left_of" : Str), defArgs st_left_of, defBody st_left_of, defScope st_left_of, [], []⟩
def d_below_of : He.DefD := ⟨(("below_of" : Str), none), ("below_of" : Str), ("below_of" : Str), defArgs st_below_of, defBody st_below_of, defScope st_below_of, [], []⟩
def d_ends_at : He.DefD := ⟨(("ends_at" : Str), none), ("ends_at" : Str), ("ends_at" : Str), defArgs st_ends_at, defBody st_ends_at, defScope st_ends_at, [], []⟩
def d_is_corner : He.DefD := ⟨(("is_corner" : Str), none), ("is_corner" : Str), ("is_corner" : Str), defArgs st_is_corner, defBody st_is_corner, defScope st_is_corner, [], []⟩
def d_is_place : He.DefD := ⟨(("is_place" : Str), none), ("is_place" : Str), ("is_place" : Str), defArgs st_is_place, defBody st_is_place, defScope st_is_place, [], []⟩
def d_frac : He.DefD := ⟨(("frac" : Str), none), ("frac" : Str), ("frac" : Str), defArgs st_frac, defBody st_frac, defScope st_frac, [], []⟩
def d_whole : He.DefD := ⟨(("whole" : Str), none), ("whole" : Str), ("whole" : Str), defArgs st_whole, defBody st_whole, defScope st_whole, [], []⟩
def d_minus : He.DefD := ⟨(("minus" : Str), none), ("minus" : Str), ("minus" : Str), defArgs st_minus, defBody st_minus, defScope st_minus, [], []⟩
def d_Pairs___init__ : He.DefD := ⟨(("Pairs" : Str), some ("__init__" : Str)), ("__init__" : Str), ("Pairs.__init__" : Str), defArgs st_Pairs___init__, defBody st_Pairs___init__, defScope st_Pairs___init__, [], []⟩
def d_Pairs_first : He.DefD := ⟨(("Pairs" : Str), some ("first" : Str)), ("first" : Str), ("Pairs.first" : Str), defArgs st_Pairs_first, defBody st_Pairs_first, defScope st_Pairs_first, [], []⟩
def d_Pairs_across : He.DefD := ⟨(("Pairs" : Str), some ("across" : Str)), ("across" : Str), ("Pairs.across" : Str), defArgs st_Pairs_across, defBody st_Pairs_across, defScope st_Pairs_across, [], []⟩
def d_Pairs_upward : He.DefD := ⟨(("Pairs" : Str), some ("upward" : Str)), ("upward" : Str), ("Pairs.upward" : Str), defArgs st_Pairs_upward, defBody st_Pairs_upward, defScope st_Pairs_upward, [], []⟩
def d_Pairs_closed : He.DefD := ⟨(("Pairs" : Str), some ("closed" : Str)), ("closed" : Str), ("Pairs.closed" : Str), defArgs st_Pairs_closed, defBody st_Pairs_closed, defScope st_Pairs_closed, [], []⟩
def d_halves : He.DefD := ⟨(("halves" : Str), none), ("halves" : Str), ("halves" : Str), defArgs st_halves, defBody st_halves, defScope st_halves, [], []⟩
def d_half_places : He.DefD := ⟨(("half_places" : Str), none), ("half_places" : Str), ("half_places" : Str), defArgs st_half_places, defBody st_half_places, defScope st_half_places, [], []⟩
def d_needed : He.DefD := ⟨(("needed" : Str), none), ("needed" : Str), ("needed" : Str), defArgs st_needed, defBody st_needed, defScope st_needed, [], []⟩
def d_turn_from : He.DefD := ⟨(("turn_from" : Str), none), ("turn_from" : Str), ("turn_from" : Str), defArgs st_turn_from, defBody st_turn_from, defScope st_turn_from, [], []⟩
def d_far_corner : He.DefD := ⟨(("far_corner" : Str), none), ("far_corner" : Str), ("far_corner" : Str), defArgs st_far_corner, defBody st_far_corner, defScope st_far_corner, [], []⟩
def d_keeps_ends : He.DefD := ⟨(("keeps_ends" : Str), none), ("keeps_ends" : Str), ("keeps_ends" : Str), defArgs st_keeps_ends, defBody st_keeps_ends, defScope st_keeps_ends, [], []⟩
def d_half_turns : He.DefD := ⟨(("half_turns" : Str), none), ("half_turns" : Str), ("half_turns" : Str), defArgs st_half_turns, defBody st_half_turns, defScope st_half_turns, [], []⟩
def d_turned : He.DefD := ⟨(("turned" : Str), none), ("turned" : Str), ("turned" : Str), defArgs st_turned, defBody st_turned, defScope st_turned, [], []⟩
def d_other_end : He.DefD := ⟨(("other_end" : Str), none), ("other_end" : Str), ("other_end" : Str), defArgs st_other_end, defBody st_other_end, defScope st_other_end, [], []⟩
def d_places_tried : He.DefD := ⟨(("places_tried" : Str), none), ("places_tried" : Str), ("places_tried" : Str), defArgs st_places_tried, defBody st_places_tried, defScope st_places_tried, [], []⟩
def d_still : He.DefD := ⟨(("still" : Str), none), ("still" : Str), ("still" : Str), defArgs st_still, defBody st_still, defScope st_still, [], []⟩
def d__law_bag : He.DefD := ⟨(("_law_bag" : Str), none), ("_law_bag" : Str), ("_law_bag" : Str), defArgs st__law_bag, defBody st__law_bag, defScope st__law_bag, [], []⟩
def d__law_draw : He.DefD := ⟨(("_law_draw" : Str), none), ("_law_draw" : Str), ("_law_draw" : Str), defArgs st__law_draw, defBody st__law_draw, defScope st__law_draw, [], []⟩
def d__law_same : He.DefD := ⟨(("_law_same" : Str), none), ("_law_same" : Str), ("_law_same" : Str), defArgs st__law_same, defBody st__law_same, defScope st__law_same, [], []⟩
def d__law_contrary_of : He.DefD := ⟨(("_law_contrary_of" : Str), none), ("_law_contrary_of" : Str), ("_law_contrary_of" : Str), defArgs st__law_contrary_of, defBody st__law_contrary_of, defScope st__law_contrary_of, [], []⟩
def d__law_ends : He.DefD := ⟨(("_law_ends" : Str), none), ("_law_ends" : Str), ("_law_ends" : Str), defArgs st__law_ends, defBody st__law_ends, defScope st__law_ends, [], []⟩
def d__law_reach : He.DefD := ⟨(("_law_reach" : Str), none), ("_law_reach" : Str), ("_law_reach" : Str), defArgs st__law_reach, defBody st__law_reach, defScope st__law_reach, [], []⟩
def d__law_shuffle : He.DefD := ⟨(("_law_shuffle" : Str), none), ("_law_shuffle" : Str), ("_law_shuffle" : Str), defArgs st__law_shuffle, defBody st__law_shuffle, defScope st__law_shuffle, [], []⟩
def d__law_hung : He.DefD := ⟨(("_law_hung" : Str), none), ("_law_hung" : Str), ("_law_hung" : Str), defArgs st__law_hung, defBody st__law_hung, defScope st__law_hung, [], []⟩
def d__law_board : He.DefD := ⟨(("_law_board" : Str), none), ("_law_board" : Str), ("_law_board" : Str), defArgs st__law_board, defBody st__law_board, defScope st__law_board, [], []⟩
def d__law_half_places : He.DefD := ⟨(("_law_half_places" : Str), none), ("_law_half_places" : Str), ("_law_half_places" : Str), defArgs st__law_half_places, defBody st__law_half_places, defScope st__law_half_places, [], []⟩
def d__law_own_halves : He.DefD := ⟨(("_law_own_halves" : Str), none), ("_law_own_halves" : Str), ("_law_own_halves" : Str), defArgs st__law_own_halves, defBody st__law_own_halves, defScope st__law_own_halves, [], []⟩
def d__law_is_half_turn : He.DefD := ⟨(("_law_is_half_turn" : Str), none), ("_law_is_half_turn" : Str), ("_law_is_half_turn" : Str), defArgs st__law_is_half_turn, defBody st__law_is_half_turn, defScope st__law_is_half_turn, [], []⟩
def d__law_turns_of : He.DefD := ⟨(("_law_turns_of" : Str), none), ("_law_turns_of" : Str), ("_law_turns_of" : Str), defArgs st__law_turns_of, defBody st__law_turns_of, defScope st__law_turns_of, [], []⟩
def d_law : He.DefD := ⟨(("law" : Str), none), ("law" : Str), ("law" : Str), defArgs st_law, defBody st_law, defScope st_law, [], []⟩
def fn0 : List He.DefD := [d_is_number, d_is_from_to, d_is_row, d_is_fraction, d_contrary, d_left_of, d_below_of, d_ends_at, d_is_corner, d_is_place, d_frac, d_whole, d_minus, d_Pairs___init__, d_Pairs_first, d_Pairs_across, d_Pairs_upward, d_Pairs_closed, d_halves, d_half_places, d_needed, d_turn_from, d_far_corner, d_keeps_ends, d_half_turns, d_turned, d_other_end, d_places_tried, d_still, d__law_bag]
def fn1 : List He.DefD := [d__law_draw, d__law_same, d__law_contrary_of, d__law_ends, d__law_reach, d__law_shuffle, d__law_hung, d__law_board, d__law_half_places, d__law_own_halves, d__law_is_half_turn, d__law_turns_of, d_law]
def fn : List He.DefD := fn0 ++ fn1
def fa0 : List He.Fa := [.free ("abs" : Str), .free ("all" : Str), .free ("bool" : Str), .free ("enumerate" : Str), .free ("int" : Str), .free ("isinstance" : Str), .free ("len" : Str), .free ("list" : Str), .free ("range" : Str), .free ("sorted" : Str), .free ("str" : Str), .free ("sum" : Str), .free ("tuple" : Str), .glo ("is_number" : Str), .glo ("is_from_to" : Str), .glo ("is_row" : Str), .glo ("is_fraction" : Str), .glo ("contrary" : Str), .glo ("left_of" : Str), .glo ("below_of" : Str), .glo ("ends_at" : Str), .glo ("is_corner" : Str), .glo ("is_place" : Str), .glo ("frac" : Str), .glo ("whole" : Str), .glo ("minus" : Str), .glo ("halves" : Str), .glo ("half_places" : Str), .glo ("needed" : Str), .glo ("turn_from" : Str)]
def fa1 : List He.Fa := [.glo ("far_corner" : Str), .glo ("keeps_ends" : Str), .glo ("half_turns" : Str), .glo ("turned" : Str), .glo ("other_end" : Str), .glo ("places_tried" : Str), .glo ("still" : Str), .glo ("_law_bag" : Str), .glo ("_law_draw" : Str), .glo ("_law_same" : Str), .glo ("_law_contrary_of" : Str), .glo ("_law_ends" : Str), .glo ("_law_reach" : Str), .glo ("_law_shuffle" : Str), .glo ("_law_hung" : Str), .glo ("_law_board" : Str), .glo ("_law_half_places" : Str), .glo ("_law_own_halves" : Str), .glo ("_law_is_half_turn" : Str), .glo ("_law_turns_of" : Str), .glo ("law" : Str), .glo ("Pairs" : Str), .cls ("Pairs" : Str), .mkr ("Pairs" : Str), .meth ("Pairs" : Str) ("first" : Str), .meth ("Pairs" : Str) ("across" : Str), .meth ("Pairs" : Str) ("upward" : Str), .meth ("Pairs" : Str) ("closed" : Str), .noat ("Pairs" : Str) ("right" : Str), .noat ("Pairs" : Str) ("above" : Str)]
def fa2 : List He.Fa := [.noat ("Pairs" : Str) ("left" : Str), .noat ("Pairs" : Str) ("below" : Str)]
def fa : List He.Fa := fa0 ++ fa1 ++ fa2
def lo0 : List PySem.Str := [("__name__" : Str), ("is_number" : Str), ("is_from_to" : Str), ("is_row" : Str), ("is_fraction" : Str), ("contrary" : Str), ("left_of" : Str), ("below_of" : Str), ("ends_at" : Str), ("is_corner" : Str), ("is_place" : Str), ("frac" : Str), ("whole" : Str), ("minus" : Str), ("ZERO" : Str), ("HALF_contraries" : Str), ("Pairs" : Str), ("halves" : Str), ("half_places" : Str), ("needed" : Str), ("HALF_halfturns" : Str), ("NONE" : Str), ("turn_from" : Str), ("far_corner" : Str), ("keeps_ends" : Str), ("half_turns" : Str), ("turned" : Str), ("other_end" : Str), ("places_tried" : Str), ("still" : Str)]
def lo1 : List PySem.Str := [("_law_bag" : Str), ("_law_draw" : Str), ("_law_same" : Str), ("_law_contrary_of" : Str), ("_law_ends" : Str), ("_law_reach" : Str), ("_law_shuffle" : Str), ("_law_hung" : Str), ("_law_board" : Str), ("_law_half_places" : Str), ("_law_own_halves" : Str), ("_law_is_half_turn" : Str), ("_law_turns_of" : Str)]
def lo : List PySem.Str := lo0 ++ lo1
def ex (K : PySem.W.Frag) : Bool := [bltB K ("gcd" : Str) "math.gcd", conB K ("ZERO" : Str) (.tuple [.int 0, .int 1]), conB K ("HALF_contraries" : Str) (.tuple [.int 1, .int 2]), conB K ("HALF_halfturns" : Str) (.tuple [.int 1, .int 2]), conB K ("NONE" : Str) (.tuple [.int 0, .int 1])].all id
abbrev R : PySem.W.OpenRow := PySem.W.OpenLaw.row PySem.Challenge.rw_blockedshots_k74_whole_half_lists
def tf : List He.Defn := [(("keeps_ends" : Str), none)]
abbrev hk : PySem.W.Hook := He.hookX 6 fa fn [] tf ex
abbrev vw : Program := PySem.W.view R.prog [0, 49]
def ob (s : PySem.W.SharedT) : He.AlX := He.obsX 6 fa fn [] tf ex (HandSHeadRun.getT s)
theorem ob_eq (s : PySem.W.SharedT) : ob s = hk.obs s.abs := He.obsX_eq (HandSHeadRun.getT_eq s)
theorem run (w : World) : HandSHeadRun.RunEqI R vw hk ob 3000 lo w := by
  unfold HandSHeadRun.RunEqI
  kernel_rfl
open He
/-- what the top leaves, for the walks -/
structure Says (K : PySem.W.Frag) (mg : Str → Option Value) : Prop where
  md : Md K mg
  f_is_number : ∃ fd, D_is_number K (ga K ("is_number" : Str)) fd ∧ mg ("is_number" : Str) = some (.ref (ga K ("is_number" : Str)))
  f_is_from_to : ∃ fd, D_is_from_to K (ga K ("is_from_to" : Str)) fd ∧ mg ("is_from_to" : Str) = some (.ref (ga K ("is_from_to" : Str)))
  f_is_row : ∃ fd, D_is_row K (ga K ("is_row" : Str)) fd ∧ mg ("is_row" : Str) = some (.ref (ga K ("is_row" : Str)))
  f_is_fraction : ∃ fd, D_is_fraction K (ga K ("is_fraction" : Str)) fd ∧ mg ("is_fraction" : Str) = some (.ref (ga K ("is_fraction" : Str)))
  f_contrary : ∃ fd, D_contrary K (ga K ("contrary" : Str)) fd ∧ mg ("contrary" : Str) = some (.ref (ga K ("contrary" : Str)))
  f_left_of : ∃ fd, D_left_of K (ga K ("left_of" : Str)) fd ∧ mg ("left_of" : Str) = some (.ref (ga K ("left_of" : Str)))
  f_below_of : ∃ fd, D_below_of K (ga K ("below_of" : Str)) fd ∧ mg ("below_of" : Str) = some (.ref (ga K ("below_of" : Str)))
  f_ends_at : ∃ fd, D_ends_at K (ga K ("ends_at" : Str)) fd ∧ mg ("ends_at" : Str) = some (.ref (ga K ("ends_at" : Str)))
  f_is_corner : ∃ fd, D_is_corner K (ga K ("is_corner" : Str)) fd ∧ mg ("is_corner" : Str) = some (.ref (ga K ("is_corner" : Str)))
  f_is_place : ∃ fd, D_is_place K (ga K ("is_place" : Str)) fd ∧ mg ("is_place" : Str) = some (.ref (ga K ("is_place" : Str)))
  f_frac : ∃ fd, D_frac K (ga K ("frac" : Str)) fd ∧ mg ("frac" : Str) = some (.ref (ga K ("frac" : Str)))
  f_whole : ∃ fd, D_whole K (ga K ("whole" : Str)) fd ∧ mg ("whole" : Str) = some (.ref (ga K ("whole" : Str)))
  f_minus : ∃ fd, D_minus K (ga K ("minus" : Str)) fd ∧ mg ("minus" : Str) = some (.ref (ga K ("minus" : Str)))
  f_Pairs___init__ : ∃ fd, D_Pairs___init__ K (ma K (ga K ("Pairs" : Str)) ("__init__" : Str)) fd
  f_Pairs_first : ∃ fd, D_Pairs_first K (ma K (ga K ("Pairs" : Str)) ("first" : Str)) fd
  f_Pairs_across : ∃ fd, D_Pairs_across K (ma K (ga K ("Pairs" : Str)) ("across" : Str)) fd
  f_Pairs_upward : ∃ fd, D_Pairs_upward K (ma K (ga K ("Pairs" : Str)) ("upward" : Str)) fd
  f_Pairs_closed : ∃ fd, D_Pairs_closed K (ma K (ga K ("Pairs" : Str)) ("closed" : Str)) fd
  f_halves : ∃ fd, D_halves K (ga K ("halves" : Str)) fd ∧ mg ("halves" : Str) = some (.ref (ga K ("halves" : Str)))
  f_half_places : ∃ fd, D_half_places K (ga K ("half_places" : Str)) fd ∧ mg ("half_places" : Str) = some (.ref (ga K ("half_places" : Str)))
  f_needed : ∃ fd, D_needed K (ga K ("needed" : Str)) fd ∧ mg ("needed" : Str) = some (.ref (ga K ("needed" : Str)))
  f_turn_from : ∃ fd, D_turn_from K (ga K ("turn_from" : Str)) fd ∧ mg ("turn_from" : Str) = some (.ref (ga K ("turn_from" : Str)))
  f_far_corner : ∃ fd, D_far_corner K (ga K ("far_corner" : Str)) fd ∧ mg ("far_corner" : Str) = some (.ref (ga K ("far_corner" : Str)))
  f_keeps_ends : ∃ fd, D_keeps_ends K (ga K ("keeps_ends" : Str)) fd ∧ mg ("keeps_ends" : Str) = some (.ref (ga K ("keeps_ends" : Str)))
  f_half_turns : ∃ fd, D_half_turns K (ga K ("half_turns" : Str)) fd ∧ mg ("half_turns" : Str) = some (.ref (ga K ("half_turns" : Str)))
  f_turned : ∃ fd, D_turned K (ga K ("turned" : Str)) fd ∧ mg ("turned" : Str) = some (.ref (ga K ("turned" : Str)))
  f_other_end : ∃ fd, D_other_end K (ga K ("other_end" : Str)) fd ∧ mg ("other_end" : Str) = some (.ref (ga K ("other_end" : Str)))
  f_places_tried : ∃ fd, D_places_tried K (ga K ("places_tried" : Str)) fd ∧ mg ("places_tried" : Str) = some (.ref (ga K ("places_tried" : Str)))
  f_still : ∃ fd, D_still K (ga K ("still" : Str)) fd ∧ mg ("still" : Str) = some (.ref (ga K ("still" : Str)))
  f__law_bag : ∃ fd, D__law_bag K (ga K ("_law_bag" : Str)) fd ∧ mg ("_law_bag" : Str) = some (.ref (ga K ("_law_bag" : Str)))
  f__law_draw : ∃ fd, D__law_draw K (ga K ("_law_draw" : Str)) fd ∧ mg ("_law_draw" : Str) = some (.ref (ga K ("_law_draw" : Str)))
  f__law_same : ∃ fd, D__law_same K (ga K ("_law_same" : Str)) fd ∧ mg ("_law_same" : Str) = some (.ref (ga K ("_law_same" : Str)))
  f__law_contrary_of : ∃ fd, D__law_contrary_of K (ga K ("_law_contrary_of" : Str)) fd ∧ mg ("_law_contrary_of" : Str) = some (.ref (ga K ("_law_contrary_of" : Str)))
  f__law_ends : ∃ fd, D__law_ends K (ga K ("_law_ends" : Str)) fd ∧ mg ("_law_ends" : Str) = some (.ref (ga K ("_law_ends" : Str)))
  f__law_reach : ∃ fd, D__law_reach K (ga K ("_law_reach" : Str)) fd ∧ mg ("_law_reach" : Str) = some (.ref (ga K ("_law_reach" : Str)))
  f__law_shuffle : ∃ fd, D__law_shuffle K (ga K ("_law_shuffle" : Str)) fd ∧ mg ("_law_shuffle" : Str) = some (.ref (ga K ("_law_shuffle" : Str)))
  f__law_hung : ∃ fd, D__law_hung K (ga K ("_law_hung" : Str)) fd ∧ mg ("_law_hung" : Str) = some (.ref (ga K ("_law_hung" : Str)))
  f__law_board : ∃ fd, D__law_board K (ga K ("_law_board" : Str)) fd ∧ mg ("_law_board" : Str) = some (.ref (ga K ("_law_board" : Str)))
  f__law_half_places : ∃ fd, D__law_half_places K (ga K ("_law_half_places" : Str)) fd ∧ mg ("_law_half_places" : Str) = some (.ref (ga K ("_law_half_places" : Str)))
  f__law_own_halves : ∃ fd, D__law_own_halves K (ga K ("_law_own_halves" : Str)) fd ∧ mg ("_law_own_halves" : Str) = some (.ref (ga K ("_law_own_halves" : Str)))
  f__law_is_half_turn : ∃ fd, D__law_is_half_turn K (ga K ("_law_is_half_turn" : Str)) fd ∧ mg ("_law_is_half_turn" : Str) = some (.ref (ga K ("_law_is_half_turn" : Str)))
  f__law_turns_of : ∃ fd, D__law_turns_of K (ga K ("_law_turns_of" : Str)) fd ∧ mg ("_law_turns_of" : Str) = some (.ref (ga K ("_law_turns_of" : Str)))
  f_law : ∃ fd, D_law K (ga K ("law" : Str)) fd ∧ mg ("law" : Str) = some (.ref (ga K ("law" : Str)))
  gc_Pairs : mg ("Pairs" : Str) = some (.ref (ga K ("Pairs" : Str)))
  cls_Pairs : Cls K (ga K ("Pairs" : Str))
  mk_Pairs : Mk K (ga K ("Pairs" : Str)) (ma K (ga K ("Pairs" : Str)) "__init__")
  m_Pairs_first : Meth K (ga K ("Pairs" : Str)) ("first" : Str) (ma K (ga K ("Pairs" : Str)) ("first" : Str))
  m_Pairs_across : Meth K (ga K ("Pairs" : Str)) ("across" : Str) (ma K (ga K ("Pairs" : Str)) ("across" : Str))
  m_Pairs_upward : Meth K (ga K ("Pairs" : Str)) ("upward" : Str) (ma K (ga K ("Pairs" : Str)) ("upward" : Str))
  m_Pairs_closed : Meth K (ga K ("Pairs" : Str)) ("closed" : Str) (ma K (ga K ("Pairs" : Str)) ("closed" : Str))
  a_Pairs_right : NoAttr K (ga K ("Pairs" : Str)) ("right" : Str)
  a_Pairs_above : NoAttr K (ga K ("Pairs" : Str)) ("above" : Str)
  a_Pairs_left : NoAttr K (ga K ("Pairs" : Str)) ("left" : Str)
  a_Pairs_below : NoAttr K (ga K ("Pairs" : Str)) ("below" : Str)
theorem says {K : PySem.W.Frag} {h : Heap} {mg : Str → Option Value} (X : K.In h) (G : h.Ns mainGlobals mg) (c : He.SaysD fa fn K) (e : ex K = true) : Says K mg := by
  have ea := List.all_eq_true.mp (show ([bltB K ("gcd" : Str) "math.gcd", conB K ("ZERO" : Str) (.tuple [.int 0, .int 1]), conB K ("HALF_contraries" : Str) (.tuple [.int 1, .int 2]), conB K ("HALF_halfturns" : Str) (.tuple [.int 1, .int 2]), conB K ("NONE" : Str) (.tuple [.int 0, .int 1])] : List Bool).all id = true from e)
  exact ⟨⟨free_ok X G (c.fact 0 rfl), free_ok X G (c.fact 1 rfl), free_ok X G (c.fact 2 rfl), free_ok X G (c.fact 3 rfl), free_ok X G (c.fact 4 rfl), free_ok X G (c.fact 5 rfl), free_ok X G (c.fact 6 rfl), free_ok X G (c.fact 7 rfl), free_ok X G (c.fact 8 rfl), free_ok X G (c.fact 9 rfl), free_ok X G (c.fact 10 rfl), free_ok X G (c.fact 11 rfl), free_ok X G (c.fact 12 rfl), blt_of X G (ea _ (List.mem_cons_self)), gc_of X G (ea _ (List.mem_cons_of_mem _ (List.mem_cons_self))), gc_of X G (ea _ (List.mem_cons_of_mem _ (List.mem_cons_of_mem _ (List.mem_cons_self)))), gc_of X G (ea _ (List.mem_cons_of_mem _ (List.mem_cons_of_mem _ (List.mem_cons_of_mem _ (List.mem_cons_self))))), gc_of X G (ea _ (List.mem_cons_of_mem _ (List.mem_cons_of_mem _ (List.mem_cons_of_mem _ (List.mem_cons_of_mem _ (List.mem_cons_self))))))⟩,
    (let ⟨fd, h⟩ := c.def_ 0 (d := d_is_number) rfl; ⟨fd, h, glo_ok X G (c.fact 13 rfl)⟩),
    (let ⟨fd, h⟩ := c.def_ 1 (d := d_is_from_to) rfl; ⟨fd, h, glo_ok X G (c.fact 14 rfl)⟩),
    (let ⟨fd, h⟩ := c.def_ 2 (d := d_is_row) rfl; ⟨fd, h, glo_ok X G (c.fact 15 rfl)⟩),
    (let ⟨fd, h⟩ := c.def_ 3 (d := d_is_fraction) rfl; ⟨fd, h, glo_ok X G (c.fact 16 rfl)⟩),
    (let ⟨fd, h⟩ := c.def_ 4 (d := d_contrary) rfl; ⟨fd, h, glo_ok X G (c.fact 17 rfl)⟩),
    (let ⟨fd, h⟩ := c.def_ 5 (d := d_left_of) rfl; ⟨fd, h, glo_ok X G (c.fact 18 rfl)⟩),
    (let ⟨fd, h⟩ := c.def_ 6 (d := d_below_of) rfl; ⟨fd, h, glo_ok X G (c.fact 19 rfl)⟩),
    (let ⟨fd, h⟩ := c.def_ 7 (d := d_ends_at) rfl; ⟨fd, h, glo_ok X G (c.fact 20 rfl)⟩),
    (let ⟨fd, h⟩ := c.def_ 8 (d := d_is_corner) rfl; ⟨fd, h, glo_ok X G (c.fact 21 rfl)⟩),
    (let ⟨fd, h⟩ := c.def_ 9 (d := d_is_place) rfl; ⟨fd, h, glo_ok X G (c.fact 22 rfl)⟩),
    (let ⟨fd, h⟩ := c.def_ 10 (d := d_frac) rfl; ⟨fd, h, glo_ok X G (c.fact 23 rfl)⟩),
    (let ⟨fd, h⟩ := c.def_ 11 (d := d_whole) rfl; ⟨fd, h, glo_ok X G (c.fact 24 rfl)⟩),
    (let ⟨fd, h⟩ := c.def_ 12 (d := d_minus) rfl; ⟨fd, h, glo_ok X G (c.fact 25 rfl)⟩),
    (c.def_ 13 (d := d_Pairs___init__) rfl),
    (c.def_ 14 (d := d_Pairs_first) rfl),
    (c.def_ 15 (d := d_Pairs_across) rfl),
    (c.def_ 16 (d := d_Pairs_upward) rfl),
    (c.def_ 17 (d := d_Pairs_closed) rfl),
    (let ⟨fd, h⟩ := c.def_ 18 (d := d_halves) rfl; ⟨fd, h, glo_ok X G (c.fact 26 rfl)⟩),
    (let ⟨fd, h⟩ := c.def_ 19 (d := d_half_places) rfl; ⟨fd, h, glo_ok X G (c.fact 27 rfl)⟩),
    (let ⟨fd, h⟩ := c.def_ 20 (d := d_needed) rfl; ⟨fd, h, glo_ok X G (c.fact 28 rfl)⟩),
    (let ⟨fd, h⟩ := c.def_ 21 (d := d_turn_from) rfl; ⟨fd, h, glo_ok X G (c.fact 29 rfl)⟩),
    (let ⟨fd, h⟩ := c.def_ 22 (d := d_far_corner) rfl; ⟨fd, h, glo_ok X G (c.fact 30 rfl)⟩),
    (let ⟨fd, h⟩ := c.def_ 23 (d := d_keeps_ends) rfl; ⟨fd, h, glo_ok X G (c.fact 31 rfl)⟩),
    (let ⟨fd, h⟩ := c.def_ 24 (d := d_half_turns) rfl; ⟨fd, h, glo_ok X G (c.fact 32 rfl)⟩),
    (let ⟨fd, h⟩ := c.def_ 25 (d := d_turned) rfl; ⟨fd, h, glo_ok X G (c.fact 33 rfl)⟩),
    (let ⟨fd, h⟩ := c.def_ 26 (d := d_other_end) rfl; ⟨fd, h, glo_ok X G (c.fact 34 rfl)⟩),
    (let ⟨fd, h⟩ := c.def_ 27 (d := d_places_tried) rfl; ⟨fd, h, glo_ok X G (c.fact 35 rfl)⟩),
    (let ⟨fd, h⟩ := c.def_ 28 (d := d_still) rfl; ⟨fd, h, glo_ok X G (c.fact 36 rfl)⟩),
    (let ⟨fd, h⟩ := c.def_ 29 (d := d__law_bag) rfl; ⟨fd, h, glo_ok X G (c.fact 37 rfl)⟩),
    (let ⟨fd, h⟩ := c.def_ 30 (d := d__law_draw) rfl; ⟨fd, h, glo_ok X G (c.fact 38 rfl)⟩),
    (let ⟨fd, h⟩ := c.def_ 31 (d := d__law_same) rfl; ⟨fd, h, glo_ok X G (c.fact 39 rfl)⟩),
    (let ⟨fd, h⟩ := c.def_ 32 (d := d__law_contrary_of) rfl; ⟨fd, h, glo_ok X G (c.fact 40 rfl)⟩),
    (let ⟨fd, h⟩ := c.def_ 33 (d := d__law_ends) rfl; ⟨fd, h, glo_ok X G (c.fact 41 rfl)⟩),
    (let ⟨fd, h⟩ := c.def_ 34 (d := d__law_reach) rfl; ⟨fd, h, glo_ok X G (c.fact 42 rfl)⟩),
    (let ⟨fd, h⟩ := c.def_ 35 (d := d__law_shuffle) rfl; ⟨fd, h, glo_ok X G (c.fact 43 rfl)⟩),
    (let ⟨fd, h⟩ := c.def_ 36 (d := d__law_hung) rfl; ⟨fd, h, glo_ok X G (c.fact 44 rfl)⟩),
    (let ⟨fd, h⟩ := c.def_ 37 (d := d__law_board) rfl; ⟨fd, h, glo_ok X G (c.fact 45 rfl)⟩),
    (let ⟨fd, h⟩ := c.def_ 38 (d := d__law_half_places) rfl; ⟨fd, h, glo_ok X G (c.fact 46 rfl)⟩),
    (let ⟨fd, h⟩ := c.def_ 39 (d := d__law_own_halves) rfl; ⟨fd, h, glo_ok X G (c.fact 47 rfl)⟩),
    (let ⟨fd, h⟩ := c.def_ 40 (d := d__law_is_half_turn) rfl; ⟨fd, h, glo_ok X G (c.fact 48 rfl)⟩),
    (let ⟨fd, h⟩ := c.def_ 41 (d := d__law_turns_of) rfl; ⟨fd, h, glo_ok X G (c.fact 49 rfl)⟩),
    (let ⟨fd, h⟩ := c.def_ 42 (d := d_law) rfl; ⟨fd, h, glo_ok X G (c.fact 50 rfl)⟩),
    (glo_ok X G (c.fact 51 rfl)),
    (cls_ok (c.fact 52 rfl)),
    (mkr_ok (c.fact 53 rfl)),
    (meth_ok (c.fact 54 rfl)),
    (meth_ok (c.fact 55 rfl)),
    (meth_ok (c.fact 56 rfl)),
    (meth_ok (c.fact 57 rfl)),
    (noat_ok (c.fact 58 rfl)),
    (noat_ok (c.fact 59 rfl)),
    (noat_ok (c.fact 60 rfl)),
    (noat_ok (c.fact 61 rfl))⟩
end K74
end
/-! ## F74 -/
section
/-! F74: every def keeps its promise; the law's too. -/
namespace K74
open PySem PySem.Spec PyProof.Rows L2 AB
theorem kv_g_half_turns__board {vs zs : List V} {us ws : List Value} (p : Vals vs us) (q : Vals zs ws) : Vals (g_half_turns__board vs zs) (g_half_turns__board us ws) := by
  cases q with
  | nil => exact .nil
  | cons a0 q =>
    cases q with
    | nil => exact .cons a0 .nil
    | cons _ _ => exact .nil
theorem kv_g_halves__half_board {vs zs : List V} {us ws : List Value} (p : Vals vs us) (q : Vals zs ws) : Vals (g_halves__half_board vs zs) (g_halves__half_board us ws) := by
  cases q with
  | nil => exact .nil
  | cons a0 q =>
    cases q with
    | nil => exact .nil
    | cons a1 q =>
      cases q with
      | nil => exact .cons a1 (.cons a0 .nil)
      | cons _ _ => exact .nil
theorem kv_g_needed__j_i_board {vs zs : List V} {us ws : List Value} (p : Vals vs us) (q : Vals zs ws) : Vals (g_needed__j_i_board vs zs) (g_needed__j_i_board us ws) := by
  cases q with
  | nil => exact .nil
  | cons a0 q =>
    cases q with
    | nil => exact .nil
    | cons a1 q =>
      cases q with
      | nil => exact .nil
      | cons a2 q =>
        cases q with
        | nil => exact .cons a2 (.cons a1 (.cons a0 .nil))
        | cons _ _ => exact .nil
theorem kv_g_still__turn_board {vs zs : List V} {us ws : List Value} (p : Vals vs us) (q : Vals zs ws) : Vals (g_still__turn_board vs zs) (g_still__turn_board us ws) := by
  cases q with
  | nil => exact .nil
  | cons a0 q =>
    cases q with
    | nil => exact .nil
    | cons a1 q =>
      cases q with
      | nil => exact .cons a1 (.cons a0 .nil)
      | cons _ _ => exact .nil
theorem fn_same {Pg : Program} {w : World} {K : PySem.W.Frag} {mg : Str → Option Value} {base : Heap} {Tb : List Addr} (M : Md K mg) {fd : FuncData} (D : D__law_same K (He.ga K ("_law_same" : Str)) fd) (g : mg ("_law_same" : Str) = some (.ref (He.ga K ("_law_same" : Str)))) :
    ∀ n, FnOk Pg w K mg base CX0 (n + 1) (He.ga K ("_law_same" : Str)) fd P__law_same (spA ⟨Pg, w, Tb⟩ K (A_same n))
  | 0 => fn_never (spA_never fun _ _ _ h => h)
  | n + 1 => by
    have o := fn_same (Pg := Pg) (w := w) (base := base) (Tb := Tb) M D g n
    have c : Cal Pg w K mg base (n + 1) ("_law_same" : Str) (spA ⟨Pg, w, Tb⟩ K (A_same n)) [] := ⟨_, fd, P__law_same, [], o, g, D.kp, D.bindsN fun _ _ _ _ _ _ us hl => match us, hl with | [_, _], _ => rfl, .nil⟩
    exact fnA D S__law_same (ws_law_same n) fun cdv Ar outer s H E hr => ps__law_same M c (Nat.zero_le _) (Nat.le_refl _) hr
theorem law_ok {Pg : Program} {w : World} {K : PySem.W.Frag} {mg : Str → Option Value} {base : Heap} {Tb : List Addr} (S : Says K mg) (hT : (He.cT K (("keeps_ends" : Str), none)).2 ∈ Tb)
    (TB : GxR.TabB base mg (He.cT K (("keeps_ends" : Str), none)).1 (He.cT K (("keeps_ends" : Str), none)).2) {fd : FuncData} (D : D_law K (He.ga K ("law" : Str)) fd) :
    FnOk Pg w K mg base CX0 8 (He.ga K ("law" : Str)) fd P_law (spLaw ⟨Pg, w, Tb⟩ K) := by
  have pc : PC K := ⟨S.cls_Pairs, S.a_Pairs_right, S.a_Pairs_above, S.a_Pairs_left, S.a_Pairs_below⟩
  obtain ⟨d_is_number, D_is_number, g_is_number⟩ := S.f_is_number
  have o_is_number : FnOk Pg w K mg base CX0 1 _ d_is_number P_is_number (spA ⟨Pg, w, Tb⟩ K A_is_number) := fnA D_is_number S_is_number (ws_is_number) fun cdv Ar outer s H E hr => ps_is_number S.md  hr
  have c_is_number : Cal Pg w K mg base 1 ("is_number" : Str) (spA ⟨Pg, w, Tb⟩ K A_is_number) [] := ⟨_, d_is_number, P_is_number, [], o_is_number, g_is_number, D_is_number.kp, D_is_number.bindsN fun _ _ _ _ _ _ us hl => match us, hl with | [_], _ => rfl, .nil⟩
  obtain ⟨d_is_from_to, D_is_from_to, g_is_from_to⟩ := S.f_is_from_to
  have o_is_from_to : FnOk Pg w K mg base CX0 2 _ d_is_from_to P_is_from_to (spA ⟨Pg, w, Tb⟩ K A_is_from_to) := fnA D_is_from_to S_is_from_to (ws_is_from_to) fun cdv Ar outer s H E hr => ps_is_from_to S.md c_is_number hr
  have c_is_from_to : Cal Pg w K mg base 2 ("is_from_to" : Str) (spA ⟨Pg, w, Tb⟩ K A_is_from_to) [] := ⟨_, d_is_from_to, P_is_from_to, [], o_is_from_to, g_is_from_to, D_is_from_to.kp, D_is_from_to.bindsN fun _ _ _ _ _ _ us hl => match us, hl with | [_, _, _], _ => rfl, .nil⟩
  obtain ⟨d_is_row, D_is_row, g_is_row⟩ := S.f_is_row
  have o_is_row : FnOk Pg w K mg base CX0 1 _ d_is_row P_is_row (spA ⟨Pg, w, Tb⟩ K A_is_row) := fnA D_is_row S_is_row (ws_is_row) fun cdv Ar outer s H E hr => ps_is_row S.md  hr
  have c_is_row : Cal Pg w K mg base 1 ("is_row" : Str) (spA ⟨Pg, w, Tb⟩ K A_is_row) [] := ⟨_, d_is_row, P_is_row, [], o_is_row, g_is_row, D_is_row.kp, D_is_row.bindsN fun _ _ _ _ _ _ us hl => match us, hl with | [_, _], _ => rfl, .nil⟩
  obtain ⟨d_is_fraction, D_is_fraction, g_is_fraction⟩ := S.f_is_fraction
  have o_is_fraction : FnOk Pg w K mg base CX0 2 _ d_is_fraction P_is_fraction (spA ⟨Pg, w, Tb⟩ K A_is_fraction) := fnA D_is_fraction S_is_fraction (ws_is_fraction) fun cdv Ar outer s H E hr => ps_is_fraction S.md c_is_row c_is_number hr
  have c_is_fraction : Cal Pg w K mg base 2 ("is_fraction" : Str) (spA ⟨Pg, w, Tb⟩ K A_is_fraction) [] := ⟨_, d_is_fraction, P_is_fraction, [], o_is_fraction, g_is_fraction, D_is_fraction.kp, D_is_fraction.bindsN fun _ _ _ _ _ _ us hl => match us, hl with | [_], _ => rfl, .nil⟩
  obtain ⟨d_contrary, D_contrary, g_contrary⟩ := S.f_contrary
  have o_contrary : FnOk Pg w K mg base CX0 1 _ d_contrary P_contrary (spA ⟨Pg, w, Tb⟩ K A_contrary) := fnA D_contrary S_contrary (ws_contrary) fun cdv Ar outer s H E hr => ps_contrary S.md  hr
  have c_contrary : Cal Pg w K mg base 1 ("contrary" : Str) (spA ⟨Pg, w, Tb⟩ K A_contrary) [] := ⟨_, d_contrary, P_contrary, [], o_contrary, g_contrary, D_contrary.kp, D_contrary.bindsN fun _ _ _ _ _ _ us hl => match us, hl with | [_], _ => rfl, .nil⟩
  obtain ⟨d_left_of, D_left_of, g_left_of⟩ := S.f_left_of
  have o_left_of : FnOk Pg w K mg base CX0 2 _ d_left_of P_left_of (spA ⟨Pg, w, Tb⟩ K A_of1) := fnA D_left_of S_left_of (ws_left_of) fun cdv Ar outer s H E hr => ps_left_of S.md c_contrary hr
  have c_left_of : Cal Pg w K mg base 2 ("left_of" : Str) (spA ⟨Pg, w, Tb⟩ K A_of1) [] := ⟨_, d_left_of, P_left_of, [], o_left_of, g_left_of, D_left_of.kp, D_left_of.bindsN fun _ _ _ _ _ _ us hl => match us, hl with | [_], _ => rfl, .nil⟩
  obtain ⟨d_below_of, D_below_of, g_below_of⟩ := S.f_below_of
  have o_below_of : FnOk Pg w K mg base CX0 2 _ d_below_of P_below_of (spA ⟨Pg, w, Tb⟩ K A_of2) := fnA D_below_of S_below_of (ws_below_of) fun cdv Ar outer s H E hr => ps_below_of S.md c_contrary hr
  have c_below_of : Cal Pg w K mg base 2 ("below_of" : Str) (spA ⟨Pg, w, Tb⟩ K A_of2) [] := ⟨_, d_below_of, P_below_of, [], o_below_of, g_below_of, D_below_of.kp, D_below_of.bindsN fun _ _ _ _ _ _ us hl => match us, hl with | [_], _ => rfl, .nil⟩
  obtain ⟨d_ends_at, D_ends_at, g_ends_at⟩ := S.f_ends_at
  have o_ends_at : FnOk Pg w K mg base CX0 1 _ d_ends_at P_ends_at (spA ⟨Pg, w, Tb⟩ K A_ends_at) := fnA D_ends_at S_ends_at (ws_ends_at) fun cdv Ar outer s H E hr => ps_ends_at S.md  hr
  have c_ends_at : Cal Pg w K mg base 1 ("ends_at" : Str) (spA ⟨Pg, w, Tb⟩ K A_ends_at) [] := ⟨_, d_ends_at, P_ends_at, [], o_ends_at, g_ends_at, D_ends_at.kp, D_ends_at.bindsN fun _ _ _ _ _ _ us hl => match us, hl with | [_, _], _ => rfl, .nil⟩
  obtain ⟨d_is_corner, D_is_corner, g_is_corner⟩ := S.f_is_corner
  have o_is_corner : FnOk Pg w K mg base CX0 1 _ d_is_corner P_is_corner (spA ⟨Pg, w, Tb⟩ K A_is_corner) := fnA D_is_corner S_is_corner (ws_is_corner) fun cdv Ar outer s H E hr => ps_is_corner S.md  hr
  have c_is_corner : Cal Pg w K mg base 1 ("is_corner" : Str) (spA ⟨Pg, w, Tb⟩ K A_is_corner) [] := ⟨_, d_is_corner, P_is_corner, [], o_is_corner, g_is_corner, D_is_corner.kp, D_is_corner.bindsN fun _ _ _ _ _ _ us hl => match us, hl with | [_], _ => rfl, .nil⟩
  obtain ⟨d_is_place, D_is_place, g_is_place⟩ := S.f_is_place
  have o_is_place : FnOk Pg w K mg base CX0 3 _ d_is_place P_is_place (spA ⟨Pg, w, Tb⟩ K A_is_place) := fnA D_is_place S_is_place (ws_is_place) fun cdv Ar outer s H E hr => ps_is_place S.md c_is_row c_is_from_to c_is_fraction c_is_corner c_ends_at hr
  have c_is_place : Cal Pg w K mg base 3 ("is_place" : Str) (spA ⟨Pg, w, Tb⟩ K A_is_place) [] := ⟨_, d_is_place, P_is_place, [], o_is_place, g_is_place, D_is_place.kp, D_is_place.bindsN fun _ _ _ _ _ _ us hl => match us, hl with | [_, _], _ => rfl, .nil⟩
  obtain ⟨d_frac, D_frac, g_frac⟩ := S.f_frac
  have o_frac : FnOk Pg w K mg base CX0 1 _ d_frac P_frac (spA ⟨Pg, w, Tb⟩ K A_frac) := fnA D_frac S_frac (ws_frac) fun cdv Ar outer s H E hr => ps_frac S.md  hr
  have c_frac : Cal Pg w K mg base 1 ("frac" : Str) (spA ⟨Pg, w, Tb⟩ K A_frac) [] := ⟨_, d_frac, P_frac, [], o_frac, g_frac, D_frac.kp, D_frac.bindsN fun _ _ _ _ _ _ us hl => match us, hl with | [_, _], _ => rfl, .nil⟩
  obtain ⟨d_whole, D_whole, g_whole⟩ := S.f_whole
  have o_whole : FnOk Pg w K mg base CX0 1 _ d_whole P_whole (spA ⟨Pg, w, Tb⟩ K A_whole) := fnA D_whole S_whole (ws_whole) fun cdv Ar outer s H E hr => ps_whole S.md  hr
  have c_whole : Cal Pg w K mg base 1 ("whole" : Str) (spA ⟨Pg, w, Tb⟩ K A_whole) [] := ⟨_, d_whole, P_whole, [], o_whole, g_whole, D_whole.kp, D_whole.bindsN fun _ _ _ _ _ _ us hl => match us, hl with | [_], _ => rfl, .nil⟩
  obtain ⟨d_minus, D_minus, g_minus⟩ := S.f_minus
  have o_minus : FnOk Pg w K mg base CX0 2 _ d_minus P_minus (spA ⟨Pg, w, Tb⟩ K A_minus) := fnA D_minus S_minus (ws_minus) fun cdv Ar outer s H E hr => ps_minus S.md c_frac hr
  have c_minus : Cal Pg w K mg base 2 ("minus" : Str) (spA ⟨Pg, w, Tb⟩ K A_minus) [] := ⟨_, d_minus, P_minus, [], o_minus, g_minus, D_minus.kp, D_minus.bindsN fun _ _ _ _ _ _ us hl => match us, hl with | [_, _], _ => rfl, .nil⟩
  obtain ⟨d_Pairs___init__, D_Pairs___init__⟩ := S.f_Pairs___init__
  have o_Pairs___init__ : FnOk Pg w K mg base CX0 3 _ d_Pairs___init__ P_Pairs___init__ (spI ⟨Pg, w, Tb⟩ K (He.ga K ("Pairs" : Str)) A_init) := fnI D_Pairs___init__ S_Pairs___init__ (ws_init pc _ rfl) fun cdv Ar outer s H E hr => ps_Pairs___init__ S.md c_left_of c_below_of hr
  have c_Pairs : Mak Pg w K mg base 3 ("Pairs" : Str) (He.ga K ("Pairs" : Str)) (spI ⟨Pg, w, Tb⟩ K (He.ga K ("Pairs" : Str)) A_init) [] := ⟨_, d_Pairs___init__, P_Pairs___init__, [], S.mk_Pairs, o_Pairs___init__, S.gc_Pairs, D_Pairs___init__.bindsN fun _ _ _ _ _ _ us hl => match us, hl with | [_, _], _ => rfl, .nil⟩
  obtain ⟨d_Pairs_first, D_Pairs_first⟩ := S.f_Pairs_first
  have o_Pairs_first : FnOk Pg w K mg base CX0 1 _ d_Pairs_first P_Pairs_first (spA ⟨Pg, w, Tb⟩ K (A_first K)) := fnA D_Pairs_first S_Pairs_first (ws_first pc S.md.c_ZERO) fun cdv Ar outer s H E hr => ps_Pairs_first S.md  hr
  have c_Pairs_first : Met Pg w K mg base 1 (He.ga K ("Pairs" : Str)) ("first" : Str) (spA ⟨Pg, w, Tb⟩ K (A_first K)) [] := ⟨_, d_Pairs_first, P_Pairs_first, [], S.cls_Pairs, S.m_Pairs_first, o_Pairs_first, D_Pairs_first.bindsN fun _ _ _ _ _ _ us hl => match us, hl with | [_, _, _], _ => rfl, .nil⟩
  obtain ⟨d_Pairs_across, D_Pairs_across⟩ := S.f_Pairs_across
  have o_Pairs_across : FnOk Pg w K mg base CX0 1 _ d_Pairs_across P_Pairs_across (spA ⟨Pg, w, Tb⟩ K (A_across K)) := fnA D_Pairs_across S_Pairs_across (ws_across pc) fun cdv Ar outer s H E hr => ps_Pairs_across S.md  hr
  have c_Pairs_across : Met Pg w K mg base 1 (He.ga K ("Pairs" : Str)) ("across" : Str) (spA ⟨Pg, w, Tb⟩ K (A_across K)) [] := ⟨_, d_Pairs_across, P_Pairs_across, [], S.cls_Pairs, S.m_Pairs_across, o_Pairs_across, D_Pairs_across.bindsN fun _ _ _ _ _ _ us hl => match us, hl with | [_, _, _], _ => rfl, .nil⟩
  obtain ⟨d_Pairs_upward, D_Pairs_upward⟩ := S.f_Pairs_upward
  have o_Pairs_upward : FnOk Pg w K mg base CX0 1 _ d_Pairs_upward P_Pairs_upward (spA ⟨Pg, w, Tb⟩ K (A_upward K)) := fnA D_Pairs_upward S_Pairs_upward (ws_upward pc) fun cdv Ar outer s H E hr => ps_Pairs_upward S.md  hr
  have c_Pairs_upward : Met Pg w K mg base 1 (He.ga K ("Pairs" : Str)) ("upward" : Str) (spA ⟨Pg, w, Tb⟩ K (A_upward K)) [] := ⟨_, d_Pairs_upward, P_Pairs_upward, [], S.cls_Pairs, S.m_Pairs_upward, o_Pairs_upward, D_Pairs_upward.bindsN fun _ _ _ _ _ _ us hl => match us, hl with | [_, _, _], _ => rfl, .nil⟩
  obtain ⟨d_Pairs_closed, D_Pairs_closed⟩ := S.f_Pairs_closed
  have o_Pairs_closed : FnOk Pg w K mg base CX0 2 _ d_Pairs_closed P_Pairs_closed (spA ⟨Pg, w, Tb⟩ K (A_closed K)) := fnA D_Pairs_closed S_Pairs_closed (ws_closed) fun cdv Ar outer s H E hr => ps_Pairs_closed S.md c_Pairs_across c_Pairs_upward hr
  have c_Pairs_closed : Met Pg w K mg base 2 (He.ga K ("Pairs" : Str)) ("closed" : Str) (spA ⟨Pg, w, Tb⟩ K (A_closed K)) [] := ⟨_, d_Pairs_closed, P_Pairs_closed, [], S.cls_Pairs, S.m_Pairs_closed, o_Pairs_closed, D_Pairs_closed.bindsN fun _ _ _ _ _ _ us hl => match us, hl with | [_, _], _ => rfl, .nil⟩
  obtain ⟨d_halves, D_halves, g_halves⟩ := S.f_halves
  have o_halves : FnOk Pg w K mg base CX0 5 _ d_halves P_halves (spA ⟨Pg, w, Tb⟩ K A_halves) := fnA D_halves S_halves (ws_halves) fun cdv Ar outer s H E hr => ps_halves S.md c_Pairs c_Pairs_closed c_Pairs_first hr
  have c_halves : Cal Pg w K mg base 5 ("halves" : Str) (spA ⟨Pg, w, Tb⟩ K A_halves) [] := ⟨_, d_halves, P_halves, [], o_halves, g_halves, D_halves.kp, D_halves.bindsN fun _ _ _ _ _ _ us hl => match us, hl with | [_, _], _ => rfl, .nil⟩
  have c_halves__half_board : CalN Pg w K mg base 5 ("halves" : Str) [("half" : Str), ("board" : Str)] g_halves__half_board (spA ⟨Pg, w, Tb⟩ K A_halves) := ⟨_, d_halves, P_halves, g_halves__half_board, o_halves, g_halves, D_halves.kp, D_halves.kbn0 0 [("half" : Str), ("board" : Str)] g_halves__half_board (fun {vs zs us ws} p q => kv_g_halves__half_board p q) fun _ _ _ _ _ _ us ws h1 h2 => match us, ws, h1, h2 with | [], [_, _], _, _ => rfl⟩
  obtain ⟨d_half_places, D_half_places, g_half_places⟩ := S.f_half_places
  have o_half_places : FnOk Pg w K mg base CX0 4 _ d_half_places P_half_places (spA ⟨Pg, w, Tb⟩ K A_half_places) := fnA D_half_places S_half_places (ws_half_places S.md.c_ZERO S.md.c_HALF_contraries) fun cdv Ar outer s H E hr => ps_half_places S.md c_is_place hr
  have c_half_places : Cal Pg w K mg base 4 ("half_places" : Str) (spA ⟨Pg, w, Tb⟩ K A_half_places) [] := ⟨_, d_half_places, P_half_places, [], o_half_places, g_half_places, D_half_places.kp, D_half_places.bindsN fun _ _ _ _ _ _ us hl => match us, hl with | [_], _ => rfl, .nil⟩
  obtain ⟨d_needed, D_needed, g_needed⟩ := S.f_needed
  have o_needed : FnOk Pg w K mg base CX0 5 _ d_needed P_needed (spA ⟨Pg, w, Tb⟩ K A_needed) := fnA D_needed S_needed (ws_needed) fun cdv Ar outer s H E hr => ps_needed S.md c_Pairs c_Pairs_closed c_half_places c_Pairs_first hr
  have c_needed : Cal Pg w K mg base 5 ("needed" : Str) (spA ⟨Pg, w, Tb⟩ K A_needed) [] := ⟨_, d_needed, P_needed, [], o_needed, g_needed, D_needed.kp, D_needed.bindsN fun _ _ _ _ _ _ us hl => match us, hl with | [_, _, _], _ => rfl, .nil⟩
  have c_needed__j_i_board : CalN Pg w K mg base 5 ("needed" : Str) [("j" : Str), ("i" : Str), ("board" : Str)] g_needed__j_i_board (spA ⟨Pg, w, Tb⟩ K A_needed) := ⟨_, d_needed, P_needed, g_needed__j_i_board, o_needed, g_needed, D_needed.kp, D_needed.kbn0 0 [("j" : Str), ("i" : Str), ("board" : Str)] g_needed__j_i_board (fun {vs zs us ws} p q => kv_g_needed__j_i_board p q) fun _ _ _ _ _ _ us ws h1 h2 => match us, ws, h1, h2 with | [], [_, _, _], _, _ => rfl⟩
  obtain ⟨d_turn_from, D_turn_from, g_turn_from⟩ := S.f_turn_from
  have o_turn_from : FnOk Pg w K mg base CX0 3 _ d_turn_from P_turn_from (spA ⟨Pg, w, Tb⟩ K A_turn_from) := fnA D_turn_from S_turn_from (ws_turn_from) fun cdv Ar outer s H E hr => ps_turn_from S.md c_left_of c_below_of hr
  have c_turn_from : Cal Pg w K mg base 3 ("turn_from" : Str) (spA ⟨Pg, w, Tb⟩ K A_turn_from) [] := ⟨_, d_turn_from, P_turn_from, [], o_turn_from, g_turn_from, D_turn_from.kp, D_turn_from.bindsN fun _ _ _ _ _ _ us hl => match us, hl with | [_, _], _ => rfl, .nil⟩
  obtain ⟨d_far_corner, D_far_corner, g_far_corner⟩ := S.f_far_corner
  have o_far_corner : FnOk Pg w K mg base CX0 1 _ d_far_corner P_far_corner (spA ⟨Pg, w, Tb⟩ K A_far_corner) := fnA D_far_corner S_far_corner (ws_far_corner) fun cdv Ar outer s H E hr => ps_far_corner S.md  hr
  have c_far_corner : Cal Pg w K mg base 1 ("far_corner" : Str) (spA ⟨Pg, w, Tb⟩ K A_far_corner) [] := ⟨_, d_far_corner, P_far_corner, [], o_far_corner, g_far_corner, D_far_corner.kp, D_far_corner.bindsN fun _ _ _ _ _ _ us hl => match us, hl with | [_, _], _ => rfl, .nil⟩
  obtain ⟨d_keeps_ends, D_keeps_ends, g_keeps_ends⟩ := S.f_keeps_ends
  have o_keeps_ends : FnOk Pg w K mg base CX0 3 _ d_keeps_ends P_keeps_ends (spA ⟨Pg, w, Tb⟩ K A_keeps) := fnAC (at_ := (("keeps_ends" : Str), none)) rfl D_keeps_ends S_keeps_ends (ws_keeps_ends hT) fun Ar outer s H E hr => ps_keeps_ends S.md c_ends_at c_far_corner TB hr
  have c_keeps_ends : Cal Pg w K mg base 3 ("keeps_ends" : Str) (spA ⟨Pg, w, Tb⟩ K A_keeps) [] := ⟨_, d_keeps_ends, P_keeps_ends, [], o_keeps_ends, g_keeps_ends, D_keeps_ends.kp, D_keeps_ends.bindsN fun _ _ _ _ _ _ us hl => match us, hl with | [_, _], _ => rfl, .nil⟩
  obtain ⟨d_half_turns, D_half_turns, g_half_turns⟩ := S.f_half_turns
  have o_half_turns : FnOk Pg w K mg base CX0 4 _ d_half_turns P_half_turns (spA ⟨Pg, w, Tb⟩ K A_half_turns) := fnA D_half_turns S_half_turns (ws_half_turns) fun cdv Ar outer s H E hr => ps_half_turns S.md c_turn_from c_keeps_ends hr
  have c_half_turns : Cal Pg w K mg base 4 ("half_turns" : Str) (spA ⟨Pg, w, Tb⟩ K A_half_turns) [] := ⟨_, d_half_turns, P_half_turns, [], o_half_turns, g_half_turns, D_half_turns.kp, D_half_turns.bindsN fun _ _ _ _ _ _ us hl => match us, hl with | [_], _ => rfl, .nil⟩
  have c_half_turns__board : CalN Pg w K mg base 4 ("half_turns" : Str) [("board" : Str)] g_half_turns__board (spA ⟨Pg, w, Tb⟩ K A_half_turns) := ⟨_, d_half_turns, P_half_turns, g_half_turns__board, o_half_turns, g_half_turns, D_half_turns.kp, D_half_turns.kbn0 0 [("board" : Str)] g_half_turns__board (fun {vs zs us ws} p q => kv_g_half_turns__board p q) fun _ _ _ _ _ _ us ws h1 h2 => match us, ws, h1, h2 with | [], [_], _, _ => rfl⟩
  obtain ⟨d_other_end, D_other_end, g_other_end⟩ := S.f_other_end
  have o_other_end : FnOk Pg w K mg base CX0 3 _ d_other_end P_other_end (spA ⟨Pg, w, Tb⟩ K A_other_end) := fnA D_other_end S_other_end (ws_other_end) fun cdv Ar outer s H E hr => ps_other_end S.md c_minus c_whole hr
  have c_other_end : Cal Pg w K mg base 3 ("other_end" : Str) (spA ⟨Pg, w, Tb⟩ K A_other_end) [] := ⟨_, d_other_end, P_other_end, [], o_other_end, g_other_end, D_other_end.kp, D_other_end.bindsN fun _ _ _ _ _ _ us hl => match us, hl with | [_], _ => rfl, .nil⟩
  obtain ⟨d_turned, D_turned, g_turned⟩ := S.f_turned
  have o_turned : FnOk Pg w K mg base CX0 4 _ d_turned P_turned (spA ⟨Pg, w, Tb⟩ K A_turned) := fnA D_turned S_turned (ws_turned) fun cdv Ar outer s H E hr => ps_turned S.md c_other_end hr
  have c_turned : Cal Pg w K mg base 4 ("turned" : Str) (spA ⟨Pg, w, Tb⟩ K A_turned) [] := ⟨_, d_turned, P_turned, [], o_turned, g_turned, D_turned.kp, D_turned.bindsN fun _ _ _ _ _ _ us hl => match us, hl with | [_, _, _], _ => rfl, .nil⟩
  obtain ⟨d_places_tried, D_places_tried, g_places_tried⟩ := S.f_places_tried
  have o_places_tried : FnOk Pg w K mg base CX0 2 _ d_places_tried P_places_tried (spA ⟨Pg, w, Tb⟩ K A_places_tried) := fnA D_places_tried S_places_tried (ws_places_tried S.md.c_NONE S.md.c_HALF_halfturns) fun cdv Ar outer s H E hr => ps_places_tried S.md c_ends_at hr
  have c_places_tried : Cal Pg w K mg base 2 ("places_tried" : Str) (spA ⟨Pg, w, Tb⟩ K A_places_tried) [] := ⟨_, d_places_tried, P_places_tried, [], o_places_tried, g_places_tried, D_places_tried.kp, D_places_tried.bindsN fun _ _ _ _ _ _ us hl => match us, hl with | [_, _], _ => rfl, .nil⟩
  obtain ⟨d_still, D_still, g_still⟩ := S.f_still
  have o_still : FnOk Pg w K mg base CX0 5 _ d_still P_still (spA ⟨Pg, w, Tb⟩ K A_still) := fnA D_still S_still (ws_still) fun cdv Ar outer s H E hr => ps_still S.md c_places_tried c_turned hr
  have c_still : Cal Pg w K mg base 5 ("still" : Str) (spA ⟨Pg, w, Tb⟩ K A_still) [] := ⟨_, d_still, P_still, [], o_still, g_still, D_still.kp, D_still.bindsN fun _ _ _ _ _ _ us hl => match us, hl with | [_, _], _ => rfl, .nil⟩
  have c_still__turn_board : CalN Pg w K mg base 5 ("still" : Str) [("turn" : Str), ("board" : Str)] g_still__turn_board (spA ⟨Pg, w, Tb⟩ K A_still) := ⟨_, d_still, P_still, g_still__turn_board, o_still, g_still, D_still.kp, D_still.kbn0 0 [("turn" : Str), ("board" : Str)] g_still__turn_board (fun {vs zs us ws} p q => kv_g_still__turn_board p q) fun _ _ _ _ _ _ us ws h1 h2 => match us, ws, h1, h2 with | [], [_, _], _, _ => rfl⟩
  obtain ⟨d__law_bag, D__law_bag, g__law_bag⟩ := S.f__law_bag
  have o__law_bag : FnOk Pg w K mg base CX0 1 _ d__law_bag P__law_bag (spBag ⟨Pg, w, Tb⟩ K) := D__law_bag.ok S__law_bag (fun vs H Q E h => by obtain ⟨Hb, v, ns, rfl, _⟩ := h; rfl) fun cdv Ar outer s H vs Q E hr h => ⟨_, ps__law_bag S.md hr, bag_pure h⟩
  have c__law_bag : Cal Pg w K mg base 1 ("_law_bag" : Str) (spBag ⟨Pg, w, Tb⟩ K) [] := ⟨_, d__law_bag, P__law_bag, [], o__law_bag, g__law_bag, D__law_bag.kp, D__law_bag.bindsN fun _ _ _ _ _ _ us hl => match us, hl with | [_], _ => rfl, .nil⟩
  obtain ⟨d__law_draw, D__law_draw, g__law_draw⟩ := S.f__law_draw
  have o0__law_draw : FnOk Pg w K mg base CX0 1 _ d__law_draw P__law_draw spDraw := D__law_draw.ok S__law_draw (fun vs H Q E h => by obtain ⟨b, g, c, m, l, n, gs, cs, rfl, _⟩ := h; rfl) fun cdv Ar outer s H vs Q E hr h => ⟨_, ps__law_draw (Tb := Tb) S.md hr, pure_draw h N__law_draw rfl⟩
  have o__law_draw : FnOk Pg w K mg base CX0 1 _ d__law_draw P__law_draw (spA ⟨Pg, w, Tb⟩ K ADraw) := o0__law_draw.imp draw_to
  have c__law_draw : Cal Pg w K mg base 1 ("_law_draw" : Str) (spA ⟨Pg, w, Tb⟩ K ADraw) [] := ⟨_, d__law_draw, P__law_draw, [], o__law_draw, g__law_draw, D__law_draw.kp, D__law_draw.bindsN fun _ _ _ _ _ _ us hl => match us, hl with | [_, _], _ => rfl, .nil⟩
  obtain ⟨d__law_same, D__law_same, g__law_same⟩ := S.f__law_same
  have o__law_same : FnOk Pg w K mg base CX0 7 _ d__law_same P__law_same (spA ⟨Pg, w, Tb⟩ K (A_same 4)) := (fn_same S.md D__law_same g__law_same 4).mono (by decide)
  have c__law_same : Cal Pg w K mg base 7 ("_law_same" : Str) (spA ⟨Pg, w, Tb⟩ K (A_same 4)) [] := ⟨_, d__law_same, P__law_same, [], o__law_same, g__law_same, D__law_same.kp, D__law_same.bindsN fun _ _ _ _ _ _ us hl => match us, hl with | [_, _], _ => rfl, .nil⟩
  obtain ⟨d__law_contrary_of, D__law_contrary_of, g__law_contrary_of⟩ := S.f__law_contrary_of
  have o__law_contrary_of : FnOk Pg w K mg base CX0 1 _ d__law_contrary_of P__law_contrary_of (spA ⟨Pg, w, Tb⟩ K A_contrary) := fnA D__law_contrary_of S__law_contrary_of (ws_law_contrary_of) fun cdv Ar outer s H E hr => ps__law_contrary_of S.md  hr
  have c__law_contrary_of : Cal Pg w K mg base 1 ("_law_contrary_of" : Str) (spA ⟨Pg, w, Tb⟩ K A_contrary) [] := ⟨_, d__law_contrary_of, P__law_contrary_of, [], o__law_contrary_of, g__law_contrary_of, D__law_contrary_of.kp, D__law_contrary_of.bindsN fun _ _ _ _ _ _ us hl => match us, hl with | [_], _ => rfl, .nil⟩
  obtain ⟨d__law_ends, D__law_ends, g__law_ends⟩ := S.f__law_ends
  have o__law_ends : FnOk Pg w K mg base CX0 2 _ d__law_ends P__law_ends (spA ⟨Pg, w, Tb⟩ K A_law_ends) := fnA D__law_ends S__law_ends (ws_law_ends) fun cdv Ar outer s H E hr => ps__law_ends S.md c__law_contrary_of hr
  have c__law_ends : Cal Pg w K mg base 2 ("_law_ends" : Str) (spA ⟨Pg, w, Tb⟩ K A_law_ends) [] := ⟨_, d__law_ends, P__law_ends, [], o__law_ends, g__law_ends, D__law_ends.kp, D__law_ends.bindsN fun _ _ _ _ _ _ us hl => match us, hl with | [_, _], _ => rfl, .nil⟩
  obtain ⟨d__law_reach, D__law_reach, g__law_reach⟩ := S.f__law_reach
  have o__law_reach : FnOk Pg w K mg base CX0 1 _ d__law_reach P__law_reach (spA ⟨Pg, w, Tb⟩ K A_reach) := fnA D__law_reach S__law_reach (ws_law_reach) fun cdv Ar outer s H E hr => ps__law_reach S.md  hr
  have c__law_reach : Cal Pg w K mg base 1 ("_law_reach" : Str) (spA ⟨Pg, w, Tb⟩ K A_reach) [] := ⟨_, d__law_reach, P__law_reach, [], o__law_reach, g__law_reach, D__law_reach.kp, D__law_reach.bindsN fun _ _ _ _ _ _ us hl => match us, hl with | [_, _], _ => rfl, .nil⟩
  obtain ⟨d__law_shuffle, D__law_shuffle, g__law_shuffle⟩ := S.f__law_shuffle
  have o__law_shuffle : FnOk Pg w K mg base CX0 2 _ d__law_shuffle P__law_shuffle (spA ⟨Pg, w, Tb⟩ K A_shuffle) := fnA D__law_shuffle S__law_shuffle (ws_law_shuffle) fun cdv Ar outer s H E hr => ps__law_shuffle S.md c__law_draw hr
  have c__law_shuffle : Cal Pg w K mg base 2 ("_law_shuffle" : Str) (spA ⟨Pg, w, Tb⟩ K A_shuffle) [] := ⟨_, d__law_shuffle, P__law_shuffle, [], o__law_shuffle, g__law_shuffle, D__law_shuffle.kp, D__law_shuffle.bindsN fun _ _ _ _ _ _ us hl => match us, hl with | [_, _], _ => rfl, .nil⟩
  obtain ⟨d__law_hung, D__law_hung, g__law_hung⟩ := S.f__law_hung
  have o__law_hung : FnOk Pg w K mg base CX0 2 _ d__law_hung P__law_hung (spA ⟨Pg, w, Tb⟩ K A_hung) := fnA D__law_hung S__law_hung (ws_law_hung) fun cdv Ar outer s H E hr => ps__law_hung S.md c__law_reach hr
  have c__law_hung : Cal Pg w K mg base 2 ("_law_hung" : Str) (spA ⟨Pg, w, Tb⟩ K A_hung) [] := ⟨_, d__law_hung, P__law_hung, [], o__law_hung, g__law_hung, D__law_hung.kp, D__law_hung.bindsN fun _ _ _ _ _ _ us hl => match us, hl with | [_, _], _ => rfl, .nil⟩
  obtain ⟨d__law_board, D__law_board, g__law_board⟩ := S.f__law_board
  have o__law_board : FnOk Pg w K mg base CX0 3 _ d__law_board P__law_board (spA ⟨Pg, w, Tb⟩ K A_board) := fnA D__law_board S__law_board (ws_law_board) fun cdv Ar outer s H E hr => ps__law_board S.md c__law_draw c__law_shuffle c__law_hung c__law_ends hr
  have c__law_board : Cal Pg w K mg base 3 ("_law_board" : Str) (spA ⟨Pg, w, Tb⟩ K A_board) [] := ⟨_, d__law_board, P__law_board, [], o__law_board, g__law_board, D__law_board.kp, D__law_board.bindsN fun _ _ _ _ _ _ us hl => match us, hl with | [_, _], _ => rfl, .nil⟩
  obtain ⟨d__law_half_places, D__law_half_places, g__law_half_places⟩ := S.f__law_half_places
  have o__law_half_places : FnOk Pg w K mg base CX0 1 _ d__law_half_places P__law_half_places (spA ⟨Pg, w, Tb⟩ K A_law_half_places) := fnA D__law_half_places S__law_half_places (ws_law_half_places) fun cdv Ar outer s H E hr => ps__law_half_places S.md  hr
  have c__law_half_places : Cal Pg w K mg base 1 ("_law_half_places" : Str) (spA ⟨Pg, w, Tb⟩ K A_law_half_places) [] := ⟨_, d__law_half_places, P__law_half_places, [], o__law_half_places, g__law_half_places, D__law_half_places.kp, D__law_half_places.bindsN fun _ _ _ _ _ _ us hl => match us, hl with | [_], _ => rfl, .nil⟩
  obtain ⟨d__law_own_halves, D__law_own_halves, g__law_own_halves⟩ := S.f__law_own_halves
  have o__law_own_halves : FnOk Pg w K mg base CX0 2 _ d__law_own_halves P__law_own_halves (spA ⟨Pg, w, Tb⟩ K A_own) := fnA D__law_own_halves S__law_own_halves (ws_law_own_halves) fun cdv Ar outer s H E hr => ps__law_own_halves S.md c__law_contrary_of hr
  have c__law_own_halves : Cal Pg w K mg base 2 ("_law_own_halves" : Str) (spA ⟨Pg, w, Tb⟩ K A_own) [] := ⟨_, d__law_own_halves, P__law_own_halves, [], o__law_own_halves, g__law_own_halves, D__law_own_halves.kp, D__law_own_halves.bindsN fun _ _ _ _ _ _ us hl => match us, hl with | [_, _], _ => rfl, .nil⟩
  obtain ⟨d__law_is_half_turn, D__law_is_half_turn, g__law_is_half_turn⟩ := S.f__law_is_half_turn
  have o__law_is_half_turn : FnOk Pg w K mg base CX0 2 _ d__law_is_half_turn P__law_is_half_turn (spA ⟨Pg, w, Tb⟩ K A_is_ht) := fnA D__law_is_half_turn S__law_is_half_turn (ws_law_is_half_turn) fun cdv Ar outer s H E hr => ps__law_is_half_turn S.md c__law_contrary_of hr
  have c__law_is_half_turn : Cal Pg w K mg base 2 ("_law_is_half_turn" : Str) (spA ⟨Pg, w, Tb⟩ K A_is_ht) [] := ⟨_, d__law_is_half_turn, P__law_is_half_turn, [], o__law_is_half_turn, g__law_is_half_turn, D__law_is_half_turn.kp, D__law_is_half_turn.bindsN fun _ _ _ _ _ _ us hl => match us, hl with | [_, _], _ => rfl, .nil⟩
  obtain ⟨d__law_turns_of, D__law_turns_of, g__law_turns_of⟩ := S.f__law_turns_of
  have o__law_turns_of : FnOk Pg w K mg base CX0 3 _ d__law_turns_of P__law_turns_of (spA ⟨Pg, w, Tb⟩ K A_half_turns) := fnA D__law_turns_of S__law_turns_of (ws_law_turns_of) fun cdv Ar outer s H E hr => ps__law_turns_of S.md c__law_contrary_of c__law_is_half_turn hr
  have c__law_turns_of : Cal Pg w K mg base 3 ("_law_turns_of" : Str) (spA ⟨Pg, w, Tb⟩ K A_half_turns) [] := ⟨_, d__law_turns_of, P__law_turns_of, [], o__law_turns_of, g__law_turns_of, D__law_turns_of.kp, D__law_turns_of.bindsN fun _ _ _ _ _ _ us hl => match us, hl with | [_], _ => rfl, .nil⟩
  exact D.ok S_law (fun vs H Q E h => by obtain ⟨a, ns, rfl, _⟩ := h; rfl) fun cdv Ar outer s H vs Q E hr h => ⟨_, ps_law S.md c__law_bag c__law_board c__law_draw c__law_half_places c_halves c_halves__half_board c__law_same c__law_own_halves c_needed c_needed__j_i_board c__law_turns_of c_half_turns c_half_turns__board c_still c_still__turn_board hr, pure_law h⟩
end K74
end
/-! ## Z74 -/
section
open PySem PySem.W PySem.Calls PyProof.Rows
theorem PySem.Challenge.cw_blockedshots_k74_whole_half_lists_holds : PySem.Challenge.rw_blockedshots_k74_whole_half_lists.Holds := by
  w_on; o_law
  refine HandSHeadRun.head_imp (r := OpenLaw.row PySem.Challenge.rw_blockedshots_k74_whole_half_lists) (q := view (OpenLaw.row PySem.Challenge.rw_blockedshots_k74_whole_half_lists).prog [0, 49]) (H := K74.hk) (ob := K74.ob) (M := 3000) (loose := K74.lo) (d := HandSHeadRun.topDef (OpenLaw.row PySem.Challenge.rw_blockedshots_k74_whole_half_lists).prog 49) (kwd := []) K74.ob_eq K74.run
    (by kernel_rfl) (by kernel_rfl) (by kernel_rfl) (by rfl) (by first | assumption | decide +kernel) (by decide +kernel) ⟨rfl, rfl, rfl, rfl, rfl, by decide +kernel⟩ ?hw ?hc
  case hw => w_witness2
  case hc =>
    refine LamX.walk_ofTX (l := PySem.Challenge.rw_blockedshots_k74_whole_half_lists) (n := 63) (k := 8) (x := "script") (CX := L2.CX0) rfl (by decide) (by kernel_rfl) ⟨rfl, by decide, by decide⟩ ?F (fun _ _ _ _ z => z)
    intro w mg fa h Y G hmg0
    obtain ⟨K, KX, c⟩ := Y
    have hmg : mg ("law" : PySem.Str) = some (.ref fa) := by
      have e : (HandSHeadRun.topDef (OpenLaw.row PySem.Challenge.rw_blockedshots_k74_whole_half_lists).prog 49).name = ("law" : PySem.Str) := by kernel_rfl
      rw [← e]
      exact hmg0
    have S := K74.says KX G c.t.d c.more
    obtain ⟨fd, D, g⟩ := S.f_law
    have e := hmg.symm.trans g
    cases e
    have hd := c.hd _ (List.mem_singleton.mpr rfl : (("keeps_ends" : PySem.Str), none) ∈ K74.tf)
    have hout := c.out _ (List.mem_singleton.mpr rfl : (("keeps_ends" : PySem.Str), none) ∈ K74.tf)
    have hemp := c.empty _ (List.mem_singleton.mpr rfl : (("keeps_ends" : PySem.Str), none) ∈ K74.tf)
    refine ⟨K, KX, fd, [He.cT K (("keeps_ends" : PySem.Str), none)], K74.spLaw ⟨(PySem.Challenge.rw_blockedshots_k74_whole_half_lists).prog, w, [(He.cT K (("keeps_ends" : PySem.Str), none)).2]⟩ K, fun p hp => ?_, fun p hp => ?_, fun p hp => ?_, ?_, fun H a ns hl _ hT hS => ⟨a, ns, rfl, hl, hS, fun P hP => ?_, fun _ => rfl⟩, fun base KB GB TB => ?_⟩
    · rw [List.mem_singleton.mp hp]; exact hemp
    · rw [List.mem_singleton.mp hp]; exact hout
    · rw [List.mem_singleton.mp hp]; exact codeHd_of_K KX hd
    · exact fun s v => (L2.FunD.bindsA (ps := ["script"]) D fun _ _ _ _ _ _ us hl => match us, hl with | [_], _ => rfl) s [v] rfl
    · rw [List.mem_singleton.mp hP]; exact hT _ (List.mem_singleton.mpr rfl)
    · have t := TB _ (List.mem_singleton.mpr rfl)
      exact K74.law_ok S (List.mem_singleton.mpr rfl) ⟨t.code, t.bm, t.gP⟩ D
end
