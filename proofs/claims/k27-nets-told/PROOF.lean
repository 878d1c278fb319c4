import PyProof.Rows.All
import Wide.All
import OpenK.AllK
import Wide.FinOn
import HandS.ForMost
import HandS.CallSlots
import KE.KeyNested
import KE.KDictWalk
import HandS.Lambda
import HandS.TupAny
import HandS.Flow
import HandS.Deep
import HandS.Zip
import HandS.Style
import HandS.Conv
import HandS.Strs
import HandS.TupSets
import KE.SortUse
import KE.DataMinMax
import HandS.Ends
import PyProof.EqAt
import PyProof.EqKinds
import PyProof.TupleCall
import Open.SpecLaws
import KE.OsGo
import HandS.ForSpec
import KE.SortData
import KE.LtSeq
import HandS.IsInst
import HandS.Small
import HandS.Iter
import HandS.DictComp
import HandS.Dict
import HandS.More
import HandS.Finally
import HandS.DictTup
import KE.KDictCopyH
import KE.KDictSum
import HandS.TupMul
import KE.KDictDisplayH
import HandS.SetFor
import KE.KExcIs
import HandS.HotCalls
import HandS.SetBool
import PyProof.Rows.SeqMore
import HandS.NoneIn
import KE.GoesNew
import KE.KDictPairs
import PyProof.Rows.IntBool
import KE.DataCmp
import KE.KRevSl
import HandS.ExcValue
import KE.KDictLaws
import HandS.DictEq
import HandS.NestedK
import HandS.EndTab
import KE.KEqNest
import KE.LtData
import PySem.Challenge.RW_oldletters_k27_nets_told
set_option Elab.async false
set_option linter.all false
section
set_option maxRecDepth 100000
namespace DL
open PySem PySem.Spec L2
mutual
/-- such a key's hash -/
def nh : NestedKey → Int
  | NestedKey.none => reduceHash 0xFCA86420
  | .num i => hashInt i
  | .text _ => 0
  | .tup ks => reduceHash (Builtin.Tuple.tupleHashOf (nhs ks))
def nhs : List NestedKey → List Int
  | [] => []
  | k :: r => nh k :: nhs r
end
inductive NK (H : Hp) : NestedKey → V → Prop
  | none : NK H .none .non
  | num (i : Int) : NK H (.num i) (.int i)
  | nil {a : Addr} : H a = some (.tup []) → NK H (.tup []) (.ref a)
  | cons {a : Addr} {x : V} {xs : List V} {k : NestedKey} {ks : List NestedKey} : H a = some (.tup (x :: xs)) → (∀ p ∈ (k :: ks).zip (x :: xs), NK H p.1 p.2) → ks.length = xs.length → NK H (.tup (k :: ks)) (.ref a)
theorem NK.tupAt {H : Hp} {ks : List NestedKey} {v : V} (h : NK H (.tup ks) v) : ∃ a xs, v = .ref a ∧ H a = some (.tup xs) ∧ ks.length = xs.length ∧ ∀ p ∈ ks.zip xs, NK H p.1 p.2 := by
  cases h with
  | nil h => exact ⟨_, [], rfl, h, rfl, by simp⟩
  | cons h r l => exact ⟨_, _, rfl, h, by simp [l], r⟩
theorem NK.mk {H : Hp} {a : Addr} {ks : List NestedKey} {xs : List V} (h : H a = some (.tup xs)) (l : ks.length = xs.length) (r : ∀ p ∈ ks.zip xs, NK H p.1 p.2) : NK H (.tup ks) (.ref a) := by
  cases ks with
  | nil => cases xs with
    | nil => exact .nil h
    | cons x xs => simp at l
  | cons k ks => cases xs with
    | nil => simp at l
    | cons x xs => exact .cons h r (by simpa using l)
theorem NK.mono {H H' : Hp} (ht : ∀ b xs, H b = some (.tup xs) → H' b = some (.tup xs)) {k : NestedKey} {v : V} (h : NK H k v) : NK H' k v := by
  induction h with
  | none => exact .none
  | num i => exact .num i
  | nil h => exact .nil (ht _ _ h)
  | cons h r l ih => exact .cons (ht _ _ h) ih l
section
variable {H : Hp} (w : World)
theorem nhs_eq : ∀ {ks : List NestedKey} {xs : List V}, ks.length = xs.length → (∀ p ∈ ks.zip xs, p.1.hash w = nh p.1) → NestedKey.hashes w ks = nhs ks
  | [], _, _, _ => by simp [NestedKey.hashes, nhs]
  | k :: ks, [], l, _ => by simp at l
  | k :: ks, x :: xs, l, h => by
    have h1 := h (k, x) (by simp)
    have h2 := nhs_eq (ks := ks) (xs := xs) (by simpa using l) fun p m => h p (by rw [List.zip_cons_cons]; exact List.mem_cons_of_mem _ m)
    simp only [NestedKey.hashes, nhs, h2]
    rw [show k.hash w = nh k from h1]
theorem NK.hash {k : NestedKey} {v : V} (h : NK H k v) : k.hash w = nh k := by
  induction h with
  | none => simp [NestedKey.hash, nh]
  | num i => simp [NestedKey.hash, nh]
  | nil h => simp [NestedKey.hash, nh, NestedKey.hashes, nhs]
  | @cons a x xs k ks h r l ih =>
    have := nhs_eq w (ks := k :: ks) (xs := x :: xs) (by simp [l]) ih
    simp only [NestedKey.hash, nh, this]
end
section
variable {P : Program} {w : World} {H : Hp} {h : Heap}
theorem nks_at : ∀ {ks : List NestedKey} {xs : List V} {us : List Value}, ks.length = xs.length → Vals xs us → (∀ p ∈ ks.zip xs, ∀ u, RelV p.2 u → NestedIs h p.1 u) → NestedAll h ks us
  | [], [], _, _, .nil, _ => .nil
  | k :: ks, x :: xs, _, l, .cons r t, q => .cons (q (k, x) (by simp) _ r) (nks_at (by simpa using l) t fun p m => q p (by rw [List.zip_cons_cons]; exact List.mem_cons_of_mem _ m))
  | [], _ :: _, _, l, _, _ => by simp at l
  | _ :: _, [], _, l, _, _ => by simp at l
theorem NK.at (ok : HOk P w H h) {k : NestedKey} {v : V} (q : NK H k v) : ∀ {u : Value}, RelV v u → NestedIs h k u := by
  have tup : ∀ {a : Addr} {xs : List V} {ks : List NestedKey}, H a = some (.tup xs) → ks.length = xs.length → (∀ p ∈ ks.zip xs, ∀ u, RelV p.2 u → NestedIs h p.1 u) → NestedIs h (.tup ks) (.ref a) := by
    intro a xs ks e l r
    obtain ⟨_, its, rv, o, ho, hc, n, hd⟩ := (show ObjOk P w H h a (.tup xs) from ok a _ e)
    exact .tup ho hc hd (by simpa using nks_at l rv r)
  induction q with
  | none => intro u r; cases (show u = Value.none from r); exact .none
  | num i => intro u r; obtain ⟨t, rfl⟩ := (show ∃ t, u = Value.int i t from r); exact .int i t
  | nil e => intro u r; cases (show u = Value.ref _ from r); exact tup e rfl (by simp)
  | cons e r l ih => intro u r2; cases (show u = Value.ref _ from r2); exact tup e (by simp [l]) fun p m u ru => ih p m ru
end
abbrev NRow := NestedKey × Addr × V
def NRow.pr (r : NRow) : NestedKey × V := (r.1, r.2.2)
def nEnt (x : NestedKey × Addr × Value) : DictEntry := ⟨nh x.1, .ref x.2.1, x.2.2⟩
abbrev NRel (p : NRow) (q : NestedKey × Addr × Value) : Prop := p.1 = q.1 ∧ p.2.1 = q.2.1 ∧ RelV p.2.2 q.2.2
def NDictO (a : Addr) (rows : List NRow) : HO := .ext fun h => rows.length ≤ sizeLine ∧ (a == sysModules) = false ∧ (rows.map (·.1)).Nodup ∧
  ∃ xs : List (NestedKey × Addr × Value), Paired NRel rows xs ∧ ∃ (o : Obj) (es : Array DictEntry) (ep : Nat), h.get? a = some o ∧ o.ExactDict ∧ o.data = .dict es ep ∧ es.toList = xs.map nEnt
def NKeys (H : Hp) (rows : List NRow) : Prop := ∀ r ∈ rows, NK H r.1 (.ref r.2.1) ∧ r.1.depth ≤ 8
theorem NKeys.mono {H H' : Hp} (ht : ∀ b xs, H b = some (.tup xs) → H' b = some (.tup xs)) {rows : List NRow} (h : NKeys H rows) : NKeys H' rows := fun r m => ⟨(h r m).1.mono ht, (h r m).2⟩
theorem nmem : ∀ {rows : List NRow} {xs : List (NestedKey × Addr × Value)}, Paired NRel rows xs → ∀ x ∈ xs, ∃ r ∈ rows, NRel r x
  | _, _, .nil, x, m => nomatch m
  | _, _, .cons r t, x, m => by
    rcases List.mem_cons.mp m with rfl | m
    · exact ⟨_, List.mem_cons_self, r⟩
    · obtain ⟨r', m', h⟩ := nmem t x m
      exact ⟨r', List.mem_cons_of_mem _ m', h⟩
theorem nkeys_map : ∀ {rows : List NRow} {xs : List (NestedKey × Addr × Value)}, Paired NRel rows xs → rows.map (·.1) = xs.map (·.1)
  | _, _, .nil => rfl
  | _, _, .cons r t => by rw [List.map_cons, List.map_cons, r.1, nkeys_map t]
section
variable {P : Program} {w : World} {H : Hp} {h : Heap} {a : Addr} {rows : List NRow}
theorem nd_obj {H' : Hp} {h' : Heap} (r : rows.length ≤ sizeLine ∧ (a == sysModules) = false ∧ (rows.map (·.1)).Nodup ∧
    ∃ xs : List (NestedKey × Addr × Value), Paired NRel rows xs ∧ ∃ (o : Obj) (es : Array DictEntry) (ep : Nat), h'.get? a = some o ∧ o.ExactDict ∧ o.data = .dict es ep ∧ es.toList = xs.map nEnt) : ObjOk P w H' h' a (NDictO a rows) := by
  refine ⟨r, ?_, ?_⟩
  · obtain ⟨_, _, _, _, _, o, _, _, e, _⟩ := r; exact ⟨o, e⟩
  · intro h1 h2 ⟨z, y, n, xs, p, o, es, ep, e, c⟩ k
    exact ⟨z, y, n, xs, p, o, es, ep, k o e, c⟩
theorem nd_rd (ok : HOk P w H h) (e : Rd H a (NDictO a rows)) (kk : NKeys H rows) : rows.length ≤ sizeLine ∧ (a == sysModules) = false ∧ (rows.map (·.1)).Nodup ∧
    ∃ xs : List (NestedKey × Addr × Value), Paired NRel rows xs ∧ h.DictOfH (nestedKind P w) a xs := by
  obtain ⟨⟨z, y, n, xs, p, o, es, ep, h1, h2, h3, h4⟩, _⟩ := (show ObjOk P w H h a (NDictO a rows) from e.ok ok)
  have all : ∀ x ∈ xs, NK H x.1 (.ref x.2.1) ∧ x.1.depth ≤ 8 := fun x m => by
    obtain ⟨r, mr, e1, e2, _⟩ := nmem p x m
    rw [← e1, ← e2]; exact kk r mr
  refine ⟨z, y, n, xs, p, o, es, ep, h1, h2, h3, ?_, fun x m => ⟨(all x m).1.at ok rfl, (all x m).2⟩, by rw [← nkeys_map p]; exact n⟩
  rw [h4]
  refine List.map_congr_left fun x m => ?_
  show (⟨nh x.1, .ref x.2.1, x.2.2⟩ : DictEntry) = ⟨x.1.hash w, .ref x.2.1, x.2.2⟩
  rw [(all x m).1.hash w]
end
def putN (rows : List NRow) (k : NestedKey) (b : Addr) (v : V) : List NRow := if (rows.map NRow.pr).any (fun kv => decide (kv.1 = k)) then rows.map fun r => if r.1 = k then (r.1, r.2.1, v) else r else rows ++ [(k, b, v)]
theorem putN_pr (rows : List NRow) (k : NestedKey) (b : Addr) (v : V) : (putN rows k b v).map NRow.pr = L2.putK (rows.map NRow.pr) k v := by
  unfold putN L2.putK
  split
  · rw [List.map_map, List.map_map]
    refine List.map_congr_left fun r _ => ?_
    show NRow.pr (if r.1 = k then (r.1, r.2.1, v) else r) = if (NRow.pr r).1 = k then ((NRow.pr r).1, v) else NRow.pr r
    by_cases e : r.1 = k
    · rw [if_pos e, if_pos (show (NRow.pr r).1 = k from e)]; rfl
    · rw [if_neg e, if_neg (show ¬ (NRow.pr r).1 = k from e)]
  · rw [List.map_append]; rfl
theorem putN_keys {H : Hp} {rows : List NRow} {k : NestedKey} {b : Addr} {v : V} (h : NKeys H rows) (q : NK H k (.ref b) ∧ k.depth ≤ 8) : NKeys H (putN rows k b v) := by
  unfold putN
  split
  · intro r m
    obtain ⟨r', m', rfl⟩ := List.mem_map.mp m
    have := h r' m'
    by_cases e : r'.1 = k
    · rw [if_pos e]; exact this
    · rw [if_neg e]; exact this
  · intro r m
    rcases List.mem_append.mp m with m | m
    · exact h r m
    · rw [List.mem_singleton] at m; subst m; exact q
theorem nat_key : ∀ {rows : List NRow} {xs : List (NestedKey × Addr × Value)} (k : NestedKey), Paired NRel rows xs → RelO (valV (rows.map NRow.pr) k) ((atKey xs k).map (·.2))
  | _, _, _, .nil => trivial
  | p :: ps, q :: qs, k, .cons r t => by
    rw [List.map_cons]
    by_cases e : p.1 = k
    · have b : atKey (q :: qs) k = some q.2 := by unfold atKey; rw [List.find?_cons_of_pos (by rw [← r.1]; exact decide_eq_true e)]; rfl
      rw [valV_pos (show (NRow.pr p).1 = k from e), b]; exact r.2.2
    · have b : atKey (q :: qs) k = atKey qs k := by unfold atKey; rw [List.find?_cons_of_neg (by rw [← r.1]; simpa using e)]
      rw [valV_neg (show ¬ (NRow.pr p).1 = k from e), b]; exact nat_key k t
theorem any_at {rows : List NRow} {xs : List (NestedKey × Addr × Value)} (k : NestedKey) (r : Paired NRel rows xs) : (rows.map NRow.pr).any (fun kv => decide (kv.1 = k)) = (atKey xs k).isSome := by
  rw [valV_any, (nat_key k r).isSome_eq, Option.isSome_map]
theorem nrel_put {rows : List NRow} {xs : List (NestedKey × Addr × Value)} {k : NestedKey} {b : Addr} {v : V} {u : Value} (r : Paired NRel rows xs) (rv : RelV v u) : Paired NRel (putN rows k b v) (storedH xs k b u) := by
  unfold putN storedH
  rw [any_at k r]
  have old : ∀ {ps : List NRow} {qs : List (NestedKey × Addr × Value)}, Paired NRel ps qs → Paired NRel (ps.map fun r => if r.1 = k then (r.1, r.2.1, v) else r) (qs.map (putAt k u)) := by
    intro ps qs h
    induction h with
    | nil => exact .nil
    | @cons p q ps qs h t ih =>
      simp only [List.map_cons]
      refine .cons ?_ ih
      unfold putAt
      by_cases e : p.1 = k
      · rw [if_pos e, if_pos (h.1 ▸ e)]; exact ⟨h.1, h.2.1, rv⟩
      · rw [if_neg e, if_neg (fun z => e (h.1.trans z))]; exact h
  split
  · exact old r
  · exact Paired.snoc r ⟨rfl, rfl, rv⟩
theorem putN_len {rows : List NRow} {k : NestedKey} {b : Addr} {v : V} : (putN rows k b v).length ≤ rows.length + 1 := by
  unfold putN
  split
  · rw [List.length_map]; omega
  · rw [List.length_append]; exact Nat.le_refl _
def NGet (H : Hp) (a : Addr) (y : V) (r : Option V) : Prop := ∃ rows k b, Rd H a (NDictO a rows) ∧ NKeys H rows ∧ y = .ref b ∧ NK H k (.ref b) ∧ k.depth ≤ 8 ∧ r = valV (rows.map NRow.pr) k
def NPut (H : Hp) (a : Addr) (y v : V) (H' : Hp) : Prop := ∃ rows k b, H a = some (NDictO a rows) ∧ NKeys H rows ∧ y = .ref b ∧ NK H k (.ref b) ∧ k.depth ≤ 8 ∧ rows.length < sizeLine ∧ H' = upd H a (NDictO a (putN rows k b v))
section
variable {X : Cx} {A : Around} {E : Value → Shared → Prop} {pins : List (Addr × Obj)} {σ : St} {H : Hp} {s : Shared} {a : Addr} {y v : V} {ky r : Value} {o : Option V}
theorem nroom (hu : A.units + 12 < cLine) : (nestedKind X.prog X.w).room A.in1 := by
  show A.in1.units + 8 < cLine
  rw [Around.in1_units]; omega
theorem n_getItem {Q : Value → Shared → Prop} (hu : A.units + 12 < cLine) (I : Inv X pins σ H s) (g : NGet H a y (some v)) (ry : RelV y ky) (h : ∀ w' s', Inv X pins σ H s' → RelV v w' → Q w' s') :
    wpAny (model X.prog X.w) A (getItem (.ref a) ky) Q E s := by
  obtain ⟨rows, k, b, e, kk, rfl, hk, hdp, l⟩ := g
  cases (show ky = .ref b from ry)
  obtain ⟨z, hd, nd, xs, rel, dd⟩ := nd_rd I.hok e kk
  have q := nat_key k rel
  rw [← l] at q
  cases hp : atKey xs k with
  | none => rw [hp] at q; exact (show False from q).elim
  | some p =>
    rw [hp] at q
    exact wpAny_getItem_heap (knd := nestedKind X.prog X.w) (nroom hu) ⟨hk.at I.hok rfl, hdp⟩ dd hp (h _ _ (I.tok _) q)
theorem n_in {Q : Value → Shared → Prop} (hu : A.units + 12 < cLine) (I : Inv X pins σ H s) (g : NGet H a y o) (ry : RelV y ky) (h : ∀ s', Inv X pins σ H s' → Q (.bool o.isSome) s') :
    wpAny (model X.prog X.w) A (compareOp .In ky (.ref a)) Q E s := by
  obtain ⟨rows, k, b, e, kk, rfl, hk, hdp, l⟩ := g
  cases (show ky = .ref b from ry)
  obtain ⟨z, hd, nd, xs, rel, dd⟩ := nd_rd I.hok e kk
  have q := (nat_key k rel).isSome_eq
  rw [Option.isSome_map, ← l] at q
  refine wpAny_in_heap (knd := nestedKind X.prog X.w) (nroom hu) ⟨hk.at I.hok rfl, hdp⟩ hd dd ?_
  rw [← q]
  exact h _ (I.tok _)
theorem n_notIn {Q : Value → Shared → Prop} (hu : A.units + 12 < cLine) (I : Inv X pins σ H s) (g : NGet H a y o) (ry : RelV y ky) (h : ∀ s', Inv X pins σ H s' → Q (.bool (!o.isSome)) s') :
    wpAny (model X.prog X.w) A (compareOp .NotIn ky (.ref a)) Q E s := by
  obtain ⟨rows, k, b, e, kk, rfl, hk, hdp, l⟩ := g
  cases (show ky = .ref b from ry)
  obtain ⟨z, hd, nd, xs, rel, dd⟩ := nd_rd I.hok e kk
  have q := (nat_key k rel).isSome_eq
  rw [Option.isSome_map, ← l] at q
  refine PyProof.Rows.wpAny_notIn_heap (knd := nestedKind X.prog X.w) (nroom hu) ⟨hk.at I.hok rfl, hdp⟩ hd dd ?_
  rw [← q]
  exact h _ (I.tok _)
theorem nd_type (I : Inv X pins σ H s) (g : NGet H a y o) : s.TypeIs (.ref a) "dict" := by
  obtain ⟨rows, k, b, e, kk, _⟩ := g
  obtain ⟨_, _, _, xs, _, dd⟩ := nd_rd I.hok e kk
  exact dd.typeIs
theorem n_setItem {H' : Hp} {Q : Unit → Shared → Prop} (hu : A.units + 12 < cLine) (I : Inv X pins σ H s) (g : NPut H a y v H') (ry : RelV y ky) (rv : RelV v r) (h : ∀ s', Inv X pins σ H' s' → Q () s') :
    wpAny (model X.prog X.w) A (setItem (.ref a) ky r) Q E s := by
  obtain ⟨rows, k, b, e, kk, rfl, hk, hdp, l, rfl⟩ := g
  cases (show ky = .ref b from ry)
  obtain ⟨z, hd, nd, xs, rel, dd⟩ := nd_rd I.hok (.inl e) kk
  have lx : xs.length ≤ sizeLine := by rw [← Paired.length rel]; exact z
  refine wpAny_setItem_heap (hsz := lx) (knd := nestedKind X.prog X.w) (nroom hu) ⟨hk.at I.hok rfl, hdp⟩ dd fun h' dd' hs => h _ ?_
  obtain ⟨o, es, ep, h1, h2, h3, h4, h5, h6⟩ := dd'
  have rel' := nrel_put (k := k) (b := b) rel rv
  have kk' := putN_keys (v := v) kk ⟨hk, hdp⟩
  refine d_write I (by rw [e]; trivial) hs ⟨o, h1⟩ (nd_obj ⟨Nat.le_trans putN_len l, hd, by rw [nkeys_map rel']; exact h6, _, rel', o, es, ep, h1, h2, h3, ?_⟩)
  rw [h4]
  refine List.map_congr_left fun x m => ?_
  obtain ⟨r', mr, e1, e2, _⟩ := nmem rel' x m
  have := (kk' r' mr).1
  rw [e1, e2] at this
  show (⟨x.1.hash X.w, .ref x.2.1, x.2.2⟩ : DictEntry) = ⟨nh x.1, .ref x.2.1, x.2.2⟩
  rw [this.hash X.w]
end
end DL
end
section
set_option maxRecDepth 100000
namespace DL
open PySem PySem.Spec L2
inductive D where
  | non | bl (b : Bool) | int (i : Int) | str (x : Str) | tup (ds : List D) | lst (ds : List D) | dct (t : Bool) (ks vs : List D) | rol (ds : List D) | obj (n : Nat) | opq (v : V) | rdc (t : Bool) (ks vs : List D) | cod (a : Addr) (q : Str)
mutual
def D.beq : D → D → Bool
  | .non, .non => true
  | .bl a, .bl b => decide (a = b)
  | .int a, .int b => decide (a = b)
  | .str a, .str b => decide (a = b)
  | .tup a, .tup b => D.beqs a b
  | .lst a, .lst b => D.beqs a b
  | .rol a, .rol b => D.beqs a b
  | .dct t a c, .dct u b d => decide (t = u) && (D.beqs a b && D.beqs c d)
  | .obj a, .obj b => decide (a = b)
  | .opq a, .opq b => decide (a = b)
  | .rdc t a c, .rdc u b d => decide (t = u) && (D.beqs a b && D.beqs c d)
  | .cod a q, .cod b r => decide (a = b) && decide (q = r)
  | _, _ => false
def D.beqs : List D → List D → Bool
  | [], [] => true
  | a :: r, b :: s => D.beq a b && D.beqs r s
  | _, _ => false
end
mutual
theorem D.beq_of : ∀ a b : D, D.beq a b = true → a = b
  | .non, b, h => by cases b <;> simp [D.beq] at h ⊢
  | .bl a, b, h => by cases b <;> simp [D.beq] at h ⊢; exact h
  | .int a, b, h => by cases b <;> simp [D.beq] at h ⊢; exact h
  | .str a, b, h => by cases b <;> simp [D.beq] at h ⊢; exact h
  | .tup a, b, h => by cases b <;> simp [D.beq] at h ⊢; exact D.beqs_of _ _ h
  | .lst a, b, h => by cases b <;> simp [D.beq] at h ⊢; exact D.beqs_of _ _ h
  | .rol a, b, h => by cases b <;> simp [D.beq] at h ⊢; exact D.beqs_of _ _ h
  | .dct t a c, b, h => by cases b <;> simp [D.beq] at h ⊢; exact ⟨h.1, D.beqs_of _ _ h.2.1, D.beqs_of _ _ h.2.2⟩
  | .obj a, b, h => by cases b <;> simp [D.beq] at h ⊢; exact h
  | .opq a, b, h => by cases b <;> simp [D.beq] at h ⊢; exact h
  | .rdc t a c, b, h => by cases b <;> simp [D.beq] at h ⊢; exact ⟨h.1, D.beqs_of _ _ h.2.1, D.beqs_of _ _ h.2.2⟩
  | .cod a q, b, h => by cases b <;> simp [D.beq] at h ⊢; exact h
theorem D.beqs_of : ∀ a b : List D, D.beqs a b = true → a = b
  | [], b, h => by cases b <;> simp [D.beqs] at h ⊢
  | a :: r, b, h => by
    cases b with
    | nil => simp [D.beqs] at h
    | cons b s => simp [D.beqs] at h; rw [D.beq_of a b h.1, D.beqs_of r s h.2]
end
mutual
theorem D.beq_refl : ∀ a : D, D.beq a a = true
  | .non => by simp [D.beq]
  | .bl a => by simp [D.beq]
  | .int a => by simp [D.beq]
  | .str a => by simp [D.beq]
  | .tup a => by simp [D.beq, D.beqs_refl a]
  | .lst a => by simp [D.beq, D.beqs_refl a]
  | .rol a => by simp [D.beq, D.beqs_refl a]
  | .dct t a c => by simp [D.beq, D.beqs_refl a, D.beqs_refl c]
  | .obj a => by simp [D.beq]
  | .opq a => by simp [D.beq]
  | .rdc t a c => by simp [D.beq, D.beqs_refl a, D.beqs_refl c]
  | .cod a q => by simp [D.beq]
theorem D.beqs_refl : ∀ a : List D, D.beqs a a = true
  | [] => by simp [D.beqs]
  | a :: r => by simp [D.beqs, D.beq_refl a, D.beqs_refl r]
end
instance : DecidableEq D := fun a b => if h : D.beq a b = true then isTrue (D.beq_of a b h) else isFalse fun e => h (e ▸ D.beq_refl a)
mutual
/-- nothing in it can change -/
def D.imm : D → Bool
  | .tup ds => D.imms ds
  | .lst _ => false
  | .dct _ _ _ => false
  | .rol ds => D.imms ds
  | .rdc _ _ vs => D.imms vs
  | _ => true
def D.imms : List D → Bool
  | [] => true
  | d :: r => d.imm && D.imms r
end
structure Gh where
  bad : Addr → Prop
  om : List Addr
def kD : Key → D
  | .inl i => .int i
  | .inr x => .str x
mutual
/-- a key of tuples, as data -/
def kN : NestedKey → D
  | .none => .non
  | .num i => .int i
  | .text x => .str x
  | .tup ks => .tup (kNs ks)
def kNs : List NestedKey → List D
  | [] => []
  | k :: r => kN k :: kNs r
end
inductive DcAt (H : Hp) (a : Addr) : HO → Bool → List D → List V → Prop
  | dK (kvs : List (Key × V)) : DcAt H a (.dK kvs) false (kvs.map fun p => kD p.1) (kvs.map (·.2))
  | dN (rows : List NRow) : NKeys H rows → DcAt H a (NDictO a rows) true ((rows.map NRow.pr).map fun p => kN p.1) ((rows.map NRow.pr).map (·.2))
theorem DcAt.mono {H H' : Hp} {a : Addr} {o : HO} {t : Bool} {ks : List D} {ws : List V} (ht : ∀ b xs, H b = some (.tup xs) → H' b = some (.tup xs)) (c : DcAt H a o t ks ws) : DcAt H' a o t ks ws := by
  cases c with
  | dK kvs => exact .dK kvs
  | dN rows k => exact .dN rows (k.mono ht)
def codeHp (n : Nat) (q : Str) : Heap := ⟨Array.replicate n ⟨.none, none, .fields #[.none, .str q 0], #[]⟩, {}⟩
theorem codeHp_at {n : Nat} {q : Str} {a : Addr} {o : Obj} (e : (codeHp n q).get? a = some o) : o.data = .fields #[.none, .str q 0] := by
  have e : (match (Array.replicate n (⟨.none, none, .fields #[.none, .str q 0], #[]⟩ : Obj))[a]? with | some ⟨_, _, .freed, _⟩ => none | x => x) = some o := e
  by_cases hb : a < n
  · rw [Array.getElem?_replicate, if_pos hb] at e
    rw [← Option.some.inj e]
  · rw [Array.getElem?_replicate, if_neg hb] at e
    cases e
def Mut : Option HO → Prop
  | some (.lst _) => True
  | some (.dK _) => True
  | some (.tbl _) => True
  | some (.ext P) => ∀ n q, ¬ P (codeHp n q)
  | _ => False
theorem mut_dN {a : Addr} {rows : List NRow} : Mut (some (NDictO a rows)) := fun n q h => by
  obtain ⟨_, _, _, _, _, ob, es, ep, e1, _, e2, _⟩ := h
  rw [codeHp_at e1] at e2
  cases e2
theorem code_not {c : Addr} {q : Str} : ¬ Mut (some (LamX.CodeO c q)) := fun m => by
  refine m (c + 1) q ⟨⟨.none, none, .fields #[.none, .str q 0], #[]⟩, _, 0, ?_, rfl, rfl⟩
  show (match (Array.replicate (c + 1) (⟨.none, none, .fields #[.none, .str q 0], #[]⟩ : Obj))[c]? with | some ⟨_, _, .freed, _⟩ => none | x => x) = _
  rw [Array.getElem?_replicate, if_pos (Nat.lt_succ_self c)]
def RoL (K : PySem.W.Frag) (H : Hp) (a : Addr) (xs : List V) : Prop :=
  (∃ o, H a = some (.frz o (.lst xs))) ∨
    ∃ (o : Obj) (its : Array Value) (n : Nat),
      K.lookup a = some o ∧
        o.cls = .type "list" ∧
          o.dict = none ∧ o.data = .seq its n ∧
            its.size ≤ sizeLine ∧ Vals xs its.toList
theorem RoL.sq {K : PySem.W.Frag} {H : Hp} {a : Addr} {xs : List V} (h : RoL K H a xs) : SqL K H a xs := by
  rcases h with ⟨o, h⟩ | h
  · exact .inl (.inr ⟨o, h⟩)
  · exact .inr h
mutual
inductive Rp (K : PySem.W.Frag) (H : Hp) (g : Gh) : V → D → Prop
  | non : Rp K H g .non .non
  | bl (b : Bool) : Rp K H g (.bl b) (.bl b)
  | int (i : Int) : Rp K H g (.int i) (.int i)
  | str (x : Str) : Rp K H g (.str x) (.str x)
  | tup {a : Addr} {xs : List V} {ds : List D} : H a = some (.tup xs) → RpA K H g xs ds → Rp K H g (.ref a) (.tup ds)
  | lst {a : Addr} {xs : List V} {ds : List D} : H a = some (.lst xs) → ¬ g.bad a → RpA K H g xs ds → Rp K H g (.ref a) (.lst ds)
  | dct {a : Addr} {o : HO} {t : Bool} {ks vs : List D} {ws : List V} : H a = some o → DcAt H a o t ks ws → ¬ g.bad a → RpA K H g ws vs → Rp K H g (.ref a) (.dct t ks vs)
  | rol {a : Addr} {xs : List V} {ds : List D} : RoL K H a xs → RpA K H g xs ds → Rp K H g (.ref a) (.rol ds)
  | obj {a : Addr} {n : Nat} : g.om[n]? = some a → Rp K H g (.ref a) (.obj n)
  | opq (v : V) : Rp K H g v (.opq v)
  | rdc {a : Addr} {o : Obj} {u : HO} {t : Bool} {ks vs : List D} {ws : List V} : H a = some (.frz o u) → DcAt H a u t ks ws → RpA K H g ws vs → Rp K H g (.ref a) (.rdc t ks vs)
  | cod (a : Addr) (q : Str) : Rp K H g (.ref a) (.cod a q)
inductive RpA (K : PySem.W.Frag) (H : Hp) (g : Gh) : List V → List D → Prop
  | nil : RpA K H g [] []
  | cons {v : V} {vs : List V} {d : D} {ds : List D} : Rp K H g v d → RpA K H g vs ds → RpA K H g (v :: vs) (d :: ds)
end
structure Fr (H : Hp) (g : Gh) (H' : Hp) (g' : Gh) : Prop where
  keep : ∀ a o, H a = some o → ¬ g.bad a → H' a = some o ∧ ¬ g'.bad a
  om : g.om <+: g'.om
def Mu (H : Hp) (g : Gh) : Prop := ∀ a, g.bad a → Mut (H a)
section
variable {K : PySem.W.Frag} {H H' H1 H2 : Hp} {g g' g1 g2 : Gh}
theorem Fr.refl (H : Hp) (g : Gh) : Fr H g H g := ⟨fun _ _ h n => ⟨h, n⟩, List.prefix_rfl⟩
theorem Fr.trans (a : Fr H g H1 g1) (b : Fr H1 g1 H2 g2) : Fr H g H2 g2 :=
  ⟨fun c o h n => let ⟨h1, n1⟩ := a.keep c o h n; b.keep c o h1 n1, a.om.trans b.om⟩
theorem Fr.less (hb : ∀ a, g'.bad a → g.bad a) (ho : g.om = g'.om) : Fr H g H g' := ⟨fun _ _ h n => ⟨h, fun z => n (hb _ z)⟩, ho ▸ List.prefix_rfl⟩
theorem pre_get {α : Type} {l m : List α} {n : Nat} {a : α} (h : l <+: m) (e : l[n]? = some a) : m[n]? = some a := by
  obtain ⟨t, rfl⟩ := h
  have hl : n < l.length := (List.getElem?_eq_some_iff.mp e).1
  rw [List.getElem?_append_left hl]; exact e
theorem Fr.tup (f : Fr H g H' g') (m : Mu H g) {a : Addr} {xs : List V} (h : H a = some (.tup xs)) : H' a = some (.tup xs) :=
  (f.keep _ _ h fun z => by have := m _ z; rw [h] at this; exact this).1
theorem Fr.rol (f : Fr H g H' g') (m : Mu H g) {a : Addr} {xs : List V} (h : RoL K H a xs) : RoL K H' a xs := by
  rcases h with ⟨o, h⟩ | h
  · exact .inl ⟨o, (f.keep _ _ h fun z => by have := m _ z; rw [h] at this; exact this).1⟩
  · exact .inr h
theorem Fr.frz (f : Fr H g H' g') (m : Mu H g) {a : Addr} {o : Obj} {u : HO} (h : H a = some (.frz o u)) : H' a = some (.frz o u) :=
  (f.keep _ _ h fun z => by have := m _ z; rw [h] at this; exact this).1
mutual
theorem Rp.fr (f : Fr H g H' g') (m : Mu H g) {v : V} : ∀ {d : D}, Rp K H g v d → Rp K H' g' v d
  | _, .non => .non
  | _, .bl b => .bl b
  | _, .int b => .int b
  | _, .str b => .str b
  | _, .tup h r => .tup (f.tup m h) (RpA.fr f m r)
  | _, .lst h n r => .lst (f.keep _ _ h n).1 (f.keep _ _ h n).2 (RpA.fr f m r)
  | _, .dct h c n r => .dct (f.keep _ _ h n).1 (c.mono fun _ _ q => f.tup m q) (f.keep _ _ h n).2 (RpA.fr f m r)
  | _, .rol h r => .rol (f.rol m h) (RpA.fr f m r)
  | _, .obj h => .obj (pre_get f.om h)
  | _, .opq v => .opq v
  | _, .rdc h c r => .rdc (f.frz m h) (c.mono fun _ _ q => f.tup m q) (RpA.fr f m r)
  | _, .cod a q => .cod a q
theorem RpA.fr (f : Fr H g H' g') (m : Mu H g) {vs : List V} : ∀ {ds : List D}, RpA K H g vs ds → RpA K H' g' vs ds
  | _, .nil => .nil
  | _, .cons h r => .cons (Rp.fr f m h) (RpA.fr f m r)
end
mutual
/-- data in which nothing can change does not ask what is written to -/
theorem Rp.im (ho : g.om <+: g'.om) {v : V} : ∀ {d : D}, Rp K H g v d → d.imm = true → Rp K H g' v d
  | _, .non, _ => .non
  | _, .bl b, _ => .bl b
  | _, .int b, _ => .int b
  | _, .str b, _ => .str b
  | _, .tup h r, i => .tup h (RpA.im ho r (by simpa [D.imm] using i))
  | _, .lst h n r, i => by simp [D.imm] at i
  | _, .dct h c n r, i => by simp [D.imm] at i
  | _, .rol h r, i => .rol h (RpA.im ho r (by simpa [D.imm] using i))
  | _, .obj h, _ => .obj (pre_get ho h)
  | _, .opq v, _ => .opq v
  | _, .rdc h c r, i => .rdc h c (RpA.im ho r (by simpa [D.imm] using i))
  | _, .cod a q, _ => .cod a q
theorem RpA.im (ho : g.om <+: g'.om) {vs : List V} : ∀ {ds : List D}, RpA K H g vs ds → D.imms ds = true → RpA K H g' vs ds
  | _, .nil, _ => .nil
  | _, .cons h r, i => by
    simp [D.imms] at i
    exact .cons (Rp.im ho h i.1) (RpA.im ho r i.2)
end
theorem RpA.length : ∀ {vs : List V} {ds : List D}, RpA K H g vs ds → vs.length = ds.length
  | _, _, .nil => rfl
  | _, _, .cons _ r => congrArg Nat.succ (RpA.length r)
theorem RpA.get : ∀ {vs : List V} {ds : List D} {i : Nat} {d : D}, RpA K H g vs ds → ds[i]? = some d → ∃ v, vs[i]? = some v ∧ Rp K H g v d
  | _, _, _, _, .nil, e => by simp at e
  | _, _, 0, _, .cons r _, e => by simp at e; subst e; exact ⟨_, rfl, r⟩
  | _, _, i + 1, d, .cons _ t, e => by
    obtain ⟨u, h1, h2⟩ := RpA.get (i := i) (d := d) t (by simpa using e)
    exact ⟨u, by simpa using h1, h2⟩
theorem RpA.append : ∀ {vs ws : List V} {ds es : List D}, RpA K H g vs ds → RpA K H g ws es → RpA K H g (vs ++ ws) (ds ++ es)
  | _, _, _, _, .nil, s => s
  | _, _, _, _, .cons r t, s => .cons r (RpA.append t s)
theorem RpA.take : ∀ {vs : List V} {ds : List D} (n : Nat), RpA K H g vs ds → RpA K H g (vs.take n) (ds.take n)
  | _, _, 0, _ => .nil
  | _, _, _ + 1, .nil => .nil
  | _, _, n + 1, .cons r t => .cons r (RpA.take n t)
theorem RpA.drop : ∀ {vs : List V} {ds : List D} (n : Nat), RpA K H g vs ds → RpA K H g (vs.drop n) (ds.drop n)
  | _, _, 0, r => r
  | _, _, _ + 1, .nil => .nil
  | _, _, n + 1, .cons _ t => RpA.drop n t
theorem RpA.set {v : V} {d : D} (q : Rp K H g v d) : ∀ {vs : List V} {ds : List D} (n : Nat), RpA K H g vs ds → RpA K H g (vs.set n v) (ds.set n d)
  | _, _, _, .nil => .nil
  | _, _, 0, .cons r t => .cons q t
  | _, _, n + 1, .cons r t => .cons r (RpA.set q n t)
theorem RpA.dropLast : ∀ {vs : List V} {ds : List D}, RpA K H g vs ds → RpA K H g vs.dropLast ds.dropLast
  | _, _, .nil => .nil
  | _, _, .cons _ .nil => .nil
  | _, _, .cons r (.cons s t) => .cons r (RpA.dropLast (.cons s t))
end
inductive Root (K : PySem.W.Frag) (H : Hp) (g : Gh) (a : Addr) : D → Prop
  | lst {xs : List V} {ds : List D} : H a = some (.lst xs) → RpA K H g xs ds → Root K H g a (.lst ds)
  | dct {o : HO} {t : Bool} {ks vs : List D} {ws : List V} : H a = some o → DcAt H a o t ks ws → RpA K H g ws vs → Root K H g a (.dct t ks vs)
  | tab {q : Str} : LamX.TabS H a q → Root K H g a (.cod a q)
def D.parts : D → List D
  | .lst ds => ds
  | .dct _ _ vs => vs
  | _ => []
section
variable {K : PySem.W.Frag} {H H' H1 H2 : Hp} {g g' g1 g2 : Gh} {a : Addr} {d : D}
theorem Root.fr (f : Fr H g H' g') (m : Mu H g) (e : H' a = H a) (r : Root K H g a d) : Root K H' g' a d := by
  cases r with
  | lst h r => exact .lst (e.trans h) (r.fr f m)
  | dct h c r => exact .dct (e.trans h) (c.mono fun _ _ q => f.tup m q) (r.fr f m)
  | tab h =>
    obtain ⟨ps, h1, h2, h3⟩ := h
    refine .tab ⟨ps, e.trans h1, h2, fun pos cv hc => ?_⟩
    obtain ⟨c, e1, e2⟩ := h3 pos cv hc
    exact ⟨c, e1, (f.keep _ _ e2 fun z => by have := m _ z; rw [e2] at this; exact code_not this).1⟩
theorem Root.rp (r : Root K H g a d) (hb : ¬ g.bad a) : Rp K H g (.ref a) d := by
  cases r with
  | lst h r => exact .lst h hb r
  | dct h c r => exact .dct h c hb r
  | tab h => exact .cod _ _
theorem Root.im (ho : g.om <+: g'.om) (r : Root K H g a d) (i : D.imms d.parts = true) : Root K H g' a d := by
  cases r with
  | lst h r => exact .lst h (r.im ho i)
  | dct h c r => exact .dct h c (r.im ho i)
  | tab h => exact .tab h
theorem Root.there (r : Root K H g a d) : H a ≠ none := by
  cases r with
  | lst h r => rw [h]; simp
  | dct h c r => rw [h]; simp
  | tab h => obtain ⟨ps, h1, _⟩ := h; rw [h1]; simp
theorem Root.mut (r : Root K H g a d) : Mut (H a) := by
  cases r with
  | lst h r => rw [h]; trivial
  | dct h c r =>
    rw [h]
    cases c with
    | dK kvs => trivial
    | dN rows k => exact mut_dN
  | tab h => obtain ⟨ps, h1, _⟩ := h; rw [h1]; trivial
end
inductive Slot where
  | un | dat (d : D) | own (d : D)
  deriving DecidableEq
structure Sx where
  env : List Slot
  objs : List D
inductive Res where
  | dat (d : D) | new (d : D) | own (i : Nat) (d : D)
  deriving DecidableEq
def Res.d : Res → D
  | .dat d => d
  | .new d => d
  | .own _ d => d
structure Exn where
  cls : Str
  fs : Option (List (Str × D))
def M (α : Type) : Type := Sx → Option (Except Exn α × Sx)
def M.ret {α : Type} (a : α) : M α := fun s => some (.ok a, s)
def M.bnd {α β : Type} (f : M α) (k : α → M β) : M β := fun s => match f s with
  | none => none
  | some (.error x, s') => some (.error x, s')
  | some (.ok a, s') => k a s'
instance : Monad M where
  pure := M.ret
  bind := M.bnd
def M.no {α : Type} : M α := fun _ => none
theorem bind_ok {α β : Type} {f : M α} {k : α → M β} {s s' : Sx} {a : α} (h : f s = some (.ok a, s')) : (f >>= k) s = k a s' := by
  show M.bnd f k s = _
  unfold M.bnd
  rw [h]
structure Zx where
  H0 : Hp
  bad0 : Addr → Prop
  om0 : List Addr
  W : WX
structure SR (K : PySem.W.Frag) (z : Zx) (S : Sx) (σ : St) (H : Hp) (g : Gh) : Prop where
  len : S.env.length = σ.length
  dat : ∀ (i : Nat) (d : D), S.env[i]? = some (.dat d) → ∃ v, σ[i]? = some (some v) ∧ Rp K H g v d
  own : ∀ (i : Nat) (d : D), S.env[i]? = some (.own d) → ∃ a, σ[i]? = some (some (.ref a)) ∧ g.bad a ∧ Root K H g a d ∧ z.H0 a = none ∧ a ∉ g.om
  inj : ∀ (i j : Nat) (d e : D) (a : Addr), S.env[i]? = some (.own d) → S.env[j]? = some (.own e) → σ[i]? = some (some (.ref a)) → σ[j]? = some (some (.ref a)) → i = j
  olen : S.objs.length = g.om.length
  obj : ∀ (n : Nat) (a : Addr) (d : D), g.om[n]? = some a → S.objs[n]? = some d → Root K H g a d ∧ g.bad a
  ond : g.om.Nodup
  mu : Mu H g
  base : ∀ a, z.bad0 a → g.bad a
  b0 : ∀ a, z.bad0 a → z.H0 a ≠ none
  keep : ∀ a o, z.H0 a = some o → a ∉ g.om → H a = some o
  on : ∀ a, a ∈ g.om → a ∈ z.om0 ∨ z.H0 a = none
def ResOk (K : PySem.W.Frag) (z : Zx) (S : Sx) (σ : St) (H : Hp) (g : Gh) (v : V) : Res → Prop
  | .dat d => Rp K H g v d
  | .new d => ∃ a, v = .ref a ∧ g.bad a ∧ Root K H g a d ∧ z.H0 a = none ∧ a ∉ g.om ∧ ∀ (i : Nat) (e : D), S.env[i]? = some (.own e) → σ[i]? ≠ some (some (.ref a))
  | .own i d => S.env[i]? = some (.own d) ∧ σ[i]? = some (some v)
def ExnOk (K : PySem.W.Frag) (mg : Str → Option Value) (H : Hp) (g : Gh) (cls : Value) (dx : Option Addr) (x : Exn) : Prop :=
  mg x.cls = some cls ∧ match x.fs with
    | none => dx = none
    | some fs => ∃ a vs, dx = some a ∧ H a = some (.xd vs) ∧ vs.map (·.1) = fs.map (·.1) ∧ RpA K H g (vs.map (·.2)) (fs.map (·.2))
section
variable {K : PySem.W.Frag} {mg : Str → Option Value} {z : Zx} {S S' : Sx} {σ : St} {H H' : Hp} {g g' : Gh}
def Go (K : PySem.W.Frag) (mg : Str → Option Value) (z : Zx) {α : Type} (f : M α) (S : Sx) (σ : St) (H : Hp) (g : Gh) (P : α → Sx → Hp → Gh → Prop) : Prop :=
  match f S with
  | none => False
  | some (.ok r, S') => ∀ H' g', SR K z S' σ H' g' → Fr H g H' g' → P r S' H' g'
  | some (.error x, S') => ∀ cls dx H' g', SR K z S' σ H' g' → Fr H g H' g' → ExnOk K mg H' g' cls dx x → z.W cls dx σ H'
theorem Go.ok {α : Type} {f : M α} {r : α} {P : α → Sx → Hp → Gh → Prop} (e : f S = some (.ok r, S')) (h : Go K mg z f S σ H g P) (s : SR K z S' σ H' g') (f : Fr H g H' g') : P r S' H' g' := by
  unfold Go at h
  rw [e] at h
  exact h H' g' s f
theorem Go.pure {α : Type} {r : α} {P : α → Sx → Hp → Gh → Prop} (h : Go K mg z (pure r) S σ H g P) (s : SR K z S σ H g) : P r S H g := Go.ok rfl h s (Fr.refl _ _)
theorem Go.bnd {α β : Type} {f : M α} {k : α → M β} {P : β → Sx → Hp → Gh → Prop} (h : Go K mg z (f >>= k) S σ H g P) :
    Go K mg z f S σ H g fun r S1 H1 g1 => Go K mg z (k r) S1 σ H1 g1 P := by
  have e : (f >>= k) S = M.bnd f k S := rfl
  unfold Go at h ⊢
  rw [e] at h
  unfold M.bnd at h
  cases hf : f S with
  | none => rw [hf] at h; exact h
  | some p =>
    obtain ⟨r, S1⟩ := p
    rw [hf] at h
    cases r with
    | error x => exact h
    | ok a =>
      intro H1 g1 s1 f1
      show Go K mg z (k a) S1 σ H1 g1 P
      unfold Go
      revert h
      show (match k a S1 with
        | none => False
        | some (.ok r, S') => ∀ H' g', SR K z S' σ H' g' → Fr H g H' g' → P r S' H' g'
        | some (.error x, S') => ∀ cls dx H' g', SR K z S' σ H' g' → Fr H g H' g' → ExnOk K mg H' g' cls dx x → z.W cls dx σ H') → _
      cases k a S1 with
      | none => exact id
      | some q =>
        obtain ⟨r2, S2⟩ := q
        cases r2 with
        | error x => exact fun h cls dx H2 g2 s2 f2 => h cls dx H2 g2 s2 (f1.trans f2)
        | ok b => exact fun h H2 g2 s2 f2 => h H2 g2 s2 (f1.trans f2)
theorem Go.imp {α : Type} {f : M α} {P Q : α → Sx → Hp → Gh → Prop} (h : Go K mg z f S σ H g P) (hp : ∀ r S' H' g', SR K z S' σ H' g' → Fr H g H' g' → P r S' H' g' → Q r S' H' g') : Go K mg z f S σ H g Q := by
  unfold Go at h ⊢
  cases hf : f S with
  | none => rw [hf] at h; exact h
  | some p =>
    obtain ⟨r, S1⟩ := p
    rw [hf] at h
    cases r with
    | error x => exact h
    | ok a => exact fun H' g' s f => hp _ _ _ _ s f (h H' g' s f)
end
def tD (K : PySem.W.Frag) (mg : Str → Option Value) (z : Zx) (f : M Res) : TE := fun σ H Q => ∃ S g, SR K z S σ H g ∧ Go K mg z f S σ H g fun r S' H' g' => ∀ v, ResOk K z S' σ H' g' v r → Q v H'
def tT (K : PySem.W.Frag) (mg : Str → Option Value) (z : Zx) (f : M Bool) : TT := fun σ H Q => ∃ S g, SR K z S σ H g ∧ Go K mg z f S σ H g fun b _ H' _ => Q b H'
def tA (K : PySem.W.Frag) (mg : Str → Option Value) (z : Zx) (f : M (List Res)) : TA := fun σ H Q => ∃ S g, SR K z S σ H g ∧ Go K mg z f S σ H g fun rs S' H' g' => ∀ vs, Paired (ResOk K z S' σ H' g') vs rs → Q vs H'
inductive Fl where
  | next | brk | cont | ret (r : Res)
def GoS (K : PySem.W.Frag) (mg : Str → Option Value) (z : Zx) (f : M Fl) (S : Sx) (σ : St) (H : Hp) (g : Gh) (D : Ends) : Prop :=
  match f S with
  | none => False
  | some (.ok .next, S') => ∀ σ' H' g', SR K z S' σ' H' g' → Fr H g H' g' → D.nx σ' H'
  | some (.ok .brk, S') => ∀ σ' H' g', SR K z S' σ' H' g' → Fr H g H' g' → D.bk σ' H'
  | some (.ok .cont, S') => ∀ σ' H' g', SR K z S' σ' H' g' → Fr H g H' g' → D.ct σ' H'
  | some (.ok (.ret r), S') => ∀ σ' H' g' v, SR K z S' σ' H' g' → Fr H g H' g' → ResOk K z S' σ' H' g' v r → D.rt v H'
  | some (.error x, S') => ∀ cls dx σ' H' g', SR K z S' σ' H' g' → Fr H g H' g' → ExnOk K mg H' g' cls dx x → z.W cls dx σ' H'
def tS (K : PySem.W.Frag) (mg : Str → Option Value) (z : Zx) (f : M Fl) : TS := fun D σ H => ∃ S g, SR K z S σ H g ∧ GoS K mg z f S σ H g D
abbrev DE (X : Cx) (z : Zx) (e : Expr) (f : M Res) : Prop := PE X e (tD X.K X.mg z f)
abbrev DT (X : Cx) (z : Zx) (e : Expr) (f : M Bool) : Prop := PT X e (tT X.K X.mg z f)
abbrev DA (X : Cx) (z : Zx) (es : List Expr) (f : M (List Res)) : Prop := PA X es (tA X.K X.mg z f)
abbrev DS (X : Cx) (z : Zx) (st : Stmt) (f : M Fl) : Prop := PS X st (tS X.K X.mg z f)
abbrev DB (X : Cx) (z : Zx) (sts : List Stmt) (f : M Fl) : Prop := PSs X sts (tS X.K X.mg z f)
theorem PE.imp {X : Cx} {e : Expr} {t u : TE} (p : PE X e t) (h : ∀ σ H Q, u σ H Q → t σ H Q) : PE X e u := ⟨fun pins s σ H Q I q => p.run pins s σ H Q I (h σ H Q q)⟩
theorem PT.imp {X : Cx} {e : Expr} {t u : TT} (p : PT X e t) (h : ∀ σ H Q, u σ H Q → t σ H Q) : PT X e u := ⟨fun pins s σ H Q I q => p.run pins s σ H Q I (h σ H Q q)⟩
theorem PA.imp {X : Cx} {e : List Expr} {t u : TA} (p : PA X e t) (h : ∀ σ H Q, u σ H Q → t σ H Q) : PA X e u := ⟨fun pos pins s σ H Q I q => p.run pos pins s σ H Q I (h σ H Q q)⟩
theorem PS.imp {X : Cx} {st : Stmt} {t u : TS} (p : PS X st t) (h : ∀ D σ H, u D σ H → t D σ H) : PS X st u := ⟨fun pins s σ H D I q => p.run pins s σ H D I (h D σ H q)⟩
theorem PSs.imp {X : Cx} {st : List Stmt} {t u : TS} (p : PSs X st t) (h : ∀ D σ H, u D σ H → t D σ H) : PSs X st u := ⟨fun pins s σ H D I q => p.run pins s σ H D I (h D σ H q)⟩
end DL
end
section
set_option maxRecDepth 100000
namespace DL
open PySem PySem.Spec L2
def Gh.add (g : Gh) (a : Addr) : Gh := ⟨fun b => g.bad b ∨ b = a, g.om⟩
def Gh.del (g : Gh) (a : Addr) : Gh := ⟨fun b => g.bad b ∧ b ≠ a, g.om⟩
section
variable {K : PySem.W.Frag} {mg : Str → Option Value} {z : Zx} {S S' : Sx} {σ : L2.St} {H H' : Hp} {g g' : Gh} {v : V} {d : D} {a : Addr} {r : Res}
theorem Fr.upd_new {o : HO} (hp : H a = none) : Fr H g (upd H a o) g :=
  ⟨fun b u h n => ⟨by rw [upd_ne (ne_of_none h hp)]; exact h, n⟩, List.prefix_rfl⟩
theorem Fr.upd_add {o : HO} (hp : H a = none) : Fr H g (upd H a o) (g.add a) :=
  ⟨fun b u h n => ⟨by rw [upd_ne (ne_of_none h hp)]; exact h, fun q => q.elim n (ne_of_none h hp)⟩, List.prefix_rfl⟩
theorem Fr.del : Fr H g H (g.del a) := Fr.less (fun _ q => q.1) rfl
theorem SR.om_there (s : SR K z S σ H g) (h : a ∈ g.om) : H a ≠ none := by
  obtain ⟨n, hn⟩ := List.mem_iff_getElem?.mp h
  have hl : n < S.objs.length := by rw [s.olen]; exact (List.getElem?_eq_some_iff.mp hn).1
  exact (s.obj n a _ hn (List.getElem?_eq_getElem hl)).1.there
theorem SR.own_there (s : SR K z S σ H g) {i : Nat} (h : S.env[i]? = some (.own d)) (e : σ[i]? = some (some (.ref a))) : H a ≠ none := by
  obtain ⟨b, e1, _, r, _⟩ := s.own i d h
  rw [e] at e1; cases e1
  exact r.there
theorem SR.fresh0 (s : SR K z S σ H g) (h : H a = none) : z.H0 a = none := by
  cases q : z.H0 a with
  | none => rfl
  | some o =>
    by_cases hm : a ∈ g.om
    · exact absurd h (s.om_there hm)
    · rw [s.keep a o q hm] at h; cases h
theorem SR.upd_new {o : HO} (s : SR K z S σ H g) (hp : H a = none) : SR K z S σ (upd H a o) g where
  len := s.len
  dat := fun i d e => let ⟨v, e1, r⟩ := s.dat i d e; ⟨v, e1, r.fr (Fr.upd_new hp) s.mu⟩
  own := fun i d e => let ⟨b, e1, hb, r, h0, ho⟩ := s.own i d e; ⟨b, e1, hb, r.fr (Fr.upd_new hp) s.mu (upd_ne fun q => r.there (q ▸ hp)), h0, ho⟩
  inj := s.inj
  olen := s.olen
  obj := fun n b d e1 e2 => let ⟨r, hb⟩ := s.obj n b d e1 e2; ⟨r.fr (Fr.upd_new hp) s.mu (upd_ne fun q => r.there (q ▸ hp)), hb⟩
  ond := s.ond
  mu := fun b hb => by
    have := s.mu b hb
    by_cases q : b = a
    · subst q; rw [hp] at this; exact this.elim
    · rw [upd_ne q]; exact this
  base := s.base
  b0 := s.b0
  keep := fun b u h0 hm => by
    have := s.keep b u h0 hm
    rw [upd_ne (ne_of_none this hp)]; exact this
  on := s.on
theorem SR.add (s : SR K z S σ H g) (hm : Mut (H a)) (hf : ∀ b d, Rp K H g (.ref b) d → True) (h0 : z.H0 a = none) (hn : Fr H g H (g.add a)) : SR K z S σ H (g.add a) where
  len := s.len
  dat := fun i d e => let ⟨v, e1, r⟩ := s.dat i d e; ⟨v, e1, r.fr hn s.mu⟩
  own := fun i d e => let ⟨b, e1, hb, r, h0, ho⟩ := s.own i d e; ⟨b, e1, .inl hb, r.fr hn s.mu rfl, h0, ho⟩
  inj := s.inj
  olen := s.olen
  obj := fun n b d e1 e2 => let ⟨r, hb⟩ := s.obj n b d e1 e2; ⟨r.fr hn s.mu rfl, .inl hb⟩
  ond := s.ond
  mu := fun b hb => hb.elim (s.mu b) fun q => q ▸ hm
  base := fun b hb => .inl (s.base b hb)
  b0 := s.b0
  keep := s.keep
  on := s.on
theorem SR.alloc {o : HO} (s : SR K z S σ H g) (hp : H a = none) (hm : Mut (some o)) : SR K z S σ (upd H a o) (g.add a) where
  len := s.len
  dat := fun i d e => let ⟨v, e1, r⟩ := s.dat i d e; ⟨v, e1, r.fr (Fr.upd_add hp) s.mu⟩
  own := fun i d e => let ⟨b, e1, hb, r, h0, ho⟩ := s.own i d e; ⟨b, e1, .inl hb, r.fr (Fr.upd_add hp) s.mu (upd_ne fun q => r.there (q ▸ hp)), h0, ho⟩
  inj := s.inj
  olen := s.olen
  obj := fun n b d e1 e2 => let ⟨r, hb⟩ := s.obj n b d e1 e2; ⟨r.fr (Fr.upd_add hp) s.mu (upd_ne fun q => r.there (q ▸ hp)), .inl hb⟩
  ond := s.ond
  mu := fun b hb => by
    by_cases q : b = a
    · subst q; rw [upd_same]; exact hm
    · rw [upd_ne q]
      exact hb.elim (s.mu b) fun z => absurd z q
  base := fun b hb => .inl (s.base b hb)
  b0 := s.b0
  keep := fun b u h0 hm => by
    have := s.keep b u h0 hm
    rw [upd_ne (ne_of_none this hp)]; exact this
  on := s.on
theorem SR.alloc_lst {xs : List V} {ds : List D} (s : SR K z S σ H g) (hp : H a = none) (r : RpA K H g xs ds) :
    ResOk K z S σ (upd H a (.lst xs)) (g.add a) (.ref a) (.new (.lst ds)) :=
  ⟨a, rfl, .inr rfl, .lst upd_same (r.fr (Fr.upd_add hp) s.mu), s.fresh0 hp, fun hm => s.om_there hm hp, fun i e h q => s.own_there h q hp⟩
theorem SR.alloc_dct {o : HO} {t : Bool} {xs : List V} {ks ds : List D} (s : SR K z S σ H g) (hp : H a = none) (c : DcAt (upd H a o) a o t ks xs) (r : RpA K H g xs ds) :
    ResOk K z S σ (upd H a o) (g.add a) (.ref a) (.new (.dct t ks ds)) :=
  ⟨a, rfl, .inr rfl, .dct upd_same c (r.fr (Fr.upd_add hp) s.mu), s.fresh0 hp, fun hm => s.om_there hm hp, fun i e h q => s.own_there h q hp⟩
theorem SR.alloc_tup {xs : List V} {ds : List D} (s : SR K z S σ H g) (hp : H a = none) (r : RpA K H g xs ds) :
    ResOk K z S σ (upd H a (.tup xs)) g (.ref a) (.dat (.tup ds)) := .tup upd_same (r.fr (Fr.upd_new hp) s.mu)
theorem SR.del (s : SR K z S σ H g) (h0 : z.H0 a = none) (hm : a ∉ g.om) (hn : ∀ (i : Nat) (e : D), S.env[i]? = some (.own e) → σ[i]? ≠ some (some (.ref a))) : SR K z S σ H (g.del a) where
  len := s.len
  dat := fun i d e => let ⟨v, e1, r⟩ := s.dat i d e; ⟨v, e1, r.fr Fr.del s.mu⟩
  own := fun i d e => let ⟨b, e1, hb, r, h0, ho⟩ := s.own i d e; ⟨b, e1, ⟨hb, fun q => hn i d e (q ▸ e1)⟩, r.fr Fr.del s.mu rfl, h0, ho⟩
  inj := s.inj
  olen := s.olen
  obj := fun n b d e1 e2 => let ⟨r, hb⟩ := s.obj n b d e1 e2; ⟨r.fr Fr.del s.mu rfl, hb, fun q => hm (q ▸ List.mem_iff_getElem?.mpr ⟨n, e1⟩)⟩
  ond := s.ond
  mu := fun b hb => s.mu b hb.1
  base := fun b hb => ⟨s.base b hb, fun q => s.b0 b hb (q ▸ h0)⟩
  b0 := s.b0
  keep := s.keep
  on := s.on
def Sx.put (S : Sx) (i : Nat) (x : Slot) : Sx := { S with env := S.env.set i x }
def useM : Res → M D
  | .dat d => pure d
  | .new d => pure d
  | .own i d => fun S => if S.env[i]? = some (.own d) then some (.ok d, S.put i (.dat d)) else none
theorem useM_own (i : Nat) (d : D) (S : Sx) : useM (.own i d) S = if S.env[i]? = some (.own d) then some (.ok d, S.put i (.dat d)) else none := rfl
theorem set_get {α : Type} {l : List α} {i j : Nat} {x y : α} (h : (l.set i x)[j]? = some y) : (i = j ∧ y = x) ∨ (i ≠ j ∧ l[j]? = some y) := by
  by_cases e : i = j
  · subst e
    by_cases hl : i < l.length
    · rw [List.getElem?_set_self hl] at h; cases h; exact .inl ⟨rfl, rfl⟩
    · rw [List.getElem?_eq_none (by rw [List.length_set]; omega)] at h; cases h
  · rw [List.getElem?_set_ne e] at h; exact .inr ⟨e, h⟩
theorem SR.use_own {i : Nat} (s : SR K z S σ H g) (h : S.env[i]? = some (.own d)) (e : σ[i]? = some (some (.ref a))) : SR K z (S.put i (.dat d)) σ H (g.del a) ∧ Rp K H (g.del a) (.ref a) d := by
  obtain ⟨b, e1, hb, r, h0, ho⟩ := s.own i d h
  rw [e] at e1; cases e1
  have rr : Rp K H (g.del a) (.ref a) d := (r.fr Fr.del s.mu rfl).rp fun q => q.2 rfl
  refine ⟨?_, rr⟩
  constructor
  · show (S.env.set i _).length = _
    rw [List.length_set]; exact s.len
  · intro j d' h'
    rcases set_get h' with ⟨rfl, q⟩ | ⟨_, q⟩
    · cases q; exact ⟨_, e, rr⟩
    · obtain ⟨v, e1, r⟩ := s.dat j d' q
      exact ⟨v, e1, r.fr Fr.del s.mu⟩
  · intro j d' h'
    rcases set_get h' with ⟨rfl, q⟩ | ⟨ne, q⟩
    · cases q
    · obtain ⟨b, e1, hb, r, h0, ho⟩ := s.own j d' q
      exact ⟨b, e1, ⟨hb, fun w => ne (s.inj _ _ _ _ _ h q e (w ▸ e1))⟩, r.fr Fr.del s.mu rfl, h0, ho⟩
  · intro j k d1 d2 b h1 h2
    rcases set_get h1 with ⟨rfl, q⟩ | ⟨_, q1⟩
    · cases q
    · rcases set_get h2 with ⟨rfl, q⟩ | ⟨_, q2⟩
      · cases q
      · exact s.inj j k d1 d2 b q1 q2
  · exact s.olen
  · intro n b d' e1 e2
    obtain ⟨r, hb⟩ := s.obj n b d' e1 e2
    exact ⟨r.fr Fr.del s.mu rfl, hb, fun q => ho (q ▸ List.mem_iff_getElem?.mpr ⟨n, e1⟩)⟩
  · exact s.ond
  · exact fun b hb => s.mu b hb.1
  · exact fun b hb => ⟨s.base b hb, fun q => s.b0 b hb (q ▸ h0)⟩
  · exact s.b0
  · exact s.keep
  · exact s.on
theorem SR.new_del (s : SR K z S σ H g) (r : ResOk K z S σ H g v (.new d)) : ∃ g', SR K z S σ H g' ∧ Fr H g H g' ∧ Rp K H g' v d := by
  obtain ⟨a, rfl, hb, r, h0, ho, hn⟩ := r
  exact ⟨g.del a, s.del h0 ho hn, Fr.del, (r.fr Fr.del s.mu rfl).rp fun q => q.2 rfl⟩
theorem Go.use {α : Type} {k : D → M α} {P : α → Sx → Hp → Gh → Prop} (s : SR K z S σ H g) (r0 : ResOk K z S σ H g v r) (h : Go K mg z (useM r >>= k) S σ H g P) :
    ∃ S' g', SR K z S' σ H g' ∧ Fr H g H g' ∧ Rp K H g' v r.d ∧ Go K mg z (k r.d) S' σ H g' P := by
  cases r with
  | dat d => exact ⟨S, g, s, Fr.refl _ _, r0, (h.bnd).pure s⟩
  | new d =>
    obtain ⟨g', s', f, r⟩ := s.new_del r0
    exact ⟨S, g', s', f, r, Go.ok (S' := S) rfl h.bnd s' f⟩
  | own i d =>
    obtain ⟨e1, e2⟩ := r0
    obtain ⟨a, e3, _⟩ := s.own i d e1
    rw [e2] at e3; cases e3
    obtain ⟨s', r⟩ := s.use_own e1 e2
    exact ⟨_, _, s', Fr.del, r, Go.ok (by rw [useM_own, if_pos e1]; rfl) h.bnd s' Fr.del⟩
def Res.hold : Res → Res
  | .new d => .dat d
  | r => r
theorem Res.hold_d (r : Res) : r.hold.d = r.d := by cases r <;> rfl
theorem SR.hold (s : SR K z S σ H g) (r0 : ResOk K z S σ H g v r) : ∃ g', SR K z S σ H g' ∧ Fr H g H g' ∧ ResOk K z S σ H g' v r.hold := by
  cases r with
  | dat d => exact ⟨g, s, Fr.refl _ _, r0⟩
  | new d =>
    obtain ⟨g', s', f, r⟩ := s.new_del r0
    exact ⟨g', s', f, r⟩
  | own i d => exact ⟨g, s, Fr.refl _ _, r0⟩
def chkM : Res → M Unit
  | .own i d => fun S => if S.env[i]? = some (.own d) then some (.ok (), S) else none
  | _ => pure ()
theorem chkM_own (i : Nat) (d : D) (S : Sx) : chkM (.own i d) S = if S.env[i]? = some (.own d) then some (.ok (), S) else none := rfl
theorem Go.chk {α : Type} {k : Unit → M α} {P : α → Sx → Hp → Gh → Prop} (s : SR K z S σ H g) (s' : SR K z S' σ H' g') (f : Fr H g H' g') (hr : r.hold = r) (r0 : ResOk K z S σ H g v r) (h : Go K mg z (chkM r >>= k) S' σ H' g' P) :
    ResOk K z S' σ H' g' v r ∧ Go K mg z (k ()) S' σ H' g' P := by
  cases r with
  | dat d => exact ⟨Rp.fr f s.mu r0, h.bnd.pure s'⟩
  | new d => cases hr
  | own i d =>
    by_cases e : S'.env[i]? = some (.own d)
    · exact ⟨⟨e, r0.2⟩, Go.ok (by rw [chkM_own, if_pos e]) h.bnd s' (Fr.refl _ _)⟩
    · have q := h.bnd
      unfold Go at q
      rw [chkM_own, if_neg e] at q
      exact q.elim
def Pk (K : PySem.W.Frag) (H : Hp) (g : Gh) (v : V) (d : D) : Prop := Rp K H g v d ∨ ∃ a, v = .ref a ∧ Root K H g a d
theorem SR.pk (s : SR K z S σ H g) (r0 : ResOk K z S σ H g v r) : Pk K H g v r.d := by
  cases r with
  | dat d => exact .inl r0
  | new d => obtain ⟨a, rfl, _, r, _⟩ := r0; exact .inr ⟨a, rfl, r⟩
  | own i d =>
    obtain ⟨e1, e2⟩ := r0
    obtain ⟨a, e3, _, r, _⟩ := s.own i d e1
    rw [e2] at e3; cases e3
    exact .inr ⟨a, rfl, r⟩
theorem Pk.lst {ds : List D} (p : Pk K H g v (.lst ds)) : ∃ a xs, v = .ref a ∧ H a = some (.lst xs) ∧ RpA K H g xs ds := by
  rcases p with p | ⟨a, rfl, p⟩
  · cases p with | lst h _ r => exact ⟨_, _, rfl, h, r⟩
  · cases p with | lst h r => exact ⟨_, _, rfl, h, r⟩
theorem Pk.dct {t : Bool} {ks vs : List D} (p : Pk K H g v (.dct t ks vs)) : ∃ a o ws, v = .ref a ∧ H a = some o ∧ DcAt H a o t ks ws ∧ RpA K H g ws vs := by
  rcases p with p | ⟨a, rfl, p⟩
  · cases p with | dct h c _ r => exact ⟨_, _, _, rfl, h, c, r⟩
  · cases p with | dct h c r => exact ⟨_, _, _, rfl, h, c, r⟩
theorem Pk.tup {ds : List D} (p : Pk K H g v (.tup ds)) : ∃ a xs, v = .ref a ∧ H a = some (.tup xs) ∧ RpA K H g xs ds := by
  rcases p with p | ⟨a, rfl, p⟩
  · cases p with | tup h r => exact ⟨_, _, rfl, h, r⟩
  · cases p
theorem Pk.rol {ds : List D} (p : Pk K H g v (.rol ds)) : ∃ a xs, v = .ref a ∧ RoL K H a xs ∧ RpA K H g xs ds := by
  rcases p with p | ⟨a, rfl, p⟩
  · cases p with | rol h r => exact ⟨_, _, rfl, h, r⟩
  · cases p
theorem Pk.int {i : Int} (p : Pk K H g v (.int i)) : v = .int i := by
  rcases p with p | ⟨a, rfl, p⟩ <;> cases p <;> rfl
theorem Pk.bl {i : Bool} (p : Pk K H g v (.bl i)) : v = .bl i := by
  rcases p with p | ⟨a, rfl, p⟩ <;> cases p <;> rfl
theorem Pk.str {i : Str} (p : Pk K H g v (.str i)) : v = .str i := by
  rcases p with p | ⟨a, rfl, p⟩ <;> cases p <;> rfl
theorem Pk.non (p : Pk K H g v .non) : v = .non := by
  rcases p with p | ⟨a, rfl, p⟩ <;> cases p <;> rfl
theorem Pk.fr (p : Pk K H g v d) (f : Fr H g H g') (m : Mu H g) : Pk K H g' v d := by
  rcases p with p | ⟨a, e, p⟩
  · exact .inl (p.fr f m)
  · exact .inr ⟨a, e, p.fr f m rfl⟩
end
end DL
end
section
set_option maxRecDepth 100000
namespace DL
open PySem PySem.Spec L2
section
variable {X : Cx} {z : Zx} {S S' : Sx} {σ : L2.St} {H H' : Hp} {g g' : Gh} {v : V} {d : D} {a : Addr} {r : Res} {pos : Pos}
theorem Go.at {K : PySem.W.Frag} {mg : Str → Option Value} {α : Type} {f : M α} {P : α → Sx → Hp → Gh → Prop} (h : Go K mg z f S σ H g P) (fr : Fr H g H' g') : Go K mg z f S σ H' g' P := by
  unfold Go at h ⊢
  cases hf : f S with
  | none => rw [hf] at h; exact h
  | some p =>
    obtain ⟨r, S1⟩ := p
    rw [hf] at h
    cases r with
    | error x => exact fun cls dx H2 g2 s2 f2 => h cls dx H2 g2 s2 (fr.trans f2)
    | ok a => exact fun H2 g2 s2 f2 => h H2 g2 s2 (fr.trans f2)
theorem Go.none {K : PySem.W.Frag} {mg : Str → Option Value} {α : Type} {P : α → Sx → Hp → Gh → Prop} (h : Go K mg z (M.no : M α) S σ H g P) : False := h
def kM (d : D) : M Res := pure (.dat d)
def varM (i : Nat) : M Res := fun S => match S.env[i]? with
  | some (.dat d) => some (.ok (.dat d), S)
  | some (.own d) => some (.ok (.own i d), S)
  | _ => none
theorem de_int {i : Int} {j : Nat} : DE X z (.Constant (.int i) j pos) (kM (.int i)) :=
  PE.imp pe_int fun σ H Q ⟨S, g, s, h⟩ => h.pure s _ (.int i)
theorem de_bl {i : Bool} {j : Nat} : DE X z (.Constant (.bool i) j pos) (kM (.bl i)) :=
  PE.imp pe_bl fun σ H Q ⟨S, g, s, h⟩ => h.pure s _ (.bl i)
theorem de_str {i : Str} {j : Nat} : DE X z (.Constant (.str i) j pos) (kM (.str i)) :=
  PE.imp pe_str fun σ H Q ⟨S, g, s, h⟩ => h.pure s _ (.str i)
theorem de_non {j : Nat} : DE X z (.Constant .none j pos) (kM .non) :=
  PE.imp pe_non fun σ H Q ⟨S, g, s, h⟩ => h.pure s _ .non
theorem de_var (i : Nat) {x : Str} (hN : X.N[i]? = some x := by rfl) (hv : Vis X.env.scope x := by first | exact Or.inl rfl | exact Or.inr (Or.inl rfl) | exact Or.inr (Or.inr rfl)) (hd : (x == ("__debug__" : Str)) = false := by decide)
    (hcd : (x == ("__classdict__" : Str)) = false := by decide) : DE X z (.Name x pos) (varM i) :=
  PE.imp (pe_var hN hv hd hcd) fun σ H Q ⟨S, g, s, h⟩ => by
    unfold Go varM at h
    cases e : S.env[i]? with
    | none => rw [e] at h; exact h.elim
    | some sl =>
      rw [e] at h
      cases sl with
      | un => exact h.elim
      | dat d =>
        obtain ⟨v, e1, r⟩ := s.dat i d e
        exact ⟨v, e1, h H g s (Fr.refl _ _) v r⟩
      | own d =>
        obtain ⟨a, e1, _⟩ := s.own i d e
        exact ⟨_, e1, h H g s (Fr.refl _ _) _ ⟨e, e1⟩⟩
def OpD (X : Cx) (z : Zx) (r : R2) (op : D → D → M Res) : Prop :=
  ∀ (S : Sx) (σ : L2.St) (H : Hp) (g : Gh) (x y : V) (dx dy : D) (Q : VK), SR X.K z S σ H g → Pk X.K H g x dx → Pk X.K H g y dy →
    Go X.K X.mg z (op dx dy) S σ H g (fun r S' H' g' => ∀ v, ResOk X.K z S' σ H' g' v r → Q v H') → r x y H Q
def binM (op : D → D → M Res) (fa fb : M Res) : M Res := fa >>= fun ra => fb >>= fun rb => chkM ra.hold >>= fun _ => op ra.hold.d rb.d
theorem de_bin {e : Expr} {r : R2} {op : D → D → M Res} {fa fb : M Res} (hd : OpD X z r op) (pe : PE X e (tOp r (tD X.K X.mg z fa) (tD X.K X.mg z fb))) : DE X z e (binM op fa fb) := by
  refine PE.imp pe fun σ H Q ⟨S, g, s, h⟩ => ?_
  refine ⟨S, g, s, h.bnd.imp fun ra S1 H1 g1 s1 f1 h1 x rx => ?_⟩
  obtain ⟨g2, s2, f2, rx2⟩ := s1.hold rx
  refine ⟨S1, g2, s2, (h1.at f2).bnd.imp fun rb S3 H3 g3 s3 f3 h3 y ry => ?_⟩
  obtain ⟨rx3, h4⟩ := Go.chk s2 s3 f3 (by cases ra <;> rfl) rx2 h3
  exact hd S3 σ H3 g3 x y _ _ Q s3 (s3.pk rx3) (s3.pk ry) h4
theorem out_lst {K : PySem.W.Frag} {mg : Str → Option Value} {ds : List D} {xs : List V} {Q : VK} (s : SR K z S σ H g) (r : RpA K H g xs ds) (h : Go K mg z (pure (.new (.lst ds))) S σ H g (fun r S' H' g' => ∀ v, ResOk K z S' σ H' g' v r → Q v H')) :
    ∀ p, H p = none → Q (.ref p) (upd H p (.lst xs)) := fun p hp =>
  Go.ok rfl h (s.alloc hp (o := .lst xs) trivial) (Fr.upd_add hp) _ (s.alloc_lst hp r)
theorem out_tup {K : PySem.W.Frag} {mg : Str → Option Value} {ds : List D} {xs : List V} {Q : VK} (s : SR K z S σ H g) (r : RpA K H g xs ds) (h : Go K mg z (pure (.dat (.tup ds))) S σ H g (fun r S' H' g' => ∀ v, ResOk K z S' σ H' g' v r → Q v H')) :
    ∀ p, H p = none → Q (.ref p) (upd H p (.tup xs)) := fun p hp =>
  Go.ok rfl h (s.upd_new hp) (Fr.upd_new hp) _ (s.alloc_tup hp r)
theorem out_dct {K : PySem.W.Frag} {mg : Str → Option Value} {ds : List D} {Q : VK} (s : SR K z S σ H g) (kvs : List (Key × V)) (r : RpA K H g (kvs.map (·.2)) ds) (h : Go K mg z (pure (.new (.dct false (kvs.map fun p => kD p.1) ds))) S σ H g (fun r S' H' g' => ∀ v, ResOk K z S' σ H' g' v r → Q v H')) :
    ∀ p, H p = none → Q (.ref p) (upd H p (.dK kvs)) := fun p hp =>
  Go.ok rfl h (s.alloc hp (o := .dK kvs) trivial) (Fr.upd_add hp) _ (s.alloc_dct hp (.dK kvs) r)
theorem out_dat {K : PySem.W.Frag} {mg : Str → Option Value} {Q : VK} (s : SR K z S σ H g) (r : Rp K H g v d) (h : Go K mg z (pure (.dat d)) S σ H g (fun r S' H' g' => ∀ v, ResOk K z S' σ H' g' v r → Q v H')) : Q v H := h.pure s v r
def M.need {α : Type} (c : Bool) (f : M α) : M α := fun S => if c = true then f S else none
theorem Go.need {K : PySem.W.Frag} {mg : Str → Option Value} {α : Type} {c : Bool} {f : M α} {P : α → Sx → Hp → Gh → Prop} (h : Go K mg z (M.need c f) S σ H g P) : c = true ∧ Go K mg z f S σ H g P := by
  unfold Go M.need at h
  by_cases e : c = true
  · simp only [if_pos e] at h; exact ⟨e, h⟩
  · simp only [if_neg e] at h
def opAdd : D → D → M Res
  | .int i, .int j => pure (.dat (.int (i + j)))
  | .str a, .str b => M.need (decide (a.length + b.length ≤ sizeLine)) (pure (.dat (.str (a ++ b))))
  | .tup a, .tup b => M.need (decide (a.length + b.length ≤ sizeLine)) (pure (.dat (.tup (a ++ b))))
  | .lst a, .lst b => M.need (decide (a.length + b.length ≤ sizeLine)) (pure (.new (.lst (a ++ b))))
  | _, _ => M.no
def rAddD (K : PySem.W.Frag) : R2 := fun x y H Q => rI0 (fun i j => V.int (i + j)) x y H Q ∨ (∃ i j, x = V.str i ∧ y = V.str j ∧ i.length + j.length ≤ sizeLine ∧ Q (V.str (i ++ j)) H) ∨ rCatA K x y H Q ∨ rCat x y H Q
theorem op_addD : OpR X (binaryOp .Add) (rAddD X.K) := by
  intro pins s σ H x y v u Q I rx ry h
  rcases h with h | h | h | h
  · exact op_add pins s σ H x y v u Q I rx ry h
  · exact op_add_str pins s σ H x y v u Q I rx ry h
  · exact op_catA pins s σ H x y v u Q I rx ry h
  · exact op_cat pins s σ H x y v u Q I rx ry h
theorem RpA.nil_iff {K : PySem.W.Frag} {xs : List V} {ds : List D} (r : RpA K H g xs ds) : xs = [] ↔ ds = [] := by
  cases r <;> simp
theorem od_add : OpD X z (rAddD X.K) opAdd := by
  intro S σ H g x y dx dy Q s px py h
  unfold opAdd at h
  split at h
  · exact .inl ⟨_, _, px.int, py.int, out_dat s (.int _) h⟩
  · obtain ⟨c, h⟩ := h.need
    exact .inr (.inl ⟨_, _, px.str, py.str, of_decide_eq_true c, out_dat s (.str _) h⟩)
  · obtain ⟨c, h⟩ := h.need
    obtain ⟨p, xs, rfl, hx, rx⟩ := px.tup
    obtain ⟨q, ys, rfl, hy, ry⟩ := py.tup
    have c := of_decide_eq_true c
    rw [← rx.length, ← ry.length] at c
    refine .inr (.inr (.inl ⟨p, q, xs, ys, rfl, rfl, SqT.of hx, SqT.of hy, c, fun e => ?_, fun _ e => ?_, fun _ _ => out_tup s (rx.append ry) h⟩))
    · have e' := rx.nil_iff.mp e
      subst e'
      exact out_dat s (.tup hy ry) h
    · have e' := ry.nil_iff.mp e
      subst e'
      rw [List.append_nil] at h
      exact out_dat s (.tup hx rx) h
  · obtain ⟨c, h⟩ := h.need
    obtain ⟨p, xs, rfl, hx, rx⟩ := px.lst
    obtain ⟨q, ys, rfl, hy, ry⟩ := py.lst
    have c := of_decide_eq_true c
    rw [← rx.length, ← ry.length] at c
    exact .inr (.inr (.inr ⟨p, q, xs, ys, rfl, rfl, hx, hy, c, out_lst s (rx.append ry) h⟩))
  · exact h.none.elim
theorem de_add {a b : Expr} {fa fb : M Res} (ha : DE X z a fa) (hb : DE X z b fb) : DE X z (.BinOp a .Add b pos) (binM opAdd fa fb) := de_bin od_add (pe_op op_addD ha hb)
def opI (c : Int → Int → Bool) (f : Int → Int → D) : D → D → M Res
  | .int i, .int j => M.need (c i j) (pure (.dat (f i j)))
  | _, _ => M.no
theorem od_int {c : Int → Int → Bool} {C : Int → Int → Prop} {f : Int → Int → Int} (hc : ∀ i j, c i j = true → C i j) : OpD X z (rI C fun i j => .int (f i j)) (opI c fun i j => .int (f i j)) := by
  intro S σ H g x y dx dy Q s px py h
  unfold opI at h
  split at h
  · obtain ⟨c, h⟩ := h.need
    exact ⟨_, _, px.int, py.int, hc _ _ c, out_dat s (.int _) h⟩
  · exact h.none.elim
theorem od_int0 {f : Int → Int → Int} : OpD X z (rI0 fun i j => .int (f i j)) (opI (fun _ _ => true) fun i j => .int (f i j)) := by
  intro S σ H g x y dx dy Q s px py h
  unfold opI at h
  split at h
  · exact ⟨_, _, px.int, py.int, out_dat s (.int _) h.need.2⟩
  · exact h.none.elim
theorem od_cmp {f : Int → Int → Bool} : OpD X z (rI0 fun i j => .bl (f i j)) (opI (fun _ _ => true) fun i j => .bl (f i j)) := by
  intro S σ H g x y dx dy Q s px py h
  unfold opI at h
  split at h
  · exact ⟨_, _, px.int, py.int, out_dat s (.bl _) h.need.2⟩
  · exact h.none.elim
def opSub : D → D → M Res := opI (fun _ _ => true) fun i j => .int (i - j)
def opMul : D → D → M Res := opI (fun i j => decide ((-(2 ^ 64) < i ∧ i < 2 ^ 64) ∨ (-(2 ^ 64) < j ∧ j < 2 ^ 64))) fun i j => .int (i * j)
def opMod : D → D → M Res := opI (fun _ j => decide (j ≠ 0)) fun i j => .int (i.fmod j)
def opDiv : D → D → M Res := opI (fun _ j => decide (j ≠ 0 ∧ j.natAbs < 1073741824)) fun i j => .int (i.fdiv j)
def opPow : D → D → M Res := opI (fun i j => decide (0 ≤ j ∧ j ≤ 1000000 ∧ i.natAbs < 2 ^ 64)) fun i j => .int (i ^ j.toNat)
def opLt : D → D → M Res := opI (fun _ _ => true) fun i j => .bl (decide (i < j))
def opLe : D → D → M Res := opI (fun _ _ => true) fun i j => .bl (decide (i ≤ j))
def opGt : D → D → M Res := opI (fun _ _ => true) fun i j => .bl (decide (j < i))
def opGe : D → D → M Res := opI (fun _ _ => true) fun i j => .bl (decide (j ≤ i))
variable {a b : Expr} {fa fb : M Res}
theorem de_sub (ha : DE X z a fa) (hb : DE X z b fb) : DE X z (.BinOp a .Sub b pos) (binM opSub fa fb) := de_bin od_int0 (pe_op op_sub ha hb)
theorem de_mul (ha : DE X z a fa) (hb : DE X z b fb) : DE X z (.BinOp a .Mult b pos) (binM opMul fa fb) := de_bin (od_int fun _ _ => of_decide_eq_true) (pe_op op_mul ha hb)
theorem de_mod (ha : DE X z a fa) (hb : DE X z b fb) : DE X z (.BinOp a .Mod b pos) (binM opMod fa fb) := de_bin (od_int fun _ _ => of_decide_eq_true) (pe_op op_modN ha hb)
theorem de_div (ha : DE X z a fa) (hb : DE X z b fb) : DE X z (.BinOp a .FloorDiv b pos) (binM opDiv fa fb) := de_bin (od_int fun _ _ => of_decide_eq_true) (pe_op op_fdivN ha hb)
theorem de_pow (ha : DE X z a fa) (hb : DE X z b fb) : DE X z (.BinOp a .Pow b pos) (binM opPow fa fb) := de_bin (od_int fun _ _ => of_decide_eq_true) (pe_op op_pow ha hb)
mutual
def D.py : D → Option PyData
  | .non => some .none
  | .bl b => some (.bool b)
  | .int i => some (.int i)
  | .str x => some (.str x)
  | .tup ds => (D.pys ds).map .tuple
  | .lst ds => (D.pys ds).map .list
  | .rol ds => (D.pys ds).map .list
  | _ => none
def D.pys : List D → Option (List PyData)
  | [] => some []
  | d :: r => (D.py d).bind fun p => (D.pys r).map fun q => p :: q
end
mutual
theorem Rp.dp {K : PySem.W.Frag} {v : V} : ∀ {d : D} {p : PyData}, Rp K H g v d → d.py = some p → Dp K H v p
  | _, p, .non, e => by simp [D.py] at e; subst e; exact .non
  | _, p, .bl b, e => by simp [D.py] at e; subst e; exact .bl b
  | _, p, .int b, e => by simp [D.py] at e; subst e; exact .int b
  | _, p, .str b, e => by simp [D.py] at e; subst e; exact .str b
  | _, p, .tup h r, e => by
    simp only [D.py, Option.map_eq_some_iff] at e
    obtain ⟨q, e, rfl⟩ := e
    exact .tup (SqT.of h) (RpA.dp r e)
  | _, p, .lst h n r, e => by
    simp only [D.py, Option.map_eq_some_iff] at e
    obtain ⟨q, e, rfl⟩ := e
    exact .lst (SqL.of h) (RpA.dp r e)
  | _, p, .rol h r, e => by
    simp only [D.py, Option.map_eq_some_iff] at e
    obtain ⟨q, e, rfl⟩ := e
    exact .lst h.sq (RpA.dp r e)
  | _, p, .dct h c n r, e => by simp [D.py] at e
  | _, p, .obj h, e => by simp [D.py] at e
  | _, p, .opq v, e => by simp [D.py] at e
  | _, p, .rdc h c r, e => by simp [D.py] at e
theorem RpA.dp {K : PySem.W.Frag} {vs : List V} : ∀ {ds : List D} {ps : List PyData}, RpA K H g vs ds → D.pys ds = some ps → DpAll K H vs ps
  | _, ps, .nil, e => by simp [D.pys] at e; subst e; exact .nil
  | _, ps, .cons h r, e => by
    simp only [D.pys, Option.bind_eq_some_iff, Option.map_eq_some_iff] at e
    obtain ⟨p, e1, q, e2, rfl⟩ := e
    exact .cons (Rp.dp h e1) (RpA.dp r e2)
end
theorem Pk.dp {K : PySem.W.Frag} {p : PyData} (h : Pk K H g v d) (e : d.py = some p) : Dp K H v p := by
  rcases h with h | ⟨a, rfl, h⟩
  · exact h.dp e
  · cases h with
    | lst h r =>
      simp only [D.py, Option.map_eq_some_iff] at e
      obtain ⟨q, e, rfl⟩ := e
      exact .lst (SqL.of h) (r.dp e)
    | dct h c r => simp [D.py] at e
    | tab h => simp [D.py] at e
def D.eqv (d e : D) : Option Bool := match d.py, e.py with
  | some p, some q => if SeqAt.shaped p && SeqAt.shaped q then some (PyData.eqv p q) else none
  | _, _ => none
def M.opt {α β : Type} (o : Option α) (k : α → M β) : M β := match o with
  | some a => k a
  | none => M.no
theorem Go.opt {K : PySem.W.Frag} {mg : Str → Option Value} {α β : Type} {o : Option α} {k : α → M β} {P : β → Sx → Hp → Gh → Prop} (h : Go K mg z (M.opt o k) S σ H g P) : ∃ a, o = some a ∧ Go K mg z (k a) S σ H g P := by
  cases o with
  | none => exact h.none.elim
  | some a => exact ⟨a, rfl, h⟩
def opEq (neg : Bool) (d e : D) : M Res := M.opt (d.eqv e) fun b => pure (.dat (.bl (b != neg)))
theorem od_eq : OpD X z (rEqD X.K) (opEq false) := by
  intro S σ H g x y dx dy Q s px py h
  obtain ⟨b, e, h⟩ := h.opt
  unfold D.eqv at e
  split at e
  · rename_i p q e1 e2
    split at e
    · rename_i c
      cases e
      simp only [Bool.and_eq_true] at c
      refine ⟨p, q, px.dp e1, py.dp e2, c.1, c.2, ?_⟩
      have := out_dat s (.bl _) h
      simpa using this
    · cases e
  · cases e
theorem od_ne : OpD X z (rNeD X.K) (opEq true) := by
  intro S σ H g x y dx dy Q s px py h
  obtain ⟨b, e, h⟩ := h.opt
  unfold D.eqv at e
  split at e
  · rename_i p q e1 e2
    split at e
    · rename_i c
      cases e
      simp only [Bool.and_eq_true] at c
      refine ⟨p, q, px.dp e1, py.dp e2, c.1, c.2, ?_⟩
      have := out_dat s (.bl _) h
      simpa using this
    · cases e
  · cases e
theorem de_eq (hu : X.A.units + 64 < cLine) (ha : DE X z a fa) (hb : DE X z b fb) : DE X z (.Compare a [.Eq] [b] pos) (binM (opEq false) fa fb) := de_bin od_eq (pe_cmpR (op_eqD hu) ha hb (nomark _))
end
end DL
end
section
set_option maxRecDepth 100000
namespace DL
open PySem PySem.Spec L2
section
variable {X : Cx} {z : Zx} {S S' : Sx} {σ : L2.St} {H H' : Hp} {g g' : Gh} {v : V} {d : D} {r : Res} {pos : Pos} {a b c : Expr} {fa fb fc : M Res}
def D.key : D → Option Key
  | .int i => some (.inl i)
  | .str x => some (.inr x)
  | _ => none
def D.keys : List D → Option (List Key)
  | [] => some []
  | d :: r => d.key.bind fun k => (D.keys r).map fun q => k :: q
theorem key_kD : ∀ {d : D} {k : Key}, d.key = some k → d = kD k
  | .int i, k, e => by simp [D.key] at e; subst e; rfl
  | .str i, k, e => by simp [D.key] at e; subst e; rfl
  | .non, k, e => by simp [D.key] at e
  | .bl _, k, e => by simp [D.key] at e
  | .tup _, k, e => by simp [D.key] at e
  | .lst _, k, e => by simp [D.key] at e
  | .rol _, k, e => by simp [D.key] at e
  | .dct _ _ _, k, e => by simp [D.key] at e
  | .obj _, k, e => by simp [D.key] at e
  | .opq _, k, e => by simp [D.key] at e
theorem kD_key (k : Key) : (kD k).key = some k := by cases k <;> rfl
theorem kD_inj {k l : Key} (h : kD k = kD l) : k = l := by
  have := congrArg D.key h
  rw [kD_key, kD_key] at this
  exact Option.some.inj this
theorem Pk.key {K : PySem.W.Frag} {k : Key} (h : Pk K H g v d) (e : d.key = some k) : v = kV k := by
  have := key_kD e
  subst this
  cases k with
  | inl i => exact h.int
  | inr x => exact h.str
theorem RpA.kV {K : PySem.W.Frag} : ∀ {vs : List V} {ks : List Key}, RpA K H g vs (ks.map kD) → vs = ks.map L2.kV
  | _, [], .nil => rfl
  | _, k :: r, .cons h t => by
    rw [List.map_cons, ← RpA.kV t, Pk.key (.inl h) (kD_key k)]
def D.look : List D → List D → D → Option D
  | k :: ks, v :: vs, d => if k = d then some v else D.look ks vs d
  | _, _, _ => none
def D.putK (ks : List D) (d : D) : List D := if d ∈ ks then ks else ks ++ [d]
def D.setV : List D → List D → D → D → List D
  | k :: ks, v :: vs, d, x => (if k = d then x else v) :: D.setV ks vs d x
  | _, _, _, _ => []
def D.putV (ks vs : List D) (d x : D) : List D := if d ∈ ks then D.setV ks vs d x else vs ++ [x]
section
variable {κ : Type} [DecidableEq κ] {K : PySem.W.Frag}
theorem look_of {c : κ → D} (hc : ∀ k l, c k = c l → k = l) (k : κ) : ∀ {kvs : List (κ × V)} {vs : List D}, RpA K H g (kvs.map (·.2)) vs →
    (∀ d, D.look (kvs.map fun p => c p.1) vs (c k) = some d → ∃ w, valV kvs k = some w ∧ Rp K H g w d) ∧ (D.look (kvs.map fun p => c p.1) vs (c k) = none → valV kvs k = none)
  | [], _, .nil => ⟨fun d e => by simp [D.look] at e, fun _ => rfl⟩
  | p :: r, d :: vs, .cons h t => by
    obtain ⟨i1, i2⟩ := look_of hc k t
    by_cases e : p.1 = k
    · rw [valV_pos e]
      simp only [List.map_cons, D.look, e, if_true]
      exact ⟨fun d' e' => by cases e'; exact ⟨_, rfl, h⟩, fun q => by cases q⟩
    · rw [valV_neg e]
      have e' : ¬ c p.1 = c k := fun q => e (hc _ _ q)
      simp only [List.map_cons, D.look, if_neg e']
      exact ⟨i1, i2⟩
theorem setV_of {c : κ → D} (hc : ∀ k l, c k = c l → k = l) (k : κ) (x : V) (dx : D) (hx : Rp K H g x dx) : ∀ {kvs : List (κ × V)} {vs : List D}, RpA K H g (kvs.map (·.2)) vs →
    RpA K H g ((kvs.map fun kv => if kv.1 = k then (kv.1, x) else kv).map (·.2)) (D.setV (kvs.map fun p => c p.1) vs (c k) dx)
  | [], _, .nil => .nil
  | p :: r, d :: vs, .cons h t => by
    by_cases e : p.1 = k
    · simp only [List.map_cons, D.setV, e, if_true]
      exact .cons hx (setV_of hc k x dx hx t)
    · have e' : ¬ c p.1 = c k := fun q => e (hc _ _ q)
      simp only [List.map_cons, D.setV, if_neg e, if_neg e']
      exact .cons h (setV_of hc k x dx hx t)
theorem any_mem {c : κ → D} (hc : ∀ k l, c k = c l → k = l) (k : κ) : ∀ kvs : List (κ × V), (kvs.any fun kv => decide (kv.1 = k)) = true ↔ c k ∈ kvs.map fun p => c p.1
  | [] => by simp
  | p :: r => by
    rw [List.any_cons, List.map_cons, List.mem_cons, Bool.or_eq_true, decide_eq_true_eq, any_mem hc k r]
    exact ⟨fun h => h.elim (fun e => .inl (by rw [e])) .inr, fun h => h.elim (fun e => .inl (hc _ _ e).symm) .inr⟩
theorem put_of {c : κ → D} (hc : ∀ k l, c k = c l → k = l) (k : κ) (x : V) (dx : D) (hx : Rp K H g x dx) {kvs : List (κ × V)} {vs : List D} (r : RpA K H g (kvs.map (·.2)) vs) :
    D.putK (kvs.map fun p => c p.1) (c k) = (L2.putK kvs k x).map (fun p => c p.1) ∧ RpA K H g ((L2.putK kvs k x).map (·.2)) (D.putV (kvs.map fun p => c p.1) vs (c k) dx) := by
  unfold D.putK D.putV L2.putK
  by_cases a : (kvs.any fun kv => decide (kv.1 = k)) = true
  · rw [if_pos a, if_pos ((any_mem hc k kvs).mp a), if_pos ((any_mem hc k kvs).mp a)]
    refine ⟨?_, setV_of hc k x dx hx r⟩
    rw [List.map_map]
    refine (List.map_congr_left fun p hp => ?_).symm
    show c (if p.1 = k then (p.1, x) else p).1 = c p.1
    split <;> rfl
  · rw [if_neg a, if_neg (fun q => a ((any_mem hc k kvs).mpr q)), if_neg (fun q => a ((any_mem hc k kvs).mpr q))]
    refine ⟨by rw [List.map_append]; rfl, ?_⟩
    rw [List.map_append]
    exact r.append (.cons hx .nil)
end
mutual
/-- a key of tuples, back from data -/
def D.nk : D → Option NestedKey
  | .non => some .none
  | .int i => some (.num i)
  | .tup ds => (D.nks ds).map .tup
  | _ => none
def D.nks : List D → Option (List NestedKey)
  | [] => some []
  | d :: r => d.nk.bind fun k => (D.nks r).map fun q => k :: q
end
mutual
theorem nk_of {K : PySem.W.Frag} : ∀ {d : D} {k : NestedKey}, d.nk = some k → kN k = d ∧ ∀ v, Rp K H g v d → NK H k v
  | .non, k, e => by simp [D.nk] at e; subst e; exact ⟨rfl, fun v r => by cases r; exact .none⟩
  | .int i, k, e => by simp [D.nk] at e; subst e; exact ⟨rfl, fun v r => by cases r; exact .num i⟩
  | .tup ds, k, e => by
    simp only [D.nk, Option.map_eq_some_iff] at e
    obtain ⟨ks, e1, rfl⟩ := e
    obtain ⟨e2, h⟩ := nks_of (K := K) e1
    refine ⟨by simp only [kN, e2], fun v r => ?_⟩
    cases r with
    | tup hx rx =>
      obtain ⟨l, q⟩ := h _ rx
      exact .mk hx l q
  | .bl _, k, e => by simp [D.nk] at e
  | .str _, k, e => by simp [D.nk] at e
  | .lst _, k, e => by simp [D.nk] at e
  | .rol _, k, e => by simp [D.nk] at e
  | .dct _ _ _, k, e => by simp [D.nk] at e
  | .obj _, k, e => by simp [D.nk] at e
  | .opq _, k, e => by simp [D.nk] at e
  | .rdc _ _ _, k, e => by simp [D.nk] at e
theorem nks_of {K : PySem.W.Frag} : ∀ {ds : List D} {ks : List NestedKey}, D.nks ds = some ks → kNs ks = ds ∧ ∀ vs, RpA K H g vs ds → ks.length = vs.length ∧ ∀ p ∈ ks.zip vs, NK H p.1 p.2
  | [], ks, e => by simp [D.nks] at e; subst e; exact ⟨rfl, fun vs r => by cases r; exact ⟨rfl, by simp⟩⟩
  | d :: r, ks, e => by
    simp only [D.nks, Option.bind_eq_some_iff, Option.map_eq_some_iff] at e
    obtain ⟨k, e1, q, e2, rfl⟩ := e
    obtain ⟨a1, a2⟩ := nk_of (K := K) e1
    obtain ⟨b1, b2⟩ := nks_of (K := K) e2
    refine ⟨by simp only [kNs, a1, b1], fun vs rr => ?_⟩
    cases rr with
    | cons h t =>
      obtain ⟨l, z⟩ := b2 _ t
      refine ⟨by simp [l], fun p m => ?_⟩
      rw [List.zip_cons_cons] at m
      rcases List.mem_cons.mp m with rfl | m
      · exact a2 _ h
      · exact z p m
end
mutual
theorem kN_inj : ∀ {k l : NestedKey}, kN k = kN l → k = l
  | .none, l, h => by cases l <;> simp [kN] at h ⊢
  | .num i, l, h => by cases l <;> simp [kN] at h ⊢; exact h
  | .text i, l, h => by cases l <;> simp [kN] at h ⊢; exact h
  | .tup ks, l, h => by cases l <;> simp [kN] at h ⊢; exact kNs_inj h
theorem kNs_inj : ∀ {k l : List NestedKey}, kNs k = kNs l → k = l
  | [], l, h => by cases l <;> simp [kNs] at h ⊢
  | k :: ks, l, h => by
    cases l with
    | nil => simp [kNs] at h
    | cons a r => simp [kNs] at h; rw [kN_inj h.1, kNs_inj h.2]
end
def AGet (H : Hp) (a : Addr) (y : V) (r : Option V) : Prop := DGet H a y r ∨ NGet H a y r
section
variable {X : Cx} {pins : List (Addr × Obj)} {s : Shared} {a : Addr} {y : V} {u : Value} {o : Option V} {A : Around} {E : Value → Shared → Prop}
theorem a_getItem {Q : Value → Shared → Prop} (hu : A.units + 12 < cLine) (I : Inv X pins σ H s) (g : AGet H a y (some v)) (ry : RelV y u) (h : ∀ w' s', Inv X pins σ H s' → RelV v w' → Q w' s') :
    wpAny (model X.prog X.w) A (getItem (.ref a) u) Q E s := g.elim (fun g => d_getItem (by omega) I g ry h) fun g => n_getItem hu I g ry h
theorem a_in {Q : Value → Shared → Prop} (hu : A.units + 12 < cLine) (I : Inv X pins σ H s) (g : AGet H a y o) (ry : RelV y u) (h : ∀ s', Inv X pins σ H s' → Q (.bool o.isSome) s') :
    wpAny (model X.prog X.w) A (compareOp .In u (.ref a)) Q E s := g.elim (fun g => d_in (by omega) I g ry h) fun g => n_in hu I g ry h
theorem a_notIn {Q : Value → Shared → Prop} (hu : A.units + 12 < cLine) (I : Inv X pins σ H s) (g : AGet H a y o) (ry : RelV y u) (h : ∀ s', Inv X pins σ H s' → Q (.bool (!o.isSome)) s') :
    wpAny (model X.prog X.w) A (compareOp .NotIn u (.ref a)) Q E s := g.elim (fun g => d_notIn (by omega) I g ry h) fun g => n_notIn hu I g ry h
theorem ad_type (I : Inv X pins σ H s) (g : AGet H a y o) : s.TypeIs (.ref a) "dict" := g.elim (dict_typeIs I) (nd_type I)
end
section
variable {K : PySem.W.Frag}
def D.lookKey (t : Bool) (ks vs : List D) (k : D) : Option (Option D) := match t, k with
  | false, .int i => some (D.look ks vs (.int i))
  | false, .str i => some (D.look ks vs (.str i))
  | true, .tup ds => if ((D.nk (.tup ds)).map fun k => decide (k.depth ≤ 8)) = some true then some (D.look ks vs (.tup ds)) else none
  | _, _ => none
end
theorem dget_rd {K : PySem.W.Frag} {t : Bool} {ks vs : List D} {k : D} {y : V} {o : Option D} {a : Addr} {ho : HO} {ws : List V} (ha : Rd H a ho) (c : DcAt H a ho t ks ws) (r : RpA K H g ws vs) (q : Pk K H g y k) (e : D.lookKey t ks vs k = some o) :
    ∃ r, AGet H a y r ∧ (∀ d, o = some d → ∃ w, r = some w ∧ Rp K H g w d) ∧ (o = none → r = none) := by
  cases c with
  | dK kvs =>
    have key : ∀ kk : Key, k = kD kk → D.lookKey false (kvs.map fun p => kD p.1) vs k = some (D.look (kvs.map fun p => kD p.1) vs (kD kk)) := fun kk ek => by subst ek; cases kk <;> rfl
    have : ∃ kk : Key, k = kD kk := by
      cases k with
      | int i => exact ⟨.inl i, rfl⟩
      | str i => exact ⟨.inr i, rfl⟩
      | _ => simp [D.lookKey] at e
    obtain ⟨kk, rfl⟩ := this
    rw [key kk rfl] at e
    cases e
    obtain ⟨i1, i2⟩ := look_of (c := kD) (fun _ _ => kD_inj) kk r
    refine ⟨valV kvs kk, .inl (.inl ⟨kvs, kk, ha, q.key (kD_key kk), rfl⟩), fun d ed => i1 d ed, i2⟩
  | dN rows nk =>
    cases k with
    | tup ds =>
      simp only [D.lookKey] at e
      split at e
      · rename_i hs
        cases e
        obtain ⟨kk, hk, hd⟩ := Option.map_eq_some_iff.mp hs
        obtain ⟨ek, hn⟩ := nk_of hk
        obtain ⟨b, xs, rfl, hb, rb⟩ := q.tup
        have hq : NK H kk (.ref b) := hn _ (.tup hb rb)
        rw [← ek]
        obtain ⟨i1, i2⟩ := look_of (c := kN) (fun _ _ => kN_inj) kk r
        exact ⟨valV (rows.map NRow.pr) kk, .inr ⟨rows, kk, b, ha, nk, rfl, hq, of_decide_eq_true hd, rfl⟩, fun d ed => i1 d ed, i2⟩
      · cases e
    | _ => simp [D.lookKey] at e
theorem dget_of {K : PySem.W.Frag} {t : Bool} {ks vs : List D} {k : D} {x y : V} {o : Option D} (p : Pk K H g x (.dct t ks vs)) (q : Pk K H g y k) (e : D.lookKey t ks vs k = some o) :
    ∃ a r, x = .ref a ∧ AGet H a y r ∧ (∀ d, o = some d → ∃ w, r = some w ∧ Rp K H g w d) ∧ (o = none → r = none) := by
  obtain ⟨a, ho, ws, rfl, ha, c, r⟩ := p.dct
  obtain ⟨r', h⟩ := dget_rd (.inl ha) c r q e
  exact ⟨a, r', rfl, h⟩
theorem Pk.rdc {K : PySem.W.Frag} {t : Bool} {ks vs : List D} {x : V} (p : Pk K H g x (.rdc t ks vs)) : ∃ a o u ws, x = .ref a ∧ H a = some (.frz o u) ∧ DcAt H a u t ks ws ∧ RpA K H g ws vs := by
  rcases p with p | ⟨a, rfl, p⟩
  · cases p with | rdc h c r => exact ⟨_, _, _, _, rfl, h, c, r⟩
  · cases p
theorem rget_of {K : PySem.W.Frag} {t : Bool} {ks vs : List D} {k : D} {x y : V} {o : Option D} (p : Pk K H g x (.rdc t ks vs)) (q : Pk K H g y k) (e : D.lookKey t ks vs k = some o) :
    ∃ a r, x = .ref a ∧ AGet H a y r ∧ (∀ d, o = some d → ∃ w, r = some w ∧ Rp K H g w d) ∧ (o = none → r = none) := by
  obtain ⟨a, ob, u, ws, rfl, ha, c, r⟩ := p.rdc
  obtain ⟨r', h⟩ := dget_rd (.inr ⟨ob, ha⟩) c r q e
  exact ⟨a, r', rfl, h⟩
end
section
variable {X : Cx} {z : Zx} {S S' : Sx} {σ : L2.St} {H H' : Hp} {g g' : Gh} {v : V} {d : D} {r : Res} {pos : Pos} {a b c : Expr} {fa fb fc : M Res}
def rInT (K : PySem.W.Frag) : R2 := fun x y H Q => ∃ d ds, Dp K H x d ∧ Dp K H y (.tuple ds) ∧ SeqAt.shaped d = true ∧ SeqAt.shaped (.tuple ds) = true ∧ Q (.bl (ds.any fun z => PyData.eqv z d)) H
def rNotInT (K : PySem.W.Frag) : R2 := fun x y H Q => ∃ d ds, Dp K H x d ∧ Dp K H y (.tuple ds) ∧ SeqAt.shaped d = true ∧ SeqAt.shaped (.tuple ds) = true ∧ Q (.bl (!ds.any fun z => PyData.eqv z d)) H
theorem op_inT (hu : X.A.units + 65 < cLine) : OpR X (compareOp .In) (rInT X.K) := by
  intro pins s σ H x y v u Q I rx ry h
  obtain ⟨d, ds, h1, h2, s1, s2, q⟩ := h
  obtain ⟨as, r1⟩ := Dp.reads I d x v h1 rx
  obtain ⟨bs, r2⟩ := Dp.reads I (.tuple ds) y u h2 ry
  exact SeqAt.in_tuple_reads r2 r1 (SeqAt.canLay_of_shaped s2) (SeqAt.canLay_of_shaped s1) (PyProof.Rows.room_in_shaped s1 hu) ⟨.bl _, H, I, rfl, q⟩
theorem op_notInT (hu : X.A.units + 65 < cLine) : OpR X (compareOp .NotIn) (rNotInT X.K) := by
  intro pins s σ H x y v u Q I rx ry h
  obtain ⟨d, ds, h1, h2, s1, s2, q⟩ := h
  obtain ⟨as, r1⟩ := Dp.reads I d x v h1 rx
  obtain ⟨bs, r2⟩ := Dp.reads I (.tuple ds) y u h2 ry
  exact SeqAt.notIn_tuple_reads r2 r1 (SeqAt.canLay_of_shaped s2) (SeqAt.canLay_of_shaped s1) (PyProof.Rows.room_in_shaped s1 hu) ⟨.bl _, H, I, rfl, q⟩
def rInDc : R2 := fun y x H Q => ∃ a o, x = .ref a ∧ AGet H a y o ∧ Q (.bl o.isSome) H
def rNotInDc : R2 := fun y x H Q => ∃ a o, x = .ref a ∧ AGet H a y o ∧ Q (.bl (!o.isSome)) H
theorem op_inDc (hu : X.A.units + 65 < cLine) : OpR X (compareOp .In) rInDc := by
  intro pins s σ H y x iv u Q I ry rx h
  obtain ⟨a, ov, rfl, g, q⟩ := h
  obtain rfl : u = Value.ref a := rx
  exact a_in (by omega) I g ry fun s3 I3 => ⟨.bl ov.isSome, H, I3, rfl, q⟩
theorem op_notInDc (hu : X.A.units + 65 < cLine) : OpR X (compareOp .NotIn) rNotInDc := by
  intro pins s σ H y x iv u Q I ry rx h
  obtain ⟨a, ov, rfl, g, q⟩ := h
  obtain rfl : u = Value.ref a := rx
  exact a_notIn (by omega) I g ry fun s3 I3 => ⟨.bl (!ov.isSome), H, I3, rfl, q⟩
def rInA (K : PySem.W.Frag) : R2 := fun x y H Q => rInD K x y H Q ∨ rInT K x y H Q ∨ rInDc x y H Q
def rNotInA (K : PySem.W.Frag) : R2 := fun x y H Q => rNotInD K x y H Q ∨ rNotInT K x y H Q ∨ rNotInDc x y H Q
theorem op_inA (hu : X.A.units + 65 < cLine) : OpR X (compareOp .In) (rInA X.K) := by
  intro pins s σ H x y v u Q I rx ry h
  rcases h with h | h | h
  · exact op_inD hu pins s σ H x y v u Q I rx ry h
  · exact op_inT hu pins s σ H x y v u Q I rx ry h
  · exact op_inDc hu pins s σ H x y v u Q I rx ry h
theorem op_notInA (hu : X.A.units + 65 < cLine) : OpR X (compareOp .NotIn) (rNotInA X.K) := by
  intro pins s σ H x y v u Q I rx ry h
  rcases h with h | h | h
  · exact op_notInD hu pins s σ H x y v u Q I rx ry h
  · exact op_notInT hu pins s σ H x y v u Q I rx ry h
  · exact op_notInDc hu pins s σ H x y v u Q I rx ry h
def D.among (d : D) (cs : List D) : Option Bool := match d.py, D.pys cs with
  | some p, some qs => if SeqAt.shaped p && SeqAt.shaped (.list qs) then some (qs.any fun q => PyData.eqv q p) else none
  | _, _ => none
def D.inn : D → D → Option Bool
  | d, .lst cs => d.among cs
  | d, .rol cs => d.among cs
  | d, .tup cs => d.among cs
  | d, .dct t ks vs => (D.lookKey t ks vs d).map Option.isSome
  | d, .rdc t ks vs => (D.lookKey t ks vs d).map Option.isSome
  | _, _ => none
def opIn (neg : Bool) (d e : D) : M Res := M.opt (d.inn e) fun b => pure (.dat (.bl (b != neg)))
theorem shaped_tl (qs : List PyData) : SeqAt.shaped (.tuple qs) = SeqAt.shaped (.list qs) := by
  simp [SeqAt.shaped, PyData.canLay0, PyData.depth]
theorem among_of {cs : List D} {o : Bool} (e : d.among cs = some o) : ∃ p qs, d.py = some p ∧ D.pys cs = some qs ∧ SeqAt.shaped p = true ∧ SeqAt.shaped (.list qs) = true ∧ o = qs.any fun q => PyData.eqv q p := by
  unfold D.among at e
  split at e
  · rename_i p qs e1 e2
    split at e
    · rename_i c
      cases e
      simp only [Bool.and_eq_true] at c
      exact ⟨p, qs, e1, e2, c.1, c.2, rfl⟩
    · cases e
  · cases e
theorem od_in : OpD X z (rInA X.K) (opIn false) := by
  intro S σ H g x y dx dy Q s px py h
  obtain ⟨o, e, h⟩ := h.opt
  have h := out_dat s (.bl _) h
  rw [Bool.bne_false] at h
  unfold D.inn at e
  split at e
  · obtain ⟨p, qs, e1, e2, c1, c2, rfl⟩ := among_of e
    exact .inl ⟨p, qs, px.dp e1, py.dp (by simp only [D.py, e2, Option.map_some]), c1, c2, h⟩
  · obtain ⟨p, qs, e1, e2, c1, c2, rfl⟩ := among_of e
    exact .inl ⟨p, qs, px.dp e1, py.dp (by simp only [D.py, e2, Option.map_some]), c1, c2, h⟩
  · obtain ⟨p, qs, e1, e2, c1, c2, rfl⟩ := among_of e
    exact .inr (.inl ⟨p, qs, px.dp e1, py.dp (by simp only [D.py, e2, Option.map_some]), c1, by rw [shaped_tl]; exact c2, h⟩)
  · simp only [Option.map_eq_some_iff] at e
    obtain ⟨w, e, rfl⟩ := e
    obtain ⟨a, r, rfl, gg, i1, i2⟩ := dget_of py px e
    refine .inr (.inr ⟨a, r, rfl, gg, ?_⟩)
    cases w with
    | none => rw [i2 rfl]; exact h
    | some d' => obtain ⟨w', e', _⟩ := i1 d' rfl; rw [e']; exact h
  · simp only [Option.map_eq_some_iff] at e
    obtain ⟨w, e, rfl⟩ := e
    obtain ⟨a, r, rfl, gg, i1, i2⟩ := rget_of py px e
    refine .inr (.inr ⟨a, r, rfl, gg, ?_⟩)
    cases w with
    | none => rw [i2 rfl]; exact h
    | some d' => obtain ⟨w', e', _⟩ := i1 d' rfl; rw [e']; exact h
  · cases e
theorem od_notIn : OpD X z (rNotInA X.K) (opIn true) := by
  intro S σ H g x y dx dy Q s px py h
  obtain ⟨o, e, h⟩ := h.opt
  have h := out_dat s (.bl _) h
  rw [Bool.bne_true] at h
  unfold D.inn at e
  split at e
  · obtain ⟨p, qs, e1, e2, c1, c2, rfl⟩ := among_of e
    exact .inl ⟨p, qs, px.dp e1, py.dp (by simp only [D.py, e2, Option.map_some]), c1, c2, h⟩
  · obtain ⟨p, qs, e1, e2, c1, c2, rfl⟩ := among_of e
    exact .inl ⟨p, qs, px.dp e1, py.dp (by simp only [D.py, e2, Option.map_some]), c1, c2, h⟩
  · obtain ⟨p, qs, e1, e2, c1, c2, rfl⟩ := among_of e
    exact .inr (.inl ⟨p, qs, px.dp e1, py.dp (by simp only [D.py, e2, Option.map_some]), c1, by rw [shaped_tl]; exact c2, h⟩)
  · simp only [Option.map_eq_some_iff] at e
    obtain ⟨w, e, rfl⟩ := e
    obtain ⟨a, r, rfl, gg, i1, i2⟩ := dget_of py px e
    refine .inr (.inr ⟨a, r, rfl, gg, ?_⟩)
    cases w with
    | none => rw [i2 rfl]; exact h
    | some d' => obtain ⟨w', e', _⟩ := i1 d' rfl; rw [e']; exact h
  · simp only [Option.map_eq_some_iff] at e
    obtain ⟨w, e, rfl⟩ := e
    obtain ⟨a, r, rfl, gg, i1, i2⟩ := rget_of py px e
    refine .inr (.inr ⟨a, r, rfl, gg, ?_⟩)
    cases w with
    | none => rw [i2 rfl]; exact h
    | some d' => obtain ⟨w', e', _⟩ := i1 d' rfl; rw [e']; exact h
  · cases e
theorem de_in (hu : X.A.units + 65 < cLine) (ha : DE X z a fa) (hb : DE X z b fb) (hm : behindInMarks .In b = false := by rfl) : DE X z (.Compare a [.In] [b] pos) (binM (opIn false) fa fb) := de_bin od_in (pe_cmpR (op_inA hu) ha hb hm)
def rIxDc : R2 := fun x y H Q => ∃ a v, x = V.ref a ∧ AGet H a y (some v) ∧ Q v H
theorem ix_dct (hu : X.A.units + 65 < cLine) : IxR X rIxDc := by
  intro value slice pins s σ H x y v u Q I rx ry h hs
  obtain ⟨a, w, rfl, gg, q⟩ := h
  obtain rfl : v = Value.ref a := rx
  exact PyProof.Rows.tail_any (ad_type I gg) PySem.F.slot_dict_getitem.lookup (a_getItem (by omega) I gg ry fun w' s3 I3 rw' => ⟨w, H, I3, rw', q⟩) hs
def rIxA (K : PySem.W.Frag) : R2 := fun x y H Q => rIx K x y H Q ∨ rIxDc x y H Q
theorem ix_any (hu : X.A.units + 65 < cLine) : IxR X (rIxA X.K) := ix_seq.or (ix_dct hu)
def D.item : D → D → Option D
  | .lst ds, .int i => atI ds i
  | .rol ds, .int i => atI ds i
  | .tup ds, .int i => atI ds i
  | .str x, .int i => if x.length ≤ sizeLine then (atI x.cps.toList i).map fun c => .str ⟨#[c]⟩ else none
  | .dct t ks vs, k => (D.lookKey t ks vs k).bind id
  | .rdc t ks vs, k => (D.lookKey t ks vs k).bind id
  | _, _ => none
def opIx (d e : D) : M Res := M.opt (d.item e) fun x => pure (.dat x)
theorem RpA.atI {K : PySem.W.Frag} {vs : List V} {ds : List D} {i : Int} (r : RpA K H g vs ds) (e : L2.atI ds i = some d) : ∃ v, L2.atI vs i = some v ∧ Rp K H g v d := by
  unfold L2.atI at e ⊢
  rw [r.length]
  obtain ⟨j, e1, e2⟩ := Option.bind_eq_some_iff.mp e
  obtain ⟨w, e3, rw⟩ := r.get e2
  exact ⟨w, by rw [e1]; exact e3, rw⟩
theorem od_ix : OpD X z (rIxA X.K) opIx := by
  intro S σ H g x y dx dy Q s px py h
  obtain ⟨o, e, h2⟩ := h.opt
  unfold D.item at e
  split at e
  · obtain ⟨p, xs, rfl, hx, rx⟩ := px.lst
    obtain ⟨w, ew, rw⟩ := rx.atI e
    exact .inl (.inl ⟨p, xs, _, w, rfl, py.int, SqL.of hx, ew, out_dat s rw h2⟩)
  · obtain ⟨p, xs, rfl, hx, rx⟩ := px.rol
    obtain ⟨w, ew, rw⟩ := rx.atI e
    exact .inl (.inl ⟨p, xs, _, w, rfl, py.int, hx.sq, ew, out_dat s rw h2⟩)
  · obtain ⟨p, xs, rfl, hx, rx⟩ := px.tup
    obtain ⟨w, ew, rw⟩ := rx.atI e
    exact .inl (.inr (.inl ⟨p, xs, _, w, rfl, py.int, SqT.of hx, ew, out_dat s rw h2⟩))
  · split at e
    · rename_i hl
      simp only [Option.map_eq_some_iff] at e
      obtain ⟨c, e, rfl⟩ := e
      exact .inl (.inr (.inr ⟨_, _, c, px.str, py.int, hl, e, out_dat s (.str _) h2⟩))
    · cases e
  · obtain ⟨w, e1, e2⟩ := Option.bind_eq_some_iff.mp e
    obtain ⟨a, r, rfl, gg, i1, i2⟩ := dget_of px py e1
    obtain ⟨w', e', rw⟩ := i1 o e2
    exact .inr ⟨a, w', rfl, e' ▸ gg, out_dat s rw h2⟩
  · obtain ⟨w, e1, e2⟩ := Option.bind_eq_some_iff.mp e
    obtain ⟨a, r, rfl, gg, i1, i2⟩ := rget_of px py e1
    obtain ⟨w', e', rw⟩ := i1 o e2
    exact .inr ⟨a, w', rfl, e' ▸ gg, out_dat s rw h2⟩
  · cases e
theorem de_ix (hu : X.A.units + 65 < cLine) (ha : DE X z a fa) (hb : DE X z b fb) (hs : PlainIx b := by exact fun _ _ => rfl) : DE X z (.Subscript a b pos) (binM opIx fa fb) := de_bin od_ix (pe_ix (ix_any hu) ha hb hs)
end
end DL
end
section
set_option maxRecDepth 100000
namespace DL
open PySem PySem.Spec L2
section
variable {X : Cx} {z : Zx} {S S' : Sx} {σ : L2.St} {H H' : Hp} {g g' : Gh} {v : V} {d : D} {r : Res} {pos : Pos} {a b c : Expr} {fa fb fc : M Res}
def tO (K : PySem.W.Frag) (mg : Str → Option Value) (z : Zx) (f : M (Option Int)) : TO := fun σ H Q => ∃ S g, SR K z S σ H g ∧ Go K mg z f S σ H g fun b _ H' _ => Q b H'
abbrev DO (X : Cx) (z : Zx) (e : Option Expr) (f : M (Option Int)) : Prop := PO X e (tO X.K X.mg z f)
theorem PO.imp {e : Option Expr} {t u : TO} (p : PO X e t) (h : ∀ σ H Q, u σ H Q → t σ H Q) : PO X e u := ⟨fun pins s σ H Q I q => p.run pins s σ H Q I (h σ H Q q)⟩
def D.isInt : D → Option Int
  | .int i => some i
  | _ => none
def partM (f : M Res) : M (Option Int) := f >>= fun r => M.opt r.d.isInt fun i => pure (some i)
theorem do_none : DO X z none (pure none) := PO.imp po_none fun σ H Q ⟨S, g, s, h⟩ => h.pure s
theorem do_some (ha : DE X z a fa) : DO X z (some a) (partM fa) := PO.imp (po_some ha) fun σ H Q ⟨S, g, s, h⟩ => by
  refine ⟨S, g, s, h.bnd.imp fun ra S1 H1 g1 s1 f1 h1 x rx => ?_⟩
  obtain ⟨i, e, h2⟩ := h1.opt
  have p := s1.pk rx
  cases hd : ra.d <;> rw [hd] at e <;> simp [D.isInt] at e
  subst e
  rw [hd] at p
  exact ⟨_, p.int, h2.pure s1⟩
def cutD {α : Type} (xs : List α) (lo hi : Option Int) : List α := (xs.drop (HT.sIx xs.length 0 lo)).take (HT.sIx xs.length xs.length hi - HT.sIx xs.length 0 lo)
def opSl : D → Option Int → Option Int → M Res
  | .lst ds, lo, hi => pure (.new (.lst (cutD ds lo hi)))
  | .rol ds, lo, hi => pure (.new (.lst (cutD ds lo hi)))
  | .tup ds, lo, hi => pure (.dat (.tup (cutD ds lo hi)))
  | .str x, lo, hi => M.need (decide (x.length ≤ sizeLine)) (pure (.dat (.str (cutS x lo hi))))
  | _, _, _ => M.no
def slM (fa : M Res) (fl fh : M (Option Int)) : M Res := fa >>= fun ra => fl >>= fun lo => fh >>= fun hi => chkM ra.hold >>= fun _ => opSl ra.hold.d lo hi
def rSlAll (K : PySem.W.Frag) : V → Option Int → Option Int → Hp → VK → Prop := fun x lo hi H Q => rSlL K x lo hi H Q ∨ rSlA K x lo hi H Q ∨ rSlS x lo hi H Q
theorem sl_all : SlR X (rSlAll X.K) := sl_list.or (sl_tupA.or sl_str)
theorem RpA.cut {K : PySem.W.Frag} {vs : List V} {ds : List D} (r : RpA K H g vs ds) (lo hi : Option Int) : RpA K H g (cutV vs lo hi) (cutD ds lo hi) := by
  unfold cutV cutD
  rw [r.length]
  exact (r.drop _).take _
theorem de_sl {lo hi : Option Expr} {fl fh : M (Option Int)} {p2 : Pos} (ha : DE X z a fa) (hl : DO X z lo fl) (hh : DO X z hi fh) : DE X z (.Subscript a (.Slice lo hi none p2) pos) (slM fa fl fh) := by
  refine PE.imp (pe_slice sl_all ha hl hh) fun σ H Q ⟨S, g, s, h⟩ => ?_
  refine ⟨S, g, s, h.bnd.imp fun ra S1 H1 g1 s1 f1 h1 x rx => ?_⟩
  obtain ⟨g2, s2, f2, rx2⟩ := s1.hold rx
  refine ⟨S1, g2, s2, (h1.at f2).bnd.imp fun l S3 H3 g3 s3 f3 h3 => ?_⟩
  refine ⟨S3, g3, s3, h3.bnd.imp fun u S4 H4 g4 s4 f4 h4 => ?_⟩
  obtain ⟨rx3, h5⟩ := Go.chk s2 s4 (f3.trans f4) (by cases ra <;> rfl) rx2 h4
  have p := s4.pk rx3
  cases hd : ra.hold.d with
  | lst ds =>
    rw [hd] at h5 p
    obtain ⟨a, xs, rfl, hx, rx⟩ := p.lst
    exact .inl ⟨a, xs, rfl, SqL.of hx, out_lst s4 (rx.cut _ _) h5⟩
  | rol ds =>
    rw [hd] at h5 p
    obtain ⟨a, xs, rfl, hx, rx⟩ := p.rol
    exact .inl ⟨a, xs, rfl, hx.sq, out_lst s4 (rx.cut _ _) h5⟩
  | tup ds =>
    rw [hd] at h5 p
    obtain ⟨a, xs, rfl, hx, rx⟩ := p.tup
    refine .inr (.inl ⟨a, xs, rfl, SqT.of hx, fun q => ?_, fun _ => out_tup s4 (rx.cut _ _) h5⟩)
    have e : cutD ds l u = ds := by
      unfold cutD
      rw [← rx.length, q.1, q.2, List.drop_zero, Nat.sub_zero, rx.length, List.take_length]
    change Go _ _ _ (pure (Res.dat (D.tup (cutD ds l u)))) _ _ _ _ _ at h5
    rw [e] at h5
    exact out_dat s4 (.tup hx rx) h5
  | str x' =>
    rw [hd] at h5 p
    obtain ⟨cc, h5⟩ := h5.need
    exact .inr (.inr ⟨x', p.str, of_decide_eq_true cc, out_dat s4 (.str _) h5⟩)
  | _ => rw [hd] at h5; exact h5.none.elim
def D.truth : D → Option Bool
  | .non => some false
  | .bl b => some b
  | .int i => some (i != 0)
  | .str x => if x.length ≤ sizeLine then some ((x.length : Int) != 0) else none
  | .lst ds => some (!ds.isEmpty)
  | .rol ds => some (!ds.isEmpty)
  | .tup ds => some (!ds.isEmpty)
  | .dct false ks _ => some (!ks.isEmpty)
  | _ => none
theorem RpA.emp {K : PySem.W.Frag} {vs : List V} {ds : List D} (r : RpA K H g vs ds) : vs.isEmpty = ds.isEmpty := by cases r <;> rfl
theorem Pk.truth {K : PySem.W.Frag} {k : Bool} (p : Pk K H g v d) (e : d.truth = some k) : TruV K v H k := by
  unfold D.truth at e
  split at e
  · cases e; rw [p.non]; rfl
  · cases e; rw [p.bl]; rfl
  · cases e; rw [p.int]; rfl
  · split at e
    · rename_i h; cases e; rw [p.str]; exact ⟨h, rfl⟩
    · cases e
  · cases e; obtain ⟨a, xs, rfl, hx, rx⟩ := p.lst
    exact .inl ⟨xs, SqL.of hx, by rw [rx.emp]⟩
  · cases e; obtain ⟨a, xs, rfl, hx, rx⟩ := p.rol
    exact .inl ⟨xs, hx.sq, by rw [rx.emp]⟩
  · cases e; obtain ⟨a, xs, rfl, hx, rx⟩ := p.tup
    exact .inr (.inl ⟨xs, SqT.of hx, by rw [rx.emp]⟩)
  · cases e; obtain ⟨a, o, ws, rfl, hx, c, rx⟩ := p.dct
    cases c with
    | dK kvs => exact .inr (.inr ⟨kvs, hx, by cases kvs <;> rfl⟩)
  · cases e
def testM (f : M Res) : M Bool := f >>= fun r => M.opt r.d.truth pure
theorem dt_val (ha : DE X z a fa) (he : ∀ whole, PySem.isTrue a X.env whole = (do let v ← whole; standAt a.pos; holding [v] (truthy v)) := by intro _; rfl) : DT X z a (testM fa) :=
  PT.imp (pt_truth ha he) fun σ H Q ⟨S, g, s, h⟩ => ⟨S, g, s, h.bnd.imp fun ra S1 H1 g1 s1 f1 h1 x rx => by
    obtain ⟨k, e, h2⟩ := h1.opt
    exact ⟨k, (s1.pk rx).truth e, h2.pure s1⟩⟩
abbrev DW (X : Cx) (z : Zx) (e : Expr) (f : M Bool) : Prop := PW X e (tT X.K X.mg z f)
theorem PW.imp {e : Expr} {t u : TT} (p : PW X e t) (h : ∀ σ H Q, u σ H Q → t σ H Q) : PW X e u := ⟨fun wh pins s σ H Q I q => p.run wh pins s σ H Q I (h σ H Q q)⟩
variable {ta tb : M Bool} {rest : List Expr}
def andT (f g : M Bool) : M Bool := f >>= fun b => if b = true then g else pure false
def orT (f g : M Bool) : M Bool := f >>= fun b => if b = true then pure true else g
def notT (f : M Bool) : M Bool := f >>= fun b => pure (!b)
theorem dw_and1 (ha : DT X z a ta) : DW X z (.BoolOp .And [a] pos) ta := pw_and1 ha
theorem dw_or1 (ha : DT X z a ta) : DW X z (.BoolOp .Or [a] pos) ta := pw_or1 ha
theorem dw_and (ha : DT X z a ta) (hb : DW X z (.BoolOp .And (b :: rest) pos) tb) : DW X z (.BoolOp .And (a :: b :: rest) pos) (andT ta tb) :=
  PW.imp (pw_and ha hb) fun σ H Q ⟨S, g, s, h⟩ => ⟨S, g, s, h.bnd.imp fun k S1 H1 g1 s1 f1 h1 => by
    cases k with
    | true => exact ⟨S1, g1, s1, h1⟩
    | false => exact h1.pure s1⟩
theorem dw_or (ha : DT X z a ta) (hb : DW X z (.BoolOp .Or (b :: rest) pos) tb) : DW X z (.BoolOp .Or (a :: b :: rest) pos) (orT ta tb) :=
  PW.imp (pw_or ha hb) fun σ H Q ⟨S, g, s, h⟩ => ⟨S, g, s, h.bnd.imp fun k S1 H1 g1 s1 f1 h1 => by
    cases k with
    | true => exact h1.pure s1
    | false => exact ⟨S1, g1, s1, h1⟩⟩
theorem dt_w (h : DW X z a ta) : DT X z a ta := h.pt
theorem dt_not (ha : DT X z a ta) : DT X z (.UnaryOp .Not a pos) (notT ta) :=
  PT.imp (pt_not ha) fun σ H Q ⟨S, g, s, h⟩ => ⟨S, g, s, h.bnd.imp fun k S1 H1 g1 s1 f1 h1 => h1.pure s1⟩
def andM (f g : M Res) : M Res := f >>= fun r => M.opt r.d.truth fun k => if k = true then g else useM r >>= fun d => pure (.dat d)
def orM (f g : M Res) : M Res := f >>= fun r => M.opt r.d.truth fun k => if k = true then useM r >>= fun d => pure (.dat d) else g
def notM (f : M Res) : M Res := f >>= fun r => M.opt r.d.truth fun k => pure (.dat (.bl (!k)))
theorem out_use {K : PySem.W.Frag} {mg : Str → Option Value} {x : V} {Q : VK} (s : SR K z S σ H g) (rx : ResOk K z S σ H g x r) (h : Go K mg z (useM r >>= fun d => pure (.dat d)) S σ H g (fun r S' H' g' => ∀ v, ResOk K z S' σ H' g' v r → Q v H')) : Q x H := by
  obtain ⟨S', g', s', f, rp, h2⟩ := h.use s rx
  exact h2.pure s' x rp
theorem de_one {op} (ha : DE X z a fa) : DE X z (.BoolOp op [a] pos) fa := pe_one ha
theorem de_and (ha : DE X z a fa) (hb : DE X z (.BoolOp .And (b :: rest) pos) fb) : DE X z (.BoolOp .And (a :: b :: rest) pos) (andM fa fb) :=
  PE.imp (pe_andT ha hb) fun σ H Q ⟨S, g, s, h⟩ => ⟨S, g, s, h.bnd.imp fun ra S1 H1 g1 s1 f1 h1 x rx => by
    obtain ⟨k, e, h2⟩ := h1.opt
    refine ⟨k, (s1.pk rx).truth e, ?_⟩
    cases k with
    | true => exact ⟨S1, g1, s1, h2⟩
    | false => exact out_use s1 rx h2⟩
theorem de_not (ha : DE X z a fa) : DE X z (.UnaryOp .Not a pos) (notM fa) :=
  PE.imp (pe_notT ha) fun σ H Q ⟨S, g, s, h⟩ => ⟨S, g, s, h.bnd.imp fun ra S1 H1 g1 s1 f1 h1 x rx => by
    obtain ⟨k, e, h2⟩ := h1.opt
    exact ⟨k, (s1.pk rx).truth e, out_dat s1 (.bl _) h2⟩⟩
def ifM {α : Type} (t : M Bool) (f g : M α) : M α := t >>= fun b => if b = true then f else g
theorem de_if (hc : DT X z c ta) (ha : DE X z a fa) (hb : DE X z b fb) : DE X z (.IfExp c a b pos) (ifM ta fa fb) :=
  PE.imp (pe_ifExp hc ha hb) fun σ H Q ⟨S, g, s, h⟩ => ⟨S, g, s, h.bnd.imp fun k S1 H1 g1 s1 f1 h1 => by
    cases k with
    | true => exact ⟨S1, g1, s1, h1⟩
    | false => exact ⟨S1, g1, s1, h1⟩⟩
def negM (f : M Res) : M Res := f >>= fun r => M.opt r.d.isInt fun i => pure (.dat (.int (-i)))
theorem isInt_eq {d : D} {i : Int} (e : d.isInt = some i) : d = .int i := by cases d <;> simp [D.isInt] at e; subst e; rfl
theorem de_neg (ha : DE X z a fa) : DE X z (.UnaryOp .USub a pos) (negM fa) :=
  PE.imp (pe_un un_neg ha) fun σ H Q ⟨S, g, s, h⟩ => ⟨S, g, s, h.bnd.imp fun ra S1 H1 g1 s1 f1 h1 x rx => by
    obtain ⟨i, e, h2⟩ := h1.opt
    have p := s1.pk rx
    rw [isInt_eq e] at p
    exact ⟨i, p.int, out_dat s1 (.int _) h2⟩⟩
def nilA : M (List Res) := pure []
def consA (f : M Res) (g : M (List Res)) : M (List Res) := f >>= fun r => g >>= fun rs => chkM r.hold >>= fun _ => pure (r.hold :: rs)
theorem da_nil : DA X z [] nilA := PA.imp pa_nil fun σ H Q ⟨S, g, s, h⟩ => h.pure s [] .nil
variable {es : List Expr} {fs : M (List Res)}
theorem da_cons (ha : DE X z a fa) (hr : DA X z es fs) (hs : starEach (a :: es) X.env = (false, eval a X.env) :: starEach es X.env := by rfl) : DA X z (a :: es) (consA fa fs) :=
  PA.imp (pa_cons ha hr hs) fun σ H Q ⟨S, g, s, h⟩ => ⟨S, g, s, h.bnd.imp fun ra S1 H1 g1 s1 f1 h1 x rx => by
    obtain ⟨g2, s2, f2, rx2⟩ := s1.hold rx
    refine ⟨S1, g2, s2, (h1.at f2).bnd.imp fun rs S3 H3 g3 s3 f3 h3 xs rxs => ?_⟩
    obtain ⟨rx3, h4⟩ := Go.chk s2 s3 f3 (by cases ra <;> rfl) rx2 h3
    exact h4.pure s3 (x :: xs) (.cons rx3 rxs)⟩
def chkAll : List Res → M Unit
  | [] => pure ()
  | r :: rs => chkM r >>= fun _ => chkAll rs
def useAll : List Res → M (List D)
  | [] => pure []
  | r :: rs => useM r >>= fun d => chkAll rs >>= fun _ => useAll rs >>= fun ds => pure (d :: ds)
def Held (rs : List Res) : Prop := ∀ r ∈ rs, r.hold = r
theorem Go.chkAll {K : PySem.W.Frag} {mg : Str → Option Value} {α : Type} {P : α → Sx → Hp → Gh → Prop} {k : Unit → M α} (s : SR K z S σ H g) (s' : SR K z S' σ H' g') (f : Fr H g H' g') : ∀ {rs : List Res} {vs : List V}, Held rs → Paired (ResOk K z S σ H g) vs rs →
    Go K mg z (chkAll rs >>= k) S' σ H' g' P → Paired (ResOk K z S' σ H' g') vs rs ∧ Go K mg z (k ()) S' σ H' g' P
  | [], _, _, .nil, h => ⟨.nil, h.bnd.pure s'⟩
  | r :: rs, _, hh, .cons a t, h => by
    have h1 : Go K mg z (chkM r >>= fun _ => DL.chkAll rs >>= k) S' σ H' g' P := by
      have e : (DL.chkAll (r :: rs) >>= k) = (chkM r >>= fun _ => DL.chkAll rs >>= k) := by
        show M.bnd (M.bnd (chkM r) _) k = M.bnd (chkM r) _
        funext s0
        unfold M.bnd
        cases chkM r s0 with
        | none => rfl
        | some p => obtain ⟨e, s1⟩ := p; cases e <;> rfl
      rw [← e]; exact h
    obtain ⟨r1, h2⟩ := Go.chk s s' f (hh r List.mem_cons_self) a h1
    obtain ⟨r2, h3⟩ := Go.chkAll s s' f (fun q hq => hh q (List.mem_cons_of_mem _ hq)) t h2
    exact ⟨.cons r1 r2, h3⟩
theorem bind_assoc {α β γ : Type} (f : M α) (k : α → M β) (l : β → M γ) : ((f >>= k) >>= l) = (f >>= fun a => k a >>= l) := by
  funext s0
  show M.bnd (M.bnd f k) l s0 = M.bnd f (fun a => M.bnd (k a) l) s0
  unfold M.bnd
  cases f s0 with
  | none => rfl
  | some p => obtain ⟨e, s1⟩ := p; cases e <;> rfl
theorem Go.useAll {K : PySem.W.Frag} {mg : Str → Option Value} {α : Type} {P : α → Sx → Hp → Gh → Prop} {k : List D → M α} : ∀ {rs : List Res} {vs : List V} {S : Sx} {g : Gh}, SR K z S σ H g → Held rs → Paired (ResOk K z S σ H g) vs rs →
    Go K mg z (useAll rs >>= k) S σ H g P → ∃ S' g', SR K z S' σ H g' ∧ Fr H g H g' ∧ RpA K H g' vs (rs.map (·.d)) ∧ Go K mg z (k (rs.map (·.d))) S' σ H g' P
  | [], _, S, g, s, _, .nil, h => ⟨S, g, s, Fr.refl _ _, .nil, h.bnd.pure s⟩
  | r :: rs, _, S, g, s, hh, .cons a t, h => by
    have e : (DL.useAll (r :: rs) >>= k) = (useM r >>= fun d => DL.chkAll rs >>= fun _ => DL.useAll rs >>= fun ds => k (d :: ds)) := by
      show ((useM r >>= fun d => DL.chkAll rs >>= fun _ => DL.useAll rs >>= fun ds => Pure.pure (d :: ds)) >>= k) = _
      rw [bind_assoc]
      refine congrArg _ (funext fun d => ?_)
      rw [bind_assoc]
      refine congrArg _ (funext fun _ => ?_)
      rw [bind_assoc]
      rfl
    rw [e] at h
    obtain ⟨S1, g1, s1, f1, rp, h1⟩ := h.use s a
    obtain ⟨t2, h2⟩ := Go.chkAll s s1 f1 (fun q hq => hh q (List.mem_cons_of_mem _ hq)) t h1
    obtain ⟨S3, g3, s3, f3, rps, h3⟩ := Go.useAll s1 (fun q hq => hh q (List.mem_cons_of_mem _ hq)) t2 h2
    exact ⟨S3, g3, s3, f1.trans f3, .cons (rp.fr f3 s1.mu) rps, h3⟩
structure DAH (X : Cx) (z : Zx) (es : List Expr) (f : M (List Res)) : Prop where
  da : DA X z es f
  held : ∀ S rs S', f S = some (.ok rs, S') → Held rs
theorem dah_nil : DAH X z [] nilA := ⟨da_nil, fun S rs S' e => by cases e; exact fun r hr => by cases hr⟩
theorem bind_inv {α β : Type} {f : M α} {k : α → M β} {b : β} {s s2 : Sx} (e : (f >>= k) s = some (.ok b, s2)) : ∃ a s1, f s = some (.ok a, s1) ∧ k a s1 = some (.ok b, s2) := by
  change M.bnd f k s = _ at e
  unfold M.bnd at e
  cases hf : f s with
  | none => rw [hf] at e; cases e
  | some p =>
    obtain ⟨r, s1⟩ := p
    rw [hf] at e
    cases r with
    | error x => cases e
    | ok a => exact ⟨a, s1, rfl, e⟩
theorem dah_cons (ha : DE X z a fa) (hr : DAH X z es fs) (hs : starEach (a :: es) X.env = (false, eval a X.env) :: starEach es X.env := by rfl) : DAH X z (a :: es) (consA fa fs) :=
  ⟨da_cons ha hr.da hs, fun S rs S' e => by
    obtain ⟨r, s1, _, e⟩ := bind_inv e
    obtain ⟨rs', s2, e2, e⟩ := bind_inv e
    obtain ⟨_, s3, _, e⟩ := bind_inv e
    cases e
    intro q hq
    rcases List.mem_cons.mp hq with rfl | hq
    · cases r <;> rfl
    · exact hr.held _ _ _ e2 q hq⟩
theorem Go.heldP {K : PySem.W.Frag} {mg : Str → Option Value} {f : M (List Res)} {P : List Res → Sx → Hp → Gh → Prop} (hh : ∀ S rs S', f S = some (.ok rs, S') → Held rs) (h : Go K mg z f S σ H g P) : Go K mg z f S σ H g fun rs S' H' g' => Held rs ∧ P rs S' H' g' := by
  unfold Go at h ⊢
  cases hf : f S with
  | none => rw [hf] at h; exact h
  | some p =>
    obtain ⟨r, S1⟩ := p
    rw [hf] at h
    cases r with
    | error x => exact h
    | ok a => exact fun H' g' s f => ⟨hh _ _ _ hf, h H' g' s f⟩
def tupM (f : M (List Res)) : M Res := f >>= fun rs => useAll rs >>= fun ds => M.need (decide (ds.length ≤ sizeLine)) (pure (.dat (.tup ds)))
def lstM (f : M (List Res)) : M Res := f >>= fun rs => useAll rs >>= fun ds => M.need (decide (ds.length ≤ sizeLine)) (pure (.new (.lst ds)))
theorem de_tup {x1} (ha : DAH X z es fs) : DE X z (.Tuple es x1 pos) (tupM fs) :=
  PE.imp (pe_tup ha.da) fun σ H Q ⟨S, g, s, h⟩ => ⟨S, g, s, (Go.heldP ha.held h.bnd).imp fun rs S1 H1 g1 s1 f1 ⟨hh, h1⟩ xs rxs => by
    obtain ⟨S2, g2, s2, f2, rp, h2⟩ := h1.useAll s1 hh rxs
    obtain ⟨c, h3⟩ := h2.need
    exact ⟨by rw [rp.length]; exact of_decide_eq_true c, out_tup s2 rp h3⟩⟩
theorem de_lst (ha : DAH X z es fs) : DE X z (.List es pos) (lstM fs) :=
  PE.imp (pe_lst ha.da) fun σ H Q ⟨S, g, s, h⟩ => ⟨S, g, s, (Go.heldP ha.held h.bnd).imp fun rs S1 H1 g1 s1 f1 ⟨hh, h1⟩ xs rxs => by
    obtain ⟨S2, g2, s2, f2, rp, h2⟩ := h1.useAll s1 hh rxs
    obtain ⟨c, h3⟩ := h2.need
    exact ⟨by rw [rp.length]; exact of_decide_eq_true c, out_lst s2 rp h3⟩⟩
end
end DL
end
section
set_option maxRecDepth 100000
namespace DL
open PySem PySem.Spec L2
section
variable {X : Cx} {z : Zx} {S S' : Sx} {σ : L2.St} {H H' : Hp} {g g' : Gh} {v : V} {d : D} {r : Res} {pos : Pos} {a b c : Expr} {fa fb fc : M Res} {K : PySem.W.Frag} {mg : Str → Option Value}
theorem GoS.at {f : M Fl} {D : Ends} (h : GoS K mg z f S σ H g D) (fr : Fr H g H' g') : GoS K mg z f S σ H' g' D := by
  unfold GoS at h ⊢
  cases hf : f S with
  | none => rw [hf] at h; exact h
  | some p =>
    obtain ⟨r, S1⟩ := p
    rw [hf] at h
    cases r with
    | error x => exact fun cls dx σ2 H2 g2 s2 f2 => h cls dx σ2 H2 g2 s2 (fr.trans f2)
    | ok a =>
      cases a with
      | ret r => exact fun σ2 H2 g2 v s2 f2 => h σ2 H2 g2 v s2 (fr.trans f2)
      | next => exact fun σ2 H2 g2 s2 f2 => h σ2 H2 g2 s2 (fr.trans f2)
      | brk => exact fun σ2 H2 g2 s2 f2 => h σ2 H2 g2 s2 (fr.trans f2)
      | cont => exact fun σ2 H2 g2 s2 f2 => h σ2 H2 g2 s2 (fr.trans f2)
theorem GoS.bnd {α : Type} {f : M α} {k : α → M Fl} {D : Ends} (h : GoS K mg z (f >>= k) S σ H g D) : Go K mg z f S σ H g fun r S1 H1 g1 => GoS K mg z (k r) S1 σ H1 g1 D := by
  have e : (f >>= k) S = M.bnd f k S := rfl
  unfold GoS at h
  unfold Go
  rw [e] at h
  unfold M.bnd at h
  cases hf : f S with
  | none => rw [hf] at h; exact h
  | some p =>
    obtain ⟨r, S1⟩ := p
    rw [hf] at h
    cases r with
    | error x => exact fun cls dx H2 g2 s2 f2 => h cls dx σ H2 g2 s2 f2
    | ok a =>
      intro H1 g1 s1 f1
      show GoS K mg z (k a) S1 σ H1 g1 D
      have h' : GoS K mg z (k a) S1 σ H g D := by unfold GoS; exact h
      exact h'.at f1
theorem GoS.fr_seq {f : M Fl} {k : Fl → M Fl} {D D' : Ends} (h : GoS K mg z (f >>= k) S σ H g D)
    (hn : ∀ S1 σ1 H1 g1, SR K z S1 σ1 H1 g1 → Fr H g H1 g1 → GoS K mg z (k .next) S1 σ1 H1 g1 D → D'.nx σ1 H1)
    (hb : ∀ S1 σ1 H1 g1, SR K z S1 σ1 H1 g1 → Fr H g H1 g1 → GoS K mg z (k .brk) S1 σ1 H1 g1 D → D'.bk σ1 H1)
    (hc : ∀ S1 σ1 H1 g1, SR K z S1 σ1 H1 g1 → Fr H g H1 g1 → GoS K mg z (k .cont) S1 σ1 H1 g1 D → D'.ct σ1 H1)
    (hr : ∀ r S1 σ1 H1 g1 v, SR K z S1 σ1 H1 g1 → Fr H g H1 g1 → ResOk K z S1 σ1 H1 g1 v r → GoS K mg z (k (.ret r)) S1 σ1 H1 g1 D → D'.rt v H1) : GoS K mg z f S σ H g D' := by
  have e : (f >>= k) S = M.bnd f k S := rfl
  unfold GoS at h
  rw [e] at h
  unfold M.bnd at h
  unfold GoS
  cases hf : f S with
  | none => rw [hf] at h; exact h
  | some p =>
    obtain ⟨r, S1⟩ := p
    rw [hf] at h
    cases r with
    | error x => exact h
    | ok a =>
      have h' : GoS K mg z (k a) S1 σ H g D := by unfold GoS; exact h
      have h2 : ∀ σ1 H1 g1, Fr H g H1 g1 → GoS K mg z (k a) S1 σ1 H1 g1 D := by
        intro σ1 H1 g1 f1
        unfold GoS at h' ⊢
        cases hk : k a S1 with
        | none => rw [hk] at h'; exact h'
        | some q =>
          obtain ⟨r2, S2⟩ := q
          rw [hk] at h'
          cases r2 with
          | error x => exact fun cls dx σ2 H2 g2 s2 f2 => h' cls dx σ2 H2 g2 s2 (f1.trans f2)
          | ok a =>
            cases a with
            | ret r => exact fun σ2 H2 g2 v s2 f2 => h' σ2 H2 g2 v s2 (f1.trans f2)
            | next => exact fun σ2 H2 g2 s2 f2 => h' σ2 H2 g2 s2 (f1.trans f2)
            | brk => exact fun σ2 H2 g2 s2 f2 => h' σ2 H2 g2 s2 (f1.trans f2)
            | cont => exact fun σ2 H2 g2 s2 f2 => h' σ2 H2 g2 s2 (f1.trans f2)
      cases a with
      | next => exact fun σ1 H1 g1 s1 f1 => hn S1 σ1 H1 g1 s1 f1 (h2 σ1 H1 g1 f1)
      | brk => exact fun σ1 H1 g1 s1 f1 => hb S1 σ1 H1 g1 s1 f1 (h2 σ1 H1 g1 f1)
      | cont => exact fun σ1 H1 g1 s1 f1 => hc S1 σ1 H1 g1 s1 f1 (h2 σ1 H1 g1 f1)
      | ret r => exact fun σ1 H1 g1 v s1 f1 rv => hr r S1 σ1 H1 g1 v s1 f1 rv (h2 σ1 H1 g1 f1)
theorem GoS.seq {f : M Fl} {k : Fl → M Fl} {D D' : Ends} (h : GoS K mg z (f >>= k) S σ H g D)
    (hn : ∀ S1 σ1 H1 g1, SR K z S1 σ1 H1 g1 → GoS K mg z (k .next) S1 σ1 H1 g1 D → D'.nx σ1 H1)
    (hb : ∀ S1 σ1 H1 g1, SR K z S1 σ1 H1 g1 → GoS K mg z (k .brk) S1 σ1 H1 g1 D → D'.bk σ1 H1)
    (hc : ∀ S1 σ1 H1 g1, SR K z S1 σ1 H1 g1 → GoS K mg z (k .cont) S1 σ1 H1 g1 D → D'.ct σ1 H1)
    (hr : ∀ r S1 σ1 H1 g1 v, SR K z S1 σ1 H1 g1 → ResOk K z S1 σ1 H1 g1 v r → GoS K mg z (k (.ret r)) S1 σ1 H1 g1 D → D'.rt v H1) : GoS K mg z f S σ H g D' :=
  h.fr_seq (fun S1 σ1 H1 g1 s _ => hn S1 σ1 H1 g1 s) (fun S1 σ1 H1 g1 s _ => hb S1 σ1 H1 g1 s) (fun S1 σ1 H1 g1 s _ => hc S1 σ1 H1 g1 s) fun r S1 σ1 H1 g1 v s _ => hr r S1 σ1 H1 g1 v s
theorem GoS.next {D : Ends} (h : GoS K mg z (pure .next) S σ H g D) (s : SR K z S σ H g) : D.nx σ H := h σ H g s (Fr.refl _ _)
theorem GoS.brk {D : Ends} (h : GoS K mg z (pure .brk) S σ H g D) (s : SR K z S σ H g) : D.bk σ H := h σ H g s (Fr.refl _ _)
theorem GoS.cont {D : Ends} (h : GoS K mg z (pure .cont) S σ H g D) (s : SR K z S σ H g) : D.ct σ H := h σ H g s (Fr.refl _ _)
theorem GoS.ret {D : Ends} (h : GoS K mg z (pure (.ret r)) S σ H g D) (s : SR K z S σ H g) (rv : ResOk K z S σ H g v r) : D.rt v H := h σ H g v s (Fr.refl _ _) rv
def seqM (f h : M Fl) : M Fl := f >>= fun fl => match fl with
  | .next => h
  | x => pure x
variable {st : Stmt} {sts : List Stmt} {f h : M Fl}
theorem db_nil : DB X z [] (pure .next) := PSs.imp pss_nil fun D σ H ⟨S, g, s, q⟩ => q.next s
theorem db_one (h1 : DS X z st f) : DB X z [st] f := pss_one h1
theorem db_cons (h1 : DS X z st f) (h2 : DB X z sts h) : DB X z (st :: sts) (seqM f h) :=
  PSs.imp (pss_cons h1 h2) fun D σ H ⟨S, g, s, q⟩ => ⟨S, g, s, q.seq (D' := { D with nx := tS X.K X.mg z h D })
    (fun S1 σ1 H1 g1 s1 q1 => ⟨S1, g1, s1, q1⟩) (fun S1 σ1 H1 g1 s1 q1 => q1.brk s1) (fun S1 σ1 H1 g1 s1 q1 => q1.cont s1) fun r S1 σ1 H1 g1 v s1 rv q1 => q1.ret s1 rv⟩
def retM (f : M Res) : M Fl := f >>= fun r => pure (.ret r)
theorem ds_ret (ha : DE X z a fa) : DS X z (.Return (some a) pos) (retM fa) :=
  PS.imp (ps_ret ha) fun D σ H ⟨S, g, s, q⟩ => ⟨S, g, s, q.bnd.imp fun r S1 H1 g1 s1 f1 q1 v rv => q1.ret s1 rv⟩
def exprM (f : M Res) : M Fl := f >>= fun _ => pure .next
theorem ds_expr (ha : DE X z a fa) (hs : swapsWith a none pos.line X.env = pure false := by rfl) : DS X z (.Expr a pos) (exprM fa) :=
  PS.imp (ps_expr ha hs) fun D σ H ⟨S, g, s, q⟩ => ⟨S, g, s, q.bnd.imp fun r S1 H1 g1 s1 f1 q1 v rv => q1.next s1⟩
variable {xs ys : List Stmt} {ta : M Bool}
theorem ds_if (hc : DT X z c ta) (ha : DB X z xs f) (hb : DB X z ys h) : DS X z (.If c xs ys pos) (ifM ta f h) :=
  PS.imp (ps_if hc ha hb) fun D σ H ⟨S, g, s, q⟩ => ⟨S, g, s, q.bnd.imp fun k S1 H1 g1 s1 f1 q1 => by
    cases k with
    | true => exact ⟨S1, g1, s1, q1⟩
    | false => exact ⟨S1, g1, s1, q1⟩⟩
theorem SR.put_dat {i : Nat} (s : SR K z S σ H g) (rv : Rp K H g v d) : SR K z (S.put i (.dat d)) (σ.set i (some v)) H g where
  len := by show (S.env.set i _).length = _; rw [List.length_set, List.length_set]; exact s.len
  dat := fun j e h => by
    rcases set_get h with ⟨rfl, q⟩ | ⟨ne, q⟩
    · cases q
      have hl : i < σ.length := by
        have := (List.getElem?_eq_some_iff.mp h).1
        change i < (S.env.set i _).length at this
        rw [List.length_set, s.len] at this
        exact this
      exact ⟨v, List.getElem?_set_self hl, rv⟩
    · obtain ⟨w, e1, r⟩ := s.dat j e q
      exact ⟨w, by rw [List.getElem?_set_ne ne]; exact e1, r⟩
  own := fun j e h => by
    rcases set_get h with ⟨rfl, q⟩ | ⟨ne, q⟩
    · cases q
    · obtain ⟨b, e1, r⟩ := s.own j e q
      exact ⟨b, by rw [List.getElem?_set_ne ne]; exact e1, r⟩
  inj := fun j k d1 d2 b h1 h2 e1 e2 => by
    rcases set_get h1 with ⟨rfl, q⟩ | ⟨ne1, q1⟩
    · cases q
    · rcases set_get h2 with ⟨rfl, q⟩ | ⟨ne2, q2⟩
      · cases q
      · rw [List.getElem?_set_ne ne1] at e1
        rw [List.getElem?_set_ne ne2] at e2
        exact s.inj j k d1 d2 b q1 q2 e1 e2
  olen := s.olen
  obj := s.obj
  ond := s.ond
  mu := s.mu
  base := s.base
  b0 := s.b0
  keep := s.keep
  on := s.on
theorem SR.put_own {i : Nat} (s : SR K z S σ H g) (rv : ResOk K z S σ H g v (.new d)) : SR K z (S.put i (.own d)) (σ.set i (some v)) H g := by
  obtain ⟨a, rfl, hb, rt, h0, hm, hn⟩ := rv
  constructor
  · show (S.env.set i _).length = _; rw [List.length_set, List.length_set]; exact s.len
  · intro j e h
    rcases set_get h with ⟨rfl, q⟩ | ⟨ne, q⟩
    · cases q
    · obtain ⟨w, e1, r⟩ := s.dat j e q
      exact ⟨w, by rw [List.getElem?_set_ne ne]; exact e1, r⟩
  · intro j e h
    rcases set_get h with ⟨rfl, q⟩ | ⟨ne, q⟩
    · cases q
      have hl : i < σ.length := by
        have := (List.getElem?_eq_some_iff.mp h).1
        change i < (S.env.set i _).length at this
        rw [List.length_set, s.len] at this
        exact this
      exact ⟨a, List.getElem?_set_self hl, hb, rt, h0, hm⟩
    · obtain ⟨b, e1, r⟩ := s.own j e q
      exact ⟨b, by rw [List.getElem?_set_ne ne]; exact e1, r⟩
  · intro j k d1 d2 b h1 h2 e1 e2
    rcases set_get h1 with ⟨rfl, q⟩ | ⟨ne1, q1⟩
    · rcases set_get h2 with ⟨rfl, q⟩ | ⟨ne2, q2⟩
      · rfl
      · rw [List.getElem?_set_ne ne2] at e2
        rcases set_get e1 with ⟨_, w⟩ | ⟨w, _⟩
        · cases w; exact absurd e2 (hn k d2 q2)
        · exact absurd rfl w
    · rcases set_get h2 with ⟨rfl, q⟩ | ⟨ne2, q2⟩
      · rw [List.getElem?_set_ne ne1] at e1
        rcases set_get e2 with ⟨_, w⟩ | ⟨w, _⟩
        · cases w; exact absurd e1 (hn j d1 q1)
        · exact absurd rfl w
      · rw [List.getElem?_set_ne ne1] at e1
        rw [List.getElem?_set_ne ne2] at e2
        exact s.inj j k d1 d2 b q1 q2 e1 e2
  · exact s.olen
  · exact s.obj
  · exact s.ond
  · exact s.mu
  · exact s.base
  · exact s.b0
  · exact s.keep
  · exact s.on
def putM (i : Nat) (x : Slot) : M Unit := fun S => some (.ok (), S.put i x)
def setM (i : Nat) : Res → M Unit
  | .new d => putM i (.own d)
  | r => useM r >>= fun d => putM i (.dat d)
def asgM (i : Nat) (f : M Res) : M Fl := f >>= fun r => setM i r >>= fun _ => pure .next
theorem GoS.put {i : Nat} {x : Slot} {k : Unit → M Fl} {D : Ends} {σ' : L2.St} (h : GoS K mg z (putM i x >>= k) S σ H g D) : GoS K mg z (k ()) (S.put i x) σ' H g D := h
theorem GoS.use {k : D → M Fl} {D : Ends} (s : SR K z S σ H g) (r0 : ResOk K z S σ H g v r) (h : GoS K mg z (useM r >>= k) S σ H g D) :
    ∃ S' g', SR K z S' σ H g' ∧ Fr H g H g' ∧ Rp K H g' v r.d ∧ GoS K mg z (k r.d) S' σ H g' D := by
  cases r with
  | dat d => exact ⟨S, g, s, Fr.refl _ _, r0, h⟩
  | new d =>
    obtain ⟨g', s', f, r⟩ := s.new_del r0
    exact ⟨S, g', s', f, r, GoS.at (f := k d) h f⟩
  | own i d =>
    obtain ⟨e1, e2⟩ := r0
    obtain ⟨a, e3, _⟩ := s.own i d e1
    rw [e2] at e3; cases e3
    obtain ⟨s', r⟩ := s.use_own e1 e2
    exact ⟨_, _, s', Fr.del, r, Go.ok (by rw [useM_own, if_pos e1]; rfl) h.bnd s' Fr.del⟩
theorem GoS.set {i : Nat} {D : Ends} (s : SR K z S σ H g) (rv : ResOk K z S σ H g v r) (h : GoS K mg z (setM i r >>= fun _ => pure .next) S σ H g D) : D.nx (σ.set i (some v)) H := by
  have key : ∀ (r : Res), ResOk K z S σ H g v r → GoS K mg z ((useM r >>= fun d => putM i (.dat d)) >>= fun _ => pure .next) S σ H g D → D.nx (σ.set i (some v)) H := fun r rv h => by
    rw [bind_assoc] at h
    obtain ⟨S', g', s', f, rp, h2⟩ := h.use s rv
    exact GoS.next (GoS.put h2) (s'.put_dat rp)
  cases r with
  | dat d => exact key _ rv h
  | new d => exact GoS.next (GoS.put h) (s.put_own rv)
  | own j d => exact key _ rv h
theorem ds_set (i : Nat) {x : Str} {e : Expr} {fe : M Res} {pos' : Pos} (hN : X.N.Nodup) (he : DE X z e fe) (hi : X.N[i]? = some x := by rfl) (hx : Loc X.env.scope x := by first | exact .inl rfl | exact .inr rfl)
    (hs : swapsWith e (some (.Name x pos')) pos.line X.env = pure false := by rfl) (hf : X.fn x = true ∨ X.env.scope.names.lookup x = some .local := by first | exact .inl rfl | exact .inr rfl | assumption) :
    DS X z (.Assign [.Name x pos'] e pos) (asgM i fe) :=
  PS.imp (ps_set hN hi hx he hs hf) fun D σ H ⟨S, g, s, q⟩ => ⟨S, g, s, q.bnd.imp fun r S1 H1 g1 s1 f1 q1 v rv => GoS.set s1 rv q1⟩
structure Sm (ts : List Nat) (σ σ' : L2.St) : Prop where
  len : σ'.length = σ.length
  at_ : ∀ i, i ∉ ts → σ'[i]? = σ[i]?
theorem Sm.refl (ts : List Nat) (σ : L2.St) : Sm ts σ σ := ⟨rfl, fun _ _ => rfl⟩
theorem Sm.trans {ts us : List Nat} {σ σ1 σ2 : L2.St} (a : Sm ts σ σ1) (b : Sm us σ1 σ2) : Sm (ts ++ us) σ σ2 :=
  ⟨b.len.trans a.len, fun i h => (b.at_ i fun q => h (List.mem_append_right _ q)).trans (a.at_ i fun q => h (List.mem_append_left _ q))⟩
def GoG (K : PySem.W.Frag) (z : Zx) (ts : List Nat) (f : M Unit) (S : Sx) (σ : L2.St) (H : Hp) (g : Gh) (Q : L2.St → Hp → Prop) : Prop :=
  match f S with
  | some (.ok _, S') => ∀ σ' H' g', SR K z S' σ' H' g' → Fr H g H' g' → Sm ts σ σ' → Q σ' H'
  | _ => False
def tG (K : PySem.W.Frag) (z : Zx) (ts : List Nat) (f : D → M Unit) : TG := fun v σ H Q => ∃ S g d, SR K z S σ H g ∧ Rp K H g v d ∧ GoG K z ts (f d) S σ H g Q
def tGs (K : PySem.W.Frag) (z : Zx) (ts : List Nat) (f : List D → M Unit) : TGs := fun vs σ H Q => ∃ S g ds, SR K z S σ H g ∧ RpA K H g vs ds ∧ GoG K z ts (f ds) S σ H g Q
abbrev DG (X : Cx) (z : Zx) (ts : List Nat) (e : Expr) (f : D → M Unit) : Prop := PG X e (tG X.K z ts f)
abbrev DGs (X : Cx) (z : Zx) (ts : List Nat) (es : List Expr) (f : List D → M Unit) : Prop := PGs X es (tGs X.K z ts f)
theorem PG.imp {e : Expr} {t u : TG} (p : PG X e t) (h : ∀ v σ H Q, u v σ H Q → t v σ H Q) : PG X e u := ⟨fun pins s σ H v w Q I r q => p.run pins s σ H v w Q I r (h v σ H Q q)⟩
theorem PGs.imp {e : List Expr} {t u : TGs} (p : PGs X e t) (h : ∀ v σ H Q, u v σ H Q → t v σ H Q) : PGs X e u := ⟨fun pins s σ H v w Q I r q => p.run pins s σ H v w Q I r (h v σ H Q q)⟩
def gN (i : Nat) (d : D) : M Unit := putM i (.dat d)
theorem dg_name (i : Nat) {x : Str} (hN : X.N.Nodup) (hi : X.N[i]? = some x := by rfl) (hx : Loc X.env.scope x := by first | exact .inl rfl | exact .inr rfl)
    (hf : X.fn x = true ∨ X.env.scope.names.lookup x = some .local := by first | exact .inl rfl | exact .inr rfl | assumption) : DG X z [i] (.Name x pos) (gN i) :=
  PG.imp (pg_name hN hi hx hf) fun v σ H Q ⟨S, g, d, s, rv, q⟩ => q _ H g (s.put_dat rv) (Fr.refl _ _) ⟨List.length_set, fun j h => List.getElem?_set_ne fun e => h (List.mem_singleton.mpr e.symm)⟩
def gsN : List D → M Unit
  | [] => pure ()
  | _ => M.no
def gsC (f : D → M Unit) (h : List D → M Unit) : List D → M Unit
  | d :: ds => f d >>= fun _ => h ds
  | [] => M.no
theorem dgs_nil : DGs X z [] [] gsN := PGs.imp pgs_nil fun vs σ H Q ⟨S, g, ds, s, rv, q⟩ => by
  cases rv with
  | nil => exact ⟨rfl, q σ H g s (Fr.refl _ _) (Sm.refl _ _)⟩
  | cons => exact q.elim
theorem GoG.bnd {ts us : List Nat} {f : M Unit} {k : Unit → M Unit} {Q : L2.St → Hp → Prop} (h : GoG K z (ts ++ us) (f >>= k) S σ H g Q) : GoG K z ts f S σ H g fun σ1 H1 => ∃ S1 g1, SR K z S1 σ1 H1 g1 ∧ Fr H g H1 g1 ∧ GoG K z us (k ()) S1 σ1 H1 g1 Q := by
  have e : (f >>= k) S = M.bnd f k S := rfl
  unfold GoG at h ⊢
  rw [e] at h
  unfold M.bnd at h
  cases hf : f S with
  | none => rw [hf] at h; exact h
  | some p =>
    obtain ⟨r, S1⟩ := p
    rw [hf] at h
    cases r with
    | error x => exact h
    | ok a =>
      intro σ1 H1 g1 s1 f1 m1
      refine ⟨S1, g1, s1, f1, ?_⟩
      change (match k a S1 with
        | some (.ok _, S') => ∀ σ' H' g', SR K z S' σ' H' g' → Fr H g H' g' → Sm (ts ++ us) σ σ' → Q σ' H'
        | _ => False) at h
      cases hk : k a S1 with
      | none => rw [hk] at h; exact h.elim
      | some q =>
        obtain ⟨r2, S2⟩ := q
        rw [hk] at h
        cases r2 with
        | error x => exact h.elim
        | ok b => exact fun σ2 H2 g2 s2 f2 m2 => h σ2 H2 g2 s2 (f1.trans f2) (m1.trans m2)
theorem GoG.imp {ts : List Nat} {f : M Unit} {Q Q' : L2.St → Hp → Prop} (h : GoG K z ts f S σ H g Q) (hp : ∀ σ' H', Q σ' H' → Q' σ' H') : GoG K z ts f S σ H g Q' := by
  unfold GoG at h ⊢
  cases hf : f S with
  | none => rw [hf] at h; exact h
  | some p =>
    obtain ⟨r, S1⟩ := p
    rw [hf] at h
    cases r with
    | error x => exact h
    | ok a => exact fun σ1 H1 g1 s1 f1 m1 => hp _ _ (h σ1 H1 g1 s1 f1 m1)
theorem dgs_cons {ts us : List Nat} {e : Expr} {es : List Expr} {f : D → M Unit} {h : List D → M Unit} (h1 : DG X z ts e f) (h2 : DGs X z us es h)
    (hs : (assignEach (e :: es) X.env).map (·.2) = assign e X.env :: (assignEach es X.env).map (·.2) := by rfl) : DGs X z (ts ++ us) (e :: es) (gsC f h) :=
  PGs.imp (pgs_cons h1 h2 hs) fun vs σ H Q ⟨S, g, ds, s, rv, q⟩ => by
    cases rv with
    | nil => exact q.elim
    | cons rv rs =>
      exact ⟨_, _, rfl, S, g, _, s, rv, (GoG.bnd (f := f _) (k := fun _ => h _) q).imp fun σ' H' ⟨S1, g1, s1, f1, q2⟩ => ⟨S1, g1, _, s1, rs.fr f1 s.mu, q2⟩⟩
def gT (n : Nat) (h : List D → M Unit) : D → M Unit
  | .tup ds => if ds.length = n then h ds else M.no
  | _ => M.no
theorem dg_tup {ts : List Nat} {es : List Expr} {k n : Nat} {h : List D → M Unit} (hc : X.calm = true) (hh : DGs X z ts es h)
    (hn : (assignEach es X.env).length = n := by rfl) (hst : (assignEach es X.env).findIdx? (·.1) = none := by rfl) : DG X z ts (.Tuple es k pos) (gT n h) :=
  PG.imp (pg_tup hc hh hn hst) fun v σ H Q ⟨S, g, d, s, rv, q⟩ => by
    cases d <;> first | exact q.elim | skip
    rename_i ds
    obtain ⟨a, xs, rfl, hx, rx⟩ := Pk.tup (.inl rv)
    by_cases e : ds.length = n
    · change GoG X.K z ts (if ds.length = n then h ds else M.no) S σ H g Q at q
      rw [if_pos e] at q
      exact ⟨a, xs, rfl, SqT.of hx, by rw [rx.length]; exact e, S, g, ds, s, rx, q⟩
    · change GoG X.K z ts (if ds.length = n then h ds else M.no) S σ H g Q at q
      rw [if_neg e] at q
      exact q.elim
def asgG (fe : M Res) (f : D → M Unit) : M Fl := fe >>= fun r => useM r >>= fun d => f d >>= fun _ => pure .next
theorem GoS.goG {ts : List Nat} {f : M Unit} {D : Ends} (hne : ∀ S x S', f S ≠ some (.error x, S')) (h : GoS K mg z (f >>= fun _ => pure .next) S σ H g D) : GoG K z ts f S σ H g D.nx := by
  have e : (f >>= fun _ => (pure Fl.next : M Fl)) S = M.bnd f (fun _ => (pure Fl.next : M Fl)) S := rfl
  unfold GoS at h
  unfold GoG
  rw [e] at h
  unfold M.bnd at h
  cases hf : f S with
  | none => rw [hf] at h; exact h
  | some p =>
    obtain ⟨r, S1⟩ := p
    rw [hf] at h
    cases r with
    | error x => exact (hne _ _ _ hf).elim
    | ok a => exact fun σ1 H1 g1 s1 f1 _ => h σ1 H1 g1 s1 f1
def Calm (f : D → M Unit) : Prop := ∀ d S x S', f d S ≠ some (.error x, S')
def Calms (f : List D → M Unit) : Prop := ∀ d S x S', f d S ≠ some (.error x, S')
theorem calm_n {i : Nat} : Calm (gN i) := fun d S x S' e => by cases e
theorem calms_n : Calms gsN := fun d S x S' e => by cases d <;> cases e
theorem calms_c {f : D → M Unit} {h : List D → M Unit} (a : Calm f) (b : Calms h) : Calms (gsC f h) := fun d S x S' e => by
  cases d with
  | nil => cases e
  | cons d ds =>
    change M.bnd (f d) _ S = _ at e
    unfold M.bnd at e
    cases hf : f d S with
    | none => rw [hf] at e; cases e
    | some p =>
      obtain ⟨r, S1⟩ := p
      rw [hf] at e
      cases r with
      | error y => exact a _ _ _ _ hf
      | ok u => exact b _ _ _ _ e
theorem calm_t {n : Nat} {h : List D → M Unit} (b : Calms h) : Calm (gT n h) := fun d S x S' e => by
  cases d <;> first | (cases e; done) | skip
  rename_i ds
  change (if ds.length = n then h ds else M.no) S = _ at e
  split at e
  · exact b _ _ _ _ e
  · cases e
theorem ds_asg {ts : List Nat} {tg e : Expr} {fe : M Res} {f : D → M Unit} (hcl : Calm f) (he : DE X z e fe) (hg : DG X z ts tg f) (hs : swapsWithSole [tg] e pos.line X.env = pure false := by rfl) (hw : swappedStores [tg] e X.env = pure none := by rfl)
    (h1 : (assignEach [tg] X.env).map (·.2) = [assign tg X.env] := by rfl) : DS X z (.Assign [tg] e pos) (asgG fe f) :=
  PS.imp (ps_asg he hg hs hw h1) fun D σ H ⟨S, g, s, q⟩ => ⟨S, g, s, q.bnd.imp fun r S1 H1 g1 s1 f1 q1 v rv => by
    obtain ⟨S2, g2, s2, f2, rp, q2⟩ := GoS.use s1 rv q1
    exact ⟨S2, g2, _, s2, rp, GoS.goG (hcl _) q2⟩⟩
end
end DL
end
section
set_option maxRecDepth 100000
namespace DL
open PySem PySem.Spec L2
section
variable {X : Cx} {z : Zx} {S S' : Sx} {σ : L2.St} {H H' : Hp} {g g' : Gh} {v : V} {d : D} {r : Res} {pos : Pos} {a b c : Expr} {fa fb fc : M Res} {K : PySem.W.Frag} {mg : Str → Option Value}
  {st : Stmt} {sts xs ys body : List Stmt} {f h : M Fl} {t ta tb : M Bool}
def loopK (again : M Fl) : Fl → M Fl
  | .next => again
  | .cont => again
  | .brk => pure .next
  | .ret r => pure (.ret r)
def Grow (H H' : Hp) : Prop := H' = H ∨ ∃ p xs, H p = none ∧ H' = upd H p (.tup xs)
structure ItOk (K : PySem.W.Frag) (J : It) (ds : List D) (H0 : Hp) (g0 : Gh) : Prop where
  go : ∀ i d H g, Fr H0 g0 H g → ds[i]? = some d → J.go i H
  yld : ∀ i d H g x H', Fr H0 g0 H g → Mu H g → ds[i]? = some d → J.yld i H x H' → Grow H H' ∧ Rp K H' g x d
  stop : ∀ H g, Fr H0 g0 H g → J.stop ds.length H
def tI (K : PySem.W.Frag) (mg : Str → Option Value) (z : Zx) (f : M (List D)) : TI := fun σ H R => ∃ S g, SR K z S σ H g ∧ Go K mg z f S σ H g fun ds S' H' g' => ∀ J, ItOk K J ds H' g' → R J H'
abbrev DI (X : Cx) (z : Zx) (tg e : Expr) (f : M (List D)) : Prop := PI X tg e (tI X.K X.mg z f)
theorem PI.imp {tg e : Expr} {t u : TI} (p : PI X tg e t) (h : ∀ σ H Q, u σ H Q → t σ H Q) : PI X tg e u := ⟨fun pins s σ H Q I q => p.run pins s σ H Q I (h σ H Q q)⟩
theorem SR.grow (s : SR K z S σ H g) (h : Grow H H') : SR K z S σ H' g ∧ Fr H g H' g := by
  rcases h with rfl | ⟨p, xs, hp, rfl⟩
  · exact ⟨s, Fr.refl _ _⟩
  · exact ⟨s.upd_new hp, Fr.upd_new hp⟩
def iSeq (K : PySem.W.Frag) (tl : TE) : TI := fun σ H R => tl σ H fun x H1 => (∃ a, x = .ref a ∧ (∃ xs, SqL K H1 a xs) ∧ R (Itl K a) H1) ∨ ∃ a, x = .ref a ∧ (∃ xs, SqT K H1 a xs) ∧ R (Itt K a) H1
theorem pi_seq {tg l : Expr} {tl : TE} (hl : PE X l tl) : PI X tg l (iSeq X.K tl) := by
  constructor
  intro pins s0 σ0 G0 R inv hyp
  refine thn (hl.run pins s0 σ0 G0 _ inv hyp) ?_
  rintro w s1 ⟨x, G1, inv1, rel, alt⟩
  have fp : ∀ b ∈ [s1.heap.objs.size], FpOk X pins G1 b := fun b hb => by
    rw [List.mem_singleton] at hb
    subst hb
    exact inv1.fpOk (Nat.le_refl _) (inv1.hok.fresh (Nat.le_refl _))
  rcases alt with ⟨a, rfl, ⟨ys, sq⟩, fin⟩ | ⟨a, rfl, ⟨ys, sq⟩, fin⟩
  · obtain rfl : w = Value.ref a := rel
    obtain ⟨its, _, pl, _⟩ := inv1.list sq
    exact PySem.wpAny_pyIter_list pl.isList ⟨_, [s1.heap.objs.size], _, _, G1, rfl, inv1.kept (t' := s1.toks) (fun _ _ e => Heap.get?_push_of_some _ e), turn_list a _, ⟨_, Heap.get?_push_size _ rfl, rfl, rfl⟩, fp, fin⟩
  · obtain rfl : w = Value.ref a := rel
    obtain ⟨its, _, pl, _⟩ := inv1.tuple sq
    exact PySem.wpAny_pyIter_tuple (show s1.heap.IsTuple a its.toArray from pl) ⟨_, [s1.heap.objs.size], _, _, G1, rfl, inv1.kept (t' := s1.toks) (fun _ _ e => Heap.get?_push_of_some _ e), turn_tuple a _, ⟨_, Heap.get?_push_size _ rfl, rfl, rfl⟩, fp, fin⟩
theorem RpA.none {vs : List V} {ds : List D} {i : Nat} (r : RpA K H g vs ds) (h : ds.length ≤ i) : vs.length ≤ i := by rw [r.length]; exact h
theorem itl_ok {a : Addr} {xs : List V} {ds : List D} (h : H a = some (.lst xs)) (hb : ¬ g.bad a) (r : RpA K H g xs ds) (m : Mu H g) : ItOk K (Itl K a) ds H g where
  go := fun i d H1 g1 f e => let ⟨w, e1, _⟩ := r.get e; ⟨xs, w, SqL.of (f.keep _ _ h hb).1, e1⟩
  yld := fun i d H1 g1 x H2 f m1 e y => by
    obtain ⟨w, e1, rw⟩ := r.get e
    obtain ⟨rfl, y⟩ := y
    have := y xs (SqL.of (f.keep _ _ h hb).1)
    rw [e1] at this; cases this
    exact ⟨.inl rfl, rw.fr f m⟩
  stop := fun H1 g1 f => ⟨xs, SqL.of (f.keep _ _ h hb).1, by rw [r.length]; exact Nat.le_refl _⟩
theorem itr_ok {a : Addr} {xs : List V} {ds : List D} (h : RoL K H a xs) (r : RpA K H g xs ds) (m : Mu H g) : ItOk K (Itl K a) ds H g where
  go := fun i d H1 g1 f e => let ⟨w, e1, _⟩ := r.get e; ⟨xs, w, (f.rol m h).sq, e1⟩
  yld := fun i d H1 g1 x H2 f m1 e y => by
    obtain ⟨w, e1, rw⟩ := r.get e
    obtain ⟨rfl, y⟩ := y
    have := y xs (f.rol m h).sq
    rw [e1] at this; cases this
    exact ⟨.inl rfl, rw.fr f m⟩
  stop := fun H1 g1 f => ⟨xs, (f.rol m h).sq, by rw [r.length]; exact Nat.le_refl _⟩
theorem itt_ok {a : Addr} {xs : List V} {ds : List D} (h : H a = some (.tup xs)) (r : RpA K H g xs ds) (m : Mu H g) : ItOk K (Itt K a) ds H g where
  go := fun i d H1 g1 f e => let ⟨w, e1, _⟩ := r.get e; ⟨xs, w, SqT.of (f.tup m h), e1⟩
  yld := fun i d H1 g1 x H2 f m1 e y => by
    obtain ⟨w, e1, rw⟩ := r.get e
    obtain ⟨rfl, y⟩ := y
    have := y xs (SqT.of (f.tup m h))
    rw [e1] at this; cases this
    exact ⟨.inl rfl, rw.fr f m⟩
  stop := fun H1 g1 f => ⟨xs, SqT.of (f.tup m h), by rw [r.length]; exact Nat.le_refl _⟩
def D.items : D → Option (List D)
  | .lst ds => some ds
  | .rol ds => some ds
  | .tup ds => some ds
  | _ => none
def seqI (f : M Res) : M (List D) := f >>= fun r => useM r >>= fun d => M.opt d.items pure
theorem di_seq {tg : Expr} (ha : DE X z a fa) : DI X z tg a (seqI fa) :=
  PI.imp (pi_seq ha) fun σ H R ⟨S, g, s, q⟩ => ⟨S, g, s, q.bnd.imp fun r S1 H1 g1 s1 f1 q1 v rv => by
    obtain ⟨S2, g2, s2, f2, rp, q2⟩ := q1.use s1 rv
    obtain ⟨ds, e, q3⟩ := q2.opt
    have q4 := q3.pure s2
    cases hd : r.d <;> rw [hd] at e rp <;> simp [D.items] at e
    · subst e
      obtain ⟨a, xs, rfl, hx, rx⟩ := Pk.tup (.inl rp)
      exact .inr ⟨a, rfl, ⟨xs, SqT.of hx⟩, q4 _ (itt_ok hx rx s2.mu)⟩
    · subst e
      cases rp with
      | lst hx hb rx => exact .inl ⟨_, rfl, ⟨_, SqL.of hx⟩, q4 _ (itl_ok hx hb rx s2.mu)⟩
    · subst e
      cases rp with
      | rol hx rx => exact .inl ⟨_, rfl, ⟨_, hx.sq⟩, q4 _ (itr_ok hx rx s2.mu)⟩⟩
def rangeD (lo : Int) : Nat → List D
  | 0 => []
  | n + 1 => .int lo :: rangeD (lo + 1) n
theorem rangeD_len : ∀ (lo : Int) (n : Nat), (rangeD lo n).length = n
  | _, 0 => rfl
  | lo, n + 1 => congrArg Nat.succ (rangeD_len (lo + 1) n)
theorem rangeD_get : ∀ (lo : Int) (n i : Nat), i < n → (rangeD lo n)[i]? = some (.int (lo + i))
  | lo, n + 1, 0, _ => by simp [rangeD]
  | lo, n + 1, i + 1, h => by
    show (rangeD (lo + 1) n)[i]? = _
    rw [rangeD_get (lo + 1) n i (by omega)]
    congr 2
    push_cast
    omega
theorem itrng_ok {lo : Int} {n : Nat} : ItOk K (Itr lo n) (rangeD lo n) H g where
  go := fun i d H1 g1 f e => by
    have := (List.getElem?_eq_some_iff.mp e).1
    rw [rangeD_len] at this
    exact this
  yld := fun i d H1 g1 x H2 f m e y => by
    obtain ⟨rfl, rfl⟩ := y
    have h := (List.getElem?_eq_some_iff.mp e).1
    rw [rangeD_len] at h
    rw [rangeD_get lo n i h] at e
    cases e
    exact ⟨.inl rfl, .int _⟩
  stop := fun H1 g1 f => by rw [rangeD_len]; exact Nat.le_refl _
def rngOk (j : Int) : Bool := decide (-(2 ^ 62) ≤ j ∧ j < 2 ^ 62)
def rng1I (f : M Res) : M (List D) := f >>= fun r => M.opt r.d.isInt fun j => M.need (rngOk j) (pure (rangeD 0 j.toNat))
variable {es : List Expr} {fs : M (List Res)} {tg : Expr}
theorem Pk.isInt {i : Int} (p : Pk K H g v d) (e : d.isInt = some i) : v = .int i := by rw [isInt_eq e] at p; exact p.int
theorem di_rng1 {p : Pos} (hg : Gl X "range") (hm : X.mg "range" = none) (ha : DE X z a fa) (h1 : starEach [a] X.env = (false, eval a X.env) :: starEach [] X.env := by rfl) (hs : starEach [a] X.env = [(false, eval a X.env)] := by rfl) : DI X z tg (.Call (.Name "range" p) [a] [] pos) (rng1I fa) :=
  PI.imp (pi_range1 hg hm (pa_cons ha pa_nil h1) hs) fun σ H R ⟨S, g, s, q⟩ => ⟨S, g, s, q.bnd.imp fun r S1 H1 g1 s1 f1 q1 w rv => by
    obtain ⟨j, e, q2⟩ := q1.opt
    obtain ⟨c, q3⟩ := q2.need
    have c := of_decide_eq_true c
    exact ⟨j, by rw [(s1.pk rv).isInt e], c.1, c.2, q3.pure s1 _ itrng_ok⟩⟩
def forM (tgt : D → M Unit) (b : M Fl) : List D → M Fl
  | [] => pure .next
  | d :: ds => tgt d >>= fun _ => b >>= loopK (forM tgt b ds)
def forIn (it : M (List D)) (tgt : D → M Unit) (b : M Fl) : M Fl := it >>= fun ds => forM tgt b ds
theorem drop_get {α : Type} {l : List α} {i : Nat} {x : α} (h : l[i]? = some x) : l.drop i = x :: l.drop (i + 1) := by
  obtain ⟨hl, e⟩ := List.getElem?_eq_some_iff.mp h
  rw [List.drop_eq_getElem_cons hl, e]
theorem GoS.tgt {ts : List Nat} {f : M Unit} {k : Unit → M Fl} {D : Ends} (hne : ∀ S x S', f S ≠ some (.error x, S')) (h : GoS K mg z (f >>= k) S σ H g D) : GoG K z ts f S σ H g fun σ1 H1 => tS K mg z (k ()) D σ1 H1 := by
  have e : (f >>= k) S = M.bnd f k S := rfl
  unfold GoS at h
  unfold GoG
  rw [e] at h
  unfold M.bnd at h
  cases hf : f S with
  | none => rw [hf] at h; exact h
  | some p =>
    obtain ⟨r, S1⟩ := p
    rw [hf] at h
    cases r with
    | error x => exact (hne _ _ _ hf).elim
    | ok a =>
      intro σ1 H1 g1 s1 f1 m1
      refine ⟨S1, g1, s1, ?_⟩
      have h' : ∀ σ1 : L2.St, GoS K mg z (k ()) S1 σ1 H g D := fun σ1 => by
        unfold GoS
        change (match k () S1 with
          | none => False
          | some (.ok .next, S') => ∀ σ' H' g', SR K z S' σ' H' g' → Fr H g H' g' → D.nx σ' H'
          | some (.ok .brk, S') => ∀ σ' H' g', SR K z S' σ' H' g' → Fr H g H' g' → D.bk σ' H'
          | some (.ok .cont, S') => ∀ σ' H' g', SR K z S' σ' H' g' → Fr H g H' g' → D.ct σ' H'
          | some (.ok (.ret r), S') => ∀ σ' H' g' v, SR K z S' σ' H' g' → Fr H g H' g' → ResOk K z S' σ' H' g' v r → D.rt v H'
          | some (.error x, S') => ∀ cls dx σ' H' g', SR K z S' σ' H' g' → Fr H g H' g' → ExnOk K mg H' g' cls dx x → z.W cls dx σ' H') at h
        exact h
      exact (h' σ1).at f1
theorem ds_for {ts : List Nat} {iter : Expr} {it : M (List D)} {tgt : D → M Unit} (hp : PassesOwn (model X.prog X.w) X.A X.env X.xe) (hc : X.calm = true) (hcl : Calm tgt) (hi : DI X z tg iter it) (hg : DG X z ts tg tgt) (hb : DB X z body h)
    (hs : ∀ x, foldedSetIterable iter X.env x = pure x := by intro _; rfl) : DS X z (.For tg iter body [] pos) (forIn it tgt h) :=
  PS.imp (ps_for hp hc hi hg hb hs) fun D σ H ⟨S, g, s, q⟩ => ⟨S, g, s, q.bnd.imp fun ds S1 H1 g1 s1 f1 q1 J ok => by
    refine ⟨fun i m σ H => m = ds.length - i ∧ i ≤ ds.length ∧ ∃ S g, SR X.K z S σ H g ∧ Fr H1 g1 H g ∧ GoS X.K X.mg z (forM tgt h (ds.drop i)) S σ H g D, ⟨ds.length, by simp, Nat.zero_le _, S1, g1, s1, Fr.refl _ _, q1⟩, ?_⟩
    rintro i m σ2 H2 ⟨rfl, hi, S2, g2, s2, f2, q2⟩
    by_cases hlt : i < ds.length
    · have e := List.getElem?_eq_getElem hlt
      refine .inr ⟨ok.go i _ H2 g2 f2 e, fun σ H => ∃ S g, SR X.K z S σ H g ∧ Fr H1 g1 H g ∧ GoS X.K X.mg z (forM tgt h (ds.drop (i + 1))) S σ H g D, fun σ' H' w => ⟨ds.length - (i + 1), by omega, rfl, hlt, w⟩, fun x H3 y => ?_⟩
      obtain ⟨gr, rx⟩ := ok.yld i _ H2 g2 x H3 f2 s2.mu e y
      obtain ⟨s3, f3⟩ := s2.grow gr
      rw [drop_get e] at q2
      refine ⟨S2, g2, _, s3, rx, ?_⟩
      have q3 := GoS.tgt (ts := ts) (hcl _) (q2.at f3)
      unfold GoG at q3 ⊢
      cases hf : tgt ds[i] S2 with
      | none => rw [hf] at q3; exact q3
      | some p =>
        obtain ⟨r, S4⟩ := p
        rw [hf] at q3
        cases r with
        | error x => exact (hcl _ _ _ _ hf).elim
        | ok u =>
          intro σ4 H4 g4 s4 f4 m4
          have q4 : GoS X.K X.mg z (h >>= loopK (forM tgt h (ds.drop (i + 1)))) S4 σ4 H4 g4 D := by
            have q5 := q2.at f3
            have e5 : (forM tgt h (ds[i] :: ds.drop (i + 1))) S2 = (h >>= loopK (forM tgt h (ds.drop (i + 1)))) S4 := bind_ok hf
            have q6 : GoS X.K X.mg z (h >>= loopK (forM tgt h (ds.drop (i + 1)))) S4 σ2 H3 g2 D := by
              unfold GoS at q5 ⊢
              rw [e5] at q5
              exact q5
            have q7 : GoS X.K X.mg z (h >>= loopK (forM tgt h (ds.drop (i + 1)))) S4 σ4 H3 g2 D := by
              unfold GoS at q6 ⊢
              exact q6
            exact q7.at f4
          have fr : Fr H1 g1 H4 g4 := (f2.trans f3).trans f4
          refine ⟨S4, g4, s4, ?_⟩
          refine GoS.fr_seq q4 (D' := { D with nx := _, ct := _, bk := D.nx }) ?_ ?_ ?_ ?_
          · exact fun S6 σ6 H6 g6 s6 f6 q6 => ⟨S6, g6, s6, fr.trans f6, q6⟩
          · exact fun S6 σ6 H6 g6 s6 f6 q6 => q6.next s6
          · exact fun S6 σ6 H6 g6 s6 f6 q6 => ⟨S6, g6, s6, fr.trans f6, q6⟩
          · exact fun r S6 σ6 H6 g6 v s6 f6 rv q6 => q6.ret s6 rv
    · have e : i = ds.length := by omega
      subst e
      rw [List.drop_length] at q2
      exact .inl ⟨ok.stop H2 g2 f2, q2.next s2⟩⟩
end
end DL
end
section
set_option maxRecDepth 100000
namespace DL
open PySem PySem.Spec L2
abbrev Den := List D → List D → Option (Except Exn Res × List D)
def ObsOk (K : PySem.W.Frag) (H : Hp) (g : Gh) (objs : List D) : Prop := objs.length = g.om.length ∧ ∀ (n : Nat) (a : Addr) (d : D), g.om[n]? = some a → objs[n]? = some d → Root K H g a d ∧ g.bad a
def ROk (K : PySem.W.Frag) (H0 H : Hp) (g : Gh) (v : V) : Res → Prop
  | .dat d => Rp K H g v d
  | .new d => ∃ a, v = .ref a ∧ g.bad a ∧ Root K H g a d ∧ H0 a = none ∧ a ∉ g.om
  | .own _ _ => False
structure Behind (K : PySem.W.Frag) (H : Hp) (g : Gh) (objs' : List D) (H' : Hp) (g' : Gh) : Prop where
  keep : ∀ a o, H a = some o → a ∉ g'.om → H' a = some o
  base : ∀ a, g.bad a → g'.bad a
  om : g.om <+: g'.om
  ond : g'.om.Nodup
  mu : Mu H' g'
  obs : ObsOk K H' g' objs'
  new : ∀ a, a ∈ g'.om → a ∈ g.om ∨ H a = none
def spDen (K : PySem.W.Frag) (mg : Str → Option Value) (n : Nat) (den : Den) : Sp := fun vs H Q E => ∃ (g : Gh) (ds objs : List D), vs.length = n ∧ Mu H g ∧ g.om.Nodup ∧ RpA K H g vs ds ∧ ObsOk K H g objs ∧
  match den ds objs with
  | none => False
  | some (.ok r, objs') => ∀ H' g' v, Behind K H g objs' H' g' → ROk K H H' g' v r → Q v H'
  | some (.error x, objs') => ∀ cls dx H' g', Behind K H g objs' H' g' → ExnOk K mg H' g' cls dx x → E cls dx H'
structure FnG (P : Program) (w : World) (K : PySem.W.Frag) (mg : Str → Option Value) (base : Heap) (k : Nat) (f : Addr) (fd : FuncData) (ps : List Str) (sp : Sp) : Prop where
  len : ∀ vs H Q E, sp vs H Q E → vs.length = ps.length
  run : ∀ (A : Around) (outer : List Env) (s : Shared) (H : Hp) (args : Args) (us : List Value) (vs : List V) (Q : VK) (E : XK), A.guards = some [] → Room k A → Env0 P w K mg base A outer s H → BindsTo s fd args (ps.zip us) → Vals vs us →
    sp vs H Q E → codeAny (model P w) A (.call (.ref f) args) (CR (L2.CX P w) outer P w H s Q E) s
section
variable {P : Program} {w : World} {K : PySem.W.Frag} {mg : Str → Option Value} {base : Heap}
theorem FnG.mono {j k : Nat} {f : Addr} {fd : FuncData} {ps : List Str} {sp : Sp} (F : FnG P w K mg base j f fd ps sp) (h : j ≤ k) : FnG P w K mg base k f fd ps sp :=
  ⟨F.len, fun A outer s H args us vs Q E hG hr => F.run A outer s H args us vs Q E hG (hr.mono h)⟩
theorem FnG.imp {k : Nat} {f : Addr} {fd : FuncData} {ps : List Str} {sp sp' : Sp} (F : FnG P w K mg base k f fd ps sp) (h : ∀ vs H Q E, sp' vs H Q E → sp vs H Q E) : FnG P w K mg base k f fd ps sp' :=
  ⟨fun vs H Q E q => F.len vs H Q E (h _ _ _ _ q), fun A outer s H args us vs Q E hG hr he hb hv q => F.run A outer s H args us vs Q E hG hr he hb hv (h _ _ _ _ q)⟩
abbrev bodyX (P : Program) (w : World) (K : PySem.W.Frag) (mg : Str → Option Value) (base : Heap) (N : List Str) (qual : Str) (st : Stmt) (f : Addr) (cdv : Value) (A : Around) (outer : List Env) (s : Shared) (H : Hp) (E : XK) : Cx :=
  cxOf (L2.CX P w) P w K mg base N qual (defScope st) f cdv A outer s H E
theorem okGC {x qual : Str} {st : Stmt} {f : Addr} {fd : FuncData} {N ps : List Str} {k : Nat} {sp : Sp} (F : Fun K x qual st f fd) (Sc : FnScope N ps (defScope st)) (ln : ∀ vs H Q E, sp vs H Q E → vs.length = ps.length)
    (bod : ∀ (cdv : Value), fd.code = cdv → ∀ (A : Around) (outer : List Env) (s : Shared) (H : Hp) (vs : List V) (Q : VK) (E : XK), A.guards = some [] → Room k (A.deeper (PyProof.Rows.envOfC qual (defScope st) s.heap.objs.size f cdv)) → sp vs H Q E →
      ∃ t, PSs (bodyX P w K mg base N qual st f cdv A outer s H E) (defBody st) t ∧ t { nx := fun _ H1 => Q .non H1, rt := Q } (start N vs) H) : FnG P w K mg base (k + 1) f fd ps sp := by
  obtain ⟨oc, od, kV, doc, pm, an, cdv, ct, osl, rfl, look, code⟩ := F.ex
  constructor
  · exact ln
  intro A outer s0 H args us vs Q E gd room env0 bnd rel prom
  have size := ln vs H Q E prom
  have inK : K.In s0.heap := env0.mod.kin.keeps fun _ _ e => (env0.bs _ _ e).1
  have noL : s0.heap.NoLimit := env0.mod.nolimit.keeps fun _ _ e => (env0.bs _ _ e).1
  refine codeAny_call_function room.depth (inK f _ look) rfl Sc.co Sc.gen rfl (PySem.W.codeRec_of inK code) (bnd _ _ _ _ ?_)
  have kinds : ∀ y ∈ ps.zip us, (defScope st).names.lookup y.1 = some .local ∨ ((defScope st).names.lookup y.1 = some .cell ∧ ((cellsFrom (s0.heap.objs.size + 1) (defScope st).names []).lookup y.1).isSome = true) := by
    rintro ⟨n, u⟩ hy
    rcases Sc.par n (List.of_mem_zip hy).1 with q | q
    · exact .inl q
    · exact .inr ⟨q, PySem.W.cellsFrom_some _ _ _ (.inl q)⟩
  refine wpAny_newFunctionEnv_cells Sc.kind kinds ?_
  intro env e0 s2 into
  subst e0
  refine ⟨noL.keeps into.toInCall.keep, ?_⟩
  refine codeAny_func ?_
  obtain ⟨t, walk, hyp⟩ := bod cdv rfl A outer s0 H vs Q E gd (room.deeper _) prom
  have I0 := inv_start (CX := L2.CX P w) (E := E) (f := f) (cd := cdv) Sc room.hd env0 size rel into
  refine wpAny_mono (walk.run [] s2 (start N vs) H _ I0 hyp) ?_ (fun e s3 q => q)
  intro fl s3 q
  cases fl with
  | next =>
    obtain ⟨σ3, H3, J, q⟩ := q
    exact ⟨.non, H3, J.os, J.bare, J.base, J.hok, rfl, q⟩
  | ret u =>
    obtain ⟨v, σ3, H3, J, rv, q⟩ := q
    exact ⟨v, H3, J.os, J.bare, J.base, J.hok, rv, q⟩
  | brk => obtain ⟨_, _, _, q⟩ := q; exact q.elim
  | cont => obtain ⟨_, _, _, q⟩ := q; exact q.elim
end
def outR : Res → Res
  | .own _ d => .new d
  | r => r
def runB (n : Nat) (f : M Fl) : Den := fun ds objs => match f ⟨ds.map .dat ++ List.replicate (n - ds.length) .un, objs⟩ with
  | some (.ok .next, S') => some (.ok (.dat .non), S'.objs)
  | some (.ok (.ret r), S') => some (.ok (outR r), S'.objs)
  | some (.error x, S') => some (.error x, S'.objs)
  | _ => none
section
variable {P : Program} {w : World} {K : PySem.W.Frag} {mg : Str → Option Value} {base : Heap} {z : Zx} {S S' : Sx} {σ : L2.St} {H H' H0 : Hp} {g g' : Gh} {v : V} {d : D} {r : Res}
theorem SR.start {N : List Str} {W : WX} {vs : List V} {ds objs : List D} (hm : Mu H g) (hn : g.om.Nodup) (rv : RpA K H g vs ds) (ob : ObsOk K H g objs) :
    SR K ⟨H, g.bad, g.om, W⟩ ⟨ds.map .dat ++ List.replicate (N.length - ds.length) .un, objs⟩ (L2.start N vs) H g where
  len := by unfold L2.start; simp [rv.length]
  dat := fun i d e => by
    have hl := rv.length
    by_cases h : i < ds.length
    · have e' : (ds.map Slot.dat ++ List.replicate (N.length - ds.length) .un)[i]? = some (.dat d) := e
      rw [List.getElem?_append_left (by simpa using h), List.getElem?_map] at e'
      obtain ⟨d', e1, e2⟩ := Option.map_eq_some_iff.mp e'
      cases e2
      obtain ⟨v, e3, r⟩ := rv.get e1
      refine ⟨v, ?_, r⟩
      unfold L2.start
      rw [List.getElem?_append_left (by simpa [hl] using h), List.getElem?_map, e3]
      rfl
    · have e' : (ds.map Slot.dat ++ List.replicate (N.length - ds.length) .un)[i]? = some (.dat d) := e
      rw [List.getElem?_append_right (by simpa using h), List.getElem?_replicate] at e'
      split at e' <;> cases e'
  own := fun i d e => by
    have e' : (ds.map Slot.dat ++ List.replicate (N.length - ds.length) .un)[i]? = some (.own d) := e
    by_cases h : i < ds.length
    · rw [List.getElem?_append_left (by simpa using h), List.getElem?_map] at e'
      obtain ⟨d', _, e2⟩ := Option.map_eq_some_iff.mp e'
      cases e2
    · rw [List.getElem?_append_right (by simpa using h), List.getElem?_replicate] at e'
      split at e' <;> cases e'
  inj := fun i j d1 d2 a e => by
    have e' : (ds.map Slot.dat ++ List.replicate (N.length - ds.length) .un)[i]? = some (.own d1) := e
    by_cases h : i < ds.length
    · rw [List.getElem?_append_left (by simpa using h), List.getElem?_map] at e'
      obtain ⟨d', _, e2⟩ := Option.map_eq_some_iff.mp e'
      cases e2
    · rw [List.getElem?_append_right (by simpa using h), List.getElem?_replicate] at e'
      split at e' <;> cases e'
  olen := ob.1
  obj := ob.2
  ond := hn
  mu := hm
  base := fun a h => h
  b0 := fun a h e => by have := hm a h; change H a = none at e; rw [e] at this; exact this
  keep := fun a o h _ => h
  on := fun a h => .inl h
theorem SR.behind {W : WX} (s : SR K ⟨H0, g.bad, g.om, W⟩ S σ H' g') (f : Fr H0 g H' g') : Behind K H0 g S.objs H' g' := ⟨s.keep, s.base, f.om, s.ond, s.mu, ⟨s.olen, s.obj⟩, s.on⟩
theorem okDC {x qual : Str} {st : Stmt} {f : Addr} {fd : FuncData} {N ps : List Str} {k : Nat} {m : M Fl} (F : Fun K x qual st f fd) (Sc : FnScope N ps (defScope st))
    (bod : ∀ (cdv : Value), fd.code = cdv → ∀ (A : Around) (outer : List Env) (s : Shared) (H : Hp) (E : XK) (z : Zx), A.guards = some [] → Room k (A.deeper (PyProof.Rows.envOfC qual (defScope st) s.heap.objs.size f cdv)) → Takes (bodyX P w K mg base N qual st f cdv A outer s H E) z.W →
      DB (bodyX P w K mg base N qual st f cdv A outer s H E) z (defBody st) m) : FnG P w K mg base (k + 1) f fd ps (spDen K mg ps.length (runB N.length m)) := by
  refine okGC F Sc (fun vs H Q E h => let ⟨_, _, _, l, _⟩ := h; l) fun cdv hc A outer s H vs Q E gd room prom => ?_
  obtain ⟨g, ds, objs, hl, hm, hn, rv, ob, q⟩ := prom
  have tk : Takes (bodyX P w K mg base N qual st f cdv A outer s H E) (fun cls dx _ H => E cls dx H) := takes_of rfl rfl rfl rfl
  refine ⟨_, bod cdv hc A outer s H E ⟨H, g.bad, g.om, fun cls dx _ H => E cls dx H⟩ gd room tk, _, g, SR.start hm hn rv ob, ?_⟩
  unfold GoS
  unfold runB at q
  split at q
  · exact q.elim
  · rename_i r objs' e
    split at e
    · rename_i S' e1
      cases e
      rw [e1]
      exact fun σ' H' g' s f => q H' g' .non (s.behind f) .non
    · rename_i r' S' e1
      cases e
      rw [e1]
      refine fun σ' H' g' v s f rr => q H' g' v (s.behind f) ?_
      cases r' with
      | dat d => exact rr
      | new d => obtain ⟨a, e, hb, rt, h0, ho, _⟩ := rr; exact ⟨a, e, hb, rt, h0, ho⟩
      | own i d =>
        obtain ⟨e1, e2⟩ := rr
        obtain ⟨a, e3, hb, rt, h0, ho⟩ := s.own i d e1
        rw [e2] at e3; cases e3
        exact ⟨a, rfl, hb, rt, h0, ho⟩
    · cases e
    · cases e
  · rename_i x objs' e
    split at e
    · cases e
    · cases e
    · rename_i x' S' e1
      cases e
      rw [e1]
      exact fun cls dx σ' H' g' s f ex => q cls dx H' g' (s.behind f) ex
    · cases e
theorem okD {x qual : Str} {st : Stmt} {f : Addr} {fd : FuncData} {N ps : List Str} {k : Nat} {m : M Fl} (F : Fun K x qual st f fd) (Sc : FnScope N ps (defScope st))
    (bod : ∀ (cdv : Value) (A : Around) (outer : List Env) (s : Shared) (H : Hp) (E : XK) (z : Zx), A.guards = some [] → Room k (A.deeper (PyProof.Rows.envOfC qual (defScope st) s.heap.objs.size f cdv)) → Takes (bodyX P w K mg base N qual st f cdv A outer s H E) z.W →
      DB (bodyX P w K mg base N qual st f cdv A outer s H E) z (defBody st) m) : FnG P w K mg base (k + 1) f fd ps (spDen K mg ps.length (runB N.length m)) :=
  okDC F Sc fun cdv _ => bod cdv
end
def putAll : List Res → Sx → Sx
  | [], S => S
  | .own i d :: rs, S => putAll rs (S.put i (.dat d))
  | _ :: rs, S => putAll rs S
def Res.safe : Res → Bool
  | .dat d => d.imm
  | .new d => D.imms d.parts
  | .own _ _ => false
def callM (n : Nat) (den : Den) (fs : M (List Res)) : M Res := fs >>= fun rs => fun S => if rs.length = n then (match den (rs.map (·.d)) S.objs with
  | none => none
  | some (.error x, objs') => some (.error x, putAll rs { S with objs := objs' })
  | some (.ok r, objs') => if r.safe && objs'.all (fun o => D.imms o.parts) then some (.ok r, { S with objs := objs' }) else some (.ok r, putAll rs { S with objs := objs' })) else none
section
variable {X : Cx} {z : Zx} {S S' : Sx} {σ : L2.St} {H H' H0 : Hp} {g g' g2 : Gh} {v : V} {d : D} {r : Res} {K : PySem.W.Frag} {mg : Str → Option Value}
theorem putAll_objs : ∀ (rs : List Res) (S : Sx) (o : List D), putAll rs { S with objs := o } = { putAll rs S with objs := o }
  | [], _, _ => rfl
  | .own i d :: rs, S, o => putAll_objs rs (S.put i (.dat d)) o
  | .dat _ :: rs, S, o => putAll_objs rs S o
  | .new _ :: rs, S, o => putAll_objs rs S o
def ResAt (K : PySem.W.Frag) (S : Sx) (σ : L2.St) (H : Hp) (g : Gh) (v : V) : Res → Prop
  | .dat d => Rp K H g v d
  | .new d => False
  | .own i d => (S.env[i]? = some (.own d) ∨ S.env[i]? = some (.dat d)) ∧ σ[i]? = some (some v)
theorem put_same {i : Nat} {x : Slot} (h : S.env[i]? = some x) : S.put i x = S := by
  unfold Sx.put
  obtain ⟨hl, e⟩ := List.getElem?_eq_some_iff.mp h
  have : S.env.set i x = S.env := by rw [← e]; exact List.set_getElem_self hl
  rw [this]
theorem SR.putAll : ∀ {rs : List Res} {vs : List V} {S : Sx} {g : Gh}, SR K z S σ H g → Paired (ResAt K S σ H g) vs rs → ∃ g', SR K z (DL.putAll rs S) σ H g' ∧ Fr H g H g' ∧ g'.om = g.om ∧ (∀ a, g'.bad a → g.bad a) ∧ RpA K H g' vs (rs.map (·.d))
  | [], _, S, g, s, .nil => ⟨g, s, Fr.refl _ _, rfl, fun _ h => h, .nil⟩
  | .new d :: rs, _, S, g, s, .cons a t => a.elim
  | .dat d :: rs, _, S, g, s, .cons a t => by
    obtain ⟨g1, s1, f1, o1, b1, r1⟩ := SR.putAll s t
    exact ⟨g1, s1, f1, o1, b1, .cons (Rp.fr f1 s.mu a) r1⟩
  | .own i d :: rs, _, S, g, s, .cons a t => by
    obtain ⟨e1, e2⟩ := a
    rename_i v vs
    rcases e1 with e1 | e1
    · obtain ⟨a, e3, _⟩ := s.own i d e1
      rw [e2] at e3; cases e3
      obtain ⟨s1, r1⟩ := s.use_own e1 e2
      have hl : i < S.env.length := (List.getElem?_eq_some_iff.mp e1).1
      have t1 : Paired (ResAt K (S.put i (.dat d)) σ H (g.del a)) vs rs := Paired.mapP t fun v q hq => by
        cases q with
        | dat d' => exact Rp.fr Fr.del s.mu hq
        | new d' => exact hq.elim
        | own j d' =>
          refine ⟨?_, hq.2⟩
          by_cases ij : i = j
          · subst ij
            have : d' = d := by rcases hq.1 with q | q <;> rw [e1] at q <;> cases q; rfl
            subst this
            exact .inr (List.getElem?_set_self hl)
          · rcases hq.1 with q | q
            · exact .inl ((List.getElem?_set_ne ij).trans q)
            · exact .inr ((List.getElem?_set_ne ij).trans q)
      obtain ⟨g2, s2, f2, o2, b2, r2⟩ := SR.putAll s1 t1
      exact ⟨g2, s2, Fr.del.trans f2, o2, fun b h => (b2 b h).1, .cons (r1.fr f2 s1.mu) r2⟩
    · obtain ⟨w, e3, rw'⟩ := s.dat i d e1
      rw [e2] at e3; cases e3
      have t1 : Paired (ResAt K (S.put i (.dat d)) σ H g) vs rs := by rw [put_same e1]; exact t
      have s1 : SR K z (S.put i (.dat d)) σ H g := by rw [put_same e1]; exact s
      obtain ⟨g2, s2, f2, o2, b2, r2⟩ := SR.putAll s1 t1
      exact ⟨g2, s2, f2, o2, b2, .cons (rw'.fr f2 s.mu) r2⟩
theorem resAt_of {rs : List Res} {vs : List V} (hh : Held rs) (h : Paired (ResOk K z S σ H g) vs rs) : Paired (ResAt K S σ H g) vs rs := by
  induction h with
  | nil => exact .nil
  | @cons v r vs rs a t ih =>
    refine .cons ?_ (ih fun q hq => hh q (List.mem_cons_of_mem _ hq))
    cases r with
    | dat d => exact a
    | new d => exact absurd (hh _ List.mem_cons_self) (by intro e; cases e)
    | own i d => exact ⟨.inl a.1, a.2⟩
def Gh.aft (g g' : Gh) (root : Addr → Prop) : Gh := ⟨fun a => g.bad a ∨ a ∈ g'.om ∨ root a, g'.om⟩
theorem Behind.fr {objs' : List D} {root : Addr → Prop} (s : SR K z S σ H g) (bh : Behind K H g2 objs' H' g') (ho : g2.om = g.om) (hroot : ∀ a, root a → H a = none) : Fr H g H' (g.aft g' root) where
  keep := fun a o h n => by
    have hm : a ∉ g'.om := fun hm => by
      rcases bh.new a hm with q | q
      · rw [ho] at q
        obtain ⟨i, hi⟩ := List.mem_iff_getElem?.mp q
        have hl : i < S.objs.length := by rw [s.olen]; exact (List.getElem?_eq_some_iff.mp hi).1
        exact n (s.obj i a _ hi (List.getElem?_eq_getElem hl)).2
      · rw [h] at q; cases q
    refine ⟨bh.keep a o h hm, fun q => ?_⟩
    rcases q with q | q | q
    · exact n q
    · exact hm q
    · rw [hroot a q] at h; cases h
  om := ho ▸ bh.om
theorem Behind.sr {objs' : List D} {root : Addr → Prop} (s : SR K z S σ H g) (bh : Behind K H g2 objs' H' g') (ho : g2.om = g.om) (hroot : ∀ a, root a → H a = none ∧ g'.bad a)
    (hobs : ∀ (n : Nat) (a : Addr) (d : D), g'.om[n]? = some a → objs'[n]? = some d → Root K H' (g.aft g' root) a d) : SR K z { S with objs := objs' } σ H' (g.aft g' root) := by
  have fr : Fr H g H' (g.aft g' root) := bh.fr s ho fun a h => (hroot a h).1
  have mem : ∀ a, a ∈ g'.om → a ∈ g.om ∨ H a = none := fun a h => ho ▸ bh.new a h
  have same : ∀ a, H a ≠ none → a ∉ g.om → H' a = H a := fun a h n => by
    cases e : H a with
    | none => exact absurd e h
    | some o => exact bh.keep a o e fun hm => (mem a hm).elim n fun q => h q
  constructor
  · exact s.len
  · intro i d e
    obtain ⟨v, e1, r⟩ := s.dat i d e
    exact ⟨v, e1, r.fr fr s.mu⟩
  · intro i d e
    obtain ⟨a, e1, hb, r, h0, hm⟩ := s.own i d e
    exact ⟨a, e1, .inl hb, r.fr fr s.mu (same a r.there hm), h0, fun q => (mem a q).elim hm fun q => r.there q⟩
  · exact s.inj
  · exact bh.obs.1
  · exact fun n a d e1 e2 => ⟨hobs n a d e1 e2, .inr (.inl (List.mem_iff_getElem?.mpr ⟨n, e1⟩))⟩
  · exact bh.ond
  · intro a hb
    have inom : a ∈ g'.om → Mut (H' a) := fun q => by
      obtain ⟨i, hi⟩ := List.mem_iff_getElem?.mp q
      have hl : i < objs'.length := by rw [bh.obs.1]; exact (List.getElem?_eq_some_iff.mp hi).1
      exact bh.mu a (bh.obs.2 i a _ hi (List.getElem?_eq_getElem hl)).2
    rcases hb with q | q | q
    · by_cases hm : a ∈ g'.om
      · exact inom hm
      · have mu := s.mu a q
        cases e : H a with
        | none => rw [e] at mu; exact mu.elim
        | some o => rw [bh.keep a o e hm, ← e]; exact mu
    · exact inom q
    · exact bh.mu a (hroot a q).2
  · exact fun a h => .inl (s.base a h)
  · exact s.b0
  · intro a o h hm
    have hm' : a ∉ g.om := fun q => hm (by
      obtain ⟨t, e⟩ := bh.om
      rw [ho] at e
      show a ∈ g'.om
      rw [← e]
      exact List.mem_append_left _ q)
    exact bh.keep a o (s.keep a o h hm') hm
  · intro a h
    rcases mem a h with q | q
    · exact s.on a q
    · exact .inr (s.fresh0 q)
end
end DL
end
section
set_option maxRecDepth 100000
namespace DL
open PySem PySem.Spec L2
section
variable {X : Cx} {z : Zx} {S S' : Sx} {σ : L2.St} {H H' H0 : Hp} {g g' g2 : Gh} {v : V} {d : D} {r : Res} {K : PySem.W.Frag} {mg : Str → Option Value}
  {k : Nat} {f : Addr} {fd : FuncData} {ps : List Str} {sp : Sp} {x : Str} {p pos : Pos} {e : Expr} {es : List Expr} {fs : M (List Res)} {t : TA} {n : Nat} {den : Den}
def tCallG (W : WX) (sp : Sp) (t : TA) : TE := fun σ H Q => t σ H fun vs H1 => sp vs H1 Q fun cls dx H2 => W cls dx σ H2
theorem run_callG {W : WX} {pins : List (Addr × Obj)} {s : Shared} {Q : VK} {us : List Value} {vs : List V} (F : FnG X.prog X.w X.K X.mg X.base k f fd ps sp) (gd : X.A.guards = some []) (room : Room k X.A) (bnd : Binds X.K fd ps []) (tk : Takes X W)
    (inv : L2.Inv X pins σ H s) (rel : Vals vs us) (prom : sp vs H Q fun cls dx H2 => W cls dx σ H2) : wpAny (model X.prog X.w) X.A (call (.ref f) us) (EP X pins σ Q) X.xe s := by
  have size : (us ++ ([] : List Value)).length = ps.length := by rw [List.append_nil, ← rel.length]; exact F.len _ _ _ _ prom
  have bt := bnd s us inv.kIn size
  rw [List.append_nil] at bt
  refine wpAny_call (codeAny_mono (F.run X.A X.stack s H ⟨us, []⟩ us vs Q _ gd room inv.env0 bt rel prom) ?_)
  intro res s1 out
  match res, out with
  | .error ex, out => exact passAt tk σ pins H s ex s1 inv out
  | .ok (.ret u), out => exact inv.after out
theorem pe_callG {W : WX} (F : FnG X.prog X.w X.K X.mg X.base k f fd ps sp) (gd : X.A.guards = some []) (room : Room k X.A) (hg : Gl X x) (hm : X.mg x = some (.ref f)) (kp : PySem.W.keepIn X.K (.ref f) = true) (bnd : Binds X.K fd ps []) (tk : Takes X W)
    (ha : PA X (e :: es) t) (hdb : (x == ("__debug__" : Str)) = false := by decide) (he : starEach (e :: es) X.env = (false, eval e X.env) :: starEach es X.env := by rfl) (hpl : (backTo pos (starEach es X.env)).any (·.1) = false := by rfl) :
    PE X (.Call (.Name x p) (e :: es) [] pos) (tCallG W sp t) := by
  constructor
  intro pins s0 σ0 G0 Q inv hyp
  refine wpAny_Call_Name_kw (ld_glob inv hg hm ?_ hdb)
  refine PySem.W.callWith_K (h₀ := X.base) inv.ok.mod.kin kp ?_ he hpl
  refine thn (ha.run pos pins s0 σ0 G0 _ inv hyp) ?_
  rintro us s1 ⟨vs, G1, inv1, rel, prom⟩
  exact ⟨inv1.kIn, run_callG F gd room bnd tk inv1 rel prom⟩
theorem root_im_parts {a : Addr} {r : Addr → Prop} (ob : Root K H' g' a d) (h : D.imms d.parts = true) : Root K H' (g.aft g' r) a d := ob.im (by show g'.om <+: g'.om; exact List.prefix_rfl) h
theorem call_den {Q : VK} {rs : List Res} {vs : List V} (s : SR K z S σ H g) (hh : Held rs) (rv : Paired (ResOk K z S σ H g) vs rs)
    (h : Go K mg z (fun S => if rs.length = n then (match den (rs.map (·.d)) S.objs with
      | none => none
      | some (.error x, objs') => some (.error x, putAll rs { S with objs := objs' })
      | some (.ok r, objs') => if r.safe && objs'.all (fun o => D.imms o.parts) then some (.ok r, { S with objs := objs' }) else some (.ok r, putAll rs { S with objs := objs' })) else none : M Res) S σ H g (fun r S' H' g' => ∀ v, ResOk K z S' σ H' g' v r → Q v H')) :
    spDen K mg n den vs H Q fun cls dx H2 => z.W cls dx σ H2 := by
  obtain ⟨g2, s2, f2, o2, b2, r2⟩ := SR.putAll s (resAt_of hh rv)
  unfold Go at h
  have hn : rs.length = n := by
    by_cases hn : rs.length = n
    · exact hn
    · simp only [if_neg hn] at h
  simp only [if_pos hn] at h
  have e0 : (DL.putAll rs S).objs = S.objs := by
    have := congrArg Sx.objs (putAll_objs rs S S.objs)
    exact this
  refine ⟨g2, rs.map (·.d), S.objs, by rw [rv.length]; exact hn, s2.mu, s2.ond, r2, ⟨by rw [o2]; exact s.olen, fun n a d e1 e2 => s2.obj n a d e1 (by rw [e0]; exact e2)⟩, ?_⟩
  cases hd : den (rs.map (·.d)) S.objs with
  | none => rw [hd] at h; exact h
  | some pr =>
    obtain ⟨res, objs'⟩ := pr
    rw [hd] at h
    cases res with
    | error x =>
      intro cls dx H' g' bh ex
      have less : Fr H' g' H' (g2.aft g' fun _ => False) := Fr.less (fun b q => by
        rcases q with q | q | q
        · exact bh.base b q
        · obtain ⟨i, hi⟩ := List.mem_iff_getElem?.mp q
          have hl : i < objs'.length := by rw [bh.obs.1]; exact (List.getElem?_eq_some_iff.mp hi).1
          exact (bh.obs.2 i b _ hi (List.getElem?_eq_getElem hl)).2
        · exact q.elim) rfl
      have hob : ∀ (n : Nat) (a : Addr) (d : D), g'.om[n]? = some a → objs'[n]? = some d → Root K H' (g2.aft g' fun _ => False) a d := fun n a d e1 e2 => (bh.obs.2 n a d e1 e2).1.fr less bh.mu rfl
      have sr := bh.sr s2 (root := fun _ => False) rfl (fun _ q => q.elim) hob
      have fr := bh.fr (root := fun _ => False) s2 rfl (fun _ q => q.elim)
      refine h cls dx H' _ (by rw [putAll_objs]; exact sr) (f2.trans fr) ⟨ex.1, ?_⟩
      have ex2 := ex.2
      cases hf : x.fs with
      | none => rw [hf] at ex2; exact ex2
      | some fs =>
        rw [hf] at ex2
        obtain ⟨a, ws, e1, e2, e3, e4⟩ := ex2
        exact ⟨a, ws, e1, e2, e3, e4.fr less bh.mu⟩
    | ok r =>
      intro H' g' v bh ok
      -- what the result's own address may be
      have root : ∃ R : Addr → Prop, (∀ a, R a → H a = none ∧ g'.bad a) ∧ (∀ a, r = .new r.d → v = .ref a → R a) := by
        cases r with
        | dat d => exact ⟨fun _ => False, fun _ q => q.elim, fun a q => by cases q⟩
        | own i d => exact ⟨fun _ => False, fun _ q => q.elim, fun a q => by cases q⟩
        | new d =>
          obtain ⟨a, rfl, hb, _, h0, _⟩ := ok
          exact ⟨fun b => b = a, fun b q => q ▸ ⟨h0, hb⟩, fun b _ q => by cases q; rfl⟩
      obtain ⟨R, hR, hRn⟩ := root
      have inom : ∀ b, b ∈ g'.om → g'.bad b := fun b q => by
        obtain ⟨i, hi⟩ := List.mem_iff_getElem?.mp q
        have hl : i < objs'.length := by rw [bh.obs.1]; exact (List.getElem?_eq_some_iff.mp hi).1
        exact (bh.obs.2 i b _ hi (List.getElem?_eq_getElem hl)).2
      by_cases safe : (r.safe && objs'.all fun o => D.imms o.parts) = true
      · simp only [if_pos safe] at h
        rw [Bool.and_eq_true] at safe
        have hob : ∀ (n : Nat) (a : Addr) (d : D), g'.om[n]? = some a → objs'[n]? = some d → Root K H' (g.aft g' R) a d := fun n a d e1 e2 =>
          root_im_parts (bh.obs.2 n a d e1 e2).1 (List.all_eq_true.mp safe.2 d (List.mem_of_getElem? e2))
        have sr := bh.sr s (root := R) o2 hR hob
        have fr := bh.fr (root := R) s o2 (fun a q => (hR a q).1)
        refine h H' _ sr fr v ?_
        cases r with
        | own i d => exact ok.elim
        | dat d => exact Rp.im (show g'.om <+: (g.aft g' R).om from List.prefix_rfl) ok safe.1
        | new d =>
          obtain ⟨a, rfl, hb, rt, h0, ho⟩ := ok
          exact ⟨a, rfl, .inr (.inr (hRn a rfl rfl)), root_im_parts rt safe.1, s.fresh0 h0, ho, fun i e he hs => s.own_there he hs h0⟩
      · simp only [if_neg safe] at h
        have less : Fr H' g' H' (g2.aft g' R) := Fr.less (fun b q => q.elim (bh.base b) fun q => q.elim (inom b) fun q => (hR b q).2) rfl
        have hob : ∀ (n : Nat) (a : Addr) (d : D), g'.om[n]? = some a → objs'[n]? = some d → Root K H' (g2.aft g' R) a d := fun n a d e1 e2 => (bh.obs.2 n a d e1 e2).1.fr less bh.mu rfl
        have sr := bh.sr s2 (root := R) rfl hR hob
        have fr := bh.fr (root := R) s2 rfl (fun a q => (hR a q).1)
        have sr' : SR K z (DL.putAll rs { S with objs := objs' }) σ H' (g2.aft g' R) := by rw [putAll_objs]; exact sr
        refine h H' _ sr' (f2.trans fr) v ?_
        cases r with
        | own i d => exact ok.elim
        | dat d => exact Rp.fr less bh.mu ok
        | new d =>
          obtain ⟨a, rfl, hb, rt, h0, ho⟩ := ok
          refine ⟨a, rfl, .inr (.inr (hRn a rfl rfl)), rt.fr less bh.mu rfl, s.fresh0 h0, ho, fun i e he hs => ?_⟩
          rw [putAll_objs] at he
          exact s2.own_there he hs h0
theorem de_call (F : FnG X.prog X.w X.K X.mg X.base k f fd ps (spDen X.K X.mg n den)) (gd : X.A.guards = some []) (room : Room k X.A) (tk : Takes X z.W) (hm : X.mg x = some (.ref f)) (kp : PySem.W.keepIn X.K (.ref f) = true) (bnd : Binds X.K fd ps [])
    (ha : DAH X z (e :: es) fs) (hg : Gl X x := by rfl) (hdb : (x == ("__debug__" : Str)) = false := by decide) (he : starEach (e :: es) X.env = (false, eval e X.env) :: starEach es X.env := by rfl) (hpl : (backTo pos (starEach es X.env)).any (·.1) = false := by rfl) :
    DE X z (.Call (.Name x p) (e :: es) [] pos) (callM n den fs) :=
  PE.imp (pe_callG F gd room hg hm kp bnd tk ha.da hdb he hpl) fun σ H Q ⟨S, g, s, h⟩ => ⟨S, g, s, (Go.heldP ha.held h.bnd).imp fun rs S1 H1 g1 s1 f1 ⟨hh, h1⟩ vs rv => call_den s1 hh rv h1⟩
end
end DL
end
section
set_option maxRecDepth 100000
namespace DL
open PySem PySem.Spec L2
section
variable {X : Cx} {z : Zx} {S S' : Sx} {σ : L2.St} {H H' H0 : Hp} {g g' g2 : Gh} {v : V} {d : D} {r : Res} {K : PySem.W.Frag} {mg : Str → Option Value} {pos p : Pos} {a b c e : Expr} {fa fb fc : M Res}
def UnD (X : Cx) (z : Zx) (r : List V → Hp → VK → Prop) (op : D → M Res) : Prop :=
  ∀ (S : Sx) (σ : L2.St) (H : Hp) (g : Gh) (x : V) (dx : D) (Q : VK), SR X.K z S σ H g → Pk X.K H g x dx →
    Go X.K X.mg z (op dx) S σ H g (fun r S' H' g' => ∀ v, ResOk X.K z S' σ H' g' v r → Q v H') → r [x] H Q
def unM (op : D → M Res) (f : M Res) : M Res := f >>= fun r => op r.d
theorem de_un {r : List V → Hp → VK → Prop} {op : D → M Res} (hd : UnD X z r op) (pe : PE X e (tCB r (tCons (tD X.K X.mg z fa) tNil))) : DE X z e (unM op fa) :=
  PE.imp pe fun σ H Q ⟨S, g, s, h⟩ => ⟨S, g, s, h.bnd.imp fun r S1 H1 g1 s1 f1 h1 x rx => hd S1 σ H1 g1 x _ Q s1 (s1.pk rx) h1⟩
def D.len : D → Option Nat
  | .str x => if x.length ≤ sizeLine then some x.length else none
  | .lst ds => some ds.length
  | .rol ds => some ds.length
  | .tup ds => some ds.length
  | .dct false ks _ => some ks.length
  | _ => none
def opLen (d : D) : M Res := M.opt d.len fun n => pure (.dat (.int n))
def rLenA (K : PySem.W.Frag) : List V → Hp → VK → Prop := fun xs H Q => (∃ x n, xs = [x] ∧ LenV K x H n ∧ Q (V.int n) H) ∨ ∃ a kvs, xs = [V.ref a] ∧ H a = some (.dK kvs) ∧ Q (V.int kvs.length) H
theorem cr_lenA : CallR X (.builtin "len") (rLenA X.K) := call_len.or call_lenD
theorem ud_len : UnD X z (rLenA X.K) opLen := by
  intro S σ H g x dx Q s px h
  obtain ⟨n, e, h2⟩ := h.opt
  have q := out_dat s (.int _) h2
  unfold D.len at e
  split at e
  · split at e
    · rename_i hl; cases e
      have := px.str; subst this
      exact .inl ⟨_, _, rfl, ⟨hl, rfl⟩, q⟩
    · cases e
  · cases e; obtain ⟨a, xs, rfl, hx, rx⟩ := px.lst
    exact .inl ⟨_, _, rfl, .inl ⟨xs, SqL.of hx, rx.length.symm⟩, q⟩
  · cases e; obtain ⟨a, xs, rfl, hx, rx⟩ := px.rol
    exact .inl ⟨_, _, rfl, .inl ⟨xs, hx.sq, rx.length.symm⟩, q⟩
  · cases e; obtain ⟨a, xs, rfl, hx, rx⟩ := px.tup
    exact .inl ⟨_, _, rfl, .inr ⟨xs, SqT.of hx, rx.length.symm⟩, q⟩
  · cases e; obtain ⟨a, o, ws, rfl, hx, c, rx⟩ := px.dct
    cases c with
    | dK kvs => exact .inr ⟨a, kvs, rfl, hx, by simpa using q⟩
  · cases e
theorem de_len (hm : X.mg "len" = none) (ha : DE X z a fa) (hg : Gl X "len" := by rfl) (hs : starEach [a] X.env = (false, eval a X.env) :: starEach [] X.env := by rfl) (hpl : (backTo pos (starEach [] X.env)).any (·.1) = false := by rfl) :
    DE X z (.Call (.Name "len" p) [a] [] pos) (unM opLen fa) := de_un ud_len (pe_callB cr_lenA hg hm PySem.boot_len (pa_cons ha pa_nil hs) (he := hs) (hpl := hpl))
def opInt : D → M Res
  | .int i => pure (.dat (.int i))
  | .bl b => pure (.dat (.int (if b = true then 1 else 0)))
  | _ => M.no
theorem ud_int : UnD X z (fun xs H Q => (∃ i, xs = [V.int i] ∧ Q (V.int i) H) ∨ ∃ k, xs = [V.bl k] ∧ Q (V.int (if k = true then 1 else 0)) H) opInt := by
  intro S σ H g x dx Q s px h
  cases dx <;> first | exact h.none.elim | skip
  · exact .inr ⟨_, by rw [px.bl], out_dat s (.int _) h⟩
  · exact .inl ⟨_, by rw [px.int], out_dat s (.int _) h⟩
theorem de_intC (hm : X.mg "int" = none) (ha : DE X z a fa) (hg : Gl X "int" := by rfl) (hs : starEach [a] X.env = (false, eval a X.env) :: starEach [] X.env := by rfl) (hpl : (backTo pos (starEach [] X.env)).any (·.1) = false := by rfl) :
    DE X z (.Call (.Name "int" p) [a] [] pos) (unM opInt fa) := de_un ud_int (pe_callTy call_int1 hg hm (by decide +kernel) (pa_cons ha pa_nil hs) (he := hs) (hpl := hpl))
def opAbs : D → M Res
  | .int i => pure (.dat (.int (if i < 0 then -i else i)))
  | _ => M.no
theorem ud_abs : UnD X z (fun xs H Q => ∃ i, xs = [V.int i] ∧ Q (V.int (if i < 0 then -i else i)) H) opAbs := by
  intro S σ H g x dx Q s px h
  cases dx <;> first | exact h.none.elim | skip
  exact ⟨_, by rw [px.int], out_dat s (.int _) h⟩
theorem de_abs (hm : X.mg "abs" = none) (ha : DE X z a fa) (hg : Gl X "abs" := by rfl) (hs : starEach [a] X.env = (false, eval a X.env) :: starEach [] X.env := by rfl) (hpl : (backTo pos (starEach [] X.env)).any (·.1) = false := by rfl) :
    DE X z (.Call (.Name "abs" p) [a] [] pos) (unM opAbs fa) := de_un ud_abs (pe_callB call_abs hg hm (by decide +kernel) (pa_cons ha pa_nil hs) (he := hs) (hpl := hpl))
def opTuple : D → M Res
  | .lst ds => pure (.dat (.tup ds))
  | .rol ds => pure (.dat (.tup ds))
  | .tup ds => pure (.dat (.tup ds))
  | _ => M.no
theorem ud_tuple : UnD X z (fun xs H Q => ∃ p ys, xs = [V.ref p] ∧ ((SqL X.K H p ys ∧ ∀ l, H l = none → Q (V.ref l) (upd H l (.tup ys))) ∨ SqT X.K H p ys ∧ Q (V.ref p) H)) opTuple := by
  intro S σ H g x dx Q s px h
  cases dx <;> first | exact h.none.elim | skip
  · obtain ⟨a, xs, rfl, hx, rx⟩ := px.tup
    exact ⟨a, xs, rfl, .inr ⟨SqT.of hx, out_dat s (.tup hx rx) h⟩⟩
  · obtain ⟨a, xs, rfl, hx, rx⟩ := px.lst
    exact ⟨a, xs, rfl, .inl ⟨SqL.of hx, out_tup s rx h⟩⟩
  · obtain ⟨a, xs, rfl, hx, rx⟩ := px.rol
    exact ⟨a, xs, rfl, .inl ⟨hx.sq, out_tup s rx h⟩⟩
theorem de_tuple (hm : X.mg "tuple" = none) (ha : DE X z a fa) (hg : Gl X "tuple" := by rfl) (hs : starEach [a] X.env = (false, eval a X.env) :: starEach [] X.env := by rfl) (hpl : (backTo pos (starEach [] X.env)).any (·.1) = false := by rfl) :
    DE X z (.Call (.Name "tuple" p) [a] [] pos) (unM opTuple fa) := de_un ud_tuple (pe_callTy call_tuple_of hg hm (by decide +kernel) (pa_cons ha pa_nil hs) (he := hs) (hpl := hpl))
def opList : D → M Res
  | .lst ds => pure (.new (.lst ds))
  | .rol ds => pure (.new (.lst ds))
  | .tup ds => pure (.new (.lst ds))
  | _ => M.no
theorem ud_list : UnD X z (fun xs H Q => ∃ p ys, xs = [V.ref p] ∧ (SqL X.K H p ys ∨ SqT X.K H p ys) ∧ ∀ l, H l = none → Q (V.ref l) (upd H l (.lst ys))) opList := by
  intro S σ H g x dx Q s px h
  cases dx <;> first | exact h.none.elim | skip
  · obtain ⟨a, xs, rfl, hx, rx⟩ := px.tup
    exact ⟨a, xs, rfl, .inr (SqT.of hx), out_lst s rx h⟩
  · obtain ⟨a, xs, rfl, hx, rx⟩ := px.lst
    exact ⟨a, xs, rfl, .inl (SqL.of hx), out_lst s rx h⟩
  · obtain ⟨a, xs, rfl, hx, rx⟩ := px.rol
    exact ⟨a, xs, rfl, .inl hx.sq, out_lst s rx h⟩
theorem de_list (hm : X.mg "list" = none) (ha : DE X z a fa) (hg : Gl X "list" := by rfl) (hs : starEach [a] X.env = (false, eval a X.env) :: starEach [] X.env := by rfl) (hpl : (backTo pos (starEach [] X.env)).any (·.1) = false := by rfl) :
    DE X z (.Call (.Name "list" p) [a] [] pos) (unM opList fa) := de_un ud_list (pe_callTy call_list_of hg hm (by decide +kernel) (pa_cons ha pa_nil hs) (he := hs) (hpl := hpl))
def D.ints? : List D → Option (List Int)
  | [] => some []
  | .int i :: r => (D.ints? r).map (i :: ·)
  | _ => none
def D.bls? : List D → Option (List Bool)
  | [] => some []
  | .bl i :: r => (D.bls? r).map (i :: ·)
  | _ => none
theorem ints?_of : ∀ {ds : List D} {ns : List Int}, D.ints? ds = some ns → ds = ns.map .int
  | [], ns, e => by simp [D.ints?] at e; subst e; rfl
  | d :: r, ns, e => by
    cases d <;> simp [D.ints?] at e
    obtain ⟨q, e, rfl⟩ := e
    rw [List.map_cons, ← ints?_of e]
theorem bls?_of : ∀ {ds : List D} {ns : List Bool}, D.bls? ds = some ns → ds = ns.map .bl
  | [], ns, e => by simp [D.bls?] at e; subst e; rfl
  | d :: r, ns, e => by
    cases d <;> simp [D.bls?] at e
    obtain ⟨q, e, rfl⟩ := e
    rw [List.map_cons, ← bls?_of e]
theorem ints?_map : ∀ ns : List Int, D.ints? (ns.map .int) = some ns
  | [] => rfl
  | n :: r => by simp [D.ints?, ints?_map r]
theorem RpA.ints : ∀ {vs : List V} {ns : List Int}, RpA K H g vs (ns.map .int) → vs = ns.map V.int
  | _, [], .nil => rfl
  | _, n :: r, .cons h t => by cases h; rw [List.map_cons, ← RpA.ints t]
theorem RpA.bls : ∀ {vs : List V} {ns : List Bool}, RpA K H g vs (ns.map .bl) → vs = ns.map V.bl
  | _, [], .nil => rfl
  | _, n :: r, .cons h t => by cases h; rw [List.map_cons, ← RpA.bls t]
def D.lis : D → Option (List D)
  | .lst ds => some ds
  | .rol ds => some ds
  | _ => none
theorem Pk.lis {ds : List D} (p : Pk K H g v d) (e : d.lis = some ds) : ∃ a xs, v = .ref a ∧ SqL K H a xs ∧ RpA K H g xs ds := by
  cases d <;> simp [D.lis] at e
  · subst e; obtain ⟨a, xs, rfl, hx, rx⟩ := p.lst; exact ⟨a, xs, rfl, SqL.of hx, rx⟩
  · subst e; obtain ⟨a, xs, rfl, hx, rx⟩ := p.rol; exact ⟨a, xs, rfl, hx.sq, rx⟩
def opAll (d : D) : M Res := M.opt (d.lis.bind D.bls?) fun bs => pure (.dat (.bl (bs.all id)))
theorem ud_all : UnD X z (rAll X.K) opAll := by
  intro S σ H g x dx Q s px h
  obtain ⟨ns, e, h2⟩ := h.opt
  obtain ⟨ds, e1, e2⟩ := Option.bind_eq_some_iff.mp e
  obtain ⟨a, xs, rfl, hx, rx⟩ := px.lis e1
  have := bls?_of e2; subst this
  have := rx.bls; subst this
  exact ⟨a, ns, rfl, hx, out_dat s (.bl _) h2⟩
theorem de_all (hc : X.calm = true) (hm : X.mg "all" = none) (ha : DE X z a fa) (hg : Gl X "all" := by rfl) (hs : starEach [a] X.env = (false, eval a X.env) :: starEach [] X.env := by rfl) (hpl : (backTo pos (starEach [] X.env)).any (·.1) = false := by rfl) :
    DE X z (.Call (.Name "all" p) [a] [] pos) (unM opAll fa) := de_un ud_all (pe_callB (cr_all hc) hg hm (by decide +kernel) (pa_cons ha pa_nil hs) (he := hs) (hpl := hpl))
def opMax2 : D → D → M Res := opI (fun _ _ => true) fun i j => .int (if j > i then j else i)
def opMin2 : D → D → M Res := opI (fun _ _ => true) fun i j => .int (if j < i then j else i)
theorem od_two {f : Int → Int → Int} : OpD X z (fun x y H Q => ∃ i j, [x, y] = [V.int i, V.int j] ∧ Q (.int (f i j)) H) (opI (fun _ _ => true) fun i j => .int (f i j)) := by
  intro S σ H g x y dx dy Q s px py h
  unfold opI at h
  split at h
  · exact ⟨_, _, by rw [px.int, py.int], out_dat s (.int _) h.need.2⟩
  · exact h.none.elim
theorem de_max2 (hc : X.calm = true) (hm : X.mg "max" = none) (ha : DE X z a fa) (hb : DE X z b fb) (hg : Gl X "max" := by rfl) (hs : starEach [a, b] X.env = (false, eval a X.env) :: starEach [b] X.env := by rfl) (hs2 : starEach [b] X.env = (false, eval b X.env) :: starEach [] X.env := by rfl)
    (hpl : (backTo pos (starEach [b] X.env)).any (·.1) = false := by rfl) : DE X z (.Call (.Name "max" p) [a, b] [] pos) (binM opMax2 fa fb) :=
  de_bin (r := fun x y H Q => ∃ i j, [x, y] = [V.int i, V.int j] ∧ Q (.int (if j > i then j else i)) H) od_two (pe_callB (call_max2 hc) hg hm (by decide +kernel) (pa_cons ha (pa_cons hb pa_nil hs2) hs) (he := hs) (hpl := hpl))
theorem de_min2 (hc : X.calm = true) (hm : X.mg "min" = none) (ha : DE X z a fa) (hb : DE X z b fb) (hg : Gl X "min" := by rfl) (hs : starEach [a, b] X.env = (false, eval a X.env) :: starEach [b] X.env := by rfl) (hs2 : starEach [b] X.env = (false, eval b X.env) :: starEach [] X.env := by rfl)
    (hpl : (backTo pos (starEach [b] X.env)).any (·.1) = false := by rfl) : DE X z (.Call (.Name "min" p) [a, b] [] pos) (binM opMin2 fa fb) :=
  de_bin (r := fun x y H Q => ∃ i j, [x, y] = [V.int i, V.int j] ∧ Q (.int (if j < i then j else i)) H) od_two (pe_callB (call_min2 hc) hg hm (by decide +kernel) (pa_cons ha (pa_cons hb pa_nil hs2) hs) (he := hs) (hpl := hpl))
def rRepr (K : PySem.W.Frag) : List V → Hp → VK → Prop := fun xs H Q => ∃ x p, xs = [x] ∧ Dp K H x p ∧ p.showable = true ∧ p.depth ≤ 64 ∧ p.shown.length ≤ sizeLine ∧ Q (.str p.shown) H
mutual
theorem Dp.noDict : ∀ {v : V} {p : PyData}, Dp K H v p → p.hasDict = false
  | _, _, .non => rfl
  | _, _, .bl _ => rfl
  | _, _, .int _ => rfl
  | _, _, .str _ => rfl
  | _, _, .lst _ h => by simp only [PyData.hasDict]; exact DpAll.noDict h
  | _, _, .tup _ h => by simp only [PyData.hasDict]; exact DpAll.noDict h
theorem DpAll.noDict : ∀ {v : List V} {p : List PyData}, DpAll K H v p → PyData.hasDictAll p = false
  | _, _, .nil => rfl
  | _, _, .cons a b => by simp only [PyData.hasDictAll, Dp.noDict a, DpAll.noDict b]; rfl
end
theorem cr_repr (gd : X.A.guards = some []) (hu : X.A.units + 65 < cLine) : CallR X (.builtin "repr") (rRepr X.K) := by
  intro pins s σ H xs us Q I r h
  obtain ⟨x, pd, rfl, dp, sh, dep, sz, q⟩ := h
  cases r with
  | cons rx rr =>
    cases rr
    rename_i u
    have ref : ∀ a, u = Value.ref a → (∃ as, Reads s.heap (.ref a) pd as) → wpAny (model X.prog X.w) X.A (call (.builtin "repr") [.ref a]) (EP X pins σ Q) X.xe s := fun a e ⟨as, rd⟩ =>
      PySem.repr_of_reads' rd sh (fun z => by rw [Dp.noDict dp] at z; cases z) gd (by omega) (fun _ _ e => e) (fun h' u' tk kp => ⟨.str _, H, I.kept (t' := tk) kp, ⟨_, rfl⟩, q⟩) sz
    cases dp with
    | non => obtain rfl : u = Value.none := rx; exact PySem.P.repr_of_none ⟨.str _, H, I.tok _, ⟨_, rfl⟩, q⟩
    | bl b =>
      obtain rfl : u = Value.bool b := rx
      exact PySem.P.repr_of_bool ⟨.str _, H, I.tok _, ⟨_, rfl⟩, q⟩
    | int i =>
      obtain ⟨t, rfl⟩ := rx
      have hs : i.natAbs.log2 < 1920 := by simpa [PyData.showable] using sh
      exact PySem.P.repr_of_int hs ⟨.str _, H, I.tok _, ⟨_, rfl⟩, q⟩
    | str x =>
      obtain ⟨t, rfl⟩ := rx
      exact PySem.P.repr_of_str ⟨.str _, H, I.tok _, ⟨_, rfl⟩, q⟩ sz
    | lst h1 h2 =>
      obtain rfl : u = Value.ref _ := rx
      exact ref _ rfl (Dp.reads I _ _ _ (.lst h1 h2) rfl)
    | tup h1 h2 =>
      obtain rfl : u = Value.ref _ := rx
      exact ref _ rfl (Dp.reads I _ _ _ (.tup h1 h2) rfl)
def D.shown (d : D) : Option Str := d.py.bind fun p => if p.showable && decide (p.depth ≤ 64) && decide (p.shown.length ≤ sizeLine) then some p.shown else none
def opRepr (d : D) : M Res := M.opt d.shown fun x => pure (.dat (.str x))
theorem ud_repr : UnD X z (rRepr X.K) opRepr := by
  intro S σ H g x dx Q s px h
  obtain ⟨t, e, h2⟩ := h.opt
  obtain ⟨p, e1, e2⟩ := Option.bind_eq_some_iff.mp e
  split at e2
  · rename_i c
    cases e2
    simp only [Bool.and_eq_true, decide_eq_true_eq] at c
    exact ⟨x, p, rfl, px.dp e1, c.1.1, c.1.2, c.2, out_dat s (.str _) h2⟩
  · cases e2
end
end DL
end
section
set_option maxRecDepth 100000
namespace DL
open PySem PySem.Spec L2
section
variable {X : Cx} {z : Zx} {S S' : Sx} {σ : L2.St} {H H' H0 : Hp} {g g' g2 : Gh} {v : V} {d : D} {r : Res} {K : PySem.W.Frag} {mg : Str → Option Value} {pos p : Pos} {a b c e : Expr} {fa fb fc : M Res} {i : Nat} {o : HO}
theorem Fr.mut {ad : Addr} (hb : g.bad ad) : Fr H g (upd H ad o) g := ⟨fun b u h n => ⟨by rw [upd_ne (show b ≠ ad from fun q => n (by rw [q]; exact hb))]; exact h, n⟩, List.prefix_rfl⟩
theorem SR.mutate {ad : Addr} {d' : D} (s : SR K z S σ H g) (h : S.env[i]? = some (.own d)) (e : σ[i]? = some (some (.ref ad))) (hm : Mut (some o)) (r : Root K (upd H ad o) g ad d') :
    SR K z (S.put i (.own d')) σ (upd H ad o) g ∧ Fr H g (upd H ad o) g := by
  obtain ⟨a0, e0, hb, rt, h0, ho⟩ := s.own i d h
  rw [e] at e0; cases e0
  have fr : Fr H g (upd H ad o) g := Fr.mut hb
  refine ⟨?_, fr⟩
  constructor
  · show (S.env.set i _).length = _; rw [List.length_set]; exact s.len
  · intro j d1 h1
    rcases set_get h1 with ⟨rfl, q⟩ | ⟨ne, q⟩
    · cases q
    · obtain ⟨w, e1, rw'⟩ := s.dat j d1 q
      exact ⟨w, e1, rw'.fr fr s.mu⟩
  · intro j d1 h1
    rcases set_get h1 with ⟨rfl, q⟩ | ⟨ne, q⟩
    · cases q; exact ⟨ad, e, hb, r, h0, ho⟩
    · obtain ⟨b, e1, hb1, rt1, h01, ho1⟩ := s.own j d1 q
      exact ⟨b, e1, hb1, rt1.fr fr s.mu (upd_ne fun w => ne (s.inj i j d d1 ad h q e (w ▸ e1))), h01, ho1⟩
  · intro j k d1 d2 b h1 h2 e1 e2
    have own : ∀ (j : Nat) (d1 : D), (S.put i (.own d')).env[j]? = some (.own d1) → ∃ d2, S.env[j]? = some (.own d2) := fun j d1 q => by
      rcases set_get q with ⟨rfl, _⟩ | ⟨_, q⟩
      · exact ⟨d, h⟩
      · exact ⟨d1, q⟩
    obtain ⟨d3, h3⟩ := own j d1 h1
    obtain ⟨d4, h4⟩ := own k d2 h2
    exact s.inj j k d3 d4 b h3 h4 e1 e2
  · exact s.olen
  · intro n b d1 e1 e2
    obtain ⟨rt1, hb1⟩ := s.obj n b d1 e1 e2
    exact ⟨rt1.fr fr s.mu (upd_ne fun w => ho (w ▸ List.mem_iff_getElem?.mpr ⟨n, e1⟩)), hb1⟩
  · exact s.ond
  · intro b hb1
    by_cases q : b = ad
    · subst q; rw [upd_same]; exact hm
    · rw [upd_ne q]; exact s.mu b hb1
  · exact s.base
  · exact s.b0
  · intro b u hu hn
    have := s.keep b u hu hn
    rw [upd_ne (fun q => by subst q; rw [h0] at hu; cases hu)]
    exact this
  · exact s.on
theorem SR.mutObj {n : Nat} {ad : Addr} {d' : D} (s : SR K z S σ H g) (e : g.om[n]? = some ad) (hm : Mut (some o)) (r : Root K (upd H ad o) g ad d') :
    SR K z { S with objs := S.objs.set n d' } σ (upd H ad o) g ∧ Fr H g (upd H ad o) g := by
  have hl : n < S.objs.length := by rw [s.olen]; exact (List.getElem?_eq_some_iff.mp e).1
  have hb : g.bad ad := (s.obj n ad _ e (List.getElem?_eq_getElem hl)).2
  have fr : Fr H g (upd H ad o) g := Fr.mut hb
  have hmem : ad ∈ g.om := List.mem_iff_getElem?.mpr ⟨n, e⟩
  refine ⟨?_, fr⟩
  constructor
  · exact s.len
  · intro j d1 h1
    obtain ⟨w, e1, rw'⟩ := s.dat j d1 h1
    exact ⟨w, e1, rw'.fr fr s.mu⟩
  · intro j d1 h1
    obtain ⟨b, e1, hb1, rt1, h01, ho1⟩ := s.own j d1 h1
    exact ⟨b, e1, hb1, rt1.fr fr s.mu (upd_ne fun w => ho1 (w ▸ hmem)), h01, ho1⟩
  · exact s.inj
  · rw [List.length_set]; exact s.olen
  · intro m b d1 e1 e2
    by_cases q : m = n
    · subst q
      rw [e] at e1; cases e1
      rw [List.getElem?_set_self hl] at e2; cases e2
      exact ⟨r, hb⟩
    · rw [List.getElem?_set_ne (Ne.symm q)] at e2
      obtain ⟨rt1, hb1⟩ := s.obj m b d1 e1 e2
      exact ⟨rt1.fr fr s.mu (upd_ne fun w => q (by subst w; exact nd_ix s.ond e1 e)), hb1⟩
  · exact s.ond
  · intro b hb1
    by_cases q : b = ad
    · subst q; rw [upd_same]; exact hm
    · rw [upd_ne q]; exact s.mu b hb1
  · exact s.base
  · exact s.b0
  · intro b u hu hn
    have := s.keep b u hu hn
    rw [upd_ne (show b ≠ ad from fun q => hn (by rw [q]; exact hmem))]
    exact this
  · exact s.on
inductive Where where
  | own | obj (n : Nat)
def whereM (i : Nat) (S : Sx) : Option (Where × D) := match S.env[i]? with
  | some (.own d) => some (.own, d)
  | some (.dat (.obj n)) => (S.objs[n]?).map fun d => (.obj n, d)
  | _ => none
def Sx.store (S : Sx) (i : Nat) : Where → D → Sx
  | .own, d => S.put i (.own d)
  | .obj n, d => { S with objs := S.objs.set n d }
theorem SR.where_ (s : SR K z S σ H g) {w : Where} (h : whereM i S = some (w, d)) : ∃ ad, σ[i]? = some (some (.ref ad)) ∧ Root K H g ad d ∧
    ∀ o d', Mut (some o) → Root K (upd H ad o) g ad d' → SR K z (S.store i w d') σ (upd H ad o) g ∧ Fr H g (upd H ad o) g := by
  unfold whereM at h
  cases e : S.env[i]? with
  | none => rw [e] at h; cases h
  | some x =>
    rw [e] at h
    cases x with
    | un => cases h
    | own d0 =>
      cases h
      obtain ⟨ad, e1, hb, rt, _⟩ := s.own i d e
      exact ⟨ad, e1, rt, fun o d' hm r => s.mutate e e1 hm r⟩
    | dat d0 =>
      cases d0 <;> first | (cases h; done) | skip
      rename_i n
      obtain ⟨d1, e1, e2⟩ := Option.map_eq_some_iff.mp h
      cases e2
      obtain ⟨w, e2, rw'⟩ := s.dat i _ e
      cases rw' with
      | obj e3 =>
        rename_i ad
        exact ⟨ad, e2, (s.obj n ad d e3 e1).1, fun o d' hm r => s.mutObj e3 hm r⟩
theorem Root.lstAt {ad : Addr} {ds : List D} (r : Root K H g ad (.lst ds)) : ∃ xs, H ad = some (.lst xs) ∧ RpA K H g xs ds := by
  cases r with | lst h r => exact ⟨_, h, r⟩
theorem Root.dctAt {ad : Addr} {t : Bool} {ks vs : List D} (r : Root K H g ad (.dct t ks vs)) : ∃ o ws, H ad = some o ∧ DcAt H ad o t ks ws ∧ RpA K H g ws vs := by
  cases r with | dct h c r => exact ⟨_, _, h, c, r⟩
def D.isT : String → D → Bool
  | "list", .lst _ => true
  | "dict", .dct _ _ _ => true
  | _, _ => false
def methK (i : Nat) (op : D → D → Option (D × D)) (x : D) : M Res := fun S1 => match whereM i S1 with
  | Option.none => Option.none
  | some (w, d) => match op d x with
    | Option.none => Option.none
    | some (res, d') => some (.ok (.dat res), S1.store i w d')
def guardM {α : Type} (c : Sx → Bool) (f : M α) : M α := fun S => if c S = true then f S else Option.none
def isTM (T : String) (i : Nat) (S : Sx) : Bool := match whereM i S with
  | some (_, d) => d.isT T
  | Option.none => false
def methM (T : String) (i : Nat) (f : M Res) (op : D → D → Option (D × D)) : M Res := guardM (isTM T i) (f >>= fun r => useM r >>= methK i op)
def methM0 (T : String) (i : Nat) (op : D → D → Option (D × D)) : M Res := guardM (isTM T i) (methK i op .non)
theorem Go.guard {α : Type} {c : Sx → Bool} {f : M α} {P : α → Sx → Hp → Gh → Prop} (h : Go K mg z (guardM c f) S σ H g P) : c S = true ∧ Go K mg z f S σ H g P := by
  unfold Go guardM at h
  by_cases e : c S = true
  · simp only [if_pos e] at h; exact ⟨e, h⟩
  · simp only [if_neg e] at h
def MetD (X : Cx) (r : V → List V → Hp → VK → Prop) (op : D → D → Option (D × D)) : Prop :=
  ∀ (H : Hp) (g : Gh) (ad : Addr) (x : V) (d dx res d' : D) (Q : VK), Root X.K H g ad d → Rp X.K H g x dx → op d dx = some (res, d') → g.bad ad → Mu H g →
    (∀ o v, Mut (some o) → Root X.K (upd H ad o) g ad d' → Rp X.K (upd H ad o) g v res → Q v (upd H ad o)) → r (.ref ad) [x] H Q
theorem SR.bad_of (s : SR K z S σ H g) {w : Where} {ad : Addr} (h : whereM i S = some (w, d)) (e : σ[i]? = some (some (.ref ad))) : g.bad ad := by
  unfold whereM at h
  cases e1 : S.env[i]? with
  | none => rw [e1] at h; cases h
  | some x =>
    rw [e1] at h
    cases x with
    | un => cases h
    | own d0 =>
      obtain ⟨ad', e2, hb, _⟩ := s.own i d0 e1
      rw [e] at e2; cases e2; exact hb
    | dat d0 =>
      cases d0 <;> first | (cases h; done) | skip
      rename_i n
      obtain ⟨d1, e3, _⟩ := Option.map_eq_some_iff.mp h
      obtain ⟨w, e2, rw'⟩ := s.dat i _ e1
      rw [e] at e2; cases e2
      cases rw' with
      | obj e4 => exact (s.obj n ad d1 e4 e3).2
theorem Root.tyL {ad : Addr} (r : Root K H g ad d) (h : d.isT "list" = true) : tyV K "list" (.ref ad) H := by
  cases r with
  | lst hx r => exact .inl ⟨rfl, _, SqL.of hx⟩
  | dct hx c r => simp [D.isT] at h
  | tab hx => simp [D.isT] at h
theorem isTM_where {T : String} (h : isTM T i S = true) : ∃ w d, whereM i S = some (w, d) ∧ d.isT T = true := by
  unfold isTM at h
  cases e : whereM i S with
  | none => rw [e] at h; cases h
  | some pr => rw [e] at h; exact ⟨pr.1, pr.2, rfl, h⟩
theorem Go.meth {op : D → D → Option (D × D)} {xd : D} {ad : Addr} {Q : VK} (s : SR K z S σ H g) (es : σ[i]? = some (some (.ref ad))) (h : Go K mg z (methK i op xd) S σ H g (fun r S' H' g' => ∀ v, ResOk K z S' σ H' g' v r → Q v H')) :
    ∃ d res d', Root K H g ad d ∧ op d xd = some (res, d') ∧ g.bad ad ∧ ∀ o v, Mut (some o) → Root K (upd H ad o) g ad d' → Rp K (upd H ad o) g v res → Q v (upd H ad o) := by
  unfold Go methK at h
  cases e2 : whereM i S with
  | none => simp only [e2] at h
  | some pr =>
    obtain ⟨w, dd⟩ := pr
    simp only [e2] at h
    cases e3 : op dd xd with
    | none => simp only [e3] at h
    | some pr2 =>
      obtain ⟨res, d'⟩ := pr2
      simp only [e3] at h
      obtain ⟨ad2, es2, rt2, upd2⟩ := s.where_ e2
      rw [es] at es2; cases es2
      exact ⟨dd, res, d', rt2, e3, s.bad_of e2 es, fun o v hm rr rv => let ⟨s3, f3⟩ := upd2 o d' hm rr; h _ _ s3 f3 v rv⟩
theorem de_meth1 {r : V → List V → Hp → VK → Prop} {op : D → D → Option (D × D)} (hd : MetD X r op)
    (pe : PE X e (tBM X.K "list" r (tVar i) (tCons (tD X.K X.mg z fa) tNil))) : DE X z e (methM "list" i fa op) :=
  PE.imp pe fun σ H Q ⟨S, g, s, h⟩ => by
    obtain ⟨c, h1⟩ := h.guard
    obtain ⟨w0, d0, e0, hT⟩ := isTM_where c
    obtain ⟨ad, es, rt, _⟩ := s.where_ e0
    refine ⟨_, es, rt.tyL hT, S, g, s, h1.bnd.imp fun rr S1 H1 g1 s1 f1 q1 v rv => ?_⟩
    obtain ⟨S2, g2, s2, f2, rp, q2⟩ := q1.use s1 rv
    obtain ⟨d, res, d', rt2, e3, hb, q3⟩ := q2.meth s2 es
    exact hd H1 g2 ad v d _ res d' Q rt2 rp e3 hb s2.mu q3
def opAppend : D → D → Option (D × D)
  | .lst ds, x => if ds.length < sizeLine then some (.non, .lst (ds ++ [x])) else Option.none
  | _, _ => Option.none
def opPop : D → D → Option (D × D)
  | .lst ds, _ => (ds[ds.length - 1]?).map fun x => (x, .lst ds.dropLast)
  | _, _ => Option.none
def opReverse : D → D → Option (D × D)
  | .lst ds, _ => some (.non, .lst ds.reverse)
  | _, _ => Option.none
theorem md_append : MetD X rAppend opAppend := by
  intro H g ad x d dx res d' Q rt rp e hb m h
  obtain ⟨ds, rfl⟩ : ∃ ds, d = .lst ds := by
    cases d with
    | lst ds => exact ⟨ds, rfl⟩
    | _ => simp [opAppend] at e
  simp only [opAppend] at e
  split at e
  · rename_i hl
    cases e
    obtain ⟨xs, hx, rx⟩ := rt.lstAt
    have fr : Fr H g (upd H ad (.lst (xs ++ [x]))) g := Fr.mut hb
    exact ⟨ad, xs, x, rfl, rfl, hx, by rw [rx.length]; exact hl, h _ _ trivial (.lst upd_same ((rx.append (.cons rp .nil)).fr fr m)) .non⟩
  · cases e
variable {apos px : Pos} {x : Str}
theorem de_append (i : Nat) (ha : DE X z a fa) (hN : X.N[i]? = some x := by rfl) (hv : Vis X.env.scope x := by first | exact Or.inl rfl | exact Or.inr (Or.inl rfl) | exact Or.inr (Or.inr rfl)) (hd : (x == ("__debug__" : Str)) = false := by decide) (hcd : (x == ("__classdict__" : Str)) = false := by decide)
    (h1 : attributeBase (.Name x px) "append" X.env (eval (.Name x px) X.env) = eval (.Name x px) X.env := by rfl)
    (h2 : (((backTo pos (starEach [a] X.env)).all fun x => !x.1) && ((backToKw pos (keywordEach [] X.env)).all fun x => x.1.isSome) && decide (([a] : List Expr).length + ([] : List Keyword).length + (if ([] : List Keyword).isEmpty = true then 0 else 1) < 30)) = true := by rfl)
    (h3 : (apos.endLine == pos.line) = true := by rfl) (hs : starEach [a] X.env = (false, eval a X.env) :: starEach [] X.env := by rfl) (h5 : (backTo pos (starEach [] X.env)).any (·.1) = false := by rfl) :
    DE X z (.Call (.Attribute (.Name x px) "append" apos) [a] [] pos) (methM "list" i fa opAppend) :=
  de_meth1 md_append (pe_bm PySem.F.plainAttrs_list PySem.F.slot_list_append PySem.F.type_list_append mt_append (pe_var hN hv hd hcd) (pa_cons ha pa_nil hs) h1 h2 h3 hs h5)
def rSetA : V → V → V → Hp → (Hp → Prop) → Prop := fun o i v H Q => rSetL o i v H Q ∨ ∃ a H1, o = .ref a ∧ (DPut H a i v H1 ∨ NPut H a i v H1) ∧ Q H1
theorem set_any (hu : X.A.units + 65 < cLine) : PSet X rSetA := by
  intro pins s σ H o i v ov iv u Q I ro ri rv h
  rcases h with h | ⟨a, H1, rfl, dp, q⟩
  · exact set_list pins s σ H o i v ov iv u Q I ro ri rv h
  · obtain rfl : ov = Value.ref a := ro
    exact dp.elim (fun dp => d_setItem (by omega) I dp ri rv fun s' I' => ⟨H1, I', q⟩) fun dp => n_setItem (by omega) I dp ri rv fun s' I' => ⟨H1, I', q⟩
def D.store : D → D → D → Option D
  | .lst ds, .int k, x => (ixN ds.length k).map fun j => .lst (ds.set j x)
  | .dct t ks vs, k, x => if (D.lookKey t ks vs k).isSome && decide (ks.length < sizeLine) then some (.dct t (D.putK ks k) (D.putV ks vs k x)) else Option.none
  | _, _, _ => Option.none
def storeK (i : Nat) (k x : D) : M Unit := fun S => match whereM i S with
  | Option.none => Option.none
  | some (w, d) => match d.store k x with
    | Option.none => Option.none
    | some d' => some (.ok (), S.store i w d')
theorem store_ok {ad : Addr} {x y : V} {dk dx d' : D} (rt : Root K H g ad d) (py : Rp K H g y dk) (px : Rp K H g x dx) (e : d.store dk dx = some d') (hb : g.bad ad) (m : Mu H g) (Q : Hp → Prop)
    (h : ∀ o, Mut (some o) → Root K (upd H ad o) g ad d' → Q (upd H ad o)) : rSetA (.ref ad) y x H Q := by
  unfold D.store at e
  split at e
  · obtain ⟨j, e1, rfl⟩ := Option.map_eq_some_iff.mp e
    obtain ⟨xs, hx, rx⟩ := rt.lstAt
    have fr : Fr H g (upd H ad (.lst (xs.set j x))) g := Fr.mut hb
    exact .inl ⟨ad, xs, _, j, rfl, Pk.int (.inl py), hx, by rw [rx.length]; exact e1, h _ trivial (.lst upd_same ((rx.set px j).fr fr m))⟩
  · split at e
    · rename_i t ks vs cc
      cases e
      simp only [Bool.and_eq_true, decide_eq_true_eq] at cc
      obtain ⟨o, ws, hx, c, rx⟩ := rt.dctAt
      cases c with
      | dK kvs =>
        have : ∃ kk : Key, dk = kD kk := by
          cases dk with
          | int i => exact ⟨.inl i, rfl⟩
          | str i => exact ⟨.inr i, rfl⟩
          | _ => simp [D.lookKey] at cc
        obtain ⟨kk, rfl⟩ := this
        obtain ⟨p1, p2⟩ := put_of (c := kD) (fun _ _ => kD_inj) kk x dx px rx
        have fr : Fr H g (upd H ad (.dK (L2.putK kvs kk x))) g := Fr.mut hb
        refine .inr ⟨ad, _, rfl, .inl (.inl ⟨kvs, kk, hx, Pk.key (.inl py) (kD_key kk), by simpa using cc.2, rfl⟩), h _ trivial ?_⟩
        rw [p1]
        exact .dct upd_same (.dK _) (p2.fr fr m)
      | dN rows nk =>
        cases dk with
        | tup ds =>
          simp only [D.lookKey] at cc
          have hs : ((D.nk (.tup ds)).map fun k => decide (k.depth ≤ 8)) = some true := by
            by_cases q : ((D.nk (.tup ds)).map fun k => decide (k.depth ≤ 8)) = some true
            · exact q
            · rw [if_neg q] at cc; exact absurd cc.1 (by simp)
          obtain ⟨kk, hk, hd⟩ := Option.map_eq_some_iff.mp hs
          obtain ⟨ek, hn⟩ := nk_of (K := K) (H := H) (g := g) hk
          obtain ⟨b, xs, rfl, hb2, rb⟩ := Pk.tup (.inl py)
          have hq : NK H kk (.ref b) := hn _ (.tup hb2 rb)
          rw [← ek] at h
          obtain ⟨p1, p2⟩ := put_of (c := kN) (fun _ _ => kN_inj) kk x dx px rx
          have fr : Fr H g (upd H ad (NDictO ad (putN rows kk b x))) g := Fr.mut hb
          refine .inr ⟨ad, _, rfl, .inr ⟨rows, kk, b, hx, nk, rfl, hq, of_decide_eq_true hd, by simpa using cc.2, rfl⟩, h _ mut_dN ?_⟩
          rw [p1]
          have nk2 : NKeys (upd H ad (NDictO ad (putN rows kk b x))) (putN rows kk b x) := (putN_keys nk ⟨hq, of_decide_eq_true hd⟩).mono fun c ys ec => by rw [upd_ne (ne_of ec hx fun z => nomatch z)]; exact ec
          have rt2 := Root.dct (K := K) (g := g) (vs := D.putV ((rows.map NRow.pr).map fun p => kN p.1) vs (kN kk) dx) upd_same (.dN (putN rows kk b x) nk2) (by rw [putN_pr]; exact p2.fr fr m)
          rw [putN_pr] at rt2
          exact rt2
        | _ => simp [D.lookKey] at cc
    · cases e
  · cases e
def storeM (i : Nat) (fv fk : M Res) : M Fl := fv >>= fun rv => useM rv >>= fun x => guardM (fun S => (whereM i S).isSome) (fk >>= fun rk => useM rk >>= fun k => storeK i k x >>= fun _ => pure .next)
theorem GoS.guard {c : Sx → Bool} {f : M Fl} {D : Ends} (h : GoS K mg z (guardM c f) S σ H g D) : c S = true ∧ GoS K mg z f S σ H g D := by
  unfold GoS guardM at h
  by_cases e : c S = true
  · simp only [if_pos e] at h; exact ⟨e, h⟩
  · simp only [if_neg e] at h
theorem GoS.storeK {k x : D} {D : Ends} {ad : Addr} {vk vx : V} (s : SR K z S σ H g) (es : σ[i]? = some (some (.ref ad))) (py : Rp K H g vk k) (px : Rp K H g vx x) (h : GoS K mg z (DL.storeK i k x >>= fun _ => pure .next) S σ H g D) : rSetA (.ref ad) vk vx H fun H1 => D.nx σ H1 := by
  unfold GoS at h
  change (match M.bnd (DL.storeK i k x) (fun _ => (Pure.pure Fl.next : M Fl)) S with
    | Option.none => False
    | some (.ok .next, S') => ∀ σ' H' g', SR K z S' σ' H' g' → Fr H g H' g' → D.nx σ' H'
    | some (.ok .brk, S') => ∀ σ' H' g', SR K z S' σ' H' g' → Fr H g H' g' → D.bk σ' H'
    | some (.ok .cont, S') => ∀ σ' H' g', SR K z S' σ' H' g' → Fr H g H' g' → D.ct σ' H'
    | some (.ok (.ret r), S') => ∀ σ' H' g' v, SR K z S' σ' H' g' → Fr H g H' g' → ResOk K z S' σ' H' g' v r → D.rt v H'
    | some (.error x, S') => ∀ cls dx σ' H' g', SR K z S' σ' H' g' → Fr H g H' g' → ExnOk K mg H' g' cls dx x → z.W cls dx σ' H') at h
  unfold M.bnd DL.storeK at h
  cases e2 : whereM i S with
  | none => simp only [e2] at h
  | some pr =>
    obtain ⟨w, d⟩ := pr
    simp only [e2] at h
    cases e3 : d.store k x with
    | none => simp only [e3] at h
    | some d' =>
      simp only [e3] at h
      obtain ⟨ad2, es2, rt2, upd2⟩ := s.where_ e2
      rw [es] at es2; cases es2
      refine store_ok rt2 py px e3 (s.bad_of e2 es) s.mu _ fun o hm rr => ?_
      obtain ⟨s3, f3⟩ := upd2 o d' hm rr
      exact h σ _ g s3 f3
theorem ds_store (hu : X.A.units + 65 < cLine) (i : Nat) (hv' : DE X z a fa) (hk : DE X z b fb) (hN : X.N[i]? = some x := by rfl) (hv : Vis X.env.scope x := by first | exact Or.inl rfl | exact Or.inr (Or.inl rfl) | exact Or.inr (Or.inr rfl)) (hd : (x == ("__debug__" : Str)) = false := by decide) (hcd : (x == ("__classdict__" : Str)) = false := by decide)
    {p1 : Pos} (hsub : ∀ v, assign (.Subscript (.Name x px) b p1) X.env v = (do
      let ov ← holding [v] (eval (.Name x px) X.env)
      let iv ← holding [v, ov] (eval b X.env)
      standAt p1
      holding [v, ov, iv] (setItem ov iv v)
      release [v, ov, iv] []) := by intro _; rfl)
    (hs : swapsWithSole [.Subscript (.Name x px) b p1] a pos.line X.env = pure false := by rfl) (hw : swappedStores [.Subscript (.Name x px) b p1] a X.env = pure Option.none := by rfl)
    (h1 : (assignEach [.Subscript (.Name x px) b p1] X.env).map (·.2) = [assign (.Subscript (.Name x px) b p1) X.env] := by rfl) : DS X z (.Assign [.Subscript (.Name x px) b p1] a pos) (storeM i fa fb) :=
  PS.imp (ps_asg hv' (pg_sub (pe_var hN hv hd hcd) hk (set_any hu) hsub) hs hw h1) fun D σ H ⟨S, g, s, q⟩ => by
    refine ⟨S, g, s, q.bnd.imp fun rv S1 H1 g1 s1 f1 q1 v rvv => ?_⟩
    obtain ⟨S2, g2, s2, f2, rp, q2⟩ := GoS.use s1 rvv q1
    obtain ⟨c, q3⟩ := GoS.guard q2
    obtain ⟨⟨w0, d0⟩, e0⟩ := Option.isSome_iff_exists.mp c
    obtain ⟨ad, es, _, _⟩ := s2.where_ e0
    refine ⟨_, es, S2, g2, s2, q3.bnd.imp fun rk S3 H3 g3 s3 f3 q4 y ry => ?_⟩
    obtain ⟨S5, g5, s5, f5, rpk, q5⟩ := GoS.use s3 ry q4
    exact q5.storeK s5 es rpk (rp.fr (f3.trans f5) s2.mu)
end
end DL
end
section
set_option maxRecDepth 100000
namespace DL
open PySem PySem.Spec L2
def Slot.frz : Slot → Slot
  | .own d => .dat d
  | s => s
def wipeE (env : List Slot) : List Nat → List Slot
  | [] => env
  | v :: vs => (wipeE env vs).set v .un
def compL (turn : D → M (Option D)) (env : List Slot) : List D → List D → List D → Option (List D × List D)
  | [], acc, o => some (acc, o)
  | d :: ds, acc, o => match turn d ⟨env, o⟩ with
    | some (.ok (some x), S') => if acc.length < sizeLine then compL turn env ds (acc ++ [x]) S'.objs else none
    | some (.ok none, S') => compL turn env ds acc S'.objs
    | _ => none
def turnM (tgt : D → M Unit) (t : M Bool) (f : M Res) (d : D) : M (Option D) := tgt d >>= fun _ => t >>= fun b => if b = true then f >>= fun r => useM r >>= fun x => pure (some x) else pure none
def lcM (it : M (List D)) (own : List Nat) (turn : D → M (Option D)) : M Res := it >>= fun ds => fun S => match compL turn (wipeE (S.env.map Slot.frz) own) ds [] S.objs with
  | none => none
  | some (acc, objs') => if D.imms acc && objs'.all (fun o => D.imms o.parts) then some (.ok (.new (.lst acc)), { S with objs := objs' }) else some (.ok (.new (.lst acc)), ⟨S.env.map Slot.frz, objs'⟩)
section
variable {X : Cx} {z : Zx} {S S' : Sx} {σ : L2.St} {H H' H0 : Hp} {g g' g2 : Gh} {v : V} {d : D} {r : Res} {K : PySem.W.Frag} {mg : Str → Option Value} {pos p : Pos} {a b c e : Expr} {fa fb fc : M Res} {i : Nat} {o : HO}
theorem wipe_at {σ : L2.St} {i : Nat} : ∀ {vs : List Nat}, i ∈ vs → i < σ.length → (wipe σ vs)[i]? = some none
  | v :: vs, h, hl => by
    unfold wipe
    by_cases e : v = i
    · subst e
      exact List.getElem?_set_self (by rw [wipe_length]; exact hl)
    · rw [List.getElem?_set_ne e]
      exact wipe_at ((List.mem_cons.mp h).elim (fun q => absurd q.symm e) id) hl
theorem wipe_sm {σ σ' : L2.St} {ts vs : List Nat} (m : Sm ts (wipe σ vs) σ') (h : ∀ i ∈ ts, i ∈ vs) : wipe σ' vs = wipe σ vs := by
  have hl : σ'.length = σ.length := by rw [m.len, wipe_length]
  apply List.ext_getElem?
  intro i
  by_cases hi : i ∈ vs
  · by_cases hs : i < σ.length
    · rw [wipe_at hi hs, wipe_at hi (by rw [hl]; exact hs)]
    · rw [List.getElem?_eq_none (by rw [wipe_length]; omega), List.getElem?_eq_none (by rw [wipe_length]; omega)]
  · rw [wipe_out hi]
    exact m.at_ i fun q => hi (h i q)
theorem wipeE_len (env : List Slot) : ∀ vs : List Nat, (wipeE env vs).length = env.length
  | [] => rfl
  | v :: vs => by unfold wipeE; rw [List.length_set, wipeE_len env vs]
theorem wipeE_get {env : List Slot} {i : Nat} {x : Slot} : ∀ {vs : List Nat}, (wipeE env vs)[i]? = some x → x ≠ .un → env[i]? = some x ∧ i ∉ vs
  | [], h, _ => ⟨h, by simp⟩
  | v :: vs, h, n => by
    unfold wipeE at h
    rcases set_get h with ⟨_, q⟩ | ⟨ne, q⟩
    · exact absurd q n
    · obtain ⟨h1, h2⟩ := wipeE_get q n
      exact ⟨h1, fun m => (List.mem_cons.mp m).elim (fun e => ne e.symm) h2⟩
theorem SR.frzAll (s : SR K z S σ H g) : ∃ g', SR K z ⟨S.env.map Slot.frz, S.objs⟩ σ H g' ∧ Fr H g H g' ∧ g'.om = g.om ∧ ∀ a, g'.bad a → g.bad a := by
  have key : ∀ n, ∃ S' g', SR K z S' σ H g' ∧ Fr H g H g' ∧ g'.om = g.om ∧ (∀ a, g'.bad a → g.bad a) ∧ S'.objs = S.objs ∧ S'.env.length = S.env.length ∧ ∀ i : Nat, S'.env[i]? = if i < n then S.env[i]?.map Slot.frz else S.env[i]? := by
    intro n
    induction n with
    | zero => exact ⟨S, g, s, Fr.refl _ _, rfl, fun _ h => h, rfl, rfl, fun i => by rw [if_neg (Nat.not_lt_zero i)]⟩
    | succ n ih =>
      obtain ⟨S1, g1, s1, f1, o1, b1, e1, l1, q1⟩ := ih
      have hn := q1 n
      rw [if_neg (Nat.lt_irrefl n)] at hn
      cases e : S.env[n]? with
      | none =>
        refine ⟨S1, g1, s1, f1, o1, b1, e1, l1, fun i => ?_⟩
        rw [q1 i]
        by_cases h1 : i < n
        · rw [if_pos h1, if_pos (Nat.lt_succ_of_lt h1)]
        · by_cases h2 : i = n
          · subst h2; rw [if_neg h1, if_pos (Nat.lt_succ_self i), e]; rfl
          · rw [if_neg h1, if_neg (by omega)]
      | some sl =>
        rw [e] at hn
        cases sl with
        | own d =>
          obtain ⟨ad, es, _⟩ := s1.own n d hn
          obtain ⟨s2, _⟩ := s1.use_own hn es
          have hl : n < S1.env.length := (List.getElem?_eq_some_iff.mp hn).1
          refine ⟨S1.put n (.dat d), g1.del ad, s2, f1.trans Fr.del, o1, fun a h => b1 a h.1, e1, by show (S1.env.set n _).length = _; rw [List.length_set]; exact l1, fun i => ?_⟩
          show (S1.env.set n (.dat d))[i]? = _
          by_cases h2 : n = i
          · subst h2
            rw [List.getElem?_set_self hl, if_pos (Nat.lt_succ_self n), e]; rfl
          · rw [List.getElem?_set_ne h2, q1 i]
            by_cases h1 : i < n
            · rw [if_pos h1, if_pos (Nat.lt_succ_of_lt h1)]
            · rw [if_neg h1, if_neg (by omega)]
        | dat d =>
          refine ⟨S1, g1, s1, f1, o1, b1, e1, l1, fun i => ?_⟩
          rw [q1 i]
          by_cases h1 : i < n
          · rw [if_pos h1, if_pos (Nat.lt_succ_of_lt h1)]
          · by_cases h2 : i = n
            · subst h2; rw [if_neg h1, if_pos (Nat.lt_succ_self i), e]; rfl
            · rw [if_neg h1, if_neg (by omega)]
        | un =>
          refine ⟨S1, g1, s1, f1, o1, b1, e1, l1, fun i => ?_⟩
          rw [q1 i]
          by_cases h1 : i < n
          · rw [if_pos h1, if_pos (Nat.lt_succ_of_lt h1)]
          · by_cases h2 : i = n
            · subst h2; rw [if_neg h1, if_pos (Nat.lt_succ_self i), e]; rfl
            · rw [if_neg h1, if_neg (by omega)]
  obtain ⟨S1, g1, s1, f1, o1, b1, e1, l1, q1⟩ := key S.env.length
  refine ⟨g1, ?_, f1, o1, b1⟩
  have : S1 = ⟨S.env.map Slot.frz, S.objs⟩ := by
    obtain ⟨env, objs⟩ := S1
    cases e1
    congr 1
    apply List.ext_getElem?
    intro i
    have := q1 i
    change env[i]? = _ at this
    rw [this, List.getElem?_map]
    by_cases h : i < S.env.length
    · rw [if_pos h]
    · rw [if_neg h, List.getElem?_eq_none (by omega)]; rfl
  rw [← this]; exact s1
def noOwn (env : List Slot) : Prop := ∀ (i : Nat) (d : D), env[i]? ≠ some (.own d)
theorem noOwn_frz (env : List Slot) (vs : List Nat) : noOwn (wipeE (env.map Slot.frz) vs) := fun i d h => by
  obtain ⟨h1, _⟩ := wipeE_get h (by simp)
  rw [List.getElem?_map] at h1
  obtain ⟨x, _, e⟩ := Option.map_eq_some_iff.mp h1
  cases x <;> cases e
structure In (K : PySem.W.Frag) (env : List Slot) (objs : List D) (σ : L2.St) (H : Hp) (g : Gh) : Prop where
  len : env.length = σ.length
  dat : ∀ (i : Nat) (d : D), env[i]? = some (.dat d) → ∃ v, σ[i]? = some (some v) ∧ Rp K H g v d
  olen : objs.length = g.om.length
  obj : ∀ (n : Nat) (a : Addr) (d : D), g.om[n]? = some a → objs[n]? = some d → Root K H g a d ∧ g.bad a
  ond : g.om.Nodup
  mu : Mu H g
theorem In.sr {env : List Slot} {objs : List D} (h : In K env objs σ H g) (no : noOwn env) (W : WX) : SR K ⟨H, g.bad, g.om, W⟩ ⟨env, objs⟩ σ H g where
  len := h.len
  dat := h.dat
  own := fun i d e => absurd e (no i d)
  inj := fun i j d e a q => absurd q (no i d)
  olen := h.olen
  obj := h.obj
  ond := h.ond
  mu := h.mu
  base := fun a q => q
  b0 := fun a q e => by have := h.mu a q; change H a = none at e; rw [e] at this; exact this
  keep := fun a o q _ => q
  on := fun a q => .inl q
theorem Grow.fr (gr : Grow H H') : Fr H g H' g := by
  rcases gr with rfl | ⟨p, xs, hp, rfl⟩
  · exact Fr.refl _ _
  · exact Fr.upd_new hp
theorem In.grow {env : List Slot} {objs : List D} (h : In K env objs σ H g) (gr : Grow H H') : In K env objs σ H' g := by
  constructor
  · exact h.len
  · intro i d e
    obtain ⟨v, e1, r⟩ := h.dat i d e
    exact ⟨v, e1, r.fr gr.fr h.mu⟩
  · exact h.olen
  · intro n a d e1 e2
    obtain ⟨rt, hb⟩ := h.obj n a d e1 e2
    refine ⟨rt.fr gr.fr h.mu ?_, hb⟩
    rcases gr with rfl | ⟨p, xs, hp, rfl⟩
    · rfl
    · exact upd_ne fun q => rt.there (q ▸ hp)
  · exact h.ond
  · intro a hb
    have := h.mu a hb
    rcases gr with rfl | ⟨p, xs, hp, rfl⟩
    · exact this
    · rw [upd_ne (show a ≠ p from fun q => by rw [q, hp] at this; exact this)]; exact this
abbrev blkW : WX := fun _ _ _ _ => False
variable {tg elt iter : Expr} {ifs : List Expr} {scope : Scope} {own : List (Str × Nat)} {it : M (List D)} {tgt : D → M Unit} {t : M Bool} {f : M Res} {ts : List Nat}
def tDx (K : PySem.W.Frag) (mg : Str → Option Value) (f : M Res) : TE := fun σ H Q => ∃ z : Zx, z.W = blkW ∧ tD K mg z f σ H Q
def tTx (K : PySem.W.Frag) (mg : Str → Option Value) (f : M Bool) : TT := fun σ H Q => ∃ z : Zx, z.W = blkW ∧ tT K mg z f σ H Q
def tGx (K : PySem.W.Frag) (ts : List Nat) (f : D → M Unit) : TG := fun v σ H Q => ∃ z : Zx, tG K z ts f v σ H Q
theorem pe_x (h : ∀ z : Zx, z.W = blkW → DE X z e fa) : PE X e (tDx X.K X.mg fa) := ⟨fun pins s σ H Q I ⟨z, w, q⟩ => (h z w).run pins s σ H Q I q⟩
theorem pt_x (h : ∀ z : Zx, z.W = blkW → DT X z e t) : PT X e (tTx X.K X.mg t) := ⟨fun pins s σ H Q I ⟨z, w, q⟩ => (h z w).run pins s σ H Q I q⟩
theorem pg_x (h : ∀ z : Zx, DG X z ts e tgt) : PG X e (tGx X.K ts tgt) := ⟨fun pins s σ H v u Q I r ⟨z, q⟩ => (h z).run pins s σ H v u Q I r q⟩
theorem pts_x0 : PTs X [] (tTx X.K X.mg (pure true)) := ⟨fun pins s σ H Q I ⟨z, w, S, g, sr, q⟩ => pts_nil.run pins s σ H Q I (q.pure sr)⟩
theorem pts_x1 (h : ∀ z : Zx, z.W = blkW → DT X z e t) : PTs X [e] (tTx X.K X.mg t) := pts_one (pt_x h)
theorem Go.of_run {α : Type} {f : M α} {x : α} {P : α → Sx → Hp → Gh → Prop} (e : f S = some (.ok x, S')) (h : ∀ H' g', SR K z S' σ H' g' → Fr H g H' g' → P x S' H' g') : Go K mg z f S σ H g P := by
  unfold Go
  rw [e]
  exact h
structure Blk (K : PySem.W.Frag) (env : List Slot) (σ : L2.St) (vs : List Nat) (H1 : Hp) (g1 : Gh) (Dd : Addr) (acc objs : List D) (H : Hp) (g : Gh) : Prop where
  inn : In K env objs (wipe σ vs) H g
  keep : ∀ a o, H1 a = some o → a ∉ g.om → H a = some o
  fr : Fr H1 g1 H g
  base : ∀ a, g1.bad a → g.bad a
  new : ∀ a, a ∈ g.om → a ∈ g1.om ∨ H1 a = none
  lst : ∃ accV, H Dd = some (.lst accV) ∧ RpA K H g accV acc
  bad : g.bad Dd
  om : Dd ∉ g.om
theorem Blk.step {env : List Slot} {σ : L2.St} {vs : List Nat} {H1 H' H4 : Hp} {g1 g5 : Gh} {Dd : Addr} {acc objs : List D} {S4 : Sx} {σ2 : L2.St} (b : Blk K env σ vs H1 g1 Dd acc objs H g) (hD : H1 Dd = none) (gr : Grow H H')
    (s : SR K ⟨H', g.bad, g.om, blkW⟩ S4 σ2 H4 g5) (f : Fr H' g H4 g5) :
    (∀ a o, H a = some o → a ∉ g5.om → H4 a = some o) ∧ Dd ∉ g5.om ∧ (∃ accV, H4 Dd = some (.lst accV) ∧ RpA K H4 g5 accV acc) ∧ Blk K env σ vs H1 g1 Dd acc S4.objs H4 g5 := by
  have k1 : ∀ a o, H a = some o → H' a = some o := fun a o h => by
    rcases gr with rfl | ⟨p, xs, hp, rfl⟩
    · exact h
    · rw [upd_ne (ne_of_none h hp)]; exact h
  have f1 : Fr H g H' g := by
    rcases gr with rfl | ⟨p, xs, hp, rfl⟩
    · exact Fr.refl _ _
    · exact Fr.upd_new hp
  have sub : ∀ a, a ∈ g.om → a ∈ g5.om := fun a h => by
    obtain ⟨t, e⟩ := f.om
    rw [← e]; exact List.mem_append_left _ h
  have nom : Dd ∉ g5.om := fun h => by
    rcases s.on Dd h with q | q
    · exact b.om q
    · obtain ⟨accV, e, _⟩ := b.lst
      change H' Dd = none at q
      rw [k1 _ _ e] at q; cases q
  have kp : ∀ a o, H a = some o → a ∉ g5.om → H4 a = some o := fun a o h n => s.keep a o (k1 a o h) n
  have lst : ∃ accV, H4 Dd = some (.lst accV) ∧ RpA K H4 g5 accV acc := by
    obtain ⟨accV, e, r⟩ := b.lst
    exact ⟨accV, kp _ _ e nom, r.fr (f1.trans f) b.inn.mu⟩
  refine ⟨kp, nom, lst, ?_⟩
  constructor
  · constructor
    · exact b.inn.len
    · intro i d e
      obtain ⟨v, e1, r⟩ := b.inn.dat i d e
      exact ⟨v, e1, r.fr (f1.trans f) b.inn.mu⟩
    · exact s.olen
    · exact s.obj
    · exact s.ond
    · exact s.mu
  · exact fun a o h n => kp a o (b.keep a o h fun q => n (sub a q)) n
  · exact b.fr.trans (f1.trans f)
  · exact fun a h => s.base a (b.base a h)
  · intro a h
    rcases s.on a h with q | q
    · exact b.new a q
    · change H' a = none at q
      by_cases m : a ∈ g.om
      · exact b.new a m
      · refine .inr ?_
        cases e : H1 a with
        | none => rfl
        | some o => rw [k1 _ _ (b.keep a o e m)] at q; cases q
  · exact lst
  · exact s.base _ b.bad
  · exact nom
theorem Blk.put {env : List Slot} {σ : L2.St} {vs : List Nat} {H1 : Hp} {g1 : Gh} {Dd : Addr} {acc objs : List D} {accV : List V} {y : V} {x : D} (b : Blk K env σ vs H1 g1 Dd acc objs H g) (hD : H1 Dd = none) (e : H Dd = some (.lst accV)) (r : RpA K H g accV acc) (rx : Rp K H g y x) :
    Blk K env σ vs H1 g1 Dd (acc ++ [x]) objs (upd H Dd (.lst (accV ++ [y]))) g := by
  have f : Fr H g (upd H Dd (.lst (accV ++ [y]))) g := Fr.mut b.bad
  constructor
  · constructor
    · exact b.inn.len
    · intro i d e
      obtain ⟨v, e1, r⟩ := b.inn.dat i d e
      exact ⟨v, e1, r.fr f b.inn.mu⟩
    · exact b.inn.olen
    · intro n a d e1 e2
      obtain ⟨rt, hb⟩ := b.inn.obj n a d e1 e2
      exact ⟨rt.fr f b.inn.mu (upd_ne fun q => b.om (q ▸ List.mem_iff_getElem?.mpr ⟨n, e1⟩)), hb⟩
    · exact b.inn.ond
    · intro a hb
      by_cases q : a = Dd
      · subst q; rw [upd_same]; trivial
      · rw [upd_ne q]; exact b.inn.mu a hb
  · intro a o h n
    rw [upd_ne (ne_of_none h hD)]; exact b.keep a o h n
  · exact b.fr.trans f
  · exact b.base
  · exact b.new
  · exact ⟨_, upd_same, (r.append (.cons rx .nil)).fr f b.inn.mu⟩
  · exact b.bad
  · exact b.om
theorem blk_loop {env : List Slot} {σ : L2.St} {vs : List Nat} {H1 HJ : Hp} {g1 gJ : Gh} {Dd : Addr} {ds acc objs accF objsF : List D} {J : It} {Pd : Hp → Prop} (hcl : Calm tgt) (hts : ∀ i ∈ ts, i ∈ vs) (hD : H1 Dd = none) (no : noOwn env)
    (jk : ItOk K J ds HJ gJ) (fJ : Fr HJ gJ H g) (b : Blk K env σ vs H1 g1 Dd acc objs H g) (hrun : compL (turnM tgt t f) env ds acc objs = some (accF, objsF))
    (hP : ∀ H' g', Blk K env σ vs H1 g1 Dd accF objsF H' g' → Fr H g H' g' → J.stop ds.length H' → Pd H') :
    ∃ W : Nat → Nat → Hp → Prop, (∃ m, W 0 m H) ∧ ∀ i m H, W i m H →
      (J.stop i H ∧ Pd H) ∨ (J.go i H ∧ ∃ Nx : Hp → Prop, (∀ H', Nx H' → ∃ m', m' < m ∧ W (i + 1) m' H') ∧ ∀ x H', J.yld i H x H' → tGx K ts tgt x (wipe σ vs) H' fun σ2 H2 => wipe σ2 vs = wipe σ vs ∧ tTx K mg t σ2 H2 fun b H3 =>
        if b = true then tDx K mg f σ2 H3 fun y H4 => ∃ acc, H4 Dd = some (.lst acc) ∧ acc.length < sizeLine ∧ Nx (upd H4 Dd (.lst (acc ++ [y]))) else Nx H3) := by
  refine ⟨fun i m H' => m = ds.length - i ∧ i ≤ ds.length ∧ ∃ g' acc objs, Fr H g H' g' ∧ Blk K env σ vs H1 g1 Dd acc objs H' g' ∧ compL (turnM tgt t f) env (ds.drop i) acc objs = some (accF, objsF), ⟨ds.length, by simp, Nat.zero_le _, g, acc, objs, Fr.refl _ _, b, hrun⟩, ?_⟩
  rintro i m H2 ⟨rfl, hi2, g2, acc, objs, fB, b, hr⟩
  have fJ : Fr HJ gJ H2 g2 := fJ.trans fB
  by_cases hlt : i < ds.length
  · have e := List.getElem?_eq_getElem hlt
    refine .inr ⟨jk.go i _ H2 g2 fJ e, fun H' => ∃ g' acc objs, Fr H g H' g' ∧ Blk K env σ vs H1 g1 Dd acc objs H' g' ∧ compL (turnM tgt t f) env (ds.drop (i + 1)) acc objs = some (accF, objsF), fun H' w => ⟨ds.length - (i + 1), by omega, rfl, hlt, w⟩, fun x H3 y => ?_⟩
    obtain ⟨gr, rx⟩ := jk.yld i _ H2 g2 x H3 fJ b.inn.mu e y
    rw [drop_get e] at hr
    have f3 : Fr H2 g2 H3 g2 := gr.fr
    have s3 : SR K ⟨H3, g2.bad, g2.om, blkW⟩ ⟨env, objs⟩ (wipe σ vs) H3 g2 := (b.inn.grow gr).sr no blkW
    unfold compL at hr
    cases hturn : turnM tgt t f ds[i] ⟨env, objs⟩ with
    | none => rw [hturn] at hr; cases hr
    | some pr =>
      obtain ⟨res, S'⟩ := pr
      cases res with
      | error x => rw [hturn] at hr; cases hr
      | ok res =>
        obtain ⟨u, S4, r4, hturn⟩ := bind_inv hturn
        obtain ⟨bb, S5, r5, hturn⟩ := bind_inv hturn
        refine ⟨⟨H3, g2.bad, g2.om, blkW⟩, ⟨env, objs⟩, g2, ds[i], s3, rx.fr (Fr.refl _ _) s3.mu, ?_⟩
        unfold GoG
        rw [r4]
        intro σ4 H4 g4 s4 f4 m4
        refine ⟨wipe_sm m4 hts, ⟨H3, g2.bad, g2.om, blkW⟩, rfl, S4, g4, s4, Go.of_run r5 fun H5 g5 s5 f5 => ?_⟩
        cases bb with
        | false =>
          simp only [if_neg Bool.false_ne_true] at hturn ⊢
          cases hturn
          obtain ⟨_, _, _, b5⟩ := b.step hD gr s5 (f4.trans f5)
          have hr2 : compL (turnM tgt t f) env (ds.drop (i + 1)) acc S'.objs = some (accF, objsF) := by
            rw [show turnM tgt t f ds[i] ⟨env, objs⟩ = some (.ok none, S') from by
              unfold turnM; rw [bind_ok r4, bind_ok r5]; rfl] at hr
            exact hr
          exact ⟨g5, acc, S'.objs, fB.trans (f3.trans (f4.trans f5)), b5, hr2⟩
        | true =>
          simp only [if_pos] at hturn ⊢
          obtain ⟨rr, S6, r6, hturn⟩ := bind_inv hturn
          obtain ⟨xx, S7, r7, hturn⟩ := bind_inv hturn
          cases hturn
          refine ⟨⟨H3, g2.bad, g2.om, blkW⟩, rfl, S5, g5, s5, Go.of_run r6 fun H6 g6 s6 f6 v rv => ?_⟩
          have gu : Go K mg ⟨H3, g2.bad, g2.om, blkW⟩ (useM rr >>= fun d => pure d) S6 σ4 H6 g6 (fun x Sq H' g' => x = xx ∧ Sq = S') := by
            refine Go.of_run (x := xx) (S' := S') ?_ (fun _ _ _ _ => ⟨rfl, rfl⟩)
            rw [bind_ok r7]; rfl
          obtain ⟨S8, g8, s8, f8, rp, gu2⟩ := gu.use s6 rv
          obtain ⟨e1, e2⟩ := gu2.pure s8
          subst e2
          obtain ⟨_, _, ⟨accV, hl, ra⟩, b8⟩ := b.step hD gr s8 (((f4.trans f5).trans f6).trans f8)
          have hr2 : (if acc.length < sizeLine then compL (turnM tgt t f) env (ds.drop (i + 1)) (acc ++ [xx]) S8.objs else none) = some (accF, objsF) := by
            rw [show turnM tgt t f ds[i] ⟨env, objs⟩ = some (.ok (some xx), S8) from by
              unfold turnM; rw [bind_ok r4, bind_ok r5, if_pos rfl, bind_ok r6, bind_ok r7]; rfl] at hr
            exact hr
          by_cases hz : acc.length < sizeLine
          · rw [if_pos hz] at hr2
            refine ⟨accV, hl, by rw [ra.length]; exact hz, g8, acc ++ [xx], S8.objs, (fB.trans (f3.trans (((f4.trans f5).trans f6).trans f8))).trans (Fr.mut b8.bad), b8.put hD hl ra (e1 ▸ rp), hr2⟩
          · rw [if_neg hz] at hr2; cases hr2
  · have e : i = ds.length := by omega
    subst e
    rw [List.drop_length] at hr
    unfold compL at hr
    cases hr
    have st := jk.stop H2 g2 fJ
    exact .inl ⟨st, hP H2 g2 b fB st⟩
def outL (acc objs' : List D) (S : Sx) : Option (Except Exn Res × Sx) :=
  if D.imms acc && objs'.all (fun o => D.imms o.parts) then some (.ok (.new (.lst acc)), { S with objs := objs' }) else some (.ok (.new (.lst acc)), ⟨S.env.map Slot.frz, objs'⟩)
theorem blk_out {S1 : Sx} {env : List Slot} {σ : L2.St} {vs : List Nat} {H1 H2 : Hp} {g1 gf g2 : Gh} {Dd : Addr} {accF objsF : List D} {P : Res → Sx → Hp → Gh → Prop} (s1 : SR K z S1 σ H1 g1) (sf : SR K z ⟨S1.env.map Slot.frz, S1.objs⟩ σ H1 gf) (ff : Fr H1 g1 H1 gf) (of : gf.om = g1.om) (hD : H1 Dd = none)
    (b : Blk K env σ vs H1 gf Dd accF objsF H2 g2) (q : match outL accF objsF S1 with | some (.ok r, S') => ∀ H' g', SR K z S' σ H' g' → Fr H1 g1 H' g' → P r S' H' g' | _ => False) :
    ∃ S' g', SR K z S' σ H2 g' ∧ Fr H1 g1 H2 g' ∧ ResOk K z S' σ H2 g' (.ref Dd) (.new (.lst accF)) ∧ P (.new (.lst accF)) S' H2 g' := by
  obtain ⟨accV, hl, ra⟩ := b.lst
  have bh : Behind K H1 gf objsF H2 g2 := ⟨b.keep, b.base, b.fr.om, b.inn.ond, b.inn.mu, ⟨b.inn.olen, b.inn.obj⟩, b.new⟩
  have inom : ∀ c, c ∈ g2.om → g2.bad c := fun c q => by
    obtain ⟨j, hj⟩ := List.mem_iff_getElem?.mp q
    have hl : j < objsF.length := by rw [b.inn.olen]; exact (List.getElem?_eq_some_iff.mp hj).1
    exact (b.inn.obj j c _ hj (List.getElem?_eq_getElem hl)).2
  have hR : ∀ c, c = Dd → H1 c = none ∧ g2.bad c := fun c q => q ▸ ⟨hD, b.bad⟩
  unfold outL at q
  by_cases safe : (D.imms accF && objsF.all fun o => D.imms o.parts) = true
  · simp only [if_pos safe] at q
    rw [Bool.and_eq_true] at safe
    have sr := bh.sr s1 (root := fun c => c = Dd) of hR fun n c d e1 e2 => root_im_parts (b.inn.obj n c d e1 e2).1 (List.all_eq_true.mp safe.2 d (List.mem_of_getElem? e2))
    have fr := bh.fr (root := fun c => c = Dd) s1 of (fun c q => (hR c q).1)
    exact ⟨_, _, sr, fr, ⟨Dd, rfl, .inr (.inr rfl), .lst hl (ra.im (show g2.om <+: (g1.aft g2 fun c => c = Dd).om from List.prefix_rfl) safe.1), s1.fresh0 hD, b.om, fun j d h1 h2 => s1.own_there h1 h2 hD⟩, q H2 _ sr fr⟩
  · simp only [if_neg safe] at q
    have less : Fr H2 g2 H2 (gf.aft g2 fun c => c = Dd) := Fr.less (fun c q => q.elim (b.base c) fun q => q.elim (inom c) fun q => (hR c q).2) rfl
    have sr := bh.sr sf (root := fun c => c = Dd) rfl hR fun n c d e1 e2 => (b.inn.obj n c d e1 e2).1.fr less b.inn.mu rfl
    have fr := bh.fr (root := fun c => c = Dd) sf rfl (fun c q => (hR c q).1)
    exact ⟨_, _, sr, ff.trans fr, ⟨Dd, rfl, .inr (.inr rfl), .lst hl (ra.fr less b.inn.mu), s1.fresh0 hD, b.om, fun j d h1 h2 => sf.own_there h1 h2 hD⟩, q H2 _ sr (ff.trans fr)⟩
theorem blk_start {S1 : Sx} {σ : L2.St} {vs : List Nat} {H1 : Hp} {gf : Gh} {Dd : Addr} (sf : SR K z ⟨S1.env.map Slot.frz, S1.objs⟩ σ H1 gf) (hD : H1 Dd = none) :
    Blk K (wipeE (S1.env.map Slot.frz) vs) σ vs H1 gf Dd [] S1.objs (upd H1 Dd (.lst [])) (gf.add Dd) := by
  have fr : Fr H1 gf (upd H1 Dd (.lst [])) (gf.add Dd) := Fr.upd_add hD
  have sr := sf.alloc hD (o := .lst []) trivial
  constructor
  · constructor
    · rw [wipeE_len, wipe_length]
      exact sf.len
    · intro i d e
      obtain ⟨e1, e2⟩ := wipeE_get e (by simp)
      obtain ⟨v, e3, r⟩ := sf.dat i d e1
      exact ⟨v, by rw [wipe_out e2]; exact e3, r.fr fr sf.mu⟩
    · exact sr.olen
    · exact sr.obj
    · exact sr.ond
    · exact sr.mu
  · intro a o h _
    rw [upd_ne (ne_of_none h hD)]; exact h
  · exact fr
  · exact fun a h => .inl h
  · exact fun a h => .inl h
  · exact ⟨[], upd_same, .nil⟩
  · exact .inr rfl
  · exact fun h => sf.om_there h hD
theorem lcM_go {vs : List Nat} {turn : D → M (Option D)} {P : Res → Sx → Hp → Gh → Prop} (q : Go K mg z (lcM it vs turn) S σ H g P) :
    Go K mg z it S σ H g fun ds S1 H1 g1 => ∃ accF objsF, compL turn (wipeE (S1.env.map Slot.frz) vs) ds [] S1.objs = some (accF, objsF) ∧ match outL accF objsF S1 with | some (.ok r, S') => ∀ H' g', SR K z S' σ H' g' → Fr H1 g1 H' g' → P r S' H' g' | _ => False := by
  unfold lcM at q
  refine q.bnd.imp fun ds S1 H1 g1 s1 f1 q1 => ?_
  unfold Go at q1
  cases hrun : compL turn (wipeE (S1.env.map Slot.frz) vs) ds [] S1.objs with
  | none => simp only [hrun] at q1
  | some pr =>
    obtain ⟨accF, objsF⟩ := pr
    simp only [hrun] at q1
    refine ⟨accF, objsF, rfl, ?_⟩
    unfold outL
    by_cases safe : (D.imms accF && objsF.all fun o => D.imms o.parts) = true
    · simp only [if_pos safe] at q1 ⊢; exact q1
    · simp only [if_neg safe] at q1 ⊢; exact q1
theorem tlc_of {vs : List Nat} {Q : VK} (hcl : Calm tgt) (hts : ∀ i ∈ ts, i ∈ vs) (h : tD K mg z (lcM it vs (turnM tgt t f)) σ H Q) :
    tLc (tI K mg z it) (tGx K ts tgt) (tTx K mg t) (tDx K mg f) vs σ H Q := by
  obtain ⟨S, g, s, q⟩ := h
  refine ⟨S, g, s, (lcM_go q).imp fun ds S1 H1 g1 s1 f1 ⟨accF, objsF, hrun, qo⟩ J jk Dd hD => ?_⟩
  obtain ⟨gf, sf, ff, of, bf⟩ := s1.frzAll
  exact blk_loop hcl hts hD (noOwn_frz S1.env vs) jk (ff.trans (blk_start (vs := vs) sf hD).fr) (blk_start sf hD) hrun fun H' g' b fB st => by
    obtain ⟨S', g'', sr, fr, rv, p⟩ := blk_out (P := fun r S' H' g' => ∀ v, ResOk K z S' σ H' g' v r → Q v H') s1 sf ff of hD b qo
    exact p _ rv
theorem de_lc (hc : X.calm = true) (hN : X.N.Nodup) (hcl : Calm tgt) (hi : DI X z tg iter it) (ok : BlkOk X.N X.env.scope scope own) (hts : ∀ i ∈ ts, i ∈ own.map (·.2))
    (hg : ∀ (s : Shared) (H : Hp) (C : Addr) (cl : List (Str × Addr)) (fp : List Addr) (z : Zx), DG (X.blk s H scope (compEnvC scope cl C X.env) fp) z ts tg tgt)
    (ht : ∀ (s : Shared) (H : Hp) (C : Addr) (cl : List (Str × Addr)) (fp : List Addr), PTs (X.blk s H scope (compEnvC scope cl C X.env) fp) ifs (tTx X.K X.mg t))
    (he : ∀ (s : Shared) (H : Hp) (C : Addr) (cl : List (Str × Addr)) (fp : List Addr) (z : Zx), z.W = blkW → DE (X.blk s H scope (compEnvC scope cl C X.env) fp) z elt f)
    (hs : ∀ x, foldedSetIterable iter X.env x = pure x := by intro _; rfl) : DE X z (.ListComp elt [⟨tg, iter, ifs, 0⟩] scope pos) (lcM it (own.map (·.2)) (turnM tgt t f)) :=
  PE.imp (pe_lc (g := tGx X.K ts tgt) (tt := tTx X.K X.mg t) (te := tDx X.K X.mg f) hc hN hi ok (fun s H C cl fp => pg_x (hg s H C cl fp)) ht (fun s H C cl fp => pe_x (he s H C cl fp)) hs) fun σ H Q q => tlc_of hcl hts q
theorem asg_tD {i : Nat} {D0 : Ends} (h : tS K mg z (asgM i fa) D0 σ H) : tD K mg z fa σ H fun v H1 => gName i v σ H1 D0.nx := by
  obtain ⟨S, g, s, q⟩ := h
  exact ⟨S, g, s, q.bnd.imp fun r S1 H1 g1 s1 f1 q1 v rv => GoS.set s1 rv q1⟩
theorem ds_setLc {i : Nat} {y : Str} {py spos : Pos} (hc : X.calm = true) (hN : X.N.Nodup) (hcl : Calm tgt) (hi : DI X z tg iter it) (ok : BlkOk X.N X.env.scope scope own) (hts : ∀ i ∈ ts, i ∈ own.map (·.2))
    (hg : ∀ (s : Shared) (H : Hp) (C : Addr) (cl : List (Str × Addr)) (fp : List Addr) (z : Zx), DG (X.blk s H scope (compEnvC scope cl C X.env) fp) z ts tg tgt)
    (ht : ∀ (s : Shared) (H : Hp) (C : Addr) (cl : List (Str × Addr)) (fp : List Addr), PTs (X.blk s H scope (compEnvC scope cl C X.env) fp) ifs (tTx X.K X.mg t))
    (he : ∀ (s : Shared) (H : Hp) (C : Addr) (cl : List (Str × Addr)) (fp : List Addr) (z : Zx), z.W = blkW → DE (X.blk s H scope (compEnvC scope cl C X.env) fp) z elt f)
    (hy : X.N[i]? = some y := by rfl) (hyl : X.env.scope.names.lookup y = some .local := by rfl) (hsw : swapsWith (.ListComp elt [⟨tg, iter, ifs, 0⟩] scope pos) (some (.Name y py)) spos.line X.env = pure true := by rfl)
    (hs : ∀ x, foldedSetIterable iter X.env x = pure x := by intro _; rfl) : DS X z (.Assign [.Name y py] (.ListComp elt [⟨tg, iter, ifs, 0⟩] scope pos) spos) (asgM i (lcM it (own.map (·.2)) (turnM tgt t f))) :=
  PS.imp (ps_setLc (g := tGx X.K ts tgt) (tt := tTx X.K X.mg t) (te := tDx X.K X.mg f) hc hN hy hyl hsw hi ok (fun s H C cl fp => pg_x (hg s H C cl fp)) ht (fun s H C cl fp => pe_x (he s H C cl fp)) hs) fun D0 σ H q => tlc_of hcl hts (asg_tD q)
end
end DL
end
section
set_option maxRecDepth 100000
namespace DL
open PySem PySem.Spec L2
def compL2 (turn1 : D → M (Option (List D))) (turn2 : D → M (Option D)) (env : List Slot) (vs1 : List Nat) : List D → List D → List D → Option (List D × List D)
  | [], acc, o => some (acc, o)
  | d :: ds, acc, o => match turn1 d ⟨env, o⟩ with
    | some (.ok (some ds1), S') => match compL turn2 (wipeE (S'.env.map Slot.frz) vs1) ds1 acc S'.objs with
      | some (acc', o') => compL2 turn1 turn2 env vs1 ds acc' o'
      | none => none
    | some (.ok none, S') => compL2 turn1 turn2 env vs1 ds acc S'.objs
    | _ => none
def turn1M (tgt : D → M Unit) (t : M Bool) (it1 : M (List D)) (d : D) : M (Option (List D)) := tgt d >>= fun _ => t >>= fun b => if b = true then it1 >>= fun ds => pure (some ds) else pure none
def lcM2 (it : M (List D)) (own vs1 : List Nat) (turn1 : D → M (Option (List D))) (turn2 : D → M (Option D)) : M Res := it >>= fun ds => fun S => match compL2 turn1 turn2 (wipeE (S.env.map Slot.frz) own) vs1 ds [] S.objs with
  | none => none
  | some (acc, objs') => outL acc objs' S
section
variable {X : Cx} {z : Zx} {S S' : Sx} {σ : L2.St} {H H' H0 : Hp} {g g' g2 : Gh} {v : V} {d : D} {r : Res} {K : PySem.W.Frag} {mg : Str → Option Value} {pos p : Pos} {a b c e : Expr} {fa fb fc : M Res} {i : Nat} {o : HO}
variable {tg elt iter tg1 iter1 : Expr} {ifs ifs1 : List Expr} {scope : Scope} {own : List (Str × Nat)} {it it1 : M (List D)} {tgt tgt1 : D → M Unit} {t t1 : M Bool} {f : M Res} {ts ts1 vs vs1 : List Nat}
theorem Blk.back {env env' : List Slot} {σ σ' : L2.St} {vs vs' : List Nat} {H1 : Hp} {g1 : Gh} {Dd : Addr} {acc objs acc' objs' : List D} (b : Blk K env σ vs H1 g1 Dd acc objs H g) (c : Blk K env' σ' vs' H1 g1 Dd acc' objs' H' g') (f : Fr H g H' g') : Blk K env σ vs H1 g1 Dd acc' objs' H' g' where
  inn := ⟨b.inn.len, fun i d e => let ⟨v, e1, r⟩ := b.inn.dat i d e; ⟨v, e1, r.fr f b.inn.mu⟩, c.inn.olen, c.inn.obj, c.inn.ond, c.inn.mu⟩
  keep := c.keep
  fr := c.fr
  base := c.base
  new := c.new
  lst := c.lst
  bad := c.bad
  om := c.om
end
end DL
end
section
set_option maxRecDepth 100000
namespace DLE
open PySem
open AutoSeq1 (wpAny_loadPart')
section
variable {prog : Program} {w : World} {A : Around} {E : Value → Shared → Prop} {s : Shared}
theorem en_next {en jt : Addr} {n : Nat} {u was : Value} {St : Heap → Prop} {Q : Value → Shared → Prop} (hen : IsEnum s.heap en jt n was) (apart : en ≠ jt)
    (nx : ∀ Q' : Value → Shared → Prop, (∀ k, St k → Heap.SameBut jt s.heap k → Q' u { s with heap := k }) → wpAny (model prog w) A (Builtin.SmallTypes.nextOf (.ref jt)) Q' E s)
    (stab : ∀ k k', St k → (∀ o, k.get? jt = some o → k'.get? jt = some o) → St k')
    (fin : ∀ k, IsEnumOut k en jt ((n : Int) + 1) u s.heap.objs.size → St k → k.get? s.heap.objs.size = some { cls := .type "tuple", data := .seq #[.int n s.toks, u] } → k.objs.size = s.heap.objs.size + 1 →
      (∀ b o, b ≠ en → b ≠ jt → s.heap.get? b = some o → k.get? b = some o) → Q (.ref s.heap.objs.size) { s with heap := k, toks := s.toks + 1 }) :
    wpAny (model prog w) A (Builtin.«enumerate.__next__» ⟨[.ref en], []⟩) (fun fin s' => ∃ v, fin = .done (.ret v) ∧ Q v s') E s := by
  obtain ⟨h0, gg, dd, tt, oo⟩ := s
  show wpAny _ _ (field (.ref en) 2 >>= _) _ _ _
  refine wpAny_bind (wpAny_field hen rfl (x := .ref jt) rfl (wpAny_bind (nx _ fun k1 st1 sb1 => ?_)))
  replace sb1 : Heap.SameBut jt h0 k1 := sb1
  have e1 : IsEnum k1 en jt n was := (sb1.2 en apart).trans hen
  show wpAny _ _ (field (.ref en) 3 >>= _) _ _ ⟨k1, gg, dd, tt, oo⟩
  refine wpAny_bind (wpAny_field e1 rfl (x := rawInt n) rfl ?_)
  show wpAny _ _ (field (.ref en) 4 >>= _) _ _ ⟨k1, gg, dd, tt, oo⟩
  refine wpAny_bind (wpAny_field e1 rfl (x := .none) rfl ?_)
  show wpAny _ _ (mkInt n >>= _) _ _ ⟨k1, gg, dd, tt, oo⟩
  refine wpAny_bind (wpAny_mkInt ?_)
  show wpAny _ _ (setField (.ref en) 3 (rawInt ((n : Int) + 1)) >>= _) _ _ ⟨k1, gg, dd, tt + 1, oo⟩
  refine wpAny_bind (wpAny_setField_rec e1 (by simp) fun k2 e2 sb2 => ?_)
  replace sb2 : Heap.SameBut en k1 k2 := sb2
  replace e2 : IsEnum k2 en jt ((n : Int) + 1) was := e2
  show wpAny _ _ (setField (.ref en) 4 .none >>= _) _ _ ⟨k2, gg, dd, tt + 1, oo⟩
  refine wpAny_bind (wpAny_setField_rec e2 (by simp) fun k3 e3 sb3 => ?_)
  replace sb3 : Heap.SameBut en k2 k3 := sb3
  replace e3 : IsEnum k3 en jt ((n : Int) + 1) was := e3
  show wpAny _ _ (newTuple [.int n tt, u] >>= _) _ _ ⟨k3, gg, dd, tt + 1, oo⟩
  refine wpAny_bind (wpAny_newTuple ?_)
  have e4 : IsEnum (k3.push { cls := .type "tuple", data := .seq #[.int n tt, u] }) en jt ((n : Int) + 1) was := Heap.get?_push_of_some _ e3
  generalize hk4 : k3.push { cls := .type "tuple", data := .seq #[.int n tt, u] } = k4 at e4
  have sz3 : k3.objs.size = h0.objs.size := by rw [sb3.1, sb2.1, sb1.1]
  have lt0 : en < h0.objs.size := Heap.lt_size hen
  have new4 : k4.get? h0.objs.size = some { cls := .type "tuple", data := .seq #[.int n tt, u] } := by rw [← hk4, ← sz3]; exact Heap.get?_push_size _ rfl
  have sz4 : k4.objs.size = h0.objs.size + 1 := by rw [← hk4, Heap.size_push, sz3]
  have kp4 : ∀ b o, b ≠ en → b ≠ jt → h0.get? b = some o → k4.get? b = some o := fun b o n1 n2 hb => by
    rw [← hk4]; exact Heap.get?_push_of_some _ (sb3.extBut b o n1 (sb2.extBut b o n1 (sb1.extBut b o n2 hb)))
  have st4 : St k4 := stab k1 k4 st1 fun o ho => by
    rw [← hk4]; exact Heap.get?_push_of_some _ (sb3.extBut jt o (Ne.symm apart) (sb2.extBut jt o (Ne.symm apart) ho))
  show wpAny _ _ (Builtin.SmallTypes.ownedTupleIsFree (.ref en) >>= _) _ _ ⟨k4, gg, dd, tt + 1, oo⟩
  rw [sz3]
  clear hk4 e3 sb3 e2 sb2 e1 sb1 st1 sz3 k3 k2 k1
  refine wpAny_bind ?_
  unfold Builtin.SmallTypes.ownedTupleIsFree
  refine wpAny_bind (wpAny_field e4 rfl (x := .none) rfl (wpAny_pure ?_))
  simp only [if_true]
  refine wpAny_bind (wpAny_rule (wpAny_bind (wpAny_field e4 rfl (x := was) rfl (wpAny_bind (wpAny_setField_rec e4 (by simp) fun k5 e5 sb5 => ?_)))))
  replace sb5 : Heap.SameBut en k4 k5 := sb5
  replace e5 : IsEnum k5 en jt ((n : Int) + 1) u := e5
  show wpAny _ _ (Builtin.SmallTypes.ownedTupleHandOut (.ref en) (.ref h0.objs.size) >>= _) _ _ ⟨k5, gg, dd, tt + 1, oo⟩
  refine wpAny_bind ?_
  unfold Builtin.SmallTypes.ownedTupleHandOut
  refine wpAny_bind (wpAny_setField_rec e5 (by simp) fun k6 e6 sb6 => ?_)
  replace sb6 : Heap.SameBut en k5 k6 := sb6
  replace e6 : IsEnumOut k6 en jt ((n : Int) + 1) u h0.objs.size := e6
  refine wpAny_setField_rec e6 (by simp) fun k7 e7 sb7 => ?_
  replace sb7 : Heap.SameBut en k6 k7 := sb7
  replace e7 : IsEnumOut k7 en jt ((n : Int) + 1) u h0.objs.size := e7
  have gt : h0.objs.size ≠ en := Nat.ne_of_gt lt0
  refine wpAny_bind (wpAny_letGo (wpAny_pure ⟨_, rfl, fin k7 e7 (stab k4 k7 st4 fun o ho => ?_) ?_ ?_ ?_⟩))
  · exact sb7.extBut jt o (Ne.symm apart) (sb6.extBut jt o (Ne.symm apart) (sb5.extBut jt o (Ne.symm apart) ho))
  · exact sb7.extBut _ _ gt (sb6.extBut _ _ gt (sb5.extBut _ _ gt new4))
  · rw [sb7.1, sb6.1, sb5.1, sz4]
  · exact fun b o n1 n2 hb => sb7.extBut b o n1 (sb6.extBut b o n1 (sb5.extBut b o n1 (kp4 b o n1 n2 hb)))
theorem pyNext_enT_item {en jt l : Addr} {n : Nat} {its : Array Value} {u was : Value} {Q : Option Value → Shared → Prop} (hen : IsEnum s.heap en jt n was) (hjt : s.heap.IsTupleIter jt l n) (htu : s.heap.IsTuple l its) (hu : its[n]? = some u) (apart : en ≠ jt)
    (fin : ∀ k, IsEnumOut k en jt ((n : Int) + 1) u s.heap.objs.size → k.IsTupleIter jt l (n + 1) → k.get? s.heap.objs.size = some { cls := .type "tuple", data := .seq #[.int n s.toks, u] } → k.objs.size = s.heap.objs.size + 1 →
      (∀ b o, b ≠ en → b ≠ jt → s.heap.get? b = some o → k.get? b = some o) → Q (some (.ref s.heap.objs.size)) { s with heap := k, toks := s.toks + 1 }) :
    wpAny (model prog w) A (pyNext (.ref en)) Q E s := by
  have ty : s.TypeIs (.ref en) "enumerate" := ⟨_, hen, rfl⟩
  unfold pyNext
  exact wpAny_bind (wpAny_attempt (wpAny_callSpecial?_slot (name := Str.ofString "__next__") ty F.slot_enumerate_next (wpAny_call_entry F.slot_enumerate_next ty F.entry_enumerate_next
    (en_next hen apart (St := fun k => k.IsTupleIter jt l (n + 1)) (fun Q' h => RZ.nextOf_tuple_item hjt htu hu h) (fun k k' st e => st.at e) fun k a b c d m => wpAny_pure (fin k a b c d m)) (F.args_enumerate_next_1 _))))
theorem pyNext_enT_end {en jt l : Addr} {n : Nat} {its : Array Value} {was : Value} {Q : Option Value → Shared → Prop} (calm : A.handled = none) (hen : IsEnum s.heap en jt n was) (hjt : s.heap.IsTupleIter jt l n) (htu : s.heap.IsTuple l its) (hu : its[n]? = none)
    (fin : ∀ k, Heap.ExtBut jt s.heap k → Q none { s with heap := k }) : wpAny (model prog w) A (pyNext (.ref en)) Q E s := by
  have ty : s.TypeIs (.ref en) "enumerate" := ⟨_, hen, rfl⟩
  unfold pyNext
  refine wpAny_bind (wpAny_attempt (wpAny_callSpecial?_slot (name := Str.ofString "__next__") ty F.slot_enumerate_next (wpAny_call_entry F.slot_enumerate_next ty F.entry_enumerate_next ?_ (F.args_enumerate_next_1 _))))
  show wpAny _ _ (field (.ref en) 2 >>= _) _ _ _
  refine wpAny_bind (wpAny_field hen rfl (x := .ref jt) rfl (wpAny_bind (RZ.nextOf_tuple_end calm hjt htu hu fun k x ext hx => ?_)))
  obtain ⟨o, ho, hc⟩ := hx
  exact wpAny_bind (wpAny_isInstance (T := "StopIteration") (b := true) ⟨o, ho, hc⟩ isSubtype_stop (wpAny_pure (fin _ ext)))
theorem meets_enT (l : Addr) (its : Array Value) (n : Nat) (dct : Option Addr) (sl : Array (Option Value)) :
    Meets (Builtin.«enumerate.__new__» ⟨[.type "enumerate", .ref l], []⟩) (fun _ R s => s.heap.get? l = some { cls := .type "tuple", dict := dct, data := .seq its n, slots := sl } ∧
      R (.ok (.ret (.ref (s.heap.push { cls := .type "tuple_iterator", data := .fields #[.ref l, .int 0 0] }).objs.size)))
        { s with heap := (s.heap.push { cls := .type "tuple_iterator", data := .fields #[.ref l, .int 0 0] }).push { cls := .type "enumerate", data := .fields #[.none, .bool false, .ref s.heap.objs.size, rawInt 0, .none, .none] } }) :=
  .of_wp fun prog w A R s h => by
    obtain ⟨h0, gg, dd, tt, oo⟩ := s; obtain ⟨htu, h⟩ := h
    have sub := sub_enumerate
    have hT : Heap.IsTuple (Shared.heap ⟨h0, gg, dd, tt, oo⟩) l its := ⟨_, htu, rfl, n, rfl⟩
    wp_walk using wpAny_loadPart' htu
    refine wpAny_stack_any fun st => wpAny_pure ?_
    split
    · rename_i c _ _ _ _ _
      cases (c == Value.type "enumerate")
      · wp_walk using wpAny_loadPart' htu, wpAny_pyIter_tuple hT
        exact ⟨_, rfl, h⟩
      · wp_walk using wpAny_loadPart' htu, wpAny_pyIter_tuple hT
        exact ⟨_, rfl, h⟩
    · wp_walk using wpAny_loadPart' htu, wpAny_pyIter_tuple hT
      exact ⟨_, rfl, h⟩
theorem call_enT {l : Addr} {its : Array Value} {Q : Value → Shared → Prop} (hT : s.heap.IsTuple l its)
    (h : ∀ k, IsEnum k (s.heap.objs.size + 1) s.heap.objs.size 0 .none → k.IsTupleIter s.heap.objs.size l 0 → k.objs.size = s.heap.objs.size + 2 → (∀ b o, s.heap.get? b = some o → k.get? b = some o) → Q (.ref (s.heap.objs.size + 1)) { s with heap := k }) :
    wpAny (model prog w) A (call (.type "enumerate") [.ref l]) Q E s := by
  obtain ⟨⟨c, dct, dt, sl⟩, htu, hc, n, hd⟩ := hT
  replace hc : c = .type "tuple" := hc
  replace hd : dt = .seq its n := hd
  subst hc hd
  refine callType_new F.called_enumerate (by decide) (F.typeCall_enumerate_1 _) (F.newCall_enumerate_1 _) (fun obj => F.args_object_init_2 obj _) F.entry_enumerate_new (meets_enT l its n dct sl) ⟨htu, ?_⟩
  have sz : (s.heap.push { cls := .type "tuple_iterator", data := .fields #[.ref l, .int 0 0] }).objs.size = s.heap.objs.size + 1 := Heap.size_push ..
  show _ ∧ _
  rw [sz]
  have hen : IsEnum ((s.heap.push { cls := .type "tuple_iterator", data := .fields #[.ref l, .int 0 0] }).push { cls := .type "enumerate", data := .fields #[.none, .bool false, .ref s.heap.objs.size, rawInt 0, .none, .none] }) (s.heap.objs.size + 1) s.heap.objs.size 0 .none := by
    have q := Heap.get?_push_size (s.heap.push { cls := .type "tuple_iterator", data := .fields #[.ref l, .int 0 0] }) (o := { cls := .type "enumerate", data := .fields #[.none, .bool false, .ref s.heap.objs.size, rawInt 0, .none, .none] }) rfl
    rw [sz] at q; exact q
  exact ⟨⟨_, hen, rfl⟩, h _ hen ⟨_, Heap.get?_push_of_some _ (Heap.get?_push_size _ rfl), rfl, rfl⟩ (by rw [Heap.size_push, sz]) fun b o x => Heap.get?_push_of_some _ (Heap.get?_push_of_some _ x)⟩
end
end DLE
namespace DL
open PySem PySem.Spec L2
def IteT (K : PySem.W.Frag) (a : Addr) : It :=
  ⟨fun i H => ∃ (xs : List V) (x : V), SqT K H a xs ∧ xs[i]? = some x, fun i H v H' => ∃ T x, v = .ref T ∧ H T = none ∧ H' = upd H T (.tup [.int (i : Nat), x]) ∧ ∀ xs, SqT K H a xs → xs[i]? = some x, fun i H => ∃ xs : List V, SqT K H a xs ∧ xs.length ≤ i⟩
theorem turn_enumT {P : Program} {w : World} {K : PySem.W.Frag} {elts : List Expr} {kk : Nat} {tpos : Pos} (a en jt : Addr) :
    Turn P w K (.Tuple elts kk tpos) (IteT K a) [en, jt] en (fun i h => (∃ was, IsEnum h en jt ((i : Nat) : Int) was) ∧ h.IsTupleIter jt a i ∧ en ≠ jt) where
  mem := by simp
  obj := fun i h st b hb => by
    obtain ⟨⟨was, hen⟩, ⟨o, ho, hc, hd⟩, _⟩ := st
    have two : b = en ∨ b = jt := by simpa using hb
    rcases two with q | q
    · rw [q]; exact ⟨_, hen, fun v w => nomatch w⟩
    · rw [q]; exact ⟨o, ho, fun v w => by rw [hd] at w; cases w⟩
  keep := fun i h h' st k => let ⟨⟨was, hen⟩, hj, ne⟩ := st; ⟨⟨was, k en (by simp) _ hen⟩, hj.at fun o q => k jt (by simp) o q, ne⟩
  item := by
    intro X hP hw hK hc i pins s σ H E I fp st hg
    subst hP hw hK
    obtain ⟨⟨was, hen⟩, hjt, ne⟩ := st
    obtain ⟨xs, x, sq, hx⟩ := hg
    obtain ⟨its, rv, pt, hz⟩ := I.tuple sq
    obtain ⟨u, hu, ru⟩ := rv.get hx
    have lt1 : en < s.heap.objs.size := Heap.lt_size hen
    have lt2 : jt < s.heap.objs.size := by obtain ⟨_, q, _⟩ := hjt; exact Heap.lt_size q
    refine DLE.pyNext_enT_item hen hjt pt (u := u) (by simpa using hu) ne fun k out hjt' new hsz kp => ?_
    refine ⟨_, rfl, wpAny_letOwnedTupleGo_enum (s := { s with heap := k, toks := s.toks + 1 }) out fun k2 out2 sb => ?_⟩
    have new2 : k2.get? s.heap.objs.size = some { cls := .type "tuple", data := .seq #[.int i s.toks, u] } := (sb.2 _ (Nat.ne_of_gt lt1)).trans new
    have okk : ObjOk X.prog X.w (upd H s.heap.objs.size (.tup [.int (i : Nat), x])) k2 s.heap.objs.size (.tup [.int (i : Nat), x]) :=
      ⟨by show 2 ≤ sizeLine; decide, [.int i s.toks, u], .cons ⟨_, rfl⟩ (.cons ru .nil), ⟨_, new2, rfl, _, rfl⟩⟩
    have I2 : Inv X pins σ (upd H s.heap.objs.size (.tup [.int (i : Nat), x])) { s with heap := k2, toks := s.toks + 1 } :=
      I.turnedNew (ch := [en, jt]) (fun b ob hb q => (sb.2 b (fun z => hb (by simp [z]))).trans (kp b ob (fun z => hb (by simp [z])) (fun z => hb (by simp [z])) q)) fp (Nat.le_refl _) okk
    refine ⟨.ref s.heap.objs.size, _, I2, rfl, ⟨_, x, rfl, I.hok.fresh (Nat.le_refl _), rfl, fun ys hy => by rw [I.tuple_inj hy sq]; exact hx⟩, ⟨⟨u, ?_⟩, hjt'.at fun o q => (sb.2 jt (Ne.symm ne)).trans q, ne⟩, fun b hb => ?_⟩
    · rw [show ((i + 1 : Nat) : Int) = (i : Int) + 1 by omega]; exact out2
    · have two : b = en ∨ b = jt := by simpa using hb
      have lt : b < s.heap.objs.size := two.elim (fun q => q ▸ lt1) fun q => q ▸ lt2
      rw [upd_ne (Nat.ne_of_lt lt)]
      exact (fp b hb).1
  done := by
    intro X hP hw hK hc i pins s σ H E I fp st hg
    subst hP hw hK
    obtain ⟨⟨was, hen⟩, hjt, ne⟩ := st
    obtain ⟨xs, sq, hx⟩ := hg
    obtain ⟨its, rv, pt, hz⟩ := I.tuple sq
    obtain ⟨f0, f1, f2, f3, f4, f5⟩ := fp jt (by simp)
    have hl := rv.length
    exact DLE.pyNext_enT_end (I.ok.hd hc) hen hjt pt (by simp; omega) fun k eb => ⟨rfl, I.turned (t' := s.toks) (fun b o hb q => eb b o hb q) f0 f1 f3 f4 f5⟩
  self := fun A i s Q E st h => let ⟨⟨_, he⟩, _⟩ := st; wpAny_pyIter_enum he h
def iEnumA (K : PySem.W.Frag) (ta : TA) : TI := fun σ H R => ta σ H fun vs H1 => ∃ a xs, vs = [.ref a] ∧ ((SqL K H1 a xs ∧ R (Ite K a) H1) ∨ SqT K H1 a xs ∧ R (IteT K a) H1)
theorem pi_enumA {X : Cx} {e : Expr} {ta : TA} {p pos tpos : Pos} {elts : List Expr} {kk : Nat} (hg : Gl X "enumerate") (hm : X.mg "enumerate" = none) (ha : PA X [e] ta) (hs : starEach [e] X.env = [(false, eval e X.env)] := by rfl) :
    PI X (.Tuple elts kk tpos) (.Call (.Name "enumerate" p) [e] [] pos) (iEnumA X.K ta) := by
  constructor
  intro pins s0 σ0 G0 R inv hyp
  refine PyProof.Rows.Call_ (ld_blt inv hg hm PyProof.Rows.boot_enumerate (PyProof.Rows.callWith_type1 (thn (ha.run pos pins s0 σ0 G0 _ inv hyp) ?_) hs rfl))
  rintro us s1 ⟨vs, H1, I1, r1, a, xs, rfl, alt⟩
  cases r1 with
  | cons r rr =>
    cases rr
    cases r
    have fp : ∀ b ∈ [s1.heap.objs.size + 1, s1.heap.objs.size], FpOk X pins H1 b := fun b hb => by
      have le : s1.heap.objs.size ≤ b := by
        rcases (show b = s1.heap.objs.size + 1 ∨ b = s1.heap.objs.size by simpa using hb) with q | q <;> omega
      exact I1.fpOk le (I1.hok.fresh le)
    rcases alt with ⟨sq, q⟩ | ⟨sq, q⟩
    · obtain ⟨its, rv, pl, hz⟩ := I1.list sq
      exact call_enumerate_list pl.isList fun k hen hit hsz hk => wpAny_pyIter_enum hen ⟨s1.heap.objs.size + 1, [s1.heap.objs.size + 1, s1.heap.objs.size], _, _, H1, rfl, I1.kept (t' := s1.toks) hk, turn_enum a _ _, ⟨⟨.none, hen⟩, hit, Nat.succ_ne_self _⟩, fp, q⟩
    · obtain ⟨its, rv, pl, hz⟩ := I1.tuple sq
      exact DLE.call_enT (show s1.heap.IsTuple a its.toArray from pl) fun k hen hit hsz hk => wpAny_pyIter_enum hen ⟨s1.heap.objs.size + 1, [s1.heap.objs.size + 1, s1.heap.objs.size], _, _, H1, rfl, I1.kept (t' := s1.toks) hk, turn_enumT a _ _, ⟨⟨.none, hen⟩, hit, Nat.succ_ne_self _⟩, fp, q⟩
section
variable {X : Cx} {z : Zx} {S S' : Sx} {σ : L2.St} {H H' H0 : Hp} {g g' g2 : Gh} {v : V} {d : D} {r : Res} {K : PySem.W.Frag} {mg : Str → Option Value} {pos p tpos : Pos} {a b c e : Expr} {fa fb fc : M Res} {elts : List Expr} {kk : Nat}
def enumD : Nat → List D → List D
  | _, [] => []
  | n, d :: ds => .tup [.int n, d] :: enumD (n + 1) ds
theorem enumD_len : ∀ (n : Nat) (ds : List D), (enumD n ds).length = ds.length
  | _, [] => rfl
  | n, d :: ds => congrArg Nat.succ (enumD_len (n + 1) ds)
theorem enumD_get : ∀ (n : Nat) (ds : List D) (i : Nat), (enumD n ds)[i]? = ds[i]?.map fun d => .tup [.int ((n + i : Nat) : Int), d]
  | _, [], i => by simp [enumD]
  | n, d :: ds, 0 => by simp [enumD]
  | n, d :: ds, i + 1 => by
    show (enumD (n + 1) ds)[i]? = _
    rw [enumD_get (n + 1) ds i, List.getElem?_cons_succ, show n + 1 + i = n + (i + 1) by omega]
theorem ite_ok {ad : Addr} {xs : List V} {ds : List D} (hq : ∀ H1 g1, Fr H g H1 g1 → SqL K H1 ad xs) (r : RpA K H g xs ds) (m : Mu H g) : ItOk K (Ite K ad) (enumD 0 ds) H g where
  go := fun i d H1 g1 f e => by
    rw [enumD_get] at e
    obtain ⟨d', e1, e2⟩ := Option.map_eq_some_iff.mp e
    obtain ⟨w, e3, _⟩ := r.get e1
    exact ⟨xs, w, hq _ _ f, e3⟩
  yld := fun i d H1 g1 x H2 f m1 e y => by
    rw [enumD_get] at e
    obtain ⟨d', e1, rfl⟩ := Option.map_eq_some_iff.mp e
    obtain ⟨w, e3, rw⟩ := r.get e1
    obtain ⟨T, x', rfl, hT, rfl, y⟩ := y
    have := y xs (hq _ _ f)
    rw [e3] at this; cases this
    exact ⟨.inr ⟨T, _, hT, rfl⟩, .tup upd_same (.cons (by rw [Nat.zero_add]; exact .int _) (.cons ((rw.fr f m).fr (Fr.upd_new hT) m1) .nil))⟩
  stop := fun H1 g1 f => ⟨xs, hq _ _ f, by rw [r.length, enumD_len]; exact Nat.le_refl _⟩
theorem iteT_ok {ad : Addr} {xs : List V} {ds : List D} (hq : ∀ H1 g1, Fr H g H1 g1 → SqT K H1 ad xs) (r : RpA K H g xs ds) (m : Mu H g) : ItOk K (IteT K ad) (enumD 0 ds) H g where
  go := fun i d H1 g1 f e => by
    rw [enumD_get] at e
    obtain ⟨d', e1, e2⟩ := Option.map_eq_some_iff.mp e
    obtain ⟨w, e3, _⟩ := r.get e1
    exact ⟨xs, w, hq _ _ f, e3⟩
  yld := fun i d H1 g1 x H2 f m1 e y => by
    rw [enumD_get] at e
    obtain ⟨d', e1, rfl⟩ := Option.map_eq_some_iff.mp e
    obtain ⟨w, e3, rw⟩ := r.get e1
    obtain ⟨T, x', rfl, hT, rfl, y⟩ := y
    have := y xs (hq _ _ f)
    rw [e3] at this; cases this
    exact ⟨.inr ⟨T, _, hT, rfl⟩, .tup upd_same (.cons (by rw [Nat.zero_add]; exact .int _) (.cons ((rw.fr f m).fr (Fr.upd_new hT) m1) .nil))⟩
  stop := fun H1 g1 f => ⟨xs, hq _ _ f, by rw [r.length, enumD_len]; exact Nat.le_refl _⟩
def enumI (f : M Res) : M (List D) := f >>= fun r => useM r >>= fun d => M.opt d.items fun ds => pure (enumD 0 ds)
theorem di_enum (hg : Gl X "enumerate") (hm : X.mg "enumerate" = none) (ha : DE X z a fa) (h1 : starEach [a] X.env = (false, eval a X.env) :: starEach [] X.env := by rfl) (hs : starEach [a] X.env = [(false, eval a X.env)] := by rfl) :
    DI X z (.Tuple elts kk tpos) (.Call (.Name "enumerate" p) [a] [] pos) (enumI fa) :=
  PI.imp (pi_enumA hg hm (pa_cons ha pa_nil h1) hs) fun σ H R ⟨S, g, s, q⟩ => ⟨S, g, s, q.bnd.imp fun r S1 H1 g1 s1 f1 q1 v rv => by
    obtain ⟨S2, g2, s2, f2, rp, q2⟩ := q1.use s1 rv
    obtain ⟨ds, e, q3⟩ := q2.opt
    have q4 := q3.pure s2
    cases hd : r.d <;> rw [hd] at e rp <;> simp [D.items] at e
    · subst e
      obtain ⟨ad, xs, rfl, hx, rx⟩ := Pk.tup (.inl rp)
      exact ⟨ad, xs, rfl, .inr ⟨SqT.of hx, q4 _ (iteT_ok (fun H1 g1 f => SqT.of (f.tup s2.mu hx)) rx s2.mu)⟩⟩
    · subst e
      cases rp with
      | lst hx hb rx => exact ⟨_, _, rfl, .inl ⟨SqL.of hx, q4 _ (ite_ok (fun H1 g1 f => SqL.of (f.keep _ _ hx hb).1) rx s2.mu)⟩⟩
    · subst e
      cases rp with
      | rol hx rx => exact ⟨_, _, rfl, .inl ⟨hx.sq, q4 _ (ite_ok (fun H1 g1 f => (f.rol s2.mu hx).sq) rx s2.mu)⟩⟩⟩
def zipD : List D → List D → List D
  | x :: xs, y :: ys => .tup [x, y] :: zipD xs ys
  | _, _ => []
theorem zipD_get : ∀ (xs ys : List D) (i : Nat) (d : D), (zipD xs ys)[i]? = some d → ∃ x y, xs[i]? = some x ∧ ys[i]? = some y ∧ d = .tup [x, y]
  | [], _, i, d, e => by simp [zipD] at e
  | _ :: _, [], i, d, e => by simp [zipD] at e
  | x :: xs, y :: ys, 0, d, e => by simp [zipD] at e; exact ⟨x, y, rfl, rfl, e.symm⟩
  | x :: xs, y :: ys, i + 1, d, e => by
    obtain ⟨x', y', h⟩ := zipD_get xs ys i d (by simpa [zipD] using e)
    exact ⟨x', y', by simpa using h⟩
theorem zipD_len : ∀ xs ys : List D, xs.length ≤ (zipD xs ys).length ∨ ys.length ≤ (zipD xs ys).length
  | [], _ => .inl (Nat.zero_le _)
  | _ :: _, [] => .inr (Nat.zero_le _)
  | x :: xs, y :: ys => (zipD_len xs ys).imp Nat.succ_le_succ Nat.succ_le_succ
theorem itz_ok {a b : Addr} {xs ys : List V} {ds es : List D} (hx : ∀ H1 g1, Fr H g H1 g1 → SqL K H1 a xs) (hy : ∀ H1 g1, Fr H g H1 g1 → SqL K H1 b ys) (rx : RpA K H g xs ds) (ry : RpA K H g ys es) (m : Mu H g) : ItOk K (Itz K a b) (zipD ds es) H g where
  go := fun i d H1 g1 f e => by
    obtain ⟨x, y, e1, e2, rfl⟩ := zipD_get _ _ _ _ e
    obtain ⟨w, e3, _⟩ := rx.get e1
    obtain ⟨u, e4, _⟩ := ry.get e2
    exact ⟨xs, ys, w, u, hx _ _ f, hy _ _ f, e3, e4⟩
  yld := fun i d H1 g1 x H2 f m1 e yl => by
    obtain ⟨x, y, e1, e2, rfl⟩ := zipD_get _ _ _ _ e
    obtain ⟨w, e3, r3⟩ := rx.get e1
    obtain ⟨u, e4, r4⟩ := ry.get e2
    obtain ⟨T, x', y', rfl, hT, rfl, q1, q2⟩ := yl
    have := q1 xs (hx _ _ f)
    rw [e3] at this; cases this
    have := q2 ys (hy _ _ f)
    rw [e4] at this; cases this
    exact ⟨.inr ⟨T, _, hT, rfl⟩, .tup upd_same (.cons ((r3.fr f m).fr (Fr.upd_new hT) m1) (.cons ((r4.fr f m).fr (Fr.upd_new hT) m1) .nil))⟩
  stop := fun H1 g1 f => ⟨xs, ys, hx _ _ f, hy _ _ f, by rw [rx.length, ry.length]; exact zipD_len _ _⟩
theorem itzT_ok {a b : Addr} {xs ys : List V} {ds es : List D} (hx : ∀ H1 g1, Fr H g H1 g1 → SqT K H1 a xs) (hy : ∀ H1 g1, Fr H g H1 g1 → SqT K H1 b ys) (rx : RpA K H g xs ds) (ry : RpA K H g ys es) (m : Mu H g) : ItOk K (RZ.ItzT K a b) (zipD ds es) H g where
  go := fun i d H1 g1 f e => by
    obtain ⟨x, y, e1, e2, rfl⟩ := zipD_get _ _ _ _ e
    obtain ⟨w, e3, _⟩ := rx.get e1
    obtain ⟨u, e4, _⟩ := ry.get e2
    exact ⟨xs, ys, w, u, hx _ _ f, hy _ _ f, e3, e4⟩
  yld := fun i d H1 g1 x H2 f m1 e yl => by
    obtain ⟨x, y, e1, e2, rfl⟩ := zipD_get _ _ _ _ e
    obtain ⟨w, e3, r3⟩ := rx.get e1
    obtain ⟨u, e4, r4⟩ := ry.get e2
    obtain ⟨T, x', y', rfl, hT, rfl, q1, q2⟩ := yl
    have := q1 xs (hx _ _ f)
    rw [e3] at this; cases this
    have := q2 ys (hy _ _ f)
    rw [e4] at this; cases this
    exact ⟨.inr ⟨T, _, hT, rfl⟩, .tup upd_same (.cons ((r3.fr f m).fr (Fr.upd_new hT) m1) (.cons ((r4.fr f m).fr (Fr.upd_new hT) m1) .nil))⟩
  stop := fun H1 g1 f => ⟨xs, ys, hx _ _ f, hy _ _ f, by rw [rx.length, ry.length]; exact zipD_len _ _⟩
end
end DL
end
section
set_option maxRecDepth 100000
namespace DLE
open PySem
open AutoSeq1
end DLE
namespace DL
open PySem PySem.Spec L2
section
variable {X : Cx} {z : Zx} {S S' : Sx} {σ : L2.St} {H H' H0 : Hp} {g g' g2 : Gh} {v : V} {d : D} {r : Res} {K : PySem.W.Frag} {mg : Str → Option Value} {pos p px apos : Pos} {a b c e : Expr} {fa fb fc : M Res} {i : Nat} {x : Str}
def opExtA : D → D → Option (D × D)
  | .lst ds, .lst es => if ds.length + es.length ≤ sizeLine then some (.non, .lst (ds ++ es)) else Option.none
  | .lst ds, .tup es => if ds.length + es.length ≤ sizeLine then some (.non, .lst (ds ++ es)) else Option.none
  | _, _ => Option.none
theorem rgV_ok : ∀ (n : Nat) (lo : Int), RpA K H g ((List.range n).map fun i => V.int (lo + (i : Nat))) (rangeD lo n)
  | 0, _ => .nil
  | n + 1, lo => by
    rw [List.range_succ_eq_map, List.map_cons, List.map_map]
    refine .cons (by simpa using Rp.int lo) ?_
    have := rgV_ok n (lo + 1)
    refine cast ?_ this
    congr 1
    apply List.map_congr_left
    intro k _
    simp only [Function.comp]
    congr 1
    push_cast
    omega
end
end DL
end
section
set_option maxRecDepth 100000
namespace DLE
open PySem L2
open PyProof.Rows (firstMet firstMet_succ firstMet_length_le step_any step_length IntsAre)
section
variable {prog : Program} {w : World} {A : Around} {E : Value → Shared → Prop} {s : Shared}
def SetIs (w : World) (h : Heap) (p : Addr) (ns : List Int) : Prop := ∃ c, c ≤ ns.length ∧ SetR w h p (fun j => decide (j ∈ ns)) c
def emptyO (w : World) : Obj := { cls := .type "set", dict := none, data := .set #[] 0 (.fresh 0 0 (!w.params.followText "set-order")) }
theorem init_set {A : Around} {p l : Addr} {xs : Array Value} {ns : List Int} {s : Shared} {R : Result → Shared → Prop} (free : A.handled = none) (hp : s.heap.get? p = some (emptyO w)) (hl : s.heap.IsList l xs) (ne : l ≠ p) (nsI : IntsAre xs.toList ns) (few : ns.length + 1 < scanBound)
    (q : ∀ h tk, SetIs w h p ns → (∀ b o, b ≠ p → s.heap.get? b = some o → h.get? b = some o) → R (.ok (.ret .none)) { s with heap := h, toks := tk }) : codeAny (model prog w) A (.call (.builtin "set.__init__") ⟨[.ref p, .ref l], []⟩) R s := by
  refine codeAny_call_builtin F.called_set.init.plain F.entry_set_init (check_set_init_1 ⟨_, hp, rfl⟩ ?_)
  have ct : xs.size = ns.length := by rw [← Array.length_toList]; exact IntsAre.length nsI
  have is2 := id hl
  rcases hl with ⟨⟨k, dd, dat, sl⟩, at_, k1, m, k2⟩
  obtain rfl : k = Value.type "list" := k1
  obtain rfl : dat = Data.seq xs m := k2
  have u1 := F.sub_list_set; have u2 := F.sub_list_frozenset
  have u3 : (Value.type "list" == Value.type "dict") = false := by decide
  unfold Builtin.«set.__init__» noKeywords
  unfold Builtin.Frozenset.updateFrom
  generalize hit : pyIter = it
  wp_walk
  subst hit
  have lp : p < s.heap.objs.size := Heap.lt_size hp
  have ll : l < s.heap.objs.size := Heap.lt_size at_
  have calm : A.in1.in1.handled = none := by simp [free]
  have off : p ∉ [s.heap.objs.size, l] := by simp [Nat.ne_of_lt lp, Ne.symm ne]
  refine wpAny_pyIter_list is2 (wpAny_bind (wpAny_runValue (L2.set_update_ints ((Walks.list calm s.heap.objs.size l (Nat.ne_of_lt ll) xs).toS) p off ns ct few (fun i v e => ?_) xs.size 0 _ rfl (Nat.zero_le _) ⟨⟨_, Heap.get?_push_size _ rfl, rfl, rfl⟩, is2.push _⟩ ⟨0, Nat.le_refl 0, setR_new_at (Heap.get?_push_of_some _ hp)⟩ fun t c mv le R => ?_)))
  · obtain ⟨tk, rfl⟩ := IntsAre.int_at nsI i v (by rw [Array.getElem?_toList]; exact e)
    have hi : i < ns.length := ct ▸ (Array.getElem?_eq_some_iff.mp e).1
    exact ⟨ns[i], tk, List.getElem?_eq_getElem hi, by rw [List.getD_eq_getElem?_getD, List.getElem?_eq_getElem hi]; rfl⟩
  · rcases t with ⟨th, tg, td, tt, to⟩
    have e1 : tg = s.gens := mv.gens
    have e2 : td = s.drawn := mv.drawn
    have e3 : to = s.os := mv.os
    subst e1 e2 e3
    refine wpAny_pure ((wpAny_pure (q th tt ⟨c, ct ▸ le, R⟩ fun b o nb e => mv.heap b o ?_ (Heap.get?_push_of_some _ e)) : wpAny _ _ (ret Value.none) _ _ _))
    simp [nb, Nat.ne_of_lt (Heap.lt_size e)]
set_option maxHeartbeats 3200000 in
theorem call_setI {l : Addr} {xs : Array Value} {ns : List Int} {Q : Value → Shared → Prop} (free : A.handled = none) (hl : s.heap.IsList l xs) (nsI : IntsAre xs.toList ns) (few : ns.length + 1 < scanBound)
    (q : ∀ h tk, SetIs w h s.heap.objs.size ns → (∀ b o, s.heap.get? b = some o → h.get? b = some o) → Q (.ref s.heap.objs.size) { s with heap := h, toks := tk }) : wpAny (model prog w) A (call (Value.type "set") [Value.ref l]) Q E s := by
  obtain ⟨c0, tail, way⟩ := F.called_set.mro
  have f1 := F.called_set.made; have f2 := F.called_set.sub; have f3 := F.called_set.notType; have f4 := F.called_set.canCreate
  have f5 := F.typeCall_set_1 (.ref l); have f6 := F.called_set.init.lookup; have f7 := F.called_set.init.bind (.ref s.heap.objs.size)
  have at0 : (s.heap.push (emptyO w)).get? s.heap.objs.size = some (emptyO w) := Heap.get?_push_size _ rfl
  have isS : Shared.TypeIs { s with heap := s.heap.push (emptyO w) } (.ref s.heap.objs.size) "set" := ⟨_, at0, rfl⟩
  have lt : l < s.heap.objs.size := let ⟨_, e, _⟩ := hl; Heap.lt_size e
  refine wpAny_call (codeAny_of_tree (?_ : wpAny _ _ (callAny (Value.type "set") _) _ _ _))
  refine wpAny_pure ⟨Code.quiet_builtin _ (by decide +kernel), codeAny_builtin F.entry_type_call (?_ : wpAny _ _ _ _ _ _)⟩
  rw [Around.under_plain (weight_type_call_type "set" [Value.ref l] []) rfl]
  repeat any_goals first | assumption | wp_step
  refine codeAny_mono (L2.code_set_led1 (.ref l) (E := E) (Q₁ := fun r t => r = .ref s.heap.objs.size ∧ t = { s with heap := s.heap.push (emptyO w) }) ⟨rfl, rfl⟩) fun r t made => ?_
  rcases r with err | (_ | _ | _ | u)
  all_goals first | exact made | exact made.elim | skip
  obtain ⟨rfl, rfl⟩ := made
  repeat any_goals first | assumption | wp_step
  refine init_set (by simp [free]) at0 (hl.push _) (Nat.ne_of_lt lt) nsI few fun h tk R kp => ?_
  repeat any_goals first | assumption | wp_step
  exact q h tk R fun b o e => kp b o (Nat.ne_of_lt (Heap.lt_size e)) (Heap.get?_push_of_some _ e)
end
end DLE
namespace DL
open PySem PySem.Spec L2
def rSetI (K : PySem.W.Frag) (w : World) : List V → Hp → VK → Prop := fun vs H Q => ∃ (a : Addr) (ns : List Int), vs = [V.ref a] ∧ SqL K H a (ns.map V.int) ∧ ns.length + 1 < scanBound ∧
  ∀ (p : Addr) (T : Int → Bool) (n : Nat), H p = none → (∀ k, T k = true ↔ k ∈ ns) → (∃ l : List Int, l.Nodup ∧ (∀ k, k ∈ l ↔ k ∈ ns) ∧ l.length = n) → Q (.ref p) (upd H p (SetO w p T n))
section
variable {X : Cx} {z : Zx} {S S' : Sx} {σ : L2.St} {H H' H0 : Hp} {g g' g2 : Gh} {v : V} {d : D} {r : Res} {K : PySem.W.Frag} {mg : Str → Option Value} {pos p pos2 p2 : Pos} {a b c e : Expr} {fa fb fc : M Res}
theorem setR_count {w : World} {h : Heap} {p : Addr} {ns : List Int} {c : Nat} (R : SetR w h p (fun j => decide (j ∈ ns)) c) : ∃ l : List Int, l.Nodup ∧ (∀ k, k ∈ l ↔ k ∈ ns) ∧ l.length = c := by
  obtain ⟨_, es, _, _, _, _, _, _, nd, mem, _, _, n, _⟩ := R
  exact ⟨es.toList.map L2.keyOf, nd, fun k => by rw [← mem, decide_eq_true_iff], by rw [List.length_map, Array.length_toList, n]⟩
theorem cr_setI (hc : X.calm = true) : CallR X (.type "set") (rSetI X.K X.w) := fun pins s σ H vs us Q I r ⟨a, ns, ev, sq, few, q⟩ => by
  subst ev
  obtain ⟨its, rv, pl, _⟩ := I.list sq
  rw [Vals.ref1 r]
  refine DLE.call_setI (I.ok.hd hc) pl.isList rv.ints few fun h tk ⟨c, le, R⟩ kp => ?_
  have fresh : H s.heap.objs.size = none := I.hok.fresh (Nat.le_refl _)
  refine ⟨.ref _, upd H s.heap.objs.size (SetO X.w s.heap.objs.size _ c), I.laid (t' := tk) kp (Nat.le_refl _) (setO_new R), rfl, q _ _ _ fresh (fun k => decide_eq_true_iff) ?_⟩
  exact setR_count R
def insS (x : Int) : List Int → List Int
  | [] => [x]
  | y :: r => if x < y then x :: y :: r else if x = y then y :: r else y :: insS x r
def sortS (ns : List Int) : List Int := ns.foldr insS []
theorem insS_mem (x k : Int) : ∀ l : List Int, k ∈ insS x l ↔ k = x ∨ k ∈ l
  | [] => by simp [insS]
  | y :: r => by
    unfold insS
    by_cases h : x < y
    · rw [if_pos h, List.mem_cons]
    · rw [if_neg h]
      by_cases h2 : x = y
      · rw [if_pos h2, h2]; simp
      · rw [if_neg h2, List.mem_cons, insS_mem x k r, List.mem_cons]
        constructor
        · rintro (h | h | h)
          · exact .inr (.inl h)
          · exact .inl h
          · exact .inr (.inr h)
        · rintro (h | h | h)
          · exact .inr (.inl h)
          · exact .inl h
          · exact .inr (.inr h)
theorem insS_up (x : Int) : ∀ l : List Int, l.Pairwise (· < ·) → (insS x l).Pairwise (· < ·)
  | [], _ => by simp [insS]
  | y :: r, h => by
    obtain ⟨h1, h2⟩ := List.pairwise_cons.mp h
    unfold insS
    by_cases c : x < y
    · rw [if_pos c]
      refine List.pairwise_cons.mpr ⟨fun k hk => ?_, h⟩
      rcases List.mem_cons.mp hk with rfl | hk
      · exact c
      · have := h1 k hk; omega
    · rw [if_neg c]
      by_cases c2 : x = y
      · rw [if_pos c2]; exact h
      · rw [if_neg c2]
        refine List.pairwise_cons.mpr ⟨fun k hk => ?_, insS_up x r h2⟩
        rcases (insS_mem x k r).mp hk with rfl | hk
        · omega
        · exact h1 k hk
theorem sortS_mem (k : Int) : ∀ ns : List Int, k ∈ sortS ns ↔ k ∈ ns
  | [] => by simp [sortS]
  | x :: r => by
    show k ∈ insS x (sortS r) ↔ _
    rw [insS_mem, sortS_mem k r, List.mem_cons]
theorem sortS_up : ∀ ns : List Int, (sortS ns).Pairwise (· < ·)
  | [] => List.Pairwise.nil
  | x :: r => insS_up x _ (sortS_up r)
theorem up_unique : ∀ {l m : List Int}, l.Pairwise (· < ·) → m.Pairwise (· < ·) → (∀ k, k ∈ l ↔ k ∈ m) → l = m
  | [], [], _, _, _ => rfl
  | [], y :: m, _, _, h => by have := (h y).mpr List.mem_cons_self; simp at this
  | x :: l, [], _, _, h => by have := (h x).mp List.mem_cons_self; simp at this
  | x :: l, y :: m, h1, h2, h => by
    obtain ⟨a1, a2⟩ := List.pairwise_cons.mp h1
    obtain ⟨b1, b2⟩ := List.pairwise_cons.mp h2
    have e : x = y := by
      rcases List.mem_cons.mp ((h x).mp List.mem_cons_self) with e | e
      · exact e
      · rcases List.mem_cons.mp ((h y).mpr List.mem_cons_self) with e2 | e2
        · exact e2.symm
        · have := a1 y e2; have := b1 x e; omega
    subst e
    congr 1
    refine up_unique a2 b2 fun k => ⟨fun hk => ?_, fun hk => ?_⟩
    · rcases List.mem_cons.mp ((h k).mp (List.mem_cons_of_mem _ hk)) with e | e
      · have := a1 k hk; omega
      · exact e
    · rcases List.mem_cons.mp ((h k).mpr (List.mem_cons_of_mem _ hk)) with e | e
      · have := b1 k hk; omega
      · exact e
theorem up_nodup {l : List Int} (h : l.Pairwise (· < ·)) : l.Nodup := h.imp fun q e => by omega
theorem nodup_len : ∀ {l m : List Int}, l.Nodup → m.Nodup → (∀ k, k ∈ l ↔ k ∈ m) → l.length = m.length := by
  intro l m h1 h2 h
  exact ((List.perm_ext_iff_of_nodup h1 h2).mpr h).length_eq
def opSortSet (d : D) : M Res := M.opt (d.lis.bind D.ints?) fun ns => M.need (decide (ns.length + 1 < scanBound) && decide ((sortS ns).length < 64)) (pure (.new (.lst ((sortS ns).map .int))))
theorem RpA.of_ints : ∀ ns : List Int, RpA K H g (ns.map V.int) (ns.map .int)
  | [] => .nil
  | n :: r => .cons (.int n) (RpA.of_ints r)
end
end DL
end
section
set_option maxRecDepth 100000
namespace DL
open PySem PySem.Spec L2
open PySem.W (dataLe AllAlike Sortable EachIs)
open PySem.W (alike alikeAll dataLt)
section
variable {X : Cx} {z : Zx} {S S' : Sx} {σ : L2.St} {H H' H0 : Hp} {g g' g2 : Gh} {v : V} {d : D} {r : Res} {K : PySem.W.Frag} {mg : Str → Option Value} {pos p pos2 p2 : Pos} {a b c e : Expr} {fa fb fc : M Res}
theorem each_vals {β : Type} {f : β → V} : ∀ {bs : List β} {us : List Value}, Vals (bs.map f) us → EachIs (fun v b => RelV (f b) v) us bs
  | [], _, .nil => .nil
  | b :: bs, _, .cons h t => .cons h (each_vals t)
theorem vals_each {β : Type} {f : β → V} : ∀ {bs : List β} {us : List Value}, EachIs (fun v b => RelV (f b) v) us bs → Vals (bs.map f) us
  | [], _, .nil => .nil
  | b :: bs, _, .cons h t => .cons h (vals_each t)
theorem each_and {α β : Type} {R T : α → β → Prop} : ∀ {us : List α} {bs : List β}, EachIs R us bs → (∀ u b, b ∈ bs → R u b → T u b) → EachIs T us bs
  | _, _, .nil, _ => .nil
  | _, _, .cons h t, f => .cons (f _ _ List.mem_cons_self h) (each_and t fun u b m => f u b (List.mem_cons_of_mem _ m))
def D.pyD (d : D) : PyData := d.py.getD .none
def D.lt (d e : D) : Bool := dataLt d.pyD e.pyD
def sortD (ds : List D) : List D := ds.mergeSort fun x y => !D.lt y x
def noTup : PyData → Bool
  | .none => false
  | .tuple _ => false
  | _ => true
theorem RpA.mem_zip : ∀ {vs : List V} {ds : List D} {b : V × D}, RpA K H g vs ds → b ∈ vs.zip ds → Rp K H g b.1 b.2 ∧ b.2 ∈ ds
  | _, _, _, .nil, h => by simp at h
  | _, _, b, .cons r t, h => by
    rw [List.zip_cons_cons] at h
    rcases List.mem_cons.mp h with rfl | h
    · exact ⟨r, List.mem_cons_self⟩
    · have := RpA.mem_zip t h
      exact ⟨this.1, List.mem_cons_of_mem _ this.2⟩
theorem RpA.of_pairs : ∀ {bs : List (V × D)}, (∀ b ∈ bs, Rp K H g b.1 b.2) → RpA K H g (bs.map (·.1)) (bs.map (·.2))
  | [], _ => .nil
  | b :: bs, h => .cons (h b List.mem_cons_self) (RpA.of_pairs fun c m => h c (List.mem_cons_of_mem _ m))
theorem zip_map1 : ∀ {vs : List V} {ds : List D}, vs.length = ds.length → (vs.zip ds).map (·.1) = vs ∧ (vs.zip ds).map (·.2) = ds
  | [], [], _ => ⟨rfl, rfl⟩
  | v :: vs, d :: ds, h => by
    obtain ⟨h1, h2⟩ := zip_map1 (vs := vs) (ds := ds) (by simpa using h)
    rw [List.zip_cons_cons, List.map_cons, List.map_cons, h1, h2]
    exact ⟨rfl, rfl⟩
  | [], _ :: _, h => by simp at h
  | _ :: _, [], h => by simp at h
def opSortedD : D → M Res
  | .dct false ks _ => M.opt (D.ints? ks) fun ns => M.need (decide (ns.length < 64) && decide ns.Nodup) (pure (.new (.lst ((sortS ns).map .int))))
  | _ => M.no
theorem ints_keys {kvs : List (Key × V)} {ns : List Int} (e : D.ints? (kvs.map fun p => kD p.1) = some ns) : kvs.map (·.1) = ns.map Sum.inl := by
  have := ints?_of e
  have h : ∀ (l : List Key) (ns : List Int), l.map kD = ns.map D.int → l = ns.map Sum.inl := by
    intro l
    induction l with
    | nil => intro ns h; cases ns with
      | nil => rfl
      | cons n r => simp at h
    | cons k l ih => intro ns h; cases ns with
      | nil => simp at h
      | cons n r =>
        rw [List.map_cons, List.map_cons] at h
        injection h with h1 h2
        rw [List.map_cons, ← ih r h2]
        congr 1
        cases k with
        | inl i => simp [kD] at h1; rw [h1]
        | inr x => simp [kD] at h1
  exact h _ _ (by rw [List.map_map]; exact this)
theorem perm_up {l m : List Int} (p : l.Perm m) (h : l.Pairwise (· ≤ ·)) (nd : m.Nodup) : l = sortS m := by
  have nl : l.Nodup := p.nodup_iff.mpr nd
  refine up_unique (lt_of_le_nodup l h nl) (sortS_up m) fun k => by rw [p.mem_iff, sortS_mem]
theorem dp_depth_ints : ∀ ns : List Int, PyData.depthAll (ns.map .int) = 0
  | [] => by simp [PyData.depthAll]
  | n :: r => by rw [List.map_cons]; simp [PyData.depthAll, PyData.depth, dp_depth_ints r]
def dnewM (t : Bool) : M Res := pure (.new (.dct t [] []))
theorem de_dnewK : DE X z (.Dict [] [] pos) (dnewM false) := PE.imp pe_dnewK fun σ H Q ⟨S, g, s, h⟩ => out_dct s [] .nil h
end
end DL
end
section
set_option maxRecDepth 100000
namespace DL
open PySem PySem.Spec L2
section
variable {X : Cx} {z : Zx} {S S' : Sx} {σ : L2.St} {H H' H0 : Hp} {g g' g2 : Gh} {v : V} {d : D} {r : Res} {K : PySem.W.Frag} {mg : Str → Option Value} {pos p px pos2 p2 : Pos} {a b c e : Expr} {fa fb fc : M Res} {i j l : Nat} {x y w : Str}
def peekM : D → M D
  | .obj n => fun S => (S.objs[n]?).map fun e => (.ok e, S)
  | d => pure d
theorem Go.peek {α : Type} {k : D → M α} {P : α → Sx → Hp → Gh → Prop} (s : SR K z S σ H g) (p : Pk K H g v d) (h : Go K mg z (peekM d >>= k) S σ H g P) : ∃ e, Pk K H g v e ∧ Go K mg z (k e) S σ H g P := by
  by_cases q : ∃ n, d = .obj n
  · obtain ⟨n, rfl⟩ := q
    cases e : S.objs[n]? with
    | none =>
      have h := h.bnd
      unfold Go peekM at h
      simp only [e, Option.map_none] at h
    | some o =>
      have : ∃ ad, v = .ref ad ∧ g.om[n]? = some ad := by
        rcases p with p | ⟨ad, rfl, p⟩
        · cases p with | obj h => exact ⟨_, rfl, h⟩
        · cases p
      obtain ⟨ad, rfl, ho⟩ := this
      exact ⟨o, .inr ⟨ad, rfl, (s.obj n ad o ho e).1⟩, Go.ok (by show (S.objs[n]?).map _ = _; rw [e]; rfl) h.bnd s (Fr.refl _ _)⟩
  · have : peekM d = (Pure.pure d : M D) := by
      cases d <;> first | rfl | exact absurd ⟨_, rfl⟩ q
    rw [this] at h
    exact ⟨d, p, h.bnd.pure s⟩
def binMO (op : D → D → M Res) (fa fb : M Res) : M Res := fa >>= fun ra => fb >>= fun rb => chkM ra.hold >>= fun _ => peekM ra.hold.d >>= fun d => op d rb.d
theorem de_binO {e : Expr} {r : R2} {op : D → D → M Res} {fa fb : M Res} (hd : OpD X z r op) (pe : PE X e (tOp r (tD X.K X.mg z fa) (tD X.K X.mg z fb))) : DE X z e (binMO op fa fb) := by
  refine PE.imp pe fun σ H Q ⟨S, g, s, h⟩ => ?_
  refine ⟨S, g, s, h.bnd.imp fun ra S1 H1 g1 s1 f1 h1 x rx => ?_⟩
  obtain ⟨g2, s2, f2, rx2⟩ := s1.hold rx
  refine ⟨S1, g2, s2, (h1.at f2).bnd.imp fun rb S3 H3 g3 s3 f3 h3 y ry => ?_⟩
  obtain ⟨rx3, h4⟩ := Go.chk s2 s3 f3 (by cases ra <;> rfl) rx2 h3
  obtain ⟨dx, px, h5⟩ := h4.peek s3 (s3.pk rx3)
  exact hd S3 σ H3 g3 x y _ _ Q s3 px (s3.pk ry) h5
theorem de_ixO (hu : X.A.units + 65 < cLine) (ha : DE X z a fa) (hb : DE X z b fb) (hs : PlainIx b := by exact fun _ _ => rfl) : DE X z (.Subscript a b pos) (binMO opIx fa fb) := de_binO od_ix (pe_ix (ix_any hu) ha hb hs)
theorem isInt_pk {n : Int} (p : Pk K H g v d) (e : d.isInt = some n) : v = .int n := Pk.isInt p e
def rGetA (K : PySem.W.Frag) : V → V → Hp → VK → Prop := fun o k H Q => (∃ a xs n x, o = .ref a ∧ k = .int n ∧ SqL K H a xs ∧ 0 ≤ n ∧ n < 2 ^ 63 ∧ xs[n.toNat]? = some x ∧ Q x H) ∨ ∃ a x, o = .ref a ∧ AGet H a k (some x) ∧ Q x H
theorem get_any (hu : X.A.units + 65 < cLine) : PGet X (rGetA X.K) := by
  intro pins s σ H o k ov kv Q I ro rk h
  rcases h with ⟨a, xs, n, x, rfl, rfl, sq, n0, n1, ex, q⟩ | ⟨a, x, rfl, dg, q⟩
  · obtain rfl : ov = Value.ref a := ro
    obtain ⟨t, rfl⟩ := rk
    obtain ⟨its, rv, pl, _⟩ := I.list sq
    obtain ⟨u, hu', ru⟩ := rv.get ex
    exact wpAny_getItem_list pl.isList n0 n1 (x := u) (by simpa using hu') ⟨x, H, I, ru, q⟩
  · obtain rfl : ov = Value.ref a := ro
    exact a_getItem (by omega) I dg rk fun w' s' I' rw' => ⟨x, H, I', rw', q⟩
def D.get0 : D → D → Option D
  | .lst ds, .int k => if 0 ≤ k ∧ k < 2 ^ 63 then ds[k.toNat]? else none
  | .dct t ks vs, k => (D.lookKey t ks vs k).bind id
  | _, _ => none
def getK (i : Nat) (k : D) : M D := fun S => match whereM i S with
  | none => none
  | some (_, d) => (d.get0 k).map fun x => (.ok x, S)
def augSM (i : Nat) (op : Int → Int → Int) (fk fe : M Res) : M Fl := guardM (fun S => (whereM i S).isSome) (fk >>= fun rk => useM rk >>= fun k => getK i k >>= fun x => M.opt x.isInt fun n => fe >>= fun re => M.opt re.d.isInt fun m => storeK i k (.int (op n m)) >>= fun _ => pure .next)
theorem Go.optS {β : Type} {D0 : Ends} {o : Option β} {k : β → M Fl} (h : GoS K mg z (M.opt o k) S σ H g D0) : ∃ a, o = some a ∧ GoS K mg z (k a) S σ H g D0 := by
  cases o with
  | none => exact h.elim
  | some a => exact ⟨a, rfl, h⟩
theorem ds_augS {op : Operator} {f : Int → Int → Int} (hp : PIp X op (ipI f)) (hu : X.A.units + 65 < cLine) (i : Nat) (hk : DE X z a fa) (he : DE X z b fb) (hN : X.N[i]? = some x := by rfl) (hv : Vis X.env.scope x := by first | exact Or.inl rfl | exact Or.inr (Or.inl rfl) | exact Or.inr (Or.inr rfl)) (hd : (x == ("__debug__" : Str)) = false := by decide) (hcd : (x == ("__classdict__" : Str)) = false := by decide)
    (ha : ∀ ov iv new, augStore a ov iv new = (do holding [new, ov, iv] (setItem ov iv new); release [new, ov, iv] []; pure .next) := by intros; rfl) : DS X z (.AugAssign (.Subscript (.Name x px) a p2) op b pos) (augSM i f fa fb) :=
  PS.imp (ps_augS (pe_var hN hv hd hcd) hk (get_any hu) he hp (set_any hu) ha) fun D0 σ H ⟨S, g, s, q⟩ => by
    obtain ⟨c, q1⟩ := GoS.guard q
    obtain ⟨⟨w0, d0⟩, e0⟩ := Option.isSome_iff_exists.mp c
    obtain ⟨ad, es, _, _⟩ := s.where_ e0
    refine ⟨_, es, S, g, s, (GoS.bnd q1).imp fun rk S1 H1 g1 s1 f1 q2 k rk' => ?_⟩
    obtain ⟨S2, g2, s2, f2, rpk, q3⟩ := GoS.use s1 rk' q2
    have q4 := GoS.bnd (f := getK i rk.d) q3
    unfold Go getK at q4
    cases e2 : whereM i S2 with
    | none => simp only [e2] at q4
    | some pr =>
      obtain ⟨w2, d2⟩ := pr
      simp only [e2] at q4
      cases e3 : d2.get0 rk.d with
      | none => simp only [e3, Option.map_none] at q4
      | some xd =>
        simp only [e3, Option.map_some] at q4
        have q5 := q4 _ _ s2 (Fr.refl _ _)
        obtain ⟨n, e4, q6⟩ := Go.optS q5
        have ex : xd = .int n := isInt_eq e4
        subst ex
        obtain ⟨ad2, es2, rt2, _⟩ := s2.where_ e2
        rw [es] at es2; cases es2
        have fin : ∀ y : V, y = .int n → tD X.K X.mg z fb σ H1 fun y2 H4 => ipI f y y2 H4 fun zv H5 => rSetA (.ref ad) k zv H5 fun H6 => D0.nx σ H6 := fun y ey => by
          subst ey
          refine ⟨S2, g2, s2, (GoS.bnd q6).imp fun re S3 H3 g3 s3 f3 q7 y2 ry2 => ?_⟩
          obtain ⟨m, e5, q8⟩ := Go.optS q7
          have : y2 = .int m := (s3.pk ry2).isInt e5
          subst this
          exact ⟨n, m, rfl, rfl, q8.storeK s3 es (rpk.fr f3 s2.mu) (.int _)⟩
        unfold D.get0 at e3
        split at e3
        · rename_i ds kk hh
          split at e3
          · rename_i cc
            obtain ⟨xs, hx, rx⟩ := rt2.lstAt
            obtain ⟨wv, e6, rw6⟩ := rx.get e3
            rw [hh] at rpk
            cases rpk
            exact .inl ⟨ad, xs, _, wv, rfl, rfl, SqL.of hx, cc.1, cc.2, e6, fin wv (Pk.int (.inl rw6))⟩
          · cases e3
        · obtain ⟨o2, e7, e8⟩ := Option.bind_eq_some_iff.mp e3
          obtain ⟨ad3, rr, e9, gg, i1, i2⟩ := dget_of (.inr ⟨ad, rfl, rt2⟩) (.inl rpk) e7
          cases e9
          obtain ⟨wv, e10, rw10⟩ := i1 _ e8
          exact .inr ⟨ad, wv, rfl, e10 ▸ gg, fin wv (Pk.int (.inl rw10))⟩
        · cases e3
theorem ds_augSAdd (hu : X.A.units + 65 < cLine) (i : Nat) (hk : DE X z a fa) (he : DE X z b fb) (hN : X.N[i]? = some x := by rfl) (hv : Vis X.env.scope x := by first | exact Or.inl rfl | exact Or.inr (Or.inl rfl) | exact Or.inr (Or.inr rfl)) (hd : (x == ("__debug__" : Str)) = false := by decide) (hcd : (x == ("__classdict__" : Str)) = false := by decide)
    (ha : ∀ ov iv new, augStore a ov iv new = (do holding [new, ov, iv] (setItem ov iv new); release [new, ov, iv] []; pure .next) := by intros; rfl) : DS X z (.AugAssign (.Subscript (.Name x px) a p2) .Add b pos) (augSM i (fun i j => i + j) fa fb) :=
  ds_augS ip_add hu i hk he hN hv hd hcd ha
def parK (i j : Nat) : Res → Res → M Fl
  | .dat d, .new e => putM i (.dat d) >>= fun _ => putM j (.own e) >>= fun _ => pure .next
  | _, .new _ => M.no
  | x, y => useM x >>= fun d => chkM y >>= fun _ => useM y >>= fun e => putM i (.dat d) >>= fun _ => putM j (.dat e) >>= fun _ => pure .next
def par2M (i j : Nat) (fa fb : M Res) : M Fl := fa >>= fun ra => fb >>= fun rb => chkM ra.hold >>= fun _ => parK i j ra.hold rb
theorem GoS.chk {k : Unit → M Fl} {D0 : Ends} (s : SR K z S σ H g) (s' : SR K z S' σ H' g') (f : Fr H g H' g') (hr : r.hold = r) (r0 : ResOk K z S σ H g v r) (h : GoS K mg z (chkM r >>= k) S' σ H' g' D0) :
    ResOk K z S' σ H' g' v r ∧ GoS K mg z (k ()) S' σ H' g' D0 := by
  have q := GoS.bnd (f := chkM r) h
  obtain ⟨h1, h2⟩ := Go.chk (k := fun _ => (pure () : M Unit)) (P := fun _ S2 H2 g2 => GoS K mg z (k ()) S2 σ H2 g2 D0) s s' f hr r0 (by
    have e : (chkM r >>= fun _ => (pure () : M Unit)) = chkM r := by
      funext S0
      show M.bnd (chkM r) _ S0 = _
      unfold M.bnd
      cases hh : chkM r S0 with
      | none => rfl
      | some p => obtain ⟨e, s1⟩ := p; cases e <;> rfl
    rw [e]; exact q)
  exact ⟨h1, h2.pure s'⟩
theorem parK_ok {u t : V} {ra rb : Res} {D0 : Ends} (ra' : ResOk K z S σ H g u ra) (hh : ra.hold = ra) (rb' : ResOk K z S σ H g t rb) (s : SR K z S σ H g) (q : GoS K mg z (parK i j ra rb) S σ H g D0) : D0.nx ((σ.set i (some u)).set j (some t)) H := by
  have gen : rb.hold = rb → GoS K mg z (useM ra >>= fun d => chkM rb >>= fun _ => useM rb >>= fun e => putM i (.dat d) >>= fun _ => putM j (.dat e) >>= fun _ => pure .next) S σ H g D0 → D0.nx ((σ.set i (some u)).set j (some t)) H := fun hb q => by
    obtain ⟨S2, g2, s2, f2, rp, q2⟩ := GoS.use s ra' q
    obtain ⟨rb2, q3⟩ := GoS.chk s s2 f2 hb rb' q2
    obtain ⟨S3, g3, s3, f3, rp3, q4⟩ := GoS.use s2 rb2 q3
    exact GoS.next (mg := mg) (GoS.put (mg := mg) (σ := σ) (GoS.put (mg := mg) (σ := σ) q4 (σ' := σ)) (σ' := σ)) ((s3.put_dat (rp.fr f3 s2.mu)).put_dat rp3)
  cases rb with
  | new e =>
    cases ra with
    | dat d =>
      have s1 := s.put_dat (i := i) ra'
      obtain ⟨ad, rfl, hb, rt, h0, hm, hn⟩ := rb'
      refine GoS.next (mg := mg) (GoS.put (mg := mg) (σ := σ) (GoS.put (mg := mg) (σ := σ) q (σ' := σ)) (σ' := σ)) (s1.put_own ⟨ad, rfl, hb, rt, h0, hm, fun k ev hk => ?_⟩)
      have hk : (S.env.set i (.dat d))[k]? = some (.own ev) := hk
      rcases set_get hk with ⟨_, hk⟩ | ⟨ne, hk⟩
      · cases hk
      · rw [List.getElem?_set_ne ne]; exact hn k ev hk
    | new d => cases hh
    | own n d => exact q.elim
  | dat e => cases ra <;> first | exact gen rfl q | cases hh
  | own n e => cases ra <;> first | exact gen rfl q | cases hh
theorem ds_par2 (i j : Nat) {kt k2 : Nat} {py pt pt2 : Pos} (hc : X.calm = true) (hN : X.N.Nodup) (ha : DE X z a fa) (hb : DE X z b fb) (hi : X.N[i]? = some x := by rfl) (hj : X.N[j]? = some y := by rfl) (hij : i ≠ j := by decide)
    (hx : X.env.scope.names.lookup x = some .local := by rfl) (hy : X.env.scope.names.lookup y = some .local := by rfl)
    (h1 : starEach [a, b] X.env = (false, eval a X.env) :: starEach [b] X.env := by rfl) (h2 : starEach [b] X.env = (false, eval b X.env) :: starEach [] X.env := by rfl)
    (hw : swappedStores [.Tuple [.Name x px, .Name y py] kt pt] (.Tuple [a, b] k2 pt2) X.env = pure (some [x, y]) := by rfl)
    (hs : swapsWithSole [.Tuple [.Name x px, .Name y py] kt pt] (.Tuple [a, b] k2 pt2) pos.line X.env = pure false := by rfl) :
    DS X z (.Assign [.Tuple [.Name x px, .Name y py] kt pt] (.Tuple [a, b] k2 pt2) pos) (par2M i j fa fb) :=
  PS.imp (ps_par hc hN hi hj hij hx hy (pa_cons ha (pa_cons hb pa_nil h2) h1) hw hs) fun D0 σ H ⟨S, g, s, q⟩ => ⟨S, g, s, (GoS.bnd q).imp fun ra S1 H1 g1 s1 f1 q1 u ru => by
    obtain ⟨g2, s2, f2, ru2⟩ := s1.hold ru
    refine ⟨S1, g2, s2, (GoS.bnd q1).at f2 |>.imp fun rb S3 H3 g3 s3 f3 q3 t rt => ?_⟩
    have hh : ra.hold.hold = ra.hold := by cases ra <;> rfl
    obtain ⟨ru3, q4⟩ := GoS.chk s2 s3 f3 hh ru2 q3
    exact ⟨u, t, rfl, parK_ok ru3 hh rt s3 q4⟩⟩
end
end DL
end
section
set_option maxRecDepth 100000
namespace DL
open PySem PySem.Spec L2
section
variable {X : Cx} {z : Zx} {S S' : Sx} {σ : L2.St} {H H' H0 : Hp} {g g' g2 : Gh} {v : V} {d : D} {r : Res} {K : PySem.W.Frag} {mg : Str → Option Value} {pos p px pos2 p2 : Pos} {a b c e : Expr} {fa fb fc : M Res} {i j l : Nat} {x y w : Str}
theorem frz_inv {pins : List (Addr × Obj)} {s : Shared} {ad : Addr} {xs : List V} (I : Inv X pins σ H s) (h : H ad = some (.lst xs)) : ∃ o, Inv X pins σ (upd H ad (.frz o (.lst xs))) s := by
  obtain ⟨hl, its, n, rv, ho⟩ := I.hok ad _ h
  exact ⟨_, I.write (x := ad) (e := ad) (h' := s.heap) (t' := s.toks) (by rw [h]; trivial) (.inl rfl) (fun b u _ q => q) ⟨_, ho⟩ ⟨ho, hl, its, n, rv, ho⟩⟩
theorem pe_frz {te : TE} (he : PE X e te) : PE X e fun σ H Q => te σ H fun x H1 => ∃ ad xs, x = .ref ad ∧ H1 ad = some (.lst xs) ∧ ∀ o, Q x (upd H1 ad (.frz o (.lst xs))) := by
  constructor
  intro pins s0 σ0 G0 Q inv hyp
  refine thn (he.run pins s0 σ0 G0 _ inv hyp) ?_
  rintro u s1 ⟨x, G1, inv1, rel, ad, xs, rfl, hx, q⟩
  obtain ⟨o, inv2⟩ := frz_inv inv1 hx
  exact ⟨_, _, inv2, rel, q o⟩
def frzK : Res → M Res
  | .new (.lst ds) => pure (.dat (.rol ds))
  | _ => M.no
def frzM (f : M Res) : M Res := f >>= frzK
theorem de_frz (he : DE X z e fa) : DE X z e (frzM fa) :=
  PE.imp (pe_frz he) fun σ H Q ⟨S, g, s, h⟩ => ⟨S, g, s, h.bnd.imp fun r S1 H1 g1 s1 f1 h1 x rx => by
    unfold frzK at h1
    split at h1
    · rename_i ds
      obtain ⟨ad, rfl, hb, rt, h0, hm, hn⟩ := rx
      obtain ⟨xs, hx, rxs⟩ := rt.lstAt
      refine ⟨ad, xs, rfl, hx, fun o => ?_⟩
      have fr : Fr H1 g1 (upd H1 ad (.frz o (.lst xs))) (g1.del ad) :=
        ⟨fun b u hb' nb => ⟨by rw [upd_ne (show b ≠ ad from fun q => nb (by rw [q]; exact hb))]; exact hb', fun q => nb q.1⟩, List.prefix_rfl⟩
      have sr : SR X.K z S1 σ (upd H1 ad (.frz o (.lst xs))) (g1.del ad) := by
        constructor
        · exact s1.len
        · intro i d e
          obtain ⟨v, e1, r⟩ := s1.dat i d e
          exact ⟨v, e1, r.fr fr s1.mu⟩
        · intro i d e
          obtain ⟨b, e1, hb', r, h0', hm'⟩ := s1.own i d e
          have ne : b ≠ ad := fun q => hn i d e (q ▸ e1)
          exact ⟨b, e1, ⟨hb', ne⟩, r.fr fr s1.mu (upd_ne ne), h0', hm'⟩
        · exact s1.inj
        · exact s1.olen
        · intro n b d e1 e2
          obtain ⟨r, hb'⟩ := s1.obj n b d e1 e2
          have ne : b ≠ ad := fun q => hm (q ▸ List.mem_iff_getElem?.mpr ⟨n, e1⟩)
          exact ⟨r.fr fr s1.mu (upd_ne ne), hb', ne⟩
        · exact s1.ond
        · intro b hb'
          rw [upd_ne hb'.2]; exact s1.mu b hb'.1
        · exact fun b q => ⟨s1.base b q, fun q2 => s1.b0 b q (q2 ▸ h0)⟩
        · exact s1.b0
        · intro b u hb' nb
          have ne : b ≠ ad := fun q => by rw [q, h0] at hb'; cases hb'
          rw [upd_ne ne]; exact s1.keep b u hb' nb
        · exact s1.on
      exact Go.ok rfl h1 sr fr _ (show ResOk X.K z S1 σ _ (g1.del ad) (.ref ad) (.dat (.rol ds)) from Rp.rol (.inl ⟨o, upd_same⟩) (rxs.fr fr s1.mu))
    · exact h1.none.elim⟩
theorem SR.track (s : SR K z S σ H g) (rv : ResOk K z S σ H g v (.new d)) : ∃ g', SR K z { S with objs := S.objs ++ [d] } σ H g' ∧ Fr H g H g' ∧ Rp K H g' v (.obj S.objs.length) := by
  obtain ⟨ad, rfl, hb, rt, h0, hm, hn⟩ := rv
  have fr : Fr H g H ⟨g.bad, g.om ++ [ad]⟩ := ⟨fun b u h n => ⟨h, n⟩, List.prefix_append _ _⟩
  refine ⟨⟨g.bad, g.om ++ [ad]⟩, ?_, fr, .obj ?_⟩
  · constructor
    · exact s.len
    · intro i d e
      obtain ⟨v, e1, r⟩ := s.dat i d e
      exact ⟨v, e1, r.fr fr s.mu⟩
    · intro i d e
      obtain ⟨b, e1, hb', r, h0', hm'⟩ := s.own i d e
      refine ⟨b, e1, hb', r.fr fr s.mu rfl, h0', fun q => ?_⟩
      rcases List.mem_append.mp q with q | q
      · exact hm' q
      · rw [List.mem_singleton] at q
        exact hn i d e (q ▸ e1)
    · exact s.inj
    · show (S.objs ++ [d]).length = (g.om ++ [ad]).length
      rw [List.length_append, List.length_append, s.olen]; rfl
    · intro n b d' e1 e2
      have e1 : (g.om ++ [ad])[n]? = some b := e1
      have e2 : (S.objs ++ [d])[n]? = some d' := e2
      by_cases q : n < g.om.length
      · rw [List.getElem?_append_left q] at e1
        rw [List.getElem?_append_left (by rw [s.olen]; exact q)] at e2
        obtain ⟨r, hb'⟩ := s.obj n b d' e1 e2
        exact ⟨r.fr fr s.mu rfl, hb'⟩
      · rw [List.getElem?_append_right (by omega)] at e1
        rw [List.getElem?_append_right (by rw [s.olen]; omega), s.olen] at e2
        have : n - g.om.length = 0 := by
          have := (List.getElem?_eq_some_iff.mp e1).1
          simp at this; exact this
        rw [this] at e1 e2
        cases e1; cases e2
        exact ⟨rt.fr fr s.mu rfl, hb⟩
    · show (g.om ++ [ad]).Nodup
      rw [List.nodup_append]
      exact ⟨s.ond, by simp, fun x hx y hy q => hm (by rw [List.mem_singleton] at hy; rw [← hy, ← q]; exact hx)⟩
    · exact s.mu
    · exact s.base
    · exact s.b0
    · exact fun b u h n => s.keep b u h fun q => n (List.mem_append_left _ q)
    · intro b hb'
      rcases List.mem_append.mp hb' with q | q
      · exact s.on b q
      · rw [List.mem_singleton] at q
        exact .inr (q ▸ h0)
  · rw [s.olen, List.getElem?_append_right (Nat.le_refl _), Nat.sub_self]; rfl
def trkM : Res → M D
  | .new d => fun S => some (.ok (.obj S.objs.length), { S with objs := S.objs ++ [d] })
  | _ => M.no
def asgTM (i : Nat) (f : M Res) : M Fl := f >>= fun r => trkM r >>= fun d => putM i (.dat d) >>= fun _ => pure .next
theorem ds_setT (i : Nat) {x : Str} {e : Expr} {fe : M Res} {pos' : Pos} (hN : X.N.Nodup) (he : DE X z e fe) (hi : X.N[i]? = some x := by rfl) (hx : Loc X.env.scope x := by first | exact .inl rfl | exact .inr rfl)
    (hs : swapsWith e (some (.Name x pos')) pos.line X.env = pure false := by rfl) (hf : X.fn x = true ∨ X.env.scope.names.lookup x = some .local := by first | exact .inl rfl | exact .inr rfl | assumption) :
    DS X z (.Assign [.Name x pos'] e pos) (asgTM i fe) :=
  PS.imp (ps_set hN hi hx he hs hf) fun D0 σ H ⟨S, g, s, q⟩ => ⟨S, g, s, (GoS.bnd q).imp fun r S1 H1 g1 s1 f1 q1 v rv => by
    cases r with
    | dat d => exact q1.elim
    | own n d => exact q1.elim
    | new d =>
      obtain ⟨g2, s2, f2, rp⟩ := s1.track rv
      have q2 : GoS X.K X.mg z (putM i (.dat (.obj S1.objs.length)) >>= fun _ => (pure .next : M Fl)) { S1 with objs := S1.objs ++ [d] } σ H1 g1 D0 := q1
      exact GoS.next (mg := X.mg) (GoS.put (mg := X.mg) (σ := σ) (GoS.at (f := putM i (.dat (.obj S1.objs.length)) >>= fun _ => (pure .next : M Fl)) q2 f2)) (s2.put_dat rp)⟩
end
end DL
end
section
set_option maxRecDepth 100000
namespace DL
open PySem PySem.Spec L2
theorem u65 {k : Nat} {A : Around} (r : Room k A) : A.units + 65 < cLine := by have := r.un; omega
theorem u64 {k : Nat} {A : Around} (r : Room k A) : A.units + 64 < cLine := by have := r.un; omega
theorem tk_blk {X : Cx} {z : Zx} (h : z.W = blkW) : Takes X z.W := fun u s' x => by
  rw [h] at x
  obtain ⟨_, _, _, _, _, _, _, _, _, _, _, _, _, _, _, _, no⟩ := x
  exact no.elim
structure Fn0 (K : PySem.W.Frag) (mg : Str → Option Value) (x : Str) (st : Stmt) (ps : List Str) : Prop where
  ex : ∃ f fd, mg x = some (.ref f) ∧ Fun K x x st f fd ∧ Binds K fd ps []
structure Dn (P : Program) (w : World) (K : PySem.W.Frag) (mg : Str → Option Value) (base : Heap) (k : Nat) (x : Str) (ps : List Str) (den : Den) : Prop where
  ex : ∃ f fd, mg x = some (.ref f) ∧ PySem.W.keepIn K (.ref f) = true ∧ Binds K fd ps [] ∧ FnG P w K mg base k f fd ps (spDen K mg ps.length den)
section
variable {P : Program} {w : World} {K : PySem.W.Frag} {mg : Str → Option Value} {base : Heap} {x : Str} {st : Stmt} {ps N : List Str} {k j : Nat} {den : Den}
theorem Dn.mono (D : Dn P w K mg base j x ps den) (h : j ≤ k) : Dn P w K mg base k x ps den :=
  let ⟨f, fd, a, b, c, F⟩ := D.ex
  ⟨f, fd, a, b, c, F.mono h⟩
theorem Fn0.none_ (F : Fn0 K mg x st ps) : Dn P w K mg base k x ps (fun _ _ => none) := by
  obtain ⟨f, fd, a, F, b⟩ := F.ex
  exact ⟨f, fd, a, F.kp, b, ⟨fun vs H Q E ⟨_, _, _, l, _⟩ => l, fun A outer s H args us vs Q E _ _ _ _ _ ⟨_, _, _, _, _, _, _, _, no⟩ => no.elim⟩⟩
theorem okN {m : M Fl} (F : Fn0 K mg x st ps) (Sc : FnScope N ps (defScope st))
    (bod : ∀ {f : Addr} (cdv : Value) (A : Around) (outer : List Env) (s : Shared) (H : Hp) (E : XK) (z : Zx), A.guards = some [] → Room k (A.deeper (PyProof.Rows.envOfC x (defScope st) s.heap.objs.size f cdv)) → Takes (bodyX P w K mg base N x st f cdv A outer s H E) z.W →
      DB (bodyX P w K mg base N x st f cdv A outer s H E) z (defBody st) m) : Dn P w K mg base (k + 1) x ps (runB N.length m) := by
  obtain ⟨f, fd, a, F, b⟩ := F.ex
  exact ⟨f, fd, a, F.kp, b, okD F Sc fun cdv A outer s H E z => bod cdv A outer s H E z⟩
theorem fn0_mk {h : Heap} {f : Addr} {oc : Value} {od an : Option Addr} {osl : Array (Option Value)} {kV doc pm cdv ct : Value} (X : K.In h) (G : h.Ns mainGlobals mg) (a : PySem.W.nsIn K mainGlobals x = some (some (.ref f)))
    (l : K.lookup f = some ⟨oc, od, .func (PySem.W.fnOf x x (defArgs st) (defBody st) (defScope st) .none kV doc pm an cdv ct), osl⟩) (c : PySem.W.codeIn K cdv x = true) (kp : PySem.W.keepIn K (.ref f) = true)
    (b : ∀ F : Fun K x x st f (PySem.W.fnOf x x (defArgs st) (defBody st) (defScope st) .none kV doc pm an cdv ct), Binds K (PySem.W.fnOf x x (defArgs st) (defBody st) (defScope st) .none kV doc pm an cdv ct) ps []) : Fn0 K mg x st ps :=
  ⟨f, _, PySem.W.mg_of X G a, fun_mk (st := st) l c kp, b (fun_mk (st := st) l c kp)⟩
end
section
variable {X : Cx} {z : Zx} {pos p : Pos} {e : Expr} {es : List Expr} {fs : M (List Res)} {x : Str} {ps : List Str} {k n : Nat} {den : Den}
theorem de_cal (D : Dn X.prog X.w X.K X.mg X.base k x ps den) (gd : X.A.guards = some []) (room : Room k X.A) (tk : Takes X z.W) (ha : DAH X z (e :: es) fs) (hg : Gl X x := by rfl) (hdb : (x == ("__debug__" : Str)) = false := by decide)
    (he : starEach (e :: es) X.env = (false, eval e X.env) :: starEach es X.env := by rfl) (hpl : (backTo pos (starEach es X.env)).any (·.1) = false := by rfl) (hn : ps.length = n := by rfl) : DE X z (.Call (.Name x p) (e :: es) [] pos) (callM n den fs) := by
  subst hn
  obtain ⟨f, fd, a, b, c, F⟩ := D.ex
  exact de_call F gd room tk a b c ha hg hdb he hpl
def D.isBl : D → Option Bool
  | .bl b => some b
  | _ => Option.none
def cmpT (op : D → D → M Res) (fa fb : M Res) : M Bool := binM op fa fb >>= fun r => M.opt r.d.isBl pure
variable {a b : Expr} {fa fb : M Res}
theorem isBl_pk {K : PySem.W.Frag} {H : Hp} {g : Gh} {v : V} {d : D} {k : Bool} (p : Pk K H g v d) (e : d.isBl = some k) : v = .bl k := by
  cases d <;> simp [D.isBl] at e
  subst e; exact p.bl
theorem dt_bin {r : R2} {op : D → D → M Res} (hd : OpD X z r op) (pt : PT X e (tTest (tOp r (tD X.K X.mg z fa) (tD X.K X.mg z fb)))) : DT X z e (cmpT op fa fb) := by
  refine PT.imp pt fun σ H Q ⟨S, g, s, h⟩ => ?_
  have h' : Go X.K X.mg z (binM op fa fb) S σ H g fun r S' H' g' => ∀ v, ResOk X.K z S' σ H' g' v r → ∃ k, v = .bl k ∧ Q k H' := h.bnd.imp fun r S1 H1 g1 s1 f1 h1 v rv => by
    obtain ⟨k, e1, q⟩ := h1.opt
    exact ⟨k, isBl_pk (s1.pk rv) e1, q.pure s1⟩
  unfold binM at h'
  refine ⟨S, g, s, h'.bnd.imp fun ra S1 H1 g1 s1 f1 h1 x rx => ?_⟩
  obtain ⟨g2, s2, f2, rx2⟩ := s1.hold rx
  refine ⟨S1, g2, s2, (h1.at f2).bnd.imp fun rb S3 H3 g3 s3 f3 h3 y ry => ?_⟩
  obtain ⟨rx3, h4⟩ := Go.chk s2 s3 f3 (by cases ra <;> rfl) rx2 h3
  exact hd S3 σ H3 g3 x y _ _ _ s3 (s3.pk rx3) (s3.pk ry) h4
theorem dt_lt (ha : DE X z a fa) (hb : DE X z b fb) : DT X z (.Compare a [.Lt] [b] pos) (cmpT opLt fa fb) := dt_bin od_cmp (pt_cmpR op_lt ha hb (nomark _))
theorem dt_gt (ha : DE X z a fa) (hb : DE X z b fb) : DT X z (.Compare a [.Gt] [b] pos) (cmpT opGt fa fb) := dt_bin od_cmp (pt_cmpR op_gt ha hb (nomark _))
theorem dt_ge (ha : DE X z a fa) (hb : DE X z b fb) : DT X z (.Compare a [.GtE] [b] pos) (cmpT opGe fa fb) := dt_bin od_cmp (pt_cmpR op_ge ha hb (nomark _))
theorem dt_eq (hu : X.A.units + 64 < cLine) (ha : DE X z a fa) (hb : DE X z b fb) : DT X z (.Compare a [.Eq] [b] pos) (cmpT (opEq false) fa fb) := dt_bin od_eq (pt_cmpR (op_eqD hu) ha hb (nomark _))
theorem dt_ne (hu : X.A.units + 64 < cLine) (ha : DE X z a fa) (hb : DE X z b fb) : DT X z (.Compare a [.NotEq] [b] pos) (cmpT (opEq true) fa fb) := dt_bin od_ne (pt_cmpR (op_neD hu) ha hb (nomark _))
theorem dt_in (hu : X.A.units + 65 < cLine) (ha : DE X z a fa) (hb : DE X z b fb) (hm : behindInMarks .In b = false := by rfl) : DT X z (.Compare a [.In] [b] pos) (cmpT (opIn false) fa fb) := dt_bin od_in (pt_cmpR (op_inA hu) ha hb hm)
theorem dt_notin (hu : X.A.units + 65 < cLine) (ha : DE X z a fa) (hb : DE X z b fb) (hm : behindInMarks .NotIn b = false := by rfl) : DT X z (.Compare a [.NotIn] [b] pos) (cmpT (opIn true) fa fb) := dt_bin od_notIn (pt_cmpR (op_notInA hu) ha hb hm)
end
end DL
end
section
set_option maxRecDepth 100000
namespace DL
open PySem L2
def Rn {α : Type} (m : M α) (S : Sx) (Q : α → Sx → Prop) : Prop := match m S with
  | some (.ok a, S') => Q a S'
  | _ => False
section
variable {α β : Type} {f g : M α} {k : α → M β} {S : Sx} {i j n : Nat} {d e : D} {o : List D} {env : List Slot}
theorem Rn.mono {Q Q' : α → Sx → Prop} (h : Rn f S Q) (hq : ∀ a S', Q a S' → Q' a S') : Rn f S Q' := by
  unfold Rn at h ⊢
  split at h
  · exact hq _ _ h
  · exact h.elim
theorem Rn.of {Q : α → Sx → Prop} {a : α} {S' : Sx} (h : f S = some (.ok a, S')) (q : Q a S') : Rn f S Q := by
  unfold Rn; rw [h]; exact q
theorem Rn.ex {Q : α → Sx → Prop} (h : Rn f S Q) : ∃ a S', f S = some (.ok a, S') ∧ Q a S' := by
  unfold Rn at h
  split at h
  · rename_i a S' e; exact ⟨a, S', e, h⟩
  · exact h.elim
theorem rn_bind {Q : β → Sx → Prop} : Rn (f >>= k) S Q = Rn f S fun a S' => Rn (k a) S' Q := by
  show (match M.bnd f k S with | some (.ok a, S') => Q a S' | _ => False) = _
  unfold Rn M.bnd
  cases f S with
  | none => rfl
  | some p => obtain ⟨r, S1⟩ := p; cases r <;> rfl
theorem rn_pure {Q : α → Sx → Prop} {a : α} : Rn (pure a) S Q = Q a S := rfl
theorem rn_no {Q : α → Sx → Prop} : Rn (M.no : M α) S Q = False := rfl
theorem rn_opt1 {γ : Type} {Q : β → Sx → Prop} {a : γ} {k : γ → M β} : Rn (M.opt (some a) k) S Q = Rn (k a) S Q := rfl
theorem rn_need {Q : α → Sx → Prop} {c : Bool} : Rn (M.need c f) S Q = (c = true ∧ Rn f S Q) := by
  unfold Rn M.need
  by_cases h : c = true
  · simp [h]
  · simp [h]
theorem rn_ite {Q : α → Sx → Prop} {c : Prop} [Decidable c] : Rn (if c then f else g) S Q = if c then Rn f S Q else Rn g S Q := by split <;> rfl
theorem rn_var {Q : Res → Sx → Prop} : Rn (varM i) ⟨env, o⟩ Q = match env[i]? with | some (.dat d) => Q (.dat d) ⟨env, o⟩ | some (.own d) => Q (.own i d) ⟨env, o⟩ | _ => False := by
  unfold Rn varM
  cases env[i]? with
  | none => rfl
  | some s => cases s <;> rfl
theorem rn_put {Q : Unit → Sx → Prop} {x : Slot} : Rn (putM i x) ⟨env, o⟩ Q = Q () ⟨env.set i x, o⟩ := rfl
theorem rn_useD {Q : D → Sx → Prop} : Rn (useM (.dat d)) S Q = Q d S := rfl
theorem rn_useN {Q : D → Sx → Prop} : Rn (useM (.new d)) S Q = Q d S := rfl
theorem rn_useO {Q : D → Sx → Prop} : Rn (useM (.own i d)) ⟨env, o⟩ Q = (env[i]? = some (.own d) ∧ Q d ⟨env.set i (.dat d), o⟩) := by
  unfold Rn
  rw [useM_own]
  by_cases h : env[i]? = some (.own d)
  · simp [h, Sx.put]
  · simp [h]
theorem rn_chkD {Q : Unit → Sx → Prop} : Rn (chkM (.dat d)) S Q = Q () S := rfl
theorem rn_chkN {Q : Unit → Sx → Prop} : Rn (chkM (.new d)) S Q = Q () S := rfl
theorem rn_chkO {Q : Unit → Sx → Prop} : Rn (chkM (.own i d)) ⟨env, o⟩ Q = (env[i]? = some (.own d) ∧ Q () ⟨env, o⟩) := by
  unfold Rn
  rw [chkM_own]
  by_cases h : env[i]? = some (.own d)
  · simp [h]
  · simp [h]
def Dr (den : Den) (as o : List D) (Q : Res → List D → Prop) : Prop := match den as o with
  | some (.ok r, o') => Q r o'
  | _ => False
theorem rn_call {Q : Res → Sx → Prop} {den : Den} {fs : M (List Res)} : Rn (callM n den fs) S Q = Rn fs S fun rs S' => rs.length = n ∧ Dr den (rs.map (·.d)) S'.objs fun r o' =>
    if (r.safe && o'.all fun o => D.imms o.parts) = true then Q r ⟨S'.env, o'⟩ else Q r (putAll rs ⟨S'.env, o'⟩) := by
  refine (rn_bind (f := fs)).trans ?_
  congr 1
  funext rs S'
  unfold Rn Dr
  by_cases h : rs.length = n
  · simp only [h, if_true, true_and]
    cases den (rs.map (·.d)) S'.objs with
    | none => rfl
    | some p =>
      obtain ⟨r, o'⟩ := p
      cases r with
      | error x => rfl
      | ok r =>
        by_cases c : (r.safe && o'.all fun o => D.imms o.parts) = true
        · simp [c]
        · simp [c]
  · simp only [h, if_false, false_and]
theorem Dr.of {den : Den} {as o o' : List D} {r : Res} {Q : Res → List D → Prop} (h : den as o = some (.ok r, o')) (q : Q r o') : Dr den as o Q := by
  unfold Dr; rw [h]; exact q
theorem Dr.mono {den : Den} {as o : List D} {Q Q' : Res → List D → Prop} (h : Dr den as o Q) (q : ∀ r o', Q r o' → Q' r o') : Dr den as o Q' := by
  unfold Dr at h ⊢
  split at h
  · exact q _ _ h
  · exact h.elim
theorem Dr.ex {den : Den} {as o : List D} {Q : Res → List D → Prop} (h : Dr den as o Q) : ∃ r o', den as o = some (.ok r, o') ∧ Q r o' := by
  unfold Dr at h
  split at h
  · rename_i r o' e; exact ⟨r, o', e, h⟩
  · exact h.elim
def flOut (Q : Res → List D → Prop) : Fl → Sx → Prop
  | .next, S => Q (.dat .non) S.objs
  | .ret r, S => Q (outR r) S.objs
  | _, _ => False
theorem dr_run {b : M Fl} {as : List D} {Q : Res → List D → Prop} : Dr (runB n b) as o Q = Rn b ⟨as.map .dat ++ List.replicate (n - as.length) .un, o⟩ (flOut Q) := by
  unfold Dr runB Rn
  cases b ⟨as.map .dat ++ List.replicate (n - as.length) .un, o⟩ with
  | none => rfl
  | some p =>
    obtain ⟨r, S'⟩ := p
    cases r with
    | error x => rfl
    | ok fl => cases fl <;> rfl
theorem rn_seq {Q : Fl → Sx → Prop} {f h : M Fl} : Rn (seqM f h) S Q = Rn f S fun fl S' => match fl with | .next => Rn h S' Q | x => Q x S' := by
  unfold seqM
  rw [rn_bind]
  congr 1
  funext fl S'
  cases fl <;> rfl
theorem rn_store {Q : Unit → Sx → Prop} {k x : D} : Rn (storeK i k x) S Q = ∃ w d d', whereM i S = some (w, d) ∧ d.store k x = some d' ∧ Q () (S.store i w d') := by
  unfold Rn storeK
  cases h : whereM i S with
  | none => simp
  | some p =>
    obtain ⟨w, d⟩ := p
    simp only
    cases h2 : d.store k x with
    | none => exact propext ⟨fun q => q.elim, fun ⟨_, _, _, e, q, _⟩ => by cases e; rw [h2] at q; cases q⟩
    | some x => exact propext ⟨fun q => ⟨_, _, _, rfl, h2, q⟩, fun ⟨_, _, _, e, e2, q⟩ => by cases e; rw [h2] at e2; cases e2; exact q⟩
theorem rn_guard {Q : α → Sx → Prop} {c : Sx → Bool} : Rn (guardM c f) S Q = (c S = true ∧ Rn f S Q) := by
  unfold Rn guardM
  by_cases h : c S = true <;> simp [h]
theorem rn_meth {Q : Res → Sx → Prop} {op : D → D → Option (D × D)} {x : D} : Rn (methK i op x) S Q = ∃ w d r d', whereM i S = some (w, d) ∧ op d x = some (r, d') ∧ Q (.dat r) (S.store i w d') := by
  unfold Rn methK
  cases h : whereM i S with
  | none => simp
  | some p =>
    obtain ⟨w, d⟩ := p
    simp only
    cases h2 : op d x with
    | none => exact propext ⟨fun q => q.elim, fun ⟨_, _, _, _, e, q, _⟩ => by cases e; rw [h2] at q; cases q⟩
    | some p => obtain ⟨r, d'⟩ := p; exact propext ⟨fun q => ⟨_, _, _, _, rfl, h2, q⟩, fun ⟨_, _, _, _, e, e2, q⟩ => by cases e; rw [h2] at e2; cases e2; exact q⟩
theorem rn_forIn {Q : Fl → Sx → Prop} {it : M (List D)} {tgt : D → M Unit} {b : M Fl} : Rn (forIn it tgt b) S Q = Rn it S fun ds S' => Rn (forM tgt b ds) S' Q := by
  unfold DL.forIn; exact rn_bind
theorem rn_for0 {Q : Fl → Sx → Prop} {tgt : D → M Unit} {b : M Fl} : Rn (forM tgt b []) S Q = Q .next S := rfl
theorem rn_for1 {Q : Fl → Sx → Prop} {tgt : D → M Unit} {b : M Fl} {ds : List D} : Rn (forM tgt b (d :: ds)) S Q = Rn (tgt d) S fun _ S1 => Rn b S1 fun fl S2 => match fl with
    | .next => Rn (forM tgt b ds) S2 Q
    | .cont => Rn (forM tgt b ds) S2 Q
    | .brk => Q .next S2
    | .ret r => Q (.ret r) S2 := by
  show Rn (tgt d >>= fun _ => b >>= loopK (forM tgt b ds)) S Q = _
  rw [rn_bind]
  congr 1
  funext u S1
  rw [rn_bind]
  congr 1
  funext fl S2
  cases fl <;> rfl
section
variable {Q : Res → Sx → Prop} {i j : Int} {ds es : List D} {b c : Bool} {r : Res} {m : Nat} {x y : Str}
theorem hold_d : (Res.dat d).hold = .dat d := rfl
theorem hold_n : (Res.new d).hold = .dat d := rfl
theorem hold_o : (Res.own n d).hold = .own n d := rfl
theorem d_d : (Res.dat d).d = d := rfl
theorem d_n : (Res.new d).d = d := rfl
theorem d_o : (Res.own n d).d = d := rfl
theorem out_d : outR (.dat d) = .dat d := rfl
theorem out_n : outR (.new d) = .new d := rfl
theorem out_o : outR (.own n d) = .new d := rfl
theorem fo_next {Q : Res → List D → Prop} : flOut Q .next S = Q (.dat .non) S.objs := rfl
theorem fo_ret {Q : Res → List D → Prop} : flOut Q (.ret r) S = Q (outR r) S.objs := rfl
theorem rn_setD {Q : Unit → Sx → Prop} : Rn (setM n (.dat d)) ⟨env, o⟩ Q = Q () ⟨env.set n (.dat d), o⟩ := rfl
theorem rn_setN {Q : Unit → Sx → Prop} : Rn (setM n (.new d)) ⟨env, o⟩ Q = Q () ⟨env.set n (.own d), o⟩ := rfl
theorem rn_setO {Q : Unit → Sx → Prop} : Rn (setM n (.own m d)) ⟨env, o⟩ Q = (env[m]? = some (.own d) ∧ Q () ⟨(env.set m (.dat d)).set n (.dat d), o⟩) := by
  show Rn (useM (.own m d) >>= fun d => putM n (.dat d)) _ Q = _
  rw [rn_bind, rn_useO]; rfl
theorem isBl_b : (D.bl b).isBl = some b := rfl
theorem isInt_i : (D.int i).isInt = some i := rfl
theorem tr_i : (D.int i).truth = some (i != 0) := rfl
theorem tr_b : (D.bl b).truth = some b := rfl
theorem tr_n : D.non.truth = some false := rfl
theorem tr_l : (D.lst ds).truth = some (!ds.isEmpty) := rfl
theorem tr_t : (D.tup ds).truth = some (!ds.isEmpty) := rfl
theorem it_l : (D.lst ds).items = some ds := rfl
theorem it_r : (D.rol ds).items = some ds := rfl
theorem it_t : (D.tup ds).items = some ds := rfl
theorem li_l : (D.lst ds).lis = some ds := rfl
theorem li_r : (D.rol ds).lis = some ds := rfl
theorem op_add_i : Rn (opAdd (.int i) (.int j)) S Q = Q (.dat (.int (i + j))) S := rfl
theorem op_add_l : Rn (opAdd (.lst ds) (.lst es)) S Q = (ds.length + es.length ≤ sizeLine ∧ Q (.new (.lst (ds ++ es))) S) := by
  show Rn (M.need _ _) S Q = _
  rw [rn_need, decide_eq_true_eq]; rfl
theorem op_add_t : Rn (opAdd (.tup ds) (.tup es)) S Q = (ds.length + es.length ≤ sizeLine ∧ Q (.dat (.tup (ds ++ es))) S) := by
  show Rn (M.need _ _) S Q = _
  rw [rn_need, decide_eq_true_eq]; rfl
theorem op_sub_i : Rn (opSub (.int i) (.int j)) S Q = Q (.dat (.int (i - j))) S := rfl
theorem op_mul_i : Rn (opMul (.int i) (.int j)) S Q = (((-(2 ^ 64) < i ∧ i < 2 ^ 64) ∨ (-(2 ^ 64) < j ∧ j < 2 ^ 64)) ∧ Q (.dat (.int (i * j))) S) := by
  show Rn (M.need _ _) S Q = _
  rw [rn_need, decide_eq_true_eq]; rfl
theorem op_mod_i : Rn (opMod (.int i) (.int j)) S Q = (j ≠ 0 ∧ Q (.dat (.int (i.fmod j))) S) := by
  show Rn (M.need _ _) S Q = _
  rw [rn_need, decide_eq_true_eq]; rfl
theorem op_div_i : Rn (opDiv (.int i) (.int j)) S Q = ((j ≠ 0 ∧ j.natAbs < 1073741824) ∧ Q (.dat (.int (i.fdiv j))) S) := by
  show Rn (M.need _ _) S Q = _
  rw [rn_need, decide_eq_true_eq]; rfl
theorem op_pow_i : Rn (opPow (.int i) (.int j)) S Q = ((0 ≤ j ∧ j ≤ 1000000 ∧ i.natAbs < 2 ^ 64) ∧ Q (.dat (.int (i ^ j.toNat))) S) := by
  show Rn (M.need _ _) S Q = _
  rw [rn_need, decide_eq_true_eq]; rfl
theorem op_lt_i : Rn (opLt (.int i) (.int j)) S Q = Q (.dat (.bl (decide (i < j)))) S := rfl
theorem op_le_i : Rn (opLe (.int i) (.int j)) S Q = Q (.dat (.bl (decide (i ≤ j)))) S := rfl
theorem op_gt_i : Rn (opGt (.int i) (.int j)) S Q = Q (.dat (.bl (decide (j < i)))) S := rfl
theorem op_ge_i : Rn (opGe (.int i) (.int j)) S Q = Q (.dat (.bl (decide (j ≤ i)))) S := rfl
theorem op_int_i : Rn (opInt (.int i)) S Q = Q (.dat (.int i)) S := rfl
theorem op_abs_i : Rn (opAbs (.int i)) S Q = Q (.dat (.int (if i < 0 then -i else i))) S := rfl
theorem op_len_l : Rn (opLen (.lst ds)) S Q = Q (.dat (.int ds.length)) S := rfl
theorem op_len_t : Rn (opLen (.tup ds)) S Q = Q (.dat (.int ds.length)) S := rfl
theorem op_len_r : Rn (opLen (.rol ds)) S Q = Q (.dat (.int ds.length)) S := rfl
theorem op_tup_l : Rn (opTuple (.lst ds)) S Q = Q (.dat (.tup ds)) S := rfl
theorem op_tup_t : Rn (opTuple (.tup ds)) S Q = Q (.dat (.tup ds)) S := rfl
theorem op_lst_l : Rn (opList (.lst ds)) S Q = Q (.new (.lst ds)) S := rfl
theorem op_lst_t : Rn (opList (.tup ds)) S Q = Q (.new (.lst ds)) S := rfl
theorem op_max_i : Rn (opMax2 (.int i) (.int j)) S Q = Q (.dat (.int (if j > i then j else i))) S := rfl
theorem op_eq_i : Rn (opEq b (.int i) (.int j)) S Q = Q (.dat (.bl ((i == j) != b))) S := by
  have : D.eqv (.int i) (.int j) = some (i == j) := by
    unfold D.eqv
    simp [D.py, SeqAt.shaped, PyData.canLay0, PyData.depth, PyData.eqv]
  unfold opEq
  rw [this]; rfl
theorem op_eq_s (hx : PyData.strOk x = true) (hy : PyData.strOk y = true) : Rn (opEq b (.str x) (.str y)) S Q = Q (.dat (.bl ((x == y) != b))) S := by
  have : D.eqv (.str x) (.str y) = some (x == y) := by
    unfold D.eqv
    simp [D.py, SeqAt.shaped, PyData.canLay0, PyData.depth, PyData.eqv, hx, hy]
  unfold opEq
  rw [this]; rfl
theorem ok_go : PyData.strOk "go" = true := by decide +kernel
theorem ok_get : PyData.strOk "get" = true := by decide +kernel
theorem eq_go_go : Rn (opEq b (.str "go") (.str "go")) S Q = Q (.dat (.bl (true != b))) S := by rw [op_eq_s ok_go ok_go]; rfl
theorem eq_get_get : Rn (opEq b (.str "get") (.str "get")) S Q = Q (.dat (.bl (true != b))) S := by rw [op_eq_s ok_get ok_get]; rfl
theorem eq_go_get : Rn (opEq b (.str "go") (.str "get")) S Q = Q (.dat (.bl (false != b))) S := by
  rw [op_eq_s ok_go ok_get, show (("go" : Str) == ("get" : Str)) = false by decide +kernel]
theorem eq_get_go : Rn (opEq b (.str "get") (.str "go")) S Q = Q (.dat (.bl (false != b))) S := by
  rw [op_eq_s ok_get ok_go, show (("get" : Str) == ("go" : Str)) = false by decide +kernel]
theorem op_sl_l {lo hi : Option Int} : Rn (opSl (.lst ds) lo hi) S Q = Q (.new (.lst (cutD ds lo hi))) S := rfl
theorem op_sl_r {lo hi : Option Int} : Rn (opSl (.rol ds) lo hi) S Q = Q (.new (.lst (cutD ds lo hi))) S := rfl
theorem op_sl_t {lo hi : Option Int} : Rn (opSl (.tup ds) lo hi) S Q = Q (.dat (.tup (cutD ds lo hi))) S := rfl
theorem atI_nat {α : Type} {l : List α} {m : Nat} {a : α} (h : l[m]? = some a) : atI l (m : Int) = some a := by
  have hl : m < l.length := (List.getElem?_eq_some_iff.mp h).1
  unfold atI ixN
  have h0 : (0 : Int) ≤ (m : Int) := by omega
  have h1 : (m : Int) < (l.length : Int) := by omega
  rw [if_pos h0, if_pos h1]
  simpa using h
theorem op_ix_t0 : Rn (opIx (.tup (d :: ds)) (.int 0)) S Q = Q (.dat d) S := by
  have : D.item (.tup (d :: ds)) (.int 0) = some d := atI_nat (m := 0) rfl
  unfold opIx; rw [this]; rfl
theorem op_ix_t1 {d2 : D} : Rn (opIx (.tup (d :: d2 :: ds)) (.int 1)) S Q = Q (.dat d2) S := by
  have : D.item (.tup (d :: d2 :: ds)) (.int 1) = some d2 := atI_nat (m := 1) rfl
  unfold opIx; rw [this]; rfl
theorem op_ix_t2 {d2 d3 : D} : Rn (opIx (.tup (d :: d2 :: d3 :: ds)) (.int 2)) S Q = Q (.dat d3) S := by
  have : D.item (.tup (d :: d2 :: d3 :: ds)) (.int 2) = some d3 := atI_nat (m := 2) rfl
  unfold opIx; rw [this]; rfl
theorem op_ix_l0 : Rn (opIx (.lst (d :: ds)) (.int 0)) S Q = Q (.dat d) S := by
  have : D.item (.lst (d :: ds)) (.int 0) = some d := atI_nat (m := 0) rfl
  unfold opIx; rw [this]; rfl
theorem op_ix_tn {k : Nat} (h : ds[k]? = some d) : Rn (opIx (.tup ds) (.int (k : Nat))) S Q = Q (.dat d) S := by
  have : D.item (.tup ds) (.int (k : Nat)) = some d := atI_nat h
  unfold opIx; rw [this]; rfl
theorem op_ix_ln {k : Nat} (h : ds[k]? = some d) : Rn (opIx (.lst ds) (.int (k : Nat))) S Q = Q (.dat d) S := by
  have : D.item (.lst ds) (.int (k : Nat)) = some d := atI_nat h
  unfold opIx; rw [this]; rfl
end
end
end DL
end
section
set_option maxRecDepth 100000
namespace DL
open PySem L2
local macro_rules | `(tactic| simp! only) => `(tactic| simp -implicitDefEqProofs only [rn_bind, rn_pure, rn_no, rn_need, rn_opt1, rn_ite, rn_var, rn_put, rn_useD, rn_useN, rn_useO, rn_chkD, rn_chkN, rn_chkO, rn_call, rn_seq, rn_guard, rn_forIn, rn_for0, rn_setD, rn_setN, rn_setO, binM, binMO, unM, cmpT, testM, andT, orT, notT, ifM, asgM, retM, exprM, kM, consA, nilA, tupM, lstM, useAll, chkAll, slM, partM, DL.andM, DL.orM, DL.notM, negM, asgG, gN, gT, gsC, gsN, seqI, frzM, asgTM, dnewM, par2M, hold_d, hold_n, hold_o, d_d, d_n, d_o, out_d, out_n, out_o, fo_next, fo_ret, isBl_b, isInt_i, tr_i, tr_b, tr_n, tr_l, tr_t, it_l, it_r, it_t, li_l, li_r, op_add_i, op_add_l, op_add_t, op_sub_i, op_mul_i, op_mod_i, op_div_i, op_pow_i, op_lt_i, op_le_i, op_gt_i, op_ge_i, op_int_i, op_abs_i, op_len_l, op_len_t, op_len_r, op_tup_l, op_tup_t, op_lst_l, op_lst_t, op_max_i, op_eq_i, eq_go_go, eq_get_get, eq_go_get, eq_get_go, Bool.bne_false, Bool.bne_true, Bool.not_true, Bool.not_false, op_sl_l, op_sl_r, op_sl_t, op_ix_t0, op_ix_t1, op_ix_t2, op_ix_l0, List.getElem?_cons_zero, List.getElem?_cons_succ, List.set_cons_zero, List.set_cons_succ, List.map_cons, List.map_nil, List.length_cons, List.length_nil, List.cons_append, List.nil_append, if_true, if_false, Bool.false_eq_true, decide_eq_true_eq, and_true, true_and, ite_true, ite_false, reduceCtorEq])
local macro_rules | `(tactic| simp! only [$ls,*]) => `(tactic| simp -implicitDefEqProofs only [rn_bind, rn_pure, rn_no, rn_need, rn_opt1, rn_ite, rn_var, rn_put, rn_useD, rn_useN, rn_useO, rn_chkD, rn_chkN, rn_chkO, rn_call, rn_seq, rn_guard, rn_forIn, rn_for0, rn_setD, rn_setN, rn_setO, binM, binMO, unM, cmpT, testM, andT, orT, notT, ifM, asgM, retM, exprM, kM, consA, nilA, tupM, lstM, useAll, chkAll, slM, partM, DL.andM, DL.orM, DL.notM, negM, asgG, gN, gT, gsC, gsN, seqI, frzM, asgTM, dnewM, par2M, hold_d, hold_n, hold_o, d_d, d_n, d_o, out_d, out_n, out_o, fo_next, fo_ret, isBl_b, isInt_i, tr_i, tr_b, tr_n, tr_l, tr_t, it_l, it_r, it_t, li_l, li_r, op_add_i, op_add_l, op_add_t, op_sub_i, op_mul_i, op_mod_i, op_div_i, op_pow_i, op_lt_i, op_le_i, op_gt_i, op_ge_i, op_int_i, op_abs_i, op_len_l, op_len_t, op_len_r, op_tup_l, op_tup_t, op_lst_l, op_lst_t, op_max_i, op_eq_i, eq_go_go, eq_get_get, eq_go_get, eq_get_go, Bool.bne_false, Bool.bne_true, Bool.not_true, Bool.not_false, op_sl_l, op_sl_r, op_sl_t, op_ix_t0, op_ix_t1, op_ix_t2, op_ix_l0, List.getElem?_cons_zero, List.getElem?_cons_succ, List.set_cons_zero, List.set_cons_succ, List.map_cons, List.map_nil, List.length_cons, List.length_nil, List.cons_append, List.nil_append, if_true, if_false, Bool.false_eq_true, decide_eq_true_eq, and_true, true_and, ite_true, ite_false, reduceCtorEq, $ls,*])
structure Bag where
  a : Int
  b : Int
  c : Int
  cs : List Int
structure Bag.Ok (x : Bag) : Prop where
  a0 : 0 ≤ x.a
  b0 : 0 ≤ x.b
  c0 : 0 ≤ x.c
  cs0 : ∀ v ∈ x.cs, 0 ≤ v
def bagD (x : Bag) : D := .lst [.int x.a, .int x.b, .int x.c, .rol (x.cs.map .int)]
def takeB : M Fl := (seqM (ifM (cmpT (opEq false) (binMO opIx (varM 0) (kM (.int 0))) (kM (.int 0))) (seqM (asgM 4 (binM opIx (binM opAdd (slM (binMO opIx (varM 0) (kM (.int 3))) (partM (binMO opIx (varM 0) (kM (.int 2)))) (pure none)) (lstM (consA (kM (.int 0)) nilA))) (kM (.int 0))))
  (seqM (augSM 0 (fun i j => i + j) (kM (.int 2)) (kM (.int 1)))
  (seqM (ifM (cmpT opGe (varM 4) (binM opPow (kM (.int 10)) (kM (.int 18)))) (storeM 0 (varM 4) (kM (.int 0))) (pure .next))
  (seqM (asgM 5 (binM opAdd (binM opAdd (binM opMul (binMO opIx (varM 0) (kM (.int 1))) (kM (.int 48271))) (binM opMod (unM opInt (varM 4)) (kM (.int 2147483647)))) (binM opMul (kM (.int 7919)) (binMO opIx (varM 0) (kM (.int 2))))))
  (storeM 0 (binM opMod (unM opInt (varM 5)) (kM (.int 2147483647))) (kM (.int 1))))))) (pure .next))
  (seqM (ifM (cmpT opGt (binMO opIx (varM 0) (kM (.int 0))) (kM (.int 0))) (seqM (asgM 6 (binM opMod (unM opInt (binMO opIx (varM 0) (kM (.int 0)))) (varM 1)))
  (seqM (storeM 0 (binM opDiv (unM opInt (binMO opIx (varM 0) (kM (.int 0)))) (varM 1)) (kM (.int 0)))
  (retM (varM 6)))) (pure .next))
  (seqM (asgM 2 (binM opMod (unM opInt (binM opMul (binM opAdd (binMO opIx (varM 0) (kM (.int 1))) (kM (.int 1))) (kM (.int 39373)))) (kM (.int 1000000007))))
  (seqM (asgM 3 (binM opMod (unM opInt (binM opMul (binM opMod (unM opInt (binM opMul (varM 2) (varM 2))) (kM (.int 998244353))) (kM (.int 30011)))) (kM (.int 998244353))))
  (retM (binM opMod (unM opInt (binM opDiv (varM 3) (kM (.int 7)))) (varM 1)))))))
section
variable {x : Bag} {env : List Slot} {u : Int}
theorem rn_peek0 {Q : D → Sx → Prop} {d : D} {r : List D} : Rn (peekM (.obj 0)) ⟨env, d :: r⟩ Q = Q d ⟨env, d :: r⟩ := rfl
theorem ix_0 {Q : Res → Sx → Prop} {S : Sx} : Rn (opIx (bagD x) (.int 0)) S Q = Q (.dat (.int x.a)) S := rfl
theorem ix_1 {Q : Res → Sx → Prop} {S : Sx} : Rn (opIx (bagD x) (.int 1)) S Q = Q (.dat (.int x.b)) S := rfl
theorem ix_2 {Q : Res → Sx → Prop} {S : Sx} : Rn (opIx (bagD x) (.int 2)) S Q = Q (.dat (.int x.c)) S := rfl
theorem ix_3 {Q : Res → Sx → Prop} {S : Sx} : Rn (opIx (bagD x) (.int 3)) S Q = Q (.dat (.rol (x.cs.map .int))) S := rfl
def Bag.st (x : Bag) : Nat → Int → Bag
  | 0, v => { x with a := v }
  | 1, v => { x with b := v }
  | _, v => { x with c := v }
theorem cut_head (cs : List Int) (h : ∀ v ∈ cs, 0 ≤ v) (c : Int) : ∃ (v : Int) (r : List D), 0 ≤ v ∧ cutD (cs.map D.int) (some c) none ++ [.int 0] = .int v :: r := by
  have key : ∀ (l : List Int), (∀ v ∈ l, 0 ≤ v) → ∃ (v : Int) (r : List D), 0 ≤ v ∧ l.map D.int ++ [.int 0] = .int v :: r := by
    intro l hl
    cases l with
    | nil => exact ⟨0, [], Int.le_refl _, rfl⟩
    | cons w t => exact ⟨w, t.map D.int ++ [.int 0], hl w List.mem_cons_self, rfl⟩
  unfold cutD
  rw [← List.map_drop, ← List.map_take]
  exact key _ fun v hv => h v (List.mem_of_mem_drop (List.mem_of_mem_take hv))
theorem cut_len {ds : List D} {lo hi : Option Int} : (cutD ds lo hi).length ≤ ds.length := by
  unfold cutD
  rw [List.length_take, List.length_drop]; omega
theorem rn_storeM {Q : Fl → Sx → Prop} {f h : M Res} {i : Nat} {S : Sx} : Rn (storeM i f h) S Q = Rn f S fun r S1 => Rn (useM r) S1 fun x S2 => (whereM i S2).isSome = true ∧ Rn h S2 fun rk S3 => Rn (useM rk) S3 fun k S4 => Rn (storeK i k x) S4 fun _ S5 => Q .next S5 := by
  unfold storeM
  simp only [rn_bind, rn_guard, rn_pure]
theorem where_b {o : List D} : (whereM 0 ⟨.dat (.obj 0) :: env, bagD x :: o⟩).isSome = true := rfl
theorem st_b0 {Q : Unit → Sx → Prop} {o : List D} {v : Int} : Rn (storeK 0 (.int 0) (.int v)) ⟨.dat (.obj 0) :: env, bagD x :: o⟩ Q = Q () ⟨.dat (.obj 0) :: env, bagD { x with a := v } :: o⟩ := rfl
theorem st_b1 {Q : Unit → Sx → Prop} {o : List D} {v : Int} : Rn (storeK 0 (.int 1) (.int v)) ⟨.dat (.obj 0) :: env, bagD x :: o⟩ Q = Q () ⟨.dat (.obj 0) :: env, bagD { x with b := v } :: o⟩ := rfl
theorem aug_b2 {Q : Fl → Sx → Prop} {o : List D} : Rn (augSM 0 (fun i j => i + j) (pure (.dat (.int 2))) (pure (.dat (.int 1)))) ⟨.dat (.obj 0) :: env, bagD x :: o⟩ Q = Q .next ⟨.dat (.obj 0) :: env, bagD { x with c := x.c + 1 } :: o⟩ := rfl
theorem big_list {n : Nat} (h : n ≤ 64) : n ≤ sizeLine := Nat.le_trans h (by decide)
def takeEnv (u : Int) (s4 s5 : Slot) : List Slot := [.dat (.obj 0), .dat (.int u), .un, .un, s4, s5, .un]
theorem take1 (hx : x.Ok) (hcs : x.cs.length ≤ 63) (u : Int) : Rn (ifM (cmpT (opEq false) (binMO opIx (varM 0) (kM (.int 0))) (kM (.int 0))) (seqM (asgM 4 (binM opIx (binM opAdd (slM (binMO opIx (varM 0) (kM (.int 3))) (partM (binMO opIx (varM 0) (kM (.int 2)))) (pure none)) (lstM (consA (kM (.int 0)) nilA))) (kM (.int 0))))
  (seqM (augSM 0 (fun i j => i + j) (kM (.int 2)) (kM (.int 1)))
  (seqM (ifM (cmpT opGe (varM 4) (binM opPow (kM (.int 10)) (kM (.int 18)))) (storeM 0 (varM 4) (kM (.int 0))) (pure .next))
  (seqM (asgM 5 (binM opAdd (binM opAdd (binM opMul (binMO opIx (varM 0) (kM (.int 1))) (kM (.int 48271))) (binM opMod (unM opInt (varM 4)) (kM (.int 2147483647)))) (binM opMul (kM (.int 7919)) (binMO opIx (varM 0) (kM (.int 2))))))
  (storeM 0 (binM opMod (unM opInt (varM 5)) (kM (.int 2147483647))) (kM (.int 1))))))) (pure .next)) ⟨takeEnv u .un .un, [bagD x]⟩
    fun fl S' => fl = .next ∧ ∃ x' s4 s5, Bag.Ok x' ∧ x'.cs = x.cs ∧ S' = ⟨takeEnv u s4 s5, [bagD x']⟩ := by
  unfold takeEnv
  simp! only [rn_peek0, ix_0, ix_1, ix_2, ix_3]
  by_cases h0 : x.a = 0
  · have e0 : (x.a == 0) = true := by simp [h0]
    obtain ⟨v, r, hv, ec⟩ := cut_head x.cs hx.cs0 x.c
    have hl : (cutD (x.cs.map D.int) (some x.c) none).length + ([D.int 0] : List D).length ≤ sizeLine := by
      refine big_list ?_
      have := cut_len (ds := x.cs.map D.int) (lo := some x.c) (hi := none)
      rw [List.length_map] at this
      simp; omega
    rw [if_pos e0]
    simp! only [rn_peek0, ix_0, ix_1, ix_2, ix_3, ec]
    refine ⟨by decide, hl, ?_⟩
    simp! only [rn_peek0, ix_0, ix_1, ix_2, ix_3, aug_b2, rn_storeM, where_b, st_b0, st_b1]
    have m0 : ∀ k : Int, 0 ≤ k.fmod 2147483647 := fun k => by rw [Int.fmod_eq_emod_of_nonneg _ (by decide)]; exact Int.emod_nonneg _ (by decide)
    refine ⟨by decide, ?_⟩
    split
    · exact ⟨.inr (by decide), by decide, .inl (by decide), by decide, ⟨v, (x.b * 48271 + v.fmod 2147483647 + 7919 * (x.c + 1)).fmod 2147483647, x.c + 1, x.cs⟩, _, _, ⟨hv, m0 _, by have := hx.c0; show 0 ≤ x.c + 1; omega, hx.cs0⟩, rfl, rfl⟩
    · exact ⟨.inr (by decide), by decide, .inl (by decide), by decide, ⟨x.a, (x.b * 48271 + v.fmod 2147483647 + 7919 * (x.c + 1)).fmod 2147483647, x.c + 1, x.cs⟩, _, _, ⟨hx.a0, m0 _, by have := hx.c0; show 0 ≤ x.c + 1; omega, hx.cs0⟩, rfl, rfl⟩
  · have e0 : (x.a == 0) = false := by simp [h0]
    rw [if_neg (by rw [e0]; exact Bool.false_ne_true)]
    exact ⟨x, .un, .un, hx, rfl, rfl⟩
theorem take_ok (hx : x.Ok) (hcs : x.cs.length ≤ 63) (hu : 0 < u) (hu2 : u < 1073741824) : Dr (runB 7 takeB) [.obj 0, .int u] [bagD x] fun r o => ∃ (k : Int) (x' : Bag), r = .dat (.int k) ∧ 0 ≤ k ∧ k < u ∧ o = [bagD x'] ∧ x'.Ok ∧ x'.cs = x.cs := by
  rw [dr_run]
  show Rn takeB ⟨takeEnv u .un .un, [bagD x]⟩ _
  unfold takeB
  rw [rn_seq]
  refine (take1 hx hcs u).mono ?_
  rintro fl S' ⟨rfl, y, s4, s5, hy, hcy, rfl⟩
  have mu : ∀ k : Int, 0 ≤ k.fmod u ∧ k.fmod u < u := fun k => by
    rw [Int.fmod_eq_emod_of_nonneg _ (by omega)]
    exact ⟨Int.emod_nonneg _ (by omega), Int.emod_lt_of_pos _ hu⟩
  have m1 : ∀ k j : Int, 0 < j → 0 ≤ k.fmod j ∧ k.fmod j < j := fun k j hj => by
    rw [Int.fmod_eq_emod_of_nonneg _ (by omega)]
    exact ⟨Int.emod_nonneg _ (by omega), Int.emod_lt_of_pos _ hj⟩
  unfold takeEnv
  simp! only [rn_peek0, ix_0, ix_1, ix_2, ix_3, aug_b2, rn_storeM, where_b, st_b0, st_b1]
  split
  · refine ⟨by omega, ⟨by omega, by omega⟩, _, _, rfl, (mu _).1, (mu _).2, rfl, ⟨?_, hy.b0, hy.c0, hy.cs0⟩, hcy⟩
    show 0 ≤ y.a.fdiv u
    rw [Int.fdiv_eq_ediv_of_nonneg _ (by omega)]
    exact Int.ediv_nonneg hy.a0 (by omega)
  · have b1 := m1 ((y.b + 1) * 39373) 1000000007 (by decide)
    refine ⟨.inr (by decide), by decide, .inl ⟨by omega, by omega⟩, by decide, .inr (by decide), by decide, ⟨by decide, by decide⟩, by omega, _, _, rfl, (mu _).1, (mu _).2, rfl, hy, hcy⟩
end
end DL
end
section
set_option maxRecDepth 100000
namespace DL
open PySem L2
def Cw (turn : D → M (Option D)) (env : List Slot) (ds acc o : List D) (P : List D → List D → Prop) : Prop := match compL turn env ds acc o with
  | some (a, o') => P a o'
  | none => False
section
variable {turn : D → M (Option D)} {env : List Slot} {ds acc o : List D} {P : List D → List D → Prop} {d : D} {S : Sx}
theorem cw_nil : Cw turn env [] acc o P = P acc o := rfl
theorem cw_cons : Cw turn env (d :: ds) acc o P = Rn (turn d) ⟨env, o⟩ fun x S' => match x with | some v => acc.length < sizeLine ∧ Cw turn env ds (acc ++ [v]) S'.objs P | none => Cw turn env ds acc S'.objs P := by
  unfold Cw
  rw [compL]
  unfold Rn
  cases turn d ⟨env, o⟩ with
  | none => rfl
  | some p =>
    obtain ⟨r, S'⟩ := p
    cases r with
    | error x => rfl
    | ok x =>
      cases x with
      | none => rfl
      | some v =>
        by_cases h : acc.length < sizeLine
        · simp [h]
        · simp [h]
theorem rn_lc {Q : Res → Sx → Prop} {it : M (List D)} {own : List Nat} : Rn (lcM it own turn) S Q = Rn it S fun ds S' => Cw turn (wipeE (S'.env.map Slot.frz) own) ds [] S'.objs fun acc o' =>
    if (D.imms acc && o'.all fun o => D.imms o.parts) = true then Q (.new (.lst acc)) ⟨S'.env, o'⟩ else Q (.new (.lst acc)) ⟨S'.env.map Slot.frz, o'⟩ := by
  refine (rn_bind (f := it)).trans ?_
  congr 1
  funext ds S'
  unfold Rn Cw
  dsimp only
  cases compL turn (wipeE (S'.env.map Slot.frz) own) ds [] S'.objs with
  | none => rfl
  | some p =>
    obtain ⟨a, o'⟩ := p
    by_cases c : (D.imms a && o'.all fun o => D.imms o.parts) = true
    · simp [c]
    · simp [c]
theorem Cw.mono {P' : List D → List D → Prop} (h : Cw turn env ds acc o P) (q : ∀ a o', P a o' → P' a o') : Cw turn env ds acc o P' := by
  unfold Cw at h ⊢
  split at h
  · exact q _ _ h
  · exact h.elim
theorem cw_map {F : D → Option D} : ∀ {ds acc : List D}, acc.length + ds.length ≤ sizeLine → (∀ d ∈ ds, Rn (turn d) ⟨env, o⟩ fun x S' => x = F d ∧ S'.objs = o) → P (acc ++ ds.filterMap F) o → Cw turn env ds acc o P
  | [], acc, _, _, q => by rw [cw_nil]; simpa using q
  | d :: ds, acc, hl, h, q => by
    rw [cw_cons]
    have hl' : acc.length + (ds.length + 1) ≤ sizeLine := by simpa using hl
    refine (h d List.mem_cons_self).mono ?_
    rintro x S' ⟨rfl, e⟩
    cases hF : F d with
    | none =>
      simp only
      rw [e]
      exact cw_map (by omega) (fun c hc => h c (List.mem_cons_of_mem _ hc)) (by simpa [List.filterMap_cons, hF] using q)
    | some v =>
      simp only
      rw [e]
      refine ⟨by omega, cw_map (by simp; omega) (fun c hc => h c (List.mem_cons_of_mem _ hc)) ?_⟩
      simpa [List.filterMap_cons, hF] using q
theorem rn_turn {Q : Option D → Sx → Prop} {tgt : D → M Unit} {t : M Bool} {f : M Res} : Rn (turnM tgt t f d) S Q = Rn (tgt d) S fun _ S1 => Rn t S1 fun b S2 => if b = true then Rn f S2 fun r S3 => Rn (useM r) S3 fun x S4 => Q (some x) S4 else Q none S2 := by
  unfold turnM
  simp only [rn_bind, rn_ite, rn_pure]
def Cw2 (t1 : D → M (Option (List D))) (t2 : D → M (Option D)) (env : List Slot) (vs : List Nat) (ds acc o : List D) (P : List D → List D → Prop) : Prop := match compL2 t1 t2 env vs ds acc o with
  | some (a, o') => P a o'
  | none => False
variable {t1 : D → M (Option (List D))} {vs : List Nat}
theorem rn_lc2 {Q : Res → Sx → Prop} {it : M (List D)} {own : List Nat} : Rn (lcM2 it own vs t1 turn) S Q = Rn it S fun ds S' => Cw2 t1 turn (wipeE (S'.env.map Slot.frz) own) vs ds [] S'.objs fun acc o' =>
    if (D.imms acc && o'.all fun o => D.imms o.parts) = true then Q (.new (.lst acc)) ⟨S'.env, o'⟩ else Q (.new (.lst acc)) ⟨S'.env.map Slot.frz, o'⟩ := by
  refine (rn_bind (f := it)).trans ?_
  congr 1
  funext ds S'
  unfold Rn Cw2
  dsimp only
  cases compL2 t1 turn (wipeE (S'.env.map Slot.frz) own) vs ds [] S'.objs with
  | none => rfl
  | some p =>
    obtain ⟨a, o'⟩ := p
    unfold outL
    by_cases c : (D.imms a && o'.all fun o => D.imms o.parts) = true
    · simp [c]
    · simp [c]
theorem rn_turn1 {Q : Option (List D) → Sx → Prop} {tgt : D → M Unit} {t : M Bool} {it : M (List D)} : Rn (turn1M tgt t it d) S Q = Rn (tgt d) S fun _ S1 => Rn t S1 fun b S2 => if b = true then Rn it S2 fun ds S3 => Q (some ds) S3 else Q none S2 := by
  unfold turn1M
  simp only [rn_bind, rn_ite, rn_pure]
end
theorem rn_frz {Q : Res → Sx → Prop} {S : Sx} {ds : List D} : Rn (frzK (.new (.lst ds))) S Q = Q (.dat (.rol ds)) S := rfl
def tyAt (T : String) (o : List D) : Option Slot → Bool
  | some (.own d) => d.isT T
  | some (.dat (.obj n)) => match o[n]? with
    | some d => d.isT T
    | none => false
  | _ => false
def mkAt (op : D → D → Option (D × D)) (x : D) (i : Nat) (env : List Slot) (o : List D) (Q : Res → Sx → Prop) : Option Slot → Prop
  | some (.own d) => ∃ r d', op d x = some (r, d') ∧ Q (.dat r) ⟨env.set i (.own d'), o⟩
  | some (.dat (.obj n)) => ∃ d r d', o[n]? = some d ∧ op d x = some (r, d') ∧ Q (.dat r) ⟨env, o.set n d'⟩
  | _ => False
def stAt (k x : D) (i : Nat) (env : List Slot) (o : List D) (Q : Unit → Sx → Prop) : Option Slot → Prop
  | some (.own d) => ∃ d', d.store k x = some d' ∧ Q () ⟨env.set i (.own d'), o⟩
  | some (.dat (.obj n)) => ∃ d d', o[n]? = some d ∧ d.store k x = some d' ∧ Q () ⟨env, o.set n d'⟩
  | _ => False
section
variable {env : List Slot} {o : List D} {i : Nat} {d x : D} {ds es : List D} {P : D → D → Prop}
theorem isTM_eq {T : String} : isTM T i ⟨env, o⟩ = tyAt T o env[i]? := by
  unfold isTM whereM tyAt
  cases env[i]? with
  | none => rfl
  | some s =>
    cases s with
    | un => rfl
    | own d => rfl
    | dat d =>
      cases d <;> first | rfl | skip
      rename_i n
      dsimp only
      cases o[n]? <;> rfl
theorem rn_mk {Q : Res → Sx → Prop} {op : D → D → Option (D × D)} : Rn (methK i op x) ⟨env, o⟩ Q = mkAt op x i env o Q env[i]? := by
  rw [rn_meth]
  unfold whereM mkAt
  cases env[i]? with
  | none => exact propext ⟨fun ⟨_, _, _, _, e, _⟩ => (by cases e), fun h => h.elim⟩
  | some s =>
    cases s with
    | un => exact propext ⟨fun ⟨_, _, _, _, e, _⟩ => (by cases e), fun h => h.elim⟩
    | own d => exact propext ⟨fun ⟨_, _, r, d', e, h, q⟩ => by cases e; exact ⟨r, d', h, q⟩, fun ⟨r, d', h, q⟩ => ⟨.own, d, r, d', rfl, h, q⟩⟩
    | dat d =>
      cases d <;> first | exact propext ⟨fun ⟨_, _, _, _, e, _⟩ => (by cases e), fun h => h.elim⟩ | skip
      rename_i n
      dsimp only
      cases ho : o[n]? with
      | none => exact propext ⟨fun ⟨_, _, _, _, e, _⟩ => (by cases e), fun ⟨_, _, _, e, _⟩ => (by cases e)⟩
      | some d => exact propext ⟨fun ⟨_, _, r, d', e, h, q⟩ => by cases e; exact ⟨d, r, d', rfl, h, q⟩, fun ⟨_, r, d', e, h, q⟩ => by cases e; exact ⟨.obj n, d, r, d', rfl, h, q⟩⟩
theorem rn_st {Q : Unit → Sx → Prop} {k : D} : Rn (storeK i k x) ⟨env, o⟩ Q = stAt k x i env o Q env[i]? := by
  rw [rn_store]
  unfold whereM stAt
  cases env[i]? with
  | none => exact propext ⟨fun ⟨_, _, _, e, _⟩ => (by cases e), fun h => h.elim⟩
  | some s =>
    cases s with
    | un => exact propext ⟨fun ⟨_, _, _, e, _⟩ => (by cases e), fun h => h.elim⟩
    | own d => exact propext ⟨fun ⟨_, _, d', e, h, q⟩ => by cases e; exact ⟨d', h, q⟩, fun ⟨d', h, q⟩ => ⟨.own, d, d', rfl, h, q⟩⟩
    | dat d =>
      cases d <;> first | exact propext ⟨fun ⟨_, _, _, e, _⟩ => (by cases e), fun h => h.elim⟩ | skip
      rename_i n
      dsimp only
      cases ho : o[n]? with
      | none => exact propext ⟨fun ⟨_, _, _, e, _⟩ => (by cases e), fun ⟨_, _, e, _⟩ => (by cases e)⟩
      | some d => exact propext ⟨fun ⟨_, _, d', e, h, q⟩ => by cases e; exact ⟨d, d', rfl, h, q⟩, fun ⟨_, d', e, h, q⟩ => by cases e; exact ⟨.obj n, d, d', rfl, h, q⟩⟩
theorem rn_methM {Q : Res → Sx → Prop} {T : String} {f : M Res} {op : D → D → Option (D × D)} {S : Sx} : Rn (methM T i f op) S Q = (isTM T i S = true ∧ Rn f S fun r S1 => Rn (useM r) S1 fun x S2 => Rn (methK i op x) S2 Q) := by
  unfold methM
  rw [rn_guard, rn_bind]
  congr 1
  congr 1
  funext r S1
  rw [rn_bind]
theorem rn_methM0 {Q : Res → Sx → Prop} {T : String} {op : D → D → Option (D × D)} {S : Sx} : Rn (methM0 T i op) S Q = (isTM T i S = true ∧ Rn (methK i op .non) S Q) := by
  unfold methM0
  rw [rn_guard]
theorem mk_own {Q : Res → Sx → Prop} {op : D → D → Option (D × D)} : mkAt op x i env o Q (some (.own d)) = ∃ r d', op d x = some (r, d') ∧ Q (.dat r) ⟨env.set i (.own d'), o⟩ := rfl
theorem st_own {Q : Unit → Sx → Prop} {k : D} : stAt k x i env o Q (some (.own d)) = ∃ d', d.store k x = some d' ∧ Q () ⟨env.set i (.own d'), o⟩ := rfl
theorem ty_own : tyAt "list" o (some (.own (.lst ds))) = true := rfl
theorem ex_app : (∃ r d', opAppend (.lst ds) x = some (r, d') ∧ P r d') = (ds.length < sizeLine ∧ P .non (.lst (ds ++ [x]))) := by
  rw [show opAppend (.lst ds) x = if ds.length < sizeLine then some (D.non, D.lst (ds ++ [x])) else none from rfl]
  by_cases h : ds.length < sizeLine
  · exact propext ⟨fun ⟨_, _, e, q⟩ => by rw [if_pos h] at e; cases e; exact ⟨h, q⟩, fun ⟨_, q⟩ => ⟨_, _, if_pos h, q⟩⟩
  · exact propext ⟨fun ⟨_, _, e, q⟩ => (by rw [if_neg h] at e; cases e), fun ⟨h', _⟩ => absurd h' h⟩
theorem ex_ext : (∃ r d', opExtA (.lst ds) (.lst es) = some (r, d') ∧ P r d') = (ds.length + es.length ≤ sizeLine ∧ P .non (.lst (ds ++ es))) := by
  rw [show opExtA (.lst ds) (.lst es) = if ds.length + es.length ≤ sizeLine then some (D.non, D.lst (ds ++ es)) else none from rfl]
  by_cases h : ds.length + es.length ≤ sizeLine
  · exact propext ⟨fun ⟨_, _, e, q⟩ => by rw [if_pos h] at e; cases e; exact ⟨h, q⟩, fun ⟨_, q⟩ => ⟨_, _, if_pos h, q⟩⟩
  · exact propext ⟨fun ⟨_, _, e, q⟩ => (by rw [if_neg h] at e; cases e), fun ⟨h', _⟩ => absurd h' h⟩
theorem ex_extT : (∃ r d', opExtA (.lst ds) (.tup es) = some (r, d') ∧ P r d') = (ds.length + es.length ≤ sizeLine ∧ P .non (.lst (ds ++ es))) := by
  rw [show opExtA (.lst ds) (.tup es) = if ds.length + es.length ≤ sizeLine then some (D.non, D.lst (ds ++ es)) else none from rfl]
  by_cases h : ds.length + es.length ≤ sizeLine
  · exact propext ⟨fun ⟨_, _, e, q⟩ => by rw [if_pos h] at e; cases e; exact ⟨h, q⟩, fun ⟨_, q⟩ => ⟨_, _, if_pos h, q⟩⟩
  · exact propext ⟨fun ⟨_, _, e, q⟩ => (by rw [if_neg h] at e; cases e), fun ⟨h', _⟩ => absurd h' h⟩
theorem ex_rev : (∃ r d', opReverse (.lst ds) x = some (r, d') ∧ P r d') = P .non (.lst ds.reverse) := by
  unfold opReverse
  exact propext ⟨fun ⟨_, _, e, q⟩ => by cases e; exact q, fun q => ⟨_, _, rfl, q⟩⟩
theorem ex_pop : (∃ r d', opPop (.lst (ds ++ [d])) x = some (r, d') ∧ P r d') = P d (.lst ds) := by
  have e : opPop (.lst (ds ++ [d])) x = some (d, .lst ds) := by
    unfold opPop
    simp
  rw [e]
  exact propext ⟨fun ⟨_, _, e, q⟩ => by cases e; exact q, fun q => ⟨_, _, rfl, q⟩⟩
end
structure BOk (x : Bag) : Prop where
  ok : x.Ok
  len : x.cs.length ≤ 63
theorem imms_ints : ∀ ns : List Int, D.imms (ns.map .int) = true
  | [] => rfl
  | n :: r => by simp [D.imms, D.imm, imms_ints r]
theorem bag_imm (x : Bag) : D.imms (bagD x).parts = true := by
  show D.imms [.int x.a, .int x.b, .int x.c, .rol (x.cs.map .int)] = true
  simp [D.imms, D.imm, imms_ints]
theorem bag_all (x : Bag) : ([bagD x].all fun o => D.imms o.parts) = true := by simp [bag_imm]
theorem take_call {x : Bag} {u : Int} {Q : Res → List D → Prop} (hx : BOk x) (hu : 0 < u) (hu2 : u < 1073741824) (h : ∀ (k : Int) (x' : Bag), 0 ≤ k → k < u → BOk x' → Q (.dat (.int k)) [bagD x']) : Dr (runB 7 takeB) [.obj 0, .int u] [bagD x] Q :=
  (take_ok hx.ok hx.len hu hu2).mono fun r o ⟨k, x', e1, k0, k1, e2, hy, hc⟩ => by subst e1 e2; exact h k x' k0 k1 ⟨hy, by rw [hc]; exact hx.len⟩
theorem safe_b {α : Prop} {β : Prop} {x : Bag} {d : D} (hd : d.imm = true) : (if ((Res.dat d).safe && [bagD x].all fun o => D.imms o.parts) = true then α else β) = α := by
  rw [bag_all, show (Res.dat d).safe = true from hd]; rfl
theorem safe_bn {α : Prop} {β : Prop} {x : Bag} {ds : List D} (hd : D.imms ds = true) : (if ((Res.new (.lst ds)).safe && [bagD x].all fun o => D.imms o.parts) = true then α else β) = α := by
  rw [bag_all, show (Res.new (.lst ds)).safe = true from hd]; rfl
theorem take_rn {x : Bag} {u : Int} {Q : Res → Sx → Prop} {env : List Slot} {rs : List Res} (hx : BOk x) (hu : 0 < u) (hu2 : u < 1073741824) (h : ∀ (k : Int) (x' : Bag), 0 ≤ k → k < u → BOk x' → Q (.dat (.int k)) ⟨env, [bagD x']⟩) :
    Dr (runB 7 takeB) [.obj 0, .int u] [bagD x] fun r o' => if (r.safe && o'.all fun o => D.imms o.parts) = true then Q r ⟨env, o'⟩ else Q r (putAll rs ⟨env, o'⟩) :=
  take_call hx hu hu2 fun k x' k0 k1 hy => by rw [safe_b (by rfl)]; exact h k x' k0 k1 hy
end DL
end
section
set_option maxRecDepth 100000
namespace DL
open PySem L2
local macro_rules | `(tactic| simp! only) => `(tactic| simp -implicitDefEqProofs only [rn_bind, rn_pure, rn_no, rn_need, rn_opt1, rn_ite, rn_var, rn_put, rn_useD, rn_useN, rn_useO, rn_chkD, rn_chkN, rn_chkO, rn_call, rn_seq, rn_guard, rn_forIn, rn_for0, rn_setD, rn_setN, rn_setO, binM, binMO, unM, cmpT, testM, andT, orT, notT, ifM, asgM, retM, exprM, kM, consA, nilA, tupM, lstM, useAll, chkAll, slM, partM, DL.andM, DL.orM, DL.notM, negM, asgG, gN, gT, gsC, gsN, seqI, frzM, asgTM, dnewM, par2M, hold_d, hold_n, hold_o, d_d, d_n, d_o, out_d, out_n, out_o, fo_next, fo_ret, isBl_b, isInt_i, tr_i, tr_b, tr_n, tr_l, tr_t, it_l, it_r, it_t, li_l, li_r, op_add_i, op_add_l, op_add_t, op_sub_i, op_mul_i, op_mod_i, op_div_i, op_pow_i, op_lt_i, op_le_i, op_gt_i, op_ge_i, op_int_i, op_abs_i, op_len_l, op_len_t, op_len_r, op_tup_l, op_tup_t, op_lst_l, op_lst_t, op_max_i, op_eq_i, eq_go_go, eq_get_get, eq_go_get, eq_get_go, Bool.bne_false, Bool.bne_true, Bool.not_true, Bool.not_false, op_sl_l, op_sl_r, op_sl_t, op_ix_t0, op_ix_t1, op_ix_t2, op_ix_l0, List.getElem?_cons_zero, List.getElem?_cons_succ, List.set_cons_zero, List.set_cons_succ, List.map_cons, List.map_nil, List.length_cons, List.length_nil, List.cons_append, List.nil_append, if_true, if_false, Bool.false_eq_true, decide_eq_true_eq, and_true, true_and, ite_true, ite_false, reduceCtorEq])
local macro_rules | `(tactic| simp! only [$ls,*]) => `(tactic| simp -implicitDefEqProofs only [rn_bind, rn_pure, rn_no, rn_need, rn_opt1, rn_ite, rn_var, rn_put, rn_useD, rn_useN, rn_useO, rn_chkD, rn_chkN, rn_chkO, rn_call, rn_seq, rn_guard, rn_forIn, rn_for0, rn_setD, rn_setN, rn_setO, binM, binMO, unM, cmpT, testM, andT, orT, notT, ifM, asgM, retM, exprM, kM, consA, nilA, tupM, lstM, useAll, chkAll, slM, partM, DL.andM, DL.orM, DL.notM, negM, asgG, gN, gT, gsC, gsN, seqI, frzM, asgTM, dnewM, par2M, hold_d, hold_n, hold_o, d_d, d_n, d_o, out_d, out_n, out_o, fo_next, fo_ret, isBl_b, isInt_i, tr_i, tr_b, tr_n, tr_l, tr_t, it_l, it_r, it_t, li_l, li_r, op_add_i, op_add_l, op_add_t, op_sub_i, op_mul_i, op_mod_i, op_div_i, op_pow_i, op_lt_i, op_le_i, op_gt_i, op_ge_i, op_int_i, op_abs_i, op_len_l, op_len_t, op_len_r, op_tup_l, op_tup_t, op_lst_l, op_lst_t, op_max_i, op_eq_i, eq_go_go, eq_get_get, eq_go_get, eq_get_go, Bool.bne_false, Bool.bne_true, Bool.not_true, Bool.not_false, op_sl_l, op_sl_r, op_sl_t, op_ix_t0, op_ix_t1, op_ix_t2, op_ix_l0, List.getElem?_cons_zero, List.getElem?_cons_succ, List.set_cons_zero, List.set_cons_succ, List.map_cons, List.map_nil, List.length_cons, List.length_nil, List.cons_append, List.nil_append, if_true, if_false, Bool.false_eq_true, decide_eq_true_eq, and_true, true_and, ite_true, ite_false, reduceCtorEq, $ls,*])
mutual
def niceP : PyData → Prop
  | .none => True
  | .bool _ => True
  | .int i => i.natAbs < 10 ^ 12
  | .str x => PyData.strOk x = true ∧ PyData.strOk (reprText x) = true
  | .list xs => nicesP xs
  | .tuple xs => nicesP xs
  | .dict _ => False
def nicesP : List PyData → Prop
  | [] => True
  | x :: r => niceP x ∧ nicesP r
end
mutual
theorem nice_lay : ∀ p : PyData, niceP p → p.canLay0 = true
  | .none, _ => by simp [PyData.canLay0]
  | .bool _, _ => by simp [PyData.canLay0]
  | .int i, _ => by simp [PyData.canLay0]
  | .str x, h => by simp [PyData.canLay0]; exact (by simpa [niceP] using h : _ ∧ _).1
  | .list xs, h => by simp [PyData.canLay0]; exact nices_lay xs (by simpa [niceP] using h)
  | .tuple xs, h => by simp [PyData.canLay0]; exact nices_lay xs (by simpa [niceP] using h)
  | .dict _, h => by simp [niceP] at h
theorem nices_lay : ∀ ps : List PyData, nicesP ps → PyData.canLayAll0 ps = true
  | [], _ => by simp [PyData.canLayAll0]
  | p :: r, h => by
    simp only [nicesP] at h
    simp [PyData.canLayAll0, nice_lay p h.1, nices_lay r h.2]
end
theorem log_small {i : Int} (h : i.natAbs < 10 ^ 12) : i.natAbs.log2 < 1920 := by
  by_cases h0 : i.natAbs = 0
  · rw [h0]; decide
  · have : i.natAbs.log2 < 40 := (Nat.log2_lt h0).mpr (Nat.lt_trans h (by decide))
    omega
mutual
theorem nice_show : ∀ p : PyData, niceP p → p.showable = true
  | .none, _ => by simp [PyData.showable]
  | .bool _, _ => by simp [PyData.showable]
  | .int i, h => by simp only [niceP] at h; simp only [PyData.showable, decide_eq_true_eq]; exact log_small h
  | .str x, _ => by simp [PyData.showable]
  | .list xs, h => by simp only [PyData.showable]; exact nices_show xs (by simpa [niceP] using h)
  | .tuple xs, h => by simp only [PyData.showable]; exact nices_show xs (by simpa [niceP] using h)
  | .dict _, h => by simp [niceP] at h
theorem nices_show : ∀ ps : List PyData, nicesP ps → PyData.showableAll ps = true
  | [], _ => by simp [PyData.showableAll]
  | p :: r, h => by
    simp only [nicesP] at h
    simp [PyData.showableAll, nice_show p h.1, nices_show r h.2]
end
mutual
theorem nice_short : ∀ p : PyData, niceP p → PyData.intsShort 13 p = true
  | .none, _ => by simp [PyData.intsShort]
  | .bool _, _ => by simp [PyData.intsShort]
  | .int i, h => by simp only [niceP] at h; simp only [PyData.intsShort, decide_eq_true_eq]; exact PyData.shown_int_le h
  | .str x, _ => by simp [PyData.intsShort]
  | .list xs, h => by simp only [PyData.intsShort]; exact nices_short xs (by simpa [niceP] using h)
  | .tuple xs, h => by simp only [PyData.intsShort]; exact nices_short xs (by simpa [niceP] using h)
  | .dict _, h => by simp [niceP] at h
theorem nices_short : ∀ ps : List PyData, nicesP ps → PyData.intsShortAll 13 ps = true
  | [], _ => by simp [PyData.intsShortAll]
  | p :: r, h => by
    simp only [nicesP] at h
    simp [PyData.intsShortAll, nice_short p h.1, nices_short r h.2]
end
def okC (x : Str) : Prop := ∀ c ∈ x.cps.toList, c < 0x110000
theorem okC_of {x : Str} (h : okC x) : PyData.strOk x = true := by
  unfold PyData.strOk
  rw [Array.all_eq_true']
  intro c hc
  exact decide_eq_true (h c (by simpa using hc))
theorem of_okC {x : Str} (h : PyData.strOk x = true) : okC x := by
  unfold PyData.strOk at h
  rw [Array.all_eq_true'] at h
  intro c hc
  exact of_decide_eq_true (h c (by simpa using hc))
theorem okC_app {x y : Str} (hx : okC x) (hy : okC y) : okC (x ++ y) := fun c hc => by
  rcases PyProof.Rows.mem_cps_append.mp hc with h | h
  · exact hx c h
  · exact hy c h
theorem okC_join {ts : List Str} (h : ∀ t ∈ ts, okC t) : okC (Str.join ", " ts) := fun c hc => by
  rcases (PyProof.Rows.mem_join ", " c ts).mp hc with ⟨t, ht, hc⟩ | ⟨_, hc⟩
  · exact h t ht c hc
  · rw [PyProof.Rows.signs_sep] at hc
    simp at hc
    omega
mutual
theorem nice_ok : ∀ p : PyData, niceP p → okC p.shown
  | .none, _ => of_okC (by decide +kernel)
  | .bool b, _ => by cases b <;> exact of_okC (by decide +kernel)
  | .int i, _ => fun c hc => by
    rcases Nat.lt_or_ge c 0x110000 with h | h
    · exact h
    · exact absurd hc (PyProof.Rows.shown_int_free' (k := c) ⟨by omega, by omega⟩ i)
  | .str x, h => by simp only [niceP] at h; rw [PyData.shown]; exact of_okC h.2
  | .list xs, h => by
    simp only [niceP] at h
    rw [PyData.shown_list]
    exact okC_app (okC_app (of_okC (by decide +kernel)) (okC_join (nices_ok xs h))) (of_okC (by decide +kernel))
  | .tuple xs, h => by
    simp only [niceP] at h
    rw [PyData.shown_tuple]
    refine okC_app (okC_app (of_okC (by decide +kernel)) (okC_join (nices_ok xs h))) ?_
    split <;> exact of_okC (by decide +kernel)
  | .dict _, h => by simp [niceP] at h
theorem nices_ok : ∀ ps : List PyData, nicesP ps → ∀ t ∈ PyData.shownAll ps, okC t
  | [], _, t, ht => by simp [PyData.shownAll] at ht
  | p :: r, h, t, ht => by
    simp only [nicesP] at h
    simp only [PyData.shownAll, List.mem_cons] at ht
    rcases ht with rfl | ht
    · exact nice_ok p h.1
    · exact nices_ok r h.2 t ht
end
def Nc (d : D) (b w : Nat) : Prop := ∃ p, d.py = some p ∧ niceP p ∧ p.depth ≤ b ∧ p.weight ≤ w
def Ncs (ds : List D) (b w : Nat) : Prop := ∃ ps, D.pys ds = some ps ∧ nicesP ps ∧ PyData.depthAll ps ≤ b ∧ PyData.weightAll ps ≤ w
section
variable {d e : D} {ds es : List D} {b w b' w' : Nat}
theorem Nc.mono (h : Nc d b w) (hb : b ≤ b') (hw : w ≤ w') : Nc d b' w' := let ⟨p, h1, h2, h3, h4⟩ := h; ⟨p, h1, h2, by omega, by omega⟩
theorem Ncs.mono (h : Ncs ds b w) (hb : b ≤ b') (hw : w ≤ w') : Ncs ds b' w' := let ⟨p, h1, h2, h3, h4⟩ := h; ⟨p, h1, h2, by omega, by omega⟩
theorem ncs_nil : Ncs [] b w := ⟨[], by simp [D.pys], trivial, by simp [PyData.depthAll], by simp [PyData.weightAll]⟩
theorem ncs_cons (h : Nc d b w) (r : Ncs ds b w') : Ncs (d :: ds) b (w + 1 + w') := by
  obtain ⟨p, h1, h2, h3, h4⟩ := h
  obtain ⟨ps, r1, r2, r3, r4⟩ := r
  exact ⟨p :: ps, by simp [D.pys, h1, r1], ⟨h2, r2⟩, by simp only [PyData.depthAll]; omega, by simp only [PyData.weightAll]; omega⟩
theorem ncs_all : ∀ {ds : List D}, (∀ d ∈ ds, Nc d b w) → Ncs ds b (ds.length * (w + 1))
  | [], _ => ncs_nil
  | d :: r, h => by
    have := ncs_cons (h d List.mem_cons_self) (ncs_all fun e he => h e (List.mem_cons_of_mem _ he))
    refine this.mono (Nat.le_refl _) ?_
    rw [List.length_cons, Nat.add_mul]; omega
theorem nc_tup (h : Ncs ds b w) : Nc (.tup ds) (b + 1) w := by
  obtain ⟨ps, h1, h2, h3, h4⟩ := h
  exact ⟨.tuple ps, by simp [D.py, h1], by simpa [niceP] using h2, by simp only [PyData.depth]; omega, by simpa only [PyData.weight] using h4⟩
theorem nc_lst (h : Ncs ds b w) : Nc (.lst ds) (b + 1) w := by
  obtain ⟨ps, h1, h2, h3, h4⟩ := h
  exact ⟨.list ps, by simp [D.py, h1], by simpa [niceP] using h2, by simp only [PyData.depth]; omega, by simpa only [PyData.weight] using h4⟩
theorem nc_int {i : Int} (h : i.natAbs < 2 ^ 20) : Nc (.int i) b 20 := by
  refine ⟨.int i, by simp [D.py], ?_, by simp [PyData.depth], ?_⟩
  · simp only [niceP]; exact Nat.lt_trans h (by decide)
  · simp only [PyData.weight]
    split
    · omega
    · rename_i h0
      have : i.natAbs ≠ 0 := by simpa using h0
      have := (Nat.log2_lt this).mpr h
      omega
theorem nc_bl {c : Bool} : Nc (.bl c) b w := ⟨.bool c, by simp [D.py], trivial, by simp [PyData.depth], by simp [PyData.weight]⟩
theorem nc_str {x : Str} (h1 : PyData.strOk x = true) (h2 : PyData.strOk (reprText x) = true) (h3 : x.cps.size ≤ w) : Nc (.str x) b w := ⟨.str x, by simp [D.py], ⟨h1, h2⟩, by simp [PyData.depth], by simpa [PyData.weight] using h3⟩
theorem nc_go : Nc (.str "go") b 10 := nc_str (by decide +kernel) (by decide +kernel) (by decide +kernel)
theorem nc_get : Nc (.str "get") b 10 := nc_str (by decide +kernel) (by decide +kernel) (by decide +kernel)
theorem Nc.refl (h : Nc d b w) (hb : b ≤ 64) {Q : Res → Sx → Prop} {S : Sx} {neg : Bool} : Rn (opEq neg d d) S Q = Q (.dat (.bl (true != neg))) S := by
  obtain ⟨p, h1, h2, h3, h4⟩ := h
  have e : D.eqv d d = some true := by
    unfold D.eqv
    rw [h1]
    have l := nice_lay p h2
    simp [SeqAt.shaped, l, show p.depth ≤ 64 by omega, SeqAt.eqv_refl p l]
  unfold opEq
  rw [e]; rfl
theorem Nc.repr (h : Nc d b w) (hb : b ≤ 64) (hw : w ≤ 1048576) : ∃ x : Str, PyData.strOk x = true ∧ ∀ {Q : Res → Sx → Prop} {S : Sx}, Rn (opRepr d) S Q = Q (.dat (.str x)) S := by
  obtain ⟨p, h1, h2, h3, h4⟩ := h
  refine ⟨p.shown, okC_of (nice_ok p h2), fun {Q S} => ?_⟩
  have e : d.shown = some p.shown := by
    unfold D.shown
    rw [h1]
    have l := nice_lay p h2
    have sh := PyData.shown_fits (B := 13) (by decide) (by decide) (PyData.leavesShort_of_canLay0 13 p l (nice_short p h2)) (by omega : p.weight ≤ 2 ^ 20)
    simp [nice_show p h2, show p.depth ≤ 64 by omega, sh]
  unfold opRepr
  rw [e]; rfl
theorem eq_str_self {x : Str} (hx : PyData.strOk x = true) {Q : Res → Sx → Prop} {S : Sx} {neg : Bool} : Rn (opEq neg (.str x) (.str x)) S Q = Q (.dat (.bl (true != neg))) S := by
  rw [op_eq_s hx hx]; simp
theorem cw_of {α : Type} {turn : D → M (Option D)} {env : List Slot} {o : List D} {P : List D → List D → Prop} {f : α → D} {g : α → Option D} : ∀ {xs : List α} {acc : List D}, acc.length + xs.length ≤ sizeLine → (∀ x ∈ xs, Rn (turn (f x)) ⟨env, o⟩ fun r S' => r = g x ∧ S'.objs = o) → P (acc ++ xs.filterMap g) o → Cw turn env (xs.map f) acc o P
  | [], acc, _, _, q => by
    rw [List.map_nil, cw_nil]
    simpa using q
  | x :: xs, acc, hl, h, q => by
    rw [List.map_cons, cw_cons]
    have hl' : acc.length + (xs.length + 1) ≤ sizeLine := by simpa using hl
    refine (h x List.mem_cons_self).mono ?_
    rintro r S' ⟨rfl, e⟩
    cases hg : g x with
    | none =>
      simp only
      rw [e]
      exact cw_of (by omega) (fun c hc => h c (List.mem_cons_of_mem _ hc)) (by simpa [List.filterMap_cons, hg] using q)
    | some v =>
      simp only
      rw [e]
      refine ⟨by omega, cw_of (by simp; omega) (fun c hc => h c (List.mem_cons_of_mem _ hc)) ?_⟩
      simpa [List.filterMap_cons, hg] using q
theorem cw_ofM {α : Type} {turn : D → M (Option D)} {env : List Slot} {o : List D} {P : List D → List D → Prop} {f g : α → D} {xs : List α} (hl : xs.length ≤ sizeLine) (h : ∀ x ∈ xs, Rn (turn (f x)) ⟨env, o⟩ fun r S' => r = some (g x) ∧ S'.objs = o) (q : P (xs.map g) o) : Cw turn env (xs.map f) [] o P :=
  cw_of (g := fun x => some (g x)) (by simpa using hl) h (by simpa using q)
theorem cw_ofF {α : Type} {turn : D → M (Option D)} {env : List Slot} {o : List D} {P : List D → List D → Prop} {f g : α → D} {c : α → Bool} {xs : List α} (hl : xs.length ≤ sizeLine) (h : ∀ x ∈ xs, Rn (turn (f x)) ⟨env, o⟩ fun r S' => r = (if c x = true then some (g x) else none) ∧ S'.objs = o) (q : P ((xs.filter c).map g) o) : Cw turn env (xs.map f) [] o P := by
  refine cw_of (g := fun x => if c x = true then some (g x) else none) (by simpa using hl) h ?_
  have : ∀ ys : List α, ys.filterMap (fun x => if c x = true then some (g x) else none) = (ys.filter c).map g := by
    intro ys
    induction ys with
    | nil => rfl
    | cons y r ih => by_cases hy : c y = true <;> simp [List.filterMap_cons, List.filter_cons, hy, ih]
  rw [List.nil_append, this]
  exact q
theorem for_of {α : Type} {Q : Fl → Sx → Prop} {tgt : D → M Unit} {b : M Fl} {f : α → D} {I : List α → List α → Sx → Prop} {all : List α} : ∀ {a r : List α} {S : Sx}, all = a ++ r → I a r S →
    (∀ a x r S, all = a ++ x :: r → I a (x :: r) S → Rn (tgt (f x)) S fun _ S1 => Rn b S1 fun fl S2 => match fl with
      | .next => I (a ++ [x]) r S2
      | .cont => I (a ++ [x]) r S2
      | .brk => Q .next S2
      | .ret v => Q (.ret v) S2) → (∀ S, I all [] S → Q .next S) → Rn (forM tgt b (r.map f)) S Q
  | a, [], S, e, i, _, q => by
    rw [List.append_nil] at e
    subst e
    exact q S i
  | a, x :: r, S, e, i, h, q => by
    rw [List.map_cons, rn_for1]
    refine (h a x r S e i).mono fun _ S1 h1 => h1.mono fun fl S2 h2 => ?_
    cases fl with
    | next => exact for_of (a := a ++ [x]) (by simp [e]) h2 h q
    | cont => exact for_of (a := a ++ [x]) (by simp [e]) h2 h q
    | brk => exact h2
    | ret r => exact h2
end
end DL
end
section
set_option maxRecDepth 100000
set_option maxHeartbeats 2000000
namespace PySem
namespace LowX
open PySem.W PySem.Calls PyProof.Rows PySem.HandSPX
def iA (fn : Str) (p1 p2 : Pos) : Arguments := { posonlyargs := [], args := [{ arg := "self", annotation := none, pos := p1 }, { arg := fn, annotation := none, pos := p2 }], vararg := none, kwonlyargs := [], kw_defaults := [], kwarg := none, defaults := [] }
def iB (fn : Str) (q1 q2 q3 q4 : Pos) : List Stmt := [.Assign [.Attribute (.Name "self" q1) fn q2] (.Name fn q3) q4]
def iS (fn : Str) : Scope := { kind := .function, names := [(PySem.Str.ofString "self", .local), (fn, .local)], isGenerator := false, isCoroutine := false, more := [] }
structure FldOk (fn : Str) : Prop where
  b1 : ∀ (qn : Str) (x v doc pm cdv ct : Value) (an : Option Addr) (p1 p2 q1 q2 q3 q4 : Pos), bindArgs (fnOf "__init__" qn (iA fn p1 p2) (iB fn q1 q2 q3 q4) (iS fn) .none .none doc pm an cdv ct) ⟨[x, v], []⟩ = pure [(("self" : Str), x), (fn, v)]
  b2 : ∀ x v : Value, ([(("self" : Str), x), (fn, v)].all fun y => List.lookup y.1 (iS fn).names == some NameKind.local || List.lookup y.1 (iS fn).names == some NameKind.cell) = true
  b3 : ∀ (qn : Str) (L fI : Addr) (cdv : Value), (envOfC qn (iS fn) L fI cdv).kindOf fn = some .local
  b4 : (fn == ("__debug__" : Str)) = false
  b5 : ∀ (qn : Str) (L fI : Addr) (cdv x v : Value), bindL (envOfC qn (iS fn) L fI cdv).kindOf [(("self" : Str), x), (fn, v)] (fun _ => none) fn = some v
  b6 : ∀ (qn : Str) (L fI : Addr) (cdv x v : Value), bindL (envOfC qn (iS fn) L fI cdv).kindOf [(("self" : Str), x), (fn, v)] (fun _ => none) "self" = some x
structure LowTxt (cn qn fn : Str) (K : Frag) (mg : Str → Option Value) (C fI : Addr) : Prop where
  gC : mg cn = some (.ref C)
  cls : ∃ nm q N bs bm sn sub ab col dd k0 k1 k2 k3 k5, K.lookup C = some (excClassObj nm q C N bs bm true sn sub ab col dd k0 k1 k2 k3 k5 "ValueError.__new__") ∧ refsVE bm = true
  sa : findIn K (.ref C) "__setattr__" = some (some (.builtin "object.__setattr__"))
  ga : findIn K (.ref C) "__getattribute__" = some (some (.builtin "BaseException.__getattribute__"))
  gg : findIn K (.ref C) "__getattr__" = some none
  noN : findIn K (.ref C) fn = some none
  iC : findIn K (.ref C) "__init__" = some (some (.ref fI))
  tC : typeIn K (.ref fI) = some (.type "function")
  kC : keepIn K (.ref C) = true
  exC : subIn K (.ref C) (.type "BaseException") = some true
  tyC : typeIn K (.ref C) = some (.type "type")
  hdC : hasDictIn K C = true
  te : exmOne K (.ref C) (.ref C) = some true
  fn : ∃ (oc : Value) (od : Option Addr) (doc pm : Value) (an : Option Addr) (cdv ct : Value) (osl : Array (Option Value)) (p1 p2 q1 q2 q3 q4 : Pos),
    K.lookup fI = some ⟨oc, od, .func (fnOf "__init__" qn (iA fn p1 p2) (iB fn q1 q2 q3 q4) (iS fn) .none .none doc pm an cdv ct), osl⟩ ∧ codeIn K cdv qn = true
theorem one_size (v : Value) : [v].length ≤ sizeLine := by
  rw [sizeLine_eq]
  exact (by decide : 1 ≤ 16777216)
theorem ldC {M : Model} {s : Shared} {name : Str} {scope : Scope} {L a : Addr} {cd : Value} {m : Str → Option Value} {x : Str} {pos : Pos} {v : Value} {Q : Value → Shared → Prop} {A : Around} {E : Value → Shared → Prop} (hn : s.heap.Ns L m) (hv : m x = some v) (h : Q v s)
    (hk : scope.kind = .function := by rfl) (hl : (envOfC name scope L a cd).kindOf x = some .local := by rfl) (hd : (x == ("__debug__" : Str)) = false := by decide) :
    wpAny M A (eval (.Name x pos) (envOfC name scope L a cd)) Q E s := wpAny_Name (wpAny_loadName_local hk hl hn hv h) hd
structure InitEnd (fn : Str) (h h' : Heap) (x C dx t1 : Addr) (v : Value) : Prop where
  keep : ∀ b o, b ≠ x → h.get? b = some o → h'.get? b = some o
  obj : h'.get? x = some { cls := .ref C, dict := some dx, data := .fields #[.ref t1, .none, .none, .none, .bool false, .none] }
  dbig : h.objs.size ≤ dx
  dne : dx ≠ x
  ns : h'.Ns1 dx (fun y => if y = fn then some v else none)
structure OwnMade (fn : Str) (h h' : Heap) (e C d : Addr) (v : Value) : Prop where
  keep : ∀ b o, h.get? b = some o → h'.get? b = some o
  new : h.objs.size ≤ e
  obj : ∃ oe vs, h'.get? e = some oe ∧ oe.cls = .ref C ∧ oe.dict = some d ∧ oe.data = .fields vs ∧ vs[1]? = some .none
  dbig : h.objs.size ≤ d
  dne : d ≠ e
  ns : h'.Ns1 d (fun y => if y = fn then some v else none)
section
variable {cn qn fn : Str} {prog : Program} {w : World} {A : Around} {E : Value → Shared → Prop} {R : Result → Shared → Prop} {s : Shared} {K : Frag} {mg : Str → Option Value} {C fI : Addr}
theorem low_init (fo : FldOk fn) (T : LowTxt cn qn fn K mg C fI) {x t0 : Addr} {v : Value} (X : K.In s.heap) (hlim : s.heap.NoLimit) (hx : s.heap.get? x = some (excO C t0)) (hnx : K.lookup x = none) (hroom : A.depth < recursionLimit)
    (hq : ∀ h' tk dx, InitEnd fn s.heap h' x C dx t0 v → R (.ok (.ret .none)) { s with heap := h', toks := tk }) :
    codeAny (model prog w) A (.call (.ref fI) ⟨[.ref x, v], []⟩) R s := by
  obtain ⟨oc, od, doc, pm, an, cdv, ct, osl, p1, p2, q1, q2, q3, q4, ho, hcd⟩ := T.fn
  obtain ⟨nm, q, N, bs, bm, sn, sub, ab, col, dd, k0, k1, k2, k3, k5, hC, hbm⟩ := T.cls
  have hcl : clsIn K C = some { name := nm, bases := bs, mro := .ref C :: bm, ns := N, qualname := q, hasDict := true, slotNames := sn, subclasses := sub, abstract := ab, collection := col, hasDel := false } := by unfold clsIn; rw [hC] <;> rfl
  refine Att.call_fn (binds := [("self", .ref x), (fn, v)]) X hlim ho hcd hroom (BindsTo.of_eq (fo.b1 _ _ _ _ _ _ _ _ _ _ _ _ _ _)) (fo.b2 _ _) (fun s₁ IC => ?_) rfl rfl rfl
  obtain ⟨h₁, tk₁, rfl⟩ := IC.toInCall.same
  have k : ∀ b o, s.heap.get? b = some o → h₁.get? b = some o := IC.toInCall.keep
  have hn := IC.toInCall.ns
  have hxL : s.heap.objs.size ≠ x := Nat.ne_of_gt (Heap.lt_size hx)
  have X₁ : K.In h₁ := X.keeps k
  have hx₁ := k _ _ hx
  -- self.by = by
  show wpAny _ _ (execs _ _) _ _ _
  refine wpAny_execs_cons (plainObj_wpAny_Assign_Attribute ?_)
  refine ldC (v := v) hn (fo.b5 _ _ _ _ _ _) (hl := fo.b3 _ _ _ _) (hd := fo.b4) (ldC (v := .ref x) hn (fo.b6 _ _ _ _ _ _) ?_)
  refine set_plain X₁ (ox := excO C t0) (od := none) ⟨hx₁, rfl, rfl, trivial⟩ T.sa ?_
  refine exc_osa X₁ hx₁ hcl (show refsVE (.ref C :: bm) = true from hbm) rfl T.noN (fun h₃ tk₃ dx k₃ dn dne hx₃ hn₃ => ?_)
  show wpAny _ _ (execs _ _) _ _ _
  have z : s.heap.objs.size < h₁.objs.size := hn.lt
  exact wpAny_execs_nil (hq h₃ tk₃ dx ⟨fun b o hb e => k₃ b o hb (k b o e), hx₃, Nat.le_of_lt (Nat.lt_of_lt_of_le z dn), dne, hn₃⟩)
theorem low_made (fo : FldOk fn) (T : LowTxt cn qn fn K mg C fI) {v : Value} (X : K.In s.heap) (hlim : s.heap.NoLimit) (hroom : A.depth + 1 < recursionLimit)
    (hq : ∀ h' tk e d, OwnMade fn s.heap h' e C d v → R (.ok (.ret (.ref e))) { s with heap := h', toks := tk }) :
    codeAny (model prog w) A (.call (.ref C) ⟨[v], []⟩) R s := by
  obtain ⟨nm, q, N, bs, bm, sn, sub, ab, col, dd, k0, k1, k2, k3, k5, hC, hbm⟩ := T.cls
  obtain ⟨hp, g, dr, tk, os⟩ := s
  have k : ∀ b o, hp.get? b = some o → ((hp.push (kdv_tup [v])).push (excO C hp.objs.size)).get? b = some o := fun b o e => Heap.get?_push_of_some _ (Heap.get?_push_of_some _ e)
  have hget : ((hp.push (kdv_tup [v])).push (excO C hp.objs.size)).get? (hp.objs.size + 1) = some (excO C hp.objs.size) := by heap_get
  have hnx : K.lookup (hp.objs.size + 1) = none := by
    cases e : K.lookup (hp.objs.size + 1) with
    | none => rfl
    | some o =>
      have z : hp.get? (hp.objs.size + 1) = some o := X _ _ e
      exact absurd (Nat.lt_of_succ_lt (Heap.lt_size z)) (Nat.lt_irrefl _)
  refine call_own F.excBase_ValueError (fun X => refsVE_contains X bm hbm) (X _ _ hC) (looks_findIn X T.iC) (fun self => bind_fn X self T.tC) (one_size v) ?_
  refine low_init fo (s := ⟨(hp.push (kdv_tup [v])).push (excO C hp.objs.size), g, dr, tk, os⟩) T (X.keeps k) (hlim.keeps k) hget hnx ?_ fun h' tk' dx ⟨k', hx, dn, dne, hns⟩ => ?_
  · show A.depth + 1 < recursionLimit
    exact hroom
  · have old : ∀ b o, hp.get? b = some o → h'.get? b = some o := fun b o e => k' b o (Nat.ne_of_lt (Nat.lt_succ_of_lt (Heap.lt_size e))) (k b o e)
    have z : hp.objs.size + 1 + 1 ≤ dx := by
      first
        | (simpa only [Heap.size_push] using dn)
        | exact dn
        | (have q := dn; rw [Heap.size_push, Heap.size_push] at q; exact q)
    exact ⟨rfl, hq h' tk' (hp.objs.size + 1) dx ⟨old, Nat.le_succ _, ⟨_, _, hx, rfl, rfl, rfl, rfl⟩, Nat.le_trans (Nat.le_trans (Nat.le_succ _) (Nat.le_succ _)) z, dne, hns⟩⟩
end
end LowX
end PySem
namespace L2
open PySem PySem.Spec PyProof.Rows
theorem relO_low {fn : Str} {v : V} {v' : Value} (r : RelV v v') (f : Str) : RelO (List.lookup f [(fn, v)]) (if f = fn then some v' else none) := by
  by_cases hw : f = fn
  · rw [if_pos hw, hw]
    have q : List.lookup fn [(fn, v)] = some v := by simp [List.lookup]
    rw [q]
    exact r
  · rw [if_neg hw]
    have qw : (f == fn) = false := by simpa using hw
    have q2 : List.lookup f [(fn, v)] = none := by simp [List.lookup, qw]
    rw [q2]
    trivial
section
variable {cn qn fn : Str} {X : Cx} {C fI : Addr}
def tMkLow (fn : Str) (C : Addr) (ta : TA) : St → Hp → XK → Prop := fun σ H Q => ta σ H fun vs H1 => ∃ v, vs = [v] ∧ ∀ d, H1 d = none → Q (.ref C) (some d) (upd H1 d (.xd [(fn, v)]))
theorem pmk_low (fo : PySem.LowX.FldOk fn) (hdb : (cn == ("__debug__" : Str)) = false) {a : Expr} {ta : TA} {p pos : Pos} {k : Nat} (T : PySem.LowX.LowTxt cn qn fn X.K X.mg C fI) (hr : Room k X.A) (ha : PA X [a] ta) (hg : Gl X cn := by rfl)
    (he : starEach (a :: []) X.env = (false, eval a X.env) :: starEach [] X.env := by rfl) (hpl : (backTo pos (starEach [] X.env)).any (·.1) = false := by rfl) :
    PMk X (.Call (.Name cn p) [a] [] pos) (tMkLow fn C ta) := by
  intro pins s σ H Q I h
  refine wpAny_Call_Name_kw (ld_glob I hg T.gC ?_ hdb)
  refine PySem.W.callWith_K (h₀ := X.base) I.ok.mod.kin T.kC (thn (ha.run pos pins s σ H _ I h) fun us s1 hh => ?_) he hpl
  obtain ⟨vs, H1, I1, r1, v, ev, q1⟩ := hh
  subst ev
  refine ⟨I1.kIn, ?_⟩
  cases r1 with
  | cons rv rn =>
    rename_i v' us'
    cases rn
    show wpAny _ _ (call (.ref C) [v']) _ _ _
    have hlim := I1.nolimit
    obtain ⟨hp, g, dr, tk, os⟩ := s1
    refine wpAny_call (PySem.LowX.low_made fo T I1.kIn hlim (by have := hr.dp; omega) fun h' tk' e d M => ?_)
    show MkP X pins σ Q (.ref e) ⟨h', g, dr, tk', os⟩
    obtain ⟨oe, fv, hoe, hc, hd, hdat, h1⟩ := M.obj
    have hns := M.ns
    obtain ⟨G', g1, g2⟩ := restrict h' fun b => decide (b ≠ e)
    have gk : ∀ b, b ≠ e → G'.get? b = h'.get? b := fun b hb => g1 b (decide_eq_true hb)
    have ge : G'.get? e = none := g2 e (by simp)
    have old : ∀ b o, hp.get? b = some o → G'.get? b = some o := fun b o q => (gk b (Nat.ne_of_lt (Nat.lt_of_lt_of_le (Heap.lt_size q) M.new))).trans (M.keep b o q)
    have ob : ObjOk X.prog X.w (upd H1 d (.xd [(fn, v)])) G' d (.xd [(fn, v)]) :=
      ⟨_, hns.at (fun o q => (gk d M.dne).trans q), fun f => relO_low rv f⟩
    have J : Inv X pins σ (upd H1 d (.xd [(fn, v)])) ⟨G', g, dr, tk', os⟩ := I1.laid (t' := tk') old M.dbig ob
    refine ⟨e, oe, fv, ⟨G', g, dr, tk', os⟩, _, .ref C, some d, rfl, J, fun b o q => ?_, ge, hoe, ⟨hc, hd⟩, hdat, h1, ?_, rfl, I1.bare, raises_own T.exC T.tyC, q1 d (I1.hok.fresh M.dbig)⟩
    · by_cases hb : b = e
      · have q' : G'.get? b = some o := q
        rw [hb, ge] at q'; cases q'
      · exact (gk b hb).symm.trans q
    · rw [upd_ne (Ne.symm M.dne)]
      exact I1.hok.fresh M.new
def tRaiseLow (fn : Str) (C : Addr) (W : WX) (ta : TA) : TS := fun _ σ H => tMkLow fn C ta σ H fun cls d H' => W cls d σ H'
theorem ps_raiseLow (fo : PySem.LowX.FldOk fn) (hdb : (cn == ("__debug__" : Str)) = false) {a : Expr} {ta : TA} {W : WX} {p pos pos2 : Pos} {k : Nat} (hc : X.calm = true) (T : PySem.LowX.LowTxt cn qn fn X.K X.mg C fI) (hr : Room k X.A) (tk : Takes X W) (ha : PA X [a] ta) (hg : Gl X cn := by rfl)
    (he : starEach (a :: []) X.env = (false, eval a X.env) :: starEach [] X.env := by rfl) (hpl : (backTo pos (starEach [] X.env)).any (·.1) = false := by rfl) :
    PS X (.Raise (some (.Call (.Name cn p) [a] [] pos)) none pos2) (tRaiseLow fn C W ta) := ps_raise hc tk (pmk_low fo hdb T hr ha hg he hpl)
def tByLow (fn : Str) (C : Addr) (a : Addr) (cls : Value) (d : Option Addr) (te : TE) : TE := fun σ H Q => te σ H fun x H1 => x = .ref a ∧ cls = .ref C ∧ ∃ (dd : Addr) (v : V), d = some dd ∧ H1 dd = some (.xd [(fn, v)]) ∧ Q v H1
theorem pe_byLow {a : Addr} {oe : Obj} {cls : Value} {d : Option Addr} {pn : List (Addr × Obj)} {e : Expr} {te : TE} {pos : Pos} (T : PySem.LowX.LowTxt cn qn fn X.K X.mg C fI) (hz : Zc cls d oe) (hf : ∃ vs, oe.data = .fields vs) (he : PE (X.suite a ((a, oe) :: pn)) e te)
    (hb : attributeBase e fn X.env (eval e X.env) = eval e X.env := by rfl) :
    PE (X.suite a ((a, oe) :: pn)) (.Attribute e fn pos) (tByLow fn C a cls d te) := by
  refine ⟨fun pins s σ H Q I h => ?_⟩
  refine attr_of hb (thn (he.run pins s σ H _ I h) fun u s1 hh => ?_)
  obtain ⟨x, H1, I1, rx, ex, ec, dd, v, ed, ea, q⟩ := hh
  subst ex
  obtain rfl : u = Value.ref a := rx
  subst ec
  subst ed
  obtain ⟨ha, _⟩ := I1.pin (a, oe) (List.mem_append_left _ List.mem_cons_self)
  obtain ⟨vs, hd⟩ := hf
  have hx : ObjOk X.prog X.w H1 s1.heap dd (.xd [(fn, v)]) := I1.hok dd _ ea
  obtain ⟨mA, hns, hr⟩ := hx
  obtain ⟨od, ho, hl⟩ := lookIn_ns hns
  have l : List.lookup fn [(fn, v)] = some v := by simp [List.lookup]
  obtain ⟨u, hu, ru⟩ := RelO.some_of (v := v) (o := mA fn) (by rw [← l]; exact hr fn)
  have J : PySem.W.InstAt s1.heap a oe C (some od) := ⟨ha, hz.1, by unfold PySem.W.notCls; rw [hd] <;> rfl, by rw [hz.2]; exact ho⟩
  exact HandSPX.exc_get I1.kIn J T.ga T.gg T.exC (PySem.W.findObj_own T.hdC T.noN rfl (by rw [hl, hu])) (handed_of ru) ⟨v, H1, I1.tok _, ru, q⟩
end
end L2
namespace PySem.LowX
open PySem.W PySem.Calls PyProof.Rows PySem.HandSPX
end PySem.LowX
end
section
set_option maxRecDepth 100000
namespace DL
open PySem PySem.Spec L2
theorem bind_pure {α : Type} (f : M α) : (f >>= fun a => (pure a : M α)) = f := by
  funext s0
  show M.bnd f (fun a => M.ret a) s0 = f s0
  unfold M.bnd
  cases f s0 with
  | none => rfl
  | some p => obtain ⟨e, s1⟩ := p; cases e <;> rfl
def errM {α : Type} (c : Str) (fs : Option (List (Str × D))) : M α := fun S => some (.error ⟨c, fs⟩, S)
def raiseK (c f : Str) : List D → M Fl
  | [d] => errM c (some [(f, d)])
  | _ => M.no
def raiseM (c f : Str) (fa : M (List Res)) : M Fl := fa >>= fun rs => useAll rs >>= fun ds => raiseK c f ds
section
variable {X : Cx} {z : Zx} {S S' : Sx} {σ σ' : L2.St} {H H' : Hp} {g g' : Gh} {v : V} {d : D} {r : Res} {a e : Expr} {es : List Expr} {fa fb : M Res} {fs : M (List Res)} {K : PySem.W.Frag} {mg : Str → Option Value} {pos p pos2 : Pos} {cn qn fn : Str} {C fI : Addr}
theorem GoS.useAll {k : List D → M Fl} {D : Ends} {rs : List Res} {vs : List V} (s : SR K z S σ H g) (hh : Held rs) (rv : Paired (ResOk K z S σ H g) vs rs) (h : GoS K mg z (useAll rs >>= k) S σ H g D) :
    ∃ S' g', SR K z S' σ H g' ∧ Fr H g H g' ∧ RpA K H g' vs (rs.map (·.d)) ∧ GoS K mg z (k (rs.map (·.d))) S' σ H g' D := by
  have h1 := h.bnd
  rw [← bind_pure (DL.useAll rs)] at h1
  obtain ⟨S', g', s', f, rp, h2⟩ := Go.useAll s hh rv h1
  exact ⟨S', g', s', f, rp, h2.pure s'⟩
theorem ds_raise {k : Nat} (hc : X.calm = true) (fo : PySem.LowX.FldOk fn) (hdb : (cn == ("__debug__" : Str)) = false) (T : PySem.LowX.LowTxt cn qn fn X.K X.mg C fI) (hr : Room k X.A) (tk : Takes X z.W) (ha : DE X z a fa) (hg : Gl X cn := by rfl)
    (he : starEach (a :: []) X.env = (false, eval a X.env) :: starEach [] X.env := by rfl) (hpl : (backTo pos (starEach [] X.env)).any (·.1) = false := by rfl) :
    DS X z (.Raise (some (.Call (.Name cn p) [a] [] pos)) none pos2) (raiseM cn fn (consA fa nilA)) :=
  PS.imp (ps_raiseLow fo hdb hc T hr tk (dah_cons ha dah_nil he).da hg he hpl) fun D σ H ⟨S, g, s, h⟩ => by
    refine ⟨S, g, s, (Go.heldP (dah_cons ha dah_nil he).held h.bnd).imp fun rs S1 H1 g1 s1 f1 ⟨hh, h1⟩ vs rv => ?_⟩
    obtain ⟨S2, g2, s2, f2, rp, h2⟩ := h1.useAll s1 hh rv
    cases hds : rs.map (·.d) with
    | nil => rw [hds] at h2; exact h2.elim
    | cons d r =>
      rw [hds] at h2 rp
      cases r with
      | cons _ _ => exact h2.elim
      | nil =>
        cases rp with
        | cons rv1 rn =>
          cases rn
          refine ⟨_, rfl, fun dd hd => ?_⟩
          rename_i w
          have f3 := Fr.upd_new (g := g2) (o := .xd [(fn, w)]) hd
          exact h2 (.ref C) (some dd) σ _ g2 (s2.upd_new hd) f3 ⟨T.gC, dd, [(fn, w)], rfl, upd_same, rfl, .cons (rv1.fr f3 s2.mu) .nil⟩
theorem SR.put_un {i : Nat} {w : Option V} (s : SR K z S σ H g) : SR K z (S.put i .un) (σ.set i w) H g where
  len := by show (S.env.set i _).length = _; rw [List.length_set, List.length_set]; exact s.len
  dat := fun j e h => by
    rcases set_get h with ⟨rfl, q⟩ | ⟨ne, q⟩
    · cases q
    · obtain ⟨w, e1, r⟩ := s.dat j e q
      exact ⟨w, by rw [List.getElem?_set_ne ne]; exact e1, r⟩
  own := fun j e h => by
    rcases set_get h with ⟨rfl, q⟩ | ⟨ne, q⟩
    · cases q
    · obtain ⟨b, e1, r⟩ := s.own j e q
      exact ⟨b, by rw [List.getElem?_set_ne ne]; exact e1, r⟩
  inj := fun j k d1 d2 b h1 h2 e1 e2 => by
    rcases set_get h1 with ⟨rfl, q⟩ | ⟨ne1, q1⟩
    · cases q
    · rcases set_get h2 with ⟨rfl, q⟩ | ⟨ne2, q2⟩
      · cases q
      · rw [List.getElem?_set_ne ne1] at e1
        rw [List.getElem?_set_ne ne2] at e2
        exact s.inj j k d1 d2 b q1 q2 e1 e2
  olen := s.olen
  obj := s.obj
  ond := s.ond
  mu := s.mu
  base := s.base
  b0 := s.b0
  keep := s.keep
  on := s.on
theorem SR.withW {W : WX} (s : SR K z S σ H g) : SR K { z with W := W } S σ H g := ⟨s.len, s.dat, s.own, s.inj, s.olen, s.obj, s.ond, s.mu, s.base, s.b0, s.keep, s.on⟩
theorem SR.unW {W : WX} (s : SR K { z with W := W } S σ H g) : SR K z S σ H g := ⟨s.len, s.dat, s.own, s.inj, s.olen, s.obj, s.ond, s.mu, s.base, s.b0, s.keep, s.on⟩
open Classical in
noncomputable def zs (z : Zx) (H : Hp) (g : Gh) : Zx := ⟨fun b => if g.bad b then z.H0 b else H b, z.bad0, g.om, blkW⟩
theorem zs_bad {a : Addr} (h : g.bad a) : (zs z H g).H0 a = z.H0 a := if_pos h
theorem zs_not {a : Addr} (h : ¬ g.bad a) : (zs z H g).H0 a = H a := if_neg h
theorem SR.om_bad (s : SR K z S σ H g) {a : Addr} (h : a ∈ g.om) : g.bad a := by
  obtain ⟨n, hn⟩ := List.mem_iff_getElem?.mp h
  have hl : n < S.objs.length := by rw [s.olen]; exact (List.getElem?_eq_some_iff.mp hn).1
  exact (s.obj n a _ hn (List.getElem?_eq_getElem hl)).2
theorem SR.toSuite (s : SR K z S σ H g) : SR K (zs z H g) S σ H g where
  len := s.len
  dat := s.dat
  own := fun i d e => let ⟨a, e1, hb, rt, h0, ho⟩ := s.own i d e; ⟨a, e1, hb, rt, (zs_bad hb).trans h0, ho⟩
  inj := s.inj
  olen := s.olen
  obj := s.obj
  ond := s.ond
  mu := s.mu
  base := s.base
  b0 := fun a h => by rw [zs_bad (s.base a h)]; exact s.b0 a h
  keep := fun a o h hm => by
    by_cases hb : g.bad a
    · rw [zs_bad hb] at h; exact s.keep a o h hm
    · rw [zs_not hb] at h; exact h
  on := fun a h => .inl h
theorem zs_none (s : SR K z S σ H g) {a : Addr} (h : (zs z H g).H0 a = none) : z.H0 a = none := by
  by_cases hb : g.bad a
  · rw [zs_bad hb] at h; exact h
  · rw [zs_not hb] at h; exact s.fresh0 h
theorem SR.ofSuite {σ' : L2.St} (s : SR K z S σ H g) (t : SR K (zs z H g) S' σ' H' g') : SR K z S' σ' H' g' where
  len := t.len
  dat := t.dat
  own := fun i d e => let ⟨a, e1, hb, rt, h0, ho⟩ := t.own i d e; ⟨a, e1, hb, rt, zs_none s h0, ho⟩
  inj := t.inj
  olen := t.olen
  obj := t.obj
  ond := t.ond
  mu := t.mu
  base := t.base
  b0 := s.b0
  keep := fun a o h hm => by
    by_cases hb : g.bad a
    · exact t.keep a o ((zs_bad hb).trans h) hm
    · exact t.keep a o ((zs_not hb).trans (s.keep a o h fun q => hb (s.om_bad q))) hm
  on := fun a h => by
    rcases t.on a h with q | q
    · exact s.on a q
    · exact .inr (zs_none s q)
theorem zs_keep (s : SR K z S σ H g) {σ' : L2.St} (t : SR K (zs z H g) S' σ' H' g') {a : Addr} {o : HO} (h : H a = some o) (hb : ¬ g.bad a) : H' a = some o := by
  have h0 : (zs z H g).H0 a = some o := (zs_not hb).trans h
  refine t.keep a o h0 fun q => ?_
  rcases t.on a q with q | q
  · exact hb (s.om_bad q)
  · rw [h0] at q; cases q
mutual
/-- data that asks nothing of what is written to, nor of the objects -/
def D.still : D → Bool
  | .tup ds => D.stills ds
  | .lst _ => false
  | .dct _ _ _ => false
  | .rol ds => D.stills ds
  | .rdc _ _ vs => D.stills vs
  | .obj _ => false
  | _ => true
def D.stills : List D → Bool
  | [] => true
  | d :: r => d.still && D.stills r
end
mutual
theorem Rp.still (hk : ∀ a o, H a = some o → ¬ g.bad a → H' a = some o) (m : Mu H g) {v : V} : ∀ {d : D}, Rp K H g v d → d.still = true → Rp K H' g' v d
  | _, .non, _ => .non
  | _, .bl b, _ => .bl b
  | _, .int b, _ => .int b
  | _, .str b, _ => .str b
  | _, .tup h r, i => .tup (hk _ _ h fun q => by have := m _ q; rw [h] at this; exact this) (RpA.still hk m r (by simpa [D.still] using i))
  | _, .lst h n r, i => by simp [D.still] at i
  | _, .dct h c n r, i => by simp [D.still] at i
  | _, .rol h r, i => .rol (by
      rcases h with ⟨o, h⟩ | h
      · exact .inl ⟨o, hk _ _ h fun q => by have := m _ q; rw [h] at this; exact this⟩
      · exact .inr h) (RpA.still hk m r (by simpa [D.still] using i))
  | _, .obj h, i => by simp [D.still] at i
  | _, .opq v, _ => .opq v
  | _, .cod a q, _ => .cod a q
  | _, .rdc h c r, i => .rdc (hk _ _ h fun q => by have := m _ q; rw [h] at this; exact this) (c.mono fun _ _ e => hk _ _ e fun q => by have := m _ q; rw [e] at this; exact this) (RpA.still hk m r (by simpa [D.still] using i))
theorem RpA.still (hk : ∀ a o, H a = some o → ¬ g.bad a → H' a = some o) (m : Mu H g) {vs : List V} : ∀ {ds : List D}, RpA K H g vs ds → D.stills ds = true → RpA K H' g' vs ds
  | _, .nil, _ => .nil
  | _, .cons h r, i => by
    simp [D.stills] at i
    exact .cons (Rp.still hk m h i.1) (RpA.still hk m r i.2)
end
structure SuZ (K : PySem.W.Frag) (mg : Str → Option Value) (cls : Value) (d : Option Addr) (x : Exn) (z : Zx) : Prop where
  W : z.W = blkW
  cls : mg x.cls = some cls
  fld : ∀ fs, x.fs = some fs → ∃ dd vs, d = some dd ∧ vs.map (·.1) = fs.map (·.1) ∧ ∀ S σ H g, SR K z S σ H g → H dd = some (.xd vs) ∧ RpA K H g (vs.map (·.2)) (fs.map (·.2))
def Exn.still (x : Exn) : Bool := match x.fs with
  | some fs => D.stills (fs.map (·.2))
  | none => true
def unslot (i : Nat) : Option (Except Exn Fl × Sx) → Option (Except Exn Fl × Sx)
  | some (.ok (.ret (.own j d)), S) => if j = i then none else some (.ok (.ret (.own j d)), S.put i .un)
  | some (.ok fl, S) => some (.ok fl, S.put i .un)
  | _ => none
theorem xd_not_bad (s : SR K z S σ H g) {a : Addr} {vs : List (Str × V)} (h : H a = some (.xd vs)) : ¬ g.bad a := fun q => by
  have := s.mu a q
  rw [h] at this
  exact this
theorem ResOk.ofSuite {σ' : L2.St} (s : SR K z S σ H g) {j : Nat} (h : ResOk K (zs z H g) S' σ' H' g' v r) (hj : ∀ d, r ≠ .own j d) : ResOk K z (S'.put j .un) (σ'.set j none) H' g' v r := by
  cases r with
  | dat d => exact h
  | new d =>
    obtain ⟨a, e, hb, rt, h0, ho, hn⟩ := h
    refine ⟨a, e, hb, rt, zs_none s h0, ho, fun k e' he hs => ?_⟩
    rcases set_get he with ⟨rfl, q⟩ | ⟨ne, q⟩
    · cases q
    · rw [List.getElem?_set_ne ne] at hs
      exact hn k e' q hs
  | own k d =>
    obtain ⟨h1, h2⟩ := h
    have ne : j ≠ k := fun q => hj d (by rw [q])
    exact ⟨by show (S'.env.set j .un)[k]? = _; rw [List.getElem?_set_ne ne]; exact h1, by rw [List.getElem?_set_ne ne]; exact h2⟩
def tP (P : L2.St → Prop) (t : TE) : TE := fun σ H Q => P σ ∧ t σ H Q
def excM (cn f : Str) (x : Exn) : M Res := match x.fs with
  | some [(f', d)] => if x.cls = cn ∧ f' = f then pure (.dat d) else M.no
  | _ => M.no
variable {P : L2.St → Prop}
theorem ep_de (h : DE X z e fa) : PE X e (tP P (tD X.K X.mg z fa)) := PE.imp h fun σ H Q q => q.2
theorem ep_exf {a : Addr} {oe : Obj} {cls : Value} {dx : Option Addr} {pn : List (Addr × Obj)} {x : Exn} {i : Nat} {n : Str} {p1 : Pos} (T : PySem.LowX.LowTxt cn qn fn X.K X.mg C fI) (hz : Zc cls dx oe) (hd : ∃ vs, oe.data = .fields vs) (sz : SuZ X.K X.mg cls dx x z)
    (hv : PE (X.suite a ((a, oe) :: pn)) (.Name n p1) (tVar i)) (hb : attributeBase (.Name n p1) fn X.env (eval (.Name n p1) X.env) = eval (.Name n p1) X.env := by rfl) :
    PE (X.suite a ((a, oe) :: pn)) (.Attribute (.Name n p1) fn pos) (tP (fun σ => σ[i]? = some (some (.ref a))) (tD X.K X.mg z (excM cn fn x))) :=
  PE.imp (pe_byLow T hz hd hv hb) fun σ H Q ⟨e1, S, g, s, h⟩ => by
    unfold excM at h
    split at h
    · rename_i f' d e2
      by_cases hx : x.cls = cn ∧ f' = fn
      · rw [if_pos hx] at h
        obtain ⟨hx, rfl⟩ := hx
        have ec : cls = .ref C := by
          have := sz.cls
          rw [hx, T.gC] at this
          exact (Option.some.inj this).symm
        obtain ⟨dd, vs, e4, e5, e6⟩ := sz.fld _ e2
        obtain ⟨e7, e8⟩ := e6 S σ H g s
        match vs, e5, e7, e8 with
        | [(k, w)], e5, e7, .cons rv .nil =>
          simp only [List.map_cons, List.map_nil, List.cons.injEq, and_true] at e5
          subst e5
          exact ⟨.ref a, e1, rfl, ec, dd, w, e4, e7, h.pure s w rv⟩
      · rw [if_neg hx] at h; exact h.none.elim
    · exact h.none.elim
def tPA (P : L2.St → Prop) (t : TA) : TA := fun σ H Q => P σ ∧ t σ H Q
structure DAHP (X : Cx) (z : Zx) (P : L2.St → Prop) (es : List Expr) (f : M (List Res)) : Prop where
  da : PA X es (tPA P (tA X.K X.mg z f))
  held : ∀ S rs S', f S = some (.ok rs, S') → Held rs
theorem dap_nil : DAHP X z P [] nilA := ⟨PA.imp da_nil fun σ H Q q => q.2, (dah_nil (X := X) (z := z)).held⟩
theorem dap_cons (ha : PE X e (tP P (tD X.K X.mg z fa))) (hr : DAHP X z P es fs) (hs : starEach (e :: es) X.env = (false, eval e X.env) :: starEach es X.env := by rfl) : DAHP X z P (e :: es) (consA fa fs) :=
  ⟨PA.imp (pa_cons ha hr.da hs) fun σ H Q ⟨pp, S, g, s, h⟩ => ⟨pp, S, g, s, h.bnd.imp fun ra S1 H1 g1 s1 f1 h1 x rx => by
    obtain ⟨g2, s2, f2, rx2⟩ := s1.hold rx
    refine ⟨pp, S1, g2, s2, (h1.at f2).bnd.imp fun rs S3 H3 g3 s3 f3 h3 xs rxs => ?_⟩
    obtain ⟨rx3, h4⟩ := Go.chk s2 s3 f3 (by cases ra <;> rfl) rx2 h3
    exact h4.pure s3 (x :: xs) (.cons rx3 rxs)⟩, fun S rs S' e => by
    obtain ⟨r, s1, _, e⟩ := bind_inv e
    obtain ⟨rs', s2, e2, e⟩ := bind_inv e
    obtain ⟨_, s3, _, e⟩ := bind_inv e
    cases e
    intro q hq
    rcases List.mem_cons.mp hq with rfl | hq
    · cases r <;> rfl
    · exact hr.held _ _ _ e2 q hq⟩
theorem ep_tup {x1} (ha : DAHP X z P es fs) : PE X (.Tuple es x1 pos) (tP P (tD X.K X.mg z (tupM fs))) :=
  PE.imp (pe_tup ha.da) fun σ H Q ⟨pp, S, g, s, h⟩ => ⟨pp, S, g, s, (Go.heldP ha.held h.bnd).imp fun rs S1 H1 g1 s1 f1 ⟨hh, h1⟩ xs rxs => by
    obtain ⟨S2, g2, s2, f2, rp, h2⟩ := h1.useAll s1 hh rxs
    obtain ⟨c, h3⟩ := h2.need
    exact ⟨by rw [rp.length]; exact of_decide_eq_true c, out_tup s2 rp h3⟩⟩
def tPS (P : L2.St → Prop) (t : TS) : TS := fun D σ H => P σ ∧ t D σ H
theorem sp_ret (ha : PE X a (tP P (tD X.K X.mg z fa))) : PS X (.Return (some a) pos) (tPS P (tS X.K X.mg z (retM fa))) :=
  PS.imp (ps_ret ha) fun D σ H ⟨pp, S, g, s, q⟩ => ⟨pp, S, g, s, q.bnd.imp fun r S1 H1 g1 s1 f1 q1 v rv => q1.ret s1 rv⟩
theorem sp_one {st : Stmt} {f : M Fl} (h : PS X st (tPS P (tS X.K X.mg z f))) : PSs X [st] (fun D σ H => P σ ∧ tS X.K X.mg z f D σ H) := PSs.imp (pss_one h) fun D σ H q => q
end
def subL (l : List (Str × Bool)) (c : Str) : Option Bool := l.lookup c
theorem subL_of {K : PySem.W.Frag} {mg : Str → Option Value} {c : Value} : ∀ {l : List (Str × Bool)}, (∀ p ∈ l, ∀ cls, mg p.1 = some cls → PySem.W.exmOne K cls c = some p.2) → ∀ cn cls b, mg cn = some cls → subL l cn = some b → PySem.W.exmOne K cls c = some b
  | [], _, cn, cls, b, _, e => by cases e
  | (k, b') :: l, h, cn, cls, b, hm, e => by
    unfold subL at e
    rw [List.lookup_cons] at e
    by_cases c : (cn == k) = true
    · rw [c] at e
      cases e
      have : cn = k := by simpa using c
      subst this
      exact h _ List.mem_cons_self cls hm
    · have c' : (cn == k) = false := by simpa using c
      rw [c'] at e
      exact subL_of (fun p hp => h p (List.mem_cons_of_mem _ hp)) cn cls b hm e
structure Own (K : PySem.W.Frag) (mg : Str → Option Value) (cn qn fn : Str) : Prop where
  ex : ∃ C fI, PySem.LowX.LowTxt cn qn fn K mg C fI
structure Exm (K : PySem.W.Frag) (mg : Str → Option Value) (S C : Str) (b : Bool) : Prop where
  there : ∃ c, mg C = some c
  is : ∀ s c, mg S = some s → mg C = some c → PySem.W.exmOne K s c = some b
theorem exm_of {K : PySem.W.Frag} {S C : Addr} {b : Bool} (h1 : PySem.W.subIn K (.ref C) (.type "BaseException") = some true) (h2 : PySem.W.isClsIn K C = true) (h3 : PySem.W.typeIn K (.ref C) = some (.type "type")) (h4 : PySem.W.subIn K (.ref S) (.ref C) = some b) :
    PySem.W.exmOne K (.ref S) (.ref C) = some b := by
  have e1 : (PySem.W.subIn K (.ref C) (.type "BaseException") == some true) = true := by rw [h1] <;> rfl
  have e2 : ((PySem.W.clsIn K C).isSome && PySem.W.typeIn K (.ref C) == some (.type "type")) = true := by
    have h2' : (PySem.W.clsIn K C).isSome = true := h2
    rw [h2', h3] <;> rfl
  show (if (PySem.W.subIn K (.ref C) (.type "BaseException") == some true) = true then (if ((PySem.W.clsIn K C).isSome && PySem.W.typeIn K (.ref C) == some (.type "type")) = true then PySem.W.subIn K (.ref S) (.ref C) else none) else none) = some b
  rw [if_pos e1, if_pos e2]
  exact h4
theorem exm_mk {K : PySem.W.Frag} {h : Heap} {mg : Str → Option Value} {sn cn : Str} {S C : Addr} {b : Bool} (X : K.In h) (G : h.Ns mainGlobals mg) (aS : PySem.W.nsIn K mainGlobals sn = some (some (.ref S))) (aC : PySem.W.nsIn K mainGlobals cn = some (some (.ref C)))
    (h1 : PySem.W.subIn K (.ref C) (.type "BaseException") = some true) (h2 : PySem.W.isClsIn K C = true) (h3 : PySem.W.typeIn K (.ref C) = some (.type "type")) (h4 : PySem.W.subIn K (.ref S) (.ref C) = some b) : Exm K mg sn cn b :=
  ⟨⟨_, PySem.W.mg_of X G aC⟩, fun s c hs hc => by
    rw [PySem.W.mg_of X G aS] at hs
    rw [PySem.W.mg_of X G aC] at hc
    cases hs; cases hc
    exact exm_of h1 h2 h3 h4⟩
theorem own_mk {K : PySem.W.Frag} {h : Heap} {mg : Str → Option Value} {cn qn fn : Str} {C f1 N : Addr} (X : K.In h) (G : h.Ns mainGlobals mg) {nm q : Str} {bs bm : List Value} {sn : List Str} {sub : List Value} {ab : Bool} {col : Option Bool} {dd : Option Addr} {m0 m1 m2 m3 m5 : Option Value}
    {od1 an1 : Option Addr} {sl1 : Array (Option Value)} {oc1 dc1 pm1 cd1 ct1 : Value} {p1 p2 q1 q2 q3 q4 : Pos}
    (aC : PySem.W.nsIn K mainGlobals cn = some (some (.ref C)))
    (xL : K.lookup C = some (excClassObj nm q C N bs bm true sn sub ab col dd m0 m1 m2 m3 m5 "ValueError.__new__")) (hbm : PySem.HandSPX.refsVE bm = true)
    (sa : PySem.W.findIn K (.ref C) "__setattr__" = some (some (.builtin "object.__setattr__"))) (ga : PySem.W.findIn K (.ref C) "__getattribute__" = some (some (.builtin "BaseException.__getattribute__"))) (gg : PySem.W.findIn K (.ref C) "__getattr__" = some none) (nb : PySem.W.findIn K (.ref C) fn = some none)
    (a1 : PySem.W.findIn K (.ref C) "__init__" = some (some (.ref f1))) (t1 : PySem.W.typeIn K (.ref f1) = some (.type "function"))
    (l1 : K.lookup f1 = some ⟨oc1, od1, .func (PySem.W.fnOf "__init__" qn (PySem.LowX.iA fn p1 p2) (PySem.LowX.iB fn q1 q2 q3 q4) (PySem.LowX.iS fn) .none .none dc1 pm1 an1 cd1 ct1), sl1⟩) (c1 : PySem.W.codeIn K cd1 qn = true)
    (kC : PySem.W.keepIn K (.ref C) = true) (eC : PySem.W.subIn K (.ref C) (.type "BaseException") = some true) (tC : PySem.W.typeIn K (.ref C) = some (.type "type")) (hC : PySem.W.hasDictIn K C = true) (iC : PySem.W.isClsIn K C = true) (sC : PySem.W.subIn K (.ref C) (.ref C) = some true) : Own K mg cn qn fn :=
  ⟨C, f1, ⟨PySem.W.mg_of X G aC, ⟨nm, q, N, bs, bm, sn, sub, ab, col, dd, m0, m1, m2, m3, m5, xL, hbm⟩, sa, ga, gg, nb, a1, t1, kC, eC, tC, hC, exm_of eC iC tC sC, ⟨_, _, _, _, _, _, _, _, _, _, _, _, _, _, l1, c1⟩⟩⟩
section
variable {X : Cx} {z : Zx} {pos p pos2 : Pos} {a : Expr} {fa : M Res} {cn qn fn : Str}
theorem ds_raiseO {k : Nat} (hc : X.calm = true) (fo : PySem.LowX.FldOk fn) (T : Own X.K X.mg cn qn fn) (hr : Room k X.A) (tk : Takes X z.W) (ha : DE X z a fa) (hdb : (cn == ("__debug__" : Str)) = false := by decide) (hg : Gl X cn := by rfl)
    (he : starEach (a :: []) X.env = (false, eval a X.env) :: starEach [] X.env := by rfl) (hpl : (backTo pos (starEach [] X.env)).any (·.1) = false := by rfl) :
    DS X z (.Raise (some (.Call (.Name cn p) [a] [] pos)) none pos2) (raiseM cn fn (consA fa nilA)) := by
  obtain ⟨C, fI, T⟩ := T.ex
  exact ds_raise hc fo hdb T hr tk ha hg he hpl
theorem ep_exO {ad : Addr} {oe : Obj} {cls : Value} {dx : Option Addr} {pn : List (Addr × Obj)} {x : Exn} {i : Nat} {n : Str} {p1 : Pos} (T : Own X.K X.mg cn qn fn) (hz : Zc cls dx oe) (hd : ∃ vs, oe.data = .fields vs) (sz : SuZ X.K X.mg cls dx x z)
    (hv : PE (X.suite ad ((ad, oe) :: pn)) (.Name n p1) (tVar i)) (hb : attributeBase (.Name n p1) fn X.env (eval (.Name n p1) X.env) = eval (.Name n p1) X.env := by rfl) :
    PE (X.suite ad ((ad, oe) :: pn)) (.Attribute (.Name n p1) fn pos) (tP (fun σ => σ[i]? = some (some (.ref ad))) (tD X.K X.mg z (excM cn fn x))) := by
  obtain ⟨C, fI, T⟩ := T.ex
  exact ep_exf T hz hd sz hv hb
end
end DL
end
section
set_option maxRecDepth 100000
namespace DLT
open PySem PySem.Calls PyProof.Rows PySem.W PySem.SeqAt
section
variable {prog : Program} {w : World} {A : Around} {E : Value → Shared → Prop} {s : Shared}
theorem tup_inv {h : Heap} {a : Value} {xs : List PyData} {as : List Addr} (r : Reads h a (.tuple xs) as) : ∃ p o us n, a = .ref p ∧ h.get? p = some o ∧ o.cls = .type "tuple" ∧ o.data = .seq us n ∧ ReadsAll h us.toList xs as := by
  cases r with | tuple b c d e => exact ⟨_, _, _, _, rfl, b, c, d, e⟩
theorem oneLt_tups {f : Bool} {xs ys : List PyData} {a b : Value} {as bs : List Addr} {Q : Bool → Shared → Prop} (ra : Reads s.heap a (.tuple xs) as) (rb : Reads s.heap b (.tuple ys) bs) (h : alike (.tuple xs) (.tuple ys) = true)
    (hu : A.units + min (PyData.tuple xs).depth (PyData.tuple ys).depth < cLine) (hq : Q (dataLt (.tuple xs) (.tuple ys)) s) : wpAny (model prog w) A (oneLt' f a b) Q E s := by
  rcases f with _ | _
  · exact oneLt_alike nofun ra rb h nofun hu hq
  have same : alikeAll xs ys = true := by rw [alike] at h; exact h
  rw [oneLt'_eq, if_pos rfl]
  obtain ⟨p, o, us, n, rfl, a1, a2, a3, a4⟩ := tup_inv ra
  obtain ⟨q, o', ws, n', rfl, b1, b2, b3, b4⟩ := tup_inv rb
  have la := ReadsAll.length _ _ _ a4; have lb := ReadsAll.length _ _ _ b4
  rw [Array.length_toList] at la lb
  have inside := room_in hu
  have lt : wpAny (model prog w) A (call (.builtin "tuple.__lt__") [.ref p, .ref q]) (fun v t => v = .bool (dataLt (.tuple xs) (.tuple ys)) ∧ t = s) E s := by
    rcases o with ⟨c, dd, dt, sl⟩; rcases o' with ⟨c', dd', dt', sl'⟩
    obtain rfl : c = _ := a2; obtain rfl : dt = _ := a3; obtain rfl : c' = _ := b2; obtain rfl : dt' = _ := b3
    refine call_meets F.slot_tuple_lt ⟨_, a1, rfl⟩ F.entry_tuple_lt (F.args_tuple_lt_2 _ _) (tuple_ltAt p q us ws n n' dd dd' sl sl' (pairEq xs ys) fun j => dataLt (xs.getD j .none) (ys.getD j .none)) ⟨a1, b1, fun j j1 j2 => ?_, fun j j1 j2 ne => ?_, ?_, rfl⟩
    · exact eqAt_alikeAll xs ys A.in1 s _ _ _ _ a4 b4 same inside j (by rw [Array.length_toList]; exact j1) (by rw [Array.length_toList]; exact j2)
    · exact rcLt_alikeAll xs ys A.in1 s _ _ _ _ a4 b4 same inside j (by rw [Array.length_toList]; exact j1) (by rw [Array.length_toList]; exact j2) ne
    · rw [dataLt_tuple, ← firstLt_toks xs ys same, la, lb]
  refine wpAny_bind (wpAny_cRoomFor (room_here hu) (wpAny_bind (wpAny_callSpecialIfBound?_slot (T := "tuple") ⟨o, a1, a2⟩ F.slot_tuple_lt (wpAny_mono lt (fun v t e => ?_) fun _ _ x => x))))
  obtain ⟨rfl, rfl⟩ := e
  exact wpAny_truthy_bool hq
def isT1 : PyData → Bool
  | .tuple (_ :: _) => true
  | _ => false
def kindD (ds : List PyData) : SortKind := if (ds.head?.map isT1).getD false = true then general' else oneType'
theorem firsts_any : ∀ (vs : List Value) (ds : List PyData) {Q : List (Option Value) → Shared → Prop}, EachIs (fun v d => ∃ as, Reads s.heap v d as) vs ds → (∀ d, d ∈ ds → ∃ xs, d = .tuple xs) →
    (∀ os : List (Option Value), os.map (·.isSome) = ds.map isT1 → Q os s) → wpAny (model prog w) A (vs.mapM firstOfTuple') Q E s
  | _, _, _, .nil, _, h => by rw [List.mapM_nil]; exact wpAny_pure (h [] rfl)
  | _, _, Q, .cons (a := v) (as := vs) (b := d) (bs := ds) ⟨as, r⟩ t, ht, h => by
    obtain ⟨xs, rfl⟩ := ht d (List.mem_cons_self ..)
    obtain ⟨l, o, its, n, rfl, ho, hc, hd, hr⟩ := tup_inv r
    have rest : wpAny (model prog w) A (vs.mapM firstOfTuple') (fun os z => z = s ∧ os.map (·.isSome) = ds.map isT1) E s := firsts_any vs ds t (fun d hd => ht d (.tail _ hd)) fun os e => ⟨rfl, e⟩
    have cl : ¬ (o.cls != Value.type "tuple") = true := by rw [hc]; decide
    have isT : Looks (model prog w) s.heap (typeOf (.ref l)) o.cls := (Looks.ld ho).andThen .now
    have one : its[0]?.isSome = isT1 (.tuple xs) := by
      cases q : its.toList with
      | nil =>
        rw [q] at hr; cases hr
        obtain rfl : its = #[] := by simpa using q
        rfl
      | cons f fr =>
        rw [q] at hr
        cases hr
        rw [← Array.getElem?_toList, q]; rfl
    rw [List.mapM_cons, kas_first_eq]
    refine wpAny_bind (wpAny_bind (isT.here ?_))
    rw [hc]
    first
    | rw [if_neg (by simp)]
    | rw [if_neg (by decide)]
    refine wpAny_bind (listItems_at ho hd (wpAny_pure (wpAny_bind (wpAny_mono rest (fun os z e => ?_) fun _ _ x => x))))
    obtain ⟨rfl, e⟩ := e
    exact wpAny_pure (h _ (by rw [List.map_cons, List.map_cons, e, one]))
theorem kind_mixed {vs : List Value} {ds : List PyData} {Q : SortKind → Shared → Prop} (e : EachIs (fun v d => ∃ as, Reads s.heap v d as) vs ds) (ht : ∀ d, d ∈ ds → ∃ xs, d = .tuple xs) (hm : .tuple [] ∈ ds)
    (h : Q (kindD ds) s) : wpAny (model prog w) A (keyKind' vs.toArray) Q E s := by
  rw [keyKind'_eq]
  rw [List.mapM_toArray, map_eq_pure_bind]; refine wpAny_bind (wpAny_bind (firsts_any vs ds e ht fun os hos => wpAny_pure ?_))
  have hlen : os.length = ds.length := by simpa using congrArg List.length hos
  have hall : (os.toArray.all fun x => x.isSome) = false := by
    rw [List.all_toArray]
    obtain ⟨i, hi, hd⟩ := List.mem_iff_getElem.mp hm
    have h0 : (os.map (·.isSome))[i]? = some false := by
      rw [hos, List.getElem?_map, List.getElem?_eq_getElem hi, hd]; rfl
    rw [List.all_eq_false]
    rw [List.getElem?_map] at h0
    obtain ⟨o, ho, h1⟩ := Option.map_eq_some_iff.mp h0
    exact ⟨o, List.mem_of_getElem? ho, by rw [h1]; simp⟩
  rw [if_neg (by rw [hall]; simp)]
  cases e with
  | nil => cases hm
  | @cons v d vs ds hr t =>
    cases os with
    | nil => simp at hlen
    | cons o os =>
      have h1 : o.isSome = isT1 d := by
        have := congrArg List.head? hos
        simpa using this
      have h2 : (((o :: os).toArray)[0]?.bind id) = o := by simp
      rw [h2]
      by_cases c : o.isSome = true
      · rw [if_pos c]
        rw [c] at h1
        have : kindD (d :: ds) = general' := by
          unfold kindD
          simp [← h1]
        rw [this] at h
        exact wpAny_pure h
      · rw [if_neg c]
        have cf : o.isSome = false := by simpa using c
        rw [cf] at h1
        have : kindD (d :: ds) = oneType' := by
          unfold kindD
          simp [← h1]
        rw [this] at h
        have hT : ∀ u ∈ v :: vs, Looks (model prog w) s.heap (typeOf u) (.type "tuple") := fun u hu => by
          have E2 : EachIs (fun v d => ∃ as, Reads s.heap v d as) (v :: vs) (d :: ds) := .cons hr t
          obtain ⟨d', hd', as', r'⟩ := E2.left u hu
          obtain ⟨xs, rfl⟩ := ht d' hd'
          exact looks_reads r'
        rw [oneTypeOnly'_eq]
        rw [List.mapM_toArray, map_eq_pure_bind]
        refine wpAny_bind (wpAny_bind (wpAny_bind (kas_mapM (r := Value.type "tuple") _ (fun u hu Q' hq => (hT u hu).here hq) (wpAny_pure ?_))))
        have hall : ((List.map (fun _ => Value.type "tuple") (v :: vs)).toArray.all fun x => x == Value.type "tuple") = true := by
          rw [List.all_toArray, List.all_map]
          exact List.all_eq_true.mpr fun _ _ => beq_self_eq_true _
        have h0 : (List.map (fun _ => Value.type "tuple") (v :: vs)).toArray[0]? = some (Value.type "tuple") := by simp
        rw [h0]
        simp only [hall, if_true]
        exact wpAny_pure (wpAny_pure h)
theorem SortsAt.tups {vs : List Value} {ds : List PyData} (e : EachIs (fun v d => ∃ as, Reads s.heap v d as) vs ds) (hal : AllAlike ds) (ht : ∀ d, d ∈ ds → ∃ xs, d = .tuple xs) (hu : ∀ d, d ∈ ds → A.units + d.depth < cLine) : SortsAt prog w A s (dataKind s.heap ds) vs := by
  by_cases hm : PyData.tuple [] ∈ ds
  · refine ⟨fun v hv => let ⟨_, hd, _, r⟩ := e.left v hv; ⟨_, dataKind_some hal hd r⟩, ?_⟩
    · have key : ∀ f : Bool, ∀ (E : Value → Shared → Prop) (x y : Value) (a b : (dataKind s.heap ds).α) {Q : Bool → Shared → Prop}, (dataKind s.heap ds).keyOf x = some a → (dataKind s.heap ds).keyOf y = some b → Q ((dataKind s.heap ds).blt a b) s → wpAny (model prog w) A (oneLt' f x y) Q E s := by
        intro f E x y a b Q ha hb hq
        rcases dataKind_inv ha with ⟨d, _, hd, ra, rfl⟩; rcases dataKind_inv hb with ⟨d', _, hd', rb, rfl⟩
        obtain ⟨xs, rfl⟩ := ht d hd; obtain ⟨ys, rfl⟩ := ht d' hd'
        exact oneLt_tups ra rb (hal _ hd _ hd') (Nat.lt_of_le_of_lt (Nat.add_le_add_left (Nat.min_le_left _ _) _) (hu _ hd)) hq
      by_cases c : ∃ x r ds', ds = .tuple (x :: r) :: ds'
      · obtain ⟨x, r, ds', rfl⟩ := c
        exact ⟨general', fun E x y a b Q ha hb hq => key false E x y a b ha hb hq, fun _ E Q hq => kind_mixed e ht hm hq⟩
      · refine ⟨oneType', fun E x y a b Q ha hb hq => by rw [keyLt'_oneType]; exact key true E x y a b ha hb hq, fun _ E Q hq => kind_mixed e ht hm ?_⟩
        cases ds with
        | nil => exact hq
        | cons d ds =>
          obtain ⟨xs, rfl⟩ := ht d (List.mem_cons_self ..)
          cases xs with
          | nil => exact hq
          | cons x r => exact absurd ⟨x, r, ds, rfl⟩ c
  · refine SortsAt.data e hal (.inl fun d hd => ?_) hu
    obtain ⟨xs, rfl⟩ := ht d hd
    cases xs with
    | nil => exact absurd hd hm
    | cons x r => exact ⟨x, r, rfl⟩
def Sorts (ds : List PyData) : Prop := (∀ d, d ∈ ds → ∃ xs, d = .tuple xs) ∨ ∀ d, d ∈ ds → d ≠ .none ∧ ∀ xs, d ≠ .tuple xs
theorem SortsAt.any {vs : List Value} {ds : List PyData} (e : EachIs (fun v d => ∃ as, Reads s.heap v d as) vs ds) (hal : AllAlike ds) (hk : Sorts ds) (hu : ∀ d, d ∈ ds → A.units + d.depth < cLine) : SortsAt prog w A s (dataKind s.heap ds) vs := by
  rcases hk with ht | hn
  · exact SortsAt.tups e hal ht hu
  · exact SortsAt.data e hal (.inr hn) hu
variable {β : Type} {R : Value → β → Prop} {enc : β → PyData} {vs : List Value} {bs : List β}
def Behind (R : Value → β → Prop) (enc : β → PyData) (bs : List β) (P : List Value → Prop) : Prop := ∀ out, out.length = bs.length → EachIs R out (bs.mergeSort (dataLe false enc)) → P out
theorem road {h : Heap} (er : EachIs (fun v b => ∃ as, Reads h v (enc b) as) vs bs) (hal : AllAlike (bs.map enc)) (hk : Sorts (bs.map enc)) (hu : ∀ b, b ∈ bs → A.units + (enc b).depth < cLine) : SortsAt prog w A { s with heap := h } (dataKind h (bs.map enc)) vs :=
  SortsAt.any (s := { s with heap := h }) (each_map (R := fun v d => ∃ as, Reads h v d as) enc er) hal hk (bound_map hu)
theorem Behind.at {h : Heap} {P : List Value → Prop} (q : Behind R enc bs P) (e : EachIs R vs bs) (er : EachIs (fun v b => ∃ as, Reads h v (enc b) as) vs bs) (hal : AllAlike (bs.map enc)) : P (sortVals (dataKind h (bs.map enc)) false vs vs) :=
  q _ ((sortVals_length false rfl).trans e.length) (sortVals_data false e er hal)
theorem sorted_any {l : Addr} {Q : Value → Shared → Prop} (hl : s.heap.IsList l vs.toArray) (e : EachIs R vs bs) (er : EachIs (fun v b => ∃ as, Reads s.heap v (enc b) as) vs bs) (hal : AllAlike (bs.map enc)) (hk : Sorts (bs.map enc)) (fit : bs.length ≤ sizeLine)
    (hu : ∀ b, b ∈ bs → A.units + 2 + (enc b).depth < cLine) (q : Behind R enc bs fun out => Q (.ref (s.heap.objs.size + 1)) { s with heap := sortedAll s.heap vs (List.toArray out) }) : wpAny (model prog w) A (call (.builtin "sorted") [Value.ref l]) Q E s := by
  have there := er.mono (R' := fun v b => ∃ as, Reads (sortingHeap (copyHeap s.heap vs) (s.heap.objs.size + 1) vs) v (enc b) as) fun _ _ ⟨as, r⟩ => ⟨as, Reads.keeps (fun _ _ => sorting_copy_old) r⟩
  exact sorted_vals hl (road there hal hk hu) (e.length ▸ fit) (q.at e there hal)
end
end DLT
end
section
set_option maxRecDepth 100000
namespace DLT
open PySem PySem.Calls PyProof.Rows PySem.W PySem.SeqAt
section
variable {prog : Program} {w : World} {A : Around} {E : Value → Shared → Prop} {s : Shared} {β : Type} {R : Value → β → Prop} {enc : β → PyData} {vs : List Value} {bs : List β}
theorem list_sort_any {a : Addr} {n : Nat} {Q : Value → Shared → Prop} (ho : s.heap.get? a = some (seqObj "list" vs.toArray n)) (e : EachIs R vs bs) (er : EachIs (fun v b => ∃ as, Reads s.heap v (enc b) as ∧ a ∉ as) vs bs) (hal : AllAlike (bs.map enc)) (hk : Sorts (bs.map enc)) (fit : bs.length ≤ sizeLine)
    (hu : ∀ b, b ∈ bs → A.units + 1 + (enc b).depth < cLine) (q : Behind R enc bs fun out => Q .none { s with heap := sortedHeap s.heap a vs (List.toArray out) }) : wpAny (model prog w) A (call (.builtin "list.sort") [Value.ref a]) Q E s := by
  have there : EachIs (fun v b => ∃ as, Reads (sortingHeap s.heap a vs) v (enc b) as) vs bs := each_keepBut (fun _ _ hb q => sortingHeap_old hb q) (fun o q => Option.some.inj (ho.symm.trans q) ▸ rfl) hal er
  exact wpAny_call_entry slot_list_sort ⟨_, ho, rfl⟩ entry_list_sort (list_sort_vals (κ := dataKind (sortingHeap s.heap a vs) (bs.map enc)) ho (road there hal hk hu) (e.length ▸ fit) ⟨.none, rfl, q.at e there hal⟩) (args_list_sort _)
end
open L2 in
theorem isT_reads {P : Program} {w : World} {h : Heap} {b : Addr} {k : List Int} (x : IsT P w h k b) : Reads h (.ref b) (.tuple (k.map .int)) [] := by
  let ⟨_, _, _, at_, cl, dt, its⟩ := x
  exact .tuple at_ cl dt (IntsAre.reads h (ints_of_items its))
def encT (q : Addr × List Int) : PyData := .tuple (q.2.map .int)
theorem alike_encT (q r : Addr × List Int) : alike (encT q) (encT r) = true := by
  have : ∀ xs ys : List Int, alikeAll (xs.map .int) (ys.map .int) = true := by
    intro xs
    induction xs with
    | nil => intro ys; cases ys <;> simp [alikeAll]
    | cons x xs ih => intro ys; cases ys with
      | nil => simp [alikeAll]
      | cons y ys => simp [alikeAll, alike, ih ys]
  simp [encT, alike, this]
theorem depth_encT (q : Addr × List Int) : (encT q).depth = 1 := by
  have : ∀ xs : List Int, PyData.depthAll (xs.map .int) = 0 := by
    intro xs
    induction xs with
    | nil => simp [PyData.depthAll]
    | cons x xs ih => simp [PyData.depthAll, PyData.depth, ih]
  simp [encT, PyData.depth, this]
def ltL : List Int → List Int → Bool
  | _, [] => false
  | [], _ :: _ => true
  | a :: r, b :: s => if a < b then true else if b < a then false else ltL r s
theorem ltL_eq : ∀ xs ys : List Int, ltL xs ys = decide (xs < ys)
  | [], [] => by simp [ltL]
  | _ :: _, [] => by simp [ltL]
  | [], _ :: _ => by simp [ltL]
  | a :: r, b :: s => by
    unfold ltL
    rw [ltL_eq r s]
    by_cases h : a < b
    · simp [h, List.cons_lt_cons_iff]
    · by_cases h2 : b < a
      · have : a ≠ b := by omega
        simp [h, h2, this, List.cons_lt_cons_iff]
      · have : a = b := by omega
        subst this
        simp [List.cons_lt_cons_iff]
theorem ltL_irr : ∀ x : List Int, ltL x x = false
  | [] => rfl
  | a :: r => by unfold ltL; simp [ltL_irr r]
theorem ltL_tri : ∀ x y : List Int, ltL x y = false → ltL y x = false → x = y
  | [], [], _, _ => rfl
  | [], _ :: _, h, _ => by cases h
  | _ :: _, [], _, h => by cases h
  | a :: r, b :: s, h1, h2 => by
    unfold ltL at h1 h2
    by_cases c : a < b
    · rw [if_pos c] at h1; cases h1
    · by_cases d : b < a
      · rw [if_pos d] at h2; cases h2
      · rw [if_neg c, if_neg d] at h1
        rw [if_neg d, if_neg c] at h2
        have : a = b := by omega
        rw [this, ltL_tri r s h1 h2]
theorem ltL_trans : ∀ x y z : List Int, ltL x y = true → ltL y z = true → ltL x z = true
  | [], [], _, h, _ => by cases h
  | _ :: _, [], _, h, _ => by cases h
  | _, _ :: _, [], _, h => by cases h
  | [], _ :: _, _ :: _, _, _ => rfl
  | a :: r, b :: s, c :: t, h1, h2 => by
    unfold ltL at h1 h2 ⊢
    by_cases e1 : a < b
    · by_cases e2 : b < c
      · rw [if_pos (by omega)]
      · rw [if_neg e2] at h2
        by_cases e3 : c < b
        · rw [if_pos e3] at h2; cases h2
        · rw [if_pos (by omega)]
    · rw [if_neg e1] at h1
      by_cases e3 : b < a
      · rw [if_pos e3] at h1; cases h1
      · rw [if_neg e3] at h1
        have : a = b := by omega
        subst this
        by_cases e2 : a < c
        · rw [if_pos e2]
        · rw [if_neg e2] at h2 ⊢
          by_cases e4 : c < a
          · rw [if_pos e4] at h2; cases h2
          · rw [if_neg e4] at h2 ⊢
            exact ltL_trans r s t h1 h2
theorem ltL_asym {x y : List Int} (h : ltL x y = true) : ltL y x = false := by
  cases e : ltL y x with
  | false => rfl
  | true => have := ltL_trans x y x h e; rw [ltL_irr] at this; cases this
theorem dataLt_encT (q r : Addr × List Int) : dataLt (encT q) (encT r) = ltL q.2 r.2 := by
  unfold encT
  rw [dataLt_tuple, ltL_eq, ← dataLt_ints]
  rfl
theorem dataLe_encT (q r : Addr × List Int) : dataLe false encT q r = !ltL r.2 q.2 := by
  rw [dataLe_eq]
  show (!dataLt (encT r) (encT q)) = _
  rw [dataLt_encT]
theorem leL_trans {x y z : List Int} (h1 : ltL y x = false) (h2 : ltL z y = false) : ltL z x = false := by
  cases e : ltL z x with
  | false => rfl
  | true =>
    cases e2 : ltL x y with
    | true => have := ltL_trans z x y e e2; rw [h2] at this; cases this
    | false => have := ltL_tri x y e2 h1; subst this; rw [h2] at e; cases e
theorem perm_un {α β : Type} {f : α → β} {vs ws : List β} (h : vs.Perm ws) : ∀ L : List α, ws = L.map f → ∃ L1 : List α, L1.Perm L ∧ vs = L1.map f := by
  induction h with
  | nil =>
    intro L e
    cases L with
    | nil => exact ⟨[], .nil, rfl⟩
    | cons _ _ => cases e
  | cons x _ ih =>
    intro L e
    cases L with
    | nil => cases e
    | cons y L =>
      rw [List.map_cons] at e
      injection e with e1 e2
      obtain ⟨L1, p, e3⟩ := ih L e2
      exact ⟨y :: L1, p.cons y, by rw [List.map_cons, e1, e3]⟩
  | swap x y l =>
    intro L e
    match L, e with
    | a :: b :: r, e =>
      simp only [List.map_cons, List.cons.injEq] at e
      exact ⟨b :: a :: r, .swap a b r, by simp [e]⟩
  | trans _ _ i1 i2 =>
    intro L e
    obtain ⟨L2, p2, e2⟩ := i2 L e
    obtain ⟨L1, p1, e1⟩ := i1 L2 e2
    exact ⟨L1, p1.trans p2, e1⟩
abbrev AT := Addr × List Int
def AT.v (q : AT) : Value := .ref q.1
theorem each_at {S : Value → AT → Prop} : ∀ {l : List AT}, (∀ q ∈ l, S q.v q) → EachIs S (l.map AT.v) l
  | [], _ => .nil
  | _ :: _, h => .cons (h _ (.head _)) (each_at fun q m => h q (.tail _ m))
theorem each_un {out : List Value} {l : List AT} (h : EachIs (fun v q => v = AT.v q) out l) : out = l.map AT.v := by
  induction h with
  | nil => rfl
  | cons e _ ih => exact congr (congrArg List.cons e) ih
theorem rising (l : List AT) : (l.mergeSort (dataLe false encT)).Pairwise (fun q r => dataLe false encT q r = true) := by
  refine List.pairwise_mergeSort (fun x y z a b => ?_) (fun x y => ?_) l
  · simp only [dataLe_encT, Bool.not_eq_true'] at a b ⊢; exact leL_trans a b
  · simp only [dataLe_encT]
    cases e : ltL y.2 x.2 <;> simp [e]
    exact ltL_asym e
theorem sorted_setE {P : Program} {w : World} {A : Around} {E : Value → Shared → Prop} {s : Shared} {a : Addr} {L : List AT} {es : Array (Int × Value)} {ep : Nat} {t : SetTable} {Q : Value → Shared → Prop} (R : L2.SetTR P w s.heap a L es ep t) (free : A.handled = none) (hu : A.units + 64 < cLine)
    (q : ∀ s' p (out : Array Value) c (M : List AT), (∀ b o, s.heap.get? b = some o → s'.heap.get? b = some o) ∧ s'.gens = s.gens ∧ s'.os = s.os ∧ s.heap.objs.size ≤ p → s'.heap.get? p = some (seqObj "list" out c) → out.toList = M.map AT.v → M.Perm L → M.Pairwise (fun q r => dataLe false encT q r = true) → Q (.ref p) s') :
    wpAny (model P w) A (call (.builtin "sorted") [Value.ref a]) Q E s := by
  have few : L.length < 64 := R.few
  have ct : es.size = L.length := R.size
  obtain ⟨o, at_, ex, dt⟩ := R.ob
  refine Calls.call_function_entry kind_sorted plain_sorted entry_sorted (args_sorted1 _) (?_ : wpAny _ _ (Builtin.«sorted» _) _ _ _)
  unfold Builtin.«sorted»
  refine wpAny_bind (m := checkCount "sorted" 1 1 _) (wpAny_pure (wpAny_bind (L2.collect_set (A := A.in1) free ⟨o, at_, ex.1, dt⟩ R.fits (by unfold scanBound; omega) R.tab.ris R.led fun s1 vs k1 hz g1 o1 pm => ?_)))
  have rows : es.toList.map (·.2) = L.map AT.v := by rw [R.rows, L2.rowsOf, List.map_map]; rfl
  obtain ⟨N, pN, rfl⟩ := perm_un pm L rows
  have fewN : N.length < 64 := pN.length_eq ▸ few
  have fit : (N.map AT.v).length ≤ sizeLine := by rw [List.length_map, sizeLine_eq]; omega
  have new_ : (s1.heap.push (seqObj "list" (N.map AT.v).toArray 0)).get? s1.heap.objs.size = some (seqObj "list" (N.map AT.v).toArray 0) := Heap.get?_push_size _ rfl
  have old : ∀ b u, s.heap.get? b = some u → (s1.heap.push (seqObj "list" (N.map AT.v).toArray 0)).get? b = some u := fun b u e => Heap.get?_push_of_some _ (k1 b u e)
  refine wpAny_bind (wpAny_newList ?_ fit)
  refine wpAny_bind (wpAny_holding (list_sort_any (s := { s1 with heap := s1.heap.push (seqObj "list" (N.map AT.v).toArray 0) }) (enc := encT) (R := fun v q => v = AT.v q) new_ (each_at fun _ _ => rfl) (each_at fun q m => ⟨[], isT_reads (L2.isT_keep (R.tup q (pN.subset m)) old), List.not_mem_nil⟩) ?_ (.inl fun d m => ?_) (by rw [List.length_map] at fit; exact fit) (fun b _ => ?_) fun out _ eo => ?_))
  · intro x hx y hy
    obtain ⟨q, _, rfl⟩ := List.mem_map.mp hx; obtain ⟨r, _, rfl⟩ := List.mem_map.mp hy
    exact alike_encT q r
  · obtain ⟨q, _, rfl⟩ := List.mem_map.mp m; exact ⟨_, rfl⟩
  · have : A.in1.units = A.units + 1 := rfl
    rw [depth_encT, this]; omega
  · obtain ⟨c, here⟩ := sortedHeap_at (vs := N.map AT.v) (out := out.toArray) new_
    refine wpAny_pure ⟨_, rfl, q _ s1.heap.objs.size out.toArray c _ ⟨fun b u e => ?_, g1, o1, hz⟩ here (by rw [each_un eo]) ((List.mergeSort_perm _ _).trans pN) (rising N)⟩
    have b1 : b < s1.heap.objs.size := Heap.lt_size (k1 b u e)
    change Heap.get? (sortedHeap (s1.heap.push (seqObj "list" (N.map AT.v).toArray 0)) s1.heap.objs.size (N.map AT.v) out.toArray) b = some u
    have b2 : b < (s1.heap.push (seqObj "list" (N.map AT.v).toArray 0)).objs.size := by rw [size_push']; exact Nat.lt_succ_of_lt b1
    rw [sortedHeap_old (Nat.ne_of_lt b1) b2]
    exact old b u e
def insT (x : List Int) : List (List Int) → List (List Int)
  | [] => [x]
  | y :: r => if ltL x y then x :: y :: r else if ltL y x then y :: insT x r else y :: r
def sortT (ns : List (List Int)) : List (List Int) := ns.foldr insT []
theorem insT_mem (x k : List Int) : ∀ l : List (List Int), k ∈ insT x l ↔ k = x ∨ k ∈ l
  | [] => by simp [insT]
  | y :: r => by
    unfold insT
    by_cases h : ltL x y = true
    · rw [if_pos h, List.mem_cons]
    · rw [if_neg h]
      by_cases h2 : ltL y x = true
      · rw [if_pos h2, List.mem_cons, insT_mem x k r, List.mem_cons]
        constructor
        · rintro (h | h | h)
          · exact .inr (.inl h)
          · exact .inl h
          · exact .inr (.inr h)
        · rintro (h | h | h)
          · exact .inr (.inl h)
          · exact .inl h
          · exact .inr (.inr h)
      · rw [if_neg h2]
        have : x = y := ltL_tri x y (by simpa using h) (by simpa using h2)
        subst this
        simp
theorem insT_up (x : List Int) : ∀ l : List (List Int), l.Pairwise (fun a b => ltL a b = true) → (insT x l).Pairwise (fun a b => ltL a b = true)
  | [], _ => by simp [insT]
  | y :: r, h => by
    obtain ⟨h1, h2⟩ := List.pairwise_cons.mp h
    unfold insT
    by_cases c : ltL x y = true
    · rw [if_pos c]
      refine List.pairwise_cons.mpr ⟨fun k hk => ?_, h⟩
      rcases List.mem_cons.mp hk with rfl | hk
      · exact c
      · exact ltL_trans _ _ _ c (h1 k hk)
    · rw [if_neg c]
      by_cases c2 : ltL y x = true
      · rw [if_pos c2]
        refine List.pairwise_cons.mpr ⟨fun k hk => ?_, insT_up x r h2⟩
        rcases (insT_mem x k r).mp hk with rfl | hk
        · exact c2
        · exact h1 k hk
      · rw [if_neg c2]; exact h
theorem sortT_mem (k : List Int) : ∀ ns : List (List Int), k ∈ sortT ns ↔ k ∈ ns
  | [] => by simp [sortT]
  | x :: r => by
    show k ∈ insT x (sortT r) ↔ _
    rw [insT_mem, sortT_mem k r, List.mem_cons]
theorem sortT_up : ∀ ns : List (List Int), (sortT ns).Pairwise (fun a b => ltL a b = true)
  | [] => List.Pairwise.nil
  | x :: r => insT_up x _ (sortT_up r)
theorem upT_unique : ∀ {l m : List (List Int)}, l.Pairwise (fun a b => ltL a b = true) → m.Pairwise (fun a b => ltL a b = true) → (∀ k, k ∈ l ↔ k ∈ m) → l = m
  | [], [], _, _, _ => rfl
  | [], y :: m, _, _, h => by have := (h y).mpr List.mem_cons_self; simp at this
  | x :: l, [], _, _, h => by have := (h x).mp List.mem_cons_self; simp at this
  | x :: l, y :: m, h1, h2, h => by
    obtain ⟨a1, a2⟩ := List.pairwise_cons.mp h1
    obtain ⟨b1, b2⟩ := List.pairwise_cons.mp h2
    have e : x = y := by
      rcases List.mem_cons.mp ((h x).mp List.mem_cons_self) with e | e
      · exact e
      · rcases List.mem_cons.mp ((h y).mpr List.mem_cons_self) with e2 | e2
        · exact e2.symm
        · have := ltL_asym (a1 y e2)
          rw [b1 x e] at this; cases this
    subst e
    congr 1
    refine upT_unique a2 b2 fun k => ⟨fun hk => ?_, fun hk => ?_⟩
    · rcases List.mem_cons.mp ((h k).mp (List.mem_cons_of_mem _ hk)) with e | e
      · have := a1 k hk; rw [e, ltL_irr] at this; cases this
      · exact e
    · rcases List.mem_cons.mp ((h k).mpr (List.mem_cons_of_mem _ hk)) with e | e
      · have := b1 k hk; rw [e, ltL_irr] at this; cases this
      · exact e
theorem upT_of {l : List (List Int)} (h : l.Pairwise (fun a b => ltL b a = false)) (nd : l.Nodup) : l.Pairwise (fun a b => ltL a b = true) := by
  refine (h.and nd).imp fun {a b} ⟨q, ne⟩ => ?_
  cases e : ltL a b with
  | true => rfl
  | false => exact absurd (ltL_tri a b e q) ne
end DLT
end
section
set_option maxRecDepth 100000
namespace DL
open PySem PySem.Spec L2
open PySem.W (dataLe AllAlike EachIs)
open PySem.W (alike alikeAll dataLt)
open DLT (Sorts ltL sortT)
def rSortedE (K : PySem.W.Frag) : List V → Hp → VK → Prop := fun vs H Q => ∃ (a : Addr) (bs : List (V × D)) (k : D → PyData), vs = [V.ref a] ∧ SqL K H a (bs.map (·.1)) ∧ (∀ b ∈ bs, Dp K H b.1 (k b.2)) ∧ AllAlike (bs.map fun b => k b.2) ∧ Sorts (bs.map fun b => k b.2) ∧
  (∀ b ∈ bs, (k b.2).depth ≤ 60) ∧ ∀ p, H p = none → Q (.ref p) (upd H p (.lst ((bs.mergeSort (dataLe false fun b => k b.2)).map (·.1))))
def rSortedTE (K : PySem.W.Frag) (P : Program) (w : World) : List V → Hp → VK → Prop := fun vs H Q => ∃ (a : Addr) (L : List (Addr × List Int)), vs = [V.ref a] ∧ H a = some (SetTO P w a L) ∧ (∀ p ∈ L, SqT K H p.1 (p.2.map V.int)) ∧
  ∀ (L' : List (Addr × List Int)) (p : Addr), L'.Perm L → (L'.map (·.2)).Nodup → L'.length < 64 → L'.Pairwise (fun q r => ltL r.2 q.2 = false) → H p = none → Q (.ref p) (upd H p (.lst (L'.map fun q => V.ref q.1)))
def canSortE (ds : List D) : Bool := ds.all (fun d => d.py.isSome && decide (d.pyD.depth ≤ 60)) && (ds.all fun d => ds.all fun e => alike d.pyD e.pyD) && (ds.all (fun d => match d with | .tup _ => true | _ => false) || ds.all (fun d => noTup d.pyD))
def opSortedL (d : D) : M Res := M.opt d.lis fun ds => M.need (canSortE ds) (pure (.new (.lst (sortD ds))))
def opSortedE (d : D) : M Res := match d with
  | .dct _ _ _ => opSortedD d
  | _ => opSortedL d
section
variable {X : Cx} {z : Zx} {S S' : Sx} {σ : L2.St} {H H' H0 : Hp} {g g' g2 : Gh} {v : V} {d : D} {r : Res} {K : PySem.W.Frag} {mg : Str → Option Value} {pos p pos2 p2 : Pos} {a b c e : Expr} {fa fb fc : M Res}
theorem cr_sortedE (hu : X.A.units + 65 < cLine) : CallR X (.builtin "sorted") (rSortedE X.K) := fun pins s σ H vs us Q I r ⟨a, bs, k, ev, sq, hdp, hal, hso, dep, q⟩ => by
  subst ev
  obtain ⟨its, rv, pl, le⟩ := I.list sq
  rw [Vals.ref1 r]
  have each := each_vals rv
  have fit : bs.length ≤ sizeLine := by simpa using le
  refine DLT.sorted_any (enc := fun b => k b.2) pl.isList each (each_and each fun u b m rr => Dp.reads I _ _ _ (hdp b m) rr) hal hso fit (fun b m => by have := dep b m; omega) fun out _ eo => ?_
  obtain ⟨ep, at_⟩ := PyProof.Rows.sortedAll_at s.heap its out.toArray
  have fit2 : ((bs.mergeSort (dataLe false fun b => k b.2)).map (·.1)).length ≤ sizeLine := by rw [List.length_map, List.length_mergeSort]; exact fit
  exact ⟨.ref _, upd H (s.heap.objs.size + 1) (.lst ((bs.mergeSort (dataLe false fun b => k b.2)).map (·.1))), I.laid (t' := s.toks) (fun _ _ => PyProof.Rows.sortedAll_old) (Nat.le_succ _) ⟨fit2, out, ep, vals_each eo, at_⟩, rfl, q _ (I.hok.fresh (Nat.le_succ _))⟩
theorem cr_sortedTE (hc : X.calm = true) (hu : X.A.units + 64 < cLine) : CallR X (.builtin "sorted") (rSortedTE X.K X.prog X.w) := fun pins s σ H vs us Q I r ⟨a, L, ev, ha, hk, q⟩ => by
  subst ev
  obtain ⟨es, ep, t, R⟩ := ((I.hok a _ ha).1 : SetT0 X.prog X.w s.heap a L).full fun p hp => I.isT (hk p hp)
  rw [Vals.ref1 r]
  refine DLT.sorted_setE R (I.ok.hd hc) hu fun ⟨h', g', dr, tk, o'⟩ p out c M ⟨k, eg, eo, hp⟩ at_ eM pm up => ?_
  obtain rfl : g' = s.gens := eg; obtain rfl : o' = s.os := eo
  have few : M.length < 64 := pm.length_eq ▸ R.few
  have fit : (M.map fun q => V.ref q.1).length ≤ sizeLine := by rw [List.length_map, sizeLine_eq]; omega
  have vals : Vals (M.map fun q => V.ref q.1) out.toList := by rw [eM]; exact vals_of_refs M
  have free : H p = none := I.hok.fresh hp
  have J := I.call (ch := []) (g' := s.gens) (t' := tk) (d' := dr) (Un.laid (o := .lst (M.map fun q => V.ref q.1)) k hp free) (I.hok.laid (o := .lst (M.map fun q => V.ref q.1)) k hp ⟨fit, out.toList, c, vals, at_⟩) I.bare nofun
  exact ⟨.ref p, _, J, rfl, q M p pm ((pm.map (·.2)).nodup_iff.mpr R.nd) few (up.imp fun {x y} le => by rw [DLT.dataLe_encT] at le; simpa using le) free⟩
theorem sortE_parts {xs : List V} {ds : List D} {Q : VK} (s : SR X.K z S σ H g) (rx : RpA X.K H g xs ds) (c : canSortE ds = true) (h3 : Go X.K X.mg z (pure (.new (.lst (sortD ds)))) S σ H g (fun r S' H' g' => ∀ v, ResOk X.K z S' σ H' g' v r → Q v H')) :
    ∃ (bs : List (V × D)) (k : D → PyData), bs.map (·.1) = xs ∧ (∀ b ∈ bs, Dp X.K H b.1 (k b.2)) ∧ AllAlike (bs.map fun b => k b.2) ∧ Sorts (bs.map fun b => k b.2) ∧
      (∀ b ∈ bs, (k b.2).depth ≤ 60) ∧ ∀ p, H p = none → Q (.ref p) (upd H p (.lst ((bs.mergeSort (dataLe false fun b => k b.2)).map (·.1)))) := by
  obtain ⟨z1, z2⟩ := zip_map1 rx.length
  unfold canSortE at c
  simp only [Bool.and_eq_true, Bool.or_eq_true, List.all_eq_true, decide_eq_true_eq] at c
  obtain ⟨⟨c1, c2⟩, c3⟩ := c
  have mz : ∀ b ∈ xs.zip ds, Rp X.K H g b.1 b.2 ∧ b.2 ∈ ds := fun b m => rx.mem_zip m
  have e2 : ((xs.zip ds).map fun b => b.2.pyD) = ds.map D.pyD := by
    have : ((xs.zip ds).map fun b => b.2.pyD) = ((xs.zip ds).map (·.2)).map D.pyD := by rw [List.map_map]; rfl
    rw [this, z2]
  refine ⟨xs.zip ds, D.pyD, z1, fun b m => ?_, ?_, ?_, fun b m => (c1 _ (mz b m).2).2, fun p hp => ?_⟩
  · obtain ⟨pd, ep⟩ := Option.isSome_iff_exists.mp (c1 _ (mz b m).2).1
    unfold D.pyD
    rw [ep]
    exact (mz b m).1.dp ep
  · rw [e2]
    intro p hp q hq
    obtain ⟨d, hd, rfl⟩ := List.mem_map.mp hp
    obtain ⟨f, hf, rfl⟩ := List.mem_map.mp hq
    exact c2 d hd f hf
  · rw [e2]
    rcases c3 with c3 | c3
    · refine .inl fun p hp => ?_
      obtain ⟨d, hd, rfl⟩ := List.mem_map.mp hp
      have h4 := c3 d hd
      obtain ⟨pd, ep⟩ := Option.isSome_iff_exists.mp (c1 d hd).1
      cases d <;> first | (exact absurd h4 Bool.false_ne_true) | skip
      rename_i l
      simp only [D.py, Option.map_eq_some_iff] at ep
      obtain ⟨q, e4, rfl⟩ := ep
      exact ⟨q, by unfold D.pyD; simp [D.py, e4]⟩
    · refine .inr fun p hp => ?_
      obtain ⟨d, hd, rfl⟩ := List.mem_map.mp hp
      have := c3 d hd
      revert this
      cases d.pyD with
      | none => intro q; cases q
      | tuple l => intro q; cases q
      | _ => intro _; exact ⟨by simp, fun l q => by simp at q⟩
  · have e3 : ((xs.zip ds).mergeSort (dataLe false fun b => b.2.pyD)).map (·.2) = sortD ds := by
      rw [List.map_mergeSort (s := fun x y => !D.lt y x) (f := fun b : V × D => b.2)]
      · rw [z2]; rfl
      · intro b _ b' _; rfl
    have r2 : RpA X.K H g (((xs.zip ds).mergeSort (dataLe false fun b => b.2.pyD)).map (·.1)) (sortD ds) := by
      rw [← e3]
      exact RpA.of_pairs fun b m => (mz b (by simpa [List.mem_mergeSort] using m)).1
    exact out_lst s r2 h3 p hp
theorem ud_sortedE : UnD X z (rSortedE X.K) opSortedL := by
  intro S σ H g x dx Q s px h
  obtain ⟨ds, e, h2⟩ := h.opt
  obtain ⟨c, h3⟩ := h2.need
  obtain ⟨ad, xs, rfl, hx, rx⟩ := px.lis e
  obtain ⟨bs, k, e1, q⟩ := sortE_parts s rx c h3
  exact ⟨ad, bs, k, rfl, by rw [e1]; exact hx, q⟩
theorem de_sortedE (hc : X.calm = true) (hu : X.A.units + 65 < cLine) (hm : X.mg "sorted" = none) (ha : DE X z a fa) (hg : Gl X "sorted" := by rfl) (hs : starEach [a] X.env = (false, eval a X.env) :: starEach [] X.env := by rfl) (hpl : (backTo pos (starEach [] X.env)).any (·.1) = false := by rfl) :
    DE X z (.Call (.Name "sorted" p) [a] [] pos) (unM opSortedE fa) :=
  de_un (fun S σ H g x dx Q s px h => by
    unfold opSortedE at h
    split at h
    · rename_i t ks vs
      unfold opSortedD at h
      cases t with
      | true => exact h.none.elim
      | false =>
        simp only at h
        obtain ⟨ns, e, h2⟩ := h.opt
        obtain ⟨c, h3⟩ := h2.need
        rw [Bool.and_eq_true] at c
        have c1 := of_decide_eq_true c.1
        have c2 := of_decide_eq_true c.2
        obtain ⟨ad, o, ws, rfl, hx, cc, rx⟩ := px.dct
        cases cc with
        | dK kvs =>
          refine .inr ⟨ad, kvs, ns, rfl, .inl hx, ints_keys e, c1, fun ys p hp hup hn => ?_⟩
          have := perm_up hp hup c2
          subst this
          exact out_lst s (RpA.of_ints _) h3 p hn
    · exact .inl (ud_sortedE S σ H g x dx Q s px h))
    (pe_callB ((cr_sortedE hu).or (call_sortedDI hc)) hg hm (by decide +kernel) (pa_cons ha pa_nil hs) (he := hs) (hpl := hpl))
def D.tups? : List D → Option (List (List Int))
  | [] => some []
  | .tup ds :: r => (D.ints? ds).bind fun ns => (D.tups? r).map fun q => ns :: q
  | _ => none
def tupI (ns : List Int) : D := .tup (ns.map .int)
theorem tups?_of : ∀ {ds : List D} {ks : List (List Int)}, D.tups? ds = some ks → ds = ks.map tupI
  | [], ks, e => by simp [D.tups?] at e; subst e; rfl
  | d :: r, ks, e => by
    cases d <;> simp [D.tups?, Option.bind_eq_some_iff] at e
    obtain ⟨ns, e1, q, e2, rfl⟩ := e
    rw [List.map_cons, ← tups?_of e2, ints?_of e1]; rfl
def opSortSetT (d : D) : M Res := M.opt (d.lis.bind D.tups?) fun ks => M.need (decide (ks.length < 64)) (pure (.new (.lst ((sortT ks).map tupI))))
def opSortSetE (d : D) : M Res := match d.lis.bind D.ints? with
  | some _ => opSortSet d
  | none => opSortSetT d
theorem RpA.tups : ∀ {vs : List V} {ks : List (List Int)}, RpA K H g vs (ks.map tupI) → ∃ ps : List (Addr × List Int), vs = ps.map (fun p => V.ref p.1) ∧ ps.map (·.2) = ks ∧ ∀ p ∈ ps, H p.1 = some (.tup (p.2.map V.int))
  | _, [], .nil => ⟨[], rfl, rfl, fun p hp => by cases hp⟩
  | _, k :: r, .cons h t => by
    obtain ⟨ps, e1, e2, e3⟩ := RpA.tups t
    cases h with
    | @tup ad xs ds hx rx =>
      have := rx.ints; subst this
      refine ⟨(ad, k) :: ps, by rw [e1]; rfl, by rw [List.map_cons, e2], fun p hp => ?_⟩
      rcases List.mem_cons.mp hp with rfl | hp
      · exact hx
      · exact e3 p hp
theorem RpA.of_tups : ∀ {ps : List (Addr × List Int)}, (∀ p ∈ ps, H p.1 = some (.tup (p.2.map V.int))) → RpA K H g (ps.map fun p => V.ref p.1) ((ps.map (·.2)).map tupI)
  | [], _ => .nil
  | p :: r, h => .cons (.tup (h p List.mem_cons_self) (RpA.of_ints p.2)) (RpA.of_tups fun q hq => h q (List.mem_cons_of_mem _ hq))
theorem de_sortedSetE (hc : X.calm = true) (hu : X.A.units + 65 < cLine) (hm : X.mg "sorted" = none) (hm2 : X.mg "set" = none) (ha : DE X z a fa) (hg : Gl X "sorted" := by rfl) (hg2 : Gl X "set" := by rfl) (na : starEach [a] X.env = (false, eval a X.env) :: starEach [] X.env := by rfl)
    (na2 : starEach [.Call (.Name "set" p2) [a] [] pos2] X.env = (false, eval (.Call (.Name "set" p2) [a] [] pos2) X.env) :: starEach [] X.env := by rfl) (hpl : (backTo pos (starEach [] X.env)).any (·.1) = false := by rfl) (hpl2 : (backTo pos2 (starEach [] X.env)).any (·.1) = false := by rfl) :
    DE X z (.Call (.Name "sorted" p) [.Call (.Name "set" p2) [a] [] pos2] [] pos) (unM opSortSetE fa) :=
  PE.imp (pe_callB ((cr_sortedSet hc).or (cr_sortedTE hc (by omega))) hg hm (by decide +kernel) (pa_cons (pe_callTy ((cr_setI hc).or (cr_setOfT hc (by omega))) hg2 hm2 (by decide +kernel) (pa_cons ha pa_nil na) (he := na) (hpl := hpl2)) pa_nil na2) (he := na2) (hpl := hpl)) fun σ H Q ⟨S, g, s, h⟩ =>
    ⟨S, g, s, h.bnd.imp fun r S1 H1 g1 s1 f1 h0 x rx => by
      unfold opSortSetE at h0
      split at h0
      · obtain ⟨ns, e, h2⟩ := h0.opt
        obtain ⟨c, h3⟩ := h2.need
        rw [Bool.and_eq_true] at c
        have c1 := of_decide_eq_true c.1
        have c2 := of_decide_eq_true c.2
        obtain ⟨ds, e1, e2⟩ := Option.bind_eq_some_iff.mp e
        obtain ⟨ad, xs, rfl, hx, rxs⟩ := (s1.pk rx).lis e1
        have := ints?_of e2; subst this
        have := rxs.ints; subst this
        refine .inl ⟨ad, ns, rfl, hx, c1, fun p T n hp hT ⟨l, l1, l2, l3⟩ => ?_⟩
        have hl : (sortS ns).length = n := by
          rw [← l3]
          exact nodup_len (up_nodup (sortS_up ns)) l1 fun k => by rw [sortS_mem, l2]
        refine .inl ⟨p, T, n, rfl, upd_same, by omega, fun ms q hup hmem hlen hq => ?_⟩
        have em : ms = sortS ns := up_unique hup (sortS_up ns) fun k => by rw [hmem, hT, sortS_mem]
        subst em
        have sr := s1.upd_new (o := SetO X.w p T n) hp
        have fr : Fr H1 g1 (upd H1 p (SetO X.w p T n)) g1 := Fr.upd_new hp
        exact out_lst sr (RpA.of_ints _) (Go.at h3 fr) q hq
      · obtain ⟨ks, e, h2⟩ := h0.opt
        obtain ⟨c, h3⟩ := h2.need
        have c1 := of_decide_eq_true c
        obtain ⟨ds, e1, e2⟩ := Option.bind_eq_some_iff.mp e
        obtain ⟨ad, xs, rfl, hx, rxs⟩ := (s1.pk rx).lis e1
        have := tups?_of e2; subst this
        obtain ⟨ps, rfl, e4, e5⟩ := rxs.tups
        refine .inr ⟨ad, ps, rfl, hx, fun p hp => SqT.of (e5 p hp), by rw [← List.length_map (f := (·.2)), e4]; exact c1, fun p L hp hL1 hL2 => ?_⟩
        have hne : ∀ q ∈ L, q.1 ≠ p := fun q hq h => by
          have := e5 q (hL1 q hq)
          rw [h, hp] at this; cases this
        have sr := s1.upd_new (o := SetTO X.prog X.w p L) hp
        have fr : Fr H1 g1 (upd H1 p (SetTO X.prog X.w p L)) g1 := Fr.upd_new hp
        have e6 : ∀ q ∈ L, upd H1 p (SetTO X.prog X.w p L) q.1 = some (.tup (q.2.map V.int)) := fun q hq => by rw [upd_ne (hne q hq)]; exact e5 q (hL1 q hq)
        refine .inr ⟨p, L, rfl, upd_same, fun q hq => SqT.of (e6 q hq), fun L' q pm nd few pw hq => ?_⟩
        have em : L'.map (·.2) = sortT ks := by
          refine DLT.upT_unique (DLT.upT_of (List.pairwise_map.mpr pw) nd) (DLT.sortT_up ks) fun k => ?_
          rw [DLT.sortT_mem, (pm.map (·.2)).mem_iff]
          constructor
          · intro hk
            obtain ⟨q, hq, rfl⟩ := List.mem_map.mp hk
            rw [← e4]
            exact List.mem_map.mpr ⟨q, hL1 q hq, rfl⟩
          · intro hk
            rw [← e4] at hk
            obtain ⟨q, hq, rfl⟩ := List.mem_map.mp hk
            exact hL2 q hq
        have rp : RpA X.K (upd H1 p (SetTO X.prog X.w p L)) g1 (L'.map fun q => V.ref q.1) ((sortT ks).map tupI) := by
          rw [← em]
          exact RpA.of_tups fun q hq => e6 q (pm.mem_iff.mp hq)
        exact out_lst sr rp (Go.at h3 fr) q hq⟩
def QStep (K : PySem.W.Frag) (H : Hp) (v : V) (H' : Hp) (r : Res) : Prop := ∀ z S σ g, SR K z S σ H g → ∃ g', SR K z S σ H' g' ∧ Fr H g H' g' ∧ ResOk K z S σ H' g' v r
structure QE (X : Cx) (e : Expr) (r : Res) : Prop where
  pe : PE X e fun _ H Q => ∀ v H', QStep X.K H v H' r → Q v H'
theorem QStep.set {D0 : Ends} {i : Nat} {f : M Fl} (q : QStep K H v H' r) (s : SR K z S σ H g) (h : GoS K mg z (seqM (asgM i (pure r)) f) S σ H g D0) : ∃ S1 g1, SR K z S1 (σ.set i (some v)) H' g1 ∧ GoS K mg z f S1 (σ.set i (some v)) H' g1 D0 := by
  obtain ⟨g1, s1, f1, rv⟩ := q z S σ g s
  have h1 : GoS K mg z (asgM i (pure r)) S σ H' g1 ⟨fun σ1 H1 => ∃ S2 g2, SR K z S2 σ1 H1 g2 ∧ GoS K mg z f S2 σ1 H1 g2 D0, fun _ _ => True, fun _ _ => True, fun _ _ => True⟩ := by
    refine GoS.seq (GoS.at h f1) (fun S1 σ1 H1 g1 s h => ⟨S1, g1, s, h⟩) (fun _ _ _ _ _ _ => trivial) (fun _ _ _ _ _ _ => trivial) (fun _ _ _ _ _ _ _ _ _ => trivial)
  exact GoS.set s1 rv h1
variable {i j l : Nat} {x y w : Str} {px py pw pt pt2 : Pos} {kt k2 : Nat} {ra rb rc : Res}
end
end DL
end
section
set_option maxRecDepth 100000
namespace DL
open PySem L2
def Er {α : Type} (m : M α) (S : Sx) (E : Exn → Sx → Prop) : Prop := match m S with
  | some (.error x, S') => E x S'
  | _ => False
def De (den : Den) (as o : List D) (E : Exn → List D → Prop) : Prop := match den as o with
  | some (.error x, o') => E x o'
  | _ => False
section
variable {α β : Type} {f : M α} {k : α → M β} {S : Sx} {E : Exn → Sx → Prop} {n i : Nat} {d : D} {o as ds : List D} {env : List Slot}
theorem Er.mono {E' : Exn → Sx → Prop} (h : Er f S E) (q : ∀ x S', E x S' → E' x S') : Er f S E' := by
  unfold Er at h ⊢
  split at h
  · exact q _ _ h
  · exact h.elim
theorem er_bind1 (h : Er f S E) : Er (f >>= k) S E := by
  unfold Er at h ⊢
  show (match M.bnd f k S with | some (.error x, S') => E x S' | _ => False)
  unfold M.bnd
  cases e : f S with
  | none => rw [e] at h; exact h
  | some p =>
    obtain ⟨r, S1⟩ := p
    rw [e] at h
    cases r with
    | ok a => exact h.elim
    | error x => exact h
theorem er_bind2 (h : Rn f S fun a S' => Er (k a) S' E) : Er (f >>= k) S E := by
  unfold Rn at h
  unfold Er
  show (match M.bnd f k S with | some (.error x, S') => E x S' | _ => False)
  unfold M.bnd
  cases e : f S with
  | none => rw [e] at h; exact h.elim
  | some p =>
    obtain ⟨r, S1⟩ := p
    rw [e] at h
    cases r with
    | ok a => exact h
    | error x => exact h.elim
theorem er_err {c : Str} {fs : Option (List (Str × D))} (h : E ⟨c, fs⟩ S) : Er (errM c fs : M α) S E := h
theorem er_seq1 {a b : M Fl} (h : Er a S E) : Er (seqM a b) S E := er_bind1 h
theorem er_seq2 {a b : M Fl} (h : Rn a S fun fl S' => fl = .next ∧ Er b S' E) : Er (seqM a b) S E :=
  er_bind2 (h.mono fun fl S' ⟨e, q⟩ => by subst e; exact q)
theorem er_if {t : M Bool} {a b : M α} (h : Rn t S fun c S' => if c = true then Er a S' E else Er b S' E) : Er (ifM t a b) S E :=
  er_bind2 (h.mono fun c S' q => by
    show Er (if c = true then a else b) S' E
    split
    · rename_i e; rw [if_pos e] at q; exact q
    · rename_i e; rw [if_neg e] at q; exact q)
theorem er_raise {c fn : Str} {fa : M (List Res)} (h : Rn fa S fun rs S1 => Rn (useAll rs) S1 fun ds S2 => ∃ d, ds = [d] ∧ E ⟨c, some [(fn, d)]⟩ S2) : Er (raiseM c fn fa) S E :=
  er_bind2 (h.mono fun rs S1 q => er_bind2 (q.mono fun ds S2 ⟨d, e, q⟩ => by subst e; exact er_err q))
theorem er_call {den : Den} {fs : M (List Res)} (h : Rn fs S fun rs S' => rs.length = n ∧ De den (rs.map (·.d)) S'.objs fun x o' => E x (putAll rs ⟨S'.env, o'⟩)) : Er (callM n den fs) S E := by
  refine er_bind2 (h.mono fun rs S' ⟨hl, q⟩ => ?_)
  unfold Er
  unfold De at q
  dsimp only
  rw [if_pos hl]
  cases e : den (rs.map (·.d)) S'.objs with
  | none => rw [e] at q; exact q
  | some p =>
    obtain ⟨r, o'⟩ := p
    rw [e] at q
    cases r with
    | ok a => exact q.elim
    | error x => exact q
theorem er_asg {g : M Res} (h : Er g S E) : Er (asgM i g) S E := er_bind1 h
theorem er_ret {g : M Res} (h : Er g S E) : Er (retM g) S E := er_bind1 h
theorem de_run' {b : M Fl} {E : Exn → List D → Prop} (h : Er b ⟨as.map .dat ++ List.replicate (n - as.length) .un, o⟩ fun x S => E x S.objs) : De (runB n b) as o E := by
  unfold De runB
  unfold Er at h
  cases e : b ⟨as.map .dat ++ List.replicate (n - as.length) .un, o⟩ with
  | none => rw [e] at h; exact h
  | some p =>
    obtain ⟨r, S'⟩ := p
    rw [e] at h
    cases r with
    | ok fl => exact h.elim
    | error x => exact h
end
theorem De.mono {den : Den} {as o : List D} {E E' : Exn → List D → Prop} (h : De den as o E) (q : ∀ x o', E x o' → E' x o') : De den as o E' := by
  unfold De at h ⊢
  split at h
  · exact q _ _ h
  · exact h.elim
end DL
end
section
set_option maxRecDepth 100000
namespace DL
open PySem PySem.Spec L2
section
variable {X : Cx} {z : Zx} {S S' : Sx} {σ : L2.St} {H H' H0 : Hp} {g g' g2 : Gh} {v : V} {d : D} {r : Res} {K : PySem.W.Frag} {mg : Str → Option Value} {pos p : Pos} {a b c e : Expr} {fa fb fc : M Res} {i : Nat}
def opPopAt : D → D → Option (D × D)
  | .lst ds, .int i => if -(2 ^ 63) ≤ i ∧ i < 2 ^ 63 then (seqIndex? i ds.length).bind fun k => (ds[k]?).map fun x => (x, .lst (ds.eraseIdx k)) else Option.none
  | _, _ => Option.none
theorem RpA.eraseIdx : ∀ {vs : List V} {ds : List D} (n : Nat), RpA K H g vs ds → RpA K H g (vs.eraseIdx n) (ds.eraseIdx n)
  | _, _, _, .nil => .nil
  | _, _, 0, .cons r t => t
  | _, _, n + 1, .cons r t => .cons r (RpA.eraseIdx n t)
theorem md_popAt : MetD X rPopAt opPopAt := by
  intro H g ad x d dx res d' Q rt rp e hb m h
  obtain ⟨ds, rfl⟩ : ∃ ds, d = .lst ds := by
    cases d with
    | lst ds => exact ⟨ds, rfl⟩
    | _ => simp [opPopAt] at e
  obtain ⟨k, rfl⟩ : ∃ k, dx = .int k := by
    cases dx with
    | int k => exact ⟨k, rfl⟩
    | _ => simp [opPopAt] at e
  simp only [opPopAt] at e
  split at e
  · rename_i hk
    obtain ⟨j, e1, e⟩ := Option.bind_eq_some_iff.mp e
    obtain ⟨y, e2, e⟩ := Option.map_eq_some_iff.mp e
    cases e
    obtain ⟨xs, hx, rx⟩ := rt.lstAt
    obtain ⟨w, e3, rw'⟩ := rx.get e2
    have fr : Fr H g (upd H ad (.lst (xs.eraseIdx j))) g := Fr.mut hb
    exact ⟨ad, xs, k, j, w, rfl, by rw [Pk.int (.inl rp)], hx, hk.1, hk.2, by rw [rx.length]; exact e1, e3, h _ _ trivial (.lst upd_same ((rx.eraseIdx j).fr fr m)) (rw'.fr fr m)⟩
  · cases e
variable {apos px : Pos} {x : Str}
theorem de_popAt (i : Nat) (ha : DE X z a fa) (hN : X.N[i]? = some x := by rfl) (hv : Vis X.env.scope x := by first | exact Or.inl rfl | exact Or.inr (Or.inl rfl) | exact Or.inr (Or.inr rfl)) (hd : (x == ("__debug__" : Str)) = false := by decide) (hcd : (x == ("__classdict__" : Str)) = false := by decide)
    (h1 : attributeBase (.Name x px) "pop" X.env (eval (.Name x px) X.env) = eval (.Name x px) X.env := by rfl)
    (h2 : (((backTo pos (starEach [a] X.env)).all fun x => !x.1) && ((backToKw pos (keywordEach [] X.env)).all fun x => x.1.isSome) && decide (([a] : List Expr).length + ([] : List Keyword).length + (if ([] : List Keyword).isEmpty = true then 0 else 1) < 30)) = true := by rfl)
    (h3 : (apos.endLine == pos.line) = true := by rfl) (hs : starEach [a] X.env = (false, eval a X.env) :: starEach [] X.env := by rfl) (h5 : (backTo pos (starEach [] X.env)).any (·.1) = false := by rfl) :
    DE X z (.Call (.Attribute (.Name x px) "pop" apos) [a] [] pos) (methM "list" i fa opPopAt) :=
  de_meth1 md_popAt (pe_bm PySem.F.plainAttrs_list PySem.F.slot_list_pop PySem.F.type_list_pop mt_popAt (pe_var hN hv hd hcd) (pa_cons ha pa_nil hs) h1 h2 h3 hs h5)
def zipK : List D → Option (List D)
  | [.tup ds, .tup es] => some (zipD ds es)
  | [.lst ds, .lst es] => some (zipD ds es)
  | [.rol ds, .lst es] => some (zipD ds es)
  | [.lst ds, .rol es] => some (zipD ds es)
  | _ => Option.none
def zipI (fs : M (List Res)) : M (List D) := fs >>= fun rs => useAll rs >>= fun ds => M.opt (zipK ds) fun l => pure l
theorem di_zip {elts : List Expr} {kk : Nat} {tpos : Pos} {fs : M (List Res)} (hg : Gl X "zip") (hm : X.mg "zip" = none) (ha : DAH X z [a, b] fs)
    (hs : starEach [a, b] X.env = (false, eval a X.env) :: starEach [b] X.env := by rfl) (hpl : (backTo pos (starEach [b] X.env)).any (·.1) = false := by rfl) :
    DI X z (.Tuple elts kk tpos) (.Call (.Name "zip" p) [a, b] [] pos) (zipI fs) :=
  PI.imp (RZ.pi_zipA hg hm ha.da hs hpl) fun σ H R ⟨S, g, s, h⟩ => ⟨S, g, s, (Go.heldP ha.held h.bnd).imp fun rs S1 H1 g1 s1 f1 ⟨hh, h1⟩ xs rxs => by
    obtain ⟨S2, g2, s2, f2, rp, h2⟩ := h1.useAll s1 hh rxs
    obtain ⟨ds, e, h3⟩ := h2.opt
    have q4 := h3.pure s2
    generalize rs.map (·.d) = L at rp e
    unfold zipK at e
    split at e
    · cases e
      cases rp with | cons r1 rp => cases rp with | cons r2 rp => cases rp with | nil =>
      cases r1 with | tup hx rx => cases r2 with | tup hy ry =>
      exact ⟨_, _, _, _, rfl, .inr ⟨SqT.of hx, SqT.of hy, q4 _ (itzT_ok (fun H1 g1 f => SqT.of (f.tup s2.mu hx)) (fun H1 g1 f => SqT.of (f.tup s2.mu hy)) rx ry s2.mu)⟩⟩
    · cases e
      cases rp with | cons r1 rp => cases rp with | cons r2 rp => cases rp with | nil =>
      cases r1 with | lst hx hb rx => cases r2 with | lst hy hc ry =>
      exact ⟨_, _, _, _, rfl, .inl ⟨SqL.of hx, SqL.of hy, q4 _ (itz_ok (fun H1 g1 f => SqL.of (f.keep _ _ hx hb).1) (fun H1 g1 f => SqL.of (f.keep _ _ hy hc).1) rx ry s2.mu)⟩⟩
    · cases e
      cases rp with | cons r1 rp => cases rp with | cons r2 rp => cases rp with | nil =>
      cases r1 with | rol hx rx => cases r2 with | lst hy hc ry =>
      exact ⟨_, _, _, _, rfl, .inl ⟨hx.sq, SqL.of hy, q4 _ (itz_ok (fun H1 g1 f => (f.rol s2.mu hx).sq) (fun H1 g1 f => SqL.of (f.keep _ _ hy hc).1) rx ry s2.mu)⟩⟩
    · cases e
      cases rp with | cons r1 rp => cases rp with | cons r2 rp => cases rp with | nil =>
      cases r1 with | lst hx hb rx => cases r2 with | rol hy ry =>
      exact ⟨_, _, _, _, rfl, .inl ⟨SqL.of hx, hy.sq, q4 _ (itz_ok (fun H1 g1 f => SqL.of (f.keep _ _ hx hb).1) (fun H1 g1 f => (f.rol s2.mu hy).sq) rx ry s2.mu)⟩⟩
    · cases e⟩
end
end DL
end
section
set_option maxRecDepth 100000
namespace DL
open PySem PySem.Spec L2
section
variable {X : Cx} {z : Zx} {S S' : Sx} {σ : L2.St} {H H' H0 : Hp} {g g' g2 : Gh} {v : V} {d : D} {r : Res} {K : PySem.W.Frag} {mg : Str → Option Value} {pos p : Pos} {a b c e : Expr} {fa fb fc : M Res} {i : Nat}
def D.ty : D → Option String
  | .non => some "NoneType"
  | .bl _ => some "bool"
  | .int _ => some "int"
  | .str _ => some "str"
  | .tup _ => some "tuple"
  | .lst _ => some "list"
  | .rol _ => some "list"
  | .dct false _ _ => some "dict"
  | .rdc false _ _ => some "dict"
  | _ => none
def isiB (t T : String) : Option Bool :=
  if T = "int" then some (t = "int" || t = "bool") else if T = "bool" then some (t = "bool") else if T = "str" then some (t = "str") else if T = "tuple" then some (t = "tuple") else if T = "list" then some (t = "list") else if T = "dict" then some (t = "dict") else none
theorem isi_kit {t T : String} {r : Bool} (ht : t ∈ ["NoneType", "bool", "int", "str", "tuple", "list", "dict"]) (h : isiB t T = some r) : kitB t T = some r := by
  simp only [List.mem_cons, List.not_mem_nil, or_false] at ht
  unfold isiB at h
  split at h
  · rename_i e; subst e; cases h
    rcases ht with rfl | rfl | rfl | rfl | rfl | rfl | rfl <;> decide +kernel
  · split at h
    · rename_i e; subst e; cases h
      rcases ht with rfl | rfl | rfl | rfl | rfl | rfl | rfl <;> decide +kernel
    · split at h
      · rename_i e; subst e; cases h
        rcases ht with rfl | rfl | rfl | rfl | rfl | rfl | rfl <;> decide +kernel
      · split at h
        · rename_i e; subst e; cases h
          rcases ht with rfl | rfl | rfl | rfl | rfl | rfl | rfl <;> decide +kernel
        · split at h
          · rename_i e; subst e; cases h
            rcases ht with rfl | rfl | rfl | rfl | rfl | rfl | rfl <;> decide +kernel
          · split at h
            · rename_i e; subst e; cases h
              rcases ht with rfl | rfl | rfl | rfl | rfl | rfl | rfl <;> decide +kernel
            · cases h
theorem ty_mem {t : String} (h : d.ty = some t) : t ∈ ["NoneType", "bool", "int", "str", "tuple", "list", "dict"] := by
  cases d with
  | dct b ks vs => cases b <;> simp [D.ty] at h <;> subst h <;> simp
  | rdc b ks vs => cases b <;> simp [D.ty] at h <;> subst h <;> simp
  | _ => simp [D.ty] at h <;> subst h <;> simp
theorem ty_dc {o : HO} {ks : List D} {ws : List V} {ad : Addr} (hx : H ad = some o) (c : DcAt H ad o false ks ws) : TyX K H (.ref ad) (.type "dict") := by
  cases c with
  | dK kvs => exact .base (.dK hx)
theorem ty_dcF {o : Obj} {u : HO} {ks : List D} {ws : List V} {ad : Addr} (hx : H ad = some (.frz o u)) (c : DcAt H ad u false ks ws) : TyX K H (.ref ad) (.type "dict") := by
  cases c with
  | dK kvs => exact .fDict hx
theorem Pk.tyX {t : String} (p : Pk K H g v d) (h : d.ty = some t) : TyX K H v (.type t) := by
  rcases p with p | ⟨ad, rfl, p⟩
  · cases p with
    | non => cases h; exact .base .non
    | bl b => cases h; exact .base (.bl b)
    | int b => cases h; exact .base (.int b)
    | str b => cases h; exact .base (.str b)
    | tup hx r => cases h; exact .base (.tup hx)
    | lst hx n r => cases h; exact .base (.lst hx)
    | @dct a o tt ks vs ws hx c n r => cases tt with
      | false => cases h; exact ty_dc hx c
      | true => cases h
    | rol hx r =>
      cases h
      rcases hx with ⟨o, hx⟩ | ⟨o, its, n, hx, hc, _⟩
      · exact .base (.frz hx)
      · exact .kList hx hc
    | obj e => cases h
    | opq v => cases h
    | cod a q => cases h
    | @rdc a o u tt ks vs ws hx c r => cases tt with
      | false => cases h; exact ty_dcF hx c
      | true => cases h
  · cases p with
    | lst hx r => cases h; exact .base (.lst hx)
    | @dct o tt ks vs ws hx c r => cases tt with
      | false => cases h; exact ty_dc hx c
      | true => cases h
    | tab hx => cases h
def opIsi (T : String) (d : D) : M Res := M.opt (d.ty.bind fun t => isiB t T) fun b => pure (.dat (.bl b))
theorem ud_isi {T : String} : UnD X z (fun xs H Q => rIsi X.K (xs ++ [.ty T]) H Q) (opIsi T) := by
  intro S σ H g x dx Q s px h
  obtain ⟨b, e, h2⟩ := h.opt
  obtain ⟨t, e1, e2⟩ := Option.bind_eq_some_iff.mp e
  exact ⟨x, .ty T, .type t, .type T, b, rfl, .ty T, px.tyX e1, kit_ty (isi_kit (ty_mem e1) e2), out_dat s (.bl b) h2⟩
theorem de_isi {T : String} {pT : Pos} {nT : Str} (hm : X.mg "isinstance" = none) (hT : X.mg nT = none) (ha : DE X z a fa) (hg : Gl X "isinstance" := by rfl) (hgT : Gl X nT := by rfl) (hv : bootBuiltins nT = some (.type T) := by decide +kernel) (hn : nT ≠ "__name__" := by decide) (hd : (nT == ("__debug__" : Str)) = false := by decide)
    (hs : starEach [a, .Name nT pT] X.env = (false, eval a X.env) :: starEach [.Name nT pT] X.env := by rfl) (hs2 : starEach [.Name nT pT] X.env = (false, eval (.Name nT pT) X.env) :: starEach [] X.env := by rfl) (hpl : (backTo pos (starEach [.Name nT pT] X.env)).any (·.1) = false := by rfl) :
    DE X z (.Call (.Name "isinstance" p) [a, .Name nT pT] [] pos) (unM (opIsi T) fa) :=
  PE.imp (pe_callB call_isi hg hm PyProof.Rows.boot_isinstance (pa_cons ha (pa_cons (pe_bltn hgT hT hv (show RelV (.ty T) (.type T) from rfl) hn hd) pa_nil hs2) hs) (he := hs) (hpl := hpl)) fun σ H Q ⟨S, g, s, h⟩ =>
    ⟨S, g, s, h.bnd.imp fun r S1 H1 g1 s1 f1 h1 x rx => ud_isi S1 σ H1 g1 x _ Q s1 (s1.pk rx) h1⟩
def chK (f g : Int → Int → Bool) (fc : M Res) (i j : Int) : M Bool := if f i j = true then fc >>= fun rc => M.opt rc.d.isInt fun k => pure (g j k) else pure false
def chT (f g : Int → Int → Bool) (fa fb fc : M Res) : M Bool := fa >>= fun ra => M.opt ra.d.isInt fun i => fb >>= fun rb => M.opt rb.d.isInt fun j => chK f g fc i j
def chM (f g : Int → Int → Bool) (fa fb fc : M Res) : M Res := chT f g fa fb fc >>= fun b => pure (.dat (.bl b))
theorem ch_go {f g' : Int → Int → Bool} {Q : VK} (s : SR X.K z S σ H g) (h : Go X.K X.mg z (chT f g' fa fb fc) S σ H g fun b _ H' _ => Q (.bl b) H') : tChain (rI0 fun i j => .bl (f i j)) (rI0 fun i j => .bl (g' i j)) (tD X.K X.mg z fa) (tD X.K X.mg z fb) (tD X.K X.mg z fc) σ H Q := by
  refine ⟨S, g, s, h.bnd.imp fun ra S1 H1 g1 s1 f1 h1 x rx => ?_⟩
  obtain ⟨i, ei, h2⟩ := h1.opt
  have ex := isInt_pk (s1.pk rx) ei
  refine ⟨S1, g1, s1, h2.bnd.imp fun rb S3 H3 g3 s3 f3 h3 y ry => ?_⟩
  obtain ⟨j, ej, h4⟩ := h3.opt
  have ey := isInt_pk (s3.pk ry) ej
  refine ⟨i, j, ex, ey, f i j, rfl, ?_⟩
  unfold chK at h4
  by_cases c : f i j = true
  · rw [if_pos c] at h4 ⊢
    refine ⟨S3, g3, s3, h4.bnd.imp fun rc S5 H5 g5 s5 f5 h5 w rw' => ?_⟩
    obtain ⟨k, ek, h6⟩ := h5.opt
    exact ⟨j, k, ey, isInt_pk (s5.pk rw') ek, h6.pure s5⟩
  · rw [if_neg c] at h4 ⊢
    exact h4.pure s3
theorem de_ch {op op' : CmpOp} {f g' : Int → Int → Bool} (ho : OpR X (compareOp op) (rI0 fun i j => .bl (f i j))) (ho' : OpR X (compareOp op') (rI0 fun i j => .bl (g' i j))) (ha : DE X z a fa) (hb : DE X z b fb) (hc : DE X z c fc)
    (hm : lastMarks [op, op'] [b, c] = false := by with_unfolding_all rfl) : DE X z (.Compare a [op, op'] [b, c] pos) (chM f g' fa fb fc) :=
  PE.imp (pe_chain ho ho' ha hb hc hm) fun σ H Q ⟨S, g, s, h⟩ => ch_go s (h.bnd.imp fun b S' H' g' s' f' q => q.pure s' _ (.bl b))
def opTupRg : D → M Res
  | .int j => M.need (decide (-(2 ^ 62) ≤ j ∧ j < 2 ^ 62 ∧ j.toNat ≤ 2 ^ 24)) (pure (.dat (.tup (rangeD 0 j.toNat))))
  | _ => M.no
theorem de_tupRg {p2 pos2 : Pos} (hc : X.calm = true) (hm : X.mg "tuple" = none) (hm2 : X.mg "range" = none) (ha : DE X z a fa) (hg : Gl X "tuple" := by rfl) (hg2 : Gl X "range" := by rfl) (na : starEach [a] X.env = (false, eval a X.env) :: starEach [] X.env := by rfl)
    (na2 : starEach [.Call (.Name "range" p2) [a] [] pos2] X.env = (false, eval (.Call (.Name "range" p2) [a] [] pos2) X.env) :: starEach [] X.env := by rfl) : DE X z (.Call (.Name "tuple" p) [.Call (.Name "range" p2) [a] [] pos2] [] pos) (unM opTupRg fa) :=
  PE.imp (pe_tupRg hc hg hm (prg_1 hg2 hm2 ha na) na2) fun σ H Q ⟨S, g, s, h⟩ => ⟨S, g, s, h.bnd.imp fun r S1 H1 g1 s1 f1 h1 x rx => by
    have px := s1.pk rx
    generalize r.d = dx at h1 px
    cases dx <;> first | exact h1.none.elim | skip
    rename_i j
    obtain ⟨c, q⟩ := h1.need
    have c := of_decide_eq_true c
    refine ⟨j, px.int, ⟨by decide, by decide, c.1, c.2.1, by simpa using c.2.2⟩, ?_⟩
    have : RpA X.K H1 g1 (rgV 0 j) (rangeD 0 (j - 0).toNat) := rgV_ok (j - 0).toNat 0
    exact out_tup s1 this (by simpa using q)⟩
theorem upd_again {H : Hp} {p : Addr} {o o' : HO} : upd (upd H p o) p o' = upd H p o' := by
  funext b
  by_cases e : b = p
  · subst e; rw [upd_same, upd_same]
  · rw [upd_ne e, upd_ne e, upd_ne e]
theorem de_d1 {k : Key} {y : V} {vd : D} {ke ve : Expr} (hk : PE X ke (tC (kV k))) (hv : PE X ve (tC y)) (hr : ∀ H g, Rp X.K H g y vd) : DE X z (.Dict [some ke] [ve] pos) (pure (.new (.dct false [kD k] [vd]))) :=
  PE.imp (pe_disp (pps_cons hk hv pps_nil) rfl rfl (by simp) (by simp)) fun σ H Q ⟨S, g, s, h⟩ p hp => ⟨upd_same, [(k, y)], rfl, by simp, by
    rw [upd_again]
    exact out_dct s [(k, y)] (.cons (hr _ _) .nil) h p hp⟩
end
end DL
end
section
set_option maxRecDepth 100000
namespace DL
open PySem PySem.Spec L2
section
variable {X : Cx} {z : Zx} {S S' : Sx} {σ : L2.St} {H H' H0 : Hp} {g g' g2 : Gh} {v : V} {d : D} {r : Res} {K : PySem.W.Frag} {mg : Str → Option Value} {pos p : Pos} {a b c e : Expr} {fa fb fc : M Res} {i : Nat}
def D.isObj : D → Option Nat
  | .obj n => some n
  | _ => none
theorem Pk.obj {n : Nat} (p : Pk K H g v d) (e : d.isObj = some n) : ∃ ad, v = .ref ad ∧ g.om[n]? = some ad := by
  cases d <;> simp [D.isObj] at e
  subst e
  rcases p with p | ⟨ad, rfl, p⟩
  · cases p with | obj q => exact ⟨_, rfl, q⟩
  · cases p
theorem GoS.of_eq {f f' : M Fl} {D : Ends} (e : f S = f' S) (h : GoS K mg z f S σ H g D) : GoS K mg z f' S σ H g D := by
  unfold GoS at h ⊢
  rw [e] at h
  exact h
end
end DL
end
section
set_option maxRecDepth 100000
namespace DL
open PySem PySem.Spec L2
section
variable {X : Cx} {z : Zx} {S S' : Sx} {σ : L2.St} {H H' H0 : Hp} {g g' g2 : Gh} {v : V} {d : D} {r : Res} {K : PySem.W.Frag} {mg : Str → Option Value} {pos p : Pos} {a b c e : Expr} {fa fb fc : M Res} {i : Nat}
def drs (f : D → Option D) : List D → Option (List D)
  | [] => some []
  | d :: r => (f d).bind fun x => (drs f r).map (x :: ·)
def D.dr (objs : List D) : Nat → D → Option D
  | 0, _ => none
  | m + 1, .obj n => (objs[n]?).bind (D.dr objs m)
  | m + 1, .tup ds => (drs (D.dr objs m) ds).map .tup
  | m + 1, .lst ds => (drs (D.dr objs m) ds).map .lst
  | m + 1, .rol ds => (drs (D.dr objs m) ds).map .rol
  | m + 1, .dct t ks vs => (drs (D.dr objs m) vs).map (.dct t ks)
  | m + 1, .rdc t ks vs => (drs (D.dr objs m) vs).map (.rdc t ks)
  | _ + 1, d => some d
def gP : Gh := ⟨fun _ => False, []⟩
theorem SR.ext (s : SR K z S σ H g) (hk : ∀ a o, H a = some o → H' a = some o) : SR K z S σ H' g ∧ Fr H g H' g := by
  have fr : Fr H g H' g := ⟨fun a o h n => ⟨hk a o h, n⟩, List.prefix_rfl⟩
  have re : ∀ {a : Addr} {d : D}, Root K H g a d → H' a = H a := fun {a d} r => by
    cases q : H a with
    | none => exact absurd q r.there
    | some o => exact hk a o q
  refine ⟨?_, fr⟩
  constructor
  · exact s.len
  · exact fun i d e => let ⟨v, e1, r⟩ := s.dat i d e; ⟨v, e1, r.fr fr s.mu⟩
  · exact fun i d e => let ⟨b, e1, hb, r, h0, ho⟩ := s.own i d e; ⟨b, e1, hb, r.fr fr s.mu (re r), h0, ho⟩
  · exact s.inj
  · exact s.olen
  · exact fun n b d e1 e2 => let ⟨r, hb⟩ := s.obj n b d e1 e2; ⟨r.fr fr s.mu (re r), hb⟩
  · exact s.ond
  · intro b hb
    have m := s.mu b hb
    cases q : H b with
    | none => rw [q] at m; exact m.elim
    | some o => rw [hk b o q]; rw [q] at m; exact m
  · exact s.base
  · exact s.b0
  · exact fun b u h0 hm => hk b u (s.keep b u h0 hm)
  · exact s.on
end
end DL
end
section
set_option maxRecDepth 100000
namespace DL
open PySem PySem.Spec L2 PyProof.Rows
abbrev ClK := Option Nat × Value × (Addr → Value → Option Addr → TS)
def endOf (D : Ends) : Option Nat → Ends
  | none => D
  | some i => ⟨fun σ H => D.nx (σ.set i none) H, D.rt, fun σ H => D.bk (σ.set i none) H, fun σ H => D.ct (σ.set i none) H⟩
def begOf (a : Addr) (σ : L2.St) : Option Nat → L2.St
  | none => σ
  | some i => σ.set i (some (.ref a))
def wG (K : PySem.W.Frag) (Wout : WX) (D : Ends) : List ClK → WX
  | [] => Wout
  | (o, c, ts) :: r => fun cls d σ H => match PySem.W.exmOne K cls c with
    | none => False
    | some true => ∀ a, H a = none → ts a cls d (endOf D o) (begOf a σ o) H
    | some false => wG K Wout D r cls d σ H
inductive ClsT (X : Cx) : ExceptHandler → ClK → Prop
  | plain {x : Str} {np q : Pos} {c : Value} {ts : Addr → Value → Option Addr → TS} {st : Stmt} {sts : List Stmt} (nm : Names X x c)
      (su : ∀ a oe cls d pn, Zc cls d oe → (∃ vs, oe.data = .fields vs) → PSs (X.suite a ((a, oe) :: pn)) (st :: sts) (ts a cls d)) : ClsT X (.ExceptHandler (some (.Name x np)) none (st :: sts) q) (none, c, ts)
  | named {x n : Str} {i : Nat} {np q : Pos} {c : Value} {ts : Addr → Value → Option Addr → TS} {st : Stmt} {sts : List Stmt} (nm : Names X x c) (at_ : X.N[i]? = some n) (loc : X.env.kindOf n = some .local)
      (su : ∀ a oe cls d pn, Zc cls d oe → (∃ vs, oe.data = .fields vs) → PSs (X.suite a ((a, oe) :: pn)) (st :: sts) (ts a cls d)) : ClsT X (.ExceptHandler (some (.Name x np)) (some n) (st :: sts) q) (some i, c, ts)
inductive HdsG (X : Cx) : List ExceptHandler → List ClK → Prop
  | nil : HdsG X [] []
  | cons {h : ExceptHandler} {k : ClK} {hs : List ExceptHandler} {ks : List ClK} : ClsT X h k → HdsG X hs ks → HdsG X (h :: hs) (k :: ks)
structure Got (X : Cx) (pins : List (Addr × Obj)) (σ : L2.St) (H : Hp) (a : Addr) (cls : Value) (d : Option Addr) (s : Shared) : Prop where
  stk : X.stack = X.env :: X.outer
  frm : X.env.frame = some X.env.locals
  air : ∃ (B : Heap) (t : Shared), Inv X pins σ H t ∧ (∀ b o, t.heap.get? b = some o → b ∉ frs X.stack → B.get? b = some o) ∧ t.heap.UpToSlots s.heap ∧ HandSPX.FlyingZ B (X.env :: X.outer) a (Zc cls d) s.heap ∧ s.os = t.os ∧ AllBare s.gens
  free : H a = none
section
variable {X : Cx} {pins : List (Addr × Obj)} {σ : L2.St} {H : Hp} {a : Addr} {cls : Value} {d : Option Addr} {s : Shared} {D : Ends} {Wout : WX}
theorem Got.inv (G : Got X pins σ H a cls d s) : Inv X pins σ H s :=
  let ⟨_, _, I, nb, up, fl, os, ag⟩ := G.air; I.landed nb fl.1 up os ag
theorem Got.obj (G : Got X pins σ H a cls d s) : ∃ oe vs, s.heap.get? a = some oe ∧ Zc cls d oe ∧ oe.data = .fields vs :=
  let ⟨_, _, _, _, _, fl, _, _⟩ := G.air; fl.there
theorem Got.apart (G : Got X pins σ H a cls d s) : a ∉ frs (X.env :: X.outer) := by
  obtain ⟨B, t, _, _, _, ⟨_, _, ff, _⟩, _, _⟩ := G.air
  obtain ⟨oe, vs, e, _, dt⟩ := G.obj
  intro m
  obtain ⟨_, o, eo, no⟩ := ff.mem m
  have : o = oe := Option.some.inj (eo.symm.trans e)
  exact no vs (this ▸ dt)
theorem Got.in_ (G : Got X pins σ H a cls d s) {oe : Obj} {vs : Array Value} (e : s.heap.get? a = some oe) (dt : oe.data = .fields vs) : Inv (X.suite a ((a, oe) :: (X.pn ++ pins))) [] σ H s := by
  refine G.inv.suite e dt G.free (fun q => G.apart ?_) fun m => G.apart ?_
  · rw [q]; exact List.mem_filterMap.mpr ⟨X.env, .head _, G.frm⟩
  · obtain ⟨v, mv, q⟩ := List.mem_filterMap.mp m
    exact List.mem_filterMap.mpr ⟨v, .tail _ mv, q⟩
theorem Got.again {M : Model} {A : Around} {E : Value → Shared → Prop} {Q : Unit → Shared → Prop} (G : Got X pins σ H a cls d s) (q : ∀ s', Got X pins σ H a cls d s' → Q () s') : wpAny M A (setFlight (.ref a) none) Q E s := by
  obtain ⟨B, t, I, nb, up, fl, os, ag⟩ := G.air
  exact HandSPX.lands_againZ fl fun h2 fl2 up2 => q _ ⟨G.stk, G.frm, ⟨B, t, I, nb, up.trans up2, fl2, os, ag⟩, G.free⟩
theorem Got.out (G : Got X pins σ H a cls d s) (tk : Takes X Wout) (w : Wout cls d σ H) : wpAny (model X.prog X.w) X.A (handleBy (.ref a) X.env []) (SP X pins D) X.xe s := by
  obtain ⟨B, t, I, nb, up, fl, os, ag⟩ := G.air
  have up1 : wpAny (model X.prog X.w) X.A (setFlight (.ref a) X.env.frame) (fun _ s2 => wpAny (model X.prog X.w) X.A (throw (.ref a) : Sem Flow) (SP X pins D) X.xe s2) X.xe s := by
    rw [G.frm]
    refine HandSPX.setFlight_upZ fl fun h2 hl up2 => wpAny_throw (tk _ _ ⟨a, B, t, pins, σ, H, cls, d, rfl, I, nb, up.trans up2, ?_, G.free, os, ag, w⟩)
    rw [G.stk]
    exact .inr (.inr hl)
  obtain ⟨_, _, _, oe, vs, T, _, _, e, _, dt, e1, _⟩ := fl
  refine wpAny_handleBy_nil (?_ : wpAny _ _ (PySem.passOn _ _ _) _ _ _)
  unfold PySem.passOn
  refine wpAny_bind (wpAny_field e dt e1 ?_)
  have ne : ¬ ((Value.ref T == Value.none) = true) := by simp
  rw [if_neg ne]
  first
    | exact wpAny_bind (wpAny_pure (wpAny_bind up1))
    | exact wpAny_bind up1
theorem Got.asked {x : Str} {np : Pos} {c : Value} {b : Bool} (G : Got X pins σ H a cls d s) (nm : Names X x c) (hb : PySem.W.exmOne X.K cls c = some b) {Q : Bool → Shared → Prop} {E E2 : Value → Shared → Prop} (q : Q b s) :
    wpAny (model X.prog X.w) (X.A.mark (some (.ref a))) (eval (.Name x np) X.env) (fun c' s1 => wpAny (model X.prog X.w) (X.A.mark (some (.ref a))) (excMatches (.ref a) c') Q E s1) E2 s := by
  obtain ⟨oe, vs, e, zc, dt⟩ := G.obj
  have J := G.in_ e dt
  have ty : PySem.W.Looks (model X.prog X.w) s.heap (typeOf (.ref a)) cls := fun _ _ _ _ k r => wpAny_typeOf_ref (k _ _ e) (by rw [zc.1]; exact r)
  have yes := PySem.W.exm_one (M := model X.prog X.w) G.inv.kIn ty hb
  rcases nm with ⟨g1, g2, g3 | ⟨g3, g4, g5⟩⟩
  · exact ld_glob J g1 g3 (yes.here q) g2
  · exact ld_blt J g1 g3 g4 (yes.here q) g5 g2
theorem Got.clauses (hN : X.N.Nodup) (tk : Takes X Wout) (ok : X.Ok) : ∀ {hs : List ExceptHandler} {ks : List ClK}, HdsG X hs ks → ∀ {s : Shared}, Got X pins σ H a cls d s → wG X.K Wout D ks cls d σ H →
    wpAny (model X.prog X.w) X.A (handleBy (.ref a) X.env hs) (SP X pins D) X.xe s
  | _, _, .nil, _, G, w => G.out tk w
  | _, _, .cons (k := (o, c, ts)) ct r, s, G, w => by
    have w' : (match PySem.W.exmOne X.K cls c with | none => False | some true => ∀ a, H a = none → ts a cls d (endOf D o) (begOf a σ o) H | some false => wG X.K Wout D _ cls d σ H) := w
    cases hb : PySem.W.exmOne X.K cls c with
    | none => rw [hb] at w'; exact w'.elim
    | some b =>
      rw [hb] at w'
      cases ct with
      | plain nm su =>
        refine wpAny_handleBy_cons (codeAny_handlers_test (G.asked nm hb ?_)) (fun q => by cases q)
        cases b with
        | false => exact Got.clauses hN tk ok r G w'
        | true =>
          refine codeAny_handlers_suite (G.again fun s1 G1 => ?_)
          obtain ⟨oe, vs, e, zc, dt⟩ := G1.obj
          refine wpAny_mono ((su a oe cls d (X.pn ++ pins) zc ⟨vs, dt⟩).run [] s1 σ H D (G1.in_ e dt) (w' a G.free)) (fun f s2 sp => ?_) fun _ _ no => no.elim
          cases f <;> first
            | (obtain ⟨σ2, H2, I2, q2⟩ := sp; exact ⟨σ2, H2, I2.unsuite ok, q2⟩)
            | (obtain ⟨v2, σ2, H2, I2, r2, q2⟩ := sp; exact ⟨v2, σ2, H2, I2.unsuite ok, r2, q2⟩)
      | named nm at_ loc su =>
        refine wpAny_handleBy_cons (codeAny_handlers_test (G.asked nm hb ?_)) (fun q => by cases q)
        cases b with
        | false => exact Got.clauses hN tk ok r G w'
        | true =>
          refine codeAny_handlers_suite_as (G.again fun s1 G1 => ?_)
          obtain ⟨oe, vs, e, zc, dt⟩ := G1.obj
          refine L2.store_ok (X := X.suite a ((a, oe) :: (X.pn ++ pins))) (v := .ref a) (G1.in_ e dt) hN at_ (.inl loc) rfl (fun s2 I2 => ?_) (.inr loc)
          refine wpAny_mono ((su a oe cls d (X.pn ++ pins) zc ⟨vs, dt⟩).run [] s2 _ H _ I2 (w' a G.free)) (fun f s3 sp => ?_) fun _ _ no => no.elim
          cases f <;> first
            | (obtain ⟨σ3, H3, I3, q3⟩ := sp; exact gone_ok (I3.unsuite ok) hN at_ loc fun s4 I4 => ⟨_, _, I4, q3⟩)
            | (obtain ⟨v3, σ3, H3, I3, r3, q3⟩ := sp; exact gone_ok (I3.unsuite ok) hN at_ loc fun s4 I4 => ⟨_, _, _, I4, r3, q3⟩)
theorem ps_try_gen {body : List Stmt} {h₀ : ExceptHandler} {hs : List ExceptHandler} {ks : List ClK} {pos : Pos} {tb : WX → TS} (stk : X.stack = X.env :: X.outer) (frm : X.env.frame = some X.env.locals) (hN : X.N.Nodup) (tk : Takes X Wout)
    (hb : ∀ (W : WX) (pn : List (Addr × Obj)) (xe : Value → Shared → Prop), Takes (X.tr pn xe) W → PSs (X.tr pn xe) body (tb W)) (hh : HdsG X (h₀ :: hs) ks) : PS X (.Try body (h₀ :: hs) [] [] pos) (fun D σ H => tb (wG X.K Wout D ks) D σ H) := by
  constructor
  intro pins s0 σ0 H0 D I0 go
  have ok := I0.ok
  let catch_ : Value → Shared → Prop := fun e s1 => wpAny (model X.prog X.w) X.A (noteFrame e X.env) (fun _ s2 => wpAny (model X.prog X.w) X.A (setFlight e none) (fun _ s3 => wpAny (model X.prog X.w) X.A (handleBy e X.env (h₀ :: hs)) (SP X pins D) X.xe s3) X.xe s2) X.xe s1
  have takes : Takes (X.tr (X.pn ++ pins) catch_) (wG X.K Wout D ks) := by
    rintro u s1 ⟨a, B, t, p1, σ1, H1, cls, d, rfl, I1, nb, up, sky, fr, os, ag, w⟩
    have fs : X.A.frames = some (X.env :: X.outer) := by rw [ok.frames, stk]
    refine Sky.land Zc.steady fs frm (show Sky B (X.env :: X.outer) a (Zc cls d) X.env.locals s1.heap by rw [← stk]; exact sky) fun h2 fl up2 => ?_
    exact Got.clauses hN tk ok hh ⟨stk, frm, ⟨B, t, I1.ofTry ok, nb, up.trans up2, fl, os, ag⟩, fr⟩ w
  refine wpAny_Try_except (wpAny_mono ((hb _ _ catch_ takes).run [] s0 σ0 H0 D (I0.toTry _) go) (fun f s1 sp => ?_) fun _ _ x => x)
  cases f with
  | next => obtain ⟨σ1, H1, I1, q⟩ := sp; exact wpAny_execs_nil ⟨σ1, H1, I1.ofTry ok, q⟩
  | ret u => obtain ⟨v, σ1, H1, I1, r, q⟩ := sp; exact ⟨v, σ1, H1, I1.ofTry ok, r, q⟩
  | brk => obtain ⟨σ1, H1, I1, q⟩ := sp; exact ⟨σ1, H1, I1.ofTry ok, q⟩
  | cont => obtain ⟨σ1, H1, I1, q⟩ := sp; exact ⟨σ1, H1, I1.ofTry ok, q⟩
end
end DL
namespace L2
open PySem PySem.Spec PyProof.Rows
end L2
namespace DL
open PySem PySem.Spec L2
structure OwnP (K : PySem.W.Frag) (mg : Str → Option Value) (cn : Str) : Prop where
  ex : ∃ C, mg cn = some (.ref C) ∧ PySem.W.excIn K C [.type "ValueError", .type "Exception", .type "BaseException", .type "object"] "ValueError.__new__" = true ∧ PySem.W.keepIn K (.ref C) = true ∧ PySem.W.subIn K (.ref C) (.type "BaseException") = some true ∧ PySem.W.typeIn K (.ref C) = some (.type "type")
section
variable {X : Cx} {z : Zx} {S S' : Sx} {σ σ' : L2.St} {H H' : Hp} {g g' : Gh} {v : V} {d : D} {r : Res} {a e : Expr} {es : List Expr} {fa fb : M Res} {fs : M (List Res)} {K : PySem.W.Frag} {mg : Str → Option Value} {pos p pos2 : Pos} {cn qn fn : Str}
structure Clz where
  nm : Option Nat
  sub : Str → Option Bool
  h : Exn → M Fl
def quietR : Option (Except Exn Fl × Sx) → Option (Except Exn Fl × Sx)
  | some (.ok fl, S) => some (.ok fl, S)
  | _ => none
def tryC (x : Exn) (S' : Sx) : List Clz → Option (Except Exn Fl × Sx)
  | [] => some (.error x, S')
  | c :: r => match c.sub x.cls with
    | some true => if x.still = true then (match c.nm with | some i => unslot i (c.h x (S'.put i .un)) | none => quietR (c.h x S')) else none
    | some false => tryC x S' r
    | none => none
def tryG (cs : List Clz) (b : M Fl) : M Fl := fun S => match b S with
  | some (.error x, S') => tryC x S' cs
  | r => r
inductive DHs (X : Cx) (z : Zx) : List ExceptHandler → List Clz → Prop
  | nil : DHs X z [] []
  | plain {x : Str} {b₀ : Stmt} {suite : List Stmt} {np pos' : Pos} {hds : List ExceptHandler} {cs : List Clz} (l : List (Str × Bool)) {mh : Exn → M Fl} (hl : ∀ p ∈ l, Exm X.K X.mg p.1 x p.2) (hne : ∃ c, X.mg x = some c)
      (hsu : ∀ (a : Addr) (oe : Obj) (cls : Value) (d : Option Addr) (pn : List (Addr × Obj)) (e : Exn) (z' : Zx), Zc cls d oe → (∃ vs, oe.data = .fields vs) → SuZ X.K X.mg cls d e z' → subL l e.cls = some true →
        PSs (X.suite a ((a, oe) :: pn)) (b₀ :: suite) (tS X.K X.mg z' (mh e))) (r : DHs X z hds cs) (hg : Gl X x := by rfl) (hdb : (x == ("__debug__" : Str)) = false := by decide) :
      DHs X z (.ExceptHandler (some (.Name x np)) none (b₀ :: suite) pos' :: hds) (⟨none, subL l, mh⟩ :: cs)
  | named {x n : Str} {b₀ : Stmt} {suite : List Stmt} {np pos' : Pos} {hds : List ExceptHandler} {cs : List Clz} (i : Nat) (l : List (Str × Bool)) {mh : Exn → M Fl} (hl : ∀ p ∈ l, Exm X.K X.mg p.1 x p.2) (hne : ∃ c, X.mg x = some c)
      (hsu : ∀ (a : Addr) (oe : Obj) (cls : Value) (d : Option Addr) (pn : List (Addr × Obj)) (e : Exn) (z' : Zx), Zc cls d oe → (∃ vs, oe.data = .fields vs) → SuZ X.K X.mg cls d e z' → subL l e.cls = some true →
        PSs (X.suite a ((a, oe) :: pn)) (b₀ :: suite) fun D σ H => σ[i]? = some (some (.ref a)) ∧ tS X.K X.mg z' (mh e) D σ H) (r : DHs X z hds cs)
      (hi : X.N[i]? = some n := by rfl) (hln : X.env.kindOf n = some .local := by rfl) (hg : Gl X x := by rfl) (hdb : (x == ("__debug__" : Str)) = false := by decide) :
      DHs X z (.ExceptHandler (some (.Name x np)) (some n) (b₀ :: suite) pos' :: hds) (⟨some i, subL l, mh⟩ :: cs)
theorem suz_of {cls : Value} {dx : Option Addr} {x : Exn} (t1 : SR K z S σ H g) (ex : ExnOk K mg H g cls dx x) (hst : x.still = true) : SuZ K mg cls dx x (zs z H g) := by
  refine ⟨rfl, ex.1, fun fs hfs => ?_⟩
  have ex2 := ex.2
  rw [hfs] at ex2
  obtain ⟨dd, vs, e1, e2, e3, e4⟩ := ex2
  have st : DL.D.stills (fs.map (·.2)) = true := by
    unfold Exn.still at hst
    rw [hfs] at hst
    exact hst
  refine ⟨dd, vs, e1, e3, fun S2 σ2 H2 g2 t2 => ⟨zs_keep t1 t2 e2 (xd_not_bad t1 e2), ?_⟩⟩
  exact e4.still (fun b o q nb => zs_keep t1 t2 q nb) t1.mu st
theorem ResOk.ofSuite0 {σ' : L2.St} (s : SR K z S σ H g) (h : ResOk K (zs z H g) S' σ' H' g' v r) : ResOk K z S' σ' H' g' v r := by
  cases r with
  | dat d => exact h
  | new d =>
    obtain ⟨a, e, hb, rt, h0, ho, hn⟩ := h
    exact ⟨a, e, hb, rt, zs_none s h0, ho, hn⟩
  | own k d => exact h
theorem DHs.ok {hds : List ExceptHandler} {cs : List Clz} (hh : DHs X z hds cs) : ∃ l : List ClK, HdsG X hds l ∧ ∀ (D : Ends) (x : Exn) (S1 : Sx) (σ1 : L2.St) (H1 : Hp) (g1 : Gh) (cls : Value) (dx : Option Addr),
    SR X.K z S1 σ1 H1 g1 → ExnOk X.K X.mg H1 g1 cls dx x → GoS X.K X.mg z (fun _ => tryC x S1 cs) S1 σ1 H1 g1 D → wG X.K (fun cls dx σ H => z.W cls dx σ H) D l cls dx σ1 H1 := by
  induction hh with
  | nil =>
    refine ⟨[], .nil, fun D x S1 σ1 H1 g1 cls dx s1 ex h => ?_⟩
    unfold GoS at h
    exact h cls dx σ1 H1 g1 s1 (Fr.refl _ _) ex
  | @plain x b₀ suite np pos' hds cs l mh hl hne hsu r hg hdb ih =>
    obtain ⟨lk, hk, ih⟩ := ih
    obtain ⟨c, hc⟩ := hne
    refine ⟨(none, c, fun a cls d D σ H => ∃ (e : Exn) (z' : Zx), SuZ X.K X.mg cls d e z' ∧ subL l e.cls = some true ∧ tS X.K X.mg z' (mh e) D σ H) :: lk, .cons (.plain ⟨hg, hdb, .inl hc⟩ (fun a oe cls d pn hz hd => ⟨fun pins s σ H D I ⟨e, z', sz, se, q⟩ => (hsu a oe cls d pn e z' hz hd sz se).run pins s σ H D I q⟩)) hk, fun D x S1 σ1 H1 g1 cls dx s1 ex h => ?_⟩
    have hsub := subL_of fun p hp cls hcls => (hl p hp).is _ _ hcls hc
    unfold GoS tryC at h
    dsimp only at h
    cases hsb : subL l x.cls with
    | none => rw [hsb] at h; exact h.elim
    | some b =>
      rw [hsb] at h
      have hex := hsub _ _ _ ex.1 hsb
      unfold wG
      rw [hex]
      cases b with
      | true =>
        intro a ha
        dsimp only at h
        by_cases hst : x.still = true
        · rw [if_pos hst] at h
          refine ⟨x, zs z H1 g1, suz_of s1 ex hst, hsb, S1, g1, s1.toSuite, ?_⟩
          unfold GoS
          cases hm : mh x S1 with
          | none => rw [hm] at h; exact h.elim
          | some pr =>
            obtain ⟨res, S2⟩ := pr
            rw [hm] at h
            cases res with
            | error y => exact h.elim
            | ok fl =>
              cases fl with
              | next => exact fun σ2 H2 g2 t2 f2 => h σ2 H2 g2 (s1.ofSuite t2) f2
              | brk => exact fun σ2 H2 g2 t2 f2 => h σ2 H2 g2 (s1.ofSuite t2) f2
              | cont => exact fun σ2 H2 g2 t2 f2 => h σ2 H2 g2 (s1.ofSuite t2) f2
              | ret r => exact fun σ2 H2 g2 v t2 f2 rv => h σ2 H2 g2 v (s1.ofSuite t2) f2 (ResOk.ofSuite0 s1 rv)
        · rw [if_neg hst] at h; exact h.elim
      | false => exact ih D x S1 σ1 H1 g1 cls dx s1 ex (by unfold GoS; exact h)
  | @named x n b₀ suite np pos' hds cs i l mh hl hne hsu r hi hln hg hdb ih =>
    obtain ⟨lk, hk, ih⟩ := ih
    obtain ⟨c, hc⟩ := hne
    refine ⟨(some i, c, fun a cls d D σ H => ∃ (e : Exn) (z' : Zx), SuZ X.K X.mg cls d e z' ∧ subL l e.cls = some true ∧ (∃ σ0 : L2.St, σ = σ0.set i (some (.ref a))) ∧ tS X.K X.mg z' (mh e) D σ H) :: lk,
      .cons (.named ⟨hg, hdb, .inl hc⟩ hi hln (fun a oe cls d pn hz hd => ⟨fun pins s σ H D I ⟨e, z', sz, se, ⟨σ0, e0⟩, q⟩ => (hsu a oe cls d pn e z' hz hd sz se).run pins s σ H D I ⟨by
        subst e0
        have hl := I.len
        rw [List.length_set] at hl
        have hi' : i < X.N.length := (List.getElem?_eq_some_iff.mp hi).1
        exact List.getElem?_set_self (by rw [hl]; exact hi'), q⟩⟩)) hk, fun D x S1 σ1 H1 g1 cls dx s1 ex h => ?_⟩
    have hsub := subL_of fun p hp cls hcls => (hl p hp).is _ _ hcls hc
    unfold GoS tryC at h
    dsimp only at h
    cases hsb : subL l x.cls with
    | none => rw [hsb] at h; exact h.elim
    | some b =>
      rw [hsb] at h
      have hex := hsub _ _ _ ex.1 hsb
      unfold wG
      rw [hex]
      cases b with
      | true =>
        intro a ha
        dsimp only at h
        by_cases hst : x.still = true
        · rw [if_pos hst] at h
          have tun : SR X.K z (S1.put i .un) (σ1.set i (some (.ref a))) H1 g1 := s1.put_un
          refine ⟨x, zs z H1 g1, suz_of s1 ex hst, hsb, ⟨σ1, rfl⟩, S1.put i .un, g1, tun.toSuite, ?_⟩
          unfold GoS
          cases hm : mh x (S1.put i .un) with
          | none => rw [hm] at h; exact h.elim
          | some pr =>
            obtain ⟨res, S2⟩ := pr
            rw [hm] at h
            cases res with
            | error y => exact h.elim
            | ok fl =>
              cases fl with
              | next => exact fun σ2 H2 g2 t2 f2 => h (σ2.set i none) H2 g2 (tun.ofSuite t2).put_un f2
              | brk => exact fun σ2 H2 g2 t2 f2 => h (σ2.set i none) H2 g2 (tun.ofSuite t2).put_un f2
              | cont => exact fun σ2 H2 g2 t2 f2 => h (σ2.set i none) H2 g2 (tun.ofSuite t2).put_un f2
              | ret r =>
                intro σ2 H2 g2 v t2 f2 rv
                cases r with
                | dat d => exact h (σ2.set i none) H2 g2 v (tun.ofSuite t2).put_un f2 rv
                | new d => exact h (σ2.set i none) H2 g2 v (tun.ofSuite t2).put_un f2 (ResOk.ofSuite tun rv fun _ q => by cases q)
                | own j d =>
                  have h' := h
                  unfold unslot at h'
                  by_cases hj : j = i
                  · simp only [if_pos hj] at h'
                  · simp only [if_neg hj] at h'
                    exact h' (σ2.set i none) H2 g2 v (tun.ofSuite t2).put_un f2 (ResOk.ofSuite tun rv fun _ q => by cases q; exact hj rfl)
        · rw [if_neg hst] at h; exact h.elim
      | false => exact ih D x S1 σ1 H1 g1 cls dx s1 ex (by unfold GoS; exact h)
theorem ds_tryG {body : List Stmt} {h₀ : ExceptHandler} {hds : List ExceptHandler} {cs : List Clz} {mb : M Fl} (hN : X.N.Nodup) (tk : Takes X z.W)
    (hb : ∀ (W : WX) (pn : List (Addr × Obj)) (xe : Value → Shared → Prop), Takes (X.tr pn xe) W → DB (X.tr pn xe) { z with W := W } body mb)
    (hh : DHs X z (h₀ :: hds) cs) (hs : X.stack = X.env :: X.outer := by rfl) (hf : X.env.frame = some X.env.locals := by rfl) :
    DS X z (.Try body (h₀ :: hds) [] [] pos) (tryG cs mb) := by
  obtain ⟨l, hk, hw⟩ := hh.ok
  refine PS.imp (ps_try_gen (tb := fun W => tS X.K X.mg { z with W := W } mb) hs hf hN tk hb hk) fun D σ H ⟨S, g, s, h⟩ => ?_
  refine ⟨S, g, s.withW, ?_⟩
  unfold GoS at h ⊢
  unfold tryG at h
  cases hm : mb S with
  | none => rw [hm] at h; exact h
  | some pr =>
    obtain ⟨res, S1⟩ := pr
    rw [hm] at h
    cases res with
    | ok fl =>
      cases fl with
      | next => exact fun σ' H' g' t f => h σ' H' g' t.unW f
      | brk => exact fun σ' H' g' t f => h σ' H' g' t.unW f
      | cont => exact fun σ' H' g' t f => h σ' H' g' t.unW f
      | ret r =>
        refine fun σ' H' g' v t f rv => h σ' H' g' v t.unW f ?_
        cases r <;> exact rv
    | error x =>
      intro cls dx σ1 H1 g1 t f1 ex
      have t1 : SR X.K z S1 σ1 H1 g1 := t.unW
      have h0 : GoS X.K X.mg z (fun _ => tryC x S1 cs) S1 σ H g D := by unfold GoS; exact h
      have h1 : GoS X.K X.mg z (fun _ => tryC x S1 cs) S1 σ1 H1 g1 D := by
        have h2 := h0.at f1
        unfold GoS at h2 ⊢
        exact h2
      exact hw D x S1 σ1 H1 g1 cls dx t1 ex h1
end
section
variable {X : Cx} {z : Zx} {S S' : Sx} {σ σ' : L2.St} {H H' : Hp} {g g' : Gh} {v : V} {d : D} {r : Res} {a e tg : Expr} {fa fb : M Res} {K : PySem.W.Frag} {mg : Str → Option Value}
theorem frzD_inv {pins : List (Addr × Obj)} {s : Shared} {ad : Addr} {kvs : List (Key × V)} (I : Inv X pins σ H s) (h : H ad = some (.dK kvs)) : ∃ o, Inv X pins σ (upd H ad (.frz o (.dK kvs))) s := by
  have ok := I.hok ad _ h
  obtain ⟨hl, hs, vs, kv, o, es, ep, ho, hr⟩ := id ok
  exact ⟨_, I.write (x := ad) (e := ad) (h' := s.heap) (t' := s.toks) (by rw [h]; trivial) (.inl rfl) (fun b u _ q => q) ⟨_, ho⟩ ⟨ho, hl, hs, vs, kv, o, es, ep, ho, hr⟩⟩
theorem SR.frzNew {ad : Addr} {o : Obj} {u : HO} {d : D} (s1 : SR K z S σ H g) (hx : H ad = some u) (rx : ResOk K z S σ H g (.ref ad) (.new d)) : SR K z S σ (upd H ad (.frz o u)) (g.del ad) ∧ Fr H g (upd H ad (.frz o u)) (g.del ad) := by
  obtain ⟨a', e', hb, rt, h0, hm, hn⟩ := rx
  cases e'
  have fr : Fr H g (upd H ad (.frz o u)) (g.del ad) :=
    ⟨fun b w hb' nb => ⟨by rw [upd_ne (show b ≠ ad from fun q => nb (by rw [q]; exact hb))]; exact hb', fun q => nb q.1⟩, List.prefix_rfl⟩
  refine ⟨?_, fr⟩
  constructor
  · exact s1.len
  · intro i d e
    obtain ⟨v, e1, r⟩ := s1.dat i d e
    exact ⟨v, e1, r.fr fr s1.mu⟩
  · intro i d e
    obtain ⟨b, e1, hb2, r, h2, ho⟩ := s1.own i d e
    have ne : b ≠ ad := fun q => hn i d e (by rw [e1, q])
    exact ⟨b, e1, ⟨hb2, ne⟩, r.fr fr s1.mu (upd_ne ne), h2, ho⟩
  · exact s1.inj
  · exact s1.olen
  · intro n b d e1 e2
    obtain ⟨r, hb2⟩ := s1.obj n b d e1 e2
    have ne : b ≠ ad := fun q => hm (by rw [← q]; exact List.mem_of_getElem? e1)
    exact ⟨r.fr fr s1.mu (upd_ne ne), hb2, ne⟩
  · exact s1.ond
  · intro b hb2
    have m := s1.mu b hb2.1
    rw [upd_ne hb2.2]
    exact m
  · intro b hb2
    refine ⟨s1.base b hb2, fun q => ?_⟩
    subst q
    exact s1.b0 _ hb2 h0
  · exact s1.b0
  · intro b o' h1 h2
    rw [upd_ne (fun q => by subst q; rw [h0] at h1; cases h1)]
    exact s1.keep b o' h1 h2
  · exact s1.on
end
end DL
end
section
set_option maxRecDepth 100000
namespace DL
open PySem PySem.Spec L2
section
variable {X : Cx} {z : Zx} {S S' : Sx} {σ : L2.St} {H H' : Hp} {g g' : Gh} {v : V} {d : D} {r : Res} {K : PySem.W.Frag} {mg : Str → Option Value} {pos px py pt pt2 : Pos} {a b : Expr} {fa fb : M Res} {i j kt k2 : Nat} {x y : Str} {p : Addr}
open Classical in
noncomputable def zp (z : Zx) (H : Hp) (g : Gh) (p : Addr) : Zx := ⟨fun b => if g.bad b ∧ b ≠ p then z.H0 b else H b, fun b => z.bad0 b ∨ b = p, g.om, z.W⟩
theorem zp_in {c : Addr} (h : g.bad c ∧ c ≠ p) : (zp z H g p).H0 c = z.H0 c := if_pos h
theorem zp_out {c : Addr} (h : ¬ (g.bad c ∧ c ≠ p)) : (zp z H g p).H0 c = H c := if_neg h
theorem zp_none (s : SR K z S σ H g) {c : Addr} (h : (zp z H g p).H0 c = none) : z.H0 c = none := by
  by_cases hb : g.bad c ∧ c ≠ p
  · rw [zp_in hb] at h; exact h
  · rw [zp_out hb] at h; exact s.fresh0 h
theorem SR.toP (s : SR K z S σ H g) (rv : ResOk K z S σ H g v (.new d)) (e : v = .ref p) : SR K (zp z H g p) S σ H g := by
  obtain ⟨p', e', hb, rt, h0, ho, hn⟩ := rv
  obtain rfl : p = p' := by rw [e] at e'; cases e'; rfl
  subst e
  constructor
  · exact s.len
  · exact s.dat
  · intro i d e
    obtain ⟨c, e1, hc, rt, h0, hm⟩ := s.own i d e
    have ne : c ≠ p := fun q => hn i d e (by rw [e1, q])
    exact ⟨c, e1, hc, rt, (zp_in ⟨hc, ne⟩).trans h0, hm⟩
  · exact s.inj
  · exact s.olen
  · exact s.obj
  · exact s.ond
  · exact s.mu
  · rintro c (h | rfl)
    · exact s.base c h
    · exact hb
  · intro c h
    by_cases q : g.bad c ∧ c ≠ p
    · rw [zp_in q]
      rcases h with h | h
      · exact s.b0 c h
      · exact absurd h q.2
    · rw [zp_out q]
      by_cases e : c = p
      · rw [e]; exact rt.there
      · rcases h with h | h
        · exact absurd ⟨s.base c h, e⟩ q
        · exact absurd h e
  · intro c o h hm
    by_cases q : g.bad c ∧ c ≠ p
    · rw [zp_in q] at h; exact s.keep c o h hm
    · rw [zp_out q] at h; exact h
  · exact fun c h => .inl h
theorem SR.ofP {S2 : Sx} {σ2 : L2.St} (s : SR K z S σ H g) (hp : p ∉ g.om) (t : SR K (zp z H g p) S2 σ2 H' g') : SR K z S2 σ2 H' g' := by
  constructor
  · exact t.len
  · exact t.dat
  · exact fun i d e => let ⟨c, e1, hc, rt, h0, hm⟩ := t.own i d e; ⟨c, e1, hc, rt, zp_none s h0, hm⟩
  · exact t.inj
  · exact t.olen
  · exact t.obj
  · exact t.ond
  · exact t.mu
  · exact fun c h => t.base c (.inl h)
  · exact s.b0
  · intro c o h hm
    by_cases q : g.bad c ∧ c ≠ p
    · exact t.keep c o ((zp_in q).trans h) hm
    · refine t.keep c o ((zp_out q).trans (s.keep c o h fun m => ?_)) hm
      by_cases e : c = p
      · rw [e] at m; exact hp m
      · exact q ⟨s.om_bad m, e⟩
  · intro c h
    rcases t.on c h with q | q
    · exact s.on c q
    · exact .inr (zp_none s q)
theorem SR.pStays {S2 : Sx} {σ2 : L2.St} {o : HO} (hH : H p = some o) (hp : p ∉ g.om) (t : SR K (zp z H g p) S2 σ2 H' g') : H' p = some o ∧ g'.bad p ∧ p ∉ g'.om ∧ ∀ (i : Nat) (e : D), S2.env[i]? = some (.own e) → σ2[i]? ≠ some (some (.ref p)) := by
  have e0 : (zp z H g p).H0 p = some o := (zp_out (by simp)).trans hH
  have nm : p ∉ g'.om := fun m => by
    rcases t.on p m with q | q
    · exact hp q
    · rw [e0] at q; cases q
  refine ⟨t.keep p o e0 nm, t.base p (.inr rfl), nm, fun i e h q => ?_⟩
  obtain ⟨c, e1, _, _, h0, _⟩ := t.own i e h
  rw [e1] at q
  cases q
  rw [e0] at h0; cases h0
def parNK (i j : Nat) (d : D) : Res → M Fl
  | .new e => putM i (.own d) >>= fun _ => putM j (.own e) >>= fun _ => pure .next
  | .dat e => putM i (.own d) >>= fun _ => putM j (.dat e) >>= fun _ => pure .next
  | .own _ _ => M.no
def parNM (i j : Nat) (fa fb : M Res) : M Fl := fa >>= fun ra => match ra with
  | .new d => fb >>= parNK i j d
  | _ => M.no
theorem ds_parN (i j : Nat) (hc : X.calm = true) (hN : X.N.Nodup) (ha : DE X z a fa) (hb : ∀ (H0 : Hp) (bad0 : Addr → Prop) (om0 : List Addr), DE X ⟨H0, bad0, om0, z.W⟩ b fb) (hi : X.N[i]? = some x := by rfl) (hj : X.N[j]? = some y := by rfl) (hij : i ≠ j := by decide)
    (hx : X.env.scope.names.lookup x = some .local := by rfl) (hy : X.env.scope.names.lookup y = some .local := by rfl)
    (h1 : starEach [a, b] X.env = (false, eval a X.env) :: starEach [b] X.env := by rfl) (h2 : starEach [b] X.env = (false, eval b X.env) :: starEach [] X.env := by rfl)
    (hw : swappedStores [.Tuple [.Name x px, .Name y py] kt pt] (.Tuple [a, b] k2 pt2) X.env = pure (some [x, y]) := by rfl)
    (hs : swapsWithSole [.Tuple [.Name x px, .Name y py] kt pt] (.Tuple [a, b] k2 pt2) pos.line X.env = pure false := by rfl) :
    DS X z (.Assign [.Tuple [.Name x px, .Name y py] kt pt] (.Tuple [a, b] k2 pt2) pos) (parNM i j fa fb) := by
  have pb : PE X b fun σ H Q => ∃ z' : Zx, (∃ (H0 : Hp) (b0 : Addr → Prop) (m0 : List Addr), z' = ⟨H0, b0, m0, z.W⟩) ∧ tD X.K X.mg z' fb σ H Q := ⟨fun pins s σ H Q I ⟨z', ⟨H0, b0, m0, e⟩, q⟩ => by subst e; exact (hb H0 b0 m0).run pins s σ H Q I q⟩
  refine PS.imp (ps_par hc hN hi hj hij hx hy (pa_cons ha (pa_cons pb pa_nil h2) h1) hw hs) fun D0 σ H ⟨S, g, s, q⟩ => ⟨S, g, s, (GoS.bnd q).imp fun ra S1 H1 g1 s1 f1 q1 u ru => ?_⟩
  cases ra with
  | dat d => exact q1.elim
  | own n d => exact q1.elim
  | new d =>
    obtain ⟨p, rfl, hbp, rt, h0, ho, hn⟩ := id ru
    obtain ⟨o, hH⟩ : ∃ o, H1 p = some o := by
      cases e : H1 p with
      | none => exact absurd e rt.there
      | some o => exact ⟨o, rfl⟩
    have sp := s1.toP ru rfl
    refine ⟨zp z H1 g1 p, ⟨_, _, _, rfl⟩, S1, g1, sp, ?_⟩
    have q2 : GoS X.K X.mg z (fb >>= parNK i j d) S1 σ H1 g1 D0 := q1
    -- y is reckoned under the stronger keeping
    have q3 : Go X.K X.mg z fb S1 σ H1 g1 fun rb S2 H2 g2 => GoS X.K X.mg z (parNK i j d rb) S2 σ H2 g2 D0 := q2.bnd
    unfold Go at q3 ⊢
    cases hf : fb S1 with
    | none => rw [hf] at q3; exact q3
    | some pr =>
      obtain ⟨res, S2⟩ := pr
      rw [hf] at q3
      cases res with
      | error e => exact fun cls dx H2 g2 t f2 ex => q3 cls dx H2 g2 (s1.ofP ho t) f2 ex
      | ok rb =>
        intro H2 g2 t f2 w rw_
        have s2 := s1.ofP ho t
        have q4 := q3 H2 g2 s2 f2
        obtain ⟨hH2, hb2, hm2, hn2⟩ := SR.pStays hH ho t
        have rt2 : Root X.K H2 g2 p d := rt.fr f2 s1.mu (hH2.trans hH.symm)
        have new2 : ResOk X.K z S2 σ H2 g2 (.ref p) (.new d) := ⟨p, rfl, hb2, rt2, h0, hm2, hn2⟩
        refine ⟨.ref p, w, rfl, ?_⟩
        cases rb with
        | new e =>
          obtain ⟨c, rfl, hbc, rtc, hc0, hmc, hnc⟩ := rw_
          have ne : c ≠ p := fun q => by
            rw [q] at hc0
            have e0 : (zp z H1 g1 p).H0 p = some o := (zp_out (by simp)).trans hH
            rw [e0] at hc0; cases hc0
          have s3 := s2.put_own (i := i) new2
          have q5 := GoS.put (σ' := σ.set i (some (.ref p))) (q4 : GoS X.K X.mg z (putM i (.own d) >>= fun _ => putM j (.own e) >>= fun _ => pure .next) S2 σ H2 g2 D0)
          have q6 := GoS.put (σ' := (σ.set i (some (.ref p))).set j (some (.ref c))) q5
          refine q6.next (s3.put_own ⟨c, rfl, hbc, rtc, zp_none s1 hc0, hmc, fun n f hf2 => ?_⟩)
          rcases set_get hf2 with ⟨rfl, qq⟩ | ⟨nei, qq⟩
          · intro qe
            by_cases hl : i < σ.length
            · rw [List.getElem?_set_self hl] at qe; cases qe; exact ne rfl
            · rw [List.getElem?_eq_none (by rw [List.length_set]; omega)] at qe; cases qe
          · rw [List.getElem?_set_ne nei]; exact hnc n f qq
        | dat e =>
          have q5 := GoS.put (σ' := σ.set i (some (.ref p))) (q4 : GoS X.K X.mg z (putM i (.own d) >>= fun _ => putM j (.dat e) >>= fun _ => pure .next) S2 σ H2 g2 D0)
          have q6 := GoS.put (σ' := (σ.set i (some (.ref p))).set j (some w)) q5
          exact q6.next ((s2.put_own new2).put_dat rw_)
        | own n e => exact q4.elim
end
end DL
end
section
set_option maxRecDepth 100000
namespace DL
open PySem PySem.Spec L2
section
variable {X : Cx} {z : Zx} {S S' : Sx} {σ : L2.St} {H H' H0 : Hp} {g g' : Gh} {v : V} {d : D} {K : PySem.W.Frag} {mg : Str → Option Value} {fa fb fc : M Res}
structure BlkR (K : PySem.W.Frag) (env : List Slot) (σ : L2.St) (vs : List Nat) (H1 : Hp) (g1 : Gh) (Dd : Addr) (d : D) (objs : List D) (H : Hp) (g : Gh) : Prop where
  inn : In K env objs (wipe σ vs) H g
  keep : ∀ a o, H1 a = some o → a ∉ g.om → H a = some o
  fr : Fr H1 g1 H g
  base : ∀ a, g1.bad a → g.bad a
  new : ∀ a, a ∈ g.om → a ∈ g1.om ∨ H1 a = none
  root : Root K H g Dd d
  bad : g.bad Dd
  om : Dd ∉ g.om
theorem BlkR.step {env : List Slot} {σ : L2.St} {vs : List Nat} {H1 H' H4 : Hp} {g1 g5 : Gh} {Dd : Addr} {objs : List D} {S4 : Sx} {σ2 : L2.St} (b : BlkR K env σ vs H1 g1 Dd d objs H g) (gr : Grow H H')
    (s : SR K ⟨H', g.bad, g.om, blkW⟩ S4 σ2 H4 g5) (f : Fr H' g H4 g5) : BlkR K env σ vs H1 g1 Dd d S4.objs H4 g5 := by
  have there := b.root.there
  have k1 : ∀ a o, H a = some o → H' a = some o := fun a o h => by
    rcases gr with rfl | ⟨p, xs, hp, rfl⟩
    · exact h
    · rw [upd_ne (ne_of_none h hp)]; exact h
  have f1 : Fr H g H' g := gr.fr
  have sub : ∀ a, a ∈ g.om → a ∈ g5.om := fun a h => by
    obtain ⟨t, e⟩ := f.om
    rw [← e]; exact List.mem_append_left _ h
  obtain ⟨od, eD⟩ := Option.ne_none_iff_exists'.mp there
  have nom : Dd ∉ g5.om := fun h => by
    rcases s.on Dd h with q | q
    · exact b.om q
    · change H' Dd = none at q
      rw [k1 _ _ eD] at q; cases q
  have kp : ∀ a o, H a = some o → a ∉ g5.om → H4 a = some o := fun a o h n => s.keep a o (k1 a o h) n
  have ft := f1.trans f
  refine ⟨⟨b.inn.len, fun i d e => ?_, s.olen, s.obj, s.ond, s.mu⟩, fun a o h n => kp a o (b.keep a o h fun q => n (sub a q)) n, b.fr.trans ft, fun a h => s.base a (b.base a h), fun a h => ?_, b.root.fr ft b.inn.mu ((kp _ _ eD nom).trans eD.symm), s.base _ b.bad, nom⟩
  · obtain ⟨v, e1, r⟩ := b.inn.dat i d e
    exact ⟨v, e1, r.fr ft b.inn.mu⟩
  · rcases s.on a h with q | q
    · exact b.new a q
    · change H' a = none at q
      by_cases m : a ∈ g.om
      · exact b.new a m
      · refine .inr ?_
        cases e : H1 a with
        | none => rfl
        | some o => rw [k1 _ _ (b.keep a o e m)] at q; cases q
theorem BlkR.mut {env : List Slot} {σ : L2.St} {vs : List Nat} {H1 : Hp} {g1 : Gh} {Dd : Addr} {objs : List D} {o : HO} {d' : D} (b : BlkR K env σ vs H1 g1 Dd d objs H g) (hD : H1 Dd = none) (mo : Mut (some o)) (r : Root K (upd H Dd o) g Dd d') : BlkR K env σ vs H1 g1 Dd d' objs (upd H Dd o) g := by
  have f : Fr H g (upd H Dd o) g := Fr.mut b.bad
  refine ⟨⟨b.inn.len, fun i d e => ?_, b.inn.olen, fun n a d e1 e2 => ?_, b.inn.ond, fun a hb => ?_⟩, fun a o h n => ?_, b.fr.trans f, b.base, b.new, r, b.bad, b.om⟩
  · obtain ⟨v, e1, r⟩ := b.inn.dat i d e
    exact ⟨v, e1, r.fr f b.inn.mu⟩
  · obtain ⟨rt, hb⟩ := b.inn.obj n a d e1 e2
    exact ⟨rt.fr f b.inn.mu (upd_ne fun q => b.om (q ▸ List.mem_iff_getElem?.mpr ⟨n, e1⟩)), hb⟩
  · by_cases q : a = Dd
    · subst q; rw [upd_same]; exact mo
    · rw [upd_ne q]; exact b.inn.mu a hb
  · rw [upd_ne (ne_of_none h hD)]; exact b.keep a o h n
variable {tg kx vx iter : Expr} {ifs : List Expr} {scope : Scope} {own : List (Str × Nat)} {it : M (List D)} {tgt : D → M Unit} {t : M Bool} {fk fv : M Res} {ts : List Nat} {pos : Pos}
end
end DL
end
section
set_option maxRecDepth 100000
namespace DL
open PySem PySem.Spec L2
mutual
/-- no tracked object from m on -/
def D.low (m : Nat) : D → Bool
  | .obj n => decide (n < m)
  | .tup ds => D.lows m ds
  | .lst ds => D.lows m ds
  | .rol ds => D.lows m ds
  | .dct _ _ vs => D.lows m vs
  | .rdc _ _ vs => D.lows m vs
  | _ => true
def D.lows (m : Nat) : List D → Bool
  | [] => true
  | d :: r => d.low m && D.lows m r
end
def Res.low (m : Nat) : Res → Bool
  | .dat d => d.low m
  | .new d => d.low m
  | .own _ _ => false
def Exn.low (m : Nat) (x : Exn) : Bool := match x.fs with
  | none => true
  | some fs => D.lows m (fs.map (·.2))
def Gh.cut (g : Gh) (m : Nat) : Gh := ⟨g.bad, g.om.take m⟩
section
variable {K : PySem.W.Frag} {mg : Str → Option Value} {H H' : Hp} {g g' : Gh} {m : Nat}
mutual
theorem Rp.down {v : V} : ∀ {d : D}, d.low m = true → Rp K H g v d → Rp K H (g.cut m) v d
  | _, _, .non => .non
  | _, _, .bl b => .bl b
  | _, _, .int b => .int b
  | _, _, .str b => .str b
  | _, l, .tup h r => .tup h (RpA.down l r)
  | _, l, .lst h n r => .lst h n (RpA.down l r)
  | _, l, .dct h c n r => .dct h c n (RpA.down l r)
  | _, l, .rol h r => .rol h (RpA.down l r)
  | _, l, .obj h => .obj ((List.getElem?_take_of_lt (of_decide_eq_true l)).trans h)
  | _, _, .opq v => .opq v
  | _, _, .cod a q => .cod a q
  | _, l, .rdc h c r => .rdc h c (RpA.down l r)
theorem RpA.down {vs : List V} : ∀ {ds : List D}, D.lows m ds = true → RpA K H g vs ds → RpA K H (g.cut m) vs ds
  | _, _, .nil => .nil
  | _, l, .cons h r => .cons (Rp.down (Bool.and_eq_true_iff.mp l).1 h) (RpA.down (Bool.and_eq_true_iff.mp l).2 r)
end
theorem Root.down {a : Addr} {d : D} (l : D.lows m d.parts = true) (r : Root K H g a d) : Root K H (g.cut m) a d := by
  cases r with
  | lst h r => exact .lst h (r.down l)
  | dct h c r => exact .dct h c (r.down l)
  | tab h => exact .tab h
theorem take_pre {α : Type} {l m : List α} (h : l <+: m) : m.take l.length = l := by
  obtain ⟨t, rfl⟩ := h
  simp
theorem Behind.cut {objs' : List D} (b : Behind K H g objs' H' g') (l : (objs'.take g.om.length).all (fun d => D.lows g.om.length d.parts) = true) : Behind K H g (objs'.take g.om.length) H' (g'.cut g.om.length) := by
  have e : (g'.cut g.om.length).om = g.om := take_pre b.om
  refine ⟨fun a o h n => b.keep a o h fun q => ?_, b.base, by rw [e]; exact List.prefix_rfl, by rw [e]; exact b.ond.sublist b.om.sublist, b.mu, ⟨?_, fun n a d e1 e2 => ?_⟩, fun a q => .inl (e ▸ q)⟩
  · rw [e] at n
    rcases b.new a q with w | w
    · exact n w
    · rw [w] at h; cases h
  · rw [e, List.length_take, b.obs.1]
    have := b.om.length_le
    omega
  · have hm : d ∈ objs'.take g.om.length := List.mem_of_getElem? e2
    have lt : n < g.om.length := by
      rw [e] at e1
      exact (List.getElem?_eq_some_iff.mp e1).1
    rw [e] at e1
    obtain ⟨rt, hb⟩ := b.obs.2 n a d (pre_get b.om e1) ((List.getElem?_take_of_lt lt).symm.trans e2)
    exact ⟨rt.down (List.all_eq_true.mp l d hm), hb⟩
theorem ROk.cut {H0 : Hp} {v : V} {r : Res} (l : r.low m = true) (h : ROk K H0 H g v r) : ROk K H0 H (g.cut m) v r := by
  cases r with
  | dat d => exact Rp.down l h
  | new d =>
    obtain ⟨a, e, hb, rt, h0, hm⟩ := h
    refine ⟨a, e, hb, rt.down ?_, h0, fun q => hm (List.mem_of_mem_take q)⟩
    cases rt <;> exact l
  | own i d => exact h
theorem ExnOk.cut {cls : Value} {dx : Option Addr} {x : Exn} (l : x.low m = true) (h : ExnOk K mg H g cls dx x) : ExnOk K mg H (g.cut m) cls dx x := by
  unfold ExnOk at h ⊢
  unfold Exn.low at l
  refine ⟨h.1, ?_⟩
  have h2 := h.2
  cases e : x.fs with
  | none => rw [e] at h2; exact h2
  | some fs =>
    rw [e] at h2 l
    obtain ⟨a, vs, e1, e2, e3, r⟩ := h2
    exact ⟨a, vs, e1, e2, e3, r.down l⟩
def cutDen (den : Den) : Den := fun ds objs => match den ds objs with
  | none => none
  | some (.ok r, o') => if (r.low objs.length && (o'.take objs.length).all fun d => D.lows objs.length d.parts) = true then some (.ok r, o'.take objs.length) else none
  | some (.error x, o') => if (x.low objs.length && (o'.take objs.length).all fun d => D.lows objs.length d.parts) = true then some (.error x, o'.take objs.length) else none
theorem spDen_cut {n : Nat} {den : Den} {vs : List V} {Q : VK} {E : XK} (h : spDen K mg n (cutDen den) vs H Q E) : spDen K mg n den vs H Q E := by
  obtain ⟨g, ds, objs, hl, mu, nd, ra, ob, h⟩ := h
  refine ⟨g, ds, objs, hl, mu, nd, ra, ob, ?_⟩
  unfold cutDen at h
  cases e : den ds objs with
  | none => rw [e] at h; exact h
  | some p =>
    obtain ⟨r, o'⟩ := p
    rw [e] at h
    cases r with
    | ok r =>
      simp only at h ⊢
      by_cases c : (r.low objs.length && (o'.take objs.length).all fun d => D.lows objs.length d.parts) = true
      · rw [if_pos c] at h
        obtain ⟨c1, c2⟩ := Bool.and_eq_true_iff.mp c
        rw [ob.1] at c1 c2 h
        exact fun H' g' v b ro => h H' _ v (b.cut c2) (ro.cut c1)
      · rw [if_neg c] at h; exact h.elim
    | error x =>
      simp only at h ⊢
      by_cases c : (x.low objs.length && (o'.take objs.length).all fun d => D.lows objs.length d.parts) = true
      · rw [if_pos c] at h
        obtain ⟨c1, c2⟩ := Bool.and_eq_true_iff.mp c
        rw [ob.1] at c1 c2 h
        exact fun cls dx H' g' b xo => h cls dx H' _ (b.cut c2) (xo.cut c1)
      · rw [if_neg c] at h; exact h.elim
theorem FnG.cut {P : Program} {w : World} {base : Heap} {k n : Nat} {f : Addr} {fd : FuncData} {ps : List Str} {den : Den} (F : FnG P w K mg base k f fd ps (spDen K mg n den)) : FnG P w K mg base k f fd ps (spDen K mg n (cutDen den)) :=
  F.imp fun _ _ _ _ q => spDen_cut q
theorem Dn.cut {P : Program} {w : World} {base : Heap} {k : Nat} {x : Str} {ps : List Str} {den : Den} (D : Dn P w K mg base k x ps den) : Dn P w K mg base k x ps (cutDen den) :=
  let ⟨f, fd, a, b, c, F⟩ := D.ex
  ⟨f, fd, a, b, c, F.cut⟩
end
section
variable {X : Cx} {z : Zx} {o a : Expr} {fa fb : M Res} {apos pos : Pos}
end
end DL
end
section
set_option maxRecDepth 100000
namespace DL
open PySem PySem.Spec L2
section
variable {X : Cx} {z : Zx} {S S' : Sx} {σ : L2.St} {H H' : Hp} {g g' : Gh} {v : V} {d : D} {K : PySem.W.Frag} {mg : Str → Option Value} {a tg : Expr} {fa : M Res}
def Lk (ad : Addr) (u : HO) : Prop := (∃ kvs, u = .dK kvs) ∨ ∃ rows, u = NDictO ad rows
theorem lk_of {ad : Addr} {u : HO} {t : Bool} {ks : List D} {ws : List V} (c : DcAt H ad u t ks ws) : Lk ad u := by
  cases c with
  | dK kvs => exact .inl ⟨kvs, rfl⟩
  | dN rows _ => exact .inr ⟨rows, rfl⟩
theorem lk_mut {ad : Addr} {u : HO} (h : Lk ad u) : Mut (some u) := by
  rcases h with ⟨_, rfl⟩ | ⟨_, rfl⟩ <;> first | exact mut_dN | trivial
theorem lk_inv {X : Cx} {pins : List (Addr × Obj)} {s : Shared} {ad : Addr} {u : HO} (I : Inv X pins σ H s) (h : H ad = some u) (l : Lk ad u) : ∃ o, Inv X pins σ (upd H ad (.frz o u)) s := by
  rcases l with ⟨kvs, rfl⟩ | ⟨rows, rfl⟩
  · exact frzD_inv I h
  · have ok := I.hok ad _ h
    obtain ⟨_, ⟨o, e⟩, _⟩ := id ok
    exact ⟨o, I.write (x := ad) (e := ad) (h' := s.heap) (t' := s.toks) (by rw [h]; trivial) (.inl rfl) (fun b u _ q => q) ⟨_, e⟩ ⟨e, ok⟩⟩
theorem pe_lockD {te : TE} (he : PE X a te) : PE X a fun σ H Q => te σ H fun x H1 => (∃ ad u, x = .ref ad ∧ H1 ad = some u ∧ Lk ad u ∧ ∀ o, Q x (upd H1 ad (.frz o u))) ∨ Q x H1 := by
  constructor
  intro pins s0 σ0 G0 Q inv hyp
  refine thn (he.run pins s0 σ0 G0 _ inv hyp) ?_
  rintro u s1 ⟨x, G1, inv1, rel, q⟩
  rcases q with ⟨ad, xs, rfl, hx, l, q⟩ | q
  · obtain ⟨o, inv2⟩ := lk_inv inv1 hx l
    exact ⟨_, _, inv2, rel, q o⟩
  · exact ⟨x, G1, inv1, rel, q⟩
def lockK : Res → M Res
  | .own i (.dct t ks vs) => fun S => if S.env[i]? = some (.own (.dct t ks vs)) then some (.ok (.dat (.rdc t ks vs)), S.put i (.dat (.rdc t ks vs))) else none
  | .new (.dct t ks vs) => pure (.dat (.rdc t ks vs))
  | .dat (.rdc t ks vs) => pure (.dat (.rdc t ks vs))
  | _ => M.no
theorem lockK_own {i : Nat} {d : D} {S : Sx} (h : ∀ t ks vs, d ≠ .dct t ks vs) : lockK (.own i d) S = none := by
  cases d with
  | dct t ks vs => exact absurd rfl (h t ks vs)
  | _ => rfl
def lockM (fa : M Res) : M Res := fa >>= lockK
theorem DcAt.lock {ad : Addr} {o : Obj} {u : HO} {t : Bool} {ks : List D} {ws : List V} (hx : H ad = some u) (c : DcAt H ad u t ks ws) : DcAt (upd H ad (.frz o u)) ad u t ks ws :=
  c.mono fun b ys e => by rw [upd_ne (fun q => by subst q; rw [hx] at e; cases e; have := lk_mut (lk_of c); exact this)]; exact e
theorem SR.lockNew {ad : Addr} {o : Obj} {u : HO} {t : Bool} {ks vs : List D} {ws : List V} (s1 : SR K z S σ H g) (hx : H ad = some u) (c : DcAt H ad u t ks ws) (rx : RpA K H g ws vs) (rv : ResOk K z S σ H g (.ref ad) (.new (.dct t ks vs))) :
    SR K z S σ (upd H ad (.frz o u)) (g.del ad) ∧ Fr H g (upd H ad (.frz o u)) (g.del ad) ∧ Rp K (upd H ad (.frz o u)) (g.del ad) (.ref ad) (.rdc t ks vs) := by
  obtain ⟨s2, f2⟩ := s1.frzNew (o := o) hx rv
  exact ⟨s2, f2, .rdc upd_same (c.lock hx) (rx.fr f2 s1.mu)⟩
theorem SR.lockOwn {ad : Addr} {i : Nat} {t : Bool} {ks vs : List D} (s1 : SR K z S σ H g) (h : S.env[i]? = some (.own (.dct t ks vs))) (e : σ[i]? = some (some (.ref ad))) : ∃ u, H ad = some u ∧ Lk ad u ∧ ∀ o : Obj, ∃ g2,
    SR K z (S.put i (.dat (.rdc t ks vs))) σ (upd H ad (.frz o u)) g2 ∧ Fr H g (upd H ad (.frz o u)) g2 ∧ Rp K (upd H ad (.frz o u)) g2 (.ref ad) (.rdc t ks vs) := by
  obtain ⟨b, e1, hb, rt, h0, ho⟩ := s1.own i _ h
  rw [e] at e1; cases e1
  obtain ⟨u, ws, hx, c, rx⟩ := rt.dctAt
  refine ⟨u, hx, lk_of c, fun o => ?_⟩
  have same : σ.set i (some (.ref ad)) = σ := by
    apply List.ext_getElem?
    intro j
    by_cases ej : i = j
    · subst ej
      rw [List.getElem?_set_self (List.getElem?_eq_some_iff.mp e).1, e]
    · rw [List.getElem?_set_ne ej]
  have s2 := s1.put_un (i := i) (w := some (.ref ad))
  rw [same] at s2
  have rv : ResOk K z (S.put i .un) σ H g (.ref ad) (.new (.dct t ks vs)) := ⟨ad, rfl, hb, rt, h0, ho, fun j d2 hj q => by
    rcases set_get hj with ⟨_, q2⟩ | ⟨ne, q2⟩
    · cases q2
    · exact ne (s1.inj i j _ _ ad h q2 e q)⟩
  obtain ⟨s3, f3, r3⟩ := s2.lockNew (o := o) hx c rx rv
  have s4 := s3.put_dat (i := i) r3
  rw [same] at s4
  refine ⟨g.del ad, ?_, f3, r3⟩
  have pp : (S.put i .un).put i (.dat (.rdc t ks vs)) = S.put i (.dat (.rdc t ks vs)) := by
    unfold Sx.put
    simp
  rw [pp] at s4
  exact s4
theorem de_lock (ha : DE X z a fa) : DE X z a (lockM fa) :=
  PE.imp (pe_lockD ha) fun σ H Q ⟨S, g, s, q⟩ => ⟨S, g, s, q.bnd.imp fun r S1 H1 g1 s1 f1 q1 v rv => by
    cases r with
    | dat d =>
      cases d with
      | rdc t ks vs =>
        have q2 : Go X.K X.mg z (pure (.dat (.rdc t ks vs))) S1 σ H1 g1 (fun r S' H' g' => ∀ v, ResOk X.K z S' σ H' g' v r → Q v H') := q1
        exact .inr (q2.pure s1 _ rv)
      | _ =>
        have q2 : Go X.K X.mg z M.no S1 σ H1 g1 (fun r S' H' g' => ∀ v, ResOk X.K z S' σ H' g' v r → Q v H') := q1
        exact q2.none.elim
    | new d =>
      cases d with
      | dct t ks vs =>
        have q2 : Go X.K X.mg z (pure (.dat (.rdc t ks vs))) S1 σ H1 g1 (fun r S' H' g' => ∀ v, ResOk X.K z S' σ H' g' v r → Q v H') := q1
        obtain ⟨ad, e, hb, rt, h0, hm, hn⟩ := id rv
        subst e
        obtain ⟨u, ws, hx, c, rx⟩ := rt.dctAt
        refine .inl ⟨ad, u, rfl, hx, lk_of c, fun o => ?_⟩
        obtain ⟨s2, f2, r2⟩ := s1.lockNew (o := o) hx c rx rv
        exact (q2.at f2).pure s2 _ r2
      | _ =>
        have q2 : Go X.K X.mg z M.no S1 σ H1 g1 (fun r S' H' g' => ∀ v, ResOk X.K z S' σ H' g' v r → Q v H') := q1
        exact q2.none.elim
    | own i d =>
      cases d with
      | dct t ks vs =>
        obtain ⟨h, e⟩ := id rv
        obtain ⟨b, e1, _⟩ := s1.own i _ h
        obtain rfl : v = .ref b := by rw [e] at e1; cases e1; rfl
        obtain ⟨u, hx, lk, hk⟩ := s1.lockOwn h e
        refine .inl ⟨b, u, rfl, hx, lk, fun o => ?_⟩
        obtain ⟨g2, s2, f2, r2⟩ := hk o
        have run : lockK (.own i (.dct t ks vs)) S1 = some (.ok (.dat (.rdc t ks vs)), S1.put i (.dat (.rdc t ks vs))) := if_pos h
        unfold Go at q1
        rw [run] at q1
        exact q1 _ g2 s2 f2 _ r2
      | _ =>
        exfalso
        unfold Go at q1
        rw [lockK_own (by intro t ks vs e; cases e)] at q1
        exact q1⟩
theorem nk_rps : ∀ {ks : List NestedKey} {xs : List V}, ks.length = xs.length → (∀ p ∈ ks.zip xs, Rp K H g p.2 (kN p.1)) → RpA K H g xs (kNs ks)
  | [], [], _, _ => .nil
  | k :: ks, x :: xs, l, q => .cons (q (k, x) (by simp)) (nk_rps (by simpa using l) fun p m => q p (by rw [List.zip_cons_cons]; exact List.mem_cons_of_mem _ m))
  | [], _ :: _, l, _ => by simp at l
  | _ :: _, [], l, _ => by simp at l
theorem NK.rp {k : NestedKey} {v : V} (h : NK H k v) : Rp K H g v (kN k) := by
  induction h with
  | none => exact .non
  | num i => exact .int i
  | nil e => exact .tup e .nil
  | cons e r l ih => exact .tup e (nk_rps (by simp [l]) ih)
end
end DL
end
section
set_option maxRecDepth 100000
namespace DL
open PySem L2
section
variable {turn : D → M (Option (D × D))} {env : List Slot} {ds ks vs o : List D} {P : List D → List D → List D → Prop} {d : D} {S : Sx}
end
section
variable {S : Sx} {Q : Res → Sx → Prop} {ks vs : List D} {i n : Nat}
theorem rn_lockM {fa : M Res} : Rn (lockM fa) S Q = Rn fa S fun r S1 => Rn (lockK r) S1 Q := rn_bind
theorem rn_lock_n {t : Bool} : Rn (lockK (.new (.dct t ks vs))) S Q = Q (.dat (.rdc t ks vs)) S := rfl
end
end DL
end
section
set_option maxRecDepth 100000
namespace DL
open PySem PySem.Spec L2
section
variable {X : Cx} {z : Zx} {S S' : Sx} {σ : L2.St} {H H' : Hp} {g g' : Gh} {v : V} {d : D} {K : PySem.W.Frag} {pos p : Pos} {a : Expr} {fa : M Res}
def D.pairs : List D → Option (List (Key × D))
  | [] => some []
  | .tup [k, x] :: r => k.key.bind fun q => (D.pairs r).map fun l => (q, x) :: l
  | _ => none
end
end DL
end
section
set_option maxRecDepth 100000
namespace DL
open PySem PySem.Spec L2
def Slot.low (m : Nat) : Slot → Bool
  | .un => true
  | .dat d => d.low m
  | .own d => D.lows m d.parts
def Sx.low (m : Nat) (S : Sx) : Bool := S.env.all (Slot.low m) && (S.objs.take m).all fun d => D.lows m d.parts
def Sx.cut (m : Nat) (S : Sx) : Sx := ⟨S.env, S.objs.take m⟩
def Fl.low (m : Nat) : Fl → Bool
  | .ret r => r.low m
  | _ => true
def exLow (m : Nat) : Except Exn Fl → Bool
  | .ok r => r.low m
  | .error x => x.low m
def cutK (m : Nat) : Option (Except Exn Fl × Sx) → Option (Except Exn Fl × Sx)
  | none => none
  | some (r, S') => if (S'.low m && exLow m r) = true then some (r, S'.cut m) else none
def cutS (f : M Fl) : M Fl := fun S => cutK S.objs.length (f S)
section
variable {K : PySem.W.Frag} {mg : Str → Option Value} {z : Zx} {S S' : Sx} {σ σ' : L2.St} {H H' : Hp} {g g' : Gh} {v : V} {om0 : List Addr}
end
end DL
end
section
set_option maxRecDepth 100000
namespace DL
open PySem PySem.Spec L2
def Res.stays : Res → Bool
  | .dat d => d.imm
  | .new d => D.imms d.parts
  | .own _ _ => false
section
variable {K : PySem.W.Frag} {mg : Str → Option Value} {z : Zx} {S S' : Sx} {σ : L2.St} {H H' : Hp} {g g1 g' : Gh} {v : V} {r : Res}
def Gh.back (g' g g1 : Gh) : Gh := ⟨fun a => g'.bad a ∨ (g.bad a ∧ ¬ g1.bad a), g'.om⟩
def OwnAt (S : Sx) (σ : L2.St) (a : Addr) : Prop := ∃ (i : Nat) (d : D), S.env[i]? = some (.own d) ∧ σ[i]? = some (some (.ref a))
theorem SR.back (s : SR K z S σ H g) (t : SR K z S' σ H' g') (f1 : Fr H g H g1) (f : Fr H g1 H' g') (own1 : ∀ a, OwnAt S σ a ↔ g.bad a ∧ ¬ g1.bad a) (im : (S'.objs.all fun o => D.imms o.parts) = true) :
    SR K z ⟨S.env, S'.objs⟩ σ H' (g'.back g g1) ∧ Fr H g H' (g'.back g g1) ∧ ∀ a, OwnAt S σ a → ¬ g'.bad a := by
  have own2 : ∀ a, OwnAt S σ a → H' a = H a ∧ ¬ g'.bad a := fun a oa => by
    obtain ⟨i, d, h, e⟩ := oa
    obtain ⟨b, e1, _, rt, _⟩ := s.own i d h
    rw [e] at e1; cases e1
    cases q : H a with
    | none => exact absurd q rt.there
    | some o => exact f.keep a o q ((own1 a).mp ⟨i, d, h, e⟩).2
  have fr : Fr H g H' (g'.back g g1) := ⟨fun a o h n => by
    obtain ⟨h1, n1⟩ := f1.keep a o h n
    obtain ⟨h2, n2⟩ := f.keep a o h1 n1
    exact ⟨h2, fun q => q.elim n2 fun w => n w.1⟩, f1.om.trans f.om⟩
  refine ⟨⟨s.len, fun i d h => ?_, fun i d h => ?_, s.inj, t.olen, fun n a d h1 h2 => ?_, t.ond, fun a q => ?_, fun a q => .inl (t.base a q), t.b0, t.keep, t.on⟩, fr, fun a oa => (own2 a oa).2⟩
  · obtain ⟨v, e, rp⟩ := s.dat i d h
    exact ⟨v, e, rp.fr fr s.mu⟩
  · obtain ⟨a, e, hb, rt, h0, hm⟩ := s.own i d h
    have oa : OwnAt S σ a := ⟨i, d, h, e⟩
    obtain ⟨e2, nb⟩ := own2 a oa
    refine ⟨a, e, .inr ((own1 a).mp oa), rt.fr fr s.mu e2, h0, fun q => ?_⟩
    obtain ⟨n, hn⟩ := List.mem_iff_getElem?.mp q
    have hl : n < S'.objs.length := by rw [t.olen]; exact (List.getElem?_eq_some_iff.mp hn).1
    exact nb (t.obj n a _ hn (List.getElem?_eq_getElem hl)).2
  · obtain ⟨rt, hb⟩ := t.obj n a d h1 h2
    exact ⟨rt.im (show g'.om <+: (g'.back g g1).om from List.prefix_rfl) (List.all_eq_true.mp im d (List.mem_of_getElem? h2)), .inl hb⟩
  · rcases q with q | q
    · exact t.mu a q
    · rw [(own2 a ((own1 a).mpr q)).1]; exact s.mu a q.1
end
end DL
end
section
set_option maxRecDepth 100000
namespace DL
open PySem PySem.Spec L2
structure IsX (K : PySem.W.Frag) (mg : Str → Option Value) (S C : Str) (b : Bool) : Prop where
  ex : ∃ (D c : Addr) (gt : Option Value), mg S = some (.ref D) ∧ mg C = some (.ref c) ∧ (PySem.W.clsIn K D).isSome = true ∧ PySem.W.findIn K (.ref D) "__getattribute__" = some (some (.builtin "BaseException.__getattribute__")) ∧ PySem.W.findIn K (.ref D) "__getattr__" = some gt ∧
    PySem.W.subIn K (.ref D) (.type "BaseException") = some true ∧ PySem.W.findIn K (.ref D) "__class__" = some (some (.builtin "object.__class__")) ∧ PySem.W.specialIn K (.builtin "object.__class__") "__get__" = some (some (.builtin "getset_descriptor.__get__")) ∧
    PySem.W.takesIn K (.builtin "object.__class__") = some true ∧ PySem.W.mroIn K D (.type "object") = some true ∧ PySem.W.kitOne K (.ref D) (.ref c) = some b
section
variable {X : Cx} {z : Zx} {S S' : Sx} {σ σ' : L2.St} {H H' : Hp} {g g' : Gh} {v : V} {d : D} {r : Res} {a c e : Expr} {es : List Expr} {fa fb : M Res} {ta : M Bool} {fs : M (List Res)} {K : PySem.W.Frag} {mg : Str → Option Value} {pos p pos2 : Pos} {cn : Str} {P : L2.St → Prop} {ad : Addr} {oe : Obj} {cls : Value} {dx : Option Addr} {pn : List (Addr × Obj)} {x : Exn} {i : Nat} {n : Str} {p1 p2 : Pos}
variable {Y : Cx}
variable {st : Stmt} {sts xs ys : List Stmt} {f h : M Fl}
end
end DL
end
section
set_option maxRecDepth 100000
namespace DL
open PySem PySem.Spec L2
open L2H (RoomH PinOk)
structure FnS (P : Program) (w : World) (K : PySem.W.Frag) (mg : Str → Option Value) (base : Heap) (k : Nat) (f : Addr) (fd : FuncData) (ps : List Str) (sp : Sp) : Prop where
  len : ∀ vs H Q E, sp vs H Q E → vs.length = ps.length
  run : ∀ (A : Around) (outer : List Env) (s : Shared) (H : Hp) (args : Args) (us : List Value) (vs : List V) (Q : VK) (E : XK) (y : Addr × Obj), A.guards = some [] → RoomH k A → PinOk outer H s y → Env0 P w K mg base A outer s H → BindsTo s fd args (ps.zip us) → Vals vs us →
    sp vs H Q E → codeAny (model P w) A (.call (.ref f) args) (CR (L2.CX P w) outer P w H s Q E) s
section
variable {P : Program} {w : World} {K : PySem.W.Frag} {mg : Str → Option Value} {base : Heap}
theorem FnS.mono {j k : Nat} {f : Addr} {fd : FuncData} {ps : List Str} {sp : Sp} (F : FnS P w K mg base j f fd ps sp) (h : j ≤ k) : FnS P w K mg base k f fd ps sp :=
  ⟨F.len, fun A outer s H args us vs Q E y gd hr => F.run A outer s H args us vs Q E y gd (hr.mono h)⟩
structure Ds (P : Program) (w : World) (K : PySem.W.Frag) (mg : Str → Option Value) (base : Heap) (k : Nat) (x : Str) (ps : List Str) (den : Den) : Prop where
  ex : ∃ f fd, mg x = some (.ref f) ∧ PySem.W.keepIn K (.ref f) = true ∧ Binds K fd ps [] ∧ FnS P w K mg base k f fd ps (spDen K mg ps.length den)
theorem Ds.mono {j k : Nat} {x : Str} {ps : List Str} {den : Den} (D : Ds P w K mg base j x ps den) (h : j ≤ k) : Ds P w K mg base k x ps den :=
  let ⟨f, fd, a, b, c, F⟩ := D.ex
  ⟨f, fd, a, b, c, F.mono h⟩
end
section
variable {X : Cx} {z : Zx} {e : Expr} {es : List Expr} {fs : M (List Res)} {t : TA} {K : PySem.W.Frag} {pos p : Pos} {x : Str} {ps : List Str} {k n : Nat} {den : Den} {f : Addr} {fd : FuncData} {sp : Sp} {P : L2.St → Prop} {ad : Addr} {oe : Obj} {pn : List (Addr × Obj)} {cls : Value} {dx : Option Addr} {xn : Exn}
end
end DL
end
section
set_option maxRecDepth 100000
namespace DL
open PySem PySem.Spec L2
abbrev bareSet (w : World) : Obj := { cls := .type "set", dict := none, data := .set #[] 0 (.fresh 0 0 (!w.params.followText "set-order")) }
structure Filling (P : Program) (w : World) (O : Addr → HO) (ad : Addr → V → Hp → Hp → Prop) : Prop where
  born : ∀ (h : Heap) (H : Hp), ObjOk P w H (h.push (bareSet w)) h.objs.size (O h.objs.size)
  more : ∀ (Y : Cx), Y.prog = P → Y.w = w → ∀ {pins : List (Addr × Obj)} {σ : L2.St} {H H' : Hp} {s : Shared} {D : Addr} {y : V} {u : Value} {E Q : Value → Shared → Prop}, Inv Y pins σ H s → RelV y u → ad D y H H' →
    (∀ t, Inv Y pins σ H' t → Q .none t) → wpAny (model P w) Y.A (call (.builtin "set.add") [.ref D, u]) Q E s
section
variable {B : Cx} {τ σ2 : L2.St} {tn : Nat → Heap → Prop} {fp : List Addr} {W : Nat → Nat → Hp → Prop} {n i m : Nat} {t t0 : Shared} {H : Hp} {J : It} {it : Addr} {tg : Expr} {P : Program} {w : World} {K : PySem.W.Frag}
end
section
variable {X : Cx} {pins : List (Addr × Obj)} {s : Shared} {σ : L2.St} {H : Hp} {Q : VK} {elt tg iter : Expr} {ifs : List Expr} {scope : Scope} {own : List (Str × Nat)} {pos : Pos} {wi : TI} {g : TG} {tt : TT} {te : TE} {O : Addr → HO} {ad : Addr → V → Hp → Hp → Prop}
end
structure BlkO (K : PySem.W.Frag) (env : List Slot) (σ : L2.St) (vs : List Nat) (H1 : Hp) (g1 : Gh) (Dd : Addr) (o : HO) (objs : List D) (H : Hp) (g : Gh) : Prop where
  inn : In K env objs (wipe σ vs) H g
  keep : ∀ a o, H1 a = some o → a ∉ g.om → H a = some o
  fr : Fr H1 g1 H g
  base : ∀ a, g1.bad a → g.bad a
  new : ∀ a, a ∈ g.om → a ∈ g1.om ∨ H1 a = none
  obj : H Dd = some o
  bad : g.bad Dd
  om : Dd ∉ g.om
section
variable {X : Cx} {z : Zx} {S S' : Sx} {σ : L2.St} {H H' H0 H1 : Hp} {g g' g1 : Gh} {v : V} {d : D} {K : PySem.W.Frag} {mg : Str → Option Value} {env : List Slot} {vs : List Nat} {Dd : Addr} {o o' : HO} {objs : List D}
theorem BlkO.step {H4 : Hp} {g5 : Gh} {S4 : Sx} {σ2 : L2.St} (b : BlkO K env σ vs H1 g1 Dd o objs H g) (gr : Grow H H') (s : SR K ⟨H', g.bad, g.om, blkW⟩ S4 σ2 H4 g5) (f : Fr H' g H4 g5) : BlkO K env σ vs H1 g1 Dd o S4.objs H4 g5 := by
  have k1 : ∀ a o, H a = some o → H' a = some o := fun a o h => by
    rcases gr with rfl | ⟨p, xs, hp, rfl⟩
    · exact h
    · rw [upd_ne (ne_of_none h hp)]; exact h
  have ft : Fr H g H4 g5 := gr.fr.trans f
  have sub : ∀ a, a ∈ g.om → a ∈ g5.om := fun a h => by
    obtain ⟨t, e⟩ := f.om
    rw [← e]; exact List.mem_append_left _ h
  have nom : Dd ∉ g5.om := fun h => (s.on Dd h).elim b.om fun q => by
    have q : H' Dd = none := q
    rw [k1 _ _ b.obj] at q; cases q
  have kp : ∀ a o, H a = some o → a ∉ g5.om → H4 a = some o := fun a o h n => s.keep a o (k1 a o h) n
  refine ⟨⟨b.inn.len, fun i d e => ?_, s.olen, s.obj, s.ond, s.mu⟩, fun a o h n => kp a o (b.keep a o h fun q => n (sub a q)) n, b.fr.trans ft, fun a h => s.base a (b.base a h), fun a h => ?_, kp _ _ b.obj nom, s.base _ b.bad, nom⟩
  · obtain ⟨v, e1, r⟩ := b.inn.dat i d e
    exact ⟨v, e1, r.fr ft b.inn.mu⟩
  · by_cases m : a ∈ g.om
    · exact b.new a m
    refine (s.on a h).elim (fun q => absurd q m) fun q => .inr ?_
    have q : H' a = none := q
    cases e : H1 a with
    | none => rfl
    | some o => rw [k1 _ _ (b.keep a o e m)] at q; cases q
theorem BlkO.mut (b : BlkO K env σ vs H1 g1 Dd o objs H g) (hD : H1 Dd = none) (mo : Mut (some o')) : BlkO K env σ vs H1 g1 Dd o' objs (upd H Dd o') g := by
  have f : Fr H g (upd H Dd o') g := Fr.mut b.bad
  refine ⟨⟨b.inn.len, fun i d e => ?_, b.inn.olen, fun n a d e1 e2 => ?_, b.inn.ond, fun a hb => ?_⟩, fun a o h n => ?_, b.fr.trans f, b.base, b.new, upd_same, b.bad, b.om⟩
  · obtain ⟨v, e1, r⟩ := b.inn.dat i d e
    exact ⟨v, e1, r.fr f b.inn.mu⟩
  · obtain ⟨rt, hb⟩ := b.inn.obj n a d e1 e2
    exact ⟨rt.fr f b.inn.mu (upd_ne fun q => b.om (q ▸ List.mem_iff_getElem?.mpr ⟨n, e1⟩)), hb⟩
  · by_cases q : a = Dd
    · subst q; rw [upd_same]; exact mo
    · rw [upd_ne q]; exact b.inn.mu a hb
  · rw [upd_ne (ne_of_none h hD)]; exact b.keep a o h n
theorem BlkO.start {S1 : Sx} {gf : Gh} (sf : SR K z ⟨S1.env.map Slot.frz, S1.objs⟩ σ H1 gf) (hD : H1 Dd = none) (mo : Mut (some o)) : BlkO K (wipeE (S1.env.map Slot.frz) vs) σ vs H1 gf Dd o S1.objs (upd H1 Dd o) (gf.add Dd) := by
  have fr : Fr H1 gf (upd H1 Dd o) (gf.add Dd) := Fr.upd_add hD
  have sr := sf.alloc hD (o := o) mo
  refine ⟨⟨by rw [wipeE_len, wipe_length]; exact sf.len, fun i d e => ?_, sr.olen, sr.obj, sr.ond, sr.mu⟩, fun a o h _ => ?_, fr, fun a h => .inl h, fun a h => .inl h, upd_same, .inr rfl, fun h => sf.om_there h hD⟩
  · obtain ⟨e1, e2⟩ := wipeE_get e (by simp)
    obtain ⟨v, e3, r⟩ := sf.dat i d e1
    exact ⟨v, by rw [wipe_out e2]; exact e3, r.fr fr sf.mu⟩
  · rw [upd_ne (ne_of_none h hD)]; exact h
theorem BlkO.out {S1 : Sx} {H2 : Hp} {gf g2 : Gh} {acc objsF : List D} {P : Res → Sx → Hp → Gh → Prop} (s1 : SR K z S1 σ H1 g1) (sf : SR K z ⟨S1.env.map Slot.frz, S1.objs⟩ σ H1 gf) (ff : Fr H1 g1 H1 gf) (of : gf.om = g1.om)
    (b : BlkO K env σ vs H1 gf Dd o objsF H2 g2) (q : match outL acc objsF S1 with | some (.ok r, S') => ∀ H' g', SR K z S' σ H' g' → Fr H1 g1 H' g' → P r S' H' g' | _ => False) : ∃ S' g', SR K z S' σ H2 g' ∧ P (.new (.lst acc)) S' H2 g' := by
  have bh : Behind K H1 gf objsF H2 g2 := ⟨b.keep, b.base, b.fr.om, b.inn.ond, b.inn.mu, ⟨b.inn.olen, b.inn.obj⟩, b.new⟩
  have known : ∀ c, c ∈ g2.om → g2.bad c := fun c q => by
    obtain ⟨j, hj⟩ := List.mem_iff_getElem?.mp q
    have lt : j < objsF.length := by rw [b.inn.olen]; exact (List.getElem?_eq_some_iff.mp hj).1
    exact (b.inn.obj j c _ hj (List.getElem?_eq_getElem lt)).2
  unfold outL at q
  by_cases safe : (D.imms acc && objsF.all fun o => D.imms o.parts) = true
  · rw [if_pos safe] at q
    have all := (Bool.and_eq_true_iff.mp safe).2
    exact ⟨_, _, bh.sr s1 (root := fun _ => False) of (fun _ => False.elim) fun n c d e1 e2 => root_im_parts (b.inn.obj n c d e1 e2).1 (List.all_eq_true.mp all d (List.mem_of_getElem? e2)),
      q H2 _ (bh.sr s1 (root := fun _ => False) of (fun _ => False.elim) fun n c d e1 e2 => root_im_parts (b.inn.obj n c d e1 e2).1 (List.all_eq_true.mp all d (List.mem_of_getElem? e2))) (bh.fr (root := fun _ => False) s1 of fun _ => False.elim)⟩
  · rw [if_neg safe] at q
    have less : Fr H2 g2 H2 (gf.aft g2 fun _ => False) := Fr.less (fun c q => q.elim (b.base c) fun q => q.elim (known c) False.elim) rfl
    have sr := bh.sr sf (root := fun _ => False) rfl (fun _ => False.elim) fun n c d e1 e2 => (b.inn.obj n c d e1 e2).1.fr less b.inn.mu rfl
    exact ⟨_, _, sr, q H2 _ sr (ff.trans (bh.fr (root := fun _ => False) sf rfl fun _ => False.elim))⟩
structure Metl (acc : List D) (T : Int → Bool) (c : Nat) : Prop where
  mem : ∀ k, T k = true ↔ D.int k ∈ acc
  few : c ≤ acc.length
  many : ∃ l : List Int, l.Nodup ∧ (∀ k, k ∈ l ↔ D.int k ∈ acc) ∧ l.length = c
theorem Metl.nil : Metl [] (fun _ => false) 0 := ⟨by simp, Nat.le_refl _, [], List.nodup_nil, by simp, rfl⟩
theorem Metl.more {acc : List D} {T : Int → Bool} {c : Nat} (h : Metl acc T c) (k : Int) : Metl (acc ++ [.int k]) (fun j => T j || decide (j = k)) (if T k = true then c else c + 1) := by
  obtain ⟨l, l1, l2, l3⟩ := h.many
  refine ⟨fun j => by simp [h.mem j], ?_, ?_⟩
  · have := h.few
    rw [List.length_append]
    split <;> simp <;> omega
  · by_cases there : T k = true
    · refine ⟨l, l1, fun j => ?_, by rw [if_pos there]; exact l3⟩
      rw [l2, List.mem_append]
      refine ⟨.inl, fun q => q.elim id fun q => ?_⟩
      obtain rfl : j = k := by simpa using q
      exact (h.mem j).mp there
    · refine ⟨k :: l, List.nodup_cons.mpr ⟨fun q => there ((h.mem k).mpr ((l2 k).mp q)), l1⟩, fun j => by simp [l2 j, or_comm], by rw [if_neg there, List.length_cons, l3]⟩
variable {tg elt iter : Expr} {ifs : List Expr} {scope : Scope} {own : List (Str × Nat)} {it : M (List D)} {tgt : D → M Unit} {t : M Bool} {f : M Res} {ts : List Nat} {pos p pos2 : Pos} {w : World}
end
end DL
end
section
set_option maxRecDepth 100000
namespace DL
open PySem PySem.Spec L2
def isBl : D → Bool
  | .bl _ => true
  | _ => false
section
variable {X : Cx} {z : Zx} {S S' : Sx} {σ : L2.St} {H H' : Hp} {g g' : Gh} {v : V} {K : PySem.W.Frag} {mg : Str → Option Value} {pos p : Pos} {e : Expr}
end
end DL
end
section
set_option maxRecDepth 100000
namespace DL
open PySem PySem.Spec L2
section
variable {X : Cx} {z : Zx} {pos : Pos} {a b : Expr} {fa fb : M Res}
end
def Slot.kept (m : Nat) (x : Slot) : Slot := if x.low m = true then x else .un
section
variable {K : PySem.W.Frag} {mg : Str → Option Value} {z : Zx} {S S' : Sx} {σ σ' : L2.St} {H H' : Hp} {g g' : Gh} {v : V}
theorem kept_get {m i : Nat} {x : Slot} {l : List Slot} (h : (l.map (Slot.kept m))[i]? = some x) (n : x ≠ .un) : l[i]? = some x := by
  rw [List.getElem?_map] at h
  obtain ⟨y, e, q⟩ := Option.map_eq_some_iff.mp h
  unfold Slot.kept at q
  split at q
  · rw [e, q]
  · exact absurd q.symm n
theorem SR.kept {m : Nat} (s : SR K z S σ H g) : SR K z ⟨S.env.map (Slot.kept m), S.objs⟩ σ H g where
  len := by rw [List.length_map]; exact s.len
  dat := fun i d h => s.dat i d (kept_get h (fun q => by cases q))
  own := fun i d h => s.own i d (kept_get h (fun q => by cases q))
  inj := fun i j d e a h1 h2 => s.inj i j d e a (kept_get h1 (fun q => by cases q)) (kept_get h2 (fun q => by cases q))
  olen := s.olen
  obj := s.obj
  ond := s.ond
  mu := s.mu
  base := s.base
  b0 := s.b0
  keep := s.keep
  on := s.on
end
end DL
end
section
set_option maxRecDepth 100000
namespace DLN
open L2 PySem PySem.Spec PyProof.Rows
def orb (m B : Nat) : Nat → Nat → Nat → Nat × Nat
  | 0, x, acc => (x, acc)
  | n + 1, x, acc => bif Nat.ble x m && Nat.ble acc B then orb m B n ((x * 5 + 1) % (m + 1)) (acc ||| (1 <<< x)) else (0, 0)
theorem lcgI_next (m x : Nat) : ∀ k, lcgI m ((x * 5 + 1) % (m + 1)) k = lcgI m x (k + 1)
  | 0 => rfl
  | k + 1 => by
    show (lcgI m ((x * 5 + 1) % (m + 1)) k * 5 + 1) % (m + 1) = (lcgI m x (k + 1) * 5 + 1) % (m + 1)
    rw [lcgI_next m x k]
theorem lcgI_N (m k : Nat) : lcgI m 0 k = lcgN m k := by
  have := lcgN_add m 0 k
  rwa [Nat.zero_add] at this
theorem orb_met (m B : Nat) : ∀ (n x acc j : Nat), (orb m B n x acc).2.testBit j = true → acc.testBit j = true ∨ ∃ k, k < n ∧ lcgI m x k = j
  | 0, x, acc, j, h => .inl h
  | n + 1, x, acc, j, h => by
    unfold orb at h
    cases c : Nat.ble x m && Nat.ble acc B with
    | false => rw [c] at h; simp at h
    | true =>
      rw [c] at h
      rcases orb_met m B n _ _ j h with h | ⟨k, l, e⟩
      · rw [Nat.testBit_or, Bool.or_eq_true] at h
        rcases h with h | h
        · exact .inl h
        · rw [Nat.one_shiftLeft, Nat.testBit_two_pow, decide_eq_true_eq] at h
          exact .inr ⟨0, Nat.succ_pos n, h⟩
      · exact .inr ⟨k + 1, by omega, by rw [← lcgI_next]; exact e⟩
theorem orb_last (m B : Nat) : ∀ (n x acc : Nat), (orb m B n x acc).2 ≠ 0 → (orb m B n x acc).1 = lcgI m x n
  | 0, x, acc, _ => rfl
  | n + 1, x, acc, h => by
    unfold orb at h ⊢
    cases c : Nat.ble x m && Nat.ble acc B with
    | false => rw [c] at h; exact absurd rfl h
    | true =>
      rw [c] at h
      rw [← lcgI_next]
      exact orb_last m B n _ _ h
structure Full (m : Nat) : Prop where
  odd : m % 2 = 1
  all : ∀ j, j ≤ m → ∃ b, b ≤ m ∧ lcgN m b = j
  round : lcgN m (m + 1) = 0
theorem full_orb {m : Nat} (odd : m % 2 = 1) (h : orb m (2 ^ (m + 1)) (m + 1) 0 0 = (0, 2 ^ (m + 1) - 1)) : Full m := by
  refine ⟨odd, fun j hj => ?_, ?_⟩
  · have b : (orb m (2 ^ (m + 1)) (m + 1) 0 0).2.testBit j = true := by
      rw [h, Nat.testBit_two_pow_sub_one, decide_eq_true_eq]; omega
    rcases orb_met _ _ _ _ _ _ b with b | ⟨k, l, e⟩
    · rw [Nat.zero_testBit] at b; cases b
    · exact ⟨k, by omega, by rw [← lcgI_N]; exact e⟩
  · have n : (orb m (2 ^ (m + 1)) (m + 1) 0 0).2 ≠ 0 := by
      rw [h]
      have := Nat.one_lt_two_pow (n := m + 1) (by omega)
      show 2 ^ (m + 1) - 1 ≠ 0
      omega
    have := orb_last _ _ _ _ _ n
    rw [h, lcgI_N] at this
    exact this.symm
def MaskW (m : Nat) : Prop := m = 7 ∨ m = 31 ∨ m = 127 ∨ m = 511 ∨ m = 2047
theorem MaskW.full {m : Nat} (h : MaskW m) : Full m := by
  rcases h with rfl | rfl | rfl | rfl | rfl
  · exact full_orb rfl (by decide +kernel)
  · exact full_orb rfl (by decide +kernel)
  · exact full_orb rfl (by decide +kernel)
  · exact full_orb rfl (by decide +kernel)
  · exact full_orb rfl (by decide +kernel)
theorem MaskW.le {m : Nat} (h : MaskW m) : m ≤ 2047 := by unfold MaskW at h; omega
section
variable {m : Nat}
theorem Full.go (F : Full m) {i j : Nat} (hi : i ≤ m) (hj : j ≤ m) : ∃ k, k ≤ m ∧ lcgI m i k = j := by
  obtain ⟨a, la, rfl⟩ := F.all i hi
  obtain ⟨b, lb, rfl⟩ := F.all j hj
  by_cases c : a ≤ b
  · exact ⟨b - a, by omega, by rw [lcgN_add, show a + (b - a) = b by omega]⟩
  · exact ⟨m + 1 + b - a, by omega, by rw [lcgN_add, show a + (m + 1 + b - a) = m + 1 + b by omega, ← lcgN_add, F.round, lcgI_N]⟩
theorem Full.run (F : Full m) (h : Int) {j : Nat} (hj : j ≤ m) : ∃ n, n ≤ m + 12 ∧ runI m (SetTable.bits h) n = j := by
  obtain ⟨k, l, e⟩ := F.go (runI_le m (SetTable.bits h) 12) hj
  exact ⟨12 + k, by omega, by rw [runI_tail (bits_lt h), e]⟩
theorem way_in (m : Nat) (h : Int) (k : Nat) : way m h k ≤ m := by
  have hi : SetTable.bits h % (m + 1) ≤ m := Nat.le_of_lt_succ (Nat.mod_lt _ (Nat.succ_pos m))
  have b := runEnd_bd hi
  have := nth_in (m := m) k (runAt m (SetTable.bits h % (m + 1)) (SetTable.bits h)) (by show SetTable.bits h % (m + 1) + (SetTable.runEnd m (SetTable.bits h % (m + 1)) - SetTable.bits h % (m + 1)) ≤ m; omega)
  exact Nat.le_trans (Nat.le_add_right _ _) this
theorem Full.out (F : Full m) (h : Int) {ps : List Nat} (few : ps.length ≤ m) : ∃ K n, n ≤ m + 12 ∧ K < 10 * SetTable.turns m ∧ K ≤ off m (SetTable.bits h % (m + 1)) (SetTable.bits h) n ∧ way m h K ∉ ps ∧ ∀ c, c < K → way m h c ∈ ps := by
  obtain ⟨j, lj, nj⟩ := st_missing ps (m + 1) (by omega)
  obtain ⟨n, ln, en⟩ := F.run h (Nat.le_of_lt_succ lj)
  have w1 : way m h (off m (SetTable.bits h % (m + 1)) (SetTable.bits h) n) = j := by
    have := congrArg SetTable.Probe.j (nth_off m n (SetTable.bits h % (m + 1)) (SetTable.bits h))
    rw [itL_run] at this
    exact this.trans en
  obtain ⟨k, lk, ek⟩ := run_nth m (SetTable.bits h) n
  have w2 : way m h k = j := (congrArg SetTable.Probe.j ek).trans en
  obtain ⟨K, k1, k2, k3⟩ := st_least (p := fun k => way m h k ∉ ps) _ (by show way m h (off m (SetTable.bits h % (m + 1)) (SetTable.bits h) n) ∉ ps; rw [w1]; exact nj)
  have before : ∀ c, c < K → way m h c ∈ ps := fun c hc => Classical.byContradiction fun no => k3 c hc no
  refine ⟨K, n, ln, ?_, k1, k2, before⟩
  have : K ≤ k := Nat.le_of_not_lt fun l => nj (w2 ▸ before k l)
  unfold SetTable.turns
  omega
end
structure TabW (t : SetTable) (hs : List Int) : Prop where
  ris : Ris t.place.toList
  dm : t.dummies = #[]
  sz : t.place.toList.length = hs.length
  mok : MaskW t.mask
  bd : ∀ x ∈ t.place.toList, x ≤ t.mask
  met : ∀ q ∈ hs.zip t.place.toList, ∃ k, way t.mask q.1 k = q.2 ∧ ∀ c, c < k → way t.mask q.1 c ∈ t.place.toList
section
variable {t : SetTable} {hs : List Int}
theorem TabW.first (T : TabW t hs) (few : hs.length ≤ t.mask) (h : Int) : ∃ K, K < 10 * SetTable.turns t.mask ∧ way t.mask h K ∉ t.place.toList ∧ ∀ c, c < K → way t.mask h c ∈ t.place.toList := by
  obtain ⟨K, _, _, k1, _, k2, k3⟩ := T.mok.full.out h (ps := t.place.toList) (by rw [T.sz]; exact few)
  exact ⟨K, k1, k2, k3⟩
theorem TabW.before (T : TabW t hs) {h : Int} {K i j : Nat} (free : way t.mask h K ∉ t.place.toList) (hi : hs[i]? = some h) (hj : t.place.toList[i]? = some j) : ∃ c, c < K ∧ way t.mask h c = j := by
  obtain ⟨k, e, b⟩ := T.met (h, j) (List.mem_of_getElem? (List.getElem?_zip_eq_some.mpr ⟨hi, hj⟩))
  refine ⟨k, Nat.lt_of_le_of_ne (Nat.le_of_not_lt fun l => free (b K l)) fun z => ?_, e⟩
  rw [← z, show way t.mask h k = j from e] at free
  exact free (List.mem_of_getElem? hj)
theorem zip_put {α β : Type} (as : List α) (bs : List β) (p : Nat) (a : α) (b : β) (l : as.length = bs.length) : (as.take p ++ a :: as.drop p).zip (bs.take p ++ b :: bs.drop p) = (as.zip bs).take p ++ (a, b) :: (as.zip bs).drop p := by
  rw [List.zip_append (by rw [List.length_take, List.length_take, l]), List.zip_cons_cons]
  simp only [List.zip, List.take_zipWith, List.drop_zipWith]
theorem TabW.put (T : TabW t hs) {h : Int} {K : Nat} (free : way t.mask h K ∉ t.place.toList) (taken : ∀ c, c < K → way t.mask h c ∈ t.place.toList) :
    (t.put (way t.mask h K)).2 = SetTable.below t.place (way t.mask h K) ∧ SetTable.below t.place (way t.mask h K) ≤ hs.length ∧
    TabW (t.put (way t.mask h K)).1 (hs.take (SetTable.below t.place (way t.mask h K)) ++ h :: hs.drop (SetTable.below t.place (way t.mask h K))) ∧
    (t.put (way t.mask h K)).1.mask = t.mask ∧ (t.put (way t.mask h K)).1.led = t.led ∧ (t.put (way t.mask h K)).1.plain = t.plain ∧ (t.put (way t.mask h K)).1.fill = hs.length + 1 := by
  have le : SetTable.below t.place (way t.mask h K) ≤ t.place.size := (below_cut T.ris _).1
  have sz : t.place.size = hs.length := T.sz
  have pp := put_place t (way t.mask h K)
  have new : t.place[SetTable.below t.place (way t.mask h K)]? ≠ some (way t.mask h K) := fun e => free (List.mem_of_getElem? (by rw [Array.getElem?_toList]; exact e))
  have ln : (t.put (way t.mask h K)).1.place.toList.length = hs.length + 1 := by
    rw [pp, len_ins _ (by rw [Array.length_toList]; exact le), T.sz]
  have up : ∀ {x}, x ∈ t.place.toList → x ∈ (t.put (way t.mask h K)).1.place.toList := fun hx => by rw [pp]; exact mem_ins.mpr (.inr hx)
  refine ⟨rfl, sz ▸ le, ⟨ris_insert T.ris new, put_dm T.dm _, by rw [ln, len_ins _ (sz ▸ le)], T.mok, fun x hx => ?_, fun q hq => ?_⟩, rfl, rfl, rfl, ?_⟩
  · rw [pp] at hx
    rcases mem_ins.mp hx with rfl | hx
    · exact way_in ..
    · exact T.bd x hx
  · rw [pp, zip_put _ _ _ _ _ T.sz.symm] at hq
    show ∃ k, way t.mask q.1 k = q.2 ∧ _
    rcases mem_ins.mp hq with rfl | hq
    · exact ⟨K, rfl, fun c l => up (taken c l)⟩
    · obtain ⟨k, e, b⟩ := T.met q hq
      exact ⟨k, e, fun c l => up (b c l)⟩
  · show (t.put (way t.mask h K)).1.place.toList.length + (t.put (way t.mask h K)).1.dummies.size = hs.length + 1
    rw [ln, put_dm T.dm]; rfl
end
structure Lay (m : Nat) (done : List Int) (owner : Array (Option Nat)) (pos : List Nat) : Prop where
  sz : owner.size = m + 1
  len : pos.length = done.length
  nd : pos.Nodup
  bd : ∀ j ∈ pos, j ≤ m
  who : ∀ j, j ≤ m → ∀ k, oAt owner j = some k ↔ pos[k]? = some j
  met : ∀ q ∈ done.zip pos, ∃ k, way m q.1 k = q.2 ∧ ∀ c, c < k → way m q.1 c ∈ pos
section
variable {m : Nat} {done : List Int} {owner : Array (Option Nat)} {pos : List Nat}
theorem Lay.free (L : Lay m done owner pos) {j : Nat} (hj : j ≤ m) : (oAt owner j).isNone = true ↔ j ∉ pos := by
  constructor
  · intro h hm
    obtain ⟨k, e⟩ := List.mem_iff_getElem?.mp hm
    rw [(L.who j hj k).mpr e] at h; cases h
  · intro h
    cases e : oAt owner j with
    | none => rfl
    | some k => exact absurd (List.mem_of_getElem? ((L.who j hj k).mp e)) h
theorem Lay.init (m : Nat) : Lay m [] (Array.replicate (m + 1) none) [] := by
  refine ⟨by simp, rfl, List.nodup_nil, (by intro j h; cases h), fun j hj k => ?_, (by intro q h; cases h)⟩
  rw [oAt_init hj]; simp
theorem Lay.next (F : Full m) (L : Lay m done owner pos) (few : done.length ≤ m) (h : Int) :
    ∃ j, SetTable.layClean.free m owner (SetTable.turns m) (SetTable.bits h % (m + 1)) (SetTable.bits h) = some j ∧ Lay m (done ++ [h]) (owner.setIfInBounds j (some done.length)) (pos ++ [j]) := by
  obtain ⟨K, n, ln, _, lK, free, taken⟩ := F.out h (ps := pos) (by rw [L.len]; exact few)
  have le := way_in m h
  refine ⟨way m h K, free_spec m owner (SetTable.turns m) n _ _ K (by unfold SetTable.turns; omega) lK (fun c hc => ?_) ((L.free (le K)).mpr free), ?_⟩
  · cases e : (oAt owner (way m h c)).isNone with
    | false => rfl
    | true => exact absurd (taken c hc) ((L.free (le c)).mp e)
  · have self := oAt_set_self (some done.length) (show way m h K < owner.size by rw [L.sz]; exact Nat.lt_succ_of_le (le K))
    refine ⟨by rw [Array.size_setIfInBounds]; exact L.sz, by simp [L.len], ?_, fun j hj => ?_, fun j hj k => ?_, fun q hq => ?_⟩
    · rw [List.nodup_append]
      exact ⟨L.nd, List.nodup_cons.mpr ⟨List.not_mem_nil, List.nodup_nil⟩, fun a ha b hb e => free (by rw [List.mem_singleton] at hb; rw [← hb, ← e]; exact ha)⟩
    · rcases List.mem_append.mp hj with hj | hj
      · exact L.bd j hj
      · rw [List.mem_singleton.mp hj]; exact le K
    · by_cases c : j = way m h K
      · subst c
        rw [self, ← L.len, Option.some_inj]
        constructor
        · rintro rfl; simp
        · intro e
          rcases Nat.lt_trichotomy k pos.length with l | l | l
          · rw [List.getElem?_append_left l] at e
            exact absurd (List.mem_of_getElem? e) free
          · exact l.symm
          · rw [List.getElem?_eq_none (by rw [List.length_append]; simp; omega)] at e; cases e
      · rw [oAt_set_ne _ c, L.who j hj]
        constructor
        · intro e
          rw [List.getElem?_append_left (List.getElem?_eq_some_iff.mp e).1]; exact e
        · intro e
          rcases Nat.lt_or_ge k pos.length with l | l
          · rwa [List.getElem?_append_left l] at e
          · rw [List.getElem?_append_right l] at e
            exact absurd (List.mem_singleton.mp (List.mem_of_getElem? e)) c
    · rw [List.zip_append L.len.symm] at hq
      rcases List.mem_append.mp hq with hq | hq
      · obtain ⟨k, e, b⟩ := L.met q hq
        exact ⟨k, e, fun c l => List.mem_append_left _ (b c l)⟩
      · obtain rfl := List.mem_singleton.mp hq
        exact ⟨K, rfl, fun c l => List.mem_append_left _ (taken c l)⟩
theorem lay_all (F : Full m) : ∀ (rest done : List Int) (owner : Array (Option Nat)) (pos : List Nat), Lay m done owner pos → done.length + rest.length ≤ m →
    ∃ owner' pos' n, rest.foldl (stepF m) (some (owner, done.length)) = some (owner', n) ∧ Lay m (done ++ rest) owner' pos'
  | [], done, owner, pos, L, _ => ⟨owner, pos, _, rfl, by rw [List.append_nil]; exact L⟩
  | h :: rest, done, owner, pos, L, few => by
    rw [List.length_cons] at few
    obtain ⟨j, e, L2⟩ := L.next F (by omega) h
    have ln : (done ++ [h]).length = done.length + 1 := List.length_append
    obtain ⟨o, p, n, f, L3⟩ := lay_all F rest (done ++ [h]) _ _ L2 (by rw [ln]; omega)
    rw [ln] at f
    exact ⟨o, p, n, by rw [List.foldl_cons, stepF_some e]; exact f, by rw [List.append_assoc] at L3; exact L3⟩
theorem relaid_w (t : SetTable) {hs : Array Int} {wanted M : Nat} (hw : SetTable.sizeAbove wanted - 1 = M) (ok : MaskW M) (few : hs.size ≤ M) :
    ∃ t' order, t.relaid hs wanted = some (t', order) ∧ order.toList.Perm (List.range hs.size) ∧ TabW t' (order.toList.map fun i => hs.getD i 0) ∧ t'.mask = M ∧ t'.led = t.led ∧ t'.plain = t.plain ∧ t'.dummies = #[] := by
  obtain ⟨owner, pos, n, f, L⟩ := lay_all ok.full hs.toList [] _ [] (Lay.init M) (by rw [Array.length_toList]; show 0 + hs.size ≤ M; omega)
  rw [List.nil_append] at L
  have laid : t.relaid hs wanted = some (tabOf t M owner, ((liveOf M owner).map (·.2)).toArray) := by
    rw [relaid_eq, hw, layClean_eq, show hs.toList.foldl (stepF M) (some (Array.replicate (M + 1) none, 0)) = some (owner, n) from f]
    rfl
  have live : ∀ j k, (j, k) ∈ liveOf M owner ↔ pos[k]? = some j := fun j k => by
    rw [mem_live L.sz]
    constructor
    · rintro ⟨l, e⟩; exact (L.who j l k).mp e
    · intro e
      have l := L.bd j (List.mem_of_getElem? e)
      exact ⟨l, (L.who j l k).mpr e⟩
  obtain ⟨ris, inR⟩ := ris_live (fun j => owner.getD j none) (List.range (M + 1)) List.pairwise_lt_range
  have ris : Ris ((liveOf M owner).map (·.1)) := ris
  have pairs : (liveOf M owner).Pairwise fun a b => a.1 < b.1 := List.pairwise_map.mp ris
  have ln : pos.length = hs.size := L.len
  have pm : ((liveOf M owner).map (·.2)).Perm (List.range hs.size) := by
    refine (List.perm_ext_iff_of_nodup ?_ List.nodup_range).mpr fun k => ?_
    · refine List.pairwise_map.mpr (pairs.imp_of_mem fun {a b} ha hb l e => ?_)
      have h1 := (live a.1 a.2).mp ha
      have h2 := (live b.1 b.2).mp hb
      rw [e, h2] at h1
      injection h1 with h1
      rw [h1] at l
      exact absurd l (Nat.lt_irrefl _)
    · rw [List.mem_range, ← ln]
      constructor
      · intro hk
        obtain ⟨⟨j, k2⟩, hm, rfl⟩ := List.mem_map.mp hk
        exact (List.getElem?_eq_some_iff.mp ((live j k2).mp hm)).1
      · intro l
        exact List.mem_map.mpr ⟨(pos[k], k), (live _ _).mpr (List.getElem?_eq_getElem l), rfl⟩
  refine ⟨tabOf t M owner, _, laid, pm, ⟨ris, rfl, ?_, ok, fun x hx => Nat.le_of_lt_succ (List.mem_range.mp (inR x hx)), fun q hq => ?_⟩, rfl, rfl, rfl, rfl⟩
  · show ((liveOf M owner).map (·.1)).length = (((liveOf M owner).map (·.2)).map fun i => hs.getD i 0).length
    simp
  · have hq : q ∈ (((liveOf M owner).map (·.2)).map fun i => hs.getD i 0).zip ((liveOf M owner).map (·.1)) := hq
    rw [List.map_map, List.zip_map'] at hq
    obtain ⟨⟨j, k⟩, hm, rfl⟩ := List.mem_map.mp hq
    have e := (live j k).mp hm
    have l : k < hs.size := by rw [← ln]; exact (List.getElem?_eq_some_iff.mp e).1
    have eh : hs.toList[k]? = some (hs.getD k 0) := by
      rw [Array.getElem?_toList, Array.getD_eq_getD_getElem?, Array.getElem?_eq_getElem l]; rfl
    obtain ⟨c, e2, b⟩ := L.met (hs.getD k 0, j) (List.mem_of_getElem? (List.getElem?_zip_eq_some.mpr ⟨eh, e⟩))
    refine ⟨c, e2, fun c hc => ?_⟩
    obtain ⟨i, hi⟩ := List.mem_iff_getElem?.mp (b c hc)
    exact List.mem_map.mpr ⟨(_, i), (live _ i).mpr hi, rfl⟩
end
theorem size_308 : SetTable.sizeAbove (SetTable.grown 77) = 512 := by decide +kernel
theorem size_1228 : SetTable.sizeAbove (SetTable.grown 307) = 2048 := by decide +kernel
end DLN
namespace DLN
open L2 PySem PySem.Spec PyProof.Rows
structure Calm {P : Program} {w : World} {K : Type} [DecidableEq K] (knd : HeapKind P w K) : Prop where
  st : knd.Stays
  byVal : ∀ {A : Around} {E : Value → Shared → Prop} {s : Shared} {k : K} {b : Addr} {Q : Bool → Shared → Prop}, knd.is s.heap k b → Q true s → wpAny (model P w) A (hashByValue 8 (.ref b)) Q E s
  noCls : ∀ {A : Around} {E : Value → Shared → Prop} {s : Shared} {k : K} {b : Addr} {Q : Bool → Shared → Prop}, knd.is s.heap k b → Q false s → wpAny (model P w) A (ofAClassStatement 8 (.ref b)) Q E s
section
variable {P : Program} {w : World} {K : Type} [DecidableEq K] {knd : HeapKind P w K}
def ent (knd : HeapKind P w K) (q : Addr × K) : Int × Value := (knd.hash q.2, .ref q.1)
abbrev Led (w : World) (t : SetTable) : Prop := w.params.followText "set-order" = true ∨ t.led = true
structure NSet (knd : HeapKind P w K) (h : Heap) (a : Addr) (L : List (Addr × K)) (es : Array (Int × Value)) (ep : Nat) (t : SetTable) : Prop where
  here : ∃ o, h.get? a = some o ∧ o.ExactSet ∧ o.data = .set es ep t
  ents : es.toList = L.map (ent knd)
  tab : TabW t (L.map fun q => knd.hash q.2)
  once : (L.map (·.2)).Nodup
  keys : ∀ q ∈ L, knd.is h q.2 q.1
  pl : t.plain = true
  led : Led w t
  room : 5 * L.length < 3 * t.mask
  few : L.length < 1000
theorem Calm.over (C : Calm knd) {h h' : Heap} {k : K} {b : Addr} (x : knd.is h k b) (old : ∀ c o, h.get? c = some o → h'.get? c = some o) : knd.is h' k b := C.st.stays (fun c o _ _ e _ => old c o e) x
theorem Calm.but (C : Calm knd) {h h' : Heap} {k : K} {a b : Addr} {o : Obj} {es : Array (Int × Value)} {ep : Nat} {t : SetTable} (x : knd.is h k b) (ho : h.get? a = some o) (hd : o.data = .set es ep t) (sb : Heap.SameBut a h h') : knd.is h' k b :=
  C.st.stays (fun c ob vs n e ed => (sb.2 c fun z => by
    subst z
    cases ho.symm.trans e
    rw [hd] at ed; cases ed).trans e) x
section
variable {A : Around} {E : Value → Shared → Prop} {s : Shared} {a : Addr} {L : List (Addr × K)} {es : Array (Int × Value)} {ep : Nat} {t : SetTable}
theorem size_of {es : Array (Int × Value)} {L : List (Addr × K)} (h : es.toList = L.map (ent knd)) : es.size = L.length := by
  simpa using congrArg List.length h
theorem fits_of (ents : es.toList = L.map (ent knd)) (tab : TabW t (L.map fun q => knd.hash q.2)) (le : L.length ≤ t.mask) : t.fits es.size = true := by
  have h1 : t.place.size = L.length := by simpa using tab.sz
  simp only [SetTable.fits, SetTable.fill, tab.dm, Bool.and_eq_true, beq_iff_eq, decide_eq_true_eq, List.size_toArray, List.length_nil, Nat.add_zero, size_of ents, h1, le, and_self]
theorem NSet.look (R : NSet knd s.heap a L es ep t) {Q : Array (Int × Value) × Nat × SetTable → Shared → Prop} (q : Q (es, ep, t) s) : wpAny (model P w) A (setState a) Q E s := by
  obtain ⟨o, ho, _, hd⟩ := R.here
  have := R.room
  exact wpAny_setState_of ho hd (fits_of R.ents R.tab (by omega)) q
theorem ent_at {es : Array (Int × Value)} {L : List (Addr × K)} (h : es.toList = L.map (ent knd)) (i : Nat) : es[i]? = (L[i]?).map (ent knd) := by
  rw [← Array.getElem?_toList, h, List.getElem?_map]
theorem unseen (C : Calm knd) {k : K} {b : Addr} {Q : Bool → Shared → Prop} (hk : knd.is s.heap k b) : ∀ ys : List Value, (∀ y ∈ ys, ∃ k' c, y = Value.ref c ∧ knd.is s.heap k' c) → Q false s → wpAny (model P w) A (searchCouldBeSeen (.ref b) ys) Q E s := by
  intro ys hy h
  unfold searchCouldBeSeen
  refine wpAny_bind (wpAny_forIn_list _ (fun rest r s' => r.1 = none ∧ s' = s ∧ ∀ y ∈ rest, ∃ k' c, y = Value.ref c ∧ knd.is s.heap k' c) _ ?_ ?_ _ _ ⟨rfl, rfl, hy⟩)
  · rintro y rest r s' ⟨_, rfl, all⟩
    have later := fun u hu => all u (List.mem_cons_of_mem y hu)
    obtain ⟨k', c, rfl, hc⟩ := all y (.head _)
    dsimp only
    by_cases e : (b == c || (carriedByValue (.ref b) && carriedByValue (.ref c))) = true
    · exact wp_if_pos e (wpAny_pure ⟨rfl, rfl, later⟩)
    · refine wp_if_neg e (wpAny_bind (knd.quiet hk ?_))
      rw [if_neg (by decide)]
      refine wpAny_bind (knd.quiet hc ?_)
      rw [if_neg (by decide)]
      refine wpAny_bind (C.noCls hk ?_)
      rw [if_neg (by decide)]
      refine wpAny_bind (C.noCls hc ?_)
      rw [if_neg (by decide)]
      exact wpAny_pure ⟨rfl, rfl, later⟩
  · rintro ⟨r1, r2⟩ s' ⟨e, rfl, _⟩
    cases (show r1 = none from e)
    exact wpAny_pure h
abbrev pb (m : Nat) (h : Int) (c : Nat) : SetTable.Probe := nth m (runAt m (SetTable.bits h % (m + 1)) (SetTable.bits h)) c
theorem pb_none (m : Nat) (h : Int) (c : Nat) : (pb m h c).dummy = none := by
  have all : ∀ n (p : SetTable.Probe), p.dummy = none → (nth m p n).dummy = none := by
    intro n
    induction n with
    | zero => exact fun p e => e
    | succ n ih => exact fun p e => ih _ (by unfold adv; split <;> exact e)
  exact all c _ rfl
theorem pb_add (m : Nat) (h : Int) (c n : Nat) : nth m (pb m h c) n = pb m h (c + n) := (nth_add m c _ n).symm
def Meets (t : SetTable) (h : Int) (c i : Nat) : Prop := t.place.toList[i]? = some (way t.mask h c)
theorem Meets.one {t : SetTable} (r : Ris t.place.toList) {h : Int} {c i j : Nat} (x : Meets t h c i) (y : Meets t h c j) : i = j := by
  have e := slot_live r x
  rw [slot_live r y] at e
  injection e with e
  exact e.symm
theorem seek (C : Calm knd) (R : NSet knd s.heap a L es ep t) {x : Addr} {k : K} (hx : knd.is s.heap k x) (hu : knd.room A) {N : Nat} (free : way t.mask (knd.hash k) N ∉ t.place.toList) (taken : ∀ c, c < N → way t.mask (knd.hash k) c ∈ t.place.toList)
    (small : N < 10 * SetTable.turns t.mask) {Q : SetFound → Shared → Prop} (yes : k ∈ L.map (·.2) → Q (.there none) s) (no : k ∉ L.map (·.2) → Q (.free (way t.mask (knd.hash k) N) false) s) :
    ∀ (f c : Nat) (stand : Option SetTable.Probe), N < c + f → c ≤ N → stand.getD (t.probeStart (knd.hash k)) = pb t.mask (knd.hash k) c → (∀ (i : Nat) (q : Addr × K), L[i]? = some q → q.2 = k → ∃ d, c ≤ d ∧ d < N ∧ Meets t (knd.hash k) d i) →
      wpAny (model P w) A (setSearchFrom a (.ref x) (knd.hash k) true f stand) Q E s := by
  intro f
  induction f with
  | zero => exact fun c _ hf hc => absurd hf (by omega)
  | succ f ih =>
    intro c stand hf hc hs ahead
    obtain ⟨o, ho, hex, hd⟩ := R.here
    rw [setSearchFrom_succ]
    refine wpAny_bind (R.look ?_)
    dsimp only
    refine wp_if_neg (by unfold SetTable.gaveWay; rw [R.tab.mok.full.odd]; decide) ?_
    have hash_ : ∀ (i : Nat) q, L[i]? = some q → ((es[i]?.map (·.1)).getD 0) = knd.hash q.2 := fun i q e => by rw [ent_at R.ents, e]; rfl
    have answer := go_spec t R.tab.ris R.tab.dm (fun i => (es[i]?.map (·.1)).getD 0) (knd.hash k) (10 * SetTable.turns t.mask) (N - c) (pb t.mask (knd.hash k) c) (pb_none _ _ _) (by omega)
      (fun n hn => by rw [pb_add]; exact taken (c + n) (by omega)) (by rw [pb_add, show c + (N - c) = N by omega]; exact free)
    simp only [pb_add] at answer
    rcases answer with ⟨n, i, hn, hi, eh, before, ep_⟩ | ⟨before, ep_⟩
    · have asked : t.probe (fun i => (es[i]?.map (·.1)).getD 0) (knd.hash k) (stand.getD (t.probeStart (knd.hash k))) = some (.candidate (way t.mask (knd.hash k) (c + n)) i (pb t.mask (knd.hash k) (c + (n + 1)))) := by
        rw [hs]; exact ep_
      rw [asked]
      dsimp only
      have many : t.place.toList.length = L.length := by have := R.tab.sz; simpa using this
      obtain ⟨q, hq⟩ : ∃ q, L[i]? = some q := ⟨_, List.getElem?_eq_getElem (by rw [← many]; exact (List.getElem?_eq_some_iff.mp hi).1)⟩
      have inL := List.mem_of_getElem? hq
      have eq_ : es[i]? = some (knd.hash q.2, Value.ref q.1) := by rw [ent_at R.ents, hq]; rfl
      have onward : wpAny (model P w) A (searchRest a (.ref x) (knd.hash k) true f es t (way t.mask (knd.hash k) (c + n)) i (pb t.mask (knd.hash k) (c + (n + 1)))) Q E s := by
        unfold searchRest
        rw [eq_]
        dsimp only
        refine wpAny_bind (wpAny_holding (knd.eqBool hu (R.keys q inL) hx ?_))
        refine wpAny_bind (R.look ?_)
        dsimp only
        by_cases same : q.2 = k
        · exact wp_if_pos (by simp [same]) (wpAny_pure (yes (List.mem_map.mpr ⟨q, inL, same⟩)))
        · refine wp_if_neg (by simp [same]) ?_
          rw [sameMem]
          dsimp only
          have at_ : t.slot (way t.mask (knd.hash k) (c + n)) = .live i := slot_live R.tab.ris hi
          simp only [if_true, at_, eq_]
          refine wpAny_bind (wpAny_isSame_ref_self (wpAny_bind (wpAny_pure ?_)))
          simp only [if_true]
          refine wp_if_neg (by simp [same]) (ih (c + (n + 1)) _ (by omega) (by omega) rfl fun j r hr er => ?_)
          obtain ⟨d, d1, d2, d3⟩ := ahead j r hr er
          refine ⟨d, ?_, d2, d3⟩
          rcases Nat.lt_trichotomy d (c + n) with z | z | z
          · refine absurd ((hash_ j r hr).trans (by rw [er])) (before (d - c) j (by omega) ?_)
            rw [show c + (d - c) = d by omega]; exact d3
          · subst z
            have := d3.one R.tab.ris hi
            subst this
            rw [hq] at hr; cases hr
            exact absurd er same
          · omega
      by_cases led : t.led = true
      · refine wp_if_neg (by simp [led]) ?_
        exact onward
      · refine wp_if_pos (by simp [led]) (wpAny_bind (unseen C hx _ (fun y hy => ?_) ?_))
        · obtain ⟨e, he, rfl⟩ := List.mem_map.mp hy
          have : e ∈ es.toList := by
            have h2 : e ∈ es ∧ e.1 = knd.hash k := by simpa using he
            simpa using h2.1
          rw [R.ents] at this
          obtain ⟨r, hr, rfl⟩ := List.mem_map.mp this
          exact ⟨r.2, r.1, rfl, R.keys r hr⟩
        · refine wp_if_neg (by decide) ?_
          exact onward
    · have asked : t.probe (fun i => (es[i]?.map (·.1)).getD 0) (knd.hash k) (stand.getD (t.probeStart (knd.hash k))) = some (.empty (way t.mask (knd.hash k) N) none) := by
        rw [hs]
        refine ep_.trans ?_
        rw [show c + (N - c) = N by omega]
      rw [asked]
      dsimp only
      refine wpAny_pure (no fun m => ?_)
      obtain ⟨q, inL, eq_⟩ := List.mem_map.mp m
      obtain ⟨i, hi, e⟩ := List.getElem_of_mem inL
      have hq : L[i]? = some q := by rw [List.getElem?_eq_getElem hi, e]
      obtain ⟨d, d1, d2, d3⟩ := ahead i q hq eq_
      refine absurd ((hash_ i q hq).trans (by rw [eq_])) (before (d - c) i (by omega) ?_)
      rw [show c + (d - c) = d by omega]; exact d3
theorem seek0 (C : Calm knd) (R : NSet knd s.heap a L es ep t) {x : Addr} {k : K} (hx : knd.is s.heap k x) (hu : knd.room A) {Q : SetFound → Shared → Prop} (yes : k ∈ L.map (·.2) → Q (.there none) s)
    (no : ∀ N, k ∉ L.map (·.2) → way t.mask (knd.hash k) N ∉ t.place.toList → (∀ c, c < N → way t.mask (knd.hash k) c ∈ t.place.toList) → Q (.free (way t.mask (knd.hash k) N) false) s) : wpAny (model P w) A (setSearch a (.ref x) (knd.hash k) true) Q E s := by
  have room := R.room
  obtain ⟨N, n1, n2, n3⟩ := R.tab.first (by rw [List.length_map]; omega) (knd.hash k)
  have big : N < 0 + 100000 := by
    have : SetTable.turns t.mask ≤ 2062 := by
      unfold SetTable.turns
      have mok := R.tab.mok
      unfold MaskW at mok
      omega
    omega
  refine seek C R hx hu n2 n3 n1 yes (fun h => no N h n2 n3) 100000 0 none big (Nat.zero_le _) rfl fun i q hq eq_ => ?_
  have l1 : i < t.place.toList.length := by
    have h1 : t.place.toList.length = L.length := by have := R.tab.sz; simpa using this
    rw [h1]; exact (List.getElem?_eq_some_iff.mp hq).1
  have l2 := List.getElem?_eq_getElem l1
  obtain ⟨d, d1, d2⟩ := R.tab.before n2 (show (L.map fun q => knd.hash q.2)[i]? = some (knd.hash k) by rw [List.getElem?_map, hq, ← eq_]; rfl) l2
  exact ⟨d, Nat.zero_le _, d1, by unfold Meets; rw [l2, d2]⟩
end
theorem range_get {α : Type} : ∀ l : List α, (List.range l.length).filterMap (fun i => l[i]?) = l
  | [] => rfl
  | x :: l => by
    rw [List.length_cons, List.range_succ_eq_map, List.filterMap_cons_some (b := x) (by simp), List.filterMap_map]
    exact congrArg (x :: ·) (range_get l)
theorem re_ents {L : List (Addr × K)} {es : Array (Int × Value)} {order : Array Nat} (h : es.toList = L.map (ent knd)) : (order.filterMap (es[·]?)).toList = (order.toList.filterMap fun i => L[i]?).map (ent knd) := by
  rw [Array.toList_filterMap, List.map_filterMap]
  congr 1
  funext i
  exact ent_at h i
theorem re_hash {L : List (Addr × K)} {es : Array (Int × Value)} (h : es.toList = L.map (ent knd)) : ∀ l : List Nat, (∀ i ∈ l, i < L.length) → ((l.filterMap fun i => L[i]?).map fun q => knd.hash q.2) = l.map fun i => (es.map (·.1)).getD i 0
  | [], _ => rfl
  | i :: l, lt => by
    have l1 := lt i (.head _)
    have e : (es.map (·.1)).getD i 0 = knd.hash (L[i]).2 := by
      rw [Array.getD_eq_getD_getElem?, Array.getElem?_map, ent_at h, List.getElem?_eq_getElem l1]; rfl
    rw [List.filterMap_cons_some (List.getElem?_eq_getElem l1), List.map_cons, List.map_cons, re_hash h l fun j m => lt j (.tail _ m), e]
section
variable {A : Around} {E : Value → Shared → Prop} {s : Shared} {a : Addr} {L : List (Addr × K)} {es : Array (Int × Value)} {ep : Nat} {t : SetTable}
theorem relay (C : Calm knd) {o : Obj} (ho : s.heap.get? a = some o) (hex : o.ExactSet) (hd : o.data = .set es ep t) (ents : es.toList = L.map (ent knd)) (tab : TabW t (L.map fun q => knd.hash q.2)) (once : (L.map (·.2)).Nodup) (keys : ∀ q ∈ L, knd.is s.heap q.2 q.1)
    (pl : t.plain = true) (led : Led w t) (few : L.length < 1000) (fill : L.length ≤ t.mask) {n M : Nat} (hM : SetTable.sizeAbove n = M + 1) (ok : MaskW M) (room : 5 * L.length < 3 * M)
    {Q : Unit → Shared → Prop} (q : ∀ h' L' es' ep' t', Heap.SameBut a s.heap h' → NSet knd h' a L' es' ep' t' → L'.Perm L → Q () { s with heap := h' }) : wpAny (model P w) A (setRelay a n) Q E s := by
  have sz := size_of ents
  have M128 : M ≤ 2047 := ok.le
  obtain ⟨t2, order, e1, pm, T2, m2, l2, p2, d2⟩ := relaid_w t (hs := es.map (·.1)) (wanted := n) (M := M) (by rw [hM]; rfl) ok (by rw [Array.size_map, sz]; omega)
  rw [Array.size_map, sz] at pm
  have in_ : ∀ i ∈ order.toList, i < L.length := fun i m => List.mem_range.mp (pm.mem_iff.mp m)
  have re := re_ents (order := order) ents
  rw [← re_hash ents order.toList in_] at T2
  have pmL : (order.toList.filterMap fun i => L[i]?).Perm L := by
    have := pm.filterMap fun i => L[i]?
    rwa [range_get] at this
  generalize (order.toList.filterMap fun i => L[i]?) = L2 at re T2 pmL
  have sz3 : (order.filterMap (es[·]?)).size = es.size := by rw [size_of re, sz, pmL.length_eq]
  rw [setRelay_eq]
  refine wpAny_bind (wpAny_setState_of ho hd (fits_of ents tab fill) ?_)
  dsimp only
  refine wp_if_neg (by rw [sizeLine_eq, hM]; omega) ?_
  rw [e1]
  dsimp only
  refine wpAny_bind (wp_if_neg (by rw [sz3]; simp) ?_)
  refine wpAny_pure ?_
  dsimp only
  have sb : Heap.SameBut a s.heap (s.heap.update a (Obj.putSet (order.filterMap (es[·]?)) t2)) := Heap.SameBut.update ..
  refine wpAny_storeSet_of ho hd (q _ L2 _ (ep + 1) t2 sb ⟨⟨_, store_at ho hd, ⟨hex.1, hex.2.1, hex.2.2⟩, rfl⟩, re, T2, (pmL.map (·.2)).nodup_iff.mpr once, fun r m => C.but (keys r (pmL.mem_iff.mp m)) ho hd sb, p2 ▸ pl, led.imp id l2.trans, ?_, pmL.length_eq ▸ few⟩ pmL) (by rw [sz3, sz, sizeLine_eq]; omega)
  rw [pmL.length_eq, m2]; exact room
theorem add (C : Calm knd) (R : NSet knd s.heap a L es ep t) {x : Addr} {k : K} (hx : knd.is s.heap k x) (hu : knd.room A) (few : L.length + 1 < 1000) {Q : Bool → Shared → Prop}
    (q : ∀ b h' L' es' ep' t', Heap.SameBut a s.heap h' → NSet knd h' a L' es' ep' t' → (k ∈ L.map (·.2) ∧ L' = L ∨ k ∉ L.map (·.2) ∧ L'.Perm ((x, k) :: L)) → Q b { s with heap := h' }) : wpAny (model P w) A (setAddHashed a (.ref x) (knd.hash k)) Q E s := by
  obtain ⟨o, ho, hex, hd⟩ := R.here
  have sz := size_of R.ents
  have room := R.room
  unfold setAddHashed
  refine wpAny_holding ?_
  show wpAny _ _ (setAddHashedIn a (.ref x) (knd.hash k) (99999 + 1)) _ _ _
  rw [setAddHashedIn_succ]
  refine wpAny_bind (R.look ?_)
  dsimp only
  refine wp_if_neg (show ¬ byScan (.ref x) es = true by simp [byScan, Value.scannable]) ?_
  refine wpAny_bind (seek0 C R hx hu (fun m => ?_) fun N m n1 n2 => ?_)
  · dsimp only
    exact wpAny_pure (q false s.heap L es ep t (Heap.SameBut.refl a s.heap) R (.inl ⟨m, rfl⟩))
  · dsimp only
    refine wpAny_bind (R.look ?_)
    dsimp only
    obtain ⟨p1, p2, p3, p4, p5, p6, p9⟩ := R.tab.put n1 n2
    generalize SetTable.below t.place (way t.mask (knd.hash k) N) = i at p1 p2 p3
    generalize ht : t.put (way t.mask (knd.hash k) N) = pt at p1 p3 p4 p5 p6 p9 ⊢
    obtain ⟨t1, i1⟩ := pt
    dsimp only at p1 p3 p4 p5 p6 p9 ⊢
    subst p1
    have pl1 : t1.plain = true := p6.trans R.pl
    first
      | (refine wpAny_bind ?_; refine wp_if_pos pl1 ?_; refine C.byVal hx ?_)
      | refine wp_if_pos pl1 (wpAny_bind (C.byVal hx ?_))
    simp only [if_true]
    have pm := put_perm L i1 (x, k)
    have e1 : (SetTable.insertAt es i1 (knd.hash k, Value.ref x)).toList = (L.take i1 ++ (x, k) :: L.drop i1).map (ent knd) := by
      rw [SetTable.toList_insertAt, R.ents, List.map_append, List.map_cons, List.map_take, List.map_drop]; rfl
    have T1 : TabW t1 ((L.take i1 ++ (x, k) :: L.drop i1).map fun q => knd.hash q.2) := by
      rw [List.map_append, List.map_cons, List.map_take, List.map_drop]; exact p3
    generalize SetTable.insertAt es i1 (knd.hash k, Value.ref x) = es1 at e1 ⊢
    generalize L.take i1 ++ (x, k) :: L.drop i1 = L1 at pm e1 T1
    have len : L1.length = L.length + 1 := pm.length_eq
    have sz1 := size_of e1
    have once : (L1.map (·.2)).Nodup := (pm.map (·.2)).nodup_iff.mpr (List.nodup_cons.mpr ⟨m, R.once⟩)
    have led1 : Led w t1 := R.led.imp id p5.trans
    refine wpAny_bind (wpAny_storeSet_of ho hd ?_ (by rw [sz1, len, sizeLine_eq]; omega))
    obtain ⟨h1, eh, sb, ho1⟩ : ∃ h1, s.heap.update a (Obj.putSet es1 t1) = h1 ∧ Heap.SameBut a s.heap h1 ∧ h1.get? a = some { o with data := .set es1 (ep + 1) t1 } := ⟨_, rfl, .update .., store_at ho hd⟩
    rw [eh]
    have keys1 : ∀ r ∈ L1, knd.is h1 r.2 r.1 := fun r hr => by
      rcases List.mem_cons.mp (pm.mem_iff.mp hr) with e | hr
      · subst e; exact C.but hx ho hd sb
      · exact C.but (R.keys r hr) ho hd sb
    by_cases full : t1.tooFull = true
    · first
        | (refine wpAny_bind ?_; refine wp_if_pos (by simp [full]) ?_)
        | (refine wp_if_pos (by simp [full]) ?_; refine wpAny_bind ?_)
      have over : (L.length + 1) * 5 ≥ t.mask * 3 := by
        have f := full
        unfold SetTable.tooFull at f
        rw [decide_eq_true_eq, p9, List.length_map, p4] at f
        exact f
      rw [sz]
      obtain ⟨M, hM, ok, r1⟩ : ∃ M, SetTable.sizeAbove (SetTable.grown (L.length + 1)) = M + 1 ∧ MaskW M ∧ 5 * (L.length + 1) < 3 * M := by
        rcases R.tab.mok with z | z | z | z | z
        · have e2 : L.length = 4 := by omega
          rw [e2]; exact ⟨31, size_20, .inr (.inl rfl), by decide⟩
        · have e2 : L.length = 18 := by omega
          rw [e2]; exact ⟨127, size_76, .inr (.inr (.inl rfl)), by decide⟩
        · have e2 : L.length = 76 := by omega
          rw [e2]; exact ⟨511, size_308, .inr (.inr (.inr (.inl rfl))), by decide⟩
        · have e2 : L.length = 306 := by omega
          rw [e2]; exact ⟨2047, size_1228, .inr (.inr (.inr (.inr rfl))), by decide⟩
        · omega
      refine relay (s := { s with heap := h1 }) C ho1 ⟨hex.1, hex.2.1, hex.2.2⟩ rfl e1 T1 once keys1 pl1 led1 (by omega) (by rw [len, p4]; omega) hM ok (by rw [len]; exact r1) fun h2 L2 es2 ep2 t2 sb2 R2 pm2 => ?_
      exact wpAny_pure (q true h2 L2 es2 ep2 t2 (sb.trans sb2) R2 (.inr ⟨m, pm2.trans pm⟩))
    · have under : 5 * (L.length + 1) < 3 * t1.mask := by
        have f := full
        unfold SetTable.tooFull at f
        rw [decide_eq_true_eq, p9, List.length_map] at f
        omega
      first
        | refine wp_if_neg (by simp [full]) ?_
        | (refine wpAny_bind ?_; refine wp_if_neg (by simp [full]) ?_; refine wpAny_pure ?_)
      exact wpAny_pure (q true h1 L1 es1 (ep + 1) t1 sb ⟨⟨_, ho1, ⟨hex.1, hex.2.1, hex.2.2⟩, rfl⟩, e1, T1, once, keys1, pl1, led1, by rw [len]; exact under, by omega⟩ (.inr ⟨m, pm⟩))
end
end
end DLN
end
section
set_option maxRecDepth 100000
namespace DLN
open L2 PySem PySem.Spec PyProof.Rows
mutual
/-- no text within -/
def wordless : NestedKey → Bool
  | .none => true
  | .num _ => true
  | .text _ => false
  | .tup ks => wordlessA ks
def wordlessA : List NestedKey → Bool
  | [] => true
  | k :: r => wordless k && wordlessA r
end
section
variable {P : Program} {w : World}
def calmKind (P : Program) (w : World) : HeapKind P w NestedKey where
  is := fun h k a => (nestedKind P w).is h k a ∧ wordless k = true
  hash := (nestedKind P w).hash
  draws := (nestedKind P w).draws
  room := (nestedKind P w).room
  inj := fun x y => (nestedKind P w).inj x.1 y.1
  keeps := fun x ho hd sb => ⟨(nestedKind P w).keeps x.1 ho hd sb, x.2⟩
  pyHash := fun hu x h => (nestedKind P w).pyHash hu x.1 h
  eqBool := fun hu x y h => (nestedKind P w).eqBool hu x.1 y.1 h
  quiet := fun x h => (nestedKind P w).quiet x.1 h
variable {K : Type} [DecidableEq K] {knd : HeapKind P w K}
structure Took (ks : List (Addr × K)) (i : Nat) (L : List (Addr × K)) : Prop where
  from_ : ∀ q ∈ L, q ∈ ks.take i
  keys : ∀ k, k ∈ L.map (·.2) ↔ k ∈ (ks.take i).map (·.2)
  len : L.length ≤ i
theorem Took.next {ks L L' : List (Addr × K)} {i : Nat} {q : Addr × K} (T : Took ks i L) (e : ks[i]? = some q) (c : q.2 ∈ L.map (·.2) ∧ L' = L ∨ q.2 ∉ L.map (·.2) ∧ L'.Perm (q :: L)) : Took ks (i + 1) L' := by
  have e2 : ks.take (i + 1) = ks.take i ++ [q] := by rw [List.take_succ, e]; rfl
  have e3 : ∀ k, k ∈ (ks.take (i + 1)).map (·.2) ↔ k ∈ L.map (·.2) ∨ k = q.2 := fun k => by
    rw [e2, List.map_append, List.mem_append, T.keys]; simp
  rcases c with ⟨m, rfl⟩ | ⟨_, pm⟩
  · refine ⟨fun r hr => by rw [e2]; exact List.mem_append_left _ (T.from_ r hr), fun k => ?_, Nat.le_succ_of_le T.len⟩
    rw [e3]
    exact ⟨.inl, fun h => h.elim id fun h => h ▸ m⟩
  · refine ⟨fun r hr => ?_, fun k => ?_, by rw [pm.length_eq]; exact Nat.succ_le_succ T.len⟩
    · rw [e2]
      rcases List.mem_cons.mp (pm.mem_iff.mp hr) with rfl | h
      · simp
      · exact List.mem_append_left _ (T.from_ r h)
    · rw [e3, (pm.map (·.2)).mem_iff, List.map_cons, List.mem_cons]
      exact Or.comm
def Half (knd : HeapKind P w K) (h : Heap) (a : Addr) (ks : List (Addr × K)) (i : Nat) : Prop := ∃ L es ep t, NSet knd h a L es ep t ∧ Took ks i L
theorem Half.new {h : Heap} {a : Addr} {ks : List (Addr × K)} (ho : h.get? a = some { cls := .type "set", dict := none, data := .set #[] 0 (.fresh 0 0 (!w.params.followText "set-order")) }) : Half knd h a ks 0 := by
  refine ⟨[], #[], 0, _, ⟨⟨_, ho, ⟨rfl, rfl, rfl⟩, rfl⟩, rfl, ⟨List.Pairwise.nil, rfl, rfl, .inl rfl, (by intro x m; cases m), (by intro q m; cases m)⟩, List.nodup_nil, (by intro q m; cases m), rfl, ?_, (by decide : 5 * 0 < 3 * 7), Nat.zero_lt_succ 999⟩, ⟨(by intro q m; cases m), fun k => by simp, Nat.le_refl 0⟩⟩
  cases e : w.params.followText "set-order" with
  | true => exact .inl e
  | false => exact .inr rfl
section
variable {s : Shared} {A : Around} {E : Value → Shared → Prop}
theorem Half.over (C : Calm knd) {h0 h h' : Heap} {a : Addr} {ks : List (Addr × K)} {i : Nat} (H : Half knd h a ks i) (lie : ∀ q ∈ ks, knd.is h0 q.2 q.1) (old : ∀ b o, h0.get? b = some o → h'.get? b = some o) (same : ∀ o, h.get? a = some o → h'.get? a = some o) : Half knd h' a ks i := by
  obtain ⟨L, es, ep, t, R, T⟩ := H
  obtain ⟨o, ho, r⟩ := R.here
  exact ⟨L, es, ep, t, ⟨⟨o, same o ho, r⟩, R.ents, R.tab, R.once, fun q m => C.over (lie q (List.mem_of_mem_take (T.from_ q m))) old, R.pl, R.led, R.room, R.few⟩, T⟩
theorem fill (C : Calm knd) {I : Addr} {fp wr : List Addr} {G : Array GenState → Array GenState → Prop} {n : Nat} {Pv : Nat → Value → Prop} {St : Nat → Shared → Prop} {R : Result → Shared → Prop} (W : WalksS P w A.in1 I fp wr G n Pv St) (a : Addr) (out_ : a ∉ fp)
    (ks : List (Addr × K)) (en : n = ks.length) (few : ks.length < 1000) (val : ∀ i v, Pv i v → ∃ q, ks[i]? = some q ∧ v = .ref q.1) (h0 : Heap) (lie : ∀ q ∈ ks, knd.is h0 q.2 q.1) (na : h0.get? a = none) (nw : ∀ b ∈ wr, h0.get? b = none) (hu : knd.room A.in1)
    (s0 : Shared) (fin : ∀ s', G s0.gens s'.gens ∧ s'.drawn = s0.drawn ∧ s'.os = s0.os → Half knd s'.heap a ks n → (∀ b o, h0.get? b = some o → s'.heap.get? b = some o) → R (.ok (.ret .none)) s') :
    ∀ (m i : Nat) (s : Shared), i + m = n → G s0.gens s.gens ∧ s.drawn = s0.drawn ∧ s.os = s0.os → St i s → (∀ b o, h0.get? b = some o → s.heap.get? b = some o) → Half knd s.heap a ks i → codeAny (model P w) A (.builtin "set.update.loop" ⟨[.ref a, .ref I], []⟩) R s := by
  have old_ : ∀ {s s' : Shared}, Moved wr G s s' → (∀ b o, h0.get? b = some o → s.heap.get? b = some o) → ∀ b o, h0.get? b = some o → s'.heap.get? b = some o := fun mv k b o e =>
    mv.heap b o (fun m => by rw [nw b m] at e; cases e) (k b o e)
  have here_ : ∀ {s s' : Shared}, Moved wr G s s' → ∀ o, s.heap.get? a = some o → s'.heap.get? a = some o := fun mv o e => mv.heap a o (fun m => out_ (W.sub a m)) e
  have like_ : ∀ {s s' : Shared}, Moved wr G s s' → G s0.gens s.gens ∧ s.drawn = s0.drawn ∧ s.os = s0.os → G s0.gens s'.gens ∧ s'.drawn = s0.drawn ∧ s'.os = s0.os := fun mv lk => ⟨W.gtrans _ _ _ lk.1 mv.gens, mv.drawn.trans lk.2.1, mv.os.trans lk.2.2⟩
  intro m
  induction m with
  | zero =>
    intro i s e lk st old H
    obtain rfl : i = n := by omega
    refine codeAny_builtin F.entry_set_update_loop ?_
    rw [Around.under_plainId F.plain_set_update_loop _]
    exact wpAny_bind (W.done s _ _ st fun s' mv => wpAny_pure (fin s' (like_ mv lk) (H.over C lie (old_ mv old) (here_ mv)) (old_ mv old)))
  | succ m ih =>
    intro i s e lk st old H
    refine codeAny_builtin F.entry_set_update_loop ?_
    rw [Around.under_plainId F.plain_set_update_loop _]
    refine wpAny_bind (W.item i s _ _ (by omega) st fun v s' pv st' mv => ?_)
    obtain ⟨q, eq_, rfl⟩ := val i v pv
    have old' := old_ mv old
    have lk' := like_ mv lk
    obtain ⟨L, es, ep, t, NS, T⟩ := H.over C lie old' (here_ mv)
    have x := C.over (lie q (List.mem_of_getElem? eq_)) old'
    show wpAny _ A.in1 (holding [Value.ref q.1] (setAdd a (.ref q.1)) >>= _) _ _ s'
    refine wpAny_bind (wpAny_holding ?_)
    unfold setAdd
    refine wpAny_holding (wpAny_bind (knd.pyHash hu x ?_))
    refine add (s := { s' with toks := s'.toks + knd.draws q.2 }) C NS x hu (by have := T.len; have := (List.getElem?_eq_some_iff.mp eq_).1; omega) fun b h' L' es' ep' t' sb NS' c => ?_
    refine wpAny_pure ⟨plainId_quiet F.plain_set_update_loop _, ih (i + 1) _ (by omega) lk' (W.frame _ s' _ _ st' (Nat.le_add_right _ _) fun b hb o e => ?_) (fun b o e => ?_) ⟨L', es', ep', t', NS', T.next eq_ c⟩⟩
    · rw [sb.2 b fun z : b = a => out_ (z ▸ hb)]; exact e
    · exact (sb.2 b fun z => by rw [z, na] at e; cases e).trans (old' b o e)
end
end
end DLN
end
section
set_option maxRecDepth 100000
namespace DLN
open L2 PySem PySem.Spec PyProof.Rows
section
variable {P : Program} {w : World} {K : Type} [DecidableEq K] {knd : HeapKind P w K} {A : Around} {E : Value → Shared → Prop} {s : Shared}
abbrev bare (w : World) : Obj := { cls := .type "set", dict := none, data := .set #[] 0 (.fresh 0 0 (!w.params.followText "set-order")) }
theorem init_list (C : Calm knd) (free : A.handled = none) {l a : Addr} {items : Array Value} {ks : List (Addr × K)} {h0 : Heap} (ea : a = h0.objs.size) (eh : s.heap = h0.push (bare w)) (hl : h0.IsList l items) (it : items.toList = ks.map fun q => Value.ref q.1) (lie : ∀ q ∈ ks, knd.is h0 q.2 q.1)
    (few : ks.length < 1000) (hu : ∀ B : Around, B.units ≤ A.units + 4 → knd.room B) {R : PySem.Fin → Shared → Prop}
    (q : ∀ h' tk, Half knd h' a ks ks.length → (∀ b o, h0.get? b = some o → h'.get? b = some o) → R (.done (.ret .none)) { s with heap := h', toks := tk }) : wpAny (model P w) A (Builtin.«set.__init__» ⟨[.ref a, .ref l], []⟩) R E s := by
  subst ea
  have sz : items.size = ks.length := by simpa using congrArg List.length it
  have none_ : ∀ b, h0.objs.size ≤ b → h0.get? b = none := fun b le => by
    cases e : h0.get? b with
    | none => rfl
    | some o => exact absurd (Heap.lt_size e) (Nat.not_lt.mpr le)
  obtain ⟨⟨lc, ld, lt, ls⟩, lo, c1, ln, c2⟩ := id hl
  cases (show lc = .type "list" from c1); cases (show lt = .seq items ln from c2)
  have big : l < h0.objs.size := Heap.lt_size lo
  have lo1 : s.heap.get? l = some ⟨.type "list", ld, .seq items ln, ls⟩ := by rw [eh]; exact Heap.get?_push_of_some _ lo
  have hl1 : s.heap.IsList l items := ⟨_, lo1, rfl, ln, rfl⟩
  have sub1 := F.sub_list_set; have sub2 := F.sub_list_frozenset
  have other : (Value.type "list" == Value.type "dict") = false := by decide
  have s1 : s.heap.objs.size = h0.objs.size + 1 := by rw [eh]; exact Heap.size_push ..
  have there : s.heap.get? h0.objs.size = some { cls := .type "set", dict := none, data := .set #[] 0 (.fresh 0 0 (!w.params.followText "set-order")) } := by rw [eh]; exact Heap.get?_push_size _ rfl
  have type_ : s.TypeIs (.ref h0.objs.size) "set" := ⟨_, there, rfl⟩
  unfold Builtin.«set.__init__» noKeywords Builtin.Frozenset.updateFrom
  generalize hp : pyIter = it_
  wp_walk
  subst hp
  refine wpAny_pyIter_list hl1 ?_
  refine wpAny_bind (wpAny_runValue ?_)
  refine fill (A := A) (I := s.heap.objs.size) C ((Walks.list (by simp [free]) _ l (by rw [s1]; exact Nat.ne_of_lt (Nat.lt_succ_of_lt big)) items).toS) h0.objs.size ?_ ks sz few (fun i v e => ?_) h0 lie (none_ _ (Nat.le_refl _)) (fun b m => ?_) (hu _ (by simp [Around.in1_units]; try omega)) s (fun s' ⟨eg, ed, eo⟩ H old => ?_) items.size 0 _ (Nat.zero_add _) ?_ ?_ ?_ ?_
  · simp only [s1, List.mem_cons, List.not_mem_nil, or_false, not_or]
    exact ⟨Nat.ne_of_lt (Nat.lt_succ_self _), Nat.ne_of_gt big⟩
  · have e2 : items.toList[i]? = some v := by rw [Array.getElem?_toList]; exact e
    rw [it, List.getElem?_map, Option.map_eq_some_iff] at e2
    obtain ⟨q, e3, e4⟩ := e2
    exact ⟨q, e3, e4.symm⟩
  · rw [List.mem_singleton.mp m]; exact none_ _ (by rw [s1]; omega)
  · exact ⟨rfl, rfl, rfl⟩
  · exact ⟨⟨_, Heap.get?_push_size _ rfl, rfl, rfl⟩, hl1.push _⟩
  · exact fun b o e => Heap.get?_push_of_some _ (eh ▸ Heap.get?_push_of_some _ e : s.heap.get? b = some o)
  · exact Half.new (Heap.get?_push_of_some _ there)
  · obtain ⟨h', g', d', tk, os⟩ := s'
    cases (show g' = s.gens from eg); cases (show d' = s.drawn from ed); cases (show os = s.os from eo)
    rw [sz] at H
    exact wpAny_pure (wpAny_pure (q h' tk H old))
theorem set_list (C : Calm knd) (free : A.handled = none) {l : Addr} {items : Array Value} {ks : List (Addr × K)} {Q : Value → Shared → Prop} (hl : s.heap.IsList l items) (it : items.toList = ks.map fun q => Value.ref q.1) (lie : ∀ q ∈ ks, knd.is s.heap q.2 q.1)
    (few : ks.length < 1000) (hu : ∀ B : Around, B.units ≤ A.units + 8 → knd.room B) (q : ∀ h' tk, Half knd h' s.heap.objs.size ks ks.length → (∀ b o, s.heap.get? b = some o → h'.get? b = some o) → Q (.ref s.heap.objs.size) { s with heap := h', toks := tk }) : wpAny (model P w) A (call (.type "set") [.ref l]) Q E s := by
  obtain ⟨_, _, mro_⟩ := F.called_set.mro
  have m1 := F.called_set.made; have m2 := F.called_set.sub; have m3 := F.called_set.notType; have m4 := F.called_set.canCreate; have m5 := F.typeCall_set_1 (.ref l)
  refine wpAny_call (codeAny_of_tree (wpAny_pure ⟨Code.quiet_builtin _ (by decide +kernel), codeAny_builtin F.entry_type_call ?_⟩ : wpAny _ _ (callAny (.type "set") _) _ _ _))
  rw [Around.under_plain (weight_type_call_type "set" [.ref l] []) rfl]
  repeat (any_goals (first | assumption | wp_step))
  refine codeAny_mono (code_set_led1 (.ref l) (E := E) (Q₁ := fun x s1 => x = .ref s.heap.objs.size ∧ s1 = { s with heap := s.heap.push (bare w) }) ⟨rfl, rfl⟩) fun r s1 hr => ?_
  rcases r with _ | ⟨_ | x | _⟩ <;> try exact hr.elim
  all_goals first | exact hr | skip
  obtain ⟨rfl, rfl⟩ := hr
  have there : Shared.TypeIs { s with heap := s.heap.push (bare w) } (.ref s.heap.objs.size) "set" := ⟨_, Heap.get?_push_size _ rfl, rfl⟩
  have i1 := F.called_set.init.lookup; have i2 := F.called_set.init.bind (.ref s.heap.objs.size)
  repeat (any_goals (first | assumption | wp_step))
  refine codeAny_mono (codeAny_call_builtin (R := wants (fun r s2 => r = .none ∧ ∃ h' tk, s2 = { s with heap := h', toks := tk } ∧ Half knd h' s.heap.objs.size ks ks.length ∧ ∀ b o, s.heap.get? b = some o → h'.get? b = some o) E) F.called_set.init.plain F.entry_set_init (check_set_init_1 there ?_)) fun r2 s2 hr => ?_
  · exact init_list (h0 := s.heap) C (by simp [free]) rfl rfl hl it lie few (fun B le => hu B (by simp [Around.in1_units] at le; omega)) fun h' tk H old => ⟨rfl, h', tk, rfl, H, old⟩
  · rcases r2 with _ | ⟨_ | x | _⟩ <;> try exact hr.elim
    all_goals first | exact hr | skip
    obtain ⟨rfl, h', tk, rfl, H, old⟩ := hr
    clear hl it lie few hu i1 i2 m1 m2 m3 m4 m5 mro_ there
    repeat (any_goals (first | assumption | wp_step))
    exact q h' tk H old
end
end DLN
end
section
set_option maxRecDepth 100000
namespace DLN
open L2 PySem PySem.Spec PyProof.Rows
open PySem.W (dataLe dataLt AllAlike EachIs alike alikeAll keyToks)
theorem lt_trans {x y z : PyData} (h1 : dataLt x y = true) (h2 : dataLt y z = true) : dataLt x z = true := lex_trans _ _ _ h1 h2
theorem le_trans {x y z : PyData} (h1 : dataLt y x = false) (h2 : dataLt z y = false) : dataLt z x = false := by
  cases e : dataLt z x with
  | false => rfl
  | true =>
    rcases PyProof.Rows.lex_negTrans (O := PyProof.Rows.itemOrd) (keyToks z) (keyToks y) (keyToks x) e with h | h
    · exact absurd h2 (by rw [show dataLt z y = true from h]; decide)
    · exact absurd h1 (by rw [show dataLt y x = true from h]; decide)
section
variable {P : Program} {w : World} {knd : HeapKind P w NestedKey} {A : Around} {E : Value → Shared → Prop} {s : Shared} {a : Addr} {L : List (Addr × NestedKey)} {es : Array (Int × Value)} {ep : Nat} {t : SetTable}
end
end DLN
end
section
set_option maxRecDepth 100000
namespace DL
open PySem PySem.Spec L2 DLN
open PySem.W (dataLe dataLt AllAlike EachIs alike)
def NLie (H : Hp) (L : List (Addr × NestedKey)) : Prop := ∀ q ∈ L, NK H q.2 (.ref q.1) ∧ q.2.depth ≤ 8
section
variable {P : Program} {w : World} {H : Hp} {h : Heap} {a : Addr} {L : List (Addr × NestedKey)}
mutual
theorem wl_of : ∀ {k : NestedKey} {v : V}, NK H k v → wordless k = true
  | .none, _, _ => rfl
  | .num _, _, _ => rfl
  | .text x, _, h => by cases h
  | .tup ks, _, h => by
    obtain ⟨a, xs, _, _, l, r⟩ := h.tupAt
    rw [wordless]
    exact wls_of l r
theorem wls_of : ∀ {ks : List NestedKey} {xs : List V}, ks.length = xs.length → (∀ p ∈ ks.zip xs, NK H p.1 p.2) → wordlessA ks = true
  | [], _, _, _ => rfl
  | k :: ks, [], l, _ => by simp at l
  | k :: ks, x :: xs, l, r => by
    rw [wordlessA, wl_of (r (k, x) (by simp)), wls_of (ks := ks) (xs := xs) (by simpa using l) fun p m => r p (by rw [List.zip_cons_cons]; exact .tail _ m)]; rfl
end
theorem NLie.is (ok : HOk P w H h) (n : NLie H L) : ∀ q ∈ L, (calmKind P w).is h q.2 q.1 := fun q m => ⟨⟨(n q m).1.at ok rfl, (n q m).2⟩, wl_of (n q m).1⟩
end
section
variable {P : Program} {w : World} {H : Hp} {h : Heap}
theorem reads_zip : ∀ {ks : List NestedKey} {xs : List V} {us : List Value}, ks.length = xs.length → Vals xs us → (∀ p ∈ ks.zip xs, ∀ u, RelV p.2 u → Reads h u p.1.data []) → ReadsAll h us (NestedKey.datas ks) []
  | [], [], _, _, .nil, _ => .nil
  | k :: ks, x :: xs, _, l, .cons r t, q => by
    rw [NestedKey.datas]
    exact .cons (q (k, x) (by simp) _ r) (reads_zip (by simpa using l) t fun p m => q p (by rw [List.zip_cons_cons]; exact .tail _ m))
  | [], _ :: _, _, l, _, _ => by simp at l
  | _ :: _, [], _, l, _, _ => by simp at l
theorem NK.reads (ok : HOk P w H h) {k : NestedKey} {v : V} (q : NK H k v) : ∀ {u : Value}, RelV v u → Reads h u k.data [] := by
  have tup : ∀ {a : Addr} {xs : List V} {ks : List NestedKey}, H a = some (.tup xs) → ks.length = xs.length → (∀ p ∈ ks.zip xs, ∀ u, RelV p.2 u → Reads h u p.1.data []) → Reads h (.ref a) (NestedKey.tup ks).data [] := by
    intro a xs ks e l r
    obtain ⟨_, its, rv, o, ho, hc, n, hd⟩ := (show ObjOk P w H h a (.tup xs) from ok a _ e)
    rw [NestedKey.data]
    exact .tuple ho hc hd (by simpa using reads_zip l rv r)
  induction q with
  | none => intro u r; cases (show u = Value.none from r); rw [NestedKey.data]; exact .none
  | num i => intro u r; obtain ⟨t, rfl⟩ := (show ∃ t, u = Value.int i t from r); rw [NestedKey.data]; exact .int i t
  | nil e => intro u r; cases (show u = Value.ref _ from r); exact tup e rfl (by simp)
  | cons e r l ih => intro u r2; cases (show u = Value.ref _ from r2); exact tup e (by simp [l]) fun p m u ru => ih p m ru
end
section
variable {X : Cx} {z : Zx} {S S' : Sx} {σ : L2.St} {H H' : Hp} {g g' : Gh} {v : V} {d : D} {K : PySem.W.Frag} {pos p pos2 p2 : Pos} {a : Expr} {fa : M Res}
end
end DL
end
section
set_option maxRecDepth 100000
namespace DL
open PySem PySem.Spec L2
section
variable {X : Cx} {z : Zx} {S S' : Sx} {σ : L2.St} {H H' : Hp} {g g' : Gh} {v : V} {d : D} {K : PySem.W.Frag} {mg : Str → Option Value} {a b c : Expr} {fa fb fc : M Res} {pos px py pz pw pt pt2 pl pm pn pk : Pos} {i j k2 kt jn : Nat} {x y : Str}
theorem GoS.optS {α : Type} {o : Option α} {k : α → M Fl} {D : Ends} (h : GoS K mg z (M.opt o k) S σ H g D) : ∃ n, o = some n ∧ GoS K mg z (k n) S σ H g D := by
  cases o with
  | none => exact h.elim
  | some n => exact ⟨n, rfl, h⟩
end
end DL
end
section
set_option maxRecDepth 100000
namespace DL
open PySem PySem.Spec L2
section
variable {X : Cx} {z : Zx} {σ : L2.St} {H : Hp} {x : V} {d : D} {pos p : Pos} {a : Expr} {fa : M Res}
theorem TyX.more {K : PySem.W.Frag} {t : Value} {q : Addr} {o : HO} (h : TyX K H x t) (hq : H q = none) : TyX K (upd H q o) x t := by
  have u : ∀ {b : Addr} {w : HO}, H b = some w → upd H q o b = some w := fun {b w} e => by
    rw [upd_ne (fun c => by rw [c, hq] at e; cases e)]
    exact e
  cases h with
  | base b =>
    cases b with
    | non => exact .base .non
    | bl y => exact .base (.bl y)
    | int i => exact .base (.int i)
    | str y => exact .base (.str y)
    | flt y => exact .base (.flt y)
    | lst ea => exact .base (.lst (u ea))
    | frz ea => exact .base (.frz (u ea))
    | tup ea => exact .base (.tup (u ea))
    | dK ea => exact .base (.dK (u ea))
    | dT ea => exact .base (.dT (u ea))
    | ins ea cl ha hn htk hm => exact .base (.ins (u ea) cl ha hn htk hm)
  | byt y => exact .byt y
  | set ea => exact .set (u ea)
  | kList e c => exact .kList e c
  | kTuple e c => exact .kTuple e c
  | kDict e c => exact .kDict e c
  | fTuple ea => exact .fTuple (u ea)
  | fDict ea => exact .fDict (u ea)
end
end DL
end
section
set_option maxRecDepth 100000
namespace DL
open PySem PySem.Spec L2 PyProof.Rows HT
mutual
/-- what a value shows, told of the heap: an empty dict may lie in it -/
inductive DpT (K : PySem.W.Frag) (H : Hp) : V → PyData → Prop
  | non : DpT K H .non .none
  | bl (b : Bool) : DpT K H (.bl b) (.bool b)
  | int (i : Int) : DpT K H (.int i) (.int i)
  | str (x : Str) : DpT K H (.str x) (.str x)
  | tup {a : Addr} {xs : List V} {ds : List PyData} : SqT K H a xs → DpTs K H xs ds → DpT K H (.ref a) (.tuple ds)
  | emp {a : Addr} : H a = some (.dK []) → DpT K H (.ref a) (.dict [])
inductive DpTs (K : PySem.W.Frag) (H : Hp) : List V → List PyData → Prop
  | nil : DpTs K H [] []
  | cons {v : V} {vs : List V} {d : PyData} {ds : List PyData} : DpT K H v d → DpTs K H vs ds → DpTs K H (v :: vs) (d :: ds)
end
section
variable {X : Cx} {pins : List (Addr × Obj)} {σ : L2.St} {H : Hp} {s : Shared}
mutual
theorem DpT.reads (I : Inv X pins σ H s) : ∀ {v : V} {p : PyData} {u : Value}, DpT X.K H v p → RelV v u → ∃ as, Reads s.heap u p as ∧ sysModules ∉ as
  | _, _, u, .non, r => by
    obtain rfl : u = Value.none := r
    exact ⟨_, .none, nofun⟩
  | _, _, u, .bl b, r => by
    obtain rfl : u = Value.bool b := r
    exact ⟨_, .bool b, nofun⟩
  | _, _, u, .int i, r => by
    obtain ⟨t, rfl⟩ := r
    exact ⟨_, .int i t, nofun⟩
  | _, _, u, .str x, r => by
    obtain ⟨t, rfl⟩ := r
    exact ⟨_, .str x t, nofun⟩
  | _, _, u, .tup hs ha, r => by
    obtain rfl : u = Value.ref _ := r
    obtain ⟨its, rv, ⟨o, h1, h2, n, h3⟩, _⟩ := I.tuple hs
    obtain ⟨as, hr, hm⟩ := DpTs.reads I ha rv
    exact ⟨as, .tuple h1 h2 h3 hr, hm⟩
  | _, _, u, .emp (a := a) h, r => by
    obtain rfl : u = Value.ref _ := r
    obtain ⟨_, ne, vs, kv, o, es, ep, h1, hx, h2, _, pr, _⟩ := dk_of I.hok h
    cases kv
    have e0 : es.toList = [] := by cases hl : es.toList with
      | nil => rfl
      | cons e r => rw [hl] at pr; cases pr
    refine ⟨a :: [] ++ [], .dict (kvs := []) h1 hx.1 h2 (by rw [e0]; exact .nil) (by rw [e0]; exact .nil), fun hm => ?_⟩
    have := List.mem_singleton.mp (show sysModules ∈ [a] from hm)
    subst this
    simp at ne
theorem DpTs.reads (I : Inv X pins σ H s) : ∀ {vs : List V} {ps : List PyData} {us : List Value}, DpTs X.K H vs ps → Vals vs us → ∃ as, ReadsAll s.heap us ps as ∧ sysModules ∉ as
  | _, _, _, .nil, r => by cases r; exact ⟨_, .nil, nofun⟩
  | _, _, _, .cons h1 h2, r => by
    cases r with
    | cons r1 r2 =>
      obtain ⟨as, q1, m1⟩ := DpT.reads I h1 r1
      obtain ⟨bs, q2, m2⟩ := DpTs.reads I h2 r2
      exact ⟨_, .cons q1 q2, fun hm => (List.mem_append.mp hm).elim m1 m2⟩
end
end
section
variable {X : Cx} {z : Zx} {S S' : Sx} {σ : L2.St} {H H' H0 : Hp} {g g' g2 : Gh} {v : V} {d : D} {r : Res} {mg : Str → Option Value} {pos p pos2 p2 : Pos} {a b c e : Expr} {fa fb fc : M Res}
def D.box : D → Bool
  | .tup _ => true
  | .dct _ _ _ => true
  | _ => false
end
end DL
end
section
set_option maxRecDepth 100000
namespace DL
open PySem PySem.Spec PyProof.Rows L2
section
variable {X : Cx} {pins : List (Addr × Obj)} {σ : L2.St} {H : Hp} {s : Shared}
theorem lam_made {c P : Addr} {params : Arguments} {body : Expr} {scope : Scope} {pos : Pos} {E Q : Value → Shared → Prop} (I : Inv X pins σ H s) (TB : LamX.TabB X.base X.mg c P) (code : X.env.code = .ref c)
    (tab : LamX.TabS H P (X.env.qual ++ "<lambda>")) (plain : defaultsOf params X.env = ([], [])) (free : ∀ y ∈ scope.names, y.2 = .free → ∃ c, X.env.cells.lookup y.1 = some c)
    (go : ∀ (f c' : Addr) (pm ctv : Value) (H1 : Hp) (s1 : Shared), Inv X pins σ H1 s1 → (∀ b o, b ≠ P → H b = some o → H1 b = some o) → LamX.TabS H1 P (X.env.qual ++ "<lambda>") →
      s1.heap.get? f = some (PySem.W.kla_obj "<lambda>" (X.env.qual ++ "<lambda>") params body scope (cloFrom X.env.cells scope.names []) pm c' ctv) → H1 f = none → f ∉ frs X.stack → H1 c' = some (LamX.CodeO c' (X.env.qual ++ "<lambda>")) → Q (.ref f) s1) :
    wpAny (model X.prog X.w) X.A (eval (.Lambda params body scope pos) X.env) Q E s := by
  obtain ⟨ps, atP, triples, known⟩ := tab
  have objP : s.heap.get? P = some { cls := .none, data := .fields ps } := I.hok P _ atP
  have fresh : ∀ f, s.heap.objs.size ≤ f → f ∉ frs X.stack := fun f hf m => by
    rcases List.mem_cons.mp (I.stkSub _ m) with e | e
    · have l1 := I.lt
      rw [← e] at l1
      exact absurd l1 (Nat.not_lt.mpr hf)
    · exact I.nofs hf e
  refine PySem.W.kla_eval plain ?_
  cases found : codeAmong pos ps.toList with
  | some cv =>
    obtain ⟨c', rfl, co⟩ := known pos cv found
    refine PySem.W.kla_makeFunctionHit (mg := X.mg) (c := c) (P := P) (ps := ps) (L2.closure_ok free) I.ok.glob (I.mod.glob.keeps I.bk) code (TB.code.keeps I.bk) objP triples found (TB.bm.keeps I.bk) fun ctv h1 tk hx hs => ?_
    have I1 := I.kept (t' := tk) (h' := h1.push (PySem.W.kla_obj "<lambda>" (X.env.qual ++ "<lambda>") params body scope (cloFrom X.env.cells scope.names []) ((X.mg "__name__").getD .none) c' ctv)) fun b o e => Heap.get?_push_of_some _ (hx b o e)
    exact go h1.objs.size c' _ ctv H _ I1 (fun _ _ _ e => e) ⟨ps, atP, triples, known⟩ (Heap.get?_push_size _ rfl) (I.hok.fresh hs) (fresh _ hs) co
  | none =>
    refine PySem.W.kla_makeFunction (mg := X.mg) (c := c) (P := P) (ps := ps) (L2.closure_ok free) I.ok.glob (I.mod.glob.keeps I.bk) code (TB.code.keeps I.bk) objP triples found TB.gP (TB.bm.keeps I.bk) fun c' ctv h1 tk hx ge lt rec tb => ?_
    obtain ⟨c2, oc, vs, t, e2, hoc, hd, hv⟩ := rec
    cases e2
    have none' : H c' = none := I.hok.fresh ge
    have sz : s.heap.objs.size ≤ h1.objs.size := by omega
    have I1 := LamX.inv_table (t' := tk) (more := #[rawInt pos.line, rawInt pos.col, .ref c']) (h' := h1.push (PySem.W.kla_obj "<lambda>" (X.env.qual ++ "<lambda>") params body scope (cloFrom X.env.cells scope.names []) ((X.mg "__name__").getD .none) c' ctv)) I atP
      (fun b o hb e => Heap.get?_push_of_some _ (hx b o hb e)) (Heap.get?_push_of_some _ tb) ge ⟨oc, vs, t, Heap.get?_push_of_some _ hoc, hd, hv⟩
    have stay : ∀ b o, b ≠ P → H b = some o → upd (upd H P (.tbl (ps ++ #[rawInt pos.line, rawInt pos.col, .ref c']))) c' (LamX.CodeO c' (X.env.qual ++ "<lambda>")) b = some o := fun b o nb e => by
      have nc : b ≠ c' := fun z => by rw [z, none'] at e; cases e
      rw [upd_ne nc, upd_ne nb]; exact e
    have nPc : P ≠ c' := fun z => by rw [z, none'] at atP; cases atP
    have lst : (ps ++ #[rawInt pos.line, rawInt pos.col, .ref c']).toList = ps.toList ++ [rawInt pos.line, rawInt pos.col, .ref c'] := by simp
    refine go h1.objs.size c' _ ctv _ _ I1 stay ⟨_, by rw [upd_ne nPc, upd_same], by rw [lst]; exact PySem.TriplesOk_snoc _ _ _ _ triples, fun p2 cv hc => ?_⟩ (Heap.get?_push_size _ rfl) ?_ (fresh _ sz) upd_same
    · rw [lst] at hc
      rcases LamX.among_app _ triples hc with z | z
      · obtain ⟨c0, e1, e2⟩ := known p2 cv z
        exact ⟨c0, e1, stay _ _ (fun z => by rw [z, atP] at e2; exact LamX.codeO_ne _ (Option.some.inj e2).symm) e2⟩
      · exact ⟨c', z, upd_same⟩
    · have n1 : h1.objs.size ≠ c' := by omega
      have n2 : h1.objs.size ≠ P := Nat.ne_of_gt (Nat.lt_of_lt_of_le (Heap.lt_size objP) sz)
      rw [upd_ne n1, upd_ne n2]
      exact I.hok.fresh sz
end
section
variable {K : PySem.W.Frag} {mg : Str → Option Value} {z : Zx} {S S' : Sx} {σ σ' : L2.St} {H H1 H' : Hp} {g g' : Gh} {n : Nat} {P : Addr} {q : Str}
theorem SR.made (s : SR K z S σ H g) (om : g.om[n]? = some P) (ob : S.objs[n]? = some (.cod P q)) (keep : ∀ b o, b ≠ P → H b = some o → H1 b = some o) (tab : LamX.TabS H1 P q) : SR K z S σ H1 g ∧ Fr H g H1 g := by
  have bP : g.bad P := (s.obj n P _ om ob).2
  have mP : P ∈ g.om := List.mem_iff_getElem?.mpr ⟨n, om⟩
  have fr : Fr H g H1 g := ⟨fun a o h nb => ⟨keep a o (fun e => nb (e ▸ bP)) h, nb⟩, List.prefix_rfl⟩
  have same : ∀ {a : Addr} {d : D}, a ≠ P → Root K H g a d → H1 a = H a := fun {a d} ne r => by
    cases e : H a with
    | none => exact absurd e r.there
    | some o => exact keep a o ne e
  have nom : ∀ {a : Addr}, a ∉ g.om → a ≠ P := fun h e => h (e ▸ mP)
  refine ⟨⟨s.len, fun i d e => ?_, fun i d e => ?_, s.inj, s.olen, fun m b d e1 e2 => ?_, s.ond, fun b hb => ?_, s.base, s.b0, fun a o h0 hm => keep a o (nom hm) (s.keep a o h0 hm), s.on⟩, fr⟩
  · obtain ⟨v, e1, r⟩ := s.dat i d e
    exact ⟨v, e1, r.fr fr s.mu⟩
  · obtain ⟨a, e1, hb, r, h0, hm⟩ := s.own i d e
    exact ⟨a, e1, hb, r.fr fr s.mu (same (nom hm) r), h0, hm⟩
  · obtain ⟨r, hb⟩ := s.obj m b d e1 e2
    by_cases bp : b = P
    · subst bp
      have l1 := (List.getElem?_eq_some_iff.mp e1).1
      have l2 := (List.getElem?_eq_some_iff.mp om).1
      have pw := List.pairwise_iff_getElem.mp s.ond
      have ee : g.om[m] = g.om[n] := (List.getElem?_eq_some_iff.mp e1).2.trans (List.getElem?_eq_some_iff.mp om).2.symm
      have mn : m = n := by
        rcases Nat.lt_trichotomy m n with w | w | w
        · exact absurd ee (pw m n l1 l2 w)
        · exact w
        · exact absurd ee.symm (pw n m l2 l1 w)
      subst mn
      rw [ob] at e2
      cases e2
      exact ⟨.tab tab, hb⟩
    · exact ⟨r.fr fr s.mu (same bp r), hb⟩
  · by_cases bp : b = P
    · subst bp
      obtain ⟨ps, e, _⟩ := tab
      rw [e]; trivial
    · have m := s.mu b hb
      cases e : H b with
      | none => rw [e] at m; exact m.elim
      | some o => rw [keep b o bp e]; rw [e] at m; exact m
def capE (js : List Nat) (env : List Slot) : List Slot := (List.range env.length).map fun i => if i ∈ js then env.getD i .un else .un
def stillE (env : List Slot) : Bool := env.all fun s => match s with
  | .un => true
  | .dat d => d.still
  | .own _ => false
def lamD (env : List Slot) (f : M Res) : Den := fun ds objs => match ds with
  | [] => match f ⟨env, objs⟩ with
    | some (.ok r, S') => some (.ok (outR r), S'.objs)
    | some (.error x, S') => some (.error x, S'.objs)
    | none => none
  | _ => none
def Cap (K : PySem.W.Frag) (σm : L2.St) (env : List Slot) (z : Zx) : Prop := ∀ (S : Sx) (σ : L2.St) (H : Hp) (g : Gh), SR K z S σ H g → ∀ (i : Nat) (d : D), env[i]? = some (.dat d) → ∃ v, σm[i]? = some (some v) ∧ Rp K H g v d
theorem Cap.withW {σm : L2.St} {env : List Slot} {W : WX} (c : Cap K σm env z) : Cap K σm env { z with W := W } := fun S σ H g s => c S σ H g s.unW
theorem cap_start {σm : L2.St} {env : List Slot} {W : WX} {objs : List D} (st : stillE env = true) (mu : Mu H g) (ob : ObsOk K H g objs) (h : ∀ (i : Nat) (d : D), env[i]? = some (.dat d) → ∃ v, σm[i]? = some (some v) ∧ Rp K H g v d) : Cap K σm env ⟨H, g.bad, g.om, W⟩ := by
  intro S σ H' g' s i d e
  obtain ⟨v, e1, r⟩ := h i d e
  refine ⟨v, e1, Rp.still (fun a o ha nb => s.keep a o ha fun m => ?_) mu r ?_⟩
  · rcases s.on a m with w | w
    · obtain ⟨k, hk⟩ := List.mem_iff_getElem?.mp w
      have hl : k < objs.length := by rw [ob.1]; exact (List.getElem?_eq_some_iff.mp hk).1
      exact nb (ob.2 k a _ hk (List.getElem?_eq_getElem hl)).2
    · rw [ha] at w; cases w
  · have := List.all_eq_true.mp st _ (List.mem_of_getElem? e)
    exact this
theorem SR.lam {σm : L2.St} {env : List Slot} {W : WX} {objs : List D} (le : env.length = σm.length) (no : stillE env = true) (mu : Mu H g) (nd : g.om.Nodup) (ob : ObsOk K H g objs) (h : ∀ (i : Nat) (d : D), env[i]? = some (.dat d) → ∃ v, σm[i]? = some (some v) ∧ Rp K H g v d) :
    SR K ⟨H, g.bad, g.om, W⟩ ⟨env, objs⟩ σm H g where
  len := le
  dat := h
  own := fun i d e => by
    have := List.all_eq_true.mp no _ (List.mem_of_getElem? e)
    cases this
  inj := fun i j d1 d2 a e => by
    have := List.all_eq_true.mp no _ (List.mem_of_getElem? e)
    cases this
  olen := ob.1
  obj := ob.2
  ond := nd
  mu := mu
  base := fun a h => h
  b0 := fun a h e => by have := mu a h; change H a = none at e; rw [e] at this; exact this
  keep := fun a o h _ => h
  on := fun a h => .inl h
end
section
variable {X : Cx} {pins : List (Addr × Obj)} {σ : L2.St} {H : Hp} {s : Shared}
theorem pe_actD {Ng : List Str} {qg a : Str} {stg : Stmt} {g f c' : Addr} {cdg pm ctv : Value} {Eg : XK} {params : Arguments} {body : Expr} {scope : Scope} {k : Nat} {pn : List (Addr × Obj)} {xe : Value → Shared → Prop} {W : WX} {tb : XK → TE} {p1 p2 : Pos}
    (I : Inv X pins σ H s) (L : LamX.LamS X.env.scope scope) (atF : s.heap.get? f = some (PySem.W.kla_obj "<lambda>" (X.env.qual ++ "<lambda>") params body scope (cloFrom X.env.cells scope.names []) pm c' ctv)) (newF : H f = none) (noF : f ∉ frs X.stack)
    (none' : bindArgs (PySem.W.kla_fn "<lambda>" (X.env.qual ++ "<lambda>") params body scope (cloFrom X.env.cells scope.names []) pm (.ref c') ctv) ⟨[], []⟩ = pure [])
    (tk : Takes ((bodyX X.prog X.w X.K X.mg X.base Ng qg stg g cdg X.A X.stack s H Eg).tr pn xe) W) (room : Room (k + 1) (X.A.deeper (envOfC qg (defScope stg) s.heap.objs.size g cdg)))
    (run : ∀ (A : Around) (outer : List Env) (s2 : Shared) (H2 : Hp) (E : XK), A.guards = some [] → Room k (A.deeper (LamX.lamEnv X scope s2.heap.objs.size f c')) → PE (LamX.lamCx X A outer s2 H2 E scope f c') body (tb E)) (gd : X.A.guards = some [])
    (at0 : Ng[0]? = some a) (vis : Vis (defScope stg) a) (d1 : (a == ("__debug__" : Str)) = false) (d2 : (a == ("__classdict__" : Str)) = false) :
    PE ((bodyX X.prog X.w X.K X.mg X.base Ng qg stg g cdg X.A X.stack s H Eg).tr pn xe) (.Call (.Name a p1) [] [] p2)
      (fun σZ HZ Q => σZ[0]? = some (some (.ref f)) ∧ HZ c' = some (LamX.CodeO c' (X.env.qual ++ "<lambda>")) ∧ tb (fun cls d H' => W cls d σZ H') σ HZ Q) := by
  constructor
  intro pinsZ sZ σZ HZ Q IZ hyp
  obtain ⟨slot, cod, read⟩ := hyp
  refine wpAny_Call_Name_kw (thn ((pe_var (pos := p1) (i := 0) at0 vis d1 d2).run pinsZ sZ σZ HZ (fun v G => v = .ref f ∧ G = HZ) IZ ⟨.ref f, slot, rfl, rfl⟩) ?_)
  rintro u s3 ⟨v, G, I3, rel, ev, eG⟩
  subst ev eG
  cases rel
  have obF := I3.base.keep f _ atF newF noF (fun z => nomatch (show f ∈ ([] : List Addr) from z))
  refine PySem.W.callWith_F0 ⟨_, _, _, _, obF⟩ ?_
  obtain ⟨⟨oc, vs, t, hoc, hdc, hvc⟩, _, _⟩ := I3.hok c' _ cod
  have rc : codeAny (model X.prog X.w) (X.A.deeper (envOfC qg (defScope stg) s.heap.objs.size g cdg)) (.call (.ref f) ⟨[], []⟩) (CR (L2.CX X.prog X.w) (envOfC qg (defScope stg) s.heap.objs.size g cdg :: X.stack) X.prog X.w G s3 Q (fun cls d H' => W cls d σZ H')) s3 := by
    refine PySem.W.kla_callFunE room.depth obF rfl L.co L.gen rfl ⟨c', oc, vs, t, rfl, hoc, hdc, hvc⟩ ?_
    rw [none']
    refine wpAny_pure (wpAny_newFunctionEnv (fun y hy => (L.own y hy).2) (fun y hy => absurd hy (by simp)) (fun h2 ns same => ⟨I3.nolimit.fresh _ same, ?_⟩) L.kind)
    have J := LamX.lam_start2 (A := X.A.deeper (envOfC qg (defScope stg) s.heap.objs.size g cdg)) (outer := envOfC qg (defScope stg) s.heap.objs.size g cdg :: X.stack) (E := fun cls d H' => W cls d σZ H') (f := f) (c' := c') (tk := s3.toks + ([] : List (Str × Value)).length) I L I3.env0 room.hd I3.base ns
      fun b o e => same.extBut b o (Nat.ne_of_lt (Heap.lt_size e)) (Heap.get?_push_of_some _ e)
    refine PySem.W.kla_codeExpr (wpAny_mono ((run (X.A.deeper (envOfC qg (defScope stg) s.heap.objs.size g cdg)) _ s3 G _ (show X.A.guards = some [] from gd) (room.deeper _)).run [] _ _ G Q J read) (fun v s5 out => ?_) fun e s5 out => out)
    obtain ⟨w, H5, J5, rv, q⟩ := out
    exact ⟨w, H5, J5.os, J5.bare, J5.base, J5.hok, rv, q⟩
  refine wpAny_call (codeAny_mono rc fun r s4 out => ?_)
  match r, out with
  | .error ex, out => exact passAt tk σZ pinsZ G s3 ex s4 I3 out
  | .ok (.ret u), out => exact I3.after out
end
structure LCap (K : PySem.W.Frag) (σm : L2.St) (env : List Slot) (c' : Addr) (q : Str) (z : Zx) : Prop where
  data : Cap K σm env z
  code : ∀ (S : Sx) (σ : L2.St) (H : Hp) (g : Gh), SR K z S σ H g → H c' = some (LamX.CodeO c' q)
theorem LCap.withW {K : PySem.W.Frag} {σm : L2.St} {env : List Slot} {c' : Addr} {q : Str} {z : Zx} {W : WX} (c : LCap K σm env c' q z) : LCap K σm env c' q { z with W := W } := ⟨c.data.withW, fun S σ H g s => c.code S σ H g s.unW⟩
theorem code_start {K : PySem.W.Frag} {H : Hp} {g : Gh} {W : WX} {objs : List D} {c' : Addr} {q : Str} (mu : Mu H g) (ob : ObsOk K H g objs) (h : H c' = some (LamX.CodeO c' q)) : ∀ (S : Sx) (σ : L2.St) (H' : Hp) (g' : Gh), SR K ⟨H, g.bad, g.om, W⟩ S σ H' g' → H' c' = some (LamX.CodeO c' q) := by
  intro S σ H' g' s
  refine s.keep c' _ h fun m => ?_
  rcases s.on c' m with w | w
  · obtain ⟨k, hk⟩ := List.mem_iff_getElem?.mp w
    have hl : k < objs.length := by rw [ob.1]; exact (List.getElem?_eq_some_iff.mp hk).1
    have := mu c' (ob.2 k c' _ hk (List.getElem?_eq_getElem hl)).2
    rw [h] at this
    exact code_not this
  · change H c' = none at w
    rw [h] at w; cases w
def actM (i : Nat) (f : Addr) (L : Den) : M Res := fun S => if S.env[i]? = some (.dat (.opq (.ref f))) then callM 0 L (pure []) S else none
def lamT (K : PySem.W.Frag) (mg : Str → Option Value) (bodyM : M Res) (E : XK) : TE := fun σ H Q => ∃ z : Zx, z.W = (fun cls dx _ H' => E cls dx H') ∧ tD K mg z bodyM σ H Q
theorem de_act {X : Cx} {z : Zx} {e : Expr} {f c' : Addr} {q : Str} {σm : L2.St} {env : List Slot} {bodyM : M Res}
    (pe : PE X e (fun σZ HZ Q => σZ[0]? = some (some (.ref f)) ∧ HZ c' = some (LamX.CodeO c' q) ∧ lamT X.K X.mg bodyM (fun cls d H' => z.W cls d σZ H') σm HZ Q))
    (cap : LCap X.K σm env c' q z) (le : env.length = σm.length) (st : stillE env = true) : DE X z e (actM 0 f (lamD env bodyM)) := by
  refine PE.imp pe fun σZ HZ Q ⟨S, g, sr, go⟩ => ?_
  unfold Go actM at go
  by_cases at0 : S.env[0]? = some (.dat (.opq (.ref f)))
  · simp only [if_pos at0] at go
    obtain ⟨v, e1, r⟩ := sr.dat 0 _ at0
    cases r
    refine ⟨e1, cap.code S σZ HZ g sr, ?_⟩
    have prom := call_den (n := 0) (den := lamD env bodyM) (rs := []) (vs := []) (Q := Q) sr (fun _ h => by cases h) .nil go
    obtain ⟨g2, ds, objs, _, mu, nd, rv, ob, q2⟩ := prom
    cases rv
    have shown : ∀ (i : Nat) (d : D), env[i]? = some (.dat d) → ∃ v, σm[i]? = some (some v) ∧ Rp X.K HZ g2 v d := fun i d e => by
      obtain ⟨v, e1, r⟩ := cap.data S σZ HZ g sr i d e
      have sd : d.still = true := List.all_eq_true.mp st _ (List.mem_of_getElem? e)
      exact ⟨v, e1, Rp.still (fun _ _ h _ => h) sr.mu r sd⟩
    refine ⟨⟨HZ, g2.bad, g2.om, fun cls dx _ H' => z.W cls dx σZ H'⟩, rfl, ⟨env, objs⟩, g2, SR.lam le st mu nd ob shown, ?_⟩
    unfold Go
    unfold lamD at q2
    simp only at q2
    cases eb : bodyM ⟨env, objs⟩ with
    | none => rw [eb] at q2; exact q2
    | some pr =>
      obtain ⟨res, S'⟩ := pr
      rw [eb] at q2
      cases res with
      | error x => exact fun cls dx H' g' s' f' ex => q2 cls dx H' g' (s'.behind f') ex
      | ok r =>
        intro H' g' s' f' v rr
        refine q2 H' g' v (s'.behind f') ?_
        cases r with
        | dat d => exact rr
        | new d => obtain ⟨a, e, hb, rt, h0, ho, _⟩ := rr; exact ⟨a, e, hb, rt, h0, ho⟩
        | own i d =>
          obtain ⟨w1, w2⟩ := rr
          obtain ⟨a, e3, hb, rt, h0, ho⟩ := s'.own i d w1
          rw [w2] at e3; cases e3
          exact ⟨a, rfl, hb, rt, h0, ho⟩
  · simp only [if_neg at0] at go
theorem run_at {P : Program} {w : World} {K : PySem.W.Frag} {mg : Str → Option Value} {base : Heap} {x qual : Str} {st : Stmt} {f : Addr} {fd : FuncData} {N ps : List Str} {k : Nat} (F : Fun K x qual st f fd) (Sc : FnScope N ps (defScope st))
    {A : Around} {outer : List Env} {s0 : Shared} {H : Hp} {args : Args} {us : List Value} {vs : List V} {Q : VK} {E : XK} (room : Room (k + 1) A) (env0 : Env0 P w K mg base A outer s0 H) (bnd : BindsTo s0 fd args (ps.zip us)) (rel : Vals vs us) (size : vs.length = ps.length)
    (bod : ∀ cdv, Room k (A.deeper (PyProof.Rows.envOfC qual (defScope st) s0.heap.objs.size f cdv)) → ∃ t, PSs (bodyX P w K mg base N qual st f cdv A outer s0 H E) (defBody st) t ∧ t { nx := fun _ H1 => Q .non H1, rt := Q } (start N vs) H) :
    codeAny (model P w) A (.call (.ref f) args) (CR (L2.CX P w) outer P w H s0 Q E) s0 := by
  obtain ⟨oc, od, kV, doc, pm, an, cdv, ct, osl, rfl, look, code⟩ := F.ex
  have inK : K.In s0.heap := env0.mod.kin.keeps fun _ _ e => (env0.bs _ _ e).1
  have noL : s0.heap.NoLimit := env0.mod.nolimit.keeps fun _ _ e => (env0.bs _ _ e).1
  refine codeAny_call_function room.depth (inK f _ look) rfl Sc.co Sc.gen rfl (PySem.W.codeRec_of inK code) (bnd _ _ _ _ ?_)
  have kinds : ∀ y ∈ ps.zip us, (defScope st).names.lookup y.1 = some .local ∨ ((defScope st).names.lookup y.1 = some .cell ∧ ((cellsFrom (s0.heap.objs.size + 1) (defScope st).names []).lookup y.1).isSome = true) := by
    rintro ⟨n, u⟩ hy
    rcases Sc.par n (List.of_mem_zip hy).1 with q | q
    · exact .inl q
    · exact .inr ⟨q, PySem.W.cellsFrom_some _ _ _ (.inl q)⟩
  refine wpAny_newFunctionEnv_cells Sc.kind kinds ?_
  intro env e0 s2 into
  subst e0
  refine ⟨noL.keeps into.toInCall.keep, ?_⟩
  refine codeAny_func ?_
  obtain ⟨t, walk, hyp⟩ := bod cdv (room.deeper _)
  have I0 := inv_start (CX := L2.CX P w) (E := E) (f := f) (cd := cdv) Sc room.hd env0 size rel into
  refine wpAny_mono (walk.run [] s2 (start N vs) H _ I0 hyp) ?_ (fun e s3 q => q)
  intro fl s3 q
  cases fl with
  | next =>
    obtain ⟨σ3, H3, J, q⟩ := q
    exact ⟨.non, H3, J.os, J.bare, J.base, J.hok, rfl, q⟩
  | ret u =>
    obtain ⟨v, σ3, H3, J, rv, q⟩ := q
    exact ⟨v, H3, J.os, J.bare, J.base, J.hok, rv, q⟩
  | brk => obtain ⟨_, _, _, q⟩ := q; exact q.elim
  | cont => obtain ⟨_, _, _, q⟩ := q; exact q.elim
def lamM (den : Addr → Den → Den) (n : Nat) (P : Addr) (q : Str) (js : List Nat) (bodyM : M Res) : M Res := fun S =>
  if stillE (capE js S.env) = true ∧ S.objs[n]? = some (.cod P q) then callM 1 (fun _ o => den 0 (lamD (capE js S.env) bodyM) [.opq (.ref 0)] o) (pure [.dat .non]) S else none
def Gives (P : Program) (w : World) (K : PySem.W.Frag) (mg : Str → Option Value) (base : Heap) (k : Nat) (x a : Str) (st : Stmt) (N : List Str) (gB : Addr → Den → M Fl) : Prop :=
  ∀ (f : Addr) (L : Den) (LC : Zx → Prop) {fg : Addr} (cdv : Value) (A : Around) (outer : List Env) (s : Shared) (H : Hp) (E : XK) (z : Zx), A.guards = some [] → Room k (A.deeper (PyProof.Rows.envOfC x (defScope st) s.heap.objs.size fg cdv)) →
    Takes (bodyX P w K mg base N x st fg cdv A outer s H E) z.W → LC z → (∀ z W, LC z → LC { z with W := W }) →
    (∀ (pn : List (Addr × Obj)) (xe : Value → Shared → Prop) (z2 : Zx) (p1 p2 : Pos), Takes ((bodyX P w K mg base N x st fg cdv A outer s H E).tr pn xe) z2.W → LC z2 → DE ((bodyX P w K mg base N x st fg cdv A outer s H E).tr pn xe) z2 (.Call (.Name a p1) [] [] p2) (actM 0 f L)) →
    DB (bodyX P w K mg base N x st fg cdv A outer s H E) z (defBody st) (gB f L)
theorem cap_get {js : List Nat} {env : List Slot} {i : Nat} {d : D} (h : (capE js env)[i]? = some (.dat d)) : env[i]? = some (.dat d) := by
  unfold capE at h
  rw [List.getElem?_map] at h
  obtain ⟨j, e1, e2⟩ := Option.map_eq_some_iff.mp h
  obtain ⟨hl, e3⟩ := List.getElem?_eq_some_iff.mp e1
  rw [List.getElem_range] at e3
  subst e3
  rw [List.length_range] at hl
  split at e2
  · rw [List.getD_eq_getElem?_getD, List.getElem?_eq_getElem hl] at e2
    rw [List.getElem?_eq_getElem hl]
    exact congrArg some e2
  · cases e2
section
variable {X : Cx} {z : Zx}
theorem de_lam {x a : Str} {Ng : List Str} {k n : Nat} {js : List Nat} {P c : Addr} {params : Arguments} {body : Expr} {scope : Scope} {stg : Stmt} {gB : Addr → Den → M Fl} {bodyM : M Res} {lpos p pos : Pos}
    (F : Fn0 X.K X.mg x stg [a]) (Sg : FnScope Ng [a] (defScope stg)) (at0 : Ng[0]? = some a) (vis : Vis (defScope stg) a) (gv : Gives X.prog X.w X.K X.mg X.base (k + 1) x a stg Ng gB)
    (par : ∀ (f : Addr) (L : Den) (o : List D), runB Ng.length (gB f L) [.opq (.ref f)] o = runB Ng.length (gB 0 L) [.opq (.ref 0)] o)
    (TB : LamX.TabB X.base X.mg c P) (code : X.env.code = .ref c) (L : LamX.LamS X.env.scope scope) (has : ∀ y ∈ scope.names, y.2 = .free → ∃ c, X.env.cells.lookup y.1 = some c) (plain : defaultsOf params X.env = ([], []))
    (none' : ∀ (q : Str) (cl : List (Str × Addr)) (pm cv ctv : Value), bindArgs (PySem.W.kla_fn "<lambda>" q params body scope cl pm cv ctv) ⟨[], []⟩ = pure [])
    (room : Room (k + 2) X.A) (gd : X.A.guards = some []) (tk : Takes X z.W)
    (run : ∀ (A : Around) (outer : List Env) (s2 : Shared) (H2 : Hp) (E : XK) (f c' : Addr) (z2 : Zx), A.guards = some [] → Room k (A.deeper (LamX.lamEnv X scope s2.heap.objs.size f c')) → Takes (LamX.lamCx X A outer s2 H2 E scope f c') z2.W → DE (LamX.lamCx X A outer s2 H2 E scope f c') z2 body bodyM)
    (hg : Gl X x) (hdb : (x == ("__debug__" : Str)) = false) (d1 : (a == ("__debug__" : Str)) = false) (d2 : (a == ("__classdict__" : Str)) = false) :
    DE X z (.Call (.Name x p) [.Lambda params body scope lpos] [] pos) (lamM (fun f L => runB Ng.length (gB f L)) n P (X.env.qual ++ "<lambda>") js bodyM) := by
  constructor
  intro pins s σ H Q I ⟨S, g, sr, go⟩
  unfold Go lamM at go
  have cnd : stillE (capE js S.env) = true ∧ S.objs[n]? = some (.cod P (X.env.qual ++ "<lambda>")) := by
    by_cases c : stillE (capE js S.env) = true ∧ S.objs[n]? = some (.cod P (X.env.qual ++ "<lambda>"))
    · exact c
    · simp only [if_neg c] at go
  simp only [if_pos cnd] at go
  obtain ⟨st, ob⟩ := cnd
  have ln : n < g.om.length := by rw [← sr.olen]; exact (List.getElem?_eq_some_iff.mp ob).1
  have om0 := List.getElem?_eq_getElem ln
  generalize g.om[n] = a0 at om0
  obtain ⟨rt, _⟩ := sr.obj n a0 _ om0 ob
  cases rt with
  | tab tab =>
  obtain ⟨fa, fd, hm, Fk, bnd⟩ := F.ex
  refine wpAny_Call_Name_kw (ld_glob I hg hm ?_ hdb)
  refine PySem.W.callWith_K (h₀ := X.base) I.ok.mod.kin Fk.kp ?_ (by rfl) (by rfl)
  show wpAny _ _ (spliced ((false, eval (.Lambda params body scope lpos) X.env) :: backTo pos (starEach [] X.env))) _ _ s
  refine Calls.spliced_cons (lam_made I TB code tab plain has fun f c' pm ctv H1 s1 I1 keep T1 atF newF noF co => ?_)
  refine Calls.spliced_nil ⟨I1.kIn, ?_⟩
  obtain ⟨sr1, fr1⟩ := sr.made om0 ob keep T1
  have le : (capE js S.env).length = σ.length := by unfold capE; simp [sr.len]
  have go : Go X.K X.mg z (callM 1 (fun _ o => runB Ng.length (gB 0 (lamD (capE js S.env) bodyM)) [.opq (.ref 0)] o) (pure [.dat .non])) S σ H g (fun r S' H' g' => ∀ v, ResOk X.K z S' σ H' g' v r → Q v H') := go
  have prom := call_den (n := 1) (den := fun _ o => runB Ng.length (gB 0 (lamD (capE js S.env) bodyM)) [.opq (.ref 0)] o) (rs := [.dat .non]) (vs := [.non]) (Q := Q) sr1 (fun r h => by rw [List.mem_singleton.mp h]; rfl) (.cons .non .nil) (go.at fr1)
  obtain ⟨g2, ds, objs, _, mu, nd, rv, ob2, q2⟩ := prom
  have q3 := q2
  simp only [] at q3
  rw [← par f (lamD (capE js S.env) bodyM) objs] at q3
  have shown : ∀ (i : Nat) (d : D), (capE js S.env)[i]? = some (.dat d) → ∃ v, σ[i]? = some (some v) ∧ Rp X.K H1 g2 v d := fun i d e => by
    obtain ⟨v, e1, r⟩ := sr1.dat i d (cap_get e)
    have sd : d.still = true := List.all_eq_true.mp st _ (List.mem_of_getElem? e)
    exact ⟨v, e1, Rp.still (fun _ _ h _ => h) sr1.mu r sd⟩
  have bt := bnd s1 [.ref f] I1.kIn rfl
  rw [List.append_nil] at bt
  have rc : codeAny (model X.prog X.w) X.A (.call (.ref fa) ⟨[.ref f], []⟩) (CR (L2.CX X.prog X.w) X.stack X.prog X.w H1 s1 Q (fun cls dx H2 => z.W cls dx σ H2)) s1 := by
    refine run_at (N := Ng) (vs := [.ref f]) Fk Sg room I1.env0 bt (.cons rfl .nil) rfl fun cdv room2 => ?_
    have lc : LCap X.K σ (capE js S.env) c' (X.env.qual ++ "<lambda>") ⟨H1, g2.bad, g2.om, fun cls dx _ H => z.W cls dx σ H⟩ := ⟨cap_start st mu ob2 shown, code_start mu ob2 co⟩
    have tk0 : Takes (bodyX X.prog X.w X.K X.mg X.base Ng x stg fa cdv X.A X.stack s1 H1 fun cls dx H2 => z.W cls dx σ H2) (fun cls dx _ H => z.W cls dx σ H) := takes_of rfl rfl rfl rfl
    have walk := gv f (lamD (capE js S.env) bodyM) (LCap X.K σ (capE js S.env) c' (X.env.qual ++ "<lambda>")) cdv X.A X.stack s1 H1 (fun cls dx H2 => z.W cls dx σ H2) ⟨H1, g2.bad, g2.om, fun cls dx _ H => z.W cls dx σ H⟩ gd room2 tk0 lc (fun z W c => c.withW)
      fun pn xe z2 p1 p2 tk2 lc2 => de_act (pe_actD I1 L atF newF noF (none' _ _ _ _ _) tk2 room2 (fun A outer s2 H2 E gd2 room3 => ⟨fun pins s σ H Q I ⟨z3, hz, hq⟩ => (run A outer s2 H2 E f c' z3 gd2 room3 (by rw [hz]; exact takes_of rfl rfl rfl rfl)).run pins s σ H Q I hq⟩) gd at0 vis d1 d2) lc2 le st
    refine ⟨_, walk, _, g2, SR.start (W := fun cls dx _ H => z.W cls dx σ H) mu nd (.cons (.opq _) .nil) ob2, ?_⟩
    unfold GoS
    unfold runB at q3
    split at q3
    · exact q3.elim
    · rename_i r objs' e
      split at e
      · rename_i S' e1
        cases e
        rw [e1]
        exact fun σ' H' g' s f => q3 H' g' .non (s.behind f) .non
      · rename_i r' S' e1
        cases e
        rw [e1]
        refine fun σ' H' g' v s f rr => q3 H' g' v (s.behind f) ?_
        cases r' with
        | dat d => exact rr
        | new d => obtain ⟨a, e, hb, rt, h0, ho, _⟩ := rr; exact ⟨a, e, hb, rt, h0, ho⟩
        | own i d =>
          obtain ⟨w1, w2⟩ := rr
          obtain ⟨a, e3, hb, rt, h0, ho⟩ := s.own i d w1
          rw [w2] at e3; cases e3
          exact ⟨a, rfl, hb, rt, h0, ho⟩
      · cases e
      · cases e
    · rename_i x objs' e
      split at e
      · cases e
      · cases e
      · rename_i x' S' e1
        cases e
        rw [e1]
        exact fun cls dx σ' H' g' s f ex => q3 cls dx H' g' (s.behind f) ex
      · cases e
  refine wpAny_call (codeAny_mono rc fun r s4 out => ?_)
  match r, out with
  | .error ex, out => exact passAt tk σ pins H1 s1 ex s4 I1 out
  | .ok (.ret u), out => exact I1.after out
end
end DL
end
section
set_option maxRecDepth 100000
namespace DL
open PySem PySem.Spec L2
structure Mk (K : PySem.W.Frag) (mg : Str → Option Value) (x : Str) (T : Addr) : Prop where
  ex : ∃ (c f : Addr) (fd : FuncData) (oc : Value) (od : Option Addr) (osl : Array (Option Value)), mg x = some (.ref f) ∧ K.lookup f = some ⟨oc, od, .func fd, osl⟩ ∧ fd.code = .ref c ∧ K.lookup T = none ∧ PySem.W.codeHdIn K c T = true
theorem mk_mk {K : PySem.W.Frag} {mg : Str → Option Value} {h : Heap} {x : Str} {c f T : Addr} {fd : FuncData} {oc : Value} {od : Option Addr} {osl : Array (Option Value)} (X : K.In h) (G : h.Ns mainGlobals mg) (a : PySem.W.nsIn K mainGlobals x = some (some (.ref f)))
    (l : K.lookup f = some ⟨oc, od, .func fd, osl⟩) (e : fd.code = .ref c) (n : K.lookup T = none) (cod : PySem.W.codeHdIn K c T = true) : Mk K mg x T := ⟨c, f, fd, oc, od, osl, PySem.W.mg_of X G a, l, e, n, cod⟩
theorem Mk.of {K : PySem.W.Frag} {mg : Str → Option Value} {x : Str} {T f : Addr} {fd : FuncData} {st : Stmt} (M : Mk K mg x T) (F : Fun K x x st f fd) (a : mg x = some (.ref f)) : ∃ c, fd.code = .ref c ∧ K.lookup T = none ∧ PySem.W.codeHdIn K c T = true := by
  obtain ⟨c, f', fd', oc, od, osl, a', l, e, n, cod⟩ := M.ex
  rw [a] at a'
  cases a'
  obtain ⟨oc2, od2, kV, doc, pm, an, cdv, ct, osl2, e2, look, code⟩ := F.ex
  rw [l] at look
  cases look
  exact ⟨c, e, n, cod⟩
theorem cells_has {n : Addr} {sc scope : Scope} (h : (scope.names.all fun y => !decide (y.2 = .free) || decide (sc.names.lookup y.1 = some .cell)) = true) : ∀ y ∈ scope.names, y.2 = .free → ∃ c, (cellsFrom n sc.names []).lookup y.1 = some c := by
  intro y hy e
  have := List.all_eq_true.mp h y hy
  rw [e] at this
  simp only [decide_true, Bool.not_true, Bool.false_or, decide_eq_true_eq] at this
  exact Option.isSome_iff_exists.mp (PySem.W.cellsFrom_some _ _ _ (.inl this))
end DL
end
section
set_option maxRecDepth 100000
namespace DL
open PySem PySem.Spec L2
theorem bnd_ok {α β : Type} {f : M α} {k : α → M β} {S S1 : Sx} {a : α} (h : f S = some (.ok a, S1)) : (f >>= k) S = k a S1 := by
  show M.bnd f k S = _
  unfold M.bnd
  rw [h]
theorem bnd_er {α β : Type} {f : M α} {k : α → M β} {S S1 : Sx} {x : Exn} (h : f S = some (.error x, S1)) : (f >>= k) S = some (.error x, S1) := by
  show M.bnd f k S = _
  unfold M.bnd
  rw [h]
theorem bnd_no {α β : Type} {f : M α} {k : α → M β} {S : Sx} (h : f S = none) : (f >>= k) S = none := by
  show M.bnd f k S = _
  unfold M.bnd
  rw [h]
theorem act_at {f : Addr} {L : Den} {o : List D} {l : List Slot} : actM 0 f L ⟨.dat (.opq (.ref f)) :: l, o⟩ = (match L [] o with
    | none => none
    | some (r, o') => some (r, ⟨.dat (.opq (.ref f)) :: l, o'⟩)) := by
  unfold actM callM
  rw [if_pos (show (Slot.dat (.opq (.ref f)) :: l)[0]? = some (.dat (.opq (.ref f))) from rfl)]
  simp only [bind, pure, M.bnd, M.ret, List.map_nil, List.length_nil, if_true]
  cases L [] o with
  | none => rfl
  | some q =>
    obtain ⟨r, o'⟩ := q
    cases r with
    | error x => rfl
    | ok r => simp only [putAll, ite_self]
end DL
end
section
set_option maxRecDepth 100000
namespace DL
open PySem PySem.Spec L2
def twS (f : Addr) (r : List Slot) (o : List D) : Sx := ⟨.dat (.opq (.ref f)) :: r, o⟩
def Sim {α : Type} (f : Addr) (m m' : M α) : Prop := ∀ r o, match m (twS f r o) with
  | none => m' (twS 0 r o) = none
  | some (a, S1) => ∃ r1 o1, S1 = twS f r1 o1 ∧ m' (twS 0 r o) = some (a, twS 0 r1 o1)
section
variable {α β : Type} {f : Addr} {i : Nat}
theorem Sim.at {m m' : M α} (h : Sim f m m') (r : List Slot) (o : List D) : (m (twS f r o) = none ∧ m' (twS 0 r o) = none) ∨ ∃ a r1 o1, m (twS f r o) = some (a, twS f r1 o1) ∧ m' (twS 0 r o) = some (a, twS 0 r1 o1) := by
  have := h r o
  cases e : m (twS f r o) with
  | none => rw [e] at this; exact .inl ⟨rfl, this⟩
  | some p =>
    obtain ⟨a, S1⟩ := p
    rw [e] at this
    obtain ⟨r1, o1, rfl, e2⟩ := this
    exact .inr ⟨a, r1, o1, rfl, e2⟩
theorem Sim.mk {m m' : M α} (h : ∀ r o, (m (twS f r o) = none ∧ m' (twS 0 r o) = none) ∨ ∃ a r1 o1, m (twS f r o) = some (a, twS f r1 o1) ∧ m' (twS 0 r o) = some (a, twS 0 r1 o1)) : Sim f m m' := fun r o => by
  rcases h r o with ⟨h1, h2⟩ | ⟨a, r1, o1, h1, h2⟩
  · rw [h1]; exact h2
  · rw [h1]; exact ⟨r1, o1, rfl, h2⟩
theorem sim_bind {m m' : M α} {k k' : α → M β} (h : Sim f m m') (hk : ∀ a, Sim f (k a) (k' a)) : Sim f (m >>= k) (m' >>= k') := Sim.mk fun r o => by
  rcases h.at r o with ⟨h1, h2⟩ | ⟨a, r1, o1, h1, h2⟩
  · exact .inl ⟨bnd_no h1, bnd_no h2⟩
  · cases a with
    | error x => exact .inr ⟨.error x, r1, o1, bnd_er h1, bnd_er h2⟩
    | ok a =>
      rw [bnd_ok h1, bnd_ok h2]
      exact (hk a).at r1 o1
theorem sim_pure (a : α) : Sim f (pure a : M α) (pure a) := Sim.mk fun r o => .inr ⟨.ok a, r, o, rfl, rfl⟩
theorem sim_no : Sim f (M.no : M α) M.no := Sim.mk fun r o => .inl ⟨rfl, rfl⟩
theorem sim_need {c : Bool} {m m' : M α} (h : Sim f m m') : Sim f (M.need c m) (M.need c m') := by
  cases c with
  | true => exact h
  | false => exact Sim.mk fun r o => .inl ⟨rfl, rfl⟩
theorem sim_k (d : D) : Sim f (kM d) (kM d) := sim_pure _
theorem sim_var : Sim f (varM (i + 1)) (varM (i + 1)) := Sim.mk fun r o => by
  have e : ∀ g, varM (i + 1) (twS g r o) = match r[i]? with | some (.dat d) => some (.ok (.dat d), twS g r o) | some (.own d) => some (.ok (.own (i + 1) d), twS g r o) | _ => none := fun g => by
    unfold varM twS
    simp only [List.getElem?_cons_succ]
    all_goals
      cases r[i]? with
      | none => rfl
      | some s => cases s <;> rfl
  rw [e, e]
  cases r[i]? with
  | none => exact .inl ⟨rfl, rfl⟩
  | some s =>
    cases s with
    | dat d => exact .inr ⟨_, r, o, rfl, rfl⟩
    | own d => exact .inr ⟨_, r, o, rfl, rfl⟩
    | un => exact .inl ⟨rfl, rfl⟩
theorem own_0 {g : Addr} {r : List Slot} {o : List D} {d : D} : ((twS g r o).env[0]? = some (.own d)) = False := by simp [twS]
theorem sim_chk (q : Res) : Sim f (chkM q) (chkM q) := Sim.mk fun r o => by
  cases q with
  | dat d => exact .inr ⟨_, r, o, rfl, rfl⟩
  | new d => exact .inr ⟨_, r, o, rfl, rfl⟩
  | own i d =>
    rw [chkM_own, chkM_own]
    cases i with
    | zero =>
      simp only [own_0, if_false]
      exact .inl ⟨trivial, trivial⟩
    | succ i =>
      have e : ∀ g, (twS g r o).env[i + 1]? = r[i]? := fun g => by simp [twS]
      rw [e, e]
      by_cases c : r[i]? = some (.own d)
      · rw [if_pos c, if_pos c]; exact .inr ⟨_, r, o, rfl, rfl⟩
      · rw [if_neg c, if_neg c]; exact .inl ⟨rfl, rfl⟩
theorem put_tw {g : Addr} {r : List Slot} {o : List D} {x : Slot} : (twS g r o).put (i + 1) x = twS g (r.set i x) o := rfl
theorem sim_use (q : Res) : Sim f (useM q) (useM q) := Sim.mk fun r o => by
  cases q with
  | dat d => exact .inr ⟨_, r, o, rfl, rfl⟩
  | new d => exact .inr ⟨_, r, o, rfl, rfl⟩
  | own i d =>
    rw [useM_own, useM_own]
    cases i with
    | zero =>
      simp only [own_0, if_false]
      exact .inl ⟨trivial, trivial⟩
    | succ i =>
      have e : ∀ g, (twS g r o).env[i + 1]? = r[i]? := fun g => by simp [twS]
      rw [e, e]
      by_cases c : r[i]? = some (.own d)
      · rw [if_pos c, if_pos c]; exact .inr ⟨_, _, o, rfl, rfl⟩
      · rw [if_neg c, if_neg c]; exact .inl ⟨rfl, rfl⟩
theorem sim_put (x : Slot) : Sim f (putM (i + 1) x) (putM (i + 1) x) := Sim.mk fun r o => .inr ⟨_, r.set i x, o, rfl, rfl⟩
theorem sim_set (q : Res) : Sim f (setM (i + 1) q) (setM (i + 1) q) := by
  cases q with
  | new d => exact sim_put _
  | dat d => exact sim_bind (sim_use _) fun d => sim_put _
  | own j d => exact sim_bind (sim_use _) fun d => sim_put _
theorem sim_asg {m m' : M Res} (h : Sim f m m') : Sim f (asgM (i + 1) m) (asgM (i + 1) m') := sim_bind h fun a => sim_bind (sim_set a) fun _ => sim_pure _
theorem sim_ret {m m' : M Res} (h : Sim f m m') : Sim f (retM m) (retM m') := sim_bind h fun a => sim_pure _
theorem sim_seq {m m' n n' : M Fl} (h : Sim f m m') (h2 : Sim f n n') : Sim f (seqM m n) (seqM m' n') := sim_bind h fun a => by
  cases a with
  | next => exact h2
  | ret r => exact sim_pure _
  | brk => exact sim_pure _
  | cont => exact sim_pure _
theorem sim_nil : Sim f nilA nilA := sim_pure _
theorem sim_cons {m m' : M Res} {n n' : M (List Res)} (h : Sim f m m') (h2 : Sim f n n') : Sim f (consA m n) (consA m' n') := sim_bind h fun a => sim_bind h2 fun b => sim_bind (sim_chk _) fun _ => sim_pure _
theorem sim_chkAll : ∀ rs : List Res, Sim f (chkAll rs) (chkAll rs)
  | [] => sim_pure _
  | r :: rs => sim_bind (sim_chk _) fun _ => sim_chkAll rs
theorem sim_useAll : ∀ rs : List Res, Sim f (useAll rs) (useAll rs)
  | [] => sim_pure _
  | r :: rs => sim_bind (sim_use _) fun d => sim_bind (sim_chkAll rs) fun _ => sim_bind (sim_useAll rs) fun _ => sim_pure _
theorem sim_tup {n n' : M (List Res)} (h : Sim f n n') : Sim f (tupM n) (tupM n') := sim_bind h fun rs => sim_bind (sim_useAll rs) fun ds => sim_need (sim_pure _)
theorem sim_exc {c n : Str} {x : Exn} : Sim f (excM c n x) (excM c n x) := by
  unfold excM
  split
  · split
    · exact sim_pure _
    · exact sim_no
  · exact sim_no
theorem sim_act {L : Den} : Sim f (actM 0 f L) (actM 0 0 L) := Sim.mk fun r o => by
  unfold twS
  rw [act_at, act_at]
  cases L [] o with
  | none => exact .inl ⟨rfl, rfl⟩
  | some p => exact .inr ⟨p.1, r, p.2, rfl, rfl⟩
theorem sim_cl {x : Exn} : ∀ {cs : List Clz}, (∀ c ∈ cs, c.nm ≠ some 0 ∧ ∀ x, Sim f (c.h x) (c.h x)) → ∀ r o, (tryC x (twS f r o) cs = none ∧ tryC x (twS 0 r o) cs = none) ∨ ∃ a r1 o1, tryC x (twS f r o) cs = some (a, twS f r1 o1) ∧ tryC x (twS 0 r o) cs = some (a, twS 0 r1 o1)
  | [], _, r, o => .inr ⟨.error x, r, o, rfl, rfl⟩
  | c :: cs, h, r, o => by
    obtain ⟨n0, hc⟩ := h c (.head _)
    unfold tryC
    cases c.sub x.cls with
    | none => exact .inl ⟨rfl, rfl⟩
    | some b =>
      cases b with
      | false => exact sim_cl (fun c' hc' => h c' (.tail _ hc')) r o
      | true =>
        by_cases st : x.still = true
        · simp only [if_pos st]
          cases e : c.nm with
          | none =>
            simp only
            rcases (hc x).at r o with ⟨h1, h2⟩ | ⟨a, r1, o1, h1, h2⟩
            · rw [h1, h2]; exact .inl ⟨rfl, rfl⟩
            · rw [h1, h2]
              cases a with
              | error y => exact .inl ⟨rfl, rfl⟩
              | ok fl => exact .inr ⟨_, r1, o1, rfl, rfl⟩
          | some i =>
            cases i with
            | zero => exact absurd e n0
            | succ i =>
              simp only
              rw [put_tw, put_tw]
              rcases (hc x).at (r.set i .un) o with ⟨h1, h2⟩ | ⟨a, r1, o1, h1, h2⟩
              · rw [h1, h2]; exact .inl ⟨rfl, rfl⟩
              · rw [h1, h2]
                cases a with
                | error y => exact .inl ⟨rfl, rfl⟩
                | ok fl =>
                  cases fl with
                  | ret q =>
                    cases q with
                    | own j d =>
                      unfold unslot
                      by_cases ji : j = i + 1
                      · simp only [if_pos ji]; exact .inl ⟨trivial, trivial⟩
                      · simp only [if_neg ji]; exact .inr ⟨_, r1.set i .un, o1, rfl, rfl⟩
                    | dat d => exact .inr ⟨_, r1.set i .un, o1, rfl, rfl⟩
                    | new d => exact .inr ⟨_, r1.set i .un, o1, rfl, rfl⟩
                  | next => exact .inr ⟨_, r1.set i .un, o1, rfl, rfl⟩
                  | brk => exact .inr ⟨_, r1.set i .un, o1, rfl, rfl⟩
                  | cont => exact .inr ⟨_, r1.set i .un, o1, rfl, rfl⟩
        · simp only [if_neg st]; exact .inl ⟨trivial, trivial⟩
theorem sim_cls_nil : ∀ c ∈ ([] : List Clz), c.nm ≠ some 0 ∧ ∀ x, Sim f (c.h x) (c.h x) := by simp
theorem sim_cls {nm : Option Nat} {sub : Str → Option Bool} {h : Exn → M Fl} {cs : List Clz} (n0 : nm ≠ some 0) (hh : ∀ x, Sim f (h x) (h x)) (hc : ∀ c ∈ cs, c.nm ≠ some 0 ∧ ∀ x, Sim f (c.h x) (c.h x)) : ∀ c ∈ (⟨nm, sub, h⟩ : Clz) :: cs, c.nm ≠ some 0 ∧ ∀ x, Sim f (c.h x) (c.h x) := by
  intro c hm
  rcases List.mem_cons.mp hm with rfl | hm
  · exact ⟨n0, hh⟩
  · exact hc c hm
theorem sim_try {cs : List Clz} {m m' : M Fl} (hc : ∀ c ∈ cs, c.nm ≠ some 0 ∧ ∀ x, Sim f (c.h x) (c.h x)) (h : Sim f m m') : Sim f (tryG cs m) (tryG cs m') := Sim.mk fun r o => by
  unfold tryG
  rcases h.at r o with ⟨h1, h2⟩ | ⟨a, r1, o1, h1, h2⟩
  · rw [h1, h2]; exact .inl ⟨rfl, rfl⟩
  · rw [h1, h2]
    cases a with
    | error x => exact sim_cl hc r1 o1
    | ok fl => exact .inr ⟨_, r1, o1, rfl, rfl⟩
theorem par_sim {n : Nat} {g : Addr → Den → M Fl} {L : Den} {o : List D} (h : Sim f (g f L) (g 0 L)) : runB (n + 1) (g f L) [.opq (.ref f)] o = runB (n + 1) (g 0 L) [.opq (.ref 0)] o := by
  unfold runB
  have := h.at (List.replicate n .un) o
  have e : ∀ a : Addr, (⟨([D.opq (.ref a)] : List D).map .dat ++ List.replicate (n + 1 - ([D.opq (.ref a)] : List D).length) .un, o⟩ : Sx) = twS a (List.replicate n .un) o := fun a => rfl
  rw [e, e]
  rcases this with ⟨h1, h2⟩ | ⟨a, r1, o1, h1, h2⟩
  · rw [h1, h2]
  · rw [h1, h2]
    cases a with
    | error x => rfl
    | ok fl => cases fl <;> rfl
end
end DL
end
section
set_option maxRecDepth 100000
namespace DL
open PySem PySem.Spec L2
structure MkB (K : PySem.W.Frag) (mg : Str → Option Value) (base : Heap) (x : Str) (T : Addr) : Prop where
  ex : ∃ (c f : Addr) (fd : FuncData) (oc : Value) (od : Option Addr) (osl : Array (Option Value)), mg x = some (.ref f) ∧ K.lookup f = some ⟨oc, od, .func fd, osl⟩ ∧ fd.code = .ref c ∧ LamX.TabB base mg c T
section
variable {P : Program} {w : World} {K : PySem.W.Frag} {mg : Str → Option Value} {base : Heap} {x : Str} {st : Stmt} {ps N : List Str} {k : Nat} {T : Addr}
theorem okNC {m : M Fl} (F : Fn0 K mg x st ps) (M : MkB K mg base x T) (Sc : FnScope N ps (defScope st))
    (bod : ∀ {f c : Addr}, LamX.TabB base mg c T → ∀ (cdv : Value), cdv = .ref c → ∀ (A : Around) (outer : List Env) (s : Shared) (H : Hp) (E : XK) (z : Zx), A.guards = some [] → Room k (A.deeper (PyProof.Rows.envOfC x (defScope st) s.heap.objs.size f cdv)) → Takes (bodyX P w K mg base N x st f cdv A outer s H E) z.W →
      DB (bodyX P w K mg base N x st f cdv A outer s H E) z (defBody st) m) : Dn P w K mg base (k + 1) x ps (runB N.length m) := by
  obtain ⟨f, fd, a, F, b⟩ := F.ex
  obtain ⟨c, f2, fd2, oc, od, osl, a2, l, e, tb⟩ := M.ex
  rw [a] at a2
  cases a2
  have e3 : fd.code = .ref c := by
    obtain ⟨oc2, od2, kV, doc, pm, an, cdv, ct, osl2, e2, look, code⟩ := F.ex
    rw [l] at look
    cases look
    exact e
  exact ⟨f, fd, a, F.kp, b, okDC F Sc fun cdv hc A outer s H E z gd room tk => bod tb cdv (hc.symm.trans e3) A outer s H E z gd room tk⟩
noncomputable def Mk.c (M : Mk K mg x T) : Addr := Classical.choose M.ex
theorem Mk.b (M : Mk K mg x T) (tb : LamX.TabB base mg M.c T) : MkB K mg base x T := by
  obtain ⟨f, fd, oc, od, osl, a, l, e, _⟩ := Classical.choose_spec M.ex
  exact ⟨_, f, fd, oc, od, osl, a, l, e, tb⟩
theorem Mk.n (M : Mk K mg x T) : K.lookup T = none ∧ PySem.W.codeHdIn K M.c T = true := by
  obtain ⟨f, fd, oc, od, osl, a, l, e, n, c⟩ := Classical.choose_spec M.ex
  exact ⟨n, c⟩
end
end DL
end
section
set_option maxRecDepth 100000
namespace DL
open PySem PySem.Spec L2 PyProof.Rows HT
def D.eqn : Nat → D → Bool
  | _, .non => true
  | _, .bl _ => true
  | _, .int _ => true
  | _, .str _ => true
  | n + 1, .tup ds => ds.all (D.eqn n)
  | n + 1, .lst ds => ds.all (D.eqn n)
  | n + 1, .rol ds => ds.all (D.eqn n)
  | _ + 1, .rdc false [] [] => true
  | n + 1, .rdc false [_] [v] => D.eqn n v
  | _, _ => false
section
variable {X : Cx} {pins : List (Addr × Obj)} {σ : L2.St} {H : Hp} {s : Shared} {g : Gh}
theorem eq_items {n : Nat} {ds : List D} (one : ∀ d ∈ ds, ∀ x y v u, Rp X.K H g x d → Rp X.K H g y d → RelV x v → RelV y u → PySem.W.EqTree X.prog X.w s n v u true) :
    ∀ {xs ys : List V} {us ws : List Value}, RpA X.K H g xs ds → RpA X.K H g ys ds → Vals xs us → Vals ys ws → us.length = ws.length ∧ ∀ j (h1 : j < us.length) (h2 : j < ws.length), PySem.W.EqTree X.prog X.w s n us[j] ws[j] true := by
  induction ds with
  | nil =>
    intro xs ys us ws r1 r2 v1 v2
    cases r1; cases r2; cases v1; cases v2
    exact ⟨rfl, fun j h1 => absurd h1 (Nat.not_lt_zero j)⟩
  | cons d ds ih =>
    intro xs ys us ws r1 r2 v1 v2
    cases r1 with
    | cons a1 t1 =>
      cases r2 with
      | cons a2 t2 =>
        cases v1 with
        | cons b1 w1 =>
          cases v2 with
          | cons b2 w2 =>
            obtain ⟨l, k⟩ := ih (fun d hd => one d (.tail _ hd)) t1 t2 w1 w2
            refine ⟨by simp only [List.length_cons]; rw [l], fun j h1 h2 => ?_⟩
            cases j with
            | zero => exact one d (.head _) _ _ _ _ a1 a2 b1 b2
            | succ j => exact k j (Nat.lt_of_succ_lt_succ h1) (Nat.lt_of_succ_lt_succ h2)
theorem all_tt (n : Nat) : ((List.range n).all fun _ => true) = true := List.all_eq_true.mpr fun _ _ => rfl
theorem tree_lists (I : Inv X pins σ H s) {n : Nat} {ds : List D} {a b : Addr} {xs ys : List V} (one : ∀ d ∈ ds, ∀ x y v u, Rp X.K H g x d → Rp X.K H g y d → RelV x v → RelV y u → PySem.W.EqTree X.prog X.w s n v u true)
    (ha : SqL X.K H a xs) (hb : SqL X.K H b ys) (rx : RpA X.K H g xs ds) (ry : RpA X.K H g ys ds) : ∃ us ws : Array Value, s.heap.IsList a us ∧ s.heap.IsList b ws ∧ us.size = ws.size ∧ ∀ j (h1 : j < us.size) (h2 : j < ws.size), PySem.W.EqTree X.prog X.w s n us[j] ws[j] true := by
  obtain ⟨us, r1, p1, _⟩ := I.list ha
  obtain ⟨ws, r2, p2, _⟩ := I.list hb
  obtain ⟨l, k⟩ := eq_items one rx ry r1 r2
  exact ⟨us.toArray, ws.toArray, p1.isList, p2.isList, by simpa using l, fun j h1 h2 => by simpa using k j (by simpa using h1) (by simpa using h2)⟩
theorem tree_tuples (I : Inv X pins σ H s) {n : Nat} {ds : List D} {a b : Addr} {xs ys : List V} (one : ∀ d ∈ ds, ∀ x y v u, Rp X.K H g x d → Rp X.K H g y d → RelV x v → RelV y u → PySem.W.EqTree X.prog X.w s n v u true)
    (ha : SqT X.K H a xs) (hb : SqT X.K H b ys) (rx : RpA X.K H g xs ds) (ry : RpA X.K H g ys ds) : ∃ us ws : Array Value, s.heap.IsTuple a us ∧ s.heap.IsTuple b ws ∧ us.size = ws.size ∧ ∀ j (h1 : j < us.size) (h2 : j < ws.size), PySem.W.EqTree X.prog X.w s n us[j] ws[j] true := by
  obtain ⟨us, r1, p1, _⟩ := I.tuple ha
  obtain ⟨ws, r2, p2, _⟩ := I.tuple hb
  obtain ⟨l, k⟩ := eq_items one rx ry r1 r2
  exact ⟨us.toArray, ws.toArray, p1, p2, by simpa using l, fun j h1 h2 => by simpa using k j (by simpa using h1) (by simpa using h2)⟩
theorem dc_small {a : Addr} {u : HO} {ks : List D} {ws : List V} (c : DcAt H a u false ks ws) : ∃ kvs : List (Key × V), u = .dK kvs ∧ ks = kvs.map (fun p => kD p.1) ∧ ws = kvs.map (·.2) := by
  generalize e : false = t at c
  cases c with
  | dK kvs => exact ⟨kvs, rfl, rfl, rfl⟩
  | dN rows k => cases e
theorem eq_tree (I : Inv X pins σ H s) : ∀ (n : Nat) (d : D), D.eqn n d = true → ∀ x y v u, Rp X.K H g x d → Rp X.K H g y d → RelV x v → RelV y u → PySem.W.EqTree X.prog X.w s n v u true := by
  intro n
  induction n with
  | zero =>
    intro d hd x y v u rx ry vx vy
    have flat : x = y ∧ flatB x = true := by
      cases d <;> simp [D.eqn] at hd <;> cases rx <;> cases ry <;> exact ⟨rfl, rfl⟩
    obtain ⟨rfl, f⟩ := flat
    exact .leaf fun A _ => eqAt_same vx vy f
  | succ n ih =>
    intro d hd x y v u rx ry vx vy
    cases d with
    | non => cases rx; cases ry; exact .leaf fun A _ => eqAt_same vx vy rfl
    | bl b => cases rx; cases ry; exact .leaf fun A _ => eqAt_same vx vy rfl
    | int i => cases rx; cases ry; exact .leaf fun A _ => eqAt_same vx vy rfl
    | str z => cases rx; cases ry; exact .leaf fun A _ => eqAt_same vx vy rfl
    | tup ds =>
      have one : ∀ d ∈ ds, ∀ x y v u, Rp X.K H g x d → Rp X.K H g y d → RelV x v → RelV y u → PySem.W.EqTree X.prog X.w s n v u true := fun d hm => ih d (List.all_eq_true.mp (show ds.all (D.eqn n) = true from hd) d hm)
      cases rx with
      | @tup a xs _ hx px =>
        cases ry with
        | @tup b ys _ hy py =>
          obtain rfl : v = Value.ref a := vx
          obtain rfl : u = Value.ref b := vy
          by_cases ab : a = b
          · subst ab; exact .same
          · obtain ⟨us, ws, p1, p2, sz, k⟩ := tree_tuples I one (SqT.of hx) (SqT.of hy) px py
            have e : ((List.range (min us.size ws.size)).all (fun _ => true) && us.size == ws.size) = true := by rw [all_tt, sz]; simp
            rw [← e]
            exact .tuples (e := fun _ => true) ab p1 p2 k
    | lst ds =>
      have one : ∀ d ∈ ds, ∀ x y v u, Rp X.K H g x d → Rp X.K H g y d → RelV x v → RelV y u → PySem.W.EqTree X.prog X.w s n v u true := fun d hm => ih d (List.all_eq_true.mp (show ds.all (D.eqn n) = true from hd) d hm)
      cases rx with
      | @lst a xs _ hx _ px =>
        cases ry with
        | @lst b ys _ hy _ py =>
          obtain rfl : v = Value.ref a := vx
          obtain rfl : u = Value.ref b := vy
          by_cases ab : a = b
          · subst ab; exact .same
          · obtain ⟨us, ws, p1, p2, sz, k⟩ := tree_lists I one (.inl (.inl hx)) (.inl (.inl hy)) px py
            rw [← all_tt us.size]
            exact .lists (e := fun _ => true) ab p1 p2 sz k
    | rol ds =>
      have one : ∀ d ∈ ds, ∀ x y v u, Rp X.K H g x d → Rp X.K H g y d → RelV x v → RelV y u → PySem.W.EqTree X.prog X.w s n v u true := fun d hm => ih d (List.all_eq_true.mp (show ds.all (D.eqn n) = true from hd) d hm)
      cases rx with
      | @rol a xs _ hx px =>
        cases ry with
        | @rol b ys _ hy py =>
          obtain rfl : v = Value.ref a := vx
          obtain rfl : u = Value.ref b := vy
          by_cases ab : a = b
          · subst ab; exact .same
          · obtain ⟨us, ws, p1, p2, sz, k⟩ := tree_lists I one hx.sq hy.sq px py
            rw [← all_tt us.size]
            exact .lists (e := fun _ => true) ab p1 p2 sz k
    | rdc t ks vs =>
      cases rx with
      | @rdc a o1 u1 _ _ _ ws1 hx cx px =>
        cases ry with
        | @rdc b o2 u2 _ _ _ ws2 hy cy py =>
          obtain rfl : v = Value.ref a := vx
          obtain rfl : u = Value.ref b := vy
          by_cases ab : a = b
          · subst ab; exact .same
          · cases t with
            | true => simp [D.eqn] at hd
            | false =>
              obtain ⟨k1, rfl, ek1, ew1⟩ := dc_small cx
              obtain ⟨k2, rfl, ek2, ew2⟩ := dc_small cy
              obtain ⟨_, ya, va, ra, oa⟩ := dk_rd I.hok (.inr ⟨_, hx⟩)
              obtain ⟨_, yb, vb, rb, ob⟩ := dk_rd I.hok (.inr ⟨_, hy⟩)
              -- of one entry or none
              have few : (k1 = [] ∧ k2 = []) ∨ ∃ k w1 w2, k1 = [(k, w1)] ∧ k2 = [(k, w2)] ∧ ∃ d, D.eqn n d = true ∧ Rp X.K H g w1 d ∧ Rp X.K H g w2 d := by
                match ks, vs, hd with
                | [], [], _ =>
                  refine .inl ⟨?_, ?_⟩
                  · cases k1 with | nil => rfl | cons p r => simp at ek1
                  · cases k2 with | nil => rfl | cons p r => simp at ek2
                | [k], [d], hd =>
                  have l1 : k1.length = 1 := by have := congrArg List.length ek1; simp at this; omega
                  have l2 : k2.length = 1 := by have := congrArg List.length ek2; simp at this; omega
                  match k1, k2, l1, l2 with
                  | [(k', w1)], [(l', w2)], _, _ =>
                    simp only [List.map_cons, List.map_nil] at ek1 ek2 ew1 ew2
                    subst ew1 ew2
                    have kk : k' = l' := kD_inj ((List.head_eq_of_cons_eq ek1).symm.trans (List.head_eq_of_cons_eq ek2))
                    subst kk
                    cases px with
                    | cons p1 _ =>
                      cases py with
                      | cons p2 _ => exact .inr ⟨k', w1, w2, rfl, rfl, d, hd, p1, p2⟩
              rcases few with ⟨rfl, rfl⟩ | ⟨k, w1, w2, rfl, rfl, d, ed, q1, q2⟩
              · cases ra; cases rb
                exact .dicts (knd := mixKind X.prog X.w) (e := fun _ => true) ab ya yb oa ob fun k v y hm => absurd hm (by simp)
              · cases ra with
                | @cons _ qa _ ra1 ha ra =>
                  cases ra
                  cases rb with
                  | @cons _ qb _ rb1 hb rb =>
                    cases rb
                    obtain ⟨ka, xa⟩ := qa
                    obtain ⟨kb, xb⟩ := qb
                    obtain ⟨e1, f1⟩ := ha
                    obtain ⟨e2, f2⟩ := hb
                    have e1 : k = ka := e1
                    have e2 : k = kb := e2
                    subst e1 e2
                    have t := ih d ed w1 w2 xa xb q1 q2 f1 f2
                    have fin : (([(k, xa)] : List (Key × Value)).length == ([(k, xb)] : List (Key × Value)).length && ([(k, xa)] : List (Key × Value)).all fun p => (valueAt [(k, xb)] p.1).isSome && (fun _ => true) p.1) = true := by
                      simp [valueAt]
                    rw [← fin]
                    refine .dicts (knd := mixKind X.prog X.w) (e := fun _ => true) ab ya yb oa ob fun k' v y hm hv => ?_
                    simp only [List.mem_cons, List.not_mem_nil, or_false, Prod.mk.injEq] at hm
                    obtain ⟨rfl, rfl⟩ := hm
                    simp [valueAt] at hv
                    subst hv
                    exact t
    | _ => simp [D.eqn] at hd
def rEqX (K : PySem.W.Frag) : R2 := fun x y H Q => rEqD K x y H Q ∨ ∃ (a b : Addr) (xs ys : List V) (g : Gh) (ds : List D), x = .ref a ∧ y = .ref b ∧ ((SqT K H a xs ∧ SqT K H b ys) ∨ (SqL K H a xs ∧ SqL K H b ys)) ∧ RpA K H g xs ds ∧ RpA K H g ys ds ∧ ds.all (D.eqn 40) = true ∧ Q (.bl true) H
theorem op_eqX (hu : X.A.units + 65 < cLine) : OpR X (compareOp .Eq) (rEqX X.K) := by
  intro pins s σ H x y v u Q I rx ry h
  rcases h with h | ⟨a, b, xs, ys, g, ds, rfl, rfl, hs, px, py, he, q⟩
  · exact op_eqD (by omega) pins s σ H x y v u Q I rx ry h
  · obtain rfl : v = Value.ref a := rx
    obtain rfl : u = Value.ref b := ry
    have one : ∀ d ∈ ds, ∀ x y v u, Rp X.K H g x d → Rp X.K H g y d → RelV x v → RelV y u → PySem.W.EqTree X.prog X.w s 40 v u true := fun d hm => eq_tree I 40 d (List.all_eq_true.mp he d hm)
    rcases hs with ⟨ha, hb⟩ | ⟨ha, hb⟩
    · obtain ⟨us, ws, p1, p2, sz, k⟩ := tree_tuples I one ha hb px py
      refine PySem.W.eq_tuplesT (e := fun _ => true) p1 p2 k (by omega) ⟨.bl true, H, I, ?_, q⟩
      show Value.bool _ = Value.bool true
      rw [all_tt, sz]; simp
    · obtain ⟨us, ws, p1, p2, sz, k⟩ := tree_lists I one ha hb px py
      refine PySem.W.eq_listsT (e := fun _ => true) p1 p2 sz k (by omega) ⟨.bl true, H, I, ?_, q⟩
      show Value.bool _ = Value.bool true
      rw [all_tt]
end
def D.rowOf : D → Option (List D)
  | .tup ds => some ds
  | .lst ds => some ds
  | .rol ds => some ds
  | _ => none
def D.selfy (d : D) : Bool := match d.rowOf with
  | some ds => ds.all (D.eqn 40)
  | none => false
def opEqX (d e : D) : M Res := if d = e ∧ d.selfy = true then pure (.dat (.bl true)) else opEq false d e
section
variable {X : Cx} {z : Zx} {a b : Expr} {fa fb : M Res} {pos : Pos} {K : PySem.W.Frag} {H : Hp} {g : Gh} {x : V}
theorem Pk.row {d : D} {ds : List D} (p : Pk K H g x d) (e : d.rowOf = some ds) : ∃ (a : Addr) (xs : List V), x = .ref a ∧ RpA K H g xs ds ∧ (d = .tup ds ∧ SqT K H a xs ∨ d ≠ .tup ds ∧ SqL K H a xs) := by
  rcases p with p | ⟨a, rfl, p⟩
  · cases p with
    | tup h r => cases e; exact ⟨_, _, rfl, r, .inl ⟨rfl, SqT.of h⟩⟩
    | lst h n r => cases e; exact ⟨_, _, rfl, r, .inr ⟨(fun q => nomatch q), .inl (.inl h)⟩⟩
    | rol h r => cases e; exact ⟨_, _, rfl, r, .inr ⟨(fun q => nomatch q), h.sq⟩⟩
    | _ => cases e
  · cases p with
    | lst h r => cases e; exact ⟨_, _, rfl, r, .inr ⟨(fun q => nomatch q), .inl (.inl h)⟩⟩
    | _ => cases e
theorem od_eqX : OpD X z (rEqX X.K) opEqX := by
  intro S σ H g x y dx dy Q s px py h
  unfold opEqX at h
  by_cases c : dx = dy ∧ dx.selfy = true
  · rw [if_pos c] at h
    obtain ⟨rfl, sf⟩ := c
    unfold D.selfy at sf
    cases e : dx.rowOf with
    | none => rw [e] at sf; cases sf
    | some ds =>
      rw [e] at sf
      obtain ⟨a, xs, rfl, r1, k1⟩ := px.row e
      obtain ⟨b, ys, rfl, r2, k2⟩ := py.row e
      refine .inr ⟨a, b, xs, ys, g, ds, rfl, rfl, ?_, r1, r2, sf, out_dat s (.bl true) h⟩
      rcases k1 with ⟨t1, k1⟩ | ⟨t1, k1⟩
      · rcases k2 with ⟨_, k2⟩ | ⟨t2, _⟩
        · exact .inl ⟨k1, k2⟩
        · exact absurd t1 t2
      · rcases k2 with ⟨t2, _⟩ | ⟨_, k2⟩
        · exact absurd t2 t1
        · exact .inr ⟨k1, k2⟩
  · rw [if_neg c] at h
    exact .inl (od_eq S σ H g x y dx dy Q s px py h)
theorem de_eqX (hu : X.A.units + 65 < cLine) (ha : DE X z a fa) (hb : DE X z b fb) : DE X z (.Compare a [.Eq] [b] pos) (binM opEqX fa fb) := de_bin od_eqX (pe_cmpR (op_eqX hu) ha hb (nomark _))
end
end DL
end
section
set_option maxRecDepth 100000
namespace DL
open PySem PySem.Spec L2 PyProof.Rows HT
def SysM (base : Heap) : Prop := ∃ o es ep, base.get? sysModules = some o ∧ o.data = .dict es ep
def keyP : Key → PyData
  | .inl i => .int i
  | .inr x => .str x
mutual
inductive DpX (K : PySem.W.Frag) (H : Hp) : V → PyData → Prop
  | non : DpX K H .non .none
  | bl (b : Bool) : DpX K H (.bl b) (.bool b)
  | int (i : Int) : DpX K H (.int i) (.int i)
  | str (x : Str) : DpX K H (.str x) (.str x)
  | tup {a : Addr} {xs : List V} {ds : List PyData} : SqT K H a xs → DpXs K H xs ds → DpX K H (.ref a) (.tuple ds)
  | lst {a : Addr} {xs : List V} {ds : List PyData} : SqL K H a xs → DpXs K H xs ds → DpX K H (.ref a) (.list ds)
  | emp {a : Addr} : Rd H a (.dK []) → DpX K H (.ref a) (.dict [])
  | one {a : Addr} {k : Key} {v : V} {d : PyData} : Rd H a (.dK [(k, v)]) → DpX K H v d → DpX K H (.ref a) (.dict [(keyP k, d)])
inductive DpXs (K : PySem.W.Frag) (H : Hp) : List V → List PyData → Prop
  | nil : DpXs K H [] []
  | cons {v : V} {vs : List V} {d : PyData} {ds : List PyData} : DpX K H v d → DpXs K H vs ds → DpXs K H (v :: vs) (d :: ds)
end
section
variable {X : Cx} {pins : List (Addr × Obj)} {σ : L2.St} {H : Hp} {s : Shared}
theorem not_sys (I : Inv X pins σ H s) (SM : SysM X.base) {a : Addr} {o : Obj} {vs : Array Value} {n : Nat} (h : s.heap.get? a = some o) (d : o.data = .seq vs n) : sysModules ≠ a := fun e => by
  obtain ⟨o2, es, ep, h2, d2⟩ := SM
  have h3 := I.bk _ _ h2
  rw [e, h] at h3
  cases h3
  rw [d] at d2
  cases d2
mutual
theorem DpX.reads (I : Inv X pins σ H s) (SM : SysM X.base) : ∀ {v : V} {p : PyData} {u : Value}, DpX X.K H v p → RelV v u → ∃ as, Reads s.heap u p as ∧ sysModules ∉ as
  | _, _, u, .non, r => by
    obtain rfl : u = Value.none := r
    exact ⟨_, .none, nofun⟩
  | _, _, u, .bl b, r => by
    obtain rfl : u = Value.bool b := r
    exact ⟨_, .bool b, nofun⟩
  | _, _, u, .int i, r => by
    obtain ⟨t, rfl⟩ := r
    exact ⟨_, .int i t, nofun⟩
  | _, _, u, .str x, r => by
    obtain ⟨t, rfl⟩ := r
    exact ⟨_, .str x t, nofun⟩
  | _, _, u, .tup hs ha, r => by
    obtain rfl : u = Value.ref _ := r
    obtain ⟨its, rv, ⟨o, h1, h2, n, h3⟩, _⟩ := I.tuple hs
    obtain ⟨as, hr, hm⟩ := DpXs.reads I SM ha rv
    exact ⟨as, .tuple h1 h2 h3 hr, hm⟩
  | _, _, u, .lst hs ha, r => by
    obtain rfl : u = Value.ref _ := r
    obtain ⟨its, rv, ⟨o, n, h1, h2, _, h3⟩, _⟩ := I.list hs
    obtain ⟨as, hr, hm⟩ := DpXs.reads I SM ha rv
    refine ⟨_, .list h1 h2 h3 hr, fun q => ?_⟩
    rcases List.mem_cons.mp q with q | q
    · exact not_sys I SM h1 h3 q
    · exact hm q
  | _, _, u, .emp (a := a) h, r => by
    obtain rfl : u = Value.ref _ := r
    obtain ⟨_, ne, vs, kv, o, es, ep, h1, hx, h2, _, pr, _⟩ := dk_rd I.hok h
    cases kv
    have e0 : es.toList = [] := by cases hl : es.toList with
      | nil => rfl
      | cons e r => rw [hl] at pr; cases pr
    refine ⟨a :: [] ++ [], .dict (kvs := []) h1 hx.1 h2 (by rw [e0]; exact .nil) (by rw [e0]; exact .nil), fun hm => ?_⟩
    have := List.mem_singleton.mp (show sysModules ∈ [a] from hm)
    subst this
    simp at ne
  | _, _, u, .one (a := a) (k := k) h hv, r => by
    obtain rfl : u = Value.ref _ := r
    obtain ⟨_, ne, vs, kv, o, es, ep, h1, hx, h2, _, pr, _⟩ := dk_rd I.hok h
    cases kv with
    | @cons _ q _ qs hq kv =>
      cases kv
      obtain ⟨kq, vq⟩ := q
      obtain ⟨e1, f1⟩ := hq
      have e1 : k = kq := e1
      subst e1
      cases hl : es.toList with
      | nil => rw [hl] at pr; cases pr
      | cons e r =>
        rw [hl] at pr
        cases pr with
        | cons k1 v1 pr =>
          cases pr
          obtain ⟨as, hr, hm⟩ := DpX.reads I SM hv f1
          have kr : ∃ u, e.key = u ∧ Reads s.heap u (keyP k) [] := by
            rcases keyIs_shape (k := k) (v := e.key) k1 with ⟨i, t, rfl, e3⟩ | ⟨x, t, rfl, e3⟩
            · exact ⟨_, e3, .int i t⟩
            · exact ⟨_, e3, .str x t⟩
          obtain ⟨uk, ek, rk⟩ := kr
          have v1 : e.val = vq := v1
          refine ⟨a :: ([] ++ []) ++ (as ++ []), .dict (kvs := [(keyP k, _)]) h1 hx.1 h2 ?_ ?_, fun q => ?_⟩
          · rw [hl]
            show ReadsAll s.heap [e.key] [keyP k] _
            rw [ek]
            exact .cons rk .nil
          · rw [hl]
            show ReadsAll s.heap [e.val] _ _
            rw [v1]
            exact .cons hr .nil
          · simp only [List.append_nil, List.cons_append, List.nil_append, List.mem_cons] at q
            rcases q with q | q
            · subst q
              simp at ne
            · exact hm q
theorem DpXs.reads (I : Inv X pins σ H s) (SM : SysM X.base) : ∀ {vs : List V} {ps : List PyData} {us : List Value}, DpXs X.K H vs ps → Vals vs us → ∃ as, ReadsAll s.heap us ps as ∧ sysModules ∉ as
  | _, _, _, .nil, r => by cases r; exact ⟨_, .nil, nofun⟩
  | _, _, _, .cons h1 h2, r => by
    cases r with
    | cons r1 r2 =>
      obtain ⟨as, q1, m1⟩ := DpX.reads I SM h1 r1
      obtain ⟨bs, q2, m2⟩ := DpXs.reads I SM h2 r2
      exact ⟨_, .cons q1 q2, fun hm => (List.mem_append.mp hm).elim m1 m2⟩
end
def rReprX (K : PySem.W.Frag) : List V → Hp → VK → Prop := fun xs H Q => rRepr K xs H Q ∨ ∃ a p, xs = [.ref a] ∧ DpX K H (.ref a) p ∧ p.showable = true ∧ p.depth ≤ 64 ∧ p.shown.length ≤ sizeLine ∧ Q (.str p.shown) H
theorem cr_reprX (SM : SysM X.base) (gd : X.A.guards = some []) (hu : X.A.units + 65 < cLine) : CallR X (.builtin "repr") (rReprX X.K) := by
  intro pins s σ H xs us Q I r h
  rcases h with h | ⟨a, p, rfl, hd, sh, dep, sz, q⟩
  · exact cr_repr gd hu pins s σ H xs us Q I r h
  · cases r with
    | cons rx rr =>
      cases rr
      obtain ⟨as, rd, hm⟩ := hd.reads I SM rx
      rename_i u
      obtain rfl : u = Value.ref a := rx
      exact PySem.repr_of_reads' rd sh (fun _ => hm) gd (by omega) (fun _ _ e => e) (fun h' u tk kp => ⟨.str _, H, I.kept (t' := tk) kp, ⟨_, rfl⟩, q⟩) sz
end
mutual
def D.pyX : D → Option PyData
  | .non => some .none
  | .bl b => some (.bool b)
  | .int i => some (.int i)
  | .str x => some (.str x)
  | .tup ds => (D.pysX ds).map .tuple
  | .lst ds => (D.pysX ds).map .list
  | .rol ds => (D.pysX ds).map .list
  | .rdc false [] [] => some (.dict [])
  | .rdc false [.int i] [v] => (D.pyX v).map fun p => .dict [(.int i, p)]
  | .rdc false [.str x] [v] => (D.pyX v).map fun p => .dict [(.str x, p)]
  | _ => none
def D.pysX : List D → Option (List PyData)
  | [] => some []
  | d :: r => (D.pyX d).bind fun p => (D.pysX r).map fun q => p :: q
end
section
variable {X : Cx} {z : Zx} {S S' : Sx} {σ : L2.St} {H H' H0 : Hp} {g g' g2 : Gh} {v : V} {d : D} {r : Res} {mg : Str → Option Value} {pos p pos2 p2 : Pos} {a b c e : Expr} {fa fb fc : M Res}
theorem dc_keys {t : Bool} {ks vs : List D} {p : PyData} (e : (D.rdc t ks vs).pyX = some p) : t = false ∧ ((ks = [] ∧ vs = [] ∧ p = .dict []) ∨ ∃ (k : Key) (v : D) (q : PyData), ks = [kD k] ∧ vs = [v] ∧ v.pyX = some q ∧ p = .dict [(keyP k, q)]) := by
  cases t with
  | true => simp [D.pyX] at e
  | false =>
    refine ⟨rfl, ?_⟩
    match ks, vs, e with
    | [], [], e => simp [D.pyX] at e; exact .inl ⟨rfl, rfl, e.symm⟩
    | [.int i], [v], e =>
      simp only [D.pyX, Option.map_eq_some_iff] at e
      obtain ⟨q, e1, rfl⟩ := e
      exact .inr ⟨.inl i, v, q, rfl, rfl, e1, rfl⟩
    | [.str x], [v], e =>
      simp only [D.pyX, Option.map_eq_some_iff] at e
      obtain ⟨q, e1, rfl⟩ := e
      exact .inr ⟨.inr x, v, q, rfl, rfl, e1, rfl⟩
mutual
theorem Rp.dpX {K : PySem.W.Frag} {v : V} : ∀ {d : D} {p : PyData}, Rp K H g v d → d.pyX = some p → DpX K H v p
  | _, p, .non, e => by simp [D.pyX] at e; subst e; exact .non
  | _, p, .bl b, e => by simp [D.pyX] at e; subst e; exact .bl b
  | _, p, .int b, e => by simp [D.pyX] at e; subst e; exact .int b
  | _, p, .str b, e => by simp [D.pyX] at e; subst e; exact .str b
  | _, p, .tup h r, e => by
    simp only [D.pyX, Option.map_eq_some_iff] at e
    obtain ⟨q, e, rfl⟩ := e
    exact .tup (SqT.of h) (RpA.dpX r e)
  | _, p, .lst h n r, e => by
    simp only [D.pyX, Option.map_eq_some_iff] at e
    obtain ⟨q, e, rfl⟩ := e
    exact .lst (.inl (.inl h)) (RpA.dpX r e)
  | _, p, .rol h r, e => by
    simp only [D.pyX, Option.map_eq_some_iff] at e
    obtain ⟨q, e, rfl⟩ := e
    exact .lst h.sq (RpA.dpX r e)
  | _, p, .dct h c n r, e => by simp [D.pyX] at e
  | _, p, .obj h, e => by simp [D.pyX] at e
  | _, p, .opq v, e => by simp [D.pyX] at e
  | _, p, .cod a q, e => by simp [D.pyX] at e
  | _, p, .rdc (t := t) (ks := ks) (vs := vs) (ws := ws) h c r, e => by
    obtain ⟨t0, e2⟩ := dc_keys e
    have all : ∀ {ps : List PyData}, D.pysX vs = some ps → DpXs K H ws ps := fun e => RpA.dpX r e
    clear r
    subst t0
    obtain ⟨kvs, rfl, ek, ew⟩ := dc_small c
    rcases e2 with ⟨e3, e4, rfl⟩ | ⟨k, v', q, e3, e4, e5, rfl⟩
    · have : kvs = [] := by cases kvs with
        | nil => rfl
        | cons p r => rw [e3] at ek; simp at ek
      subst this
      exact .emp (.inr ⟨_, h⟩)
    · have l1 : kvs.length = 1 := by have := congrArg List.length ek; rw [e3] at this; simp at this; omega
      match kvs, l1 with
      | [(k', w)], _ =>
        rw [e3] at ek
        simp only [List.map_cons, List.map_nil] at ek ew
        have kk : k = k' := kD_inj (List.head_eq_of_cons_eq ek)
        subst kk
        have a := all (ps := [q]) (by rw [e4]; simp [D.pysX, e5])
        rw [ew] at a
        cases a with
        | cons a1 _ => exact .one (.inr ⟨_, h⟩) a1
theorem RpA.dpX {K : PySem.W.Frag} {vs : List V} : ∀ {ds : List D} {ps : List PyData}, RpA K H g vs ds → D.pysX ds = some ps → DpXs K H vs ps
  | _, ps, .nil, e => by simp [D.pysX] at e; subst e; exact .nil
  | _, ps, .cons h r, e => by
    simp only [D.pysX, Option.bind_eq_some_iff, Option.map_eq_some_iff] at e
    obtain ⟨p, e1, q, e2, rfl⟩ := e
    exact .cons (Rp.dpX h e1) (RpA.dpX r e2)
end
theorem Pk.dpX {K : PySem.W.Frag} {p : PyData} (h : Pk K H g v d) (e : d.pyX = some p) : DpX K H v p := by
  rcases h with h | ⟨a, rfl, h⟩
  · exact h.dpX e
  · cases h with
    | lst h r =>
      simp only [D.pyX, Option.map_eq_some_iff] at e
      obtain ⟨q, e, rfl⟩ := e
      exact .lst (.inl (.inl h)) (RpA.dpX r e)
    | dct h c r => simp [D.pyX] at e
    | tab h => simp [D.pyX] at e
def D.shownX (d : D) : Option Str := d.pyX.bind fun p => if (p.showable && decide (p.depth ≤ 64) && decide (p.shown.length ≤ sizeLine)) && d.rowOf.isSome then some p.shown else none
def opReprX (d : D) : M Res := match d.shown with
  | some x => pure (.dat (.str x))
  | none => M.opt d.shownX fun x => pure (.dat (.str x))
theorem ud_reprX : UnD X z (rReprX X.K) opReprX := by
  intro S σ H g x dx Q s px h
  unfold opReprX at h
  cases hs : dx.shown with
  | some t =>
    rw [hs] at h
    refine .inl (ud_repr S σ H g x dx Q s px ?_)
    unfold opRepr
    rw [hs]
    exact h
  | none =>
    rw [hs] at h
    obtain ⟨t, e, h2⟩ := h.opt
    obtain ⟨p, e1, e2⟩ := Option.bind_eq_some_iff.mp e
    split at e2
    · rename_i c
      cases e2
      simp only [Bool.and_eq_true, decide_eq_true_eq] at c
      have dt := px.dpX e1
      obtain ⟨ds, ed⟩ := Option.isSome_iff_exists.mp c.2
      obtain ⟨a, xs, rfl, _, _⟩ := px.row ed
      exact .inr ⟨a, p, rfl, dt, c.1.1.1, c.1.1.2, c.1.2, out_dat s (.str _) h2⟩
    · cases e2
theorem de_reprX (SM : SysM X.base) (gd : X.A.guards = some []) (hu : X.A.units + 65 < cLine) (hm : X.mg "repr" = none) (ha : DE X z a fa) (hg : Gl X "repr" := by rfl) (hs : starEach [a] X.env = (false, eval a X.env) :: starEach [] X.env := by rfl) (hpl : (backTo pos (starEach [] X.env)).any (·.1) = false := by rfl) :
    DE X z (.Call (.Name "repr" p) [a] [] pos) (unM opReprX fa) := de_un ud_reprX (pe_callB (cr_reprX SM gd hu) hg hm (by decide +kernel) (pa_cons ha pa_nil hs) (he := hs) (hpl := hpl))
theorem eqX_self {d : D} (h : d.selfy = true) {S : Sx} {Q : Res → Sx → Prop} : Rn (opEqX d d) S Q = Q (.dat (.bl true)) S := by
  unfold opEqX
  rw [if_pos ⟨rfl, h⟩]
  rfl
end
end DL
end
section
set_option maxRecDepth 100000
namespace DL
open PySem PySem.Spec L2
theorem law_runTs {Ts : List (Addr × Str × Addr)} {P : Program} {w : World} {K : PySem.W.Frag} {mg mb : Str → Option Value} {k : Nat} {fa a : Addr} {fd : FuncData} {x : Str} {den : Den} {s1 : Shared} {us : List Value} {ns : List Int}
    (inK : K.In s1.heap) (nsG : s1.heap.Ns mainGlobals mg) (nsB : s1.heap.Ns builtinsNs mb) (blt : ∀ y : Str, y ≠ "__name__" → mb y = bootBuiltins y) (nol : s1.heap.NoLimit) (nog : s1.gens = #[])
    (sys : SysM s1.heap) (nodup : (Ts.map (·.1)).Nodup) (tabs : ∀ t ∈ Ts, s1.heap.get? t.1 = some { cls := .none, data := .fields #[] }) (noTs : ∀ t ∈ Ts, K.lookup t.1 = none) (cods : ∀ t ∈ Ts, PySem.W.codeHdIn K t.2.2 t.1 = true)
    (bmod : ∃ (bm : Addr) (ob : Obj), mg "__builtins__" = some (.ref bm) ∧ bm ≠ builtinsNs ∧ s1.heap.get? bm = some ob ∧ ob.cls = .type "module" ∧ ob.dict = some builtinsNs ∧ ob.data = .plain)
    (at_ : s1.heap.get? a = some { cls := .type "list", data := .seq us.toArray }) (inp : PyProof.Rows.IntsAre us ns) (few : ns.length ≤ sizeLine) (room : Room k callerA)
    (F : ∀ base : Heap, K.In base → base.Ns mainGlobals mg → SysM base → (∀ t ∈ Ts, LamX.TabB base mg t.2.2 t.1) → FnG P w K mg base k fa fd [x] (spDen K mg 1 den)) (bnd : Binds K fd [x] [])
    (hden : ∃ objs', den [.rol (ns.map .int)] (Ts.map fun t => D.cod t.1 t.2.1) = some (.ok (.dat (.bl true)), objs')) :
    codeAny (model P w) callerA (.call (.ref fa) ⟨[.ref a], []⟩) (fun r s' => r = .ok (.ret (.bool true)) ∧ OldK s1.heap s'.heap ∧ s'.os = s1.os ∧ PyProof.Rows.AllBare s'.gens) s1 := by
  have rv := vals_ints inp
  have len := inp.length
  have tab : ∀ T ∈ Ts.map (·.1), s1.heap.get? T = some { cls := .none, data := .fields #[] } := fun T h => by
    obtain ⟨t, ht, rfl⟩ := List.mem_map.mp h
    exact tabs t ht
  have noT : ∀ T ∈ Ts.map (·.1), K.lookup T = none := fun T h => by
    obtain ⟨t, ht, rfl⟩ := List.mem_map.mp h
    exact noTs t ht
  have cod : ∀ T ∈ Ts.map (·.1), ∃ c, PySem.W.codeHdIn K c T = true := fun T h => by
    obtain ⟨t, ht, rfl⟩ := List.mem_map.mp h
    exact ⟨_, cods t ht⟩
  have aT : a ∉ Ts.map (·.1) := fun e => by
    rw [tab a e] at at_
    have := congrArg Obj.data (Option.some.inj at_)
    cases this
  -- whichever heap is tracked
  have main : ∀ H : Hp, (∀ T ∈ Ts.map (·.1), H T = some (.tbl #[])) → (∀ b, b ∉ Ts.map (·.1) → H b = none ∨ ∃ o ys, H b = some (.frz o (.lst ys))) → SqL K H a (ns.map V.int) → HOk P w H s1.heap → (∀ b, H b ≠ none → b = a ∨ b ∈ Ts.map (·.1)) → (H a ≠ none → K.lookup a = none) →
      codeAny (model P w) callerA (.call (.ref fa) ⟨[.ref a], []⟩) (fun r s' => r = .ok (.ret (.bool true)) ∧ OldK s1.heap s'.heap ∧ s'.os = s1.os ∧ PyProof.Rows.AllBare s'.gens) s1 := by
    intro H atT only sq hok just notK
    have below : ∀ {b : Addr} {o : Obj}, s1.heap.get? b = some o → H b = none → (hidT s1.heap H).get? b = some o := fun e n => hidT_get e n
    -- what is neither the script nor the table lies below
    have free : ∀ {b : Addr} {o : Obj}, s1.heap.get? b = some o → (∀ vs n, o.data ≠ .seq vs n) → o.data ≠ .fields #[] → H b = none := fun {b o} e n1 n2 => by
      cases hb : H b with
      | none => rfl
      | some u =>
        rcases just b (by rw [hb]; simp) with eb | eb
        · subst eb
          rw [at_] at e; cases e
          exact absurd rfl (n1 _ _)
        · rw [tab b eb] at e; cases e
          exact absurd rfl n2
    have freeD : ∀ {b : Addr} {o : Obj} {es : Array DictEntry} {ep : Nat}, s1.heap.get? b = some o → o.data = .dict es ep → H b = none := fun e dd => free e (fun vs n h => by rw [dd] at h; cases h) fun h => by rw [dd] at h; cases h
    have nsT : ∀ {b : Addr} {m : Str → Option Value}, s1.heap.Ns b m → (hidT s1.heap H).Ns b m := fun {b m} ⟨o, es, ep, e, dd, rest⟩ => ⟨o, es, ep, below e (freeD e dd), dd, rest⟩
    have inT : K.In (hidT s1.heap H) := fun b o e => below (inK b o e) (by
      cases hb : H b with
      | none => rfl
      | some u =>
        rcases just b (by rw [hb]; simp) with eb | eb
        · subst eb
          rw [notK (by rw [hb]; simp)] at e; cases e
        · rw [noT b eb] at e; cases e)
    have sysT : SysM (hidT s1.heap H) := let ⟨o, es, ep, e, dd⟩ := sys; ⟨o, es, ep, below e (freeD e dd), dd⟩
    have modT : Mod K mg (hidT s1.heap H) := ⟨inT, nsT nsG, ⟨mb, nsT nsB, blt⟩, let ⟨mc, h1, h2⟩ := nol; ⟨mc, nsT h1, h2⟩⟩
    have tb : ∀ t ∈ Ts, LamX.TabB (hidT s1.heap H) mg t.2.2 t.1 := fun t ht => by
      have tm : t.1 ∈ Ts.map (·.1) := List.mem_map.mpr ⟨t, ht, rfl⟩
      obtain ⟨bm, ob, b1, b2, b3, b4, b5, b6⟩ := bmod
      obtain ⟨og, es, ep, eg, dg, _⟩ := nsG
      have n1 : bm ≠ mainGlobals := fun e => by
        rw [e, eg] at b3; cases b3
        rw [dg] at b6; cases b6
      have n2 : bm ≠ t.1 := fun e => by
        rw [e, tab _ tm] at b3; cases b3
        cases b6
      refine NdefX.tabB_of_K inT (cods t ht) ⟨bm, ob, b1, b2, n1, n2, below b3 (free b3 (fun vs n h => by rw [b6] at h; cases h) fun h => by rw [b6] at h; cases h), b4, b5, b6⟩ fun e => ?_
      rw [e, tab _ tm] at eg; cases eg
      cases dg
    have env0 : Env0 P w K mg (hidT s1.heap H) callerA [] s1 H := ⟨rfl, modT, fun b o e => of_hidT e, Nat.le_of_eq (hidT_size _ _), trivial, fun b hb => absurd (show b ∈ ([] : List Addr) from hb) (by simp), hok, PyProof.Rows.AllBare.of_eq nog⟩
    obtain ⟨objs', hd⟩ := hden
    have prom : spDen K mg 1 den [.ref a] H (fun v _ => v = .bl true) fun _ _ _ => False := by
      refine ⟨⟨fun b => b ∈ Ts.map (·.1), Ts.map (·.1)⟩, [.rol (ns.map .int)], Ts.map (fun t => D.cod t.1 t.2.1), rfl, fun b e => by rw [atT b e]; trivial, nodup, .cons (.rol (a := a) ?_ (RpA.of_ints ns)) .nil, ⟨by simp, fun n b d e1 e2 => ?_⟩, ?_⟩
      · rcases sq with (h | h) | h
        · rcases only a aT with n | ⟨o, ys, e⟩
          · rw [h] at n; cases n
          · rw [h] at e; cases e
        · exact .inl h
        · exact .inr h
      · obtain ⟨t, e3, rfl⟩ := Option.map_eq_some_iff.mp ((List.getElem?_map ..).symm.trans e1)
        have e2 := (List.getElem?_map ..).symm.trans e2
        rw [e3] at e2
        cases e2
        have tm : t.1 ∈ Ts.map (·.1) := List.mem_map.mpr ⟨t, List.mem_of_getElem? e3, rfl⟩
        exact ⟨.tab (LamX.TabS.nil (atT _ tm)), tm⟩
      · rw [hd]
        exact fun H' g' v _ rok => by cases rok; rfl
    refine codeAny_mono ((F _ inT (nsT nsG) sysT tb).run callerA [] s1 H ⟨[.ref a], []⟩ [.ref a] [.ref a] _ _ rfl room env0 (bnd s1 [.ref a] inK rfl) (.cons rfl .nil) prom) fun r s' h => ?_
    cases r with
    | error e => obtain ⟨_, _, _, _, _, _, _, _, _, _, _, _, no⟩ := h; exact no.elim
    | ok fl =>
      cases fl with
      | next => exact h.elim
      | brk => exact h.elim
      | cont => exact h.elim
      | ret u =>
        obtain ⟨v, H', os, bare, un, hok', rel, rfl⟩ := h
        obtain rfl : u = Value.bool true := rel
        have keep : ∀ b o, b ∉ Ts.map (·.1) → s1.heap.get? b = some o → s'.heap.get? b = some o := fun b o nb e => by
          cases hb : H b with
          | none => exact un.keep b o e hb (fun hb => absurd (show b ∈ ([] : List Addr) from hb) (by simp)) (by simp)
          | some u =>
            rcases only b nb with n | ⟨ob, ys, fz⟩
            · rw [hb] at n; cases n
            · obtain ⟨e1, _⟩ := hok b _ fz
              obtain ⟨e2, _⟩ := hok' b _ (un.frzs b ob _ fz)
              rw [e] at e1; cases e1
              exact e2
        refine ⟨rfl, ⟨fun b o e => ?_, fun b o e => ?_⟩, os, bare⟩
        · by_cases hb : b ∈ Ts.map (·.1)
          · obtain ⟨more, atT2⟩ := un.tbls b #[] (atT b hb)
            have tab2 := hok' b _ atT2
            obtain ⟨c, hc⟩ := cod b hb
            rw [tab b hb] at e; cases e
            exact .inr (.inl ⟨((PySem.W.codeHd_of_K inK hc).tab (tab b hb)).isCodeTable, rfl, #[], more, rfl, by rw [Array.empty_append] at tab2 ⊢; exact tab2⟩)
          · exact .inl (keep b o hb e)
        · by_cases hb : b ∈ Ts.map (·.1)
          · obtain ⟨more, atT2⟩ := un.tbls b #[] (atT b hb)
            exact ⟨_, hok' b _ atT2⟩
          · exact ⟨o, keep b o hb e⟩
  cases hk : K.lookup a with
  | some o =>
    have e := inK a o hk
    rw [at_] at e
    cases e
    refine main (fun b => if b ∈ Ts.map (·.1) then some (.tbl #[]) else none) (fun T h => if_pos h) (fun b nb => .inl (if_neg nb)) (.inr ⟨_, us.toArray, _, hk, rfl, rfl, rfl, by rw [List.size_toArray, len]; exact few, by simpa using rv⟩) (fun b u h => ?_) (fun b h => ?_) fun h => absurd (if_neg aT) h
    · by_cases hb : b ∈ Ts.map (·.1)
      · cases (if_pos hb).symm.trans h
        exact tab b hb
      · cases (if_neg hb).symm.trans h
    · by_cases hb : b ∈ Ts.map (·.1)
      · exact .inr hb
      · exact absurd (if_neg hb) h
  | none =>
    let F0 : HO := .frz { cls := .type "list", data := .seq us.toArray } (.lst (ns.map V.int))
    let H0 : Hp := fun b => if b ∈ Ts.map (·.1) then some (.tbl #[]) else if b = a then some F0 else none
    have is : H0 a = some F0 := (if_neg aT).trans (if_pos rfl)
    refine main H0 (fun T h => if_pos h) (fun b nb => ?_) (.inl (.inr ⟨_, is⟩)) (fun b u h => ?_) (fun b h => ?_) fun _ => hk
    · by_cases hb : b = a
      · exact .inr ⟨_, _, (if_neg nb).trans (if_pos hb)⟩
      · exact .inl ((if_neg nb).trans (if_neg hb))
    · by_cases hb : b ∈ Ts.map (·.1)
      · cases (if_pos hb).symm.trans h
        exact tab b hb
      · have h := (if_neg hb).symm.trans h
        by_cases hb2 : b = a
        · cases (if_pos hb2).symm.trans h
          subst hb2
          exact ⟨at_, by rw [List.length_map]; exact few, us, _, rv, at_⟩
        · cases (if_neg hb2).symm.trans h
    · by_cases hb : b ∈ Ts.map (·.1)
      · exact .inr hb
      · by_cases hb2 : b = a
        · exact .inl hb2
        · exact absurd ((if_neg hb).trans (if_neg hb2)) h
theorem walkTs {l : PySem.W.OpenLaw} {n k : Nat} {p : Program} {loose : List Str} {XP : (Str → Option Value) → Heap → Prop} {YP : World → Heap → Prop} {d : DefRec} {K : Params → PySem.W.Frag} {x : Str} {den : Den} {os : List D} {TL : List Addr}
    (imp : PyProof.Rows.importsNone p = true) (most : l.most = some n) (few : n ≤ sizeLine) (nod : d.params.defaults = []) (room : Room k callerA) (hY : ∀ (w : World) (h : Heap), YP w h → (K w.params).In h) (nodup : TL.Nodup)
    (tab : ∀ (w : World) (h : Heap), YP w h → ∀ T ∈ TL, h.get? T = some { cls := .none, data := .fields #[] })
    (F : ∀ (w : World) (mg : Str → Option Value) (fa : Addr) (h : Heap), (K w.params).In h → h.Ns mainGlobals mg → mg d.name = some (.ref fa) →
      ∃ (Ts : List (Addr × Str × Addr)) (fd : FuncData), Ts.map (·.1) = TL ∧ (Ts.map fun t => D.cod t.1 t.2.1) = os ∧ (∀ t ∈ Ts, (K w.params).lookup t.1 = none ∧ PySem.W.codeHdIn (K w.params) t.2.2 t.1 = true) ∧ Binds (K w.params) fd [x] [] ∧ ∀ base : Heap, (K w.params).In base → base.Ns mainGlobals mg → SysM base → (∀ t ∈ Ts, LamX.TabB base mg t.2.2 t.1) → FnG l.prog w (K w.params) mg base k fa fd [x] (spDen (K w.params) mg 1 den))
    (hden : ∀ ns : List Int, ns.length ≤ n → ∃ objs', den [.rol (ns.map .int)] os = some (.ok (.dat (.bl true)), objs')) : PySem.W.WalkO p loose XP YP l.row.toRowW d [] (fun f vs => PySem.call f vs) := by
  refine Att.attach_call most nod fun w s0 s1 mg mb fa o pm cd doc a us ns G Y ho hd hcd hmg at_ inp len nog => ?_
  have inK := hY w _ Y
  obtain ⟨Ts, fd, e1, e2, noT, bnd, hF⟩ := F w mg fa _ inK G.T.g hmg
  refine law_runTs (Ts := Ts) inK G.T.g G.T.b G.T.builtins G.T.nolimit nog ?S (by rw [e1]; exact nodup) (fun t ht => tab w _ Y _ (by rw [← e1]; exact List.mem_map.mpr ⟨t, ht, rfl⟩)) (fun t ht => (noT t ht).1) (fun t ht => (noT t ht).2) G.T.bmain at_ inp (Nat.le_trans len few) room hF bnd (by rw [e2]; exact hden ns len)
  case S =>
    obtain ⟨_, ⟨mm, ⟨o, es, ep, e, dd, _⟩, _⟩, _⟩ := G.T.seer imp
    exact ⟨o, es, ep, e, dd⟩
end DL
end
section
set_option maxRecDepth 100000
namespace LC
open PySem L2 DL
inductive Cd where
  | go (s : Int) | get (w : Int) (ds : List Cd)
mutual
def Cd.toD : Cd → D
  | .go s => .tup [.str "go", .int s]
  | .get w ds => .tup [.str "get", .int w, .tup (Cd.toDs ds)]
def Cd.toDs : List Cd → List D
  | [] => []
  | c :: r => c.toD :: Cd.toDs r
end
mutual
/-- its depth is at most n, its workers are below m, its states below g -/
def Cd.Ok (many : List Int) : Nat → Cd → Prop
  | _, .go s => 0 ≤ s ∧ s < 8
  | 0, .get _ _ => False
  | n + 1, .get w ds => 0 ≤ w ∧ many[w.toNat]? = some (ds.length : Int) ∧ Cd.Oks many n ds
def Cd.Oks (many : List Int) : Nat → List Cd → Prop
  | _, [] => True
  | n, c :: r => c.Ok many n ∧ Cd.Oks many n r
end
def tI (ns : List Int) : D := .tup (ns.map .int)
def lI (ns : List Int) : D := .lst (ns.map .int)
def lotsD (lots : List (List Int)) : D := .tup (lots.map tI)
theorem toDs_len : ∀ ds : List Cd, (Cd.toDs ds).length = ds.length
  | [] => rfl
  | c :: r => by show (Cd.toDs r).length + 1 = r.length + 1; rw [toDs_len r]
theorem toDs_get : ∀ (ds : List Cd) (i : Nat), (Cd.toDs ds)[i]? = ds[i]?.map Cd.toD
  | [], i => by simp [Cd.toDs]
  | c :: r, 0 => by simp [Cd.toDs]
  | c :: r, i + 1 => by simp [Cd.toDs, toDs_get r i]
theorem toDs_map : ∀ ds : List Cd, Cd.toDs ds = ds.map Cd.toD
  | [] => rfl
  | c :: r => by show c.toD :: Cd.toDs r = _; rw [toDs_map r]; rfl
mutual
theorem Cd.imm : ∀ c : Cd, c.toD.imm = true
  | .go s => by simp [Cd.toD, D.imm, D.imms]
  | .get w ds => by simp [Cd.toD, D.imm, D.imms, Cd.imms ds]
theorem Cd.imms : ∀ ds : List Cd, D.imms (Cd.toDs ds) = true
  | [] => rfl
  | c :: r => by simp [Cd.toDs, D.imms, Cd.imm c, Cd.imms r]
end
def Fits (many xs : List Int) : Prop := xs.length = many.length ∧ ∀ (i : Nat) (k m : Int), xs[i]? = some k → many[i]? = some m → 0 ≤ k ∧ k < m
theorem toNat_int {w : Int} (h : 0 ≤ w) : ∃ k : Nat, w = (k : Int) := ⟨w.toNat, by omega⟩
theorem ix_tI {Q : Res → Sx → Prop} {S : Sx} {xs : List Int} {w k : Int} (h0 : 0 ≤ w) (h : xs[w.toNat]? = some k) : Rn (opIx (tI xs) (.int w)) S Q = Q (.dat (.int k)) S := by
  obtain ⟨m, rfl⟩ := toNat_int h0
  exact op_ix_tn (by simp at h; simp [h])
theorem ix_ds {Q : Res → Sx → Prop} {S : Sx} {ds : List Cd} {k : Nat} {c : Cd} (h : ds[k]? = some c) : Rn (opIx (.tup (Cd.toDs ds)) (.int (k : Nat))) S Q = Q (.dat c.toD) S :=
  op_ix_tn (by rw [toDs_get, h]; rfl)
def cntN (lots : List (List Int)) : Nat → Cd → Nat
  | _, .go _ => 1
  | 0, .get _ _ => 1
  | n + 1, .get w ds => 1 + (((lots[w.toNat]?).getD []).map fun k => ((ds[k.toNat]?).map (cntN lots n)).getD 0).sum
structure LotsOk (many : List Int) (lots : List (List Int)) : Prop where
  len : lots.length = many.length
  few : ∀ l ∈ lots, l.length ≤ 5
  one : ∀ l ∈ lots, l ≠ []
  fit : ∀ (i : Nat) (l : List Int) (m : Int), lots[i]? = some l → many[i]? = some m → ∀ k ∈ l, 0 ≤ k ∧ k < m
  up : ∀ l ∈ lots, l.Pairwise (· < ·)
theorem pys_ints : ∀ ns : List Int, D.pys (ns.map .int) = some (ns.map .int)
  | [] => by simp [D.pys]
  | n :: r => by simp [D.pys, D.py, pys_ints r]
theorem lay_ints : ∀ ns : List Int, PyData.canLayAll0 (ns.map .int) = true
  | [] => by simp [PyData.canLayAll0]
  | n :: r => by simp [PyData.canLayAll0, PyData.canLay0, lay_ints r]
def Shp (d : D) (b : Nat) : Prop := ∃ p, d.py = some p ∧ p.canLay0 = true ∧ p.depth ≤ b
theorem Shp.mono {d : D} {a b : Nat} (h : Shp d a) (l : a ≤ b) : Shp d b := let ⟨p, h1, h2, h3⟩ := h; ⟨p, h1, h2, by omega⟩
theorem small_lt {n : Nat} (h : n < 100000) : n < sizeLine := Nat.lt_trans h (by decide)
theorem small_le {n : Nat} (h : n ≤ 100000) : n ≤ sizeLine := Nat.le_trans h (by decide)
theorem it_tI {l : List Int} : (tI l).items = some (l.map .int) := rfl
theorem up_len : ∀ (l : List Int) (a : Int) (n : Nat), l.Pairwise (· < ·) → (∀ x ∈ l, a ≤ x ∧ x < a + n) → l.length ≤ n
  | [], _, _, _, _ => Nat.zero_le _
  | x :: r, a, n, h, hb => by
    obtain ⟨h1, h2⟩ := List.pairwise_cons.mp h
    have hx := hb x List.mem_cons_self
    have := up_len r (x + 1) (n - (x + 1 - a).toNat) h2 fun y hy => by
      have := h1 y hy
      have := hb y (List.mem_cons_of_mem _ hy)
      omega
    simp only [List.length_cons]
    omega
theorem up_len0 {l : List Int} {b : Nat} (h : l.Pairwise (· < ·)) (hb : ∀ x ∈ l, 0 ≤ x ∧ x < (b : Int)) : l.length ≤ b := up_len l 0 b h fun x hx => by have := hb x hx; omega
theorem sortS_eq {l m : List Int} (h : ∀ k, k ∈ l ↔ k ∈ m) : sortS l = sortS m := up_unique (sortS_up l) (sortS_up m) fun k => by rw [sortS_mem, sortS_mem, h]
theorem ints_lis (ns : List Int) : (D.lst (ns.map .int)).lis.bind D.ints? = some ns := ints?_map ns
theorem sortset_rn {Q : Res → Sx → Prop} {S : Sx} {ns : List Int} {b : Nat} (hl : ns.length + 1 < 4096) (hb : ∀ x ∈ ns, 0 ≤ x ∧ x < (b : Int)) (hb2 : b < 64) (q : Q (.new (lI (sortS ns))) S) : Rn (opSortSet (.lst (ns.map .int))) S Q := by
  unfold opSortSet
  rw [ints_lis, rn_opt1, rn_need]
  refine ⟨?_, q⟩
  rw [Bool.and_eq_true]
  refine ⟨decide_eq_true hl, decide_eq_true ?_⟩
  have := up_len0 (sortS_up ns) (b := b) fun x hx => hb x ((sortS_mem x ns).mp hx)
  omega
theorem sortsetE_rn {Q : Res → Sx → Prop} {S : Sx} {ns : List Int} {b : Nat} (hl : ns.length + 1 < 4096) (hb : ∀ x ∈ ns, 0 ≤ x ∧ x < (b : Int)) (hb2 : b < 64) (q : Q (.new (lI (sortS ns))) S) : Rn (opSortSetE (.lst (ns.map .int))) S Q := by
  unfold opSortSetE
  rw [ints_lis]
  exact sortset_rn hl hb hb2 q
theorem if_safe {α β : Prop} {r : Res} {o : List D} (h1 : r.safe = true) (h2 : (o.all fun o => D.imms o.parts) = true) : (if (r.safe && o.all fun o => D.imms o.parts) = true then α else β) = α := by rw [h1, h2]; rfl
theorem if_imms {α β : Prop} {l : List D} {o : List D} (h1 : D.imms l = true) (h2 : (o.all fun o => D.imms o.parts) = true) : (if (D.imms l && o.all fun o => D.imms o.parts) = true then α else β) = α := by rw [h1, h2]; rfl
mutual
def Cd.wk : Cd → List Int
  | .go _ => []
  | .get w ds => w :: Cd.wks ds
def Cd.wks : List Cd → List Int
  | [] => []
  | c :: r => c.wk ++ Cd.wks r
end
mutual
def Cd.sz : Cd → Nat
  | .go _ => 1
  | .get _ ds => 1 + Cd.szs ds
def Cd.szs : List Cd → Nat
  | [] => 0
  | c :: r => c.sz + Cd.szs r
end
def Cd.top : Cd → Option Int
  | .go _ => none
  | .get w _ => some w
structure ManyOk (many : List Int) : Prop where
  len : many.length ≤ 8
  fit : ∀ m ∈ many, 1 ≤ m ∧ m ≤ 4
theorem cds_imm (ds : List Cd) : D.imms (ds.map Cd.toD) = true := by rw [← toDs_map]; exact Cd.imms ds
theorem in_lI {neg : Bool} {i : Int} {ns : List Int} {Q : Res → Sx → Prop} {S : Sx} : Rn (opIn neg (.int i) (lI ns)) S Q = Q (.dat (.bl (decide (i ∈ ns) != neg))) S := by
  have e : D.inn (.int i) (lI ns) = some (decide (i ∈ ns)) := by
    show D.among (.int i) (ns.map .int) = _
    unfold D.among
    have h1 : (D.int i).py = some (.int i) := by simp [D.py]
    rw [h1, pys_ints]
    have h2 : SeqAt.shaped (.int i) = true := by simp [SeqAt.shaped, PyData.canLay0, PyData.depth]
    have h3 : SeqAt.shaped (.list (ns.map .int)) = true := by
      have := dp_depth_ints ns
      simp [SeqAt.shaped, PyData.canLay0, lay_ints, PyData.depth, this]
    simp only [h2, h3, Bool.and_self, if_true]
    congr 1
    rw [List.any_map]
    rw [Bool.eq_iff_iff, List.any_eq_true, decide_eq_true_eq]
    constructor
    · rintro ⟨x, hx, e⟩
      simp [PyData.eqv] at e
      exact e ▸ hx
    · intro h
      exact ⟨i, h, by simp [PyData.eqv]⟩
  unfold opIn
  rw [e]; rfl
theorem in_lst {neg : Bool} {i : Int} {ns : List Int} {Q : Res → Sx → Prop} {S : Sx} : Rn (opIn neg (.int i) (.lst (ns.map .int))) S Q = Q (.dat (.bl (decide (i ∈ ns) != neg))) S := in_lI
theorem imms_tI : ∀ ts : List (List Int), D.imms (ts.map tI) = true
  | [] => rfl
  | t :: r => by simp [D.imms, imms_tI r, tI, D.imm, imms_ints]
mutual
def Cd.pl : Cd → List (List Int)
  | .go _ => [[]]
  | .get _ ds => [] :: Cd.pls 0 ds
def Cd.pls : Nat → List Cd → List (List Int)
  | _, [] => []
  | k, c :: r => (c.pl.map fun p => (k : Int) :: p) ++ Cd.pls (k + 1) r
end
def undC : Cd → List Int → Option Cd
  | c, [] => some c
  | .go _, _ :: _ => none
  | .get _ ds, k :: p => if 0 ≤ k then (ds[k.toNat]?).bind fun d => undC d p else none
theorem pls_mem {q : List Int} : ∀ {ds : List Cd} {k : Nat}, q ∈ Cd.pls k ds ↔ ∃ (i : Nat) (d : Cd) (p : List Int), ds[i]? = some d ∧ p ∈ d.pl ∧ q = ((k + i : Nat) : Int) :: p
  | [], k => by simp [Cd.pls]
  | c :: r, k => by
    simp only [Cd.pls, List.mem_append, List.mem_map, pls_mem (ds := r)]
    constructor
    · rintro (⟨p, hp, rfl⟩ | ⟨i, d, p, h1, h2, rfl⟩)
      · exact ⟨0, c, p, rfl, hp, by simp⟩
      · exact ⟨i + 1, d, p, h1, h2, by rw [show k + 1 + i = k + (i + 1) by omega]⟩
    · rintro ⟨i, d, p, h1, h2, rfl⟩
      cases i with
      | zero => cases h1; exact .inl ⟨p, h2, by simp⟩
      | succ i => exact .inr ⟨i, d, p, h1, h2, by rw [show k + 1 + i = k + (i + 1) by omega]⟩
theorem cut_take {α : Type} (l : List α) (w : Nat) : cutD l none (some (w : Int)) = l.take w := by
  unfold cutD
  rw [HT.sIx_nat, HT.sIx_none, List.drop_zero, Nat.sub_zero]
  by_cases h : w ≤ l.length
  · rw [Nat.min_eq_left h]
  · rw [Nat.min_eq_right (by omega), List.take_of_length_le (Nat.le_refl _), List.take_of_length_le (by omega)]
theorem cut_drop {α : Type} (l : List α) (w : Nat) : cutD l (some (w : Int)) none = l.drop w := by
  unfold cutD
  rw [HT.sIx_nat, HT.sIx_none]
  by_cases h : w ≤ l.length
  · rw [Nat.min_eq_left h, List.take_of_length_le (by rw [List.length_drop]; exact Nat.le_refl _)]
  · rw [Nat.min_eq_right (by omega), List.drop_eq_nil_of_le (Nat.le_refl _), List.drop_eq_nil_of_le (show l.length ≤ w by omega)]
    simp
theorem cw_left {turn : D → M (Option D)} {env : List Slot} {P : List D → List D → Prop} {I : List D → List D → List D → Prop} : ∀ {ds acc o : List D}, acc.length + ds.length ≤ sizeLine → I ds acc o →
    (∀ d ds acc o, I (d :: ds) acc o → Rn (turn d) ⟨env, o⟩ fun x S' => match x with | some v => I ds (acc ++ [v]) S'.objs | none => I ds acc S'.objs) → (∀ acc o, I [] acc o → P acc o) → Cw turn env ds acc o P
  | [], acc, o, _, i, _, q => by rw [cw_nil]; exact q _ _ i
  | d :: ds, acc, o, hl, i, h, q => by
    rw [cw_cons]
    have hl' : acc.length + (ds.length + 1) ≤ sizeLine := by simpa using hl
    refine (h d ds acc o i).mono ?_
    intro x S' r
    cases x with
    | none => exact cw_left (by omega) r h q
    | some v => exact ⟨by omega, cw_left (by simp; omega) r h q⟩
def absF (d : D) : Option D := match d with
  | .int i => some (.int (if i < 0 then -i else i))
  | _ => none
theorem absF_eq : ∀ ns : List Int, (ns.map D.int).filterMap absF = (ns.map fun i => if i < 0 then -i else i).map .int
  | [] => rfl
  | k :: r => by
    rw [List.map_cons, List.filterMap_cons, absF]
    simp only
    rw [absF_eq r]
    rfl
theorem Ok_mono {many : List Int} : ∀ (n m : Nat) (c : Cd), n ≤ m → c.Ok many n → c.Ok many m := by
  intro n
  induction n with
  | zero =>
    intro m c _ h
    cases c with
    | go s => cases m <;> exact h
    | get _ _ => exact h.elim
  | succ n ih =>
    intro m c hl h
    cases c with
    | go s => cases m <;> exact h
    | get w ds =>
      cases m with
      | zero => omega
      | succ m =>
        obtain ⟨h0, h1, h2⟩ := h
        refine ⟨h0, h1, ?_⟩
        have : ∀ ds : List Cd, Cd.Oks many n ds → Cd.Oks many m ds := by
          intro ds
          induction ds with
          | nil => intro _; trivial
          | cons d r ihr => intro h; exact ⟨ih m d (by omega) h.1, ihr h.2⟩
        exact this ds h2
theorem Oks_snoc {many : List Int} {n : Nat} {c : Cd} : ∀ {ds : List Cd}, Cd.Oks many n ds → c.Ok many n → Cd.Oks many n (ds ++ [c])
  | [], _, h => ⟨h, trivial⟩
  | _ :: _, h, hc => ⟨h.1, Oks_snoc h.2 hc⟩
theorem len_tI {ms : List Int} {Q : Res → Sx → Prop} {S : Sx} : Rn (opLen (tI ms)) S Q = Q (.dat (.int ms.length)) S := by
  show Q (.dat (.int ((ms.map D.int).length : Nat))) S = _
  rw [List.length_map]
theorem par_dd {i j : Nat} {d e : D} {env : List Slot} {o : List D} {Q : Fl → Sx → Prop} : Rn (parK i j (.dat d) (.dat e)) ⟨env, o⟩ Q = Q .next ⟨(env.set i (.dat d)).set j (.dat e), o⟩ := rfl
theorem nc_ints {ns : List Int} {b : Nat} (h : ∀ n ∈ ns, 0 ≤ n ∧ n < 1000) : Ncs (ns.map .int) b (ns.length * 21) := by
  have := ncs_all (ds := ns.map D.int) (b := b) (w := 20) fun d hd => by
    obtain ⟨n, hn, rfl⟩ := List.mem_map.mp hd
    have := h n hn
    exact nc_int (by omega)
  simpa using this
end LC
end
section
set_option maxRecDepth 100000
namespace LC
open PySem L2 DL
open DLT (ltL sortT)
def pT (ns : List Int) : PyData := .tuple (ns.map .int)
section
variable {Q : Res → Sx → Prop} {S : Sx} {neg : Bool}
theorem in_iT {ns : List Int} {i : Int} : Rn (opIn neg (.int i) (tI ns)) S Q = Q (.dat (.bl (decide (i ∈ ns) != neg))) S := in_lI
end
theorem range_map (n : Nat) : ∀ k : Nat, rangeD (k : Int) n = ((List.range' k n).map fun i => D.int ((i : Nat) : Int)) := by
  induction n with
  | zero => intro k; rfl
  | succ n ih => intro k; rw [rangeD, List.range'_succ, List.map_cons, ← ih (k + 1)]; rfl
structure Dk (d : D) (f : Int → Option Int) (b : Nat) : Prop where
  ex : ∃ ks vs, d = .dct false ks vs ∧ ks.length = vs.length ∧ ks.length ≤ b ∧ D.imms vs = true ∧ ∀ k, D.look ks vs (.int k) = (f k).map .int
theorem Dk.mono {d : D} {f : Int → Option Int} {b b' : Nat} (h : Dk d f b) (hb : b ≤ b') : Dk d f b' := let ⟨ks, vs, e, l, m, i, q⟩ := h.ex; ⟨ks, vs, e, l, by omega, i, q⟩
def updF (f : Int → Option Int) (k v : Int) : Int → Option Int := fun j => if j = k then some v else f j
theorem look_app {ks vs : List D} (h : ks.length = vs.length) {k x j : D} : k ∉ ks → D.look (ks ++ [k]) (vs ++ [x]) j = if k = j then some x else D.look ks vs j := by
  induction ks generalizing vs with
  | nil =>
    intro _
    cases vs with
    | nil => simp [D.look]
    | cons _ _ => simp at h
  | cons a r ih =>
    intro hn
    cases vs with
    | nil => simp at h
    | cons v vs =>
      simp only [List.cons_append, D.look]
      rw [ih (by simpa using h) (fun q => hn (List.mem_cons_of_mem _ q))]
      by_cases h1 : a = j
      · have : k ≠ j := fun e => hn (by rw [e, ← h1]; exact List.mem_cons_self)
        simp [h1, this]
      · simp [h1]
theorem look_set {ks vs : List D} (h : ks.length = vs.length) {k x j : D} : k ∈ ks → D.look ks (D.setV ks vs k x) j = if k = j then some x else D.look ks vs j := by
  induction ks generalizing vs with
  | nil => intro hn; cases hn
  | cons a r ih =>
    intro hn
    cases vs with
    | nil => simp at h
    | cons v vs =>
      simp only [D.look, D.setV]
      by_cases h1 : a = j
      · subst h1
        by_cases h2 : a = k
        · subst h2; simp
        · have : k ≠ a := fun e => h2 e.symm
          simp [h2, this]
      · rw [if_neg h1, if_neg h1]
        rcases List.mem_cons.mp hn with e | hn'
        · subst e
          rw [if_neg h1]
          have : ∀ (ks vs : List D), ks.length = vs.length → D.look ks (D.setV ks vs k x) j = D.look ks vs j := by
            intro ks
            induction ks with
            | nil => intro vs _; cases vs <;> rfl
            | cons b r ih2 =>
              intro vs hl
              cases vs with
              | nil => simp at hl
              | cons w vs =>
                simp only [D.look, D.setV]
                by_cases h3 : b = j
                · have : b ≠ k := fun e => h1 (e.symm.trans h3)
                  simp [h3, show ¬ j = k from fun e => h1 e.symm]
                · rw [if_neg h3, if_neg h3, ih2 vs (by simpa using hl)]
          exact this r vs (by simpa using h)
        · exact ih (by simpa using h) hn'
theorem setV_len {k x : D} : ∀ {ks vs : List D}, ks.length = vs.length → (D.setV ks vs k x).length = vs.length
  | [], [], _ => rfl
  | [], _ :: _, h => by simp at h
  | _ :: _, [], h => by simp at h
  | _ :: ks, _ :: vs, h => by simp [D.setV, setV_len (ks := ks) (vs := vs) (by simpa using h)]
theorem setV_imm {k x : D} (hx : x.imm = true) : ∀ {ks vs : List D}, D.imms vs = true → D.imms (D.setV ks vs k x) = true
  | [], _, _ => rfl
  | _ :: _, [], _ => rfl
  | a :: ks, v :: vs, h => by
    simp only [D.imms, Bool.and_eq_true] at h
    simp only [D.setV, D.imms, Bool.and_eq_true]
    exact ⟨by split <;> first | exact hx | exact h.1, setV_imm hx h.2⟩
theorem imms_app : ∀ {a b : List D}, D.imms (a ++ b) = (D.imms a && D.imms b)
  | [], b => by simp [D.imms]
  | d :: a, b => by simp [D.imms, imms_app (a := a), Bool.and_assoc]
theorem Dk.store {d : D} {f : Int → Option Int} {b : Nat} (h : Dk d f b) (hb : b < 1000) (k v : Int) : ∃ d', D.store d (.int k) (.int v) = some d' ∧ Dk d' (updF f k v) (b + 1) := by
  obtain ⟨ks, vs, rfl, hl, hm, hi, hq⟩ := h.ex
  refine ⟨.dct false (D.putK ks (.int k)) (D.putV ks vs (.int k) (.int v)), ?_, ?_⟩
  · have : ks.length < sizeLine := small_lt (by omega)
    show (if ((D.lookKey false ks vs (.int k)).isSome && decide (ks.length < sizeLine)) = true then _ else _) = _
    rw [if_pos (by simp [D.lookKey, this])]
  · unfold D.putK D.putV
    by_cases c : D.int k ∈ ks
    · rw [if_pos c, if_pos c]
      refine ⟨ks, _, rfl, by rw [setV_len hl]; exact hl, by omega, setV_imm rfl hi, fun j => ?_⟩
      rw [look_set hl c, hq]
      unfold updF
      by_cases e : j = k
      · subst e; simp
      · have : ¬ D.int k = D.int j := fun q => e (by cases q; rfl)
        simp [e, this]
    · rw [if_neg c, if_neg c]
      refine ⟨_, _, rfl, by simp [hl], by simp; omega, by rw [imms_app, hi]; rfl, fun j => ?_⟩
      rw [look_app hl c, hq]
      unfold updF
      by_cases e : j = k
      · subst e; simp
      · have : ¬ D.int k = D.int j := fun q => e (by cases q; rfl)
        simp [e, this]
theorem Dk.get {d : D} {f : Int → Option Int} {b : Nat} (h : Dk d f b) {k v : Int} (e : f k = some v) {Q : Res → Sx → Prop} {S : Sx} : Rn (opIx d (.int k)) S Q = Q (.dat (.int v)) S := by
  obtain ⟨ks, vs, rfl, hl, hm, hi, hq⟩ := h.ex
  have : D.item (.dct false ks vs) (.int k) = some (.int v) := by
    show (D.lookKey false ks vs (.int k)).bind id = _
    simp [D.lookKey, hq, e]
  unfold opIx
  rw [this]; rfl
theorem Dk.safe {d : D} {f : Int → Option Int} {b : Nat} (h : Dk d f b) : D.imms d.parts = true := by
  obtain ⟨ks, vs, rfl, hl, hm, hi, hq⟩ := h.ex
  exact hi
end LC
end
section
set_option maxRecDepth 100000
namespace LC
open PySem L2 DL
open DLT (ltL sortT)
mutual
def Cd.rp (ws : List Int) : Cd → List (List Int)
  | .go _ => []
  | .get w ds => (if w ∈ ws then [[]] else []) ++ Cd.rps (ws ++ [w]) 0 ds
def Cd.rps (ws : List Int) : Nat → List Cd → List (List Int)
  | _, [] => []
  | k, c :: r => (c.rp ws).map (fun p => (k : Int) :: p) ++ Cd.rps ws (k + 1) r
end
theorem rps_mem {ws q : List Int} : ∀ {ds : List Cd} {k : Nat}, q ∈ Cd.rps ws k ds ↔ ∃ (i : Nat) (d : Cd) (p : List Int), ds[i]? = some d ∧ p ∈ d.rp ws ∧ q = ((k + i : Nat) : Int) :: p
  | [], k => by simp [Cd.rps]
  | c :: r, k => by
    simp only [Cd.rps, List.mem_append, List.mem_map, rps_mem (ds := r)]
    constructor
    · rintro (⟨p, hp, rfl⟩ | ⟨i, d, p, h1, h2, rfl⟩)
      · exact ⟨0, c, p, rfl, hp, by simp⟩
      · exact ⟨i + 1, d, p, h1, h2, by rw [show k + 1 + i = k + (i + 1) by omega]⟩
    · rintro ⟨i, d, p, h1, h2, rfl⟩
      cases i with
      | zero => cases h1; exact .inl ⟨p, h2, by simp⟩
      | succ i => exact .inr ⟨i, d, p, h1, h2, by rw [show k + 1 + i = k + (i + 1) by omega]⟩
def wayW : List Int → Cd → List Int
  | [], _ => []
  | _ :: _, .go _ => []
  | k :: p, .get w ds => w :: (match ds[k.toNat]? with
    | some d => wayW p d
    | none => [])
mutual
theorem rp_iff (p : List Int) : ∀ (c : Cd) (ws : List Int), p ∈ c.rp ws ↔ p ∈ c.pl ∧ ∃ w ds, undC c p = some (.get w ds) ∧ w ∈ ws ++ wayW p c
  | .go s, ws => by
    simp only [Cd.rp, Cd.pl, List.not_mem_nil, List.mem_singleton, false_iff]
    rintro ⟨rfl, w, ds, e, _⟩
    cases e
  | .get w ds, ws => by
    simp only [Cd.rp, List.mem_append, Cd.pl, List.mem_cons]
    cases p with
    | nil =>
      constructor
      · rintro (h | h)
        · split at h
          · rename_i c
            exact ⟨.inl rfl, w, ds, rfl, .inl c⟩
          · cases h
        · obtain ⟨i, d, r, _, _, e⟩ := rps_mem.mp h
          cases e
      · rintro ⟨_, w', ds', e, h⟩
        cases e
        simp only [wayW, List.not_mem_nil, or_false] at h
        rw [if_pos h]; exact .inl (by simp)
    | cons k r =>
      constructor
      · rintro (h | h)
        · split at h
          · simp at h
          · cases h
        · obtain ⟨i, d, r', h1, h2, e⟩ := rps_mem.mp h
          simp only [Nat.zero_add] at e
          cases e
          obtain ⟨i1, w', ds', i2, i3⟩ := (rps_iff r ds i d h1 (ws ++ [w])).mp h2
          refine ⟨.inr (pls_mem.mpr ⟨i, d, r, h1, i1, by simp⟩), w', ds', by simp [undC, h1, i2], ?_⟩
          simp only [wayW, Int.toNat_natCast, h1, List.mem_cons]
          simp only [List.mem_append, List.mem_singleton] at i3
          rcases i3 with (a | a) | a
          · exact .inl a
          · exact .inr (.inl a)
          · exact .inr (.inr a)
      · rintro ⟨hp, w', ds', e, h⟩
        rcases hp with hp | hp
        · cases hp
        · obtain ⟨i, d, r', h1, h2, e2⟩ := pls_mem.mp hp
          simp only [Nat.zero_add] at e2
          cases e2
          refine .inr (rps_mem.mpr ⟨i, d, r, h1, (rps_iff r ds i d h1 (ws ++ [w])).mpr ⟨h2, w', ds', ?_, ?_⟩, by simp⟩)
          · simpa [undC, h1] using e
          · simp only [wayW, Int.toNat_natCast, h1, List.mem_cons] at h
            simp only [List.mem_append, List.mem_singleton]
            rcases h with a | a | a
            · exact .inl (.inl a)
            · exact .inl (.inr a)
            · exact .inr a
theorem rps_iff (p : List Int) : ∀ (ds : List Cd) (i : Nat) (d : Cd), ds[i]? = some d → ∀ ws : List Int, p ∈ d.rp ws ↔ p ∈ d.pl ∧ ∃ w es, undC d p = some (.get w es) ∧ w ∈ ws ++ wayW p d
  | [], i, d, h, _ => by simp at h
  | c :: r, 0, d, h, ws => by cases h; exact rp_iff p c ws
  | c :: r, i + 1, d, h, ws => rps_iff p r i d (by simpa using h) ws
end
def reps (c : Cd) : List (List Int) := c.rp []
def stp (lots : List (List Int)) : Nat → Cd → List (List Int × Int)
  | _, .go s => [([], s)]
  | 0, .get _ _ => []
  | n + 1, .get w ds => ((lots[w.toNat]?).getD []).flatMap fun k => ((ds[k.toNat]?).map fun d => (stp lots n d).map fun x => (k :: x.1, x.2)).getD []
def SOK (sh : List (List Int)) (c : Cd) (p ws : List Int) : Prop := ∀ r ∈ c.pl, p ++ r ∈ sh → r ∈ c.rp ws
def GOK (many : List Int) (g : Int → Option Int) (ws : List Int) : Prop := ∀ w ∈ ws, ∃ (k : Nat) (m : Int), g w = some (k : Int) ∧ many[w.toNat]? = some m ∧ (k : Int) < m
theorem GOK.upd {many : List Int} {g : Int → Option Int} {ws : List Int} (h : GOK many g ws) {w m : Int} {k : Nat} (e : many[w.toNat]? = some m) (hk : (k : Int) < m) : GOK many (updF g w k) (ws ++ [w]) := by
  intro v hv
  unfold updF
  by_cases c : v = w
  · subst c
    exact ⟨k, m, by simp, e, hk⟩
  · rcases List.mem_append.mp hv with h1 | h1
    · obtain ⟨j, m', a, b, d⟩ := h v h1
      exact ⟨j, m', by simp [c, a], b, d⟩
    · simp at h1; exact absurd h1 c
theorem SOK.here {sh : List (List Int)} {w : Int} {ds : List Cd} {p ws : List Int} (h : SOK sh (.get w ds) p ws) (hp : p ∈ sh) : w ∈ ws := by
  have := h [] (by simp [Cd.pl]) (by simpa using hp)
  obtain ⟨_, w', ds', e, q⟩ := (rp_iff [] _ ws).mp this
  cases e
  simpa [wayW] using q
theorem SOK.down {sh : List (List Int)} {w : Int} {ds : List Cd} {p ws : List Int} (h : SOK sh (.get w ds) p ws) {i : Nat} {d : Cd} (e : ds[i]? = some d) : SOK sh d (p ++ [(i : Int)]) (ws ++ [w]) := by
  intro r hr hs
  have h1 : (i : Int) :: r ∈ (Cd.get w ds).pl := by
    simp only [Cd.pl, List.mem_cons]
    exact .inr (pls_mem.mpr ⟨i, d, r, e, hr, by simp⟩)
  have h2 := h _ h1 (by simpa using hs)
  simp only [Cd.rp, List.mem_append] at h2
  rcases h2 with h2 | h2
  · split at h2
    · simp at h2
    · cases h2
  · obtain ⟨j, d', p', a, b, c⟩ := rps_mem.mp h2
    simp only [Nat.zero_add, List.cons.injEq] at c
    obtain ⟨c1, rfl⟩ := c
    have : i = j := by omega
    subst this
    rw [e] at a; cases a
    exact b
theorem SOK.less {sh sh' : List (List Int)} {c : Cd} {p ws : List Int} (h : SOK sh c p ws) (hs : ∀ q ∈ sh', q ∈ sh) : SOK sh' c p ws := fun r hr hq => h r hr (hs _ hq)
def kp (sh : List (List Int)) : List Int → Cd → List Int → (Int → Option Int) → Option (List Int)
  | [], _, _, _ => some []
  | _ :: _, .go _, _, _ => none
  | k :: r, .get w ds, p, g => match ds[k.toNat]? with
    | none => none
    | some d => if p ∈ sh then (if g w = some k then kp sh r d (p ++ [k]) g else none) else (kp sh r d (p ++ [k]) (updF g w k)).map (k :: ·)
def GLo (lots : List (List Int)) (g : Int → Option Int) : Prop := ∀ (w k : Int), g w = some k → ∃ l, lots[w.toNat]? = some l ∧ k ∈ l
theorem GLo.upd {lots : List (List Int)} {g : Int → Option Int} (h : GLo lots g) {w k : Int} {l : List Int} (e : lots[w.toNat]? = some l) (hk : k ∈ l) : GLo lots (updF g w k) := by
  intro v j hv
  unfold updF at hv
  by_cases c : v = w
  · subst c; simp at hv; subst hv; exact ⟨l, e, hk⟩
  · rw [if_neg c] at hv; exact h v j hv
end LC
end
section
set_option maxRecDepth 100000
namespace LC
open PySem L2 DL
open DLT (ltL sortT)
structure Nd where
  n : Nat
  a : List Int
  c : Cd
def cnts (lots : List (List Int)) (rs : List Nd) : Nat := (rs.map fun r => cntN lots r.n r.c).sum
def flN (lots : List (List Int)) (r : Nd) : List (List Int × Int) := (stp lots r.n r.c).map fun x => (r.a ++ x.1, x.2)
structure Way (many : List Int) (lots : List (List Int)) (n : Nat) (c : Cd) (m : Nat) (fd : List (List Int × Int)) (rs : List Nd) : Prop where
  ok : ∀ r ∈ rs, r.c.Ok many r.n ∧ r.n ≤ n ∧ r.a.length + r.n ≤ n
  cnt : m = cnts lots rs
  all : fd.length + m ≤ cntN lots n c
  set : (fd ++ rs.flatMap (flN lots)).Perm (stp lots n c)
structure Nr where
  p : List Int
  c : Cd
  ws : List Int
  n : Nat
def flR (r : Nr) : List (List Int) := (r.c.rp r.ws).map (r.p ++ ·)
def szR (rs : List Nr) : Nat := (rs.map fun r => r.c.sz).sum
structure WayR (many : List Int) (n : Nat) (c : Cd) (m : Nat) (fd : List (List Int)) (rs : List Nr) : Prop where
  ok : ∀ r ∈ rs, r.c.Ok many r.n ∧ r.n ≤ n ∧ r.p.length + r.n ≤ n ∧ r.ws.length + r.n ≤ n
  cnt : m = szR rs
  all : fd.length + m ≤ c.sz
  set : (fd ++ rs.flatMap flR).Perm (reps c)
end LC
end
section
set_option maxRecDepth 100000
namespace LC
open PySem L2 DL
open DLT (ltL sortT)
def wtN : Nat → Nat
  | 0 => 100
  | n + 1 => 100 + 4 * (wtN n + 1)
theorem wt_pos (n : Nat) : 100 ≤ wtN n := by cases n <;> simp [wtN]
mutual
theorem nc_cd {many : List Int} (hm : ManyOk many) : ∀ (n : Nat) (c : Cd), c.Ok many n → Nc c.toD (2 * n + 1) (wtN n)
  | n, .go s, h => by
    have hs : 0 ≤ s ∧ s < 8 := by cases n <;> exact h
    have := nc_tup (ncs_cons (nc_go (b := 2 * n)) (ncs_cons (nc_int (b := 2 * n) (i := s) (by omega)) (ncs_nil (w := 0))))
    have h2 := wt_pos n
    exact this.mono (Nat.le_refl _) (by omega)
  | 0, .get _ _, h => h.elim
  | n + 1, .get w ds, h => by
    have h5 := hm.len
    have hw : w < 8 := by
      have h1 := (List.getElem?_eq_some_iff.mp h.2.1).1
      have h2 := h.1
      omega
    have h4 : ds.length ≤ 4 := by
      have := hm.fit _ (List.mem_of_getElem? h.2.1)
      omega
    have hd := nc_cds hm n ds h.2.2
    have hl : ds.length * (wtN n + 1) ≤ 4 * (wtN n + 1) := Nat.mul_le_mul_right _ h4
    have := nc_tup (ncs_cons (nc_get (b := 2 * n + 2)) (ncs_cons (nc_int (b := 2 * n + 2) (i := w) (by have := h.1; omega)) (ncs_cons (nc_tup hd) (ncs_nil (w := 0)))))
    exact this.mono (by omega) (by simp only [wtN]; omega)
theorem nc_cds {many : List Int} (hm : ManyOk many) : ∀ (n : Nat) (ds : List Cd), Cd.Oks many n ds → Ncs (Cd.toDs ds) (2 * n + 1) (ds.length * (wtN n + 1))
  | n, [], _ => ncs_nil
  | n, c :: r, h => by
    have := ncs_cons (nc_cd hm n c h.1) (nc_cds hm n r h.2)
    refine this.mono (Nat.le_refl _) ?_
    rw [List.length_cons, Nat.add_mul]; omega
end
end LC
end
section
set_option maxRecDepth 100000
namespace LC
open PySem L2
open DL hiding tI
structure Wk where
  m : Int
  sh : List Int
  cs : List Cd
def Wk.toD (w : Wk) : D := .tup [.int w.m, tI w.sh, .tup (Cd.toDs w.cs)]
mutual
def Cd.To (g : Int) : Cd → Prop
  | .go s => s < g
  | .get _ ds => Cd.Tos g ds
def Cd.Tos (g : Int) : List Cd → Prop
  | [] => True
  | c :: r => c.To g ∧ Cd.Tos g r
end
theorem Tos_of {g : Int} : ∀ {ds : List Cd}, (∀ c ∈ ds, c.To g) → Cd.Tos g ds
  | [], _ => trivial
  | d :: r, h => ⟨h d List.mem_cons_self, Tos_of fun c hc => h c (List.mem_cons_of_mem _ hc)⟩
structure WkOk (many : List Int) (w : Wk) : Prop where
  s1 : 1 ≤ w.sh.length
  s5 : w.sh.length ≤ 5
  cl : w.cs.length = w.sh.length
  m1 : 1 ≤ w.m
  m4 : w.m ≤ 4
  sh : ∀ k ∈ w.sh, 0 ≤ k ∧ k < w.m
  cs : ∀ c ∈ w.cs, c.Ok many 3 ∧ c.To w.sh.length
def msOf (ws : List Wk) : List Int := ws.map (·.m)
def nsOf (ws : List Wk) : List Int := ws.map fun w => (w.sh.length : Int)
structure NetOk (ws : List Wk) : Prop where
  l1 : 1 ≤ ws.length
  l5 : ws.length ≤ 5
  ok : ∀ w ∈ ws, WkOk (msOf ws) w
structure AbOk (many : List Int) (lots : List (List Int)) : Prop where
  len : lots.length = many.length
  few : ∀ l ∈ lots, l.length ≤ 5
  fit : ∀ (i : Nat) (l : List Int) (m : Int), lots[i]? = some l → many[i]? = some m → ∀ k ∈ l, 0 ≤ k ∧ k < m
theorem LotsOk.ab {many : List Int} {lots : List (List Int)} (h : LotsOk many lots) : AbOk many lots := ⟨h.len, h.few, h.fit⟩
theorem NetOk.many {ws : List Wk} (h : NetOk ws) : ManyOk (msOf ws) := ⟨by have := h.l5; simp [msOf]; omega, fun m hm => by
  obtain ⟨w, hw, rfl⟩ := List.mem_map.mp hm
  exact ⟨(h.ok w hw).m1, (h.ok w hw).m4⟩⟩
def shW (w : Wk) (l : List Int) : List Int := sortS (l.map fun s => (w.sh[s.toNat]?).getD 0)
def shB (ws : List Wk) (box : List (List Int)) : List (List Int) := List.zipWith shW ws box
theorem zw_get {α β γ : Type} {f : α → β → γ} {as : List α} {bs : List β} {i : Nat} {c : γ} (h : (List.zipWith f as bs)[i]? = some c) : ∃ a b, as[i]? = some a ∧ bs[i]? = some b ∧ c = f a b := by
  rw [List.getElem?_zipWith] at h
  cases ha : as[i]? with
  | none => rw [ha] at h; simp at h
  | some a =>
    cases hb : bs[i]? with
    | none => rw [ha, hb] at h; simp at h
    | some b => rw [ha, hb] at h; simp at h; exact ⟨a, b, rfl, rfl, h.symm⟩
theorem zw_at {α β γ : Type} {f : α → β → γ} {as : List α} {bs : List β} {i : Nat} {a : α} {b : β} (ha : as[i]? = some a) (hb : bs[i]? = some b) : (List.zipWith f as bs)[i]? = some (f a b) := by
  rw [List.getElem?_zipWith, ha, hb]
theorem mem_ix {α : Type} {l : List α} {a : α} (h : a ∈ l) : ∃ i : Nat, l[i]? = some a := List.mem_iff_getElem?.mp h
section
variable {ws : List Wk} {box about lots : List (List Int)} {many : List Int}
theorem ns_at {i : Nat} {w : Wk} (h : ws[i]? = some w) : (nsOf ws)[i]? = some (w.sh.length : Int) := by simp [nsOf, h]
theorem ms_at {i : Nat} {w : Wk} (h : ws[i]? = some w) : (msOf ws)[i]? = some w.m := by simp [msOf, h]
theorem box_at (hb : LotsOk (nsOf ws) box) {i : Nat} {w : Wk} {l : List Int} (hw : ws[i]? = some w) (hl : box[i]? = some l) : l ≠ [] ∧ l.length ≤ 5 ∧ l.Pairwise (· < ·) ∧ ∀ k ∈ l, 0 ≤ k ∧ k < (w.sh.length : Int) :=
  ⟨hb.one l (List.mem_of_getElem? hl), hb.few l (List.mem_of_getElem? hl), hb.up l (List.mem_of_getElem? hl), hb.fit i l _ hl (ns_at hw)⟩
theorem sort_ne {l : List Int} (h : l ≠ []) : sortS l ≠ [] := by
  cases l with
  | nil => exact absurd rfl h
  | cons a r =>
    intro e
    have := (sortS_mem a (a :: r)).mpr List.mem_cons_self
    rw [e] at this; cases this
theorem shW_fit {w : Wk} (hw : WkOk many w) {l : List Int} (h : ∀ k ∈ l, 0 ≤ k ∧ k < (w.sh.length : Int)) : ∀ k ∈ shW w l, 0 ≤ k ∧ k < w.m := fun k hk => by
  have := (sortS_mem k _).mp hk
  obtain ⟨s, hs, rfl⟩ := List.mem_map.mp this
  obtain ⟨h0, h1⟩ := h s hs
  have hl : s.toNat < w.sh.length := by omega
  rw [List.getElem?_eq_getElem hl]
  exact hw.sh _ (List.getElem_mem hl)
theorem shB_ok (hn : NetOk ws) (hb : LotsOk (nsOf ws) box) : LotsOk (msOf ws) (shB ws box) := by
  have bl := hb.len
  have lw : ∀ (i : Nat) (l : List Int), (shB ws box)[i]? = some l → ∃ w b, ws[i]? = some w ∧ box[i]? = some b ∧ l = shW w b := fun i l h => zw_get h
  constructor
  · simp [shB, msOf, List.length_zipWith]; rw [bl]; simp [nsOf]
  · intro l hl
    obtain ⟨i, hi⟩ := mem_ix hl
    obtain ⟨w, b, e1, e2, rfl⟩ := lw i l hi
    have ok := hn.ok w (List.mem_of_getElem? e1)
    have := up_len0 (sortS_up (b.map fun s => (w.sh[s.toNat]?).getD 0)) (b := 4) fun k hk => by
      have := shW_fit ok (box_at hb e1 e2).2.2.2 k hk
      have := ok.m4
      omega
    show (shW w b).length ≤ 5
    unfold shW; omega
  · intro l hl
    obtain ⟨i, hi⟩ := mem_ix hl
    obtain ⟨w, b, e1, e2, rfl⟩ := lw i l hi
    exact sort_ne fun e => (box_at hb e1 e2).1 (List.map_eq_nil_iff.mp e)
  · intro i l m h1 h2 k hk
    obtain ⟨w, b, e1, e2, rfl⟩ := lw i l h1
    rw [ms_at e1] at h2
    cases h2
    exact shW_fit (hn.ok w (List.mem_of_getElem? e1)) (box_at hb e1 e2).2.2.2 k hk
  · intro l hl
    obtain ⟨i, hi⟩ := mem_ix hl
    obtain ⟨w, b, e1, e2, rfl⟩ := lw i l hi
    exact sortS_up _
def SubB (a b : List (List Int)) : Prop := ∀ (i : Nat) (x : List Int), a[i]? = some x → ∃ y, b[i]? = some y ∧ ∀ k ∈ x, k ∈ y
theorem SubB.refl (a : List (List Int)) : SubB a a := fun i x e => ⟨x, e, fun k h => h⟩
theorem SubB.trans {a b c : List (List Int)} (h : SubB a b) (h2 : SubB b c) : SubB a c := fun i x e => by
  obtain ⟨y, e1, s1⟩ := h i x e
  obtain ⟨z, e2, s2⟩ := h2 i y e1
  exact ⟨z, e2, fun k hk => s2 k (s1 k hk)⟩
end
end LC
end
section
set_option maxRecDepth 100000
namespace LC
open PySem L2
open DL hiding tI
theorem mem_ints {s : Int} {ks : List Int} : D.int s ∈ ks.map D.int ↔ s ∈ ks := by simp
def putI (ks : List Int) (s : Int) : List Int := if s ∈ ks then ks else ks ++ [s]
theorem put_ks (ks : List Int) (s : Int) : D.putK (ks.map D.int) (.int s) = (putI ks s).map D.int := by
  unfold D.putK putI
  by_cases h : s ∈ ks
  · rw [if_pos (mem_ints.mpr h), if_pos h]
  · rw [if_neg (fun q => h (mem_ints.mp q)), if_neg h]; simp
theorem put_nd {ks : List Int} (h : ks.Nodup) (s : Int) : (putI ks s).Nodup := by
  unfold putI
  split
  · exact h
  · rename_i n
    rw [List.nodup_append]
    exact ⟨h, by simp, fun a ha b hb q => n (by simp at hb; rw [← hb, ← q]; exact ha)⟩
theorem put_mem (ks : List Int) (s t : Int) : t ∈ putI ks s ↔ t ∈ ks ∨ t = s := by
  unfold putI
  split
  · rename_i h
    exact ⟨.inl, fun q => q.elim id fun e => e ▸ h⟩
  · simp
theorem ex_put {ks : List Int} {vs : List D} {s : Int} {x : D} (hl : ks.length < 100000) {P : D → Prop} (h : ∀ vs', P (.dct false ((putI ks s).map .int) vs')) : ∃ d', D.store (.dct false (ks.map .int) vs) (.int s) x = some d' ∧ P d' := by
  refine ⟨_, ?_, h (D.putV (ks.map .int) vs (.int s) x)⟩
  unfold D.store
  have c : ((D.lookKey false (ks.map .int) vs (.int s)).isSome && decide ((ks.map D.int).length < sizeLine)) = true := by
    rw [Bool.and_eq_true]
    exact ⟨rfl, decide_eq_true (by rw [List.length_map]; exact small_lt hl)⟩
  simp only [c, if_true, put_ks]
theorem sorted_dct {Q : Res → Sx → Prop} {S : Sx} {ks : List Int} {vs : List D} (nd : ks.Nodup) (hl : ks.length < 64) (q : Q (.new (lI (sortS ks))) S) : Rn (opSortedE (.dct false (ks.map .int) vs)) S Q := by
  show Rn (opSortedD (.dct false (ks.map .int) vs)) S Q
  show Rn (M.opt (D.ints? (ks.map .int)) fun ns => M.need (decide (ns.length < 64) && decide ns.Nodup) (pure (.new (.lst ((sortS ns).map .int))))) S Q
  rw [ints?_map, rn_opt1, rn_need]
  exact ⟨by rw [Bool.and_eq_true]; exact ⟨decide_eq_true hl, decide_eq_true nd⟩, q⟩
theorem nodup_fit {ks : List Int} {b : Nat} (nd : ks.Nodup) (hb : ∀ x ∈ ks, 0 ≤ x ∧ x < (b : Int)) : ks.length ≤ b := by
  have h1 := up_len0 (sortS_up ks) (b := b) fun x hx => hb x ((sortS_mem x ks).mp hx)
  have h2 := DL.nodup_len nd (up_nodup (sortS_up ks)) fun k => (sortS_mem k ks).symm
  omega
theorem for_put {Q : Fl → Sx → Prop} {tgt : D → M Unit} {b : M Fl} {all : List Int} {St : List Int → List D → Slot → Sx} {ks0 : List Int} {vs0 : List D} {s0 : Slot} (g : Int → Int) {bd : Nat} (hbd : bd < 64) (nd0 : ks0.Nodup) (h0 : ∀ k ∈ ks0, 0 ≤ k ∧ k < (bd : Int)) (hal : ∀ k ∈ all, 0 ≤ g k ∧ g k < (bd : Int))
    (turn : ∀ (x : Int) (ks : List Int) (vs : List D) (s : Slot), x ∈ all → ks.Nodup → ks.length < 64 → (∀ P : Fl → Sx → Prop, (∀ vs' s', P .next (St (putI ks (g x)) vs' s')) → Rn (tgt (.int x)) (St ks vs s) fun _ S1 => Rn b S1 P))
    (q : ∀ (ks : List Int) (vs : List D) (s : Slot), ks.Nodup → ks.length < 64 → (∀ k, k ∈ ks ↔ k ∈ ks0 ∨ k ∈ all.map g) → Q .next (St ks vs s)) : Rn (forM tgt b (all.map .int)) (St ks0 vs0 s0) Q := by
  refine for_of (f := D.int) (all := all) (a := []) (r := all) (I := fun a r S => ∃ ks vs s, ks.Nodup ∧ (∀ k, k ∈ ks ↔ k ∈ ks0 ∨ k ∈ a.map g) ∧ S = St ks vs s) rfl ⟨ks0, vs0, s0, nd0, by simp, rfl⟩ ?_ ?_
  · rintro a x r S e ⟨ks, vs, s, nd, hk, rfl⟩
    have hx : x ∈ all := by rw [e]; simp
    have fit : ks.length ≤ bd := nodup_fit nd fun k h => by
      rcases (hk k).mp h with h | h
      · exact h0 k h
      · obtain ⟨y, hy, rfl⟩ := List.mem_map.mp h
        exact hal y (by rw [e]; exact List.mem_append_left _ hy)
    exact turn x ks vs s hx nd (by omega) _ fun vs' s' => ⟨putI ks (g x), vs', s', put_nd nd _, fun k => by rw [put_mem, hk, List.map_append]; simp [or_assoc], rfl⟩
  · rintro S ⟨ks, vs, s, nd, hk, rfl⟩
    have fit : ks.length ≤ bd := nodup_fit nd fun k h => by
      rcases (hk k).mp h with h | h
      · exact h0 k h
      · obtain ⟨y, hy, rfl⟩ := List.mem_map.mp h
        exact hal y hy
    exact q ks vs s nd (by omega) hk
theorem for_rng {Q : Fl → Sx → Prop} {tgt : D → M Unit} {b : M Fl} {n : Nat} {I : Nat → Sx → Prop} {S : Sx} (i0 : I 0 S)
    (h : ∀ i S, i < n → I i S → Rn (tgt (.int (i : Int))) S fun _ S1 => Rn b S1 fun fl S2 => match fl with
      | .next => I (i + 1) S2
      | .cont => I (i + 1) S2
      | .brk => Q .next S2
      | .ret v => Q (.ret v) S2) (q : ∀ S, I n S → Q .next S) : Rn (forM tgt b (rangeD 0 n)) S Q := by
  rw [show rangeD 0 n = (List.range' 0 n).map fun i => D.int ((i : Nat) : Int) from range_map n 0]
  refine for_of (f := fun i : Nat => D.int (i : Int)) (all := List.range' 0 n) (a := []) (r := List.range' 0 n) (I := fun a r S => I a.length S) rfl i0 ?_ ?_
  · intro a x r S e hi
    have hl : a.length < n := by
      have := congrArg List.length e
      simp at this; omega
    have hx : x = a.length := by
      have h1 : (List.range' 0 n)[a.length]? = some x := by rw [e]; simp
      rw [List.getElem?_range' hl] at h1
      simpa using h1.symm
    subst hx
    refine (h a.length S hl hi).mono fun _ S1 h1 => h1.mono fun fl S2 h2 => ?_
    cases fl <;> simpa using h2
  · intro S hi
    exact q S (by simpa using hi)
theorem zipD_map {α β : Type} {f : α → D} {g : β → D} : ∀ (as : List α) (bs : List β), zipD (as.map f) (bs.map g) = (as.zip bs).map fun p => .tup [f p.1, g p.2]
  | [], _ => by simp [zipD]
  | _ :: _, [] => by simp [zipD]
  | a :: as, b :: bs => by simp [zipD, zipD_map as bs]
theorem zip_zipWith {α β γ : Type} {f : α → β → γ} : ∀ (as : List α) (bs : List β), (as.zip bs).map (fun p => f p.1 p.2) = List.zipWith f as bs
  | [], _ => by simp
  | _ :: _, [] => by simp
  | a :: as, b :: bs => by simp [zip_zipWith as bs]
theorem rn_zipI {fs : M (List Res)} {S : Sx} {P : List D → Sx → Prop} : Rn (zipI fs) S P = Rn fs S fun rs S1 => Rn (useAll rs) S1 fun ds S2 => Rn (M.opt (zipK ds) fun l => pure l) S2 P := by
  unfold zipI
  simp only [rn_bind]
theorem zipK_tt {as bs : List D} {S : Sx} {P : List D → Sx → Prop} : Rn (M.opt (zipK [.tup as, .tup bs]) fun l => pure l) S P = P (zipD as bs) S := rfl
theorem ex_set {ds : List D} {i : Nat} {x : D} (hi : i < ds.length) {P : D → Prop} (h : P (.lst (ds.set i x))) : ∃ d', D.store (.lst ds) (.int i) x = some d' ∧ P d' := by
  refine ⟨_, ?_, h⟩
  unfold D.store ixN
  have h1 : (0 : Int) ≤ (i : Int) := by omega
  have h2 : (i : Int) < (ds.length : Int) := by omega
  simp [hi]
theorem wks_imm (ws : List Wk) : D.imms (ws.map Wk.toD) = true := by
  induction ws with
  | nil => rfl
  | cons w r ih => simp [D.imms, Wk.toD, D.imm, tI, imms_ints, Cd.imms, ih]
def netD (ws : List Wk) (st : List Int) : D := .tup [.tup (ws.map Wk.toD), tI st]
theorem net_imm (ws : List Wk) (st : List Int) : (netD ws st).imm = true := by simp [netD, D.imm, D.imms, wks_imm, tI, imms_ints]
theorem ix_wk {ws : List Wk} {i : Nat} {w : Wk} (h : ws[i]? = some w) {S : Sx} {Q : Res → Sx → Prop} : Rn (opIx (.tup (ws.map Wk.toD)) (.int (i : Nat))) S Q = Q (.dat w.toD) S :=
  op_ix_tn (by rw [List.getElem?_map, h]; rfl)
theorem ix_lot {b : List (List Int)} {i : Nat} {l : List Int} (h : b[i]? = some l) {S : Sx} {Q : Res → Sx → Prop} : Rn (opIx (lotsD b) (.int (i : Nat))) S Q = Q (.dat (tI l)) S :=
  op_ix_tn (by rw [List.getElem?_map, h]; rfl)
end LC
end
section
set_option maxRecDepth 100000
namespace LC
open PySem L2
open DL hiding tI
mutual
/-- its depth is at most n, it asks workers below b -/
def Cd.Fit (b : Nat) : Nat → Cd → Prop
  | _, .go s => 0 ≤ s ∧ s < 8
  | 0, .get _ _ => False
  | n + 1, .get u ds => (0 ≤ u ∧ u < (b : Int)) ∧ ds.length ≤ 4 ∧ Cd.Fits b n ds
def Cd.Fits (b : Nat) : Nat → List Cd → Prop
  | _, [] => True
  | n, c :: r => c.Fit b n ∧ Cd.Fits b n r
end
mutual
theorem fit_of {many : List Int} (hm : ManyOk many) {b : Nat} (hb : many.length ≤ b) : ∀ (n : Nat) (c : Cd), c.Ok many n → c.Fit b n
  | n, .go s, h => by cases n <;> exact h
  | 0, .get _ _, h => h.elim
  | n + 1, .get u ds, h => by
    have h1 := (List.getElem?_eq_some_iff.mp h.2.1).1
    have h2 := hm.fit _ (List.mem_of_getElem? h.2.1)
    exact ⟨⟨h.1, by have := h.1; omega⟩, by omega, fits_of hm hb n ds h.2.2⟩
theorem fits_of {many : List Int} (hm : ManyOk many) {b : Nat} (hb : many.length ≤ b) : ∀ (n : Nat) (ds : List Cd), Cd.Oks many n ds → Cd.Fits b n ds
  | n, [], _ => trivial
  | n, c :: r, h => ⟨fit_of hm hb n c h.1, fits_of hm hb n r h.2⟩
end
structure WkFit (b : Nat) (w : Wk) : Prop where
  m : 1 ≤ w.m ∧ w.m ≤ 8
  sl : w.sh.length ≤ 5
  sh : ∀ k ∈ w.sh, 0 ≤ k ∧ k < 8
  cl : w.cs.length ≤ 5
  cs : ∀ c ∈ w.cs, c.Fit b 3
def Wk.asks (w : Wk) (u : Int) : Prop := ∃ c ∈ w.cs, u ∈ c.wk
def putAll (f : Nat → Int) : List Nat → List Int → Nat → List Int
  | [], t, _ => t
  | p :: r, t, k => putAll f r (t.set p (f k)) (k + 1)
end LC
end
section
set_option maxRecDepth 100000
namespace LC
open PySem L2
open DL hiding tI
def uI (l : List Nat) : List Int := l.map fun i : Nat => (i : Int)
theorem rng_uI (n : Nat) : rangeD 0 n = (uI (List.range n)).map D.int := by
  rw [show rangeD 0 n = (List.range' 0 n).map fun i => D.int ((i : Nat) : Int) from range_map n 0, uI, List.map_map, List.range_eq_range']; rfl
section
variable {α : Type} {f : α → D}
end
section
variable {S : Sx} {b : M Fl} {cs : List Clz} {Q : Fl → Sx → Prop} {x : Exn}
def Tc (x : Exn) (S : Sx) (cs : List Clz) (Q : Fl → Sx → Prop) : Prop := match tryC x S cs with
  | some (.ok fl, S') => Q fl S'
  | _ => False
theorem rn_tryG2 (q : Er b S fun x S1 => Tc x S1 cs Q) : Rn (tryG cs b) S Q := by
  unfold Er at q
  cases e : b S with
  | none => rw [e] at q; exact q.elim
  | some p =>
    obtain ⟨r, S'⟩ := p
    rw [e] at q
    cases r with
    | ok fl => exact q.elim
    | error x =>
      have e3 : tryG cs b S = tryC x S' cs := by unfold tryG; rw [e]
      have q : Tc x S' cs Q := q
      unfold Tc at q
      unfold Rn
      rw [e3]
      cases e2 : tryC x S' cs with
      | none => rw [e2] at q; exact q.elim
      | some p2 =>
        obtain ⟨r2, S2⟩ := p2
        rw [e2] at q
        cases r2 with
        | error y => exact q.elim
        | ok fl => exact q
theorem tc_skip {c : Clz} (h : c.sub x.cls = some false) (q : Tc x S cs Q) : Tc x S (c :: cs) Q := by
  have e : tryC x S (c :: cs) = tryC x S cs := by conv => lhs; unfold tryC; rw [h]
  unfold Tc at q ⊢
  rw [e]; exact q
end
section
variable {α : Type} {f : α → D} {tgt : D → M Unit} {b : M Fl} {E : Exn → Sx → Prop} {I : Nat → Sx → Prop}
end
end LC
end
section
set_option maxRecDepth 100000
namespace LC
open PySem L2
open DL hiding tI
def wsAt (ws : List Wk) (i : Nat) : Wk := (ws[i]?).getD ⟨0, [], []⟩
def wanted (ws : List Wk) (so : List Nat) (u : Nat) : Prop := ∃ i ∈ so, (wsAt ws i).asks u
structure Cut (ws : List Wk) (so ch : List Nat) : Prop where
  lo : ∀ i ∈ so, i < ws.length
  up : so.Pairwise (· < ·)
  sub : ∀ i ∈ ch, i ∈ so
  cu : ch.Pairwise (· < ·)
  cne : ch ≠ []
section
variable {ws : List Wk} {so ch : List Nat}
def fits (ws : List Wk) : Prop := ∀ w ∈ ws, WkFit ws.length w
end
end LC
namespace LC
open PySem L2
open DL hiding tI
end LC
end
section
set_option maxRecDepth 100000
namespace LC
open PySem L2
open DL hiding tI
section
variable {den : Addr → Den → Den} {n : Nat} {P : Addr} {q s : Str} {js : List Nat} {bodyM : M Res} {S : Sx} {env : List Slot} {o : List D} {L : Den} {cs : List Clz}
theorem rn_lamM {Q : Res → Sx → Prop} (st : stillE (capE js env) = true) (at_ : o[n]? = some (.cod P q)) (h : Dr (den 0 (lamD (capE js env) bodyM)) [.opq (.ref 0)] o fun r o' => Q r ⟨env, o'⟩) : Rn (lamM den n P q js bodyM) ⟨env, o⟩ Q := by
  have e : lamM den n P q js bodyM ⟨env, o⟩ = callM 1 (fun _ o => den 0 (lamD (capE js env) bodyM) [.opq (.ref 0)] o) (pure [.dat .non]) ⟨env, o⟩ := by
    unfold lamM
    rw [if_pos ⟨st, at_⟩]
  unfold Rn
  rw [e]
  show Rn (callM 1 (fun _ o => den 0 (lamD (capE js env) bodyM) [.opq (.ref 0)] o) (pure [.dat .non])) ⟨env, o⟩ Q
  rw [rn_call]
  show Rn (pure [Res.dat .non]) _ _
  rw [rn_pure]
  refine ⟨rfl, ?_⟩
  refine Dr.mono (show Dr (fun _ o => den 0 (lamD (capE js env) bodyM) [.opq (.ref 0)] o) _ o _ from h) ?_
  intro r o' h2
  split
  · exact h2
  · exact h2
theorem de_lamD {E : Exn → List D → Prop} (h : Er bodyM ⟨env, o⟩ fun x S => E x S.objs) : De (lamD env bodyM) [] o E := by
  unfold De lamD
  unfold Er at h
  cases e : bodyM ⟨env, o⟩ with
  | none => rw [e] at h; exact h.elim
  | some p =>
    obtain ⟨r, S'⟩ := p
    rw [e] at h
    cases r with
    | ok r => exact h.elim
    | error x => exact h
end
theorem still_is : ∀ e : List Int, D.stills (e.map D.int) = true
  | [] => rfl
  | _ :: r => still_is r
theorem still_tI (e : List Int) : (tI e).still = true := by unfold tI; rw [D.still]; exact still_is e
mutual
theorem still_cd : ∀ c : Cd, c.toD.still = true
  | .go s => rfl
  | .get w ds => by
    rw [Cd.toD, D.still, D.stills, D.stills, D.stills, D.stills, D.still, still_cds ds]; rfl
theorem still_cds : ∀ ds : List Cd, D.stills (Cd.toDs ds) = true
  | [] => rfl
  | c :: r => by rw [Cd.toDs, D.stills, still_cd c, still_cds r]; rfl
end
theorem still_wk (w : Wk) : w.toD.still = true := by
  have h1 := still_tI w.sh
  have h2 : (D.tup (w.cs.map Cd.toD)).still = true := by rw [← toDs_map, D.still]; exact still_cds w.cs
  have h : w.toD = .tup [.int w.m, tI w.sh, .tup (w.cs.map Cd.toD)] := by first | rfl | (unfold Wk.toD tI; rw [toDs_map])
  rw [h, D.still, D.stills, D.stills, D.stills, D.stills, h1, h2]; rfl
theorem still_ws : ∀ ws : List Wk, D.stills (ws.map Wk.toD) = true
  | [] => rfl
  | w :: r => by rw [List.map_cons, D.stills, still_wk w, still_ws r]; rfl
theorem still_net (ws : List Wk) (st : List Int) : (netD ws st).still = true := by
  have h1 := still_tI st
  have h2 : (D.tup (ws.map Wk.toD)).still = true := by rw [D.still]; exact still_ws ws
  have h : netD ws st = .tup [.tup (ws.map Wk.toD), tI st] := rfl
  rw [h, D.still, D.stills, D.stills, D.stills, h1, h2]; rfl
end LC
end
section
set_option maxRecDepth 100000
namespace LC
open PySem L2
open DL hiding tI
local macro_rules | `(tactic| simp! only) => `(tactic| simp -implicitDefEqProofs only [rn_bind, rn_pure, rn_no, rn_need, rn_opt1, rn_ite, rn_var, rn_put, rn_useD, rn_useN, rn_useO, rn_chkD, rn_chkN, rn_chkO, rn_call, rn_seq, rn_guard, rn_forIn, rn_for0, rn_setD, rn_setN, rn_setO, binM, binMO, unM, cmpT, testM, andT, orT, notT, ifM, asgM, retM, exprM, kM, consA, nilA, tupM, lstM, useAll, chkAll, slM, partM, DL.andM, DL.orM, DL.notM, negM, asgG, gN, gT, gsC, gsN, seqI, frzM, asgTM, dnewM, par2M, hold_d, hold_n, hold_o, d_d, d_n, d_o, out_d, out_n, out_o, fo_next, fo_ret, isBl_b, isInt_i, tr_i, tr_b, tr_n, tr_l, tr_t, it_l, it_r, it_t, li_l, li_r, op_add_i, op_add_l, op_add_t, op_sub_i, op_mul_i, op_mod_i, op_div_i, op_pow_i, op_lt_i, op_le_i, op_gt_i, op_ge_i, op_int_i, op_abs_i, op_len_l, op_len_t, op_len_r, op_tup_l, op_tup_t, op_lst_l, op_lst_t, op_max_i, op_eq_i, eq_go_go, eq_get_get, eq_go_get, eq_get_go, Bool.bne_false, Bool.bne_true, Bool.not_true, Bool.not_false, op_sl_l, op_sl_r, op_sl_t, op_ix_t0, op_ix_t1, op_ix_t2, op_ix_l0, List.getElem?_cons_zero, List.getElem?_cons_succ, List.set_cons_zero, List.set_cons_succ, List.map_cons, List.map_nil, List.length_cons, List.length_nil, List.cons_append, List.nil_append, if_true, if_false, Bool.false_eq_true, decide_eq_true_eq, and_true, true_and, ite_true, ite_false, reduceCtorEq])
local macro_rules | `(tactic| simp! only [$ls,*]) => `(tactic| simp -implicitDefEqProofs only [rn_bind, rn_pure, rn_no, rn_need, rn_opt1, rn_ite, rn_var, rn_put, rn_useD, rn_useN, rn_useO, rn_chkD, rn_chkN, rn_chkO, rn_call, rn_seq, rn_guard, rn_forIn, rn_for0, rn_setD, rn_setN, rn_setO, binM, binMO, unM, cmpT, testM, andT, orT, notT, ifM, asgM, retM, exprM, kM, consA, nilA, tupM, lstM, useAll, chkAll, slM, partM, DL.andM, DL.orM, DL.notM, negM, asgG, gN, gT, gsC, gsN, seqI, frzM, asgTM, dnewM, par2M, hold_d, hold_n, hold_o, d_d, d_n, d_o, out_d, out_n, out_o, fo_next, fo_ret, isBl_b, isInt_i, tr_i, tr_b, tr_n, tr_l, tr_t, it_l, it_r, it_t, li_l, li_r, op_add_i, op_add_l, op_add_t, op_sub_i, op_mul_i, op_mod_i, op_div_i, op_pow_i, op_lt_i, op_le_i, op_gt_i, op_ge_i, op_int_i, op_abs_i, op_len_l, op_len_t, op_len_r, op_tup_l, op_tup_t, op_lst_l, op_lst_t, op_max_i, op_eq_i, eq_go_go, eq_get_get, eq_go_get, eq_get_go, Bool.bne_false, Bool.bne_true, Bool.not_true, Bool.not_false, op_sl_l, op_sl_r, op_sl_t, op_ix_t0, op_ix_t1, op_ix_t2, op_ix_l0, List.getElem?_cons_zero, List.getElem?_cons_succ, List.set_cons_zero, List.set_cons_succ, List.map_cons, List.map_nil, List.length_cons, List.length_nil, List.cons_append, List.nil_append, if_true, if_false, Bool.false_eq_true, decide_eq_true_eq, and_true, true_and, ite_true, ite_false, reduceCtorEq, $ls,*])
theorem eqn_mono : ∀ (n : Nat) (d : D), D.eqn n d = true → D.eqn (n + 1) d = true := by
  intro n
  induction n with
  | zero => intro d h; cases d <;> simp [D.eqn] at h ⊢
  | succ n ih =>
    intro d h
    cases d with
    | tup ds => simp only [D.eqn, List.all_eq_true] at h ⊢; exact fun x hx => ih x (h x hx)
    | lst ds => simp only [D.eqn, List.all_eq_true] at h ⊢; exact fun x hx => ih x (h x hx)
    | rol ds => simp only [D.eqn, List.all_eq_true] at h ⊢; exact fun x hx => ih x (h x hx)
    | rdc t ks vs =>
      match t, ks, vs, h with
      | false, [], [], _ => rfl
      | false, [_], [v], h => exact ih v h
    | _ => simp [D.eqn] at h ⊢
theorem eqn_le {n m : Nat} {d : D} (h : D.eqn n d = true) (l : n ≤ m) : D.eqn m d = true := by
  obtain ⟨k, rfl⟩ := Nat.le.dest l
  induction k with
  | zero => exact h
  | succ k ih => exact eqn_mono _ _ (ih (by omega))
def NX (d : D) (b w : Nat) : Prop := ∃ p, d.pyX = some p ∧ p.showable = true ∧ PyData.leavesShort 42 p = true ∧ okC p.shown ∧ p.depth ≤ b ∧ p.weight ≤ w ∧ D.eqn b d = true
def NXs (ds : List D) (b w : Nat) : Prop := ∃ ps, D.pysX ds = some ps ∧ PyData.showableAll ps = true ∧ PyData.leavesShortAll 42 ps = true ∧ (∀ t ∈ PyData.shownAll ps, okC t) ∧ PyData.depthAll ps ≤ b ∧ PyData.weightAll ps ≤ w ∧ ds.all (D.eqn b) = true
section
variable {d : D} {ds : List D} {b b' w w' : Nat}
theorem NX.mono (h : NX d b w) (hb : b ≤ b') (hw : w ≤ w') : NX d b' w' := let ⟨p, h1, h2, h3, h4, h5, h6, h7⟩ := h; ⟨p, h1, h2, h3, h4, by omega, by omega, eqn_le h7 hb⟩
theorem nxs_nil : NXs [] b w := ⟨[], rfl, rfl, rfl, by simp [PyData.shownAll], by simp [PyData.depthAll], by simp [PyData.weightAll], rfl⟩
theorem nxs_cons (h : NX d b w) (r : NXs ds b w') : NXs (d :: ds) b (w + 1 + w') := by
  obtain ⟨p, h1, h2, h3, h4, h5, h6, h7⟩ := h
  obtain ⟨ps, r1, r2, r3, r4, r5, r6, r7⟩ := r
  refine ⟨p :: ps, by simp [D.pysX, h1, r1], by simp [PyData.showableAll, h2, r2], by simp [PyData.leavesShortAll, h3, r3], fun t ht => ?_, by simp only [PyData.depthAll]; omega, by simp only [PyData.weightAll]; omega, by rw [List.all_cons, h7, r7]; rfl⟩
  simp only [PyData.shownAll, List.mem_cons] at ht
  rcases ht with rfl | ht
  · exact h4
  · exact r4 t ht
theorem nx_tup (h : NXs ds b w) : NX (.tup ds) (b + 1) w := by
  obtain ⟨ps, r1, r2, r3, r4, r5, r6, r7⟩ := h
  refine ⟨.tuple ps, by simp [D.pyX, r1], by simpa [PyData.showable] using r2, by simpa [PyData.leavesShort] using r3, ?_, by simp only [PyData.depth]; omega, by simpa only [PyData.weight] using r6, r7⟩
  rw [PyData.shown_tuple]
  refine okC_app (okC_app (of_okC (by decide +kernel)) (okC_join r4)) ?_
  split <;> exact of_okC (by decide +kernel)
theorem nx_list {p : List PyData} (r4 : ∀ t ∈ PyData.shownAll p, okC t) : okC (PyData.list p).shown := by
  rw [PyData.shown_list]
  exact okC_app (okC_app (of_okC (by decide +kernel)) (okC_join r4)) (of_okC (by decide +kernel))
theorem nx_rol (h : NXs ds b w) : NX (.rol ds) (b + 1) w := by
  obtain ⟨ps, r1, r2, r3, r4, r5, r6, r7⟩ := h
  exact ⟨.list ps, by simp [D.pyX, r1], by simpa [PyData.showable] using r2, by simpa [PyData.leavesShort] using r3, nx_list r4, by simp only [PyData.depth]; omega, by simpa only [PyData.weight] using r6, r7⟩
theorem nx_str {x : Str} (h1 : PyData.strOk x = true) (h2 : PyData.strOk (reprText x) = true) (h3 : x.cps.size ≤ w) : NX (.str x) b w := by
  refine ⟨.str x, by simp [D.pyX], by simp [PyData.showable], ?_, ?_, by simp [PyData.depth], by simpa [PyData.weight] using h3, by cases b <;> rfl⟩
  · have o := of_okC h1
    simp only [PyData.leavesShort, List.all_eq_true, decide_eq_true_eq]
    exact fun c hc => Nat.lt_trans (o c hc) (by decide)
  · rw [PyData.shown]; exact of_okC h2
theorem nx_bl {c : Bool} : NX (.bl c) b w := ⟨.bool c, by simp [D.pyX], by simp [PyData.showable], by simp [PyData.leavesShort], by cases c <;> exact of_okC (by decide +kernel), by simp [PyData.depth], by simp [PyData.weight], by cases b <;> rfl⟩
theorem nx_non : NX .non b w := ⟨.none, by simp [D.pyX], by simp [PyData.showable], by simp [PyData.leavesShort], of_okC (by decide +kernel), by simp [PyData.depth], by simp [PyData.weight], by cases b <;> rfl⟩
theorem okC_int (i : Int) : okC (PyData.int i).shown := fun c hc => by
  rcases Nat.lt_or_ge c 0x110000 with h | h
  · exact h
  · exact absurd hc (PyProof.Rows.shown_int_free' (k := c) ⟨by omega, by omega⟩ i)
theorem nx_int {i : Int} (h : i.natAbs < 2 ^ 20) : NX (.int i) b 20 := by
  refine ⟨.int i, by simp [D.pyX], ?_, ?_, okC_int i, by simp [PyData.depth], ?_, by cases b <;> rfl⟩
  · simp only [PyData.showable, decide_eq_true_eq]
    exact log_small (Nat.lt_trans h (by decide))
  · simp only [PyData.leavesShort, decide_eq_true_eq]
    exact Nat.le_trans (PyData.shown_int_le (Nat.lt_trans h (by decide))) (by decide)
  · obtain ⟨p, e, _, _, hw⟩ := nc_int (b := 0) h
    cases e
    exact hw
theorem nx_big : NX (.int (1000000000000000000000000000000000000000)) b 200 ∧ NX (.int (-1000000000000000000000000000000000000000)) b 200 := by
  refine ⟨⟨.int _, by simp [D.pyX]; rfl, ?_, ?_, okC_int _, by simp [PyData.depth], ?_, by cases b <;> rfl⟩, ⟨.int _, by simp [D.pyX]; rfl, ?_, ?_, okC_int _, by simp [PyData.depth], ?_, by cases b <;> rfl⟩⟩
  all_goals first
    | (simp only [PyData.showable, decide_eq_true_eq]; decide +kernel)
    | (simp only [PyData.leavesShort, decide_eq_true_eq]; decide +kernel)
    | (simp only [PyData.weight]; decide +kernel)
theorem nx_d00 : NX (.rdc false [.int 0] [.int 0]) 1 100 := by
  refine ⟨.dict [(.int 0, .int 0)], by simp [D.pyX], by decide +kernel, by decide +kernel, of_okC (by decide +kernel), by decide +kernel, by decide +kernel, rfl⟩
mutual
theorem py_pyX : ∀ (d : D) (p : PyData), d.py = some p → d.pyX = some p
  | .non, p, h => h
  | .bl b, p, h => h
  | .int i, p, h => h
  | .str x, p, h => h
  | .tup ds, p, h => by
    simp only [D.py, Option.map_eq_some_iff] at h
    obtain ⟨q, e, rfl⟩ := h
    simp [D.pyX, pys_pysX ds q e]
  | .lst ds, p, h => by
    simp only [D.py, Option.map_eq_some_iff] at h
    obtain ⟨q, e, rfl⟩ := h
    simp [D.pyX, pys_pysX ds q e]
  | .rol ds, p, h => by
    simp only [D.py, Option.map_eq_some_iff] at h
    obtain ⟨q, e, rfl⟩ := h
    simp [D.pyX, pys_pysX ds q e]
  | .dct _ _ _, p, h => by simp [D.py] at h
  | .obj _, p, h => by simp [D.py] at h
  | .opq _, p, h => by simp [D.py] at h
  | .rdc _ _ _, p, h => by simp [D.py] at h
  | .cod _ _, p, h => by simp [D.py] at h
theorem pys_pysX : ∀ (ds : List D) (ps : List PyData), D.pys ds = some ps → D.pysX ds = some ps
  | [], ps, h => h
  | d :: r, ps, h => by
    simp only [D.pys, Option.bind_eq_some_iff, Option.map_eq_some_iff] at h
    obtain ⟨p, e1, q, e2, rfl⟩ := h
    simp [D.pysX, py_pyX d p e1, pys_pysX r q e2]
end
theorem NX.repr (h : NX d b w) (hb : b ≤ 40) (hw : w ≤ 300000) (row : d.rowOf.isSome = true) : ∃ x : Str, PyData.strOk x = true ∧ ∀ {Q : Res → Sx → Prop} {S : Sx}, Rn (opReprX d) S Q = Q (.dat (.str x)) S := by
  obtain ⟨p, h1, h2, h3, h4, h5, h6, h7⟩ := h
  refine ⟨p.shown, okC_of h4, fun {Q S} => ?_⟩
  have sz : p.shown.length ≤ sizeLine := by
    have := PyData.shown_le 42 (by decide) p h3
    have e : sizeLine = 16777216 := by decide
    omega
  unfold opReprX
  cases e : d.shown with
  | some t =>
    have tp : t = p.shown := by
      unfold D.shown at e
      obtain ⟨q, e1, e2⟩ := Option.bind_eq_some_iff.mp e
      have := py_pyX d q e1
      rw [h1] at this
      cases this
      split at e2
      · exact (Option.some.inj e2).symm
      · cases e2
    rw [tp]; rfl
  | none =>
    have e2 : d.shownX = some p.shown := by
      unfold D.shownX
      rw [h1]
      simp [h2, sz, row, show p.depth ≤ 64 by omega]
    rw [e2]; rfl
theorem NX.selfy (h : NX d b w) (hb : b ≤ 40) (row : d.rowOf.isSome = true) : d.selfy = true := by
  obtain ⟨p, h1, h2, h3, h4, h5, h6, h7⟩ := h
  have all : ∀ {b : Nat} {ds : List D}, b ≤ 40 → ds.all (D.eqn b) = true → ds.all (D.eqn 40) = true := fun {b ds} hb h => by
    rw [List.all_eq_true] at h ⊢
    exact fun x hx => eqn_le (h x hx) hb
  unfold D.selfy
  cases d with
  | tup ds => cases b with
    | zero => simp [D.eqn] at h7
    | succ b => exact all (by omega) h7
  | lst ds => cases b with
    | zero => simp [D.eqn] at h7
    | succ b => exact all (by omega) h7
  | rol ds => cases b with
    | zero => simp [D.eqn] at h7
    | succ b => exact all (by omega) h7
  | _ => cases row
theorem eqX_str {x : Str} (hx : PyData.strOk x = true) {Q : Res → Sx → Prop} {S : Sx} : Rn (opEqX (.str x) (.str x)) S Q = Q (.dat (.bl true)) S := by
  unfold opEqX
  rw [if_neg (by simp [D.selfy, D.rowOf]), eq_str_self hx]; rfl
def alikeX : M Fl := (retM (andM (binM opEqX (varM 0) (varM 1)) (binM opEqX (unM opReprX (varM 0)) (unM opReprX (varM 1)))))
theorem alikeX_odd {o : List D} (h : NX d b w) (hb : b ≤ 40) (hw : w ≤ 300000) (row : d.rowOf.isSome = true) {Q : Res → List D → Prop} (q : Q (.dat (.bl true)) o) : Dr (runB 2 alikeX) [d, d] o Q := by
  obtain ⟨x, hx, e⟩ := h.repr hb hw row
  rw [dr_run]
  unfold alikeX
  simp! only [List.replicate, eqX_self (h.selfy hb row), e, eqX_str hx]
  exact q
theorem alikeX_nc {o : List D} (h : Nc d b w) (hb : b ≤ 64) (hw : w ≤ 1048576) {Q : Res → List D → Prop} (q : Q (.dat (.bl true)) o) : Dr (runB 2 alikeX) [d, d] o Q := by
  have e1 : ∀ {Q : Res → Sx → Prop} {S : Sx}, Rn (opEqX d d) S Q = Q (.dat (.bl true)) S := fun {Q S} => by
    by_cases c : d.selfy = true
    · exact eqX_self c
    · unfold opEqX
      rw [if_neg (fun z => c z.2), h.refl hb]; rfl
  obtain ⟨x, hx, e⟩ := h.repr hb hw
  have e2 : ∀ {Q : Res → Sx → Prop} {S : Sx}, Rn (opReprX d) S Q = Q (.dat (.str x)) S := fun {Q S} => by
    have := @e Q S
    unfold opRepr at this
    unfold opReprX
    cases c : d.shown with
    | some t => rw [c] at this; exact this
    | none =>
      exfalso
      have f := @e (fun _ _ => True) ⟨[], []⟩
      unfold opRepr at f
      rw [c] at f
      exact (f.symm ▸ trivial : Rn (M.opt none fun x => pure (Res.dat (D.str x))) ⟨[], []⟩ fun _ _ => True)
  rw [dr_run]
  unfold alikeX
  simp! only [List.replicate, e1, e2, eqX_str hx]
  exact q
theorem er_act {L : Den} {env : List Slot} {o : List D} {E : Exn → Sx → Prop} (h : De L [] o fun x o' => E x ⟨.dat (.opq (.ref 0)) :: env, o'⟩) : Er (actM 0 0 L) ⟨.dat (.opq (.ref 0)) :: env, o⟩ E := by
  unfold Er
  rw [act_at]
  unfold De at h
  cases e : L [] o with
  | none => rw [e] at h; exact h
  | some p =>
    obtain ⟨r, o'⟩ := p
    rw [e] at h
    cases r with
    | ok r => exact h
    | error x => exact h
theorem tc_ret {x : Exn} {S : Sx} {cs : List Clz} {Q : Fl → Sx → Prop} {sub : Str → Option Bool} {hd : Exn → M Fl} {i : Nat} (h : sub x.cls = some true) (st : x.still = true) (q : Rn (hd x) (S.put i .un) fun fl S2 => ∃ d, fl = .ret (.dat d) ∧ Q (.ret (.dat d)) (S2.put i .un)) : Tc x S (⟨some i, sub, hd⟩ :: cs) Q := by
  unfold Tc tryC
  simp only [h, if_pos st]
  unfold Rn at q
  cases e : hd x (S.put i .un) with
  | none => rw [e] at q; exact q.elim
  | some p =>
    obtain ⟨r, S'⟩ := p
    rw [e] at q
    cases r with
    | ok fl => obtain ⟨d, rfl, q⟩ := q; exact q
    | error x => exact q.elim
end
end LC
end
section
set_option maxRecDepth 100000
namespace LW
open PySem PySem.Spec L2 DL
def top (i : Nat) : Stmt := PySem.Challenge.pw_oldletters_k27_nets_told.main.body.getD i (.Pass ⟨0, 0, 0, 0⟩)
abbrev s_is_integer : Stmt := top 5
abbrev s_is_index : Stmt := top 6
abbrev s_looked_at : Stmt := top 8
abbrev s_letters_of : Stmt := top 9
abbrev s_states_of : Stmt := top 10
abbrev s_letter_at : Stmt := top 11
abbrev s_code_at : Stmt := top 12
abbrev s_all_states : Stmt := top 13
abbrev s_all_lots : Stmt := top 14
abbrev s_shown_lots : Stmt := top 15
abbrev s_lies_in : Stmt := top 16
abbrev s__law_bag : Stmt := top 18
abbrev s__law_take : Stmt := top 19
abbrev s__law_some : Stmt := top 20
abbrev s__law_alike : Stmt := top 21
abbrev s__law_free : Stmt := top 22
abbrev s__law_form : Stmt := top 23
abbrev s__law_worker : Stmt := top 24
abbrev s__law_net : Stmt := top 25
abbrev s__law_lot : Stmt := top 26
abbrev s__law_lots : Stmt := top 27
abbrev s__law_box : Stmt := top 28
abbrev s__law_inside : Stmt := top 29
abbrev s__law_shown : Stmt := top 30
abbrev s__law_no_index : Stmt := top 31
abbrev s__law_like : Stmt := top 32
abbrev s__law_net_reply : Stmt := top 33
abbrev s__law_net_told : Stmt := top 34
abbrev s__law_net_refused : Stmt := top 35
abbrev s__law_net_boxes : Stmt := top 36
abbrev s_law : Stmt := top 37
def lamP__law_net_refused : Addr := 237
def b_is_integer : M Fl := (retM (andM (unM (opIsi "int") (varM 0)) (notM (unM (opIsi "bool") (varM 0)))))
def d_is_integer : Den := runB 1 b_is_integer
def b_is_index : M Fl := (retM (andM (callM 1 d_is_integer (consA (varM 0) nilA)) (chM (fun i j => decide (i ≤ j)) (fun i j => decide (i < j)) (kM (.int 0)) (varM 0) (varM 1))))
def d_is_index : Den := runB 2 b_is_index
def b_looked_at : M Fl := (seqM (ifM (notT (testM (callM 2 d_is_index (consA (varM 1) (consA (unM opLen (binM opIx (varM 0) (kM (.int 0)))) nilA))))) (raiseM "NoWorker" "worker" (consA (varM 1) nilA)) (pure .next))
  (retM (binM opIx (binM opIx (varM 0) (kM (.int 0))) (varM 1))))
def d_looked_at : Den := runB 2 b_looked_at
def b_letters_of : M Fl := (retM (binM opIx (callM 2 d_looked_at (consA (varM 0) (consA (varM 1) nilA))) (kM (.int 0))))
def d_letters_of : Den := runB 2 b_letters_of
def b_states_of : M Fl := (retM (unM opLen (binM opIx (callM 2 d_looked_at (consA (varM 0) (consA (varM 1) nilA))) (kM (.int 1)))))
def d_states_of : Den := runB 2 b_states_of
def b_letter_at : M Fl := (seqM (asgM 3 (binM opIx (callM 2 d_looked_at (consA (varM 0) (consA (varM 1) nilA))) (kM (.int 1))))
  (seqM (ifM (notT (testM (callM 2 d_is_index (consA (varM 2) (consA (unM opLen (varM 3)) nilA))))) (raiseM "NoState" "state" (consA (varM 2) nilA)) (pure .next))
  (retM (binM opIx (varM 3) (varM 2)))))
def d_letter_at : Den := runB 4 b_letter_at
def b_code_at : M Fl := (seqM (asgM 3 (binM opIx (callM 2 d_looked_at (consA (varM 0) (consA (varM 1) nilA))) (kM (.int 2))))
  (seqM (ifM (notT (testM (callM 2 d_is_index (consA (varM 2) (consA (unM opLen (varM 3)) nilA))))) (raiseM "NoState" "state" (consA (varM 2) nilA)) (pure .next))
  (retM (binM opIx (varM 3) (varM 2)))))
def d_code_at : Den := runB 4 b_code_at
def b_all_states : M Fl := (retM (unM opTuple (lcM (seqI (binM opIx (varM 0) (kM (.int 0)))) [1] (turnM (gN 1) (pure true) (unM opTupRg (unM opLen (binM opIx (varM 1) (kM (.int 1)))))))))
def d_all_states : Den := runB 2 b_all_states
def b_all_lots : M Fl := (retM (unM opTuple (lcM (seqI (binM opIx (varM 0) (kM (.int 0)))) [1] (turnM (gN 1) (pure true) (unM opTupRg (binM opIx (varM 1) (kM (.int 0))))))))
def d_all_lots : Den := runB 2 b_all_lots
def b_shown_lots : M Fl := (seqM (asgM 2 (lstM nilA))
  (seqM (forIn (zipI (consA (binM opIx (varM 0) (kM (.int 0))) (consA (varM 1) nilA))) (gT 2 (gsC (gN 3) (gsC (gN 4) gsN))) (seqM (asgM 5 (dnewM false))
  (seqM (forIn (seqI (varM 4)) (gN 6) (storeM 5 (kM (.bl true)) (binM opIx (binM opIx (varM 3) (kM (.int 1))) (varM 6))))
  (exprM (methM "list" 2 (unM opTuple (unM opSortedE (varM 5))) opAppend)))))
  (retM (unM opTuple (varM 2)))))
def d_shown_lots : Den := runB 7 b_shown_lots
def b_lies_in : M Fl := (seqM (forIn (zipI (consA (varM 0) (consA (varM 1) nilA))) (gT 2 (gsC (gN 2) (gsC (gN 3) gsN))) (forIn (seqI (varM 2)) (gN 4) (ifM (cmpT (opIn true) (varM 4) (varM 3)) (retM (kM (.bl false))) (pure .next))))
  (retM (kM (.bl true))))
def d_lies_in : Den := runB 5 b_lies_in
def b__law_bag : M Fl := (retM (lstM (consA (kM (.int 0)) (consA (kM (.int 1234567891)) (consA (kM (.int 0)) (consA (frzM (lcM (seqI (slM (varM 0) (pure none) (partM (kM (.int 63))))) [1] (turnM (gN 1) (pure true) (unM opAbs (varM 1))))) nilA))))))
def d__law_bag : Den := runB 2 b__law_bag
def b__law_take : M Fl := (seqM (ifM (cmpT (opEq false) (binMO opIx (varM 0) (kM (.int 0))) (kM (.int 0))) (seqM (asgM 4 (binM opIx (binM opAdd (slM (binMO opIx (varM 0) (kM (.int 3))) (partM (binMO opIx (varM 0) (kM (.int 2)))) (pure none)) (lstM (consA (kM (.int 0)) nilA))) (kM (.int 0))))
  (seqM (augSM 0 (fun i j => i + j) (kM (.int 2)) (kM (.int 1)))
  (seqM (ifM (cmpT opGe (varM 4) (binM opPow (kM (.int 10)) (kM (.int 18)))) (storeM 0 (varM 4) (kM (.int 0))) (pure .next))
  (seqM (asgM 5 (binM opAdd (binM opAdd (binM opMul (binMO opIx (varM 0) (kM (.int 1))) (kM (.int 48271))) (binM opMod (unM opInt (varM 4)) (kM (.int 2147483647)))) (binM opMul (kM (.int 7919)) (binMO opIx (varM 0) (kM (.int 2))))))
  (storeM 0 (binM opMod (unM opInt (varM 5)) (kM (.int 2147483647))) (kM (.int 1))))))) (pure .next))
  (seqM (ifM (cmpT opGt (binMO opIx (varM 0) (kM (.int 0))) (kM (.int 0))) (seqM (asgM 6 (binM opMod (unM opInt (binMO opIx (varM 0) (kM (.int 0)))) (varM 1)))
  (seqM (storeM 0 (binM opDiv (unM opInt (binMO opIx (varM 0) (kM (.int 0)))) (varM 1)) (kM (.int 0)))
  (retM (varM 6)))) (pure .next))
  (seqM (asgM 2 (binM opMod (unM opInt (binM opMul (binM opAdd (binMO opIx (varM 0) (kM (.int 1))) (kM (.int 1))) (kM (.int 39373)))) (kM (.int 1000000007))))
  (seqM (asgM 3 (binM opMod (unM opInt (binM opMul (binM opMod (unM opInt (binM opMul (varM 2) (varM 2))) (kM (.int 998244353))) (kM (.int 30011)))) (kM (.int 998244353))))
  (retM (binM opMod (unM opInt (binM opDiv (varM 3) (kM (.int 7)))) (varM 1)))))))
def d__law_take : Den := runB 7 b__law_take
def b__law_some : M Fl := (retM (binM opIx (varM 1) (callM 2 d__law_take (consA (varM 0) (consA (unM opLen (varM 1)) nilA)))))
def d__law_some : Den := runB 2 b__law_some
def b__law_alike : M Fl := (retM (andM (binM opEqX (varM 0) (varM 1)) (binM opEqX (unM opReprX (varM 0)) (unM opReprX (varM 1)))))
def d__law_alike : Den := runB 2 b__law_alike
def b__law_free (r : Den) : M Fl := (seqM (ifM (orT (cmpT (opEq false) (varM 4) (kM (.int 0))) (cmpT (opEq false) (callM 2 d__law_take (consA (varM 0) (consA (kM (.int 4)) nilA))) (kM (.int 0)))) (retM (tupM (consA (kM (.str "go")) (consA (callM 2 d__law_take (consA (varM 0) (consA (binM opIx (varM 2) (varM 1)) nilA))) nilA)))) (pure .next))
  (seqM (asgM 5 (callM 2 d__law_take (consA (varM 0) (consA (unM opLen (varM 3)) nilA))))
  (seqM (par2M 7 8 (callM 2 d__law_take (consA (varM 0) (consA (binM opIx (varM 3) (varM 5)) nilA))) (lstM nilA))
  (seqM (forIn (rng1I (binM opIx (varM 3) (varM 5))) (gN 6) (exprM (methM "list" 8 (callM 5 r (consA (varM 0) (consA (varM 1) (consA (varM 2) (consA (varM 3) (consA (ifM (andT (cmpT (opEq false) (varM 4) (kM (.int 3))) (cmpT (opEq true) (varM 6) (varM 7))) (kM (.int 1)) (binM opSub (varM 4) (kM (.int 1)))) nilA)))))) opAppend)))
  (retM (tupM (consA (kM (.str "get")) (consA (varM 5) (consA (unM opTuple (varM 8)) nilA)))))))))
def d__law_free : Nat → Den
  | 0 => fun _ _ => none
  | n + 1 => runB 9 (b__law_free (d__law_free n))
def b__law_form : M Fl := (seqM (asgM 5 (lcM (rng1I (varM 4)) [7] (turnM (gN 7) (pure true) (binM opMod (varM 7) (varM 2)))))
  (seqM (ifM (cmpT (opEq false) (varM 0) (kM (.int 2))) (asgM 5 (lcM (rng1I (varM 4)) [7] (turnM (gN 7) (pure true) (binM opMod (binM opAdd (varM 7) (kM (.int 1))) (varM 2))))) (ifM (cmpT (opEq false) (varM 0) (kM (.int 3))) (asgM 5 (lcM (rng1I (varM 4)) [7] (turnM (gN 7) (pure true) (binM opMod (binM opAdd (varM 1) (unM opInt (binM (opEq false) (varM 7) (binM opMod (varM 1) (varM 4))))) (varM 2))))) (ifM (cmpT (opEq false) (varM 0) (kM (.int 4))) (asgM 5 (lcM (rng1I (varM 4)) [7] (turnM (gN 7) (pure true) (binM opMax2 (varM 1) (binM opMod (varM 7) (varM 2)))))) (ifM (orT (andT (cmpT (opEq false) (varM 0) (kM (.int 5))) (cmpT opGt (varM 1) (kM (.int 0)))) (andT (cmpT (opEq false) (varM 0) (kM (.int 6))) (cmpT (opEq false) (varM 1) (kM (.int 0))))) (retM (tupM (consA (kM (.str "go")) (consA (binM opMin2 (binM opAdd (varM 1) (unM opInt (binM (opEq false) (varM 0) (kM (.int 6))))) (binM opSub (varM 2) (kM (.int 1)))) nilA)))) (ifM (andT (cmpT (opEq false) (varM 0) (kM (.int 7))) (cmpT opGt (varM 1) (kM (.int 0)))) (retM (tupM (consA (kM (.str "go")) (consA (ifM (cmpT opLt (binM opAdd (varM 1) (kM (.int 2))) (varM 2)) (binM opAdd (varM 1) (kM (.int 2))) (binM opSub (kM (.int 2)) (binM opMod (varM 1) (kM (.int 2))))) nilA)))) (ifM (cmpT (opEq false) (varM 0) (kM (.int 8))) (retM (tupM (consA (kM (.str "go")) (consA (binM opMod (binM opAdd (varM 1) (kM (.int 1))) (varM 2)) nilA)))) (ifM (cmpT (opEq false) (varM 0) (kM (.int 7))) (asgM 5 (lcM (rng1I (varM 4)) [7] (turnM (gN 7) (pure true) (binM opMin2 (binM opAdd (varM 7) (kM (.int 1))) (binM opSub (varM 2) (kM (.int 1))))))) (pure .next))))))))
  (seqM (ifM (cmpT (opEq false) (varM 0) (kM (.int 9))) (seqM (asgM 6 (lcM (rng1I (varM 4)) [7] (turnM (gN 7) (pure true) (frzM (lcM (rng1I (varM 4)) [8] (turnM (gN 8) (pure true) (tupM (consA (kM (.str "go")) (consA (ifM (cmpT (opEq false) (varM 7) (varM 8)) (varM 1) (binM opSub (varM 2) (kM (.int 1)))) nilA)))))))))
  (retM (tupM (consA (kM (.str "get")) (consA (varM 3) (consA (unM opTuple (lcM (seqI (varM 6)) [10] (turnM (gN 10) (pure true) (tupM (consA (kM (.str "get")) (consA (varM 3) (consA (unM opTuple (varM 10)) nilA))))))) nilA)))))) (pure .next))
  (retM (tupM (consA (kM (.str "get")) (consA (varM 3) (consA (unM opTuple (lcM (seqI (varM 5)) [9] (turnM (gN 9) (pure true) (tupM (consA (kM (.str "go")) (consA (varM 9) nilA)))))) nilA))))))))
def d__law_form : Den := runB 11 b__law_form
def b__law_worker : M Fl := (seqM (asgG (tupM (consA (callM 2 d__law_take (consA (varM 0) (consA (kM (.int 10)) nilA))) (consA (callM 2 d__law_take (consA (varM 0) (consA (unM opLen (varM 3)) nilA))) nilA))) (gT 2 (gsC (gN 7) (gsC (gN 8) gsN))))
  (seqM (asgM 5 (lcM (rng1I (binM opIx (varM 2) (varM 1))) [9] (turnM (gN 9) (pure true) (binM opMod (varM 9) (binM opIx (varM 3) (varM 1))))))
  (seqM (ifM (cmpT (opEq false) (callM 2 d__law_take (consA (varM 0) (consA (kM (.int 3)) nilA))) (kM (.int 0))) (asgM 5 (lcM (rng1I (binM opIx (varM 2) (varM 1))) [9] (turnM (gN 9) (pure true) (callM 2 d__law_take (consA (varM 0) (consA (binM opIx (varM 3) (varM 1)) nilA)))))) (pure .next))
  (seqM (asgM 6 (lcM (rng1I (binM opIx (varM 2) (varM 1))) [9] (turnM (gN 9) (cmpT opGt (varM 7) (kM (.int 0))) (callM 5 d__law_form (consA (varM 7) (consA (varM 9) (consA (binM opIx (varM 2) (varM 1)) (consA (varM 8) (consA (binM opIx (varM 3) (varM 8)) nilA)))))))))
  (seqM (ifM (cmpT (opEq false) (varM 7) (kM (.int 0))) (asgM 6 (lcM (rng1I (binM opIx (varM 2) (varM 1))) [9] (turnM (gN 9) (pure true) (callM 5 (d__law_free 5) (consA (varM 0) (consA (varM 1) (consA (varM 2) (consA (varM 3) (consA (varM 4) nilA))))))))) (ifM (cmpT (opEq false) (callM 2 d__law_take (consA (varM 0) (consA (kM (.int 2)) nilA))) (kM (.int 0))) (storeM 6 (callM 5 (d__law_free 5) (consA (varM 0) (consA (varM 1) (consA (varM 2) (consA (varM 3) (consA (varM 4) nilA)))))) (callM 2 d__law_take (consA (varM 0) (consA (unM opLen (varM 6)) nilA)))) (pure .next)))
  (retM (tupM (consA (binM opIx (varM 3) (varM 1)) (consA (unM opTuple (varM 5)) (consA (unM opTuple (varM 6)) nilA))))))))))
def d__law_worker : Den := runB 10 b__law_worker
def b__law_net : M Fl := (seqM (asgM 6 (binM opAdd (kM (.int 1)) (callM 2 d__law_take (consA (varM 0) (consA (varM 1) nilA)))))
  (seqM (asgM 7 (lcM (rng1I (varM 6)) [11] (turnM (gN 11) (pure true) (binM opAdd (kM (.int 1)) (binM opMax2 (callM 2 d__law_take (consA (varM 0) (consA (varM 3) nilA))) (callM 2 d__law_take (consA (varM 0) (consA (varM 3) nilA))))))))
  (seqM (asgM 8 (lcM (rng1I (varM 6)) [11] (turnM (gN 11) (pure true) (binM opAdd (kM (.int 1)) (binM opMax2 (callM 2 d__law_take (consA (varM 0) (consA (varM 2) nilA))) (callM 2 d__law_take (consA (varM 0) (consA (varM 2) nilA))))))))
  (seqM (asgM 9 (lcM (rng1I (callM 2 d__law_take (consA (varM 0) (consA (binM opAdd (varM 5) (kM (.int 1))) nilA)))) [11] (turnM (gN 11) (pure true) (callM 2 d__law_take (consA (varM 0) (consA (varM 6) nilA))))))
  (seqM (asgM 10 (lcM (rng1I (varM 6)) [11] (turnM (gN 11) (pure true) (callM 5 d__law_worker (consA (varM 0) (consA (varM 11) (consA (varM 8) (consA (varM 7) (consA (varM 4) nilA)))))))))
  (retM (tupM (consA (unM opTuple (varM 10)) (consA (unM opTuple (lcM (rng1I (varM 6)) [11] (turnM (gN 11) (cmpT (opIn false) (varM 11) (varM 9)) (varM 11)))) nilA)))))))))
def d__law_net : Den := runB 12 b__law_net
def b__law_lot : M Fl := (seqM (asgM 2 (callM 2 d__law_take (consA (varM 0) (consA (varM 1) nilA))))
  (retM (unM opTuple (lcM (rng1I (varM 1)) [3] (turnM (gN 3) (orT (cmpT (opEq false) (varM 3) (varM 2)) (cmpT (opEq false) (callM 2 d__law_take (consA (varM 0) (consA (kM (.int 2)) nilA))) (kM (.int 0)))) (varM 3))))))
def d__law_lot : Den := runB 4 b__law_lot
def b__law_lots : M Fl := (retM (unM opTuple (lcM (seqI (binM opIx (varM 1) (kM (.int 0)))) [2] (turnM (gN 2) (pure true) (callM 2 d__law_lot (consA (varM 0) (consA (binM opIx (varM 2) (kM (.int 0))) nilA)))))))
def d__law_lots : Den := runB 3 b__law_lots
def b__law_box : M Fl := (retM (unM opTuple (lcM (seqI (binM opIx (varM 1) (kM (.int 0)))) [2] (turnM (gN 2) (pure true) (callM 2 d__law_lot (consA (varM 0) (consA (unM opLen (binM opIx (varM 2) (kM (.int 1)))) nilA)))))))
def d__law_box : Den := runB 3 b__law_box
def b__law_inside : M Fl := (retM (unM opAll (lcM (rng1I (unM opLen (varM 0))) [2] (turnM (gN 2) (pure true) (unM opAll (lcM (seqI (binM opIx (varM 0) (varM 2))) [3] (turnM (gN 3) (pure true) (binM (opIn false) (varM 3) (binM opIx (varM 1) (varM 2))))))))))
def d__law_inside : Den := runB 4 b__law_inside
def b__law_shown : M Fl := (retM (unM opTuple (lcM (rng1I (unM opLen (varM 0))) [2] (turnM (gN 2) (pure true) (unM opTuple (unM opSortSetE (lcM (seqI (binM opIx (varM 1) (varM 2))) [3] (turnM (gN 3) (pure true) (binM opIx (binM opIx (binM opIx (varM 0) (varM 2)) (kM (.int 1))) (varM 3))))))))))
def d__law_shown : Den := runB 4 b__law_shown
def b__law_no_index : M Fl := (seqM (asgM 2 (lstM (consA (kM .non) (consA (kM (.bl true)) (consA (kM (.bl false)) (consA (negM (kM (.int 1))) (consA (varM 1) (consA (binM opAdd (varM 1) (kM (.int 1))) (consA (binM opPow (kM (.int 10)) (kM (.int 39))) (consA (binM opSub (kM (.int 0)) (binM opPow (kM (.int 10)) (kM (.int 39)))) (consA (kM (.str "0")) (consA (kM (.str "")) (consA (tupM (consA (kM (.int 0)) nilA)) (consA (frzM (lstM nilA)) (consA (tupM nilA) nilA)))))))))))))))
  (retM (callM 2 d__law_some (consA (varM 0) (consA (binM opAdd (varM 2) (lstM (consA (lockM (pure (.new (.dct false [(.int 0)] [(.int 0)])))) (consA (frzM (lstM (consA (kM (.int 0)) nilA))) (consA (tupM (consA (kM (.int 1)) (consA (kM (.int 2)) nilA))) nilA))))) nilA)))))
def d__law_no_index : Den := runB 3 b__law_no_index
def b__law_like : M Fl := (seqM (par2M 4 5 (callM 2 d__law_take (consA (varM 0) (consA (kM (.int 4)) nilA))) (callM 2 d__law_take (consA (varM 0) (consA (unM opLen (varM 1)) nilA))))
  (seqM (asgM 3 (unM opList (binM opIx (varM 1) (varM 5))))
  (seqM (ifM (andT (cmpT (opEq false) (varM 4) (kM (.int 0))) (cmpT opGt (unM opLen (varM 3)) (kM (.int 1)))) (exprM (methM "list" 3 (callM 2 d__law_take (consA (varM 0) (consA (unM opLen (varM 3)) nilA))) opPopAt)) (ifM (cmpT (opEq false) (varM 4) (kM (.int 1))) (asgM 3 (unM opSortSetE (binM opAdd (varM 3) (lstM (consA (callM 2 d__law_take (consA (varM 0) (consA (binM opIx (varM 2) (varM 5)) nilA))) nilA))))) (ifM (cmpT (opEq false) (varM 4) (kM (.int 2))) (retM (unM opTuple (lcM (seqI (varM 2)) [6] (turnM (gN 6) (pure true) (callM 2 d__law_lot (consA (varM 0) (consA (varM 6) nilA))))))) (pure .next))))
  (retM (binM opAdd (binM opAdd (slM (varM 1) (pure none) (partM (varM 5))) (tupM (consA (unM opTuple (varM 3)) nilA))) (slM (varM 1) (partM (binM opAdd (varM 5) (kM (.int 1)))) (pure none)))))))
def d__law_like : Den := runB 7 b__law_like
def b__law_net_reply (f : Addr) (L : Den) : M Fl := (seqM (tryG [⟨some 1, subL [("NoState", false), ("NoWorker", true)], fun x => (retM (tupM (consA (kM (.str "no worker")) (consA (excM "NoWorker" "worker" x) nilA))))⟩, ⟨some 1, subL [("NoState", true), ("NoWorker", false)], fun x => (retM (tupM (consA (kM (.str "no state")) (consA (excM "NoState" "state" x) nilA))))⟩] (asgM 2 (actM 0 f L)))
  (retM (tupM (consA (kM (.str "told")) (consA (varM 2) nilA)))))
def b__law_net_told : M Fl := (seqM (asgM 1 (binM opIx (varM 0) (kM (.int 0))))
  (seqM (ifM (notT (testM (callM 2 d__law_alike (consA (callM 1 d_all_states (consA (varM 0) nilA)) (consA (unM opTuple (lcM (seqI (varM 1)) [3] (turnM (gN 3) (pure true) (unM opTupRg (unM opLen (binM opIx (varM 3) (kM (.int 1)))))))) nilA))))) (retM (kM (.bl false))) (pure .next))
  (seqM (ifM (notT (testM (callM 2 d__law_alike (consA (callM 1 d_all_lots (consA (varM 0) nilA)) (consA (unM opTuple (lcM (seqI (varM 1)) [3] (turnM (gN 3) (pure true) (unM opTupRg (binM opIx (varM 3) (kM (.int 0))))))) nilA))))) (retM (kM (.bl false))) (pure .next))
  (seqM (forIn (enumI (varM 1)) (gT 2 (gsC (gN 2) (gsC (gN 3) gsN))) (seqM (ifM (notT (testM (callM 2 d__law_alike (consA (lstM (consA (callM 2 d_letters_of (consA (varM 0) (consA (varM 2) nilA))) (consA (callM 2 d_states_of (consA (varM 0) (consA (varM 2) nilA))) nilA))) (consA (lstM (consA (binM opIx (varM 3) (kM (.int 0))) (consA (unM opLen (binM opIx (varM 3) (kM (.int 1)))) nilA))) nilA))))) (retM (kM (.bl false))) (pure .next))
  (forIn (rng1I (unM opLen (binM opIx (varM 3) (kM (.int 1))))) (gN 4) (seqM (ifM (notT (testM (callM 2 d__law_alike (consA (callM 3 d_letter_at (consA (varM 0) (consA (varM 2) (consA (varM 4) nilA)))) (consA (binM opIx (binM opIx (varM 3) (kM (.int 1))) (varM 4)) nilA))))) (retM (kM (.bl false))) (pure .next))
  (ifM (notT (testM (callM 2 d__law_alike (consA (callM 3 d_code_at (consA (varM 0) (consA (varM 2) (consA (varM 4) nilA)))) (consA (binM opIx (binM opIx (varM 3) (kM (.int 2))) (varM 4)) nilA))))) (retM (kM (.bl false))) (pure .next))))))
  (retM (kM (.bl true)))))))
def d__law_net_told : Den := runB 5 b__law_net_told
def b__law_net_refused : M Fl := (seqM (asgM 2 (callM 2 d__law_take (consA (varM 0) (consA (unM opLen (binM opIx (varM 1) (kM (.int 0)))) nilA))))
  (seqM (asgM 3 (unM opLen (binM opIx (binM opIx (binM opIx (varM 1) (kM (.int 0))) (varM 2)) (kM (.int 1)))))
  (seqM (asgG (tupM (consA (callM 2 d__law_no_index (consA (varM 0) (consA (unM opLen (binM opIx (varM 1) (kM (.int 0)))) nilA))) (consA (callM 2 d__law_no_index (consA (varM 0) (consA (varM 3) nilA))) nilA))) (gT 2 (gsC (gN 6) (gsC (gN 7) gsN))))
  (seqM (asgM 4 (callM 2 d__law_some (consA (varM 0) (consA (lstM (consA (callM 2 d__law_take (consA (varM 0) (consA (varM 3) nilA))) (consA (varM 7) nilA))) nilA))))
  (seqM (asgM 5 (tupM (consA (kM (.str "no worker")) (consA (varM 6) nilA))))
  (seqM (ifM (notT (testM (callM 2 d__law_alike (consA (lamM (fun f L => runB 3 (b__law_net_reply f L)) 0 lamP__law_net_refused "_law_net_refused.<locals>.<lambda>" [1, 6] (callM 2 d_letters_of (consA (varM 1) (consA (varM 6) nilA)))) (consA (varM 5) nilA))))) (retM (kM (.bl false))) (pure .next))
  (seqM (ifM (notT (testM (callM 2 d__law_alike (consA (lamM (fun f L => runB 3 (b__law_net_reply f L)) 0 lamP__law_net_refused "_law_net_refused.<locals>.<lambda>" [1, 6] (callM 2 d_states_of (consA (varM 1) (consA (varM 6) nilA)))) (consA (varM 5) nilA))))) (retM (kM (.bl false))) (pure .next))
  (seqM (ifM (notT (testM (callM 2 d__law_alike (consA (lamM (fun f L => runB 3 (b__law_net_reply f L)) 0 lamP__law_net_refused "_law_net_refused.<locals>.<lambda>" [1, 4, 6] (callM 3 d_letter_at (consA (varM 1) (consA (varM 6) (consA (varM 4) nilA))))) (consA (varM 5) nilA))))) (retM (kM (.bl false))) (pure .next))
  (seqM (ifM (notT (testM (callM 2 d__law_alike (consA (lamM (fun f L => runB 3 (b__law_net_reply f L)) 0 lamP__law_net_refused "_law_net_refused.<locals>.<lambda>" [1, 4, 6] (callM 3 d_code_at (consA (varM 1) (consA (varM 6) (consA (varM 4) nilA))))) (consA (varM 5) nilA))))) (retM (kM (.bl false))) (pure .next))
  (seqM (ifM (notT (testM (callM 2 d__law_alike (consA (lamM (fun f L => runB 3 (b__law_net_reply f L)) 0 lamP__law_net_refused "_law_net_refused.<locals>.<lambda>" [1, 2, 7] (callM 3 d_letter_at (consA (varM 1) (consA (varM 2) (consA (varM 7) nilA))))) (consA (tupM (consA (kM (.str "no state")) (consA (varM 7) nilA))) nilA))))) (retM (kM (.bl false))) (pure .next))
  (retM (callM 2 d__law_alike (consA (lamM (fun f L => runB 3 (b__law_net_reply f L)) 0 lamP__law_net_refused "_law_net_refused.<locals>.<lambda>" [1, 2, 7] (callM 3 d_code_at (consA (varM 1) (consA (varM 2) (consA (varM 7) nilA))))) (consA (tupM (consA (kM (.str "no state")) (consA (varM 7) nilA))) nilA))))))))))))))
def d__law_net_refused : Den := runB 8 b__law_net_refused
def b__law_net_boxes : M Fl := (seqM (parNM 3 4 (lcM (seqI (binM opIx (varM 1) (kM (.int 0)))) [11] (turnM (gN 11) (pure true) (unM opLen (binM opIx (varM 11) (kM (.int 1)))))) (lcM (seqI (binM opIx (varM 1) (kM (.int 0)))) [11] (turnM (gN 11) (pure true) (binM opIx (varM 11) (kM (.int 0))))))
  (seqM (par2M 5 6 (callM 2 d__law_box (consA (varM 0) (consA (varM 1) nilA))) (callM 2 d__law_lots (consA (varM 0) (consA (varM 1) nilA))))
  (seqM (forIn (rng1I (kM (.int 3))) (gN 2) (seqM (par2M 9 10 (callM 3 d__law_like (consA (varM 0) (consA (varM 5) (consA (varM 3) nilA)))) (callM 3 d__law_like (consA (varM 0) (consA (varM 6) (consA (varM 4) nilA)))))
  (seqM (ifM (notT (testM (callM 2 d__law_alike (consA (callM 2 d_shown_lots (consA (varM 1) (consA (varM 9) nilA))) (consA (callM 2 d__law_shown (consA (binM opIx (varM 1) (kM (.int 0))) (consA (varM 9) nilA))) nilA))))) (retM (kM (.bl false))) (pure .next))
  (seqM (asgM 7 (lstM (consA (callM 2 d_lies_in (consA (varM 5) (consA (varM 9) nilA))) (consA (callM 2 d_lies_in (consA (varM 9) (consA (varM 5) nilA))) (consA (callM 2 d_lies_in (consA (varM 6) (consA (varM 10) nilA))) (consA (callM 2 d_lies_in (consA (varM 10) (consA (varM 6) nilA))) nilA))))))
  (seqM (asgM 8 (lstM (consA (callM 2 d__law_inside (consA (varM 5) (consA (varM 9) nilA))) (consA (callM 2 d__law_inside (consA (varM 9) (consA (varM 5) nilA))) nilA))))
  (seqM (asgM 8 (binM opAdd (varM 8) (lstM (consA (callM 2 d__law_inside (consA (varM 6) (consA (varM 10) nilA))) (consA (callM 2 d__law_inside (consA (varM 10) (consA (varM 6) nilA))) nilA)))))
  (ifM (orT (notT (testM (callM 2 d__law_alike (consA (varM 7) (consA (varM 8) nilA))))) (notT (testM (callM 2 d__law_alike (consA (callM 2 d_lies_in (consA (varM 9) (consA (varM 9) nilA))) (consA (kM (.bl true)) nilA)))))) (retM (kM (.bl false))) (pure .next))))))))
  (retM (callM 2 d__law_alike (consA (callM 2 d_shown_lots (consA (varM 1) (consA (varM 5) nilA))) (consA (callM 2 d__law_shown (consA (binM opIx (varM 1) (kM (.int 0))) (consA (varM 5) nilA))) nilA)))))))
def d__law_net_boxes : Den := runB 12 b__law_net_boxes
def b_law : M Fl := (seqM (asgTM 1 (callM 1 d__law_bag (consA (varM 0) nilA)))
  (seqM (par2M 3 4 (callM 6 d__law_net (consA (varM 1) (consA (kM (.int 5)) (consA (kM (.int 5)) (consA (kM (.int 4)) (consA (kM (.int 3)) (consA (kM (.int 2)) nilA))))))) (callM 6 d__law_net (consA (varM 1) (consA (kM (.int 5)) (consA (kM (.int 5)) (consA (kM (.int 4)) (consA (kM (.int 3)) (consA (kM (.int 2)) nilA))))))))
  (seqM (forIn (seqI (lstM (consA (varM 3) (consA (varM 4) (consA (varM 3) nilA))))) (gN 2) (seqM (ifM (orT (notT (testM (callM 2 d__law_net_refused (consA (varM 1) (consA (varM 2) nilA))))) (orT (notT (testM (callM 1 d__law_net_told (consA (varM 2) nilA)))) (notT (testM (callM 2 d__law_net_boxes (consA (varM 1) (consA (varM 2) nilA))))))) (retM (kM (.bl false))) (pure .next))
  (ifM (notT (testM (callM 2 d__law_net_refused (consA (varM 1) (consA (varM 2) nilA))))) (retM (kM (.bl false))) (pure .next))))
  (retM (callM 1 d__law_net_told (consA (varM 4) nilA))))))
def d_law : Den := runB 5 b_law
structure Txt (K : PySem.W.Frag) (mg : Str → Option Value) : Prop where
  f_is_integer : Fn0 K mg "is_integer" s_is_integer ["thing"]
  f_is_index : Fn0 K mg "is_index" s_is_index ["thing", "many"]
  f_looked_at : Fn0 K mg "looked_at" s_looked_at ["net", "worker"]
  f_letters_of : Fn0 K mg "letters_of" s_letters_of ["net", "worker"]
  f_states_of : Fn0 K mg "states_of" s_states_of ["net", "worker"]
  f_letter_at : Fn0 K mg "letter_at" s_letter_at ["net", "worker", "state"]
  f_code_at : Fn0 K mg "code_at" s_code_at ["net", "worker", "state"]
  f_all_states : Fn0 K mg "all_states" s_all_states ["net"]
  f_all_lots : Fn0 K mg "all_lots" s_all_lots ["net"]
  f_shown_lots : Fn0 K mg "shown_lots" s_shown_lots ["net", "box"]
  f_lies_in : Fn0 K mg "lies_in" s_lies_in ["one", "other"]
  f__law_bag : Fn0 K mg "_law_bag" s__law_bag ["_law_script"]
  f__law_take : Fn0 K mg "_law_take" s__law_take ["_law_bag_here", "_law_upto"]
  f__law_some : Fn0 K mg "_law_some" s__law_some ["_law_bag_here", "_law_things"]
  f__law_alike : Fn0 K mg "_law_alike" s__law_alike ["_law_found", "_law_due"]
  f__law_free : Fn0 K mg "_law_free" s__law_free ["_law_bag_here", "_law_own", "_law_states", "_law_letters", "_law_deep"]
  f__law_form : Fn0 K mg "_law_form" s__law_form ["_law_form_here", "_law_at", "_law_many", "_law_asked", "_law_heard"]
  f__law_worker : Fn0 K mg "_law_worker" s__law_worker ["_law_bag_here", "_law_own", "_law_states", "_law_letters", "_law_deep"]
  f__law_net : Fn0 K mg "_law_net" s__law_net ["_law_bag_here", "_law_most", "_law_high", "_law_wide", "_law_deep", "_law_steady"]
  f__law_lot : Fn0 K mg "_law_lot" s__law_lot ["_law_bag_here", "_law_many"]
  f__law_lots : Fn0 K mg "_law_lots" s__law_lots ["_law_bag_here", "_law_net_here"]
  f__law_box : Fn0 K mg "_law_box" s__law_box ["_law_bag_here", "_law_net_here"]
  f__law_inside : Fn0 K mg "_law_inside" s__law_inside ["_law_small", "_law_great"]
  f__law_shown : Fn0 K mg "_law_shown" s__law_shown ["_law_workers", "_law_box_here"]
  f__law_no_index : Fn0 K mg "_law_no_index" s__law_no_index ["_law_bag_here", "_law_many"]
  f__law_like : Fn0 K mg "_law_like" s__law_like ["_law_bag_here", "_law_box_here", "_law_many"]
  f__law_net_reply : Fn0 K mg "_law_net_reply" s__law_net_reply ["_law_ask"]
  f__law_net_told : Fn0 K mg "_law_net_told" s__law_net_told ["_law_net_here"]
  f__law_net_refused : Fn0 K mg "_law_net_refused" s__law_net_refused ["_law_bag_here", "_law_net_here"]
  f__law_net_boxes : Fn0 K mg "_law_net_boxes" s__law_net_boxes ["_law_bag_here", "_law_net_here"]
  f_law : Fn0 K mg "law" s_law ["_law_script"]
  l__law_net_refused : Mk K mg "_law_net_refused" lamP__law_net_refused
  m_abs : mg "abs" = none
  m_all : mg "all" = none
  m_bool : mg "bool" = none
  m_enumerate : mg "enumerate" = none
  m_int : mg "int" = none
  m_isinstance : mg "isinstance" = none
  m_len : mg "len" = none
  m_list : mg "list" = none
  m_max : mg "max" = none
  m_min : mg "min" = none
  m_range : mg "range" = none
  m_repr : mg "repr" = none
  m_set : mg "set" = none
  m_sorted : mg "sorted" = none
  m_tuple : mg "tuple" = none
  m_zip : mg "zip" = none
  x_NoState : Own K mg "NoState" "NoState.__init__" "state"
  x_NoWorker : Own K mg "NoWorker" "NoWorker.__init__" "worker"
  e_NoState_NoState : Exm K mg "NoState" "NoState" true
  e_NoWorker_NoState : Exm K mg "NoWorker" "NoState" false
  e_NoState_NoWorker : Exm K mg "NoState" "NoWorker" false
  e_NoWorker_NoWorker : Exm K mg "NoWorker" "NoWorker" true
structure Bse (K : PySem.W.Frag) (mg : Str → Option Value) (base : Heap) : Prop where
  sys : SysM base
  m__law_net_refused : MkB K mg base "_law_net_refused" lamP__law_net_refused
theorem fo_state : PySem.LowX.FldOk "state" := ⟨fun _ _ _ _ _ _ _ _ _ _ _ _ _ _ => rfl, fun _ _ => rfl, fun _ _ _ _ => rfl, by decide, fun _ _ _ _ _ _ => rfl, fun _ _ _ _ _ _ => rfl⟩
theorem fo_worker : PySem.LowX.FldOk "worker" := ⟨fun _ _ _ _ _ _ _ _ _ _ _ _ _ _ => rfl, fun _ _ => rfl, fun _ _ _ _ => rfl, by decide, fun _ _ _ _ _ _ => rfl, fun _ _ _ _ _ _ => rfl⟩
section
variable {P : Program} {w : World} {K : PySem.W.Frag} {mg : Str → Option Value} {base : Heap}
theorem sc_is_integer : FnScope ["thing"] ["thing"] (defScope s_is_integer) := ⟨rfl, rfl, rfl, by decide +kernel, rfl, by decide +kernel, by decide +kernel⟩
theorem k_is_integer (T : Txt K mg) (B : Bse K mg base) : Dn P w K mg base 1 "is_integer" ["thing"] d_is_integer := by
  have m_bool := T.m_bool
  have m_int := T.m_int
  have m_isinstance := T.m_isinstance
  have hN := sc_is_integer.nd
  exact okN T.f_is_integer sc_is_integer fun cdv A outer s H E z gd room tk =>
    (db_one (ds_ret (de_and (de_isi (T := "int") m_isinstance m_int (de_var 0)) (de_one (de_not (de_isi (T := "bool") m_isinstance m_bool (de_var 0)))))))
theorem sc_is_index : FnScope ["thing", "many"] ["thing", "many"] (defScope s_is_index) := ⟨rfl, rfl, rfl, by decide +kernel, rfl, by decide +kernel, by decide +kernel⟩
theorem k_is_index (T : Txt K mg) (B : Bse K mg base) : Dn P w K mg base 2 "is_index" ["thing", "many"] d_is_index := by
  have c_is_integer := (k_is_integer (P := P) (w := w) (base := base) T B).mono (show 1 ≤ 1 by decide)
  have hN := sc_is_index.nd
  exact okN T.f_is_index sc_is_index fun cdv A outer s H E z gd room tk =>
    (db_one (ds_ret (de_and (de_cal c_is_integer gd room tk (dah_cons (de_var 0) dah_nil)) (de_one (de_ch op_le op_lt de_int (de_var 0) (de_var 1))))))
theorem sc_looked_at : FnScope ["net", "worker"] ["net", "worker"] (defScope s_looked_at) := ⟨rfl, rfl, rfl, by decide +kernel, rfl, by decide +kernel, by decide +kernel⟩
theorem k_looked_at (T : Txt K mg) (B : Bse K mg base) : Dn P w K mg base 3 "looked_at" ["net", "worker"] d_looked_at := by
  have c_is_index := (k_is_index (P := P) (w := w) (base := base) T B).mono (show 2 ≤ 2 by decide)
  have m_len := T.m_len
  have hN := sc_looked_at.nd
  exact okN T.f_looked_at sc_looked_at fun cdv A outer s H E z gd room tk =>
    (db_cons (ds_if (dt_not (dt_val (de_cal c_is_index gd room tk (dah_cons (de_var 1) (dah_cons (de_len m_len (de_ix (u65 room) (de_var 0) de_int)) dah_nil))))) (db_one (ds_raiseO rfl fo_worker T.x_NoWorker room tk (de_var 1))) db_nil)
    (db_one (ds_ret (de_ix (u65 room) (de_ix (u65 room) (de_var 0) de_int) (de_var 1)))))
theorem sc_letters_of : FnScope ["net", "worker"] ["net", "worker"] (defScope s_letters_of) := ⟨rfl, rfl, rfl, by decide +kernel, rfl, by decide +kernel, by decide +kernel⟩
theorem k_letters_of (T : Txt K mg) (B : Bse K mg base) : Dn P w K mg base 4 "letters_of" ["net", "worker"] d_letters_of := by
  have c_looked_at := (k_looked_at (P := P) (w := w) (base := base) T B).mono (show 3 ≤ 3 by decide)
  have hN := sc_letters_of.nd
  exact okN T.f_letters_of sc_letters_of fun cdv A outer s H E z gd room tk =>
    (db_one (ds_ret (de_ix (u65 room) (de_cal c_looked_at gd room tk (dah_cons (de_var 0) (dah_cons (de_var 1) dah_nil))) de_int)))
theorem sc_states_of : FnScope ["net", "worker"] ["net", "worker"] (defScope s_states_of) := ⟨rfl, rfl, rfl, by decide +kernel, rfl, by decide +kernel, by decide +kernel⟩
theorem k_states_of (T : Txt K mg) (B : Bse K mg base) : Dn P w K mg base 4 "states_of" ["net", "worker"] d_states_of := by
  have c_looked_at := (k_looked_at (P := P) (w := w) (base := base) T B).mono (show 3 ≤ 3 by decide)
  have m_len := T.m_len
  have hN := sc_states_of.nd
  exact okN T.f_states_of sc_states_of fun cdv A outer s H E z gd room tk =>
    (db_one (ds_ret (de_len m_len (de_ix (u65 room) (de_cal c_looked_at gd room tk (dah_cons (de_var 0) (dah_cons (de_var 1) dah_nil))) de_int))))
theorem sc_letter_at : FnScope ["net", "worker", "state", "shown"] ["net", "worker", "state"] (defScope s_letter_at) := ⟨rfl, rfl, rfl, by decide +kernel, rfl, by decide +kernel, by decide +kernel⟩
theorem k_letter_at (T : Txt K mg) (B : Bse K mg base) : Dn P w K mg base 4 "letter_at" ["net", "worker", "state"] d_letter_at := by
  have c_looked_at := (k_looked_at (P := P) (w := w) (base := base) T B).mono (show 3 ≤ 3 by decide)
  have c_is_index := (k_is_index (P := P) (w := w) (base := base) T B).mono (show 2 ≤ 3 by decide)
  have m_len := T.m_len
  have hN := sc_letter_at.nd
  exact okN T.f_letter_at sc_letter_at fun cdv A outer s H E z gd room tk =>
    (db_cons (ds_set 3 hN (de_ix (u65 room) (de_cal c_looked_at gd room tk (dah_cons (de_var 0) (dah_cons (de_var 1) dah_nil))) de_int))
    (db_cons (ds_if (dt_not (dt_val (de_cal c_is_index gd room tk (dah_cons (de_var 2) (dah_cons (de_len m_len (de_var 3)) dah_nil))))) (db_one (ds_raiseO rfl fo_state T.x_NoState room tk (de_var 2))) db_nil)
    (db_one (ds_ret (de_ix (u65 room) (de_var 3) (de_var 2))))))
theorem sc_code_at : FnScope ["net", "worker", "state", "codes"] ["net", "worker", "state"] (defScope s_code_at) := ⟨rfl, rfl, rfl, by decide +kernel, rfl, by decide +kernel, by decide +kernel⟩
theorem k_code_at (T : Txt K mg) (B : Bse K mg base) : Dn P w K mg base 4 "code_at" ["net", "worker", "state"] d_code_at := by
  have c_looked_at := (k_looked_at (P := P) (w := w) (base := base) T B).mono (show 3 ≤ 3 by decide)
  have c_is_index := (k_is_index (P := P) (w := w) (base := base) T B).mono (show 2 ≤ 3 by decide)
  have m_len := T.m_len
  have hN := sc_code_at.nd
  exact okN T.f_code_at sc_code_at fun cdv A outer s H E z gd room tk =>
    (db_cons (ds_set 3 hN (de_ix (u65 room) (de_cal c_looked_at gd room tk (dah_cons (de_var 0) (dah_cons (de_var 1) dah_nil))) de_int))
    (db_cons (ds_if (dt_not (dt_val (de_cal c_is_index gd room tk (dah_cons (de_var 2) (dah_cons (de_len m_len (de_var 3)) dah_nil))))) (db_one (ds_raiseO rfl fo_state T.x_NoState room tk (de_var 2))) db_nil)
    (db_one (ds_ret (de_ix (u65 room) (de_var 3) (de_var 2))))))
theorem sc_all_states : FnScope ["net", "worker"] ["net"] (defScope s_all_states) := ⟨rfl, rfl, rfl, by decide +kernel, rfl, by decide +kernel, by decide +kernel⟩
theorem k_all_states (T : Txt K mg) (B : Bse K mg base) : Dn P w K mg base 1 "all_states" ["net"] d_all_states := by
  have m_len := T.m_len
  have m_range := T.m_range
  have m_tuple := T.m_tuple
  have hN := sc_all_states.nd
  exact okN T.f_all_states sc_all_states fun cdv A outer s H E z gd room tk =>
    (db_one (ds_ret (de_tuple m_tuple (de_lc (own := [("worker", 1)]) rfl hN (calm_n (i := 1)) (di_seq (de_ix (u65 room) (de_var 0) de_int)) (blkOk_by rfl) (by decide) (fun s H C cl fp z => (dg_name 1 hN)) (fun s H C cl fp => pts_x0) (fun s H C cl fp z hz => (de_tupRg rfl m_tuple m_range (de_len m_len (de_ix (u65 room) (de_var 1) de_int))))))))
theorem sc_all_lots : FnScope ["net", "worker"] ["net"] (defScope s_all_lots) := ⟨rfl, rfl, rfl, by decide +kernel, rfl, by decide +kernel, by decide +kernel⟩
theorem k_all_lots (T : Txt K mg) (B : Bse K mg base) : Dn P w K mg base 1 "all_lots" ["net"] d_all_lots := by
  have m_range := T.m_range
  have m_tuple := T.m_tuple
  have hN := sc_all_lots.nd
  exact okN T.f_all_lots sc_all_lots fun cdv A outer s H E z gd room tk =>
    (db_one (ds_ret (de_tuple m_tuple (de_lc (own := [("worker", 1)]) rfl hN (calm_n (i := 1)) (di_seq (de_ix (u65 room) (de_var 0) de_int)) (blkOk_by rfl) (by decide) (fun s H C cl fp z => (dg_name 1 hN)) (fun s H C cl fp => pts_x0) (fun s H C cl fp z hz => (de_tupRg rfl m_tuple m_range (de_ix (u65 room) (de_var 1) de_int)))))))
theorem sc_shown_lots : FnScope ["net", "box", "found", "worker", "states", "letters", "state"] ["net", "box"] (defScope s_shown_lots) := ⟨rfl, rfl, rfl, by decide +kernel, rfl, by decide +kernel, by decide +kernel⟩
theorem k_shown_lots (T : Txt K mg) (B : Bse K mg base) : Dn P w K mg base 1 "shown_lots" ["net", "box"] d_shown_lots := by
  have m_sorted := T.m_sorted
  have m_tuple := T.m_tuple
  have m_zip := T.m_zip
  have hN := sc_shown_lots.nd
  exact okN T.f_shown_lots sc_shown_lots fun cdv A outer s H E z gd room tk =>
    (db_cons (ds_set 2 hN (de_lst dah_nil))
    (db_cons (ds_for (passes_of rfl) rfl (calm_t (calms_c (calm_n (i := 3)) (calms_c (calm_n (i := 4)) calms_n))) (di_zip rfl m_zip (dah_cons (de_ix (u65 room) (de_var 0) de_int) (dah_cons (de_var 1) dah_nil))) (dg_tup rfl (dgs_cons (dg_name 3 hN) (dgs_cons (dg_name 4 hN) dgs_nil))) (db_cons (ds_set 5 hN de_dnewK)
    (db_cons (ds_for (passes_of rfl) rfl (calm_n (i := 6)) (di_seq (de_var 4)) (dg_name 6 hN) (db_one (ds_store (u65 room) 5 de_bl (de_ix (u65 room) (de_ix (u65 room) (de_var 3) de_int) (de_var 6)))))
    (db_one (ds_expr (de_append 2 (de_tuple m_tuple (de_sortedE rfl (u65 room) m_sorted (de_var 5)))))))))
    (db_one (ds_ret (de_tuple m_tuple (de_var 2))))))
theorem sc_lies_in : FnScope ["one", "other", "entry", "around", "member"] ["one", "other"] (defScope s_lies_in) := ⟨rfl, rfl, rfl, by decide +kernel, rfl, by decide +kernel, by decide +kernel⟩
theorem k_lies_in (T : Txt K mg) (B : Bse K mg base) : Dn P w K mg base 1 "lies_in" ["one", "other"] d_lies_in := by
  have m_zip := T.m_zip
  have hN := sc_lies_in.nd
  exact okN T.f_lies_in sc_lies_in fun cdv A outer s H E z gd room tk =>
    (db_cons (ds_for (passes_of rfl) rfl (calm_t (calms_c (calm_n (i := 2)) (calms_c (calm_n (i := 3)) calms_n))) (di_zip rfl m_zip (dah_cons (de_var 0) (dah_cons (de_var 1) dah_nil))) (dg_tup rfl (dgs_cons (dg_name 2 hN) (dgs_cons (dg_name 3 hN) dgs_nil))) (db_one (ds_for (passes_of rfl) rfl (calm_n (i := 4)) (di_seq (de_var 2)) (dg_name 4 hN) (db_one (ds_if (dt_notin (u65 room) (de_var 4) (de_var 3)) (db_one (ds_ret de_bl)) db_nil)))))
    (db_one (ds_ret de_bl)))
theorem sc__law_bag : FnScope ["_law_script", "_law_cell"] ["_law_script"] (defScope s__law_bag) := ⟨rfl, rfl, rfl, by decide +kernel, rfl, by decide +kernel, by decide +kernel⟩
theorem k__law_bag (T : Txt K mg) (B : Bse K mg base) : Dn P w K mg base 1 "_law_bag" ["_law_script"] d__law_bag := by
  have m_abs := T.m_abs
  have hN := sc__law_bag.nd
  exact okN T.f__law_bag sc__law_bag fun cdv A outer s H E z gd room tk =>
    (db_one (ds_ret (de_lst (dah_cons de_int (dah_cons de_int (dah_cons de_int (dah_cons (de_frz (de_lc (own := [("_law_cell", 1)]) rfl hN (calm_n (i := 1)) (di_seq (de_sl (de_var 0) do_none (do_some de_int))) (blkOk_by rfl) (by decide) (fun s H C cl fp z => (dg_name 1 hN)) (fun s H C cl fp => pts_x0) (fun s H C cl fp z hz => (de_abs m_abs (de_var 1))))) dah_nil)))))))
theorem sc__law_take : FnScope ["_law_bag_here", "_law_upto", "_law_begin", "_law_second", "_law_cell", "_law_stirred", "_law_value"] ["_law_bag_here", "_law_upto"] (defScope s__law_take) := ⟨rfl, rfl, rfl, by decide +kernel, rfl, by decide +kernel, by decide +kernel⟩
theorem k__law_take (T : Txt K mg) (B : Bse K mg base) : Dn P w K mg base 1 "_law_take" ["_law_bag_here", "_law_upto"] d__law_take := by
  have m_int := T.m_int
  have hN := sc__law_take.nd
  exact okN T.f__law_take sc__law_take fun cdv A outer s H E z gd room tk =>
    (db_cons (ds_if (dt_eq (u64 room) (de_ixO (u65 room) (de_var 0) de_int) de_int) (db_cons (ds_set 4 hN (de_ix (u65 room) (de_add (de_sl (de_ixO (u65 room) (de_var 0) de_int) (do_some (de_ixO (u65 room) (de_var 0) de_int)) do_none) (de_lst (dah_cons de_int dah_nil))) de_int))
    (db_cons (ds_augSAdd (u65 room) 0 de_int de_int)
    (db_cons (ds_if (dt_ge (de_var 4) (de_pow de_int de_int)) (db_one (ds_store (u65 room) 0 (de_var 4) de_int)) db_nil)
    (db_cons (ds_set 5 hN (de_add (de_add (de_mul (de_ixO (u65 room) (de_var 0) de_int) de_int) (de_mod (de_intC m_int (de_var 4)) de_int)) (de_mul de_int (de_ixO (u65 room) (de_var 0) de_int))))
    (db_one (ds_store (u65 room) 0 (de_mod (de_intC m_int (de_var 5)) de_int) de_int)))))) db_nil)
    (db_cons (ds_if (dt_gt (de_ixO (u65 room) (de_var 0) de_int) de_int) (db_cons (ds_set 6 hN (de_mod (de_intC m_int (de_ixO (u65 room) (de_var 0) de_int)) (de_var 1)))
    (db_cons (ds_store (u65 room) 0 (de_div (de_intC m_int (de_ixO (u65 room) (de_var 0) de_int)) (de_var 1)) de_int)
    (db_one (ds_ret (de_var 6))))) db_nil)
    (db_cons (ds_set 2 hN (de_mod (de_intC m_int (de_mul (de_add (de_ixO (u65 room) (de_var 0) de_int) de_int) de_int)) de_int))
    (db_cons (ds_set 3 hN (de_mod (de_intC m_int (de_mul (de_mod (de_intC m_int (de_mul (de_var 2) (de_var 2))) de_int) de_int)) de_int))
    (db_one (ds_ret (de_mod (de_intC m_int (de_div (de_var 3) de_int)) (de_var 1))))))))
theorem sc__law_some : FnScope ["_law_bag_here", "_law_things"] ["_law_bag_here", "_law_things"] (defScope s__law_some) := ⟨rfl, rfl, rfl, by decide +kernel, rfl, by decide +kernel, by decide +kernel⟩
theorem k__law_some (T : Txt K mg) (B : Bse K mg base) : Dn P w K mg base 2 "_law_some" ["_law_bag_here", "_law_things"] d__law_some := by
  have c__law_take := (k__law_take (P := P) (w := w) (base := base) T B).mono (show 1 ≤ 1 by decide)
  have m_len := T.m_len
  have hN := sc__law_some.nd
  exact okN T.f__law_some sc__law_some fun cdv A outer s H E z gd room tk =>
    (db_one (ds_ret (de_ix (u65 room) (de_var 1) (de_cal c__law_take gd room tk (dah_cons (de_var 0) (dah_cons (de_len m_len (de_var 1)) dah_nil))))))
theorem sc__law_alike : FnScope ["_law_found", "_law_due"] ["_law_found", "_law_due"] (defScope s__law_alike) := ⟨rfl, rfl, rfl, by decide +kernel, rfl, by decide +kernel, by decide +kernel⟩
theorem k__law_alike (T : Txt K mg) (B : Bse K mg base) : Dn P w K mg base 1 "_law_alike" ["_law_found", "_law_due"] d__law_alike := by
  have m_repr := T.m_repr
  have hN := sc__law_alike.nd
  exact okN T.f__law_alike sc__law_alike fun cdv A outer s H E z gd room tk =>
    (db_one (ds_ret (de_and (de_eqX (u65 room) (de_var 0) (de_var 1)) (de_one (de_eqX (u65 room) (de_reprX B.sys gd (u65 room) m_repr (de_var 0)) (de_reprX B.sys gd (u65 room) m_repr (de_var 1)))))))
theorem sc__law_free : FnScope ["_law_bag_here", "_law_own", "_law_states", "_law_letters", "_law_deep", "_law_asked", "_law_k", "_law_rich", "_law_codes"] ["_law_bag_here", "_law_own", "_law_states", "_law_letters", "_law_deep"] (defScope s__law_free) := ⟨rfl, rfl, rfl, by decide +kernel, rfl, by decide +kernel, by decide +kernel⟩
theorem k__law_free (T : Txt K mg) (B : Bse K mg base) : ∀ n : Nat, Dn P w K mg base (1 + n) "_law_free" ["_law_bag_here", "_law_own", "_law_states", "_law_letters", "_law_deep"] (d__law_free n)
  | 0 => T.f__law_free.none_
  | n + 1 => by
    have c__law_free := k__law_free T B n
    have c__law_take := (k__law_take (P := P) (w := w) (base := base) T B).mono (show 1 ≤ 1 + n by omega)
    have m_len := T.m_len
    have m_range := T.m_range
    have m_tuple := T.m_tuple
    have hN := sc__law_free.nd
    exact okN T.f__law_free sc__law_free fun cdv A outer s H E z gd room tk =>
    (db_cons (ds_if (dt_w (dw_or (dt_eq (u64 room) (de_var 4) de_int) (dw_or1 (dt_eq (u64 room) (de_cal c__law_take gd room tk (dah_cons (de_var 0) (dah_cons de_int dah_nil))) de_int)))) (db_one (ds_ret (de_tup (dah_cons de_str (dah_cons (de_cal c__law_take gd room tk (dah_cons (de_var 0) (dah_cons (de_ix (u65 room) (de_var 2) (de_var 1)) dah_nil))) dah_nil))))) db_nil)
    (db_cons (ds_set 5 hN (de_cal c__law_take gd room tk (dah_cons (de_var 0) (dah_cons (de_len m_len (de_var 3)) dah_nil))))
    (db_cons (ds_par2 7 8 rfl hN (de_cal c__law_take gd room tk (dah_cons (de_var 0) (dah_cons (de_ix (u65 room) (de_var 3) (de_var 5)) dah_nil))) (de_lst dah_nil))
    (db_cons (ds_for (passes_of rfl) rfl (calm_n (i := 6)) (di_rng1 rfl m_range (de_ix (u65 room) (de_var 3) (de_var 5))) (dg_name 6 hN) (db_one (ds_expr (de_append 8 (de_cal c__law_free gd room tk (dah_cons (de_var 0) (dah_cons (de_var 1) (dah_cons (de_var 2) (dah_cons (de_var 3) (dah_cons (de_if (dt_w (dw_and (dt_eq (u64 room) (de_var 4) de_int) (dw_and1 (dt_ne (u64 room) (de_var 6) (de_var 7))))) de_int (de_sub (de_var 4) de_int)) dah_nil))))))))))
    (db_one (ds_ret (de_tup (dah_cons de_str (dah_cons (de_var 5) (dah_cons (de_tuple m_tuple (de_var 8)) dah_nil))))))))))
theorem sc__law_form : FnScope ["_law_form_here", "_law_at", "_law_many", "_law_asked", "_law_heard", "_law_goes", "_law_twice", "_law_k", "_law_m", "_law_state", "_law_row"] ["_law_form_here", "_law_at", "_law_many", "_law_asked", "_law_heard"] (defScope s__law_form) := ⟨rfl, rfl, rfl, by decide +kernel, rfl, by decide +kernel, by decide +kernel⟩
theorem k__law_form (T : Txt K mg) (B : Bse K mg base) : Dn P w K mg base 1 "_law_form" ["_law_form_here", "_law_at", "_law_many", "_law_asked", "_law_heard"] d__law_form := by
  have m_int := T.m_int
  have m_max := T.m_max
  have m_min := T.m_min
  have m_range := T.m_range
  have m_tuple := T.m_tuple
  have hN := sc__law_form.nd
  exact okN T.f__law_form sc__law_form fun cdv A outer s H E z gd room tk =>
    (db_cons (ds_setLc (own := [("_law_k", 7)]) rfl hN (calm_n (i := 7)) (di_rng1 rfl m_range (de_var 4)) (blkOk_by rfl) (by decide) (fun s H C cl fp z => (dg_name 7 hN)) (fun s H C cl fp => pts_x0) (fun s H C cl fp z hz => (de_mod (de_var 7) (de_var 2))))
    (db_cons (ds_if (dt_eq (u64 room) (de_var 0) de_int) (db_one (ds_setLc (own := [("_law_k", 7)]) rfl hN (calm_n (i := 7)) (di_rng1 rfl m_range (de_var 4)) (blkOk_by rfl) (by decide) (fun s H C cl fp z => (dg_name 7 hN)) (fun s H C cl fp => pts_x0) (fun s H C cl fp z hz => (de_mod (de_add (de_var 7) de_int) (de_var 2))))) (db_one (ds_if (dt_eq (u64 room) (de_var 0) de_int) (db_one (ds_setLc (own := [("_law_k", 7)]) rfl hN (calm_n (i := 7)) (di_rng1 rfl m_range (de_var 4)) (blkOk_by rfl) (by decide) (fun s H C cl fp z => (dg_name 7 hN)) (fun s H C cl fp => pts_x0) (fun s H C cl fp z hz => (de_mod (de_add (de_var 1) (de_intC m_int (de_eq (u64 room) (de_var 7) (de_mod (de_var 1) (de_var 4))))) (de_var 2))))) (db_one (ds_if (dt_eq (u64 room) (de_var 0) de_int) (db_one (ds_setLc (own := [("_law_k", 7)]) rfl hN (calm_n (i := 7)) (di_rng1 rfl m_range (de_var 4)) (blkOk_by rfl) (by decide) (fun s H C cl fp z => (dg_name 7 hN)) (fun s H C cl fp => pts_x0) (fun s H C cl fp z hz => (de_max2 rfl m_max (de_var 1) (de_mod (de_var 7) (de_var 2)))))) (db_one (ds_if (dt_w (dw_or (dt_w (dw_and (dt_eq (u64 room) (de_var 0) de_int) (dw_and1 (dt_gt (de_var 1) de_int)))) (dw_or1 (dt_w (dw_and (dt_eq (u64 room) (de_var 0) de_int) (dw_and1 (dt_eq (u64 room) (de_var 1) de_int))))))) (db_one (ds_ret (de_tup (dah_cons de_str (dah_cons (de_min2 rfl m_min (de_add (de_var 1) (de_intC m_int (de_eq (u64 room) (de_var 0) de_int))) (de_sub (de_var 2) de_int)) dah_nil))))) (db_one (ds_if (dt_w (dw_and (dt_eq (u64 room) (de_var 0) de_int) (dw_and1 (dt_gt (de_var 1) de_int)))) (db_one (ds_ret (de_tup (dah_cons de_str (dah_cons (de_if (dt_lt (de_add (de_var 1) de_int) (de_var 2)) (de_add (de_var 1) de_int) (de_sub de_int (de_mod (de_var 1) de_int))) dah_nil))))) (db_one (ds_if (dt_eq (u64 room) (de_var 0) de_int) (db_one (ds_ret (de_tup (dah_cons de_str (dah_cons (de_mod (de_add (de_var 1) de_int) (de_var 2)) dah_nil))))) (db_one (ds_if (dt_eq (u64 room) (de_var 0) de_int) (db_one (ds_setLc (own := [("_law_k", 7)]) rfl hN (calm_n (i := 7)) (di_rng1 rfl m_range (de_var 4)) (blkOk_by rfl) (by decide) (fun s H C cl fp z => (dg_name 7 hN)) (fun s H C cl fp => pts_x0) (fun s H C cl fp z hz => (de_min2 rfl m_min (de_add (de_var 7) de_int) (de_sub (de_var 2) de_int))))) db_nil)))))))))))))
    (db_cons (ds_if (dt_eq (u64 room) (de_var 0) de_int) (db_cons (ds_setLc (own := [("_law_k", 7)]) rfl hN (calm_n (i := 7)) (di_rng1 rfl m_range (de_var 4)) (blkOk_by rfl) (by decide) (fun s H C cl fp z => (dg_name 7 hN)) (fun s H C cl fp => pts_x0) (fun s H C cl fp z hz => (de_frz (de_lc (own := [("_law_m", 8)]) rfl hN (calm_n (i := 8)) (di_rng1 rfl m_range (de_var 4)) (blkOk_by rfl) (by decide) (fun s H C cl fp z => (dg_name 8 hN)) (fun s H C cl fp => pts_x0) (fun s H C cl fp z hz => (de_tup (dah_cons de_str (dah_cons (de_if (dt_eq (u64 room) (de_var 7) (de_var 8)) (de_var 1) (de_sub (de_var 2) de_int)) dah_nil))))))))
    (db_one (ds_ret (de_tup (dah_cons de_str (dah_cons (de_var 3) (dah_cons (de_tuple m_tuple (de_lc (own := [("_law_row", 10)]) rfl hN (calm_n (i := 10)) (di_seq (de_var 6)) (blkOk_by rfl) (by decide) (fun s H C cl fp z => (dg_name 10 hN)) (fun s H C cl fp => pts_x0) (fun s H C cl fp z hz => (de_tup (dah_cons de_str (dah_cons (de_var 3) (dah_cons (de_tuple m_tuple (de_var 10)) dah_nil))))))) dah_nil))))))) db_nil)
    (db_one (ds_ret (de_tup (dah_cons de_str (dah_cons (de_var 3) (dah_cons (de_tuple m_tuple (de_lc (own := [("_law_state", 9)]) rfl hN (calm_n (i := 9)) (di_seq (de_var 5)) (blkOk_by rfl) (by decide) (fun s H C cl fp z => (dg_name 9 hN)) (fun s H C cl fp => pts_x0) (fun s H C cl fp z hz => (de_tup (dah_cons de_str (dah_cons (de_var 9) dah_nil)))))) dah_nil)))))))))
theorem sc__law_worker : FnScope ["_law_bag_here", "_law_own", "_law_states", "_law_letters", "_law_deep", "_law_shown_here", "_law_codes", "_law_form_here", "_law_asked", "_law_k"] ["_law_bag_here", "_law_own", "_law_states", "_law_letters", "_law_deep"] (defScope s__law_worker) := ⟨rfl, rfl, rfl, by decide +kernel, rfl, by decide +kernel, by decide +kernel⟩
theorem k__law_worker (T : Txt K mg) (B : Bse K mg base) : Dn P w K mg base 7 "_law_worker" ["_law_bag_here", "_law_own", "_law_states", "_law_letters", "_law_deep"] d__law_worker := by
  have c__law_take := (k__law_take (P := P) (w := w) (base := base) T B).mono (show 1 ≤ 6 by decide)
  have c__law_form := (k__law_form (P := P) (w := w) (base := base) T B).mono (show 1 ≤ 6 by decide)
  have c__law_free := (k__law_free (P := P) (w := w) (base := base) T B 5).mono (show 6 ≤ 6 by decide)
  have m_len := T.m_len
  have m_range := T.m_range
  have m_tuple := T.m_tuple
  have hN := sc__law_worker.nd
  exact okN T.f__law_worker sc__law_worker fun cdv A outer s H E z gd room tk =>
    (db_cons (ds_asg (calm_t (calms_c (calm_n (i := 7)) (calms_c (calm_n (i := 8)) calms_n))) (de_tup (dah_cons (de_cal c__law_take gd room tk (dah_cons (de_var 0) (dah_cons de_int dah_nil))) (dah_cons (de_cal c__law_take gd room tk (dah_cons (de_var 0) (dah_cons (de_len m_len (de_var 3)) dah_nil))) dah_nil))) (dg_tup rfl (dgs_cons (dg_name 7 hN) (dgs_cons (dg_name 8 hN) dgs_nil))))
    (db_cons (ds_setLc (own := [("_law_k", 9)]) rfl hN (calm_n (i := 9)) (di_rng1 rfl m_range (de_ix (u65 room) (de_var 2) (de_var 1))) (blkOk_by rfl) (by decide) (fun s H C cl fp z => (dg_name 9 hN)) (fun s H C cl fp => pts_x0) (fun s H C cl fp z hz => (de_mod (de_var 9) (de_ix (u65 room) (de_var 3) (de_var 1)))))
    (db_cons (ds_if (dt_eq (u64 room) (de_cal c__law_take gd room tk (dah_cons (de_var 0) (dah_cons de_int dah_nil))) de_int) (db_one (ds_setLc (own := [("_law_k", 9)]) rfl hN (calm_n (i := 9)) (di_rng1 rfl m_range (de_ix (u65 room) (de_var 2) (de_var 1))) (blkOk_by rfl) (by decide) (fun s H C cl fp z => (dg_name 9 hN)) (fun s H C cl fp => pts_x0) (fun s H C cl fp z hz => (de_cal c__law_take gd room (tk_blk hz) (dah_cons (de_var 0) (dah_cons (de_ix (u65 room) (de_var 3) (de_var 1)) dah_nil)))))) db_nil)
    (db_cons (ds_setLc (own := [("_law_k", 9)]) rfl hN (calm_n (i := 9)) (di_rng1 rfl m_range (de_ix (u65 room) (de_var 2) (de_var 1))) (blkOk_by rfl) (by decide) (fun s H C cl fp z => (dg_name 9 hN)) (fun s H C cl fp => (pts_x1 fun z hz => (dt_gt (de_var 7) de_int))) (fun s H C cl fp z hz => (de_cal c__law_form gd room (tk_blk hz) (dah_cons (de_var 7) (dah_cons (de_var 9) (dah_cons (de_ix (u65 room) (de_var 2) (de_var 1)) (dah_cons (de_var 8) (dah_cons (de_ix (u65 room) (de_var 3) (de_var 8)) dah_nil))))))))
    (db_cons (ds_if (dt_eq (u64 room) (de_var 7) de_int) (db_one (ds_setLc (own := [("_law_k", 9)]) rfl hN (calm_n (i := 9)) (di_rng1 rfl m_range (de_ix (u65 room) (de_var 2) (de_var 1))) (blkOk_by rfl) (by decide) (fun s H C cl fp z => (dg_name 9 hN)) (fun s H C cl fp => pts_x0) (fun s H C cl fp z hz => (de_cal c__law_free gd room (tk_blk hz) (dah_cons (de_var 0) (dah_cons (de_var 1) (dah_cons (de_var 2) (dah_cons (de_var 3) (dah_cons (de_var 4) dah_nil))))))))) (db_one (ds_if (dt_eq (u64 room) (de_cal c__law_take gd room tk (dah_cons (de_var 0) (dah_cons de_int dah_nil))) de_int) (db_one (ds_store (u65 room) 6 (de_cal c__law_free gd room tk (dah_cons (de_var 0) (dah_cons (de_var 1) (dah_cons (de_var 2) (dah_cons (de_var 3) (dah_cons (de_var 4) dah_nil)))))) (de_cal c__law_take gd room tk (dah_cons (de_var 0) (dah_cons (de_len m_len (de_var 6)) dah_nil))))) db_nil)))
    (db_one (ds_ret (de_tup (dah_cons (de_ix (u65 room) (de_var 3) (de_var 1)) (dah_cons (de_tuple m_tuple (de_var 5)) (dah_cons (de_tuple m_tuple (de_var 6)) dah_nil)))))))))))
theorem sc__law_net : FnScope ["_law_bag_here", "_law_most", "_law_high", "_law_wide", "_law_deep", "_law_steady", "_law_many", "_law_letters", "_law_states", "_law_firm", "_law_workers", "_law_k"] ["_law_bag_here", "_law_most", "_law_high", "_law_wide", "_law_deep", "_law_steady"] (defScope s__law_net) := ⟨rfl, rfl, rfl, by decide +kernel, rfl, by decide +kernel, by decide +kernel⟩
theorem k__law_net (T : Txt K mg) (B : Bse K mg base) : Dn P w K mg base 8 "_law_net" ["_law_bag_here", "_law_most", "_law_high", "_law_wide", "_law_deep", "_law_steady"] d__law_net := by
  have c__law_take := (k__law_take (P := P) (w := w) (base := base) T B).mono (show 1 ≤ 7 by decide)
  have c__law_worker := (k__law_worker (P := P) (w := w) (base := base) T B).mono (show 7 ≤ 7 by decide)
  have m_max := T.m_max
  have m_range := T.m_range
  have m_tuple := T.m_tuple
  have hN := sc__law_net.nd
  exact okN T.f__law_net sc__law_net fun cdv A outer s H E z gd room tk =>
    (db_cons (ds_set 6 hN (de_add de_int (de_cal c__law_take gd room tk (dah_cons (de_var 0) (dah_cons (de_var 1) dah_nil)))))
    (db_cons (ds_set 7 hN (de_lc (own := [("_law_k", 11)]) rfl hN (calm_n (i := 11)) (di_rng1 rfl m_range (de_var 6)) (blkOk_by rfl) (by decide) (fun s H C cl fp z => (dg_name 11 hN)) (fun s H C cl fp => pts_x0) (fun s H C cl fp z hz => (de_add de_int (de_max2 rfl m_max (de_cal c__law_take gd room (tk_blk hz) (dah_cons (de_var 0) (dah_cons (de_var 3) dah_nil))) (de_cal c__law_take gd room (tk_blk hz) (dah_cons (de_var 0) (dah_cons (de_var 3) dah_nil))))))))
    (db_cons (ds_set 8 hN (de_lc (own := [("_law_k", 11)]) rfl hN (calm_n (i := 11)) (di_rng1 rfl m_range (de_var 6)) (blkOk_by rfl) (by decide) (fun s H C cl fp z => (dg_name 11 hN)) (fun s H C cl fp => pts_x0) (fun s H C cl fp z hz => (de_add de_int (de_max2 rfl m_max (de_cal c__law_take gd room (tk_blk hz) (dah_cons (de_var 0) (dah_cons (de_var 2) dah_nil))) (de_cal c__law_take gd room (tk_blk hz) (dah_cons (de_var 0) (dah_cons (de_var 2) dah_nil))))))))
    (db_cons (ds_set 9 hN (de_lc (own := [("_law_k", 11)]) rfl hN (calm_n (i := 11)) (di_rng1 rfl m_range (de_cal c__law_take gd room tk (dah_cons (de_var 0) (dah_cons (de_add (de_var 5) de_int) dah_nil)))) (blkOk_by rfl) (by decide) (fun s H C cl fp z => (dg_name 11 hN)) (fun s H C cl fp => pts_x0) (fun s H C cl fp z hz => (de_cal c__law_take gd room (tk_blk hz) (dah_cons (de_var 0) (dah_cons (de_var 6) dah_nil))))))
    (db_cons (ds_setLc (own := [("_law_k", 11)]) rfl hN (calm_n (i := 11)) (di_rng1 rfl m_range (de_var 6)) (blkOk_by rfl) (by decide) (fun s H C cl fp z => (dg_name 11 hN)) (fun s H C cl fp => pts_x0) (fun s H C cl fp z hz => (de_cal c__law_worker gd room (tk_blk hz) (dah_cons (de_var 0) (dah_cons (de_var 11) (dah_cons (de_var 8) (dah_cons (de_var 7) (dah_cons (de_var 4) dah_nil))))))))
    (db_one (ds_ret (de_tup (dah_cons (de_tuple m_tuple (de_var 10)) (dah_cons (de_tuple m_tuple (de_lc (own := [("_law_k", 11)]) rfl hN (calm_n (i := 11)) (di_rng1 rfl m_range (de_var 6)) (blkOk_by rfl) (by decide) (fun s H C cl fp z => (dg_name 11 hN)) (fun s H C cl fp => (pts_x1 fun z hz => (dt_in (u65 room) (de_var 11) (de_var 9)))) (fun s H C cl fp z hz => (de_var 11)))) dah_nil))))))))))
theorem sc__law_lot : FnScope ["_law_bag_here", "_law_many", "_law_first", "_law_k"] ["_law_bag_here", "_law_many"] (defScope s__law_lot) := ⟨rfl, rfl, rfl, by decide +kernel, rfl, by decide +kernel, by decide +kernel⟩
theorem k__law_lot (T : Txt K mg) (B : Bse K mg base) : Dn P w K mg base 2 "_law_lot" ["_law_bag_here", "_law_many"] d__law_lot := by
  have c__law_take := (k__law_take (P := P) (w := w) (base := base) T B).mono (show 1 ≤ 1 by decide)
  have m_range := T.m_range
  have m_tuple := T.m_tuple
  have hN := sc__law_lot.nd
  exact okN T.f__law_lot sc__law_lot fun cdv A outer s H E z gd room tk =>
    (db_cons (ds_set 2 hN (de_cal c__law_take gd room tk (dah_cons (de_var 0) (dah_cons (de_var 1) dah_nil))))
    (db_one (ds_ret (de_tuple m_tuple (de_lc (own := [("_law_k", 3)]) rfl hN (calm_n (i := 3)) (di_rng1 rfl m_range (de_var 1)) (blkOk_by rfl) (by decide) (fun s H C cl fp z => (dg_name 3 hN)) (fun s H C cl fp => (pts_x1 fun z hz => (dt_w (dw_or (dt_eq (u64 room) (de_var 3) (de_var 2)) (dw_or1 (dt_eq (u64 room) (de_cal c__law_take gd room (tk_blk hz) (dah_cons (de_var 0) (dah_cons de_int dah_nil))) de_int)))))) (fun s H C cl fp z hz => (de_var 3)))))))
theorem sc__law_lots : FnScope ["_law_bag_here", "_law_net_here", "_law_worker_here"] ["_law_bag_here", "_law_net_here"] (defScope s__law_lots) := ⟨rfl, rfl, rfl, by decide +kernel, rfl, by decide +kernel, by decide +kernel⟩
theorem k__law_lots (T : Txt K mg) (B : Bse K mg base) : Dn P w K mg base 3 "_law_lots" ["_law_bag_here", "_law_net_here"] d__law_lots := by
  have c__law_lot := (k__law_lot (P := P) (w := w) (base := base) T B).mono (show 2 ≤ 2 by decide)
  have m_tuple := T.m_tuple
  have hN := sc__law_lots.nd
  exact okN T.f__law_lots sc__law_lots fun cdv A outer s H E z gd room tk =>
    (db_one (ds_ret (de_tuple m_tuple (de_lc (own := [("_law_worker_here", 2)]) rfl hN (calm_n (i := 2)) (di_seq (de_ix (u65 room) (de_var 1) de_int)) (blkOk_by rfl) (by decide) (fun s H C cl fp z => (dg_name 2 hN)) (fun s H C cl fp => pts_x0) (fun s H C cl fp z hz => (de_cal c__law_lot gd room (tk_blk hz) (dah_cons (de_var 0) (dah_cons (de_ix (u65 room) (de_var 2) de_int) dah_nil))))))))
theorem sc__law_box : FnScope ["_law_bag_here", "_law_net_here", "_law_worker_here"] ["_law_bag_here", "_law_net_here"] (defScope s__law_box) := ⟨rfl, rfl, rfl, by decide +kernel, rfl, by decide +kernel, by decide +kernel⟩
theorem k__law_box (T : Txt K mg) (B : Bse K mg base) : Dn P w K mg base 3 "_law_box" ["_law_bag_here", "_law_net_here"] d__law_box := by
  have c__law_lot := (k__law_lot (P := P) (w := w) (base := base) T B).mono (show 2 ≤ 2 by decide)
  have m_len := T.m_len
  have m_tuple := T.m_tuple
  have hN := sc__law_box.nd
  exact okN T.f__law_box sc__law_box fun cdv A outer s H E z gd room tk =>
    (db_one (ds_ret (de_tuple m_tuple (de_lc (own := [("_law_worker_here", 2)]) rfl hN (calm_n (i := 2)) (di_seq (de_ix (u65 room) (de_var 1) de_int)) (blkOk_by rfl) (by decide) (fun s H C cl fp z => (dg_name 2 hN)) (fun s H C cl fp => pts_x0) (fun s H C cl fp z hz => (de_cal c__law_lot gd room (tk_blk hz) (dah_cons (de_var 0) (dah_cons (de_len m_len (de_ix (u65 room) (de_var 2) de_int)) dah_nil))))))))
theorem sc__law_inside : FnScope ["_law_small", "_law_great", "_law_k", "_law_x"] ["_law_small", "_law_great"] (defScope s__law_inside) := ⟨rfl, rfl, rfl, by decide +kernel, rfl, by decide +kernel, by decide +kernel⟩
theorem k__law_inside (T : Txt K mg) (B : Bse K mg base) : Dn P w K mg base 1 "_law_inside" ["_law_small", "_law_great"] d__law_inside := by
  have m_all := T.m_all
  have m_len := T.m_len
  have m_range := T.m_range
  have hN := sc__law_inside.nd
  exact okN T.f__law_inside sc__law_inside fun cdv A outer s H E z gd room tk =>
    (db_one (ds_ret (de_all rfl m_all (de_lc (own := [("_law_k", 2)]) rfl hN (calm_n (i := 2)) (di_rng1 rfl m_range (de_len m_len (de_var 0))) (blkOk_by rfl) (by decide) (fun s H C cl fp z => (dg_name 2 hN)) (fun s H C cl fp => pts_x0) (fun s H C cl fp z hz => (de_all rfl m_all (de_lc (own := [("_law_x", 3)]) rfl hN (calm_n (i := 3)) (di_seq (de_ix (u65 room) (de_var 0) (de_var 2))) (blkOk_by rfl) (by decide) (fun s H C cl fp z => (dg_name 3 hN)) (fun s H C cl fp => pts_x0) (fun s H C cl fp z hz => (de_in (u65 room) (de_var 3) (de_ix (u65 room) (de_var 1) (de_var 2)))))))))))
theorem sc__law_shown : FnScope ["_law_workers", "_law_box_here", "_law_w", "_law_s"] ["_law_workers", "_law_box_here"] (defScope s__law_shown) := ⟨rfl, rfl, rfl, by decide +kernel, rfl, by decide +kernel, by decide +kernel⟩
theorem k__law_shown (T : Txt K mg) (B : Bse K mg base) : Dn P w K mg base 1 "_law_shown" ["_law_workers", "_law_box_here"] d__law_shown := by
  have m_len := T.m_len
  have m_range := T.m_range
  have m_set := T.m_set
  have m_sorted := T.m_sorted
  have m_tuple := T.m_tuple
  have hN := sc__law_shown.nd
  exact okN T.f__law_shown sc__law_shown fun cdv A outer s H E z gd room tk =>
    (db_one (ds_ret (de_tuple m_tuple (de_lc (own := [("_law_w", 2)]) rfl hN (calm_n (i := 2)) (di_rng1 rfl m_range (de_len m_len (de_var 0))) (blkOk_by rfl) (by decide) (fun s H C cl fp z => (dg_name 2 hN)) (fun s H C cl fp => pts_x0) (fun s H C cl fp z hz => (de_tuple m_tuple (de_sortedSetE rfl (u65 room) m_sorted m_set (de_lc (own := [("_law_s", 3)]) rfl hN (calm_n (i := 3)) (di_seq (de_ix (u65 room) (de_var 1) (de_var 2))) (blkOk_by rfl) (by decide) (fun s H C cl fp z => (dg_name 3 hN)) (fun s H C cl fp => pts_x0) (fun s H C cl fp z hz => (de_ix (u65 room) (de_ix (u65 room) (de_ix (u65 room) (de_var 0) (de_var 2)) de_int) (de_var 3)))))))))))
theorem sc__law_no_index : FnScope ["_law_bag_here", "_law_many", "_law_odd"] ["_law_bag_here", "_law_many"] (defScope s__law_no_index) := ⟨rfl, rfl, rfl, by decide +kernel, rfl, by decide +kernel, by decide +kernel⟩
theorem k__law_no_index (T : Txt K mg) (B : Bse K mg base) : Dn P w K mg base 3 "_law_no_index" ["_law_bag_here", "_law_many"] d__law_no_index := by
  have c__law_some := (k__law_some (P := P) (w := w) (base := base) T B).mono (show 2 ≤ 2 by decide)
  have hN := sc__law_no_index.nd
  exact okN T.f__law_no_index sc__law_no_index fun cdv A outer s H E z gd room tk =>
    (db_cons (ds_set 2 hN (de_lst (dah_cons de_non (dah_cons de_bl (dah_cons de_bl (dah_cons (de_neg de_int) (dah_cons (de_var 1) (dah_cons (de_add (de_var 1) de_int) (dah_cons (de_pow de_int de_int) (dah_cons (de_sub de_int (de_pow de_int de_int)) (dah_cons de_str (dah_cons de_str (dah_cons (de_tup (dah_cons de_int dah_nil)) (dah_cons (de_frz (de_lst dah_nil)) (dah_cons (de_tup dah_nil) dah_nil)))))))))))))))
    (db_one (ds_ret (de_cal c__law_some gd room tk (dah_cons (de_var 0) (dah_cons (de_add (de_var 2) (de_lst (dah_cons (de_lock (de_d1 (k := (.inl 0)) pe_int pe_int (fun _ _ => (.int _)))) (dah_cons (de_frz (de_lst (dah_cons de_int dah_nil))) (dah_cons (de_tup (dah_cons de_int (dah_cons de_int dah_nil))) dah_nil))))) dah_nil))))))
theorem sc__law_like : FnScope ["_law_bag_here", "_law_box_here", "_law_many", "_law_entry", "_law_kind", "_law_k", "_law_one"] ["_law_bag_here", "_law_box_here", "_law_many"] (defScope s__law_like) := ⟨rfl, rfl, rfl, by decide +kernel, rfl, by decide +kernel, by decide +kernel⟩
theorem k__law_like (T : Txt K mg) (B : Bse K mg base) : Dn P w K mg base 3 "_law_like" ["_law_bag_here", "_law_box_here", "_law_many"] d__law_like := by
  have c__law_take := (k__law_take (P := P) (w := w) (base := base) T B).mono (show 1 ≤ 2 by decide)
  have c__law_lot := (k__law_lot (P := P) (w := w) (base := base) T B).mono (show 2 ≤ 2 by decide)
  have m_len := T.m_len
  have m_list := T.m_list
  have m_set := T.m_set
  have m_sorted := T.m_sorted
  have m_tuple := T.m_tuple
  have hN := sc__law_like.nd
  exact okN T.f__law_like sc__law_like fun cdv A outer s H E z gd room tk =>
    (db_cons (ds_par2 4 5 rfl hN (de_cal c__law_take gd room tk (dah_cons (de_var 0) (dah_cons de_int dah_nil))) (de_cal c__law_take gd room tk (dah_cons (de_var 0) (dah_cons (de_len m_len (de_var 1)) dah_nil))))
    (db_cons (ds_set 3 hN (de_list m_list (de_ix (u65 room) (de_var 1) (de_var 5))))
    (db_cons (ds_if (dt_w (dw_and (dt_eq (u64 room) (de_var 4) de_int) (dw_and1 (dt_gt (de_len m_len (de_var 3)) de_int)))) (db_one (ds_expr (de_popAt 3 (de_cal c__law_take gd room tk (dah_cons (de_var 0) (dah_cons (de_len m_len (de_var 3)) dah_nil)))))) (db_one (ds_if (dt_eq (u64 room) (de_var 4) de_int) (db_one (ds_set 3 hN (de_sortedSetE rfl (u65 room) m_sorted m_set (de_add (de_var 3) (de_lst (dah_cons (de_cal c__law_take gd room tk (dah_cons (de_var 0) (dah_cons (de_ix (u65 room) (de_var 2) (de_var 5)) dah_nil))) dah_nil)))))) (db_one (ds_if (dt_eq (u64 room) (de_var 4) de_int) (db_one (ds_ret (de_tuple m_tuple (de_lc (own := [("_law_one", 6)]) rfl hN (calm_n (i := 6)) (di_seq (de_var 2)) (blkOk_by rfl) (by decide) (fun s H C cl fp z => (dg_name 6 hN)) (fun s H C cl fp => pts_x0) (fun s H C cl fp z hz => (de_cal c__law_lot gd room (tk_blk hz) (dah_cons (de_var 0) (dah_cons (de_var 6) dah_nil)))))))) db_nil)))))
    (db_one (ds_ret (de_add (de_add (de_sl (de_var 1) do_none (do_some (de_var 5))) (de_tup (dah_cons (de_tuple m_tuple (de_var 3)) dah_nil))) (de_sl (de_var 1) (do_some (de_add (de_var 5) de_int)) do_none)))))))
theorem sc__law_net_reply : FnScope ["_law_ask", "e", "_law_found"] ["_law_ask"] (defScope s__law_net_reply) := ⟨rfl, rfl, rfl, by decide +kernel, rfl, by decide +kernel, by decide +kernel⟩
theorem k__law_net_reply (T : Txt K mg) (B : Bse K mg base) {k : Nat} : Gives P w K mg base (k + 1) "_law_net_reply" "_law_ask" s__law_net_reply ["_law_ask", "e", "_law_found"] b__law_net_reply := fun f L LC fg cdv A outer s H E z gd room tk lc lcW act => by
  have hN := sc__law_net_reply.nd
  exact (db_cons (ds_tryG hN tk (fun W pn xe tk => (db_one (ds_set 2 hN (act _ _ _ _ _ tk (lcW _ _ lc))))) (.named 1 [("NoState", false), ("NoWorker", true)] (fun p hp => by simp only [List.mem_cons, List.not_mem_nil, or_false] at hp; rcases hp with rfl | rfl <;> first | exact T.e_NoState_NoWorker | exact T.e_NoWorker_NoWorker) T.e_NoState_NoWorker.there (fun a oe cls d pn x z' hz hd sz se => (sp_one (sp_ret (ep_tup (dap_cons (ep_de de_str) (dap_cons (ep_exO T.x_NoWorker hz hd sz (pv 1)) dap_nil)))))) (.named 1 [("NoState", true), ("NoWorker", false)] (fun p hp => by simp only [List.mem_cons, List.not_mem_nil, or_false] at hp; rcases hp with rfl | rfl <;> first | exact T.e_NoState_NoState | exact T.e_NoWorker_NoState) T.e_NoState_NoState.there (fun a oe cls d pn x z' hz hd sz se => (sp_one (sp_ret (ep_tup (dap_cons (ep_de de_str) (dap_cons (ep_exO T.x_NoState hz hd sz (pv 1)) dap_nil)))))) DHs.nil)))
    (db_one (ds_ret (de_tup (dah_cons de_str (dah_cons (de_var 2) dah_nil))))))
theorem par__law_net_reply : ∀ (f : Addr) (L : Den) (o : List D), runB 3 (b__law_net_reply f L) [.opq (.ref f)] o = runB 3 (b__law_net_reply 0 L) [.opq (.ref 0)] o :=
  fun f L o => par_sim (g := b__law_net_reply) (by
    unfold b__law_net_reply
    repeat (first | exact sim_k _ | exact sim_var | exact sim_nil | exact sim_act | exact sim_exc | exact sim_cls_nil | refine sim_seq ?_ ?_ | refine sim_try ?_ ?_ | refine sim_ret ?_ | refine sim_tup ?_ | refine sim_cons ?_ ?_ | refine sim_asg ?_ | refine sim_cls (by decide) (fun _ => ?_) ?_))
theorem sc__law_net_told : FnScope ["_law_net_here", "_law_workers", "_law_k", "_law_worker_here", "_law_state"] ["_law_net_here"] (defScope s__law_net_told) := ⟨rfl, rfl, rfl, by decide +kernel, rfl, by decide +kernel, by decide +kernel⟩
theorem k__law_net_told (T : Txt K mg) (B : Bse K mg base) : Dn P w K mg base 5 "_law_net_told" ["_law_net_here"] d__law_net_told := by
  have c_all_states := (k_all_states (P := P) (w := w) (base := base) T B).mono (show 1 ≤ 4 by decide)
  have c__law_alike := (k__law_alike (P := P) (w := w) (base := base) T B).mono (show 1 ≤ 4 by decide)
  have c_all_lots := (k_all_lots (P := P) (w := w) (base := base) T B).mono (show 1 ≤ 4 by decide)
  have c_letters_of := (k_letters_of (P := P) (w := w) (base := base) T B).mono (show 4 ≤ 4 by decide)
  have c_states_of := (k_states_of (P := P) (w := w) (base := base) T B).mono (show 4 ≤ 4 by decide)
  have c_letter_at := (k_letter_at (P := P) (w := w) (base := base) T B).mono (show 4 ≤ 4 by decide)
  have c_code_at := (k_code_at (P := P) (w := w) (base := base) T B).mono (show 4 ≤ 4 by decide)
  have m_enumerate := T.m_enumerate
  have m_len := T.m_len
  have m_range := T.m_range
  have m_tuple := T.m_tuple
  have hN := sc__law_net_told.nd
  exact okN T.f__law_net_told sc__law_net_told fun cdv A outer s H E z gd room tk =>
    (db_cons (ds_set 1 hN (de_ix (u65 room) (de_var 0) de_int))
    (db_cons (ds_if (dt_not (dt_val (de_cal c__law_alike gd room tk (dah_cons (de_cal c_all_states gd room tk (dah_cons (de_var 0) dah_nil)) (dah_cons (de_tuple m_tuple (de_lc (own := [("_law_worker_here", 3)]) rfl hN (calm_n (i := 3)) (di_seq (de_var 1)) (blkOk_by rfl) (by decide) (fun s H C cl fp z => (dg_name 3 hN)) (fun s H C cl fp => pts_x0) (fun s H C cl fp z hz => (de_tupRg rfl m_tuple m_range (de_len m_len (de_ix (u65 room) (de_var 3) de_int)))))) dah_nil))))) (db_one (ds_ret de_bl)) db_nil)
    (db_cons (ds_if (dt_not (dt_val (de_cal c__law_alike gd room tk (dah_cons (de_cal c_all_lots gd room tk (dah_cons (de_var 0) dah_nil)) (dah_cons (de_tuple m_tuple (de_lc (own := [("_law_worker_here", 3)]) rfl hN (calm_n (i := 3)) (di_seq (de_var 1)) (blkOk_by rfl) (by decide) (fun s H C cl fp z => (dg_name 3 hN)) (fun s H C cl fp => pts_x0) (fun s H C cl fp z hz => (de_tupRg rfl m_tuple m_range (de_ix (u65 room) (de_var 3) de_int))))) dah_nil))))) (db_one (ds_ret de_bl)) db_nil)
    (db_cons (ds_for (passes_of rfl) rfl (calm_t (calms_c (calm_n (i := 2)) (calms_c (calm_n (i := 3)) calms_n))) (di_enum rfl m_enumerate (de_var 1)) (dg_tup rfl (dgs_cons (dg_name 2 hN) (dgs_cons (dg_name 3 hN) dgs_nil))) (db_cons (ds_if (dt_not (dt_val (de_cal c__law_alike gd room tk (dah_cons (de_lst (dah_cons (de_cal c_letters_of gd room tk (dah_cons (de_var 0) (dah_cons (de_var 2) dah_nil))) (dah_cons (de_cal c_states_of gd room tk (dah_cons (de_var 0) (dah_cons (de_var 2) dah_nil))) dah_nil))) (dah_cons (de_lst (dah_cons (de_ix (u65 room) (de_var 3) de_int) (dah_cons (de_len m_len (de_ix (u65 room) (de_var 3) de_int)) dah_nil))) dah_nil))))) (db_one (ds_ret de_bl)) db_nil)
    (db_one (ds_for (passes_of rfl) rfl (calm_n (i := 4)) (di_rng1 rfl m_range (de_len m_len (de_ix (u65 room) (de_var 3) de_int))) (dg_name 4 hN) (db_cons (ds_if (dt_not (dt_val (de_cal c__law_alike gd room tk (dah_cons (de_cal c_letter_at gd room tk (dah_cons (de_var 0) (dah_cons (de_var 2) (dah_cons (de_var 4) dah_nil)))) (dah_cons (de_ix (u65 room) (de_ix (u65 room) (de_var 3) de_int) (de_var 4)) dah_nil))))) (db_one (ds_ret de_bl)) db_nil)
    (db_one (ds_if (dt_not (dt_val (de_cal c__law_alike gd room tk (dah_cons (de_cal c_code_at gd room tk (dah_cons (de_var 0) (dah_cons (de_var 2) (dah_cons (de_var 4) dah_nil)))) (dah_cons (de_ix (u65 room) (de_ix (u65 room) (de_var 3) de_int) (de_var 4)) dah_nil))))) (db_one (ds_ret de_bl)) db_nil)))))))
    (db_one (ds_ret de_bl))))))
theorem sc__law_net_refused : FnScope ["_law_bag_here", "_law_net_here", "_law_k", "_law_size", "_law_state", "_law_due", "_law_odd", "_law_bad"] ["_law_bag_here", "_law_net_here"] (defScope s__law_net_refused) := ⟨rfl, rfl, rfl, by decide +kernel, rfl, by decide +kernel, by decide +kernel⟩
set_option maxHeartbeats 0 in
theorem k__law_net_refused (T : Txt K mg) (B : Bse K mg base) : Dn P w K mg base 7 "_law_net_refused" ["_law_bag_here", "_law_net_here"] d__law_net_refused := by
  have c__law_take := (k__law_take (P := P) (w := w) (base := base) T B).mono (show 1 ≤ 6 by decide)
  have c__law_no_index := (k__law_no_index (P := P) (w := w) (base := base) T B).mono (show 3 ≤ 6 by decide)
  have c__law_some := (k__law_some (P := P) (w := w) (base := base) T B).mono (show 2 ≤ 6 by decide)
  have c__law_alike := (k__law_alike (P := P) (w := w) (base := base) T B).mono (show 1 ≤ 6 by decide)
  have cl_letters_of := (k_letters_of (P := P) (w := w) (base := base) T B).mono (show 4 ≤ 4 by decide)
  have cl_states_of := (k_states_of (P := P) (w := w) (base := base) T B).mono (show 4 ≤ 4 by decide)
  have cl_letter_at := (k_letter_at (P := P) (w := w) (base := base) T B).mono (show 4 ≤ 4 by decide)
  have cl_code_at := (k_code_at (P := P) (w := w) (base := base) T B).mono (show 4 ≤ 4 by decide)
  have m_len := T.m_len
  have hN := sc__law_net_refused.nd
  exact okNC T.f__law_net_refused B.m__law_net_refused sc__law_net_refused fun tb cdv hc A outer s H E z gd room tk =>
    (db_cons (ds_set 2 hN (de_cal c__law_take gd room tk (dah_cons (de_var 0) (dah_cons (de_len m_len (de_ix (u65 room) (de_var 1) de_int)) dah_nil))))
    (db_cons (ds_set 3 hN (de_len m_len (de_ix (u65 room) (de_ix (u65 room) (de_ix (u65 room) (de_var 1) de_int) (de_var 2)) de_int)))
    (db_cons (ds_asg (calm_t (calms_c (calm_n (i := 6)) (calms_c (calm_n (i := 7)) calms_n))) (de_tup (dah_cons (de_cal c__law_no_index gd room tk (dah_cons (de_var 0) (dah_cons (de_len m_len (de_ix (u65 room) (de_var 1) de_int)) dah_nil))) (dah_cons (de_cal c__law_no_index gd room tk (dah_cons (de_var 0) (dah_cons (de_var 3) dah_nil))) dah_nil))) (dg_tup rfl (dgs_cons (dg_name 6 hN) (dgs_cons (dg_name 7 hN) dgs_nil))))
    (db_cons (ds_set 4 hN (de_cal c__law_some gd room tk (dah_cons (de_var 0) (dah_cons (de_lst (dah_cons (de_cal c__law_take gd room tk (dah_cons (de_var 0) (dah_cons (de_var 3) dah_nil))) (dah_cons (de_var 7) dah_nil))) dah_nil))))
    (db_cons (ds_set 5 hN (de_tup (dah_cons de_str (dah_cons (de_var 6) dah_nil))))
    (db_cons (ds_if (dt_not (dt_val (de_cal c__law_alike gd room tk (dah_cons (de_lam (n := 0) (js := [1, 6]) T.f__law_net_reply sc__law_net_reply rfl (.inl rfl) (k__law_net_reply (P := P) (w := w) (base := base) T B) par__law_net_reply tb hc (LamX.lamS_by (sc := defScope s__law_net_refused) (by decide +kernel)) (cells_has (sc := defScope s__law_net_refused) (by decide +kernel)) rfl (fun _ _ _ _ _ => rfl) room gd tk (fun A outer s2 H2 E f c' z2 gd room tk => (de_cal cl_letters_of gd room tk (dah_cons (de_var 1) (dah_cons (de_var 6) dah_nil)))) rfl (by decide) (by decide) (by decide)) (dah_cons (de_var 5) dah_nil))))) (db_one (ds_ret de_bl)) db_nil)
    (db_cons (ds_if (dt_not (dt_val (de_cal c__law_alike gd room tk (dah_cons (de_lam (n := 0) (js := [1, 6]) T.f__law_net_reply sc__law_net_reply rfl (.inl rfl) (k__law_net_reply (P := P) (w := w) (base := base) T B) par__law_net_reply tb hc (LamX.lamS_by (sc := defScope s__law_net_refused) (by decide +kernel)) (cells_has (sc := defScope s__law_net_refused) (by decide +kernel)) rfl (fun _ _ _ _ _ => rfl) room gd tk (fun A outer s2 H2 E f c' z2 gd room tk => (de_cal cl_states_of gd room tk (dah_cons (de_var 1) (dah_cons (de_var 6) dah_nil)))) rfl (by decide) (by decide) (by decide)) (dah_cons (de_var 5) dah_nil))))) (db_one (ds_ret de_bl)) db_nil)
    (db_cons (ds_if (dt_not (dt_val (de_cal c__law_alike gd room tk (dah_cons (de_lam (n := 0) (js := [1, 4, 6]) T.f__law_net_reply sc__law_net_reply rfl (.inl rfl) (k__law_net_reply (P := P) (w := w) (base := base) T B) par__law_net_reply tb hc (LamX.lamS_by (sc := defScope s__law_net_refused) (by decide +kernel)) (cells_has (sc := defScope s__law_net_refused) (by decide +kernel)) rfl (fun _ _ _ _ _ => rfl) room gd tk (fun A outer s2 H2 E f c' z2 gd room tk => (de_cal cl_letter_at gd room tk (dah_cons (de_var 1) (dah_cons (de_var 6) (dah_cons (de_var 4) dah_nil))))) rfl (by decide) (by decide) (by decide)) (dah_cons (de_var 5) dah_nil))))) (db_one (ds_ret de_bl)) db_nil)
    (db_cons (ds_if (dt_not (dt_val (de_cal c__law_alike gd room tk (dah_cons (de_lam (n := 0) (js := [1, 4, 6]) T.f__law_net_reply sc__law_net_reply rfl (.inl rfl) (k__law_net_reply (P := P) (w := w) (base := base) T B) par__law_net_reply tb hc (LamX.lamS_by (sc := defScope s__law_net_refused) (by decide +kernel)) (cells_has (sc := defScope s__law_net_refused) (by decide +kernel)) rfl (fun _ _ _ _ _ => rfl) room gd tk (fun A outer s2 H2 E f c' z2 gd room tk => (de_cal cl_code_at gd room tk (dah_cons (de_var 1) (dah_cons (de_var 6) (dah_cons (de_var 4) dah_nil))))) rfl (by decide) (by decide) (by decide)) (dah_cons (de_var 5) dah_nil))))) (db_one (ds_ret de_bl)) db_nil)
    (db_cons (ds_if (dt_not (dt_val (de_cal c__law_alike gd room tk (dah_cons (de_lam (n := 0) (js := [1, 2, 7]) T.f__law_net_reply sc__law_net_reply rfl (.inl rfl) (k__law_net_reply (P := P) (w := w) (base := base) T B) par__law_net_reply tb hc (LamX.lamS_by (sc := defScope s__law_net_refused) (by decide +kernel)) (cells_has (sc := defScope s__law_net_refused) (by decide +kernel)) rfl (fun _ _ _ _ _ => rfl) room gd tk (fun A outer s2 H2 E f c' z2 gd room tk => (de_cal cl_letter_at gd room tk (dah_cons (de_var 1) (dah_cons (de_var 2) (dah_cons (de_var 7) dah_nil))))) rfl (by decide) (by decide) (by decide)) (dah_cons (de_tup (dah_cons de_str (dah_cons (de_var 7) dah_nil))) dah_nil))))) (db_one (ds_ret de_bl)) db_nil)
    (db_one (ds_ret (de_cal c__law_alike gd room tk (dah_cons (de_lam (n := 0) (js := [1, 2, 7]) T.f__law_net_reply sc__law_net_reply rfl (.inl rfl) (k__law_net_reply (P := P) (w := w) (base := base) T B) par__law_net_reply tb hc (LamX.lamS_by (sc := defScope s__law_net_refused) (by decide +kernel)) (cells_has (sc := defScope s__law_net_refused) (by decide +kernel)) rfl (fun _ _ _ _ _ => rfl) room gd tk (fun A outer s2 H2 E f c' z2 gd room tk => (de_cal cl_code_at gd room tk (dah_cons (de_var 1) (dah_cons (de_var 2) (dah_cons (de_var 7) dah_nil))))) rfl (by decide) (by decide) (by decide)) (dah_cons (de_tup (dah_cons de_str (dah_cons (de_var 7) dah_nil))) dah_nil)))))))))))))))
theorem sc__law_net_boxes : FnScope ["_law_bag_here", "_law_net_here", "_law_turn", "_law_sizes", "_law_wide", "_law_box_here", "_law_lots_here", "_law_found", "_law_due", "_law_near", "_law_heard", "_law_worker_here"] ["_law_bag_here", "_law_net_here"] (defScope s__law_net_boxes) := ⟨rfl, rfl, rfl, by decide +kernel, rfl, by decide +kernel, by decide +kernel⟩
theorem k__law_net_boxes (T : Txt K mg) (B : Bse K mg base) : Dn P w K mg base 4 "_law_net_boxes" ["_law_bag_here", "_law_net_here"] d__law_net_boxes := by
  have c__law_box := (k__law_box (P := P) (w := w) (base := base) T B).mono (show 3 ≤ 3 by decide)
  have c__law_lots := (k__law_lots (P := P) (w := w) (base := base) T B).mono (show 3 ≤ 3 by decide)
  have c__law_like := (k__law_like (P := P) (w := w) (base := base) T B).mono (show 3 ≤ 3 by decide)
  have c_shown_lots := (k_shown_lots (P := P) (w := w) (base := base) T B).mono (show 1 ≤ 3 by decide)
  have c__law_shown := (k__law_shown (P := P) (w := w) (base := base) T B).mono (show 1 ≤ 3 by decide)
  have c__law_alike := (k__law_alike (P := P) (w := w) (base := base) T B).mono (show 1 ≤ 3 by decide)
  have c_lies_in := (k_lies_in (P := P) (w := w) (base := base) T B).mono (show 1 ≤ 3 by decide)
  have c__law_inside := (k__law_inside (P := P) (w := w) (base := base) T B).mono (show 1 ≤ 3 by decide)
  have m_len := T.m_len
  have m_range := T.m_range
  have hN := sc__law_net_boxes.nd
  exact okN T.f__law_net_boxes sc__law_net_boxes fun cdv A outer s H E z gd room tk =>
    (db_cons (ds_parN 3 4 rfl hN (de_lc (own := [("_law_worker_here", 11)]) rfl hN (calm_n (i := 11)) (di_seq (de_ix (u65 room) (de_var 1) de_int)) (blkOk_by rfl) (by decide) (fun s H C cl fp z => (dg_name 11 hN)) (fun s H C cl fp => pts_x0) (fun s H C cl fp z hz => (de_len m_len (de_ix (u65 room) (de_var 11) de_int)))) (fun H0 b0 o0 => (de_lc (own := [("_law_worker_here", 11)]) rfl hN (calm_n (i := 11)) (di_seq (de_ix (u65 room) (de_var 1) de_int)) (blkOk_by rfl) (by decide) (fun s H C cl fp z => (dg_name 11 hN)) (fun s H C cl fp => pts_x0) (fun s H C cl fp z hz => (de_ix (u65 room) (de_var 11) de_int)))))
    (db_cons (ds_par2 5 6 rfl hN (de_cal c__law_box gd room tk (dah_cons (de_var 0) (dah_cons (de_var 1) dah_nil))) (de_cal c__law_lots gd room tk (dah_cons (de_var 0) (dah_cons (de_var 1) dah_nil))))
    (db_cons (ds_for (passes_of rfl) rfl (calm_n (i := 2)) (di_rng1 rfl m_range de_int) (dg_name 2 hN) (db_cons (ds_par2 9 10 rfl hN (de_cal c__law_like gd room tk (dah_cons (de_var 0) (dah_cons (de_var 5) (dah_cons (de_var 3) dah_nil)))) (de_cal c__law_like gd room tk (dah_cons (de_var 0) (dah_cons (de_var 6) (dah_cons (de_var 4) dah_nil)))))
    (db_cons (ds_if (dt_not (dt_val (de_cal c__law_alike gd room tk (dah_cons (de_cal c_shown_lots gd room tk (dah_cons (de_var 1) (dah_cons (de_var 9) dah_nil))) (dah_cons (de_cal c__law_shown gd room tk (dah_cons (de_ix (u65 room) (de_var 1) de_int) (dah_cons (de_var 9) dah_nil))) dah_nil))))) (db_one (ds_ret de_bl)) db_nil)
    (db_cons (ds_set 7 hN (de_lst (dah_cons (de_cal c_lies_in gd room tk (dah_cons (de_var 5) (dah_cons (de_var 9) dah_nil))) (dah_cons (de_cal c_lies_in gd room tk (dah_cons (de_var 9) (dah_cons (de_var 5) dah_nil))) (dah_cons (de_cal c_lies_in gd room tk (dah_cons (de_var 6) (dah_cons (de_var 10) dah_nil))) (dah_cons (de_cal c_lies_in gd room tk (dah_cons (de_var 10) (dah_cons (de_var 6) dah_nil))) dah_nil))))))
    (db_cons (ds_set 8 hN (de_lst (dah_cons (de_cal c__law_inside gd room tk (dah_cons (de_var 5) (dah_cons (de_var 9) dah_nil))) (dah_cons (de_cal c__law_inside gd room tk (dah_cons (de_var 9) (dah_cons (de_var 5) dah_nil))) dah_nil))))
    (db_cons (ds_set 8 hN (de_add (de_var 8) (de_lst (dah_cons (de_cal c__law_inside gd room tk (dah_cons (de_var 6) (dah_cons (de_var 10) dah_nil))) (dah_cons (de_cal c__law_inside gd room tk (dah_cons (de_var 10) (dah_cons (de_var 6) dah_nil))) dah_nil)))))
    (db_one (ds_if (dt_w (dw_or (dt_not (dt_val (de_cal c__law_alike gd room tk (dah_cons (de_var 7) (dah_cons (de_var 8) dah_nil))))) (dw_or1 (dt_not (dt_val (de_cal c__law_alike gd room tk (dah_cons (de_cal c_lies_in gd room tk (dah_cons (de_var 9) (dah_cons (de_var 9) dah_nil))) (dah_cons de_bl dah_nil)))))))) (db_one (ds_ret de_bl)) db_nil))))))))
    (db_one (ds_ret (de_cal c__law_alike gd room tk (dah_cons (de_cal c_shown_lots gd room tk (dah_cons (de_var 1) (dah_cons (de_var 5) dah_nil))) (dah_cons (de_cal c__law_shown gd room tk (dah_cons (de_ix (u65 room) (de_var 1) de_int) (dah_cons (de_var 5) dah_nil))) dah_nil))))))))
theorem sc_law : FnScope ["_law_script", "_law_bag_here", "_law_net_here", "_law_one", "_law_other"] ["_law_script"] (defScope s_law) := ⟨rfl, rfl, rfl, by decide +kernel, rfl, by decide +kernel, by decide +kernel⟩
theorem k_law {f : Addr} {fd : FuncData} (F : Fun K "law" "law" s_law f fd) (T : Txt K mg) (B : Bse K mg base) : FnG P w K mg base 9 f fd ["_law_script"] (spDen K mg 1 d_law) := by
  have c__law_bag := (k__law_bag (P := P) (w := w) (base := base) T B).mono (show 1 ≤ 8 by decide)
  have c__law_net := (k__law_net (P := P) (w := w) (base := base) T B).mono (show 8 ≤ 8 by decide)
  have c__law_net_boxes := (k__law_net_boxes (P := P) (w := w) (base := base) T B).mono (show 4 ≤ 8 by decide)
  have c__law_net_told := (k__law_net_told (P := P) (w := w) (base := base) T B).mono (show 5 ≤ 8 by decide)
  have c__law_net_refused := (k__law_net_refused (P := P) (w := w) (base := base) T B).mono (show 7 ≤ 8 by decide)
  have hN := sc_law.nd
  exact okD F sc_law fun cdv A outer s H E z gd room tk =>
    (db_cons (ds_setT 1 hN (de_cal c__law_bag gd room tk (dah_cons (de_var 0) dah_nil)))
    (db_cons (ds_par2 3 4 rfl hN (de_cal c__law_net gd room tk (dah_cons (de_var 1) (dah_cons de_int (dah_cons de_int (dah_cons de_int (dah_cons de_int (dah_cons de_int dah_nil))))))) (de_cal c__law_net gd room tk (dah_cons (de_var 1) (dah_cons de_int (dah_cons de_int (dah_cons de_int (dah_cons de_int (dah_cons de_int dah_nil))))))))
    (db_cons (ds_for (passes_of rfl) rfl (calm_n (i := 2)) (di_seq (de_lst (dah_cons (de_var 3) (dah_cons (de_var 4) (dah_cons (de_var 3) dah_nil))))) (dg_name 2 hN) (db_cons (ds_if (dt_w (dw_or (dt_not (dt_val (de_cal c__law_net_refused gd room tk (dah_cons (de_var 1) (dah_cons (de_var 2) dah_nil))))) (dw_or (dt_not (dt_val (de_cal c__law_net_told gd room tk (dah_cons (de_var 2) dah_nil)))) (dw_or1 (dt_not (dt_val (de_cal c__law_net_boxes gd room tk (dah_cons (de_var 1) (dah_cons (de_var 2) dah_nil))))))))) (db_one (ds_ret de_bl)) db_nil)
    (db_one (ds_if (dt_not (dt_val (de_cal c__law_net_refused gd room tk (dah_cons (de_var 1) (dah_cons (de_var 2) dah_nil))))) (db_one (ds_ret de_bl)) db_nil))))
    (db_one (ds_ret (de_cal c__law_net_told gd room tk (dah_cons (de_var 4) dah_nil)))))))
end
theorem walk {q : Program} {loose : List Str} {XP : (Str → Option Value) → Heap → Prop} {YP : World → Heap → Prop} {d : DefRec} {K : Params → PySem.W.Frag} (imp : PyProof.Rows.importsNone q = true) (nod : d.params.defaults = []) (nm : d.name = "law") (hY : ∀ (w : World) (h : Heap), YP w h → (K w.params).In h)
    (tab__law_net_refused : ∀ (w : World) (h : Heap), YP w h → h.get? lamP__law_net_refused = some { cls := .none, data := .fields #[] }) (hT : ∀ (w : World) (mg : Str → Option Value) (h : Heap), (K w.params).In h → h.Ns mainGlobals mg → Txt (K w.params) mg) (hden : ∀ ns : List Int, ns.length ≤ 63 → ∃ objs, d_law [.rol (ns.map .int)] [.cod lamP__law_net_refused "_law_net_refused.<locals>.<lambda>"] = some (.ok (.dat (.bl true)), objs)) :
    PySem.W.WalkO q loose XP YP PySem.Challenge.rw_oldletters_k27_nets_told.row.toRowW d [] (fun f vs => PySem.call f vs) :=
  walkTs (n := 63) (k := 9) (x := "_law_script") (l := PySem.Challenge.rw_oldletters_k27_nets_told) (TL := [lamP__law_net_refused]) (os := [.cod lamP__law_net_refused "_law_net_refused.<locals>.<lambda>"]) imp rfl (by decide) nod ⟨rfl, by decide, by decide⟩ hY (by decide) (fun w h Y T hT => by
    simp only [List.mem_cons, List.not_mem_nil, or_false] at hT
    subst hT
    · exact tab__law_net_refused w h Y
    ) (fun w mg fa h inK ns hfa => by
    obtain ⟨f, fd, a, F, b⟩ := (hT w mg h inK ns).f_law.ex
    rw [nm, a] at hfa; cases hfa
    refine ⟨[(lamP__law_net_refused, "_law_net_refused.<locals>.<lambda>", (hT w mg h inK ns).l__law_net_refused.c)], fd, rfl, rfl, fun t ht => ?_, b, fun base _ _ sys tbs => k_law F (hT w mg h inK ns) ⟨sys, (hT w mg h inK ns).l__law_net_refused.b (tbs (lamP__law_net_refused, "_law_net_refused.<locals>.<lambda>", (hT w mg h inK ns).l__law_net_refused.c) (by simp))⟩⟩
    simp only [List.mem_cons, List.not_mem_nil, or_false] at ht
    subst ht
    · exact (hT w mg h inK ns).l__law_net_refused.n
    ) hden
end LW
end
section
set_option maxRecDepth 100000
namespace LW
open PySem L2 LC
open DL hiding tI bag_all safe_b safe_bn take_call take_rn takeEnv take1 take_ok where_b st_b0 st_b1 aug_b2
local macro_rules | `(tactic| simp! only) => `(tactic| simp -implicitDefEqProofs only [rn_bind, rn_pure, rn_no, rn_need, rn_opt1, rn_ite, rn_var, rn_put, rn_useD, rn_useN, rn_useO, rn_chkD, rn_chkN, rn_chkO, rn_call, rn_seq, rn_guard, rn_forIn, rn_for0, rn_setD, rn_setN, rn_setO, binM, binMO, unM, cmpT, testM, andT, orT, notT, ifM, asgM, retM, exprM, kM, consA, nilA, tupM, lstM, useAll, chkAll, slM, partM, DL.andM, DL.orM, DL.notM, negM, asgG, gN, gT, gsC, gsN, seqI, frzM, asgTM, dnewM, par2M, hold_d, hold_n, hold_o, d_d, d_n, d_o, out_d, out_n, out_o, fo_next, fo_ret, isBl_b, isInt_i, tr_i, tr_b, tr_n, tr_l, tr_t, it_l, it_r, it_t, li_l, li_r, op_add_i, op_add_l, op_add_t, op_sub_i, op_mul_i, op_mod_i, op_div_i, op_pow_i, op_lt_i, op_le_i, op_gt_i, op_ge_i, op_int_i, op_abs_i, op_len_l, op_len_t, op_len_r, op_tup_l, op_tup_t, op_lst_l, op_lst_t, op_max_i, op_eq_i, eq_go_go, eq_get_get, eq_go_get, eq_get_go, Bool.bne_false, Bool.bne_true, Bool.not_true, Bool.not_false, op_sl_l, op_sl_r, op_sl_t, op_ix_t0, op_ix_t1, op_ix_t2, op_ix_l0, List.getElem?_cons_zero, List.getElem?_cons_succ, List.set_cons_zero, List.set_cons_succ, List.map_cons, List.map_nil, List.length_cons, List.length_nil, List.cons_append, List.nil_append, if_true, if_false, Bool.false_eq_true, decide_eq_true_eq, and_true, true_and, ite_true, ite_false, reduceCtorEq])
local macro_rules | `(tactic| simp! only [$ls,*]) => `(tactic| simp -implicitDefEqProofs only [rn_bind, rn_pure, rn_no, rn_need, rn_opt1, rn_ite, rn_var, rn_put, rn_useD, rn_useN, rn_useO, rn_chkD, rn_chkN, rn_chkO, rn_call, rn_seq, rn_guard, rn_forIn, rn_for0, rn_setD, rn_setN, rn_setO, binM, binMO, unM, cmpT, testM, andT, orT, notT, ifM, asgM, retM, exprM, kM, consA, nilA, tupM, lstM, useAll, chkAll, slM, partM, DL.andM, DL.orM, DL.notM, negM, asgG, gN, gT, gsC, gsN, seqI, frzM, asgTM, dnewM, par2M, hold_d, hold_n, hold_o, d_d, d_n, d_o, out_d, out_n, out_o, fo_next, fo_ret, isBl_b, isInt_i, tr_i, tr_b, tr_n, tr_l, tr_t, it_l, it_r, it_t, li_l, li_r, op_add_i, op_add_l, op_add_t, op_sub_i, op_mul_i, op_mod_i, op_div_i, op_pow_i, op_lt_i, op_le_i, op_gt_i, op_ge_i, op_int_i, op_abs_i, op_len_l, op_len_t, op_len_r, op_tup_l, op_tup_t, op_lst_l, op_lst_t, op_max_i, op_eq_i, eq_go_go, eq_get_get, eq_go_get, eq_get_go, Bool.bne_false, Bool.bne_true, Bool.not_true, Bool.not_false, op_sl_l, op_sl_r, op_sl_t, op_ix_t0, op_ix_t1, op_ix_t2, op_ix_l0, List.getElem?_cons_zero, List.getElem?_cons_succ, List.set_cons_zero, List.set_cons_succ, List.map_cons, List.map_nil, List.length_cons, List.length_nil, List.cons_append, List.nil_append, if_true, if_false, Bool.false_eq_true, decide_eq_true_eq, and_true, true_and, ite_true, ite_false, reduceCtorEq, $ls,*])
abbrev TB : D := .cod lamP__law_net_refused "_law_net_refused.<locals>.<lambda>"
theorem bag_all (x : Bag) : ([TB, bagD x].all fun o => D.imms o.parts) = true := by
  show (D.imms TB.parts && (D.imms (bagD x).parts && true)) = true
  rw [bag_imm x]; rfl
theorem safe_b {α : Prop} {β : Prop} {x : Bag} {d : D} (hd : d.imm = true) : (if ((Res.dat d).safe && [TB, bagD x].all fun o => D.imms o.parts) = true then α else β) = α := by
  rw [bag_all, show (Res.dat d).safe = true from hd]; rfl
theorem safe_bn {α : Prop} {β : Prop} {x : Bag} {ds : List D} (hd : D.imms ds = true) : (if ((Res.new (.lst ds)).safe && [TB, bagD x].all fun o => D.imms o.parts) = true then α else β) = α := by
  rw [bag_all, show (Res.new (.lst ds)).safe = true from hd]; rfl
section
variable {x : Bag} {env : List Slot} {u : Int}
theorem rn_peek1 {Q : D → Sx → Prop} {t d : D} {r : List D} : Rn (peekM (.obj 1)) ⟨env, t :: d :: r⟩ Q = Q d ⟨env, t :: d :: r⟩ := rfl
theorem where_b {o : List D} {t : D} : (whereM 0 ⟨.dat (.obj 1) :: env, t :: bagD x :: o⟩).isSome = true := rfl
theorem st_b0 {Q : Unit → Sx → Prop} {o : List D} {t : D} {v : Int} : Rn (storeK 0 (.int 0) (.int v)) ⟨.dat (.obj 1) :: env, t :: bagD x :: o⟩ Q = Q () ⟨.dat (.obj 1) :: env, t :: bagD { x with a := v } :: o⟩ := rfl
theorem st_b1 {Q : Unit → Sx → Prop} {o : List D} {t : D} {v : Int} : Rn (storeK 0 (.int 1) (.int v)) ⟨.dat (.obj 1) :: env, t :: bagD x :: o⟩ Q = Q () ⟨.dat (.obj 1) :: env, t :: bagD { x with b := v } :: o⟩ := rfl
theorem aug_b2 {Q : Fl → Sx → Prop} {o : List D} {t : D} : Rn (augSM 0 (fun i j => i + j) (pure (.dat (.int 2))) (pure (.dat (.int 1)))) ⟨.dat (.obj 1) :: env, t :: bagD x :: o⟩ Q = Q .next ⟨.dat (.obj 1) :: env, t :: bagD { x with c := x.c + 1 } :: o⟩ := rfl
def takeEnv (u : Int) (s4 s5 : Slot) : List Slot := [.dat (.obj 1), .dat (.int u), .un, .un, s4, s5, .un]
theorem take1 (hx : x.Ok) (hcs : x.cs.length ≤ 63) (u : Int) : Rn (ifM (cmpT (opEq false) (binMO opIx (varM 0) (kM (.int 0))) (kM (.int 0))) (seqM (asgM 4 (binM opIx (binM opAdd (slM (binMO opIx (varM 0) (kM (.int 3))) (partM (binMO opIx (varM 0) (kM (.int 2)))) (pure none)) (lstM (consA (kM (.int 0)) nilA))) (kM (.int 0))))
  (seqM (augSM 0 (fun i j => i + j) (kM (.int 2)) (kM (.int 1)))
  (seqM (ifM (cmpT opGe (varM 4) (binM opPow (kM (.int 10)) (kM (.int 18)))) (storeM 0 (varM 4) (kM (.int 0))) (pure .next))
  (seqM (asgM 5 (binM opAdd (binM opAdd (binM opMul (binMO opIx (varM 0) (kM (.int 1))) (kM (.int 48271))) (binM opMod (unM opInt (varM 4)) (kM (.int 2147483647)))) (binM opMul (kM (.int 7919)) (binMO opIx (varM 0) (kM (.int 2))))))
  (storeM 0 (binM opMod (unM opInt (varM 5)) (kM (.int 2147483647))) (kM (.int 1))))))) (pure .next)) ⟨takeEnv u .un .un, [TB, bagD x]⟩
    fun fl S' => fl = .next ∧ ∃ x' s4 s5, Bag.Ok x' ∧ x'.cs = x.cs ∧ S' = ⟨takeEnv u s4 s5, [TB, bagD x']⟩ := by
  unfold takeEnv
  simp! only [rn_peek1, ix_0, ix_1, ix_2, ix_3]
  by_cases h0 : x.a = 0
  · have e0 : (x.a == 0) = true := by simp [h0]
    obtain ⟨v, r, hv, ec⟩ := cut_head x.cs hx.cs0 x.c
    have hl : (cutD (x.cs.map D.int) (some x.c) none).length + ([D.int 0] : List D).length ≤ sizeLine := by
      refine big_list ?_
      have := cut_len (ds := x.cs.map D.int) (lo := some x.c) (hi := none)
      rw [List.length_map] at this
      simp; omega
    rw [if_pos e0]
    simp! only [rn_peek1, ix_0, ix_1, ix_2, ix_3, ec]
    refine ⟨by decide, hl, ?_⟩
    simp! only [rn_peek1, ix_0, ix_1, ix_2, ix_3, aug_b2, rn_storeM, where_b, st_b0, st_b1]
    have m0 : ∀ k : Int, 0 ≤ k.fmod 2147483647 := fun k => by rw [Int.fmod_eq_emod_of_nonneg _ (by decide)]; exact Int.emod_nonneg _ (by decide)
    refine ⟨by decide, ?_⟩
    split
    · exact ⟨.inr (by decide), by decide, .inl (by decide), by decide, ⟨v, (x.b * 48271 + v.fmod 2147483647 + 7919 * (x.c + 1)).fmod 2147483647, x.c + 1, x.cs⟩, _, _, ⟨hv, m0 _, by have := hx.c0; show 0 ≤ x.c + 1; omega, hx.cs0⟩, rfl, rfl⟩
    · exact ⟨.inr (by decide), by decide, .inl (by decide), by decide, ⟨x.a, (x.b * 48271 + v.fmod 2147483647 + 7919 * (x.c + 1)).fmod 2147483647, x.c + 1, x.cs⟩, _, _, ⟨hx.a0, m0 _, by have := hx.c0; show 0 ≤ x.c + 1; omega, hx.cs0⟩, rfl, rfl⟩
  · have e0 : (x.a == 0) = false := by simp [h0]
    rw [if_neg (by rw [e0]; exact Bool.false_ne_true)]
    exact ⟨x, .un, .un, hx, rfl, rfl⟩
theorem take_ok (hx : x.Ok) (hcs : x.cs.length ≤ 63) (hu : 0 < u) (hu2 : u < 1073741824) : Dr (runB 7 takeB) [.obj 1, .int u] [TB, bagD x] fun r o => ∃ (k : Int) (x' : Bag), r = .dat (.int k) ∧ 0 ≤ k ∧ k < u ∧ o = [TB, bagD x'] ∧ x'.Ok ∧ x'.cs = x.cs := by
  rw [dr_run]
  show Rn takeB ⟨takeEnv u .un .un, [TB, bagD x]⟩ _
  unfold takeB
  rw [rn_seq]
  refine (take1 hx hcs u).mono ?_
  rintro fl S' ⟨rfl, y, s4, s5, hy, hcy, rfl⟩
  have mu : ∀ k : Int, 0 ≤ k.fmod u ∧ k.fmod u < u := fun k => by
    rw [Int.fmod_eq_emod_of_nonneg _ (by omega)]
    exact ⟨Int.emod_nonneg _ (by omega), Int.emod_lt_of_pos _ hu⟩
  have m1 : ∀ k j : Int, 0 < j → 0 ≤ k.fmod j ∧ k.fmod j < j := fun k j hj => by
    rw [Int.fmod_eq_emod_of_nonneg _ (by omega)]
    exact ⟨Int.emod_nonneg _ (by omega), Int.emod_lt_of_pos _ hj⟩
  unfold takeEnv
  simp! only [rn_peek1, ix_0, ix_1, ix_2, ix_3, aug_b2, rn_storeM, where_b, st_b0, st_b1]
  split
  · refine ⟨by omega, ⟨by omega, by omega⟩, _, _, rfl, (mu _).1, (mu _).2, rfl, ⟨?_, hy.b0, hy.c0, hy.cs0⟩, hcy⟩
    show 0 ≤ y.a.fdiv u
    rw [Int.fdiv_eq_ediv_of_nonneg _ (by omega)]
    exact Int.ediv_nonneg hy.a0 (by omega)
  · have b1 := m1 ((y.b + 1) * 39373) 1000000007 (by decide)
    refine ⟨.inr (by decide), by decide, .inl ⟨by omega, by omega⟩, by decide, .inr (by decide), by decide, ⟨by decide, by decide⟩, by omega, _, _, rfl, (mu _).1, (mu _).2, rfl, hy, hcy⟩
end
theorem take_call {x : Bag} {u : Int} {Q : Res → List D → Prop} (hx : BOk x) (hu : 0 < u) (hu2 : u < 1073741824) (h : ∀ (k : Int) (x' : Bag), 0 ≤ k → k < u → BOk x' → Q (.dat (.int k)) [TB, bagD x']) : Dr (runB 7 takeB) [.obj 1, .int u] [TB, bagD x] Q :=
  (take_ok hx.ok hx.len hu hu2).mono fun r o ⟨k, x', e1, k0, k1, e2, hy, hc⟩ => by subst e1 e2; exact h k x' k0 k1 ⟨hy, by rw [hc]; exact hx.len⟩
end LW
end
section
set_option maxRecDepth 100000
namespace LW
open PySem L2 LC
open DL hiding tI bag_all safe_b safe_bn take_call take_rn takeEnv take1 take_ok where_b st_b0 st_b1 aug_b2
local macro_rules | `(tactic| simp!) => `(tactic| simp -implicitDefEqProofs only [rn_bind, rn_pure, rn_no, rn_need, rn_opt1, rn_ite, rn_var, rn_put, rn_useD, rn_useN, rn_useO, rn_chkD, rn_chkN, rn_chkO, rn_call, rn_seq, rn_guard, rn_forIn, rn_for0, rn_setD, rn_setN, rn_setO, binM, binMO, unM, cmpT, testM, andT, orT, notT, ifM, asgM, retM, exprM, kM, consA, nilA, tupM, lstM, useAll, chkAll, slM, partM, DL.andM, DL.orM, DL.notM, negM, asgG, gN, gT, gsC, gsN, seqI, frzM, asgTM, dnewM, par2M, hold_d, hold_n, hold_o, d_d, d_n, d_o, out_d, out_n, out_o, fo_next, fo_ret, isBl_b, isInt_i, tr_i, tr_b, tr_n, tr_l, tr_t, it_l, it_r, it_t, li_l, li_r, op_add_i, op_add_l, op_add_t, op_sub_i, op_mul_i, op_mod_i, op_div_i, op_pow_i, op_lt_i, op_le_i, op_gt_i, op_ge_i, op_int_i, op_abs_i, op_len_l, op_len_t, op_len_r, op_tup_l, op_tup_t, op_lst_l, op_lst_t, op_max_i, op_eq_i, eq_go_go, eq_get_get, eq_go_get, eq_get_go, Bool.bne_false, Bool.bne_true, Bool.not_true, Bool.not_false, op_sl_l, op_sl_r, op_sl_t, op_ix_t0, op_ix_t1, op_ix_t2, op_ix_l0, List.getElem?_cons_zero, List.getElem?_cons_succ, List.set_cons_zero, List.set_cons_succ, List.map_cons, List.map_nil, List.length_cons, List.length_nil, List.cons_append, List.nil_append, if_true, if_false, Bool.false_eq_true, decide_eq_true_eq, and_true, true_and, ite_true, ite_false, reduceCtorEq, rn_methM, rn_methM0, isTM_eq, rn_mk, rn_st, mk_own, st_own, ty_own, ex_app, ex_ext, ex_extT, ex_rev, ex_pop, rn_storeM, rn_lc, rn_lc2, rn_turn, rn_turn1, rn_frz])
local macro_rules | `(tactic| simp! [$ls,*]) => `(tactic| simp -implicitDefEqProofs only [rn_bind, rn_pure, rn_no, rn_need, rn_opt1, rn_ite, rn_var, rn_put, rn_useD, rn_useN, rn_useO, rn_chkD, rn_chkN, rn_chkO, rn_call, rn_seq, rn_guard, rn_forIn, rn_for0, rn_setD, rn_setN, rn_setO, binM, binMO, unM, cmpT, testM, andT, orT, notT, ifM, asgM, retM, exprM, kM, consA, nilA, tupM, lstM, useAll, chkAll, slM, partM, DL.andM, DL.orM, DL.notM, negM, asgG, gN, gT, gsC, gsN, seqI, frzM, asgTM, dnewM, par2M, hold_d, hold_n, hold_o, d_d, d_n, d_o, out_d, out_n, out_o, fo_next, fo_ret, isBl_b, isInt_i, tr_i, tr_b, tr_n, tr_l, tr_t, it_l, it_r, it_t, li_l, li_r, op_add_i, op_add_l, op_add_t, op_sub_i, op_mul_i, op_mod_i, op_div_i, op_pow_i, op_lt_i, op_le_i, op_gt_i, op_ge_i, op_int_i, op_abs_i, op_len_l, op_len_t, op_len_r, op_tup_l, op_tup_t, op_lst_l, op_lst_t, op_max_i, op_eq_i, eq_go_go, eq_get_get, eq_go_get, eq_get_go, Bool.bne_false, Bool.bne_true, Bool.not_true, Bool.not_false, op_sl_l, op_sl_r, op_sl_t, op_ix_t0, op_ix_t1, op_ix_t2, op_ix_l0, List.getElem?_cons_zero, List.getElem?_cons_succ, List.set_cons_zero, List.set_cons_succ, List.map_cons, List.map_nil, List.length_cons, List.length_nil, List.cons_append, List.nil_append, if_true, if_false, Bool.false_eq_true, decide_eq_true_eq, and_true, true_and, ite_true, ite_false, reduceCtorEq, rn_methM, rn_methM0, isTM_eq, rn_mk, rn_st, mk_own, st_own, ty_own, ex_app, ex_ext, ex_extT, ex_rev, ex_pop, rn_storeM, rn_lc, rn_lc2, rn_turn, rn_turn1, rn_frz, $ls,*])
theorem lt_call {x : Bag} {u : Int} {Q : Res → List D → Prop} (hx : BOk x) (hu : 0 < u) (hu2 : u < 1073741824) (h : ∀ (k : Int) (x' : Bag), 0 ≤ k → k < u → BOk x' → Q (.dat (.int k)) [TB, bagD x']) : Dr d__law_take [.obj 1, .int u] [TB, bagD x] Q :=
  take_call hx hu hu2 h
theorem bag_ok {ns : List Int} (hl : ns.length ≤ 63) {Q : Res → List D → Prop} (q : ∀ x, BOk x → Q (.new (bagD x)) [TB]) : Dr d__law_bag [.rol (ns.map .int)] [TB] Q := by
  unfold d__law_bag b__law_bag
  rw [dr_run]
  simp! [List.replicate, show (63 : Int) = ((63 : Nat) : Int) from rfl, cut_take]
  refine cw_map (F := absF) (small_le (by simp; omega)) (fun d hd => ?_) ?_
  · rw [← List.map_take] at hd
    obtain ⟨k, hk, rfl⟩ := List.mem_map.mp hd
    simp! [wipeE, Slot.frz]
    rfl
  · rw [List.nil_append, ← List.map_take, absF_eq, if_imms (imms_ints _) rfl]
    refine ⟨small_le (by decide), ?_⟩
    exact q ⟨0, 1234567891, 0, (ns.take 63).map fun i => if i < 0 then -i else i⟩ ⟨⟨Int.le_refl _, Int.le.intro_sub 1234567891 rfl, Int.le_refl _, fun v hv => by
      obtain ⟨i, _, rfl⟩ := List.mem_map.mp hv
      split <;> omega⟩, by simp; omega⟩
theorem lot_ok {m : Int} {x : Bag} (hx : BOk x) (h1 : 1 ≤ m) (h4 : m ≤ 8) {Q : Res → List D → Prop} (q : ∀ l : List Int, ∀ x', BOk x' → l ≠ [] → l.Pairwise (· < ·) → (∀ k ∈ l, 0 ≤ k ∧ k < m) → Q (.dat (tI l)) [TB, bagD x']) : Dr d__law_lot [.obj 1, .int m] [TB, bagD x] Q := by
  unfold d__law_lot b__law_lot
  rw [dr_run]
  simp! [List.replicate]
  refine lt_call hx (by omega) (by omega) fun first x' k0 k1 hy => ?_
  rw [safe_b rfl]
  simp! [rng1I]
  refine ⟨by unfold rngOk; exact decide_eq_true (by omega), ?_⟩
  refine cw_left (I := fun ds acc o => ∃ (j : Nat) (l : List Int) (y : Bag), (j : Int) ≤ m ∧ ds = rangeD j (m.toNat - j) ∧ acc = l.map .int ∧ o = [TB, bagD y] ∧ BOk y ∧ l.Pairwise (· < ·) ∧ (∀ k ∈ l, 0 ≤ k ∧ k < (j : Int)) ∧ (first < (j : Int) → l ≠ [])) (small_le (by rw [rangeD_len]; simp; omega)) ⟨0, [], x', by omega, rfl, rfl, rfl, hy, .nil, by simp, fun h => by omega⟩ ?_ ?_
  · rintro d ds acc o ⟨j, l, y, hj, e1, rfl, rfl, hy, up, hb, hf⟩
    have hjm : j < m.toNat := by
      rcases Nat.lt_or_ge j m.toNat with h | h
      · exact h
      · rw [show m.toNat - j = 0 by omega] at e1
        cases e1
    rw [show m.toNat - j = (m.toNat - (j + 1)) + 1 by omega] at e1
    cases e1
    have keep : ∀ y', BOk y' → ∃ (j' : Nat) (l' : List Int) (y'' : Bag), (j' : Int) ≤ m ∧ rangeD ((j : Int) + 1) (m.toNat - (j + 1)) = rangeD j' (m.toNat - j') ∧ l.map D.int ++ [.int j] = l'.map D.int ∧ [TB, bagD y'] = [TB, bagD y''] ∧ BOk y'' ∧ l'.Pairwise (· < ·) ∧ (∀ k ∈ l', 0 ≤ k ∧ k < (j' : Int)) ∧ (first < (j' : Int) → l' ≠ []) := fun y' hy' =>
      ⟨j + 1, l ++ [(j : Int)], y', by omega, rfl, by simp, rfl, hy', by
        rw [List.pairwise_append]
        exact ⟨up, by simp, fun a ha b hb' => by simp at hb'; subst hb'; exact (hb a ha).2⟩, fun k hk => by
        rcases List.mem_append.mp hk with h | h
        · have := hb k h; omega
        · simp at h; omega, fun _ => by simp⟩
    simp! [wipeE, Slot.frz]
    by_cases c : (j : Int) = first
    · have c' : ((j : Int) == first) = true := by simp [c]
      simp only [c']
      simp!
      exact keep _ hy
    · have c' : ((j : Int) == first) = false := by simp [c]
      simp only [c']
      simp!
      refine lt_call hy (by omega) (by omega) fun k y' k0 k1 hy' => ?_
      rw [safe_b rfl]
      simp!
      split
      · exact keep _ hy'
      · exact ⟨j + 1, l, y', by omega, rfl, rfl, rfl, hy', up, fun k hk => by have := hb k hk; omega, fun h => hf (by omega)⟩
  · rintro acc o ⟨j, l, y, hj, e1, rfl, rfl, hy, up, hb, hf⟩
    have hjm : j = m.toNat := by
      rcases Nat.lt_or_ge j m.toNat with h | h
      · rw [show m.toNat - j = (m.toNat - (j + 1)) + 1 by omega] at e1
        cases e1
      · omega
    rw [if_imms (imms_ints _) (bag_all y)]
    exact q l y hy (hf (by omega)) up fun k hk => by have := hb k hk; omega
end LW
end
section
set_option maxRecDepth 100000
namespace LW
open PySem L2 LC
open DL hiding tI bag_all safe_b safe_bn take_call take_rn takeEnv take1 take_ok where_b st_b0 st_b1 aug_b2
local macro_rules | `(tactic| simp!) => `(tactic| simp -implicitDefEqProofs only [rn_bind, rn_pure, rn_no, rn_need, rn_opt1, rn_ite, rn_var, rn_put, rn_useD, rn_useN, rn_useO, rn_chkD, rn_chkN, rn_chkO, rn_call, rn_seq, rn_guard, rn_forIn, rn_for0, rn_setD, rn_setN, rn_setO, binM, binMO, unM, cmpT, testM, andT, orT, notT, ifM, asgM, retM, exprM, kM, consA, nilA, tupM, lstM, useAll, chkAll, slM, partM, DL.andM, DL.orM, DL.notM, negM, asgG, gN, gT, gsC, gsN, seqI, frzM, asgTM, dnewM, par2M, hold_d, hold_n, hold_o, d_d, d_n, d_o, out_d, out_n, out_o, fo_next, fo_ret, isBl_b, isInt_i, tr_i, tr_b, tr_n, tr_l, tr_t, it_l, it_r, it_t, li_l, li_r, op_add_i, op_add_l, op_add_t, op_sub_i, op_mul_i, op_mod_i, op_div_i, op_pow_i, op_lt_i, op_le_i, op_gt_i, op_ge_i, op_int_i, op_abs_i, op_len_l, op_len_t, op_len_r, op_tup_l, op_tup_t, op_lst_l, op_lst_t, op_max_i, op_eq_i, eq_go_go, eq_get_get, eq_go_get, eq_get_go, Bool.bne_false, Bool.bne_true, Bool.not_true, Bool.not_false, op_sl_l, op_sl_r, op_sl_t, op_ix_t0, op_ix_t1, op_ix_t2, op_ix_l0, List.getElem?_cons_zero, List.getElem?_cons_succ, List.set_cons_zero, List.set_cons_succ, List.map_cons, List.map_nil, List.length_cons, List.length_nil, List.cons_append, List.nil_append, if_true, if_false, Bool.false_eq_true, decide_eq_true_eq, and_true, true_and, ite_true, ite_false, reduceCtorEq, rn_methM, rn_methM0, isTM_eq, rn_mk, rn_st, mk_own, st_own, ty_own, ex_app, ex_ext, ex_extT, ex_rev, ex_pop, rn_storeM, rn_lc, rn_lc2, rn_turn, rn_turn1, rn_frz])
local macro_rules | `(tactic| simp! [$ls,*]) => `(tactic| simp -implicitDefEqProofs only [rn_bind, rn_pure, rn_no, rn_need, rn_opt1, rn_ite, rn_var, rn_put, rn_useD, rn_useN, rn_useO, rn_chkD, rn_chkN, rn_chkO, rn_call, rn_seq, rn_guard, rn_forIn, rn_for0, rn_setD, rn_setN, rn_setO, binM, binMO, unM, cmpT, testM, andT, orT, notT, ifM, asgM, retM, exprM, kM, consA, nilA, tupM, lstM, useAll, chkAll, slM, partM, DL.andM, DL.orM, DL.notM, negM, asgG, gN, gT, gsC, gsN, seqI, frzM, asgTM, dnewM, par2M, hold_d, hold_n, hold_o, d_d, d_n, d_o, out_d, out_n, out_o, fo_next, fo_ret, isBl_b, isInt_i, tr_i, tr_b, tr_n, tr_l, tr_t, it_l, it_r, it_t, li_l, li_r, op_add_i, op_add_l, op_add_t, op_sub_i, op_mul_i, op_mod_i, op_div_i, op_pow_i, op_lt_i, op_le_i, op_gt_i, op_ge_i, op_int_i, op_abs_i, op_len_l, op_len_t, op_len_r, op_tup_l, op_tup_t, op_lst_l, op_lst_t, op_max_i, op_eq_i, eq_go_go, eq_get_get, eq_go_get, eq_get_go, Bool.bne_false, Bool.bne_true, Bool.not_true, Bool.not_false, op_sl_l, op_sl_r, op_sl_t, op_ix_t0, op_ix_t1, op_ix_t2, op_ix_l0, List.getElem?_cons_zero, List.getElem?_cons_succ, List.set_cons_zero, List.set_cons_succ, List.map_cons, List.map_nil, List.length_cons, List.length_nil, List.cons_append, List.nil_append, if_true, if_false, Bool.false_eq_true, decide_eq_true_eq, and_true, true_and, ite_true, ite_false, reduceCtorEq, rn_methM, rn_methM0, isTM_eq, rn_mk, rn_st, mk_own, st_own, ty_own, ex_app, ex_ext, ex_extT, ex_rev, ex_pop, rn_storeM, rn_lc, rn_lc2, rn_turn, rn_turn1, rn_frz, $ls,*])
theorem ix_li {ns : List Int} {i : Nat} {k : Int} (h : ns[i]? = some k) {Q : Res → Sx → Prop} {S : Sx} : Rn (opIx (.lst (ns.map .int)) (.int (i : Nat))) S Q = Q (.dat (.int k)) S := op_ix_ln (by rw [List.getElem?_map, h]; rfl)
theorem To_snoc {g : Int} {c : Cd} : ∀ {ds : List Cd}, Cd.Tos g ds → c.To g → Cd.Tos g (ds ++ [c])
  | [], _, h => ⟨h, trivial⟩
  | d :: r, h, h2 => ⟨h.1, To_snoc h.2 h2⟩
theorem free_ok {letters states : List Int} (hm : ManyOk letters) (hne : letters ≠ []) {w : Nat} {g : Int} (hg : states[w]? = some g) (g1 : 1 ≤ g) (g8 : g ≤ 8) : ∀ (fuel n : Nat), n < fuel → ∀ (x : Bag), BOk x →
    ∀ {Q : Res → List D → Prop}, (∀ (c : Cd) (x' : Bag), c.Ok letters n → c.To g → BOk x' → Q (.dat c.toD) [TB, bagD x']) → Dr (d__law_free fuel) [.obj 1, .int (w : Nat), .lst (states.map .int), .lst (letters.map .int), .int n] [TB, bagD x] Q
  | 0, n, hn, _, _, _, _ => absurd hn (Nat.not_lt_zero _)
  | fuel + 1, n, hn, x, hx, Q, q => by
    have lp : 0 < letters.length := List.length_pos_iff.mpr hne
    have l5 := hm.len
    unfold d__law_free b__law_free
    rw [dr_run]
    generalize hB : exprM (methM "list" 8 _ opAppend) = B
    simp! [List.replicate]
    have leaf : ∀ y, BOk y → ∀ {Q' : Res → List D → Prop}, (∀ (k : Int) (x' : Bag), 0 ≤ k → k < g → BOk x' → Q' (.dat (.int k)) [TB, bagD x']) → Dr d__law_take [.obj 1, .int g] [TB, bagD y] Q' := fun y hy Q' h => lt_call hy (by omega) (by omega) h
    by_cases n0 : n = 0
    · subst n0
      have e0 : (((0 : Nat) : Int) == 0) = true := rfl
      simp only [e0]
      simp! [ix_li hg]
      refine leaf x hx fun k x' k0 k1 hy => ?_
      rw [safe_b rfl]
      simp!
      exact ⟨small_le (by decide), q (.go k) x' ⟨k0, by omega⟩ k1 hy⟩
    · have e0 : (((n : Nat) : Int) == 0) = false := by simp [n0]
      simp only [e0]
      simp!
      refine lt_call hx (by decide) (by decide) fun k x' k0 k1 hy => ?_
      rw [safe_b rfl]
      simp! [ix_li hg]
      split
      · refine leaf x' hy fun k x2 k0 k1 hy2 => ?_
        rw [safe_b rfl]
        simp!
        refine ⟨small_le (by decide), q (.go k) x2 ?_ k1 hy2⟩
        cases n <;> exact ⟨k0, by omega⟩
      · simp! [List.length_map]
        refine lt_call hy (by omega) (by omega) fun w2 x2 w0 w1 hy2 => ?_
        rw [safe_b rfl]
        obtain ⟨j, rfl⟩ := toNat_int w0
        have hj : j < letters.length := by omega
        have hmj : letters[j]? = some letters[j] := List.getElem?_eq_getElem hj
        have mj := hm.fit _ (List.getElem_mem hj)
        simp! [ix_li hmj]
        refine lt_call hy2 (by omega) (by omega) fun full x3 k0 k1 hy3 => ?_
        rw [safe_b rfl]
        simp! [parK, rng1I, ix_li hmj]
        refine ⟨small_le (by decide), by unfold rngOk; exact decide_eq_true (by omega), ?_⟩
        obtain ⟨p, rfl⟩ : ∃ p, n = p + 1 := ⟨n - 1, by omega⟩
        refine for_rng (n := letters[j].toNat) (I := fun k S => ∃ (cs : List Cd) (y : Bag) (s6 : Slot), cs.length = k ∧ Cd.Oks letters p cs ∧ Cd.Tos g cs ∧ BOk y ∧ S = ⟨[.dat (.obj 1), .dat (.int (w : Nat)), .dat (.lst (states.map .int)), .dat (.lst (letters.map .int)), .dat (.int ((p + 1 : Nat) : Int)), .dat (.int j), s6, .dat (.int full), .own (.lst (cs.map Cd.toD))], [TB, bagD y]⟩) ⟨[], x3, _, rfl, trivial, trivial, hy3, rfl⟩ ?_ ?_
        · rintro i S hi ⟨cs, y, s6, hl, ok, to, hy, rfl⟩
          have fin : ∀ (m : Nat), m ≤ p → ∀ {Q' : Res → List D → Prop}, (∀ (c : Cd) (y' : Bag), c.Ok letters p → c.To g → BOk y' → Q' (.dat c.toD) [TB, bagD y']) → Dr (d__law_free fuel) [.obj 1, .int (w : Nat), .lst (states.map .int), .lst (letters.map .int), .int m] [TB, bagD y] Q' :=
            fun m h Q' q' => free_ok hm hne hg g1 g8 fuel m (by omega) y hy fun c y' hc ht hy' => q' c y' (Ok_mono m p c h hc) ht hy'
          have c1 : ((p + 1 : Nat) : Int) - 1 = (p : Int) := by omega
          rw [← hB]
          simp! [c1]
          have e1 : ∀ c : Cd, cs.map Cd.toD ++ [c.toD] = (cs ++ [c]).map Cd.toD := fun c => by simp
          split
          · rename_i e3
            have p2 : p = 2 := by simp at e3; omega
            split
            · refine fin 1 (by omega) fun c y' hc ht hy' => ?_
              rw [safe_b (Cd.imm c)]
              simp!
              rw [e1]
              exact ⟨small_lt (by simp; omega), cs ++ [c], y', _, by simp [hl], Oks_snoc ok hc, To_snoc to ht, hy', rfl⟩
            · refine fin p (by omega) fun c y' hc ht hy' => ?_
              rw [safe_b (Cd.imm c)]
              simp!
              rw [e1]
              exact ⟨small_lt (by simp; omega), cs ++ [c], y', _, by simp [hl], Oks_snoc ok hc, To_snoc to ht, hy', rfl⟩
          · refine fin p (by omega) fun c y' hc ht hy' => ?_
            rw [safe_b (Cd.imm c)]
            simp!
            rw [e1]
            exact ⟨small_lt (by simp; omega), cs ++ [c], y', _, by simp [hl], Oks_snoc ok hc, To_snoc to ht, hy', rfl⟩
        · rintro S ⟨cs, y, s6, hl, ok, to, hy, rfl⟩
          simp!
          refine ⟨small_le (by decide), ?_⟩
          have e := q (.get j cs) y ⟨w0, by rw [Int.toNat_natCast, hmj]; congr 1; omega, ok⟩ to hy
          rw [← toDs_map]
          exact e
end LW
end
section
set_option maxRecDepth 100000
namespace LW
open PySem L2 LC
open DL hiding tI bag_all safe_b safe_bn take_call take_rn takeEnv take1 take_ok where_b st_b0 st_b1 aug_b2
local macro_rules | `(tactic| simp!) => `(tactic| simp -implicitDefEqProofs only [rn_bind, rn_pure, rn_no, rn_need, rn_opt1, rn_ite, rn_var, rn_put, rn_useD, rn_useN, rn_useO, rn_chkD, rn_chkN, rn_chkO, rn_call, rn_seq, rn_guard, rn_forIn, rn_for0, rn_setD, rn_setN, rn_setO, binM, binMO, unM, cmpT, testM, andT, orT, notT, ifM, asgM, retM, exprM, kM, consA, nilA, tupM, lstM, useAll, chkAll, slM, partM, DL.andM, DL.orM, DL.notM, negM, asgG, gN, gT, gsC, gsN, seqI, frzM, asgTM, dnewM, par2M, hold_d, hold_n, hold_o, d_d, d_n, d_o, out_d, out_n, out_o, fo_next, fo_ret, isBl_b, isInt_i, tr_i, tr_b, tr_n, tr_l, tr_t, it_l, it_r, it_t, li_l, li_r, op_add_i, op_add_l, op_add_t, op_sub_i, op_mul_i, op_mod_i, op_div_i, op_pow_i, op_lt_i, op_le_i, op_gt_i, op_ge_i, op_int_i, op_abs_i, op_len_l, op_len_t, op_len_r, op_tup_l, op_tup_t, op_lst_l, op_lst_t, op_max_i, op_eq_i, eq_go_go, eq_get_get, eq_go_get, eq_get_go, Bool.bne_false, Bool.bne_true, Bool.not_true, Bool.not_false, op_sl_l, op_sl_r, op_sl_t, op_ix_t0, op_ix_t1, op_ix_t2, op_ix_l0, List.getElem?_cons_zero, List.getElem?_cons_succ, List.set_cons_zero, List.set_cons_succ, List.map_cons, List.map_nil, List.length_cons, List.length_nil, List.cons_append, List.nil_append, if_true, if_false, Bool.false_eq_true, decide_eq_true_eq, and_true, true_and, ite_true, ite_false, reduceCtorEq, rn_methM, rn_methM0, isTM_eq, rn_mk, rn_st, mk_own, st_own, ty_own, ex_app, ex_ext, ex_extT, ex_rev, ex_pop, rn_storeM, rn_lc, rn_lc2, rn_turn, rn_turn1, rn_frz])
local macro_rules | `(tactic| simp! [$ls,*]) => `(tactic| simp -implicitDefEqProofs only [rn_bind, rn_pure, rn_no, rn_need, rn_opt1, rn_ite, rn_var, rn_put, rn_useD, rn_useN, rn_useO, rn_chkD, rn_chkN, rn_chkO, rn_call, rn_seq, rn_guard, rn_forIn, rn_for0, rn_setD, rn_setN, rn_setO, binM, binMO, unM, cmpT, testM, andT, orT, notT, ifM, asgM, retM, exprM, kM, consA, nilA, tupM, lstM, useAll, chkAll, slM, partM, DL.andM, DL.orM, DL.notM, negM, asgG, gN, gT, gsC, gsN, seqI, frzM, asgTM, dnewM, par2M, hold_d, hold_n, hold_o, d_d, d_n, d_o, out_d, out_n, out_o, fo_next, fo_ret, isBl_b, isInt_i, tr_i, tr_b, tr_n, tr_l, tr_t, it_l, it_r, it_t, li_l, li_r, op_add_i, op_add_l, op_add_t, op_sub_i, op_mul_i, op_mod_i, op_div_i, op_pow_i, op_lt_i, op_le_i, op_gt_i, op_ge_i, op_int_i, op_abs_i, op_len_l, op_len_t, op_len_r, op_tup_l, op_tup_t, op_lst_l, op_lst_t, op_max_i, op_eq_i, eq_go_go, eq_get_get, eq_go_get, eq_get_go, Bool.bne_false, Bool.bne_true, Bool.not_true, Bool.not_false, op_sl_l, op_sl_r, op_sl_t, op_ix_t0, op_ix_t1, op_ix_t2, op_ix_l0, List.getElem?_cons_zero, List.getElem?_cons_succ, List.set_cons_zero, List.set_cons_succ, List.map_cons, List.map_nil, List.length_cons, List.length_nil, List.cons_append, List.nil_append, if_true, if_false, Bool.false_eq_true, decide_eq_true_eq, and_true, true_and, ite_true, ite_false, reduceCtorEq, rn_methM, rn_methM0, isTM_eq, rn_mk, rn_st, mk_own, st_own, ty_own, ex_app, ex_ext, ex_extT, ex_rev, ex_pop, rn_storeM, rn_lc, rn_lc2, rn_turn, rn_turn1, rn_frz, $ls,*])
theorem fm_fit (a : Int) {m : Int} (h : 0 < m) : 0 ≤ a.fmod m ∧ a.fmod m < m := ⟨Int.fmod_nonneg_of_pos a h, Int.fmod_lt_of_pos a h⟩
theorem cw_goes {turn : D → M (Option D)} {env : List Slot} {o : List D} {P : List D → List D → Prop} {hd : Nat} {mn : Int} (F : Nat → Int) (h5 : hd ≤ 1000) (hF : ∀ i, i < hd → 0 ≤ F i ∧ F i < mn) (ht : ∀ i, i < hd → Rn (turn (.int (i : Nat))) ⟨env, o⟩ fun r S' => r = some (.int (F i)) ∧ S'.objs = o)
    (q : ∀ goes : List Int, goes.length = hd → (∀ x ∈ goes, 0 ≤ x ∧ x < mn) → P (goes.map .int) o) : Cw turn env (rangeD 0 hd) [] o P := by
  rw [show rangeD 0 hd = (List.range' 0 hd).map fun i => D.int ((i : Nat) : Int) from range_map hd 0]
  refine cw_ofM (g := fun i => .int (F i)) (small_le (by simp; omega)) (fun i hi => ht i (by simp at hi; omega)) ?_
  have := q ((List.range' 0 hd).map F) (by simp) (fun x hx => by
    obtain ⟨i, hi, rfl⟩ := List.mem_map.mp hx
    exact hF i (by simp at hi; omega))
  rw [List.map_map] at this
  exact this
theorem op_int_b {b : Bool} {Q : Res → Sx → Prop} {S : Sx} : Rn (opInt (.bl b)) S Q = Q (.dat (.int (if b = true then 1 else 0))) S := rfl
theorem op_tup_r {ds : List D} {Q : Res → Sx → Prop} {S : Sx} : Rn (opTuple (.rol ds)) S Q = Q (.dat (.tup ds)) S := rfl
theorem op_min_i {i j : Int} {Q : Res → Sx → Prop} {S : Sx} : Rn (opMin2 (.int i) (.int j)) S Q = Q (.dat (.int (if j < i then j else i))) S := by
  unfold opMin2 DL.opI
  rw [rn_need]
  simp [rn_pure]
def rowC (at_ mn : Int) (hd i : Nat) : List Cd := (List.range' 0 hd).map fun m => Cd.go (if i = m then at_ else mn - 1)
theorem rowC_mem {at_ mn : Int} {hd i : Nat} (a0 : 0 ≤ at_) (a1 : at_ < mn) {c : Cd} (h : c ∈ rowC at_ mn hd i) : ∃ s, c = .go s ∧ 0 ≤ s ∧ s < mn := by
  obtain ⟨m, _, rfl⟩ := List.mem_map.mp h
  refine ⟨_, rfl, ?_, ?_⟩ <;> split <;> omega
theorem Oks_of {many : List Int} {n : Nat} : ∀ {ds : List Cd}, (∀ c ∈ ds, c.Ok many n) → Cd.Oks many n ds
  | [], _ => trivial
  | d :: r, h => ⟨h d List.mem_cons_self, Oks_of fun c hc => h c (List.mem_cons_of_mem _ hc)⟩
theorem form_ok {letters : List Int} (hm : ManyOk letters) {fm at_ mn : Int} {asked hd : Nat} {o : List D} (ho : (o.all fun o => D.imms o.parts) = true) (a0 : 0 ≤ at_) (a1 : at_ < mn) (m8 : mn ≤ 8) (hk : letters[asked]? = some (hd : Int)) {Q : Res → List D → Prop}
    (q : ∀ c : Cd, c.Ok letters 3 → c.To mn → Q (.dat c.toD) o) : Dr d__law_form [.int fm, .int at_, .int mn, .int (asked : Nat), .int (hd : Nat)] o Q := by
  have mh := hm.fit _ (List.mem_of_getElem? hk)
  have h4 : hd ≤ 4 := by omega
  have h1 : 1 ≤ hd := by omega
  have mp : 0 < mn := by omega
  unfold d__law_form b__law_form
  rw [dr_run]
  generalize hT : seqM (ifM (cmpT (opEq false) (varM 0) (kM (.int 9))) _ _) _ = T
  have tail : ∀ (goes : List Int) (s6 s7 s8 s9 s10 : Slot), goes.length = hd → (∀ x ∈ goes, 0 ≤ x ∧ x < mn) → Rn T ⟨[.dat (.int fm), .dat (.int at_), .dat (.int mn), .dat (.int (asked : Nat)), .dat (.int (hd : Nat)), .own (.lst (goes.map .int)), s6, s7, s8, s9, s10], o⟩ (flOut Q) := by
    intro goes s6 s7 s8 s9 s10 gl gf
    rw [← hT]
    simp! [rng1I, Int.toNat_natCast]
    split
    · refine ⟨by unfold rngOk; exact decide_eq_true (by omega), ?_⟩
      rw [show rangeD 0 hd = (List.range' 0 hd).map fun i => D.int ((i : Nat) : Int) from range_map hd 0]
      refine cw_ofM (g := fun i => .rol ((rowC at_ mn hd i).map Cd.toD)) (small_le (by simp; omega)) (fun i hi => ?_) ?_
      · simp! [wipeE, Slot.frz, List.map_cons, rng1I, Int.toNat_natCast]
        refine ⟨by unfold rngOk; exact decide_eq_true (by omega), ?_⟩
        rw [show rangeD 0 hd = (List.range' 0 hd).map fun i => D.int ((i : Nat) : Int) from range_map hd 0]
        refine cw_ofM (g := fun m => Cd.toD (.go (if i = m then at_ else mn - 1))) (small_le (by simp; omega)) (fun m hm => ?_) ?_
        · simp! [wipeE, Slot.frz, List.map_cons]
          by_cases e : i = m
          · subst e; simp; exact ⟨small_le (by decide), rfl⟩
          · have e' : ¬ ((i : Int) = (m : Int)) := by omega
            simp [e, e']; exact ⟨small_le (by decide), rfl⟩
        · have er : (List.range' 0 hd).map (fun m => Cd.toD (.go (if i = m then at_ else mn - 1))) = (rowC at_ mn hd i).map Cd.toD := by unfold rowC; rw [List.map_map]; rfl
          rw [er, if_imms (cds_imm _) ho]
          exact ⟨rfl, rfl⟩
      · have im : D.imms ((List.range' 0 hd).map fun i => D.rol ((rowC at_ mn hd i).map Cd.toD)) = true := by
          generalize List.range' 0 hd = L
          induction L with
          | nil => rfl
          | cons a r ih => simp [D.imms, D.imm, cds_imm, ih]
        rw [if_imms im ho]
        refine cw_ofM (f := fun i => D.rol ((rowC at_ mn hd i).map Cd.toD)) (g := fun i => Cd.toD (.get asked (rowC at_ mn hd i))) (xs := List.range' 0 hd) (small_le (by simp; omega)) (fun i hi => ?_) ?_
        · simp! [wipeE, Slot.frz, List.map_cons, op_tup_r]
          rw [← toDs_map]
          exact ⟨small_le (by decide), rfl⟩
        · have er : (List.range' 0 hd).map (fun i => Cd.toD (.get asked (rowC at_ mn hd i))) = ((List.range' 0 hd).map fun i => Cd.get asked (rowC at_ mn hd i)).map Cd.toD := by rw [List.map_map]; rfl
          rw [er, if_imms (cds_imm _) ho]
          refine ⟨small_le (by decide), ?_⟩
          rw [← toDs_map]
          have lr : ∀ i, (rowC at_ mn hd i).length = hd := fun i => by simp [rowC]
          refine q (.get asked ((List.range' 0 hd).map fun i => Cd.get asked (rowC at_ mn hd i))) ⟨by omega, by simp [hk], Oks_of fun c hc => ?_⟩ (Tos_of fun c hc => ?_)
          · obtain ⟨i, _, rfl⟩ := List.mem_map.mp hc
            refine ⟨by omega, by simp [hk, lr], Oks_of fun c hc => ?_⟩
            obtain ⟨s, rfl, h0, h1⟩ := rowC_mem a0 a1 hc
            exact ⟨h0, by omega⟩
          · obtain ⟨i, _, rfl⟩ := List.mem_map.mp hc
            refine Tos_of fun c hc => ?_
            obtain ⟨s, rfl, h0, h1⟩ := rowC_mem a0 a1 hc
            exact h1
    · refine cw_ofM (f := D.int) (g := fun s => Cd.toD (.go s)) (xs := goes) (small_le (by omega)) (fun s hs => ?_) ?_
      · simp! [wipeE, Slot.frz, List.map_cons]
        exact ⟨small_le (by decide), rfl⟩
      · have er : goes.map (fun s => Cd.toD (.go s)) = (goes.map Cd.go).map Cd.toD := by rw [List.map_map]; rfl
        rw [er, if_imms (cds_imm _) ho]
        refine ⟨small_le (by decide), ?_⟩
        rw [← toDs_map]
        refine q (.get asked (goes.map Cd.go)) ⟨by omega, by simp [hk, gl], Oks_of fun c hc => ?_⟩ (Tos_of fun c hc => ?_)
        · obtain ⟨s, hs, rfl⟩ := List.mem_map.mp hc
          have := gf s hs
          exact ⟨this.1, by omega⟩
        · obtain ⟨s, hs, rfl⟩ := List.mem_map.mp hc
          exact (gf s hs).2
  generalize hC2 : ifM (cmpT (opEq false) (varM 0) (kM (.int 2))) _ _ = C2
  simp! [List.replicate, rng1I, Int.toNat_natCast]
  refine ⟨by unfold rngOk; exact decide_eq_true (by omega), ?_⟩
  refine cw_goes (fun i => (i : Int).fmod mn) (by omega) (fun i hi => fm_fit _ mp) (fun i hi => ?_) fun goes hl hg => ?_
  · simp! [wipeE, Slot.frz, List.map_cons]
    omega
  · rw [if_imms (imms_ints _) ho]
    have rg : rngOk (hd : Int) = true := by unfold rngOk; exact decide_eq_true (by omega)
    rw [← hC2]
    generalize hC3 : ifM (cmpT (opEq false) (varM 0) (kM (.int 3))) _ _ = C3
    simp! [rng1I, Int.toNat_natCast]
    split
    · refine ⟨rg, ?_⟩
      refine cw_goes (fun i => ((i : Int) + 1).fmod mn) (by omega) (fun i hi => fm_fit _ mp) (fun i hi => ?_) fun goes hl hg => ?_
      · simp! [wipeE, Slot.frz, List.map_cons]
        omega
      · rw [if_imms (imms_ints _) ho]
        exact tail goes _ _ _ _ _ hl hg
    · rw [← hC3]
      generalize hC4 : ifM (cmpT (opEq false) (varM 0) (kM (.int 4))) _ _ = C4
      simp! [rng1I, Int.toNat_natCast]
      split
      · refine ⟨rg, ?_⟩
        refine cw_goes (fun i => (at_ + if ((i : Int) == at_.fmod hd) = true then 1 else 0).fmod mn) (by omega) (fun i hi => fm_fit _ mp) (fun i hi => ?_) fun goes hl hg => ?_
        · simp! [wipeE, Slot.frz, List.map_cons, op_int_b]
          exact ⟨by omega, by omega⟩
        · rw [if_imms (imms_ints _) ho]
          exact tail goes _ _ _ _ _ hl hg
      · rw [← hC4]
        generalize hC5 : ifM (orT _ _) _ _ = C5
        simp! [rng1I, Int.toNat_natCast]
        split
        · refine ⟨rg, ?_⟩
          refine cw_goes (mn := mn) (fun i => if (i : Int).fmod mn > at_ then (i : Int).fmod mn else at_) (by omega) (fun i hi => ?_) (fun i hi => ?_) fun goes hl hg => ?_
          · have := fm_fit (i : Int) mp
            split <;> omega
          · simp! [wipeE, Slot.frz, List.map_cons]
            omega
          · rw [if_imms (imms_ints _) ho]
            exact tail goes _ _ _ _ _ hl hg
        · rw [← hC5]
          generalize hC7 : ifM (andT _ _) _ _ = C7
          have goq : ∀ s : Int, 0 ≤ s → s < mn → 0 + 1 + 1 ≤ sizeLine ∧ Q (.dat (.tup [.str "go", .int s])) o := fun s h0 h1 => ⟨small_le (by decide), q (.go s) ⟨h0, by omega⟩ h1⟩
          have big9 : ∀ C9, ifM (cmpT (opEq false) (varM 0) (kM (.int 7))) (asgM 5 (lcM (rng1I (varM 4)) [7] (turnM (gN 7) (pure true) (binM opMin2 (binM opAdd (varM 7) (kM (.int 1))) (binM opSub (varM 2) (kM (.int 1))))))) (pure .next) = C9 → Rn (seqM C9 T) ⟨[.dat (.int fm), .dat (.int at_), .dat (.int mn), .dat (.int (asked : Nat)), .dat (.int (hd : Nat)), .own (.lst (goes.map .int)), .un, .un, .un, .un, .un], o⟩ (flOut Q) := by
            rintro C9 rfl
            simp! [rng1I, Int.toNat_natCast]
            split
            · refine ⟨rg, ?_⟩
              refine cw_goes (mn := mn) (fun i => if mn - 1 < (i : Int) + 1 then mn - 1 else (i : Int) + 1) (by omega) (fun i hi => ?_) (fun i hi => ?_) fun goes hl hg => ?_
              · split <;> omega
              · simp! [wipeE, Slot.frz, List.map_cons, op_min_i]
              · rw [if_imms (imms_ints _) ho]
                exact tail goes _ _ _ _ _ hl hg
            · exact tail goes _ _ _ _ _ hl hg
          have big : Rn (seqM C7 T) ⟨[.dat (.int fm), .dat (.int at_), .dat (.int mn), .dat (.int (asked : Nat)), .dat (.int (hd : Nat)), .own (.lst (goes.map .int)), .un, .un, .un, .un, .un], o⟩ (flOut Q) := by
            rw [← hC7]
            generalize hC8 : ifM (cmpT (opEq false) (varM 0) (kM (.int 8))) _ _ = C8
            have big8 : Rn (seqM C8 T) ⟨[.dat (.int fm), .dat (.int at_), .dat (.int mn), .dat (.int (asked : Nat)), .dat (.int (hd : Nat)), .own (.lst (goes.map .int)), .un, .un, .un, .un, .un], o⟩ (flOut Q) := by
              rw [← hC8]
              generalize hC9 : ifM (cmpT (opEq false) (varM 0) (kM (.int 7))) _ _ = C9
              have b9 := big9 C9 hC9
              rw [rn_seq] at b9
              simp!
              split
              · obtain ⟨h0, h1⟩ := fm_fit (at_ + 1) mp
                exact ⟨by omega, goq _ h0 h1⟩
              · exact b9
            rw [rn_seq] at big8
            simp!
            split
            · split
              · split
                · exact goq _ (by omega) (by omega)
                · obtain ⟨h0, h1⟩ := fm_fit at_ (show (0 : Int) < 2 by decide)
                  have : at_.fmod 2 = at_ % 2 := Int.fmod_eq_emod_of_nonneg _ (by decide)
                  exact ⟨by decide, goq _ (by omega) (by omega)⟩
              · exact big8
            · exact big8
          rw [rn_seq] at big
          have val : 0 ≤ (if mn - 1 < at_ + (if (fm == 6) = true then 1 else 0) then mn - 1 else at_ + (if (fm == 6) = true then 1 else 0)) ∧ (if mn - 1 < at_ + (if (fm == 6) = true then 1 else 0) then mn - 1 else at_ + (if (fm == 6) = true then 1 else 0)) < mn := by
            by_cases e6 : (fm == 6) = true
            · simp only [if_pos e6]; split <;> omega
            · simp only [if_neg e6]; split <;> omega
          simp! [op_int_b, op_min_i]
          generalize (if mn - 1 < at_ + (if (fm == 6) = true then 1 else 0) then mn - 1 else at_ + (if (fm == 6) = true then 1 else 0)) = vv at val ⊢
          have gv := goq vv val.1 val.2
          split
          · split
            · exact gv
            · split
              · split
                · exact gv
                · exact big
              · exact big
          · split
            · split
              · exact gv
              · exact big
            · exact big
end LW
end
section
set_option maxRecDepth 100000
namespace LW
open PySem L2 LC
open DL hiding tI bag_all safe_b safe_bn take_call take_rn takeEnv take1 take_ok where_b st_b0 st_b1 aug_b2
local macro_rules | `(tactic| simp!) => `(tactic| simp -implicitDefEqProofs only [rn_bind, rn_pure, rn_no, rn_need, rn_opt1, rn_ite, rn_var, rn_put, rn_useD, rn_useN, rn_useO, rn_chkD, rn_chkN, rn_chkO, rn_call, rn_seq, rn_guard, rn_forIn, rn_for0, rn_setD, rn_setN, rn_setO, binM, binMO, unM, cmpT, testM, andT, orT, notT, ifM, asgM, retM, exprM, kM, consA, nilA, tupM, lstM, useAll, chkAll, slM, partM, DL.andM, DL.orM, DL.notM, negM, asgG, gN, gT, gsC, gsN, seqI, frzM, asgTM, dnewM, par2M, hold_d, hold_n, hold_o, d_d, d_n, d_o, out_d, out_n, out_o, fo_next, fo_ret, isBl_b, isInt_i, tr_i, tr_b, tr_n, tr_l, tr_t, it_l, it_r, it_t, li_l, li_r, op_add_i, op_add_l, op_add_t, op_sub_i, op_mul_i, op_mod_i, op_div_i, op_pow_i, op_lt_i, op_le_i, op_gt_i, op_ge_i, op_int_i, op_abs_i, op_len_l, op_len_t, op_len_r, op_tup_l, op_tup_t, op_lst_l, op_lst_t, op_max_i, op_eq_i, eq_go_go, eq_get_get, eq_go_get, eq_get_go, Bool.bne_false, Bool.bne_true, Bool.not_true, Bool.not_false, op_sl_l, op_sl_r, op_sl_t, op_ix_t0, op_ix_t1, op_ix_t2, op_ix_l0, List.getElem?_cons_zero, List.getElem?_cons_succ, List.set_cons_zero, List.set_cons_succ, List.map_cons, List.map_nil, List.length_cons, List.length_nil, List.cons_append, List.nil_append, if_true, if_false, Bool.false_eq_true, decide_eq_true_eq, and_true, true_and, ite_true, ite_false, reduceCtorEq, rn_methM, rn_methM0, isTM_eq, rn_mk, rn_st, mk_own, st_own, ty_own, ex_app, ex_ext, ex_extT, ex_rev, ex_pop, rn_storeM, rn_lc, rn_lc2, rn_turn, rn_turn1, rn_frz])
local macro_rules | `(tactic| simp! [$ls,*]) => `(tactic| simp -implicitDefEqProofs only [rn_bind, rn_pure, rn_no, rn_need, rn_opt1, rn_ite, rn_var, rn_put, rn_useD, rn_useN, rn_useO, rn_chkD, rn_chkN, rn_chkO, rn_call, rn_seq, rn_guard, rn_forIn, rn_for0, rn_setD, rn_setN, rn_setO, binM, binMO, unM, cmpT, testM, andT, orT, notT, ifM, asgM, retM, exprM, kM, consA, nilA, tupM, lstM, useAll, chkAll, slM, partM, DL.andM, DL.orM, DL.notM, negM, asgG, gN, gT, gsC, gsN, seqI, frzM, asgTM, dnewM, par2M, hold_d, hold_n, hold_o, d_d, d_n, d_o, out_d, out_n, out_o, fo_next, fo_ret, isBl_b, isInt_i, tr_i, tr_b, tr_n, tr_l, tr_t, it_l, it_r, it_t, li_l, li_r, op_add_i, op_add_l, op_add_t, op_sub_i, op_mul_i, op_mod_i, op_div_i, op_pow_i, op_lt_i, op_le_i, op_gt_i, op_ge_i, op_int_i, op_abs_i, op_len_l, op_len_t, op_len_r, op_tup_l, op_tup_t, op_lst_l, op_lst_t, op_max_i, op_eq_i, eq_go_go, eq_get_get, eq_go_get, eq_get_go, Bool.bne_false, Bool.bne_true, Bool.not_true, Bool.not_false, op_sl_l, op_sl_r, op_sl_t, op_ix_t0, op_ix_t1, op_ix_t2, op_ix_l0, List.getElem?_cons_zero, List.getElem?_cons_succ, List.set_cons_zero, List.set_cons_succ, List.map_cons, List.map_nil, List.length_cons, List.length_nil, List.cons_append, List.nil_append, if_true, if_false, Bool.false_eq_true, decide_eq_true_eq, and_true, true_and, ite_true, ite_false, reduceCtorEq, rn_methM, rn_methM0, isTM_eq, rn_mk, rn_st, mk_own, st_own, ty_own, ex_app, ex_ext, ex_extT, ex_rev, ex_pop, rn_storeM, rn_lc, rn_lc2, rn_turn, rn_turn1, rn_frz, $ls,*])
def wk1 : M Fl := (asgG (tupM (consA (callM 2 d__law_take (consA (varM 0) (consA (kM (.int 10)) nilA))) (consA (callM 2 d__law_take (consA (varM 0) (consA (unM opLen (varM 3)) nilA))) nilA))) (gT 2 (gsC (gN 7) (gsC (gN 8) gsN))))
def wk2 : M Fl := (asgM 5 (lcM (rng1I (binM opIx (varM 2) (varM 1))) [9] (turnM (gN 9) (pure true) (binM opMod (varM 9) (binM opIx (varM 3) (varM 1))))))
def wk3 : M Fl := (ifM (cmpT (opEq false) (callM 2 d__law_take (consA (varM 0) (consA (kM (.int 3)) nilA))) (kM (.int 0))) (asgM 5 (lcM (rng1I (binM opIx (varM 2) (varM 1))) [9] (turnM (gN 9) (pure true) (callM 2 d__law_take (consA (varM 0) (consA (binM opIx (varM 3) (varM 1)) nilA)))))) (pure .next))
def wk4 : M Fl := (asgM 6 (lcM (rng1I (binM opIx (varM 2) (varM 1))) [9] (turnM (gN 9) (cmpT opGt (varM 7) (kM (.int 0))) (callM 5 d__law_form (consA (varM 7) (consA (varM 9) (consA (binM opIx (varM 2) (varM 1)) (consA (varM 8) (consA (binM opIx (varM 3) (varM 8)) nilA)))))))))
def wk5 : M Fl := (ifM (cmpT (opEq false) (varM 7) (kM (.int 0))) (asgM 6 (lcM (rng1I (binM opIx (varM 2) (varM 1))) [9] (turnM (gN 9) (pure true) (callM 5 (d__law_free 5) (consA (varM 0) (consA (varM 1) (consA (varM 2) (consA (varM 3) (consA (varM 4) nilA))))))))) (ifM (cmpT (opEq false) (callM 2 d__law_take (consA (varM 0) (consA (kM (.int 2)) nilA))) (kM (.int 0))) (storeM 6 (callM 5 (d__law_free 5) (consA (varM 0) (consA (varM 1) (consA (varM 2) (consA (varM 3) (consA (varM 4) nilA)))))) (callM 2 d__law_take (consA (varM 0) (consA (unM opLen (varM 6)) nilA)))) (pure .next)))
def wk6 : M Fl := (retM (tupM (consA (binM opIx (varM 3) (varM 1)) (consA (unM opTuple (varM 5)) (consA (unM opTuple (varM 6)) nilA)))))
theorem wk_eq : b__law_worker = seqM wk1 (seqM wk2 (seqM wk3 (seqM wk4 (seqM wk5 (wk6))))) := rfl
section
variable {letters states : List Int} {own n d : Nat} {m : Int}
abbrev wkE (letters states : List Int) (own d : Nat) (r : List Slot) : List Slot := .dat (.obj 1) :: .dat (.int (own : Nat)) :: .dat (.lst (states.map .int)) :: .dat (.lst (letters.map .int)) :: .dat (.int (d : Nat)) :: r
theorem gt_fm {fm : Int} {S : Sx} {Q : Res → Sx → Prop} : Rn (opGt (.int fm) (.int 0)) S Q = Q (.dat (.bl (decide (fm > 0)))) S := by rw [op_gt_i]
theorem wk4_ok (hm : ManyOk letters) (hs : states[own]? = some (n : Int)) (n1 : 1 ≤ n) (n5 : n ≤ 5) {fm : Int} (f0 : 0 ≤ fm) {asked : Nat} (ha : asked < letters.length) {x : Bag} {s6 s9 : Slot} {sh : List Int} {P : Fl → Sx → Prop}
    (q : ∀ cs : List Cd, (fm > 0 → cs.length = n) → (∀ c ∈ cs, c.Ok letters 3 ∧ c.To n) → cs.length ≤ 5 → P .next ⟨wkE letters states own d [.own (.lst (sh.map .int)), .own (.lst (cs.map Cd.toD)), .dat (.int fm), .dat (.int (asked : Nat)), s9], [TB, bagD x]⟩) :
    Rn wk4 ⟨wkE letters states own d [.own (.lst (sh.map .int)), s6, .dat (.int fm), .dat (.int (asked : Nat)), s9], [TB, bagD x]⟩ P := by
  have hk : letters[asked]? = some letters[asked] := List.getElem?_eq_getElem ha
  have hk4 := hm.fit _ (List.getElem_mem ha)
  generalize letters[asked] = hd at hk hk4
  obtain ⟨h, rfl⟩ := toNat_int (show 0 ≤ hd by omega)
  unfold wk4
  simp! [rng1I, ix_li hs, Int.toNat_natCast]
  refine ⟨by unfold rngOk; exact decide_eq_true (by omega), ?_⟩
  by_cases f : fm > 0
  · refine cw_left (I := fun ds acc o => ∃ (j : Nat) (cs : List Cd), ds = rangeD j (n - j) ∧ j ≤ n ∧ acc = cs.map Cd.toD ∧ cs.length = j ∧ (∀ c ∈ cs, c.Ok letters 3 ∧ c.To n) ∧ o = [TB, bagD x]) (small_le (by rw [rangeD_len]; simp; omega)) ⟨0, [], rfl, Nat.zero_le _, rfl, rfl, by simp, rfl⟩ ?_ ?_
    · rintro dd ds acc o ⟨j, cs, e1, hj, rfl, hl, hc, rfl⟩
      have hjn : j < n := by
        rcases Nat.lt_or_ge j n with h | h
        · exact h
        · rw [show n - j = 0 by omega] at e1; cases e1
      rw [show n - j = (n - (j + 1)) + 1 by omega] at e1
      cases e1
      simp! [wipeE, Slot.frz, List.map_cons, ix_li hs, ix_li hk, gt_fm]
      rw [if_pos f]
      with_reducible refine form_ok hm (bag_all x) (by omega) (by omega) (by omega) hk fun c c1 c2 => ?_
      rw [safe_b (Cd.imm c)]
      exact ⟨j + 1, cs ++ [c], rfl, hjn, by simp, by simp [hl], fun c' hc' => by
        rcases List.mem_append.mp hc' with h | h
        · exact hc c' h
        · rw [List.mem_singleton] at h; subst h; exact ⟨c1, c2⟩, rfl⟩
    · rintro acc o ⟨j, cs, e1, hj, rfl, hl, hc, rfl⟩
      have hjn : j = n := by
        rcases Nat.lt_or_ge j n with h | h
        · rw [show n - j = (n - (j + 1)) + 1 by omega] at e1; cases e1
        · omega
      rw [if_imms (cds_imm _) (bag_all x)]
      exact q cs (fun _ => by omega) hc (by omega)
  · rw [show rangeD 0 n = (List.range' 0 n).map fun i => D.int ((i : Nat) : Int) from range_map n 0]
    refine cw_ofF (c := fun _ => false) (g := fun _ => .non) (small_le (by simp; omega)) (fun i hi => ?_) ?_
    · simp! [wipeE, Slot.frz, List.map_cons, gt_fm]
      rw [if_neg f]
      simp
    · rw [show ((List.range' 0 n).filter fun _ => false) = [] by simp, List.map_nil, if_imms rfl (bag_all x)]
      exact q [] (fun h => absurd h f) (by simp) (by simp)
theorem wk5_ok (hm : ManyOk letters) (hne : letters ≠ []) (hs : states[own]? = some (n : Int)) (n1 : 1 ≤ n) (n5 : n ≤ 5) (d3 : d ≤ 3) {fm : Int} (f0 : 0 ≤ fm) {x : Bag} (hx : BOk x) {s8 s9 : Slot} {sh : List Int} {cs : List Cd} (hl : fm > 0 → cs.length = n) (hc : ∀ c ∈ cs, c.Ok letters 3 ∧ c.To n) {P : Fl → Sx → Prop}
    (q : ∀ (cs : List Cd) (y : Bag) (s9 : Slot), cs.length = n → (∀ c ∈ cs, c.Ok letters 3 ∧ c.To n) → BOk y → P .next ⟨wkE letters states own d [.own (.lst (sh.map .int)), .own (.lst (cs.map Cd.toD)), .dat (.int fm), s8, s9], [TB, bagD y]⟩) :
    Rn wk5 ⟨wkE letters states own d [.own (.lst (sh.map .int)), .own (.lst (cs.map Cd.toD)), .dat (.int fm), s8, s9], [TB, bagD x]⟩ P := by
  have fr : ∀ y, BOk y → ∀ {Q : Res → List D → Prop}, (∀ (c : Cd) (y' : Bag), c.Ok letters 3 → c.To n → BOk y' → Q (.dat c.toD) [TB, bagD y']) → Dr (d__law_free 5) [.obj 1, .int (own : Nat), .lst (states.map .int), .lst (letters.map .int), .int (d : Nat)] [TB, bagD y] Q :=
    fun y hy Q q => free_ok hm hne hs (by omega) (by omega) 5 d (by omega) y hy fun c y' h1 h2 h3 => q c y' (Ok_mono d 3 c d3 h1) h2 h3
  unfold wk5
  simp! [rng1I, ix_li hs, Int.toNat_natCast]
  split
  · refine ⟨by unfold rngOk; exact decide_eq_true (by omega), ?_⟩
    refine cw_left (I := fun ds acc o => ∃ (cs : List Cd) (y : Bag), cs.length + ds.length = n ∧ acc = cs.map Cd.toD ∧ (∀ c ∈ cs, c.Ok letters 3 ∧ c.To n) ∧ BOk y ∧ o = [TB, bagD y]) (small_le (by rw [rangeD_len]; simp; omega)) ⟨[], x, by rw [rangeD_len]; simp, rfl, by simp, hx, rfl⟩ ?_ ?_
    · rintro dd ds acc o ⟨cs, y, hl, rfl, hc, hy, rfl⟩
      simp! [wipeE, Slot.frz, List.map_cons]
      refine fr y hy fun c y' c1 c2 hy' => ?_
      rw [safe_b (Cd.imm c)]
      exact ⟨cs ++ [c], y', by simp at hl ⊢; omega, by simp, fun c' hc' => by
        rcases List.mem_append.mp hc' with h | h
        · exact hc c' h
        · rw [List.mem_singleton] at h; subst h; exact ⟨c1, c2⟩, hy', rfl⟩
    · rintro acc o ⟨cs, y, hl, rfl, hc, hy, rfl⟩
      rw [if_imms (cds_imm _) (bag_all y)]
      exact q cs y _ (by simpa using hl) hc hy
  · rename_i f
    have fp : fm > 0 := by simp at f; omega
    have hl := hl fp
    refine lt_call hx (by decide) (by decide) fun k y k0 k1 hy => ?_
    rw [safe_b rfl]
    simp!
    split
    · refine fr y hy fun c y' c1 c2 hy' => ?_
      rw [safe_b (Cd.imm c)]
      simp! [List.length_map]
      refine ⟨rfl, ?_⟩
      refine lt_call hy' (by omega) (by omega) fun k y2 k0 k1 hy2 => ?_
      rw [safe_b rfl]
      obtain ⟨j, rfl⟩ := toNat_int k0
      simp!
      refine ex_set (by simp; omega) ?_
      rw [← List.map_set]
      refine q (cs.set j c) y2 _ (by simp [hl]) (fun c' hc' => ?_) hy2
      rcases List.mem_or_eq_of_mem_set hc' with h | rfl
      · exact hc c' h
      · exact ⟨c1, c2⟩
    · exact q cs y _ hl hc hy
theorem worker_ok (hm : ManyOk letters) (hne : letters ≠ []) (hs : states[own]? = some (n : Int)) (hk : letters[own]? = some m) (n1 : 1 ≤ n) (n5 : n ≤ 5) (d3 : d ≤ 3) {x : Bag} (hx : BOk x) {Q : Res → List D → Prop}
    (q : ∀ (w : Wk) (y : Bag), WkOk letters w → w.m = m → w.sh.length = n → BOk y → Q (.dat w.toD) [TB, bagD y]) : Dr d__law_worker [.obj 1, .int (own : Nat), .lst (states.map .int), .lst (letters.map .int), .int (d : Nat)] [TB, bagD x] Q := by
  have lp : 0 < letters.length := List.length_pos_iff.mpr hne
  have l5 := hm.len
  have mk := hm.fit _ (List.mem_of_getElem? hk)
  unfold d__law_worker
  rw [dr_run, wk_eq]
  generalize hR2 : seqM wk2 _ = R2
  unfold wk1
  simp! [List.replicate]
  refine lt_call hx (by decide) (by decide) fun fm x1 f0 f1 hx1 => ?_
  rw [safe_b rfl]
  simp! [List.length_map]
  refine lt_call hx1 (by omega) (by omega) fun as x2 a0 a1 hx2 => ?_
  rw [safe_b rfl]
  obtain ⟨asked, rfl⟩ := toNat_int a0
  simp!
  refine ⟨small_le (by decide), ?_⟩
  rw [← hR2]
  generalize hR3 : seqM wk3 _ = R3
  unfold wk2
  simp! [rng1I, ix_li hs, Int.toNat_natCast]
  refine ⟨by unfold rngOk; exact decide_eq_true (by omega), ?_⟩
  refine cw_goes (mn := m) (fun i => (i : Int).fmod m) (by omega) (fun i hi => fm_fit _ (by omega)) (fun i hi => ?_) fun sh0 sl0 sf0 => ?_
  · simp! [wipeE, Slot.frz, List.map_cons, ix_li hk]
    omega
  · rw [if_imms (imms_ints _) (bag_all x2), ← hR3]
    generalize hR4 : seqM wk4 _ = R4
    have rest : ∀ (sh : List Int) (y : Bag) (s6 s9 : Slot), sh.length = n → (∀ k ∈ sh, 0 ≤ k ∧ k < m) → BOk y → Rn R4 ⟨wkE letters states own d [.own (.lst (sh.map .int)), s6, .dat (.int fm), .dat (.int (asked : Nat)), s9], [TB, bagD y]⟩ (flOut Q) := by
      intro sh y s6 s9 sl sf hy
      rw [← hR4, rn_seq]
      refine wk4_ok hm hs n1 n5 f0 (by omega) fun cs cl cc c5 => ?_
      simp only
      rw [rn_seq]
      refine wk5_ok hm hne hs n1 n5 d3 f0 hy cl cc fun cs y2 s9 cl cc hy2 => ?_
      simp only
      unfold wk6 wkE
      simp! [ix_li hk]
      refine ⟨small_le (by decide), ?_⟩
      have := q ⟨m, sh, cs⟩ y2 ⟨by show 1 ≤ sh.length; omega, by show sh.length ≤ 5; omega, by show cs.length = sh.length; omega, mk.1, mk.2, sf, fun c hc => by
        have := cc c hc
        show c.Ok letters 3 ∧ c.To sh.length
        rw [sl]; exact this⟩ rfl sl hy2
      unfold Wk.toD tI at this
      rw [toDs_map] at this
      exact this
    unfold wk3
    simp! [rng1I, ix_li hs, Int.toNat_natCast]
    refine lt_call hx2 (by decide) (by decide) fun k x3 k0 k1 hx3 => ?_
    rw [safe_b rfl]
    simp! [rng1I, ix_li hs, Int.toNat_natCast]
    split
    · refine ⟨by unfold rngOk; exact decide_eq_true (by omega), ?_⟩
      refine cw_left (I := fun ds acc o => ∃ (sh : List Int) (y : Bag), sh.length + ds.length = n ∧ acc = sh.map .int ∧ (∀ k ∈ sh, 0 ≤ k ∧ k < m) ∧ BOk y ∧ o = [TB, bagD y]) (small_le (by rw [rangeD_len]; simp; omega)) ⟨[], x3, by rw [rangeD_len]; simp, rfl, by simp, hx3, rfl⟩ ?_ ?_
      · rintro dd ds acc o ⟨sh, y, hl, rfl, hc, hy, rfl⟩
        simp! [wipeE, Slot.frz, List.map_cons, ix_li hk]
        refine lt_call hy (by omega) (by omega) fun k y' k0 k1 hy' => ?_
        rw [safe_b rfl]
        exact ⟨sh ++ [k], y', by simp at hl ⊢; omega, by simp, fun c' hc' => by
          rcases List.mem_append.mp hc' with h | h
          · exact hc c' h
          · rw [List.mem_singleton] at h; subst h; exact ⟨k0, k1⟩, hy', rfl⟩
      · rintro acc o ⟨sh, y, hl, rfl, hc, hy, rfl⟩
        rw [if_imms (imms_ints _) (bag_all y)]
        exact rest sh y _ _ (by simpa using hl) hc hy
    · exact rest sh0 x3 _ _ sl0 sf0 hx3
end
end LW
end
section
set_option maxRecDepth 100000
namespace LW
open PySem L2 LC
open DL hiding tI bag_all safe_b safe_bn take_call take_rn takeEnv take1 take_ok where_b st_b0 st_b1 aug_b2
local macro_rules | `(tactic| simp!) => `(tactic| simp -implicitDefEqProofs only [rn_bind, rn_pure, rn_no, rn_need, rn_opt1, rn_ite, rn_var, rn_put, rn_useD, rn_useN, rn_useO, rn_chkD, rn_chkN, rn_chkO, rn_call, rn_seq, rn_guard, rn_forIn, rn_for0, rn_setD, rn_setN, rn_setO, binM, binMO, unM, cmpT, testM, andT, orT, notT, ifM, asgM, retM, exprM, kM, consA, nilA, tupM, lstM, useAll, chkAll, slM, partM, DL.andM, DL.orM, DL.notM, negM, asgG, gN, gT, gsC, gsN, seqI, frzM, asgTM, dnewM, par2M, hold_d, hold_n, hold_o, d_d, d_n, d_o, out_d, out_n, out_o, fo_next, fo_ret, isBl_b, isInt_i, tr_i, tr_b, tr_n, tr_l, tr_t, it_l, it_r, it_t, li_l, li_r, op_add_i, op_add_l, op_add_t, op_sub_i, op_mul_i, op_mod_i, op_div_i, op_pow_i, op_lt_i, op_le_i, op_gt_i, op_ge_i, op_int_i, op_abs_i, op_len_l, op_len_t, op_len_r, op_tup_l, op_tup_t, op_lst_l, op_lst_t, op_max_i, op_eq_i, eq_go_go, eq_get_get, eq_go_get, eq_get_go, Bool.bne_false, Bool.bne_true, Bool.not_true, Bool.not_false, op_sl_l, op_sl_r, op_sl_t, op_ix_t0, op_ix_t1, op_ix_t2, op_ix_l0, List.getElem?_cons_zero, List.getElem?_cons_succ, List.set_cons_zero, List.set_cons_succ, List.map_cons, List.map_nil, List.length_cons, List.length_nil, List.cons_append, List.nil_append, if_true, if_false, Bool.false_eq_true, decide_eq_true_eq, and_true, true_and, ite_true, ite_false, reduceCtorEq, rn_methM, rn_methM0, isTM_eq, rn_mk, rn_st, mk_own, st_own, ty_own, ex_app, ex_ext, ex_extT, ex_rev, ex_pop, rn_storeM, rn_lc, rn_lc2, rn_turn, rn_turn1, rn_frz])
local macro_rules | `(tactic| simp! [$ls,*]) => `(tactic| simp -implicitDefEqProofs only [rn_bind, rn_pure, rn_no, rn_need, rn_opt1, rn_ite, rn_var, rn_put, rn_useD, rn_useN, rn_useO, rn_chkD, rn_chkN, rn_chkO, rn_call, rn_seq, rn_guard, rn_forIn, rn_for0, rn_setD, rn_setN, rn_setO, binM, binMO, unM, cmpT, testM, andT, orT, notT, ifM, asgM, retM, exprM, kM, consA, nilA, tupM, lstM, useAll, chkAll, slM, partM, DL.andM, DL.orM, DL.notM, negM, asgG, gN, gT, gsC, gsN, seqI, frzM, asgTM, dnewM, par2M, hold_d, hold_n, hold_o, d_d, d_n, d_o, out_d, out_n, out_o, fo_next, fo_ret, isBl_b, isInt_i, tr_i, tr_b, tr_n, tr_l, tr_t, it_l, it_r, it_t, li_l, li_r, op_add_i, op_add_l, op_add_t, op_sub_i, op_mul_i, op_mod_i, op_div_i, op_pow_i, op_lt_i, op_le_i, op_gt_i, op_ge_i, op_int_i, op_abs_i, op_len_l, op_len_t, op_len_r, op_tup_l, op_tup_t, op_lst_l, op_lst_t, op_max_i, op_eq_i, eq_go_go, eq_get_get, eq_go_get, eq_get_go, Bool.bne_false, Bool.bne_true, Bool.not_true, Bool.not_false, op_sl_l, op_sl_r, op_sl_t, op_ix_t0, op_ix_t1, op_ix_t2, op_ix_l0, List.getElem?_cons_zero, List.getElem?_cons_succ, List.set_cons_zero, List.set_cons_succ, List.map_cons, List.map_nil, List.length_cons, List.length_nil, List.cons_append, List.nil_append, if_true, if_false, Bool.false_eq_true, decide_eq_true_eq, and_true, true_and, ite_true, ite_false, reduceCtorEq, rn_methM, rn_methM0, isTM_eq, rn_mk, rn_st, mk_own, st_own, ty_own, ex_app, ex_ext, ex_extT, ex_rev, ex_pop, rn_storeM, rn_lc, rn_lc2, rn_turn, rn_turn1, rn_frz, $ls,*])
def nt1 : M Fl := (asgM 6 (binM opAdd (kM (.int 1)) (callM 2 d__law_take (consA (varM 0) (consA (varM 1) nilA)))))
def nt2 : M Fl := (asgM 7 (lcM (rng1I (varM 6)) [11] (turnM (gN 11) (pure true) (binM opAdd (kM (.int 1)) (binM opMax2 (callM 2 d__law_take (consA (varM 0) (consA (varM 3) nilA))) (callM 2 d__law_take (consA (varM 0) (consA (varM 3) nilA))))))))
def nt3 : M Fl := (asgM 8 (lcM (rng1I (varM 6)) [11] (turnM (gN 11) (pure true) (binM opAdd (kM (.int 1)) (binM opMax2 (callM 2 d__law_take (consA (varM 0) (consA (varM 2) nilA))) (callM 2 d__law_take (consA (varM 0) (consA (varM 2) nilA))))))))
def nt4 : M Fl := (asgM 9 (lcM (rng1I (callM 2 d__law_take (consA (varM 0) (consA (binM opAdd (varM 5) (kM (.int 1))) nilA)))) [11] (turnM (gN 11) (pure true) (callM 2 d__law_take (consA (varM 0) (consA (varM 6) nilA))))))
def nt5 : M Fl := (asgM 10 (lcM (rng1I (varM 6)) [11] (turnM (gN 11) (pure true) (callM 5 d__law_worker (consA (varM 0) (consA (varM 11) (consA (varM 8) (consA (varM 7) (consA (varM 4) nilA)))))))))
def nt6 : M Fl := (retM (tupM (consA (unM opTuple (varM 10)) (consA (unM opTuple (lcM (rng1I (varM 6)) [11] (turnM (gN 11) (cmpT (opIn false) (varM 11) (varM 9)) (varM 11)))) nilA))))
theorem nt_eq : b__law_net = seqM nt1 (seqM nt2 (seqM nt3 (seqM nt4 (seqM nt5 (nt6))))) := rfl
section
theorem cw_sizes {turn : D → M (Option D)} {env : List Slot} {x : Bag} {P : List D → List D → Prop} {n : Nat} {b : Int} (hx : BOk x) (hn : n ≤ 1000)
    (ht : ∀ (d : D) (y : Bag) (T : Option D → Sx → Prop), BOk y → (∀ (v : Int) (y' : Bag), 1 ≤ v → v ≤ b → BOk y' → ∀ S', S'.objs = [TB, bagD y'] → T (some (.int v)) S') → Rn (turn d) ⟨env, [TB, bagD y]⟩ T)
    (q : ∀ (ns : List Int) (y : Bag), ns.length = n → (∀ k ∈ ns, 1 ≤ k ∧ k ≤ b) → BOk y → P (ns.map .int) [TB, bagD y]) : Cw turn env (rangeD 0 n) [] [TB, bagD x] P := by
  refine cw_left (I := fun ds acc o => ∃ (ns : List Int) (y : Bag), ns.length + ds.length = n ∧ acc = ns.map .int ∧ (∀ k ∈ ns, 1 ≤ k ∧ k ≤ b) ∧ BOk y ∧ o = [TB, bagD y]) (small_le (by rw [rangeD_len]; simp; omega)) ⟨[], x, by rw [rangeD_len]; simp, rfl, by simp, hx, rfl⟩ ?_ ?_
  · rintro dd ds acc o ⟨ns, y, hl, rfl, hc, hy, rfl⟩
    refine ht dd y _ hy fun v y' v1 v2 hy' S' hS' => ?_
    simp only
    exact ⟨ns ++ [v], y', by simp at hl ⊢; omega, by simp, fun c' hc' => by
      rcases List.mem_append.mp hc' with h | h
      · exact hc c' h
      · rw [List.mem_singleton] at h; subst h; exact ⟨v1, v2⟩, hy', hS'⟩
  · rintro acc o ⟨ns, y, hl, rfl, hc, hy, rfl⟩
    exact q ns y (by simpa using hl) hc hy
theorem netS_okX {most high wide steady : Int} {deep : Nat} (m1 : 1 ≤ most) (m5 : most ≤ 5) (h1 : 1 ≤ high) (h5 : high ≤ 5) (w1 : 1 ≤ wide) (w4 : wide ≤ 4) (d3 : deep ≤ 3) (s0 : 0 ≤ steady) (s2 : steady ≤ 100) {x : Bag} (hx : BOk x) {Q : Res → List D → Prop}
    (q : ∀ (ws : List Wk) (st : List Nat) (y : Bag), NetOk ws → (ws.length : Int) ≤ most → (∀ i ∈ st, i < ws.length) → st.length ≤ 8 → st.Pairwise (· < ·) → (steady = 0 → st = []) → (∀ w ∈ ws, (w.sh.length : Int) ≤ high ∧ w.m ≤ wide) → (st.length : Int) ≤ steady → BOk y → Q (.dat (netD ws (uI st))) [TB, bagD y]) : Dr d__law_net [.obj 1, .int most, .int high, .int wide, .int (deep : Nat), .int steady] [TB, bagD x] Q := by
  unfold d__law_net
  rw [dr_run, nt_eq]
  generalize hR2 : seqM nt2 _ = R2
  unfold nt1
  simp! [List.replicate]
  refine lt_call hx (by omega) (by omega) fun mn x1 k0 k1 hx1 => ?_
  rw [safe_b rfl]
  simp!
  obtain ⟨n, hn⟩ := toNat_int (show 0 ≤ 1 + mn by omega)
  rw [hn]
  have n1 : 1 ≤ n := by omega
  have n5 : n ≤ 5 := by omega
  have rg : rngOk (n : Int) = true := by unfold rngOk; exact decide_eq_true (by omega)
  rw [← hR2]
  generalize hR3 : seqM nt3 _ = R3
  unfold nt2
  simp! [rng1I, Int.toNat_natCast]
  refine ⟨rg, ?_⟩
  refine cw_sizes (b := wide) hx1 (by omega) (fun d y T hy hT => ?_) fun letters x2 ll lf hx2 => ?_
  · simp! [wipeE, Slot.frz, List.map_cons]
    refine lt_call hy (by omega) (by omega) fun a y1 a0 a1 hy1 => ?_
    rw [safe_b rfl]
    simp!
    refine lt_call hy1 (by omega) (by omega) fun b y2 b0 b1 hy2 => ?_
    rw [safe_b rfl]
    simp!
    refine hT _ y2 ?_ ?_ hy2 _ rfl <;> split <;> omega
  rw [if_imms (imms_ints _) (bag_all x2), ← hR3]
  have hm : ManyOk letters := ⟨by omega, fun m h => by have := lf m h; omega⟩
  have hne : letters ≠ [] := fun e => by rw [e] at ll; simp at ll; omega
  generalize hR4 : seqM nt4 _ = R4
  unfold nt3
  simp! [rng1I, Int.toNat_natCast]
  refine ⟨rg, ?_⟩
  refine cw_sizes (b := high) hx2 (by omega) (fun d y T hy hT => ?_) fun states x3 sl sf hx3 => ?_
  · simp! [wipeE, Slot.frz, List.map_cons]
    refine lt_call hy (by omega) (by omega) fun a y1 a0 a1 hy1 => ?_
    rw [safe_b rfl]
    simp!
    refine lt_call hy1 (by omega) (by omega) fun b y2 b0 b1 hy2 => ?_
    rw [safe_b rfl]
    simp!
    refine hT _ y2 ?_ ?_ hy2 _ rfl <;> split <;> omega
  rw [if_imms (imms_ints _) (bag_all x3), ← hR4]
  generalize hR5 : seqM nt5 _ = R5
  unfold nt4
  simp! [rng1I]
  refine lt_call hx3 (by omega) (by omega) fun fc x4 c0 c1 hx4 => ?_
  rw [safe_b rfl]
  obtain ⟨fn, rfl⟩ := toNat_int c0
  simp! [Int.toNat_natCast]
  refine ⟨by unfold rngOk; exact decide_eq_true (by omega), ?_⟩
  refine cw_left (I := fun ds acc o => ∃ (firm : List Int) (y : Bag), firm.length + ds.length = fn ∧ acc = firm.map .int ∧ BOk y ∧ o = [TB, bagD y]) (small_le (by rw [rangeD_len]; simp; omega)) ⟨[], x4, by rw [rangeD_len]; simp, rfl, hx4, rfl⟩ ?_ ?_
  · rintro dd ds acc o ⟨firm, y, fl, rfl, hy, rfl⟩
    simp! [wipeE, Slot.frz, List.map_cons]
    refine lt_call hy (by omega) (by omega) fun k y' k0 k1 hy' => ?_
    rw [safe_b rfl]
    exact ⟨firm ++ [k], y', by simp at fl ⊢; omega, by simp, hy', rfl⟩
  rintro acc o ⟨firm, x5, fl, rfl, hx5, rfl⟩
  rw [if_imms (imms_ints _) (bag_all x5), ← hR5]
  generalize hR6 : nt6 = R6
  unfold nt5
  simp! [rng1I, Int.toNat_natCast]
  refine ⟨rg, ?_⟩
  refine cw_left (I := fun ds acc o => ∃ (j : Nat) (ws : List Wk) (y : Bag), ds = rangeD j (n - j) ∧ j ≤ n ∧ ws.length = j ∧ acc = ws.map Wk.toD ∧ (∀ (i : Nat) (w : Wk), ws[i]? = some w → WkOk letters w ∧ letters[i]? = some w.m ∧ (w.sh.length : Int) ≤ high) ∧ BOk y ∧ o = [TB, bagD y]) (small_le (by rw [rangeD_len]; simp; omega)) ⟨0, [], x5, rfl, Nat.zero_le _, rfl, rfl, by simp, hx5, rfl⟩ ?_ ?_
  · rintro dd ds acc o ⟨j, ws, y, e1, hj, hl, rfl, hw, hy, rfl⟩
    have hjn : j < n := by
      rcases Nat.lt_or_ge j n with h | h
      · exact h
      · rw [show n - j = 0 by omega] at e1; cases e1
    rw [show n - j = (n - (j + 1)) + 1 by omega] at e1
    cases e1
    have ek : letters[j]? = some (letters[j]'(by omega)) := List.getElem?_eq_getElem (by omega)
    have es : states[j]? = some (states[j]'(by omega)) := List.getElem?_eq_getElem (by omega)
    have fs := sf _ (List.mem_of_getElem? es)
    generalize states[j]'(by omega) = sn at es fs
    obtain ⟨sn, rfl⟩ := toNat_int (show 0 ≤ sn by omega)
    simp! [wipeE, Slot.frz, List.map_cons]
    with_reducible refine worker_ok hm hne es ek (by omega) (by omega) d3 hy fun w y' ok e1 e2 hy' => ?_
    rw [safe_b (show w.toD.imm = true by simp [Wk.toD, D.imm, D.imms, tI, imms_ints, Cd.imms])]
    refine ⟨j + 1, ws ++ [w], y', rfl, hjn, by simp [hl], by simp, fun i w' h => ?_, hy', rfl⟩
    rcases Nat.lt_or_ge i ws.length with h2 | h2
    · rw [List.getElem?_append_left h2] at h; exact hw i w' h
    · have : i = ws.length := by
        have := (List.getElem?_eq_some_iff.mp h).1
        simp at this; omega
      subst this
      rw [List.getElem?_append_right (by omega)] at h
      simp at h
      subst h
      exact ⟨ok, by rw [hl, ek, e1], by omega⟩
  rintro acc o ⟨j, ws, y, e1, hj, hl, rfl, hw, hy, rfl⟩
  have hjn : j = n := by
    rcases Nat.lt_or_ge j n with h | h
    · rw [show n - j = (n - (j + 1)) + 1 by omega] at e1; cases e1
    · omega
  have em : msOf ws = letters := by
    refine List.ext_getElem? fun i => ?_
    by_cases hi : i < ws.length
    · have := (hw i _ (List.getElem?_eq_getElem hi)).2.1
      rw [ms_at (List.getElem?_eq_getElem hi), this]
    · rw [List.getElem?_eq_none_iff.mpr (by simp [msOf]; omega), List.getElem?_eq_none_iff.mpr (by omega)]
  have NO : NetOk ws := ⟨by omega, by omega, fun w hw' => by
    obtain ⟨i, hi⟩ := mem_ix hw'
    rw [em]
    exact (hw i w hi).1⟩
  rw [if_imms (wks_imm ws) (bag_all y), ← hR6]
  unfold nt6
  simp! [rng1I, Int.toNat_natCast]
  refine ⟨rg, ?_⟩
  rw [show rangeD 0 n = (List.range' 0 n).map fun i => D.int ((i : Nat) : Int) from range_map n 0]
  refine cw_ofF (c := fun i : Nat => decide ((i : Int) ∈ firm)) (g := fun i : Nat => D.int (i : Int)) (small_le (by simp; omega)) (fun i hi => ?_) ?_
  · simp! [wipeE, Slot.frz, List.map_cons, in_lst]
    by_cases e : (i : Int) ∈ firm <;> simp [e]
  · rw [show ((List.range' 0 n).filter fun i : Nat => decide ((i : Int) ∈ firm)).map (fun i : Nat => D.int (i : Int)) = (((List.range' 0 n).filter fun i : Nat => decide ((i : Int) ∈ firm)).map fun i : Nat => (i : Int)).map .int by rw [List.map_map]; rfl, if_imms (imms_ints _) (bag_all y)]
    refine ⟨small_le (by decide), ?_⟩
    refine q ws ((List.range' 0 n).filter fun i : Nat => decide ((i : Int) ∈ firm)) y NO (by omega) (fun i hi => ?_) ?_ ?_ ?_ ?_ ?_ hy
    · have := (List.mem_filter.mp hi).1
      simp at this; omega
    · have := List.length_filter_le (fun i : Nat => decide ((i : Int) ∈ firm)) (List.range' 0 n)
      simp at this; omega
    · exact List.Pairwise.filter _ List.pairwise_lt_range'
    · intro e
      have : firm = [] := List.length_eq_zero_iff.mp (by simp at fl; omega)
      rw [this]
      simp
    · intro w hw'
      obtain ⟨i, hi⟩ := mem_ix hw'
      exact ⟨(hw i w hi).2.2, (lf _ (List.mem_of_getElem? (hw i w hi).2.1)).2⟩
    · have nd : (((List.range' 0 n).filter fun i : Nat => decide ((i : Int) ∈ firm)).map fun i : Nat => (i : Int)).Nodup := by
        unfold List.Nodup
        rw [List.pairwise_map]
        exact (List.Pairwise.filter _ List.pairwise_lt_range').imp fun h => by omega
      have := nd.length_le_of_subset (l₂ := firm) fun k hk => by
        obtain ⟨i, hi, rfl⟩ := List.mem_map.mp hk
        exact of_decide_eq_true (List.mem_filter.mp hi).2
      rw [List.length_map] at this
      simp at fl
      omega
theorem netS_okW {most high wide steady : Int} {deep : Nat} (m1 : 1 ≤ most) (m5 : most ≤ 5) (h1 : 1 ≤ high) (h5 : high ≤ 5) (w1 : 1 ≤ wide) (w4 : wide ≤ 4) (d3 : deep ≤ 3) (s0 : 0 ≤ steady) (s2 : steady ≤ 100) {x : Bag} (hx : BOk x) {Q : Res → List D → Prop}
    (q : ∀ (ws : List Wk) (st : List Nat) (y : Bag), NetOk ws → (ws.length : Int) ≤ most → (∀ i ∈ st, i < ws.length) → st.length ≤ 8 → st.Pairwise (· < ·) → (steady = 0 → st = []) → (∀ w ∈ ws, (w.sh.length : Int) ≤ high ∧ w.m ≤ wide) → BOk y → Q (.dat (netD ws (uI st))) [TB, bagD y]) : Dr d__law_net [.obj 1, .int most, .int high, .int wide, .int (deep : Nat), .int steady] [TB, bagD x] Q :=
  netS_okX m1 m5 h1 h5 w1 w4 d3 s0 s2 hx fun ws st y a b c d e f g _ h => q ws st y a b c d e f g h
theorem netS_okT {most high wide steady : Int} {deep : Nat} (m1 : 1 ≤ most) (m5 : most ≤ 5) (h1 : 1 ≤ high) (h5 : high ≤ 5) (w1 : 1 ≤ wide) (w4 : wide ≤ 4) (d3 : deep ≤ 3) (s0 : 0 ≤ steady) (s2 : steady ≤ 100) {x : Bag} (hx : BOk x) {Q : Res → List D → Prop}
    (q : ∀ (ws : List Wk) (st : List Nat) (y : Bag), NetOk ws → (ws.length : Int) ≤ most → (∀ i ∈ st, i < ws.length) → st.length ≤ 8 → st.Pairwise (· < ·) → (steady = 0 → st = []) → (∀ w ∈ ws, (w.sh.length : Int) ≤ high) → BOk y → Q (.dat (netD ws (uI st))) [TB, bagD y]) : Dr d__law_net [.obj 1, .int most, .int high, .int wide, .int (deep : Nat), .int steady] [TB, bagD x] Q :=
  netS_okW m1 m5 h1 h5 w1 w4 d3 s0 s2 hx fun ws st y a b c d e f g h => q ws st y a b c d e f (fun w hw => (g w hw).1) h
theorem netS_okS {most high wide steady : Int} {deep : Nat} (m1 : 1 ≤ most) (m5 : most ≤ 5) (h1 : 1 ≤ high) (h5 : high ≤ 5) (w1 : 1 ≤ wide) (w4 : wide ≤ 4) (d3 : deep ≤ 3) (s0 : 0 ≤ steady) (s2 : steady ≤ 100) {x : Bag} (hx : BOk x) {Q : Res → List D → Prop}
    (q : ∀ (ws : List Wk) (st : List Nat) (y : Bag), NetOk ws → (ws.length : Int) ≤ most → (∀ i ∈ st, i < ws.length) → st.length ≤ 8 → st.Pairwise (· < ·) → (steady = 0 → st = []) → BOk y → Q (.dat (netD ws (uI st))) [TB, bagD y]) : Dr d__law_net [.obj 1, .int most, .int high, .int wide, .int (deep : Nat), .int steady] [TB, bagD x] Q :=
  netS_okT m1 m5 h1 h5 w1 w4 d3 s0 s2 hx fun ws st y a b c d e f _ g => q ws st y a b c d e f g
end
end LW
end
section
set_option maxRecDepth 100000
namespace LW
open PySem L2 LC
open DL hiding tI bag_all safe_b safe_bn take_call take_rn takeEnv take1 take_ok where_b st_b0 st_b1 aug_b2
section
theorem ix_net0 {ws : List Wk} {st : List Int} {Q : Res → Sx → Prop} {S : Sx} : Rn (opIx (netD ws st) (.int 0)) S Q = Q (.dat (.tup (ws.map Wk.toD))) S := op_ix_t0
theorem lots_nil : LotsOk [] [] := ⟨rfl, by simp, by simp, by simp, by simp⟩
theorem lots_snoc {many : List Int} {lots : List (List Int)} (f : LotsOk many lots) {m : Int} {l : List Int} (m5 : m ≤ 5) (h0 : l ≠ []) (hu : l.Pairwise (· < ·)) (hf : ∀ k ∈ l, 0 ≤ k ∧ k < m) : LotsOk (many ++ [m]) (lots ++ [l]) := by
  have l5 := up_len0 hu (b := 5) fun k hk => by have := hf k hk; omega
  constructor
  · simp [f.len]
  · intro x hx
    rcases List.mem_append.mp hx with h | h
    · exact f.few x h
    · rw [List.mem_singleton] at h; subst h; exact l5
  · intro x hx
    rcases List.mem_append.mp hx with h | h
    · exact f.one x h
    · rw [List.mem_singleton] at h; subst h; exact h0
  · intro i x n e1 e2 k hk
    rcases Nat.lt_or_ge i lots.length with h | h
    · rw [List.getElem?_append_left h] at e1
      rw [List.getElem?_append_left (by rw [← f.len]; exact h)] at e2
      exact f.fit i x n e1 e2 k hk
    · rw [List.getElem?_append_right h] at e1
      rw [List.getElem?_append_right (by rw [← f.len]; exact h)] at e2
      have i0 : i - lots.length = 0 := by
        have := (List.getElem?_eq_some_iff.mp e1).1
        simp at this; omega
      rw [i0] at e1
      rw [← f.len, i0] at e2
      simp at e1 e2
      subst e1 e2
      exact hf k hk
  · intro x hx
    rcases List.mem_append.mp hx with h | h
    · exact f.up x h
    · rw [List.mem_singleton] at h; subst h; exact hu
theorem lots_set {many : List Int} {lots : List (List Int)} (f : LotsOk many lots) {j : Nat} {m : Int} (hm : many[j]? = some m) {l : List Int} (m5 : m ≤ 5) (h0 : l ≠ []) (hu : l.Pairwise (· < ·)) (hf : ∀ k ∈ l, 0 ≤ k ∧ k < m) : LotsOk many (lots.set j l) := by
  have l5 := up_len0 hu (b := 5) fun k hk => by have := hf k hk; omega
  constructor
  · simp [f.len]
  · intro x hx
    rcases List.mem_or_eq_of_mem_set hx with h | rfl
    · exact f.few x h
    · exact l5
  · intro x hx
    rcases List.mem_or_eq_of_mem_set hx with h | rfl
    · exact f.one x h
    · exact h0
  · intro i x n e1 e2 k hk
    rcases set_get e1 with ⟨rfl, rfl⟩ | ⟨_, e⟩
    · rw [hm] at e2; cases e2; exact hf k hk
    · exact f.fit i x n e e2 k hk
  · intro x hx
    rcases List.mem_or_eq_of_mem_set hx with h | rfl
    · exact f.up x h
    · exact hu
theorem cw_lots {α : Type} {turn : D → M (Option D)} {env : List Slot} {x : Bag} {P : List D → List D → Prop} {f : α → D} {F : α → Int} {all : List α} (hx : BOk x) (hl : all.length ≤ 100) (hF : ∀ a ∈ all, 1 ≤ F a ∧ F a ≤ 5)
    (ht : ∀ (a : α) (y : Bag) (T : Option D → Sx → Prop), a ∈ all → BOk y → (∀ {Q' : Res → List D → Prop}, (∀ (l : List Int) (x' : Bag), BOk x' → l ≠ [] → l.Pairwise (· < ·) → (∀ k ∈ l, 0 ≤ k ∧ k < F a) → Q' (.dat (tI l)) [TB, bagD x']) → Dr d__law_lot [.obj 1, .int (F a)] [TB, bagD y] Q') → (∀ (l : List Int) (y' : Bag) (S' : Sx), S'.objs = [TB, bagD y'] → BOk y' → l ≠ [] → l.Pairwise (· < ·) → (∀ k ∈ l, 0 ≤ k ∧ k < F a) → T (some (tI l)) S') → Rn (turn (f a)) ⟨env, [TB, bagD y]⟩ T)
    (q : ∀ (lots : List (List Int)) (y : Bag), LotsOk (all.map F) lots → BOk y → P (lots.map tI) [TB, bagD y]) : Cw turn env (all.map f) [] [TB, bagD x] P := by
  refine cw_left (I := fun ds acc o => ∃ (a r : List α) (lots : List (List Int)) (y : Bag), all = a ++ r ∧ ds = r.map f ∧ acc = lots.map tI ∧ LotsOk (a.map F) lots ∧ BOk y ∧ o = [TB, bagD y]) (small_le (by simp; omega)) ⟨[], all, [], x, rfl, rfl, rfl, lots_nil, hx, rfl⟩ ?_ ?_
  · rintro dd ds acc o ⟨a, r, lots, y, e, e2, rfl, ok, hy, rfl⟩
    cases r with
    | nil => cases e2
    | cons z r =>
      cases e2
      have hz : z ∈ all := by rw [e]; simp
      obtain ⟨z1, z5⟩ := hF z hz
      refine ht z y _ hz hy (fun {Q'} h => lot_ok hy z1 (by omega) fun l x' h1 h2 h3 h4 => h l x' h1 h2 h3 h4) fun l y' S' hS' hy' h0 hu hf => ?_
      exact ⟨a ++ [z], r, lots ++ [l], y', by rw [e]; simp, rfl, by simp, by rw [List.map_append]; exact lots_snoc ok z5 h0 hu hf, hy', hS'⟩
  · rintro acc o ⟨a, r, lots, y, e, e2, rfl, ok, hy, rfl⟩
    have : r = [] := by
      cases r with
      | nil => rfl
      | cons z r => cases e2
    subst this
    rw [List.append_nil] at e
    subst e
    exact q lots y ok hy
end
end LW
end
section
set_option maxRecDepth 100000
namespace LW
open PySem L2 LC
open DL hiding tI bag_all safe_b safe_bn take_call take_rn takeEnv take1 take_ok where_b st_b0 st_b1 aug_b2
local macro_rules | `(tactic| simp!) => `(tactic| simp -implicitDefEqProofs only [rn_bind, rn_pure, rn_no, rn_need, rn_opt1, rn_ite, rn_var, rn_put, rn_useD, rn_useN, rn_useO, rn_chkD, rn_chkN, rn_chkO, rn_call, rn_seq, rn_guard, rn_forIn, rn_for0, rn_setD, rn_setN, rn_setO, binM, binMO, unM, cmpT, testM, andT, orT, notT, ifM, asgM, retM, exprM, kM, consA, nilA, tupM, lstM, useAll, chkAll, slM, partM, DL.andM, DL.orM, DL.notM, negM, asgG, gN, gT, gsC, gsN, seqI, frzM, asgTM, dnewM, par2M, hold_d, hold_n, hold_o, d_d, d_n, d_o, out_d, out_n, out_o, fo_next, fo_ret, isBl_b, isInt_i, tr_i, tr_b, tr_n, tr_l, tr_t, it_l, it_r, it_t, li_l, li_r, op_add_i, op_add_l, op_add_t, op_sub_i, op_mul_i, op_mod_i, op_div_i, op_pow_i, op_lt_i, op_le_i, op_gt_i, op_ge_i, op_int_i, op_abs_i, op_len_l, op_len_t, op_len_r, op_tup_l, op_tup_t, op_lst_l, op_lst_t, op_max_i, op_eq_i, eq_go_go, eq_get_get, eq_go_get, eq_get_go, Bool.bne_false, Bool.bne_true, Bool.not_true, Bool.not_false, op_sl_l, op_sl_r, op_sl_t, op_ix_t0, op_ix_t1, op_ix_t2, op_ix_l0, List.getElem?_cons_zero, List.getElem?_cons_succ, List.set_cons_zero, List.set_cons_succ, List.map_cons, List.map_nil, List.length_cons, List.length_nil, List.cons_append, List.nil_append, if_true, if_false, Bool.false_eq_true, decide_eq_true_eq, and_true, true_and, ite_true, ite_false, reduceCtorEq, rn_methM, rn_methM0, isTM_eq, rn_mk, rn_st, mk_own, st_own, ty_own, ex_app, ex_ext, ex_extT, ex_rev, ex_pop, rn_storeM, rn_lc, rn_lc2, rn_turn, rn_turn1, rn_frz])
local macro_rules | `(tactic| simp! [$ls,*]) => `(tactic| simp -implicitDefEqProofs only [rn_bind, rn_pure, rn_no, rn_need, rn_opt1, rn_ite, rn_var, rn_put, rn_useD, rn_useN, rn_useO, rn_chkD, rn_chkN, rn_chkO, rn_call, rn_seq, rn_guard, rn_forIn, rn_for0, rn_setD, rn_setN, rn_setO, binM, binMO, unM, cmpT, testM, andT, orT, notT, ifM, asgM, retM, exprM, kM, consA, nilA, tupM, lstM, useAll, chkAll, slM, partM, DL.andM, DL.orM, DL.notM, negM, asgG, gN, gT, gsC, gsN, seqI, frzM, asgTM, dnewM, par2M, hold_d, hold_n, hold_o, d_d, d_n, d_o, out_d, out_n, out_o, fo_next, fo_ret, isBl_b, isInt_i, tr_i, tr_b, tr_n, tr_l, tr_t, it_l, it_r, it_t, li_l, li_r, op_add_i, op_add_l, op_add_t, op_sub_i, op_mul_i, op_mod_i, op_div_i, op_pow_i, op_lt_i, op_le_i, op_gt_i, op_ge_i, op_int_i, op_abs_i, op_len_l, op_len_t, op_len_r, op_tup_l, op_tup_t, op_lst_l, op_lst_t, op_max_i, op_eq_i, eq_go_go, eq_get_get, eq_go_get, eq_get_go, Bool.bne_false, Bool.bne_true, Bool.not_true, Bool.not_false, op_sl_l, op_sl_r, op_sl_t, op_ix_t0, op_ix_t1, op_ix_t2, op_ix_l0, List.getElem?_cons_zero, List.getElem?_cons_succ, List.set_cons_zero, List.set_cons_succ, List.map_cons, List.map_nil, List.length_cons, List.length_nil, List.cons_append, List.nil_append, if_true, if_false, Bool.false_eq_true, decide_eq_true_eq, and_true, true_and, ite_true, ite_false, reduceCtorEq, rn_methM, rn_methM0, isTM_eq, rn_mk, rn_st, mk_own, st_own, ty_own, ex_app, ex_ext, ex_extT, ex_rev, ex_pop, rn_storeM, rn_lc, rn_lc2, rn_turn, rn_turn1, rn_frz, $ls,*])
section
variable {ws : List Wk} {st : List Int} {box about lots : List (List Int)} {o : List D} {s0 s1 s2 s3 s4 s5 s6 s7 s8 s9 s10 s11 s12 s13 s14 s15 : Slot}
theorem sh_at {w : Wk} {many : List Int} (hw : WkOk many w) {s : Int} (h0 : 0 ≤ s) (h1 : s < (w.sh.length : Int)) {S : Sx} {Q : Res → Sx → Prop} : Rn (opIx (tI w.sh) (.int s)) S Q = Q (.dat (.int ((w.sh[s.toNat]?).getD 0))) S := by
  have hl : s.toNat < w.sh.length := by omega
  rw [ix_tI h0 (List.getElem?_eq_getElem hl), List.getElem?_eq_getElem hl]; rfl
theorem rng_map {α : Type} {f : α → D} {g : Nat → D} {n : Nat} {l : List α} (hl : l.length = n) (h : ∀ (i : Nat) (a : α), l[i]? = some a → g i = f a) : (List.range' 0 n).map g = l.map f := by
  apply List.ext_getElem
  · simp [hl]
  · intro i h1 h2
    simp only [List.getElem_map, List.getElem_range']
    simp only [List.length_map] at h2
    rw [Nat.zero_add, Nat.one_mul]
    exact h i _ (List.getElem?_eq_getElem h2)
theorem lshown_ok (hn : NetOk ws) (hb : LotsOk (nsOf ws) box) (ho : (o.all fun o => D.imms o.parts) = true) {Q : Res → List D → Prop} (q : Q (.dat (lotsD (shB ws box))) o) : Dr d__law_shown [.tup (ws.map Wk.toD), lotsD box] o Q := by
  have bl : box.length = ws.length := by have := hb.len; simpa [nsOf] using this
  have l5 := hn.l5
  have f := shB_ok hn hb
  unfold d__law_shown b__law_shown
  rw [dr_run]
  simp! [List.replicate, rng1I, List.length_map, Int.toNat_natCast]
  refine ⟨by unfold rngOk; exact decide_eq_true (by omega), ?_⟩
  rw [show rangeD 0 ws.length = (List.range' 0 ws.length).map fun i => D.int ((i : Nat) : Int) from range_map ws.length 0]
  refine cw_ofM (g := fun i => tI ((shB ws box).getD i [])) (small_le (by simp; omega)) (fun i hi => ?_) ?_
  · have hi' : i < ws.length := by simp at hi; omega
    have e1 : ws[i]? = some ws[i] := List.getElem?_eq_getElem hi'
    have hi2 : i < box.length := by omega
    have e2 : box[i]? = some box[i] := List.getElem?_eq_getElem hi2
    generalize ws[i] = w at e1
    generalize box[i] = l at e2
    have ok := hn.ok w (List.mem_of_getElem? e1)
    obtain ⟨b1, b2, b3, b4⟩ := box_at hb e1 e2
    have wd : w.toD = D.tup [.int w.m, tI w.sh, .tup (Cd.toDs w.cs)] := rfl
    simp! [wipeE, Slot.frz, List.map_cons, ix_lot e2, it_tI]
    refine cw_ofM (g := fun s => .int ((w.sh[s.toNat]?).getD 0)) (small_le (by omega)) (fun s hs => ?_) ?_
    · obtain ⟨h0, h1⟩ := b4 s hs
      simp! [wipeE, Slot.frz, List.map_cons, ix_wk e1, wd, sh_at ok h0 h1]
    · have e3 : l.map (fun s => D.int ((w.sh[s.toNat]?).getD 0)) = (l.map fun s => (w.sh[s.toNat]?).getD 0).map .int := by rw [List.map_map]; rfl
      rw [e3, if_imms (imms_ints _) ho]
      refine sortsetE_rn (b := 4) (by simp; omega) (fun k hk => ?_) (by decide) ?_
      · have := shW_fit ok b4 k ((sortS_mem k _).mpr hk)
        have := ok.m4
        omega
      · unfold lI
        simp!
        rw [show (shB ws box).getD i [] = shW w l by rw [List.getD_eq_getElem?_getD, show (shB ws box)[i]? = some (shW w l) from zw_at e1 e2]; rfl]
        rfl
  · rw [rng_map (f := tI) (l := shB ws box) (by have := f.len; simpa [msOf] using this) (fun i a h => by rw [List.getD_eq_getElem?_getD, h]; rfl), if_imms (imms_tI _) ho]
    exact q
end
end LW
end
section
set_option maxRecDepth 100000
namespace LW
open PySem L2 LC
open DL hiding tI bag_all safe_b safe_bn take_call take_rn takeEnv take1 take_ok where_b st_b0 st_b1 aug_b2
local macro_rules | `(tactic| simp!) => `(tactic| simp -implicitDefEqProofs only [rn_bind, rn_pure, rn_no, rn_need, rn_opt1, rn_ite, rn_var, rn_put, rn_useD, rn_useN, rn_useO, rn_chkD, rn_chkN, rn_chkO, rn_call, rn_seq, rn_guard, rn_forIn, rn_for0, rn_setD, rn_setN, rn_setO, binM, binMO, unM, cmpT, testM, andT, orT, notT, ifM, asgM, retM, exprM, kM, consA, nilA, tupM, lstM, useAll, chkAll, slM, partM, DL.andM, DL.orM, DL.notM, negM, asgG, gN, gT, gsC, gsN, seqI, frzM, asgTM, dnewM, par2M, hold_d, hold_n, hold_o, d_d, d_n, d_o, out_d, out_n, out_o, fo_next, fo_ret, isBl_b, isInt_i, tr_i, tr_b, tr_n, tr_l, tr_t, it_l, it_r, it_t, li_l, li_r, op_add_i, op_add_l, op_add_t, op_sub_i, op_mul_i, op_mod_i, op_div_i, op_pow_i, op_lt_i, op_le_i, op_gt_i, op_ge_i, op_int_i, op_abs_i, op_len_l, op_len_t, op_len_r, op_tup_l, op_tup_t, op_lst_l, op_lst_t, op_max_i, op_eq_i, eq_go_go, eq_get_get, eq_go_get, eq_get_go, Bool.bne_false, Bool.bne_true, Bool.not_true, Bool.not_false, op_sl_l, op_sl_r, op_sl_t, op_ix_t0, op_ix_t1, op_ix_t2, op_ix_l0, List.getElem?_cons_zero, List.getElem?_cons_succ, List.set_cons_zero, List.set_cons_succ, List.map_cons, List.map_nil, List.length_cons, List.length_nil, List.cons_append, List.nil_append, if_true, if_false, Bool.false_eq_true, decide_eq_true_eq, and_true, true_and, ite_true, ite_false, reduceCtorEq, rn_methM, rn_methM0, isTM_eq, rn_mk, rn_st, mk_own, st_own, ty_own, ex_app, ex_ext, ex_extT, ex_rev, ex_pop, rn_storeM, rn_lc, rn_lc2, rn_turn, rn_turn1, rn_frz])
local macro_rules | `(tactic| simp! [$ls,*]) => `(tactic| simp -implicitDefEqProofs only [rn_bind, rn_pure, rn_no, rn_need, rn_opt1, rn_ite, rn_var, rn_put, rn_useD, rn_useN, rn_useO, rn_chkD, rn_chkN, rn_chkO, rn_call, rn_seq, rn_guard, rn_forIn, rn_for0, rn_setD, rn_setN, rn_setO, binM, binMO, unM, cmpT, testM, andT, orT, notT, ifM, asgM, retM, exprM, kM, consA, nilA, tupM, lstM, useAll, chkAll, slM, partM, DL.andM, DL.orM, DL.notM, negM, asgG, gN, gT, gsC, gsN, seqI, frzM, asgTM, dnewM, par2M, hold_d, hold_n, hold_o, d_d, d_n, d_o, out_d, out_n, out_o, fo_next, fo_ret, isBl_b, isInt_i, tr_i, tr_b, tr_n, tr_l, tr_t, it_l, it_r, it_t, li_l, li_r, op_add_i, op_add_l, op_add_t, op_sub_i, op_mul_i, op_mod_i, op_div_i, op_pow_i, op_lt_i, op_le_i, op_gt_i, op_ge_i, op_int_i, op_abs_i, op_len_l, op_len_t, op_len_r, op_tup_l, op_tup_t, op_lst_l, op_lst_t, op_max_i, op_eq_i, eq_go_go, eq_get_get, eq_go_get, eq_get_go, Bool.bne_false, Bool.bne_true, Bool.not_true, Bool.not_false, op_sl_l, op_sl_r, op_sl_t, op_ix_t0, op_ix_t1, op_ix_t2, op_ix_l0, List.getElem?_cons_zero, List.getElem?_cons_succ, List.set_cons_zero, List.set_cons_succ, List.map_cons, List.map_nil, List.length_cons, List.length_nil, List.cons_append, List.nil_append, if_true, if_false, Bool.false_eq_true, decide_eq_true_eq, and_true, true_and, ite_true, ite_false, reduceCtorEq, rn_methM, rn_methM0, isTM_eq, rn_mk, rn_st, mk_own, st_own, ty_own, ex_app, ex_ext, ex_extT, ex_rev, ex_pop, rn_storeM, rn_lc, rn_lc2, rn_turn, rn_turn1, rn_frz, $ls,*])
section
variable {o : List D} {ws : List Wk} {st : List Int}
theorem isi_i {k : Int} {S : Sx} {Q : Res → Sx → Prop} : Rn (opIsi "int" (.int k)) S Q = Q (.dat (.bl true)) S := rfl
theorem isi_b {k : Int} {S : Sx} {Q : Res → Sx → Prop} : Rn (opIsi "bool" (.int k)) S Q = Q (.dat (.bl false)) S := rfl
theorem integer_ok {k : Int} {Q : Res → List D → Prop} (q : Q (.dat (.bl true)) o) : Dr d_is_integer [.int k] o Q := by
  unfold d_is_integer b_is_integer
  rw [dr_run]
  simp! [List.replicate, isi_i, isi_b]
  exact q
theorem index_ok {k n : Nat} (h : k < n) (ho : (o.all fun o => D.imms o.parts) = true) {Q : Res → List D → Prop} (q : Q (.dat (.bl true)) o) : Dr d_is_index [.int (k : Nat), .int (n : Nat)] o Q := by
  unfold d_is_index b_is_index
  rw [dr_run]
  simp! [List.replicate]
  refine integer_ok ?_
  rw [if_safe rfl ho]
  simp! [chM, chT]
  unfold chK
  rw [if_pos (decide_eq_true (by omega))]
  simp!
  rw [decide_eq_true (show (k : Int) < (n : Int) by omega)]
  exact q
theorem looked_ok {i : Nat} {w : Wk} (h : ws[i]? = some w) (ho : (o.all fun o => D.imms o.parts) = true) {Q : Res → List D → Prop} (q : Q (.dat w.toD) o) : Dr d_looked_at [netD ws st, .int (i : Nat)] o Q := by
  have hl := (List.getElem?_eq_some_iff.mp h).1
  have n0 : ∀ {S : Sx} {Q : Res → Sx → Prop}, Rn (opIx (netD ws st) (.int 0)) S Q = Q (.dat (.tup (ws.map Wk.toD))) S := fun {S Q} => op_ix_t0
  unfold d_looked_at b_looked_at
  rw [dr_run]
  simp! [List.replicate, n0, List.length_map]
  refine index_ok hl ho ?_
  rw [if_safe rfl ho]
  simp! [n0, ix_wk h]
  exact q
theorem code_ok {i s : Nat} {w : Wk} {c : Cd} (h : ws[i]? = some w) (hc : w.cs[s]? = some c) (ho : (o.all fun o => D.imms o.parts) = true) {Q : Res → List D → Prop} (q : Q (.dat c.toD) o) : Dr d_code_at [netD ws st, .int (i : Nat), .int (s : Nat)] o Q := by
  have hl := (List.getElem?_eq_some_iff.mp hc).1
  have w2 : ∀ {S : Sx} {Q : Res → Sx → Prop}, Rn (opIx w.toD (.int 2)) S Q = Q (.dat (.tup (Cd.toDs w.cs))) S := fun {S Q} => op_ix_t2
  unfold d_code_at b_code_at
  rw [dr_run]
  simp! [List.replicate]
  refine looked_ok h ho ?_
  rw [if_safe (show (Res.dat w.toD).safe = true by simp [Res.safe, Wk.toD, D.imm, D.imms, tI, imms_ints, Cd.imms]) ho]
  simp! [w2, toDs_len]
  refine index_ok hl ho ?_
  rw [if_safe rfl ho]
  simp! [ix_ds hc]
  exact q
end
end LW
end
section
set_option maxRecDepth 100000
namespace LW
open PySem L2 LC
open DL hiding tI bag_all safe_b safe_bn take_call take_rn takeEnv take1 take_ok where_b st_b0 st_b1 aug_b2
local macro_rules | `(tactic| simp!) => `(tactic| simp -implicitDefEqProofs only [rn_bind, rn_pure, rn_no, rn_need, rn_opt1, rn_ite, rn_var, rn_put, rn_useD, rn_useN, rn_useO, rn_chkD, rn_chkN, rn_chkO, rn_call, rn_seq, rn_guard, rn_forIn, rn_for0, rn_setD, rn_setN, rn_setO, binM, binMO, unM, cmpT, testM, andT, orT, notT, ifM, asgM, retM, exprM, kM, consA, nilA, tupM, lstM, useAll, chkAll, slM, partM, DL.andM, DL.orM, DL.notM, negM, asgG, gN, gT, gsC, gsN, seqI, frzM, asgTM, dnewM, par2M, hold_d, hold_n, hold_o, d_d, d_n, d_o, out_d, out_n, out_o, fo_next, fo_ret, isBl_b, isInt_i, tr_i, tr_b, tr_n, tr_l, tr_t, it_l, it_r, it_t, li_l, li_r, op_add_i, op_add_l, op_add_t, op_sub_i, op_mul_i, op_mod_i, op_div_i, op_pow_i, op_lt_i, op_le_i, op_gt_i, op_ge_i, op_int_i, op_abs_i, op_len_l, op_len_t, op_len_r, op_tup_l, op_tup_t, op_lst_l, op_lst_t, op_max_i, op_eq_i, eq_go_go, eq_get_get, eq_go_get, eq_get_go, Bool.bne_false, Bool.bne_true, Bool.not_true, Bool.not_false, op_sl_l, op_sl_r, op_sl_t, op_ix_t0, op_ix_t1, op_ix_t2, op_ix_l0, List.getElem?_cons_zero, List.getElem?_cons_succ, List.set_cons_zero, List.set_cons_succ, List.map_cons, List.map_nil, List.length_cons, List.length_nil, List.cons_append, List.nil_append, if_true, if_false, Bool.false_eq_true, decide_eq_true_eq, and_true, true_and, ite_true, ite_false, reduceCtorEq, rn_methM, rn_methM0, isTM_eq, rn_mk, rn_st, mk_own, st_own, ty_own, ex_app, ex_ext, ex_extT, ex_rev, ex_pop, rn_storeM, rn_lc, rn_lc2, rn_turn, rn_turn1, rn_frz])
local macro_rules | `(tactic| simp! [$ls,*]) => `(tactic| simp -implicitDefEqProofs only [rn_bind, rn_pure, rn_no, rn_need, rn_opt1, rn_ite, rn_var, rn_put, rn_useD, rn_useN, rn_useO, rn_chkD, rn_chkN, rn_chkO, rn_call, rn_seq, rn_guard, rn_forIn, rn_for0, rn_setD, rn_setN, rn_setO, binM, binMO, unM, cmpT, testM, andT, orT, notT, ifM, asgM, retM, exprM, kM, consA, nilA, tupM, lstM, useAll, chkAll, slM, partM, DL.andM, DL.orM, DL.notM, negM, asgG, gN, gT, gsC, gsN, seqI, frzM, asgTM, dnewM, par2M, hold_d, hold_n, hold_o, d_d, d_n, d_o, out_d, out_n, out_o, fo_next, fo_ret, isBl_b, isInt_i, tr_i, tr_b, tr_n, tr_l, tr_t, it_l, it_r, it_t, li_l, li_r, op_add_i, op_add_l, op_add_t, op_sub_i, op_mul_i, op_mod_i, op_div_i, op_pow_i, op_lt_i, op_le_i, op_gt_i, op_ge_i, op_int_i, op_abs_i, op_len_l, op_len_t, op_len_r, op_tup_l, op_tup_t, op_lst_l, op_lst_t, op_max_i, op_eq_i, eq_go_go, eq_get_get, eq_go_get, eq_get_go, Bool.bne_false, Bool.bne_true, Bool.not_true, Bool.not_false, op_sl_l, op_sl_r, op_sl_t, op_ix_t0, op_ix_t1, op_ix_t2, op_ix_l0, List.getElem?_cons_zero, List.getElem?_cons_succ, List.set_cons_zero, List.set_cons_succ, List.map_cons, List.map_nil, List.length_cons, List.length_nil, List.cons_append, List.nil_append, if_true, if_false, Bool.false_eq_true, decide_eq_true_eq, and_true, true_and, ite_true, ite_false, reduceCtorEq, rn_methM, rn_methM0, isTM_eq, rn_mk, rn_st, mk_own, st_own, ty_own, ex_app, ex_ext, ex_extT, ex_rev, ex_pop, rn_storeM, rn_lc, rn_lc2, rn_turn, rn_turn1, rn_frz, $ls,*])
section
theorem lst_tI {ms : List Int} {Q : Res → Sx → Prop} {S : Sx} : Rn (opList (tI ms)) S Q = Q (.new (lI ms)) S := rfl
variable {ws : List Wk} {st : List Int}
theorem lots_ok (hn : NetOk ws) {x : Bag} (hx : BOk x) {Q : Res → List D → Prop} (q : ∀ (lots : List (List Int)) (y : Bag), LotsOk (msOf ws) lots → BOk y → Q (.dat (lotsD lots)) [TB, bagD y]) : Dr d__law_lots [.obj 1, netD ws st] [TB, bagD x] Q := by
  have l5 := hn.l5
  unfold d__law_lots b__law_lots
  rw [dr_run]
  simp! [List.replicate, ix_net0]
  refine cw_lots (f := Wk.toD) (F := fun w => w.m) (all := ws) hx (by omega) (fun w hw => ⟨(hn.ok w hw).m1, by have := (hn.ok w hw).m4; omega⟩) (fun w y T hw hy hl hT => ?_) fun lots y ok hy => ?_
  · have wd : w.toD = D.tup [.int w.m, tI w.sh, .tup (Cd.toDs w.cs)] := rfl
    simp! [wipeE, Slot.frz, List.map_cons, wd]
    refine hl fun l x' h1 h2 h3 h4 => ?_
    rw [safe_b (show (tI l).imm = true from imms_ints l)]
    exact hT l x' _ rfl h1 h2 h3 h4
  · rw [if_imms (imms_tI _) (bag_all y)]
    exact q lots y ok hy
theorem box_ok (hn : NetOk ws) {x : Bag} (hx : BOk x) {Q : Res → List D → Prop} (q : ∀ (box : List (List Int)) (y : Bag), LotsOk (nsOf ws) box → BOk y → Q (.dat (lotsD box)) [TB, bagD y]) : Dr d__law_box [.obj 1, netD ws st] [TB, bagD x] Q := by
  have l5 := hn.l5
  unfold d__law_box b__law_box
  rw [dr_run]
  simp! [List.replicate, ix_net0]
  refine cw_lots (f := Wk.toD) (F := fun w => (w.sh.length : Int)) (all := ws) hx (by omega) (fun w hw => ⟨by have := (hn.ok w hw).s1; omega, by have := (hn.ok w hw).s5; omega⟩) (fun w y T hw hy hl hT => ?_) fun lots y ok hy => ?_
  · have wd : w.toD = D.tup [.int w.m, tI w.sh, .tup (Cd.toDs w.cs)] := rfl
    simp! [wipeE, Slot.frz, List.map_cons, wd, len_tI]
    refine hl fun l x' h1 h2 h3 h4 => ?_
    rw [safe_b (show (tI l).imm = true from imms_ints l)]
    exact hT l x' _ rfl h1 h2 h3 h4
  · rw [if_imms (imms_tI _) (bag_all y)]
    exact q lots y ok hy
theorem er_map : ∀ (p : Nat) (l : List Int), (l.map D.int).eraseIdx p = (l.eraseIdx p).map .int
  | _, [] => by simp
  | 0, a :: r => by simp
  | p + 1, a :: r => by simp [er_map p r]
theorem ex_popAt {ds : List D} {j : Nat} {d : D} (hj : ds[j]? = some d) (hs : ds.length ≤ 100) {P : D → D → Prop} (h : P d (.lst (ds.eraseIdx j))) : ∃ r d', opPopAt (.lst ds) (.int (j : Nat)) = some (r, d') ∧ P r d' := by
  have hl := (List.getElem?_eq_some_iff.mp hj).1
  refine ⟨_, _, ?_, h⟩
  have : seqIndex? (j : Int) ds.length = some j := by unfold seqIndex?; simp; omega
  simp only [opPopAt]
  rw [if_pos ⟨by omega, by omega⟩, this]
  simp [hj]
theorem set_split {α : Type} {l : List α} {j : Nat} (hj : j < l.length) (x : α) : l.take j ++ [x] ++ l.drop (j + 1) = l.set j x := by
  rw [List.set_eq_take_append_cons_drop, if_pos hj]; simp
theorem like_ok {many : List Int} {box : List (List Int)} (ml : 1 ≤ many.length) (ml5 : many.length ≤ 5) (mf : ∀ m ∈ many, 1 ≤ m ∧ m ≤ 5) (f : LotsOk many box) {x : Bag} (hx : BOk x) {Q : Res → List D → Prop} (q : ∀ (box' : List (List Int)) (y : Bag), LotsOk many box' → BOk y → Q (.dat (lotsD box')) [TB, bagD y]) : Dr d__law_like [.obj 1, lotsD box, .lst (many.map .int)] [TB, bagD x] Q := by
  have bl := f.len
  unfold d__law_like
  rw [dr_run]
  unfold b__law_like
  generalize hR : seqM (ifM (andT _ _) _ _) _ = R
  unfold lotsD
  simp! [List.replicate, List.length_map]
  refine lt_call hx (by decide) (by decide) fun kind x1 k0 k1 hx1 => ?_
  rw [safe_b rfl]
  simp! [List.length_map]
  refine lt_call hx1 (by omega) (by omega) fun at_ x2 a0 a1 hx2 => ?_
  rw [safe_b rfl]
  obtain ⟨j, rfl⟩ := toNat_int a0
  have e2 : box[j]? = some (box[j]'(by omega)) := List.getElem?_eq_getElem (by omega)
  have em : many[j]? = some (many[j]'(by omega)) := List.getElem?_eq_getElem (by omega)
  generalize box[j]'(by omega) = l at e2
  have mm := mf _ (List.mem_of_getElem? em)
  generalize many[j]'(by omega) = m at em mm
  have l0 := f.one l (List.mem_of_getElem? e2)
  have l5 := f.few l (List.mem_of_getElem? e2)
  have lu := f.up l (List.mem_of_getElem? e2)
  have lf := f.fit j l m e2 em
  have hj : j < box.length := by omega
  have e2' : (box.map tI)[j]? = some (tI l) := by rw [List.getElem?_map, e2]; rfl
  simp! [par_dd, op_ix_tn e2', lst_tI]
  unfold lI
  rw [← hR]
  generalize hL : retM (binM opAdd _ _) = L
  have fin : ∀ (l' : List Int) (y : Bag) (s6 : Slot), l' ≠ [] → l'.Pairwise (· < ·) → (∀ k ∈ l', 0 ≤ k ∧ k < m) → BOk y → Rn L ⟨[.dat (.obj 1), .dat (.tup (box.map tI)), .dat (.lst (many.map .int)), .own (.lst (l'.map .int)), .dat (.int kind), .dat (.int (j : Nat)), s6], [TB, bagD y]⟩ (flOut Q) := by
    intro l' y s6 h0 hu hf hy
    rw [← hL]
    simp! [cut_take, show ((j : Int) + 1) = ((j + 1 : Nat) : Int) from rfl, cut_drop]
    have ea : (box.map tI).take j ++ [D.tup (l'.map .int)] ++ (box.map tI).drop (j + 1) = (box.set j l').map tI := by
      rw [set_split (by simpa using hj), List.map_set]; rfl
    refine ⟨small_le (by decide), small_le (by simp; omega), small_le (by simp; omega), ?_⟩
    rw [ea]
    exact q (box.set j l') y (lots_set f em mm.2 h0 hu hf) hy
  have ks : kind = 0 ∨ kind = 1 ∨ kind = 2 ∨ kind = 3 := by omega
  rcases ks with rfl | rfl | rfl | rfl
  · simp! [show ((0 : Int) == 0) = true from rfl, show ((0 : Int) == 1) = false from rfl, show ((0 : Int) == 2) = false from rfl, List.length_map]
    split
    · rename_i hlen
      refine lt_call hx2 (by omega) (by omega) fun k x3 k0 k1 hx3 => ?_
      rw [safe_b rfl]
      obtain ⟨p, rfl⟩ := toNat_int k0
      have hp : p < l.length := by omega
      simp!
      refine ex_popAt (d := .int l[p]) (by rw [List.getElem?_map, List.getElem?_eq_getElem hp]; rfl) (by simp; omega) ?_
      have ee : (l.map D.int).eraseIdx p = (l.eraseIdx p).map .int := er_map p l
      rw [ee]
      refine fin (l.eraseIdx p) x3 _ (fun e => ?_) (lu.sublist (List.eraseIdx_sublist l p)) (fun k hk => lf k ((List.eraseIdx_sublist l p).subset hk)) hx3
      have := congrArg List.length e
      rw [List.length_eraseIdx_of_lt hp] at this
      simp at this; omega
    · exact fin l x2 _ l0 lu lf hx2
  · simp! [show ((1 : Int) == 0) = false from rfl, show ((1 : Int) == 1) = true from rfl, show ((1 : Int) == 2) = false from rfl, ix_li em]
    refine lt_call hx2 (by omega) (by omega) fun k x3 k0 k1 hx3 => ?_
    rw [safe_b rfl]
    simp! [List.length_map]
    refine ⟨small_le (by decide), small_le (by omega), ?_⟩
    rw [show l.map D.int ++ [.int k] = (l ++ [k]).map .int by simp]
    have fk : ∀ z ∈ l ++ [k], 0 ≤ z ∧ z < m := fun z hz => by
      rcases List.mem_append.mp hz with h | h
      · exact lf z h
      · rw [List.mem_singleton] at h; subst h; exact ⟨k0, k1⟩
    refine sortsetE_rn (b := 5) (by simp; omega) (fun z hz => by have := fk z hz; omega) (by decide) ?_
    unfold lI
    simp!
    exact fin (sortS (l ++ [k])) x3 _ (sort_ne (by simp)) (sortS_up _) (fun z hz => fk z ((sortS_mem z _).mp hz)) hx3
  · simp! [show ((2 : Int) == 0) = false from rfl, show ((2 : Int) == 1) = false from rfl, show ((2 : Int) == 2) = true from rfl]
    refine cw_lots (f := D.int) (F := id) (all := many) hx2 (by omega) (fun a ha => mf a ha) (fun a y T ha hy hl hT => ?_) fun lots y ok hy => ?_
    · simp! [wipeE, Slot.frz, List.map_cons]
      refine hl fun l x' h1 h2 h3 h4 => ?_
      rw [safe_b (show (tI l).imm = true from imms_ints l)]
      exact hT l x' _ rfl h1 h2 h3 h4
    · rw [if_imms (imms_tI _) (bag_all y)]
      rw [List.map_id] at ok
      exact q lots y ok hy
  · simp! [show ((3 : Int) == 0) = false from rfl, show ((3 : Int) == 1) = false from rfl, show ((3 : Int) == 2) = false from rfl]
    exact fin l x2 _ l0 lu lf hx2
end
end LW
end
section
set_option maxRecDepth 100000
namespace LW
open PySem L2 LC
open DL hiding tI bag_all safe_b safe_bn take_call take_rn takeEnv take1 take_ok where_b st_b0 st_b1 aug_b2
local macro_rules | `(tactic| simp!) => `(tactic| simp -implicitDefEqProofs only [rn_bind, rn_pure, rn_no, rn_need, rn_opt1, rn_ite, rn_var, rn_put, rn_useD, rn_useN, rn_useO, rn_chkD, rn_chkN, rn_chkO, rn_call, rn_seq, rn_guard, rn_forIn, rn_for0, rn_setD, rn_setN, rn_setO, binM, binMO, unM, cmpT, testM, andT, orT, notT, ifM, asgM, retM, exprM, kM, consA, nilA, tupM, lstM, useAll, chkAll, slM, partM, DL.andM, DL.orM, DL.notM, negM, asgG, gN, gT, gsC, gsN, seqI, frzM, asgTM, dnewM, par2M, hold_d, hold_n, hold_o, d_d, d_n, d_o, out_d, out_n, out_o, fo_next, fo_ret, isBl_b, isInt_i, tr_i, tr_b, tr_n, tr_l, tr_t, it_l, it_r, it_t, li_l, li_r, op_add_i, op_add_l, op_add_t, op_sub_i, op_mul_i, op_mod_i, op_div_i, op_pow_i, op_lt_i, op_le_i, op_gt_i, op_ge_i, op_int_i, op_abs_i, op_len_l, op_len_t, op_len_r, op_tup_l, op_tup_t, op_lst_l, op_lst_t, op_max_i, op_eq_i, eq_go_go, eq_get_get, eq_go_get, eq_get_go, Bool.bne_false, Bool.bne_true, Bool.not_true, Bool.not_false, op_sl_l, op_sl_r, op_sl_t, op_ix_t0, op_ix_t1, op_ix_t2, op_ix_l0, List.getElem?_cons_zero, List.getElem?_cons_succ, List.set_cons_zero, List.set_cons_succ, List.map_cons, List.map_nil, List.length_cons, List.length_nil, List.cons_append, List.nil_append, if_true, if_false, Bool.false_eq_true, decide_eq_true_eq, and_true, true_and, ite_true, ite_false, reduceCtorEq, rn_methM, rn_methM0, isTM_eq, rn_mk, rn_st, mk_own, st_own, ty_own, ex_app, ex_ext, ex_extT, ex_rev, ex_pop, rn_storeM, rn_lc, rn_lc2, rn_turn, rn_turn1, rn_frz])
local macro_rules | `(tactic| simp! [$ls,*]) => `(tactic| simp -implicitDefEqProofs only [rn_bind, rn_pure, rn_no, rn_need, rn_opt1, rn_ite, rn_var, rn_put, rn_useD, rn_useN, rn_useO, rn_chkD, rn_chkN, rn_chkO, rn_call, rn_seq, rn_guard, rn_forIn, rn_for0, rn_setD, rn_setN, rn_setO, binM, binMO, unM, cmpT, testM, andT, orT, notT, ifM, asgM, retM, exprM, kM, consA, nilA, tupM, lstM, useAll, chkAll, slM, partM, DL.andM, DL.orM, DL.notM, negM, asgG, gN, gT, gsC, gsN, seqI, frzM, asgTM, dnewM, par2M, hold_d, hold_n, hold_o, d_d, d_n, d_o, out_d, out_n, out_o, fo_next, fo_ret, isBl_b, isInt_i, tr_i, tr_b, tr_n, tr_l, tr_t, it_l, it_r, it_t, li_l, li_r, op_add_i, op_add_l, op_add_t, op_sub_i, op_mul_i, op_mod_i, op_div_i, op_pow_i, op_lt_i, op_le_i, op_gt_i, op_ge_i, op_int_i, op_abs_i, op_len_l, op_len_t, op_len_r, op_tup_l, op_tup_t, op_lst_l, op_lst_t, op_max_i, op_eq_i, eq_go_go, eq_get_get, eq_go_get, eq_get_go, Bool.bne_false, Bool.bne_true, Bool.not_true, Bool.not_false, op_sl_l, op_sl_r, op_sl_t, op_ix_t0, op_ix_t1, op_ix_t2, op_ix_l0, List.getElem?_cons_zero, List.getElem?_cons_succ, List.set_cons_zero, List.set_cons_succ, List.map_cons, List.map_nil, List.length_cons, List.length_nil, List.cons_append, List.nil_append, if_true, if_false, Bool.false_eq_true, decide_eq_true_eq, and_true, true_and, ite_true, ite_false, reduceCtorEq, rn_methM, rn_methM0, isTM_eq, rn_mk, rn_st, mk_own, st_own, ty_own, ex_app, ex_ext, ex_extT, ex_rev, ex_pop, rn_storeM, rn_lc, rn_lc2, rn_turn, rn_turn1, rn_frz, $ls,*])
section
variable {o : List D}
def subI (a b : List Int) : Bool := a.all fun k => decide (k ∈ b)
def insB (a b : List (List Int)) : Bool := (List.zipWith subI a b).all id
theorem insB_all {a b : List (List Int)} (h : ∀ (i : Nat) (x y : List Int), a[i]? = some x → b[i]? = some y → subI x y = true) : insB a b = true := by
  unfold insB
  rw [List.all_eq_true]
  intro c hc
  obtain ⟨i, hi⟩ := mem_ix hc
  obtain ⟨x, y, h1, h2, rfl⟩ := zw_get hi
  exact h i x y h1 h2
theorem bls_all {bs : List Bool} {Q : Res → Sx → Prop} {S : Sx} : Rn (opAll (.lst (bs.map .bl))) S Q = Q (.dat (.bl (bs.all id))) S := by
  have : ∀ bs : List Bool, D.bls? (bs.map .bl) = some bs := by
    intro bs
    induction bs with
    | nil => rfl
    | cons b r ih => simp [D.bls?, ih]
  unfold opAll
  rw [show (D.lst (bs.map .bl)).lis.bind D.bls? = some bs from this bs, rn_opt1]; rfl
theorem imms_bls : ∀ bs : List Bool, D.imms (bs.map .bl) = true
  | [] => rfl
  | b :: r => by rw [List.map_cons, D.imms, imms_bls r]; rfl
theorem range_zip {α : Type} : ∀ (xs : List α) (k : Nat), rangeD (k : Nat) xs.length = (xs.zipIdx k).map fun p => D.int (p.2 : Nat)
  | [], _ => rfl
  | x :: r, k => by
    rw [List.length_cons, rangeD, List.zipIdx_cons, List.map_cons, ← range_zip r (k + 1)]
    rfl
theorem range_zip0 {α : Type} (xs : List α) : rangeD 0 xs.length = xs.zipIdx.map fun p => D.int (p.2 : Nat) := range_zip xs 0
theorem inside_ok {a b : List (List Int)} (hl : a.length ≤ b.length) (a5 : a.length ≤ 5) (f5 : ∀ x ∈ a, x.length ≤ 5) (ho : (o.all fun o => D.imms o.parts) = true) {Q : Res → List D → Prop} (q : Q (.dat (.bl (insB a b))) o) : Dr d__law_inside [lotsD a, lotsD b] o Q := by
  unfold d__law_inside b__law_inside
  rw [dr_run]
  generalize hT : turnM _ _ (unM opAll _) = T
  have la : ∀ {S : Sx} {Q : Res → Sx → Prop}, Rn (opLen (lotsD a)) S Q = Q (.dat (.int (a.length : Nat))) S := fun {S Q} => by
    unfold lotsD; rw [op_len_t, List.length_map]
  simp! [List.replicate, rng1I, la, Int.toNat_natCast]
  refine ⟨by unfold rngOk; exact decide_eq_true (by omega), ?_⟩
  rw [range_zip0 a]
  refine cw_ofM (f := fun p : List Int × Nat => D.int (p.2 : Nat)) (g := fun p => .bl (subI p.1 ((b[p.2]?).getD []))) (small_le (by rw [List.length_zipIdx]; omega)) (fun p hp => ?_) ?_
  · obtain ⟨x, i⟩ := p
    have e1 : a[i]? = some x := by
      have := List.mem_zipIdx hp
      simp at this
      rw [this.2]
      exact List.getElem?_eq_getElem _
    have hi : i < b.length := by have := (List.getElem?_eq_some_iff.mp e1).1; omega
    have e2 : b[i]? = some b[i] := List.getElem?_eq_getElem hi
    generalize b[i] = y at e2
    have x5 := f5 x (List.mem_of_getElem? e1)
    rw [← hT]
    generalize hT2 : turnM _ _ (binM _ _ _) = T2
    simp! [wipeE, Slot.frz, List.map_cons, ix_lot e1, it_tI]
    refine cw_ofM (f := D.int) (g := fun k => .bl (decide (k ∈ y))) (small_le (by omega)) (fun k hk => ?_) ?_
    · rw [← hT2]
      simp! [wipeE, Slot.frz, List.map_cons, ix_lot e2, in_iT]
    · have em : (x.map fun k => D.bl (decide (k ∈ y))) = (x.map fun k => decide (k ∈ y)).map .bl := by rw [List.map_map]; rfl
      rw [em, if_imms (imms_bls _) ho]
      simp! [bls_all]
      rw [e2]
      unfold subI
      rw [List.all_map]
      rfl
  · have em : (a.zipIdx.map fun p => D.bl (subI p.1 ((b[p.2]?).getD []))) = (List.zipWith subI a b).map .bl := by
      apply List.ext_getElem?
      intro i
      rw [List.getElem?_map, List.getElem?_map, List.getElem?_zipIdx]
      cases c : a[i]? with
      | none => rw [show (List.zipWith subI a b)[i]? = none from List.getElem?_eq_none (by rw [List.length_zipWith]; have := List.getElem?_eq_none_iff.mp c; omega)]; rfl
      | some x =>
        have hi : i < b.length := by have := (List.getElem?_eq_some_iff.mp c).1; omega
        have e2 : b[i]? = some b[i] := List.getElem?_eq_getElem hi
        rw [show (List.zipWith subI a b)[i]? = some (subI x b[i]) from zw_at c e2]
        simp [e2]
    rw [em, if_imms (imms_bls _) ho]
    simp! [bls_all]
    exact q
theorem insB_zip : ∀ a b : List (List Int), insB a b = (a.zip b).all fun p => subI p.1 p.2
  | [], b => by simp [insB]
  | x :: a, [] => by simp [insB]
  | x :: a, y :: b => by
    have := insB_zip a b
    unfold insB at this ⊢
    simp only [List.zipWith_cons_cons, List.all_cons, List.zip_cons_cons, this, id]
theorem liesB_ok {a b : List (List Int)} (a5 : a.length ≤ 5) {Q : Res → List D → Prop} (q : Q (.dat (.bl (insB a b))) o) : Dr d_lies_in [lotsD a, lotsD b] o Q := by
  unfold d_lies_in b_lies_in lotsD
  rw [dr_run]
  generalize hC : DL.forIn (seqI (varM 2)) _ _ = C
  simp! [List.replicate, rn_zipI, zipK_tt, zipD_map]
  have eI := insB_zip a b
  rw [eI] at q
  refine for_of (f := fun p : List Int × List Int => D.tup [tI p.1, tI p.2]) (all := a.zip b) (a := []) (r := a.zip b) (I := fun d r S => (∀ p ∈ d, subI p.1 p.2 = true) ∧ ∃ s2 s3 s4 : Slot, S = ⟨[.dat (.tup (a.map tI)), .dat (.tup (b.map tI)), s2, s3, s4], o⟩) rfl ⟨nofun, _, _, _, rfl⟩ ?_ ?_
  · rintro d p r S e ⟨hd, s2, s3, s4, rfl⟩
    simp!
    rw [← hC]
    simp! [it_tI]
    refine for_of (f := D.int) (all := p.1) (a := []) (r := p.1) (I := fun d r S => (∀ k ∈ d, k ∈ p.2) ∧ ∃ s4 : Slot, S = ⟨[.dat (.tup (a.map tI)), .dat (.tup (b.map tI)), .dat (tI p.1), .dat (tI p.2), s4], o⟩) rfl ⟨nofun, _, rfl⟩ ?_ ?_
    · rintro d' k r' S e' ⟨hd', s4, rfl⟩
      simp! [in_iT]
      by_cases m : k ∈ p.2
      · rw [if_neg (by simp [m])]
        exact ⟨fun j hj => (List.mem_append.mp hj).elim (hd' j) fun h => by rw [List.mem_singleton.mp h]; exact m, _, rfl⟩
      · rw [if_pos (by simp [m])]
        have : ((a.zip b).all fun p => subI p.1 p.2) = false := by
          rw [List.all_eq_false]
          refine ⟨p, by rw [e]; simp, ?_⟩
          unfold subI
          simp only [List.all_eq_true]
          exact fun h => m (of_decide_eq_true (h k (by rw [e']; simp)))
        rw [this] at q
        exact q
    · rintro S ⟨hd', s4, rfl⟩
      refine ⟨fun p' hp => (List.mem_append.mp hp).elim (hd p') fun h => ?_, _, _, _, rfl⟩
      rw [List.mem_singleton.mp h]
      unfold subI
      rw [List.all_eq_true]
      exact fun k hk => decide_eq_true (hd' k hk)
  · rintro S ⟨h, s2, s3, s4, rfl⟩
    simp!
    have : ((a.zip b).all fun p => subI p.1 p.2) = true := List.all_eq_true.mpr h
    rw [this] at q
    exact q
end
end LW
end
section
set_option maxRecDepth 100000
namespace LW
open PySem L2 LC
open DL hiding tI bag_all safe_b safe_bn take_call take_rn takeEnv take1 take_ok where_b st_b0 st_b1 aug_b2
local macro_rules | `(tactic| simp!) => `(tactic| simp -implicitDefEqProofs only [rn_bind, rn_pure, rn_no, rn_need, rn_opt1, rn_ite, rn_var, rn_put, rn_useD, rn_useN, rn_useO, rn_chkD, rn_chkN, rn_chkO, rn_call, rn_seq, rn_guard, rn_forIn, rn_for0, rn_setD, rn_setN, rn_setO, binM, binMO, unM, cmpT, testM, andT, orT, notT, ifM, asgM, retM, exprM, kM, consA, nilA, tupM, lstM, useAll, chkAll, slM, partM, DL.andM, DL.orM, DL.notM, negM, asgG, gN, gT, gsC, gsN, seqI, frzM, asgTM, dnewM, par2M, hold_d, hold_n, hold_o, d_d, d_n, d_o, out_d, out_n, out_o, fo_next, fo_ret, isBl_b, isInt_i, tr_i, tr_b, tr_n, tr_l, tr_t, it_l, it_r, it_t, li_l, li_r, op_add_i, op_add_l, op_add_t, op_sub_i, op_mul_i, op_mod_i, op_div_i, op_pow_i, op_lt_i, op_le_i, op_gt_i, op_ge_i, op_int_i, op_abs_i, op_len_l, op_len_t, op_len_r, op_tup_l, op_tup_t, op_lst_l, op_lst_t, op_max_i, op_eq_i, eq_go_go, eq_get_get, eq_go_get, eq_get_go, Bool.bne_false, Bool.bne_true, Bool.not_true, Bool.not_false, op_sl_l, op_sl_r, op_sl_t, op_ix_t0, op_ix_t1, op_ix_t2, op_ix_l0, List.getElem?_cons_zero, List.getElem?_cons_succ, List.set_cons_zero, List.set_cons_succ, List.map_cons, List.map_nil, List.length_cons, List.length_nil, List.cons_append, List.nil_append, if_true, if_false, Bool.false_eq_true, decide_eq_true_eq, and_true, true_and, ite_true, ite_false, reduceCtorEq, rn_methM, rn_methM0, isTM_eq, rn_mk, rn_st, mk_own, st_own, ty_own, ex_app, ex_ext, ex_extT, ex_rev, ex_pop, rn_storeM, rn_lc, rn_lc2, rn_turn, rn_turn1, rn_frz])
local macro_rules | `(tactic| simp! [$ls,*]) => `(tactic| simp -implicitDefEqProofs only [rn_bind, rn_pure, rn_no, rn_need, rn_opt1, rn_ite, rn_var, rn_put, rn_useD, rn_useN, rn_useO, rn_chkD, rn_chkN, rn_chkO, rn_call, rn_seq, rn_guard, rn_forIn, rn_for0, rn_setD, rn_setN, rn_setO, binM, binMO, unM, cmpT, testM, andT, orT, notT, ifM, asgM, retM, exprM, kM, consA, nilA, tupM, lstM, useAll, chkAll, slM, partM, DL.andM, DL.orM, DL.notM, negM, asgG, gN, gT, gsC, gsN, seqI, frzM, asgTM, dnewM, par2M, hold_d, hold_n, hold_o, d_d, d_n, d_o, out_d, out_n, out_o, fo_next, fo_ret, isBl_b, isInt_i, tr_i, tr_b, tr_n, tr_l, tr_t, it_l, it_r, it_t, li_l, li_r, op_add_i, op_add_l, op_add_t, op_sub_i, op_mul_i, op_mod_i, op_div_i, op_pow_i, op_lt_i, op_le_i, op_gt_i, op_ge_i, op_int_i, op_abs_i, op_len_l, op_len_t, op_len_r, op_tup_l, op_tup_t, op_lst_l, op_lst_t, op_max_i, op_eq_i, eq_go_go, eq_get_get, eq_go_get, eq_get_go, Bool.bne_false, Bool.bne_true, Bool.not_true, Bool.not_false, op_sl_l, op_sl_r, op_sl_t, op_ix_t0, op_ix_t1, op_ix_t2, op_ix_l0, List.getElem?_cons_zero, List.getElem?_cons_succ, List.set_cons_zero, List.set_cons_succ, List.map_cons, List.map_nil, List.length_cons, List.length_nil, List.cons_append, List.nil_append, if_true, if_false, Bool.false_eq_true, decide_eq_true_eq, and_true, true_and, ite_true, ite_false, reduceCtorEq, rn_methM, rn_methM0, isTM_eq, rn_mk, rn_st, mk_own, st_own, ty_own, ex_app, ex_ext, ex_extT, ex_rev, ex_pop, rn_storeM, rn_lc, rn_lc2, rn_turn, rn_turn1, rn_frz, $ls,*])
section
variable {o : List D} {x : Bag} {ws : List Wk} {st : List Int}
def bigZ : Int := 1000000000000000000000000000000000000000
def oddL (n : Int) : List D := [.non, .bl true, .bl false, .int (-1), .int n, .int (n + 1), .int bigZ, .int (-bigZ), .str "0", .str "", .tup [.int 0], .rol [], .tup [], .rdc false [.int 0] [.int 0], .rol [.int 0], .tup [.int 1, .int 2]]
theorem odd_cases {n : Int} {d : D} {P : Prop} (h : d ∈ oddL n) (k : d = .non ∨ d = .bl true ∨ d = .bl false ∨ d = .int (-1) ∨ d = .int n ∨ d = .int (n + 1) ∨ d = .int bigZ ∨ d = .int (-bigZ) ∨ d = .str "0" ∨ d = .str "" ∨ d = .tup [.int 0] ∨ d = .rol [] ∨ d = .tup [] ∨ d = .rdc false [.int 0] [.int 0] ∨ d = .rol [.int 0] ∨ d = .tup [.int 1, .int 2] → P) : P := k (by simpa [oddL] using h)
theorem odd_imm {n : Int} {d : D} (h : d ∈ oddL n) : d.imm = true := by
  refine odd_cases h ?_
  rintro (rfl | rfl | rfl | rfl | rfl | rfl | rfl | rfl | rfl | rfl | rfl | rfl | rfl | rfl | rfl | rfl) <;> rfl
theorem odd_still {n : Int} {d : D} (h : d ∈ oddL n) : d.still = true := by
  refine odd_cases h ?_
  rintro (rfl | rfl | rfl | rfl | rfl | rfl | rfl | rfl | rfl | rfl | rfl | rfl | rfl | rfl | rfl | rfl) <;> rfl
theorem odd_nx {n : Nat} (hn : n ≤ 1000) {d : D} (h : d ∈ oddL n) : NX d 3 250 := by
  have one : ∀ {b : Nat} {i : Int}, i.natAbs < 1024 → NX (.int i) b 20 := fun h => nx_int (Nat.lt_trans h (by decide))
  refine odd_cases h ?_
  rintro (rfl | rfl | rfl | rfl | rfl | rfl | rfl | rfl | rfl | rfl | rfl | rfl | rfl | rfl | rfl | rfl)
  · exact nx_non
  · exact nx_bl
  · exact nx_bl
  · exact (one (by decide)).mono (Nat.le_refl _) (by decide)
  · exact (one (by omega)).mono (Nat.le_refl _) (by decide)
  · exact (one (by omega)).mono (Nat.le_refl _) (by decide)
  · exact nx_big.1.mono (Nat.le_refl _) (by decide)
  · exact nx_big.2.mono (Nat.le_refl _) (by decide)
  · exact nx_str (by decide +kernel) (by decide +kernel) (by decide +kernel)
  · exact nx_str (by decide +kernel) (by decide +kernel) (by decide +kernel)
  · exact (nx_tup (nxs_cons (one (by decide)) (nxs_nil (w := 0)))).mono (show 0 + 1 ≤ 3 by decide) (by decide)
  · exact (nx_rol nxs_nil).mono (show 0 + 1 ≤ 3 by decide) (Nat.zero_le _)
  · exact (nx_tup nxs_nil).mono (show 0 + 1 ≤ 3 by decide) (Nat.zero_le _)
  · exact nx_d00.mono (show 1 ≤ 3 by decide) (by decide)
  · exact (nx_rol (nxs_cons (one (by decide)) (nxs_nil (w := 0)))).mono (show 0 + 1 ≤ 3 by decide) (by decide)
  · exact (nx_tup (nxs_cons (one (by decide)) (nxs_cons (one (by decide)) (nxs_nil (w := 0))))).mono (show 0 + 1 ≤ 3 by decide) (by decide)
theorem isi_non {S : Sx} {Q : Res → Sx → Prop} : Rn (opIsi "int" .non) S Q = Q (.dat (.bl false)) S := rfl
theorem isi_bl {b : Bool} {S : Sx} {Q : Res → Sx → Prop} : Rn (opIsi "int" (.bl b)) S Q = Q (.dat (.bl true)) S := rfl
theorem isi_bb {b : Bool} {S : Sx} {Q : Res → Sx → Prop} : Rn (opIsi "bool" (.bl b)) S Q = Q (.dat (.bl true)) S := rfl
theorem isi_str {s : Str} {S : Sx} {Q : Res → Sx → Prop} : Rn (opIsi "int" (.str s)) S Q = Q (.dat (.bl false)) S := rfl
theorem isi_tup {l : List D} {S : Sx} {Q : Res → Sx → Prop} : Rn (opIsi "int" (.tup l)) S Q = Q (.dat (.bl false)) S := rfl
theorem isi_rol {l : List D} {S : Sx} {Q : Res → Sx → Prop} : Rn (opIsi "int" (.rol l)) S Q = Q (.dat (.bl false)) S := rfl
theorem isi_rdc {k l : List D} {S : Sx} {Q : Res → Sx → Prop} : Rn (opIsi "int" (.rdc false k l)) S Q = Q (.dat (.bl false)) S := rfl
def notInt : D → Bool
  | .non => true
  | .bl _ => true
  | .str _ => true
  | .tup _ => true
  | .rol _ => true
  | .rdc false _ _ => true
  | _ => false
theorem integer_no {d : D} (h : notInt d = true) {Q : Res → List D → Prop} (q : Q (.dat (.bl false)) o) : Dr d_is_integer [d] o Q := by
  unfold d_is_integer b_is_integer
  rw [dr_run]
  cases d with
  | non => simp! [List.replicate, isi_non]; exact q
  | bl b => simp! [List.replicate, isi_bl, isi_bb]; exact q
  | str s => simp! [List.replicate, isi_str]; exact q
  | tup l => simp! [List.replicate, isi_tup]; exact q
  | rol l => simp! [List.replicate, isi_rol]; exact q
  | rdc t k l => cases t with
    | false => simp! [List.replicate, isi_rdc]; exact q
    | true => cases h
  | _ => cases h
theorem index_int {k : Int} {n : Nat} (h : ¬ (0 ≤ k ∧ k < (n : Int))) (ho : (o.all fun o => D.imms o.parts) = true) {Q : Res → List D → Prop} (q : Q (.dat (.bl false)) o) : Dr d_is_index [.int k, .int (n : Nat)] o Q := by
  unfold d_is_index b_is_index
  rw [dr_run]
  simp! [List.replicate]
  refine integer_ok ?_
  rw [if_safe rfl ho]
  simp! [chM, chT]
  unfold chK
  by_cases k0 : 0 ≤ k
  · rw [if_pos (decide_eq_true k0)]
    simp!
    rw [decide_eq_false (show ¬ k < (n : Int) from fun z => h ⟨k0, z⟩)]
    exact q
  · rw [if_neg (by simp [k0])]
    exact q
theorem index_no {n : Nat} {d : D} (hn : n ≤ 1000) (hd : d ∈ oddL n) (ho : (o.all fun o => D.imms o.parts) = true) {Q : Res → List D → Prop} (q : Q (.dat (.bl false)) o) : Dr d_is_index [d, .int (n : Nat)] o Q := by
  have no : ∀ {d : D}, notInt d = true → Dr d_is_index [d, .int (n : Nat)] o Q := fun {d} h => by
    unfold d_is_index b_is_index
    rw [dr_run]
    simp! [List.replicate]
    refine integer_no h ?_
    rw [if_safe rfl ho]
    simp!
    exact q
  refine odd_cases hd ?_
  rintro (rfl | rfl | rfl | rfl | rfl | rfl | rfl | rfl | rfl | rfl | rfl | rfl | rfl | rfl | rfl | rfl)
  all_goals first
    | exact no rfl
    | exact index_int (by omega) ho q
    | exact index_int (by unfold bigZ; omega) ho q
end
end LW
end
section
set_option maxRecDepth 100000
namespace LW
open PySem L2 LC
open DL hiding tI bag_all safe_b safe_bn take_call take_rn takeEnv take1 take_ok where_b st_b0 st_b1 aug_b2
local macro_rules | `(tactic| simp!) => `(tactic| simp -implicitDefEqProofs only [rn_bind, rn_pure, rn_no, rn_need, rn_opt1, rn_ite, rn_var, rn_put, rn_useD, rn_useN, rn_useO, rn_chkD, rn_chkN, rn_chkO, rn_call, rn_seq, rn_guard, rn_forIn, rn_for0, rn_setD, rn_setN, rn_setO, binM, binMO, unM, cmpT, testM, andT, orT, notT, ifM, asgM, retM, exprM, kM, consA, nilA, tupM, lstM, useAll, chkAll, slM, partM, DL.andM, DL.orM, DL.notM, negM, asgG, gN, gT, gsC, gsN, seqI, frzM, asgTM, dnewM, par2M, hold_d, hold_n, hold_o, d_d, d_n, d_o, out_d, out_n, out_o, fo_next, fo_ret, isBl_b, isInt_i, tr_i, tr_b, tr_n, tr_l, tr_t, it_l, it_r, it_t, li_l, li_r, op_add_i, op_add_l, op_add_t, op_sub_i, op_mul_i, op_mod_i, op_div_i, op_pow_i, op_lt_i, op_le_i, op_gt_i, op_ge_i, op_int_i, op_abs_i, op_len_l, op_len_t, op_len_r, op_tup_l, op_tup_t, op_lst_l, op_lst_t, op_max_i, op_eq_i, eq_go_go, eq_get_get, eq_go_get, eq_get_go, Bool.bne_false, Bool.bne_true, Bool.not_true, Bool.not_false, op_sl_l, op_sl_r, op_sl_t, op_ix_t0, op_ix_t1, op_ix_t2, op_ix_l0, List.getElem?_cons_zero, List.getElem?_cons_succ, List.set_cons_zero, List.set_cons_succ, List.map_cons, List.map_nil, List.length_cons, List.length_nil, List.cons_append, List.nil_append, if_true, if_false, Bool.false_eq_true, decide_eq_true_eq, and_true, true_and, ite_true, ite_false, reduceCtorEq, rn_methM, rn_methM0, isTM_eq, rn_mk, rn_st, mk_own, st_own, ty_own, ex_app, ex_ext, ex_extT, ex_rev, ex_pop, rn_storeM, rn_lc, rn_lc2, rn_turn, rn_turn1, rn_frz])
local macro_rules | `(tactic| simp! [$ls,*]) => `(tactic| simp -implicitDefEqProofs only [rn_bind, rn_pure, rn_no, rn_need, rn_opt1, rn_ite, rn_var, rn_put, rn_useD, rn_useN, rn_useO, rn_chkD, rn_chkN, rn_chkO, rn_call, rn_seq, rn_guard, rn_forIn, rn_for0, rn_setD, rn_setN, rn_setO, binM, binMO, unM, cmpT, testM, andT, orT, notT, ifM, asgM, retM, exprM, kM, consA, nilA, tupM, lstM, useAll, chkAll, slM, partM, DL.andM, DL.orM, DL.notM, negM, asgG, gN, gT, gsC, gsN, seqI, frzM, asgTM, dnewM, par2M, hold_d, hold_n, hold_o, d_d, d_n, d_o, out_d, out_n, out_o, fo_next, fo_ret, isBl_b, isInt_i, tr_i, tr_b, tr_n, tr_l, tr_t, it_l, it_r, it_t, li_l, li_r, op_add_i, op_add_l, op_add_t, op_sub_i, op_mul_i, op_mod_i, op_div_i, op_pow_i, op_lt_i, op_le_i, op_gt_i, op_ge_i, op_int_i, op_abs_i, op_len_l, op_len_t, op_len_r, op_tup_l, op_tup_t, op_lst_l, op_lst_t, op_max_i, op_eq_i, eq_go_go, eq_get_get, eq_go_get, eq_get_go, Bool.bne_false, Bool.bne_true, Bool.not_true, Bool.not_false, op_sl_l, op_sl_r, op_sl_t, op_ix_t0, op_ix_t1, op_ix_t2, op_ix_l0, List.getElem?_cons_zero, List.getElem?_cons_succ, List.set_cons_zero, List.set_cons_succ, List.map_cons, List.map_nil, List.length_cons, List.length_nil, List.cons_append, List.nil_append, if_true, if_false, Bool.false_eq_true, decide_eq_true_eq, and_true, true_and, ite_true, ite_false, reduceCtorEq, rn_methM, rn_methM0, isTM_eq, rn_mk, rn_st, mk_own, st_own, ty_own, ex_app, ex_ext, ex_extT, ex_rev, ex_pop, rn_storeM, rn_lc, rn_lc2, rn_turn, rn_turn1, rn_frz, $ls,*])
section
variable {o : List D} {x : Bag} {ws : List Wk} {st : List Int} {n : Nat} {d : D}
theorem osome_ok {ds : List D} (h1 : 1 ≤ ds.length) (h2 : ds.length ≤ 1000) (hx : BOk x) {Q : Res → List D → Prop} (q : ∀ d ∈ ds, ∀ y, BOk y → Q (.dat d) [TB, bagD y]) : Dr d__law_some [.obj 1, .lst ds] [TB, bagD x] Q := by
  unfold d__law_some b__law_some
  rw [dr_run]
  simp! [List.replicate]
  refine lt_call hx (by omega) (by omega) fun k y k0 k1 hy => ?_
  rw [safe_b rfl]
  obtain ⟨k, rfl⟩ := toNat_int k0
  have hk : ds[k]? = some (ds[k]'(by omega)) := List.getElem?_eq_getElem (by omega)
  generalize ds[k]'(by omega) = d at hk
  simp! [op_ix_ln hk]
  exact q d (List.mem_of_getElem? hk) y hy
theorem lnoidx_ok (hx : BOk x) {Q : Res → List D → Prop} (q : ∀ d ∈ oddL (n : Int), ∀ y, BOk y → Q (.dat d) [TB, bagD y]) : Dr d__law_no_index [.obj 1, .int (n : Nat)] [TB, bagD x] Q := by
  unfold d__law_no_index b__law_no_index
  rw [dr_run, rn_seq]
  generalize hR : retM _ = R
  simp! [List.replicate]
  refine ⟨⟨by decide, by decide, by decide⟩, ⟨by decide, by decide, by decide⟩, small_le (by decide), Nat.zero_le _, Nat.zero_le _, small_le (by decide), ?_⟩
  rw [← hR]
  simp! [rn_lockM, rn_lock_n]
  refine ⟨small_le (by decide), small_le (by decide), small_le (by decide), small_le (by decide), ?_⟩
  have e1 : (10 : Int) ^ Int.toNat 39 = bigZ := by decide +kernel
  have e2 : (0 : Int) - bigZ = -bigZ := by decide +kernel
  rw [e1, e2]
  refine osome_ok (by simp) (by simp) hx fun d hd y hy => ?_
  rw [safe_b (odd_imm (n := (n : Int)) (by simpa [oddL] using hd))]
  exact q d (by simpa [oddL] using hd) y hy
theorem nt_0 {S : Sx} {Q : Res → Sx → Prop} : Rn (opIx (netD ws st) (.int 0)) S Q = Q (.dat (.tup (ws.map Wk.toD))) S := op_ix_t0
theorem looked_bad (l5 : ws.length ≤ 5) (hd : d ∈ oddL (ws.length : Nat)) (ho : (o.all fun o => D.imms o.parts) = true) {E : Exn → List D → Prop} (q : E ⟨"NoWorker", some [("worker", d)]⟩ o) : De d_looked_at [netD ws st, d] o E := by
  unfold d_looked_at b_looked_at
  refine de_run' (er_seq1 (er_if ?_))
  simp! [List.replicate, nt_0, List.length_map]
  refine index_no (by omega) hd ho ?_
  rw [if_safe rfl ho]
  simp!
  refine er_raise ?_
  simp!
  exact ⟨d, rfl, q⟩
theorem letters_bad (l5 : ws.length ≤ 5) (hd : d ∈ oddL (ws.length : Nat)) (ho : (o.all fun o => D.imms o.parts) = true) {E : Exn → List D → Prop} (q : E ⟨"NoWorker", some [("worker", d)]⟩ o) : De d_letters_of [netD ws st, d] o E := by
  unfold d_letters_of b_letters_of
  refine de_run' (er_ret (er_bind1 (er_call ?_)))
  simp! [List.replicate]
  exact looked_bad l5 hd ho q
theorem states_bad (l5 : ws.length ≤ 5) (hd : d ∈ oddL (ws.length : Nat)) (ho : (o.all fun o => D.imms o.parts) = true) {E : Exn → List D → Prop} (q : E ⟨"NoWorker", some [("worker", d)]⟩ o) : De d_states_of [netD ws st, d] o E := by
  unfold d_states_of b_states_of
  refine de_run' (er_ret (er_bind1 (er_bind1 (er_call ?_))))
  simp! [List.replicate]
  exact looked_bad l5 hd ho q
theorem letter_bad {e : D} (l5 : ws.length ≤ 5) (hd : d ∈ oddL (ws.length : Nat)) (ho : (o.all fun o => D.imms o.parts) = true) {E : Exn → List D → Prop} (q : E ⟨"NoWorker", some [("worker", d)]⟩ o) : De d_letter_at [netD ws st, d, e] o E := by
  unfold d_letter_at b_letter_at
  refine de_run' (er_seq1 (er_asg (er_bind1 (er_call ?_))))
  simp! [List.replicate]
  exact looked_bad l5 hd ho q
theorem code_bad {e : D} (l5 : ws.length ≤ 5) (hd : d ∈ oddL (ws.length : Nat)) (ho : (o.all fun o => D.imms o.parts) = true) {E : Exn → List D → Prop} (q : E ⟨"NoWorker", some [("worker", d)]⟩ o) : De d_code_at [netD ws st, d, e] o E := by
  unfold d_code_at b_code_at
  refine de_run' (er_seq1 (er_asg (er_bind1 (er_call ?_))))
  simp! [List.replicate]
  exact looked_bad l5 hd ho q
theorem wk_immO (w : Wk) : w.toD.imm = true := by simp [Wk.toD, D.imm, D.imms, tI, imms_ints, Cd.imms]
theorem letter_state {i : Nat} {w : Wk} (h : ws[i]? = some w) (l5 : w.sh.length ≤ 5) (hd : d ∈ oddL (w.sh.length : Nat)) (ho : (o.all fun o => D.imms o.parts) = true) {E : Exn → List D → Prop} (q : E ⟨"NoState", some [("state", d)]⟩ o) : De d_letter_at [netD ws st, .int (i : Nat), d] o E := by
  have wd : w.toD = D.tup [.int w.m, tI w.sh, .tup (Cd.toDs w.cs)] := rfl
  unfold d_letter_at b_letter_at
  refine de_run' (er_seq2 ?_)
  generalize hR : seqM (ifM _ _ _) _ = R
  simp! [List.replicate]
  refine looked_ok h ho ?_
  rw [if_safe (show (Res.dat w.toD).safe = true from wk_immO w) ho]
  simp! [wd]
  rw [← hR]
  refine er_seq1 (er_if ?_)
  simp! [len_tI]
  refine index_no (by omega) hd ho ?_
  rw [if_safe rfl ho]
  simp!
  refine er_raise ?_
  simp!
  exact ⟨d, rfl, q⟩
theorem code_state {i : Nat} {w : Wk} (h : ws[i]? = some w) (hl : w.cs.length = w.sh.length) (l5 : w.sh.length ≤ 5) (hd : d ∈ oddL (w.sh.length : Nat)) (ho : (o.all fun o => D.imms o.parts) = true) {E : Exn → List D → Prop} (q : E ⟨"NoState", some [("state", d)]⟩ o) : De d_code_at [netD ws st, .int (i : Nat), d] o E := by
  have wd : w.toD = D.tup [.int w.m, tI w.sh, .tup (Cd.toDs w.cs)] := rfl
  unfold d_code_at b_code_at
  refine de_run' (er_seq2 ?_)
  generalize hR : seqM (ifM _ _ _) _ = R
  simp! [List.replicate]
  refine looked_ok h ho ?_
  rw [if_safe (show (Res.dat w.toD).safe = true from wk_immO w) ho]
  simp! [wd]
  rw [← hR]
  refine er_seq1 (er_if ?_)
  simp! [toDs_len]
  rw [hl]
  refine index_no (by omega) hd ho ?_
  rw [if_safe rfl ho]
  simp!
  refine er_raise ?_
  simp!
  exact ⟨d, rfl, q⟩
theorem heard_worker {L : Den} (hs : d.still = true) {Q : Res → List D → Prop} (h : De L [] o fun x o' => x = ⟨"NoWorker", some [("worker", d)]⟩ ∧ Q (.dat (.tup [.str "no worker", d])) o') : Dr (runB 3 (b__law_net_reply 0 L)) [.opq (.ref 0)] o Q := by
  unfold b__law_net_reply
  rw [dr_run, rn_seq]
  refine rn_tryG2 (er_asg (er_act ?_))
  refine h.mono ?_
  rintro x o' ⟨rfl, q⟩
  refine tc_ret rfl (by simp [Exn.still, D.stills, hs]) ?_
  simp!
  refine ⟨small_le (by decide), _, rfl, ?_⟩
  exact q
theorem heard_state {L : Den} (hs : d.still = true) {Q : Res → List D → Prop} (h : De L [] o fun x o' => x = ⟨"NoState", some [("state", d)]⟩ ∧ Q (.dat (.tup [.str "no state", d])) o') : Dr (runB 3 (b__law_net_reply 0 L)) [.opq (.ref 0)] o Q := by
  unfold b__law_net_reply
  rw [dr_run, rn_seq]
  refine rn_tryG2 (er_asg (er_act ?_))
  refine h.mono ?_
  rintro x o' ⟨rfl, q⟩
  refine tc_skip rfl (tc_ret rfl (by simp [Exn.still, D.stills, hs]) ?_)
  simp!
  refine ⟨small_le (by decide), _, rfl, ?_⟩
  exact q
end
end LW
end
section
set_option maxRecDepth 100000
namespace LW
open PySem L2 LC
open DL hiding tI bag_all safe_b safe_bn take_call take_rn takeEnv take1 take_ok where_b st_b0 st_b1 aug_b2
local macro_rules | `(tactic| simp!) => `(tactic| simp -implicitDefEqProofs only [rn_bind, rn_pure, rn_no, rn_need, rn_opt1, rn_ite, rn_var, rn_put, rn_useD, rn_useN, rn_useO, rn_chkD, rn_chkN, rn_chkO, rn_call, rn_seq, rn_guard, rn_forIn, rn_for0, rn_setD, rn_setN, rn_setO, binM, binMO, unM, cmpT, testM, andT, orT, notT, ifM, asgM, retM, exprM, kM, consA, nilA, tupM, lstM, useAll, chkAll, slM, partM, DL.andM, DL.orM, DL.notM, negM, asgG, gN, gT, gsC, gsN, seqI, frzM, asgTM, dnewM, par2M, hold_d, hold_n, hold_o, d_d, d_n, d_o, out_d, out_n, out_o, fo_next, fo_ret, isBl_b, isInt_i, tr_i, tr_b, tr_n, tr_l, tr_t, it_l, it_r, it_t, li_l, li_r, op_add_i, op_add_l, op_add_t, op_sub_i, op_mul_i, op_mod_i, op_div_i, op_pow_i, op_lt_i, op_le_i, op_gt_i, op_ge_i, op_int_i, op_abs_i, op_len_l, op_len_t, op_len_r, op_tup_l, op_tup_t, op_lst_l, op_lst_t, op_max_i, op_eq_i, eq_go_go, eq_get_get, eq_go_get, eq_get_go, Bool.bne_false, Bool.bne_true, Bool.not_true, Bool.not_false, op_sl_l, op_sl_r, op_sl_t, op_ix_t0, op_ix_t1, op_ix_t2, op_ix_l0, List.getElem?_cons_zero, List.getElem?_cons_succ, List.set_cons_zero, List.set_cons_succ, List.map_cons, List.map_nil, List.length_cons, List.length_nil, List.cons_append, List.nil_append, if_true, if_false, Bool.false_eq_true, decide_eq_true_eq, and_true, true_and, ite_true, ite_false, reduceCtorEq, rn_methM, rn_methM0, isTM_eq, rn_mk, rn_st, mk_own, st_own, ty_own, ex_app, ex_ext, ex_extT, ex_rev, ex_pop, rn_storeM, rn_lc, rn_lc2, rn_turn, rn_turn1, rn_frz])
local macro_rules | `(tactic| simp! [$ls,*]) => `(tactic| simp -implicitDefEqProofs only [rn_bind, rn_pure, rn_no, rn_need, rn_opt1, rn_ite, rn_var, rn_put, rn_useD, rn_useN, rn_useO, rn_chkD, rn_chkN, rn_chkO, rn_call, rn_seq, rn_guard, rn_forIn, rn_for0, rn_setD, rn_setN, rn_setO, binM, binMO, unM, cmpT, testM, andT, orT, notT, ifM, asgM, retM, exprM, kM, consA, nilA, tupM, lstM, useAll, chkAll, slM, partM, DL.andM, DL.orM, DL.notM, negM, asgG, gN, gT, gsC, gsN, seqI, frzM, asgTM, dnewM, par2M, hold_d, hold_n, hold_o, d_d, d_n, d_o, out_d, out_n, out_o, fo_next, fo_ret, isBl_b, isInt_i, tr_i, tr_b, tr_n, tr_l, tr_t, it_l, it_r, it_t, li_l, li_r, op_add_i, op_add_l, op_add_t, op_sub_i, op_mul_i, op_mod_i, op_div_i, op_pow_i, op_lt_i, op_le_i, op_gt_i, op_ge_i, op_int_i, op_abs_i, op_len_l, op_len_t, op_len_r, op_tup_l, op_tup_t, op_lst_l, op_lst_t, op_max_i, op_eq_i, eq_go_go, eq_get_get, eq_go_get, eq_get_go, Bool.bne_false, Bool.bne_true, Bool.not_true, Bool.not_false, op_sl_l, op_sl_r, op_sl_t, op_ix_t0, op_ix_t1, op_ix_t2, op_ix_l0, List.getElem?_cons_zero, List.getElem?_cons_succ, List.set_cons_zero, List.set_cons_succ, List.map_cons, List.map_nil, List.length_cons, List.length_nil, List.cons_append, List.nil_append, if_true, if_false, Bool.false_eq_true, decide_eq_true_eq, and_true, true_and, ite_true, ite_false, reduceCtorEq, rn_methM, rn_methM0, isTM_eq, rn_mk, rn_st, mk_own, st_own, ty_own, ex_app, ex_ext, ex_extT, ex_rev, ex_pop, rn_storeM, rn_lc, rn_lc2, rn_turn, rn_turn1, rn_frz, $ls,*])
def rf1 : M Fl := (asgM 2 (callM 2 d__law_take (consA (varM 0) (consA (unM opLen (binM opIx (varM 1) (kM (.int 0)))) nilA))))
def rf2 : M Fl := (asgM 3 (unM opLen (binM opIx (binM opIx (binM opIx (varM 1) (kM (.int 0))) (varM 2)) (kM (.int 1)))))
def rf3 : M Fl := (asgG (tupM (consA (callM 2 d__law_no_index (consA (varM 0) (consA (unM opLen (binM opIx (varM 1) (kM (.int 0)))) nilA))) (consA (callM 2 d__law_no_index (consA (varM 0) (consA (varM 3) nilA))) nilA))) (gT 2 (gsC (gN 6) (gsC (gN 7) gsN))))
def rf4 : M Fl := (asgM 4 (callM 2 d__law_some (consA (varM 0) (consA (lstM (consA (callM 2 d__law_take (consA (varM 0) (consA (varM 3) nilA))) (consA (varM 7) nilA))) nilA))))
def rf5 : M Fl := (asgM 5 (tupM (consA (kM (.str "no worker")) (consA (varM 6) nilA))))
def rf6 : M Fl := (ifM (notT (testM (callM 2 d__law_alike (consA (lamM (fun f L => runB 3 (b__law_net_reply f L)) 0 lamP__law_net_refused "_law_net_refused.<locals>.<lambda>" [1, 6] (callM 2 d_letters_of (consA (varM 1) (consA (varM 6) nilA)))) (consA (varM 5) nilA))))) (retM (kM (.bl false))) (pure .next))
def rf7 : M Fl := (ifM (notT (testM (callM 2 d__law_alike (consA (lamM (fun f L => runB 3 (b__law_net_reply f L)) 0 lamP__law_net_refused "_law_net_refused.<locals>.<lambda>" [1, 6] (callM 2 d_states_of (consA (varM 1) (consA (varM 6) nilA)))) (consA (varM 5) nilA))))) (retM (kM (.bl false))) (pure .next))
def rf8 : M Fl := (ifM (notT (testM (callM 2 d__law_alike (consA (lamM (fun f L => runB 3 (b__law_net_reply f L)) 0 lamP__law_net_refused "_law_net_refused.<locals>.<lambda>" [1, 4, 6] (callM 3 d_letter_at (consA (varM 1) (consA (varM 6) (consA (varM 4) nilA))))) (consA (varM 5) nilA))))) (retM (kM (.bl false))) (pure .next))
def rf9 : M Fl := (ifM (notT (testM (callM 2 d__law_alike (consA (lamM (fun f L => runB 3 (b__law_net_reply f L)) 0 lamP__law_net_refused "_law_net_refused.<locals>.<lambda>" [1, 4, 6] (callM 3 d_code_at (consA (varM 1) (consA (varM 6) (consA (varM 4) nilA))))) (consA (varM 5) nilA))))) (retM (kM (.bl false))) (pure .next))
def rf10 : M Fl := (ifM (notT (testM (callM 2 d__law_alike (consA (lamM (fun f L => runB 3 (b__law_net_reply f L)) 0 lamP__law_net_refused "_law_net_refused.<locals>.<lambda>" [1, 2, 7] (callM 3 d_letter_at (consA (varM 1) (consA (varM 2) (consA (varM 7) nilA))))) (consA (tupM (consA (kM (.str "no state")) (consA (varM 7) nilA))) nilA))))) (retM (kM (.bl false))) (pure .next))
def rf11 : M Fl := (retM (callM 2 d__law_alike (consA (lamM (fun f L => runB 3 (b__law_net_reply f L)) 0 lamP__law_net_refused "_law_net_refused.<locals>.<lambda>" [1, 2, 7] (callM 3 d_code_at (consA (varM 1) (consA (varM 2) (consA (varM 7) nilA))))) (consA (tupM (consA (kM (.str "no state")) (consA (varM 7) nilA))) nilA))))
theorem rf_eq : b__law_net_refused = seqM rf1 (seqM rf2 (seqM rf3 (seqM rf4 (seqM rf5 (seqM rf6 (seqM rf7 (seqM rf8 (seqM rf9 (seqM rf10 (rf11)))))))))) := rfl
section
variable {o : List D} {x : Bag} {ws : List Wk} {st : List Int} {n : Nat} {d e b : D} {s0 s1 s2 s3 s4 s5 s6 s7 : Slot} {P : Fl → Sx → Prop}
theorem alike_x {d : D} {b w : Nat} {o : List D} (h : NX d b w) (hb : b ≤ 40) (hw : w ≤ 300000) (row : d.rowOf.isSome = true) {Q : Res → List D → Prop} (q : Q (.dat (.bl true)) o) : Dr d__law_alike [d, d] o Q := alikeX_odd h hb hw row q
theorem alike_n {d : D} {b w : Nat} {o : List D} (h : Nc d b w) (hb : b ≤ 64) (hw : w ≤ 1048576) {Q : Res → List D → Prop} (q : Q (.dat (.bl true)) o) : Dr d__law_alike [d, d] o Q := alikeX_nc h hb hw q
theorem pair_nx {s : Str} (h1 : PyData.strOk s = true) (h2 : PyData.strOk (reprText s) = true) (h3 : s.cps.size ≤ 20) (hd : NX d 3 250) : NX (.tup [.str s, d]) 4 300 :=
  (nx_tup (nxs_cons (nx_str h1 h2 h3) (nxs_cons hd (nxs_nil (w := 0))))).mono (Nat.le_refl _) (by decide)
theorem worker_nx (hd : NX d 3 250) : NX (.tup [.str "no worker", d]) 4 300 := pair_nx (by decide +kernel) (by decide +kernel) (by decide +kernel) hd
theorem state_nx (hd : NX d 3 250) : NX (.tup [.str "no state", d]) 4 300 := pair_nx (by decide +kernel) (by decide +kernel) (by decide +kernel) hd
theorem rf6_ok (l5 : ws.length ≤ 5) (hd : d ∈ oddL (ws.length : Nat)) (q : P (.next) ⟨[s0, .dat (netD ws st), s2, s3, s4, .dat (.tup [.str "no worker", d]), .dat d, s7], [TB, bagD x]⟩) : Rn rf6 ⟨[s0, .dat (netD ws st), s2, s3, s4, .dat (.tup [.str "no worker", d]), .dat d, s7], [TB, bagD x]⟩ P := by
  unfold rf6
  generalize hM : lamM _ _ _ _ _ _ = M
  simp!
  rw [← hM]
  refine rn_lamM (by show stillE [.un, .dat (netD ws st), .un, .un, .un, .un, .dat d, .un] = true; simp [stillE, still_net, D.still, odd_still hd]) rfl ?_
  refine heard_worker (odd_still hd) (de_lamD ?_)
  show Er _ ⟨[.un, .dat (netD ws st), .un, .un, .un, .un, .dat d, .un], _⟩ _
  refine er_call ?_
  simp!
  refine letters_bad l5 hd (bag_all x) ⟨rfl, ?_⟩
  show Dr d__law_alike _ [TB, bagD x] _
  refine alike_x (worker_nx (odd_nx (by omega) hd)) (by decide) (by decide) rfl ?_
  rw [safe_b rfl]
  simp!
  exact q
theorem rf7_ok (l5 : ws.length ≤ 5) (hd : d ∈ oddL (ws.length : Nat)) (q : P (.next) ⟨[s0, .dat (netD ws st), s2, s3, s4, .dat (.tup [.str "no worker", d]), .dat d, s7], [TB, bagD x]⟩) : Rn rf7 ⟨[s0, .dat (netD ws st), s2, s3, s4, .dat (.tup [.str "no worker", d]), .dat d, s7], [TB, bagD x]⟩ P := by
  unfold rf7
  generalize hM : lamM _ _ _ _ _ _ = M
  simp!
  rw [← hM]
  refine rn_lamM (by show stillE [.un, .dat (netD ws st), .un, .un, .un, .un, .dat d, .un] = true; simp [stillE, still_net, D.still, odd_still hd]) rfl ?_
  refine heard_worker (odd_still hd) (de_lamD ?_)
  show Er _ ⟨[.un, .dat (netD ws st), .un, .un, .un, .un, .dat d, .un], _⟩ _
  refine er_call ?_
  simp!
  refine states_bad l5 hd (bag_all x) ⟨rfl, ?_⟩
  show Dr d__law_alike _ [TB, bagD x] _
  refine alike_x (worker_nx (odd_nx (by omega) hd)) (by decide) (by decide) rfl ?_
  rw [safe_b rfl]
  simp!
  exact q
theorem rf8_ok (l5 : ws.length ≤ 5) (hd : d ∈ oddL (ws.length : Nat)) (hs : e.still = true) (q : P (.next) ⟨[s0, .dat (netD ws st), s2, s3, .dat e, .dat (.tup [.str "no worker", d]), .dat d, s7], [TB, bagD x]⟩) : Rn rf8 ⟨[s0, .dat (netD ws st), s2, s3, .dat e, .dat (.tup [.str "no worker", d]), .dat d, s7], [TB, bagD x]⟩ P := by
  unfold rf8
  generalize hM : lamM _ _ _ _ _ _ = M
  simp!
  rw [← hM]
  refine rn_lamM (by show stillE [.un, .dat (netD ws st), .un, .un, .dat e, .un, .dat d, .un] = true; simp [stillE, still_net, D.still, odd_still hd, hs]) rfl ?_
  refine heard_worker (odd_still hd) (de_lamD ?_)
  show Er _ ⟨[.un, .dat (netD ws st), .un, .un, .dat e, .un, .dat d, .un], _⟩ _
  refine er_call ?_
  simp!
  refine letter_bad l5 hd (bag_all x) ⟨rfl, ?_⟩
  show Dr d__law_alike _ [TB, bagD x] _
  refine alike_x (worker_nx (odd_nx (by omega) hd)) (by decide) (by decide) rfl ?_
  rw [safe_b rfl]
  simp!
  exact q
theorem rf9_ok (l5 : ws.length ≤ 5) (hd : d ∈ oddL (ws.length : Nat)) (hs : e.still = true) (q : P (.next) ⟨[s0, .dat (netD ws st), s2, s3, .dat e, .dat (.tup [.str "no worker", d]), .dat d, s7], [TB, bagD x]⟩) : Rn rf9 ⟨[s0, .dat (netD ws st), s2, s3, .dat e, .dat (.tup [.str "no worker", d]), .dat d, s7], [TB, bagD x]⟩ P := by
  unfold rf9
  generalize hM : lamM _ _ _ _ _ _ = M
  simp!
  rw [← hM]
  refine rn_lamM (by show stillE [.un, .dat (netD ws st), .un, .un, .dat e, .un, .dat d, .un] = true; simp [stillE, still_net, D.still, odd_still hd, hs]) rfl ?_
  refine heard_worker (odd_still hd) (de_lamD ?_)
  show Er _ ⟨[.un, .dat (netD ws st), .un, .un, .dat e, .un, .dat d, .un], _⟩ _
  refine er_call ?_
  simp!
  refine code_bad l5 hd (bag_all x) ⟨rfl, ?_⟩
  show Dr d__law_alike _ [TB, bagD x] _
  refine alike_x (worker_nx (odd_nx (by omega) hd)) (by decide) (by decide) rfl ?_
  rw [safe_b rfl]
  simp!
  exact q
theorem rf10_ok {i : Nat} {w : Wk} (hi : ws[i]? = some w) (hw : w.cs.length = w.sh.length) (l5 : w.sh.length ≤ 5) (hd : d ∈ oddL (w.sh.length : Nat)) (q : P (.next) ⟨[s0, .dat (netD ws st), .dat (.int (i : Nat)), s3, s4, s5, s6, .dat d], [TB, bagD x]⟩) : Rn rf10 ⟨[s0, .dat (netD ws st), .dat (.int (i : Nat)), s3, s4, s5, s6, .dat d], [TB, bagD x]⟩ P := by
  unfold rf10
  generalize hM : lamM _ _ _ _ _ _ = M
  simp!
  rw [← hM]
  refine rn_lamM (by show stillE [.un, .dat (netD ws st), .dat (.int (i : Nat)), .un, .un, .un, .un, .dat d] = true; simp [stillE, still_net, D.still, odd_still hd]) rfl ?_
  refine heard_state (odd_still hd) (de_lamD ?_)
  show Er _ ⟨[.un, .dat (netD ws st), .dat (.int (i : Nat)), .un, .un, .un, .un, .dat d], _⟩ _
  refine er_call ?_
  simp!
  refine letter_state hi l5 hd (bag_all x) ⟨rfl, ?_⟩
  simp!
  refine ⟨small_le (by decide), ?_⟩
  show Dr d__law_alike _ [TB, bagD x] _
  refine alike_x (state_nx (odd_nx (by omega) hd)) (by decide) (by decide) rfl ?_
  simp!
  exact q
theorem rf11_ok {i : Nat} {w : Wk} (hi : ws[i]? = some w) (hw : w.cs.length = w.sh.length) (l5 : w.sh.length ≤ 5) (hd : d ∈ oddL (w.sh.length : Nat)) (q : P (.ret (.dat (.bl true))) ⟨[s0, .dat (netD ws st), .dat (.int (i : Nat)), s3, s4, s5, s6, .dat d], [TB, bagD x]⟩) : Rn rf11 ⟨[s0, .dat (netD ws st), .dat (.int (i : Nat)), s3, s4, s5, s6, .dat d], [TB, bagD x]⟩ P := by
  unfold rf11
  generalize hM : lamM _ _ _ _ _ _ = M
  simp!
  rw [← hM]
  refine rn_lamM (by show stillE [.un, .dat (netD ws st), .dat (.int (i : Nat)), .un, .un, .un, .un, .dat d] = true; simp [stillE, still_net, D.still, odd_still hd]) rfl ?_
  refine heard_state (odd_still hd) (de_lamD ?_)
  show Er _ ⟨[.un, .dat (netD ws st), .dat (.int (i : Nat)), .un, .un, .un, .un, .dat d], _⟩ _
  refine er_call ?_
  simp!
  refine code_state hi hw l5 hd (bag_all x) ⟨rfl, ?_⟩
  simp!
  refine ⟨small_le (by decide), ?_⟩
  show Dr d__law_alike _ [TB, bagD x] _
  refine alike_x (state_nx (odd_nx (by omega) hd)) (by decide) (by decide) rfl ?_
  exact q
theorem net_refused_ok (hx : BOk x) (hn : NetOk ws) {Q : Res → List D → Prop} (q : ∀ y, BOk y → Q (.dat (.bl true)) [TB, bagD y]) : Dr d__law_net_refused [.obj 1, netD ws st] [TB, bagD x] Q := by
  have l1 := hn.l1
  have l5 := hn.l5
  unfold d__law_net_refused
  rw [dr_run, rf_eq, rn_seq]
  generalize hR : seqM rf2 _ = R
  unfold rf1
  simp! [List.replicate, nt_0, List.length_map]
  refine lt_call hx (by omega) (by omega) fun k x1 k0 k1 hx1 => ?_
  rw [safe_b rfl]
  obtain ⟨i, rfl⟩ := toNat_int k0
  have hi : ws[i]? = some (ws[i]'(by omega)) := List.getElem?_eq_getElem (by omega)
  have wk := hn.ok _ (List.getElem_mem (show i < ws.length by omega))
  generalize ws[i]'(by omega) = w at hi wk
  have s1 := wk.s1
  have s5 := wk.s5
  simp!
  rw [← hR, rn_seq]
  generalize hR : seqM rf3 _ = R
  unfold rf2
  have wd : w.toD = D.tup [.int w.m, tI w.sh, .tup (Cd.toDs w.cs)] := rfl
  simp! [nt_0, ix_wk hi, wd, len_tI]
  rw [← hR, rn_seq]
  generalize hR : seqM rf4 _ = R
  unfold rf3
  simp! [nt_0, List.length_map]
  refine lnoidx_ok hx1 fun d hd x2 hx2 => ?_
  rw [safe_b (odd_imm hd)]
  simp!
  refine lnoidx_ok hx2 fun b hb x3 hx3 => ?_
  rw [safe_b (odd_imm hb)]
  simp!
  refine ⟨small_le (by decide), ?_⟩
  rw [← hR, rn_seq]
  generalize hR : seqM rf5 _ = R
  unfold rf4
  simp!
  refine lt_call hx3 (by omega) (by omega) fun v x4 v0 v1 hx4 => ?_
  rw [safe_b rfl]
  simp!
  refine ⟨small_le (by decide), ?_⟩
  refine osome_ok (by simp) (by simp) hx4 fun e he x5 hx5 => ?_
  have hs : e.still = true ∧ e.imm = true := by
    simp only [List.mem_cons, List.not_mem_nil, or_false] at he
    rcases he with rfl | rfl
    · exact ⟨rfl, rfl⟩
    · exact ⟨odd_still hb, odd_imm hb⟩
  rw [safe_b hs.2]
  simp!
  rw [← hR, rn_seq]
  generalize hR : seqM rf6 _ = R
  unfold rf5
  simp!
  refine ⟨small_le (by decide), ?_⟩
  rw [← hR, rn_seq]
  refine rf6_ok l5 hd ?_
  simp only
  rw [rn_seq]
  refine rf7_ok l5 hd ?_
  simp only
  rw [rn_seq]
  refine rf8_ok l5 hd hs.1 ?_
  simp only
  rw [rn_seq]
  refine rf9_ok l5 hd hs.1 ?_
  simp only
  rw [rn_seq]
  refine rf10_ok hi wk.cl s5 hb ?_
  simp only
  refine rf11_ok hi wk.cl s5 hb ?_
  exact q x5 hx5
end
end LW
end
section
set_option maxRecDepth 100000
namespace LW
open PySem L2 LC
open DL hiding tI bag_all safe_b safe_bn take_call take_rn takeEnv take1 take_ok where_b st_b0 st_b1 aug_b2
local macro_rules | `(tactic| simp!) => `(tactic| simp -implicitDefEqProofs only [rn_bind, rn_pure, rn_no, rn_need, rn_opt1, rn_ite, rn_var, rn_put, rn_useD, rn_useN, rn_useO, rn_chkD, rn_chkN, rn_chkO, rn_call, rn_seq, rn_guard, rn_forIn, rn_for0, rn_setD, rn_setN, rn_setO, binM, binMO, unM, cmpT, testM, andT, orT, notT, ifM, asgM, retM, exprM, kM, consA, nilA, tupM, lstM, useAll, chkAll, slM, partM, DL.andM, DL.orM, DL.notM, negM, asgG, gN, gT, gsC, gsN, seqI, frzM, asgTM, dnewM, par2M, hold_d, hold_n, hold_o, d_d, d_n, d_o, out_d, out_n, out_o, fo_next, fo_ret, isBl_b, isInt_i, tr_i, tr_b, tr_n, tr_l, tr_t, it_l, it_r, it_t, li_l, li_r, op_add_i, op_add_l, op_add_t, op_sub_i, op_mul_i, op_mod_i, op_div_i, op_pow_i, op_lt_i, op_le_i, op_gt_i, op_ge_i, op_int_i, op_abs_i, op_len_l, op_len_t, op_len_r, op_tup_l, op_tup_t, op_lst_l, op_lst_t, op_max_i, op_eq_i, eq_go_go, eq_get_get, eq_go_get, eq_get_go, Bool.bne_false, Bool.bne_true, Bool.not_true, Bool.not_false, op_sl_l, op_sl_r, op_sl_t, op_ix_t0, op_ix_t1, op_ix_t2, op_ix_l0, List.getElem?_cons_zero, List.getElem?_cons_succ, List.set_cons_zero, List.set_cons_succ, List.map_cons, List.map_nil, List.length_cons, List.length_nil, List.cons_append, List.nil_append, if_true, if_false, Bool.false_eq_true, decide_eq_true_eq, and_true, true_and, ite_true, ite_false, reduceCtorEq, rn_methM, rn_methM0, isTM_eq, rn_mk, rn_st, mk_own, st_own, ty_own, ex_app, ex_ext, ex_extT, ex_rev, ex_pop, rn_storeM, rn_lc, rn_lc2, rn_turn, rn_turn1, rn_frz])
local macro_rules | `(tactic| simp! [$ls,*]) => `(tactic| simp -implicitDefEqProofs only [rn_bind, rn_pure, rn_no, rn_need, rn_opt1, rn_ite, rn_var, rn_put, rn_useD, rn_useN, rn_useO, rn_chkD, rn_chkN, rn_chkO, rn_call, rn_seq, rn_guard, rn_forIn, rn_for0, rn_setD, rn_setN, rn_setO, binM, binMO, unM, cmpT, testM, andT, orT, notT, ifM, asgM, retM, exprM, kM, consA, nilA, tupM, lstM, useAll, chkAll, slM, partM, DL.andM, DL.orM, DL.notM, negM, asgG, gN, gT, gsC, gsN, seqI, frzM, asgTM, dnewM, par2M, hold_d, hold_n, hold_o, d_d, d_n, d_o, out_d, out_n, out_o, fo_next, fo_ret, isBl_b, isInt_i, tr_i, tr_b, tr_n, tr_l, tr_t, it_l, it_r, it_t, li_l, li_r, op_add_i, op_add_l, op_add_t, op_sub_i, op_mul_i, op_mod_i, op_div_i, op_pow_i, op_lt_i, op_le_i, op_gt_i, op_ge_i, op_int_i, op_abs_i, op_len_l, op_len_t, op_len_r, op_tup_l, op_tup_t, op_lst_l, op_lst_t, op_max_i, op_eq_i, eq_go_go, eq_get_get, eq_go_get, eq_get_go, Bool.bne_false, Bool.bne_true, Bool.not_true, Bool.not_false, op_sl_l, op_sl_r, op_sl_t, op_ix_t0, op_ix_t1, op_ix_t2, op_ix_l0, List.getElem?_cons_zero, List.getElem?_cons_succ, List.set_cons_zero, List.set_cons_succ, List.map_cons, List.map_nil, List.length_cons, List.length_nil, List.cons_append, List.nil_append, if_true, if_false, Bool.false_eq_true, decide_eq_true_eq, and_true, true_and, ite_true, ite_false, reduceCtorEq, rn_methM, rn_methM0, isTM_eq, rn_mk, rn_st, mk_own, st_own, ty_own, ex_app, ex_ext, ex_extT, ex_rev, ex_pop, rn_storeM, rn_lc, rn_lc2, rn_turn, rn_turn1, rn_frz, $ls,*])
def tn1 : M Fl := (asgM 1 (binM opIx (varM 0) (kM (.int 0))))
def tn2 : M Fl := (ifM (notT (testM (callM 2 d__law_alike (consA (callM 1 d_all_states (consA (varM 0) nilA)) (consA (unM opTuple (lcM (seqI (varM 1)) [3] (turnM (gN 3) (pure true) (unM opTupRg (unM opLen (binM opIx (varM 3) (kM (.int 1)))))))) nilA))))) (retM (kM (.bl false))) (pure .next))
def tn3 : M Fl := (ifM (notT (testM (callM 2 d__law_alike (consA (callM 1 d_all_lots (consA (varM 0) nilA)) (consA (unM opTuple (lcM (seqI (varM 1)) [3] (turnM (gN 3) (pure true) (unM opTupRg (binM opIx (varM 3) (kM (.int 0))))))) nilA))))) (retM (kM (.bl false))) (pure .next))
def tn4 : M Fl := (forIn (enumI (varM 1)) (gT 2 (gsC (gN 2) (gsC (gN 3) gsN))) (seqM (ifM (notT (testM (callM 2 d__law_alike (consA (lstM (consA (callM 2 d_letters_of (consA (varM 0) (consA (varM 2) nilA))) (consA (callM 2 d_states_of (consA (varM 0) (consA (varM 2) nilA))) nilA))) (consA (lstM (consA (binM opIx (varM 3) (kM (.int 0))) (consA (unM opLen (binM opIx (varM 3) (kM (.int 1)))) nilA))) nilA))))) (retM (kM (.bl false))) (pure .next))
  (forIn (rng1I (unM opLen (binM opIx (varM 3) (kM (.int 1))))) (gN 4) (seqM (ifM (notT (testM (callM 2 d__law_alike (consA (callM 3 d_letter_at (consA (varM 0) (consA (varM 2) (consA (varM 4) nilA)))) (consA (binM opIx (binM opIx (varM 3) (kM (.int 1))) (varM 4)) nilA))))) (retM (kM (.bl false))) (pure .next))
  (ifM (notT (testM (callM 2 d__law_alike (consA (callM 3 d_code_at (consA (varM 0) (consA (varM 2) (consA (varM 4) nilA)))) (consA (binM opIx (binM opIx (varM 3) (kM (.int 2))) (varM 4)) nilA))))) (retM (kM (.bl false))) (pure .next))))))
def tn5 : M Fl := (retM (kM (.bl true)))
theorem tn_eq : b__law_net_told = seqM tn1 (seqM tn2 (seqM tn3 (seqM tn4 (tn5)))) := rfl
def tff1a : M Fl := (retM (kM (.bl false)))
def tff1b : M Fl := (pure .next)
def tff1 : M Fl := ifM (notT (testM (callM 2 d__law_alike (consA (lstM (consA (callM 2 d_letters_of (consA (varM 0) (consA (varM 2) nilA))) (consA (callM 2 d_states_of (consA (varM 0) (consA (varM 2) nilA))) nilA))) (consA (lstM (consA (binM opIx (varM 3) (kM (.int 0))) (consA (unM opLen (binM opIx (varM 3) (kM (.int 1)))) nilA))) nilA))))) tff1a tff1b
def tff2f1a : M Fl := (retM (kM (.bl false)))
def tff2f1b : M Fl := (pure .next)
def tff2f1 : M Fl := ifM (notT (testM (callM 2 d__law_alike (consA (callM 3 d_letter_at (consA (varM 0) (consA (varM 2) (consA (varM 4) nilA)))) (consA (binM opIx (binM opIx (varM 3) (kM (.int 1))) (varM 4)) nilA))))) tff2f1a tff2f1b
def tff2f2a : M Fl := (retM (kM (.bl false)))
def tff2f2b : M Fl := (pure .next)
def tff2f2 : M Fl := ifM (notT (testM (callM 2 d__law_alike (consA (callM 3 d_code_at (consA (varM 0) (consA (varM 2) (consA (varM 4) nilA)))) (consA (binM opIx (binM opIx (varM 3) (kM (.int 2))) (varM 4)) nilA))))) tff2f2a tff2f2b
def tff2f : M Fl := seqM tff2f1 (tff2f2)
def tff2 : M Fl := DL.forIn (rng1I (unM opLen (binM opIx (varM 3) (kM (.int 1))))) (gN 4) tff2f
def tff : M Fl := seqM tff1 (tff2)
def tf : M Fl := DL.forIn (enumI (varM 1)) (gT 2 (gsC (gN 2) (gsC (gN 3) gsN))) tff
theorem tf_eq : tn4 = tf := rfl
section
variable {o : List D} {x : Bag} {ws : List Wk} {st : List Int} {n i s : Nat} {w : Wk} {s0 s1 s2 s3 s4 s5 s6 s7 s8 s9 s10 s11 : Slot} {P : Fl → Sx → Prop}
theorem tupRgN {n : Nat} (h : n ≤ 1000) {S : Sx} {Q : Res → Sx → Prop} : Rn (opTupRg (.int (n : Nat))) S Q = Q (.dat (tI (uI (List.range n)))) S := by
  unfold opTupRg
  rw [rn_need, decide_eq_true (by omega), show (n : Int).toNat = n from by omega, rng_uI]
  simp only [true_and]
  rfl
theorem enum_zipN {α : Type} {f : α → D} : ∀ (xs : List α) (k : Nat), enumD k (xs.map f) = (xs.zipIdx k).map fun p => D.tup [.int (p.2 : Nat), f p.1]
  | [], _ => rfl
  | x :: xs, k => by
    rw [List.map_cons, enumD, List.zipIdx_cons, List.map_cons, ← enum_zipN xs (k + 1)]
theorem nc_boxN {x : List (List Int)} (h : x.length ≤ 5 ∧ ∀ e ∈ x, e.length ≤ 5 ∧ ∀ k ∈ e, 0 ≤ k ∧ k < 1000) : Nc (lotsD x) 3 530 := by
  have one : ∀ d ∈ x.map tI, Nc d 2 105 := fun d hd => by
    obtain ⟨e, he, rfl⟩ := List.mem_map.mp hd
    obtain ⟨e5, ek⟩ := h.2 e he
    exact (nc_tup (nc_ints (b := 1) ek)).mono (Nat.le_refl _) (by omega)
  have := nc_tup (ncs_all one)
  exact this.mono (Nat.le_refl _) (by rw [List.length_map]; omega)
def fsB (ws : List Wk) : List (List Int) := ws.map fun w => uI (List.range w.sh.length)
def flB (ws : List Wk) : List (List Int) := ws.map fun w => uI (List.range w.m.toNat)
theorem rng_few {n : Nat} (h : n ≤ 5) : (uI (List.range n)).length ≤ 5 ∧ ∀ k ∈ uI (List.range n), 0 ≤ k ∧ k < 1000 := by
  refine ⟨by simp [uI, h], fun k hk => ?_⟩
  obtain ⟨i, hi, rfl⟩ := List.mem_map.mp hk
  have := List.mem_range.mp hi
  omega
theorem fs_nc (hn : NetOk ws) : Nc (lotsD (fsB ws)) 3 530 := nc_boxN ⟨by simp [fsB]; exact hn.l5, fun e he => by
  obtain ⟨w, hw, rfl⟩ := List.mem_map.mp he
  exact rng_few (hn.ok w hw).s5⟩
theorem fl_nc (hn : NetOk ws) : Nc (lotsD (flB ws)) 3 530 := nc_boxN ⟨by simp [flB]; exact hn.l5, fun e he => by
  obtain ⟨w, hw, rfl⟩ := List.mem_map.mp he
  have := (hn.ok w hw).m4
  exact rng_few (by omega)⟩
theorem all_states_ok (hn : NetOk ws) (ho : (o.all fun o => D.imms o.parts) = true) {Q : Res → List D → Prop} (q : Q (.dat (lotsD (fsB ws))) o) : Dr d_all_states [netD ws st] o Q := by
  have l5 := hn.l5
  unfold d_all_states b_all_states
  rw [dr_run]
  generalize hT : turnM _ _ _ = T
  simp! [List.replicate, nt_0]
  refine cw_ofM (f := Wk.toD) (g := fun w => tI (uI (List.range w.sh.length))) (small_le (by omega)) (fun w hw => ?_) ?_
  · have s5 := (hn.ok w hw).s5
    have wd : w.toD = D.tup [.int w.m, tI w.sh, .tup (Cd.toDs w.cs)] := rfl
    rw [← hT]
    simp! [wipeE, Slot.frz, List.map_cons, wd, len_tI]
    rw [tupRgN (by omega)]
    exact ⟨rfl, rfl⟩
  · rw [show (ws.map fun w => tI (uI (List.range w.sh.length))) = (fsB ws).map tI by unfold fsB; rw [List.map_map]; rfl, if_imms (imms_tI _) ho]
    exact q
theorem all_lots_ok (hn : NetOk ws) (ho : (o.all fun o => D.imms o.parts) = true) {Q : Res → List D → Prop} (q : Q (.dat (lotsD (flB ws))) o) : Dr d_all_lots [netD ws st] o Q := by
  have l5 := hn.l5
  unfold d_all_lots b_all_lots
  rw [dr_run]
  generalize hT : turnM _ _ _ = T
  simp! [List.replicate, nt_0]
  refine cw_ofM (f := Wk.toD) (g := fun w => tI (uI (List.range w.m.toNat))) (small_le (by omega)) (fun w hw => ?_) ?_
  · have m1 := (hn.ok w hw).m1
    have m4 := (hn.ok w hw).m4
    have wd : w.toD = D.tup [.int w.m, tI w.sh, .tup (Cd.toDs w.cs)] := rfl
    rw [← hT]
    simp! [wipeE, Slot.frz, List.map_cons, wd]
    obtain ⟨m, hm⟩ := Int.eq_ofNat_of_zero_le (show 0 ≤ w.m by omega)
    rw [hm, Int.toNat_natCast, tupRgN (by omega)]
    exact ⟨rfl, rfl⟩
  · rw [show (ws.map fun w => tI (uI (List.range w.m.toNat))) = (flB ws).map tI by unfold flB; rw [List.map_map]; rfl, if_imms (imms_tI _) ho]
    exact q
theorem letters_ok (h : ws[i]? = some w) (ho : (o.all fun o => D.imms o.parts) = true) {Q : Res → List D → Prop} (q : Q (.dat (.int w.m)) o) : Dr d_letters_of [netD ws st, .int (i : Nat)] o Q := by
  have wd : w.toD = D.tup [.int w.m, tI w.sh, .tup (Cd.toDs w.cs)] := rfl
  unfold d_letters_of b_letters_of
  rw [dr_run]
  simp! [List.replicate]
  refine looked_ok h ho ?_
  rw [if_safe (show (Res.dat w.toD).safe = true from wk_immO w) ho]
  simp! [wd]
  exact q
theorem states_ok (h : ws[i]? = some w) (ho : (o.all fun o => D.imms o.parts) = true) {Q : Res → List D → Prop} (q : Q (.dat (.int (w.sh.length : Nat))) o) : Dr d_states_of [netD ws st, .int (i : Nat)] o Q := by
  have wd : w.toD = D.tup [.int w.m, tI w.sh, .tup (Cd.toDs w.cs)] := rfl
  unfold d_states_of b_states_of
  rw [dr_run]
  simp! [List.replicate]
  refine looked_ok h ho ?_
  rw [if_safe (show (Res.dat w.toD).safe = true from wk_immO w) ho]
  simp! [wd, len_tI]
  exact q
theorem letter_ok {l : Int} (h : ws[i]? = some w) (hs : w.sh[s]? = some l) (ho : (o.all fun o => D.imms o.parts) = true) {Q : Res → List D → Prop} (q : Q (.dat (.int l)) o) : Dr d_letter_at [netD ws st, .int (i : Nat), .int (s : Nat)] o Q := by
  have wd : w.toD = D.tup [.int w.m, tI w.sh, .tup (Cd.toDs w.cs)] := rfl
  have il : ∀ {S : Sx} {Q : Res → Sx → Prop}, Rn (opIx (tI w.sh) (.int (s : Nat))) S Q = Q (.dat (.int l)) S := fun {S Q} => op_ix_tn (k := s) (by rw [List.getElem?_map, hs]; rfl)
  unfold d_letter_at b_letter_at
  rw [dr_run]
  simp! [List.replicate]
  refine looked_ok h ho ?_
  rw [if_safe (show (Res.dat w.toD).safe = true from wk_immO w) ho]
  simp! [wd, len_tI]
  refine index_ok (List.getElem?_eq_some_iff.mp hs).1 ho ?_
  rw [if_safe rfl ho]
  simp! [il]
  exact q
theorem tfs_ok (hn : NetOk ws) (h : ws[i]? = some w) (hs : s < w.sh.length) (bg : Bag) (q : P .next ⟨[.dat (netD ws st), s1, .dat (.int (i : Nat)), .dat w.toD, .dat (.int (s : Nat))], [TB, bagD bg]⟩) : Rn tff2f ⟨[.dat (netD ws st), s1, .dat (.int (i : Nat)), .dat w.toD, .dat (.int (s : Nat))], [TB, bagD bg]⟩ P := by
  have wk := hn.ok w (List.mem_of_getElem? h)
  have hl := List.getElem?_eq_getElem hs
  have lb := wk.sh _ (List.getElem_mem hs)
  have m4 := wk.m4
  generalize w.sh[s] = l at hl lb
  have hc := List.getElem?_eq_getElem (show s < w.cs.length by rw [wk.cl]; exact hs)
  have cb := (wk.cs _ (List.getElem_mem (show s < w.cs.length by rw [wk.cl]; exact hs))).1
  generalize w.cs[s]'(by rw [wk.cl]; exact hs) = c at hc cb
  have wd : w.toD = D.tup [.int w.m, tI w.sh, .tup (Cd.toDs w.cs)] := rfl
  have il : ∀ {S : Sx} {Q : Res → Sx → Prop}, Rn (opIx (tI w.sh) (.int (s : Nat))) S Q = Q (.dat (.int l)) S := fun {S Q} => op_ix_tn (k := s) (by rw [List.getElem?_map, hl]; rfl)
  unfold tff2f
  rw [rn_seq]
  generalize hR : tff2f2 = R
  unfold tff2f1 tff2f1b
  simp!
  refine letter_ok h hl (bag_all bg) ?_
  try rw [safe_b rfl]
  simp! [wd, il]
  refine alike_n (nc_int (b := 0) (i := l) (by omega)) (by decide) (by decide) ?_
  try rw [safe_b rfl]
  simp!
  rw [← hR]
  unfold tff2f2 tff2f2b
  simp!
  rw [← wd]
  refine code_ok h hc (bag_all bg) ?_
  rw [safe_b (Cd.imm c)]
  simp! [wd, ix_ds hc]
  refine alike_n (nc_cd hn.many 3 c cb) (by decide) (by decide) ?_
  try rw [safe_b rfl]
  simp!
  exact q
theorem tfw_ok (hn : NetOk ws) (h : ws[i]? = some w) (bg : Bag) (q : ∀ t4, P .next ⟨[.dat (netD ws st), s1, .dat (.int (i : Nat)), .dat w.toD, t4], [TB, bagD bg]⟩) : Rn tff ⟨[.dat (netD ws st), s1, .dat (.int (i : Nat)), .dat w.toD, s4], [TB, bagD bg]⟩ P := by
  have wk := hn.ok w (List.mem_of_getElem? h)
  have s5 := wk.s5
  have wd : w.toD = D.tup [.int w.m, tI w.sh, .tup (Cd.toDs w.cs)] := rfl
  unfold tff
  rw [rn_seq]
  generalize hR : tff2 = R
  unfold tff1 tff1b
  simp!
  refine letters_ok h (bag_all bg) ?_
  try rw [safe_b rfl]
  simp!
  refine states_ok h (bag_all bg) ?_
  try rw [safe_b rfl]
  simp! [wd, len_tI]
  have m1 := wk.m1
  have m4 := wk.m4
  have nc : Nc (.lst [.int w.m, .int (w.sh.length : Nat)]) 1 100 := (nc_lst (ncs_cons (b := 0) (nc_int (i := w.m) (by omega)) (ncs_cons (nc_int (i := (w.sh.length : Nat)) (by omega)) (ncs_nil (w := 0))))).mono (Nat.le_refl _) (by decide)
  refine ⟨small_le (by decide), small_le (by decide), ?_⟩
  with_reducible refine alike_n nc (by decide) (by decide) ?_
  try rw [safe_b rfl]
  simp!
  rw [← hR]
  unfold tff2
  generalize hB : tff2f = B
  simp! [rng1I, wd, len_tI, Int.toNat_natCast]
  refine ⟨by unfold rngOk; exact decide_eq_true (by omega), ?_⟩
  rw [← wd]
  refine for_rng (n := w.sh.length) (I := fun _ S => ∃ t4 : Slot, S = ⟨[.dat (netD ws st), s1, .dat (.int (i : Nat)), .dat w.toD, t4], [TB, bagD bg]⟩) ⟨_, rfl⟩ ?_ ?_
  · rintro j S hj ⟨t4, rfl⟩
    simp!
    rw [← hB]
    exact tfs_ok hn h hj bg ⟨_, rfl⟩
  · rintro S ⟨t4, rfl⟩
    exact q _
theorem net_told_ok (hn : NetOk ws) (bg : Bag) {Q : Res → List D → Prop} (q : Q (.dat (.bl true)) [TB, bagD bg]) : Dr d__law_net_told [netD ws st] [TB, bagD bg] Q := by
  have l5 := hn.l5
  unfold d__law_net_told
  rw [dr_run, tn_eq, rn_seq]
  generalize hR : seqM tn2 _ = R
  unfold tn1
  simp! [List.replicate, nt_0]
  rw [← hR, rn_seq]
  generalize hR : seqM tn3 _ = R
  unfold tn2
  generalize hT : turnM _ _ _ = T
  simp!
  refine all_states_ok hn (bag_all bg) ?_
  rw [if_safe (show (Res.dat (lotsD (fsB ws))).safe = true from imms_tI _) (bag_all bg)]
  simp!
  refine cw_ofM (f := Wk.toD) (g := fun w => tI (uI (List.range w.sh.length))) (small_le (by omega)) (fun w hw => ?_) ?_
  · have s5 := (hn.ok w hw).s5
    have wd : w.toD = D.tup [.int w.m, tI w.sh, .tup (Cd.toDs w.cs)] := rfl
    rw [← hT]
    simp! [wipeE, Slot.frz, List.map_cons, wd, len_tI]
    rw [tupRgN (by omega)]
    exact ⟨rfl, rfl⟩
  rw [show (ws.map fun w => tI (uI (List.range w.sh.length))) = (fsB ws).map tI by unfold fsB; rw [List.map_map]; rfl, if_imms (imms_tI _) (bag_all bg)]
  simp!
  rw [show D.tup ((fsB ws).map tI) = lotsD (fsB ws) from rfl]
  refine alike_n (fs_nc hn) (by decide) (by decide) ?_
  try rw [safe_b rfl]
  simp!
  rw [← hR, rn_seq]
  generalize hR : seqM tn4 _ = R
  unfold tn3
  generalize hT : turnM _ _ _ = T
  simp!
  refine all_lots_ok hn (bag_all bg) ?_
  rw [if_safe (show (Res.dat (lotsD (flB ws))).safe = true from imms_tI _) (bag_all bg)]
  simp!
  refine cw_ofM (f := Wk.toD) (g := fun w => tI (uI (List.range w.m.toNat))) (small_le (by omega)) (fun w hw => ?_) ?_
  · have m1 := (hn.ok w hw).m1
    have m4 := (hn.ok w hw).m4
    have wd : w.toD = D.tup [.int w.m, tI w.sh, .tup (Cd.toDs w.cs)] := rfl
    rw [← hT]
    simp! [wipeE, Slot.frz, List.map_cons, wd]
    obtain ⟨m, hm⟩ := Int.eq_ofNat_of_zero_le (show 0 ≤ w.m by omega)
    rw [hm, Int.toNat_natCast, tupRgN (by omega)]
    exact ⟨rfl, rfl⟩
  rw [show (ws.map fun w => tI (uI (List.range w.m.toNat))) = (flB ws).map tI by unfold flB; rw [List.map_map]; rfl, if_imms (imms_tI _) (bag_all bg)]
  simp!
  rw [show D.tup ((flB ws).map tI) = lotsD (flB ws) from rfl]
  refine alike_n (fl_nc hn) (by decide) (by decide) ?_
  try rw [safe_b rfl]
  simp!
  rw [← hR, rn_seq]
  generalize hR : tn5 = R
  rw [tf_eq]
  unfold tf enumI
  generalize hB : tff = B
  simp!
  rw [enum_zipN ws 0]
  refine for_of (f := fun p : Wk × Nat => D.tup [.int (p.2 : Nat), p.1.toD]) (all := ws.zipIdx) (a := []) (r := ws.zipIdx) (I := fun _ _ S => ∃ t2 t3 t4 : Slot, S = ⟨[.dat (netD ws st), .dat (.tup (ws.map Wk.toD)), t2, t3, t4], [TB, bagD bg]⟩) rfl ⟨_, _, _, rfl⟩ ?_ ?_
  · rintro a p r S e ⟨t2, t3, t4, rfl⟩
    have hp : p ∈ ws.zipIdx := by rw [e]; simp
    have e1 : ws[p.2]? = some p.1 := by
      have := List.mem_zipIdx hp
      simp at this
      rw [this.2]
      exact List.getElem?_eq_getElem _
    simp!
    rw [← hB]
    exact tfw_ok hn e1 bg fun t4 => ⟨_, _, _, rfl⟩
  · rintro S ⟨t2, t3, t4, rfl⟩
    rw [← hR]
    unfold tn5
    simp!
    exact q
end
end LW
end
section
set_option maxRecDepth 100000
namespace LW
open PySem L2 LC
open DL hiding tI bag_all safe_b safe_bn take_call take_rn takeEnv take1 take_ok where_b st_b0 st_b1 aug_b2
local macro_rules | `(tactic| simp!) => `(tactic| simp -implicitDefEqProofs only [rn_bind, rn_pure, rn_no, rn_need, rn_opt1, rn_ite, rn_var, rn_put, rn_useD, rn_useN, rn_useO, rn_chkD, rn_chkN, rn_chkO, rn_call, rn_seq, rn_guard, rn_forIn, rn_for0, rn_setD, rn_setN, rn_setO, binM, binMO, unM, cmpT, testM, andT, orT, notT, ifM, asgM, retM, exprM, kM, consA, nilA, tupM, lstM, useAll, chkAll, slM, partM, DL.andM, DL.orM, DL.notM, negM, asgG, gN, gT, gsC, gsN, seqI, frzM, asgTM, dnewM, par2M, hold_d, hold_n, hold_o, d_d, d_n, d_o, out_d, out_n, out_o, fo_next, fo_ret, isBl_b, isInt_i, tr_i, tr_b, tr_n, tr_l, tr_t, it_l, it_r, it_t, li_l, li_r, op_add_i, op_add_l, op_add_t, op_sub_i, op_mul_i, op_mod_i, op_div_i, op_pow_i, op_lt_i, op_le_i, op_gt_i, op_ge_i, op_int_i, op_abs_i, op_len_l, op_len_t, op_len_r, op_tup_l, op_tup_t, op_lst_l, op_lst_t, op_max_i, op_eq_i, eq_go_go, eq_get_get, eq_go_get, eq_get_go, Bool.bne_false, Bool.bne_true, Bool.not_true, Bool.not_false, op_sl_l, op_sl_r, op_sl_t, op_ix_t0, op_ix_t1, op_ix_t2, op_ix_l0, List.getElem?_cons_zero, List.getElem?_cons_succ, List.set_cons_zero, List.set_cons_succ, List.map_cons, List.map_nil, List.length_cons, List.length_nil, List.cons_append, List.nil_append, if_true, if_false, Bool.false_eq_true, decide_eq_true_eq, and_true, true_and, ite_true, ite_false, reduceCtorEq, rn_methM, rn_methM0, isTM_eq, rn_mk, rn_st, mk_own, st_own, ty_own, ex_app, ex_ext, ex_extT, ex_rev, ex_pop, rn_storeM, rn_lc, rn_lc2, rn_turn, rn_turn1, rn_frz])
local macro_rules | `(tactic| simp! [$ls,*]) => `(tactic| simp -implicitDefEqProofs only [rn_bind, rn_pure, rn_no, rn_need, rn_opt1, rn_ite, rn_var, rn_put, rn_useD, rn_useN, rn_useO, rn_chkD, rn_chkN, rn_chkO, rn_call, rn_seq, rn_guard, rn_forIn, rn_for0, rn_setD, rn_setN, rn_setO, binM, binMO, unM, cmpT, testM, andT, orT, notT, ifM, asgM, retM, exprM, kM, consA, nilA, tupM, lstM, useAll, chkAll, slM, partM, DL.andM, DL.orM, DL.notM, negM, asgG, gN, gT, gsC, gsN, seqI, frzM, asgTM, dnewM, par2M, hold_d, hold_n, hold_o, d_d, d_n, d_o, out_d, out_n, out_o, fo_next, fo_ret, isBl_b, isInt_i, tr_i, tr_b, tr_n, tr_l, tr_t, it_l, it_r, it_t, li_l, li_r, op_add_i, op_add_l, op_add_t, op_sub_i, op_mul_i, op_mod_i, op_div_i, op_pow_i, op_lt_i, op_le_i, op_gt_i, op_ge_i, op_int_i, op_abs_i, op_len_l, op_len_t, op_len_r, op_tup_l, op_tup_t, op_lst_l, op_lst_t, op_max_i, op_eq_i, eq_go_go, eq_get_get, eq_go_get, eq_get_go, Bool.bne_false, Bool.bne_true, Bool.not_true, Bool.not_false, op_sl_l, op_sl_r, op_sl_t, op_ix_t0, op_ix_t1, op_ix_t2, op_ix_l0, List.getElem?_cons_zero, List.getElem?_cons_succ, List.set_cons_zero, List.set_cons_succ, List.map_cons, List.map_nil, List.length_cons, List.length_nil, List.cons_append, List.nil_append, if_true, if_false, Bool.false_eq_true, decide_eq_true_eq, and_true, true_and, ite_true, ite_false, reduceCtorEq, rn_methM, rn_methM0, isTM_eq, rn_mk, rn_st, mk_own, st_own, ty_own, ex_app, ex_ext, ex_extT, ex_rev, ex_pop, rn_storeM, rn_lc, rn_lc2, rn_turn, rn_turn1, rn_frz, $ls,*])
def nb1 : M Fl := (parNM 3 4 (lcM (seqI (binM opIx (varM 1) (kM (.int 0)))) [11] (turnM (gN 11) (pure true) (unM opLen (binM opIx (varM 11) (kM (.int 1)))))) (lcM (seqI (binM opIx (varM 1) (kM (.int 0)))) [11] (turnM (gN 11) (pure true) (binM opIx (varM 11) (kM (.int 0))))))
def nb2 : M Fl := (par2M 5 6 (callM 2 d__law_box (consA (varM 0) (consA (varM 1) nilA))) (callM 2 d__law_lots (consA (varM 0) (consA (varM 1) nilA))))
def nb3 : M Fl := (forIn (rng1I (kM (.int 3))) (gN 2) (seqM (par2M 9 10 (callM 3 d__law_like (consA (varM 0) (consA (varM 5) (consA (varM 3) nilA)))) (callM 3 d__law_like (consA (varM 0) (consA (varM 6) (consA (varM 4) nilA)))))
  (seqM (ifM (notT (testM (callM 2 d__law_alike (consA (callM 2 d_shown_lots (consA (varM 1) (consA (varM 9) nilA))) (consA (callM 2 d__law_shown (consA (binM opIx (varM 1) (kM (.int 0))) (consA (varM 9) nilA))) nilA))))) (retM (kM (.bl false))) (pure .next))
  (seqM (asgM 7 (lstM (consA (callM 2 d_lies_in (consA (varM 5) (consA (varM 9) nilA))) (consA (callM 2 d_lies_in (consA (varM 9) (consA (varM 5) nilA))) (consA (callM 2 d_lies_in (consA (varM 6) (consA (varM 10) nilA))) (consA (callM 2 d_lies_in (consA (varM 10) (consA (varM 6) nilA))) nilA))))))
  (seqM (asgM 8 (lstM (consA (callM 2 d__law_inside (consA (varM 5) (consA (varM 9) nilA))) (consA (callM 2 d__law_inside (consA (varM 9) (consA (varM 5) nilA))) nilA))))
  (seqM (asgM 8 (binM opAdd (varM 8) (lstM (consA (callM 2 d__law_inside (consA (varM 6) (consA (varM 10) nilA))) (consA (callM 2 d__law_inside (consA (varM 10) (consA (varM 6) nilA))) nilA)))))
  (ifM (orT (notT (testM (callM 2 d__law_alike (consA (varM 7) (consA (varM 8) nilA))))) (notT (testM (callM 2 d__law_alike (consA (callM 2 d_lies_in (consA (varM 9) (consA (varM 9) nilA))) (consA (kM (.bl true)) nilA)))))) (retM (kM (.bl false))) (pure .next))))))))
def nb4 : M Fl := (retM (callM 2 d__law_alike (consA (callM 2 d_shown_lots (consA (varM 1) (consA (varM 5) nilA))) (consA (callM 2 d__law_shown (consA (binM opIx (varM 1) (kM (.int 0))) (consA (varM 5) nilA))) nilA))))
theorem nb_eq : b__law_net_boxes = seqM nb1 (seqM nb2 (seqM nb3 (nb4))) := rfl
def nff1 : M Fl := (par2M 9 10 (callM 3 d__law_like (consA (varM 0) (consA (varM 5) (consA (varM 3) nilA)))) (callM 3 d__law_like (consA (varM 0) (consA (varM 6) (consA (varM 4) nilA)))))
def nff2a : M Fl := (retM (kM (.bl false)))
def nff2b : M Fl := (pure .next)
def nff2 : M Fl := ifM (notT (testM (callM 2 d__law_alike (consA (callM 2 d_shown_lots (consA (varM 1) (consA (varM 9) nilA))) (consA (callM 2 d__law_shown (consA (binM opIx (varM 1) (kM (.int 0))) (consA (varM 9) nilA))) nilA))))) nff2a nff2b
def nff3 : M Fl := (asgM 7 (lstM (consA (callM 2 d_lies_in (consA (varM 5) (consA (varM 9) nilA))) (consA (callM 2 d_lies_in (consA (varM 9) (consA (varM 5) nilA))) (consA (callM 2 d_lies_in (consA (varM 6) (consA (varM 10) nilA))) (consA (callM 2 d_lies_in (consA (varM 10) (consA (varM 6) nilA))) nilA))))))
def nff4 : M Fl := (asgM 8 (lstM (consA (callM 2 d__law_inside (consA (varM 5) (consA (varM 9) nilA))) (consA (callM 2 d__law_inside (consA (varM 9) (consA (varM 5) nilA))) nilA))))
def nff5 : M Fl := (asgM 8 (binM opAdd (varM 8) (lstM (consA (callM 2 d__law_inside (consA (varM 6) (consA (varM 10) nilA))) (consA (callM 2 d__law_inside (consA (varM 10) (consA (varM 6) nilA))) nilA)))))
def nff6a : M Fl := (retM (kM (.bl false)))
def nff6b : M Fl := (pure .next)
def nff6 : M Fl := ifM (orT (notT (testM (callM 2 d__law_alike (consA (varM 7) (consA (varM 8) nilA))))) (notT (testM (callM 2 d__law_alike (consA (callM 2 d_lies_in (consA (varM 9) (consA (varM 9) nilA))) (consA (kM (.bl true)) nilA)))))) nff6a nff6b
def nff : M Fl := seqM nff1 (seqM nff2 (seqM nff3 (seqM nff4 (seqM nff5 (nff6)))))
def nf : M Fl := DL.forIn (rng1I (kM (.int 3))) (gN 2) nff
theorem nf_eq : nb3 = nf := rfl
section
variable {o : List D} {x : Bag} {ws : List Wk} {st : List Int} {box lots near heard : List (List Int)} {s0 s1 s2 s3 s4 s5 s6 s7 s8 s9 s10 s11 : Slot} {P : Fl → Sx → Prop}
theorem lots_immN (l : List (List Int)) : (Res.dat (lotsD l)).safe = true := imms_tI l
theorem shown_ok (hn : NetOk ws) (hb : LotsOk (nsOf ws) box) {Q : Res → List D → Prop} (q : Q (.dat (lotsD (shB ws box))) o) : Dr d_shown_lots [netD ws st, lotsD box] o Q := by
  have bl : box.length = ws.length := by have := hb.len; simpa [nsOf] using this
  have l5 := hn.l5
  unfold d_shown_lots b_shown_lots netD lotsD
  rw [dr_run]
  simp! [List.replicate, rn_zipI, zipK_tt, zipD_map]
  refine ⟨small_le (by decide), ?_⟩
  refine for_of (f := fun p : Wk × List Int => D.tup [p.1.toD, tI p.2]) (all := ws.zip box) (a := []) (r := ws.zip box) (I := fun a r S => ∃ s3 s4 s5 s6, S = ⟨[.dat (.tup [.tup (ws.map Wk.toD), tI st]), .dat (.tup (box.map tI)), .own (.lst ((a.map fun p => shW p.1 p.2).map tI)), s3, s4, s5, s6], o⟩) rfl ⟨_, _, _, _, rfl⟩ ?_ ?_
  · rintro a ⟨w, l⟩ r S e ⟨s3, s4, s5, s6, rfl⟩
    have hz : (ws.zip box)[a.length]? = some (w, l) := by rw [e]; simp
    obtain ⟨e1, e2⟩ : ws[a.length]? = some w ∧ box[a.length]? = some l := by
      rw [List.getElem?_zip_eq_some] at hz; exact hz
    have ok := hn.ok w (List.mem_of_getElem? e1)
    obtain ⟨b1, b2, b3, b4⟩ := box_at hb e1 e2
    have al : a.length < ws.length := (List.getElem?_eq_some_iff.mp e1).1
    have wd : w.toD = D.tup [.int w.m, tI w.sh, .tup (Cd.toDs w.cs)] := rfl
    simp! [wd]
    refine for_put (all := l) (St := fun ks vs s => ⟨[.dat (.tup [.tup (ws.map Wk.toD), tI st]), .dat (.tup (box.map tI)), .own (.lst ((a.map fun p => shW p.1 p.2).map tI)), .dat (.tup [.int w.m, tI w.sh, .tup (Cd.toDs w.cs)]), .dat (tI l), .own (.dct false (ks.map .int) vs), s], o⟩) (ks0 := []) (vs0 := []) (s0 := s6) (fun s => (w.sh[s.toNat]?).getD 0) (bd := 4) (by decide) List.nodup_nil (by simp) ?_ ?_ ?_
    · intro s hs
      have := shW_fit ok b4 ((w.sh[s.toNat]?).getD 0) ((sortS_mem _ _).mpr (List.mem_map.mpr ⟨s, hs, rfl⟩))
      have := ok.m4
      omega
    · intro s ks vs s' hs nd kl P hP
      obtain ⟨h0, h1⟩ := b4 s hs
      simp! [sh_at ok h0 h1]
      exact ⟨rfl, ex_put (by omega) fun vs' => hP _ _⟩
    · intro ks vs s nd kl hk
      simp!
      refine sorted_dct nd kl ?_
      unfold lI
      simp!
      have : sortS ks = shW w l := sortS_eq fun k => by rw [hk]; simp
      have ea : (a.map fun p => shW p.1 p.2).map tI ++ [D.tup ((sortS ks).map .int)] = ((a ++ [(w, l)]).map fun p => shW p.1 p.2).map tI := by rw [this, List.map_append, List.map_append]; rfl
      rw [ea]
      exact ⟨small_lt (by simp; omega), _, _, _, _, rfl⟩
  · rintro S ⟨s3, s4, s5, s6, rfl⟩
    rw [zip_zipWith]
    try simp!
    exact q
theorem bx_low {many : List Int} (m5 : ∀ m ∈ many, m ≤ 5) (l5 : many.length ≤ 5) (h : LotsOk many box) : Nc (lotsD box) 3 530 := nc_boxN ⟨by rw [h.len]; exact l5, fun e he => ⟨h.few e he, fun k hk => by
  obtain ⟨i, hi⟩ := List.mem_iff_getElem?.mp he
  have hi' : i < many.length := by rw [← h.len]; exact (List.getElem?_eq_some_iff.mp hi).1
  have em := List.getElem?_eq_getElem hi'
  have := h.fit i e _ hi em k hk
  have := m5 _ (List.getElem_mem hi')
  omega⟩⟩
theorem ns_b (hn : NetOk ws) : ∀ m ∈ nsOf ws, 1 ≤ m ∧ m ≤ 5 := fun m hm => by
  obtain ⟨w, hw, rfl⟩ := List.mem_map.mp hm
  have := (hn.ok w hw).s1
  have := (hn.ok w hw).s5
  omega
theorem ms_b (hn : NetOk ws) : ∀ m ∈ msOf ws, 1 ≤ m ∧ m ≤ 5 := fun m hm => by
  obtain ⟨w, hw, rfl⟩ := List.mem_map.mp hm
  have := (hn.ok w hw).m1
  have := (hn.ok w hw).m4
  omega
theorem sh_nc (hn : NetOk ws) (hb : LotsOk (nsOf ws) box) : Nc (lotsD (shB ws box)) 3 530 :=
  bx_low (fun m hm => (ms_b hn m hm).2) (by simp [msOf]; exact hn.l5) (shB_ok hn hb)
theorem ins_self {b : List (List Int)} : insB b b = true := insB_all fun i x y h1 h2 => by
  rw [h1] at h2
  cases h2
  unfold subI
  rw [List.all_eq_true]
  exact fun k hk => decide_eq_true hk
theorem four_nc {a b c d : Bool} : Nc (.lst [.bl a, .bl b, .bl c, .bl d]) 1 100 := (nc_lst (ncs_all (b := 0) (w := 1) fun e he => by
  simp only [List.mem_cons, List.not_mem_nil, or_false] at he
  rcases he with rfl | rfl | rfl | rfl <;> exact nc_bl)).mono (Nat.le_refl _) (show 4 * (1 + 1) ≤ 100 by decide)
theorem nft_ok (hx : BOk x) (hn : NetOk ws) (hb : LotsOk (nsOf ws) box) (hl : LotsOk (msOf ws) lots)
    (q : ∀ y t7 t8 t9 t10, BOk y → P .next ⟨[.dat (.obj 1), .dat (netD ws st), s2, .own (.lst ((nsOf ws).map .int)), .own (.lst ((msOf ws).map .int)), .dat (lotsD box), .dat (lotsD lots), t7, t8, t9, t10, s11], [TB, bagD y]⟩) :
    Rn nff ⟨[.dat (.obj 1), .dat (netD ws st), s2, .own (.lst ((nsOf ws).map .int)), .own (.lst ((msOf ws).map .int)), .dat (lotsD box), .dat (lotsD lots), s7, s8, s9, s10, s11], [TB, bagD x]⟩ P := by
  have l1 := hn.l1
  have l5 := hn.l5
  have nl : (nsOf ws).length = ws.length := by simp [nsOf]
  have ml : (msOf ws).length = ws.length := by simp [msOf]
  unfold nff
  rw [rn_seq]
  generalize hR : seqM nff2 _ = R
  have rest : ∀ (near heard : List (List Int)) (y : Bag), LotsOk (nsOf ws) near → LotsOk (msOf ws) heard → BOk y →
      Rn R ⟨[.dat (.obj 1), .dat (netD ws st), s2, .own (.lst ((nsOf ws).map .int)), .own (.lst ((msOf ws).map .int)), .dat (lotsD box), .dat (lotsD lots), s7, s8, .dat (lotsD near), .dat (lotsD heard), s11], [TB, bagD y]⟩ P := by
    intro near heard y hnr hhr hy
    have bl := hb.len
    have ll := hl.len
    have nrl := hnr.len
    have hrl := hhr.len
    rw [← hR, rn_seq]
    generalize hR : seqM nff3 _ = R
    unfold nff2 nff2a nff2b
    try simp!
    with_reducible refine shown_ok hn hnr ?_
    rw [if_safe (lots_immN _) (bag_all y)]
    simp! [nt_0]
    with_reducible refine lshown_ok hn hnr (bag_all y) ?_
    rw [if_safe (lots_immN _) (bag_all y)]
    try simp!
    with_reducible refine alike_n (sh_nc hn hnr) (by decide) (by decide) ?_
    try rw [safe_b rfl]
    try simp!
    rw [← hR, rn_seq]
    generalize hR : seqM nff4 _ = R
    unfold nff3
    generalize hC1 : consA (callM 2 d_lies_in (consA (varM 9) (consA (varM 5) nilA))) _ = C1
    simp!
    with_reducible refine liesB_ok (by omega) ?_
    try rw [safe_b rfl]
    simp!
    rw [← hC1]
    generalize hC2 : consA (callM 2 d_lies_in (consA (varM 6) (consA (varM 10) nilA))) _ = C2
    simp!
    with_reducible refine liesB_ok (by omega) ?_
    try rw [safe_b rfl]
    simp!
    rw [← hC2]
    generalize hC3 : consA (callM 2 d_lies_in (consA (varM 10) (consA (varM 6) nilA))) _ = C3
    simp!
    with_reducible refine liesB_ok (by omega) ?_
    try rw [safe_b rfl]
    simp!
    rw [← hC3]
    simp!
    with_reducible refine liesB_ok (by omega) ?_
    try rw [safe_b rfl]
    try simp!
    refine ⟨small_le (by decide), ?_⟩
    rw [← hR, rn_seq]
    generalize hR : seqM nff5 _ = R
    unfold nff4
    try simp!
    with_reducible refine inside_ok (by omega) (by omega) hb.few (bag_all y) ?_
    try rw [safe_b rfl]
    try simp!
    with_reducible refine inside_ok (by omega) (by omega) hnr.few (bag_all y) ?_
    try rw [safe_b rfl]
    try simp!
    refine ⟨small_le (by decide), ?_⟩
    rw [← hR, rn_seq]
    generalize hR : nff6 = R
    unfold nff5
    try simp!
    with_reducible refine inside_ok (by omega) (by omega) hl.few (bag_all y) ?_
    try rw [safe_b rfl]
    try simp!
    with_reducible refine inside_ok (by omega) (by omega) hhr.few (bag_all y) ?_
    try rw [safe_b rfl]
    try simp!
    refine ⟨small_le (by decide), small_le (by decide), ?_⟩
    rw [← hR]
    unfold nff6 nff6a nff6b
    try simp!
    with_reducible refine alike_n four_nc (by decide) (by decide) ?_
    try rw [safe_b rfl]
    try simp!
    with_reducible refine liesB_ok (by omega) ?_
    rw [ins_self]
    try rw [safe_b rfl]
    try simp!
    with_reducible refine alike_n (nc_bl (b := 0) (w := 0)) (by decide) (by decide) ?_
    try rw [safe_b rfl]
    try simp!
    exact q y _ _ _ _ hy
  unfold nff1
  simp!
  refine like_ok (by omega) (by omega) (ns_b hn) hb hx fun near y1 hnr hy1 => ?_
  rw [if_safe (lots_immN _) (bag_all y1)]
  simp!
  refine like_ok (by omega) (by omega) (ms_b hn) hl hy1 fun heard y2 hhr hy2 => ?_
  rw [if_safe (lots_immN _) (bag_all y2)]
  simp!
  exact rest near heard y2 hnr hhr hy2
theorem net_boxes_ok (hx : BOk x) (hn : NetOk ws) {Q : Res → List D → Prop} (q : ∀ y, BOk y → Q (.dat (.bl true)) [TB, bagD y]) : Dr d__law_net_boxes [.obj 1, netD ws st] [TB, bagD x] Q := by
  have l5 := hn.l5
  unfold d__law_net_boxes
  rw [dr_run, nb_eq, rn_seq]
  generalize hR : seqM nb2 _ = R
  unfold nb1
  generalize hT1 : turnM _ _ (unM opLen _) = T1
  generalize hT2 : turnM _ _ (binM opIx _ _) = T2
  simp! [List.replicate, nt_0, parNM, parNK]
  refine cw_ofM (f := Wk.toD) (g := fun w => .int (w.sh.length : Nat)) (small_le (by omega)) (fun w hw => ?_) ?_
  · have wd : w.toD = D.tup [.int w.m, tI w.sh, .tup (Cd.toDs w.cs)] := rfl
    rw [← hT1]
    simp! [wipeE, Slot.frz, List.map_cons, wd, len_tI]
  have e1 : (ws.map fun w => D.int (w.sh.length : Nat)) = (nsOf ws).map .int := by unfold nsOf; rw [List.map_map]; rfl
  rw [e1, if_imms (imms_ints _) (bag_all x)]
  refine cw_ofM (f := Wk.toD) (g := fun w => .int w.m) (small_le (by omega)) (fun w hw => ?_) ?_
  · have wd : w.toD = D.tup [.int w.m, tI w.sh, .tup (Cd.toDs w.cs)] := rfl
    rw [← hT2]
    simp! [wipeE, Slot.frz, List.map_cons, wd]
  have e2 : (ws.map fun w => D.int w.m) = (msOf ws).map .int := by unfold msOf; rw [List.map_map]; rfl
  rw [e2, if_imms (imms_ints _) (bag_all x)]
  rw [← hR, rn_seq]
  generalize hR : seqM nb3 _ = R
  unfold nb2
  simp!
  refine box_ok hn hx fun box y1 hb hy1 => ?_
  rw [if_safe (lots_immN _) (bag_all y1)]
  simp!
  refine lots_ok hn hy1 fun lots y2 hl hy2 => ?_
  rw [if_safe (lots_immN _) (bag_all y2)]
  simp! [par_dd]
  rw [← hR, rn_seq]
  generalize hR : nb4 = R
  rw [nf_eq]
  unfold nf
  generalize hB : nff = B
  simp! [rng1I]
  refine ⟨by decide, ?_⟩
  show Rn (DL.forM (gN 2) B (rangeD 0 3)) _ _
  refine for_rng (n := 3) (I := fun _ S => ∃ (y : Bag) (t2 t7 t8 t9 t10 : Slot), BOk y ∧ S = ⟨[.dat (.obj 1), .dat (netD ws st), t2, .own (.lst ((nsOf ws).map .int)), .own (.lst ((msOf ws).map .int)), .dat (lotsD box), .dat (lotsD lots), t7, t8, t9, t10, .un], [TB, bagD y]⟩) ⟨y2, _, _, _, _, _, hy2, rfl⟩ ?_ ?_
  · rintro j S hj ⟨y, t2, t7, t8, t9, t10, hy, rfl⟩
    simp!
    rw [← hB]
    exact nft_ok hy hn hb hl fun y t7 t8 t9 t10 hy => ⟨_, _, _, _, _, _, hy, rfl⟩
  · rintro S ⟨y, t2, t7, t8, t9, t10, hy, rfl⟩
    simp only
    rw [← hR]
    unfold nb4
    simp!
    refine shown_ok hn hb ?_
    rw [if_safe (lots_immN _) (bag_all y)]
    simp! [nt_0]
    with_reducible refine lshown_ok hn hb (bag_all y) ?_
    rw [if_safe (lots_immN _) (bag_all y)]
    simp!
    with_reducible refine alike_n (sh_nc hn hb) (by decide) (by decide) ?_
    try rw [safe_b rfl]
    exact q y hy
end
end LW
end
section
set_option maxRecDepth 100000
namespace LW
open PySem L2 LC
open DL hiding tI bag_all safe_b safe_bn take_call take_rn takeEnv take1 take_ok where_b st_b0 st_b1 aug_b2
local macro_rules | `(tactic| simp!) => `(tactic| simp -implicitDefEqProofs only [rn_bind, rn_pure, rn_no, rn_need, rn_opt1, rn_ite, rn_var, rn_put, rn_useD, rn_useN, rn_useO, rn_chkD, rn_chkN, rn_chkO, rn_call, rn_seq, rn_guard, rn_forIn, rn_for0, rn_setD, rn_setN, rn_setO, binM, binMO, unM, cmpT, testM, andT, orT, notT, ifM, asgM, retM, exprM, kM, consA, nilA, tupM, lstM, useAll, chkAll, slM, partM, DL.andM, DL.orM, DL.notM, negM, asgG, gN, gT, gsC, gsN, seqI, frzM, asgTM, dnewM, par2M, hold_d, hold_n, hold_o, d_d, d_n, d_o, out_d, out_n, out_o, fo_next, fo_ret, isBl_b, isInt_i, tr_i, tr_b, tr_n, tr_l, tr_t, it_l, it_r, it_t, li_l, li_r, op_add_i, op_add_l, op_add_t, op_sub_i, op_mul_i, op_mod_i, op_div_i, op_pow_i, op_lt_i, op_le_i, op_gt_i, op_ge_i, op_int_i, op_abs_i, op_len_l, op_len_t, op_len_r, op_tup_l, op_tup_t, op_lst_l, op_lst_t, op_max_i, op_eq_i, eq_go_go, eq_get_get, eq_go_get, eq_get_go, Bool.bne_false, Bool.bne_true, Bool.not_true, Bool.not_false, op_sl_l, op_sl_r, op_sl_t, op_ix_t0, op_ix_t1, op_ix_t2, op_ix_l0, List.getElem?_cons_zero, List.getElem?_cons_succ, List.set_cons_zero, List.set_cons_succ, List.map_cons, List.map_nil, List.length_cons, List.length_nil, List.cons_append, List.nil_append, if_true, if_false, Bool.false_eq_true, decide_eq_true_eq, and_true, true_and, ite_true, ite_false, reduceCtorEq, rn_methM, rn_methM0, isTM_eq, rn_mk, rn_st, mk_own, st_own, ty_own, ex_app, ex_ext, ex_extT, ex_rev, ex_pop, rn_storeM, rn_lc, rn_lc2, rn_turn, rn_turn1, rn_frz])
local macro_rules | `(tactic| simp! [$ls,*]) => `(tactic| simp -implicitDefEqProofs only [rn_bind, rn_pure, rn_no, rn_need, rn_opt1, rn_ite, rn_var, rn_put, rn_useD, rn_useN, rn_useO, rn_chkD, rn_chkN, rn_chkO, rn_call, rn_seq, rn_guard, rn_forIn, rn_for0, rn_setD, rn_setN, rn_setO, binM, binMO, unM, cmpT, testM, andT, orT, notT, ifM, asgM, retM, exprM, kM, consA, nilA, tupM, lstM, useAll, chkAll, slM, partM, DL.andM, DL.orM, DL.notM, negM, asgG, gN, gT, gsC, gsN, seqI, frzM, asgTM, dnewM, par2M, hold_d, hold_n, hold_o, d_d, d_n, d_o, out_d, out_n, out_o, fo_next, fo_ret, isBl_b, isInt_i, tr_i, tr_b, tr_n, tr_l, tr_t, it_l, it_r, it_t, li_l, li_r, op_add_i, op_add_l, op_add_t, op_sub_i, op_mul_i, op_mod_i, op_div_i, op_pow_i, op_lt_i, op_le_i, op_gt_i, op_ge_i, op_int_i, op_abs_i, op_len_l, op_len_t, op_len_r, op_tup_l, op_tup_t, op_lst_l, op_lst_t, op_max_i, op_eq_i, eq_go_go, eq_get_get, eq_go_get, eq_get_go, Bool.bne_false, Bool.bne_true, Bool.not_true, Bool.not_false, op_sl_l, op_sl_r, op_sl_t, op_ix_t0, op_ix_t1, op_ix_t2, op_ix_l0, List.getElem?_cons_zero, List.getElem?_cons_succ, List.set_cons_zero, List.set_cons_succ, List.map_cons, List.map_nil, List.length_cons, List.length_nil, List.cons_append, List.nil_append, if_true, if_false, Bool.false_eq_true, decide_eq_true_eq, and_true, true_and, ite_true, ite_false, reduceCtorEq, rn_methM, rn_methM0, isTM_eq, rn_mk, rn_st, mk_own, st_own, ty_own, ex_app, ex_ext, ex_extT, ex_rev, ex_pop, rn_storeM, rn_lc, rn_lc2, rn_turn, rn_turn1, rn_frz, $ls,*])
def lb3_1 : M Fl := (ifM (orT (notT (testM (callM 2 d__law_net_refused (consA (varM 1) (consA (varM 2) nilA))))) (orT (notT (testM (callM 1 d__law_net_told (consA (varM 2) nilA)))) (notT (testM (callM 2 d__law_net_boxes (consA (varM 1) (consA (varM 2) nilA))))))) (retM (kM (.bl false))) (pure .next))
def lb3_2 : M Fl := (ifM (notT (testM (callM 2 d__law_net_refused (consA (varM 1) (consA (varM 2) nilA))))) (retM (kM (.bl false))) (pure .next))
def lt3 : M Fl := seqM lb3_1 (lb3_2)
def ls1 : M Fl := (asgTM 1 (callM 1 d__law_bag (consA (varM 0) nilA)))
def ls2 : M Fl := (par2M 3 4 (callM 6 d__law_net (consA (varM 1) (consA (kM (.int 5)) (consA (kM (.int 5)) (consA (kM (.int 4)) (consA (kM (.int 3)) (consA (kM (.int 2)) nilA))))))) (callM 6 d__law_net (consA (varM 1) (consA (kM (.int 5)) (consA (kM (.int 5)) (consA (kM (.int 4)) (consA (kM (.int 3)) (consA (kM (.int 2)) nilA))))))))
def ls3 : M Fl := (forIn (seqI (lstM (consA (varM 3) (consA (varM 4) (consA (varM 3) nilA))))) (gN 2) lt3)
def ls4 : M Fl := (retM (callM 1 d__law_net_told (consA (varM 4) nilA)))
theorem ls_eq : b_law = seqM ls1 (seqM ls2 (seqM ls3 (ls4))) := rfl
section
variable {ws vs : List Wk} {st sd : List Nat} {x : Bag} {s0 s1 s2 s3 s4 : Slot} {P : Fl → Sx → Prop}
theorem trk_new27 {d : D} {env : List Slot} {o : List D} {Q : D → Sx → Prop} : Rn (trkM (.new d)) ⟨env, o⟩ Q = Q (.obj o.length) ⟨env, o ++ [d]⟩ := rfl
theorem t3_ok {st : List Int} (hx : BOk x) (hn : NetOk ws) (q : ∀ y, BOk y → P .next ⟨[s0, .dat (.obj 1), .dat (netD ws st), s3, s4], [TB, bagD y]⟩) : Rn lt3 ⟨[s0, .dat (.obj 1), .dat (netD ws st), s3, s4], [TB, bagD x]⟩ P := by
  unfold lt3
  rw [rn_seq]
  generalize hR : lb3_2 = R
  unfold lb3_1
  simp!
  with_reducible refine net_refused_ok hx hn fun y1 hy1 => ?_
  rw [safe_b rfl]
  simp!
  with_reducible refine net_told_ok hn y1 ?_
  try rw [safe_b rfl]
  try simp!
  with_reducible refine net_boxes_ok hy1 hn fun y2 hy2 => ?_
  rw [safe_b rfl]
  simp!
  rw [← hR]
  unfold lb3_2
  simp!
  with_reducible refine net_refused_ok hy2 hn fun y3 hy3 => ?_
  rw [safe_b rfl]
  simp!
  exact q y3 hy3
theorem law_true : ∀ ns : List Int, ns.length ≤ 63 → ∃ objs, d_law [.rol (ns.map .int)] [TB] = some (.ok (.dat (.bl true)), objs) := by
  intro ns hl
  have key : Dr d_law [.rol (ns.map .int)] [TB] fun r o => r = .dat (.bl true) := by
    unfold d_law
    rw [dr_run, ls_eq, rn_seq]
    generalize hR : seqM ls2 _ = R
    unfold ls1
    simp! [List.replicate]
    refine bag_ok hl fun x hx => ?_
    rw [if_safe (show (Res.new (bagD x)).safe = true from bag_imm x) rfl]
    simp! [trk_new27]
    rw [← hR, rn_seq]
    generalize hR : seqM ls3 _ = R
    unfold ls2
    simp!
    rw [show (3 : Int) = ((3 : Nat) : Int) from rfl]
    with_reducible refine netS_okS (most := 5) (high := 5) (wide := 4) (deep := 3) (steady := 2) (by decide) (by decide) (by decide) (by decide) (by decide) (by decide) (by decide) (by decide) (by decide) hx fun ws st x2 hn _ _ _ _ _ hx2 => ?_
    rw [safe_b (net_imm _ _)]
    simp!
    with_reducible refine netS_okS (most := 5) (high := 5) (wide := 4) (deep := 3) (steady := 2) (by decide) (by decide) (by decide) (by decide) (by decide) (by decide) (by decide) (by decide) (by decide) hx2 fun vs sd x3 hm _ _ _ _ _ hx3 => ?_
    rw [safe_b (net_imm _ _)]
    simp! [par_dd]
    rw [← hR, rn_seq]
    generalize hR : ls4 = R
    unfold ls3
    generalize hB : lt3 = B
    simp!
    refine ⟨small_le (by decide), ?_⟩
    rw [rn_for1]
    simp!
    rw [← hB]
    refine t3_ok hx3 hn fun y1 hy1 => ?_
    show Rn (DL.forM (gN 2) lt3 [netD vs (uI sd), netD ws (uI st)]) _ _
    generalize hB : lt3 = B
    rw [rn_for1]
    simp!
    rw [← hB]
    refine t3_ok hy1 hm fun y2 hy2 => ?_
    show Rn (DL.forM (gN 2) lt3 [netD ws (uI st)]) _ _
    generalize hB : lt3 = B
    rw [rn_for1]
    simp!
    rw [← hB]
    refine t3_ok hy2 hn fun y3 hy3 => ?_
    show Rn R _ _
    rw [← hR]
    unfold ls4
    simp!
    with_reducible refine net_told_ok hm y3 ?_
    try rw [safe_b rfl]
    try simp!
  obtain ⟨r, o', e, rfl⟩ := key.ex
  exact ⟨o', e⟩
end
end LW
end
section
open PySem PySem.W PyProof.Rows
set_option maxRecDepth 100000 in
set_option maxHeartbeats 0 in
theorem PySem.Challenge.cw_oldletters_k27_nets_told_holds : PySem.Challenge.rw_oldletters_k27_nets_told.Holds := by
  w_on; o_law; k_head; (case hw => w_witness2)
  k_fill
  refine LW.walk ?I rfl rfl (fun w h Y => PySem.W.km_in_of Y) (fun w h Y => PySem.W.km_tabs_of Y LW.lamP__law_net_refused (by decide)) ?T LW.law_true
  case I => rfl
  case T =>
    intro w mg h KX G
    constructor
    case f_is_integer =>
      refine' DL.fn0_mk KX G ?a ?l ?c ?k ?b
      (case a => k_is); (case l => k_is); (case c => k_is); (case k => k_is)
      (case b => exact fun F => F.binds fun _ _ _ _ _ _ us hl => match us, hl with | [_], _ => rfl)
    case f_is_index =>
      refine' DL.fn0_mk KX G ?a ?l ?c ?k ?b
      (case a => k_is); (case l => k_is); (case c => k_is); (case k => k_is)
      (case b => exact fun F => F.binds fun _ _ _ _ _ _ us hl => match us, hl with | [_, _], _ => rfl)
    case f_looked_at =>
      refine' DL.fn0_mk KX G ?a ?l ?c ?k ?b
      (case a => k_is); (case l => k_is); (case c => k_is); (case k => k_is)
      (case b => exact fun F => F.binds fun _ _ _ _ _ _ us hl => match us, hl with | [_, _], _ => rfl)
    case f_letters_of =>
      refine' DL.fn0_mk KX G ?a ?l ?c ?k ?b
      (case a => k_is); (case l => k_is); (case c => k_is); (case k => k_is)
      (case b => exact fun F => F.binds fun _ _ _ _ _ _ us hl => match us, hl with | [_, _], _ => rfl)
    case f_states_of =>
      refine' DL.fn0_mk KX G ?a ?l ?c ?k ?b
      (case a => k_is); (case l => k_is); (case c => k_is); (case k => k_is)
      (case b => exact fun F => F.binds fun _ _ _ _ _ _ us hl => match us, hl with | [_, _], _ => rfl)
    case f_letter_at =>
      refine' DL.fn0_mk KX G ?a ?l ?c ?k ?b
      (case a => k_is); (case l => k_is); (case c => k_is); (case k => k_is)
      (case b => exact fun F => F.binds fun _ _ _ _ _ _ us hl => match us, hl with | [_, _, _], _ => rfl)
    case f_code_at =>
      refine' DL.fn0_mk KX G ?a ?l ?c ?k ?b
      (case a => k_is); (case l => k_is); (case c => k_is); (case k => k_is)
      (case b => exact fun F => F.binds fun _ _ _ _ _ _ us hl => match us, hl with | [_, _, _], _ => rfl)
    case f_all_states =>
      refine' DL.fn0_mk KX G ?a ?l ?c ?k ?b
      (case a => k_is); (case l => k_is); (case c => k_is); (case k => k_is)
      (case b => exact fun F => F.binds fun _ _ _ _ _ _ us hl => match us, hl with | [_], _ => rfl)
    case f_all_lots =>
      refine' DL.fn0_mk KX G ?a ?l ?c ?k ?b
      (case a => k_is); (case l => k_is); (case c => k_is); (case k => k_is)
      (case b => exact fun F => F.binds fun _ _ _ _ _ _ us hl => match us, hl with | [_], _ => rfl)
    case f_shown_lots =>
      refine' DL.fn0_mk KX G ?a ?l ?c ?k ?b
      (case a => k_is); (case l => k_is); (case c => k_is); (case k => k_is)
      (case b => exact fun F => F.binds fun _ _ _ _ _ _ us hl => match us, hl with | [_, _], _ => rfl)
    case f_lies_in =>
      refine' DL.fn0_mk KX G ?a ?l ?c ?k ?b
      (case a => k_is); (case l => k_is); (case c => k_is); (case k => k_is)
      (case b => exact fun F => F.binds fun _ _ _ _ _ _ us hl => match us, hl with | [_, _], _ => rfl)
    case f__law_bag =>
      refine' DL.fn0_mk KX G ?a ?l ?c ?k ?b
      (case a => k_is); (case l => k_is); (case c => k_is); (case k => k_is)
      (case b => exact fun F => F.binds fun _ _ _ _ _ _ us hl => match us, hl with | [_], _ => rfl)
    case f__law_take =>
      refine' DL.fn0_mk KX G ?a ?l ?c ?k ?b
      (case a => k_is); (case l => k_is); (case c => k_is); (case k => k_is)
      (case b => exact fun F => F.binds fun _ _ _ _ _ _ us hl => match us, hl with | [_, _], _ => rfl)
    case f__law_some =>
      refine' DL.fn0_mk KX G ?a ?l ?c ?k ?b
      (case a => k_is); (case l => k_is); (case c => k_is); (case k => k_is)
      (case b => exact fun F => F.binds fun _ _ _ _ _ _ us hl => match us, hl with | [_, _], _ => rfl)
    case f__law_alike =>
      refine' DL.fn0_mk KX G ?a ?l ?c ?k ?b
      (case a => k_is); (case l => k_is); (case c => k_is); (case k => k_is)
      (case b => exact fun F => F.binds fun _ _ _ _ _ _ us hl => match us, hl with | [_, _], _ => rfl)
    case f__law_free =>
      refine' DL.fn0_mk KX G ?a ?l ?c ?k ?b
      (case a => k_is); (case l => k_is); (case c => k_is); (case k => k_is)
      (case b => exact fun F => F.binds fun _ _ _ _ _ _ us hl => match us, hl with | [_, _, _, _, _], _ => rfl)
    case f__law_form =>
      refine' DL.fn0_mk KX G ?a ?l ?c ?k ?b
      (case a => k_is); (case l => k_is); (case c => k_is); (case k => k_is)
      (case b => exact fun F => F.binds fun _ _ _ _ _ _ us hl => match us, hl with | [_, _, _, _, _], _ => rfl)
    case f__law_worker =>
      refine' DL.fn0_mk KX G ?a ?l ?c ?k ?b
      (case a => k_is); (case l => k_is); (case c => k_is); (case k => k_is)
      (case b => exact fun F => F.binds fun _ _ _ _ _ _ us hl => match us, hl with | [_, _, _, _, _], _ => rfl)
    case f__law_net =>
      refine' DL.fn0_mk KX G ?a ?l ?c ?k ?b
      (case a => k_is); (case l => k_is); (case c => k_is); (case k => k_is)
      (case b => exact fun F => F.binds fun _ _ _ _ _ _ us hl => match us, hl with | [_, _, _, _, _, _], _ => rfl)
    case f__law_lot =>
      refine' DL.fn0_mk KX G ?a ?l ?c ?k ?b
      (case a => k_is); (case l => k_is); (case c => k_is); (case k => k_is)
      (case b => exact fun F => F.binds fun _ _ _ _ _ _ us hl => match us, hl with | [_, _], _ => rfl)
    case f__law_lots =>
      refine' DL.fn0_mk KX G ?a ?l ?c ?k ?b
      (case a => k_is); (case l => k_is); (case c => k_is); (case k => k_is)
      (case b => exact fun F => F.binds fun _ _ _ _ _ _ us hl => match us, hl with | [_, _], _ => rfl)
    case f__law_box =>
      refine' DL.fn0_mk KX G ?a ?l ?c ?k ?b
      (case a => k_is); (case l => k_is); (case c => k_is); (case k => k_is)
      (case b => exact fun F => F.binds fun _ _ _ _ _ _ us hl => match us, hl with | [_, _], _ => rfl)
    case f__law_inside =>
      refine' DL.fn0_mk KX G ?a ?l ?c ?k ?b
      (case a => k_is); (case l => k_is); (case c => k_is); (case k => k_is)
      (case b => exact fun F => F.binds fun _ _ _ _ _ _ us hl => match us, hl with | [_, _], _ => rfl)
    case f__law_shown =>
      refine' DL.fn0_mk KX G ?a ?l ?c ?k ?b
      (case a => k_is); (case l => k_is); (case c => k_is); (case k => k_is)
      (case b => exact fun F => F.binds fun _ _ _ _ _ _ us hl => match us, hl with | [_, _], _ => rfl)
    case f__law_no_index =>
      refine' DL.fn0_mk KX G ?a ?l ?c ?k ?b
      (case a => k_is); (case l => k_is); (case c => k_is); (case k => k_is)
      (case b => exact fun F => F.binds fun _ _ _ _ _ _ us hl => match us, hl with | [_, _], _ => rfl)
    case f__law_like =>
      refine' DL.fn0_mk KX G ?a ?l ?c ?k ?b
      (case a => k_is); (case l => k_is); (case c => k_is); (case k => k_is)
      (case b => exact fun F => F.binds fun _ _ _ _ _ _ us hl => match us, hl with | [_, _, _], _ => rfl)
    case f__law_net_reply =>
      refine' DL.fn0_mk KX G ?a ?l ?c ?k ?b
      (case a => k_is); (case l => k_is); (case c => k_is); (case k => k_is)
      (case b => exact fun F => F.binds fun _ _ _ _ _ _ us hl => match us, hl with | [_], _ => rfl)
    case f__law_net_told =>
      refine' DL.fn0_mk KX G ?a ?l ?c ?k ?b
      (case a => k_is); (case l => k_is); (case c => k_is); (case k => k_is)
      (case b => exact fun F => F.binds fun _ _ _ _ _ _ us hl => match us, hl with | [_], _ => rfl)
    case f__law_net_refused =>
      refine' DL.fn0_mk KX G ?a ?l ?c ?k ?b
      (case a => k_is); (case l => k_is); (case c => k_is); (case k => k_is)
      (case b => exact fun F => F.binds fun _ _ _ _ _ _ us hl => match us, hl with | [_, _], _ => rfl)
    case f__law_net_boxes =>
      refine' DL.fn0_mk KX G ?a ?l ?c ?k ?b
      (case a => k_is); (case l => k_is); (case c => k_is); (case k => k_is)
      (case b => exact fun F => F.binds fun _ _ _ _ _ _ us hl => match us, hl with | [_, _], _ => rfl)
    case f_law =>
      refine' DL.fn0_mk KX G ?a ?l ?c ?k ?b
      (case a => k_is); (case l => k_is); (case c => k_is); (case k => k_is)
      (case b => exact fun F => F.binds fun _ _ _ _ _ _ us hl => match us, hl with | [_], _ => rfl)
    case l__law_net_refused =>
      refine' DL.mk_mk KX G ?a ?l ?e ?n ?c
      (case a => k_is); (case l => k_is); (case e => rfl); (case n => kernel_rfl); (case c => kernel_rfl)
    case m_abs => exact PySem.W.mg_none_of KX G (by k_is)
    case m_all => exact PySem.W.mg_none_of KX G (by k_is)
    case m_bool => exact PySem.W.mg_none_of KX G (by k_is)
    case m_enumerate => exact PySem.W.mg_none_of KX G (by k_is)
    case m_int => exact PySem.W.mg_none_of KX G (by k_is)
    case m_isinstance => exact PySem.W.mg_none_of KX G (by k_is)
    case m_len => exact PySem.W.mg_none_of KX G (by k_is)
    case m_list => exact PySem.W.mg_none_of KX G (by k_is)
    case m_max => exact PySem.W.mg_none_of KX G (by k_is)
    case m_min => exact PySem.W.mg_none_of KX G (by k_is)
    case m_range => exact PySem.W.mg_none_of KX G (by k_is)
    case m_repr => exact PySem.W.mg_none_of KX G (by k_is)
    case m_set => exact PySem.W.mg_none_of KX G (by k_is)
    case m_sorted => exact PySem.W.mg_none_of KX G (by k_is)
    case m_tuple => exact PySem.W.mg_none_of KX G (by k_is)
    case m_zip => exact PySem.W.mg_none_of KX G (by k_is)
    case x_NoState =>
      refine' DL.own_mk KX G (p1 := ⟨6, 17, 6, 21⟩) (p2 := ⟨6, 23, 6, 28⟩) (q1 := ⟨7, 8, 7, 12⟩) (q2 := ⟨7, 8, 7, 18⟩) (q3 := ⟨7, 21, 7, 26⟩) (q4 := ⟨7, 8, 7, 26⟩) ?aC ?xL ?hbm ?sa ?ga ?gg ?nb ?a1 ?t1 ?l1 ?c1 ?kC ?eC ?tC ?hC ?iC ?sC
      (case aC => k_is); (case xL => k_is); (case hbm => rfl); (case sa => k_is); (case ga => k_is); (case gg => k_is); (case nb => k_is); (case a1 => k_is); (case t1 => k_is); (case l1 => k_is); (case c1 => k_is)
      (case kC => k_is); (case eC => k_is); (case tC => k_is); (case hC => k_is); (case iC => k_is); (case sC => first | rfl | k_is)
    case x_NoWorker =>
      refine' DL.own_mk KX G (p1 := ⟨10, 17, 10, 21⟩) (p2 := ⟨10, 23, 10, 29⟩) (q1 := ⟨11, 8, 11, 12⟩) (q2 := ⟨11, 8, 11, 19⟩) (q3 := ⟨11, 22, 11, 28⟩) (q4 := ⟨11, 8, 11, 28⟩) ?aC ?xL ?hbm ?sa ?ga ?gg ?nb ?a1 ?t1 ?l1 ?c1 ?kC ?eC ?tC ?hC ?iC ?sC
      (case aC => k_is); (case xL => k_is); (case hbm => rfl); (case sa => k_is); (case ga => k_is); (case gg => k_is); (case nb => k_is); (case a1 => k_is); (case t1 => k_is); (case l1 => k_is); (case c1 => k_is)
      (case kC => k_is); (case eC => k_is); (case tC => k_is); (case hC => k_is); (case iC => k_is); (case sC => first | rfl | k_is)
    case e_NoState_NoState =>
      refine' DL.exm_mk KX G ?aS ?aC ?h1 ?h2 ?h3 ?h4
      (case aS => k_is); (case aC => k_is); (case h1 => k_is); (case h2 => k_is); (case h3 => k_is); (case h4 => first | rfl | k_is)
    case e_NoWorker_NoState =>
      refine' DL.exm_mk KX G ?aS ?aC ?h1 ?h2 ?h3 ?h4
      (case aS => k_is); (case aC => k_is); (case h1 => k_is); (case h2 => k_is); (case h3 => k_is); (case h4 => first | rfl | k_is)
    case e_NoState_NoWorker =>
      refine' DL.exm_mk KX G ?aS ?aC ?h1 ?h2 ?h3 ?h4
      (case aS => k_is); (case aC => k_is); (case h1 => k_is); (case h2 => k_is); (case h3 => k_is); (case h4 => first | rfl | k_is)
    case e_NoWorker_NoWorker =>
      refine' DL.exm_mk KX G ?aS ?aC ?h1 ?h2 ?h3 ?h4
      (case aS => k_is); (case aC => k_is); (case h1 => k_is); (case h2 => k_is); (case h3 => k_is); (case h4 => first | rfl | k_is)
end
