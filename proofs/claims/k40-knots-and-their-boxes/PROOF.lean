import PyProof.Rows.All
import Wide.All
import OpenK.AllK
import Wide.FinOn
import HandS.ForMost
import HandS.CallSlots
import KE.KeyNested
import KE.KDictWalk
import HandS.TupAny
import HandS.Flow
import HandS.Deep
import HandS.Zip
import HandS.Style
import HandS.Conv
import HandS.Strs
import HandS.TupSets
import KE.SortUse
import KE.DataMinMax
import HandS.Ends
import PyProof.EqAt
import PyProof.EqKinds
import PyProof.TupleCall
import Open.SpecLaws
import KE.OsGo
import HandS.ForSpec
import KE.SortData
import KE.LtSeq
import HandS.IsInst
import HandS.Small
import HandS.Iter
import HandS.DictComp
import HandS.Dict
import HandS.More
import HandS.Finally
import HandS.DictTup
import KE.KDictCopyH
import KE.KDictSum
import HandS.TupMul
import KE.KDictDisplayH
import HandS.SetFor
import KE.KExcIs
import HandS.HotCalls
import HandS.SetBool
import PyProof.Rows.SeqMore
import KE.LtData
import PySem.Challenge.RW_oldletters_k40_knots_and_their_boxes
set_option Elab.async false
set_option linter.all false
section
set_option maxRecDepth 100000
namespace DL
open PySem PySem.Spec L2
mutual
/-- such a key's hash -/
def nh : NestedKey → Int
  | NestedKey.none => reduceHash 0xFCA86420
  | .num i => hashInt i
  | .text _ => 0
  | .tup ks => reduceHash (Builtin.Tuple.tupleHashOf (nhs ks))
def nhs : List NestedKey → List Int
  | [] => []
  | k :: r => nh k :: nhs r
end
inductive NK (H : Hp) : NestedKey → V → Prop
  | none : NK H .none .non
  | num (i : Int) : NK H (.num i) (.int i)
  | nil {a : Addr} : H a = some (.tup []) → NK H (.tup []) (.ref a)
  | cons {a : Addr} {x : V} {xs : List V} {k : NestedKey} {ks : List NestedKey} : H a = some (.tup (x :: xs)) → (∀ p ∈ (k :: ks).zip (x :: xs), NK H p.1 p.2) → ks.length = xs.length → NK H (.tup (k :: ks)) (.ref a)
theorem NK.tupAt {H : Hp} {ks : List NestedKey} {v : V} (h : NK H (.tup ks) v) : ∃ a xs, v = .ref a ∧ H a = some (.tup xs) ∧ ks.length = xs.length ∧ ∀ p ∈ ks.zip xs, NK H p.1 p.2 := by
  cases h with
  | nil h => exact ⟨_, [], rfl, h, rfl, by simp⟩
  | cons h r l => exact ⟨_, _, rfl, h, by simp [l], r⟩
theorem NK.mk {H : Hp} {a : Addr} {ks : List NestedKey} {xs : List V} (h : H a = some (.tup xs)) (l : ks.length = xs.length) (r : ∀ p ∈ ks.zip xs, NK H p.1 p.2) : NK H (.tup ks) (.ref a) := by
  cases ks with
  | nil => cases xs with
    | nil => exact .nil h
    | cons x xs => simp at l
  | cons k ks => cases xs with
    | nil => simp at l
    | cons x xs => exact .cons h r (by simpa using l)
theorem NK.mono {H H' : Hp} (ht : ∀ b xs, H b = some (.tup xs) → H' b = some (.tup xs)) {k : NestedKey} {v : V} (h : NK H k v) : NK H' k v := by
  induction h with
  | none => exact .none
  | num i => exact .num i
  | nil h => exact .nil (ht _ _ h)
  | cons h r l ih => exact .cons (ht _ _ h) ih l
section
variable {H : Hp} (w : World)
theorem nhs_eq : ∀ {ks : List NestedKey} {xs : List V}, ks.length = xs.length → (∀ p ∈ ks.zip xs, p.1.hash w = nh p.1) → NestedKey.hashes w ks = nhs ks
  | [], _, _, _ => by simp [NestedKey.hashes, nhs]
  | k :: ks, [], l, _ => by simp at l
  | k :: ks, x :: xs, l, h => by
    have h1 := h (k, x) (by simp)
    have h2 := nhs_eq (ks := ks) (xs := xs) (by simpa using l) fun p m => h p (by rw [List.zip_cons_cons]; exact List.mem_cons_of_mem _ m)
    simp only [NestedKey.hashes, nhs, h2]
    rw [show k.hash w = nh k from h1]
theorem NK.hash {k : NestedKey} {v : V} (h : NK H k v) : k.hash w = nh k := by
  induction h with
  | none => simp [NestedKey.hash, nh]
  | num i => simp [NestedKey.hash, nh]
  | nil h => simp [NestedKey.hash, nh, NestedKey.hashes, nhs]
  | @cons a x xs k ks h r l ih =>
    have := nhs_eq w (ks := k :: ks) (xs := x :: xs) (by simp [l]) ih
    simp only [NestedKey.hash, nh, this]
end
section
variable {P : Program} {w : World} {H : Hp} {h : Heap}
theorem nks_at : ∀ {ks : List NestedKey} {xs : List V} {us : List Value}, ks.length = xs.length → Vals xs us → (∀ p ∈ ks.zip xs, ∀ u, RelV p.2 u → NestedIs h p.1 u) → NestedAll h ks us
  | [], [], _, _, .nil, _ => .nil
  | k :: ks, x :: xs, _, l, .cons r t, q => .cons (q (k, x) (by simp) _ r) (nks_at (by simpa using l) t fun p m => q p (by rw [List.zip_cons_cons]; exact List.mem_cons_of_mem _ m))
  | [], _ :: _, _, l, _, _ => by simp at l
  | _ :: _, [], _, l, _, _ => by simp at l
theorem NK.at (ok : HOk P w H h) {k : NestedKey} {v : V} (q : NK H k v) : ∀ {u : Value}, RelV v u → NestedIs h k u := by
  have tup : ∀ {a : Addr} {xs : List V} {ks : List NestedKey}, H a = some (.tup xs) → ks.length = xs.length → (∀ p ∈ ks.zip xs, ∀ u, RelV p.2 u → NestedIs h p.1 u) → NestedIs h (.tup ks) (.ref a) := by
    intro a xs ks e l r
    obtain ⟨_, its, rv, o, ho, hc, n, hd⟩ := (show ObjOk P w H h a (.tup xs) from ok a _ e)
    exact .tup ho hc hd (by simpa using nks_at l rv r)
  induction q with
  | none => intro u r; cases (show u = Value.none from r); exact .none
  | num i => intro u r; obtain ⟨t, rfl⟩ := (show ∃ t, u = Value.int i t from r); exact .int i t
  | nil e => intro u r; cases (show u = Value.ref _ from r); exact tup e rfl (by simp)
  | cons e r l ih => intro u r2; cases (show u = Value.ref _ from r2); exact tup e (by simp [l]) fun p m u ru => ih p m ru
end
abbrev NRow := NestedKey × Addr × V
def NRow.pr (r : NRow) : NestedKey × V := (r.1, r.2.2)
def nEnt (x : NestedKey × Addr × Value) : DictEntry := ⟨nh x.1, .ref x.2.1, x.2.2⟩
abbrev NRel (p : NRow) (q : NestedKey × Addr × Value) : Prop := p.1 = q.1 ∧ p.2.1 = q.2.1 ∧ RelV p.2.2 q.2.2
def NDictO (a : Addr) (rows : List NRow) : HO := .ext fun h => rows.length ≤ sizeLine ∧ (a == sysModules) = false ∧ (rows.map (·.1)).Nodup ∧
  ∃ xs : List (NestedKey × Addr × Value), Paired NRel rows xs ∧ ∃ (o : Obj) (es : Array DictEntry) (ep : Nat), h.get? a = some o ∧ o.ExactDict ∧ o.data = .dict es ep ∧ es.toList = xs.map nEnt
def NKeys (H : Hp) (rows : List NRow) : Prop := ∀ r ∈ rows, NK H r.1 (.ref r.2.1) ∧ r.1.depth ≤ 8
theorem NKeys.mono {H H' : Hp} (ht : ∀ b xs, H b = some (.tup xs) → H' b = some (.tup xs)) {rows : List NRow} (h : NKeys H rows) : NKeys H' rows := fun r m => ⟨(h r m).1.mono ht, (h r m).2⟩
theorem nmem : ∀ {rows : List NRow} {xs : List (NestedKey × Addr × Value)}, Paired NRel rows xs → ∀ x ∈ xs, ∃ r ∈ rows, NRel r x
  | _, _, .nil, x, m => nomatch m
  | _, _, .cons r t, x, m => by
    rcases List.mem_cons.mp m with rfl | m
    · exact ⟨_, List.mem_cons_self, r⟩
    · obtain ⟨r', m', h⟩ := nmem t x m
      exact ⟨r', List.mem_cons_of_mem _ m', h⟩
theorem nkeys_map : ∀ {rows : List NRow} {xs : List (NestedKey × Addr × Value)}, Paired NRel rows xs → rows.map (·.1) = xs.map (·.1)
  | _, _, .nil => rfl
  | _, _, .cons r t => by rw [List.map_cons, List.map_cons, r.1, nkeys_map t]
section
variable {P : Program} {w : World} {H : Hp} {h : Heap} {a : Addr} {rows : List NRow}
theorem nd_obj {H' : Hp} {h' : Heap} (r : rows.length ≤ sizeLine ∧ (a == sysModules) = false ∧ (rows.map (·.1)).Nodup ∧
    ∃ xs : List (NestedKey × Addr × Value), Paired NRel rows xs ∧ ∃ (o : Obj) (es : Array DictEntry) (ep : Nat), h'.get? a = some o ∧ o.ExactDict ∧ o.data = .dict es ep ∧ es.toList = xs.map nEnt) : ObjOk P w H' h' a (NDictO a rows) := by
  refine ⟨r, ?_, ?_⟩
  · obtain ⟨_, _, _, _, _, o, _, _, e, _⟩ := r; exact ⟨o, e⟩
  · intro h1 h2 ⟨z, y, n, xs, p, o, es, ep, e, c⟩ k
    exact ⟨z, y, n, xs, p, o, es, ep, k o e, c⟩
theorem nd_rd (ok : HOk P w H h) (e : Rd H a (NDictO a rows)) (kk : NKeys H rows) : rows.length ≤ sizeLine ∧ (a == sysModules) = false ∧ (rows.map (·.1)).Nodup ∧
    ∃ xs : List (NestedKey × Addr × Value), Paired NRel rows xs ∧ h.DictOfH (nestedKind P w) a xs := by
  obtain ⟨⟨z, y, n, xs, p, o, es, ep, h1, h2, h3, h4⟩, _⟩ := (show ObjOk P w H h a (NDictO a rows) from e.ok ok)
  have all : ∀ x ∈ xs, NK H x.1 (.ref x.2.1) ∧ x.1.depth ≤ 8 := fun x m => by
    obtain ⟨r, mr, e1, e2, _⟩ := nmem p x m
    rw [← e1, ← e2]; exact kk r mr
  refine ⟨z, y, n, xs, p, o, es, ep, h1, h2, h3, ?_, fun x m => ⟨(all x m).1.at ok rfl, (all x m).2⟩, by rw [← nkeys_map p]; exact n⟩
  rw [h4]
  refine List.map_congr_left fun x m => ?_
  show (⟨nh x.1, .ref x.2.1, x.2.2⟩ : DictEntry) = ⟨x.1.hash w, .ref x.2.1, x.2.2⟩
  rw [(all x m).1.hash w]
end
def putN (rows : List NRow) (k : NestedKey) (b : Addr) (v : V) : List NRow := if (rows.map NRow.pr).any (fun kv => decide (kv.1 = k)) then rows.map fun r => if r.1 = k then (r.1, r.2.1, v) else r else rows ++ [(k, b, v)]
theorem putN_pr (rows : List NRow) (k : NestedKey) (b : Addr) (v : V) : (putN rows k b v).map NRow.pr = L2.putK (rows.map NRow.pr) k v := by
  unfold putN L2.putK
  split
  · rw [List.map_map, List.map_map]
    refine List.map_congr_left fun r _ => ?_
    show NRow.pr (if r.1 = k then (r.1, r.2.1, v) else r) = if (NRow.pr r).1 = k then ((NRow.pr r).1, v) else NRow.pr r
    by_cases e : r.1 = k
    · rw [if_pos e, if_pos (show (NRow.pr r).1 = k from e)]; rfl
    · rw [if_neg e, if_neg (show ¬ (NRow.pr r).1 = k from e)]
  · rw [List.map_append]; rfl
theorem putN_keys {H : Hp} {rows : List NRow} {k : NestedKey} {b : Addr} {v : V} (h : NKeys H rows) (q : NK H k (.ref b) ∧ k.depth ≤ 8) : NKeys H (putN rows k b v) := by
  unfold putN
  split
  · intro r m
    obtain ⟨r', m', rfl⟩ := List.mem_map.mp m
    have := h r' m'
    by_cases e : r'.1 = k
    · rw [if_pos e]; exact this
    · rw [if_neg e]; exact this
  · intro r m
    rcases List.mem_append.mp m with m | m
    · exact h r m
    · rw [List.mem_singleton] at m; subst m; exact q
theorem nat_key : ∀ {rows : List NRow} {xs : List (NestedKey × Addr × Value)} (k : NestedKey), Paired NRel rows xs → RelO (valV (rows.map NRow.pr) k) ((atKey xs k).map (·.2))
  | _, _, _, .nil => trivial
  | p :: ps, q :: qs, k, .cons r t => by
    rw [List.map_cons]
    by_cases e : p.1 = k
    · have b : atKey (q :: qs) k = some q.2 := by unfold atKey; rw [List.find?_cons_of_pos (by rw [← r.1]; exact decide_eq_true e)]; rfl
      rw [valV_pos (show (NRow.pr p).1 = k from e), b]; exact r.2.2
    · have b : atKey (q :: qs) k = atKey qs k := by unfold atKey; rw [List.find?_cons_of_neg (by rw [← r.1]; simpa using e)]
      rw [valV_neg (show ¬ (NRow.pr p).1 = k from e), b]; exact nat_key k t
theorem any_at {rows : List NRow} {xs : List (NestedKey × Addr × Value)} (k : NestedKey) (r : Paired NRel rows xs) : (rows.map NRow.pr).any (fun kv => decide (kv.1 = k)) = (atKey xs k).isSome := by
  rw [valV_any, (nat_key k r).isSome_eq, Option.isSome_map]
theorem nrel_put {rows : List NRow} {xs : List (NestedKey × Addr × Value)} {k : NestedKey} {b : Addr} {v : V} {u : Value} (r : Paired NRel rows xs) (rv : RelV v u) : Paired NRel (putN rows k b v) (storedH xs k b u) := by
  unfold putN storedH
  rw [any_at k r]
  have old : ∀ {ps : List NRow} {qs : List (NestedKey × Addr × Value)}, Paired NRel ps qs → Paired NRel (ps.map fun r => if r.1 = k then (r.1, r.2.1, v) else r) (qs.map (putAt k u)) := by
    intro ps qs h
    induction h with
    | nil => exact .nil
    | @cons p q ps qs h t ih =>
      simp only [List.map_cons]
      refine .cons ?_ ih
      unfold putAt
      by_cases e : p.1 = k
      · rw [if_pos e, if_pos (h.1 ▸ e)]; exact ⟨h.1, h.2.1, rv⟩
      · rw [if_neg e, if_neg (fun z => e (h.1.trans z))]; exact h
  split
  · exact old r
  · exact Paired.snoc r ⟨rfl, rfl, rv⟩
theorem putN_len {rows : List NRow} {k : NestedKey} {b : Addr} {v : V} : (putN rows k b v).length ≤ rows.length + 1 := by
  unfold putN
  split
  · rw [List.length_map]; omega
  · rw [List.length_append]; exact Nat.le_refl _
def NGet (H : Hp) (a : Addr) (y : V) (r : Option V) : Prop := ∃ rows k b, Rd H a (NDictO a rows) ∧ NKeys H rows ∧ y = .ref b ∧ NK H k (.ref b) ∧ k.depth ≤ 8 ∧ r = valV (rows.map NRow.pr) k
def NPut (H : Hp) (a : Addr) (y v : V) (H' : Hp) : Prop := ∃ rows k b, H a = some (NDictO a rows) ∧ NKeys H rows ∧ y = .ref b ∧ NK H k (.ref b) ∧ k.depth ≤ 8 ∧ rows.length < sizeLine ∧ H' = upd H a (NDictO a (putN rows k b v))
section
variable {X : Cx} {A : Around} {E : Value → Shared → Prop} {pins : List (Addr × Obj)} {σ : St} {H : Hp} {s : Shared} {a : Addr} {y v : V} {ky r : Value} {o : Option V}
theorem nroom (hu : A.units + 12 < cLine) : (nestedKind X.prog X.w).room A.in1 := by
  show A.in1.units + 8 < cLine
  rw [Around.in1_units]; omega
theorem n_getItem {Q : Value → Shared → Prop} (hu : A.units + 12 < cLine) (I : Inv X pins σ H s) (g : NGet H a y (some v)) (ry : RelV y ky) (h : ∀ w' s', Inv X pins σ H s' → RelV v w' → Q w' s') :
    wpAny (model X.prog X.w) A (getItem (.ref a) ky) Q E s := by
  obtain ⟨rows, k, b, e, kk, rfl, hk, hdp, l⟩ := g
  cases (show ky = .ref b from ry)
  obtain ⟨z, hd, nd, xs, rel, dd⟩ := nd_rd I.hok e kk
  have q := nat_key k rel
  rw [← l] at q
  cases hp : atKey xs k with
  | none => rw [hp] at q; exact (show False from q).elim
  | some p =>
    rw [hp] at q
    exact wpAny_getItem_heap (knd := nestedKind X.prog X.w) (nroom hu) ⟨hk.at I.hok rfl, hdp⟩ dd hp (h _ _ (I.tok _) q)
theorem n_in {Q : Value → Shared → Prop} (hu : A.units + 12 < cLine) (I : Inv X pins σ H s) (g : NGet H a y o) (ry : RelV y ky) (h : ∀ s', Inv X pins σ H s' → Q (.bool o.isSome) s') :
    wpAny (model X.prog X.w) A (compareOp .In ky (.ref a)) Q E s := by
  obtain ⟨rows, k, b, e, kk, rfl, hk, hdp, l⟩ := g
  cases (show ky = .ref b from ry)
  obtain ⟨z, hd, nd, xs, rel, dd⟩ := nd_rd I.hok e kk
  have q := (nat_key k rel).isSome_eq
  rw [Option.isSome_map, ← l] at q
  refine wpAny_in_heap (knd := nestedKind X.prog X.w) (nroom hu) ⟨hk.at I.hok rfl, hdp⟩ hd dd ?_
  rw [← q]
  exact h _ (I.tok _)
theorem n_notIn {Q : Value → Shared → Prop} (hu : A.units + 12 < cLine) (I : Inv X pins σ H s) (g : NGet H a y o) (ry : RelV y ky) (h : ∀ s', Inv X pins σ H s' → Q (.bool (!o.isSome)) s') :
    wpAny (model X.prog X.w) A (compareOp .NotIn ky (.ref a)) Q E s := by
  obtain ⟨rows, k, b, e, kk, rfl, hk, hdp, l⟩ := g
  cases (show ky = .ref b from ry)
  obtain ⟨z, hd, nd, xs, rel, dd⟩ := nd_rd I.hok e kk
  have q := (nat_key k rel).isSome_eq
  rw [Option.isSome_map, ← l] at q
  refine PyProof.Rows.wpAny_notIn_heap (knd := nestedKind X.prog X.w) (nroom hu) ⟨hk.at I.hok rfl, hdp⟩ hd dd ?_
  rw [← q]
  exact h _ (I.tok _)
theorem nd_type (I : Inv X pins σ H s) (g : NGet H a y o) : s.TypeIs (.ref a) "dict" := by
  obtain ⟨rows, k, b, e, kk, _⟩ := g
  obtain ⟨_, _, _, xs, _, dd⟩ := nd_rd I.hok e kk
  exact dd.typeIs
theorem n_setItem {H' : Hp} {Q : Unit → Shared → Prop} (hu : A.units + 12 < cLine) (I : Inv X pins σ H s) (g : NPut H a y v H') (ry : RelV y ky) (rv : RelV v r) (h : ∀ s', Inv X pins σ H' s' → Q () s') :
    wpAny (model X.prog X.w) A (setItem (.ref a) ky r) Q E s := by
  obtain ⟨rows, k, b, e, kk, rfl, hk, hdp, l, rfl⟩ := g
  cases (show ky = .ref b from ry)
  obtain ⟨z, hd, nd, xs, rel, dd⟩ := nd_rd I.hok (.inl e) kk
  have lx : xs.length ≤ sizeLine := by rw [← Paired.length rel]; exact z
  refine wpAny_setItem_heap (hsz := lx) (knd := nestedKind X.prog X.w) (nroom hu) ⟨hk.at I.hok rfl, hdp⟩ dd fun h' dd' hs => h _ ?_
  obtain ⟨o, es, ep, h1, h2, h3, h4, h5, h6⟩ := dd'
  have rel' := nrel_put (k := k) (b := b) rel rv
  have kk' := putN_keys (v := v) kk ⟨hk, hdp⟩
  refine d_write I (by rw [e]; trivial) hs ⟨o, h1⟩ (nd_obj ⟨Nat.le_trans putN_len l, hd, by rw [nkeys_map rel']; exact h6, _, rel', o, es, ep, h1, h2, h3, ?_⟩)
  rw [h4]
  refine List.map_congr_left fun x m => ?_
  obtain ⟨r', mr, e1, e2, _⟩ := nmem rel' x m
  have := (kk' r' mr).1
  rw [e1, e2] at this
  show (⟨x.1.hash X.w, .ref x.2.1, x.2.2⟩ : DictEntry) = ⟨nh x.1, .ref x.2.1, x.2.2⟩
  rw [this.hash X.w]
end
theorem pe_dnewN {X : Cx} {pos : Pos} : PE X (.Dict [] [] pos) fun _ H Q => ∀ p, H p = none → Q (.ref p) (upd H p (NDictO p [])) := by
  constructor
  intro pins s σ H Q I q
  have new : ∀ H' : Hp, ObjOk X.prog X.w H' (s.heap.push { cls := .type "dict", data := .dict #[] }) s.heap.objs.size (NDictO s.heap.objs.size []) := fun H' =>
    nd_obj ⟨Nat.zero_le _, beq_eq_false_iff_ne.mpr (Ne.symm (Nat.ne_of_lt I.big)), List.nodup_nil, [], .nil, _, #[], 0, Heap.get?_push_size _ rfl, ⟨rfl, rfl, rfl⟩, rfl, rfl⟩
  exact wpAny_Dict_empty ⟨.ref s.heap.objs.size, _, I.laid (t' := s.toks) (fun _ _ e => Heap.get?_push_of_some _ e) (Nat.le_refl _) (new _), rfl, q _ (I.hok.fresh (Nat.le_refl _))⟩
end DL
end
section
set_option maxRecDepth 100000
namespace DL
open PySem PySem.Spec L2
inductive D where
  | non | bl (b : Bool) | int (i : Int) | str (x : Str) | tup (ds : List D) | lst (ds : List D) | dct (t : Bool) (ks vs : List D) | rol (ds : List D) | obj (n : Nat) | opq (v : V) | rdc (t : Bool) (ks vs : List D)
mutual
def D.beq : D → D → Bool
  | .non, .non => true
  | .bl a, .bl b => decide (a = b)
  | .int a, .int b => decide (a = b)
  | .str a, .str b => decide (a = b)
  | .tup a, .tup b => D.beqs a b
  | .lst a, .lst b => D.beqs a b
  | .rol a, .rol b => D.beqs a b
  | .dct t a c, .dct u b d => decide (t = u) && (D.beqs a b && D.beqs c d)
  | .obj a, .obj b => decide (a = b)
  | .opq a, .opq b => decide (a = b)
  | .rdc t a c, .rdc u b d => decide (t = u) && (D.beqs a b && D.beqs c d)
  | _, _ => false
def D.beqs : List D → List D → Bool
  | [], [] => true
  | a :: r, b :: s => D.beq a b && D.beqs r s
  | _, _ => false
end
mutual
theorem D.beq_of : ∀ a b : D, D.beq a b = true → a = b
  | .non, b, h => by cases b <;> simp [D.beq] at h ⊢
  | .bl a, b, h => by cases b <;> simp [D.beq] at h ⊢; exact h
  | .int a, b, h => by cases b <;> simp [D.beq] at h ⊢; exact h
  | .str a, b, h => by cases b <;> simp [D.beq] at h ⊢; exact h
  | .tup a, b, h => by cases b <;> simp [D.beq] at h ⊢; exact D.beqs_of _ _ h
  | .lst a, b, h => by cases b <;> simp [D.beq] at h ⊢; exact D.beqs_of _ _ h
  | .rol a, b, h => by cases b <;> simp [D.beq] at h ⊢; exact D.beqs_of _ _ h
  | .dct t a c, b, h => by cases b <;> simp [D.beq] at h ⊢; exact ⟨h.1, D.beqs_of _ _ h.2.1, D.beqs_of _ _ h.2.2⟩
  | .obj a, b, h => by cases b <;> simp [D.beq] at h ⊢; exact h
  | .opq a, b, h => by cases b <;> simp [D.beq] at h ⊢; exact h
  | .rdc t a c, b, h => by cases b <;> simp [D.beq] at h ⊢; exact ⟨h.1, D.beqs_of _ _ h.2.1, D.beqs_of _ _ h.2.2⟩
theorem D.beqs_of : ∀ a b : List D, D.beqs a b = true → a = b
  | [], b, h => by cases b <;> simp [D.beqs] at h ⊢
  | a :: r, b, h => by
    cases b with
    | nil => simp [D.beqs] at h
    | cons b s => simp [D.beqs] at h; rw [D.beq_of a b h.1, D.beqs_of r s h.2]
end
mutual
theorem D.beq_refl : ∀ a : D, D.beq a a = true
  | .non => by simp [D.beq]
  | .bl a => by simp [D.beq]
  | .int a => by simp [D.beq]
  | .str a => by simp [D.beq]
  | .tup a => by simp [D.beq, D.beqs_refl a]
  | .lst a => by simp [D.beq, D.beqs_refl a]
  | .rol a => by simp [D.beq, D.beqs_refl a]
  | .dct t a c => by simp [D.beq, D.beqs_refl a, D.beqs_refl c]
  | .obj a => by simp [D.beq]
  | .opq a => by simp [D.beq]
  | .rdc t a c => by simp [D.beq, D.beqs_refl a, D.beqs_refl c]
theorem D.beqs_refl : ∀ a : List D, D.beqs a a = true
  | [] => by simp [D.beqs]
  | a :: r => by simp [D.beqs, D.beq_refl a, D.beqs_refl r]
end
instance : DecidableEq D := fun a b => if h : D.beq a b = true then isTrue (D.beq_of a b h) else isFalse fun e => h (e ▸ D.beq_refl a)
mutual
/-- nothing in it can change -/
def D.imm : D → Bool
  | .tup ds => D.imms ds
  | .lst _ => false
  | .dct _ _ _ => false
  | .rol ds => D.imms ds
  | .rdc _ _ vs => D.imms vs
  | _ => true
def D.imms : List D → Bool
  | [] => true
  | d :: r => d.imm && D.imms r
end
structure Gh where
  bad : Addr → Prop
  om : List Addr
def kD : Key → D
  | .inl i => .int i
  | .inr x => .str x
mutual
/-- a key of tuples, as data -/
def kN : NestedKey → D
  | .none => .non
  | .num i => .int i
  | .text x => .str x
  | .tup ks => .tup (kNs ks)
def kNs : List NestedKey → List D
  | [] => []
  | k :: r => kN k :: kNs r
end
inductive DcAt (H : Hp) (a : Addr) : HO → Bool → List D → List V → Prop
  | dK (kvs : List (Key × V)) : DcAt H a (.dK kvs) false (kvs.map fun p => kD p.1) (kvs.map (·.2))
  | dN (rows : List NRow) : NKeys H rows → DcAt H a (NDictO a rows) true ((rows.map NRow.pr).map fun p => kN p.1) ((rows.map NRow.pr).map (·.2))
theorem DcAt.mono {H H' : Hp} {a : Addr} {o : HO} {t : Bool} {ks : List D} {ws : List V} (ht : ∀ b xs, H b = some (.tup xs) → H' b = some (.tup xs)) (c : DcAt H a o t ks ws) : DcAt H' a o t ks ws := by
  cases c with
  | dK kvs => exact .dK kvs
  | dN rows k => exact .dN rows (k.mono ht)
def RoL (K : PySem.W.Frag) (H : Hp) (a : Addr) (xs : List V) : Prop :=
  (∃ o, H a = some (.frz o (.lst xs))) ∨
    ∃ (o : Obj) (its : Array Value) (n : Nat),
      K.lookup a = some o ∧
        o.cls = .type "list" ∧
          o.dict = none ∧ o.data = .seq its n ∧
            its.size ≤ sizeLine ∧ Vals xs its.toList
theorem RoL.sq {K : PySem.W.Frag} {H : Hp} {a : Addr} {xs : List V} (h : RoL K H a xs) : SqL K H a xs := by
  rcases h with ⟨o, h⟩ | h
  · exact .inl (.inr ⟨o, h⟩)
  · exact .inr h
mutual
inductive Rp (K : PySem.W.Frag) (H : Hp) (g : Gh) : V → D → Prop
  | non : Rp K H g .non .non
  | bl (b : Bool) : Rp K H g (.bl b) (.bl b)
  | int (i : Int) : Rp K H g (.int i) (.int i)
  | str (x : Str) : Rp K H g (.str x) (.str x)
  | tup {a : Addr} {xs : List V} {ds : List D} : H a = some (.tup xs) → RpA K H g xs ds → Rp K H g (.ref a) (.tup ds)
  | lst {a : Addr} {xs : List V} {ds : List D} : H a = some (.lst xs) → ¬ g.bad a → RpA K H g xs ds → Rp K H g (.ref a) (.lst ds)
  | dct {a : Addr} {o : HO} {t : Bool} {ks vs : List D} {ws : List V} : H a = some o → DcAt H a o t ks ws → ¬ g.bad a → RpA K H g ws vs → Rp K H g (.ref a) (.dct t ks vs)
  | rol {a : Addr} {xs : List V} {ds : List D} : RoL K H a xs → RpA K H g xs ds → Rp K H g (.ref a) (.rol ds)
  | obj {a : Addr} {n : Nat} : g.om[n]? = some a → Rp K H g (.ref a) (.obj n)
  | opq (v : V) : Rp K H g v (.opq v)
  | rdc {a : Addr} {o : Obj} {u : HO} {t : Bool} {ks vs : List D} {ws : List V} : H a = some (.frz o u) → DcAt H a u t ks ws → RpA K H g ws vs → Rp K H g (.ref a) (.rdc t ks vs)
inductive RpA (K : PySem.W.Frag) (H : Hp) (g : Gh) : List V → List D → Prop
  | nil : RpA K H g [] []
  | cons {v : V} {vs : List V} {d : D} {ds : List D} : Rp K H g v d → RpA K H g vs ds → RpA K H g (v :: vs) (d :: ds)
end
structure Fr (H : Hp) (g : Gh) (H' : Hp) (g' : Gh) : Prop where
  keep : ∀ a o, H a = some o → ¬ g.bad a → H' a = some o ∧ ¬ g'.bad a
  om : g.om <+: g'.om
def Mu (H : Hp) (g : Gh) : Prop := ∀ a, g.bad a → Mut (H a)
section
variable {K : PySem.W.Frag} {H H' H1 H2 : Hp} {g g' g1 g2 : Gh}
theorem Fr.refl (H : Hp) (g : Gh) : Fr H g H g := ⟨fun _ _ h n => ⟨h, n⟩, List.prefix_rfl⟩
theorem Fr.trans (a : Fr H g H1 g1) (b : Fr H1 g1 H2 g2) : Fr H g H2 g2 :=
  ⟨fun c o h n => let ⟨h1, n1⟩ := a.keep c o h n; b.keep c o h1 n1, a.om.trans b.om⟩
theorem Fr.less (hb : ∀ a, g'.bad a → g.bad a) (ho : g.om = g'.om) : Fr H g H g' := ⟨fun _ _ h n => ⟨h, fun z => n (hb _ z)⟩, ho ▸ List.prefix_rfl⟩
theorem pre_get {α : Type} {l m : List α} {n : Nat} {a : α} (h : l <+: m) (e : l[n]? = some a) : m[n]? = some a := by
  obtain ⟨t, rfl⟩ := h
  have hl : n < l.length := (List.getElem?_eq_some_iff.mp e).1
  rw [List.getElem?_append_left hl]; exact e
theorem Fr.tup (f : Fr H g H' g') (m : Mu H g) {a : Addr} {xs : List V} (h : H a = some (.tup xs)) : H' a = some (.tup xs) :=
  (f.keep _ _ h fun z => by have := m _ z; rw [h] at this; exact this).1
theorem Fr.rol (f : Fr H g H' g') (m : Mu H g) {a : Addr} {xs : List V} (h : RoL K H a xs) : RoL K H' a xs := by
  rcases h with ⟨o, h⟩ | h
  · exact .inl ⟨o, (f.keep _ _ h fun z => by have := m _ z; rw [h] at this; exact this).1⟩
  · exact .inr h
theorem Fr.frz (f : Fr H g H' g') (m : Mu H g) {a : Addr} {o : Obj} {u : HO} (h : H a = some (.frz o u)) : H' a = some (.frz o u) :=
  (f.keep _ _ h fun z => by have := m _ z; rw [h] at this; exact this).1
mutual
theorem Rp.fr (f : Fr H g H' g') (m : Mu H g) {v : V} : ∀ {d : D}, Rp K H g v d → Rp K H' g' v d
  | _, .non => .non
  | _, .bl b => .bl b
  | _, .int b => .int b
  | _, .str b => .str b
  | _, .tup h r => .tup (f.tup m h) (RpA.fr f m r)
  | _, .lst h n r => .lst (f.keep _ _ h n).1 (f.keep _ _ h n).2 (RpA.fr f m r)
  | _, .dct h c n r => .dct (f.keep _ _ h n).1 (c.mono fun _ _ q => f.tup m q) (f.keep _ _ h n).2 (RpA.fr f m r)
  | _, .rol h r => .rol (f.rol m h) (RpA.fr f m r)
  | _, .obj h => .obj (pre_get f.om h)
  | _, .opq v => .opq v
  | _, .rdc h c r => .rdc (f.frz m h) (c.mono fun _ _ q => f.tup m q) (RpA.fr f m r)
theorem RpA.fr (f : Fr H g H' g') (m : Mu H g) {vs : List V} : ∀ {ds : List D}, RpA K H g vs ds → RpA K H' g' vs ds
  | _, .nil => .nil
  | _, .cons h r => .cons (Rp.fr f m h) (RpA.fr f m r)
end
mutual
/-- data in which nothing can change does not ask what is written to -/
theorem Rp.im (ho : g.om <+: g'.om) {v : V} : ∀ {d : D}, Rp K H g v d → d.imm = true → Rp K H g' v d
  | _, .non, _ => .non
  | _, .bl b, _ => .bl b
  | _, .int b, _ => .int b
  | _, .str b, _ => .str b
  | _, .tup h r, i => .tup h (RpA.im ho r (by simpa [D.imm] using i))
  | _, .lst h n r, i => by simp [D.imm] at i
  | _, .dct h c n r, i => by simp [D.imm] at i
  | _, .rol h r, i => .rol h (RpA.im ho r (by simpa [D.imm] using i))
  | _, .obj h, _ => .obj (pre_get ho h)
  | _, .opq v, _ => .opq v
  | _, .rdc h c r, i => .rdc h c (RpA.im ho r (by simpa [D.imm] using i))
theorem RpA.im (ho : g.om <+: g'.om) {vs : List V} : ∀ {ds : List D}, RpA K H g vs ds → D.imms ds = true → RpA K H g' vs ds
  | _, .nil, _ => .nil
  | _, .cons h r, i => by
    simp [D.imms] at i
    exact .cons (Rp.im ho h i.1) (RpA.im ho r i.2)
end
theorem RpA.length : ∀ {vs : List V} {ds : List D}, RpA K H g vs ds → vs.length = ds.length
  | _, _, .nil => rfl
  | _, _, .cons _ r => congrArg Nat.succ (RpA.length r)
theorem RpA.get : ∀ {vs : List V} {ds : List D} {i : Nat} {d : D}, RpA K H g vs ds → ds[i]? = some d → ∃ v, vs[i]? = some v ∧ Rp K H g v d
  | _, _, _, _, .nil, e => by simp at e
  | _, _, 0, _, .cons r _, e => by simp at e; subst e; exact ⟨_, rfl, r⟩
  | _, _, i + 1, d, .cons _ t, e => by
    obtain ⟨u, h1, h2⟩ := RpA.get (i := i) (d := d) t (by simpa using e)
    exact ⟨u, by simpa using h1, h2⟩
theorem RpA.append : ∀ {vs ws : List V} {ds es : List D}, RpA K H g vs ds → RpA K H g ws es → RpA K H g (vs ++ ws) (ds ++ es)
  | _, _, _, _, .nil, s => s
  | _, _, _, _, .cons r t, s => .cons r (RpA.append t s)
theorem RpA.take : ∀ {vs : List V} {ds : List D} (n : Nat), RpA K H g vs ds → RpA K H g (vs.take n) (ds.take n)
  | _, _, 0, _ => .nil
  | _, _, _ + 1, .nil => .nil
  | _, _, n + 1, .cons r t => .cons r (RpA.take n t)
theorem RpA.drop : ∀ {vs : List V} {ds : List D} (n : Nat), RpA K H g vs ds → RpA K H g (vs.drop n) (ds.drop n)
  | _, _, 0, r => r
  | _, _, _ + 1, .nil => .nil
  | _, _, n + 1, .cons _ t => RpA.drop n t
theorem RpA.set {v : V} {d : D} (q : Rp K H g v d) : ∀ {vs : List V} {ds : List D} (n : Nat), RpA K H g vs ds → RpA K H g (vs.set n v) (ds.set n d)
  | _, _, _, .nil => .nil
  | _, _, 0, .cons r t => .cons q t
  | _, _, n + 1, .cons r t => .cons r (RpA.set q n t)
theorem RpA.dropLast : ∀ {vs : List V} {ds : List D}, RpA K H g vs ds → RpA K H g vs.dropLast ds.dropLast
  | _, _, .nil => .nil
  | _, _, .cons _ .nil => .nil
  | _, _, .cons r (.cons s t) => .cons r (RpA.dropLast (.cons s t))
end
inductive Root (K : PySem.W.Frag) (H : Hp) (g : Gh) (a : Addr) : D → Prop
  | lst {xs : List V} {ds : List D} : H a = some (.lst xs) → RpA K H g xs ds → Root K H g a (.lst ds)
  | dct {o : HO} {t : Bool} {ks vs : List D} {ws : List V} : H a = some o → DcAt H a o t ks ws → RpA K H g ws vs → Root K H g a (.dct t ks vs)
def D.parts : D → List D
  | .lst ds => ds
  | .dct _ _ vs => vs
  | _ => []
section
variable {K : PySem.W.Frag} {H H' H1 H2 : Hp} {g g' g1 g2 : Gh} {a : Addr} {d : D}
theorem Root.fr (f : Fr H g H' g') (m : Mu H g) (e : H' a = H a) (r : Root K H g a d) : Root K H' g' a d := by
  cases r with
  | lst h r => exact .lst (e.trans h) (r.fr f m)
  | dct h c r => exact .dct (e.trans h) (c.mono fun _ _ q => f.tup m q) (r.fr f m)
theorem Root.rp (r : Root K H g a d) (hb : ¬ g.bad a) : Rp K H g (.ref a) d := by
  cases r with
  | lst h r => exact .lst h hb r
  | dct h c r => exact .dct h c hb r
theorem Root.im (ho : g.om <+: g'.om) (r : Root K H g a d) (i : D.imms d.parts = true) : Root K H g' a d := by
  cases r with
  | lst h r => exact .lst h (r.im ho i)
  | dct h c r => exact .dct h c (r.im ho i)
theorem Root.there (r : Root K H g a d) : H a ≠ none := by
  cases r with
  | lst h r => rw [h]; simp
  | dct h c r => rw [h]; simp
theorem Root.mut (r : Root K H g a d) : Mut (H a) := by
  cases r with
  | lst h r => rw [h]; trivial
  | dct h c r => rw [h]; cases c <;> trivial
end
inductive Slot where
  | un | dat (d : D) | own (d : D)
  deriving DecidableEq
structure Sx where
  env : List Slot
  objs : List D
inductive Res where
  | dat (d : D) | new (d : D) | own (i : Nat) (d : D)
  deriving DecidableEq
def Res.d : Res → D
  | .dat d => d
  | .new d => d
  | .own _ d => d
structure Exn where
  cls : Str
  fs : Option (List (Str × D))
def M (α : Type) : Type := Sx → Option (Except Exn α × Sx)
def M.ret {α : Type} (a : α) : M α := fun s => some (.ok a, s)
def M.bnd {α β : Type} (f : M α) (k : α → M β) : M β := fun s => match f s with
  | none => none
  | some (.error x, s') => some (.error x, s')
  | some (.ok a, s') => k a s'
instance : Monad M where
  pure := M.ret
  bind := M.bnd
def M.no {α : Type} : M α := fun _ => none
theorem bind_ok {α β : Type} {f : M α} {k : α → M β} {s s' : Sx} {a : α} (h : f s = some (.ok a, s')) : (f >>= k) s = k a s' := by
  show M.bnd f k s = _
  unfold M.bnd
  rw [h]
structure Zx where
  H0 : Hp
  bad0 : Addr → Prop
  om0 : List Addr
  W : WX
structure SR (K : PySem.W.Frag) (z : Zx) (S : Sx) (σ : St) (H : Hp) (g : Gh) : Prop where
  len : S.env.length = σ.length
  dat : ∀ (i : Nat) (d : D), S.env[i]? = some (.dat d) → ∃ v, σ[i]? = some (some v) ∧ Rp K H g v d
  own : ∀ (i : Nat) (d : D), S.env[i]? = some (.own d) → ∃ a, σ[i]? = some (some (.ref a)) ∧ g.bad a ∧ Root K H g a d ∧ z.H0 a = none ∧ a ∉ g.om
  inj : ∀ (i j : Nat) (d e : D) (a : Addr), S.env[i]? = some (.own d) → S.env[j]? = some (.own e) → σ[i]? = some (some (.ref a)) → σ[j]? = some (some (.ref a)) → i = j
  olen : S.objs.length = g.om.length
  obj : ∀ (n : Nat) (a : Addr) (d : D), g.om[n]? = some a → S.objs[n]? = some d → Root K H g a d ∧ g.bad a
  ond : g.om.Nodup
  mu : Mu H g
  base : ∀ a, z.bad0 a → g.bad a
  b0 : ∀ a, z.bad0 a → z.H0 a ≠ none
  keep : ∀ a o, z.H0 a = some o → a ∉ g.om → H a = some o
  on : ∀ a, a ∈ g.om → a ∈ z.om0 ∨ z.H0 a = none
def ResOk (K : PySem.W.Frag) (z : Zx) (S : Sx) (σ : St) (H : Hp) (g : Gh) (v : V) : Res → Prop
  | .dat d => Rp K H g v d
  | .new d => ∃ a, v = .ref a ∧ g.bad a ∧ Root K H g a d ∧ z.H0 a = none ∧ a ∉ g.om ∧ ∀ (i : Nat) (e : D), S.env[i]? = some (.own e) → σ[i]? ≠ some (some (.ref a))
  | .own i d => S.env[i]? = some (.own d) ∧ σ[i]? = some (some v)
def ExnOk (K : PySem.W.Frag) (mg : Str → Option Value) (H : Hp) (g : Gh) (cls : Value) (dx : Option Addr) (x : Exn) : Prop :=
  mg x.cls = some cls ∧ match x.fs with
    | none => dx = none
    | some fs => ∃ a vs, dx = some a ∧ H a = some (.xd vs) ∧ vs.map (·.1) = fs.map (·.1) ∧ RpA K H g (vs.map (·.2)) (fs.map (·.2))
section
variable {K : PySem.W.Frag} {mg : Str → Option Value} {z : Zx} {S S' : Sx} {σ : St} {H H' : Hp} {g g' : Gh}
def Go (K : PySem.W.Frag) (mg : Str → Option Value) (z : Zx) {α : Type} (f : M α) (S : Sx) (σ : St) (H : Hp) (g : Gh) (P : α → Sx → Hp → Gh → Prop) : Prop :=
  match f S with
  | none => False
  | some (.ok r, S') => ∀ H' g', SR K z S' σ H' g' → Fr H g H' g' → P r S' H' g'
  | some (.error x, S') => ∀ cls dx H' g', SR K z S' σ H' g' → Fr H g H' g' → ExnOk K mg H' g' cls dx x → z.W cls dx σ H'
theorem Go.ok {α : Type} {f : M α} {r : α} {P : α → Sx → Hp → Gh → Prop} (e : f S = some (.ok r, S')) (h : Go K mg z f S σ H g P) (s : SR K z S' σ H' g') (f : Fr H g H' g') : P r S' H' g' := by
  unfold Go at h
  rw [e] at h
  exact h H' g' s f
theorem Go.pure {α : Type} {r : α} {P : α → Sx → Hp → Gh → Prop} (h : Go K mg z (pure r) S σ H g P) (s : SR K z S σ H g) : P r S H g := Go.ok rfl h s (Fr.refl _ _)
theorem Go.bnd {α β : Type} {f : M α} {k : α → M β} {P : β → Sx → Hp → Gh → Prop} (h : Go K mg z (f >>= k) S σ H g P) :
    Go K mg z f S σ H g fun r S1 H1 g1 => Go K mg z (k r) S1 σ H1 g1 P := by
  have e : (f >>= k) S = M.bnd f k S := rfl
  unfold Go at h ⊢
  rw [e] at h
  unfold M.bnd at h
  cases hf : f S with
  | none => rw [hf] at h; exact h
  | some p =>
    obtain ⟨r, S1⟩ := p
    rw [hf] at h
    cases r with
    | error x => exact h
    | ok a =>
      intro H1 g1 s1 f1
      show Go K mg z (k a) S1 σ H1 g1 P
      unfold Go
      revert h
      show (match k a S1 with
        | none => False
        | some (.ok r, S') => ∀ H' g', SR K z S' σ H' g' → Fr H g H' g' → P r S' H' g'
        | some (.error x, S') => ∀ cls dx H' g', SR K z S' σ H' g' → Fr H g H' g' → ExnOk K mg H' g' cls dx x → z.W cls dx σ H') → _
      cases k a S1 with
      | none => exact id
      | some q =>
        obtain ⟨r2, S2⟩ := q
        cases r2 with
        | error x => exact fun h cls dx H2 g2 s2 f2 => h cls dx H2 g2 s2 (f1.trans f2)
        | ok b => exact fun h H2 g2 s2 f2 => h H2 g2 s2 (f1.trans f2)
theorem Go.imp {α : Type} {f : M α} {P Q : α → Sx → Hp → Gh → Prop} (h : Go K mg z f S σ H g P) (hp : ∀ r S' H' g', SR K z S' σ H' g' → Fr H g H' g' → P r S' H' g' → Q r S' H' g') : Go K mg z f S σ H g Q := by
  unfold Go at h ⊢
  cases hf : f S with
  | none => rw [hf] at h; exact h
  | some p =>
    obtain ⟨r, S1⟩ := p
    rw [hf] at h
    cases r with
    | error x => exact h
    | ok a => exact fun H' g' s f => hp _ _ _ _ s f (h H' g' s f)
end
def tD (K : PySem.W.Frag) (mg : Str → Option Value) (z : Zx) (f : M Res) : TE := fun σ H Q => ∃ S g, SR K z S σ H g ∧ Go K mg z f S σ H g fun r S' H' g' => ∀ v, ResOk K z S' σ H' g' v r → Q v H'
def tT (K : PySem.W.Frag) (mg : Str → Option Value) (z : Zx) (f : M Bool) : TT := fun σ H Q => ∃ S g, SR K z S σ H g ∧ Go K mg z f S σ H g fun b _ H' _ => Q b H'
def tA (K : PySem.W.Frag) (mg : Str → Option Value) (z : Zx) (f : M (List Res)) : TA := fun σ H Q => ∃ S g, SR K z S σ H g ∧ Go K mg z f S σ H g fun rs S' H' g' => ∀ vs, Paired (ResOk K z S' σ H' g') vs rs → Q vs H'
inductive Fl where
  | next | brk | cont | ret (r : Res)
def GoS (K : PySem.W.Frag) (mg : Str → Option Value) (z : Zx) (f : M Fl) (S : Sx) (σ : St) (H : Hp) (g : Gh) (D : Ends) : Prop :=
  match f S with
  | none => False
  | some (.ok .next, S') => ∀ σ' H' g', SR K z S' σ' H' g' → Fr H g H' g' → D.nx σ' H'
  | some (.ok .brk, S') => ∀ σ' H' g', SR K z S' σ' H' g' → Fr H g H' g' → D.bk σ' H'
  | some (.ok .cont, S') => ∀ σ' H' g', SR K z S' σ' H' g' → Fr H g H' g' → D.ct σ' H'
  | some (.ok (.ret r), S') => ∀ σ' H' g' v, SR K z S' σ' H' g' → Fr H g H' g' → ResOk K z S' σ' H' g' v r → D.rt v H'
  | some (.error x, S') => ∀ cls dx σ' H' g', SR K z S' σ' H' g' → Fr H g H' g' → ExnOk K mg H' g' cls dx x → z.W cls dx σ' H'
def tS (K : PySem.W.Frag) (mg : Str → Option Value) (z : Zx) (f : M Fl) : TS := fun D σ H => ∃ S g, SR K z S σ H g ∧ GoS K mg z f S σ H g D
abbrev DE (X : Cx) (z : Zx) (e : Expr) (f : M Res) : Prop := PE X e (tD X.K X.mg z f)
abbrev DT (X : Cx) (z : Zx) (e : Expr) (f : M Bool) : Prop := PT X e (tT X.K X.mg z f)
abbrev DA (X : Cx) (z : Zx) (es : List Expr) (f : M (List Res)) : Prop := PA X es (tA X.K X.mg z f)
abbrev DS (X : Cx) (z : Zx) (st : Stmt) (f : M Fl) : Prop := PS X st (tS X.K X.mg z f)
abbrev DB (X : Cx) (z : Zx) (sts : List Stmt) (f : M Fl) : Prop := PSs X sts (tS X.K X.mg z f)
theorem PE.imp {X : Cx} {e : Expr} {t u : TE} (p : PE X e t) (h : ∀ σ H Q, u σ H Q → t σ H Q) : PE X e u := ⟨fun pins s σ H Q I q => p.run pins s σ H Q I (h σ H Q q)⟩
theorem PT.imp {X : Cx} {e : Expr} {t u : TT} (p : PT X e t) (h : ∀ σ H Q, u σ H Q → t σ H Q) : PT X e u := ⟨fun pins s σ H Q I q => p.run pins s σ H Q I (h σ H Q q)⟩
theorem PA.imp {X : Cx} {e : List Expr} {t u : TA} (p : PA X e t) (h : ∀ σ H Q, u σ H Q → t σ H Q) : PA X e u := ⟨fun pos pins s σ H Q I q => p.run pos pins s σ H Q I (h σ H Q q)⟩
theorem PS.imp {X : Cx} {st : Stmt} {t u : TS} (p : PS X st t) (h : ∀ D σ H, u D σ H → t D σ H) : PS X st u := ⟨fun pins s σ H D I q => p.run pins s σ H D I (h D σ H q)⟩
theorem PSs.imp {X : Cx} {st : List Stmt} {t u : TS} (p : PSs X st t) (h : ∀ D σ H, u D σ H → t D σ H) : PSs X st u := ⟨fun pins s σ H D I q => p.run pins s σ H D I (h D σ H q)⟩
end DL
end
section
set_option maxRecDepth 100000
namespace DL
open PySem PySem.Spec L2
def Gh.add (g : Gh) (a : Addr) : Gh := ⟨fun b => g.bad b ∨ b = a, g.om⟩
def Gh.del (g : Gh) (a : Addr) : Gh := ⟨fun b => g.bad b ∧ b ≠ a, g.om⟩
section
variable {K : PySem.W.Frag} {mg : Str → Option Value} {z : Zx} {S S' : Sx} {σ : L2.St} {H H' : Hp} {g g' : Gh} {v : V} {d : D} {a : Addr} {r : Res}
theorem Fr.upd_new {o : HO} (hp : H a = none) : Fr H g (upd H a o) g :=
  ⟨fun b u h n => ⟨by rw [upd_ne (ne_of_none h hp)]; exact h, n⟩, List.prefix_rfl⟩
theorem Fr.upd_add {o : HO} (hp : H a = none) : Fr H g (upd H a o) (g.add a) :=
  ⟨fun b u h n => ⟨by rw [upd_ne (ne_of_none h hp)]; exact h, fun q => q.elim n (ne_of_none h hp)⟩, List.prefix_rfl⟩
theorem Fr.del : Fr H g H (g.del a) := Fr.less (fun _ q => q.1) rfl
theorem SR.om_there (s : SR K z S σ H g) (h : a ∈ g.om) : H a ≠ none := by
  obtain ⟨n, hn⟩ := List.mem_iff_getElem?.mp h
  have hl : n < S.objs.length := by rw [s.olen]; exact (List.getElem?_eq_some_iff.mp hn).1
  exact (s.obj n a _ hn (List.getElem?_eq_getElem hl)).1.there
theorem SR.own_there (s : SR K z S σ H g) {i : Nat} (h : S.env[i]? = some (.own d)) (e : σ[i]? = some (some (.ref a))) : H a ≠ none := by
  obtain ⟨b, e1, _, r, _⟩ := s.own i d h
  rw [e] at e1; cases e1
  exact r.there
theorem SR.fresh0 (s : SR K z S σ H g) (h : H a = none) : z.H0 a = none := by
  cases q : z.H0 a with
  | none => rfl
  | some o =>
    by_cases hm : a ∈ g.om
    · exact absurd h (s.om_there hm)
    · rw [s.keep a o q hm] at h; cases h
theorem SR.upd_new {o : HO} (s : SR K z S σ H g) (hp : H a = none) : SR K z S σ (upd H a o) g where
  len := s.len
  dat := fun i d e => let ⟨v, e1, r⟩ := s.dat i d e; ⟨v, e1, r.fr (Fr.upd_new hp) s.mu⟩
  own := fun i d e => let ⟨b, e1, hb, r, h0, ho⟩ := s.own i d e; ⟨b, e1, hb, r.fr (Fr.upd_new hp) s.mu (upd_ne fun q => r.there (q ▸ hp)), h0, ho⟩
  inj := s.inj
  olen := s.olen
  obj := fun n b d e1 e2 => let ⟨r, hb⟩ := s.obj n b d e1 e2; ⟨r.fr (Fr.upd_new hp) s.mu (upd_ne fun q => r.there (q ▸ hp)), hb⟩
  ond := s.ond
  mu := fun b hb => by
    have := s.mu b hb
    by_cases q : b = a
    · subst q; rw [hp] at this; exact this.elim
    · rw [upd_ne q]; exact this
  base := s.base
  b0 := s.b0
  keep := fun b u h0 hm => by
    have := s.keep b u h0 hm
    rw [upd_ne (ne_of_none this hp)]; exact this
  on := s.on
theorem SR.add (s : SR K z S σ H g) (hm : Mut (H a)) (hf : ∀ b d, Rp K H g (.ref b) d → True) (h0 : z.H0 a = none) (hn : Fr H g H (g.add a)) : SR K z S σ H (g.add a) where
  len := s.len
  dat := fun i d e => let ⟨v, e1, r⟩ := s.dat i d e; ⟨v, e1, r.fr hn s.mu⟩
  own := fun i d e => let ⟨b, e1, hb, r, h0, ho⟩ := s.own i d e; ⟨b, e1, .inl hb, r.fr hn s.mu rfl, h0, ho⟩
  inj := s.inj
  olen := s.olen
  obj := fun n b d e1 e2 => let ⟨r, hb⟩ := s.obj n b d e1 e2; ⟨r.fr hn s.mu rfl, .inl hb⟩
  ond := s.ond
  mu := fun b hb => hb.elim (s.mu b) fun q => q ▸ hm
  base := fun b hb => .inl (s.base b hb)
  b0 := s.b0
  keep := s.keep
  on := s.on
theorem SR.alloc {o : HO} (s : SR K z S σ H g) (hp : H a = none) (hm : Mut (some o)) : SR K z S σ (upd H a o) (g.add a) where
  len := s.len
  dat := fun i d e => let ⟨v, e1, r⟩ := s.dat i d e; ⟨v, e1, r.fr (Fr.upd_add hp) s.mu⟩
  own := fun i d e => let ⟨b, e1, hb, r, h0, ho⟩ := s.own i d e; ⟨b, e1, .inl hb, r.fr (Fr.upd_add hp) s.mu (upd_ne fun q => r.there (q ▸ hp)), h0, ho⟩
  inj := s.inj
  olen := s.olen
  obj := fun n b d e1 e2 => let ⟨r, hb⟩ := s.obj n b d e1 e2; ⟨r.fr (Fr.upd_add hp) s.mu (upd_ne fun q => r.there (q ▸ hp)), .inl hb⟩
  ond := s.ond
  mu := fun b hb => by
    by_cases q : b = a
    · subst q; rw [upd_same]; exact hm
    · rw [upd_ne q]
      exact hb.elim (s.mu b) fun z => absurd z q
  base := fun b hb => .inl (s.base b hb)
  b0 := s.b0
  keep := fun b u h0 hm => by
    have := s.keep b u h0 hm
    rw [upd_ne (ne_of_none this hp)]; exact this
  on := s.on
theorem SR.alloc_lst {xs : List V} {ds : List D} (s : SR K z S σ H g) (hp : H a = none) (r : RpA K H g xs ds) :
    ResOk K z S σ (upd H a (.lst xs)) (g.add a) (.ref a) (.new (.lst ds)) :=
  ⟨a, rfl, .inr rfl, .lst upd_same (r.fr (Fr.upd_add hp) s.mu), s.fresh0 hp, fun hm => s.om_there hm hp, fun i e h q => s.own_there h q hp⟩
theorem SR.alloc_dct {o : HO} {t : Bool} {xs : List V} {ks ds : List D} (s : SR K z S σ H g) (hp : H a = none) (c : DcAt (upd H a o) a o t ks xs) (r : RpA K H g xs ds) :
    ResOk K z S σ (upd H a o) (g.add a) (.ref a) (.new (.dct t ks ds)) :=
  ⟨a, rfl, .inr rfl, .dct upd_same c (r.fr (Fr.upd_add hp) s.mu), s.fresh0 hp, fun hm => s.om_there hm hp, fun i e h q => s.own_there h q hp⟩
theorem SR.alloc_tup {xs : List V} {ds : List D} (s : SR K z S σ H g) (hp : H a = none) (r : RpA K H g xs ds) :
    ResOk K z S σ (upd H a (.tup xs)) g (.ref a) (.dat (.tup ds)) := .tup upd_same (r.fr (Fr.upd_new hp) s.mu)
theorem SR.del (s : SR K z S σ H g) (h0 : z.H0 a = none) (hm : a ∉ g.om) (hn : ∀ (i : Nat) (e : D), S.env[i]? = some (.own e) → σ[i]? ≠ some (some (.ref a))) : SR K z S σ H (g.del a) where
  len := s.len
  dat := fun i d e => let ⟨v, e1, r⟩ := s.dat i d e; ⟨v, e1, r.fr Fr.del s.mu⟩
  own := fun i d e => let ⟨b, e1, hb, r, h0, ho⟩ := s.own i d e; ⟨b, e1, ⟨hb, fun q => hn i d e (q ▸ e1)⟩, r.fr Fr.del s.mu rfl, h0, ho⟩
  inj := s.inj
  olen := s.olen
  obj := fun n b d e1 e2 => let ⟨r, hb⟩ := s.obj n b d e1 e2; ⟨r.fr Fr.del s.mu rfl, hb, fun q => hm (q ▸ List.mem_iff_getElem?.mpr ⟨n, e1⟩)⟩
  ond := s.ond
  mu := fun b hb => s.mu b hb.1
  base := fun b hb => ⟨s.base b hb, fun q => s.b0 b hb (q ▸ h0)⟩
  b0 := s.b0
  keep := s.keep
  on := s.on
def Sx.put (S : Sx) (i : Nat) (x : Slot) : Sx := { S with env := S.env.set i x }
def useM : Res → M D
  | .dat d => pure d
  | .new d => pure d
  | .own i d => fun S => if S.env[i]? = some (.own d) then some (.ok d, S.put i (.dat d)) else none
theorem useM_own (i : Nat) (d : D) (S : Sx) : useM (.own i d) S = if S.env[i]? = some (.own d) then some (.ok d, S.put i (.dat d)) else none := rfl
theorem set_get {α : Type} {l : List α} {i j : Nat} {x y : α} (h : (l.set i x)[j]? = some y) : (i = j ∧ y = x) ∨ (i ≠ j ∧ l[j]? = some y) := by
  by_cases e : i = j
  · subst e
    by_cases hl : i < l.length
    · rw [List.getElem?_set_self hl] at h; cases h; exact .inl ⟨rfl, rfl⟩
    · rw [List.getElem?_eq_none (by rw [List.length_set]; omega)] at h; cases h
  · rw [List.getElem?_set_ne e] at h; exact .inr ⟨e, h⟩
theorem SR.use_own {i : Nat} (s : SR K z S σ H g) (h : S.env[i]? = some (.own d)) (e : σ[i]? = some (some (.ref a))) : SR K z (S.put i (.dat d)) σ H (g.del a) ∧ Rp K H (g.del a) (.ref a) d := by
  obtain ⟨b, e1, hb, r, h0, ho⟩ := s.own i d h
  rw [e] at e1; cases e1
  have rr : Rp K H (g.del a) (.ref a) d := (r.fr Fr.del s.mu rfl).rp fun q => q.2 rfl
  refine ⟨?_, rr⟩
  constructor
  · show (S.env.set i _).length = _
    rw [List.length_set]; exact s.len
  · intro j d' h'
    rcases set_get h' with ⟨rfl, q⟩ | ⟨_, q⟩
    · cases q; exact ⟨_, e, rr⟩
    · obtain ⟨v, e1, r⟩ := s.dat j d' q
      exact ⟨v, e1, r.fr Fr.del s.mu⟩
  · intro j d' h'
    rcases set_get h' with ⟨rfl, q⟩ | ⟨ne, q⟩
    · cases q
    · obtain ⟨b, e1, hb, r, h0, ho⟩ := s.own j d' q
      exact ⟨b, e1, ⟨hb, fun w => ne (s.inj _ _ _ _ _ h q e (w ▸ e1))⟩, r.fr Fr.del s.mu rfl, h0, ho⟩
  · intro j k d1 d2 b h1 h2
    rcases set_get h1 with ⟨rfl, q⟩ | ⟨_, q1⟩
    · cases q
    · rcases set_get h2 with ⟨rfl, q⟩ | ⟨_, q2⟩
      · cases q
      · exact s.inj j k d1 d2 b q1 q2
  · exact s.olen
  · intro n b d' e1 e2
    obtain ⟨r, hb⟩ := s.obj n b d' e1 e2
    exact ⟨r.fr Fr.del s.mu rfl, hb, fun q => ho (q ▸ List.mem_iff_getElem?.mpr ⟨n, e1⟩)⟩
  · exact s.ond
  · exact fun b hb => s.mu b hb.1
  · exact fun b hb => ⟨s.base b hb, fun q => s.b0 b hb (q ▸ h0)⟩
  · exact s.b0
  · exact s.keep
  · exact s.on
theorem SR.new_del (s : SR K z S σ H g) (r : ResOk K z S σ H g v (.new d)) : ∃ g', SR K z S σ H g' ∧ Fr H g H g' ∧ Rp K H g' v d := by
  obtain ⟨a, rfl, hb, r, h0, ho, hn⟩ := r
  exact ⟨g.del a, s.del h0 ho hn, Fr.del, (r.fr Fr.del s.mu rfl).rp fun q => q.2 rfl⟩
theorem Go.use {α : Type} {k : D → M α} {P : α → Sx → Hp → Gh → Prop} (s : SR K z S σ H g) (r0 : ResOk K z S σ H g v r) (h : Go K mg z (useM r >>= k) S σ H g P) :
    ∃ S' g', SR K z S' σ H g' ∧ Fr H g H g' ∧ Rp K H g' v r.d ∧ Go K mg z (k r.d) S' σ H g' P := by
  cases r with
  | dat d => exact ⟨S, g, s, Fr.refl _ _, r0, (h.bnd).pure s⟩
  | new d =>
    obtain ⟨g', s', f, r⟩ := s.new_del r0
    exact ⟨S, g', s', f, r, Go.ok (S' := S) rfl h.bnd s' f⟩
  | own i d =>
    obtain ⟨e1, e2⟩ := r0
    obtain ⟨a, e3, _⟩ := s.own i d e1
    rw [e2] at e3; cases e3
    obtain ⟨s', r⟩ := s.use_own e1 e2
    exact ⟨_, _, s', Fr.del, r, Go.ok (by rw [useM_own, if_pos e1]; rfl) h.bnd s' Fr.del⟩
def Res.hold : Res → Res
  | .new d => .dat d
  | r => r
theorem Res.hold_d (r : Res) : r.hold.d = r.d := by cases r <;> rfl
theorem SR.hold (s : SR K z S σ H g) (r0 : ResOk K z S σ H g v r) : ∃ g', SR K z S σ H g' ∧ Fr H g H g' ∧ ResOk K z S σ H g' v r.hold := by
  cases r with
  | dat d => exact ⟨g, s, Fr.refl _ _, r0⟩
  | new d =>
    obtain ⟨g', s', f, r⟩ := s.new_del r0
    exact ⟨g', s', f, r⟩
  | own i d => exact ⟨g, s, Fr.refl _ _, r0⟩
def chkM : Res → M Unit
  | .own i d => fun S => if S.env[i]? = some (.own d) then some (.ok (), S) else none
  | _ => pure ()
theorem chkM_own (i : Nat) (d : D) (S : Sx) : chkM (.own i d) S = if S.env[i]? = some (.own d) then some (.ok (), S) else none := rfl
theorem Go.chk {α : Type} {k : Unit → M α} {P : α → Sx → Hp → Gh → Prop} (s : SR K z S σ H g) (s' : SR K z S' σ H' g') (f : Fr H g H' g') (hr : r.hold = r) (r0 : ResOk K z S σ H g v r) (h : Go K mg z (chkM r >>= k) S' σ H' g' P) :
    ResOk K z S' σ H' g' v r ∧ Go K mg z (k ()) S' σ H' g' P := by
  cases r with
  | dat d => exact ⟨Rp.fr f s.mu r0, h.bnd.pure s'⟩
  | new d => cases hr
  | own i d =>
    by_cases e : S'.env[i]? = some (.own d)
    · exact ⟨⟨e, r0.2⟩, Go.ok (by rw [chkM_own, if_pos e]) h.bnd s' (Fr.refl _ _)⟩
    · have q := h.bnd
      unfold Go at q
      rw [chkM_own, if_neg e] at q
      exact q.elim
def Pk (K : PySem.W.Frag) (H : Hp) (g : Gh) (v : V) (d : D) : Prop := Rp K H g v d ∨ ∃ a, v = .ref a ∧ Root K H g a d
theorem SR.pk (s : SR K z S σ H g) (r0 : ResOk K z S σ H g v r) : Pk K H g v r.d := by
  cases r with
  | dat d => exact .inl r0
  | new d => obtain ⟨a, rfl, _, r, _⟩ := r0; exact .inr ⟨a, rfl, r⟩
  | own i d =>
    obtain ⟨e1, e2⟩ := r0
    obtain ⟨a, e3, _, r, _⟩ := s.own i d e1
    rw [e2] at e3; cases e3
    exact .inr ⟨a, rfl, r⟩
theorem Pk.lst {ds : List D} (p : Pk K H g v (.lst ds)) : ∃ a xs, v = .ref a ∧ H a = some (.lst xs) ∧ RpA K H g xs ds := by
  rcases p with p | ⟨a, rfl, p⟩
  · cases p with | lst h _ r => exact ⟨_, _, rfl, h, r⟩
  · cases p with | lst h r => exact ⟨_, _, rfl, h, r⟩
theorem Pk.dct {t : Bool} {ks vs : List D} (p : Pk K H g v (.dct t ks vs)) : ∃ a o ws, v = .ref a ∧ H a = some o ∧ DcAt H a o t ks ws ∧ RpA K H g ws vs := by
  rcases p with p | ⟨a, rfl, p⟩
  · cases p with | dct h c _ r => exact ⟨_, _, _, rfl, h, c, r⟩
  · cases p with | dct h c r => exact ⟨_, _, _, rfl, h, c, r⟩
theorem Pk.tup {ds : List D} (p : Pk K H g v (.tup ds)) : ∃ a xs, v = .ref a ∧ H a = some (.tup xs) ∧ RpA K H g xs ds := by
  rcases p with p | ⟨a, rfl, p⟩
  · cases p with | tup h r => exact ⟨_, _, rfl, h, r⟩
  · cases p
theorem Pk.rol {ds : List D} (p : Pk K H g v (.rol ds)) : ∃ a xs, v = .ref a ∧ RoL K H a xs ∧ RpA K H g xs ds := by
  rcases p with p | ⟨a, rfl, p⟩
  · cases p with | rol h r => exact ⟨_, _, rfl, h, r⟩
  · cases p
theorem Pk.int {i : Int} (p : Pk K H g v (.int i)) : v = .int i := by
  rcases p with p | ⟨a, rfl, p⟩ <;> cases p <;> rfl
theorem Pk.bl {i : Bool} (p : Pk K H g v (.bl i)) : v = .bl i := by
  rcases p with p | ⟨a, rfl, p⟩ <;> cases p <;> rfl
theorem Pk.str {i : Str} (p : Pk K H g v (.str i)) : v = .str i := by
  rcases p with p | ⟨a, rfl, p⟩ <;> cases p <;> rfl
theorem Pk.non (p : Pk K H g v .non) : v = .non := by
  rcases p with p | ⟨a, rfl, p⟩ <;> cases p <;> rfl
theorem Pk.fr (p : Pk K H g v d) (f : Fr H g H g') (m : Mu H g) : Pk K H g' v d := by
  rcases p with p | ⟨a, e, p⟩
  · exact .inl (p.fr f m)
  · exact .inr ⟨a, e, p.fr f m rfl⟩
end
end DL
end
section
set_option maxRecDepth 100000
namespace DL
open PySem PySem.Spec L2
section
variable {X : Cx} {z : Zx} {S S' : Sx} {σ : L2.St} {H H' : Hp} {g g' : Gh} {v : V} {d : D} {a : Addr} {r : Res} {pos : Pos}
theorem Go.at {K : PySem.W.Frag} {mg : Str → Option Value} {α : Type} {f : M α} {P : α → Sx → Hp → Gh → Prop} (h : Go K mg z f S σ H g P) (fr : Fr H g H' g') : Go K mg z f S σ H' g' P := by
  unfold Go at h ⊢
  cases hf : f S with
  | none => rw [hf] at h; exact h
  | some p =>
    obtain ⟨r, S1⟩ := p
    rw [hf] at h
    cases r with
    | error x => exact fun cls dx H2 g2 s2 f2 => h cls dx H2 g2 s2 (fr.trans f2)
    | ok a => exact fun H2 g2 s2 f2 => h H2 g2 s2 (fr.trans f2)
theorem Go.none {K : PySem.W.Frag} {mg : Str → Option Value} {α : Type} {P : α → Sx → Hp → Gh → Prop} (h : Go K mg z (M.no : M α) S σ H g P) : False := h
def kM (d : D) : M Res := pure (.dat d)
def varM (i : Nat) : M Res := fun S => match S.env[i]? with
  | some (.dat d) => some (.ok (.dat d), S)
  | some (.own d) => some (.ok (.own i d), S)
  | _ => none
theorem de_int {i : Int} {j : Nat} : DE X z (.Constant (.int i) j pos) (kM (.int i)) :=
  PE.imp pe_int fun σ H Q ⟨S, g, s, h⟩ => h.pure s _ (.int i)
theorem de_bl {i : Bool} {j : Nat} : DE X z (.Constant (.bool i) j pos) (kM (.bl i)) :=
  PE.imp pe_bl fun σ H Q ⟨S, g, s, h⟩ => h.pure s _ (.bl i)
theorem de_str {i : Str} {j : Nat} : DE X z (.Constant (.str i) j pos) (kM (.str i)) :=
  PE.imp pe_str fun σ H Q ⟨S, g, s, h⟩ => h.pure s _ (.str i)
theorem de_non {j : Nat} : DE X z (.Constant .none j pos) (kM .non) :=
  PE.imp pe_non fun σ H Q ⟨S, g, s, h⟩ => h.pure s _ .non
theorem de_var (i : Nat) {x : Str} (hN : X.N[i]? = some x := by rfl) (hv : Vis X.env.scope x := by first | exact Or.inl rfl | exact Or.inr (Or.inl rfl) | exact Or.inr (Or.inr rfl)) (hd : (x == ("__debug__" : Str)) = false := by decide)
    (hcd : (x == ("__classdict__" : Str)) = false := by decide) : DE X z (.Name x pos) (varM i) :=
  PE.imp (pe_var hN hv hd hcd) fun σ H Q ⟨S, g, s, h⟩ => by
    unfold Go varM at h
    cases e : S.env[i]? with
    | none => rw [e] at h; exact h.elim
    | some sl =>
      rw [e] at h
      cases sl with
      | un => exact h.elim
      | dat d =>
        obtain ⟨v, e1, r⟩ := s.dat i d e
        exact ⟨v, e1, h H g s (Fr.refl _ _) v r⟩
      | own d =>
        obtain ⟨a, e1, _⟩ := s.own i d e
        exact ⟨_, e1, h H g s (Fr.refl _ _) _ ⟨e, e1⟩⟩
def OpD (X : Cx) (z : Zx) (r : R2) (op : D → D → M Res) : Prop :=
  ∀ (S : Sx) (σ : L2.St) (H : Hp) (g : Gh) (x y : V) (dx dy : D) (Q : VK), SR X.K z S σ H g → Pk X.K H g x dx → Pk X.K H g y dy →
    Go X.K X.mg z (op dx dy) S σ H g (fun r S' H' g' => ∀ v, ResOk X.K z S' σ H' g' v r → Q v H') → r x y H Q
def binM (op : D → D → M Res) (fa fb : M Res) : M Res := fa >>= fun ra => fb >>= fun rb => chkM ra.hold >>= fun _ => op ra.hold.d rb.d
theorem de_bin {e : Expr} {r : R2} {op : D → D → M Res} {fa fb : M Res} (hd : OpD X z r op) (pe : PE X e (tOp r (tD X.K X.mg z fa) (tD X.K X.mg z fb))) : DE X z e (binM op fa fb) := by
  refine PE.imp pe fun σ H Q ⟨S, g, s, h⟩ => ?_
  refine ⟨S, g, s, h.bnd.imp fun ra S1 H1 g1 s1 f1 h1 x rx => ?_⟩
  obtain ⟨g2, s2, f2, rx2⟩ := s1.hold rx
  refine ⟨S1, g2, s2, (h1.at f2).bnd.imp fun rb S3 H3 g3 s3 f3 h3 y ry => ?_⟩
  obtain ⟨rx3, h4⟩ := Go.chk s2 s3 f3 (by cases ra <;> rfl) rx2 h3
  exact hd S3 σ H3 g3 x y _ _ Q s3 (s3.pk rx3) (s3.pk ry) h4
theorem out_lst {K : PySem.W.Frag} {mg : Str → Option Value} {ds : List D} {xs : List V} {Q : VK} (s : SR K z S σ H g) (r : RpA K H g xs ds) (h : Go K mg z (pure (.new (.lst ds))) S σ H g (fun r S' H' g' => ∀ v, ResOk K z S' σ H' g' v r → Q v H')) :
    ∀ p, H p = none → Q (.ref p) (upd H p (.lst xs)) := fun p hp =>
  Go.ok rfl h (s.alloc hp (o := .lst xs) trivial) (Fr.upd_add hp) _ (s.alloc_lst hp r)
theorem out_tup {K : PySem.W.Frag} {mg : Str → Option Value} {ds : List D} {xs : List V} {Q : VK} (s : SR K z S σ H g) (r : RpA K H g xs ds) (h : Go K mg z (pure (.dat (.tup ds))) S σ H g (fun r S' H' g' => ∀ v, ResOk K z S' σ H' g' v r → Q v H')) :
    ∀ p, H p = none → Q (.ref p) (upd H p (.tup xs)) := fun p hp =>
  Go.ok rfl h (s.upd_new hp) (Fr.upd_new hp) _ (s.alloc_tup hp r)
theorem out_dct {K : PySem.W.Frag} {mg : Str → Option Value} {ds : List D} {Q : VK} (s : SR K z S σ H g) (kvs : List (Key × V)) (r : RpA K H g (kvs.map (·.2)) ds) (h : Go K mg z (pure (.new (.dct false (kvs.map fun p => kD p.1) ds))) S σ H g (fun r S' H' g' => ∀ v, ResOk K z S' σ H' g' v r → Q v H')) :
    ∀ p, H p = none → Q (.ref p) (upd H p (.dK kvs)) := fun p hp =>
  Go.ok rfl h (s.alloc hp (o := .dK kvs) trivial) (Fr.upd_add hp) _ (s.alloc_dct hp (.dK kvs) r)
theorem out_dctN {K : PySem.W.Frag} {mg : Str → Option Value} {Q : VK} (s : SR K z S σ H g) (h : Go K mg z (pure (.new (.dct true [] []))) S σ H g (fun r S' H' g' => ∀ v, ResOk K z S' σ H' g' v r → Q v H')) :
    ∀ p, H p = none → Q (.ref p) (upd H p (NDictO p [])) := fun p hp =>
  Go.ok rfl h (s.alloc hp (o := NDictO p []) trivial) (Fr.upd_add hp) _ (s.alloc_dct hp (.dN [] (fun r m => nomatch m)) .nil)
theorem out_dat {K : PySem.W.Frag} {mg : Str → Option Value} {Q : VK} (s : SR K z S σ H g) (r : Rp K H g v d) (h : Go K mg z (pure (.dat d)) S σ H g (fun r S' H' g' => ∀ v, ResOk K z S' σ H' g' v r → Q v H')) : Q v H := h.pure s v r
def M.need {α : Type} (c : Bool) (f : M α) : M α := fun S => if c = true then f S else none
theorem Go.need {K : PySem.W.Frag} {mg : Str → Option Value} {α : Type} {c : Bool} {f : M α} {P : α → Sx → Hp → Gh → Prop} (h : Go K mg z (M.need c f) S σ H g P) : c = true ∧ Go K mg z f S σ H g P := by
  unfold Go M.need at h
  by_cases e : c = true
  · simp only [if_pos e] at h; exact ⟨e, h⟩
  · simp only [if_neg e] at h
def opAdd : D → D → M Res
  | .int i, .int j => pure (.dat (.int (i + j)))
  | .str a, .str b => M.need (decide (a.length + b.length ≤ sizeLine)) (pure (.dat (.str (a ++ b))))
  | .tup a, .tup b => M.need (decide (a.length + b.length ≤ sizeLine)) (pure (.dat (.tup (a ++ b))))
  | .lst a, .lst b => M.need (decide (a.length + b.length ≤ sizeLine)) (pure (.new (.lst (a ++ b))))
  | _, _ => M.no
def rAddD (K : PySem.W.Frag) : R2 := fun x y H Q => rI0 (fun i j => V.int (i + j)) x y H Q ∨ (∃ i j, x = V.str i ∧ y = V.str j ∧ i.length + j.length ≤ sizeLine ∧ Q (V.str (i ++ j)) H) ∨ rCatA K x y H Q ∨ rCat x y H Q
theorem op_addD : OpR X (binaryOp .Add) (rAddD X.K) := by
  intro pins s σ H x y v u Q I rx ry h
  rcases h with h | h | h | h
  · exact op_add pins s σ H x y v u Q I rx ry h
  · exact op_add_str pins s σ H x y v u Q I rx ry h
  · exact op_catA pins s σ H x y v u Q I rx ry h
  · exact op_cat pins s σ H x y v u Q I rx ry h
theorem RpA.nil_iff {K : PySem.W.Frag} {xs : List V} {ds : List D} (r : RpA K H g xs ds) : xs = [] ↔ ds = [] := by
  cases r <;> simp
theorem od_add : OpD X z (rAddD X.K) opAdd := by
  intro S σ H g x y dx dy Q s px py h
  unfold opAdd at h
  split at h
  · exact .inl ⟨_, _, px.int, py.int, out_dat s (.int _) h⟩
  · obtain ⟨c, h⟩ := h.need
    exact .inr (.inl ⟨_, _, px.str, py.str, of_decide_eq_true c, out_dat s (.str _) h⟩)
  · obtain ⟨c, h⟩ := h.need
    obtain ⟨p, xs, rfl, hx, rx⟩ := px.tup
    obtain ⟨q, ys, rfl, hy, ry⟩ := py.tup
    have c := of_decide_eq_true c
    rw [← rx.length, ← ry.length] at c
    refine .inr (.inr (.inl ⟨p, q, xs, ys, rfl, rfl, SqT.of hx, SqT.of hy, c, fun e => ?_, fun _ e => ?_, fun _ _ => out_tup s (rx.append ry) h⟩))
    · have e' := rx.nil_iff.mp e
      subst e'
      exact out_dat s (.tup hy ry) h
    · have e' := ry.nil_iff.mp e
      subst e'
      rw [List.append_nil] at h
      exact out_dat s (.tup hx rx) h
  · obtain ⟨c, h⟩ := h.need
    obtain ⟨p, xs, rfl, hx, rx⟩ := px.lst
    obtain ⟨q, ys, rfl, hy, ry⟩ := py.lst
    have c := of_decide_eq_true c
    rw [← rx.length, ← ry.length] at c
    exact .inr (.inr (.inr ⟨p, q, xs, ys, rfl, rfl, hx, hy, c, out_lst s (rx.append ry) h⟩))
  · exact h.none.elim
theorem de_add {a b : Expr} {fa fb : M Res} (ha : DE X z a fa) (hb : DE X z b fb) : DE X z (.BinOp a .Add b pos) (binM opAdd fa fb) := de_bin od_add (pe_op op_addD ha hb)
def opI (c : Int → Int → Bool) (f : Int → Int → D) : D → D → M Res
  | .int i, .int j => M.need (c i j) (pure (.dat (f i j)))
  | _, _ => M.no
theorem od_int {c : Int → Int → Bool} {C : Int → Int → Prop} {f : Int → Int → Int} (hc : ∀ i j, c i j = true → C i j) : OpD X z (rI C fun i j => .int (f i j)) (opI c fun i j => .int (f i j)) := by
  intro S σ H g x y dx dy Q s px py h
  unfold opI at h
  split at h
  · obtain ⟨c, h⟩ := h.need
    exact ⟨_, _, px.int, py.int, hc _ _ c, out_dat s (.int _) h⟩
  · exact h.none.elim
theorem od_int0 {f : Int → Int → Int} : OpD X z (rI0 fun i j => .int (f i j)) (opI (fun _ _ => true) fun i j => .int (f i j)) := by
  intro S σ H g x y dx dy Q s px py h
  unfold opI at h
  split at h
  · exact ⟨_, _, px.int, py.int, out_dat s (.int _) h.need.2⟩
  · exact h.none.elim
theorem od_cmp {f : Int → Int → Bool} : OpD X z (rI0 fun i j => .bl (f i j)) (opI (fun _ _ => true) fun i j => .bl (f i j)) := by
  intro S σ H g x y dx dy Q s px py h
  unfold opI at h
  split at h
  · exact ⟨_, _, px.int, py.int, out_dat s (.bl _) h.need.2⟩
  · exact h.none.elim
def opSub : D → D → M Res := opI (fun _ _ => true) fun i j => .int (i - j)
def opMul : D → D → M Res := opI (fun i j => decide ((-(2 ^ 64) < i ∧ i < 2 ^ 64) ∨ (-(2 ^ 64) < j ∧ j < 2 ^ 64))) fun i j => .int (i * j)
def opMod : D → D → M Res := opI (fun _ j => decide (j ≠ 0)) fun i j => .int (i.fmod j)
def opDiv : D → D → M Res := opI (fun _ j => decide (j ≠ 0 ∧ j.natAbs < 1073741824)) fun i j => .int (i.fdiv j)
def opPow : D → D → M Res := opI (fun i j => decide (0 ≤ j ∧ j ≤ 1000000 ∧ i.natAbs < 2 ^ 64)) fun i j => .int (i ^ j.toNat)
def opLt : D → D → M Res := opI (fun _ _ => true) fun i j => .bl (decide (i < j))
def opLe : D → D → M Res := opI (fun _ _ => true) fun i j => .bl (decide (i ≤ j))
def opGt : D → D → M Res := opI (fun _ _ => true) fun i j => .bl (decide (j < i))
def opGe : D → D → M Res := opI (fun _ _ => true) fun i j => .bl (decide (j ≤ i))
variable {a b : Expr} {fa fb : M Res}
theorem de_sub (ha : DE X z a fa) (hb : DE X z b fb) : DE X z (.BinOp a .Sub b pos) (binM opSub fa fb) := de_bin od_int0 (pe_op op_sub ha hb)
theorem de_mul (ha : DE X z a fa) (hb : DE X z b fb) : DE X z (.BinOp a .Mult b pos) (binM opMul fa fb) := de_bin (od_int fun _ _ => of_decide_eq_true) (pe_op op_mul ha hb)
theorem de_mod (ha : DE X z a fa) (hb : DE X z b fb) : DE X z (.BinOp a .Mod b pos) (binM opMod fa fb) := de_bin (od_int fun _ _ => of_decide_eq_true) (pe_op op_modN ha hb)
theorem de_div (ha : DE X z a fa) (hb : DE X z b fb) : DE X z (.BinOp a .FloorDiv b pos) (binM opDiv fa fb) := de_bin (od_int fun _ _ => of_decide_eq_true) (pe_op op_fdivN ha hb)
theorem de_pow (ha : DE X z a fa) (hb : DE X z b fb) : DE X z (.BinOp a .Pow b pos) (binM opPow fa fb) := de_bin (od_int fun _ _ => of_decide_eq_true) (pe_op op_pow ha hb)
mutual
def D.py : D → Option PyData
  | .non => some .none
  | .bl b => some (.bool b)
  | .int i => some (.int i)
  | .str x => some (.str x)
  | .tup ds => (D.pys ds).map .tuple
  | .lst ds => (D.pys ds).map .list
  | .rol ds => (D.pys ds).map .list
  | _ => none
def D.pys : List D → Option (List PyData)
  | [] => some []
  | d :: r => (D.py d).bind fun p => (D.pys r).map fun q => p :: q
end
mutual
theorem Rp.dp {K : PySem.W.Frag} {v : V} : ∀ {d : D} {p : PyData}, Rp K H g v d → d.py = some p → Dp K H v p
  | _, p, .non, e => by simp [D.py] at e; subst e; exact .non
  | _, p, .bl b, e => by simp [D.py] at e; subst e; exact .bl b
  | _, p, .int b, e => by simp [D.py] at e; subst e; exact .int b
  | _, p, .str b, e => by simp [D.py] at e; subst e; exact .str b
  | _, p, .tup h r, e => by
    simp only [D.py, Option.map_eq_some_iff] at e
    obtain ⟨q, e, rfl⟩ := e
    exact .tup (SqT.of h) (RpA.dp r e)
  | _, p, .lst h n r, e => by
    simp only [D.py, Option.map_eq_some_iff] at e
    obtain ⟨q, e, rfl⟩ := e
    exact .lst (SqL.of h) (RpA.dp r e)
  | _, p, .rol h r, e => by
    simp only [D.py, Option.map_eq_some_iff] at e
    obtain ⟨q, e, rfl⟩ := e
    exact .lst h.sq (RpA.dp r e)
  | _, p, .dct h c n r, e => by simp [D.py] at e
  | _, p, .obj h, e => by simp [D.py] at e
  | _, p, .opq v, e => by simp [D.py] at e
  | _, p, .rdc h c r, e => by simp [D.py] at e
theorem RpA.dp {K : PySem.W.Frag} {vs : List V} : ∀ {ds : List D} {ps : List PyData}, RpA K H g vs ds → D.pys ds = some ps → DpAll K H vs ps
  | _, ps, .nil, e => by simp [D.pys] at e; subst e; exact .nil
  | _, ps, .cons h r, e => by
    simp only [D.pys, Option.bind_eq_some_iff, Option.map_eq_some_iff] at e
    obtain ⟨p, e1, q, e2, rfl⟩ := e
    exact .cons (Rp.dp h e1) (RpA.dp r e2)
end
theorem Pk.dp {K : PySem.W.Frag} {p : PyData} (h : Pk K H g v d) (e : d.py = some p) : Dp K H v p := by
  rcases h with h | ⟨a, rfl, h⟩
  · exact h.dp e
  · cases h with
    | lst h r =>
      simp only [D.py, Option.map_eq_some_iff] at e
      obtain ⟨q, e, rfl⟩ := e
      exact .lst (SqL.of h) (r.dp e)
    | dct h c r => simp [D.py] at e
def D.eqv (d e : D) : Option Bool := match d.py, e.py with
  | some p, some q => if SeqAt.shaped p && SeqAt.shaped q then some (PyData.eqv p q) else none
  | _, _ => none
def M.opt {α β : Type} (o : Option α) (k : α → M β) : M β := match o with
  | some a => k a
  | none => M.no
theorem Go.opt {K : PySem.W.Frag} {mg : Str → Option Value} {α β : Type} {o : Option α} {k : α → M β} {P : β → Sx → Hp → Gh → Prop} (h : Go K mg z (M.opt o k) S σ H g P) : ∃ a, o = some a ∧ Go K mg z (k a) S σ H g P := by
  cases o with
  | none => exact h.none.elim
  | some a => exact ⟨a, rfl, h⟩
def opEq (neg : Bool) (d e : D) : M Res := M.opt (d.eqv e) fun b => pure (.dat (.bl (b != neg)))
theorem od_eq : OpD X z (rEqD X.K) (opEq false) := by
  intro S σ H g x y dx dy Q s px py h
  obtain ⟨b, e, h⟩ := h.opt
  unfold D.eqv at e
  split at e
  · rename_i p q e1 e2
    split at e
    · rename_i c
      cases e
      simp only [Bool.and_eq_true] at c
      refine ⟨p, q, px.dp e1, py.dp e2, c.1, c.2, ?_⟩
      have := out_dat s (.bl _) h
      simpa using this
    · cases e
  · cases e
theorem od_ne : OpD X z (rNeD X.K) (opEq true) := by
  intro S σ H g x y dx dy Q s px py h
  obtain ⟨b, e, h⟩ := h.opt
  unfold D.eqv at e
  split at e
  · rename_i p q e1 e2
    split at e
    · rename_i c
      cases e
      simp only [Bool.and_eq_true] at c
      refine ⟨p, q, px.dp e1, py.dp e2, c.1, c.2, ?_⟩
      have := out_dat s (.bl _) h
      simpa using this
    · cases e
  · cases e
theorem de_eq (hu : X.A.units + 64 < cLine) (ha : DE X z a fa) (hb : DE X z b fb) : DE X z (.Compare a [.Eq] [b] pos) (binM (opEq false) fa fb) := de_bin od_eq (pe_cmpR (op_eqD hu) ha hb (nomark _))
end
end DL
end
section
set_option maxRecDepth 100000
namespace DL
open PySem PySem.Spec L2
section
variable {X : Cx} {z : Zx} {S S' : Sx} {σ : L2.St} {H H' : Hp} {g g' : Gh} {v : V} {d : D} {r : Res} {pos : Pos} {a b c : Expr} {fa fb fc : M Res}
def D.key : D → Option Key
  | .int i => some (.inl i)
  | .str x => some (.inr x)
  | _ => none
def D.keys : List D → Option (List Key)
  | [] => some []
  | d :: r => d.key.bind fun k => (D.keys r).map fun q => k :: q
theorem key_kD : ∀ {d : D} {k : Key}, d.key = some k → d = kD k
  | .int i, k, e => by simp [D.key] at e; subst e; rfl
  | .str i, k, e => by simp [D.key] at e; subst e; rfl
  | .non, k, e => by simp [D.key] at e
  | .bl _, k, e => by simp [D.key] at e
  | .tup _, k, e => by simp [D.key] at e
  | .lst _, k, e => by simp [D.key] at e
  | .rol _, k, e => by simp [D.key] at e
  | .dct _ _ _, k, e => by simp [D.key] at e
  | .obj _, k, e => by simp [D.key] at e
  | .opq _, k, e => by simp [D.key] at e
theorem kD_key (k : Key) : (kD k).key = some k := by cases k <;> rfl
theorem kD_inj {k l : Key} (h : kD k = kD l) : k = l := by
  have := congrArg D.key h
  rw [kD_key, kD_key] at this
  exact Option.some.inj this
theorem Pk.key {K : PySem.W.Frag} {k : Key} (h : Pk K H g v d) (e : d.key = some k) : v = kV k := by
  have := key_kD e
  subst this
  cases k with
  | inl i => exact h.int
  | inr x => exact h.str
theorem RpA.kV {K : PySem.W.Frag} : ∀ {vs : List V} {ks : List Key}, RpA K H g vs (ks.map kD) → vs = ks.map L2.kV
  | _, [], .nil => rfl
  | _, k :: r, .cons h t => by
    rw [List.map_cons, ← RpA.kV t, Pk.key (.inl h) (kD_key k)]
def D.look : List D → List D → D → Option D
  | k :: ks, v :: vs, d => if k = d then some v else D.look ks vs d
  | _, _, _ => none
def D.putK (ks : List D) (d : D) : List D := if d ∈ ks then ks else ks ++ [d]
def D.setV : List D → List D → D → D → List D
  | k :: ks, v :: vs, d, x => (if k = d then x else v) :: D.setV ks vs d x
  | _, _, _, _ => []
def D.putV (ks vs : List D) (d x : D) : List D := if d ∈ ks then D.setV ks vs d x else vs ++ [x]
section
variable {κ : Type} [DecidableEq κ] {K : PySem.W.Frag}
theorem look_of {c : κ → D} (hc : ∀ k l, c k = c l → k = l) (k : κ) : ∀ {kvs : List (κ × V)} {vs : List D}, RpA K H g (kvs.map (·.2)) vs →
    (∀ d, D.look (kvs.map fun p => c p.1) vs (c k) = some d → ∃ w, valV kvs k = some w ∧ Rp K H g w d) ∧ (D.look (kvs.map fun p => c p.1) vs (c k) = none → valV kvs k = none)
  | [], _, .nil => ⟨fun d e => by simp [D.look] at e, fun _ => rfl⟩
  | p :: r, d :: vs, .cons h t => by
    obtain ⟨i1, i2⟩ := look_of hc k t
    by_cases e : p.1 = k
    · rw [valV_pos e]
      simp only [List.map_cons, D.look, e, if_true]
      exact ⟨fun d' e' => by cases e'; exact ⟨_, rfl, h⟩, fun q => by cases q⟩
    · rw [valV_neg e]
      have e' : ¬ c p.1 = c k := fun q => e (hc _ _ q)
      simp only [List.map_cons, D.look, if_neg e']
      exact ⟨i1, i2⟩
theorem setV_of {c : κ → D} (hc : ∀ k l, c k = c l → k = l) (k : κ) (x : V) (dx : D) (hx : Rp K H g x dx) : ∀ {kvs : List (κ × V)} {vs : List D}, RpA K H g (kvs.map (·.2)) vs →
    RpA K H g ((kvs.map fun kv => if kv.1 = k then (kv.1, x) else kv).map (·.2)) (D.setV (kvs.map fun p => c p.1) vs (c k) dx)
  | [], _, .nil => .nil
  | p :: r, d :: vs, .cons h t => by
    by_cases e : p.1 = k
    · simp only [List.map_cons, D.setV, e, if_true]
      exact .cons hx (setV_of hc k x dx hx t)
    · have e' : ¬ c p.1 = c k := fun q => e (hc _ _ q)
      simp only [List.map_cons, D.setV, if_neg e, if_neg e']
      exact .cons h (setV_of hc k x dx hx t)
theorem any_mem {c : κ → D} (hc : ∀ k l, c k = c l → k = l) (k : κ) : ∀ kvs : List (κ × V), (kvs.any fun kv => decide (kv.1 = k)) = true ↔ c k ∈ kvs.map fun p => c p.1
  | [] => by simp
  | p :: r => by
    rw [List.any_cons, List.map_cons, List.mem_cons, Bool.or_eq_true, decide_eq_true_eq, any_mem hc k r]
    exact ⟨fun h => h.elim (fun e => .inl (by rw [e])) .inr, fun h => h.elim (fun e => .inl (hc _ _ e).symm) .inr⟩
theorem put_of {c : κ → D} (hc : ∀ k l, c k = c l → k = l) (k : κ) (x : V) (dx : D) (hx : Rp K H g x dx) {kvs : List (κ × V)} {vs : List D} (r : RpA K H g (kvs.map (·.2)) vs) :
    D.putK (kvs.map fun p => c p.1) (c k) = (L2.putK kvs k x).map (fun p => c p.1) ∧ RpA K H g ((L2.putK kvs k x).map (·.2)) (D.putV (kvs.map fun p => c p.1) vs (c k) dx) := by
  unfold D.putK D.putV L2.putK
  by_cases a : (kvs.any fun kv => decide (kv.1 = k)) = true
  · rw [if_pos a, if_pos ((any_mem hc k kvs).mp a), if_pos ((any_mem hc k kvs).mp a)]
    refine ⟨?_, setV_of hc k x dx hx r⟩
    rw [List.map_map]
    refine (List.map_congr_left fun p hp => ?_).symm
    show c (if p.1 = k then (p.1, x) else p).1 = c p.1
    split <;> rfl
  · rw [if_neg a, if_neg (fun q => a ((any_mem hc k kvs).mpr q)), if_neg (fun q => a ((any_mem hc k kvs).mpr q))]
    refine ⟨by rw [List.map_append]; rfl, ?_⟩
    rw [List.map_append]
    exact r.append (.cons hx .nil)
end
mutual
/-- a key of tuples, back from data -/
def D.nk : D → Option NestedKey
  | .non => some .none
  | .int i => some (.num i)
  | .tup ds => (D.nks ds).map .tup
  | _ => none
def D.nks : List D → Option (List NestedKey)
  | [] => some []
  | d :: r => d.nk.bind fun k => (D.nks r).map fun q => k :: q
end
mutual
theorem nk_of {K : PySem.W.Frag} : ∀ {d : D} {k : NestedKey}, d.nk = some k → kN k = d ∧ ∀ v, Rp K H g v d → NK H k v
  | .non, k, e => by simp [D.nk] at e; subst e; exact ⟨rfl, fun v r => by cases r; exact .none⟩
  | .int i, k, e => by simp [D.nk] at e; subst e; exact ⟨rfl, fun v r => by cases r; exact .num i⟩
  | .tup ds, k, e => by
    simp only [D.nk, Option.map_eq_some_iff] at e
    obtain ⟨ks, e1, rfl⟩ := e
    obtain ⟨e2, h⟩ := nks_of (K := K) e1
    refine ⟨by simp only [kN, e2], fun v r => ?_⟩
    cases r with
    | tup hx rx =>
      obtain ⟨l, q⟩ := h _ rx
      exact .mk hx l q
  | .bl _, k, e => by simp [D.nk] at e
  | .str _, k, e => by simp [D.nk] at e
  | .lst _, k, e => by simp [D.nk] at e
  | .rol _, k, e => by simp [D.nk] at e
  | .dct _ _ _, k, e => by simp [D.nk] at e
  | .obj _, k, e => by simp [D.nk] at e
  | .opq _, k, e => by simp [D.nk] at e
  | .rdc _ _ _, k, e => by simp [D.nk] at e
theorem nks_of {K : PySem.W.Frag} : ∀ {ds : List D} {ks : List NestedKey}, D.nks ds = some ks → kNs ks = ds ∧ ∀ vs, RpA K H g vs ds → ks.length = vs.length ∧ ∀ p ∈ ks.zip vs, NK H p.1 p.2
  | [], ks, e => by simp [D.nks] at e; subst e; exact ⟨rfl, fun vs r => by cases r; exact ⟨rfl, by simp⟩⟩
  | d :: r, ks, e => by
    simp only [D.nks, Option.bind_eq_some_iff, Option.map_eq_some_iff] at e
    obtain ⟨k, e1, q, e2, rfl⟩ := e
    obtain ⟨a1, a2⟩ := nk_of (K := K) e1
    obtain ⟨b1, b2⟩ := nks_of (K := K) e2
    refine ⟨by simp only [kNs, a1, b1], fun vs rr => ?_⟩
    cases rr with
    | cons h t =>
      obtain ⟨l, z⟩ := b2 _ t
      refine ⟨by simp [l], fun p m => ?_⟩
      rw [List.zip_cons_cons] at m
      rcases List.mem_cons.mp m with rfl | m
      · exact a2 _ h
      · exact z p m
end
mutual
theorem kN_inj : ∀ {k l : NestedKey}, kN k = kN l → k = l
  | .none, l, h => by cases l <;> simp [kN] at h ⊢
  | .num i, l, h => by cases l <;> simp [kN] at h ⊢; exact h
  | .text i, l, h => by cases l <;> simp [kN] at h ⊢; exact h
  | .tup ks, l, h => by cases l <;> simp [kN] at h ⊢; exact kNs_inj h
theorem kNs_inj : ∀ {k l : List NestedKey}, kNs k = kNs l → k = l
  | [], l, h => by cases l <;> simp [kNs] at h ⊢
  | k :: ks, l, h => by
    cases l with
    | nil => simp [kNs] at h
    | cons a r => simp [kNs] at h; rw [kN_inj h.1, kNs_inj h.2]
end
def AGet (H : Hp) (a : Addr) (y : V) (r : Option V) : Prop := DGet H a y r ∨ NGet H a y r
section
variable {X : Cx} {pins : List (Addr × Obj)} {s : Shared} {a : Addr} {y : V} {u : Value} {o : Option V} {A : Around} {E : Value → Shared → Prop}
theorem a_getItem {Q : Value → Shared → Prop} (hu : A.units + 12 < cLine) (I : Inv X pins σ H s) (g : AGet H a y (some v)) (ry : RelV y u) (h : ∀ w' s', Inv X pins σ H s' → RelV v w' → Q w' s') :
    wpAny (model X.prog X.w) A (getItem (.ref a) u) Q E s := g.elim (fun g => d_getItem (by omega) I g ry h) fun g => n_getItem hu I g ry h
theorem a_in {Q : Value → Shared → Prop} (hu : A.units + 12 < cLine) (I : Inv X pins σ H s) (g : AGet H a y o) (ry : RelV y u) (h : ∀ s', Inv X pins σ H s' → Q (.bool o.isSome) s') :
    wpAny (model X.prog X.w) A (compareOp .In u (.ref a)) Q E s := g.elim (fun g => d_in (by omega) I g ry h) fun g => n_in hu I g ry h
theorem a_notIn {Q : Value → Shared → Prop} (hu : A.units + 12 < cLine) (I : Inv X pins σ H s) (g : AGet H a y o) (ry : RelV y u) (h : ∀ s', Inv X pins σ H s' → Q (.bool (!o.isSome)) s') :
    wpAny (model X.prog X.w) A (compareOp .NotIn u (.ref a)) Q E s := g.elim (fun g => d_notIn (by omega) I g ry h) fun g => n_notIn hu I g ry h
theorem ad_type (I : Inv X pins σ H s) (g : AGet H a y o) : s.TypeIs (.ref a) "dict" := g.elim (dict_typeIs I) (nd_type I)
end
section
variable {K : PySem.W.Frag}
def D.lookKey (t : Bool) (ks vs : List D) (k : D) : Option (Option D) := match t, k with
  | false, .int i => some (D.look ks vs (.int i))
  | false, .str i => some (D.look ks vs (.str i))
  | true, .tup ds => if ((D.nk (.tup ds)).map fun k => decide (k.depth ≤ 8)) = some true then some (D.look ks vs (.tup ds)) else none
  | _, _ => none
end
theorem dget_rd {K : PySem.W.Frag} {t : Bool} {ks vs : List D} {k : D} {y : V} {o : Option D} {a : Addr} {ho : HO} {ws : List V} (ha : Rd H a ho) (c : DcAt H a ho t ks ws) (r : RpA K H g ws vs) (q : Pk K H g y k) (e : D.lookKey t ks vs k = some o) :
    ∃ r, AGet H a y r ∧ (∀ d, o = some d → ∃ w, r = some w ∧ Rp K H g w d) ∧ (o = none → r = none) := by
  cases c with
  | dK kvs =>
    have key : ∀ kk : Key, k = kD kk → D.lookKey false (kvs.map fun p => kD p.1) vs k = some (D.look (kvs.map fun p => kD p.1) vs (kD kk)) := fun kk ek => by subst ek; cases kk <;> rfl
    have : ∃ kk : Key, k = kD kk := by
      cases k with
      | int i => exact ⟨.inl i, rfl⟩
      | str i => exact ⟨.inr i, rfl⟩
      | _ => simp [D.lookKey] at e
    obtain ⟨kk, rfl⟩ := this
    rw [key kk rfl] at e
    cases e
    obtain ⟨i1, i2⟩ := look_of (c := kD) (fun _ _ => kD_inj) kk r
    refine ⟨valV kvs kk, .inl (.inl ⟨kvs, kk, ha, q.key (kD_key kk), rfl⟩), fun d ed => i1 d ed, i2⟩
  | dN rows nk =>
    cases k with
    | tup ds =>
      simp only [D.lookKey] at e
      split at e
      · rename_i hs
        cases e
        obtain ⟨kk, hk, hd⟩ := Option.map_eq_some_iff.mp hs
        obtain ⟨ek, hn⟩ := nk_of hk
        obtain ⟨b, xs, rfl, hb, rb⟩ := q.tup
        have hq : NK H kk (.ref b) := hn _ (.tup hb rb)
        rw [← ek]
        obtain ⟨i1, i2⟩ := look_of (c := kN) (fun _ _ => kN_inj) kk r
        exact ⟨valV (rows.map NRow.pr) kk, .inr ⟨rows, kk, b, ha, nk, rfl, hq, of_decide_eq_true hd, rfl⟩, fun d ed => i1 d ed, i2⟩
      · cases e
    | _ => simp [D.lookKey] at e
theorem dget_of {K : PySem.W.Frag} {t : Bool} {ks vs : List D} {k : D} {x y : V} {o : Option D} (p : Pk K H g x (.dct t ks vs)) (q : Pk K H g y k) (e : D.lookKey t ks vs k = some o) :
    ∃ a r, x = .ref a ∧ AGet H a y r ∧ (∀ d, o = some d → ∃ w, r = some w ∧ Rp K H g w d) ∧ (o = none → r = none) := by
  obtain ⟨a, ho, ws, rfl, ha, c, r⟩ := p.dct
  obtain ⟨r', h⟩ := dget_rd (.inl ha) c r q e
  exact ⟨a, r', rfl, h⟩
theorem Pk.rdc {K : PySem.W.Frag} {t : Bool} {ks vs : List D} {x : V} (p : Pk K H g x (.rdc t ks vs)) : ∃ a o u ws, x = .ref a ∧ H a = some (.frz o u) ∧ DcAt H a u t ks ws ∧ RpA K H g ws vs := by
  rcases p with p | ⟨a, rfl, p⟩
  · cases p with | rdc h c r => exact ⟨_, _, _, _, rfl, h, c, r⟩
  · cases p
theorem rget_of {K : PySem.W.Frag} {t : Bool} {ks vs : List D} {k : D} {x y : V} {o : Option D} (p : Pk K H g x (.rdc t ks vs)) (q : Pk K H g y k) (e : D.lookKey t ks vs k = some o) :
    ∃ a r, x = .ref a ∧ AGet H a y r ∧ (∀ d, o = some d → ∃ w, r = some w ∧ Rp K H g w d) ∧ (o = none → r = none) := by
  obtain ⟨a, ob, u, ws, rfl, ha, c, r⟩ := p.rdc
  obtain ⟨r', h⟩ := dget_rd (.inr ⟨ob, ha⟩) c r q e
  exact ⟨a, r', rfl, h⟩
end
section
variable {X : Cx} {z : Zx} {S S' : Sx} {σ : L2.St} {H H' : Hp} {g g' : Gh} {v : V} {d : D} {r : Res} {pos : Pos} {a b c : Expr} {fa fb fc : M Res}
def rInT (K : PySem.W.Frag) : R2 := fun x y H Q => ∃ d ds, Dp K H x d ∧ Dp K H y (.tuple ds) ∧ SeqAt.shaped d = true ∧ SeqAt.shaped (.tuple ds) = true ∧ Q (.bl (ds.any fun z => PyData.eqv z d)) H
def rNotInT (K : PySem.W.Frag) : R2 := fun x y H Q => ∃ d ds, Dp K H x d ∧ Dp K H y (.tuple ds) ∧ SeqAt.shaped d = true ∧ SeqAt.shaped (.tuple ds) = true ∧ Q (.bl (!ds.any fun z => PyData.eqv z d)) H
theorem op_inT (hu : X.A.units + 65 < cLine) : OpR X (compareOp .In) (rInT X.K) := by
  intro pins s σ H x y v u Q I rx ry h
  obtain ⟨d, ds, h1, h2, s1, s2, q⟩ := h
  obtain ⟨as, r1⟩ := Dp.reads I d x v h1 rx
  obtain ⟨bs, r2⟩ := Dp.reads I (.tuple ds) y u h2 ry
  exact SeqAt.in_tuple_reads r2 r1 (SeqAt.canLay_of_shaped s2) (SeqAt.canLay_of_shaped s1) (PyProof.Rows.room_in_shaped s1 hu) ⟨.bl _, H, I, rfl, q⟩
theorem op_notInT (hu : X.A.units + 65 < cLine) : OpR X (compareOp .NotIn) (rNotInT X.K) := by
  intro pins s σ H x y v u Q I rx ry h
  obtain ⟨d, ds, h1, h2, s1, s2, q⟩ := h
  obtain ⟨as, r1⟩ := Dp.reads I d x v h1 rx
  obtain ⟨bs, r2⟩ := Dp.reads I (.tuple ds) y u h2 ry
  exact SeqAt.notIn_tuple_reads r2 r1 (SeqAt.canLay_of_shaped s2) (SeqAt.canLay_of_shaped s1) (PyProof.Rows.room_in_shaped s1 hu) ⟨.bl _, H, I, rfl, q⟩
def rInDc : R2 := fun y x H Q => ∃ a o, x = .ref a ∧ AGet H a y o ∧ Q (.bl o.isSome) H
def rNotInDc : R2 := fun y x H Q => ∃ a o, x = .ref a ∧ AGet H a y o ∧ Q (.bl (!o.isSome)) H
theorem op_inDc (hu : X.A.units + 65 < cLine) : OpR X (compareOp .In) rInDc := by
  intro pins s σ H y x iv u Q I ry rx h
  obtain ⟨a, ov, rfl, g, q⟩ := h
  obtain rfl : u = Value.ref a := rx
  exact a_in (by omega) I g ry fun s3 I3 => ⟨.bl ov.isSome, H, I3, rfl, q⟩
theorem op_notInDc (hu : X.A.units + 65 < cLine) : OpR X (compareOp .NotIn) rNotInDc := by
  intro pins s σ H y x iv u Q I ry rx h
  obtain ⟨a, ov, rfl, g, q⟩ := h
  obtain rfl : u = Value.ref a := rx
  exact a_notIn (by omega) I g ry fun s3 I3 => ⟨.bl (!ov.isSome), H, I3, rfl, q⟩
def rInA (K : PySem.W.Frag) : R2 := fun x y H Q => rInD K x y H Q ∨ rInT K x y H Q ∨ rInDc x y H Q
def rNotInA (K : PySem.W.Frag) : R2 := fun x y H Q => rNotInD K x y H Q ∨ rNotInT K x y H Q ∨ rNotInDc x y H Q
theorem op_inA (hu : X.A.units + 65 < cLine) : OpR X (compareOp .In) (rInA X.K) := by
  intro pins s σ H x y v u Q I rx ry h
  rcases h with h | h | h
  · exact op_inD hu pins s σ H x y v u Q I rx ry h
  · exact op_inT hu pins s σ H x y v u Q I rx ry h
  · exact op_inDc hu pins s σ H x y v u Q I rx ry h
theorem op_notInA (hu : X.A.units + 65 < cLine) : OpR X (compareOp .NotIn) (rNotInA X.K) := by
  intro pins s σ H x y v u Q I rx ry h
  rcases h with h | h | h
  · exact op_notInD hu pins s σ H x y v u Q I rx ry h
  · exact op_notInT hu pins s σ H x y v u Q I rx ry h
  · exact op_notInDc hu pins s σ H x y v u Q I rx ry h
def D.among (d : D) (cs : List D) : Option Bool := match d.py, D.pys cs with
  | some p, some qs => if SeqAt.shaped p && SeqAt.shaped (.list qs) then some (qs.any fun q => PyData.eqv q p) else none
  | _, _ => none
def D.inn : D → D → Option Bool
  | d, .lst cs => d.among cs
  | d, .rol cs => d.among cs
  | d, .tup cs => d.among cs
  | d, .dct t ks vs => (D.lookKey t ks vs d).map Option.isSome
  | d, .rdc t ks vs => (D.lookKey t ks vs d).map Option.isSome
  | _, _ => none
def opIn (neg : Bool) (d e : D) : M Res := M.opt (d.inn e) fun b => pure (.dat (.bl (b != neg)))
theorem shaped_tl (qs : List PyData) : SeqAt.shaped (.tuple qs) = SeqAt.shaped (.list qs) := by
  simp [SeqAt.shaped, PyData.canLay0, PyData.depth]
theorem among_of {cs : List D} {o : Bool} (e : d.among cs = some o) : ∃ p qs, d.py = some p ∧ D.pys cs = some qs ∧ SeqAt.shaped p = true ∧ SeqAt.shaped (.list qs) = true ∧ o = qs.any fun q => PyData.eqv q p := by
  unfold D.among at e
  split at e
  · rename_i p qs e1 e2
    split at e
    · rename_i c
      cases e
      simp only [Bool.and_eq_true] at c
      exact ⟨p, qs, e1, e2, c.1, c.2, rfl⟩
    · cases e
  · cases e
theorem od_in : OpD X z (rInA X.K) (opIn false) := by
  intro S σ H g x y dx dy Q s px py h
  obtain ⟨o, e, h⟩ := h.opt
  have h := out_dat s (.bl _) h
  rw [Bool.bne_false] at h
  unfold D.inn at e
  split at e
  · obtain ⟨p, qs, e1, e2, c1, c2, rfl⟩ := among_of e
    exact .inl ⟨p, qs, px.dp e1, py.dp (by simp only [D.py, e2, Option.map_some]), c1, c2, h⟩
  · obtain ⟨p, qs, e1, e2, c1, c2, rfl⟩ := among_of e
    exact .inl ⟨p, qs, px.dp e1, py.dp (by simp only [D.py, e2, Option.map_some]), c1, c2, h⟩
  · obtain ⟨p, qs, e1, e2, c1, c2, rfl⟩ := among_of e
    exact .inr (.inl ⟨p, qs, px.dp e1, py.dp (by simp only [D.py, e2, Option.map_some]), c1, by rw [shaped_tl]; exact c2, h⟩)
  · simp only [Option.map_eq_some_iff] at e
    obtain ⟨w, e, rfl⟩ := e
    obtain ⟨a, r, rfl, gg, i1, i2⟩ := dget_of py px e
    refine .inr (.inr ⟨a, r, rfl, gg, ?_⟩)
    cases w with
    | none => rw [i2 rfl]; exact h
    | some d' => obtain ⟨w', e', _⟩ := i1 d' rfl; rw [e']; exact h
  · simp only [Option.map_eq_some_iff] at e
    obtain ⟨w, e, rfl⟩ := e
    obtain ⟨a, r, rfl, gg, i1, i2⟩ := rget_of py px e
    refine .inr (.inr ⟨a, r, rfl, gg, ?_⟩)
    cases w with
    | none => rw [i2 rfl]; exact h
    | some d' => obtain ⟨w', e', _⟩ := i1 d' rfl; rw [e']; exact h
  · cases e
theorem od_notIn : OpD X z (rNotInA X.K) (opIn true) := by
  intro S σ H g x y dx dy Q s px py h
  obtain ⟨o, e, h⟩ := h.opt
  have h := out_dat s (.bl _) h
  rw [Bool.bne_true] at h
  unfold D.inn at e
  split at e
  · obtain ⟨p, qs, e1, e2, c1, c2, rfl⟩ := among_of e
    exact .inl ⟨p, qs, px.dp e1, py.dp (by simp only [D.py, e2, Option.map_some]), c1, c2, h⟩
  · obtain ⟨p, qs, e1, e2, c1, c2, rfl⟩ := among_of e
    exact .inl ⟨p, qs, px.dp e1, py.dp (by simp only [D.py, e2, Option.map_some]), c1, c2, h⟩
  · obtain ⟨p, qs, e1, e2, c1, c2, rfl⟩ := among_of e
    exact .inr (.inl ⟨p, qs, px.dp e1, py.dp (by simp only [D.py, e2, Option.map_some]), c1, by rw [shaped_tl]; exact c2, h⟩)
  · simp only [Option.map_eq_some_iff] at e
    obtain ⟨w, e, rfl⟩ := e
    obtain ⟨a, r, rfl, gg, i1, i2⟩ := dget_of py px e
    refine .inr (.inr ⟨a, r, rfl, gg, ?_⟩)
    cases w with
    | none => rw [i2 rfl]; exact h
    | some d' => obtain ⟨w', e', _⟩ := i1 d' rfl; rw [e']; exact h
  · simp only [Option.map_eq_some_iff] at e
    obtain ⟨w, e, rfl⟩ := e
    obtain ⟨a, r, rfl, gg, i1, i2⟩ := rget_of py px e
    refine .inr (.inr ⟨a, r, rfl, gg, ?_⟩)
    cases w with
    | none => rw [i2 rfl]; exact h
    | some d' => obtain ⟨w', e', _⟩ := i1 d' rfl; rw [e']; exact h
  · cases e
def rIxDc : R2 := fun x y H Q => ∃ a v, x = V.ref a ∧ AGet H a y (some v) ∧ Q v H
theorem ix_dct (hu : X.A.units + 65 < cLine) : IxR X rIxDc := by
  intro value slice pins s σ H x y v u Q I rx ry h hs
  obtain ⟨a, w, rfl, gg, q⟩ := h
  obtain rfl : v = Value.ref a := rx
  exact PyProof.Rows.tail_any (ad_type I gg) PySem.F.slot_dict_getitem.lookup (a_getItem (by omega) I gg ry fun w' s3 I3 rw' => ⟨w, H, I3, rw', q⟩) hs
def rIxA (K : PySem.W.Frag) : R2 := fun x y H Q => rIx K x y H Q ∨ rIxDc x y H Q
theorem ix_any (hu : X.A.units + 65 < cLine) : IxR X (rIxA X.K) := ix_seq.or (ix_dct hu)
def D.item : D → D → Option D
  | .lst ds, .int i => atI ds i
  | .rol ds, .int i => atI ds i
  | .tup ds, .int i => atI ds i
  | .str x, .int i => if x.length ≤ sizeLine then (atI x.cps.toList i).map fun c => .str ⟨#[c]⟩ else none
  | .dct t ks vs, k => (D.lookKey t ks vs k).bind id
  | .rdc t ks vs, k => (D.lookKey t ks vs k).bind id
  | _, _ => none
def opIx (d e : D) : M Res := M.opt (d.item e) fun x => pure (.dat x)
theorem RpA.atI {K : PySem.W.Frag} {vs : List V} {ds : List D} {i : Int} (r : RpA K H g vs ds) (e : L2.atI ds i = some d) : ∃ v, L2.atI vs i = some v ∧ Rp K H g v d := by
  unfold L2.atI at e ⊢
  rw [r.length]
  obtain ⟨j, e1, e2⟩ := Option.bind_eq_some_iff.mp e
  obtain ⟨w, e3, rw⟩ := r.get e2
  exact ⟨w, by rw [e1]; exact e3, rw⟩
theorem od_ix : OpD X z (rIxA X.K) opIx := by
  intro S σ H g x y dx dy Q s px py h
  obtain ⟨o, e, h2⟩ := h.opt
  unfold D.item at e
  split at e
  · obtain ⟨p, xs, rfl, hx, rx⟩ := px.lst
    obtain ⟨w, ew, rw⟩ := rx.atI e
    exact .inl (.inl ⟨p, xs, _, w, rfl, py.int, SqL.of hx, ew, out_dat s rw h2⟩)
  · obtain ⟨p, xs, rfl, hx, rx⟩ := px.rol
    obtain ⟨w, ew, rw⟩ := rx.atI e
    exact .inl (.inl ⟨p, xs, _, w, rfl, py.int, hx.sq, ew, out_dat s rw h2⟩)
  · obtain ⟨p, xs, rfl, hx, rx⟩ := px.tup
    obtain ⟨w, ew, rw⟩ := rx.atI e
    exact .inl (.inr (.inl ⟨p, xs, _, w, rfl, py.int, SqT.of hx, ew, out_dat s rw h2⟩))
  · split at e
    · rename_i hl
      simp only [Option.map_eq_some_iff] at e
      obtain ⟨c, e, rfl⟩ := e
      exact .inl (.inr (.inr ⟨_, _, c, px.str, py.int, hl, e, out_dat s (.str _) h2⟩))
    · cases e
  · obtain ⟨w, e1, e2⟩ := Option.bind_eq_some_iff.mp e
    obtain ⟨a, r, rfl, gg, i1, i2⟩ := dget_of px py e1
    obtain ⟨w', e', rw⟩ := i1 o e2
    exact .inr ⟨a, w', rfl, e' ▸ gg, out_dat s rw h2⟩
  · obtain ⟨w, e1, e2⟩ := Option.bind_eq_some_iff.mp e
    obtain ⟨a, r, rfl, gg, i1, i2⟩ := rget_of px py e1
    obtain ⟨w', e', rw⟩ := i1 o e2
    exact .inr ⟨a, w', rfl, e' ▸ gg, out_dat s rw h2⟩
  · cases e
theorem de_ix (hu : X.A.units + 65 < cLine) (ha : DE X z a fa) (hb : DE X z b fb) (hs : PlainIx b := by exact fun _ _ => rfl) : DE X z (.Subscript a b pos) (binM opIx fa fb) := de_bin od_ix (pe_ix (ix_any hu) ha hb hs)
end
end DL
end
section
set_option maxRecDepth 100000
namespace DL
open PySem PySem.Spec L2
section
variable {X : Cx} {z : Zx} {S S' : Sx} {σ : L2.St} {H H' : Hp} {g g' : Gh} {v : V} {d : D} {r : Res} {pos : Pos} {a b c : Expr} {fa fb fc : M Res}
def tO (K : PySem.W.Frag) (mg : Str → Option Value) (z : Zx) (f : M (Option Int)) : TO := fun σ H Q => ∃ S g, SR K z S σ H g ∧ Go K mg z f S σ H g fun b _ H' _ => Q b H'
abbrev DO (X : Cx) (z : Zx) (e : Option Expr) (f : M (Option Int)) : Prop := PO X e (tO X.K X.mg z f)
theorem PO.imp {e : Option Expr} {t u : TO} (p : PO X e t) (h : ∀ σ H Q, u σ H Q → t σ H Q) : PO X e u := ⟨fun pins s σ H Q I q => p.run pins s σ H Q I (h σ H Q q)⟩
def D.isInt : D → Option Int
  | .int i => some i
  | _ => none
def partM (f : M Res) : M (Option Int) := f >>= fun r => M.opt r.d.isInt fun i => pure (some i)
theorem do_none : DO X z none (pure none) := PO.imp po_none fun σ H Q ⟨S, g, s, h⟩ => h.pure s
theorem do_some (ha : DE X z a fa) : DO X z (some a) (partM fa) := PO.imp (po_some ha) fun σ H Q ⟨S, g, s, h⟩ => by
  refine ⟨S, g, s, h.bnd.imp fun ra S1 H1 g1 s1 f1 h1 x rx => ?_⟩
  obtain ⟨i, e, h2⟩ := h1.opt
  have p := s1.pk rx
  cases hd : ra.d <;> rw [hd] at e <;> simp [D.isInt] at e
  subst e
  rw [hd] at p
  exact ⟨_, p.int, h2.pure s1⟩
def cutD {α : Type} (xs : List α) (lo hi : Option Int) : List α := (xs.drop (HT.sIx xs.length 0 lo)).take (HT.sIx xs.length xs.length hi - HT.sIx xs.length 0 lo)
def opSl : D → Option Int → Option Int → M Res
  | .lst ds, lo, hi => pure (.new (.lst (cutD ds lo hi)))
  | .rol ds, lo, hi => pure (.new (.lst (cutD ds lo hi)))
  | .tup ds, lo, hi => pure (.dat (.tup (cutD ds lo hi)))
  | .str x, lo, hi => M.need (decide (x.length ≤ sizeLine)) (pure (.dat (.str (cutS x lo hi))))
  | _, _, _ => M.no
def slM (fa : M Res) (fl fh : M (Option Int)) : M Res := fa >>= fun ra => fl >>= fun lo => fh >>= fun hi => chkM ra.hold >>= fun _ => opSl ra.hold.d lo hi
def rSlAll (K : PySem.W.Frag) : V → Option Int → Option Int → Hp → VK → Prop := fun x lo hi H Q => rSlL K x lo hi H Q ∨ rSlA K x lo hi H Q ∨ rSlS x lo hi H Q
theorem sl_all : SlR X (rSlAll X.K) := sl_list.or (sl_tupA.or sl_str)
theorem RpA.cut {K : PySem.W.Frag} {vs : List V} {ds : List D} (r : RpA K H g vs ds) (lo hi : Option Int) : RpA K H g (cutV vs lo hi) (cutD ds lo hi) := by
  unfold cutV cutD
  rw [r.length]
  exact (r.drop _).take _
theorem de_sl {lo hi : Option Expr} {fl fh : M (Option Int)} {p2 : Pos} (ha : DE X z a fa) (hl : DO X z lo fl) (hh : DO X z hi fh) : DE X z (.Subscript a (.Slice lo hi none p2) pos) (slM fa fl fh) := by
  refine PE.imp (pe_slice sl_all ha hl hh) fun σ H Q ⟨S, g, s, h⟩ => ?_
  refine ⟨S, g, s, h.bnd.imp fun ra S1 H1 g1 s1 f1 h1 x rx => ?_⟩
  obtain ⟨g2, s2, f2, rx2⟩ := s1.hold rx
  refine ⟨S1, g2, s2, (h1.at f2).bnd.imp fun l S3 H3 g3 s3 f3 h3 => ?_⟩
  refine ⟨S3, g3, s3, h3.bnd.imp fun u S4 H4 g4 s4 f4 h4 => ?_⟩
  obtain ⟨rx3, h5⟩ := Go.chk s2 s4 (f3.trans f4) (by cases ra <;> rfl) rx2 h4
  have p := s4.pk rx3
  cases hd : ra.hold.d with
  | lst ds =>
    rw [hd] at h5 p
    obtain ⟨a, xs, rfl, hx, rx⟩ := p.lst
    exact .inl ⟨a, xs, rfl, SqL.of hx, out_lst s4 (rx.cut _ _) h5⟩
  | rol ds =>
    rw [hd] at h5 p
    obtain ⟨a, xs, rfl, hx, rx⟩ := p.rol
    exact .inl ⟨a, xs, rfl, hx.sq, out_lst s4 (rx.cut _ _) h5⟩
  | tup ds =>
    rw [hd] at h5 p
    obtain ⟨a, xs, rfl, hx, rx⟩ := p.tup
    refine .inr (.inl ⟨a, xs, rfl, SqT.of hx, fun q => ?_, fun _ => out_tup s4 (rx.cut _ _) h5⟩)
    have e : cutD ds l u = ds := by
      unfold cutD
      rw [← rx.length, q.1, q.2, List.drop_zero, Nat.sub_zero, rx.length, List.take_length]
    change Go _ _ _ (pure (Res.dat (D.tup (cutD ds l u)))) _ _ _ _ _ at h5
    rw [e] at h5
    exact out_dat s4 (.tup hx rx) h5
  | str x' =>
    rw [hd] at h5 p
    obtain ⟨cc, h5⟩ := h5.need
    exact .inr (.inr ⟨x', p.str, of_decide_eq_true cc, out_dat s4 (.str _) h5⟩)
  | _ => rw [hd] at h5; exact h5.none.elim
def D.truth : D → Option Bool
  | .non => some false
  | .bl b => some b
  | .int i => some (i != 0)
  | .str x => if x.length ≤ sizeLine then some ((x.length : Int) != 0) else none
  | .lst ds => some (!ds.isEmpty)
  | .rol ds => some (!ds.isEmpty)
  | .tup ds => some (!ds.isEmpty)
  | .dct false ks _ => some (!ks.isEmpty)
  | _ => none
theorem RpA.emp {K : PySem.W.Frag} {vs : List V} {ds : List D} (r : RpA K H g vs ds) : vs.isEmpty = ds.isEmpty := by cases r <;> rfl
theorem Pk.truth {K : PySem.W.Frag} {k : Bool} (p : Pk K H g v d) (e : d.truth = some k) : TruV K v H k := by
  unfold D.truth at e
  split at e
  · cases e; rw [p.non]; rfl
  · cases e; rw [p.bl]; rfl
  · cases e; rw [p.int]; rfl
  · split at e
    · rename_i h; cases e; rw [p.str]; exact ⟨h, rfl⟩
    · cases e
  · cases e; obtain ⟨a, xs, rfl, hx, rx⟩ := p.lst
    exact .inl ⟨xs, SqL.of hx, by rw [rx.emp]⟩
  · cases e; obtain ⟨a, xs, rfl, hx, rx⟩ := p.rol
    exact .inl ⟨xs, hx.sq, by rw [rx.emp]⟩
  · cases e; obtain ⟨a, xs, rfl, hx, rx⟩ := p.tup
    exact .inr (.inl ⟨xs, SqT.of hx, by rw [rx.emp]⟩)
  · cases e; obtain ⟨a, o, ws, rfl, hx, c, rx⟩ := p.dct
    cases c with
    | dK kvs => exact .inr (.inr ⟨kvs, hx, by cases kvs <;> rfl⟩)
  · cases e
def testM (f : M Res) : M Bool := f >>= fun r => M.opt r.d.truth pure
theorem dt_val (ha : DE X z a fa) (he : ∀ whole, PySem.isTrue a X.env whole = (do let v ← whole; standAt a.pos; holding [v] (truthy v)) := by intro _; rfl) : DT X z a (testM fa) :=
  PT.imp (pt_truth ha he) fun σ H Q ⟨S, g, s, h⟩ => ⟨S, g, s, h.bnd.imp fun ra S1 H1 g1 s1 f1 h1 x rx => by
    obtain ⟨k, e, h2⟩ := h1.opt
    exact ⟨k, (s1.pk rx).truth e, h2.pure s1⟩⟩
abbrev DW (X : Cx) (z : Zx) (e : Expr) (f : M Bool) : Prop := PW X e (tT X.K X.mg z f)
theorem PW.imp {e : Expr} {t u : TT} (p : PW X e t) (h : ∀ σ H Q, u σ H Q → t σ H Q) : PW X e u := ⟨fun wh pins s σ H Q I q => p.run wh pins s σ H Q I (h σ H Q q)⟩
variable {ta tb : M Bool} {rest : List Expr}
def andT (f g : M Bool) : M Bool := f >>= fun b => if b = true then g else pure false
def orT (f g : M Bool) : M Bool := f >>= fun b => if b = true then pure true else g
def notT (f : M Bool) : M Bool := f >>= fun b => pure (!b)
theorem dw_and1 (ha : DT X z a ta) : DW X z (.BoolOp .And [a] pos) ta := pw_and1 ha
theorem dw_or1 (ha : DT X z a ta) : DW X z (.BoolOp .Or [a] pos) ta := pw_or1 ha
theorem dw_and (ha : DT X z a ta) (hb : DW X z (.BoolOp .And (b :: rest) pos) tb) : DW X z (.BoolOp .And (a :: b :: rest) pos) (andT ta tb) :=
  PW.imp (pw_and ha hb) fun σ H Q ⟨S, g, s, h⟩ => ⟨S, g, s, h.bnd.imp fun k S1 H1 g1 s1 f1 h1 => by
    cases k with
    | true => exact ⟨S1, g1, s1, h1⟩
    | false => exact h1.pure s1⟩
theorem dw_or (ha : DT X z a ta) (hb : DW X z (.BoolOp .Or (b :: rest) pos) tb) : DW X z (.BoolOp .Or (a :: b :: rest) pos) (orT ta tb) :=
  PW.imp (pw_or ha hb) fun σ H Q ⟨S, g, s, h⟩ => ⟨S, g, s, h.bnd.imp fun k S1 H1 g1 s1 f1 h1 => by
    cases k with
    | true => exact h1.pure s1
    | false => exact ⟨S1, g1, s1, h1⟩⟩
theorem dt_w (h : DW X z a ta) : DT X z a ta := h.pt
theorem dt_not (ha : DT X z a ta) : DT X z (.UnaryOp .Not a pos) (notT ta) :=
  PT.imp (pt_not ha) fun σ H Q ⟨S, g, s, h⟩ => ⟨S, g, s, h.bnd.imp fun k S1 H1 g1 s1 f1 h1 => h1.pure s1⟩
def andM (f g : M Res) : M Res := f >>= fun r => M.opt r.d.truth fun k => if k = true then g else useM r >>= fun d => pure (.dat d)
def orM (f g : M Res) : M Res := f >>= fun r => M.opt r.d.truth fun k => if k = true then useM r >>= fun d => pure (.dat d) else g
def notM (f : M Res) : M Res := f >>= fun r => M.opt r.d.truth fun k => pure (.dat (.bl (!k)))
theorem out_use {K : PySem.W.Frag} {mg : Str → Option Value} {x : V} {Q : VK} (s : SR K z S σ H g) (rx : ResOk K z S σ H g x r) (h : Go K mg z (useM r >>= fun d => pure (.dat d)) S σ H g (fun r S' H' g' => ∀ v, ResOk K z S' σ H' g' v r → Q v H')) : Q x H := by
  obtain ⟨S', g', s', f, rp, h2⟩ := h.use s rx
  exact h2.pure s' x rp
theorem de_one {op} (ha : DE X z a fa) : DE X z (.BoolOp op [a] pos) fa := pe_one ha
theorem de_and (ha : DE X z a fa) (hb : DE X z (.BoolOp .And (b :: rest) pos) fb) : DE X z (.BoolOp .And (a :: b :: rest) pos) (andM fa fb) :=
  PE.imp (pe_andT ha hb) fun σ H Q ⟨S, g, s, h⟩ => ⟨S, g, s, h.bnd.imp fun ra S1 H1 g1 s1 f1 h1 x rx => by
    obtain ⟨k, e, h2⟩ := h1.opt
    refine ⟨k, (s1.pk rx).truth e, ?_⟩
    cases k with
    | true => exact ⟨S1, g1, s1, h2⟩
    | false => exact out_use s1 rx h2⟩
theorem de_not (ha : DE X z a fa) : DE X z (.UnaryOp .Not a pos) (notM fa) :=
  PE.imp (pe_notT ha) fun σ H Q ⟨S, g, s, h⟩ => ⟨S, g, s, h.bnd.imp fun ra S1 H1 g1 s1 f1 h1 x rx => by
    obtain ⟨k, e, h2⟩ := h1.opt
    exact ⟨k, (s1.pk rx).truth e, out_dat s1 (.bl _) h2⟩⟩
def ifM {α : Type} (t : M Bool) (f g : M α) : M α := t >>= fun b => if b = true then f else g
theorem de_if (hc : DT X z c ta) (ha : DE X z a fa) (hb : DE X z b fb) : DE X z (.IfExp c a b pos) (ifM ta fa fb) :=
  PE.imp (pe_ifExp hc ha hb) fun σ H Q ⟨S, g, s, h⟩ => ⟨S, g, s, h.bnd.imp fun k S1 H1 g1 s1 f1 h1 => by
    cases k with
    | true => exact ⟨S1, g1, s1, h1⟩
    | false => exact ⟨S1, g1, s1, h1⟩⟩
def negM (f : M Res) : M Res := f >>= fun r => M.opt r.d.isInt fun i => pure (.dat (.int (-i)))
theorem isInt_eq {d : D} {i : Int} (e : d.isInt = some i) : d = .int i := by cases d <;> simp [D.isInt] at e; subst e; rfl
def nilA : M (List Res) := pure []
def consA (f : M Res) (g : M (List Res)) : M (List Res) := f >>= fun r => g >>= fun rs => chkM r.hold >>= fun _ => pure (r.hold :: rs)
theorem da_nil : DA X z [] nilA := PA.imp pa_nil fun σ H Q ⟨S, g, s, h⟩ => h.pure s [] .nil
variable {es : List Expr} {fs : M (List Res)}
theorem da_cons (ha : DE X z a fa) (hr : DA X z es fs) (hs : starEach (a :: es) X.env = (false, eval a X.env) :: starEach es X.env := by rfl) : DA X z (a :: es) (consA fa fs) :=
  PA.imp (pa_cons ha hr hs) fun σ H Q ⟨S, g, s, h⟩ => ⟨S, g, s, h.bnd.imp fun ra S1 H1 g1 s1 f1 h1 x rx => by
    obtain ⟨g2, s2, f2, rx2⟩ := s1.hold rx
    refine ⟨S1, g2, s2, (h1.at f2).bnd.imp fun rs S3 H3 g3 s3 f3 h3 xs rxs => ?_⟩
    obtain ⟨rx3, h4⟩ := Go.chk s2 s3 f3 (by cases ra <;> rfl) rx2 h3
    exact h4.pure s3 (x :: xs) (.cons rx3 rxs)⟩
def chkAll : List Res → M Unit
  | [] => pure ()
  | r :: rs => chkM r >>= fun _ => chkAll rs
def useAll : List Res → M (List D)
  | [] => pure []
  | r :: rs => useM r >>= fun d => chkAll rs >>= fun _ => useAll rs >>= fun ds => pure (d :: ds)
def Held (rs : List Res) : Prop := ∀ r ∈ rs, r.hold = r
theorem Go.chkAll {K : PySem.W.Frag} {mg : Str → Option Value} {α : Type} {P : α → Sx → Hp → Gh → Prop} {k : Unit → M α} (s : SR K z S σ H g) (s' : SR K z S' σ H' g') (f : Fr H g H' g') : ∀ {rs : List Res} {vs : List V}, Held rs → Paired (ResOk K z S σ H g) vs rs →
    Go K mg z (chkAll rs >>= k) S' σ H' g' P → Paired (ResOk K z S' σ H' g') vs rs ∧ Go K mg z (k ()) S' σ H' g' P
  | [], _, _, .nil, h => ⟨.nil, h.bnd.pure s'⟩
  | r :: rs, _, hh, .cons a t, h => by
    have h1 : Go K mg z (chkM r >>= fun _ => DL.chkAll rs >>= k) S' σ H' g' P := by
      have e : (DL.chkAll (r :: rs) >>= k) = (chkM r >>= fun _ => DL.chkAll rs >>= k) := by
        show M.bnd (M.bnd (chkM r) _) k = M.bnd (chkM r) _
        funext s0
        unfold M.bnd
        cases chkM r s0 with
        | none => rfl
        | some p => obtain ⟨e, s1⟩ := p; cases e <;> rfl
      rw [← e]; exact h
    obtain ⟨r1, h2⟩ := Go.chk s s' f (hh r List.mem_cons_self) a h1
    obtain ⟨r2, h3⟩ := Go.chkAll s s' f (fun q hq => hh q (List.mem_cons_of_mem _ hq)) t h2
    exact ⟨.cons r1 r2, h3⟩
theorem bind_assoc {α β γ : Type} (f : M α) (k : α → M β) (l : β → M γ) : ((f >>= k) >>= l) = (f >>= fun a => k a >>= l) := by
  funext s0
  show M.bnd (M.bnd f k) l s0 = M.bnd f (fun a => M.bnd (k a) l) s0
  unfold M.bnd
  cases f s0 with
  | none => rfl
  | some p => obtain ⟨e, s1⟩ := p; cases e <;> rfl
theorem Go.useAll {K : PySem.W.Frag} {mg : Str → Option Value} {α : Type} {P : α → Sx → Hp → Gh → Prop} {k : List D → M α} : ∀ {rs : List Res} {vs : List V} {S : Sx} {g : Gh}, SR K z S σ H g → Held rs → Paired (ResOk K z S σ H g) vs rs →
    Go K mg z (useAll rs >>= k) S σ H g P → ∃ S' g', SR K z S' σ H g' ∧ Fr H g H g' ∧ RpA K H g' vs (rs.map (·.d)) ∧ Go K mg z (k (rs.map (·.d))) S' σ H g' P
  | [], _, S, g, s, _, .nil, h => ⟨S, g, s, Fr.refl _ _, .nil, h.bnd.pure s⟩
  | r :: rs, _, S, g, s, hh, .cons a t, h => by
    have e : (DL.useAll (r :: rs) >>= k) = (useM r >>= fun d => DL.chkAll rs >>= fun _ => DL.useAll rs >>= fun ds => k (d :: ds)) := by
      show ((useM r >>= fun d => DL.chkAll rs >>= fun _ => DL.useAll rs >>= fun ds => Pure.pure (d :: ds)) >>= k) = _
      rw [bind_assoc]
      refine congrArg _ (funext fun d => ?_)
      rw [bind_assoc]
      refine congrArg _ (funext fun _ => ?_)
      rw [bind_assoc]
      rfl
    rw [e] at h
    obtain ⟨S1, g1, s1, f1, rp, h1⟩ := h.use s a
    obtain ⟨t2, h2⟩ := Go.chkAll s s1 f1 (fun q hq => hh q (List.mem_cons_of_mem _ hq)) t h1
    obtain ⟨S3, g3, s3, f3, rps, h3⟩ := Go.useAll s1 (fun q hq => hh q (List.mem_cons_of_mem _ hq)) t2 h2
    exact ⟨S3, g3, s3, f1.trans f3, .cons (rp.fr f3 s1.mu) rps, h3⟩
structure DAH (X : Cx) (z : Zx) (es : List Expr) (f : M (List Res)) : Prop where
  da : DA X z es f
  held : ∀ S rs S', f S = some (.ok rs, S') → Held rs
theorem dah_nil : DAH X z [] nilA := ⟨da_nil, fun S rs S' e => by cases e; exact fun r hr => by cases hr⟩
theorem bind_inv {α β : Type} {f : M α} {k : α → M β} {b : β} {s s2 : Sx} (e : (f >>= k) s = some (.ok b, s2)) : ∃ a s1, f s = some (.ok a, s1) ∧ k a s1 = some (.ok b, s2) := by
  change M.bnd f k s = _ at e
  unfold M.bnd at e
  cases hf : f s with
  | none => rw [hf] at e; cases e
  | some p =>
    obtain ⟨r, s1⟩ := p
    rw [hf] at e
    cases r with
    | error x => cases e
    | ok a => exact ⟨a, s1, rfl, e⟩
theorem dah_cons (ha : DE X z a fa) (hr : DAH X z es fs) (hs : starEach (a :: es) X.env = (false, eval a X.env) :: starEach es X.env := by rfl) : DAH X z (a :: es) (consA fa fs) :=
  ⟨da_cons ha hr.da hs, fun S rs S' e => by
    obtain ⟨r, s1, _, e⟩ := bind_inv e
    obtain ⟨rs', s2, e2, e⟩ := bind_inv e
    obtain ⟨_, s3, _, e⟩ := bind_inv e
    cases e
    intro q hq
    rcases List.mem_cons.mp hq with rfl | hq
    · cases r <;> rfl
    · exact hr.held _ _ _ e2 q hq⟩
theorem Go.heldP {K : PySem.W.Frag} {mg : Str → Option Value} {f : M (List Res)} {P : List Res → Sx → Hp → Gh → Prop} (hh : ∀ S rs S', f S = some (.ok rs, S') → Held rs) (h : Go K mg z f S σ H g P) : Go K mg z f S σ H g fun rs S' H' g' => Held rs ∧ P rs S' H' g' := by
  unfold Go at h ⊢
  cases hf : f S with
  | none => rw [hf] at h; exact h
  | some p =>
    obtain ⟨r, S1⟩ := p
    rw [hf] at h
    cases r with
    | error x => exact h
    | ok a => exact fun H' g' s f => ⟨hh _ _ _ hf, h H' g' s f⟩
def tupM (f : M (List Res)) : M Res := f >>= fun rs => useAll rs >>= fun ds => M.need (decide (ds.length ≤ sizeLine)) (pure (.dat (.tup ds)))
def lstM (f : M (List Res)) : M Res := f >>= fun rs => useAll rs >>= fun ds => M.need (decide (ds.length ≤ sizeLine)) (pure (.new (.lst ds)))
theorem de_tup {x1} (ha : DAH X z es fs) : DE X z (.Tuple es x1 pos) (tupM fs) :=
  PE.imp (pe_tup ha.da) fun σ H Q ⟨S, g, s, h⟩ => ⟨S, g, s, (Go.heldP ha.held h.bnd).imp fun rs S1 H1 g1 s1 f1 ⟨hh, h1⟩ xs rxs => by
    obtain ⟨S2, g2, s2, f2, rp, h2⟩ := h1.useAll s1 hh rxs
    obtain ⟨c, h3⟩ := h2.need
    exact ⟨by rw [rp.length]; exact of_decide_eq_true c, out_tup s2 rp h3⟩⟩
theorem de_lst (ha : DAH X z es fs) : DE X z (.List es pos) (lstM fs) :=
  PE.imp (pe_lst ha.da) fun σ H Q ⟨S, g, s, h⟩ => ⟨S, g, s, (Go.heldP ha.held h.bnd).imp fun rs S1 H1 g1 s1 f1 ⟨hh, h1⟩ xs rxs => by
    obtain ⟨S2, g2, s2, f2, rp, h2⟩ := h1.useAll s1 hh rxs
    obtain ⟨c, h3⟩ := h2.need
    exact ⟨by rw [rp.length]; exact of_decide_eq_true c, out_lst s2 rp h3⟩⟩
end
end DL
end
section
set_option maxRecDepth 100000
namespace DL
open PySem PySem.Spec L2
section
variable {X : Cx} {z : Zx} {S S' : Sx} {σ : L2.St} {H H' : Hp} {g g' : Gh} {v : V} {d : D} {r : Res} {pos : Pos} {a b c : Expr} {fa fb fc : M Res} {K : PySem.W.Frag} {mg : Str → Option Value}
theorem GoS.at {f : M Fl} {D : Ends} (h : GoS K mg z f S σ H g D) (fr : Fr H g H' g') : GoS K mg z f S σ H' g' D := by
  unfold GoS at h ⊢
  cases hf : f S with
  | none => rw [hf] at h; exact h
  | some p =>
    obtain ⟨r, S1⟩ := p
    rw [hf] at h
    cases r with
    | error x => exact fun cls dx σ2 H2 g2 s2 f2 => h cls dx σ2 H2 g2 s2 (fr.trans f2)
    | ok a =>
      cases a with
      | ret r => exact fun σ2 H2 g2 v s2 f2 => h σ2 H2 g2 v s2 (fr.trans f2)
      | next => exact fun σ2 H2 g2 s2 f2 => h σ2 H2 g2 s2 (fr.trans f2)
      | brk => exact fun σ2 H2 g2 s2 f2 => h σ2 H2 g2 s2 (fr.trans f2)
      | cont => exact fun σ2 H2 g2 s2 f2 => h σ2 H2 g2 s2 (fr.trans f2)
theorem GoS.bnd {α : Type} {f : M α} {k : α → M Fl} {D : Ends} (h : GoS K mg z (f >>= k) S σ H g D) : Go K mg z f S σ H g fun r S1 H1 g1 => GoS K mg z (k r) S1 σ H1 g1 D := by
  have e : (f >>= k) S = M.bnd f k S := rfl
  unfold GoS at h
  unfold Go
  rw [e] at h
  unfold M.bnd at h
  cases hf : f S with
  | none => rw [hf] at h; exact h
  | some p =>
    obtain ⟨r, S1⟩ := p
    rw [hf] at h
    cases r with
    | error x => exact fun cls dx H2 g2 s2 f2 => h cls dx σ H2 g2 s2 f2
    | ok a =>
      intro H1 g1 s1 f1
      show GoS K mg z (k a) S1 σ H1 g1 D
      have h' : GoS K mg z (k a) S1 σ H g D := by unfold GoS; exact h
      exact h'.at f1
theorem GoS.fr_seq {f : M Fl} {k : Fl → M Fl} {D D' : Ends} (h : GoS K mg z (f >>= k) S σ H g D)
    (hn : ∀ S1 σ1 H1 g1, SR K z S1 σ1 H1 g1 → Fr H g H1 g1 → GoS K mg z (k .next) S1 σ1 H1 g1 D → D'.nx σ1 H1)
    (hb : ∀ S1 σ1 H1 g1, SR K z S1 σ1 H1 g1 → Fr H g H1 g1 → GoS K mg z (k .brk) S1 σ1 H1 g1 D → D'.bk σ1 H1)
    (hc : ∀ S1 σ1 H1 g1, SR K z S1 σ1 H1 g1 → Fr H g H1 g1 → GoS K mg z (k .cont) S1 σ1 H1 g1 D → D'.ct σ1 H1)
    (hr : ∀ r S1 σ1 H1 g1 v, SR K z S1 σ1 H1 g1 → Fr H g H1 g1 → ResOk K z S1 σ1 H1 g1 v r → GoS K mg z (k (.ret r)) S1 σ1 H1 g1 D → D'.rt v H1) : GoS K mg z f S σ H g D' := by
  have e : (f >>= k) S = M.bnd f k S := rfl
  unfold GoS at h
  rw [e] at h
  unfold M.bnd at h
  unfold GoS
  cases hf : f S with
  | none => rw [hf] at h; exact h
  | some p =>
    obtain ⟨r, S1⟩ := p
    rw [hf] at h
    cases r with
    | error x => exact h
    | ok a =>
      have h' : GoS K mg z (k a) S1 σ H g D := by unfold GoS; exact h
      have h2 : ∀ σ1 H1 g1, Fr H g H1 g1 → GoS K mg z (k a) S1 σ1 H1 g1 D := by
        intro σ1 H1 g1 f1
        unfold GoS at h' ⊢
        cases hk : k a S1 with
        | none => rw [hk] at h'; exact h'
        | some q =>
          obtain ⟨r2, S2⟩ := q
          rw [hk] at h'
          cases r2 with
          | error x => exact fun cls dx σ2 H2 g2 s2 f2 => h' cls dx σ2 H2 g2 s2 (f1.trans f2)
          | ok a =>
            cases a with
            | ret r => exact fun σ2 H2 g2 v s2 f2 => h' σ2 H2 g2 v s2 (f1.trans f2)
            | next => exact fun σ2 H2 g2 s2 f2 => h' σ2 H2 g2 s2 (f1.trans f2)
            | brk => exact fun σ2 H2 g2 s2 f2 => h' σ2 H2 g2 s2 (f1.trans f2)
            | cont => exact fun σ2 H2 g2 s2 f2 => h' σ2 H2 g2 s2 (f1.trans f2)
      cases a with
      | next => exact fun σ1 H1 g1 s1 f1 => hn S1 σ1 H1 g1 s1 f1 (h2 σ1 H1 g1 f1)
      | brk => exact fun σ1 H1 g1 s1 f1 => hb S1 σ1 H1 g1 s1 f1 (h2 σ1 H1 g1 f1)
      | cont => exact fun σ1 H1 g1 s1 f1 => hc S1 σ1 H1 g1 s1 f1 (h2 σ1 H1 g1 f1)
      | ret r => exact fun σ1 H1 g1 v s1 f1 rv => hr r S1 σ1 H1 g1 v s1 f1 rv (h2 σ1 H1 g1 f1)
theorem GoS.seq {f : M Fl} {k : Fl → M Fl} {D D' : Ends} (h : GoS K mg z (f >>= k) S σ H g D)
    (hn : ∀ S1 σ1 H1 g1, SR K z S1 σ1 H1 g1 → GoS K mg z (k .next) S1 σ1 H1 g1 D → D'.nx σ1 H1)
    (hb : ∀ S1 σ1 H1 g1, SR K z S1 σ1 H1 g1 → GoS K mg z (k .brk) S1 σ1 H1 g1 D → D'.bk σ1 H1)
    (hc : ∀ S1 σ1 H1 g1, SR K z S1 σ1 H1 g1 → GoS K mg z (k .cont) S1 σ1 H1 g1 D → D'.ct σ1 H1)
    (hr : ∀ r S1 σ1 H1 g1 v, SR K z S1 σ1 H1 g1 → ResOk K z S1 σ1 H1 g1 v r → GoS K mg z (k (.ret r)) S1 σ1 H1 g1 D → D'.rt v H1) : GoS K mg z f S σ H g D' :=
  h.fr_seq (fun S1 σ1 H1 g1 s _ => hn S1 σ1 H1 g1 s) (fun S1 σ1 H1 g1 s _ => hb S1 σ1 H1 g1 s) (fun S1 σ1 H1 g1 s _ => hc S1 σ1 H1 g1 s) fun r S1 σ1 H1 g1 v s _ => hr r S1 σ1 H1 g1 v s
theorem GoS.next {D : Ends} (h : GoS K mg z (pure .next) S σ H g D) (s : SR K z S σ H g) : D.nx σ H := h σ H g s (Fr.refl _ _)
theorem GoS.brk {D : Ends} (h : GoS K mg z (pure .brk) S σ H g D) (s : SR K z S σ H g) : D.bk σ H := h σ H g s (Fr.refl _ _)
theorem GoS.cont {D : Ends} (h : GoS K mg z (pure .cont) S σ H g D) (s : SR K z S σ H g) : D.ct σ H := h σ H g s (Fr.refl _ _)
theorem GoS.ret {D : Ends} (h : GoS K mg z (pure (.ret r)) S σ H g D) (s : SR K z S σ H g) (rv : ResOk K z S σ H g v r) : D.rt v H := h σ H g v s (Fr.refl _ _) rv
def seqM (f h : M Fl) : M Fl := f >>= fun fl => match fl with
  | .next => h
  | x => pure x
variable {st : Stmt} {sts : List Stmt} {f h : M Fl}
theorem db_nil : DB X z [] (pure .next) := PSs.imp pss_nil fun D σ H ⟨S, g, s, q⟩ => q.next s
theorem db_one (h1 : DS X z st f) : DB X z [st] f := pss_one h1
theorem db_cons (h1 : DS X z st f) (h2 : DB X z sts h) : DB X z (st :: sts) (seqM f h) :=
  PSs.imp (pss_cons h1 h2) fun D σ H ⟨S, g, s, q⟩ => ⟨S, g, s, q.seq (D' := { D with nx := tS X.K X.mg z h D })
    (fun S1 σ1 H1 g1 s1 q1 => ⟨S1, g1, s1, q1⟩) (fun S1 σ1 H1 g1 s1 q1 => q1.brk s1) (fun S1 σ1 H1 g1 s1 q1 => q1.cont s1) fun r S1 σ1 H1 g1 v s1 rv q1 => q1.ret s1 rv⟩
theorem ds_cont : DS X z (.Continue pos) (pure .cont) := PS.imp ps_continue fun D σ H ⟨S, g, s, q⟩ => q.cont s
def retM (f : M Res) : M Fl := f >>= fun r => pure (.ret r)
theorem ds_ret (ha : DE X z a fa) : DS X z (.Return (some a) pos) (retM fa) :=
  PS.imp (ps_ret ha) fun D σ H ⟨S, g, s, q⟩ => ⟨S, g, s, q.bnd.imp fun r S1 H1 g1 s1 f1 q1 v rv => q1.ret s1 rv⟩
def exprM (f : M Res) : M Fl := f >>= fun _ => pure .next
theorem ds_expr (ha : DE X z a fa) (hs : swapsWith a none pos.line X.env = pure false := by rfl) : DS X z (.Expr a pos) (exprM fa) :=
  PS.imp (ps_expr ha hs) fun D σ H ⟨S, g, s, q⟩ => ⟨S, g, s, q.bnd.imp fun r S1 H1 g1 s1 f1 q1 v rv => q1.next s1⟩
variable {xs ys : List Stmt} {ta : M Bool}
theorem ds_if (hc : DT X z c ta) (ha : DB X z xs f) (hb : DB X z ys h) : DS X z (.If c xs ys pos) (ifM ta f h) :=
  PS.imp (ps_if hc ha hb) fun D σ H ⟨S, g, s, q⟩ => ⟨S, g, s, q.bnd.imp fun k S1 H1 g1 s1 f1 q1 => by
    cases k with
    | true => exact ⟨S1, g1, s1, q1⟩
    | false => exact ⟨S1, g1, s1, q1⟩⟩
theorem SR.put_dat {i : Nat} (s : SR K z S σ H g) (rv : Rp K H g v d) : SR K z (S.put i (.dat d)) (σ.set i (some v)) H g where
  len := by show (S.env.set i _).length = _; rw [List.length_set, List.length_set]; exact s.len
  dat := fun j e h => by
    rcases set_get h with ⟨rfl, q⟩ | ⟨ne, q⟩
    · cases q
      have hl : i < σ.length := by
        have := (List.getElem?_eq_some_iff.mp h).1
        change i < (S.env.set i _).length at this
        rw [List.length_set, s.len] at this
        exact this
      exact ⟨v, List.getElem?_set_self hl, rv⟩
    · obtain ⟨w, e1, r⟩ := s.dat j e q
      exact ⟨w, by rw [List.getElem?_set_ne ne]; exact e1, r⟩
  own := fun j e h => by
    rcases set_get h with ⟨rfl, q⟩ | ⟨ne, q⟩
    · cases q
    · obtain ⟨b, e1, r⟩ := s.own j e q
      exact ⟨b, by rw [List.getElem?_set_ne ne]; exact e1, r⟩
  inj := fun j k d1 d2 b h1 h2 e1 e2 => by
    rcases set_get h1 with ⟨rfl, q⟩ | ⟨ne1, q1⟩
    · cases q
    · rcases set_get h2 with ⟨rfl, q⟩ | ⟨ne2, q2⟩
      · cases q
      · rw [List.getElem?_set_ne ne1] at e1
        rw [List.getElem?_set_ne ne2] at e2
        exact s.inj j k d1 d2 b q1 q2 e1 e2
  olen := s.olen
  obj := s.obj
  ond := s.ond
  mu := s.mu
  base := s.base
  b0 := s.b0
  keep := s.keep
  on := s.on
theorem SR.put_own {i : Nat} (s : SR K z S σ H g) (rv : ResOk K z S σ H g v (.new d)) : SR K z (S.put i (.own d)) (σ.set i (some v)) H g := by
  obtain ⟨a, rfl, hb, rt, h0, hm, hn⟩ := rv
  constructor
  · show (S.env.set i _).length = _; rw [List.length_set, List.length_set]; exact s.len
  · intro j e h
    rcases set_get h with ⟨rfl, q⟩ | ⟨ne, q⟩
    · cases q
    · obtain ⟨w, e1, r⟩ := s.dat j e q
      exact ⟨w, by rw [List.getElem?_set_ne ne]; exact e1, r⟩
  · intro j e h
    rcases set_get h with ⟨rfl, q⟩ | ⟨ne, q⟩
    · cases q
      have hl : i < σ.length := by
        have := (List.getElem?_eq_some_iff.mp h).1
        change i < (S.env.set i _).length at this
        rw [List.length_set, s.len] at this
        exact this
      exact ⟨a, List.getElem?_set_self hl, hb, rt, h0, hm⟩
    · obtain ⟨b, e1, r⟩ := s.own j e q
      exact ⟨b, by rw [List.getElem?_set_ne ne]; exact e1, r⟩
  · intro j k d1 d2 b h1 h2 e1 e2
    rcases set_get h1 with ⟨rfl, q⟩ | ⟨ne1, q1⟩
    · rcases set_get h2 with ⟨rfl, q⟩ | ⟨ne2, q2⟩
      · rfl
      · rw [List.getElem?_set_ne ne2] at e2
        rcases set_get e1 with ⟨_, w⟩ | ⟨w, _⟩
        · cases w; exact absurd e2 (hn k d2 q2)
        · exact absurd rfl w
    · rcases set_get h2 with ⟨rfl, q⟩ | ⟨ne2, q2⟩
      · rw [List.getElem?_set_ne ne1] at e1
        rcases set_get e2 with ⟨_, w⟩ | ⟨w, _⟩
        · cases w; exact absurd e1 (hn j d1 q1)
        · exact absurd rfl w
      · rw [List.getElem?_set_ne ne1] at e1
        rw [List.getElem?_set_ne ne2] at e2
        exact s.inj j k d1 d2 b q1 q2 e1 e2
  · exact s.olen
  · exact s.obj
  · exact s.ond
  · exact s.mu
  · exact s.base
  · exact s.b0
  · exact s.keep
  · exact s.on
def putM (i : Nat) (x : Slot) : M Unit := fun S => some (.ok (), S.put i x)
def setM (i : Nat) : Res → M Unit
  | .new d => putM i (.own d)
  | r => useM r >>= fun d => putM i (.dat d)
def asgM (i : Nat) (f : M Res) : M Fl := f >>= fun r => setM i r >>= fun _ => pure .next
theorem GoS.put {i : Nat} {x : Slot} {k : Unit → M Fl} {D : Ends} {σ' : L2.St} (h : GoS K mg z (putM i x >>= k) S σ H g D) : GoS K mg z (k ()) (S.put i x) σ' H g D := h
theorem GoS.use {k : D → M Fl} {D : Ends} (s : SR K z S σ H g) (r0 : ResOk K z S σ H g v r) (h : GoS K mg z (useM r >>= k) S σ H g D) :
    ∃ S' g', SR K z S' σ H g' ∧ Fr H g H g' ∧ Rp K H g' v r.d ∧ GoS K mg z (k r.d) S' σ H g' D := by
  cases r with
  | dat d => exact ⟨S, g, s, Fr.refl _ _, r0, h⟩
  | new d =>
    obtain ⟨g', s', f, r⟩ := s.new_del r0
    exact ⟨S, g', s', f, r, GoS.at (f := k d) h f⟩
  | own i d =>
    obtain ⟨e1, e2⟩ := r0
    obtain ⟨a, e3, _⟩ := s.own i d e1
    rw [e2] at e3; cases e3
    obtain ⟨s', r⟩ := s.use_own e1 e2
    exact ⟨_, _, s', Fr.del, r, Go.ok (by rw [useM_own, if_pos e1]; rfl) h.bnd s' Fr.del⟩
theorem GoS.set {i : Nat} {D : Ends} (s : SR K z S σ H g) (rv : ResOk K z S σ H g v r) (h : GoS K mg z (setM i r >>= fun _ => pure .next) S σ H g D) : D.nx (σ.set i (some v)) H := by
  have key : ∀ (r : Res), ResOk K z S σ H g v r → GoS K mg z ((useM r >>= fun d => putM i (.dat d)) >>= fun _ => pure .next) S σ H g D → D.nx (σ.set i (some v)) H := fun r rv h => by
    rw [bind_assoc] at h
    obtain ⟨S', g', s', f, rp, h2⟩ := h.use s rv
    exact GoS.next (GoS.put h2) (s'.put_dat rp)
  cases r with
  | dat d => exact key _ rv h
  | new d => exact GoS.next (GoS.put h) (s.put_own rv)
  | own j d => exact key _ rv h
theorem ds_set (i : Nat) {x : Str} {e : Expr} {fe : M Res} {pos' : Pos} (hN : X.N.Nodup) (he : DE X z e fe) (hi : X.N[i]? = some x := by rfl) (hx : Loc X.env.scope x := by first | exact .inl rfl | exact .inr rfl)
    (hs : swapsWith e (some (.Name x pos')) pos.line X.env = pure false := by rfl) (hf : X.fn x = true ∨ X.env.scope.names.lookup x = some .local := by first | exact .inl rfl | exact .inr rfl | assumption) :
    DS X z (.Assign [.Name x pos'] e pos) (asgM i fe) :=
  PS.imp (ps_set hN hi hx he hs hf) fun D σ H ⟨S, g, s, q⟩ => ⟨S, g, s, q.bnd.imp fun r S1 H1 g1 s1 f1 q1 v rv => GoS.set s1 rv q1⟩
structure Sm (ts : List Nat) (σ σ' : L2.St) : Prop where
  len : σ'.length = σ.length
  at_ : ∀ i, i ∉ ts → σ'[i]? = σ[i]?
theorem Sm.refl (ts : List Nat) (σ : L2.St) : Sm ts σ σ := ⟨rfl, fun _ _ => rfl⟩
theorem Sm.trans {ts us : List Nat} {σ σ1 σ2 : L2.St} (a : Sm ts σ σ1) (b : Sm us σ1 σ2) : Sm (ts ++ us) σ σ2 :=
  ⟨b.len.trans a.len, fun i h => (b.at_ i fun q => h (List.mem_append_right _ q)).trans (a.at_ i fun q => h (List.mem_append_left _ q))⟩
def GoG (K : PySem.W.Frag) (z : Zx) (ts : List Nat) (f : M Unit) (S : Sx) (σ : L2.St) (H : Hp) (g : Gh) (Q : L2.St → Hp → Prop) : Prop :=
  match f S with
  | some (.ok _, S') => ∀ σ' H' g', SR K z S' σ' H' g' → Fr H g H' g' → Sm ts σ σ' → Q σ' H'
  | _ => False
def tG (K : PySem.W.Frag) (z : Zx) (ts : List Nat) (f : D → M Unit) : TG := fun v σ H Q => ∃ S g d, SR K z S σ H g ∧ Rp K H g v d ∧ GoG K z ts (f d) S σ H g Q
def tGs (K : PySem.W.Frag) (z : Zx) (ts : List Nat) (f : List D → M Unit) : TGs := fun vs σ H Q => ∃ S g ds, SR K z S σ H g ∧ RpA K H g vs ds ∧ GoG K z ts (f ds) S σ H g Q
abbrev DG (X : Cx) (z : Zx) (ts : List Nat) (e : Expr) (f : D → M Unit) : Prop := PG X e (tG X.K z ts f)
abbrev DGs (X : Cx) (z : Zx) (ts : List Nat) (es : List Expr) (f : List D → M Unit) : Prop := PGs X es (tGs X.K z ts f)
theorem PG.imp {e : Expr} {t u : TG} (p : PG X e t) (h : ∀ v σ H Q, u v σ H Q → t v σ H Q) : PG X e u := ⟨fun pins s σ H v w Q I r q => p.run pins s σ H v w Q I r (h v σ H Q q)⟩
theorem PGs.imp {e : List Expr} {t u : TGs} (p : PGs X e t) (h : ∀ v σ H Q, u v σ H Q → t v σ H Q) : PGs X e u := ⟨fun pins s σ H v w Q I r q => p.run pins s σ H v w Q I r (h v σ H Q q)⟩
def gN (i : Nat) (d : D) : M Unit := putM i (.dat d)
theorem dg_name (i : Nat) {x : Str} (hN : X.N.Nodup) (hi : X.N[i]? = some x := by rfl) (hx : Loc X.env.scope x := by first | exact .inl rfl | exact .inr rfl)
    (hf : X.fn x = true ∨ X.env.scope.names.lookup x = some .local := by first | exact .inl rfl | exact .inr rfl | assumption) : DG X z [i] (.Name x pos) (gN i) :=
  PG.imp (pg_name hN hi hx hf) fun v σ H Q ⟨S, g, d, s, rv, q⟩ => q _ H g (s.put_dat rv) (Fr.refl _ _) ⟨List.length_set, fun j h => List.getElem?_set_ne fun e => h (List.mem_singleton.mpr e.symm)⟩
def gsN : List D → M Unit
  | [] => pure ()
  | _ => M.no
def gsC (f : D → M Unit) (h : List D → M Unit) : List D → M Unit
  | d :: ds => f d >>= fun _ => h ds
  | [] => M.no
theorem dgs_nil : DGs X z [] [] gsN := PGs.imp pgs_nil fun vs σ H Q ⟨S, g, ds, s, rv, q⟩ => by
  cases rv with
  | nil => exact ⟨rfl, q σ H g s (Fr.refl _ _) (Sm.refl _ _)⟩
  | cons => exact q.elim
theorem GoG.bnd {ts us : List Nat} {f : M Unit} {k : Unit → M Unit} {Q : L2.St → Hp → Prop} (h : GoG K z (ts ++ us) (f >>= k) S σ H g Q) : GoG K z ts f S σ H g fun σ1 H1 => ∃ S1 g1, SR K z S1 σ1 H1 g1 ∧ Fr H g H1 g1 ∧ GoG K z us (k ()) S1 σ1 H1 g1 Q := by
  have e : (f >>= k) S = M.bnd f k S := rfl
  unfold GoG at h ⊢
  rw [e] at h
  unfold M.bnd at h
  cases hf : f S with
  | none => rw [hf] at h; exact h
  | some p =>
    obtain ⟨r, S1⟩ := p
    rw [hf] at h
    cases r with
    | error x => exact h
    | ok a =>
      intro σ1 H1 g1 s1 f1 m1
      refine ⟨S1, g1, s1, f1, ?_⟩
      change (match k a S1 with
        | some (.ok _, S') => ∀ σ' H' g', SR K z S' σ' H' g' → Fr H g H' g' → Sm (ts ++ us) σ σ' → Q σ' H'
        | _ => False) at h
      cases hk : k a S1 with
      | none => rw [hk] at h; exact h.elim
      | some q =>
        obtain ⟨r2, S2⟩ := q
        rw [hk] at h
        cases r2 with
        | error x => exact h.elim
        | ok b => exact fun σ2 H2 g2 s2 f2 m2 => h σ2 H2 g2 s2 (f1.trans f2) (m1.trans m2)
theorem GoG.imp {ts : List Nat} {f : M Unit} {Q Q' : L2.St → Hp → Prop} (h : GoG K z ts f S σ H g Q) (hp : ∀ σ' H', Q σ' H' → Q' σ' H') : GoG K z ts f S σ H g Q' := by
  unfold GoG at h ⊢
  cases hf : f S with
  | none => rw [hf] at h; exact h
  | some p =>
    obtain ⟨r, S1⟩ := p
    rw [hf] at h
    cases r with
    | error x => exact h
    | ok a => exact fun σ1 H1 g1 s1 f1 m1 => hp _ _ (h σ1 H1 g1 s1 f1 m1)
theorem dgs_cons {ts us : List Nat} {e : Expr} {es : List Expr} {f : D → M Unit} {h : List D → M Unit} (h1 : DG X z ts e f) (h2 : DGs X z us es h)
    (hs : (assignEach (e :: es) X.env).map (·.2) = assign e X.env :: (assignEach es X.env).map (·.2) := by rfl) : DGs X z (ts ++ us) (e :: es) (gsC f h) :=
  PGs.imp (pgs_cons h1 h2 hs) fun vs σ H Q ⟨S, g, ds, s, rv, q⟩ => by
    cases rv with
    | nil => exact q.elim
    | cons rv rs =>
      exact ⟨_, _, rfl, S, g, _, s, rv, (GoG.bnd (f := f _) (k := fun _ => h _) q).imp fun σ' H' ⟨S1, g1, s1, f1, q2⟩ => ⟨S1, g1, _, s1, rs.fr f1 s.mu, q2⟩⟩
def gT (n : Nat) (h : List D → M Unit) : D → M Unit
  | .tup ds => if ds.length = n then h ds else M.no
  | _ => M.no
theorem dg_tup {ts : List Nat} {es : List Expr} {k n : Nat} {h : List D → M Unit} (hc : X.calm = true) (hh : DGs X z ts es h)
    (hn : (assignEach es X.env).length = n := by rfl) (hst : (assignEach es X.env).findIdx? (·.1) = none := by rfl) : DG X z ts (.Tuple es k pos) (gT n h) :=
  PG.imp (pg_tup hc hh hn hst) fun v σ H Q ⟨S, g, d, s, rv, q⟩ => by
    cases d <;> first | exact q.elim | skip
    rename_i ds
    obtain ⟨a, xs, rfl, hx, rx⟩ := Pk.tup (.inl rv)
    by_cases e : ds.length = n
    · change GoG X.K z ts (if ds.length = n then h ds else M.no) S σ H g Q at q
      rw [if_pos e] at q
      exact ⟨a, xs, rfl, SqT.of hx, by rw [rx.length]; exact e, S, g, ds, s, rx, q⟩
    · change GoG X.K z ts (if ds.length = n then h ds else M.no) S σ H g Q at q
      rw [if_neg e] at q
      exact q.elim
def asgG (fe : M Res) (f : D → M Unit) : M Fl := fe >>= fun r => useM r >>= fun d => f d >>= fun _ => pure .next
theorem GoS.goG {ts : List Nat} {f : M Unit} {D : Ends} (hne : ∀ S x S', f S ≠ some (.error x, S')) (h : GoS K mg z (f >>= fun _ => pure .next) S σ H g D) : GoG K z ts f S σ H g D.nx := by
  have e : (f >>= fun _ => (pure Fl.next : M Fl)) S = M.bnd f (fun _ => (pure Fl.next : M Fl)) S := rfl
  unfold GoS at h
  unfold GoG
  rw [e] at h
  unfold M.bnd at h
  cases hf : f S with
  | none => rw [hf] at h; exact h
  | some p =>
    obtain ⟨r, S1⟩ := p
    rw [hf] at h
    cases r with
    | error x => exact (hne _ _ _ hf).elim
    | ok a => exact fun σ1 H1 g1 s1 f1 _ => h σ1 H1 g1 s1 f1
def Calm (f : D → M Unit) : Prop := ∀ d S x S', f d S ≠ some (.error x, S')
def Calms (f : List D → M Unit) : Prop := ∀ d S x S', f d S ≠ some (.error x, S')
theorem calm_n {i : Nat} : Calm (gN i) := fun d S x S' e => by cases e
theorem calms_n : Calms gsN := fun d S x S' e => by cases d <;> cases e
theorem calms_c {f : D → M Unit} {h : List D → M Unit} (a : Calm f) (b : Calms h) : Calms (gsC f h) := fun d S x S' e => by
  cases d with
  | nil => cases e
  | cons d ds =>
    change M.bnd (f d) _ S = _ at e
    unfold M.bnd at e
    cases hf : f d S with
    | none => rw [hf] at e; cases e
    | some p =>
      obtain ⟨r, S1⟩ := p
      rw [hf] at e
      cases r with
      | error y => exact a _ _ _ _ hf
      | ok u => exact b _ _ _ _ e
theorem calm_t {n : Nat} {h : List D → M Unit} (b : Calms h) : Calm (gT n h) := fun d S x S' e => by
  cases d <;> first | (cases e; done) | skip
  rename_i ds
  change (if ds.length = n then h ds else M.no) S = _ at e
  split at e
  · exact b _ _ _ _ e
  · cases e
theorem ds_asg {ts : List Nat} {tg e : Expr} {fe : M Res} {f : D → M Unit} (hcl : Calm f) (he : DE X z e fe) (hg : DG X z ts tg f) (hs : swapsWithSole [tg] e pos.line X.env = pure false := by rfl) (hw : swappedStores [tg] e X.env = pure none := by rfl)
    (h1 : (assignEach [tg] X.env).map (·.2) = [assign tg X.env] := by rfl) : DS X z (.Assign [tg] e pos) (asgG fe f) :=
  PS.imp (ps_asg he hg hs hw h1) fun D σ H ⟨S, g, s, q⟩ => ⟨S, g, s, q.bnd.imp fun r S1 H1 g1 s1 f1 q1 v rv => by
    obtain ⟨S2, g2, s2, f2, rp, q2⟩ := GoS.use s1 rv q1
    exact ⟨S2, g2, _, s2, rp, GoS.goG (hcl _) q2⟩⟩
end
end DL
end
section
set_option maxRecDepth 100000
namespace DL
open PySem PySem.Spec L2
section
variable {X : Cx} {z : Zx} {S S' : Sx} {σ : L2.St} {H H' : Hp} {g g' : Gh} {v : V} {d : D} {r : Res} {pos : Pos} {a b c : Expr} {fa fb fc : M Res} {K : PySem.W.Frag} {mg : Str → Option Value}
  {st : Stmt} {sts xs ys body : List Stmt} {f h : M Fl} {t ta tb : M Bool}
def loopK (again : M Fl) : Fl → M Fl
  | .next => again
  | .cont => again
  | .brk => pure .next
  | .ret r => pure (.ret r)
def whileM (t : M Bool) (b : M Fl) : Nat → M Fl
  | 0 => M.no
  | n + 1 => t >>= fun c => if c = true then b >>= loopK (whileM t b n) else pure .next
theorem ds_while (n : Nat) (hp : PassesOwn (model X.prog X.w) X.A X.env X.xe) (hc : DT X z c t) (hb : DB X z body h) : DS X z (.While c body [] pos) (whileM t h n) :=
  PS.imp (ps_while hp hc hb) fun D σ H q => by
    refine ⟨fun m σ H => tS X.K X.mg z (whileM t h m) D σ H, ⟨n, q⟩, fun m σ H w => ?_⟩
    obtain ⟨S, g, s, q⟩ := w
    cases m with
    | zero => exact q.elim
    | succ m =>
      refine ⟨S, g, s, (GoS.bnd (f := t) q).imp fun k S1 H1 g1 s1 f1 q1 => ?_⟩
      cases k with
      | false => exact q1.next s1
      | true =>
        refine ⟨fun σ H => tS X.K X.mg z (whileM t h m) D σ H, fun σ' H' w => ⟨m, Nat.lt_succ_self m, w⟩, S1, g1, s1, ?_⟩
        exact GoS.seq (k := loopK (whileM t h m)) q1 (fun S2 σ2 H2 g2 s2 q2 => ⟨S2, g2, s2, q2⟩) (fun S2 σ2 H2 g2 s2 q2 => q2.next s2) (fun S2 σ2 H2 g2 s2 q2 => ⟨S2, g2, s2, q2⟩)
          fun r S2 σ2 H2 g2 v s2 rv q2 => q2.ret s2 rv
def Grow (H H' : Hp) : Prop := H' = H ∨ ∃ p xs, H p = none ∧ H' = upd H p (.tup xs)
structure ItOk (K : PySem.W.Frag) (J : It) (ds : List D) (H0 : Hp) (g0 : Gh) : Prop where
  go : ∀ i d H g, Fr H0 g0 H g → ds[i]? = some d → J.go i H
  yld : ∀ i d H g x H', Fr H0 g0 H g → Mu H g → ds[i]? = some d → J.yld i H x H' → Grow H H' ∧ Rp K H' g x d
  stop : ∀ H g, Fr H0 g0 H g → J.stop ds.length H
def tI (K : PySem.W.Frag) (mg : Str → Option Value) (z : Zx) (f : M (List D)) : TI := fun σ H R => ∃ S g, SR K z S σ H g ∧ Go K mg z f S σ H g fun ds S' H' g' => ∀ J, ItOk K J ds H' g' → R J H'
abbrev DI (X : Cx) (z : Zx) (tg e : Expr) (f : M (List D)) : Prop := PI X tg e (tI X.K X.mg z f)
theorem PI.imp {tg e : Expr} {t u : TI} (p : PI X tg e t) (h : ∀ σ H Q, u σ H Q → t σ H Q) : PI X tg e u := ⟨fun pins s σ H Q I q => p.run pins s σ H Q I (h σ H Q q)⟩
theorem SR.grow (s : SR K z S σ H g) (h : Grow H H') : SR K z S σ H' g ∧ Fr H g H' g := by
  rcases h with rfl | ⟨p, xs, hp, rfl⟩
  · exact ⟨s, Fr.refl _ _⟩
  · exact ⟨s.upd_new hp, Fr.upd_new hp⟩
def iSeq (K : PySem.W.Frag) (tl : TE) : TI := fun σ H R => tl σ H fun x H1 => (∃ a, x = .ref a ∧ (∃ xs, SqL K H1 a xs) ∧ R (Itl K a) H1) ∨ ∃ a, x = .ref a ∧ (∃ xs, SqT K H1 a xs) ∧ R (Itt K a) H1
theorem pi_seq {tg l : Expr} {tl : TE} (hl : PE X l tl) : PI X tg l (iSeq X.K tl) := by
  constructor
  intro pins s0 σ0 G0 R inv hyp
  refine thn (hl.run pins s0 σ0 G0 _ inv hyp) ?_
  rintro w s1 ⟨x, G1, inv1, rel, alt⟩
  have fp : ∀ b ∈ [s1.heap.objs.size], FpOk X pins G1 b := fun b hb => by
    rw [List.mem_singleton] at hb
    subst hb
    exact inv1.fpOk (Nat.le_refl _) (inv1.hok.fresh (Nat.le_refl _))
  rcases alt with ⟨a, rfl, ⟨ys, sq⟩, fin⟩ | ⟨a, rfl, ⟨ys, sq⟩, fin⟩
  · obtain rfl : w = Value.ref a := rel
    obtain ⟨its, _, pl, _⟩ := inv1.list sq
    exact PySem.wpAny_pyIter_list pl.isList ⟨_, [s1.heap.objs.size], _, _, G1, rfl, inv1.kept (t' := s1.toks) (fun _ _ e => Heap.get?_push_of_some _ e), turn_list a _, ⟨_, Heap.get?_push_size _ rfl, rfl, rfl⟩, fp, fin⟩
  · obtain rfl : w = Value.ref a := rel
    obtain ⟨its, _, pl, _⟩ := inv1.tuple sq
    exact PySem.wpAny_pyIter_tuple (show s1.heap.IsTuple a its.toArray from pl) ⟨_, [s1.heap.objs.size], _, _, G1, rfl, inv1.kept (t' := s1.toks) (fun _ _ e => Heap.get?_push_of_some _ e), turn_tuple a _, ⟨_, Heap.get?_push_size _ rfl, rfl, rfl⟩, fp, fin⟩
theorem RpA.none {vs : List V} {ds : List D} {i : Nat} (r : RpA K H g vs ds) (h : ds.length ≤ i) : vs.length ≤ i := by rw [r.length]; exact h
theorem itl_ok {a : Addr} {xs : List V} {ds : List D} (h : H a = some (.lst xs)) (hb : ¬ g.bad a) (r : RpA K H g xs ds) (m : Mu H g) : ItOk K (Itl K a) ds H g where
  go := fun i d H1 g1 f e => let ⟨w, e1, _⟩ := r.get e; ⟨xs, w, SqL.of (f.keep _ _ h hb).1, e1⟩
  yld := fun i d H1 g1 x H2 f m1 e y => by
    obtain ⟨w, e1, rw⟩ := r.get e
    obtain ⟨rfl, y⟩ := y
    have := y xs (SqL.of (f.keep _ _ h hb).1)
    rw [e1] at this; cases this
    exact ⟨.inl rfl, rw.fr f m⟩
  stop := fun H1 g1 f => ⟨xs, SqL.of (f.keep _ _ h hb).1, by rw [r.length]; exact Nat.le_refl _⟩
theorem itr_ok {a : Addr} {xs : List V} {ds : List D} (h : RoL K H a xs) (r : RpA K H g xs ds) (m : Mu H g) : ItOk K (Itl K a) ds H g where
  go := fun i d H1 g1 f e => let ⟨w, e1, _⟩ := r.get e; ⟨xs, w, (f.rol m h).sq, e1⟩
  yld := fun i d H1 g1 x H2 f m1 e y => by
    obtain ⟨w, e1, rw⟩ := r.get e
    obtain ⟨rfl, y⟩ := y
    have := y xs (f.rol m h).sq
    rw [e1] at this; cases this
    exact ⟨.inl rfl, rw.fr f m⟩
  stop := fun H1 g1 f => ⟨xs, (f.rol m h).sq, by rw [r.length]; exact Nat.le_refl _⟩
theorem itt_ok {a : Addr} {xs : List V} {ds : List D} (h : H a = some (.tup xs)) (r : RpA K H g xs ds) (m : Mu H g) : ItOk K (Itt K a) ds H g where
  go := fun i d H1 g1 f e => let ⟨w, e1, _⟩ := r.get e; ⟨xs, w, SqT.of (f.tup m h), e1⟩
  yld := fun i d H1 g1 x H2 f m1 e y => by
    obtain ⟨w, e1, rw⟩ := r.get e
    obtain ⟨rfl, y⟩ := y
    have := y xs (SqT.of (f.tup m h))
    rw [e1] at this; cases this
    exact ⟨.inl rfl, rw.fr f m⟩
  stop := fun H1 g1 f => ⟨xs, SqT.of (f.tup m h), by rw [r.length]; exact Nat.le_refl _⟩
def D.items : D → Option (List D)
  | .lst ds => some ds
  | .rol ds => some ds
  | .tup ds => some ds
  | _ => none
def seqI (f : M Res) : M (List D) := f >>= fun r => useM r >>= fun d => M.opt d.items pure
theorem di_seq {tg : Expr} (ha : DE X z a fa) : DI X z tg a (seqI fa) :=
  PI.imp (pi_seq ha) fun σ H R ⟨S, g, s, q⟩ => ⟨S, g, s, q.bnd.imp fun r S1 H1 g1 s1 f1 q1 v rv => by
    obtain ⟨S2, g2, s2, f2, rp, q2⟩ := q1.use s1 rv
    obtain ⟨ds, e, q3⟩ := q2.opt
    have q4 := q3.pure s2
    cases hd : r.d <;> rw [hd] at e rp <;> simp [D.items] at e
    · subst e
      obtain ⟨a, xs, rfl, hx, rx⟩ := Pk.tup (.inl rp)
      exact .inr ⟨a, rfl, ⟨xs, SqT.of hx⟩, q4 _ (itt_ok hx rx s2.mu)⟩
    · subst e
      cases rp with
      | lst hx hb rx => exact .inl ⟨_, rfl, ⟨_, SqL.of hx⟩, q4 _ (itl_ok hx hb rx s2.mu)⟩
    · subst e
      cases rp with
      | rol hx rx => exact .inl ⟨_, rfl, ⟨_, hx.sq⟩, q4 _ (itr_ok hx rx s2.mu)⟩⟩
def rangeD (lo : Int) : Nat → List D
  | 0 => []
  | n + 1 => .int lo :: rangeD (lo + 1) n
theorem rangeD_len : ∀ (lo : Int) (n : Nat), (rangeD lo n).length = n
  | _, 0 => rfl
  | lo, n + 1 => congrArg Nat.succ (rangeD_len (lo + 1) n)
theorem rangeD_get : ∀ (lo : Int) (n i : Nat), i < n → (rangeD lo n)[i]? = some (.int (lo + i))
  | lo, n + 1, 0, _ => by simp [rangeD]
  | lo, n + 1, i + 1, h => by
    show (rangeD (lo + 1) n)[i]? = _
    rw [rangeD_get (lo + 1) n i (by omega)]
    congr 2
    push_cast
    omega
theorem itrng_ok {lo : Int} {n : Nat} : ItOk K (Itr lo n) (rangeD lo n) H g where
  go := fun i d H1 g1 f e => by
    have := (List.getElem?_eq_some_iff.mp e).1
    rw [rangeD_len] at this
    exact this
  yld := fun i d H1 g1 x H2 f m e y => by
    obtain ⟨rfl, rfl⟩ := y
    have h := (List.getElem?_eq_some_iff.mp e).1
    rw [rangeD_len] at h
    rw [rangeD_get lo n i h] at e
    cases e
    exact ⟨.inl rfl, .int _⟩
  stop := fun H1 g1 f => by rw [rangeD_len]; exact Nat.le_refl _
def rngOk (j : Int) : Bool := decide (-(2 ^ 62) ≤ j ∧ j < 2 ^ 62)
def rng1I (f : M Res) : M (List D) := f >>= fun r => M.opt r.d.isInt fun j => M.need (rngOk j) (pure (rangeD 0 j.toNat))
variable {es : List Expr} {fs : M (List Res)} {tg : Expr}
theorem Pk.isInt {i : Int} (p : Pk K H g v d) (e : d.isInt = some i) : v = .int i := by rw [isInt_eq e] at p; exact p.int
theorem di_rng1 {p : Pos} (hg : Gl X "range") (hm : X.mg "range" = none) (ha : DE X z a fa) (h1 : starEach [a] X.env = (false, eval a X.env) :: starEach [] X.env := by rfl) (hs : starEach [a] X.env = [(false, eval a X.env)] := by rfl) : DI X z tg (.Call (.Name "range" p) [a] [] pos) (rng1I fa) :=
  PI.imp (pi_range1 hg hm (pa_cons ha pa_nil h1) hs) fun σ H R ⟨S, g, s, q⟩ => ⟨S, g, s, q.bnd.imp fun r S1 H1 g1 s1 f1 q1 w rv => by
    obtain ⟨j, e, q2⟩ := q1.opt
    obtain ⟨c, q3⟩ := q2.need
    have c := of_decide_eq_true c
    exact ⟨j, by rw [(s1.pk rv).isInt e], c.1, c.2, q3.pure s1 _ itrng_ok⟩⟩
def forM (tgt : D → M Unit) (b : M Fl) : List D → M Fl
  | [] => pure .next
  | d :: ds => tgt d >>= fun _ => b >>= loopK (forM tgt b ds)
def forIn (it : M (List D)) (tgt : D → M Unit) (b : M Fl) : M Fl := it >>= fun ds => forM tgt b ds
theorem drop_get {α : Type} {l : List α} {i : Nat} {x : α} (h : l[i]? = some x) : l.drop i = x :: l.drop (i + 1) := by
  obtain ⟨hl, e⟩ := List.getElem?_eq_some_iff.mp h
  rw [List.drop_eq_getElem_cons hl, e]
theorem GoS.tgt {ts : List Nat} {f : M Unit} {k : Unit → M Fl} {D : Ends} (hne : ∀ S x S', f S ≠ some (.error x, S')) (h : GoS K mg z (f >>= k) S σ H g D) : GoG K z ts f S σ H g fun σ1 H1 => tS K mg z (k ()) D σ1 H1 := by
  have e : (f >>= k) S = M.bnd f k S := rfl
  unfold GoS at h
  unfold GoG
  rw [e] at h
  unfold M.bnd at h
  cases hf : f S with
  | none => rw [hf] at h; exact h
  | some p =>
    obtain ⟨r, S1⟩ := p
    rw [hf] at h
    cases r with
    | error x => exact (hne _ _ _ hf).elim
    | ok a =>
      intro σ1 H1 g1 s1 f1 m1
      refine ⟨S1, g1, s1, ?_⟩
      have h' : ∀ σ1 : L2.St, GoS K mg z (k ()) S1 σ1 H g D := fun σ1 => by
        unfold GoS
        change (match k () S1 with
          | none => False
          | some (.ok .next, S') => ∀ σ' H' g', SR K z S' σ' H' g' → Fr H g H' g' → D.nx σ' H'
          | some (.ok .brk, S') => ∀ σ' H' g', SR K z S' σ' H' g' → Fr H g H' g' → D.bk σ' H'
          | some (.ok .cont, S') => ∀ σ' H' g', SR K z S' σ' H' g' → Fr H g H' g' → D.ct σ' H'
          | some (.ok (.ret r), S') => ∀ σ' H' g' v, SR K z S' σ' H' g' → Fr H g H' g' → ResOk K z S' σ' H' g' v r → D.rt v H'
          | some (.error x, S') => ∀ cls dx σ' H' g', SR K z S' σ' H' g' → Fr H g H' g' → ExnOk K mg H' g' cls dx x → z.W cls dx σ' H') at h
        exact h
      exact (h' σ1).at f1
theorem ds_for {ts : List Nat} {iter : Expr} {it : M (List D)} {tgt : D → M Unit} (hp : PassesOwn (model X.prog X.w) X.A X.env X.xe) (hc : X.calm = true) (hcl : Calm tgt) (hi : DI X z tg iter it) (hg : DG X z ts tg tgt) (hb : DB X z body h)
    (hs : ∀ x, foldedSetIterable iter X.env x = pure x := by intro _; rfl) : DS X z (.For tg iter body [] pos) (forIn it tgt h) :=
  PS.imp (ps_for hp hc hi hg hb hs) fun D σ H ⟨S, g, s, q⟩ => ⟨S, g, s, q.bnd.imp fun ds S1 H1 g1 s1 f1 q1 J ok => by
    refine ⟨fun i m σ H => m = ds.length - i ∧ i ≤ ds.length ∧ ∃ S g, SR X.K z S σ H g ∧ Fr H1 g1 H g ∧ GoS X.K X.mg z (forM tgt h (ds.drop i)) S σ H g D, ⟨ds.length, by simp, Nat.zero_le _, S1, g1, s1, Fr.refl _ _, q1⟩, ?_⟩
    rintro i m σ2 H2 ⟨rfl, hi, S2, g2, s2, f2, q2⟩
    by_cases hlt : i < ds.length
    · have e := List.getElem?_eq_getElem hlt
      refine .inr ⟨ok.go i _ H2 g2 f2 e, fun σ H => ∃ S g, SR X.K z S σ H g ∧ Fr H1 g1 H g ∧ GoS X.K X.mg z (forM tgt h (ds.drop (i + 1))) S σ H g D, fun σ' H' w => ⟨ds.length - (i + 1), by omega, rfl, hlt, w⟩, fun x H3 y => ?_⟩
      obtain ⟨gr, rx⟩ := ok.yld i _ H2 g2 x H3 f2 s2.mu e y
      obtain ⟨s3, f3⟩ := s2.grow gr
      rw [drop_get e] at q2
      refine ⟨S2, g2, _, s3, rx, ?_⟩
      have q3 := GoS.tgt (ts := ts) (hcl _) (q2.at f3)
      unfold GoG at q3 ⊢
      cases hf : tgt ds[i] S2 with
      | none => rw [hf] at q3; exact q3
      | some p =>
        obtain ⟨r, S4⟩ := p
        rw [hf] at q3
        cases r with
        | error x => exact (hcl _ _ _ _ hf).elim
        | ok u =>
          intro σ4 H4 g4 s4 f4 m4
          have q4 : GoS X.K X.mg z (h >>= loopK (forM tgt h (ds.drop (i + 1)))) S4 σ4 H4 g4 D := by
            have q5 := q2.at f3
            have e5 : (forM tgt h (ds[i] :: ds.drop (i + 1))) S2 = (h >>= loopK (forM tgt h (ds.drop (i + 1)))) S4 := bind_ok hf
            have q6 : GoS X.K X.mg z (h >>= loopK (forM tgt h (ds.drop (i + 1)))) S4 σ2 H3 g2 D := by
              unfold GoS at q5 ⊢
              rw [e5] at q5
              exact q5
            have q7 : GoS X.K X.mg z (h >>= loopK (forM tgt h (ds.drop (i + 1)))) S4 σ4 H3 g2 D := by
              unfold GoS at q6 ⊢
              exact q6
            exact q7.at f4
          have fr : Fr H1 g1 H4 g4 := (f2.trans f3).trans f4
          refine ⟨S4, g4, s4, ?_⟩
          refine GoS.fr_seq q4 (D' := { D with nx := _, ct := _, bk := D.nx }) ?_ ?_ ?_ ?_
          · exact fun S6 σ6 H6 g6 s6 f6 q6 => ⟨S6, g6, s6, fr.trans f6, q6⟩
          · exact fun S6 σ6 H6 g6 s6 f6 q6 => q6.next s6
          · exact fun S6 σ6 H6 g6 s6 f6 q6 => ⟨S6, g6, s6, fr.trans f6, q6⟩
          · exact fun r S6 σ6 H6 g6 v s6 f6 rv q6 => q6.ret s6 rv
    · have e : i = ds.length := by omega
      subst e
      rw [List.drop_length] at q2
      exact .inl ⟨ok.stop H2 g2 f2, q2.next s2⟩⟩
end
end DL
end
section
set_option maxRecDepth 100000
namespace DL
open PySem PySem.Spec L2
abbrev Den := List D → List D → Option (Except Exn Res × List D)
def ObsOk (K : PySem.W.Frag) (H : Hp) (g : Gh) (objs : List D) : Prop := objs.length = g.om.length ∧ ∀ (n : Nat) (a : Addr) (d : D), g.om[n]? = some a → objs[n]? = some d → Root K H g a d ∧ g.bad a
def ROk (K : PySem.W.Frag) (H0 H : Hp) (g : Gh) (v : V) : Res → Prop
  | .dat d => Rp K H g v d
  | .new d => ∃ a, v = .ref a ∧ g.bad a ∧ Root K H g a d ∧ H0 a = none ∧ a ∉ g.om
  | .own _ _ => False
structure Behind (K : PySem.W.Frag) (H : Hp) (g : Gh) (objs' : List D) (H' : Hp) (g' : Gh) : Prop where
  keep : ∀ a o, H a = some o → a ∉ g'.om → H' a = some o
  base : ∀ a, g.bad a → g'.bad a
  om : g.om <+: g'.om
  ond : g'.om.Nodup
  mu : Mu H' g'
  obs : ObsOk K H' g' objs'
  new : ∀ a, a ∈ g'.om → a ∈ g.om ∨ H a = none
def spDen (K : PySem.W.Frag) (mg : Str → Option Value) (n : Nat) (den : Den) : Sp := fun vs H Q E => ∃ (g : Gh) (ds objs : List D), vs.length = n ∧ Mu H g ∧ g.om.Nodup ∧ RpA K H g vs ds ∧ ObsOk K H g objs ∧
  match den ds objs with
  | none => False
  | some (.ok r, objs') => ∀ H' g' v, Behind K H g objs' H' g' → ROk K H H' g' v r → Q v H'
  | some (.error x, objs') => ∀ cls dx H' g', Behind K H g objs' H' g' → ExnOk K mg H' g' cls dx x → E cls dx H'
structure FnG (P : Program) (w : World) (K : PySem.W.Frag) (mg : Str → Option Value) (base : Heap) (k : Nat) (f : Addr) (fd : FuncData) (ps : List Str) (sp : Sp) : Prop where
  len : ∀ vs H Q E, sp vs H Q E → vs.length = ps.length
  run : ∀ (A : Around) (outer : List Env) (s : Shared) (H : Hp) (args : Args) (us : List Value) (vs : List V) (Q : VK) (E : XK), A.guards = some [] → Room k A → Env0 P w K mg base A outer s H → BindsTo s fd args (ps.zip us) → Vals vs us →
    sp vs H Q E → codeAny (model P w) A (.call (.ref f) args) (CR (L2.CX P w) outer P w H s Q E) s
section
variable {P : Program} {w : World} {K : PySem.W.Frag} {mg : Str → Option Value} {base : Heap}
theorem FnG.mono {j k : Nat} {f : Addr} {fd : FuncData} {ps : List Str} {sp : Sp} (F : FnG P w K mg base j f fd ps sp) (h : j ≤ k) : FnG P w K mg base k f fd ps sp :=
  ⟨F.len, fun A outer s H args us vs Q E hG hr => F.run A outer s H args us vs Q E hG (hr.mono h)⟩
theorem FnG.imp {k : Nat} {f : Addr} {fd : FuncData} {ps : List Str} {sp sp' : Sp} (F : FnG P w K mg base k f fd ps sp) (h : ∀ vs H Q E, sp' vs H Q E → sp vs H Q E) : FnG P w K mg base k f fd ps sp' :=
  ⟨fun vs H Q E q => F.len vs H Q E (h _ _ _ _ q), fun A outer s H args us vs Q E hG hr he hb hv q => F.run A outer s H args us vs Q E hG hr he hb hv (h _ _ _ _ q)⟩
abbrev bodyX (P : Program) (w : World) (K : PySem.W.Frag) (mg : Str → Option Value) (base : Heap) (N : List Str) (qual : Str) (st : Stmt) (f : Addr) (cdv : Value) (A : Around) (outer : List Env) (s : Shared) (H : Hp) (E : XK) : Cx :=
  cxOf (L2.CX P w) P w K mg base N qual (defScope st) f cdv A outer s H E
theorem okG {x qual : Str} {st : Stmt} {f : Addr} {fd : FuncData} {N ps : List Str} {k : Nat} {sp : Sp} (F : Fun K x qual st f fd) (Sc : FnScope N ps (defScope st)) (ln : ∀ vs H Q E, sp vs H Q E → vs.length = ps.length)
    (bod : ∀ (cdv : Value) (A : Around) (outer : List Env) (s : Shared) (H : Hp) (vs : List V) (Q : VK) (E : XK), A.guards = some [] → Room k (A.deeper (PyProof.Rows.envOfC qual (defScope st) s.heap.objs.size f cdv)) → sp vs H Q E →
      ∃ t, PSs (bodyX P w K mg base N qual st f cdv A outer s H E) (defBody st) t ∧ t { nx := fun _ H1 => Q .non H1, rt := Q } (start N vs) H) : FnG P w K mg base (k + 1) f fd ps sp := by
  obtain ⟨oc, od, kV, doc, pm, an, cdv, ct, osl, rfl, look, code⟩ := F.ex
  constructor
  · exact ln
  intro A outer s0 H args us vs Q E gd room env0 bnd rel prom
  have size := ln vs H Q E prom
  have inK : K.In s0.heap := env0.mod.kin.keeps fun _ _ e => (env0.bs _ _ e).1
  have noL : s0.heap.NoLimit := env0.mod.nolimit.keeps fun _ _ e => (env0.bs _ _ e).1
  refine codeAny_call_function room.depth (inK f _ look) rfl Sc.co Sc.gen rfl (PySem.W.codeRec_of inK code) (bnd _ _ _ _ ?_)
  have kinds : ∀ y ∈ ps.zip us, (defScope st).names.lookup y.1 = some .local ∨ ((defScope st).names.lookup y.1 = some .cell ∧ ((cellsFrom (s0.heap.objs.size + 1) (defScope st).names []).lookup y.1).isSome = true) := by
    rintro ⟨n, u⟩ hy
    rcases Sc.par n (List.of_mem_zip hy).1 with q | q
    · exact .inl q
    · exact .inr ⟨q, PySem.W.cellsFrom_some _ _ _ (.inl q)⟩
  refine wpAny_newFunctionEnv_cells Sc.kind kinds ?_
  intro env e0 s2 into
  subst e0
  refine ⟨noL.keeps into.toInCall.keep, ?_⟩
  refine codeAny_func ?_
  obtain ⟨t, walk, hyp⟩ := bod cdv A outer s0 H vs Q E gd (room.deeper _) prom
  have I0 := inv_start (CX := L2.CX P w) (E := E) (f := f) (cd := cdv) Sc room.hd env0 size rel into
  refine wpAny_mono (walk.run [] s2 (start N vs) H _ I0 hyp) ?_ (fun e s3 q => q)
  intro fl s3 q
  cases fl with
  | next =>
    obtain ⟨σ3, H3, J, q⟩ := q
    exact ⟨.non, H3, J.os, J.bare, J.base, J.hok, rfl, q⟩
  | ret u =>
    obtain ⟨v, σ3, H3, J, rv, q⟩ := q
    exact ⟨v, H3, J.os, J.bare, J.base, J.hok, rv, q⟩
  | brk => obtain ⟨_, _, _, q⟩ := q; exact q.elim
  | cont => obtain ⟨_, _, _, q⟩ := q; exact q.elim
end
def outR : Res → Res
  | .own _ d => .new d
  | r => r
def runB (n : Nat) (f : M Fl) : Den := fun ds objs => match f ⟨ds.map .dat ++ List.replicate (n - ds.length) .un, objs⟩ with
  | some (.ok .next, S') => some (.ok (.dat .non), S'.objs)
  | some (.ok (.ret r), S') => some (.ok (outR r), S'.objs)
  | some (.error x, S') => some (.error x, S'.objs)
  | _ => none
section
variable {P : Program} {w : World} {K : PySem.W.Frag} {mg : Str → Option Value} {base : Heap} {z : Zx} {S S' : Sx} {σ : L2.St} {H H' H0 : Hp} {g g' : Gh} {v : V} {d : D} {r : Res}
theorem SR.start {N : List Str} {W : WX} {vs : List V} {ds objs : List D} (hm : Mu H g) (hn : g.om.Nodup) (rv : RpA K H g vs ds) (ob : ObsOk K H g objs) :
    SR K ⟨H, g.bad, g.om, W⟩ ⟨ds.map .dat ++ List.replicate (N.length - ds.length) .un, objs⟩ (L2.start N vs) H g where
  len := by unfold L2.start; simp [rv.length]
  dat := fun i d e => by
    have hl := rv.length
    by_cases h : i < ds.length
    · have e' : (ds.map Slot.dat ++ List.replicate (N.length - ds.length) .un)[i]? = some (.dat d) := e
      rw [List.getElem?_append_left (by simpa using h), List.getElem?_map] at e'
      obtain ⟨d', e1, e2⟩ := Option.map_eq_some_iff.mp e'
      cases e2
      obtain ⟨v, e3, r⟩ := rv.get e1
      refine ⟨v, ?_, r⟩
      unfold L2.start
      rw [List.getElem?_append_left (by simpa [hl] using h), List.getElem?_map, e3]
      rfl
    · have e' : (ds.map Slot.dat ++ List.replicate (N.length - ds.length) .un)[i]? = some (.dat d) := e
      rw [List.getElem?_append_right (by simpa using h), List.getElem?_replicate] at e'
      split at e' <;> cases e'
  own := fun i d e => by
    have e' : (ds.map Slot.dat ++ List.replicate (N.length - ds.length) .un)[i]? = some (.own d) := e
    by_cases h : i < ds.length
    · rw [List.getElem?_append_left (by simpa using h), List.getElem?_map] at e'
      obtain ⟨d', _, e2⟩ := Option.map_eq_some_iff.mp e'
      cases e2
    · rw [List.getElem?_append_right (by simpa using h), List.getElem?_replicate] at e'
      split at e' <;> cases e'
  inj := fun i j d1 d2 a e => by
    have e' : (ds.map Slot.dat ++ List.replicate (N.length - ds.length) .un)[i]? = some (.own d1) := e
    by_cases h : i < ds.length
    · rw [List.getElem?_append_left (by simpa using h), List.getElem?_map] at e'
      obtain ⟨d', _, e2⟩ := Option.map_eq_some_iff.mp e'
      cases e2
    · rw [List.getElem?_append_right (by simpa using h), List.getElem?_replicate] at e'
      split at e' <;> cases e'
  olen := ob.1
  obj := ob.2
  ond := hn
  mu := hm
  base := fun a h => h
  b0 := fun a h e => by have := hm a h; change H a = none at e; rw [e] at this; exact this
  keep := fun a o h _ => h
  on := fun a h => .inl h
theorem SR.behind {W : WX} (s : SR K ⟨H0, g.bad, g.om, W⟩ S σ H' g') (f : Fr H0 g H' g') : Behind K H0 g S.objs H' g' := ⟨s.keep, s.base, f.om, s.ond, s.mu, ⟨s.olen, s.obj⟩, s.on⟩
theorem okD {x qual : Str} {st : Stmt} {f : Addr} {fd : FuncData} {N ps : List Str} {k : Nat} {m : M Fl} (F : Fun K x qual st f fd) (Sc : FnScope N ps (defScope st))
    (bod : ∀ (cdv : Value) (A : Around) (outer : List Env) (s : Shared) (H : Hp) (E : XK) (z : Zx), A.guards = some [] → Room k (A.deeper (PyProof.Rows.envOfC qual (defScope st) s.heap.objs.size f cdv)) → Takes (bodyX P w K mg base N qual st f cdv A outer s H E) z.W →
      DB (bodyX P w K mg base N qual st f cdv A outer s H E) z (defBody st) m) : FnG P w K mg base (k + 1) f fd ps (spDen K mg ps.length (runB N.length m)) := by
  refine okG F Sc (fun vs H Q E h => let ⟨_, _, _, l, _⟩ := h; l) fun cdv A outer s H vs Q E gd room prom => ?_
  obtain ⟨g, ds, objs, hl, hm, hn, rv, ob, q⟩ := prom
  have tk : Takes (bodyX P w K mg base N qual st f cdv A outer s H E) (fun cls dx _ H => E cls dx H) := takes_of rfl rfl rfl rfl
  refine ⟨_, bod cdv A outer s H E ⟨H, g.bad, g.om, fun cls dx _ H => E cls dx H⟩ gd room tk, _, g, SR.start hm hn rv ob, ?_⟩
  unfold GoS
  unfold runB at q
  split at q
  · exact q.elim
  · rename_i r objs' e
    split at e
    · rename_i S' e1
      cases e
      rw [e1]
      exact fun σ' H' g' s f => q H' g' .non (s.behind f) .non
    · rename_i r' S' e1
      cases e
      rw [e1]
      refine fun σ' H' g' v s f rr => q H' g' v (s.behind f) ?_
      cases r' with
      | dat d => exact rr
      | new d => obtain ⟨a, e, hb, rt, h0, ho, _⟩ := rr; exact ⟨a, e, hb, rt, h0, ho⟩
      | own i d =>
        obtain ⟨e1, e2⟩ := rr
        obtain ⟨a, e3, hb, rt, h0, ho⟩ := s.own i d e1
        rw [e2] at e3; cases e3
        exact ⟨a, rfl, hb, rt, h0, ho⟩
    · cases e
    · cases e
  · rename_i x objs' e
    split at e
    · cases e
    · cases e
    · rename_i x' S' e1
      cases e
      rw [e1]
      exact fun cls dx σ' H' g' s f ex => q cls dx H' g' (s.behind f) ex
    · cases e
end
def putAll : List Res → Sx → Sx
  | [], S => S
  | .own i d :: rs, S => putAll rs (S.put i (.dat d))
  | _ :: rs, S => putAll rs S
def Res.safe : Res → Bool
  | .dat d => d.imm
  | .new d => D.imms d.parts
  | .own _ _ => false
def callM (n : Nat) (den : Den) (fs : M (List Res)) : M Res := fs >>= fun rs => fun S => if rs.length = n then (match den (rs.map (·.d)) S.objs with
  | none => none
  | some (.error x, objs') => some (.error x, putAll rs { S with objs := objs' })
  | some (.ok r, objs') => if r.safe && objs'.all (fun o => D.imms o.parts) then some (.ok r, { S with objs := objs' }) else some (.ok r, putAll rs { S with objs := objs' })) else none
section
variable {X : Cx} {z : Zx} {S S' : Sx} {σ : L2.St} {H H' H0 : Hp} {g g' g2 : Gh} {v : V} {d : D} {r : Res} {K : PySem.W.Frag} {mg : Str → Option Value}
theorem putAll_objs : ∀ (rs : List Res) (S : Sx) (o : List D), putAll rs { S with objs := o } = { putAll rs S with objs := o }
  | [], _, _ => rfl
  | .own i d :: rs, S, o => putAll_objs rs (S.put i (.dat d)) o
  | .dat _ :: rs, S, o => putAll_objs rs S o
  | .new _ :: rs, S, o => putAll_objs rs S o
def ResAt (K : PySem.W.Frag) (S : Sx) (σ : L2.St) (H : Hp) (g : Gh) (v : V) : Res → Prop
  | .dat d => Rp K H g v d
  | .new d => False
  | .own i d => (S.env[i]? = some (.own d) ∨ S.env[i]? = some (.dat d)) ∧ σ[i]? = some (some v)
theorem put_same {i : Nat} {x : Slot} (h : S.env[i]? = some x) : S.put i x = S := by
  unfold Sx.put
  obtain ⟨hl, e⟩ := List.getElem?_eq_some_iff.mp h
  have : S.env.set i x = S.env := by rw [← e]; exact List.set_getElem_self hl
  rw [this]
theorem SR.putAll : ∀ {rs : List Res} {vs : List V} {S : Sx} {g : Gh}, SR K z S σ H g → Paired (ResAt K S σ H g) vs rs → ∃ g', SR K z (DL.putAll rs S) σ H g' ∧ Fr H g H g' ∧ g'.om = g.om ∧ (∀ a, g'.bad a → g.bad a) ∧ RpA K H g' vs (rs.map (·.d))
  | [], _, S, g, s, .nil => ⟨g, s, Fr.refl _ _, rfl, fun _ h => h, .nil⟩
  | .new d :: rs, _, S, g, s, .cons a t => a.elim
  | .dat d :: rs, _, S, g, s, .cons a t => by
    obtain ⟨g1, s1, f1, o1, b1, r1⟩ := SR.putAll s t
    exact ⟨g1, s1, f1, o1, b1, .cons (Rp.fr f1 s.mu a) r1⟩
  | .own i d :: rs, _, S, g, s, .cons a t => by
    obtain ⟨e1, e2⟩ := a
    rename_i v vs
    rcases e1 with e1 | e1
    · obtain ⟨a, e3, _⟩ := s.own i d e1
      rw [e2] at e3; cases e3
      obtain ⟨s1, r1⟩ := s.use_own e1 e2
      have hl : i < S.env.length := (List.getElem?_eq_some_iff.mp e1).1
      have t1 : Paired (ResAt K (S.put i (.dat d)) σ H (g.del a)) vs rs := Paired.mapP t fun v q hq => by
        cases q with
        | dat d' => exact Rp.fr Fr.del s.mu hq
        | new d' => exact hq.elim
        | own j d' =>
          refine ⟨?_, hq.2⟩
          by_cases ij : i = j
          · subst ij
            have : d' = d := by rcases hq.1 with q | q <;> rw [e1] at q <;> cases q; rfl
            subst this
            exact .inr (List.getElem?_set_self hl)
          · rcases hq.1 with q | q
            · exact .inl ((List.getElem?_set_ne ij).trans q)
            · exact .inr ((List.getElem?_set_ne ij).trans q)
      obtain ⟨g2, s2, f2, o2, b2, r2⟩ := SR.putAll s1 t1
      exact ⟨g2, s2, Fr.del.trans f2, o2, fun b h => (b2 b h).1, .cons (r1.fr f2 s1.mu) r2⟩
    · obtain ⟨w, e3, rw'⟩ := s.dat i d e1
      rw [e2] at e3; cases e3
      have t1 : Paired (ResAt K (S.put i (.dat d)) σ H g) vs rs := by rw [put_same e1]; exact t
      have s1 : SR K z (S.put i (.dat d)) σ H g := by rw [put_same e1]; exact s
      obtain ⟨g2, s2, f2, o2, b2, r2⟩ := SR.putAll s1 t1
      exact ⟨g2, s2, f2, o2, b2, .cons (rw'.fr f2 s.mu) r2⟩
theorem resAt_of {rs : List Res} {vs : List V} (hh : Held rs) (h : Paired (ResOk K z S σ H g) vs rs) : Paired (ResAt K S σ H g) vs rs := by
  induction h with
  | nil => exact .nil
  | @cons v r vs rs a t ih =>
    refine .cons ?_ (ih fun q hq => hh q (List.mem_cons_of_mem _ hq))
    cases r with
    | dat d => exact a
    | new d => exact absurd (hh _ List.mem_cons_self) (by intro e; cases e)
    | own i d => exact ⟨.inl a.1, a.2⟩
def Gh.aft (g g' : Gh) (root : Addr → Prop) : Gh := ⟨fun a => g.bad a ∨ a ∈ g'.om ∨ root a, g'.om⟩
theorem Behind.fr {objs' : List D} {root : Addr → Prop} (s : SR K z S σ H g) (bh : Behind K H g2 objs' H' g') (ho : g2.om = g.om) (hroot : ∀ a, root a → H a = none) : Fr H g H' (g.aft g' root) where
  keep := fun a o h n => by
    have hm : a ∉ g'.om := fun hm => by
      rcases bh.new a hm with q | q
      · rw [ho] at q
        obtain ⟨i, hi⟩ := List.mem_iff_getElem?.mp q
        have hl : i < S.objs.length := by rw [s.olen]; exact (List.getElem?_eq_some_iff.mp hi).1
        exact n (s.obj i a _ hi (List.getElem?_eq_getElem hl)).2
      · rw [h] at q; cases q
    refine ⟨bh.keep a o h hm, fun q => ?_⟩
    rcases q with q | q | q
    · exact n q
    · exact hm q
    · rw [hroot a q] at h; cases h
  om := ho ▸ bh.om
theorem Behind.sr {objs' : List D} {root : Addr → Prop} (s : SR K z S σ H g) (bh : Behind K H g2 objs' H' g') (ho : g2.om = g.om) (hroot : ∀ a, root a → H a = none ∧ g'.bad a)
    (hobs : ∀ (n : Nat) (a : Addr) (d : D), g'.om[n]? = some a → objs'[n]? = some d → Root K H' (g.aft g' root) a d) : SR K z { S with objs := objs' } σ H' (g.aft g' root) := by
  have fr : Fr H g H' (g.aft g' root) := bh.fr s ho fun a h => (hroot a h).1
  have mem : ∀ a, a ∈ g'.om → a ∈ g.om ∨ H a = none := fun a h => ho ▸ bh.new a h
  have same : ∀ a, H a ≠ none → a ∉ g.om → H' a = H a := fun a h n => by
    cases e : H a with
    | none => exact absurd e h
    | some o => exact bh.keep a o e fun hm => (mem a hm).elim n fun q => h q
  constructor
  · exact s.len
  · intro i d e
    obtain ⟨v, e1, r⟩ := s.dat i d e
    exact ⟨v, e1, r.fr fr s.mu⟩
  · intro i d e
    obtain ⟨a, e1, hb, r, h0, hm⟩ := s.own i d e
    exact ⟨a, e1, .inl hb, r.fr fr s.mu (same a r.there hm), h0, fun q => (mem a q).elim hm fun q => r.there q⟩
  · exact s.inj
  · exact bh.obs.1
  · exact fun n a d e1 e2 => ⟨hobs n a d e1 e2, .inr (.inl (List.mem_iff_getElem?.mpr ⟨n, e1⟩))⟩
  · exact bh.ond
  · intro a hb
    have inom : a ∈ g'.om → Mut (H' a) := fun q => by
      obtain ⟨i, hi⟩ := List.mem_iff_getElem?.mp q
      have hl : i < objs'.length := by rw [bh.obs.1]; exact (List.getElem?_eq_some_iff.mp hi).1
      exact bh.mu a (bh.obs.2 i a _ hi (List.getElem?_eq_getElem hl)).2
    rcases hb with q | q | q
    · by_cases hm : a ∈ g'.om
      · exact inom hm
      · have mu := s.mu a q
        cases e : H a with
        | none => rw [e] at mu; exact mu.elim
        | some o => rw [bh.keep a o e hm, ← e]; exact mu
    · exact inom q
    · exact bh.mu a (hroot a q).2
  · exact fun a h => .inl (s.base a h)
  · exact s.b0
  · intro a o h hm
    have hm' : a ∉ g.om := fun q => hm (by
      obtain ⟨t, e⟩ := bh.om
      rw [ho] at e
      show a ∈ g'.om
      rw [← e]
      exact List.mem_append_left _ q)
    exact bh.keep a o (s.keep a o h hm') hm
  · intro a h
    rcases mem a h with q | q
    · exact s.on a q
    · exact .inr (s.fresh0 q)
end
end DL
end
section
set_option maxRecDepth 100000
namespace DL
open PySem PySem.Spec L2
section
variable {X : Cx} {z : Zx} {S S' : Sx} {σ : L2.St} {H H' H0 : Hp} {g g' g2 : Gh} {v : V} {d : D} {r : Res} {K : PySem.W.Frag} {mg : Str → Option Value}
  {k : Nat} {f : Addr} {fd : FuncData} {ps : List Str} {sp : Sp} {x : Str} {p pos : Pos} {e : Expr} {es : List Expr} {fs : M (List Res)} {t : TA} {n : Nat} {den : Den}
def tCallG (W : WX) (sp : Sp) (t : TA) : TE := fun σ H Q => t σ H fun vs H1 => sp vs H1 Q fun cls dx H2 => W cls dx σ H2
theorem run_callG {W : WX} {pins : List (Addr × Obj)} {s : Shared} {Q : VK} {us : List Value} {vs : List V} (F : FnG X.prog X.w X.K X.mg X.base k f fd ps sp) (gd : X.A.guards = some []) (room : Room k X.A) (bnd : Binds X.K fd ps []) (tk : Takes X W)
    (inv : L2.Inv X pins σ H s) (rel : Vals vs us) (prom : sp vs H Q fun cls dx H2 => W cls dx σ H2) : wpAny (model X.prog X.w) X.A (call (.ref f) us) (EP X pins σ Q) X.xe s := by
  have size : (us ++ ([] : List Value)).length = ps.length := by rw [List.append_nil, ← rel.length]; exact F.len _ _ _ _ prom
  have bt := bnd s us inv.kIn size
  rw [List.append_nil] at bt
  refine wpAny_call (codeAny_mono (F.run X.A X.stack s H ⟨us, []⟩ us vs Q _ gd room inv.env0 bt rel prom) ?_)
  intro res s1 out
  match res, out with
  | .error ex, out => exact passAt tk σ pins H s ex s1 inv out
  | .ok (.ret u), out => exact inv.after out
theorem pe_callG {W : WX} (F : FnG X.prog X.w X.K X.mg X.base k f fd ps sp) (gd : X.A.guards = some []) (room : Room k X.A) (hg : Gl X x) (hm : X.mg x = some (.ref f)) (kp : PySem.W.keepIn X.K (.ref f) = true) (bnd : Binds X.K fd ps []) (tk : Takes X W)
    (ha : PA X (e :: es) t) (hdb : (x == ("__debug__" : Str)) = false := by decide) (he : starEach (e :: es) X.env = (false, eval e X.env) :: starEach es X.env := by rfl) (hpl : (backTo pos (starEach es X.env)).any (·.1) = false := by rfl) :
    PE X (.Call (.Name x p) (e :: es) [] pos) (tCallG W sp t) := by
  constructor
  intro pins s0 σ0 G0 Q inv hyp
  refine wpAny_Call_Name_kw (ld_glob inv hg hm ?_ hdb)
  refine PySem.W.callWith_K (h₀ := X.base) inv.ok.mod.kin kp ?_ he hpl
  refine thn (ha.run pos pins s0 σ0 G0 _ inv hyp) ?_
  rintro us s1 ⟨vs, G1, inv1, rel, prom⟩
  exact ⟨inv1.kIn, run_callG F gd room bnd tk inv1 rel prom⟩
theorem root_im_parts {a : Addr} {r : Addr → Prop} (ob : Root K H' g' a d) (h : D.imms d.parts = true) : Root K H' (g.aft g' r) a d := ob.im (by show g'.om <+: g'.om; exact List.prefix_rfl) h
theorem call_den {Q : VK} {rs : List Res} {vs : List V} (s : SR K z S σ H g) (hh : Held rs) (rv : Paired (ResOk K z S σ H g) vs rs)
    (h : Go K mg z (fun S => if rs.length = n then (match den (rs.map (·.d)) S.objs with
      | none => none
      | some (.error x, objs') => some (.error x, putAll rs { S with objs := objs' })
      | some (.ok r, objs') => if r.safe && objs'.all (fun o => D.imms o.parts) then some (.ok r, { S with objs := objs' }) else some (.ok r, putAll rs { S with objs := objs' })) else none : M Res) S σ H g (fun r S' H' g' => ∀ v, ResOk K z S' σ H' g' v r → Q v H')) :
    spDen K mg n den vs H Q fun cls dx H2 => z.W cls dx σ H2 := by
  obtain ⟨g2, s2, f2, o2, b2, r2⟩ := SR.putAll s (resAt_of hh rv)
  unfold Go at h
  have hn : rs.length = n := by
    by_cases hn : rs.length = n
    · exact hn
    · simp only [if_neg hn] at h
  simp only [if_pos hn] at h
  have e0 : (DL.putAll rs S).objs = S.objs := by
    have := congrArg Sx.objs (putAll_objs rs S S.objs)
    exact this
  refine ⟨g2, rs.map (·.d), S.objs, by rw [rv.length]; exact hn, s2.mu, s2.ond, r2, ⟨by rw [o2]; exact s.olen, fun n a d e1 e2 => s2.obj n a d e1 (by rw [e0]; exact e2)⟩, ?_⟩
  cases hd : den (rs.map (·.d)) S.objs with
  | none => rw [hd] at h; exact h
  | some pr =>
    obtain ⟨res, objs'⟩ := pr
    rw [hd] at h
    cases res with
    | error x =>
      intro cls dx H' g' bh ex
      have less : Fr H' g' H' (g2.aft g' fun _ => False) := Fr.less (fun b q => by
        rcases q with q | q | q
        · exact bh.base b q
        · obtain ⟨i, hi⟩ := List.mem_iff_getElem?.mp q
          have hl : i < objs'.length := by rw [bh.obs.1]; exact (List.getElem?_eq_some_iff.mp hi).1
          exact (bh.obs.2 i b _ hi (List.getElem?_eq_getElem hl)).2
        · exact q.elim) rfl
      have hob : ∀ (n : Nat) (a : Addr) (d : D), g'.om[n]? = some a → objs'[n]? = some d → Root K H' (g2.aft g' fun _ => False) a d := fun n a d e1 e2 => (bh.obs.2 n a d e1 e2).1.fr less bh.mu rfl
      have sr := bh.sr s2 (root := fun _ => False) rfl (fun _ q => q.elim) hob
      have fr := bh.fr (root := fun _ => False) s2 rfl (fun _ q => q.elim)
      refine h cls dx H' _ (by rw [putAll_objs]; exact sr) (f2.trans fr) ⟨ex.1, ?_⟩
      have ex2 := ex.2
      cases hf : x.fs with
      | none => rw [hf] at ex2; exact ex2
      | some fs =>
        rw [hf] at ex2
        obtain ⟨a, ws, e1, e2, e3, e4⟩ := ex2
        exact ⟨a, ws, e1, e2, e3, e4.fr less bh.mu⟩
    | ok r =>
      intro H' g' v bh ok
      -- what the result's own address may be
      have root : ∃ R : Addr → Prop, (∀ a, R a → H a = none ∧ g'.bad a) ∧ (∀ a, r = .new r.d → v = .ref a → R a) := by
        cases r with
        | dat d => exact ⟨fun _ => False, fun _ q => q.elim, fun a q => by cases q⟩
        | own i d => exact ⟨fun _ => False, fun _ q => q.elim, fun a q => by cases q⟩
        | new d =>
          obtain ⟨a, rfl, hb, _, h0, _⟩ := ok
          exact ⟨fun b => b = a, fun b q => q ▸ ⟨h0, hb⟩, fun b _ q => by cases q; rfl⟩
      obtain ⟨R, hR, hRn⟩ := root
      have inom : ∀ b, b ∈ g'.om → g'.bad b := fun b q => by
        obtain ⟨i, hi⟩ := List.mem_iff_getElem?.mp q
        have hl : i < objs'.length := by rw [bh.obs.1]; exact (List.getElem?_eq_some_iff.mp hi).1
        exact (bh.obs.2 i b _ hi (List.getElem?_eq_getElem hl)).2
      by_cases safe : (r.safe && objs'.all fun o => D.imms o.parts) = true
      · simp only [if_pos safe] at h
        rw [Bool.and_eq_true] at safe
        have hob : ∀ (n : Nat) (a : Addr) (d : D), g'.om[n]? = some a → objs'[n]? = some d → Root K H' (g.aft g' R) a d := fun n a d e1 e2 =>
          root_im_parts (bh.obs.2 n a d e1 e2).1 (List.all_eq_true.mp safe.2 d (List.mem_of_getElem? e2))
        have sr := bh.sr s (root := R) o2 hR hob
        have fr := bh.fr (root := R) s o2 (fun a q => (hR a q).1)
        refine h H' _ sr fr v ?_
        cases r with
        | own i d => exact ok.elim
        | dat d => exact Rp.im (show g'.om <+: (g.aft g' R).om from List.prefix_rfl) ok safe.1
        | new d =>
          obtain ⟨a, rfl, hb, rt, h0, ho⟩ := ok
          exact ⟨a, rfl, .inr (.inr (hRn a rfl rfl)), root_im_parts rt safe.1, s.fresh0 h0, ho, fun i e he hs => s.own_there he hs h0⟩
      · simp only [if_neg safe] at h
        have less : Fr H' g' H' (g2.aft g' R) := Fr.less (fun b q => q.elim (bh.base b) fun q => q.elim (inom b) fun q => (hR b q).2) rfl
        have hob : ∀ (n : Nat) (a : Addr) (d : D), g'.om[n]? = some a → objs'[n]? = some d → Root K H' (g2.aft g' R) a d := fun n a d e1 e2 => (bh.obs.2 n a d e1 e2).1.fr less bh.mu rfl
        have sr := bh.sr s2 (root := R) rfl hR hob
        have fr := bh.fr (root := R) s2 rfl (fun a q => (hR a q).1)
        have sr' : SR K z (DL.putAll rs { S with objs := objs' }) σ H' (g2.aft g' R) := by rw [putAll_objs]; exact sr
        refine h H' _ sr' (f2.trans fr) v ?_
        cases r with
        | own i d => exact ok.elim
        | dat d => exact Rp.fr less bh.mu ok
        | new d =>
          obtain ⟨a, rfl, hb, rt, h0, ho⟩ := ok
          refine ⟨a, rfl, .inr (.inr (hRn a rfl rfl)), rt.fr less bh.mu rfl, s.fresh0 h0, ho, fun i e he hs => ?_⟩
          rw [putAll_objs] at he
          exact s2.own_there he hs h0
theorem de_call (F : FnG X.prog X.w X.K X.mg X.base k f fd ps (spDen X.K X.mg n den)) (gd : X.A.guards = some []) (room : Room k X.A) (tk : Takes X z.W) (hm : X.mg x = some (.ref f)) (kp : PySem.W.keepIn X.K (.ref f) = true) (bnd : Binds X.K fd ps [])
    (ha : DAH X z (e :: es) fs) (hg : Gl X x := by rfl) (hdb : (x == ("__debug__" : Str)) = false := by decide) (he : starEach (e :: es) X.env = (false, eval e X.env) :: starEach es X.env := by rfl) (hpl : (backTo pos (starEach es X.env)).any (·.1) = false := by rfl) :
    DE X z (.Call (.Name x p) (e :: es) [] pos) (callM n den fs) :=
  PE.imp (pe_callG F gd room hg hm kp bnd tk ha.da hdb he hpl) fun σ H Q ⟨S, g, s, h⟩ => ⟨S, g, s, (Go.heldP ha.held h.bnd).imp fun rs S1 H1 g1 s1 f1 ⟨hh, h1⟩ vs rv => call_den s1 hh rv h1⟩
end
end DL
end
section
set_option maxRecDepth 100000
namespace DL
open PySem PySem.Spec L2
section
variable {X : Cx} {z : Zx} {S S' : Sx} {σ : L2.St} {H H' H0 : Hp} {g g' g2 : Gh} {v : V} {d : D} {r : Res} {K : PySem.W.Frag} {mg : Str → Option Value} {pos p : Pos} {a b c e : Expr} {fa fb fc : M Res}
def UnD (X : Cx) (z : Zx) (r : List V → Hp → VK → Prop) (op : D → M Res) : Prop :=
  ∀ (S : Sx) (σ : L2.St) (H : Hp) (g : Gh) (x : V) (dx : D) (Q : VK), SR X.K z S σ H g → Pk X.K H g x dx →
    Go X.K X.mg z (op dx) S σ H g (fun r S' H' g' => ∀ v, ResOk X.K z S' σ H' g' v r → Q v H') → r [x] H Q
def unM (op : D → M Res) (f : M Res) : M Res := f >>= fun r => op r.d
theorem de_un {r : List V → Hp → VK → Prop} {op : D → M Res} (hd : UnD X z r op) (pe : PE X e (tCB r (tCons (tD X.K X.mg z fa) tNil))) : DE X z e (unM op fa) :=
  PE.imp pe fun σ H Q ⟨S, g, s, h⟩ => ⟨S, g, s, h.bnd.imp fun r S1 H1 g1 s1 f1 h1 x rx => hd S1 σ H1 g1 x _ Q s1 (s1.pk rx) h1⟩
def D.len : D → Option Nat
  | .str x => if x.length ≤ sizeLine then some x.length else none
  | .lst ds => some ds.length
  | .rol ds => some ds.length
  | .tup ds => some ds.length
  | .dct false ks _ => some ks.length
  | _ => none
def opLen (d : D) : M Res := M.opt d.len fun n => pure (.dat (.int n))
def rLenA (K : PySem.W.Frag) : List V → Hp → VK → Prop := fun xs H Q => (∃ x n, xs = [x] ∧ LenV K x H n ∧ Q (V.int n) H) ∨ ∃ a kvs, xs = [V.ref a] ∧ H a = some (.dK kvs) ∧ Q (V.int kvs.length) H
theorem cr_lenA : CallR X (.builtin "len") (rLenA X.K) := call_len.or call_lenD
theorem ud_len : UnD X z (rLenA X.K) opLen := by
  intro S σ H g x dx Q s px h
  obtain ⟨n, e, h2⟩ := h.opt
  have q := out_dat s (.int _) h2
  unfold D.len at e
  split at e
  · split at e
    · rename_i hl; cases e
      have := px.str; subst this
      exact .inl ⟨_, _, rfl, ⟨hl, rfl⟩, q⟩
    · cases e
  · cases e; obtain ⟨a, xs, rfl, hx, rx⟩ := px.lst
    exact .inl ⟨_, _, rfl, .inl ⟨xs, SqL.of hx, rx.length.symm⟩, q⟩
  · cases e; obtain ⟨a, xs, rfl, hx, rx⟩ := px.rol
    exact .inl ⟨_, _, rfl, .inl ⟨xs, hx.sq, rx.length.symm⟩, q⟩
  · cases e; obtain ⟨a, xs, rfl, hx, rx⟩ := px.tup
    exact .inl ⟨_, _, rfl, .inr ⟨xs, SqT.of hx, rx.length.symm⟩, q⟩
  · cases e; obtain ⟨a, o, ws, rfl, hx, c, rx⟩ := px.dct
    cases c with
    | dK kvs => exact .inr ⟨a, kvs, rfl, hx, by simpa using q⟩
  · cases e
theorem de_len (hm : X.mg "len" = none) (ha : DE X z a fa) (hg : Gl X "len" := by rfl) (hs : starEach [a] X.env = (false, eval a X.env) :: starEach [] X.env := by rfl) (hpl : (backTo pos (starEach [] X.env)).any (·.1) = false := by rfl) :
    DE X z (.Call (.Name "len" p) [a] [] pos) (unM opLen fa) := de_un ud_len (pe_callB cr_lenA hg hm PySem.boot_len (pa_cons ha pa_nil hs) (he := hs) (hpl := hpl))
def opInt : D → M Res
  | .int i => pure (.dat (.int i))
  | .bl b => pure (.dat (.int (if b = true then 1 else 0)))
  | _ => M.no
theorem ud_int : UnD X z (fun xs H Q => (∃ i, xs = [V.int i] ∧ Q (V.int i) H) ∨ ∃ k, xs = [V.bl k] ∧ Q (V.int (if k = true then 1 else 0)) H) opInt := by
  intro S σ H g x dx Q s px h
  cases dx <;> first | exact h.none.elim | skip
  · exact .inr ⟨_, by rw [px.bl], out_dat s (.int _) h⟩
  · exact .inl ⟨_, by rw [px.int], out_dat s (.int _) h⟩
theorem de_intC (hm : X.mg "int" = none) (ha : DE X z a fa) (hg : Gl X "int" := by rfl) (hs : starEach [a] X.env = (false, eval a X.env) :: starEach [] X.env := by rfl) (hpl : (backTo pos (starEach [] X.env)).any (·.1) = false := by rfl) :
    DE X z (.Call (.Name "int" p) [a] [] pos) (unM opInt fa) := de_un ud_int (pe_callTy call_int1 hg hm (by decide +kernel) (pa_cons ha pa_nil hs) (he := hs) (hpl := hpl))
def opAbs : D → M Res
  | .int i => pure (.dat (.int (if i < 0 then -i else i)))
  | _ => M.no
theorem ud_abs : UnD X z (fun xs H Q => ∃ i, xs = [V.int i] ∧ Q (V.int (if i < 0 then -i else i)) H) opAbs := by
  intro S σ H g x dx Q s px h
  cases dx <;> first | exact h.none.elim | skip
  exact ⟨_, by rw [px.int], out_dat s (.int _) h⟩
theorem de_abs (hm : X.mg "abs" = none) (ha : DE X z a fa) (hg : Gl X "abs" := by rfl) (hs : starEach [a] X.env = (false, eval a X.env) :: starEach [] X.env := by rfl) (hpl : (backTo pos (starEach [] X.env)).any (·.1) = false := by rfl) :
    DE X z (.Call (.Name "abs" p) [a] [] pos) (unM opAbs fa) := de_un ud_abs (pe_callB call_abs hg hm (by decide +kernel) (pa_cons ha pa_nil hs) (he := hs) (hpl := hpl))
def opTuple : D → M Res
  | .lst ds => pure (.dat (.tup ds))
  | .rol ds => pure (.dat (.tup ds))
  | .tup ds => pure (.dat (.tup ds))
  | _ => M.no
theorem ud_tuple : UnD X z (fun xs H Q => ∃ p ys, xs = [V.ref p] ∧ ((SqL X.K H p ys ∧ ∀ l, H l = none → Q (V.ref l) (upd H l (.tup ys))) ∨ SqT X.K H p ys ∧ Q (V.ref p) H)) opTuple := by
  intro S σ H g x dx Q s px h
  cases dx <;> first | exact h.none.elim | skip
  · obtain ⟨a, xs, rfl, hx, rx⟩ := px.tup
    exact ⟨a, xs, rfl, .inr ⟨SqT.of hx, out_dat s (.tup hx rx) h⟩⟩
  · obtain ⟨a, xs, rfl, hx, rx⟩ := px.lst
    exact ⟨a, xs, rfl, .inl ⟨SqL.of hx, out_tup s rx h⟩⟩
  · obtain ⟨a, xs, rfl, hx, rx⟩ := px.rol
    exact ⟨a, xs, rfl, .inl ⟨hx.sq, out_tup s rx h⟩⟩
theorem de_tuple (hm : X.mg "tuple" = none) (ha : DE X z a fa) (hg : Gl X "tuple" := by rfl) (hs : starEach [a] X.env = (false, eval a X.env) :: starEach [] X.env := by rfl) (hpl : (backTo pos (starEach [] X.env)).any (·.1) = false := by rfl) :
    DE X z (.Call (.Name "tuple" p) [a] [] pos) (unM opTuple fa) := de_un ud_tuple (pe_callTy call_tuple_of hg hm (by decide +kernel) (pa_cons ha pa_nil hs) (he := hs) (hpl := hpl))
def opList : D → M Res
  | .lst ds => pure (.new (.lst ds))
  | .rol ds => pure (.new (.lst ds))
  | .tup ds => pure (.new (.lst ds))
  | _ => M.no
theorem ud_list : UnD X z (fun xs H Q => ∃ p ys, xs = [V.ref p] ∧ (SqL X.K H p ys ∨ SqT X.K H p ys) ∧ ∀ l, H l = none → Q (V.ref l) (upd H l (.lst ys))) opList := by
  intro S σ H g x dx Q s px h
  cases dx <;> first | exact h.none.elim | skip
  · obtain ⟨a, xs, rfl, hx, rx⟩ := px.tup
    exact ⟨a, xs, rfl, .inr (SqT.of hx), out_lst s rx h⟩
  · obtain ⟨a, xs, rfl, hx, rx⟩ := px.lst
    exact ⟨a, xs, rfl, .inl (SqL.of hx), out_lst s rx h⟩
  · obtain ⟨a, xs, rfl, hx, rx⟩ := px.rol
    exact ⟨a, xs, rfl, .inl hx.sq, out_lst s rx h⟩
theorem de_list (hm : X.mg "list" = none) (ha : DE X z a fa) (hg : Gl X "list" := by rfl) (hs : starEach [a] X.env = (false, eval a X.env) :: starEach [] X.env := by rfl) (hpl : (backTo pos (starEach [] X.env)).any (·.1) = false := by rfl) :
    DE X z (.Call (.Name "list" p) [a] [] pos) (unM opList fa) := de_un ud_list (pe_callTy call_list_of hg hm (by decide +kernel) (pa_cons ha pa_nil hs) (he := hs) (hpl := hpl))
def D.ints? : List D → Option (List Int)
  | [] => some []
  | .int i :: r => (D.ints? r).map (i :: ·)
  | _ => none
theorem ints?_of : ∀ {ds : List D} {ns : List Int}, D.ints? ds = some ns → ds = ns.map .int
  | [], ns, e => by simp [D.ints?] at e; subst e; rfl
  | d :: r, ns, e => by
    cases d <;> simp [D.ints?] at e
    obtain ⟨q, e, rfl⟩ := e
    rw [List.map_cons, ← ints?_of e]
theorem ints?_map : ∀ ns : List Int, D.ints? (ns.map .int) = some ns
  | [] => rfl
  | n :: r => by simp [D.ints?, ints?_map r]
theorem RpA.ints : ∀ {vs : List V} {ns : List Int}, RpA K H g vs (ns.map .int) → vs = ns.map V.int
  | _, [], .nil => rfl
  | _, n :: r, .cons h t => by cases h; rw [List.map_cons, ← RpA.ints t]
def D.lis : D → Option (List D)
  | .lst ds => some ds
  | .rol ds => some ds
  | _ => none
theorem Pk.lis {ds : List D} (p : Pk K H g v d) (e : d.lis = some ds) : ∃ a xs, v = .ref a ∧ SqL K H a xs ∧ RpA K H g xs ds := by
  cases d <;> simp [D.lis] at e
  · subst e; obtain ⟨a, xs, rfl, hx, rx⟩ := p.lst; exact ⟨a, xs, rfl, SqL.of hx, rx⟩
  · subst e; obtain ⟨a, xs, rfl, hx, rx⟩ := p.rol; exact ⟨a, xs, rfl, hx.sq, rx⟩
def opSum (d : D) : M Res := M.opt (d.lis.bind D.ints?) fun ns => pure (.dat (.int ns.sum))
theorem ud_sum : UnD X z (rSum X.K) opSum := by
  intro S σ H g x dx Q s px h
  obtain ⟨ns, e, h2⟩ := h.opt
  obtain ⟨ds, e1, e2⟩ := Option.bind_eq_some_iff.mp e
  obtain ⟨a, xs, rfl, hx, rx⟩ := px.lis e1
  have := ints?_of e2; subst this
  have := rx.ints; subst this
  exact ⟨a, ns, rfl, hx, out_dat s (.int _) h2⟩
theorem de_sum (hc : X.calm = true) (hm : X.mg "sum" = none) (ha : DE X z a fa) (hg : Gl X "sum" := by rfl) (hs : starEach [a] X.env = (false, eval a X.env) :: starEach [] X.env := by rfl) (hpl : (backTo pos (starEach [] X.env)).any (·.1) = false := by rfl) :
    DE X z (.Call (.Name "sum" p) [a] [] pos) (unM opSum fa) := de_un ud_sum (pe_callB (cr_sum hc) hg hm (by decide +kernel) (pa_cons ha pa_nil hs) (he := hs) (hpl := hpl))
def opMax2 : D → D → M Res := opI (fun _ _ => true) fun i j => .int (if j > i then j else i)
def opMin2 : D → D → M Res := opI (fun _ _ => true) fun i j => .int (if j < i then j else i)
theorem od_two {f : Int → Int → Int} : OpD X z (fun x y H Q => ∃ i j, [x, y] = [V.int i, V.int j] ∧ Q (.int (f i j)) H) (opI (fun _ _ => true) fun i j => .int (f i j)) := by
  intro S σ H g x y dx dy Q s px py h
  unfold opI at h
  split at h
  · exact ⟨_, _, by rw [px.int, py.int], out_dat s (.int _) h.need.2⟩
  · exact h.none.elim
theorem de_max2 (hc : X.calm = true) (hm : X.mg "max" = none) (ha : DE X z a fa) (hb : DE X z b fb) (hg : Gl X "max" := by rfl) (hs : starEach [a, b] X.env = (false, eval a X.env) :: starEach [b] X.env := by rfl) (hs2 : starEach [b] X.env = (false, eval b X.env) :: starEach [] X.env := by rfl)
    (hpl : (backTo pos (starEach [b] X.env)).any (·.1) = false := by rfl) : DE X z (.Call (.Name "max" p) [a, b] [] pos) (binM opMax2 fa fb) :=
  de_bin (r := fun x y H Q => ∃ i j, [x, y] = [V.int i, V.int j] ∧ Q (.int (if j > i then j else i)) H) od_two (pe_callB (call_max2 hc) hg hm (by decide +kernel) (pa_cons ha (pa_cons hb pa_nil hs2) hs) (he := hs) (hpl := hpl))
theorem de_min2 (hc : X.calm = true) (hm : X.mg "min" = none) (ha : DE X z a fa) (hb : DE X z b fb) (hg : Gl X "min" := by rfl) (hs : starEach [a, b] X.env = (false, eval a X.env) :: starEach [b] X.env := by rfl) (hs2 : starEach [b] X.env = (false, eval b X.env) :: starEach [] X.env := by rfl)
    (hpl : (backTo pos (starEach [b] X.env)).any (·.1) = false := by rfl) : DE X z (.Call (.Name "min" p) [a, b] [] pos) (binM opMin2 fa fb) :=
  de_bin (r := fun x y H Q => ∃ i j, [x, y] = [V.int i, V.int j] ∧ Q (.int (if j < i then j else i)) H) od_two (pe_callB (call_min2 hc) hg hm (by decide +kernel) (pa_cons ha (pa_cons hb pa_nil hs2) hs) (he := hs) (hpl := hpl))
def rRepr (K : PySem.W.Frag) : List V → Hp → VK → Prop := fun xs H Q => ∃ x p, xs = [x] ∧ Dp K H x p ∧ p.showable = true ∧ p.depth ≤ 64 ∧ p.shown.length ≤ sizeLine ∧ Q (.str p.shown) H
mutual
theorem Dp.noDict : ∀ {v : V} {p : PyData}, Dp K H v p → p.hasDict = false
  | _, _, .non => rfl
  | _, _, .bl _ => rfl
  | _, _, .int _ => rfl
  | _, _, .str _ => rfl
  | _, _, .lst _ h => by simp only [PyData.hasDict]; exact DpAll.noDict h
  | _, _, .tup _ h => by simp only [PyData.hasDict]; exact DpAll.noDict h
theorem DpAll.noDict : ∀ {v : List V} {p : List PyData}, DpAll K H v p → PyData.hasDictAll p = false
  | _, _, .nil => rfl
  | _, _, .cons a b => by simp only [PyData.hasDictAll, Dp.noDict a, DpAll.noDict b]; rfl
end
theorem cr_repr (gd : X.A.guards = some []) (hu : X.A.units + 65 < cLine) : CallR X (.builtin "repr") (rRepr X.K) := by
  intro pins s σ H xs us Q I r h
  obtain ⟨x, pd, rfl, dp, sh, dep, sz, q⟩ := h
  cases r with
  | cons rx rr =>
    cases rr
    rename_i u
    have ref : ∀ a, u = Value.ref a → (∃ as, Reads s.heap (.ref a) pd as) → wpAny (model X.prog X.w) X.A (call (.builtin "repr") [.ref a]) (EP X pins σ Q) X.xe s := fun a e ⟨as, rd⟩ =>
      PySem.repr_of_reads' rd sh (fun z => by rw [Dp.noDict dp] at z; cases z) gd (by omega) (fun _ _ e => e) (fun h' u' tk kp => ⟨.str _, H, I.kept (t' := tk) kp, ⟨_, rfl⟩, q⟩) sz
    cases dp with
    | non => obtain rfl : u = Value.none := rx; exact PySem.P.repr_of_none ⟨.str _, H, I.tok _, ⟨_, rfl⟩, q⟩
    | bl b =>
      obtain rfl : u = Value.bool b := rx
      exact PySem.P.repr_of_bool ⟨.str _, H, I.tok _, ⟨_, rfl⟩, q⟩
    | int i =>
      obtain ⟨t, rfl⟩ := rx
      have hs : i.natAbs.log2 < 1920 := by simpa [PyData.showable] using sh
      exact PySem.P.repr_of_int hs ⟨.str _, H, I.tok _, ⟨_, rfl⟩, q⟩
    | str x =>
      obtain ⟨t, rfl⟩ := rx
      exact PySem.P.repr_of_str ⟨.str _, H, I.tok _, ⟨_, rfl⟩, q⟩ sz
    | lst h1 h2 =>
      obtain rfl : u = Value.ref _ := rx
      exact ref _ rfl (Dp.reads I _ _ _ (.lst h1 h2) rfl)
    | tup h1 h2 =>
      obtain rfl : u = Value.ref _ := rx
      exact ref _ rfl (Dp.reads I _ _ _ (.tup h1 h2) rfl)
def D.shown (d : D) : Option Str := d.py.bind fun p => if p.showable && decide (p.depth ≤ 64) && decide (p.shown.length ≤ sizeLine) then some p.shown else none
def opRepr (d : D) : M Res := M.opt d.shown fun x => pure (.dat (.str x))
theorem ud_repr : UnD X z (rRepr X.K) opRepr := by
  intro S σ H g x dx Q s px h
  obtain ⟨t, e, h2⟩ := h.opt
  obtain ⟨p, e1, e2⟩ := Option.bind_eq_some_iff.mp e
  split at e2
  · rename_i c
    cases e2
    simp only [Bool.and_eq_true, decide_eq_true_eq] at c
    exact ⟨x, p, rfl, px.dp e1, c.1.1, c.1.2, c.2, out_dat s (.str _) h2⟩
  · cases e2
theorem de_repr (gd : X.A.guards = some []) (hu : X.A.units + 65 < cLine) (hm : X.mg "repr" = none) (ha : DE X z a fa) (hg : Gl X "repr" := by rfl) (hs : starEach [a] X.env = (false, eval a X.env) :: starEach [] X.env := by rfl) (hpl : (backTo pos (starEach [] X.env)).any (·.1) = false := by rfl) :
    DE X z (.Call (.Name "repr" p) [a] [] pos) (unM opRepr fa) := de_un ud_repr (pe_callB (cr_repr gd hu) hg hm (by decide +kernel) (pa_cons ha pa_nil hs) (he := hs) (hpl := hpl))
end
end DL
end
section
set_option maxRecDepth 100000
namespace DL
open PySem PySem.Spec L2
section
variable {X : Cx} {z : Zx} {S S' : Sx} {σ : L2.St} {H H' H0 : Hp} {g g' g2 : Gh} {v : V} {d : D} {r : Res} {K : PySem.W.Frag} {mg : Str → Option Value} {pos p : Pos} {a b c e : Expr} {fa fb fc : M Res} {i : Nat} {o : HO}
theorem Fr.mut {ad : Addr} (hb : g.bad ad) : Fr H g (upd H ad o) g := ⟨fun b u h n => ⟨by rw [upd_ne (show b ≠ ad from fun q => n (by rw [q]; exact hb))]; exact h, n⟩, List.prefix_rfl⟩
theorem SR.mutate {ad : Addr} {d' : D} (s : SR K z S σ H g) (h : S.env[i]? = some (.own d)) (e : σ[i]? = some (some (.ref ad))) (hm : Mut (some o)) (r : Root K (upd H ad o) g ad d') :
    SR K z (S.put i (.own d')) σ (upd H ad o) g ∧ Fr H g (upd H ad o) g := by
  obtain ⟨a0, e0, hb, rt, h0, ho⟩ := s.own i d h
  rw [e] at e0; cases e0
  have fr : Fr H g (upd H ad o) g := Fr.mut hb
  refine ⟨?_, fr⟩
  constructor
  · show (S.env.set i _).length = _; rw [List.length_set]; exact s.len
  · intro j d1 h1
    rcases set_get h1 with ⟨rfl, q⟩ | ⟨ne, q⟩
    · cases q
    · obtain ⟨w, e1, rw'⟩ := s.dat j d1 q
      exact ⟨w, e1, rw'.fr fr s.mu⟩
  · intro j d1 h1
    rcases set_get h1 with ⟨rfl, q⟩ | ⟨ne, q⟩
    · cases q; exact ⟨ad, e, hb, r, h0, ho⟩
    · obtain ⟨b, e1, hb1, rt1, h01, ho1⟩ := s.own j d1 q
      exact ⟨b, e1, hb1, rt1.fr fr s.mu (upd_ne fun w => ne (s.inj i j d d1 ad h q e (w ▸ e1))), h01, ho1⟩
  · intro j k d1 d2 b h1 h2 e1 e2
    have own : ∀ (j : Nat) (d1 : D), (S.put i (.own d')).env[j]? = some (.own d1) → ∃ d2, S.env[j]? = some (.own d2) := fun j d1 q => by
      rcases set_get q with ⟨rfl, _⟩ | ⟨_, q⟩
      · exact ⟨d, h⟩
      · exact ⟨d1, q⟩
    obtain ⟨d3, h3⟩ := own j d1 h1
    obtain ⟨d4, h4⟩ := own k d2 h2
    exact s.inj j k d3 d4 b h3 h4 e1 e2
  · exact s.olen
  · intro n b d1 e1 e2
    obtain ⟨rt1, hb1⟩ := s.obj n b d1 e1 e2
    exact ⟨rt1.fr fr s.mu (upd_ne fun w => ho (w ▸ List.mem_iff_getElem?.mpr ⟨n, e1⟩)), hb1⟩
  · exact s.ond
  · intro b hb1
    by_cases q : b = ad
    · subst q; rw [upd_same]; exact hm
    · rw [upd_ne q]; exact s.mu b hb1
  · exact s.base
  · exact s.b0
  · intro b u hu hn
    have := s.keep b u hu hn
    rw [upd_ne (fun q => by subst q; rw [h0] at hu; cases hu)]
    exact this
  · exact s.on
theorem SR.mutObj {n : Nat} {ad : Addr} {d' : D} (s : SR K z S σ H g) (e : g.om[n]? = some ad) (hm : Mut (some o)) (r : Root K (upd H ad o) g ad d') :
    SR K z { S with objs := S.objs.set n d' } σ (upd H ad o) g ∧ Fr H g (upd H ad o) g := by
  have hl : n < S.objs.length := by rw [s.olen]; exact (List.getElem?_eq_some_iff.mp e).1
  have hb : g.bad ad := (s.obj n ad _ e (List.getElem?_eq_getElem hl)).2
  have fr : Fr H g (upd H ad o) g := Fr.mut hb
  have hmem : ad ∈ g.om := List.mem_iff_getElem?.mpr ⟨n, e⟩
  refine ⟨?_, fr⟩
  constructor
  · exact s.len
  · intro j d1 h1
    obtain ⟨w, e1, rw'⟩ := s.dat j d1 h1
    exact ⟨w, e1, rw'.fr fr s.mu⟩
  · intro j d1 h1
    obtain ⟨b, e1, hb1, rt1, h01, ho1⟩ := s.own j d1 h1
    exact ⟨b, e1, hb1, rt1.fr fr s.mu (upd_ne fun w => ho1 (w ▸ hmem)), h01, ho1⟩
  · exact s.inj
  · rw [List.length_set]; exact s.olen
  · intro m b d1 e1 e2
    by_cases q : m = n
    · subst q
      rw [e] at e1; cases e1
      rw [List.getElem?_set_self hl] at e2; cases e2
      exact ⟨r, hb⟩
    · rw [List.getElem?_set_ne (Ne.symm q)] at e2
      obtain ⟨rt1, hb1⟩ := s.obj m b d1 e1 e2
      exact ⟨rt1.fr fr s.mu (upd_ne fun w => q (by subst w; exact nd_ix s.ond e1 e)), hb1⟩
  · exact s.ond
  · intro b hb1
    by_cases q : b = ad
    · subst q; rw [upd_same]; exact hm
    · rw [upd_ne q]; exact s.mu b hb1
  · exact s.base
  · exact s.b0
  · intro b u hu hn
    have := s.keep b u hu hn
    rw [upd_ne (show b ≠ ad from fun q => hn (by rw [q]; exact hmem))]
    exact this
  · exact s.on
inductive Where where
  | own | obj (n : Nat)
def whereM (i : Nat) (S : Sx) : Option (Where × D) := match S.env[i]? with
  | some (.own d) => some (.own, d)
  | some (.dat (.obj n)) => (S.objs[n]?).map fun d => (.obj n, d)
  | _ => none
def Sx.store (S : Sx) (i : Nat) : Where → D → Sx
  | .own, d => S.put i (.own d)
  | .obj n, d => { S with objs := S.objs.set n d }
theorem SR.where_ (s : SR K z S σ H g) {w : Where} (h : whereM i S = some (w, d)) : ∃ ad, σ[i]? = some (some (.ref ad)) ∧ Root K H g ad d ∧
    ∀ o d', Mut (some o) → Root K (upd H ad o) g ad d' → SR K z (S.store i w d') σ (upd H ad o) g ∧ Fr H g (upd H ad o) g := by
  unfold whereM at h
  cases e : S.env[i]? with
  | none => rw [e] at h; cases h
  | some x =>
    rw [e] at h
    cases x with
    | un => cases h
    | own d0 =>
      cases h
      obtain ⟨ad, e1, hb, rt, _⟩ := s.own i d e
      exact ⟨ad, e1, rt, fun o d' hm r => s.mutate e e1 hm r⟩
    | dat d0 =>
      cases d0 <;> first | (cases h; done) | skip
      rename_i n
      obtain ⟨d1, e1, e2⟩ := Option.map_eq_some_iff.mp h
      cases e2
      obtain ⟨w, e2, rw'⟩ := s.dat i _ e
      cases rw' with
      | obj e3 =>
        rename_i ad
        exact ⟨ad, e2, (s.obj n ad d e3 e1).1, fun o d' hm r => s.mutObj e3 hm r⟩
theorem Root.lstAt {ad : Addr} {ds : List D} (r : Root K H g ad (.lst ds)) : ∃ xs, H ad = some (.lst xs) ∧ RpA K H g xs ds := by
  cases r with | lst h r => exact ⟨_, h, r⟩
theorem Root.dctAt {ad : Addr} {t : Bool} {ks vs : List D} (r : Root K H g ad (.dct t ks vs)) : ∃ o ws, H ad = some o ∧ DcAt H ad o t ks ws ∧ RpA K H g ws vs := by
  cases r with | dct h c r => exact ⟨_, _, h, c, r⟩
def D.isT : String → D → Bool
  | "list", .lst _ => true
  | "dict", .dct _ _ _ => true
  | _, _ => false
def methK (i : Nat) (op : D → D → Option (D × D)) (x : D) : M Res := fun S1 => match whereM i S1 with
  | Option.none => Option.none
  | some (w, d) => match op d x with
    | Option.none => Option.none
    | some (res, d') => some (.ok (.dat res), S1.store i w d')
def guardM {α : Type} (c : Sx → Bool) (f : M α) : M α := fun S => if c S = true then f S else Option.none
def isTM (T : String) (i : Nat) (S : Sx) : Bool := match whereM i S with
  | some (_, d) => d.isT T
  | Option.none => false
def methM (T : String) (i : Nat) (f : M Res) (op : D → D → Option (D × D)) : M Res := guardM (isTM T i) (f >>= fun r => useM r >>= methK i op)
def methM0 (T : String) (i : Nat) (op : D → D → Option (D × D)) : M Res := guardM (isTM T i) (methK i op .non)
theorem Go.guard {α : Type} {c : Sx → Bool} {f : M α} {P : α → Sx → Hp → Gh → Prop} (h : Go K mg z (guardM c f) S σ H g P) : c S = true ∧ Go K mg z f S σ H g P := by
  unfold Go guardM at h
  by_cases e : c S = true
  · simp only [if_pos e] at h; exact ⟨e, h⟩
  · simp only [if_neg e] at h
def MetD (X : Cx) (r : V → List V → Hp → VK → Prop) (op : D → D → Option (D × D)) : Prop :=
  ∀ (H : Hp) (g : Gh) (ad : Addr) (x : V) (d dx res d' : D) (Q : VK), Root X.K H g ad d → Rp X.K H g x dx → op d dx = some (res, d') → g.bad ad → Mu H g →
    (∀ o v, Mut (some o) → Root X.K (upd H ad o) g ad d' → Rp X.K (upd H ad o) g v res → Q v (upd H ad o)) → r (.ref ad) [x] H Q
def MetD0 (X : Cx) (r : V → List V → Hp → VK → Prop) (op : D → D → Option (D × D)) : Prop :=
  ∀ (H : Hp) (g : Gh) (ad : Addr) (d res d' : D) (Q : VK), Root X.K H g ad d → op d .non = some (res, d') → g.bad ad → Mu H g →
    (∀ o v, Mut (some o) → Root X.K (upd H ad o) g ad d' → Rp X.K (upd H ad o) g v res → Q v (upd H ad o)) → r (.ref ad) [] H Q
theorem SR.bad_of (s : SR K z S σ H g) {w : Where} {ad : Addr} (h : whereM i S = some (w, d)) (e : σ[i]? = some (some (.ref ad))) : g.bad ad := by
  unfold whereM at h
  cases e1 : S.env[i]? with
  | none => rw [e1] at h; cases h
  | some x =>
    rw [e1] at h
    cases x with
    | un => cases h
    | own d0 =>
      obtain ⟨ad', e2, hb, _⟩ := s.own i d0 e1
      rw [e] at e2; cases e2; exact hb
    | dat d0 =>
      cases d0 <;> first | (cases h; done) | skip
      rename_i n
      obtain ⟨d1, e3, _⟩ := Option.map_eq_some_iff.mp h
      obtain ⟨w, e2, rw'⟩ := s.dat i _ e1
      rw [e] at e2; cases e2
      cases rw' with
      | obj e4 => exact (s.obj n ad d1 e4 e3).2
theorem Root.tyL {ad : Addr} (r : Root K H g ad d) (h : d.isT "list" = true) : tyV K "list" (.ref ad) H := by
  cases r with
  | lst hx r => exact .inl ⟨rfl, _, SqL.of hx⟩
  | dct hx c r => simp [D.isT] at h
theorem isTM_where {T : String} (h : isTM T i S = true) : ∃ w d, whereM i S = some (w, d) ∧ d.isT T = true := by
  unfold isTM at h
  cases e : whereM i S with
  | none => rw [e] at h; cases h
  | some pr => rw [e] at h; exact ⟨pr.1, pr.2, rfl, h⟩
theorem Go.meth {op : D → D → Option (D × D)} {xd : D} {ad : Addr} {Q : VK} (s : SR K z S σ H g) (es : σ[i]? = some (some (.ref ad))) (h : Go K mg z (methK i op xd) S σ H g (fun r S' H' g' => ∀ v, ResOk K z S' σ H' g' v r → Q v H')) :
    ∃ d res d', Root K H g ad d ∧ op d xd = some (res, d') ∧ g.bad ad ∧ ∀ o v, Mut (some o) → Root K (upd H ad o) g ad d' → Rp K (upd H ad o) g v res → Q v (upd H ad o) := by
  unfold Go methK at h
  cases e2 : whereM i S with
  | none => simp only [e2] at h
  | some pr =>
    obtain ⟨w, dd⟩ := pr
    simp only [e2] at h
    cases e3 : op dd xd with
    | none => simp only [e3] at h
    | some pr2 =>
      obtain ⟨res, d'⟩ := pr2
      simp only [e3] at h
      obtain ⟨ad2, es2, rt2, upd2⟩ := s.where_ e2
      rw [es] at es2; cases es2
      exact ⟨dd, res, d', rt2, e3, s.bad_of e2 es, fun o v hm rr rv => let ⟨s3, f3⟩ := upd2 o d' hm rr; h _ _ s3 f3 v rv⟩
theorem de_meth1 {r : V → List V → Hp → VK → Prop} {op : D → D → Option (D × D)} (hd : MetD X r op)
    (pe : PE X e (tBM X.K "list" r (tVar i) (tCons (tD X.K X.mg z fa) tNil))) : DE X z e (methM "list" i fa op) :=
  PE.imp pe fun σ H Q ⟨S, g, s, h⟩ => by
    obtain ⟨c, h1⟩ := h.guard
    obtain ⟨w0, d0, e0, hT⟩ := isTM_where c
    obtain ⟨ad, es, rt, _⟩ := s.where_ e0
    refine ⟨_, es, rt.tyL hT, S, g, s, h1.bnd.imp fun rr S1 H1 g1 s1 f1 q1 v rv => ?_⟩
    obtain ⟨S2, g2, s2, f2, rp, q2⟩ := q1.use s1 rv
    obtain ⟨d, res, d', rt2, e3, hb, q3⟩ := q2.meth s2 es
    exact hd H1 g2 ad v d _ res d' Q rt2 rp e3 hb s2.mu q3
theorem de_meth0 {r : V → List V → Hp → VK → Prop} {op : D → D → Option (D × D)} (hd : MetD0 X r op)
    (pe : PE X e (tBM0 X.K "list" r (tVar i))) : DE X z e (methM0 "list" i op) :=
  PE.imp pe fun σ H Q ⟨S, g, s, h⟩ => by
    obtain ⟨c, h1⟩ := h.guard
    obtain ⟨w0, d0, e0, hT⟩ := isTM_where c
    obtain ⟨ad, es, rt, _⟩ := s.where_ e0
    obtain ⟨d, res, d', rt2, e3, hb, q3⟩ := h1.meth s es
    exact ⟨_, es, rt.tyL hT, hd H g ad d res d' Q rt2 e3 hb s.mu q3⟩
def opAppend : D → D → Option (D × D)
  | .lst ds, x => if ds.length < sizeLine then some (.non, .lst (ds ++ [x])) else Option.none
  | _, _ => Option.none
def opPop : D → D → Option (D × D)
  | .lst ds, _ => (ds[ds.length - 1]?).map fun x => (x, .lst ds.dropLast)
  | _, _ => Option.none
def opReverse : D → D → Option (D × D)
  | .lst ds, _ => some (.non, .lst ds.reverse)
  | _, _ => Option.none
theorem md_append : MetD X rAppend opAppend := by
  intro H g ad x d dx res d' Q rt rp e hb m h
  obtain ⟨ds, rfl⟩ : ∃ ds, d = .lst ds := by
    cases d with
    | lst ds => exact ⟨ds, rfl⟩
    | _ => simp [opAppend] at e
  simp only [opAppend] at e
  split at e
  · rename_i hl
    cases e
    obtain ⟨xs, hx, rx⟩ := rt.lstAt
    have fr : Fr H g (upd H ad (.lst (xs ++ [x]))) g := Fr.mut hb
    exact ⟨ad, xs, x, rfl, rfl, hx, by rw [rx.length]; exact hl, h _ _ trivial (.lst upd_same ((rx.append (.cons rp .nil)).fr fr m)) .non⟩
  · cases e
theorem md_pop : MetD0 X rPop opPop := by
  intro H g ad d res d' Q rt e hb m h
  unfold opPop at e
  cases d <;> first | (cases e; done) | skip
  rename_i ds
  obtain ⟨y, e1, e2⟩ := Option.map_eq_some_iff.mp e
  cases e2
  obtain ⟨xs, hx, rx⟩ := rt.lstAt
  obtain ⟨v, e3, rv⟩ := rx.get e1
  have fr : Fr H g (upd H ad (.lst xs.dropLast)) g := Fr.mut hb
  exact ⟨ad, xs, v, rfl, rfl, hx, by rw [rx.length]; exact e3, h _ _ trivial (.lst upd_same (rx.dropLast.fr fr m)) (rv.fr fr m)⟩
variable {apos px : Pos} {x : Str}
theorem de_append (i : Nat) (ha : DE X z a fa) (hN : X.N[i]? = some x := by rfl) (hv : Vis X.env.scope x := by first | exact Or.inl rfl | exact Or.inr (Or.inl rfl) | exact Or.inr (Or.inr rfl)) (hd : (x == ("__debug__" : Str)) = false := by decide) (hcd : (x == ("__classdict__" : Str)) = false := by decide)
    (h1 : attributeBase (.Name x px) "append" X.env (eval (.Name x px) X.env) = eval (.Name x px) X.env := by rfl)
    (h2 : (((backTo pos (starEach [a] X.env)).all fun x => !x.1) && ((backToKw pos (keywordEach [] X.env)).all fun x => x.1.isSome) && decide (([a] : List Expr).length + ([] : List Keyword).length + (if ([] : List Keyword).isEmpty = true then 0 else 1) < 30)) = true := by rfl)
    (h3 : (apos.endLine == pos.line) = true := by rfl) (hs : starEach [a] X.env = (false, eval a X.env) :: starEach [] X.env := by rfl) (h5 : (backTo pos (starEach [] X.env)).any (·.1) = false := by rfl) :
    DE X z (.Call (.Attribute (.Name x px) "append" apos) [a] [] pos) (methM "list" i fa opAppend) :=
  de_meth1 md_append (pe_bm PySem.F.plainAttrs_list PySem.F.slot_list_append PySem.F.type_list_append mt_append (pe_var hN hv hd hcd) (pa_cons ha pa_nil hs) h1 h2 h3 hs h5)
theorem de_pop (i : Nat) (hN : X.N[i]? = some x := by rfl) (hv : Vis X.env.scope x := by first | exact Or.inl rfl | exact Or.inr (Or.inl rfl) | exact Or.inr (Or.inr rfl)) (hd : (x == ("__debug__" : Str)) = false := by decide) (hcd : (x == ("__classdict__" : Str)) = false := by decide)
    (h1 : attributeBase (.Name x px) "pop" X.env (eval (.Name x px) X.env) = eval (.Name x px) X.env := by rfl) (h3 : (apos.endLine == pos.line) = true := by rfl) :
    DE X z (.Call (.Attribute (.Name x px) "pop" apos) [] [] pos) (methM0 "list" i opPop) :=
  de_meth0 md_pop (pe_bm0 PySem.F.plainAttrs_list PySem.F.slot_list_pop PySem.F.type_list_pop mt_pop (pe_var hN hv hd hcd) h1 h3)
def rSetA : V → V → V → Hp → (Hp → Prop) → Prop := fun o i v H Q => rSetL o i v H Q ∨ ∃ a H1, o = .ref a ∧ (DPut H a i v H1 ∨ NPut H a i v H1) ∧ Q H1
theorem set_any (hu : X.A.units + 65 < cLine) : PSet X rSetA := by
  intro pins s σ H o i v ov iv u Q I ro ri rv h
  rcases h with h | ⟨a, H1, rfl, dp, q⟩
  · exact set_list pins s σ H o i v ov iv u Q I ro ri rv h
  · obtain rfl : ov = Value.ref a := ro
    exact dp.elim (fun dp => d_setItem (by omega) I dp ri rv fun s' I' => ⟨H1, I', q⟩) fun dp => n_setItem (by omega) I dp ri rv fun s' I' => ⟨H1, I', q⟩
def D.store : D → D → D → Option D
  | .lst ds, .int k, x => (ixN ds.length k).map fun j => .lst (ds.set j x)
  | .dct t ks vs, k, x => if (D.lookKey t ks vs k).isSome && decide (ks.length < sizeLine) then some (.dct t (D.putK ks k) (D.putV ks vs k x)) else Option.none
  | _, _, _ => Option.none
def storeK (i : Nat) (k x : D) : M Unit := fun S => match whereM i S with
  | Option.none => Option.none
  | some (w, d) => match d.store k x with
    | Option.none => Option.none
    | some d' => some (.ok (), S.store i w d')
theorem store_ok {ad : Addr} {x y : V} {dk dx d' : D} (rt : Root K H g ad d) (py : Rp K H g y dk) (px : Rp K H g x dx) (e : d.store dk dx = some d') (hb : g.bad ad) (m : Mu H g) (Q : Hp → Prop)
    (h : ∀ o, Mut (some o) → Root K (upd H ad o) g ad d' → Q (upd H ad o)) : rSetA (.ref ad) y x H Q := by
  unfold D.store at e
  split at e
  · obtain ⟨j, e1, rfl⟩ := Option.map_eq_some_iff.mp e
    obtain ⟨xs, hx, rx⟩ := rt.lstAt
    have fr : Fr H g (upd H ad (.lst (xs.set j x))) g := Fr.mut hb
    exact .inl ⟨ad, xs, _, j, rfl, Pk.int (.inl py), hx, by rw [rx.length]; exact e1, h _ trivial (.lst upd_same ((rx.set px j).fr fr m))⟩
  · split at e
    · rename_i t ks vs cc
      cases e
      simp only [Bool.and_eq_true, decide_eq_true_eq] at cc
      obtain ⟨o, ws, hx, c, rx⟩ := rt.dctAt
      cases c with
      | dK kvs =>
        have : ∃ kk : Key, dk = kD kk := by
          cases dk with
          | int i => exact ⟨.inl i, rfl⟩
          | str i => exact ⟨.inr i, rfl⟩
          | _ => simp [D.lookKey] at cc
        obtain ⟨kk, rfl⟩ := this
        obtain ⟨p1, p2⟩ := put_of (c := kD) (fun _ _ => kD_inj) kk x dx px rx
        have fr : Fr H g (upd H ad (.dK (L2.putK kvs kk x))) g := Fr.mut hb
        refine .inr ⟨ad, _, rfl, .inl (.inl ⟨kvs, kk, hx, Pk.key (.inl py) (kD_key kk), by simpa using cc.2, rfl⟩), h _ trivial ?_⟩
        rw [p1]
        exact .dct upd_same (.dK _) (p2.fr fr m)
      | dN rows nk =>
        cases dk with
        | tup ds =>
          simp only [D.lookKey] at cc
          have hs : ((D.nk (.tup ds)).map fun k => decide (k.depth ≤ 8)) = some true := by
            by_cases q : ((D.nk (.tup ds)).map fun k => decide (k.depth ≤ 8)) = some true
            · exact q
            · rw [if_neg q] at cc; exact absurd cc.1 (by simp)
          obtain ⟨kk, hk, hd⟩ := Option.map_eq_some_iff.mp hs
          obtain ⟨ek, hn⟩ := nk_of (K := K) (H := H) (g := g) hk
          obtain ⟨b, xs, rfl, hb2, rb⟩ := Pk.tup (.inl py)
          have hq : NK H kk (.ref b) := hn _ (.tup hb2 rb)
          rw [← ek] at h
          obtain ⟨p1, p2⟩ := put_of (c := kN) (fun _ _ => kN_inj) kk x dx px rx
          have fr : Fr H g (upd H ad (NDictO ad (putN rows kk b x))) g := Fr.mut hb
          refine .inr ⟨ad, _, rfl, .inr ⟨rows, kk, b, hx, nk, rfl, hq, of_decide_eq_true hd, by simpa using cc.2, rfl⟩, h _ trivial ?_⟩
          rw [p1]
          have nk2 : NKeys (upd H ad (NDictO ad (putN rows kk b x))) (putN rows kk b x) := (putN_keys nk ⟨hq, of_decide_eq_true hd⟩).mono fun c ys ec => by rw [upd_ne (ne_of ec hx fun z => nomatch z)]; exact ec
          have rt2 := Root.dct (K := K) (g := g) (vs := D.putV ((rows.map NRow.pr).map fun p => kN p.1) vs (kN kk) dx) upd_same (.dN (putN rows kk b x) nk2) (by rw [putN_pr]; exact p2.fr fr m)
          rw [putN_pr] at rt2
          exact rt2
        | _ => simp [D.lookKey] at cc
    · cases e
  · cases e
def storeM (i : Nat) (fv fk : M Res) : M Fl := fv >>= fun rv => useM rv >>= fun x => guardM (fun S => (whereM i S).isSome) (fk >>= fun rk => useM rk >>= fun k => storeK i k x >>= fun _ => pure .next)
theorem GoS.guard {c : Sx → Bool} {f : M Fl} {D : Ends} (h : GoS K mg z (guardM c f) S σ H g D) : c S = true ∧ GoS K mg z f S σ H g D := by
  unfold GoS guardM at h
  by_cases e : c S = true
  · simp only [if_pos e] at h; exact ⟨e, h⟩
  · simp only [if_neg e] at h
theorem GoS.storeK {k x : D} {D : Ends} {ad : Addr} {vk vx : V} (s : SR K z S σ H g) (es : σ[i]? = some (some (.ref ad))) (py : Rp K H g vk k) (px : Rp K H g vx x) (h : GoS K mg z (DL.storeK i k x >>= fun _ => pure .next) S σ H g D) : rSetA (.ref ad) vk vx H fun H1 => D.nx σ H1 := by
  unfold GoS at h
  change (match M.bnd (DL.storeK i k x) (fun _ => (Pure.pure Fl.next : M Fl)) S with
    | Option.none => False
    | some (.ok .next, S') => ∀ σ' H' g', SR K z S' σ' H' g' → Fr H g H' g' → D.nx σ' H'
    | some (.ok .brk, S') => ∀ σ' H' g', SR K z S' σ' H' g' → Fr H g H' g' → D.bk σ' H'
    | some (.ok .cont, S') => ∀ σ' H' g', SR K z S' σ' H' g' → Fr H g H' g' → D.ct σ' H'
    | some (.ok (.ret r), S') => ∀ σ' H' g' v, SR K z S' σ' H' g' → Fr H g H' g' → ResOk K z S' σ' H' g' v r → D.rt v H'
    | some (.error x, S') => ∀ cls dx σ' H' g', SR K z S' σ' H' g' → Fr H g H' g' → ExnOk K mg H' g' cls dx x → z.W cls dx σ' H') at h
  unfold M.bnd DL.storeK at h
  cases e2 : whereM i S with
  | none => simp only [e2] at h
  | some pr =>
    obtain ⟨w, d⟩ := pr
    simp only [e2] at h
    cases e3 : d.store k x with
    | none => simp only [e3] at h
    | some d' =>
      simp only [e3] at h
      obtain ⟨ad2, es2, rt2, upd2⟩ := s.where_ e2
      rw [es] at es2; cases es2
      refine store_ok rt2 py px e3 (s.bad_of e2 es) s.mu _ fun o hm rr => ?_
      obtain ⟨s3, f3⟩ := upd2 o d' hm rr
      exact h σ _ g s3 f3
theorem ds_store (hu : X.A.units + 65 < cLine) (i : Nat) (hv' : DE X z a fa) (hk : DE X z b fb) (hN : X.N[i]? = some x := by rfl) (hv : Vis X.env.scope x := by first | exact Or.inl rfl | exact Or.inr (Or.inl rfl) | exact Or.inr (Or.inr rfl)) (hd : (x == ("__debug__" : Str)) = false := by decide) (hcd : (x == ("__classdict__" : Str)) = false := by decide)
    {p1 : Pos} (hsub : ∀ v, assign (.Subscript (.Name x px) b p1) X.env v = (do
      let ov ← holding [v] (eval (.Name x px) X.env)
      let iv ← holding [v, ov] (eval b X.env)
      standAt p1
      holding [v, ov, iv] (setItem ov iv v)
      release [v, ov, iv] []) := by intro _; rfl)
    (hs : swapsWithSole [.Subscript (.Name x px) b p1] a pos.line X.env = pure false := by rfl) (hw : swappedStores [.Subscript (.Name x px) b p1] a X.env = pure Option.none := by rfl)
    (h1 : (assignEach [.Subscript (.Name x px) b p1] X.env).map (·.2) = [assign (.Subscript (.Name x px) b p1) X.env] := by rfl) : DS X z (.Assign [.Subscript (.Name x px) b p1] a pos) (storeM i fa fb) :=
  PS.imp (ps_asg hv' (pg_sub (pe_var hN hv hd hcd) hk (set_any hu) hsub) hs hw h1) fun D σ H ⟨S, g, s, q⟩ => by
    refine ⟨S, g, s, q.bnd.imp fun rv S1 H1 g1 s1 f1 q1 v rvv => ?_⟩
    obtain ⟨S2, g2, s2, f2, rp, q2⟩ := GoS.use s1 rvv q1
    obtain ⟨c, q3⟩ := GoS.guard q2
    obtain ⟨⟨w0, d0⟩, e0⟩ := Option.isSome_iff_exists.mp c
    obtain ⟨ad, es, _, _⟩ := s2.where_ e0
    refine ⟨_, es, S2, g2, s2, q3.bnd.imp fun rk S3 H3 g3 s3 f3 q4 y ry => ?_⟩
    obtain ⟨S5, g5, s5, f5, rpk, q5⟩ := GoS.use s3 ry q4
    exact q5.storeK s5 es rpk (rp.fr (f3.trans f5) s2.mu)
end
end DL
end
section
set_option maxRecDepth 100000
namespace DL
open PySem PySem.Spec L2
def Slot.frz : Slot → Slot
  | .own d => .dat d
  | s => s
def wipeE (env : List Slot) : List Nat → List Slot
  | [] => env
  | v :: vs => (wipeE env vs).set v .un
def compL (turn : D → M (Option D)) (env : List Slot) : List D → List D → List D → Option (List D × List D)
  | [], acc, o => some (acc, o)
  | d :: ds, acc, o => match turn d ⟨env, o⟩ with
    | some (.ok (some x), S') => if acc.length < sizeLine then compL turn env ds (acc ++ [x]) S'.objs else none
    | some (.ok none, S') => compL turn env ds acc S'.objs
    | _ => none
def turnM (tgt : D → M Unit) (t : M Bool) (f : M Res) (d : D) : M (Option D) := tgt d >>= fun _ => t >>= fun b => if b = true then f >>= fun r => useM r >>= fun x => pure (some x) else pure none
def lcM (it : M (List D)) (own : List Nat) (turn : D → M (Option D)) : M Res := it >>= fun ds => fun S => match compL turn (wipeE (S.env.map Slot.frz) own) ds [] S.objs with
  | none => none
  | some (acc, objs') => if D.imms acc && objs'.all (fun o => D.imms o.parts) then some (.ok (.new (.lst acc)), { S with objs := objs' }) else some (.ok (.new (.lst acc)), ⟨S.env.map Slot.frz, objs'⟩)
section
variable {X : Cx} {z : Zx} {S S' : Sx} {σ : L2.St} {H H' H0 : Hp} {g g' g2 : Gh} {v : V} {d : D} {r : Res} {K : PySem.W.Frag} {mg : Str → Option Value} {pos p : Pos} {a b c e : Expr} {fa fb fc : M Res} {i : Nat} {o : HO}
theorem wipe_at {σ : L2.St} {i : Nat} : ∀ {vs : List Nat}, i ∈ vs → i < σ.length → (wipe σ vs)[i]? = some none
  | v :: vs, h, hl => by
    unfold wipe
    by_cases e : v = i
    · subst e
      exact List.getElem?_set_self (by rw [wipe_length]; exact hl)
    · rw [List.getElem?_set_ne e]
      exact wipe_at ((List.mem_cons.mp h).elim (fun q => absurd q.symm e) id) hl
theorem wipe_sm {σ σ' : L2.St} {ts vs : List Nat} (m : Sm ts (wipe σ vs) σ') (h : ∀ i ∈ ts, i ∈ vs) : wipe σ' vs = wipe σ vs := by
  have hl : σ'.length = σ.length := by rw [m.len, wipe_length]
  apply List.ext_getElem?
  intro i
  by_cases hi : i ∈ vs
  · by_cases hs : i < σ.length
    · rw [wipe_at hi hs, wipe_at hi (by rw [hl]; exact hs)]
    · rw [List.getElem?_eq_none (by rw [wipe_length]; omega), List.getElem?_eq_none (by rw [wipe_length]; omega)]
  · rw [wipe_out hi]
    exact m.at_ i fun q => hi (h i q)
theorem wipeE_len (env : List Slot) : ∀ vs : List Nat, (wipeE env vs).length = env.length
  | [] => rfl
  | v :: vs => by unfold wipeE; rw [List.length_set, wipeE_len env vs]
theorem wipeE_get {env : List Slot} {i : Nat} {x : Slot} : ∀ {vs : List Nat}, (wipeE env vs)[i]? = some x → x ≠ .un → env[i]? = some x ∧ i ∉ vs
  | [], h, _ => ⟨h, by simp⟩
  | v :: vs, h, n => by
    unfold wipeE at h
    rcases set_get h with ⟨_, q⟩ | ⟨ne, q⟩
    · exact absurd q n
    · obtain ⟨h1, h2⟩ := wipeE_get q n
      exact ⟨h1, fun m => (List.mem_cons.mp m).elim (fun e => ne e.symm) h2⟩
theorem SR.frzAll (s : SR K z S σ H g) : ∃ g', SR K z ⟨S.env.map Slot.frz, S.objs⟩ σ H g' ∧ Fr H g H g' ∧ g'.om = g.om ∧ ∀ a, g'.bad a → g.bad a := by
  have key : ∀ n, ∃ S' g', SR K z S' σ H g' ∧ Fr H g H g' ∧ g'.om = g.om ∧ (∀ a, g'.bad a → g.bad a) ∧ S'.objs = S.objs ∧ S'.env.length = S.env.length ∧ ∀ i : Nat, S'.env[i]? = if i < n then S.env[i]?.map Slot.frz else S.env[i]? := by
    intro n
    induction n with
    | zero => exact ⟨S, g, s, Fr.refl _ _, rfl, fun _ h => h, rfl, rfl, fun i => by rw [if_neg (Nat.not_lt_zero i)]⟩
    | succ n ih =>
      obtain ⟨S1, g1, s1, f1, o1, b1, e1, l1, q1⟩ := ih
      have hn := q1 n
      rw [if_neg (Nat.lt_irrefl n)] at hn
      cases e : S.env[n]? with
      | none =>
        refine ⟨S1, g1, s1, f1, o1, b1, e1, l1, fun i => ?_⟩
        rw [q1 i]
        by_cases h1 : i < n
        · rw [if_pos h1, if_pos (Nat.lt_succ_of_lt h1)]
        · by_cases h2 : i = n
          · subst h2; rw [if_neg h1, if_pos (Nat.lt_succ_self i), e]; rfl
          · rw [if_neg h1, if_neg (by omega)]
      | some sl =>
        rw [e] at hn
        cases sl with
        | own d =>
          obtain ⟨ad, es, _⟩ := s1.own n d hn
          obtain ⟨s2, _⟩ := s1.use_own hn es
          have hl : n < S1.env.length := (List.getElem?_eq_some_iff.mp hn).1
          refine ⟨S1.put n (.dat d), g1.del ad, s2, f1.trans Fr.del, o1, fun a h => b1 a h.1, e1, by show (S1.env.set n _).length = _; rw [List.length_set]; exact l1, fun i => ?_⟩
          show (S1.env.set n (.dat d))[i]? = _
          by_cases h2 : n = i
          · subst h2
            rw [List.getElem?_set_self hl, if_pos (Nat.lt_succ_self n), e]; rfl
          · rw [List.getElem?_set_ne h2, q1 i]
            by_cases h1 : i < n
            · rw [if_pos h1, if_pos (Nat.lt_succ_of_lt h1)]
            · rw [if_neg h1, if_neg (by omega)]
        | dat d =>
          refine ⟨S1, g1, s1, f1, o1, b1, e1, l1, fun i => ?_⟩
          rw [q1 i]
          by_cases h1 : i < n
          · rw [if_pos h1, if_pos (Nat.lt_succ_of_lt h1)]
          · by_cases h2 : i = n
            · subst h2; rw [if_neg h1, if_pos (Nat.lt_succ_self i), e]; rfl
            · rw [if_neg h1, if_neg (by omega)]
        | un =>
          refine ⟨S1, g1, s1, f1, o1, b1, e1, l1, fun i => ?_⟩
          rw [q1 i]
          by_cases h1 : i < n
          · rw [if_pos h1, if_pos (Nat.lt_succ_of_lt h1)]
          · by_cases h2 : i = n
            · subst h2; rw [if_neg h1, if_pos (Nat.lt_succ_self i), e]; rfl
            · rw [if_neg h1, if_neg (by omega)]
  obtain ⟨S1, g1, s1, f1, o1, b1, e1, l1, q1⟩ := key S.env.length
  refine ⟨g1, ?_, f1, o1, b1⟩
  have : S1 = ⟨S.env.map Slot.frz, S.objs⟩ := by
    obtain ⟨env, objs⟩ := S1
    cases e1
    congr 1
    apply List.ext_getElem?
    intro i
    have := q1 i
    change env[i]? = _ at this
    rw [this, List.getElem?_map]
    by_cases h : i < S.env.length
    · rw [if_pos h]
    · rw [if_neg h, List.getElem?_eq_none (by omega)]; rfl
  rw [← this]; exact s1
def noOwn (env : List Slot) : Prop := ∀ (i : Nat) (d : D), env[i]? ≠ some (.own d)
theorem noOwn_frz (env : List Slot) (vs : List Nat) : noOwn (wipeE (env.map Slot.frz) vs) := fun i d h => by
  obtain ⟨h1, _⟩ := wipeE_get h (by simp)
  rw [List.getElem?_map] at h1
  obtain ⟨x, _, e⟩ := Option.map_eq_some_iff.mp h1
  cases x <;> cases e
structure In (K : PySem.W.Frag) (env : List Slot) (objs : List D) (σ : L2.St) (H : Hp) (g : Gh) : Prop where
  len : env.length = σ.length
  dat : ∀ (i : Nat) (d : D), env[i]? = some (.dat d) → ∃ v, σ[i]? = some (some v) ∧ Rp K H g v d
  olen : objs.length = g.om.length
  obj : ∀ (n : Nat) (a : Addr) (d : D), g.om[n]? = some a → objs[n]? = some d → Root K H g a d ∧ g.bad a
  ond : g.om.Nodup
  mu : Mu H g
theorem In.sr {env : List Slot} {objs : List D} (h : In K env objs σ H g) (no : noOwn env) (W : WX) : SR K ⟨H, g.bad, g.om, W⟩ ⟨env, objs⟩ σ H g where
  len := h.len
  dat := h.dat
  own := fun i d e => absurd e (no i d)
  inj := fun i j d e a q => absurd q (no i d)
  olen := h.olen
  obj := h.obj
  ond := h.ond
  mu := h.mu
  base := fun a q => q
  b0 := fun a q e => by have := h.mu a q; change H a = none at e; rw [e] at this; exact this
  keep := fun a o q _ => q
  on := fun a q => .inl q
theorem Grow.fr (gr : Grow H H') : Fr H g H' g := by
  rcases gr with rfl | ⟨p, xs, hp, rfl⟩
  · exact Fr.refl _ _
  · exact Fr.upd_new hp
theorem In.grow {env : List Slot} {objs : List D} (h : In K env objs σ H g) (gr : Grow H H') : In K env objs σ H' g := by
  constructor
  · exact h.len
  · intro i d e
    obtain ⟨v, e1, r⟩ := h.dat i d e
    exact ⟨v, e1, r.fr gr.fr h.mu⟩
  · exact h.olen
  · intro n a d e1 e2
    obtain ⟨rt, hb⟩ := h.obj n a d e1 e2
    refine ⟨rt.fr gr.fr h.mu ?_, hb⟩
    rcases gr with rfl | ⟨p, xs, hp, rfl⟩
    · rfl
    · exact upd_ne fun q => rt.there (q ▸ hp)
  · exact h.ond
  · intro a hb
    have := h.mu a hb
    rcases gr with rfl | ⟨p, xs, hp, rfl⟩
    · exact this
    · rw [upd_ne (show a ≠ p from fun q => by rw [q, hp] at this; exact this)]; exact this
abbrev blkW : WX := fun _ _ _ _ => False
variable {tg elt iter : Expr} {ifs : List Expr} {scope : Scope} {own : List (Str × Nat)} {it : M (List D)} {tgt : D → M Unit} {t : M Bool} {f : M Res} {ts : List Nat}
def tDx (K : PySem.W.Frag) (mg : Str → Option Value) (f : M Res) : TE := fun σ H Q => ∃ z : Zx, z.W = blkW ∧ tD K mg z f σ H Q
def tTx (K : PySem.W.Frag) (mg : Str → Option Value) (f : M Bool) : TT := fun σ H Q => ∃ z : Zx, z.W = blkW ∧ tT K mg z f σ H Q
def tGx (K : PySem.W.Frag) (ts : List Nat) (f : D → M Unit) : TG := fun v σ H Q => ∃ z : Zx, tG K z ts f v σ H Q
theorem pe_x (h : ∀ z : Zx, z.W = blkW → DE X z e fa) : PE X e (tDx X.K X.mg fa) := ⟨fun pins s σ H Q I ⟨z, w, q⟩ => (h z w).run pins s σ H Q I q⟩
theorem pt_x (h : ∀ z : Zx, z.W = blkW → DT X z e t) : PT X e (tTx X.K X.mg t) := ⟨fun pins s σ H Q I ⟨z, w, q⟩ => (h z w).run pins s σ H Q I q⟩
theorem pg_x (h : ∀ z : Zx, DG X z ts e tgt) : PG X e (tGx X.K ts tgt) := ⟨fun pins s σ H v u Q I r ⟨z, q⟩ => (h z).run pins s σ H v u Q I r q⟩
theorem pts_x0 : PTs X [] (tTx X.K X.mg (pure true)) := ⟨fun pins s σ H Q I ⟨z, w, S, g, sr, q⟩ => pts_nil.run pins s σ H Q I (q.pure sr)⟩
theorem pts_x1 (h : ∀ z : Zx, z.W = blkW → DT X z e t) : PTs X [e] (tTx X.K X.mg t) := pts_one (pt_x h)
theorem Go.of_run {α : Type} {f : M α} {x : α} {P : α → Sx → Hp → Gh → Prop} (e : f S = some (.ok x, S')) (h : ∀ H' g', SR K z S' σ H' g' → Fr H g H' g' → P x S' H' g') : Go K mg z f S σ H g P := by
  unfold Go
  rw [e]
  exact h
structure Blk (K : PySem.W.Frag) (env : List Slot) (σ : L2.St) (vs : List Nat) (H1 : Hp) (g1 : Gh) (Dd : Addr) (acc objs : List D) (H : Hp) (g : Gh) : Prop where
  inn : In K env objs (wipe σ vs) H g
  keep : ∀ a o, H1 a = some o → a ∉ g.om → H a = some o
  fr : Fr H1 g1 H g
  base : ∀ a, g1.bad a → g.bad a
  new : ∀ a, a ∈ g.om → a ∈ g1.om ∨ H1 a = none
  lst : ∃ accV, H Dd = some (.lst accV) ∧ RpA K H g accV acc
  bad : g.bad Dd
  om : Dd ∉ g.om
theorem Blk.step {env : List Slot} {σ : L2.St} {vs : List Nat} {H1 H' H4 : Hp} {g1 g5 : Gh} {Dd : Addr} {acc objs : List D} {S4 : Sx} {σ2 : L2.St} (b : Blk K env σ vs H1 g1 Dd acc objs H g) (hD : H1 Dd = none) (gr : Grow H H')
    (s : SR K ⟨H', g.bad, g.om, blkW⟩ S4 σ2 H4 g5) (f : Fr H' g H4 g5) :
    (∀ a o, H a = some o → a ∉ g5.om → H4 a = some o) ∧ Dd ∉ g5.om ∧ (∃ accV, H4 Dd = some (.lst accV) ∧ RpA K H4 g5 accV acc) ∧ Blk K env σ vs H1 g1 Dd acc S4.objs H4 g5 := by
  have k1 : ∀ a o, H a = some o → H' a = some o := fun a o h => by
    rcases gr with rfl | ⟨p, xs, hp, rfl⟩
    · exact h
    · rw [upd_ne (ne_of_none h hp)]; exact h
  have f1 : Fr H g H' g := by
    rcases gr with rfl | ⟨p, xs, hp, rfl⟩
    · exact Fr.refl _ _
    · exact Fr.upd_new hp
  have sub : ∀ a, a ∈ g.om → a ∈ g5.om := fun a h => by
    obtain ⟨t, e⟩ := f.om
    rw [← e]; exact List.mem_append_left _ h
  have nom : Dd ∉ g5.om := fun h => by
    rcases s.on Dd h with q | q
    · exact b.om q
    · obtain ⟨accV, e, _⟩ := b.lst
      change H' Dd = none at q
      rw [k1 _ _ e] at q; cases q
  have kp : ∀ a o, H a = some o → a ∉ g5.om → H4 a = some o := fun a o h n => s.keep a o (k1 a o h) n
  have lst : ∃ accV, H4 Dd = some (.lst accV) ∧ RpA K H4 g5 accV acc := by
    obtain ⟨accV, e, r⟩ := b.lst
    exact ⟨accV, kp _ _ e nom, r.fr (f1.trans f) b.inn.mu⟩
  refine ⟨kp, nom, lst, ?_⟩
  constructor
  · constructor
    · exact b.inn.len
    · intro i d e
      obtain ⟨v, e1, r⟩ := b.inn.dat i d e
      exact ⟨v, e1, r.fr (f1.trans f) b.inn.mu⟩
    · exact s.olen
    · exact s.obj
    · exact s.ond
    · exact s.mu
  · exact fun a o h n => kp a o (b.keep a o h fun q => n (sub a q)) n
  · exact b.fr.trans (f1.trans f)
  · exact fun a h => s.base a (b.base a h)
  · intro a h
    rcases s.on a h with q | q
    · exact b.new a q
    · change H' a = none at q
      by_cases m : a ∈ g.om
      · exact b.new a m
      · refine .inr ?_
        cases e : H1 a with
        | none => rfl
        | some o => rw [k1 _ _ (b.keep a o e m)] at q; cases q
  · exact lst
  · exact s.base _ b.bad
  · exact nom
theorem Blk.put {env : List Slot} {σ : L2.St} {vs : List Nat} {H1 : Hp} {g1 : Gh} {Dd : Addr} {acc objs : List D} {accV : List V} {y : V} {x : D} (b : Blk K env σ vs H1 g1 Dd acc objs H g) (hD : H1 Dd = none) (e : H Dd = some (.lst accV)) (r : RpA K H g accV acc) (rx : Rp K H g y x) :
    Blk K env σ vs H1 g1 Dd (acc ++ [x]) objs (upd H Dd (.lst (accV ++ [y]))) g := by
  have f : Fr H g (upd H Dd (.lst (accV ++ [y]))) g := Fr.mut b.bad
  constructor
  · constructor
    · exact b.inn.len
    · intro i d e
      obtain ⟨v, e1, r⟩ := b.inn.dat i d e
      exact ⟨v, e1, r.fr f b.inn.mu⟩
    · exact b.inn.olen
    · intro n a d e1 e2
      obtain ⟨rt, hb⟩ := b.inn.obj n a d e1 e2
      exact ⟨rt.fr f b.inn.mu (upd_ne fun q => b.om (q ▸ List.mem_iff_getElem?.mpr ⟨n, e1⟩)), hb⟩
    · exact b.inn.ond
    · intro a hb
      by_cases q : a = Dd
      · subst q; rw [upd_same]; trivial
      · rw [upd_ne q]; exact b.inn.mu a hb
  · intro a o h n
    rw [upd_ne (ne_of_none h hD)]; exact b.keep a o h n
  · exact b.fr.trans f
  · exact b.base
  · exact b.new
  · exact ⟨_, upd_same, (r.append (.cons rx .nil)).fr f b.inn.mu⟩
  · exact b.bad
  · exact b.om
theorem blk_loop {env : List Slot} {σ : L2.St} {vs : List Nat} {H1 HJ : Hp} {g1 gJ : Gh} {Dd : Addr} {ds acc objs accF objsF : List D} {J : It} {Pd : Hp → Prop} (hcl : Calm tgt) (hts : ∀ i ∈ ts, i ∈ vs) (hD : H1 Dd = none) (no : noOwn env)
    (jk : ItOk K J ds HJ gJ) (fJ : Fr HJ gJ H g) (b : Blk K env σ vs H1 g1 Dd acc objs H g) (hrun : compL (turnM tgt t f) env ds acc objs = some (accF, objsF))
    (hP : ∀ H' g', Blk K env σ vs H1 g1 Dd accF objsF H' g' → Fr H g H' g' → J.stop ds.length H' → Pd H') :
    ∃ W : Nat → Nat → Hp → Prop, (∃ m, W 0 m H) ∧ ∀ i m H, W i m H →
      (J.stop i H ∧ Pd H) ∨ (J.go i H ∧ ∃ Nx : Hp → Prop, (∀ H', Nx H' → ∃ m', m' < m ∧ W (i + 1) m' H') ∧ ∀ x H', J.yld i H x H' → tGx K ts tgt x (wipe σ vs) H' fun σ2 H2 => wipe σ2 vs = wipe σ vs ∧ tTx K mg t σ2 H2 fun b H3 =>
        if b = true then tDx K mg f σ2 H3 fun y H4 => ∃ acc, H4 Dd = some (.lst acc) ∧ acc.length < sizeLine ∧ Nx (upd H4 Dd (.lst (acc ++ [y]))) else Nx H3) := by
  refine ⟨fun i m H' => m = ds.length - i ∧ i ≤ ds.length ∧ ∃ g' acc objs, Fr H g H' g' ∧ Blk K env σ vs H1 g1 Dd acc objs H' g' ∧ compL (turnM tgt t f) env (ds.drop i) acc objs = some (accF, objsF), ⟨ds.length, by simp, Nat.zero_le _, g, acc, objs, Fr.refl _ _, b, hrun⟩, ?_⟩
  rintro i m H2 ⟨rfl, hi2, g2, acc, objs, fB, b, hr⟩
  have fJ : Fr HJ gJ H2 g2 := fJ.trans fB
  by_cases hlt : i < ds.length
  · have e := List.getElem?_eq_getElem hlt
    refine .inr ⟨jk.go i _ H2 g2 fJ e, fun H' => ∃ g' acc objs, Fr H g H' g' ∧ Blk K env σ vs H1 g1 Dd acc objs H' g' ∧ compL (turnM tgt t f) env (ds.drop (i + 1)) acc objs = some (accF, objsF), fun H' w => ⟨ds.length - (i + 1), by omega, rfl, hlt, w⟩, fun x H3 y => ?_⟩
    obtain ⟨gr, rx⟩ := jk.yld i _ H2 g2 x H3 fJ b.inn.mu e y
    rw [drop_get e] at hr
    have f3 : Fr H2 g2 H3 g2 := gr.fr
    have s3 : SR K ⟨H3, g2.bad, g2.om, blkW⟩ ⟨env, objs⟩ (wipe σ vs) H3 g2 := (b.inn.grow gr).sr no blkW
    unfold compL at hr
    cases hturn : turnM tgt t f ds[i] ⟨env, objs⟩ with
    | none => rw [hturn] at hr; cases hr
    | some pr =>
      obtain ⟨res, S'⟩ := pr
      cases res with
      | error x => rw [hturn] at hr; cases hr
      | ok res =>
        obtain ⟨u, S4, r4, hturn⟩ := bind_inv hturn
        obtain ⟨bb, S5, r5, hturn⟩ := bind_inv hturn
        refine ⟨⟨H3, g2.bad, g2.om, blkW⟩, ⟨env, objs⟩, g2, ds[i], s3, rx.fr (Fr.refl _ _) s3.mu, ?_⟩
        unfold GoG
        rw [r4]
        intro σ4 H4 g4 s4 f4 m4
        refine ⟨wipe_sm m4 hts, ⟨H3, g2.bad, g2.om, blkW⟩, rfl, S4, g4, s4, Go.of_run r5 fun H5 g5 s5 f5 => ?_⟩
        cases bb with
        | false =>
          simp only [if_neg Bool.false_ne_true] at hturn ⊢
          cases hturn
          obtain ⟨_, _, _, b5⟩ := b.step hD gr s5 (f4.trans f5)
          have hr2 : compL (turnM tgt t f) env (ds.drop (i + 1)) acc S'.objs = some (accF, objsF) := by
            rw [show turnM tgt t f ds[i] ⟨env, objs⟩ = some (.ok none, S') from by
              unfold turnM; rw [bind_ok r4, bind_ok r5]; rfl] at hr
            exact hr
          exact ⟨g5, acc, S'.objs, fB.trans (f3.trans (f4.trans f5)), b5, hr2⟩
        | true =>
          simp only [if_pos] at hturn ⊢
          obtain ⟨rr, S6, r6, hturn⟩ := bind_inv hturn
          obtain ⟨xx, S7, r7, hturn⟩ := bind_inv hturn
          cases hturn
          refine ⟨⟨H3, g2.bad, g2.om, blkW⟩, rfl, S5, g5, s5, Go.of_run r6 fun H6 g6 s6 f6 v rv => ?_⟩
          have gu : Go K mg ⟨H3, g2.bad, g2.om, blkW⟩ (useM rr >>= fun d => pure d) S6 σ4 H6 g6 (fun x Sq H' g' => x = xx ∧ Sq = S') := by
            refine Go.of_run (x := xx) (S' := S') ?_ (fun _ _ _ _ => ⟨rfl, rfl⟩)
            rw [bind_ok r7]; rfl
          obtain ⟨S8, g8, s8, f8, rp, gu2⟩ := gu.use s6 rv
          obtain ⟨e1, e2⟩ := gu2.pure s8
          subst e2
          obtain ⟨_, _, ⟨accV, hl, ra⟩, b8⟩ := b.step hD gr s8 (((f4.trans f5).trans f6).trans f8)
          have hr2 : (if acc.length < sizeLine then compL (turnM tgt t f) env (ds.drop (i + 1)) (acc ++ [xx]) S8.objs else none) = some (accF, objsF) := by
            rw [show turnM tgt t f ds[i] ⟨env, objs⟩ = some (.ok (some xx), S8) from by
              unfold turnM; rw [bind_ok r4, bind_ok r5, if_pos rfl, bind_ok r6, bind_ok r7]; rfl] at hr
            exact hr
          by_cases hz : acc.length < sizeLine
          · rw [if_pos hz] at hr2
            refine ⟨accV, hl, by rw [ra.length]; exact hz, g8, acc ++ [xx], S8.objs, (fB.trans (f3.trans (((f4.trans f5).trans f6).trans f8))).trans (Fr.mut b8.bad), b8.put hD hl ra (e1 ▸ rp), hr2⟩
          · rw [if_neg hz] at hr2; cases hr2
  · have e : i = ds.length := by omega
    subst e
    rw [List.drop_length] at hr
    unfold compL at hr
    cases hr
    have st := jk.stop H2 g2 fJ
    exact .inl ⟨st, hP H2 g2 b fB st⟩
def outL (acc objs' : List D) (S : Sx) : Option (Except Exn Res × Sx) :=
  if D.imms acc && objs'.all (fun o => D.imms o.parts) then some (.ok (.new (.lst acc)), { S with objs := objs' }) else some (.ok (.new (.lst acc)), ⟨S.env.map Slot.frz, objs'⟩)
theorem blk_out {S1 : Sx} {env : List Slot} {σ : L2.St} {vs : List Nat} {H1 H2 : Hp} {g1 gf g2 : Gh} {Dd : Addr} {accF objsF : List D} {P : Res → Sx → Hp → Gh → Prop} (s1 : SR K z S1 σ H1 g1) (sf : SR K z ⟨S1.env.map Slot.frz, S1.objs⟩ σ H1 gf) (ff : Fr H1 g1 H1 gf) (of : gf.om = g1.om) (hD : H1 Dd = none)
    (b : Blk K env σ vs H1 gf Dd accF objsF H2 g2) (q : match outL accF objsF S1 with | some (.ok r, S') => ∀ H' g', SR K z S' σ H' g' → Fr H1 g1 H' g' → P r S' H' g' | _ => False) :
    ∃ S' g', SR K z S' σ H2 g' ∧ Fr H1 g1 H2 g' ∧ ResOk K z S' σ H2 g' (.ref Dd) (.new (.lst accF)) ∧ P (.new (.lst accF)) S' H2 g' := by
  obtain ⟨accV, hl, ra⟩ := b.lst
  have bh : Behind K H1 gf objsF H2 g2 := ⟨b.keep, b.base, b.fr.om, b.inn.ond, b.inn.mu, ⟨b.inn.olen, b.inn.obj⟩, b.new⟩
  have inom : ∀ c, c ∈ g2.om → g2.bad c := fun c q => by
    obtain ⟨j, hj⟩ := List.mem_iff_getElem?.mp q
    have hl : j < objsF.length := by rw [b.inn.olen]; exact (List.getElem?_eq_some_iff.mp hj).1
    exact (b.inn.obj j c _ hj (List.getElem?_eq_getElem hl)).2
  have hR : ∀ c, c = Dd → H1 c = none ∧ g2.bad c := fun c q => q ▸ ⟨hD, b.bad⟩
  unfold outL at q
  by_cases safe : (D.imms accF && objsF.all fun o => D.imms o.parts) = true
  · simp only [if_pos safe] at q
    rw [Bool.and_eq_true] at safe
    have sr := bh.sr s1 (root := fun c => c = Dd) of hR fun n c d e1 e2 => root_im_parts (b.inn.obj n c d e1 e2).1 (List.all_eq_true.mp safe.2 d (List.mem_of_getElem? e2))
    have fr := bh.fr (root := fun c => c = Dd) s1 of (fun c q => (hR c q).1)
    exact ⟨_, _, sr, fr, ⟨Dd, rfl, .inr (.inr rfl), .lst hl (ra.im (show g2.om <+: (g1.aft g2 fun c => c = Dd).om from List.prefix_rfl) safe.1), s1.fresh0 hD, b.om, fun j d h1 h2 => s1.own_there h1 h2 hD⟩, q H2 _ sr fr⟩
  · simp only [if_neg safe] at q
    have less : Fr H2 g2 H2 (gf.aft g2 fun c => c = Dd) := Fr.less (fun c q => q.elim (b.base c) fun q => q.elim (inom c) fun q => (hR c q).2) rfl
    have sr := bh.sr sf (root := fun c => c = Dd) rfl hR fun n c d e1 e2 => (b.inn.obj n c d e1 e2).1.fr less b.inn.mu rfl
    have fr := bh.fr (root := fun c => c = Dd) sf rfl (fun c q => (hR c q).1)
    exact ⟨_, _, sr, ff.trans fr, ⟨Dd, rfl, .inr (.inr rfl), .lst hl (ra.fr less b.inn.mu), s1.fresh0 hD, b.om, fun j d h1 h2 => sf.own_there h1 h2 hD⟩, q H2 _ sr (ff.trans fr)⟩
theorem blk_start {S1 : Sx} {σ : L2.St} {vs : List Nat} {H1 : Hp} {gf : Gh} {Dd : Addr} (sf : SR K z ⟨S1.env.map Slot.frz, S1.objs⟩ σ H1 gf) (hD : H1 Dd = none) :
    Blk K (wipeE (S1.env.map Slot.frz) vs) σ vs H1 gf Dd [] S1.objs (upd H1 Dd (.lst [])) (gf.add Dd) := by
  have fr : Fr H1 gf (upd H1 Dd (.lst [])) (gf.add Dd) := Fr.upd_add hD
  have sr := sf.alloc hD (o := .lst []) trivial
  constructor
  · constructor
    · rw [wipeE_len, wipe_length]
      exact sf.len
    · intro i d e
      obtain ⟨e1, e2⟩ := wipeE_get e (by simp)
      obtain ⟨v, e3, r⟩ := sf.dat i d e1
      exact ⟨v, by rw [wipe_out e2]; exact e3, r.fr fr sf.mu⟩
    · exact sr.olen
    · exact sr.obj
    · exact sr.ond
    · exact sr.mu
  · intro a o h _
    rw [upd_ne (ne_of_none h hD)]; exact h
  · exact fr
  · exact fun a h => .inl h
  · exact fun a h => .inl h
  · exact ⟨[], upd_same, .nil⟩
  · exact .inr rfl
  · exact fun h => sf.om_there h hD
theorem lcM_go {vs : List Nat} {turn : D → M (Option D)} {P : Res → Sx → Hp → Gh → Prop} (q : Go K mg z (lcM it vs turn) S σ H g P) :
    Go K mg z it S σ H g fun ds S1 H1 g1 => ∃ accF objsF, compL turn (wipeE (S1.env.map Slot.frz) vs) ds [] S1.objs = some (accF, objsF) ∧ match outL accF objsF S1 with | some (.ok r, S') => ∀ H' g', SR K z S' σ H' g' → Fr H1 g1 H' g' → P r S' H' g' | _ => False := by
  unfold lcM at q
  refine q.bnd.imp fun ds S1 H1 g1 s1 f1 q1 => ?_
  unfold Go at q1
  cases hrun : compL turn (wipeE (S1.env.map Slot.frz) vs) ds [] S1.objs with
  | none => simp only [hrun] at q1
  | some pr =>
    obtain ⟨accF, objsF⟩ := pr
    simp only [hrun] at q1
    refine ⟨accF, objsF, rfl, ?_⟩
    unfold outL
    by_cases safe : (D.imms accF && objsF.all fun o => D.imms o.parts) = true
    · simp only [if_pos safe] at q1 ⊢; exact q1
    · simp only [if_neg safe] at q1 ⊢; exact q1
theorem tlc_of {vs : List Nat} {Q : VK} (hcl : Calm tgt) (hts : ∀ i ∈ ts, i ∈ vs) (h : tD K mg z (lcM it vs (turnM tgt t f)) σ H Q) :
    tLc (tI K mg z it) (tGx K ts tgt) (tTx K mg t) (tDx K mg f) vs σ H Q := by
  obtain ⟨S, g, s, q⟩ := h
  refine ⟨S, g, s, (lcM_go q).imp fun ds S1 H1 g1 s1 f1 ⟨accF, objsF, hrun, qo⟩ J jk Dd hD => ?_⟩
  obtain ⟨gf, sf, ff, of, bf⟩ := s1.frzAll
  exact blk_loop hcl hts hD (noOwn_frz S1.env vs) jk (ff.trans (blk_start (vs := vs) sf hD).fr) (blk_start sf hD) hrun fun H' g' b fB st => by
    obtain ⟨S', g'', sr, fr, rv, p⟩ := blk_out (P := fun r S' H' g' => ∀ v, ResOk K z S' σ H' g' v r → Q v H') s1 sf ff of hD b qo
    exact p _ rv
theorem de_lc (hc : X.calm = true) (hN : X.N.Nodup) (hcl : Calm tgt) (hi : DI X z tg iter it) (ok : BlkOk X.N X.env.scope scope own) (hts : ∀ i ∈ ts, i ∈ own.map (·.2))
    (hg : ∀ (s : Shared) (H : Hp) (C : Addr) (cl : List (Str × Addr)) (fp : List Addr) (z : Zx), DG (X.blk s H scope (compEnvC scope cl C X.env) fp) z ts tg tgt)
    (ht : ∀ (s : Shared) (H : Hp) (C : Addr) (cl : List (Str × Addr)) (fp : List Addr), PTs (X.blk s H scope (compEnvC scope cl C X.env) fp) ifs (tTx X.K X.mg t))
    (he : ∀ (s : Shared) (H : Hp) (C : Addr) (cl : List (Str × Addr)) (fp : List Addr) (z : Zx), z.W = blkW → DE (X.blk s H scope (compEnvC scope cl C X.env) fp) z elt f)
    (hs : ∀ x, foldedSetIterable iter X.env x = pure x := by intro _; rfl) : DE X z (.ListComp elt [⟨tg, iter, ifs, 0⟩] scope pos) (lcM it (own.map (·.2)) (turnM tgt t f)) :=
  PE.imp (pe_lc (g := tGx X.K ts tgt) (tt := tTx X.K X.mg t) (te := tDx X.K X.mg f) hc hN hi ok (fun s H C cl fp => pg_x (hg s H C cl fp)) ht (fun s H C cl fp => pe_x (he s H C cl fp)) hs) fun σ H Q q => tlc_of hcl hts q
theorem asg_tD {i : Nat} {D0 : Ends} (h : tS K mg z (asgM i fa) D0 σ H) : tD K mg z fa σ H fun v H1 => gName i v σ H1 D0.nx := by
  obtain ⟨S, g, s, q⟩ := h
  exact ⟨S, g, s, q.bnd.imp fun r S1 H1 g1 s1 f1 q1 v rv => GoS.set s1 rv q1⟩
theorem ds_setLc {i : Nat} {y : Str} {py spos : Pos} (hc : X.calm = true) (hN : X.N.Nodup) (hcl : Calm tgt) (hi : DI X z tg iter it) (ok : BlkOk X.N X.env.scope scope own) (hts : ∀ i ∈ ts, i ∈ own.map (·.2))
    (hg : ∀ (s : Shared) (H : Hp) (C : Addr) (cl : List (Str × Addr)) (fp : List Addr) (z : Zx), DG (X.blk s H scope (compEnvC scope cl C X.env) fp) z ts tg tgt)
    (ht : ∀ (s : Shared) (H : Hp) (C : Addr) (cl : List (Str × Addr)) (fp : List Addr), PTs (X.blk s H scope (compEnvC scope cl C X.env) fp) ifs (tTx X.K X.mg t))
    (he : ∀ (s : Shared) (H : Hp) (C : Addr) (cl : List (Str × Addr)) (fp : List Addr) (z : Zx), z.W = blkW → DE (X.blk s H scope (compEnvC scope cl C X.env) fp) z elt f)
    (hy : X.N[i]? = some y := by rfl) (hyl : X.env.scope.names.lookup y = some .local := by rfl) (hsw : swapsWith (.ListComp elt [⟨tg, iter, ifs, 0⟩] scope pos) (some (.Name y py)) spos.line X.env = pure true := by rfl)
    (hs : ∀ x, foldedSetIterable iter X.env x = pure x := by intro _; rfl) : DS X z (.Assign [.Name y py] (.ListComp elt [⟨tg, iter, ifs, 0⟩] scope pos) spos) (asgM i (lcM it (own.map (·.2)) (turnM tgt t f))) :=
  PS.imp (ps_setLc (g := tGx X.K ts tgt) (tt := tTx X.K X.mg t) (te := tDx X.K X.mg f) hc hN hy hyl hsw hi ok (fun s H C cl fp => pg_x (hg s H C cl fp)) ht (fun s H C cl fp => pe_x (he s H C cl fp)) hs) fun D0 σ H q => tlc_of hcl hts (asg_tD q)
end
end DL
end
section
set_option maxRecDepth 100000
namespace DL
open PySem PySem.Spec L2
def compL2 (turn1 : D → M (Option (List D))) (turn2 : D → M (Option D)) (env : List Slot) (vs1 : List Nat) : List D → List D → List D → Option (List D × List D)
  | [], acc, o => some (acc, o)
  | d :: ds, acc, o => match turn1 d ⟨env, o⟩ with
    | some (.ok (some ds1), S') => match compL turn2 (wipeE (S'.env.map Slot.frz) vs1) ds1 acc S'.objs with
      | some (acc', o') => compL2 turn1 turn2 env vs1 ds acc' o'
      | none => none
    | some (.ok none, S') => compL2 turn1 turn2 env vs1 ds acc S'.objs
    | _ => none
def turn1M (tgt : D → M Unit) (t : M Bool) (it1 : M (List D)) (d : D) : M (Option (List D)) := tgt d >>= fun _ => t >>= fun b => if b = true then it1 >>= fun ds => pure (some ds) else pure none
def lcM2 (it : M (List D)) (own vs1 : List Nat) (turn1 : D → M (Option (List D))) (turn2 : D → M (Option D)) : M Res := it >>= fun ds => fun S => match compL2 turn1 turn2 (wipeE (S.env.map Slot.frz) own) vs1 ds [] S.objs with
  | none => none
  | some (acc, objs') => outL acc objs' S
section
variable {X : Cx} {z : Zx} {S S' : Sx} {σ : L2.St} {H H' H0 : Hp} {g g' g2 : Gh} {v : V} {d : D} {r : Res} {K : PySem.W.Frag} {mg : Str → Option Value} {pos p : Pos} {a b c e : Expr} {fa fb fc : M Res} {i : Nat} {o : HO}
variable {tg elt iter tg1 iter1 : Expr} {ifs ifs1 : List Expr} {scope : Scope} {own : List (Str × Nat)} {it it1 : M (List D)} {tgt tgt1 : D → M Unit} {t t1 : M Bool} {f : M Res} {ts ts1 vs vs1 : List Nat}
theorem Blk.back {env env' : List Slot} {σ σ' : L2.St} {vs vs' : List Nat} {H1 : Hp} {g1 : Gh} {Dd : Addr} {acc objs acc' objs' : List D} (b : Blk K env σ vs H1 g1 Dd acc objs H g) (c : Blk K env' σ' vs' H1 g1 Dd acc' objs' H' g') (f : Fr H g H' g') : Blk K env σ vs H1 g1 Dd acc' objs' H' g' where
  inn := ⟨b.inn.len, fun i d e => let ⟨v, e1, r⟩ := b.inn.dat i d e; ⟨v, e1, r.fr f b.inn.mu⟩, c.inn.olen, c.inn.obj, c.inn.ond, c.inn.mu⟩
  keep := c.keep
  fr := c.fr
  base := c.base
  new := c.new
  lst := c.lst
  bad := c.bad
  om := c.om
end
end DL
end
section
set_option maxRecDepth 100000
namespace DLE
open PySem
open AutoSeq1 (wpAny_loadPart')
section
variable {prog : Program} {w : World} {A : Around} {E : Value → Shared → Prop} {s : Shared}
theorem en_next {en jt : Addr} {n : Nat} {u was : Value} {St : Heap → Prop} {Q : Value → Shared → Prop} (hen : IsEnum s.heap en jt n was) (apart : en ≠ jt)
    (nx : ∀ Q' : Value → Shared → Prop, (∀ k, St k → Heap.SameBut jt s.heap k → Q' u { s with heap := k }) → wpAny (model prog w) A (Builtin.SmallTypes.nextOf (.ref jt)) Q' E s)
    (stab : ∀ k k', St k → (∀ o, k.get? jt = some o → k'.get? jt = some o) → St k')
    (fin : ∀ k, IsEnumOut k en jt ((n : Int) + 1) u s.heap.objs.size → St k → k.get? s.heap.objs.size = some { cls := .type "tuple", data := .seq #[.int n s.toks, u] } → k.objs.size = s.heap.objs.size + 1 →
      (∀ b o, b ≠ en → b ≠ jt → s.heap.get? b = some o → k.get? b = some o) → Q (.ref s.heap.objs.size) { s with heap := k, toks := s.toks + 1 }) :
    wpAny (model prog w) A (Builtin.«enumerate.__next__» ⟨[.ref en], []⟩) (fun fin s' => ∃ v, fin = .done (.ret v) ∧ Q v s') E s := by
  obtain ⟨h0, gg, dd, tt, oo⟩ := s
  show wpAny _ _ (field (.ref en) 2 >>= _) _ _ _
  refine wpAny_bind (wpAny_field hen rfl (x := .ref jt) rfl (wpAny_bind (nx _ fun k1 st1 sb1 => ?_)))
  replace sb1 : Heap.SameBut jt h0 k1 := sb1
  have e1 : IsEnum k1 en jt n was := (sb1.2 en apart).trans hen
  show wpAny _ _ (field (.ref en) 3 >>= _) _ _ ⟨k1, gg, dd, tt, oo⟩
  refine wpAny_bind (wpAny_field e1 rfl (x := rawInt n) rfl ?_)
  show wpAny _ _ (field (.ref en) 4 >>= _) _ _ ⟨k1, gg, dd, tt, oo⟩
  refine wpAny_bind (wpAny_field e1 rfl (x := .none) rfl ?_)
  show wpAny _ _ (mkInt n >>= _) _ _ ⟨k1, gg, dd, tt, oo⟩
  refine wpAny_bind (wpAny_mkInt ?_)
  show wpAny _ _ (setField (.ref en) 3 (rawInt ((n : Int) + 1)) >>= _) _ _ ⟨k1, gg, dd, tt + 1, oo⟩
  refine wpAny_bind (wpAny_setField_rec e1 (by simp) fun k2 e2 sb2 => ?_)
  replace sb2 : Heap.SameBut en k1 k2 := sb2
  replace e2 : IsEnum k2 en jt ((n : Int) + 1) was := e2
  show wpAny _ _ (setField (.ref en) 4 .none >>= _) _ _ ⟨k2, gg, dd, tt + 1, oo⟩
  refine wpAny_bind (wpAny_setField_rec e2 (by simp) fun k3 e3 sb3 => ?_)
  replace sb3 : Heap.SameBut en k2 k3 := sb3
  replace e3 : IsEnum k3 en jt ((n : Int) + 1) was := e3
  show wpAny _ _ (newTuple [.int n tt, u] >>= _) _ _ ⟨k3, gg, dd, tt + 1, oo⟩
  refine wpAny_bind (wpAny_newTuple ?_)
  have e4 : IsEnum (k3.push { cls := .type "tuple", data := .seq #[.int n tt, u] }) en jt ((n : Int) + 1) was := Heap.get?_push_of_some _ e3
  generalize hk4 : k3.push { cls := .type "tuple", data := .seq #[.int n tt, u] } = k4 at e4
  have sz3 : k3.objs.size = h0.objs.size := by rw [sb3.1, sb2.1, sb1.1]
  have lt0 : en < h0.objs.size := Heap.lt_size hen
  have new4 : k4.get? h0.objs.size = some { cls := .type "tuple", data := .seq #[.int n tt, u] } := by rw [← hk4, ← sz3]; exact Heap.get?_push_size _ rfl
  have sz4 : k4.objs.size = h0.objs.size + 1 := by rw [← hk4, Heap.size_push, sz3]
  have kp4 : ∀ b o, b ≠ en → b ≠ jt → h0.get? b = some o → k4.get? b = some o := fun b o n1 n2 hb => by
    rw [← hk4]; exact Heap.get?_push_of_some _ (sb3.extBut b o n1 (sb2.extBut b o n1 (sb1.extBut b o n2 hb)))
  have st4 : St k4 := stab k1 k4 st1 fun o ho => by
    rw [← hk4]; exact Heap.get?_push_of_some _ (sb3.extBut jt o (Ne.symm apart) (sb2.extBut jt o (Ne.symm apart) ho))
  show wpAny _ _ (Builtin.SmallTypes.ownedTupleIsFree (.ref en) >>= _) _ _ ⟨k4, gg, dd, tt + 1, oo⟩
  rw [sz3]
  clear hk4 e3 sb3 e2 sb2 e1 sb1 st1 sz3 k3 k2 k1
  refine wpAny_bind ?_
  unfold Builtin.SmallTypes.ownedTupleIsFree
  refine wpAny_bind (wpAny_field e4 rfl (x := .none) rfl (wpAny_pure ?_))
  simp only [if_true]
  refine wpAny_bind (wpAny_rule (wpAny_bind (wpAny_field e4 rfl (x := was) rfl (wpAny_bind (wpAny_setField_rec e4 (by simp) fun k5 e5 sb5 => ?_)))))
  replace sb5 : Heap.SameBut en k4 k5 := sb5
  replace e5 : IsEnum k5 en jt ((n : Int) + 1) u := e5
  show wpAny _ _ (Builtin.SmallTypes.ownedTupleHandOut (.ref en) (.ref h0.objs.size) >>= _) _ _ ⟨k5, gg, dd, tt + 1, oo⟩
  refine wpAny_bind ?_
  unfold Builtin.SmallTypes.ownedTupleHandOut
  refine wpAny_bind (wpAny_setField_rec e5 (by simp) fun k6 e6 sb6 => ?_)
  replace sb6 : Heap.SameBut en k5 k6 := sb6
  replace e6 : IsEnumOut k6 en jt ((n : Int) + 1) u h0.objs.size := e6
  refine wpAny_setField_rec e6 (by simp) fun k7 e7 sb7 => ?_
  replace sb7 : Heap.SameBut en k6 k7 := sb7
  replace e7 : IsEnumOut k7 en jt ((n : Int) + 1) u h0.objs.size := e7
  have gt : h0.objs.size ≠ en := Nat.ne_of_gt lt0
  refine wpAny_bind (wpAny_letGo (wpAny_pure ⟨_, rfl, fin k7 e7 (stab k4 k7 st4 fun o ho => ?_) ?_ ?_ ?_⟩))
  · exact sb7.extBut jt o (Ne.symm apart) (sb6.extBut jt o (Ne.symm apart) (sb5.extBut jt o (Ne.symm apart) ho))
  · exact sb7.extBut _ _ gt (sb6.extBut _ _ gt (sb5.extBut _ _ gt new4))
  · rw [sb7.1, sb6.1, sb5.1, sz4]
  · exact fun b o n1 n2 hb => sb7.extBut b o n1 (sb6.extBut b o n1 (sb5.extBut b o n1 (kp4 b o n1 n2 hb)))
theorem pyNext_enT_item {en jt l : Addr} {n : Nat} {its : Array Value} {u was : Value} {Q : Option Value → Shared → Prop} (hen : IsEnum s.heap en jt n was) (hjt : s.heap.IsTupleIter jt l n) (htu : s.heap.IsTuple l its) (hu : its[n]? = some u) (apart : en ≠ jt)
    (fin : ∀ k, IsEnumOut k en jt ((n : Int) + 1) u s.heap.objs.size → k.IsTupleIter jt l (n + 1) → k.get? s.heap.objs.size = some { cls := .type "tuple", data := .seq #[.int n s.toks, u] } → k.objs.size = s.heap.objs.size + 1 →
      (∀ b o, b ≠ en → b ≠ jt → s.heap.get? b = some o → k.get? b = some o) → Q (some (.ref s.heap.objs.size)) { s with heap := k, toks := s.toks + 1 }) :
    wpAny (model prog w) A (pyNext (.ref en)) Q E s := by
  have ty : s.TypeIs (.ref en) "enumerate" := ⟨_, hen, rfl⟩
  unfold pyNext
  exact wpAny_bind (wpAny_attempt (wpAny_callSpecial?_slot (name := Str.ofString "__next__") ty F.slot_enumerate_next (wpAny_call_entry F.slot_enumerate_next ty F.entry_enumerate_next
    (en_next hen apart (St := fun k => k.IsTupleIter jt l (n + 1)) (fun Q' h => RZ.nextOf_tuple_item hjt htu hu h) (fun k k' st e => st.at e) fun k a b c d m => wpAny_pure (fin k a b c d m)) (F.args_enumerate_next_1 _))))
theorem pyNext_enT_end {en jt l : Addr} {n : Nat} {its : Array Value} {was : Value} {Q : Option Value → Shared → Prop} (calm : A.handled = none) (hen : IsEnum s.heap en jt n was) (hjt : s.heap.IsTupleIter jt l n) (htu : s.heap.IsTuple l its) (hu : its[n]? = none)
    (fin : ∀ k, Heap.ExtBut jt s.heap k → Q none { s with heap := k }) : wpAny (model prog w) A (pyNext (.ref en)) Q E s := by
  have ty : s.TypeIs (.ref en) "enumerate" := ⟨_, hen, rfl⟩
  unfold pyNext
  refine wpAny_bind (wpAny_attempt (wpAny_callSpecial?_slot (name := Str.ofString "__next__") ty F.slot_enumerate_next (wpAny_call_entry F.slot_enumerate_next ty F.entry_enumerate_next ?_ (F.args_enumerate_next_1 _))))
  show wpAny _ _ (field (.ref en) 2 >>= _) _ _ _
  refine wpAny_bind (wpAny_field hen rfl (x := .ref jt) rfl (wpAny_bind (RZ.nextOf_tuple_end calm hjt htu hu fun k x ext hx => ?_)))
  obtain ⟨o, ho, hc⟩ := hx
  exact wpAny_bind (wpAny_isInstance (T := "StopIteration") (b := true) ⟨o, ho, hc⟩ isSubtype_stop (wpAny_pure (fin _ ext)))
theorem meets_enT (l : Addr) (its : Array Value) (n : Nat) (dct : Option Addr) (sl : Array (Option Value)) :
    Meets (Builtin.«enumerate.__new__» ⟨[.type "enumerate", .ref l], []⟩) (fun _ R s => s.heap.get? l = some { cls := .type "tuple", dict := dct, data := .seq its n, slots := sl } ∧
      R (.ok (.ret (.ref (s.heap.push { cls := .type "tuple_iterator", data := .fields #[.ref l, .int 0 0] }).objs.size)))
        { s with heap := (s.heap.push { cls := .type "tuple_iterator", data := .fields #[.ref l, .int 0 0] }).push { cls := .type "enumerate", data := .fields #[.none, .bool false, .ref s.heap.objs.size, rawInt 0, .none, .none] } }) :=
  .of_wp fun prog w A R s h => by
    obtain ⟨h0, gg, dd, tt, oo⟩ := s; obtain ⟨htu, h⟩ := h
    have sub := sub_enumerate
    have hT : Heap.IsTuple (Shared.heap ⟨h0, gg, dd, tt, oo⟩) l its := ⟨_, htu, rfl, n, rfl⟩
    wp_walk using wpAny_loadPart' htu
    refine wpAny_stack_any fun st => wpAny_pure ?_
    split
    · rename_i c _ _ _ _ _
      cases (c == Value.type "enumerate")
      · wp_walk using wpAny_loadPart' htu, wpAny_pyIter_tuple hT
        exact ⟨_, rfl, h⟩
      · wp_walk using wpAny_loadPart' htu, wpAny_pyIter_tuple hT
        exact ⟨_, rfl, h⟩
    · wp_walk using wpAny_loadPart' htu, wpAny_pyIter_tuple hT
      exact ⟨_, rfl, h⟩
theorem call_enT {l : Addr} {its : Array Value} {Q : Value → Shared → Prop} (hT : s.heap.IsTuple l its)
    (h : ∀ k, IsEnum k (s.heap.objs.size + 1) s.heap.objs.size 0 .none → k.IsTupleIter s.heap.objs.size l 0 → k.objs.size = s.heap.objs.size + 2 → (∀ b o, s.heap.get? b = some o → k.get? b = some o) → Q (.ref (s.heap.objs.size + 1)) { s with heap := k }) :
    wpAny (model prog w) A (call (.type "enumerate") [.ref l]) Q E s := by
  obtain ⟨⟨c, dct, dt, sl⟩, htu, hc, n, hd⟩ := hT
  replace hc : c = .type "tuple" := hc
  replace hd : dt = .seq its n := hd
  subst hc hd
  refine callType_new F.called_enumerate (by decide) (F.typeCall_enumerate_1 _) (F.newCall_enumerate_1 _) (fun obj => F.args_object_init_2 obj _) F.entry_enumerate_new (meets_enT l its n dct sl) ⟨htu, ?_⟩
  have sz : (s.heap.push { cls := .type "tuple_iterator", data := .fields #[.ref l, .int 0 0] }).objs.size = s.heap.objs.size + 1 := Heap.size_push ..
  show _ ∧ _
  rw [sz]
  have hen : IsEnum ((s.heap.push { cls := .type "tuple_iterator", data := .fields #[.ref l, .int 0 0] }).push { cls := .type "enumerate", data := .fields #[.none, .bool false, .ref s.heap.objs.size, rawInt 0, .none, .none] }) (s.heap.objs.size + 1) s.heap.objs.size 0 .none := by
    have q := Heap.get?_push_size (s.heap.push { cls := .type "tuple_iterator", data := .fields #[.ref l, .int 0 0] }) (o := { cls := .type "enumerate", data := .fields #[.none, .bool false, .ref s.heap.objs.size, rawInt 0, .none, .none] }) rfl
    rw [sz] at q; exact q
  exact ⟨⟨_, hen, rfl⟩, h _ hen ⟨_, Heap.get?_push_of_some _ (Heap.get?_push_size _ rfl), rfl, rfl⟩ (by rw [Heap.size_push, sz]) fun b o x => Heap.get?_push_of_some _ (Heap.get?_push_of_some _ x)⟩
end
end DLE
namespace DL
open PySem PySem.Spec L2
def IteT (K : PySem.W.Frag) (a : Addr) : It :=
  ⟨fun i H => ∃ (xs : List V) (x : V), SqT K H a xs ∧ xs[i]? = some x, fun i H v H' => ∃ T x, v = .ref T ∧ H T = none ∧ H' = upd H T (.tup [.int (i : Nat), x]) ∧ ∀ xs, SqT K H a xs → xs[i]? = some x, fun i H => ∃ xs : List V, SqT K H a xs ∧ xs.length ≤ i⟩
theorem turn_enumT {P : Program} {w : World} {K : PySem.W.Frag} {elts : List Expr} {kk : Nat} {tpos : Pos} (a en jt : Addr) :
    Turn P w K (.Tuple elts kk tpos) (IteT K a) [en, jt] en (fun i h => (∃ was, IsEnum h en jt ((i : Nat) : Int) was) ∧ h.IsTupleIter jt a i ∧ en ≠ jt) where
  mem := by simp
  obj := fun i h st b hb => by
    obtain ⟨⟨was, hen⟩, ⟨o, ho, hc, hd⟩, _⟩ := st
    have two : b = en ∨ b = jt := by simpa using hb
    rcases two with q | q
    · rw [q]; exact ⟨_, hen, fun v w => nomatch w⟩
    · rw [q]; exact ⟨o, ho, fun v w => by rw [hd] at w; cases w⟩
  keep := fun i h h' st k => let ⟨⟨was, hen⟩, hj, ne⟩ := st; ⟨⟨was, k en (by simp) _ hen⟩, hj.at fun o q => k jt (by simp) o q, ne⟩
  item := by
    intro X hP hw hK hc i pins s σ H E I fp st hg
    subst hP hw hK
    obtain ⟨⟨was, hen⟩, hjt, ne⟩ := st
    obtain ⟨xs, x, sq, hx⟩ := hg
    obtain ⟨its, rv, pt, hz⟩ := I.tuple sq
    obtain ⟨u, hu, ru⟩ := rv.get hx
    have lt1 : en < s.heap.objs.size := Heap.lt_size hen
    have lt2 : jt < s.heap.objs.size := by obtain ⟨_, q, _⟩ := hjt; exact Heap.lt_size q
    refine DLE.pyNext_enT_item hen hjt pt (u := u) (by simpa using hu) ne fun k out hjt' new hsz kp => ?_
    refine ⟨_, rfl, wpAny_letOwnedTupleGo_enum (s := { s with heap := k, toks := s.toks + 1 }) out fun k2 out2 sb => ?_⟩
    have new2 : k2.get? s.heap.objs.size = some { cls := .type "tuple", data := .seq #[.int i s.toks, u] } := (sb.2 _ (Nat.ne_of_gt lt1)).trans new
    have okk : ObjOk X.prog X.w (upd H s.heap.objs.size (.tup [.int (i : Nat), x])) k2 s.heap.objs.size (.tup [.int (i : Nat), x]) :=
      ⟨by show 2 ≤ sizeLine; decide, [.int i s.toks, u], .cons ⟨_, rfl⟩ (.cons ru .nil), ⟨_, new2, rfl, _, rfl⟩⟩
    have I2 : Inv X pins σ (upd H s.heap.objs.size (.tup [.int (i : Nat), x])) { s with heap := k2, toks := s.toks + 1 } :=
      I.turnedNew (ch := [en, jt]) (fun b ob hb q => (sb.2 b (fun z => hb (by simp [z]))).trans (kp b ob (fun z => hb (by simp [z])) (fun z => hb (by simp [z])) q)) fp (Nat.le_refl _) okk
    refine ⟨.ref s.heap.objs.size, _, I2, rfl, ⟨_, x, rfl, I.hok.fresh (Nat.le_refl _), rfl, fun ys hy => by rw [I.tuple_inj hy sq]; exact hx⟩, ⟨⟨u, ?_⟩, hjt'.at fun o q => (sb.2 jt (Ne.symm ne)).trans q, ne⟩, fun b hb => ?_⟩
    · rw [show ((i + 1 : Nat) : Int) = (i : Int) + 1 by omega]; exact out2
    · have two : b = en ∨ b = jt := by simpa using hb
      have lt : b < s.heap.objs.size := two.elim (fun q => q ▸ lt1) fun q => q ▸ lt2
      rw [upd_ne (Nat.ne_of_lt lt)]
      exact (fp b hb).1
  done := by
    intro X hP hw hK hc i pins s σ H E I fp st hg
    subst hP hw hK
    obtain ⟨⟨was, hen⟩, hjt, ne⟩ := st
    obtain ⟨xs, sq, hx⟩ := hg
    obtain ⟨its, rv, pt, hz⟩ := I.tuple sq
    obtain ⟨f0, f1, f2, f3, f4, f5⟩ := fp jt (by simp)
    have hl := rv.length
    exact DLE.pyNext_enT_end (I.ok.hd hc) hen hjt pt (by simp; omega) fun k eb => ⟨rfl, I.turned (t' := s.toks) (fun b o hb q => eb b o hb q) f0 f1 f3 f4 f5⟩
  self := fun A i s Q E st h => let ⟨⟨_, he⟩, _⟩ := st; wpAny_pyIter_enum he h
def iEnumA (K : PySem.W.Frag) (ta : TA) : TI := fun σ H R => ta σ H fun vs H1 => ∃ a xs, vs = [.ref a] ∧ ((SqL K H1 a xs ∧ R (Ite K a) H1) ∨ SqT K H1 a xs ∧ R (IteT K a) H1)
theorem pi_enumA {X : Cx} {e : Expr} {ta : TA} {p pos tpos : Pos} {elts : List Expr} {kk : Nat} (hg : Gl X "enumerate") (hm : X.mg "enumerate" = none) (ha : PA X [e] ta) (hs : starEach [e] X.env = [(false, eval e X.env)] := by rfl) :
    PI X (.Tuple elts kk tpos) (.Call (.Name "enumerate" p) [e] [] pos) (iEnumA X.K ta) := by
  constructor
  intro pins s0 σ0 G0 R inv hyp
  refine PyProof.Rows.Call_ (ld_blt inv hg hm PyProof.Rows.boot_enumerate (PyProof.Rows.callWith_type1 (thn (ha.run pos pins s0 σ0 G0 _ inv hyp) ?_) hs rfl))
  rintro us s1 ⟨vs, H1, I1, r1, a, xs, rfl, alt⟩
  cases r1 with
  | cons r rr =>
    cases rr
    cases r
    have fp : ∀ b ∈ [s1.heap.objs.size + 1, s1.heap.objs.size], FpOk X pins H1 b := fun b hb => by
      have le : s1.heap.objs.size ≤ b := by
        rcases (show b = s1.heap.objs.size + 1 ∨ b = s1.heap.objs.size by simpa using hb) with q | q <;> omega
      exact I1.fpOk le (I1.hok.fresh le)
    rcases alt with ⟨sq, q⟩ | ⟨sq, q⟩
    · obtain ⟨its, rv, pl, hz⟩ := I1.list sq
      exact call_enumerate_list pl.isList fun k hen hit hsz hk => wpAny_pyIter_enum hen ⟨s1.heap.objs.size + 1, [s1.heap.objs.size + 1, s1.heap.objs.size], _, _, H1, rfl, I1.kept (t' := s1.toks) hk, turn_enum a _ _, ⟨⟨.none, hen⟩, hit, Nat.succ_ne_self _⟩, fp, q⟩
    · obtain ⟨its, rv, pl, hz⟩ := I1.tuple sq
      exact DLE.call_enT (show s1.heap.IsTuple a its.toArray from pl) fun k hen hit hsz hk => wpAny_pyIter_enum hen ⟨s1.heap.objs.size + 1, [s1.heap.objs.size + 1, s1.heap.objs.size], _, _, H1, rfl, I1.kept (t' := s1.toks) hk, turn_enumT a _ _, ⟨⟨.none, hen⟩, hit, Nat.succ_ne_self _⟩, fp, q⟩
section
variable {X : Cx} {z : Zx} {S S' : Sx} {σ : L2.St} {H H' H0 : Hp} {g g' g2 : Gh} {v : V} {d : D} {r : Res} {K : PySem.W.Frag} {mg : Str → Option Value} {pos p tpos : Pos} {a b c e : Expr} {fa fb fc : M Res} {elts : List Expr} {kk : Nat}
def enumD : Nat → List D → List D
  | _, [] => []
  | n, d :: ds => .tup [.int n, d] :: enumD (n + 1) ds
theorem enumD_len : ∀ (n : Nat) (ds : List D), (enumD n ds).length = ds.length
  | _, [] => rfl
  | n, d :: ds => congrArg Nat.succ (enumD_len (n + 1) ds)
theorem enumD_get : ∀ (n : Nat) (ds : List D) (i : Nat), (enumD n ds)[i]? = ds[i]?.map fun d => .tup [.int ((n + i : Nat) : Int), d]
  | _, [], i => by simp [enumD]
  | n, d :: ds, 0 => by simp [enumD]
  | n, d :: ds, i + 1 => by
    show (enumD (n + 1) ds)[i]? = _
    rw [enumD_get (n + 1) ds i, List.getElem?_cons_succ, show n + 1 + i = n + (i + 1) by omega]
theorem ite_ok {ad : Addr} {xs : List V} {ds : List D} (hq : ∀ H1 g1, Fr H g H1 g1 → SqL K H1 ad xs) (r : RpA K H g xs ds) (m : Mu H g) : ItOk K (Ite K ad) (enumD 0 ds) H g where
  go := fun i d H1 g1 f e => by
    rw [enumD_get] at e
    obtain ⟨d', e1, e2⟩ := Option.map_eq_some_iff.mp e
    obtain ⟨w, e3, _⟩ := r.get e1
    exact ⟨xs, w, hq _ _ f, e3⟩
  yld := fun i d H1 g1 x H2 f m1 e y => by
    rw [enumD_get] at e
    obtain ⟨d', e1, rfl⟩ := Option.map_eq_some_iff.mp e
    obtain ⟨w, e3, rw⟩ := r.get e1
    obtain ⟨T, x', rfl, hT, rfl, y⟩ := y
    have := y xs (hq _ _ f)
    rw [e3] at this; cases this
    exact ⟨.inr ⟨T, _, hT, rfl⟩, .tup upd_same (.cons (by rw [Nat.zero_add]; exact .int _) (.cons ((rw.fr f m).fr (Fr.upd_new hT) m1) .nil))⟩
  stop := fun H1 g1 f => ⟨xs, hq _ _ f, by rw [r.length, enumD_len]; exact Nat.le_refl _⟩
theorem iteT_ok {ad : Addr} {xs : List V} {ds : List D} (hq : ∀ H1 g1, Fr H g H1 g1 → SqT K H1 ad xs) (r : RpA K H g xs ds) (m : Mu H g) : ItOk K (IteT K ad) (enumD 0 ds) H g where
  go := fun i d H1 g1 f e => by
    rw [enumD_get] at e
    obtain ⟨d', e1, e2⟩ := Option.map_eq_some_iff.mp e
    obtain ⟨w, e3, _⟩ := r.get e1
    exact ⟨xs, w, hq _ _ f, e3⟩
  yld := fun i d H1 g1 x H2 f m1 e y => by
    rw [enumD_get] at e
    obtain ⟨d', e1, rfl⟩ := Option.map_eq_some_iff.mp e
    obtain ⟨w, e3, rw⟩ := r.get e1
    obtain ⟨T, x', rfl, hT, rfl, y⟩ := y
    have := y xs (hq _ _ f)
    rw [e3] at this; cases this
    exact ⟨.inr ⟨T, _, hT, rfl⟩, .tup upd_same (.cons (by rw [Nat.zero_add]; exact .int _) (.cons ((rw.fr f m).fr (Fr.upd_new hT) m1) .nil))⟩
  stop := fun H1 g1 f => ⟨xs, hq _ _ f, by rw [r.length, enumD_len]; exact Nat.le_refl _⟩
def enumI (f : M Res) : M (List D) := f >>= fun r => useM r >>= fun d => M.opt d.items fun ds => pure (enumD 0 ds)
theorem di_enum (hg : Gl X "enumerate") (hm : X.mg "enumerate" = none) (ha : DE X z a fa) (h1 : starEach [a] X.env = (false, eval a X.env) :: starEach [] X.env := by rfl) (hs : starEach [a] X.env = [(false, eval a X.env)] := by rfl) :
    DI X z (.Tuple elts kk tpos) (.Call (.Name "enumerate" p) [a] [] pos) (enumI fa) :=
  PI.imp (pi_enumA hg hm (pa_cons ha pa_nil h1) hs) fun σ H R ⟨S, g, s, q⟩ => ⟨S, g, s, q.bnd.imp fun r S1 H1 g1 s1 f1 q1 v rv => by
    obtain ⟨S2, g2, s2, f2, rp, q2⟩ := q1.use s1 rv
    obtain ⟨ds, e, q3⟩ := q2.opt
    have q4 := q3.pure s2
    cases hd : r.d <;> rw [hd] at e rp <;> simp [D.items] at e
    · subst e
      obtain ⟨ad, xs, rfl, hx, rx⟩ := Pk.tup (.inl rp)
      exact ⟨ad, xs, rfl, .inr ⟨SqT.of hx, q4 _ (iteT_ok (fun H1 g1 f => SqT.of (f.tup s2.mu hx)) rx s2.mu)⟩⟩
    · subst e
      cases rp with
      | lst hx hb rx => exact ⟨_, _, rfl, .inl ⟨SqL.of hx, q4 _ (ite_ok (fun H1 g1 f => SqL.of (f.keep _ _ hx hb).1) rx s2.mu)⟩⟩
    · subst e
      cases rp with
      | rol hx rx => exact ⟨_, _, rfl, .inl ⟨hx.sq, q4 _ (ite_ok (fun H1 g1 f => (f.rol s2.mu hx).sq) rx s2.mu)⟩⟩⟩
def zipD : List D → List D → List D
  | x :: xs, y :: ys => .tup [x, y] :: zipD xs ys
  | _, _ => []
theorem zipD_get : ∀ (xs ys : List D) (i : Nat) (d : D), (zipD xs ys)[i]? = some d → ∃ x y, xs[i]? = some x ∧ ys[i]? = some y ∧ d = .tup [x, y]
  | [], _, i, d, e => by simp [zipD] at e
  | _ :: _, [], i, d, e => by simp [zipD] at e
  | x :: xs, y :: ys, 0, d, e => by simp [zipD] at e; exact ⟨x, y, rfl, rfl, e.symm⟩
  | x :: xs, y :: ys, i + 1, d, e => by
    obtain ⟨x', y', h⟩ := zipD_get xs ys i d (by simpa [zipD] using e)
    exact ⟨x', y', by simpa using h⟩
theorem zipD_len : ∀ xs ys : List D, xs.length ≤ (zipD xs ys).length ∨ ys.length ≤ (zipD xs ys).length
  | [], _ => .inl (Nat.zero_le _)
  | _ :: _, [] => .inr (Nat.zero_le _)
  | x :: xs, y :: ys => (zipD_len xs ys).imp Nat.succ_le_succ Nat.succ_le_succ
theorem itz_ok {a b : Addr} {xs ys : List V} {ds es : List D} (hx : ∀ H1 g1, Fr H g H1 g1 → SqL K H1 a xs) (hy : ∀ H1 g1, Fr H g H1 g1 → SqL K H1 b ys) (rx : RpA K H g xs ds) (ry : RpA K H g ys es) (m : Mu H g) : ItOk K (Itz K a b) (zipD ds es) H g where
  go := fun i d H1 g1 f e => by
    obtain ⟨x, y, e1, e2, rfl⟩ := zipD_get _ _ _ _ e
    obtain ⟨w, e3, _⟩ := rx.get e1
    obtain ⟨u, e4, _⟩ := ry.get e2
    exact ⟨xs, ys, w, u, hx _ _ f, hy _ _ f, e3, e4⟩
  yld := fun i d H1 g1 x H2 f m1 e yl => by
    obtain ⟨x, y, e1, e2, rfl⟩ := zipD_get _ _ _ _ e
    obtain ⟨w, e3, r3⟩ := rx.get e1
    obtain ⟨u, e4, r4⟩ := ry.get e2
    obtain ⟨T, x', y', rfl, hT, rfl, q1, q2⟩ := yl
    have := q1 xs (hx _ _ f)
    rw [e3] at this; cases this
    have := q2 ys (hy _ _ f)
    rw [e4] at this; cases this
    exact ⟨.inr ⟨T, _, hT, rfl⟩, .tup upd_same (.cons ((r3.fr f m).fr (Fr.upd_new hT) m1) (.cons ((r4.fr f m).fr (Fr.upd_new hT) m1) .nil))⟩
  stop := fun H1 g1 f => ⟨xs, ys, hx _ _ f, hy _ _ f, by rw [rx.length, ry.length]; exact zipD_len _ _⟩
theorem itzT_ok {a b : Addr} {xs ys : List V} {ds es : List D} (hx : ∀ H1 g1, Fr H g H1 g1 → SqT K H1 a xs) (hy : ∀ H1 g1, Fr H g H1 g1 → SqT K H1 b ys) (rx : RpA K H g xs ds) (ry : RpA K H g ys es) (m : Mu H g) : ItOk K (RZ.ItzT K a b) (zipD ds es) H g where
  go := fun i d H1 g1 f e => by
    obtain ⟨x, y, e1, e2, rfl⟩ := zipD_get _ _ _ _ e
    obtain ⟨w, e3, _⟩ := rx.get e1
    obtain ⟨u, e4, _⟩ := ry.get e2
    exact ⟨xs, ys, w, u, hx _ _ f, hy _ _ f, e3, e4⟩
  yld := fun i d H1 g1 x H2 f m1 e yl => by
    obtain ⟨x, y, e1, e2, rfl⟩ := zipD_get _ _ _ _ e
    obtain ⟨w, e3, r3⟩ := rx.get e1
    obtain ⟨u, e4, r4⟩ := ry.get e2
    obtain ⟨T, x', y', rfl, hT, rfl, q1, q2⟩ := yl
    have := q1 xs (hx _ _ f)
    rw [e3] at this; cases this
    have := q2 ys (hy _ _ f)
    rw [e4] at this; cases this
    exact ⟨.inr ⟨T, _, hT, rfl⟩, .tup upd_same (.cons ((r3.fr f m).fr (Fr.upd_new hT) m1) (.cons ((r4.fr f m).fr (Fr.upd_new hT) m1) .nil))⟩
  stop := fun H1 g1 f => ⟨xs, ys, hx _ _ f, hy _ _ f, by rw [rx.length, ry.length]; exact zipD_len _ _⟩
end
end DL
end
section
set_option maxRecDepth 100000
namespace DLE
open PySem
open AutoSeq1
end DLE
namespace DL
open PySem PySem.Spec L2
section
variable {X : Cx} {z : Zx} {S S' : Sx} {σ : L2.St} {H H' H0 : Hp} {g g' g2 : Gh} {v : V} {d : D} {r : Res} {K : PySem.W.Frag} {mg : Str → Option Value} {pos p px apos : Pos} {a b c e : Expr} {fa fb fc : M Res} {i : Nat} {x : Str}
def opExtA : D → D → Option (D × D)
  | .lst ds, .lst es => if ds.length + es.length ≤ sizeLine then some (.non, .lst (ds ++ es)) else Option.none
  | .lst ds, .tup es => if ds.length + es.length ≤ sizeLine then some (.non, .lst (ds ++ es)) else Option.none
  | _, _ => Option.none
end
end DL
end
section
set_option maxRecDepth 100000
namespace DLE
open PySem L2
open PyProof.Rows (firstMet firstMet_succ firstMet_length_le step_any step_length IntsAre)
section
variable {prog : Program} {w : World} {A : Around} {E : Value → Shared → Prop} {s : Shared}
def SetIs (w : World) (h : Heap) (p : Addr) (ns : List Int) : Prop := ∃ c, c ≤ ns.length ∧ SetR w h p (fun j => decide (j ∈ ns)) c
def emptyO (w : World) : Obj := { cls := .type "set", dict := none, data := .set #[] 0 (.fresh 0 0 (!w.params.followText "set-order")) }
theorem init_set {A : Around} {p l : Addr} {xs : Array Value} {ns : List Int} {s : Shared} {R : Result → Shared → Prop} (free : A.handled = none) (hp : s.heap.get? p = some (emptyO w)) (hl : s.heap.IsList l xs) (ne : l ≠ p) (nsI : IntsAre xs.toList ns) (few : ns.length + 1 < scanBound)
    (q : ∀ h tk, SetIs w h p ns → (∀ b o, b ≠ p → s.heap.get? b = some o → h.get? b = some o) → R (.ok (.ret .none)) { s with heap := h, toks := tk }) : codeAny (model prog w) A (.call (.builtin "set.__init__") ⟨[.ref p, .ref l], []⟩) R s := by
  refine codeAny_call_builtin F.called_set.init.plain F.entry_set_init (check_set_init_1 ⟨_, hp, rfl⟩ ?_)
  have ct : xs.size = ns.length := by rw [← Array.length_toList]; exact IntsAre.length nsI
  have is2 := id hl
  rcases hl with ⟨⟨k, dd, dat, sl⟩, at_, k1, m, k2⟩
  obtain rfl : k = Value.type "list" := k1
  obtain rfl : dat = Data.seq xs m := k2
  have u1 := F.sub_list_set; have u2 := F.sub_list_frozenset
  have u3 : (Value.type "list" == Value.type "dict") = false := by decide
  unfold Builtin.«set.__init__» noKeywords
  unfold Builtin.Frozenset.updateFrom
  generalize hit : pyIter = it
  wp_walk
  subst hit
  have lp : p < s.heap.objs.size := Heap.lt_size hp
  have ll : l < s.heap.objs.size := Heap.lt_size at_
  have calm : A.in1.in1.handled = none := by simp [free]
  have off : p ∉ [s.heap.objs.size, l] := by simp [Nat.ne_of_lt lp, Ne.symm ne]
  refine wpAny_pyIter_list is2 (wpAny_bind (wpAny_runValue (L2.set_update_ints ((Walks.list calm s.heap.objs.size l (Nat.ne_of_lt ll) xs).toS) p off ns ct few (fun i v e => ?_) xs.size 0 _ rfl (Nat.zero_le _) ⟨⟨_, Heap.get?_push_size _ rfl, rfl, rfl⟩, is2.push _⟩ ⟨0, Nat.le_refl 0, setR_new_at (Heap.get?_push_of_some _ hp)⟩ fun t c mv le R => ?_)))
  · obtain ⟨tk, rfl⟩ := IntsAre.int_at nsI i v (by rw [Array.getElem?_toList]; exact e)
    have hi : i < ns.length := ct ▸ (Array.getElem?_eq_some_iff.mp e).1
    exact ⟨ns[i], tk, List.getElem?_eq_getElem hi, by rw [List.getD_eq_getElem?_getD, List.getElem?_eq_getElem hi]; rfl⟩
  · rcases t with ⟨th, tg, td, tt, to⟩
    have e1 : tg = s.gens := mv.gens
    have e2 : td = s.drawn := mv.drawn
    have e3 : to = s.os := mv.os
    subst e1 e2 e3
    refine wpAny_pure ((wpAny_pure (q th tt ⟨c, ct ▸ le, R⟩ fun b o nb e => mv.heap b o ?_ (Heap.get?_push_of_some _ e)) : wpAny _ _ (ret Value.none) _ _ _))
    simp [nb, Nat.ne_of_lt (Heap.lt_size e)]
set_option maxHeartbeats 3200000 in
theorem call_setI {l : Addr} {xs : Array Value} {ns : List Int} {Q : Value → Shared → Prop} (free : A.handled = none) (hl : s.heap.IsList l xs) (nsI : IntsAre xs.toList ns) (few : ns.length + 1 < scanBound)
    (q : ∀ h tk, SetIs w h s.heap.objs.size ns → (∀ b o, s.heap.get? b = some o → h.get? b = some o) → Q (.ref s.heap.objs.size) { s with heap := h, toks := tk }) : wpAny (model prog w) A (call (Value.type "set") [Value.ref l]) Q E s := by
  obtain ⟨c0, tail, way⟩ := F.called_set.mro
  have f1 := F.called_set.made; have f2 := F.called_set.sub; have f3 := F.called_set.notType; have f4 := F.called_set.canCreate
  have f5 := F.typeCall_set_1 (.ref l); have f6 := F.called_set.init.lookup; have f7 := F.called_set.init.bind (.ref s.heap.objs.size)
  have at0 : (s.heap.push (emptyO w)).get? s.heap.objs.size = some (emptyO w) := Heap.get?_push_size _ rfl
  have isS : Shared.TypeIs { s with heap := s.heap.push (emptyO w) } (.ref s.heap.objs.size) "set" := ⟨_, at0, rfl⟩
  have lt : l < s.heap.objs.size := let ⟨_, e, _⟩ := hl; Heap.lt_size e
  refine wpAny_call (codeAny_of_tree (?_ : wpAny _ _ (callAny (Value.type "set") _) _ _ _))
  refine wpAny_pure ⟨Code.quiet_builtin _ (by decide +kernel), codeAny_builtin F.entry_type_call (?_ : wpAny _ _ _ _ _ _)⟩
  rw [Around.under_plain (weight_type_call_type "set" [Value.ref l] []) rfl]
  repeat any_goals first | assumption | wp_step
  refine codeAny_mono (L2.code_set_led1 (.ref l) (E := E) (Q₁ := fun r t => r = .ref s.heap.objs.size ∧ t = { s with heap := s.heap.push (emptyO w) }) ⟨rfl, rfl⟩) fun r t made => ?_
  rcases r with err | (_ | _ | _ | u)
  all_goals first | exact made | exact made.elim | skip
  obtain ⟨rfl, rfl⟩ := made
  repeat any_goals first | assumption | wp_step
  refine init_set (by simp [free]) at0 (hl.push _) (Nat.ne_of_lt lt) nsI few fun h tk R kp => ?_
  repeat any_goals first | assumption | wp_step
  exact q h tk R fun b o e => kp b o (Nat.ne_of_lt (Heap.lt_size e)) (Heap.get?_push_of_some _ e)
end
end DLE
namespace DL
open PySem PySem.Spec L2
def rSetI (K : PySem.W.Frag) (w : World) : List V → Hp → VK → Prop := fun vs H Q => ∃ (a : Addr) (ns : List Int), vs = [V.ref a] ∧ SqL K H a (ns.map V.int) ∧ ns.length + 1 < scanBound ∧
  ∀ (p : Addr) (T : Int → Bool) (n : Nat), H p = none → (∀ k, T k = true ↔ k ∈ ns) → (∃ l : List Int, l.Nodup ∧ (∀ k, k ∈ l ↔ k ∈ ns) ∧ l.length = n) → Q (.ref p) (upd H p (SetO w p T n))
section
variable {X : Cx} {z : Zx} {S S' : Sx} {σ : L2.St} {H H' H0 : Hp} {g g' g2 : Gh} {v : V} {d : D} {r : Res} {K : PySem.W.Frag} {mg : Str → Option Value} {pos p pos2 p2 : Pos} {a b c e : Expr} {fa fb fc : M Res}
theorem setR_count {w : World} {h : Heap} {p : Addr} {ns : List Int} {c : Nat} (R : SetR w h p (fun j => decide (j ∈ ns)) c) : ∃ l : List Int, l.Nodup ∧ (∀ k, k ∈ l ↔ k ∈ ns) ∧ l.length = c := by
  obtain ⟨_, es, _, _, _, _, _, _, nd, mem, _, _, n, _⟩ := R
  exact ⟨es.toList.map L2.keyOf, nd, fun k => by rw [← mem, decide_eq_true_iff], by rw [List.length_map, Array.length_toList, n]⟩
theorem cr_setI (hc : X.calm = true) : CallR X (.type "set") (rSetI X.K X.w) := fun pins s σ H vs us Q I r ⟨a, ns, ev, sq, few, q⟩ => by
  subst ev
  obtain ⟨its, rv, pl, _⟩ := I.list sq
  rw [Vals.ref1 r]
  refine DLE.call_setI (I.ok.hd hc) pl.isList rv.ints few fun h tk ⟨c, le, R⟩ kp => ?_
  have fresh : H s.heap.objs.size = none := I.hok.fresh (Nat.le_refl _)
  refine ⟨.ref _, upd H s.heap.objs.size (SetO X.w s.heap.objs.size _ c), I.laid (t' := tk) kp (Nat.le_refl _) (setO_new R), rfl, q _ _ _ fresh (fun k => decide_eq_true_iff) ?_⟩
  exact setR_count R
def insS (x : Int) : List Int → List Int
  | [] => [x]
  | y :: r => if x < y then x :: y :: r else if x = y then y :: r else y :: insS x r
def sortS (ns : List Int) : List Int := ns.foldr insS []
theorem insS_mem (x k : Int) : ∀ l : List Int, k ∈ insS x l ↔ k = x ∨ k ∈ l
  | [] => by simp [insS]
  | y :: r => by
    unfold insS
    by_cases h : x < y
    · rw [if_pos h, List.mem_cons]
    · rw [if_neg h]
      by_cases h2 : x = y
      · rw [if_pos h2, h2]; simp
      · rw [if_neg h2, List.mem_cons, insS_mem x k r, List.mem_cons]
        constructor
        · rintro (h | h | h)
          · exact .inr (.inl h)
          · exact .inl h
          · exact .inr (.inr h)
        · rintro (h | h | h)
          · exact .inr (.inl h)
          · exact .inl h
          · exact .inr (.inr h)
theorem insS_up (x : Int) : ∀ l : List Int, l.Pairwise (· < ·) → (insS x l).Pairwise (· < ·)
  | [], _ => by simp [insS]
  | y :: r, h => by
    obtain ⟨h1, h2⟩ := List.pairwise_cons.mp h
    unfold insS
    by_cases c : x < y
    · rw [if_pos c]
      refine List.pairwise_cons.mpr ⟨fun k hk => ?_, h⟩
      rcases List.mem_cons.mp hk with rfl | hk
      · exact c
      · have := h1 k hk; omega
    · rw [if_neg c]
      by_cases c2 : x = y
      · rw [if_pos c2]; exact h
      · rw [if_neg c2]
        refine List.pairwise_cons.mpr ⟨fun k hk => ?_, insS_up x r h2⟩
        rcases (insS_mem x k r).mp hk with rfl | hk
        · omega
        · exact h1 k hk
theorem sortS_mem (k : Int) : ∀ ns : List Int, k ∈ sortS ns ↔ k ∈ ns
  | [] => by simp [sortS]
  | x :: r => by
    show k ∈ insS x (sortS r) ↔ _
    rw [insS_mem, sortS_mem k r, List.mem_cons]
theorem sortS_up : ∀ ns : List Int, (sortS ns).Pairwise (· < ·)
  | [] => List.Pairwise.nil
  | x :: r => insS_up x _ (sortS_up r)
theorem up_unique : ∀ {l m : List Int}, l.Pairwise (· < ·) → m.Pairwise (· < ·) → (∀ k, k ∈ l ↔ k ∈ m) → l = m
  | [], [], _, _, _ => rfl
  | [], y :: m, _, _, h => by have := (h y).mpr List.mem_cons_self; simp at this
  | x :: l, [], _, _, h => by have := (h x).mp List.mem_cons_self; simp at this
  | x :: l, y :: m, h1, h2, h => by
    obtain ⟨a1, a2⟩ := List.pairwise_cons.mp h1
    obtain ⟨b1, b2⟩ := List.pairwise_cons.mp h2
    have e : x = y := by
      rcases List.mem_cons.mp ((h x).mp List.mem_cons_self) with e | e
      · exact e
      · rcases List.mem_cons.mp ((h y).mpr List.mem_cons_self) with e2 | e2
        · exact e2.symm
        · have := a1 y e2; have := b1 x e; omega
    subst e
    congr 1
    refine up_unique a2 b2 fun k => ⟨fun hk => ?_, fun hk => ?_⟩
    · rcases List.mem_cons.mp ((h k).mp (List.mem_cons_of_mem _ hk)) with e | e
      · have := a1 k hk; omega
      · exact e
    · rcases List.mem_cons.mp ((h k).mpr (List.mem_cons_of_mem _ hk)) with e | e
      · have := b1 k hk; omega
      · exact e
theorem up_nodup {l : List Int} (h : l.Pairwise (· < ·)) : l.Nodup := h.imp fun q e => by omega
theorem nodup_len : ∀ {l m : List Int}, l.Nodup → m.Nodup → (∀ k, k ∈ l ↔ k ∈ m) → l.length = m.length := by
  intro l m h1 h2 h
  exact ((List.perm_ext_iff_of_nodup h1 h2).mpr h).length_eq
def opSortSet (d : D) : M Res := M.opt (d.lis.bind D.ints?) fun ns => M.need (decide (ns.length + 1 < scanBound) && decide ((sortS ns).length < 64)) (pure (.new (.lst ((sortS ns).map .int))))
theorem RpA.of_ints : ∀ ns : List Int, RpA K H g (ns.map V.int) (ns.map .int)
  | [] => .nil
  | n :: r => .cons (.int n) (RpA.of_ints r)
end
end DL
end
section
set_option maxRecDepth 100000
namespace DL
open PySem PySem.Spec L2
open PySem.W (dataLe AllAlike Sortable EachIs)
open PySem.W (alike alikeAll dataLt)
section
variable {X : Cx} {z : Zx} {S S' : Sx} {σ : L2.St} {H H' H0 : Hp} {g g' g2 : Gh} {v : V} {d : D} {r : Res} {K : PySem.W.Frag} {mg : Str → Option Value} {pos p pos2 p2 : Pos} {a b c e : Expr} {fa fb fc : M Res}
theorem each_vals {β : Type} {f : β → V} : ∀ {bs : List β} {us : List Value}, Vals (bs.map f) us → EachIs (fun v b => RelV (f b) v) us bs
  | [], _, .nil => .nil
  | b :: bs, _, .cons h t => .cons h (each_vals t)
theorem vals_each {β : Type} {f : β → V} : ∀ {bs : List β} {us : List Value}, EachIs (fun v b => RelV (f b) v) us bs → Vals (bs.map f) us
  | [], _, .nil => .nil
  | b :: bs, _, .cons h t => .cons h (vals_each t)
theorem each_and {α β : Type} {R T : α → β → Prop} : ∀ {us : List α} {bs : List β}, EachIs R us bs → (∀ u b, b ∈ bs → R u b → T u b) → EachIs T us bs
  | _, _, .nil, _ => .nil
  | _, _, .cons h t, f => .cons (f _ _ List.mem_cons_self h) (each_and t fun u b m => f u b (List.mem_cons_of_mem _ m))
def D.pyD (d : D) : PyData := d.py.getD .none
def D.lt (d e : D) : Bool := dataLt d.pyD e.pyD
def sortD (ds : List D) : List D := ds.mergeSort fun x y => !D.lt y x
def noTup : PyData → Bool
  | .none => false
  | .tuple _ => false
  | _ => true
theorem RpA.mem_zip : ∀ {vs : List V} {ds : List D} {b : V × D}, RpA K H g vs ds → b ∈ vs.zip ds → Rp K H g b.1 b.2 ∧ b.2 ∈ ds
  | _, _, _, .nil, h => by simp at h
  | _, _, b, .cons r t, h => by
    rw [List.zip_cons_cons] at h
    rcases List.mem_cons.mp h with rfl | h
    · exact ⟨r, List.mem_cons_self⟩
    · have := RpA.mem_zip t h
      exact ⟨this.1, List.mem_cons_of_mem _ this.2⟩
theorem RpA.of_pairs : ∀ {bs : List (V × D)}, (∀ b ∈ bs, Rp K H g b.1 b.2) → RpA K H g (bs.map (·.1)) (bs.map (·.2))
  | [], _ => .nil
  | b :: bs, h => .cons (h b List.mem_cons_self) (RpA.of_pairs fun c m => h c (List.mem_cons_of_mem _ m))
theorem zip_map1 : ∀ {vs : List V} {ds : List D}, vs.length = ds.length → (vs.zip ds).map (·.1) = vs ∧ (vs.zip ds).map (·.2) = ds
  | [], [], _ => ⟨rfl, rfl⟩
  | v :: vs, d :: ds, h => by
    obtain ⟨h1, h2⟩ := zip_map1 (vs := vs) (ds := ds) (by simpa using h)
    rw [List.zip_cons_cons, List.map_cons, List.map_cons, h1, h2]
    exact ⟨rfl, rfl⟩
  | [], _ :: _, h => by simp at h
  | _ :: _, [], h => by simp at h
def opSortedD : D → M Res
  | .dct false ks _ => M.opt (D.ints? ks) fun ns => M.need (decide (ns.length < 64) && decide ns.Nodup) (pure (.new (.lst ((sortS ns).map .int))))
  | _ => M.no
theorem ints_keys {kvs : List (Key × V)} {ns : List Int} (e : D.ints? (kvs.map fun p => kD p.1) = some ns) : kvs.map (·.1) = ns.map Sum.inl := by
  have := ints?_of e
  have h : ∀ (l : List Key) (ns : List Int), l.map kD = ns.map D.int → l = ns.map Sum.inl := by
    intro l
    induction l with
    | nil => intro ns h; cases ns with
      | nil => rfl
      | cons n r => simp at h
    | cons k l ih => intro ns h; cases ns with
      | nil => simp at h
      | cons n r =>
        rw [List.map_cons, List.map_cons] at h
        injection h with h1 h2
        rw [List.map_cons, ← ih r h2]
        congr 1
        cases k with
        | inl i => simp [kD] at h1; rw [h1]
        | inr x => simp [kD] at h1
  exact h _ _ (by rw [List.map_map]; exact this)
theorem perm_up {l m : List Int} (p : l.Perm m) (h : l.Pairwise (· ≤ ·)) (nd : m.Nodup) : l = sortS m := by
  have nl : l.Nodup := p.nodup_iff.mpr nd
  refine up_unique (lt_of_le_nodup l h nl) (sortS_up m) fun k => by rw [p.mem_iff, sortS_mem]
theorem dp_depth_ints : ∀ ns : List Int, PyData.depthAll (ns.map .int) = 0
  | [] => by simp [PyData.depthAll]
  | n :: r => by rw [List.map_cons]; simp [PyData.depthAll, PyData.depth, dp_depth_ints r]
def dnewM (t : Bool) : M Res := pure (.new (.dct t [] []))
theorem de_dnewK : DE X z (.Dict [] [] pos) (dnewM false) := PE.imp pe_dnewK fun σ H Q ⟨S, g, s, h⟩ => out_dct s [] .nil h
theorem de_dnewT : DE X z (.Dict [] [] pos) (dnewM true) := PE.imp pe_dnewN fun σ H Q ⟨S, g, s, h⟩ => out_dctN s h
end
end DL
end
section
set_option maxRecDepth 100000
namespace DL
open PySem PySem.Spec L2
section
variable {X : Cx} {z : Zx} {S S' : Sx} {σ : L2.St} {H H' H0 : Hp} {g g' g2 : Gh} {v : V} {d : D} {r : Res} {K : PySem.W.Frag} {mg : Str → Option Value} {pos p px pos2 p2 : Pos} {a b c e : Expr} {fa fb fc : M Res} {i j l : Nat} {x y w : Str}
def peekM : D → M D
  | .obj n => fun S => (S.objs[n]?).map fun e => (.ok e, S)
  | d => pure d
theorem Go.peek {α : Type} {k : D → M α} {P : α → Sx → Hp → Gh → Prop} (s : SR K z S σ H g) (p : Pk K H g v d) (h : Go K mg z (peekM d >>= k) S σ H g P) : ∃ e, Pk K H g v e ∧ Go K mg z (k e) S σ H g P := by
  by_cases q : ∃ n, d = .obj n
  · obtain ⟨n, rfl⟩ := q
    cases e : S.objs[n]? with
    | none =>
      have h := h.bnd
      unfold Go peekM at h
      simp only [e, Option.map_none] at h
    | some o =>
      have : ∃ ad, v = .ref ad ∧ g.om[n]? = some ad := by
        rcases p with p | ⟨ad, rfl, p⟩
        · cases p with | obj h => exact ⟨_, rfl, h⟩
        · cases p
      obtain ⟨ad, rfl, ho⟩ := this
      exact ⟨o, .inr ⟨ad, rfl, (s.obj n ad o ho e).1⟩, Go.ok (by show (S.objs[n]?).map _ = _; rw [e]; rfl) h.bnd s (Fr.refl _ _)⟩
  · have : peekM d = (Pure.pure d : M D) := by
      cases d <;> first | rfl | exact absurd ⟨_, rfl⟩ q
    rw [this] at h
    exact ⟨d, p, h.bnd.pure s⟩
def binMO (op : D → D → M Res) (fa fb : M Res) : M Res := fa >>= fun ra => fb >>= fun rb => chkM ra.hold >>= fun _ => peekM ra.hold.d >>= fun d => op d rb.d
theorem de_binO {e : Expr} {r : R2} {op : D → D → M Res} {fa fb : M Res} (hd : OpD X z r op) (pe : PE X e (tOp r (tD X.K X.mg z fa) (tD X.K X.mg z fb))) : DE X z e (binMO op fa fb) := by
  refine PE.imp pe fun σ H Q ⟨S, g, s, h⟩ => ?_
  refine ⟨S, g, s, h.bnd.imp fun ra S1 H1 g1 s1 f1 h1 x rx => ?_⟩
  obtain ⟨g2, s2, f2, rx2⟩ := s1.hold rx
  refine ⟨S1, g2, s2, (h1.at f2).bnd.imp fun rb S3 H3 g3 s3 f3 h3 y ry => ?_⟩
  obtain ⟨rx3, h4⟩ := Go.chk s2 s3 f3 (by cases ra <;> rfl) rx2 h3
  obtain ⟨dx, px, h5⟩ := h4.peek s3 (s3.pk rx3)
  exact hd S3 σ H3 g3 x y _ _ Q s3 px (s3.pk ry) h5
theorem de_ixO (hu : X.A.units + 65 < cLine) (ha : DE X z a fa) (hb : DE X z b fb) (hs : PlainIx b := by exact fun _ _ => rfl) : DE X z (.Subscript a b pos) (binMO opIx fa fb) := de_binO od_ix (pe_ix (ix_any hu) ha hb hs)
theorem isInt_pk {n : Int} (p : Pk K H g v d) (e : d.isInt = some n) : v = .int n := Pk.isInt p e
def rGetA (K : PySem.W.Frag) : V → V → Hp → VK → Prop := fun o k H Q => (∃ a xs n x, o = .ref a ∧ k = .int n ∧ SqL K H a xs ∧ 0 ≤ n ∧ n < 2 ^ 63 ∧ xs[n.toNat]? = some x ∧ Q x H) ∨ ∃ a x, o = .ref a ∧ AGet H a k (some x) ∧ Q x H
theorem get_any (hu : X.A.units + 65 < cLine) : PGet X (rGetA X.K) := by
  intro pins s σ H o k ov kv Q I ro rk h
  rcases h with ⟨a, xs, n, x, rfl, rfl, sq, n0, n1, ex, q⟩ | ⟨a, x, rfl, dg, q⟩
  · obtain rfl : ov = Value.ref a := ro
    obtain ⟨t, rfl⟩ := rk
    obtain ⟨its, rv, pl, _⟩ := I.list sq
    obtain ⟨u, hu', ru⟩ := rv.get ex
    exact wpAny_getItem_list pl.isList n0 n1 (x := u) (by simpa using hu') ⟨x, H, I, ru, q⟩
  · obtain rfl : ov = Value.ref a := ro
    exact a_getItem (by omega) I dg rk fun w' s' I' rw' => ⟨x, H, I', rw', q⟩
def D.get0 : D → D → Option D
  | .lst ds, .int k => if 0 ≤ k ∧ k < 2 ^ 63 then ds[k.toNat]? else none
  | .dct t ks vs, k => (D.lookKey t ks vs k).bind id
  | _, _ => none
def getK (i : Nat) (k : D) : M D := fun S => match whereM i S with
  | none => none
  | some (_, d) => (d.get0 k).map fun x => (.ok x, S)
def augSM (i : Nat) (op : Int → Int → Int) (fk fe : M Res) : M Fl := guardM (fun S => (whereM i S).isSome) (fk >>= fun rk => useM rk >>= fun k => getK i k >>= fun x => M.opt x.isInt fun n => fe >>= fun re => M.opt re.d.isInt fun m => storeK i k (.int (op n m)) >>= fun _ => pure .next)
theorem Go.optS {β : Type} {D0 : Ends} {o : Option β} {k : β → M Fl} (h : GoS K mg z (M.opt o k) S σ H g D0) : ∃ a, o = some a ∧ GoS K mg z (k a) S σ H g D0 := by
  cases o with
  | none => exact h.elim
  | some a => exact ⟨a, rfl, h⟩
theorem ds_augS {op : Operator} {f : Int → Int → Int} (hp : PIp X op (ipI f)) (hu : X.A.units + 65 < cLine) (i : Nat) (hk : DE X z a fa) (he : DE X z b fb) (hN : X.N[i]? = some x := by rfl) (hv : Vis X.env.scope x := by first | exact Or.inl rfl | exact Or.inr (Or.inl rfl) | exact Or.inr (Or.inr rfl)) (hd : (x == ("__debug__" : Str)) = false := by decide) (hcd : (x == ("__classdict__" : Str)) = false := by decide)
    (ha : ∀ ov iv new, augStore a ov iv new = (do holding [new, ov, iv] (setItem ov iv new); release [new, ov, iv] []; pure .next) := by intros; rfl) : DS X z (.AugAssign (.Subscript (.Name x px) a p2) op b pos) (augSM i f fa fb) :=
  PS.imp (ps_augS (pe_var hN hv hd hcd) hk (get_any hu) he hp (set_any hu) ha) fun D0 σ H ⟨S, g, s, q⟩ => by
    obtain ⟨c, q1⟩ := GoS.guard q
    obtain ⟨⟨w0, d0⟩, e0⟩ := Option.isSome_iff_exists.mp c
    obtain ⟨ad, es, _, _⟩ := s.where_ e0
    refine ⟨_, es, S, g, s, (GoS.bnd q1).imp fun rk S1 H1 g1 s1 f1 q2 k rk' => ?_⟩
    obtain ⟨S2, g2, s2, f2, rpk, q3⟩ := GoS.use s1 rk' q2
    have q4 := GoS.bnd (f := getK i rk.d) q3
    unfold Go getK at q4
    cases e2 : whereM i S2 with
    | none => simp only [e2] at q4
    | some pr =>
      obtain ⟨w2, d2⟩ := pr
      simp only [e2] at q4
      cases e3 : d2.get0 rk.d with
      | none => simp only [e3, Option.map_none] at q4
      | some xd =>
        simp only [e3, Option.map_some] at q4
        have q5 := q4 _ _ s2 (Fr.refl _ _)
        obtain ⟨n, e4, q6⟩ := Go.optS q5
        have ex : xd = .int n := isInt_eq e4
        subst ex
        obtain ⟨ad2, es2, rt2, _⟩ := s2.where_ e2
        rw [es] at es2; cases es2
        have fin : ∀ y : V, y = .int n → tD X.K X.mg z fb σ H1 fun y2 H4 => ipI f y y2 H4 fun zv H5 => rSetA (.ref ad) k zv H5 fun H6 => D0.nx σ H6 := fun y ey => by
          subst ey
          refine ⟨S2, g2, s2, (GoS.bnd q6).imp fun re S3 H3 g3 s3 f3 q7 y2 ry2 => ?_⟩
          obtain ⟨m, e5, q8⟩ := Go.optS q7
          have : y2 = .int m := (s3.pk ry2).isInt e5
          subst this
          exact ⟨n, m, rfl, rfl, q8.storeK s3 es (rpk.fr f3 s2.mu) (.int _)⟩
        unfold D.get0 at e3
        split at e3
        · rename_i ds kk hh
          split at e3
          · rename_i cc
            obtain ⟨xs, hx, rx⟩ := rt2.lstAt
            obtain ⟨wv, e6, rw6⟩ := rx.get e3
            rw [hh] at rpk
            cases rpk
            exact .inl ⟨ad, xs, _, wv, rfl, rfl, SqL.of hx, cc.1, cc.2, e6, fin wv (Pk.int (.inl rw6))⟩
          · cases e3
        · obtain ⟨o2, e7, e8⟩ := Option.bind_eq_some_iff.mp e3
          obtain ⟨ad3, rr, e9, gg, i1, i2⟩ := dget_of (.inr ⟨ad, rfl, rt2⟩) (.inl rpk) e7
          cases e9
          obtain ⟨wv, e10, rw10⟩ := i1 _ e8
          exact .inr ⟨ad, wv, rfl, e10 ▸ gg, fin wv (Pk.int (.inl rw10))⟩
        · cases e3
theorem ds_augSAdd (hu : X.A.units + 65 < cLine) (i : Nat) (hk : DE X z a fa) (he : DE X z b fb) (hN : X.N[i]? = some x := by rfl) (hv : Vis X.env.scope x := by first | exact Or.inl rfl | exact Or.inr (Or.inl rfl) | exact Or.inr (Or.inr rfl)) (hd : (x == ("__debug__" : Str)) = false := by decide) (hcd : (x == ("__classdict__" : Str)) = false := by decide)
    (ha : ∀ ov iv new, augStore a ov iv new = (do holding [new, ov, iv] (setItem ov iv new); release [new, ov, iv] []; pure .next) := by intros; rfl) : DS X z (.AugAssign (.Subscript (.Name x px) a p2) .Add b pos) (augSM i (fun i j => i + j) fa fb) :=
  ds_augS ip_add hu i hk he hN hv hd hcd ha
def parK (i j : Nat) : Res → Res → M Fl
  | .dat d, .new e => putM i (.dat d) >>= fun _ => putM j (.own e) >>= fun _ => pure .next
  | _, .new _ => M.no
  | x, y => useM x >>= fun d => chkM y >>= fun _ => useM y >>= fun e => putM i (.dat d) >>= fun _ => putM j (.dat e) >>= fun _ => pure .next
def par2M (i j : Nat) (fa fb : M Res) : M Fl := fa >>= fun ra => fb >>= fun rb => chkM ra.hold >>= fun _ => parK i j ra.hold rb
theorem GoS.chk {k : Unit → M Fl} {D0 : Ends} (s : SR K z S σ H g) (s' : SR K z S' σ H' g') (f : Fr H g H' g') (hr : r.hold = r) (r0 : ResOk K z S σ H g v r) (h : GoS K mg z (chkM r >>= k) S' σ H' g' D0) :
    ResOk K z S' σ H' g' v r ∧ GoS K mg z (k ()) S' σ H' g' D0 := by
  have q := GoS.bnd (f := chkM r) h
  obtain ⟨h1, h2⟩ := Go.chk (k := fun _ => (pure () : M Unit)) (P := fun _ S2 H2 g2 => GoS K mg z (k ()) S2 σ H2 g2 D0) s s' f hr r0 (by
    have e : (chkM r >>= fun _ => (pure () : M Unit)) = chkM r := by
      funext S0
      show M.bnd (chkM r) _ S0 = _
      unfold M.bnd
      cases hh : chkM r S0 with
      | none => rfl
      | some p => obtain ⟨e, s1⟩ := p; cases e <;> rfl
    rw [e]; exact q)
  exact ⟨h1, h2.pure s'⟩
theorem parK_ok {u t : V} {ra rb : Res} {D0 : Ends} (ra' : ResOk K z S σ H g u ra) (hh : ra.hold = ra) (rb' : ResOk K z S σ H g t rb) (s : SR K z S σ H g) (q : GoS K mg z (parK i j ra rb) S σ H g D0) : D0.nx ((σ.set i (some u)).set j (some t)) H := by
  have gen : rb.hold = rb → GoS K mg z (useM ra >>= fun d => chkM rb >>= fun _ => useM rb >>= fun e => putM i (.dat d) >>= fun _ => putM j (.dat e) >>= fun _ => pure .next) S σ H g D0 → D0.nx ((σ.set i (some u)).set j (some t)) H := fun hb q => by
    obtain ⟨S2, g2, s2, f2, rp, q2⟩ := GoS.use s ra' q
    obtain ⟨rb2, q3⟩ := GoS.chk s s2 f2 hb rb' q2
    obtain ⟨S3, g3, s3, f3, rp3, q4⟩ := GoS.use s2 rb2 q3
    exact GoS.next (mg := mg) (GoS.put (mg := mg) (σ := σ) (GoS.put (mg := mg) (σ := σ) q4 (σ' := σ)) (σ' := σ)) ((s3.put_dat (rp.fr f3 s2.mu)).put_dat rp3)
  cases rb with
  | new e =>
    cases ra with
    | dat d =>
      have s1 := s.put_dat (i := i) ra'
      obtain ⟨ad, rfl, hb, rt, h0, hm, hn⟩ := rb'
      refine GoS.next (mg := mg) (GoS.put (mg := mg) (σ := σ) (GoS.put (mg := mg) (σ := σ) q (σ' := σ)) (σ' := σ)) (s1.put_own ⟨ad, rfl, hb, rt, h0, hm, fun k ev hk => ?_⟩)
      have hk : (S.env.set i (.dat d))[k]? = some (.own ev) := hk
      rcases set_get hk with ⟨_, hk⟩ | ⟨ne, hk⟩
      · cases hk
      · rw [List.getElem?_set_ne ne]; exact hn k ev hk
    | new d => cases hh
    | own n d => exact q.elim
  | dat e => cases ra <;> first | exact gen rfl q | cases hh
  | own n e => cases ra <;> first | exact gen rfl q | cases hh
theorem ds_par2 (i j : Nat) {kt k2 : Nat} {py pt pt2 : Pos} (hc : X.calm = true) (hN : X.N.Nodup) (ha : DE X z a fa) (hb : DE X z b fb) (hi : X.N[i]? = some x := by rfl) (hj : X.N[j]? = some y := by rfl) (hij : i ≠ j := by decide)
    (hx : X.env.scope.names.lookup x = some .local := by rfl) (hy : X.env.scope.names.lookup y = some .local := by rfl)
    (h1 : starEach [a, b] X.env = (false, eval a X.env) :: starEach [b] X.env := by rfl) (h2 : starEach [b] X.env = (false, eval b X.env) :: starEach [] X.env := by rfl)
    (hw : swappedStores [.Tuple [.Name x px, .Name y py] kt pt] (.Tuple [a, b] k2 pt2) X.env = pure (some [x, y]) := by rfl)
    (hs : swapsWithSole [.Tuple [.Name x px, .Name y py] kt pt] (.Tuple [a, b] k2 pt2) pos.line X.env = pure false := by rfl) :
    DS X z (.Assign [.Tuple [.Name x px, .Name y py] kt pt] (.Tuple [a, b] k2 pt2) pos) (par2M i j fa fb) :=
  PS.imp (ps_par hc hN hi hj hij hx hy (pa_cons ha (pa_cons hb pa_nil h2) h1) hw hs) fun D0 σ H ⟨S, g, s, q⟩ => ⟨S, g, s, (GoS.bnd q).imp fun ra S1 H1 g1 s1 f1 q1 u ru => by
    obtain ⟨g2, s2, f2, ru2⟩ := s1.hold ru
    refine ⟨S1, g2, s2, (GoS.bnd q1).at f2 |>.imp fun rb S3 H3 g3 s3 f3 q3 t rt => ?_⟩
    have hh : ra.hold.hold = ra.hold := by cases ra <;> rfl
    obtain ⟨ru3, q4⟩ := GoS.chk s2 s3 f3 hh ru2 q3
    exact ⟨u, t, rfl, parK_ok ru3 hh rt s3 q4⟩⟩
end
end DL
end
section
set_option maxRecDepth 100000
namespace DL
open PySem PySem.Spec L2
section
variable {X : Cx} {z : Zx} {S S' : Sx} {σ : L2.St} {H H' H0 : Hp} {g g' g2 : Gh} {v : V} {d : D} {r : Res} {K : PySem.W.Frag} {mg : Str → Option Value} {pos p px pos2 p2 : Pos} {a b c e : Expr} {fa fb fc : M Res} {i j l : Nat} {x y w : Str}
theorem frz_inv {pins : List (Addr × Obj)} {s : Shared} {ad : Addr} {xs : List V} (I : Inv X pins σ H s) (h : H ad = some (.lst xs)) : ∃ o, Inv X pins σ (upd H ad (.frz o (.lst xs))) s := by
  obtain ⟨hl, its, n, rv, ho⟩ := I.hok ad _ h
  exact ⟨_, I.write (x := ad) (e := ad) (h' := s.heap) (t' := s.toks) (by rw [h]; trivial) (.inl rfl) (fun b u _ q => q) ⟨_, ho⟩ ⟨ho, hl, its, n, rv, ho⟩⟩
theorem pe_frz {te : TE} (he : PE X e te) : PE X e fun σ H Q => te σ H fun x H1 => ∃ ad xs, x = .ref ad ∧ H1 ad = some (.lst xs) ∧ ∀ o, Q x (upd H1 ad (.frz o (.lst xs))) := by
  constructor
  intro pins s0 σ0 G0 Q inv hyp
  refine thn (he.run pins s0 σ0 G0 _ inv hyp) ?_
  rintro u s1 ⟨x, G1, inv1, rel, ad, xs, rfl, hx, q⟩
  obtain ⟨o, inv2⟩ := frz_inv inv1 hx
  exact ⟨_, _, inv2, rel, q o⟩
def frzK : Res → M Res
  | .new (.lst ds) => pure (.dat (.rol ds))
  | _ => M.no
def frzM (f : M Res) : M Res := f >>= frzK
theorem de_frz (he : DE X z e fa) : DE X z e (frzM fa) :=
  PE.imp (pe_frz he) fun σ H Q ⟨S, g, s, h⟩ => ⟨S, g, s, h.bnd.imp fun r S1 H1 g1 s1 f1 h1 x rx => by
    unfold frzK at h1
    split at h1
    · rename_i ds
      obtain ⟨ad, rfl, hb, rt, h0, hm, hn⟩ := rx
      obtain ⟨xs, hx, rxs⟩ := rt.lstAt
      refine ⟨ad, xs, rfl, hx, fun o => ?_⟩
      have fr : Fr H1 g1 (upd H1 ad (.frz o (.lst xs))) (g1.del ad) :=
        ⟨fun b u hb' nb => ⟨by rw [upd_ne (show b ≠ ad from fun q => nb (by rw [q]; exact hb))]; exact hb', fun q => nb q.1⟩, List.prefix_rfl⟩
      have sr : SR X.K z S1 σ (upd H1 ad (.frz o (.lst xs))) (g1.del ad) := by
        constructor
        · exact s1.len
        · intro i d e
          obtain ⟨v, e1, r⟩ := s1.dat i d e
          exact ⟨v, e1, r.fr fr s1.mu⟩
        · intro i d e
          obtain ⟨b, e1, hb', r, h0', hm'⟩ := s1.own i d e
          have ne : b ≠ ad := fun q => hn i d e (q ▸ e1)
          exact ⟨b, e1, ⟨hb', ne⟩, r.fr fr s1.mu (upd_ne ne), h0', hm'⟩
        · exact s1.inj
        · exact s1.olen
        · intro n b d e1 e2
          obtain ⟨r, hb'⟩ := s1.obj n b d e1 e2
          have ne : b ≠ ad := fun q => hm (q ▸ List.mem_iff_getElem?.mpr ⟨n, e1⟩)
          exact ⟨r.fr fr s1.mu (upd_ne ne), hb', ne⟩
        · exact s1.ond
        · intro b hb'
          rw [upd_ne hb'.2]; exact s1.mu b hb'.1
        · exact fun b q => ⟨s1.base b q, fun q2 => s1.b0 b q (q2 ▸ h0)⟩
        · exact s1.b0
        · intro b u hb' nb
          have ne : b ≠ ad := fun q => by rw [q, h0] at hb'; cases hb'
          rw [upd_ne ne]; exact s1.keep b u hb' nb
        · exact s1.on
      exact Go.ok rfl h1 sr fr _ (show ResOk X.K z S1 σ _ (g1.del ad) (.ref ad) (.dat (.rol ds)) from Rp.rol (.inl ⟨o, upd_same⟩) (rxs.fr fr s1.mu))
    · exact h1.none.elim⟩
theorem SR.track (s : SR K z S σ H g) (rv : ResOk K z S σ H g v (.new d)) : ∃ g', SR K z { S with objs := S.objs ++ [d] } σ H g' ∧ Fr H g H g' ∧ Rp K H g' v (.obj S.objs.length) := by
  obtain ⟨ad, rfl, hb, rt, h0, hm, hn⟩ := rv
  have fr : Fr H g H ⟨g.bad, g.om ++ [ad]⟩ := ⟨fun b u h n => ⟨h, n⟩, List.prefix_append _ _⟩
  refine ⟨⟨g.bad, g.om ++ [ad]⟩, ?_, fr, .obj ?_⟩
  · constructor
    · exact s.len
    · intro i d e
      obtain ⟨v, e1, r⟩ := s.dat i d e
      exact ⟨v, e1, r.fr fr s.mu⟩
    · intro i d e
      obtain ⟨b, e1, hb', r, h0', hm'⟩ := s.own i d e
      refine ⟨b, e1, hb', r.fr fr s.mu rfl, h0', fun q => ?_⟩
      rcases List.mem_append.mp q with q | q
      · exact hm' q
      · rw [List.mem_singleton] at q
        exact hn i d e (q ▸ e1)
    · exact s.inj
    · show (S.objs ++ [d]).length = (g.om ++ [ad]).length
      rw [List.length_append, List.length_append, s.olen]; rfl
    · intro n b d' e1 e2
      have e1 : (g.om ++ [ad])[n]? = some b := e1
      have e2 : (S.objs ++ [d])[n]? = some d' := e2
      by_cases q : n < g.om.length
      · rw [List.getElem?_append_left q] at e1
        rw [List.getElem?_append_left (by rw [s.olen]; exact q)] at e2
        obtain ⟨r, hb'⟩ := s.obj n b d' e1 e2
        exact ⟨r.fr fr s.mu rfl, hb'⟩
      · rw [List.getElem?_append_right (by omega)] at e1
        rw [List.getElem?_append_right (by rw [s.olen]; omega), s.olen] at e2
        have : n - g.om.length = 0 := by
          have := (List.getElem?_eq_some_iff.mp e1).1
          simp at this; exact this
        rw [this] at e1 e2
        cases e1; cases e2
        exact ⟨rt.fr fr s.mu rfl, hb⟩
    · show (g.om ++ [ad]).Nodup
      rw [List.nodup_append]
      exact ⟨s.ond, by simp, fun x hx y hy q => hm (by rw [List.mem_singleton] at hy; rw [← hy, ← q]; exact hx)⟩
    · exact s.mu
    · exact s.base
    · exact s.b0
    · exact fun b u h n => s.keep b u h fun q => n (List.mem_append_left _ q)
    · intro b hb'
      rcases List.mem_append.mp hb' with q | q
      · exact s.on b q
      · rw [List.mem_singleton] at q
        exact .inr (q ▸ h0)
  · rw [s.olen, List.getElem?_append_right (Nat.le_refl _), Nat.sub_self]; rfl
def trkM : Res → M D
  | .new d => fun S => some (.ok (.obj S.objs.length), { S with objs := S.objs ++ [d] })
  | _ => M.no
def asgTM (i : Nat) (f : M Res) : M Fl := f >>= fun r => trkM r >>= fun d => putM i (.dat d) >>= fun _ => pure .next
theorem ds_setT (i : Nat) {x : Str} {e : Expr} {fe : M Res} {pos' : Pos} (hN : X.N.Nodup) (he : DE X z e fe) (hi : X.N[i]? = some x := by rfl) (hx : Loc X.env.scope x := by first | exact .inl rfl | exact .inr rfl)
    (hs : swapsWith e (some (.Name x pos')) pos.line X.env = pure false := by rfl) (hf : X.fn x = true ∨ X.env.scope.names.lookup x = some .local := by first | exact .inl rfl | exact .inr rfl | assumption) :
    DS X z (.Assign [.Name x pos'] e pos) (asgTM i fe) :=
  PS.imp (ps_set hN hi hx he hs hf) fun D0 σ H ⟨S, g, s, q⟩ => ⟨S, g, s, (GoS.bnd q).imp fun r S1 H1 g1 s1 f1 q1 v rv => by
    cases r with
    | dat d => exact q1.elim
    | own n d => exact q1.elim
    | new d =>
      obtain ⟨g2, s2, f2, rp⟩ := s1.track rv
      have q2 : GoS X.K X.mg z (putM i (.dat (.obj S1.objs.length)) >>= fun _ => (pure .next : M Fl)) { S1 with objs := S1.objs ++ [d] } σ H1 g1 D0 := q1
      exact GoS.next (mg := X.mg) (GoS.put (mg := X.mg) (σ := σ) (GoS.at (f := putM i (.dat (.obj S1.objs.length)) >>= fun _ => (pure .next : M Fl)) q2 f2)) (s2.put_dat rp)⟩
end
theorem only_rol {K : PySem.W.Frag} {H : Hp} {a : Addr} {xs : List V} (O : Only H) (h : SqL K H a xs) : RoL K H a xs := by
  rcases h with (h | h) | h
  · rcases O a with q | ⟨o, ys, q⟩
    · rw [h] at q; cases q
    · rw [h] at q; cases q
  · exact .inl h
  · exact .inr h
theorem law_run {P : Program} {w : World} {K : PySem.W.Frag} {mg mb : Str → Option Value} {k : Nat} {fa a : Addr} {fd : FuncData} {x : Str} {den : Den} {s1 : Shared} {us : List Value} {ns : List Int}
    (inK : K.In s1.heap) (nsG : s1.heap.Ns mainGlobals mg) (nsB : s1.heap.Ns builtinsNs mb) (blt : ∀ y : Str, y ≠ "__name__" → mb y = bootBuiltins y) (nol : s1.heap.NoLimit) (nog : s1.gens = #[])
    (at_ : s1.heap.get? a = some { cls := .type "list", data := .seq us.toArray }) (inp : PyProof.Rows.IntsAre us ns) (few : ns.length ≤ sizeLine) (room : Room k callerA)
    (F : ∀ base : Heap, K.In base → base.Ns mainGlobals mg → FnG P w K mg base k fa fd [x] (spDen K mg 1 den)) (bnd : Binds K fd [x] [])
    (hden : ∃ objs', den [.rol (ns.map .int)] [] = some (.ok (.dat (.bl true)), objs')) :
    codeAny (model P w) callerA (.call (.ref fa) ⟨[.ref a], []⟩) (fun r s' => r = .ok (.ret (.bool true)) ∧ OldK s1.heap s'.heap ∧ s'.os = s1.os ∧ PyProof.Rows.AllBare s'.gens) s1 := by
  have rv := vals_ints inp
  have len := inp.length
  -- whichever heap is tracked
  have main : ∀ H : Hp, Only H → SqL K H a (ns.map V.int) → HOk P w H s1.heap → (∀ b, H b ≠ none → b = a) → (H a ≠ none → K.lookup a = none) →
      codeAny (model P w) callerA (.call (.ref fa) ⟨[.ref a], []⟩) (fun r s' => r = .ok (.ret (.bool true)) ∧ OldK s1.heap s'.heap ∧ s'.os = s1.os ∧ PyProof.Rows.AllBare s'.gens) s1 := by
    intro H only sq hok just notK
    have below : ∀ {b : Addr} {o : Obj}, s1.heap.get? b = some o → H b = none → (hidT s1.heap H).get? b = some o := fun e n => hidT_get e n
    have free : ∀ {b : Addr} {o : Obj} {es : Array DictEntry} {ep : Nat}, s1.heap.get? b = some o → o.data = .dict es ep → H b = none := fun {b o es ep} e dd => by
      cases q : H b with
      | none => rfl
      | some u =>
        have eb : b = a := just b (by rw [q]; simp)
        subst eb
        rw [at_] at e; cases e
        exact nomatch (show Data.seq us.toArray _ = Data.dict es ep from dd)
    have nsT : ∀ {b : Addr} {m : Str → Option Value}, s1.heap.Ns b m → (hidT s1.heap H).Ns b m := fun {b m} ⟨o, es, ep, e, dd, rest⟩ => ⟨o, es, ep, below e (free e dd), dd, rest⟩
    have inT : K.In (hidT s1.heap H) := fun b o e => below (inK b o e) (by
      cases q : H b with
      | none => rfl
      | some u =>
        have eb : b = a := just b (by rw [q]; simp)
        subst eb
        rw [notK (by rw [q]; simp)] at e; cases e)
    have modT : Mod K mg (hidT s1.heap H) := ⟨inT, nsT nsG, ⟨mb, nsT nsB, blt⟩, let ⟨mc, h1, h2⟩ := nol; ⟨mc, nsT h1, h2⟩⟩
    have env0 : Env0 P w K mg (hidT s1.heap H) callerA [] s1 H := ⟨rfl, modT, fun b o e => of_hidT e, Nat.le_of_eq (hidT_size _ _), trivial, fun b hb => absurd (show b ∈ ([] : List Addr) from hb) (by simp), hok, PyProof.Rows.AllBare.of_eq nog⟩
    obtain ⟨objs', hd⟩ := hden
    have prom : spDen K mg 1 den [.ref a] H (fun v _ => v = .bl true) fun _ _ _ => False :=
      ⟨⟨fun _ => False, []⟩, [.rol (ns.map .int)], [], rfl, fun b q => q.elim, List.nodup_nil, .cons (.rol (only_rol only sq) (RpA.of_ints ns)) .nil, ⟨rfl, fun n b d q => by simp at q⟩, by
        rw [hd]
        exact fun H' g' v _ rok => by cases rok; rfl⟩
    refine codeAny_mono ((F _ inT (nsT nsG)).run callerA [] s1 H ⟨[.ref a], []⟩ [.ref a] [.ref a] _ _ rfl room env0 (bnd s1 [.ref a] inK rfl) (.cons rfl .nil) prom) fun r s' h => ?_
    cases r with
    | error e => obtain ⟨_, _, _, _, _, _, _, _, _, _, _, _, no⟩ := h; exact no.elim
    | ok fl =>
      cases fl with
      | next => exact h.elim
      | brk => exact h.elim
      | cont => exact h.elim
      | ret u =>
        obtain ⟨v, H', os, bare, un, hok', rel, rfl⟩ := h
        obtain rfl : u = Value.bool true := rel
        refine ⟨rfl, OldK.of_keep fun b o e => ?_, os, bare⟩
        cases q : H b with
        | none => exact un.keep b o e q (fun hb => absurd (show b ∈ ([] : List Addr) from hb) (by simp)) (by simp)
        | some u =>
          rcases only b with n | ⟨ob, xs, fz⟩
          · rw [q] at n; cases n
          · have fz2 := un.frzs b ob _ fz
            obtain ⟨e1, _⟩ := hok b _ fz
            obtain ⟨e2, _⟩ := hok' b _ fz2
            rw [e] at e1; cases e1
            exact e2
  cases hk : K.lookup a with
  | some o =>
    have e := inK a o hk
    rw [at_] at e
    cases e
    exact main (fun _ => none) (fun _ => .inl rfl) (.inr ⟨_, us.toArray, _, hk, rfl, rfl, rfl, by rw [List.size_toArray, len]; exact few, by simpa using rv⟩) (fun b u q => by cases q) (fun b q => absurd rfl q) fun q => absurd rfl q
  | none =>
    let F0 : HO := .frz { cls := .type "list", data := .seq us.toArray } (.lst (ns.map V.int))
    have is : (fun b => if b = a then some F0 else none : Hp) a = some F0 := if_pos rfl
    refine main (fun b => if b = a then some F0 else none) (fun b => ?_) (.inl (.inr ⟨_, is⟩)) (fun b u q => ?_) (fun b q => ?_) fun _ => hk
    · by_cases hb : b = a
      · exact .inr ⟨_, _, if_pos hb⟩
      · exact .inl (if_neg hb)
    · by_cases hb : b = a
      · cases (if_pos hb).symm.trans q
        subst hb
        exact ⟨at_, by rw [List.length_map]; exact few, us, _, rv, at_⟩
      · cases (if_neg hb).symm.trans q
    · by_cases hb : b = a
      · exact hb
      · exact absurd (if_neg hb) q
theorem walkD {l : PySem.W.OpenLaw} {n k : Nat} {q : Program} {loose : List Str} {XP : (Str → Option Value) → Heap → Prop} {YP : World → Heap → Prop} {d : DefRec} {K : Params → PySem.W.Frag} {x : Str} {den : Den}
    (most : l.most = some n) (few : n ≤ sizeLine) (nod : d.params.defaults = []) (room : Room k callerA) (hY : ∀ (w : World) (h : Heap), YP w h → (K w.params).In h)
    (F : ∀ (w : World) (mg : Str → Option Value) (fa : Addr) (h : Heap), (K w.params).In h → h.Ns mainGlobals mg → mg d.name = some (.ref fa) →
      ∃ fd : FuncData, Binds (K w.params) fd [x] [] ∧ ∀ base : Heap, (K w.params).In base → base.Ns mainGlobals mg → FnG l.prog w (K w.params) mg base k fa fd [x] (spDen (K w.params) mg 1 den))
    (hden : ∀ ns : List Int, ns.length ≤ n → ∃ objs', den [.rol (ns.map .int)] [] = some (.ok (.dat (.bl true)), objs')) : PySem.W.WalkO q loose XP YP l.row.toRowW d [] (fun f vs => PySem.call f vs) := by
  refine Att.attach_call most nod fun w s0 s1 mg mb fa o pm cd doc a us ns G Y ho hd hcd hmg at_ inp len nog => ?_
  have inK := hY w _ Y
  obtain ⟨fd, bnd, hF⟩ := F w mg fa _ inK G.T.g hmg
  exact law_run inK G.T.g G.T.b G.T.builtins G.T.nolimit nog at_ inp (Nat.le_trans len few) room hF bnd (hden ns len)
end DL
end
section
set_option maxRecDepth 100000
namespace DL
open PySem PySem.Spec L2
def whFuel : Nat := 1000000
theorem u65 {k : Nat} {A : Around} (r : Room k A) : A.units + 65 < cLine := by have := r.un; omega
theorem u64 {k : Nat} {A : Around} (r : Room k A) : A.units + 64 < cLine := by have := r.un; omega
theorem tk_blk {X : Cx} {z : Zx} (h : z.W = blkW) : Takes X z.W := fun u s' x => by
  rw [h] at x
  obtain ⟨_, _, _, _, _, _, _, _, _, _, _, _, _, _, _, _, no⟩ := x
  exact no.elim
structure Fn0 (K : PySem.W.Frag) (mg : Str → Option Value) (x : Str) (st : Stmt) (ps : List Str) : Prop where
  ex : ∃ f fd, mg x = some (.ref f) ∧ Fun K x x st f fd ∧ Binds K fd ps []
structure Dn (P : Program) (w : World) (K : PySem.W.Frag) (mg : Str → Option Value) (base : Heap) (k : Nat) (x : Str) (ps : List Str) (den : Den) : Prop where
  ex : ∃ f fd, mg x = some (.ref f) ∧ PySem.W.keepIn K (.ref f) = true ∧ Binds K fd ps [] ∧ FnG P w K mg base k f fd ps (spDen K mg ps.length den)
section
variable {P : Program} {w : World} {K : PySem.W.Frag} {mg : Str → Option Value} {base : Heap} {x : Str} {st : Stmt} {ps N : List Str} {k j : Nat} {den : Den}
theorem Dn.mono (D : Dn P w K mg base j x ps den) (h : j ≤ k) : Dn P w K mg base k x ps den :=
  let ⟨f, fd, a, b, c, F⟩ := D.ex
  ⟨f, fd, a, b, c, F.mono h⟩
theorem Fn0.none_ (F : Fn0 K mg x st ps) : Dn P w K mg base k x ps (fun _ _ => none) := by
  obtain ⟨f, fd, a, F, b⟩ := F.ex
  exact ⟨f, fd, a, F.kp, b, ⟨fun vs H Q E ⟨_, _, _, l, _⟩ => l, fun A outer s H args us vs Q E _ _ _ _ _ ⟨_, _, _, _, _, _, _, _, no⟩ => no.elim⟩⟩
theorem okN {m : M Fl} (F : Fn0 K mg x st ps) (Sc : FnScope N ps (defScope st))
    (bod : ∀ {f : Addr} (cdv : Value) (A : Around) (outer : List Env) (s : Shared) (H : Hp) (E : XK) (z : Zx), A.guards = some [] → Room k (A.deeper (PyProof.Rows.envOfC x (defScope st) s.heap.objs.size f cdv)) → Takes (bodyX P w K mg base N x st f cdv A outer s H E) z.W →
      DB (bodyX P w K mg base N x st f cdv A outer s H E) z (defBody st) m) : Dn P w K mg base (k + 1) x ps (runB N.length m) := by
  obtain ⟨f, fd, a, F, b⟩ := F.ex
  exact ⟨f, fd, a, F.kp, b, okD F Sc fun cdv A outer s H E z => bod cdv A outer s H E z⟩
theorem fn0_mk {h : Heap} {f : Addr} {oc : Value} {od an : Option Addr} {osl : Array (Option Value)} {kV doc pm cdv ct : Value} (X : K.In h) (G : h.Ns mainGlobals mg) (a : PySem.W.nsIn K mainGlobals x = some (some (.ref f)))
    (l : K.lookup f = some ⟨oc, od, .func (PySem.W.fnOf x x (defArgs st) (defBody st) (defScope st) .none kV doc pm an cdv ct), osl⟩) (c : PySem.W.codeIn K cdv x = true) (kp : PySem.W.keepIn K (.ref f) = true)
    (b : ∀ F : Fun K x x st f (PySem.W.fnOf x x (defArgs st) (defBody st) (defScope st) .none kV doc pm an cdv ct), Binds K (PySem.W.fnOf x x (defArgs st) (defBody st) (defScope st) .none kV doc pm an cdv ct) ps []) : Fn0 K mg x st ps :=
  ⟨f, _, PySem.W.mg_of X G a, fun_mk (st := st) l c kp, b (fun_mk (st := st) l c kp)⟩
end
section
variable {X : Cx} {z : Zx} {pos p : Pos} {e : Expr} {es : List Expr} {fs : M (List Res)} {x : Str} {ps : List Str} {k n : Nat} {den : Den}
theorem de_cal (D : Dn X.prog X.w X.K X.mg X.base k x ps den) (gd : X.A.guards = some []) (room : Room k X.A) (tk : Takes X z.W) (ha : DAH X z (e :: es) fs) (hg : Gl X x := by rfl) (hdb : (x == ("__debug__" : Str)) = false := by decide)
    (he : starEach (e :: es) X.env = (false, eval e X.env) :: starEach es X.env := by rfl) (hpl : (backTo pos (starEach es X.env)).any (·.1) = false := by rfl) (hn : ps.length = n := by rfl) : DE X z (.Call (.Name x p) (e :: es) [] pos) (callM n den fs) := by
  subst hn
  obtain ⟨f, fd, a, b, c, F⟩ := D.ex
  exact de_call F gd room tk a b c ha hg hdb he hpl
def D.isBl : D → Option Bool
  | .bl b => some b
  | _ => Option.none
def cmpT (op : D → D → M Res) (fa fb : M Res) : M Bool := binM op fa fb >>= fun r => M.opt r.d.isBl pure
variable {a b : Expr} {fa fb : M Res}
theorem isBl_pk {K : PySem.W.Frag} {H : Hp} {g : Gh} {v : V} {d : D} {k : Bool} (p : Pk K H g v d) (e : d.isBl = some k) : v = .bl k := by
  cases d <;> simp [D.isBl] at e
  subst e; exact p.bl
theorem dt_bin {r : R2} {op : D → D → M Res} (hd : OpD X z r op) (pt : PT X e (tTest (tOp r (tD X.K X.mg z fa) (tD X.K X.mg z fb)))) : DT X z e (cmpT op fa fb) := by
  refine PT.imp pt fun σ H Q ⟨S, g, s, h⟩ => ?_
  have h' : Go X.K X.mg z (binM op fa fb) S σ H g fun r S' H' g' => ∀ v, ResOk X.K z S' σ H' g' v r → ∃ k, v = .bl k ∧ Q k H' := h.bnd.imp fun r S1 H1 g1 s1 f1 h1 v rv => by
    obtain ⟨k, e1, q⟩ := h1.opt
    exact ⟨k, isBl_pk (s1.pk rv) e1, q.pure s1⟩
  unfold binM at h'
  refine ⟨S, g, s, h'.bnd.imp fun ra S1 H1 g1 s1 f1 h1 x rx => ?_⟩
  obtain ⟨g2, s2, f2, rx2⟩ := s1.hold rx
  refine ⟨S1, g2, s2, (h1.at f2).bnd.imp fun rb S3 H3 g3 s3 f3 h3 y ry => ?_⟩
  obtain ⟨rx3, h4⟩ := Go.chk s2 s3 f3 (by cases ra <;> rfl) rx2 h3
  exact hd S3 σ H3 g3 x y _ _ _ s3 (s3.pk rx3) (s3.pk ry) h4
theorem dt_lt (ha : DE X z a fa) (hb : DE X z b fb) : DT X z (.Compare a [.Lt] [b] pos) (cmpT opLt fa fb) := dt_bin od_cmp (pt_cmpR op_lt ha hb (nomark _))
theorem dt_gt (ha : DE X z a fa) (hb : DE X z b fb) : DT X z (.Compare a [.Gt] [b] pos) (cmpT opGt fa fb) := dt_bin od_cmp (pt_cmpR op_gt ha hb (nomark _))
theorem dt_ge (ha : DE X z a fa) (hb : DE X z b fb) : DT X z (.Compare a [.GtE] [b] pos) (cmpT opGe fa fb) := dt_bin od_cmp (pt_cmpR op_ge ha hb (nomark _))
theorem dt_eq (hu : X.A.units + 64 < cLine) (ha : DE X z a fa) (hb : DE X z b fb) : DT X z (.Compare a [.Eq] [b] pos) (cmpT (opEq false) fa fb) := dt_bin od_eq (pt_cmpR (op_eqD hu) ha hb (nomark _))
theorem dt_ne (hu : X.A.units + 64 < cLine) (ha : DE X z a fa) (hb : DE X z b fb) : DT X z (.Compare a [.NotEq] [b] pos) (cmpT (opEq true) fa fb) := dt_bin od_ne (pt_cmpR (op_neD hu) ha hb (nomark _))
theorem dt_in (hu : X.A.units + 65 < cLine) (ha : DE X z a fa) (hb : DE X z b fb) (hm : behindInMarks .In b = false := by rfl) : DT X z (.Compare a [.In] [b] pos) (cmpT (opIn false) fa fb) := dt_bin od_in (pt_cmpR (op_inA hu) ha hb hm)
theorem dt_notin (hu : X.A.units + 65 < cLine) (ha : DE X z a fa) (hb : DE X z b fb) (hm : behindInMarks .NotIn b = false := by rfl) : DT X z (.Compare a [.NotIn] [b] pos) (cmpT (opIn true) fa fb) := dt_bin od_notIn (pt_cmpR (op_notInA hu) ha hb hm)
end
end DL
end
section
set_option maxRecDepth 100000
namespace DL
open PySem L2
def Rn {α : Type} (m : M α) (S : Sx) (Q : α → Sx → Prop) : Prop := match m S with
  | some (.ok a, S') => Q a S'
  | _ => False
section
variable {α β : Type} {f g : M α} {k : α → M β} {S : Sx} {i j n : Nat} {d e : D} {o : List D} {env : List Slot}
theorem Rn.mono {Q Q' : α → Sx → Prop} (h : Rn f S Q) (hq : ∀ a S', Q a S' → Q' a S') : Rn f S Q' := by
  unfold Rn at h ⊢
  split at h
  · exact hq _ _ h
  · exact h.elim
theorem Rn.of {Q : α → Sx → Prop} {a : α} {S' : Sx} (h : f S = some (.ok a, S')) (q : Q a S') : Rn f S Q := by
  unfold Rn; rw [h]; exact q
theorem Rn.ex {Q : α → Sx → Prop} (h : Rn f S Q) : ∃ a S', f S = some (.ok a, S') ∧ Q a S' := by
  unfold Rn at h
  split at h
  · rename_i a S' e; exact ⟨a, S', e, h⟩
  · exact h.elim
theorem rn_bind {Q : β → Sx → Prop} : Rn (f >>= k) S Q = Rn f S fun a S' => Rn (k a) S' Q := by
  show (match M.bnd f k S with | some (.ok a, S') => Q a S' | _ => False) = _
  unfold Rn M.bnd
  cases f S with
  | none => rfl
  | some p => obtain ⟨r, S1⟩ := p; cases r <;> rfl
theorem rn_pure {Q : α → Sx → Prop} {a : α} : Rn (pure a) S Q = Q a S := rfl
theorem rn_no {Q : α → Sx → Prop} : Rn (M.no : M α) S Q = False := rfl
theorem rn_opt1 {γ : Type} {Q : β → Sx → Prop} {a : γ} {k : γ → M β} : Rn (M.opt (some a) k) S Q = Rn (k a) S Q := rfl
theorem rn_need {Q : α → Sx → Prop} {c : Bool} : Rn (M.need c f) S Q = (c = true ∧ Rn f S Q) := by
  unfold Rn M.need
  by_cases h : c = true
  · simp [h]
  · simp [h]
theorem rn_ite {Q : α → Sx → Prop} {c : Prop} [Decidable c] : Rn (if c then f else g) S Q = if c then Rn f S Q else Rn g S Q := by split <;> rfl
theorem rn_var {Q : Res → Sx → Prop} : Rn (varM i) ⟨env, o⟩ Q = match env[i]? with | some (.dat d) => Q (.dat d) ⟨env, o⟩ | some (.own d) => Q (.own i d) ⟨env, o⟩ | _ => False := by
  unfold Rn varM
  cases env[i]? with
  | none => rfl
  | some s => cases s <;> rfl
theorem rn_put {Q : Unit → Sx → Prop} {x : Slot} : Rn (putM i x) ⟨env, o⟩ Q = Q () ⟨env.set i x, o⟩ := rfl
theorem rn_useD {Q : D → Sx → Prop} : Rn (useM (.dat d)) S Q = Q d S := rfl
theorem rn_useN {Q : D → Sx → Prop} : Rn (useM (.new d)) S Q = Q d S := rfl
theorem rn_useO {Q : D → Sx → Prop} : Rn (useM (.own i d)) ⟨env, o⟩ Q = (env[i]? = some (.own d) ∧ Q d ⟨env.set i (.dat d), o⟩) := by
  unfold Rn
  rw [useM_own]
  by_cases h : env[i]? = some (.own d)
  · simp [h, Sx.put]
  · simp [h]
theorem rn_chkD {Q : Unit → Sx → Prop} : Rn (chkM (.dat d)) S Q = Q () S := rfl
theorem rn_chkN {Q : Unit → Sx → Prop} : Rn (chkM (.new d)) S Q = Q () S := rfl
theorem rn_chkO {Q : Unit → Sx → Prop} : Rn (chkM (.own i d)) ⟨env, o⟩ Q = (env[i]? = some (.own d) ∧ Q () ⟨env, o⟩) := by
  unfold Rn
  rw [chkM_own]
  by_cases h : env[i]? = some (.own d)
  · simp [h]
  · simp [h]
def Dr (den : Den) (as o : List D) (Q : Res → List D → Prop) : Prop := match den as o with
  | some (.ok r, o') => Q r o'
  | _ => False
theorem rn_call {Q : Res → Sx → Prop} {den : Den} {fs : M (List Res)} : Rn (callM n den fs) S Q = Rn fs S fun rs S' => rs.length = n ∧ Dr den (rs.map (·.d)) S'.objs fun r o' =>
    if (r.safe && o'.all fun o => D.imms o.parts) = true then Q r ⟨S'.env, o'⟩ else Q r (putAll rs ⟨S'.env, o'⟩) := by
  refine (rn_bind (f := fs)).trans ?_
  congr 1
  funext rs S'
  unfold Rn Dr
  by_cases h : rs.length = n
  · simp only [h, if_true, true_and]
    cases den (rs.map (·.d)) S'.objs with
    | none => rfl
    | some p =>
      obtain ⟨r, o'⟩ := p
      cases r with
      | error x => rfl
      | ok r =>
        by_cases c : (r.safe && o'.all fun o => D.imms o.parts) = true
        · simp [c]
        · simp [c]
  · simp only [h, if_false, false_and]
theorem Dr.of {den : Den} {as o o' : List D} {r : Res} {Q : Res → List D → Prop} (h : den as o = some (.ok r, o')) (q : Q r o') : Dr den as o Q := by
  unfold Dr; rw [h]; exact q
theorem Dr.mono {den : Den} {as o : List D} {Q Q' : Res → List D → Prop} (h : Dr den as o Q) (q : ∀ r o', Q r o' → Q' r o') : Dr den as o Q' := by
  unfold Dr at h ⊢
  split at h
  · exact q _ _ h
  · exact h.elim
theorem Dr.ex {den : Den} {as o : List D} {Q : Res → List D → Prop} (h : Dr den as o Q) : ∃ r o', den as o = some (.ok r, o') ∧ Q r o' := by
  unfold Dr at h
  split at h
  · rename_i r o' e; exact ⟨r, o', e, h⟩
  · exact h.elim
def flOut (Q : Res → List D → Prop) : Fl → Sx → Prop
  | .next, S => Q (.dat .non) S.objs
  | .ret r, S => Q (outR r) S.objs
  | _, _ => False
theorem dr_run {b : M Fl} {as : List D} {Q : Res → List D → Prop} : Dr (runB n b) as o Q = Rn b ⟨as.map .dat ++ List.replicate (n - as.length) .un, o⟩ (flOut Q) := by
  unfold Dr runB Rn
  cases b ⟨as.map .dat ++ List.replicate (n - as.length) .un, o⟩ with
  | none => rfl
  | some p =>
    obtain ⟨r, S'⟩ := p
    cases r with
    | error x => rfl
    | ok fl => cases fl <;> rfl
theorem rn_seq {Q : Fl → Sx → Prop} {f h : M Fl} : Rn (seqM f h) S Q = Rn f S fun fl S' => match fl with | .next => Rn h S' Q | x => Q x S' := by
  unfold seqM
  rw [rn_bind]
  congr 1
  funext fl S'
  cases fl <;> rfl
theorem rn_store {Q : Unit → Sx → Prop} {k x : D} : Rn (storeK i k x) S Q = ∃ w d d', whereM i S = some (w, d) ∧ d.store k x = some d' ∧ Q () (S.store i w d') := by
  unfold Rn storeK
  cases h : whereM i S with
  | none => simp
  | some p =>
    obtain ⟨w, d⟩ := p
    simp only
    cases h2 : d.store k x with
    | none => exact propext ⟨fun q => q.elim, fun ⟨_, _, _, e, q, _⟩ => by cases e; rw [h2] at q; cases q⟩
    | some x => exact propext ⟨fun q => ⟨_, _, _, rfl, h2, q⟩, fun ⟨_, _, _, e, e2, q⟩ => by cases e; rw [h2] at e2; cases e2; exact q⟩
theorem rn_guard {Q : α → Sx → Prop} {c : Sx → Bool} : Rn (guardM c f) S Q = (c S = true ∧ Rn f S Q) := by
  unfold Rn guardM
  by_cases h : c S = true <;> simp [h]
theorem rn_meth {Q : Res → Sx → Prop} {op : D → D → Option (D × D)} {x : D} : Rn (methK i op x) S Q = ∃ w d r d', whereM i S = some (w, d) ∧ op d x = some (r, d') ∧ Q (.dat r) (S.store i w d') := by
  unfold Rn methK
  cases h : whereM i S with
  | none => simp
  | some p =>
    obtain ⟨w, d⟩ := p
    simp only
    cases h2 : op d x with
    | none => exact propext ⟨fun q => q.elim, fun ⟨_, _, _, _, e, q, _⟩ => by cases e; rw [h2] at q; cases q⟩
    | some p => obtain ⟨r, d'⟩ := p; exact propext ⟨fun q => ⟨_, _, _, _, rfl, h2, q⟩, fun ⟨_, _, _, _, e, e2, q⟩ => by cases e; rw [h2] at e2; cases e2; exact q⟩
theorem rn_forIn {Q : Fl → Sx → Prop} {it : M (List D)} {tgt : D → M Unit} {b : M Fl} : Rn (forIn it tgt b) S Q = Rn it S fun ds S' => Rn (forM tgt b ds) S' Q := by
  unfold DL.forIn; exact rn_bind
theorem rn_for0 {Q : Fl → Sx → Prop} {tgt : D → M Unit} {b : M Fl} : Rn (forM tgt b []) S Q = Q .next S := rfl
theorem rn_for1 {Q : Fl → Sx → Prop} {tgt : D → M Unit} {b : M Fl} {ds : List D} : Rn (forM tgt b (d :: ds)) S Q = Rn (tgt d) S fun _ S1 => Rn b S1 fun fl S2 => match fl with
    | .next => Rn (forM tgt b ds) S2 Q
    | .cont => Rn (forM tgt b ds) S2 Q
    | .brk => Q .next S2
    | .ret r => Q (.ret r) S2 := by
  show Rn (tgt d >>= fun _ => b >>= loopK (forM tgt b ds)) S Q = _
  rw [rn_bind]
  congr 1
  funext u S1
  rw [rn_bind]
  congr 1
  funext fl S2
  cases fl <;> rfl
theorem rn_while {Q : Fl → Sx → Prop} {t : M Bool} {b : M Fl} : Rn (whileM t b (n + 1)) S Q = Rn t S fun c S1 => if c = true then Rn b S1 fun fl S2 => match fl with
    | .next => Rn (whileM t b n) S2 Q
    | .cont => Rn (whileM t b n) S2 Q
    | .brk => Q .next S2
    | .ret r => Q (.ret r) S2 else Q .next S1 := by
  show Rn (t >>= fun c => if c = true then b >>= loopK (whileM t b n) else pure .next) S Q = _
  rw [rn_bind]
  congr 1
  funext c S1
  rw [rn_ite, rn_bind]
  congr 1
  congr 1
  funext fl S2
  cases fl <;> rfl
section
variable {Q : Res → Sx → Prop} {i j : Int} {ds es : List D} {b c : Bool} {r : Res} {m : Nat} {x y : Str}
theorem hold_d : (Res.dat d).hold = .dat d := rfl
theorem hold_n : (Res.new d).hold = .dat d := rfl
theorem hold_o : (Res.own n d).hold = .own n d := rfl
theorem d_d : (Res.dat d).d = d := rfl
theorem d_n : (Res.new d).d = d := rfl
theorem d_o : (Res.own n d).d = d := rfl
theorem out_d : outR (.dat d) = .dat d := rfl
theorem out_n : outR (.new d) = .new d := rfl
theorem out_o : outR (.own n d) = .new d := rfl
theorem fo_next {Q : Res → List D → Prop} : flOut Q .next S = Q (.dat .non) S.objs := rfl
theorem fo_ret {Q : Res → List D → Prop} : flOut Q (.ret r) S = Q (outR r) S.objs := rfl
theorem rn_setD {Q : Unit → Sx → Prop} : Rn (setM n (.dat d)) ⟨env, o⟩ Q = Q () ⟨env.set n (.dat d), o⟩ := rfl
theorem rn_setN {Q : Unit → Sx → Prop} : Rn (setM n (.new d)) ⟨env, o⟩ Q = Q () ⟨env.set n (.own d), o⟩ := rfl
theorem rn_setO {Q : Unit → Sx → Prop} : Rn (setM n (.own m d)) ⟨env, o⟩ Q = (env[m]? = some (.own d) ∧ Q () ⟨(env.set m (.dat d)).set n (.dat d), o⟩) := by
  show Rn (useM (.own m d) >>= fun d => putM n (.dat d)) _ Q = _
  rw [rn_bind, rn_useO]; rfl
theorem isBl_b : (D.bl b).isBl = some b := rfl
theorem isInt_i : (D.int i).isInt = some i := rfl
theorem tr_i : (D.int i).truth = some (i != 0) := rfl
theorem tr_b : (D.bl b).truth = some b := rfl
theorem tr_n : D.non.truth = some false := rfl
theorem tr_l : (D.lst ds).truth = some (!ds.isEmpty) := rfl
theorem tr_t : (D.tup ds).truth = some (!ds.isEmpty) := rfl
theorem it_l : (D.lst ds).items = some ds := rfl
theorem it_r : (D.rol ds).items = some ds := rfl
theorem it_t : (D.tup ds).items = some ds := rfl
theorem li_l : (D.lst ds).lis = some ds := rfl
theorem li_r : (D.rol ds).lis = some ds := rfl
theorem op_add_i : Rn (opAdd (.int i) (.int j)) S Q = Q (.dat (.int (i + j))) S := rfl
theorem op_add_l : Rn (opAdd (.lst ds) (.lst es)) S Q = (ds.length + es.length ≤ sizeLine ∧ Q (.new (.lst (ds ++ es))) S) := by
  show Rn (M.need _ _) S Q = _
  rw [rn_need, decide_eq_true_eq]; rfl
theorem op_add_t : Rn (opAdd (.tup ds) (.tup es)) S Q = (ds.length + es.length ≤ sizeLine ∧ Q (.dat (.tup (ds ++ es))) S) := by
  show Rn (M.need _ _) S Q = _
  rw [rn_need, decide_eq_true_eq]; rfl
theorem op_sub_i : Rn (opSub (.int i) (.int j)) S Q = Q (.dat (.int (i - j))) S := rfl
theorem op_mul_i : Rn (opMul (.int i) (.int j)) S Q = (((-(2 ^ 64) < i ∧ i < 2 ^ 64) ∨ (-(2 ^ 64) < j ∧ j < 2 ^ 64)) ∧ Q (.dat (.int (i * j))) S) := by
  show Rn (M.need _ _) S Q = _
  rw [rn_need, decide_eq_true_eq]; rfl
theorem op_mod_i : Rn (opMod (.int i) (.int j)) S Q = (j ≠ 0 ∧ Q (.dat (.int (i.fmod j))) S) := by
  show Rn (M.need _ _) S Q = _
  rw [rn_need, decide_eq_true_eq]; rfl
theorem op_div_i : Rn (opDiv (.int i) (.int j)) S Q = ((j ≠ 0 ∧ j.natAbs < 1073741824) ∧ Q (.dat (.int (i.fdiv j))) S) := by
  show Rn (M.need _ _) S Q = _
  rw [rn_need, decide_eq_true_eq]; rfl
theorem op_pow_i : Rn (opPow (.int i) (.int j)) S Q = ((0 ≤ j ∧ j ≤ 1000000 ∧ i.natAbs < 2 ^ 64) ∧ Q (.dat (.int (i ^ j.toNat))) S) := by
  show Rn (M.need _ _) S Q = _
  rw [rn_need, decide_eq_true_eq]; rfl
theorem op_lt_i : Rn (opLt (.int i) (.int j)) S Q = Q (.dat (.bl (decide (i < j)))) S := rfl
theorem op_le_i : Rn (opLe (.int i) (.int j)) S Q = Q (.dat (.bl (decide (i ≤ j)))) S := rfl
theorem op_gt_i : Rn (opGt (.int i) (.int j)) S Q = Q (.dat (.bl (decide (j < i)))) S := rfl
theorem op_ge_i : Rn (opGe (.int i) (.int j)) S Q = Q (.dat (.bl (decide (j ≤ i)))) S := rfl
theorem op_int_i : Rn (opInt (.int i)) S Q = Q (.dat (.int i)) S := rfl
theorem op_abs_i : Rn (opAbs (.int i)) S Q = Q (.dat (.int (if i < 0 then -i else i))) S := rfl
theorem op_len_l : Rn (opLen (.lst ds)) S Q = Q (.dat (.int ds.length)) S := rfl
theorem op_len_t : Rn (opLen (.tup ds)) S Q = Q (.dat (.int ds.length)) S := rfl
theorem op_len_r : Rn (opLen (.rol ds)) S Q = Q (.dat (.int ds.length)) S := rfl
theorem op_tup_l : Rn (opTuple (.lst ds)) S Q = Q (.dat (.tup ds)) S := rfl
theorem op_tup_t : Rn (opTuple (.tup ds)) S Q = Q (.dat (.tup ds)) S := rfl
theorem op_lst_l : Rn (opList (.lst ds)) S Q = Q (.new (.lst ds)) S := rfl
theorem op_lst_t : Rn (opList (.tup ds)) S Q = Q (.new (.lst ds)) S := rfl
theorem op_max_i : Rn (opMax2 (.int i) (.int j)) S Q = Q (.dat (.int (if j > i then j else i))) S := rfl
theorem op_eq_i : Rn (opEq b (.int i) (.int j)) S Q = Q (.dat (.bl ((i == j) != b))) S := by
  have : D.eqv (.int i) (.int j) = some (i == j) := by
    unfold D.eqv
    simp [D.py, SeqAt.shaped, PyData.canLay0, PyData.depth, PyData.eqv]
  unfold opEq
  rw [this]; rfl
theorem op_eq_s (hx : PyData.strOk x = true) (hy : PyData.strOk y = true) : Rn (opEq b (.str x) (.str y)) S Q = Q (.dat (.bl ((x == y) != b))) S := by
  have : D.eqv (.str x) (.str y) = some (x == y) := by
    unfold D.eqv
    simp [D.py, SeqAt.shaped, PyData.canLay0, PyData.depth, PyData.eqv, hx, hy]
  unfold opEq
  rw [this]; rfl
theorem ok_go : PyData.strOk "go" = true := by decide +kernel
theorem ok_get : PyData.strOk "get" = true := by decide +kernel
theorem eq_go_go : Rn (opEq b (.str "go") (.str "go")) S Q = Q (.dat (.bl (true != b))) S := by rw [op_eq_s ok_go ok_go]; rfl
theorem eq_get_get : Rn (opEq b (.str "get") (.str "get")) S Q = Q (.dat (.bl (true != b))) S := by rw [op_eq_s ok_get ok_get]; rfl
theorem eq_go_get : Rn (opEq b (.str "go") (.str "get")) S Q = Q (.dat (.bl (false != b))) S := by
  rw [op_eq_s ok_go ok_get, show (("go" : Str) == ("get" : Str)) = false by decide +kernel]
theorem eq_get_go : Rn (opEq b (.str "get") (.str "go")) S Q = Q (.dat (.bl (false != b))) S := by
  rw [op_eq_s ok_get ok_go, show (("get" : Str) == ("go" : Str)) = false by decide +kernel]
theorem op_sl_l {lo hi : Option Int} : Rn (opSl (.lst ds) lo hi) S Q = Q (.new (.lst (cutD ds lo hi))) S := rfl
theorem op_sl_r {lo hi : Option Int} : Rn (opSl (.rol ds) lo hi) S Q = Q (.new (.lst (cutD ds lo hi))) S := rfl
theorem op_sl_t {lo hi : Option Int} : Rn (opSl (.tup ds) lo hi) S Q = Q (.dat (.tup (cutD ds lo hi))) S := rfl
theorem atI_nat {α : Type} {l : List α} {m : Nat} {a : α} (h : l[m]? = some a) : atI l (m : Int) = some a := by
  have hl : m < l.length := (List.getElem?_eq_some_iff.mp h).1
  unfold atI ixN
  have h0 : (0 : Int) ≤ (m : Int) := by omega
  have h1 : (m : Int) < (l.length : Int) := by omega
  rw [if_pos h0, if_pos h1]
  simpa using h
theorem op_ix_t0 : Rn (opIx (.tup (d :: ds)) (.int 0)) S Q = Q (.dat d) S := by
  have : D.item (.tup (d :: ds)) (.int 0) = some d := atI_nat (m := 0) rfl
  unfold opIx; rw [this]; rfl
theorem op_ix_t1 {d2 : D} : Rn (opIx (.tup (d :: d2 :: ds)) (.int 1)) S Q = Q (.dat d2) S := by
  have : D.item (.tup (d :: d2 :: ds)) (.int 1) = some d2 := atI_nat (m := 1) rfl
  unfold opIx; rw [this]; rfl
theorem op_ix_t2 {d2 d3 : D} : Rn (opIx (.tup (d :: d2 :: d3 :: ds)) (.int 2)) S Q = Q (.dat d3) S := by
  have : D.item (.tup (d :: d2 :: d3 :: ds)) (.int 2) = some d3 := atI_nat (m := 2) rfl
  unfold opIx; rw [this]; rfl
theorem op_ix_l0 : Rn (opIx (.lst (d :: ds)) (.int 0)) S Q = Q (.dat d) S := by
  have : D.item (.lst (d :: ds)) (.int 0) = some d := atI_nat (m := 0) rfl
  unfold opIx; rw [this]; rfl
theorem op_ix_tn {k : Nat} (h : ds[k]? = some d) : Rn (opIx (.tup ds) (.int (k : Nat))) S Q = Q (.dat d) S := by
  have : D.item (.tup ds) (.int (k : Nat)) = some d := atI_nat h
  unfold opIx; rw [this]; rfl
theorem op_ix_ln {k : Nat} (h : ds[k]? = some d) : Rn (opIx (.lst ds) (.int (k : Nat))) S Q = Q (.dat d) S := by
  have : D.item (.lst ds) (.int (k : Nat)) = some d := atI_nat h
  unfold opIx; rw [this]; rfl
end
end
end DL
end
section
set_option maxRecDepth 100000
namespace DL
open PySem L2
local macro_rules | `(tactic| simp! only) => `(tactic| simp -implicitDefEqProofs only [rn_bind, rn_pure, rn_no, rn_need, rn_opt1, rn_ite, rn_var, rn_put, rn_useD, rn_useN, rn_useO, rn_chkD, rn_chkN, rn_chkO, rn_call, rn_seq, rn_guard, rn_forIn, rn_for0, rn_setD, rn_setN, rn_setO, binM, binMO, unM, cmpT, testM, andT, orT, notT, ifM, asgM, retM, exprM, kM, consA, nilA, tupM, lstM, useAll, chkAll, slM, partM, DL.andM, DL.orM, DL.notM, negM, asgG, gN, gT, gsC, gsN, seqI, frzM, asgTM, dnewM, par2M, hold_d, hold_n, hold_o, d_d, d_n, d_o, out_d, out_n, out_o, fo_next, fo_ret, isBl_b, isInt_i, tr_i, tr_b, tr_n, tr_l, tr_t, it_l, it_r, it_t, li_l, li_r, op_add_i, op_add_l, op_add_t, op_sub_i, op_mul_i, op_mod_i, op_div_i, op_pow_i, op_lt_i, op_le_i, op_gt_i, op_ge_i, op_int_i, op_abs_i, op_len_l, op_len_t, op_len_r, op_tup_l, op_tup_t, op_lst_l, op_lst_t, op_max_i, op_eq_i, eq_go_go, eq_get_get, eq_go_get, eq_get_go, Bool.bne_false, Bool.bne_true, Bool.not_true, Bool.not_false, op_sl_l, op_sl_r, op_sl_t, op_ix_t0, op_ix_t1, op_ix_t2, op_ix_l0, List.getElem?_cons_zero, List.getElem?_cons_succ, List.set_cons_zero, List.set_cons_succ, List.map_cons, List.map_nil, List.length_cons, List.length_nil, List.cons_append, List.nil_append, if_true, if_false, Bool.false_eq_true, decide_eq_true_eq, and_true, true_and, ite_true, ite_false, reduceCtorEq])
local macro_rules | `(tactic| simp! only [$ls,*]) => `(tactic| simp -implicitDefEqProofs only [rn_bind, rn_pure, rn_no, rn_need, rn_opt1, rn_ite, rn_var, rn_put, rn_useD, rn_useN, rn_useO, rn_chkD, rn_chkN, rn_chkO, rn_call, rn_seq, rn_guard, rn_forIn, rn_for0, rn_setD, rn_setN, rn_setO, binM, binMO, unM, cmpT, testM, andT, orT, notT, ifM, asgM, retM, exprM, kM, consA, nilA, tupM, lstM, useAll, chkAll, slM, partM, DL.andM, DL.orM, DL.notM, negM, asgG, gN, gT, gsC, gsN, seqI, frzM, asgTM, dnewM, par2M, hold_d, hold_n, hold_o, d_d, d_n, d_o, out_d, out_n, out_o, fo_next, fo_ret, isBl_b, isInt_i, tr_i, tr_b, tr_n, tr_l, tr_t, it_l, it_r, it_t, li_l, li_r, op_add_i, op_add_l, op_add_t, op_sub_i, op_mul_i, op_mod_i, op_div_i, op_pow_i, op_lt_i, op_le_i, op_gt_i, op_ge_i, op_int_i, op_abs_i, op_len_l, op_len_t, op_len_r, op_tup_l, op_tup_t, op_lst_l, op_lst_t, op_max_i, op_eq_i, eq_go_go, eq_get_get, eq_go_get, eq_get_go, Bool.bne_false, Bool.bne_true, Bool.not_true, Bool.not_false, op_sl_l, op_sl_r, op_sl_t, op_ix_t0, op_ix_t1, op_ix_t2, op_ix_l0, List.getElem?_cons_zero, List.getElem?_cons_succ, List.set_cons_zero, List.set_cons_succ, List.map_cons, List.map_nil, List.length_cons, List.length_nil, List.cons_append, List.nil_append, if_true, if_false, Bool.false_eq_true, decide_eq_true_eq, and_true, true_and, ite_true, ite_false, reduceCtorEq, $ls,*])
structure Bag where
  a : Int
  b : Int
  c : Int
  cs : List Int
structure Bag.Ok (x : Bag) : Prop where
  a0 : 0 ≤ x.a
  b0 : 0 ≤ x.b
  c0 : 0 ≤ x.c
  cs0 : ∀ v ∈ x.cs, 0 ≤ v
def bagD (x : Bag) : D := .lst [.int x.a, .int x.b, .int x.c, .rol (x.cs.map .int)]
def takeB : M Fl := (seqM (ifM (cmpT (opEq false) (binMO opIx (varM 0) (kM (.int 0))) (kM (.int 0))) (seqM (asgM 4 (binM opIx (binM opAdd (slM (binMO opIx (varM 0) (kM (.int 3))) (partM (binMO opIx (varM 0) (kM (.int 2)))) (pure none)) (lstM (consA (kM (.int 0)) nilA))) (kM (.int 0))))
  (seqM (augSM 0 (fun i j => i + j) (kM (.int 2)) (kM (.int 1)))
  (seqM (ifM (cmpT opGe (varM 4) (binM opPow (kM (.int 10)) (kM (.int 18)))) (storeM 0 (varM 4) (kM (.int 0))) (pure .next))
  (seqM (asgM 5 (binM opAdd (binM opAdd (binM opMul (binMO opIx (varM 0) (kM (.int 1))) (kM (.int 48271))) (binM opMod (unM opInt (varM 4)) (kM (.int 2147483647)))) (binM opMul (kM (.int 7919)) (binMO opIx (varM 0) (kM (.int 2))))))
  (storeM 0 (binM opMod (unM opInt (varM 5)) (kM (.int 2147483647))) (kM (.int 1))))))) (pure .next))
  (seqM (ifM (cmpT opGt (binMO opIx (varM 0) (kM (.int 0))) (kM (.int 0))) (seqM (asgM 6 (binM opMod (unM opInt (binMO opIx (varM 0) (kM (.int 0)))) (varM 1)))
  (seqM (storeM 0 (binM opDiv (unM opInt (binMO opIx (varM 0) (kM (.int 0)))) (varM 1)) (kM (.int 0)))
  (retM (varM 6)))) (pure .next))
  (seqM (asgM 2 (binM opMod (unM opInt (binM opMul (binM opAdd (binMO opIx (varM 0) (kM (.int 1))) (kM (.int 1))) (kM (.int 39373)))) (kM (.int 1000000007))))
  (seqM (asgM 3 (binM opMod (unM opInt (binM opMul (binM opMod (unM opInt (binM opMul (varM 2) (varM 2))) (kM (.int 998244353))) (kM (.int 30011)))) (kM (.int 998244353))))
  (retM (binM opMod (unM opInt (binM opDiv (varM 3) (kM (.int 7)))) (varM 1)))))))
section
variable {x : Bag} {env : List Slot} {u : Int}
theorem rn_peek0 {Q : D → Sx → Prop} {d : D} {r : List D} : Rn (peekM (.obj 0)) ⟨env, d :: r⟩ Q = Q d ⟨env, d :: r⟩ := rfl
theorem ix_0 {Q : Res → Sx → Prop} {S : Sx} : Rn (opIx (bagD x) (.int 0)) S Q = Q (.dat (.int x.a)) S := rfl
theorem ix_1 {Q : Res → Sx → Prop} {S : Sx} : Rn (opIx (bagD x) (.int 1)) S Q = Q (.dat (.int x.b)) S := rfl
theorem ix_2 {Q : Res → Sx → Prop} {S : Sx} : Rn (opIx (bagD x) (.int 2)) S Q = Q (.dat (.int x.c)) S := rfl
theorem ix_3 {Q : Res → Sx → Prop} {S : Sx} : Rn (opIx (bagD x) (.int 3)) S Q = Q (.dat (.rol (x.cs.map .int))) S := rfl
def Bag.st (x : Bag) : Nat → Int → Bag
  | 0, v => { x with a := v }
  | 1, v => { x with b := v }
  | _, v => { x with c := v }
theorem cut_head (cs : List Int) (h : ∀ v ∈ cs, 0 ≤ v) (c : Int) : ∃ (v : Int) (r : List D), 0 ≤ v ∧ cutD (cs.map D.int) (some c) none ++ [.int 0] = .int v :: r := by
  have key : ∀ (l : List Int), (∀ v ∈ l, 0 ≤ v) → ∃ (v : Int) (r : List D), 0 ≤ v ∧ l.map D.int ++ [.int 0] = .int v :: r := by
    intro l hl
    cases l with
    | nil => exact ⟨0, [], Int.le_refl _, rfl⟩
    | cons w t => exact ⟨w, t.map D.int ++ [.int 0], hl w List.mem_cons_self, rfl⟩
  unfold cutD
  rw [← List.map_drop, ← List.map_take]
  exact key _ fun v hv => h v (List.mem_of_mem_drop (List.mem_of_mem_take hv))
theorem cut_len {ds : List D} {lo hi : Option Int} : (cutD ds lo hi).length ≤ ds.length := by
  unfold cutD
  rw [List.length_take, List.length_drop]; omega
theorem rn_storeM {Q : Fl → Sx → Prop} {f h : M Res} {i : Nat} {S : Sx} : Rn (storeM i f h) S Q = Rn f S fun r S1 => Rn (useM r) S1 fun x S2 => (whereM i S2).isSome = true ∧ Rn h S2 fun rk S3 => Rn (useM rk) S3 fun k S4 => Rn (storeK i k x) S4 fun _ S5 => Q .next S5 := by
  unfold storeM
  simp only [rn_bind, rn_guard, rn_pure]
theorem where_b {o : List D} : (whereM 0 ⟨.dat (.obj 0) :: env, bagD x :: o⟩).isSome = true := rfl
theorem st_b0 {Q : Unit → Sx → Prop} {o : List D} {v : Int} : Rn (storeK 0 (.int 0) (.int v)) ⟨.dat (.obj 0) :: env, bagD x :: o⟩ Q = Q () ⟨.dat (.obj 0) :: env, bagD { x with a := v } :: o⟩ := rfl
theorem st_b1 {Q : Unit → Sx → Prop} {o : List D} {v : Int} : Rn (storeK 0 (.int 1) (.int v)) ⟨.dat (.obj 0) :: env, bagD x :: o⟩ Q = Q () ⟨.dat (.obj 0) :: env, bagD { x with b := v } :: o⟩ := rfl
theorem aug_b2 {Q : Fl → Sx → Prop} {o : List D} : Rn (augSM 0 (fun i j => i + j) (pure (.dat (.int 2))) (pure (.dat (.int 1)))) ⟨.dat (.obj 0) :: env, bagD x :: o⟩ Q = Q .next ⟨.dat (.obj 0) :: env, bagD { x with c := x.c + 1 } :: o⟩ := rfl
theorem big_list {n : Nat} (h : n ≤ 64) : n ≤ sizeLine := Nat.le_trans h (by decide)
def takeEnv (u : Int) (s4 s5 : Slot) : List Slot := [.dat (.obj 0), .dat (.int u), .un, .un, s4, s5, .un]
theorem take1 (hx : x.Ok) (hcs : x.cs.length ≤ 63) (u : Int) : Rn (ifM (cmpT (opEq false) (binMO opIx (varM 0) (kM (.int 0))) (kM (.int 0))) (seqM (asgM 4 (binM opIx (binM opAdd (slM (binMO opIx (varM 0) (kM (.int 3))) (partM (binMO opIx (varM 0) (kM (.int 2)))) (pure none)) (lstM (consA (kM (.int 0)) nilA))) (kM (.int 0))))
  (seqM (augSM 0 (fun i j => i + j) (kM (.int 2)) (kM (.int 1)))
  (seqM (ifM (cmpT opGe (varM 4) (binM opPow (kM (.int 10)) (kM (.int 18)))) (storeM 0 (varM 4) (kM (.int 0))) (pure .next))
  (seqM (asgM 5 (binM opAdd (binM opAdd (binM opMul (binMO opIx (varM 0) (kM (.int 1))) (kM (.int 48271))) (binM opMod (unM opInt (varM 4)) (kM (.int 2147483647)))) (binM opMul (kM (.int 7919)) (binMO opIx (varM 0) (kM (.int 2))))))
  (storeM 0 (binM opMod (unM opInt (varM 5)) (kM (.int 2147483647))) (kM (.int 1))))))) (pure .next)) ⟨takeEnv u .un .un, [bagD x]⟩
    fun fl S' => fl = .next ∧ ∃ x' s4 s5, Bag.Ok x' ∧ x'.cs = x.cs ∧ S' = ⟨takeEnv u s4 s5, [bagD x']⟩ := by
  unfold takeEnv
  simp! only [rn_peek0, ix_0, ix_1, ix_2, ix_3]
  by_cases h0 : x.a = 0
  · have e0 : (x.a == 0) = true := by simp [h0]
    obtain ⟨v, r, hv, ec⟩ := cut_head x.cs hx.cs0 x.c
    have hl : (cutD (x.cs.map D.int) (some x.c) none).length + ([D.int 0] : List D).length ≤ sizeLine := by
      refine big_list ?_
      have := cut_len (ds := x.cs.map D.int) (lo := some x.c) (hi := none)
      rw [List.length_map] at this
      simp; omega
    rw [if_pos e0]
    simp! only [rn_peek0, ix_0, ix_1, ix_2, ix_3, ec]
    refine ⟨by decide, hl, ?_⟩
    simp! only [rn_peek0, ix_0, ix_1, ix_2, ix_3, aug_b2, rn_storeM, where_b, st_b0, st_b1]
    have m0 : ∀ k : Int, 0 ≤ k.fmod 2147483647 := fun k => by rw [Int.fmod_eq_emod_of_nonneg _ (by decide)]; exact Int.emod_nonneg _ (by decide)
    refine ⟨by decide, ?_⟩
    split
    · exact ⟨.inr (by decide), by decide, .inl (by decide), by decide, ⟨v, (x.b * 48271 + v.fmod 2147483647 + 7919 * (x.c + 1)).fmod 2147483647, x.c + 1, x.cs⟩, _, _, ⟨hv, m0 _, by have := hx.c0; show 0 ≤ x.c + 1; omega, hx.cs0⟩, rfl, rfl⟩
    · exact ⟨.inr (by decide), by decide, .inl (by decide), by decide, ⟨x.a, (x.b * 48271 + v.fmod 2147483647 + 7919 * (x.c + 1)).fmod 2147483647, x.c + 1, x.cs⟩, _, _, ⟨hx.a0, m0 _, by have := hx.c0; show 0 ≤ x.c + 1; omega, hx.cs0⟩, rfl, rfl⟩
  · have e0 : (x.a == 0) = false := by simp [h0]
    rw [if_neg (by rw [e0]; exact Bool.false_ne_true)]
    exact ⟨x, .un, .un, hx, rfl, rfl⟩
theorem take_ok (hx : x.Ok) (hcs : x.cs.length ≤ 63) (hu : 0 < u) (hu2 : u < 1073741824) : Dr (runB 7 takeB) [.obj 0, .int u] [bagD x] fun r o => ∃ (k : Int) (x' : Bag), r = .dat (.int k) ∧ 0 ≤ k ∧ k < u ∧ o = [bagD x'] ∧ x'.Ok ∧ x'.cs = x.cs := by
  rw [dr_run]
  show Rn takeB ⟨takeEnv u .un .un, [bagD x]⟩ _
  unfold takeB
  rw [rn_seq]
  refine (take1 hx hcs u).mono ?_
  rintro fl S' ⟨rfl, y, s4, s5, hy, hcy, rfl⟩
  have mu : ∀ k : Int, 0 ≤ k.fmod u ∧ k.fmod u < u := fun k => by
    rw [Int.fmod_eq_emod_of_nonneg _ (by omega)]
    exact ⟨Int.emod_nonneg _ (by omega), Int.emod_lt_of_pos _ hu⟩
  have m1 : ∀ k j : Int, 0 < j → 0 ≤ k.fmod j ∧ k.fmod j < j := fun k j hj => by
    rw [Int.fmod_eq_emod_of_nonneg _ (by omega)]
    exact ⟨Int.emod_nonneg _ (by omega), Int.emod_lt_of_pos _ hj⟩
  unfold takeEnv
  simp! only [rn_peek0, ix_0, ix_1, ix_2, ix_3, aug_b2, rn_storeM, where_b, st_b0, st_b1]
  split
  · refine ⟨by omega, ⟨by omega, by omega⟩, _, _, rfl, (mu _).1, (mu _).2, rfl, ⟨?_, hy.b0, hy.c0, hy.cs0⟩, hcy⟩
    show 0 ≤ y.a.fdiv u
    rw [Int.fdiv_eq_ediv_of_nonneg _ (by omega)]
    exact Int.ediv_nonneg hy.a0 (by omega)
  · have b1 := m1 ((y.b + 1) * 39373) 1000000007 (by decide)
    refine ⟨.inr (by decide), by decide, .inl ⟨by omega, by omega⟩, by decide, .inr (by decide), by decide, ⟨by decide, by decide⟩, by omega, _, _, rfl, (mu _).1, (mu _).2, rfl, hy, hcy⟩
end
end DL
end
section
set_option maxRecDepth 100000
namespace DL
open PySem L2
def Cw (turn : D → M (Option D)) (env : List Slot) (ds acc o : List D) (P : List D → List D → Prop) : Prop := match compL turn env ds acc o with
  | some (a, o') => P a o'
  | none => False
section
variable {turn : D → M (Option D)} {env : List Slot} {ds acc o : List D} {P : List D → List D → Prop} {d : D} {S : Sx}
theorem cw_nil : Cw turn env [] acc o P = P acc o := rfl
theorem cw_cons : Cw turn env (d :: ds) acc o P = Rn (turn d) ⟨env, o⟩ fun x S' => match x with | some v => acc.length < sizeLine ∧ Cw turn env ds (acc ++ [v]) S'.objs P | none => Cw turn env ds acc S'.objs P := by
  unfold Cw
  rw [compL]
  unfold Rn
  cases turn d ⟨env, o⟩ with
  | none => rfl
  | some p =>
    obtain ⟨r, S'⟩ := p
    cases r with
    | error x => rfl
    | ok x =>
      cases x with
      | none => rfl
      | some v =>
        by_cases h : acc.length < sizeLine
        · simp [h]
        · simp [h]
theorem rn_lc {Q : Res → Sx → Prop} {it : M (List D)} {own : List Nat} : Rn (lcM it own turn) S Q = Rn it S fun ds S' => Cw turn (wipeE (S'.env.map Slot.frz) own) ds [] S'.objs fun acc o' =>
    if (D.imms acc && o'.all fun o => D.imms o.parts) = true then Q (.new (.lst acc)) ⟨S'.env, o'⟩ else Q (.new (.lst acc)) ⟨S'.env.map Slot.frz, o'⟩ := by
  refine (rn_bind (f := it)).trans ?_
  congr 1
  funext ds S'
  unfold Rn Cw
  dsimp only
  cases compL turn (wipeE (S'.env.map Slot.frz) own) ds [] S'.objs with
  | none => rfl
  | some p =>
    obtain ⟨a, o'⟩ := p
    by_cases c : (D.imms a && o'.all fun o => D.imms o.parts) = true
    · simp [c]
    · simp [c]
theorem Cw.mono {P' : List D → List D → Prop} (h : Cw turn env ds acc o P) (q : ∀ a o', P a o' → P' a o') : Cw turn env ds acc o P' := by
  unfold Cw at h ⊢
  split at h
  · exact q _ _ h
  · exact h.elim
theorem cw_map {F : D → Option D} : ∀ {ds acc : List D}, acc.length + ds.length ≤ sizeLine → (∀ d ∈ ds, Rn (turn d) ⟨env, o⟩ fun x S' => x = F d ∧ S'.objs = o) → P (acc ++ ds.filterMap F) o → Cw turn env ds acc o P
  | [], acc, _, _, q => by rw [cw_nil]; simpa using q
  | d :: ds, acc, hl, h, q => by
    rw [cw_cons]
    have hl' : acc.length + (ds.length + 1) ≤ sizeLine := by simpa using hl
    refine (h d List.mem_cons_self).mono ?_
    rintro x S' ⟨rfl, e⟩
    cases hF : F d with
    | none =>
      simp only
      rw [e]
      exact cw_map (by omega) (fun c hc => h c (List.mem_cons_of_mem _ hc)) (by simpa [List.filterMap_cons, hF] using q)
    | some v =>
      simp only
      rw [e]
      refine ⟨by omega, cw_map (by simp; omega) (fun c hc => h c (List.mem_cons_of_mem _ hc)) ?_⟩
      simpa [List.filterMap_cons, hF] using q
theorem rn_turn {Q : Option D → Sx → Prop} {tgt : D → M Unit} {t : M Bool} {f : M Res} : Rn (turnM tgt t f d) S Q = Rn (tgt d) S fun _ S1 => Rn t S1 fun b S2 => if b = true then Rn f S2 fun r S3 => Rn (useM r) S3 fun x S4 => Q (some x) S4 else Q none S2 := by
  unfold turnM
  simp only [rn_bind, rn_ite, rn_pure]
def Cw2 (t1 : D → M (Option (List D))) (t2 : D → M (Option D)) (env : List Slot) (vs : List Nat) (ds acc o : List D) (P : List D → List D → Prop) : Prop := match compL2 t1 t2 env vs ds acc o with
  | some (a, o') => P a o'
  | none => False
variable {t1 : D → M (Option (List D))} {vs : List Nat}
theorem rn_lc2 {Q : Res → Sx → Prop} {it : M (List D)} {own : List Nat} : Rn (lcM2 it own vs t1 turn) S Q = Rn it S fun ds S' => Cw2 t1 turn (wipeE (S'.env.map Slot.frz) own) vs ds [] S'.objs fun acc o' =>
    if (D.imms acc && o'.all fun o => D.imms o.parts) = true then Q (.new (.lst acc)) ⟨S'.env, o'⟩ else Q (.new (.lst acc)) ⟨S'.env.map Slot.frz, o'⟩ := by
  refine (rn_bind (f := it)).trans ?_
  congr 1
  funext ds S'
  unfold Rn Cw2
  dsimp only
  cases compL2 t1 turn (wipeE (S'.env.map Slot.frz) own) vs ds [] S'.objs with
  | none => rfl
  | some p =>
    obtain ⟨a, o'⟩ := p
    unfold outL
    by_cases c : (D.imms a && o'.all fun o => D.imms o.parts) = true
    · simp [c]
    · simp [c]
theorem rn_turn1 {Q : Option (List D) → Sx → Prop} {tgt : D → M Unit} {t : M Bool} {it : M (List D)} : Rn (turn1M tgt t it d) S Q = Rn (tgt d) S fun _ S1 => Rn t S1 fun b S2 => if b = true then Rn it S2 fun ds S3 => Q (some ds) S3 else Q none S2 := by
  unfold turn1M
  simp only [rn_bind, rn_ite, rn_pure]
theorem for_inv {Q : Fl → Sx → Prop} {tgt : D → M Unit} {b : M Fl} {I : List D → Sx → Prop} : ∀ {ds : List D} {S : Sx}, I ds S →
    (∀ d ds S, I (d :: ds) S → Rn (tgt d) S fun _ S1 => Rn b S1 fun fl S2 => match fl with
      | .next => I ds S2
      | .cont => I ds S2
      | .brk => Q .next S2
      | .ret r => Q (.ret r) S2) → (∀ S, I [] S → Q .next S) → Rn (forM tgt b ds) S Q
  | [], S, i, _, q => q S i
  | d :: ds, S, i, h, q => by
    rw [rn_for1]
    refine (h d ds S i).mono fun _ S1 h1 => h1.mono fun fl S2 h2 => ?_
    cases fl with
    | next => exact for_inv h2 h q
    | cont => exact for_inv h2 h q
    | brk => exact h2
    | ret r => exact h2
theorem while_inv {Q : Fl → Sx → Prop} {t : M Bool} {b : M Fl} {I : Nat → Sx → Prop} : ∀ {n m : Nat} {S : Sx}, m < n → I m S →
    (∀ m S, I m S → Rn t S fun c S1 => if c = true then Rn b S1 fun fl S2 => match fl with
      | .next => ∃ m', m' < m ∧ I m' S2
      | .cont => ∃ m', m' < m ∧ I m' S2
      | .brk => Q .next S2
      | .ret r => Q (.ret r) S2 else Q .next S1) → Rn (whileM t b n) S Q
  | 0, m, S, hl, _, _ => absurd hl (Nat.not_lt_zero _)
  | n + 1, m, S, hl, i, h => by
    rw [rn_while]
    refine (h m S i).mono fun c S1 h1 => ?_
    by_cases e : c = true
    · rw [if_pos e] at h1 ⊢
      refine h1.mono fun fl S2 h2 => ?_
      cases fl with
      | next => obtain ⟨m', l, i'⟩ := h2; exact while_inv (by omega) i' h
      | cont => obtain ⟨m', l, i'⟩ := h2; exact while_inv (by omega) i' h
      | brk => exact h2
      | ret r => exact h2
    · rw [if_neg e] at h1 ⊢
      exact h1
end
theorem rn_frz {Q : Res → Sx → Prop} {S : Sx} {ds : List D} : Rn (frzK (.new (.lst ds))) S Q = Q (.dat (.rol ds)) S := rfl
def tyAt (T : String) (o : List D) : Option Slot → Bool
  | some (.own d) => d.isT T
  | some (.dat (.obj n)) => match o[n]? with
    | some d => d.isT T
    | none => false
  | _ => false
def mkAt (op : D → D → Option (D × D)) (x : D) (i : Nat) (env : List Slot) (o : List D) (Q : Res → Sx → Prop) : Option Slot → Prop
  | some (.own d) => ∃ r d', op d x = some (r, d') ∧ Q (.dat r) ⟨env.set i (.own d'), o⟩
  | some (.dat (.obj n)) => ∃ d r d', o[n]? = some d ∧ op d x = some (r, d') ∧ Q (.dat r) ⟨env, o.set n d'⟩
  | _ => False
def stAt (k x : D) (i : Nat) (env : List Slot) (o : List D) (Q : Unit → Sx → Prop) : Option Slot → Prop
  | some (.own d) => ∃ d', d.store k x = some d' ∧ Q () ⟨env.set i (.own d'), o⟩
  | some (.dat (.obj n)) => ∃ d d', o[n]? = some d ∧ d.store k x = some d' ∧ Q () ⟨env, o.set n d'⟩
  | _ => False
section
variable {env : List Slot} {o : List D} {i : Nat} {d x : D} {ds es : List D} {P : D → D → Prop}
theorem isTM_eq {T : String} : isTM T i ⟨env, o⟩ = tyAt T o env[i]? := by
  unfold isTM whereM tyAt
  cases env[i]? with
  | none => rfl
  | some s =>
    cases s with
    | un => rfl
    | own d => rfl
    | dat d =>
      cases d <;> first | rfl | skip
      rename_i n
      dsimp only
      cases o[n]? <;> rfl
theorem rn_mk {Q : Res → Sx → Prop} {op : D → D → Option (D × D)} : Rn (methK i op x) ⟨env, o⟩ Q = mkAt op x i env o Q env[i]? := by
  rw [rn_meth]
  unfold whereM mkAt
  cases env[i]? with
  | none => exact propext ⟨fun ⟨_, _, _, _, e, _⟩ => (by cases e), fun h => h.elim⟩
  | some s =>
    cases s with
    | un => exact propext ⟨fun ⟨_, _, _, _, e, _⟩ => (by cases e), fun h => h.elim⟩
    | own d => exact propext ⟨fun ⟨_, _, r, d', e, h, q⟩ => by cases e; exact ⟨r, d', h, q⟩, fun ⟨r, d', h, q⟩ => ⟨.own, d, r, d', rfl, h, q⟩⟩
    | dat d =>
      cases d <;> first | exact propext ⟨fun ⟨_, _, _, _, e, _⟩ => (by cases e), fun h => h.elim⟩ | skip
      rename_i n
      dsimp only
      cases ho : o[n]? with
      | none => exact propext ⟨fun ⟨_, _, _, _, e, _⟩ => (by cases e), fun ⟨_, _, _, e, _⟩ => (by cases e)⟩
      | some d => exact propext ⟨fun ⟨_, _, r, d', e, h, q⟩ => by cases e; exact ⟨d, r, d', rfl, h, q⟩, fun ⟨_, r, d', e, h, q⟩ => by cases e; exact ⟨.obj n, d, r, d', rfl, h, q⟩⟩
theorem rn_st {Q : Unit → Sx → Prop} {k : D} : Rn (storeK i k x) ⟨env, o⟩ Q = stAt k x i env o Q env[i]? := by
  rw [rn_store]
  unfold whereM stAt
  cases env[i]? with
  | none => exact propext ⟨fun ⟨_, _, _, e, _⟩ => (by cases e), fun h => h.elim⟩
  | some s =>
    cases s with
    | un => exact propext ⟨fun ⟨_, _, _, e, _⟩ => (by cases e), fun h => h.elim⟩
    | own d => exact propext ⟨fun ⟨_, _, d', e, h, q⟩ => by cases e; exact ⟨d', h, q⟩, fun ⟨d', h, q⟩ => ⟨.own, d, d', rfl, h, q⟩⟩
    | dat d =>
      cases d <;> first | exact propext ⟨fun ⟨_, _, _, e, _⟩ => (by cases e), fun h => h.elim⟩ | skip
      rename_i n
      dsimp only
      cases ho : o[n]? with
      | none => exact propext ⟨fun ⟨_, _, _, e, _⟩ => (by cases e), fun ⟨_, _, e, _⟩ => (by cases e)⟩
      | some d => exact propext ⟨fun ⟨_, _, d', e, h, q⟩ => by cases e; exact ⟨d, d', rfl, h, q⟩, fun ⟨_, d', e, h, q⟩ => by cases e; exact ⟨.obj n, d, d', rfl, h, q⟩⟩
theorem rn_methM {Q : Res → Sx → Prop} {T : String} {f : M Res} {op : D → D → Option (D × D)} {S : Sx} : Rn (methM T i f op) S Q = (isTM T i S = true ∧ Rn f S fun r S1 => Rn (useM r) S1 fun x S2 => Rn (methK i op x) S2 Q) := by
  unfold methM
  rw [rn_guard, rn_bind]
  congr 1
  congr 1
  funext r S1
  rw [rn_bind]
theorem rn_methM0 {Q : Res → Sx → Prop} {T : String} {op : D → D → Option (D × D)} {S : Sx} : Rn (methM0 T i op) S Q = (isTM T i S = true ∧ Rn (methK i op .non) S Q) := by
  unfold methM0
  rw [rn_guard]
theorem mk_own {Q : Res → Sx → Prop} {op : D → D → Option (D × D)} : mkAt op x i env o Q (some (.own d)) = ∃ r d', op d x = some (r, d') ∧ Q (.dat r) ⟨env.set i (.own d'), o⟩ := rfl
theorem st_own {Q : Unit → Sx → Prop} {k : D} : stAt k x i env o Q (some (.own d)) = ∃ d', d.store k x = some d' ∧ Q () ⟨env.set i (.own d'), o⟩ := rfl
theorem ty_own : tyAt "list" o (some (.own (.lst ds))) = true := rfl
theorem ex_app : (∃ r d', opAppend (.lst ds) x = some (r, d') ∧ P r d') = (ds.length < sizeLine ∧ P .non (.lst (ds ++ [x]))) := by
  rw [show opAppend (.lst ds) x = if ds.length < sizeLine then some (D.non, D.lst (ds ++ [x])) else none from rfl]
  by_cases h : ds.length < sizeLine
  · exact propext ⟨fun ⟨_, _, e, q⟩ => by rw [if_pos h] at e; cases e; exact ⟨h, q⟩, fun ⟨_, q⟩ => ⟨_, _, if_pos h, q⟩⟩
  · exact propext ⟨fun ⟨_, _, e, q⟩ => (by rw [if_neg h] at e; cases e), fun ⟨h', _⟩ => absurd h' h⟩
theorem ex_ext : (∃ r d', opExtA (.lst ds) (.lst es) = some (r, d') ∧ P r d') = (ds.length + es.length ≤ sizeLine ∧ P .non (.lst (ds ++ es))) := by
  rw [show opExtA (.lst ds) (.lst es) = if ds.length + es.length ≤ sizeLine then some (D.non, D.lst (ds ++ es)) else none from rfl]
  by_cases h : ds.length + es.length ≤ sizeLine
  · exact propext ⟨fun ⟨_, _, e, q⟩ => by rw [if_pos h] at e; cases e; exact ⟨h, q⟩, fun ⟨_, q⟩ => ⟨_, _, if_pos h, q⟩⟩
  · exact propext ⟨fun ⟨_, _, e, q⟩ => (by rw [if_neg h] at e; cases e), fun ⟨h', _⟩ => absurd h' h⟩
theorem ex_extT : (∃ r d', opExtA (.lst ds) (.tup es) = some (r, d') ∧ P r d') = (ds.length + es.length ≤ sizeLine ∧ P .non (.lst (ds ++ es))) := by
  rw [show opExtA (.lst ds) (.tup es) = if ds.length + es.length ≤ sizeLine then some (D.non, D.lst (ds ++ es)) else none from rfl]
  by_cases h : ds.length + es.length ≤ sizeLine
  · exact propext ⟨fun ⟨_, _, e, q⟩ => by rw [if_pos h] at e; cases e; exact ⟨h, q⟩, fun ⟨_, q⟩ => ⟨_, _, if_pos h, q⟩⟩
  · exact propext ⟨fun ⟨_, _, e, q⟩ => (by rw [if_neg h] at e; cases e), fun ⟨h', _⟩ => absurd h' h⟩
theorem ex_rev : (∃ r d', opReverse (.lst ds) x = some (r, d') ∧ P r d') = P .non (.lst ds.reverse) := by
  unfold opReverse
  exact propext ⟨fun ⟨_, _, e, q⟩ => by cases e; exact q, fun q => ⟨_, _, rfl, q⟩⟩
theorem ex_pop : (∃ r d', opPop (.lst (ds ++ [d])) x = some (r, d') ∧ P r d') = P d (.lst ds) := by
  have e : opPop (.lst (ds ++ [d])) x = some (d, .lst ds) := by
    unfold opPop
    simp
  rw [e]
  exact propext ⟨fun ⟨_, _, e, q⟩ => by cases e; exact q, fun q => ⟨_, _, rfl, q⟩⟩
end
structure BOk (x : Bag) : Prop where
  ok : x.Ok
  len : x.cs.length ≤ 63
theorem imms_ints : ∀ ns : List Int, D.imms (ns.map .int) = true
  | [] => rfl
  | n :: r => by simp [D.imms, D.imm, imms_ints r]
theorem bag_imm (x : Bag) : D.imms (bagD x).parts = true := by
  show D.imms [.int x.a, .int x.b, .int x.c, .rol (x.cs.map .int)] = true
  simp [D.imms, D.imm, imms_ints]
theorem bag_all (x : Bag) : ([bagD x].all fun o => D.imms o.parts) = true := by simp [bag_imm]
theorem take_call {x : Bag} {u : Int} {Q : Res → List D → Prop} (hx : BOk x) (hu : 0 < u) (hu2 : u < 1073741824) (h : ∀ (k : Int) (x' : Bag), 0 ≤ k → k < u → BOk x' → Q (.dat (.int k)) [bagD x']) : Dr (runB 7 takeB) [.obj 0, .int u] [bagD x] Q :=
  (take_ok hx.ok hx.len hu hu2).mono fun r o ⟨k, x', e1, k0, k1, e2, hy, hc⟩ => by subst e1 e2; exact h k x' k0 k1 ⟨hy, by rw [hc]; exact hx.len⟩
theorem safe_b {α : Prop} {β : Prop} {x : Bag} {d : D} (hd : d.imm = true) : (if ((Res.dat d).safe && [bagD x].all fun o => D.imms o.parts) = true then α else β) = α := by
  rw [bag_all, show (Res.dat d).safe = true from hd]; rfl
end DL
end
section
set_option maxRecDepth 100000
namespace DL
open PySem L2
local macro_rules | `(tactic| simp! only) => `(tactic| simp -implicitDefEqProofs only [rn_bind, rn_pure, rn_no, rn_need, rn_opt1, rn_ite, rn_var, rn_put, rn_useD, rn_useN, rn_useO, rn_chkD, rn_chkN, rn_chkO, rn_call, rn_seq, rn_guard, rn_forIn, rn_for0, rn_setD, rn_setN, rn_setO, binM, binMO, unM, cmpT, testM, andT, orT, notT, ifM, asgM, retM, exprM, kM, consA, nilA, tupM, lstM, useAll, chkAll, slM, partM, DL.andM, DL.orM, DL.notM, negM, asgG, gN, gT, gsC, gsN, seqI, frzM, asgTM, dnewM, par2M, hold_d, hold_n, hold_o, d_d, d_n, d_o, out_d, out_n, out_o, fo_next, fo_ret, isBl_b, isInt_i, tr_i, tr_b, tr_n, tr_l, tr_t, it_l, it_r, it_t, li_l, li_r, op_add_i, op_add_l, op_add_t, op_sub_i, op_mul_i, op_mod_i, op_div_i, op_pow_i, op_lt_i, op_le_i, op_gt_i, op_ge_i, op_int_i, op_abs_i, op_len_l, op_len_t, op_len_r, op_tup_l, op_tup_t, op_lst_l, op_lst_t, op_max_i, op_eq_i, eq_go_go, eq_get_get, eq_go_get, eq_get_go, Bool.bne_false, Bool.bne_true, Bool.not_true, Bool.not_false, op_sl_l, op_sl_r, op_sl_t, op_ix_t0, op_ix_t1, op_ix_t2, op_ix_l0, List.getElem?_cons_zero, List.getElem?_cons_succ, List.set_cons_zero, List.set_cons_succ, List.map_cons, List.map_nil, List.length_cons, List.length_nil, List.cons_append, List.nil_append, if_true, if_false, Bool.false_eq_true, decide_eq_true_eq, and_true, true_and, ite_true, ite_false, reduceCtorEq])
local macro_rules | `(tactic| simp! only [$ls,*]) => `(tactic| simp -implicitDefEqProofs only [rn_bind, rn_pure, rn_no, rn_need, rn_opt1, rn_ite, rn_var, rn_put, rn_useD, rn_useN, rn_useO, rn_chkD, rn_chkN, rn_chkO, rn_call, rn_seq, rn_guard, rn_forIn, rn_for0, rn_setD, rn_setN, rn_setO, binM, binMO, unM, cmpT, testM, andT, orT, notT, ifM, asgM, retM, exprM, kM, consA, nilA, tupM, lstM, useAll, chkAll, slM, partM, DL.andM, DL.orM, DL.notM, negM, asgG, gN, gT, gsC, gsN, seqI, frzM, asgTM, dnewM, par2M, hold_d, hold_n, hold_o, d_d, d_n, d_o, out_d, out_n, out_o, fo_next, fo_ret, isBl_b, isInt_i, tr_i, tr_b, tr_n, tr_l, tr_t, it_l, it_r, it_t, li_l, li_r, op_add_i, op_add_l, op_add_t, op_sub_i, op_mul_i, op_mod_i, op_div_i, op_pow_i, op_lt_i, op_le_i, op_gt_i, op_ge_i, op_int_i, op_abs_i, op_len_l, op_len_t, op_len_r, op_tup_l, op_tup_t, op_lst_l, op_lst_t, op_max_i, op_eq_i, eq_go_go, eq_get_get, eq_go_get, eq_get_go, Bool.bne_false, Bool.bne_true, Bool.not_true, Bool.not_false, op_sl_l, op_sl_r, op_sl_t, op_ix_t0, op_ix_t1, op_ix_t2, op_ix_l0, List.getElem?_cons_zero, List.getElem?_cons_succ, List.set_cons_zero, List.set_cons_succ, List.map_cons, List.map_nil, List.length_cons, List.length_nil, List.cons_append, List.nil_append, if_true, if_false, Bool.false_eq_true, decide_eq_true_eq, and_true, true_and, ite_true, ite_false, reduceCtorEq, $ls,*])
mutual
def niceP : PyData → Prop
  | .none => True
  | .bool _ => True
  | .int i => i.natAbs < 10 ^ 12
  | .str x => PyData.strOk x = true ∧ PyData.strOk (reprText x) = true
  | .list xs => nicesP xs
  | .tuple xs => nicesP xs
  | .dict _ => False
def nicesP : List PyData → Prop
  | [] => True
  | x :: r => niceP x ∧ nicesP r
end
mutual
theorem nice_lay : ∀ p : PyData, niceP p → p.canLay0 = true
  | .none, _ => by simp [PyData.canLay0]
  | .bool _, _ => by simp [PyData.canLay0]
  | .int i, _ => by simp [PyData.canLay0]
  | .str x, h => by simp [PyData.canLay0]; exact (by simpa [niceP] using h : _ ∧ _).1
  | .list xs, h => by simp [PyData.canLay0]; exact nices_lay xs (by simpa [niceP] using h)
  | .tuple xs, h => by simp [PyData.canLay0]; exact nices_lay xs (by simpa [niceP] using h)
  | .dict _, h => by simp [niceP] at h
theorem nices_lay : ∀ ps : List PyData, nicesP ps → PyData.canLayAll0 ps = true
  | [], _ => by simp [PyData.canLayAll0]
  | p :: r, h => by
    simp only [nicesP] at h
    simp [PyData.canLayAll0, nice_lay p h.1, nices_lay r h.2]
end
theorem log_small {i : Int} (h : i.natAbs < 10 ^ 12) : i.natAbs.log2 < 1920 := by
  by_cases h0 : i.natAbs = 0
  · rw [h0]; decide
  · have : i.natAbs.log2 < 40 := (Nat.log2_lt h0).mpr (Nat.lt_trans h (by decide))
    omega
mutual
theorem nice_show : ∀ p : PyData, niceP p → p.showable = true
  | .none, _ => by simp [PyData.showable]
  | .bool _, _ => by simp [PyData.showable]
  | .int i, h => by simp only [niceP] at h; simp only [PyData.showable, decide_eq_true_eq]; exact log_small h
  | .str x, _ => by simp [PyData.showable]
  | .list xs, h => by simp only [PyData.showable]; exact nices_show xs (by simpa [niceP] using h)
  | .tuple xs, h => by simp only [PyData.showable]; exact nices_show xs (by simpa [niceP] using h)
  | .dict _, h => by simp [niceP] at h
theorem nices_show : ∀ ps : List PyData, nicesP ps → PyData.showableAll ps = true
  | [], _ => by simp [PyData.showableAll]
  | p :: r, h => by
    simp only [nicesP] at h
    simp [PyData.showableAll, nice_show p h.1, nices_show r h.2]
end
mutual
theorem nice_short : ∀ p : PyData, niceP p → PyData.intsShort 13 p = true
  | .none, _ => by simp [PyData.intsShort]
  | .bool _, _ => by simp [PyData.intsShort]
  | .int i, h => by simp only [niceP] at h; simp only [PyData.intsShort, decide_eq_true_eq]; exact PyData.shown_int_le h
  | .str x, _ => by simp [PyData.intsShort]
  | .list xs, h => by simp only [PyData.intsShort]; exact nices_short xs (by simpa [niceP] using h)
  | .tuple xs, h => by simp only [PyData.intsShort]; exact nices_short xs (by simpa [niceP] using h)
  | .dict _, h => by simp [niceP] at h
theorem nices_short : ∀ ps : List PyData, nicesP ps → PyData.intsShortAll 13 ps = true
  | [], _ => by simp [PyData.intsShortAll]
  | p :: r, h => by
    simp only [nicesP] at h
    simp [PyData.intsShortAll, nice_short p h.1, nices_short r h.2]
end
def okC (x : Str) : Prop := ∀ c ∈ x.cps.toList, c < 0x110000
theorem okC_of {x : Str} (h : okC x) : PyData.strOk x = true := by
  unfold PyData.strOk
  rw [Array.all_eq_true']
  intro c hc
  exact decide_eq_true (h c (by simpa using hc))
theorem of_okC {x : Str} (h : PyData.strOk x = true) : okC x := by
  unfold PyData.strOk at h
  rw [Array.all_eq_true'] at h
  intro c hc
  exact of_decide_eq_true (h c (by simpa using hc))
theorem okC_app {x y : Str} (hx : okC x) (hy : okC y) : okC (x ++ y) := fun c hc => by
  rcases PyProof.Rows.mem_cps_append.mp hc with h | h
  · exact hx c h
  · exact hy c h
theorem okC_join {ts : List Str} (h : ∀ t ∈ ts, okC t) : okC (Str.join ", " ts) := fun c hc => by
  rcases (PyProof.Rows.mem_join ", " c ts).mp hc with ⟨t, ht, hc⟩ | ⟨_, hc⟩
  · exact h t ht c hc
  · rw [PyProof.Rows.signs_sep] at hc
    simp at hc
    omega
mutual
theorem nice_ok : ∀ p : PyData, niceP p → okC p.shown
  | .none, _ => of_okC (by decide +kernel)
  | .bool b, _ => by cases b <;> exact of_okC (by decide +kernel)
  | .int i, _ => fun c hc => by
    rcases Nat.lt_or_ge c 0x110000 with h | h
    · exact h
    · exact absurd hc (PyProof.Rows.shown_int_free' (k := c) ⟨by omega, by omega⟩ i)
  | .str x, h => by simp only [niceP] at h; rw [PyData.shown]; exact of_okC h.2
  | .list xs, h => by
    simp only [niceP] at h
    rw [PyData.shown_list]
    exact okC_app (okC_app (of_okC (by decide +kernel)) (okC_join (nices_ok xs h))) (of_okC (by decide +kernel))
  | .tuple xs, h => by
    simp only [niceP] at h
    rw [PyData.shown_tuple]
    refine okC_app (okC_app (of_okC (by decide +kernel)) (okC_join (nices_ok xs h))) ?_
    split <;> exact of_okC (by decide +kernel)
  | .dict _, h => by simp [niceP] at h
theorem nices_ok : ∀ ps : List PyData, nicesP ps → ∀ t ∈ PyData.shownAll ps, okC t
  | [], _, t, ht => by simp [PyData.shownAll] at ht
  | p :: r, h, t, ht => by
    simp only [nicesP] at h
    simp only [PyData.shownAll, List.mem_cons] at ht
    rcases ht with rfl | ht
    · exact nice_ok p h.1
    · exact nices_ok r h.2 t ht
end
def Nc (d : D) (b w : Nat) : Prop := ∃ p, d.py = some p ∧ niceP p ∧ p.depth ≤ b ∧ p.weight ≤ w
def Ncs (ds : List D) (b w : Nat) : Prop := ∃ ps, D.pys ds = some ps ∧ nicesP ps ∧ PyData.depthAll ps ≤ b ∧ PyData.weightAll ps ≤ w
section
variable {d e : D} {ds es : List D} {b w b' w' : Nat}
theorem Nc.mono (h : Nc d b w) (hb : b ≤ b') (hw : w ≤ w') : Nc d b' w' := let ⟨p, h1, h2, h3, h4⟩ := h; ⟨p, h1, h2, by omega, by omega⟩
theorem Ncs.mono (h : Ncs ds b w) (hb : b ≤ b') (hw : w ≤ w') : Ncs ds b' w' := let ⟨p, h1, h2, h3, h4⟩ := h; ⟨p, h1, h2, by omega, by omega⟩
theorem ncs_nil : Ncs [] b w := ⟨[], by simp [D.pys], trivial, by simp [PyData.depthAll], by simp [PyData.weightAll]⟩
theorem ncs_cons (h : Nc d b w) (r : Ncs ds b w') : Ncs (d :: ds) b (w + 1 + w') := by
  obtain ⟨p, h1, h2, h3, h4⟩ := h
  obtain ⟨ps, r1, r2, r3, r4⟩ := r
  exact ⟨p :: ps, by simp [D.pys, h1, r1], ⟨h2, r2⟩, by simp only [PyData.depthAll]; omega, by simp only [PyData.weightAll]; omega⟩
theorem ncs_all : ∀ {ds : List D}, (∀ d ∈ ds, Nc d b w) → Ncs ds b (ds.length * (w + 1))
  | [], _ => ncs_nil
  | d :: r, h => by
    have := ncs_cons (h d List.mem_cons_self) (ncs_all fun e he => h e (List.mem_cons_of_mem _ he))
    refine this.mono (Nat.le_refl _) ?_
    rw [List.length_cons, Nat.add_mul]; omega
theorem nc_tup (h : Ncs ds b w) : Nc (.tup ds) (b + 1) w := by
  obtain ⟨ps, h1, h2, h3, h4⟩ := h
  exact ⟨.tuple ps, by simp [D.py, h1], by simpa [niceP] using h2, by simp only [PyData.depth]; omega, by simpa only [PyData.weight] using h4⟩
theorem nc_lst (h : Ncs ds b w) : Nc (.lst ds) (b + 1) w := by
  obtain ⟨ps, h1, h2, h3, h4⟩ := h
  exact ⟨.list ps, by simp [D.py, h1], by simpa [niceP] using h2, by simp only [PyData.depth]; omega, by simpa only [PyData.weight] using h4⟩
theorem nc_int {i : Int} (h : i.natAbs < 2 ^ 20) : Nc (.int i) b 20 := by
  refine ⟨.int i, by simp [D.py], ?_, by simp [PyData.depth], ?_⟩
  · simp only [niceP]; exact Nat.lt_trans h (by decide)
  · simp only [PyData.weight]
    split
    · omega
    · rename_i h0
      have : i.natAbs ≠ 0 := by simpa using h0
      have := (Nat.log2_lt this).mpr h
      omega
theorem Nc.refl (h : Nc d b w) (hb : b ≤ 64) {Q : Res → Sx → Prop} {S : Sx} {neg : Bool} : Rn (opEq neg d d) S Q = Q (.dat (.bl (true != neg))) S := by
  obtain ⟨p, h1, h2, h3, h4⟩ := h
  have e : D.eqv d d = some true := by
    unfold D.eqv
    rw [h1]
    have l := nice_lay p h2
    simp [SeqAt.shaped, l, show p.depth ≤ 64 by omega, SeqAt.eqv_refl p l]
  unfold opEq
  rw [e]; rfl
theorem Nc.repr (h : Nc d b w) (hb : b ≤ 64) (hw : w ≤ 1048576) : ∃ x : Str, PyData.strOk x = true ∧ ∀ {Q : Res → Sx → Prop} {S : Sx}, Rn (opRepr d) S Q = Q (.dat (.str x)) S := by
  obtain ⟨p, h1, h2, h3, h4⟩ := h
  refine ⟨p.shown, okC_of (nice_ok p h2), fun {Q S} => ?_⟩
  have e : d.shown = some p.shown := by
    unfold D.shown
    rw [h1]
    have l := nice_lay p h2
    have sh := PyData.shown_fits (B := 13) (by decide) (by decide) (PyData.leavesShort_of_canLay0 13 p l (nice_short p h2)) (by omega : p.weight ≤ 2 ^ 20)
    simp [nice_show p h2, show p.depth ≤ 64 by omega, sh]
  unfold opRepr
  rw [e]; rfl
theorem eq_str_self {x : Str} (hx : PyData.strOk x = true) {Q : Res → Sx → Prop} {S : Sx} {neg : Bool} : Rn (opEq neg (.str x) (.str x)) S Q = Q (.dat (.bl (true != neg))) S := by
  rw [op_eq_s hx hx]; simp
theorem cw_of {α : Type} {turn : D → M (Option D)} {env : List Slot} {o : List D} {P : List D → List D → Prop} {f : α → D} {g : α → Option D} : ∀ {xs : List α} {acc : List D}, acc.length + xs.length ≤ sizeLine → (∀ x ∈ xs, Rn (turn (f x)) ⟨env, o⟩ fun r S' => r = g x ∧ S'.objs = o) → P (acc ++ xs.filterMap g) o → Cw turn env (xs.map f) acc o P
  | [], acc, _, _, q => by
    rw [List.map_nil, cw_nil]
    simpa using q
  | x :: xs, acc, hl, h, q => by
    rw [List.map_cons, cw_cons]
    have hl' : acc.length + (xs.length + 1) ≤ sizeLine := by simpa using hl
    refine (h x List.mem_cons_self).mono ?_
    rintro r S' ⟨rfl, e⟩
    cases hg : g x with
    | none =>
      simp only
      rw [e]
      exact cw_of (by omega) (fun c hc => h c (List.mem_cons_of_mem _ hc)) (by simpa [List.filterMap_cons, hg] using q)
    | some v =>
      simp only
      rw [e]
      refine ⟨by omega, cw_of (by simp; omega) (fun c hc => h c (List.mem_cons_of_mem _ hc)) ?_⟩
      simpa [List.filterMap_cons, hg] using q
theorem cw_ofM {α : Type} {turn : D → M (Option D)} {env : List Slot} {o : List D} {P : List D → List D → Prop} {f g : α → D} {xs : List α} (hl : xs.length ≤ sizeLine) (h : ∀ x ∈ xs, Rn (turn (f x)) ⟨env, o⟩ fun r S' => r = some (g x) ∧ S'.objs = o) (q : P (xs.map g) o) : Cw turn env (xs.map f) [] o P :=
  cw_of (g := fun x => some (g x)) (by simpa using hl) h (by simpa using q)
theorem cw_ofF {α : Type} {turn : D → M (Option D)} {env : List Slot} {o : List D} {P : List D → List D → Prop} {f g : α → D} {c : α → Bool} {xs : List α} (hl : xs.length ≤ sizeLine) (h : ∀ x ∈ xs, Rn (turn (f x)) ⟨env, o⟩ fun r S' => r = (if c x = true then some (g x) else none) ∧ S'.objs = o) (q : P ((xs.filter c).map g) o) : Cw turn env (xs.map f) [] o P := by
  refine cw_of (g := fun x => if c x = true then some (g x) else none) (by simpa using hl) h ?_
  have : ∀ ys : List α, ys.filterMap (fun x => if c x = true then some (g x) else none) = (ys.filter c).map g := by
    intro ys
    induction ys with
    | nil => rfl
    | cons y r ih => by_cases hy : c y = true <;> simp [List.filterMap_cons, List.filter_cons, hy, ih]
  rw [List.nil_append, this]
  exact q
theorem for_of {α : Type} {Q : Fl → Sx → Prop} {tgt : D → M Unit} {b : M Fl} {f : α → D} {I : List α → List α → Sx → Prop} {all : List α} : ∀ {a r : List α} {S : Sx}, all = a ++ r → I a r S →
    (∀ a x r S, all = a ++ x :: r → I a (x :: r) S → Rn (tgt (f x)) S fun _ S1 => Rn b S1 fun fl S2 => match fl with
      | .next => I (a ++ [x]) r S2
      | .cont => I (a ++ [x]) r S2
      | .brk => Q .next S2
      | .ret v => Q (.ret v) S2) → (∀ S, I all [] S → Q .next S) → Rn (forM tgt b (r.map f)) S Q
  | a, [], S, e, i, _, q => by
    rw [List.append_nil] at e
    subst e
    exact q S i
  | a, x :: r, S, e, i, h, q => by
    rw [List.map_cons, rn_for1]
    refine (h a x r S e i).mono fun _ S1 h1 => h1.mono fun fl S2 h2 => ?_
    cases fl with
    | next => exact for_of (a := a ++ [x]) (by simp [e]) h2 h q
    | cont => exact for_of (a := a ++ [x]) (by simp [e]) h2 h q
    | brk => exact h2
    | ret r => exact h2
def alikeB : M Fl := (retM (andM (binM (opEq false) (varM 0) (varM 1)) (binM (opEq false) (unM opRepr (varM 0)) (unM opRepr (varM 1)))))
theorem alike_self {o : List D} (h : Nc d b w) (hb : b ≤ 64) (hw : w ≤ 1048576) {Q : Res → List D → Prop} (q : Q (.dat (.bl true)) o) : Dr (runB 2 alikeB) [d, d] o Q := by
  obtain ⟨x, hx, e⟩ := h.repr hb hw
  rw [dr_run]
  unfold alikeB
  simp! only [List.replicate, h.refl hb, e, eq_str_self hx]
  exact q
end
end DL
end
section
set_option maxRecDepth 100000
set_option maxHeartbeats 2000000
namespace PySem
namespace LowX
open PySem.W PySem.Calls PyProof.Rows PySem.HandSPX
def iA (fn : Str) (p1 p2 : Pos) : Arguments := { posonlyargs := [], args := [{ arg := "self", annotation := none, pos := p1 }, { arg := fn, annotation := none, pos := p2 }], vararg := none, kwonlyargs := [], kw_defaults := [], kwarg := none, defaults := [] }
def iB (fn : Str) (q1 q2 q3 q4 : Pos) : List Stmt := [.Assign [.Attribute (.Name "self" q1) fn q2] (.Name fn q3) q4]
def iS (fn : Str) : Scope := { kind := .function, names := [(PySem.Str.ofString "self", .local), (fn, .local)], isGenerator := false, isCoroutine := false, more := [] }
structure FldOk (fn : Str) : Prop where
  b1 : ∀ (qn : Str) (x v doc pm cdv ct : Value) (an : Option Addr) (p1 p2 q1 q2 q3 q4 : Pos), bindArgs (fnOf "__init__" qn (iA fn p1 p2) (iB fn q1 q2 q3 q4) (iS fn) .none .none doc pm an cdv ct) ⟨[x, v], []⟩ = pure [(("self" : Str), x), (fn, v)]
  b2 : ∀ x v : Value, ([(("self" : Str), x), (fn, v)].all fun y => List.lookup y.1 (iS fn).names == some NameKind.local || List.lookup y.1 (iS fn).names == some NameKind.cell) = true
  b3 : ∀ (qn : Str) (L fI : Addr) (cdv : Value), (envOfC qn (iS fn) L fI cdv).kindOf fn = some .local
  b4 : (fn == ("__debug__" : Str)) = false
  b5 : ∀ (qn : Str) (L fI : Addr) (cdv x v : Value), bindL (envOfC qn (iS fn) L fI cdv).kindOf [(("self" : Str), x), (fn, v)] (fun _ => none) fn = some v
  b6 : ∀ (qn : Str) (L fI : Addr) (cdv x v : Value), bindL (envOfC qn (iS fn) L fI cdv).kindOf [(("self" : Str), x), (fn, v)] (fun _ => none) "self" = some x
structure LowTxt (cn qn fn : Str) (K : Frag) (mg : Str → Option Value) (C fI : Addr) : Prop where
  gC : mg cn = some (.ref C)
  cls : ∃ nm q N bs bm sn sub ab col dd k0 k1 k2 k3 k5, K.lookup C = some (excClassObj nm q C N bs bm true sn sub ab col dd k0 k1 k2 k3 k5 "ValueError.__new__") ∧ refsVE bm = true
  sa : findIn K (.ref C) "__setattr__" = some (some (.builtin "object.__setattr__"))
  ga : findIn K (.ref C) "__getattribute__" = some (some (.builtin "BaseException.__getattribute__"))
  gg : findIn K (.ref C) "__getattr__" = some none
  noN : findIn K (.ref C) fn = some none
  iC : findIn K (.ref C) "__init__" = some (some (.ref fI))
  tC : typeIn K (.ref fI) = some (.type "function")
  kC : keepIn K (.ref C) = true
  exC : subIn K (.ref C) (.type "BaseException") = some true
  tyC : typeIn K (.ref C) = some (.type "type")
  hdC : hasDictIn K C = true
  te : exmOne K (.ref C) (.ref C) = some true
  fn : ∃ (oc : Value) (od : Option Addr) (doc pm : Value) (an : Option Addr) (cdv ct : Value) (osl : Array (Option Value)) (p1 p2 q1 q2 q3 q4 : Pos),
    K.lookup fI = some ⟨oc, od, .func (fnOf "__init__" qn (iA fn p1 p2) (iB fn q1 q2 q3 q4) (iS fn) .none .none doc pm an cdv ct), osl⟩ ∧ codeIn K cdv qn = true
theorem one_size (v : Value) : [v].length ≤ sizeLine := by
  rw [sizeLine_eq]
  exact (by decide : 1 ≤ 16777216)
theorem ldC {M : Model} {s : Shared} {name : Str} {scope : Scope} {L a : Addr} {cd : Value} {m : Str → Option Value} {x : Str} {pos : Pos} {v : Value} {Q : Value → Shared → Prop} {A : Around} {E : Value → Shared → Prop} (hn : s.heap.Ns L m) (hv : m x = some v) (h : Q v s)
    (hk : scope.kind = .function := by rfl) (hl : (envOfC name scope L a cd).kindOf x = some .local := by rfl) (hd : (x == ("__debug__" : Str)) = false := by decide) :
    wpAny M A (eval (.Name x pos) (envOfC name scope L a cd)) Q E s := wpAny_Name (wpAny_loadName_local hk hl hn hv h) hd
structure InitEnd (fn : Str) (h h' : Heap) (x C dx t1 : Addr) (v : Value) : Prop where
  keep : ∀ b o, b ≠ x → h.get? b = some o → h'.get? b = some o
  obj : h'.get? x = some { cls := .ref C, dict := some dx, data := .fields #[.ref t1, .none, .none, .none, .bool false, .none] }
  dbig : h.objs.size ≤ dx
  dne : dx ≠ x
  ns : h'.Ns1 dx (fun y => if y = fn then some v else none)
structure OwnMade (fn : Str) (h h' : Heap) (e C d : Addr) (v : Value) : Prop where
  keep : ∀ b o, h.get? b = some o → h'.get? b = some o
  new : h.objs.size ≤ e
  obj : ∃ oe vs, h'.get? e = some oe ∧ oe.cls = .ref C ∧ oe.dict = some d ∧ oe.data = .fields vs ∧ vs[1]? = some .none
  dbig : h.objs.size ≤ d
  dne : d ≠ e
  ns : h'.Ns1 d (fun y => if y = fn then some v else none)
section
variable {cn qn fn : Str} {prog : Program} {w : World} {A : Around} {E : Value → Shared → Prop} {R : Result → Shared → Prop} {s : Shared} {K : Frag} {mg : Str → Option Value} {C fI : Addr}
theorem low_init (fo : FldOk fn) (T : LowTxt cn qn fn K mg C fI) {x t0 : Addr} {v : Value} (X : K.In s.heap) (hlim : s.heap.NoLimit) (hx : s.heap.get? x = some (excO C t0)) (hnx : K.lookup x = none) (hroom : A.depth < recursionLimit)
    (hq : ∀ h' tk dx, InitEnd fn s.heap h' x C dx t0 v → R (.ok (.ret .none)) { s with heap := h', toks := tk }) :
    codeAny (model prog w) A (.call (.ref fI) ⟨[.ref x, v], []⟩) R s := by
  obtain ⟨oc, od, doc, pm, an, cdv, ct, osl, p1, p2, q1, q2, q3, q4, ho, hcd⟩ := T.fn
  obtain ⟨nm, q, N, bs, bm, sn, sub, ab, col, dd, k0, k1, k2, k3, k5, hC, hbm⟩ := T.cls
  have hcl : clsIn K C = some { name := nm, bases := bs, mro := .ref C :: bm, ns := N, qualname := q, hasDict := true, slotNames := sn, subclasses := sub, abstract := ab, collection := col, hasDel := false } := by unfold clsIn; rw [hC] <;> rfl
  refine Att.call_fn (binds := [("self", .ref x), (fn, v)]) X hlim ho hcd hroom (BindsTo.of_eq (fo.b1 _ _ _ _ _ _ _ _ _ _ _ _ _ _)) (fo.b2 _ _) (fun s₁ IC => ?_) rfl rfl rfl
  obtain ⟨h₁, tk₁, rfl⟩ := IC.toInCall.same
  have k : ∀ b o, s.heap.get? b = some o → h₁.get? b = some o := IC.toInCall.keep
  have hn := IC.toInCall.ns
  have hxL : s.heap.objs.size ≠ x := Nat.ne_of_gt (Heap.lt_size hx)
  have X₁ : K.In h₁ := X.keeps k
  have hx₁ := k _ _ hx
  -- self.by = by
  show wpAny _ _ (execs _ _) _ _ _
  refine wpAny_execs_cons (plainObj_wpAny_Assign_Attribute ?_)
  refine ldC (v := v) hn (fo.b5 _ _ _ _ _ _) (hl := fo.b3 _ _ _ _) (hd := fo.b4) (ldC (v := .ref x) hn (fo.b6 _ _ _ _ _ _) ?_)
  refine set_plain X₁ (ox := excO C t0) (od := none) ⟨hx₁, rfl, rfl, trivial⟩ T.sa ?_
  refine exc_osa X₁ hx₁ hcl (show refsVE (.ref C :: bm) = true from hbm) rfl T.noN (fun h₃ tk₃ dx k₃ dn dne hx₃ hn₃ => ?_)
  show wpAny _ _ (execs _ _) _ _ _
  have z : s.heap.objs.size < h₁.objs.size := hn.lt
  exact wpAny_execs_nil (hq h₃ tk₃ dx ⟨fun b o hb e => k₃ b o hb (k b o e), hx₃, Nat.le_of_lt (Nat.lt_of_lt_of_le z dn), dne, hn₃⟩)
theorem low_made (fo : FldOk fn) (T : LowTxt cn qn fn K mg C fI) {v : Value} (X : K.In s.heap) (hlim : s.heap.NoLimit) (hroom : A.depth + 1 < recursionLimit)
    (hq : ∀ h' tk e d, OwnMade fn s.heap h' e C d v → R (.ok (.ret (.ref e))) { s with heap := h', toks := tk }) :
    codeAny (model prog w) A (.call (.ref C) ⟨[v], []⟩) R s := by
  obtain ⟨nm, q, N, bs, bm, sn, sub, ab, col, dd, k0, k1, k2, k3, k5, hC, hbm⟩ := T.cls
  obtain ⟨hp, g, dr, tk, os⟩ := s
  have k : ∀ b o, hp.get? b = some o → ((hp.push (kdv_tup [v])).push (excO C hp.objs.size)).get? b = some o := fun b o e => Heap.get?_push_of_some _ (Heap.get?_push_of_some _ e)
  have hget : ((hp.push (kdv_tup [v])).push (excO C hp.objs.size)).get? (hp.objs.size + 1) = some (excO C hp.objs.size) := by heap_get
  have hnx : K.lookup (hp.objs.size + 1) = none := by
    cases e : K.lookup (hp.objs.size + 1) with
    | none => rfl
    | some o =>
      have z : hp.get? (hp.objs.size + 1) = some o := X _ _ e
      exact absurd (Nat.lt_of_succ_lt (Heap.lt_size z)) (Nat.lt_irrefl _)
  refine call_own F.excBase_ValueError (fun X => refsVE_contains X bm hbm) (X _ _ hC) (looks_findIn X T.iC) (fun self => bind_fn X self T.tC) (one_size v) ?_
  refine low_init fo (s := ⟨(hp.push (kdv_tup [v])).push (excO C hp.objs.size), g, dr, tk, os⟩) T (X.keeps k) (hlim.keeps k) hget hnx ?_ fun h' tk' dx ⟨k', hx, dn, dne, hns⟩ => ?_
  · show A.depth + 1 < recursionLimit
    exact hroom
  · have old : ∀ b o, hp.get? b = some o → h'.get? b = some o := fun b o e => k' b o (Nat.ne_of_lt (Nat.lt_succ_of_lt (Heap.lt_size e))) (k b o e)
    have z : hp.objs.size + 1 + 1 ≤ dx := by
      first
        | (simpa only [Heap.size_push] using dn)
        | exact dn
        | (have q := dn; rw [Heap.size_push, Heap.size_push] at q; exact q)
    exact ⟨rfl, hq h' tk' (hp.objs.size + 1) dx ⟨old, Nat.le_succ _, ⟨_, _, hx, rfl, rfl, rfl, rfl⟩, Nat.le_trans (Nat.le_trans (Nat.le_succ _) (Nat.le_succ _)) z, dne, hns⟩⟩
end
end LowX
end PySem
namespace L2
open PySem PySem.Spec PyProof.Rows
theorem relO_low {fn : Str} {v : V} {v' : Value} (r : RelV v v') (f : Str) : RelO (List.lookup f [(fn, v)]) (if f = fn then some v' else none) := by
  by_cases hw : f = fn
  · rw [if_pos hw, hw]
    have q : List.lookup fn [(fn, v)] = some v := by simp [List.lookup]
    rw [q]
    exact r
  · rw [if_neg hw]
    have qw : (f == fn) = false := by simpa using hw
    have q2 : List.lookup f [(fn, v)] = none := by simp [List.lookup, qw]
    rw [q2]
    trivial
section
variable {cn qn fn : Str} {X : Cx} {C fI : Addr}
def tMkLow (fn : Str) (C : Addr) (ta : TA) : St → Hp → XK → Prop := fun σ H Q => ta σ H fun vs H1 => ∃ v, vs = [v] ∧ ∀ d, H1 d = none → Q (.ref C) (some d) (upd H1 d (.xd [(fn, v)]))
theorem pmk_low (fo : PySem.LowX.FldOk fn) (hdb : (cn == ("__debug__" : Str)) = false) {a : Expr} {ta : TA} {p pos : Pos} {k : Nat} (T : PySem.LowX.LowTxt cn qn fn X.K X.mg C fI) (hr : Room k X.A) (ha : PA X [a] ta) (hg : Gl X cn := by rfl)
    (he : starEach (a :: []) X.env = (false, eval a X.env) :: starEach [] X.env := by rfl) (hpl : (backTo pos (starEach [] X.env)).any (·.1) = false := by rfl) :
    PMk X (.Call (.Name cn p) [a] [] pos) (tMkLow fn C ta) := by
  intro pins s σ H Q I h
  refine wpAny_Call_Name_kw (ld_glob I hg T.gC ?_ hdb)
  refine PySem.W.callWith_K (h₀ := X.base) I.ok.mod.kin T.kC (thn (ha.run pos pins s σ H _ I h) fun us s1 hh => ?_) he hpl
  obtain ⟨vs, H1, I1, r1, v, ev, q1⟩ := hh
  subst ev
  refine ⟨I1.kIn, ?_⟩
  cases r1 with
  | cons rv rn =>
    rename_i v' us'
    cases rn
    show wpAny _ _ (call (.ref C) [v']) _ _ _
    have hlim := I1.nolimit
    obtain ⟨hp, g, dr, tk, os⟩ := s1
    refine wpAny_call (PySem.LowX.low_made fo T I1.kIn hlim (by have := hr.dp; omega) fun h' tk' e d M => ?_)
    show MkP X pins σ Q (.ref e) ⟨h', g, dr, tk', os⟩
    obtain ⟨oe, fv, hoe, hc, hd, hdat, h1⟩ := M.obj
    have hns := M.ns
    obtain ⟨G', g1, g2⟩ := restrict h' fun b => decide (b ≠ e)
    have gk : ∀ b, b ≠ e → G'.get? b = h'.get? b := fun b hb => g1 b (decide_eq_true hb)
    have ge : G'.get? e = none := g2 e (by simp)
    have old : ∀ b o, hp.get? b = some o → G'.get? b = some o := fun b o q => (gk b (Nat.ne_of_lt (Nat.lt_of_lt_of_le (Heap.lt_size q) M.new))).trans (M.keep b o q)
    have ob : ObjOk X.prog X.w (upd H1 d (.xd [(fn, v)])) G' d (.xd [(fn, v)]) :=
      ⟨_, hns.at (fun o q => (gk d M.dne).trans q), fun f => relO_low rv f⟩
    have J : Inv X pins σ (upd H1 d (.xd [(fn, v)])) ⟨G', g, dr, tk', os⟩ := I1.laid (t' := tk') old M.dbig ob
    refine ⟨e, oe, fv, ⟨G', g, dr, tk', os⟩, _, .ref C, some d, rfl, J, fun b o q => ?_, ge, hoe, ⟨hc, hd⟩, hdat, h1, ?_, rfl, I1.bare, raises_own T.exC T.tyC, q1 d (I1.hok.fresh M.dbig)⟩
    · by_cases hb : b = e
      · have q' : G'.get? b = some o := q
        rw [hb, ge] at q'; cases q'
      · exact (gk b hb).symm.trans q
    · rw [upd_ne (Ne.symm M.dne)]
      exact I1.hok.fresh M.new
def tRaiseLow (fn : Str) (C : Addr) (W : WX) (ta : TA) : TS := fun _ σ H => tMkLow fn C ta σ H fun cls d H' => W cls d σ H'
theorem ps_raiseLow (fo : PySem.LowX.FldOk fn) (hdb : (cn == ("__debug__" : Str)) = false) {a : Expr} {ta : TA} {W : WX} {p pos pos2 : Pos} {k : Nat} (hc : X.calm = true) (T : PySem.LowX.LowTxt cn qn fn X.K X.mg C fI) (hr : Room k X.A) (tk : Takes X W) (ha : PA X [a] ta) (hg : Gl X cn := by rfl)
    (he : starEach (a :: []) X.env = (false, eval a X.env) :: starEach [] X.env := by rfl) (hpl : (backTo pos (starEach [] X.env)).any (·.1) = false := by rfl) :
    PS X (.Raise (some (.Call (.Name cn p) [a] [] pos)) none pos2) (tRaiseLow fn C W ta) := ps_raise hc tk (pmk_low fo hdb T hr ha hg he hpl)
end
end L2
namespace PySem.LowX
open PySem.W PySem.Calls PyProof.Rows PySem.HandSPX
end PySem.LowX
end
section
set_option maxRecDepth 100000
namespace DL
open PySem PySem.Spec L2
theorem bind_pure {α : Type} (f : M α) : (f >>= fun a => (pure a : M α)) = f := by
  funext s0
  show M.bnd f (fun a => M.ret a) s0 = f s0
  unfold M.bnd
  cases f s0 with
  | none => rfl
  | some p => obtain ⟨e, s1⟩ := p; cases e <;> rfl
def errM {α : Type} (c : Str) (fs : Option (List (Str × D))) : M α := fun S => some (.error ⟨c, fs⟩, S)
def raiseK (c f : Str) : List D → M Fl
  | [d] => errM c (some [(f, d)])
  | _ => M.no
def raiseM (c f : Str) (fa : M (List Res)) : M Fl := fa >>= fun rs => useAll rs >>= fun ds => raiseK c f ds
section
variable {X : Cx} {z : Zx} {S S' : Sx} {σ σ' : L2.St} {H H' : Hp} {g g' : Gh} {v : V} {d : D} {r : Res} {a e : Expr} {es : List Expr} {fa fb : M Res} {fs : M (List Res)} {K : PySem.W.Frag} {mg : Str → Option Value} {pos p pos2 : Pos} {cn qn fn : Str} {C fI : Addr}
theorem GoS.useAll {k : List D → M Fl} {D : Ends} {rs : List Res} {vs : List V} (s : SR K z S σ H g) (hh : Held rs) (rv : Paired (ResOk K z S σ H g) vs rs) (h : GoS K mg z (useAll rs >>= k) S σ H g D) :
    ∃ S' g', SR K z S' σ H g' ∧ Fr H g H g' ∧ RpA K H g' vs (rs.map (·.d)) ∧ GoS K mg z (k (rs.map (·.d))) S' σ H g' D := by
  have h1 := h.bnd
  rw [← bind_pure (DL.useAll rs)] at h1
  obtain ⟨S', g', s', f, rp, h2⟩ := Go.useAll s hh rv h1
  exact ⟨S', g', s', f, rp, h2.pure s'⟩
theorem ds_raise {k : Nat} (hc : X.calm = true) (fo : PySem.LowX.FldOk fn) (hdb : (cn == ("__debug__" : Str)) = false) (T : PySem.LowX.LowTxt cn qn fn X.K X.mg C fI) (hr : Room k X.A) (tk : Takes X z.W) (ha : DE X z a fa) (hg : Gl X cn := by rfl)
    (he : starEach (a :: []) X.env = (false, eval a X.env) :: starEach [] X.env := by rfl) (hpl : (backTo pos (starEach [] X.env)).any (·.1) = false := by rfl) :
    DS X z (.Raise (some (.Call (.Name cn p) [a] [] pos)) none pos2) (raiseM cn fn (consA fa nilA)) :=
  PS.imp (ps_raiseLow fo hdb hc T hr tk (dah_cons ha dah_nil he).da hg he hpl) fun D σ H ⟨S, g, s, h⟩ => by
    refine ⟨S, g, s, (Go.heldP (dah_cons ha dah_nil he).held h.bnd).imp fun rs S1 H1 g1 s1 f1 ⟨hh, h1⟩ vs rv => ?_⟩
    obtain ⟨S2, g2, s2, f2, rp, h2⟩ := h1.useAll s1 hh rv
    cases hds : rs.map (·.d) with
    | nil => rw [hds] at h2; exact h2.elim
    | cons d r =>
      rw [hds] at h2 rp
      cases r with
      | cons _ _ => exact h2.elim
      | nil =>
        cases rp with
        | cons rv1 rn =>
          cases rn
          refine ⟨_, rfl, fun dd hd => ?_⟩
          rename_i w
          have f3 := Fr.upd_new (g := g2) (o := .xd [(fn, w)]) hd
          exact h2 (.ref C) (some dd) σ _ g2 (s2.upd_new hd) f3 ⟨T.gC, dd, [(fn, w)], rfl, upd_same, rfl, .cons (rv1.fr f3 s2.mu) .nil⟩
theorem SR.put_un {i : Nat} {w : Option V} (s : SR K z S σ H g) : SR K z (S.put i .un) (σ.set i w) H g where
  len := by show (S.env.set i _).length = _; rw [List.length_set, List.length_set]; exact s.len
  dat := fun j e h => by
    rcases set_get h with ⟨rfl, q⟩ | ⟨ne, q⟩
    · cases q
    · obtain ⟨w, e1, r⟩ := s.dat j e q
      exact ⟨w, by rw [List.getElem?_set_ne ne]; exact e1, r⟩
  own := fun j e h => by
    rcases set_get h with ⟨rfl, q⟩ | ⟨ne, q⟩
    · cases q
    · obtain ⟨b, e1, r⟩ := s.own j e q
      exact ⟨b, by rw [List.getElem?_set_ne ne]; exact e1, r⟩
  inj := fun j k d1 d2 b h1 h2 e1 e2 => by
    rcases set_get h1 with ⟨rfl, q⟩ | ⟨ne1, q1⟩
    · cases q
    · rcases set_get h2 with ⟨rfl, q⟩ | ⟨ne2, q2⟩
      · cases q
      · rw [List.getElem?_set_ne ne1] at e1
        rw [List.getElem?_set_ne ne2] at e2
        exact s.inj j k d1 d2 b q1 q2 e1 e2
  olen := s.olen
  obj := s.obj
  ond := s.ond
  mu := s.mu
  base := s.base
  b0 := s.b0
  keep := s.keep
  on := s.on
open Classical in
noncomputable def zs (z : Zx) (H : Hp) (g : Gh) : Zx := ⟨fun b => if g.bad b then z.H0 b else H b, z.bad0, g.om, blkW⟩
theorem zs_bad {a : Addr} (h : g.bad a) : (zs z H g).H0 a = z.H0 a := if_pos h
theorem zs_not {a : Addr} (h : ¬ g.bad a) : (zs z H g).H0 a = H a := if_neg h
theorem SR.om_bad (s : SR K z S σ H g) {a : Addr} (h : a ∈ g.om) : g.bad a := by
  obtain ⟨n, hn⟩ := List.mem_iff_getElem?.mp h
  have hl : n < S.objs.length := by rw [s.olen]; exact (List.getElem?_eq_some_iff.mp hn).1
  exact (s.obj n a _ hn (List.getElem?_eq_getElem hl)).2
theorem SR.toSuite (s : SR K z S σ H g) : SR K (zs z H g) S σ H g where
  len := s.len
  dat := s.dat
  own := fun i d e => let ⟨a, e1, hb, rt, h0, ho⟩ := s.own i d e; ⟨a, e1, hb, rt, (zs_bad hb).trans h0, ho⟩
  inj := s.inj
  olen := s.olen
  obj := s.obj
  ond := s.ond
  mu := s.mu
  base := s.base
  b0 := fun a h => by rw [zs_bad (s.base a h)]; exact s.b0 a h
  keep := fun a o h hm => by
    by_cases hb : g.bad a
    · rw [zs_bad hb] at h; exact s.keep a o h hm
    · rw [zs_not hb] at h; exact h
  on := fun a h => .inl h
theorem zs_none (s : SR K z S σ H g) {a : Addr} (h : (zs z H g).H0 a = none) : z.H0 a = none := by
  by_cases hb : g.bad a
  · rw [zs_bad hb] at h; exact h
  · rw [zs_not hb] at h; exact s.fresh0 h
theorem SR.ofSuite {σ' : L2.St} (s : SR K z S σ H g) (t : SR K (zs z H g) S' σ' H' g') : SR K z S' σ' H' g' where
  len := t.len
  dat := t.dat
  own := fun i d e => let ⟨a, e1, hb, rt, h0, ho⟩ := t.own i d e; ⟨a, e1, hb, rt, zs_none s h0, ho⟩
  inj := t.inj
  olen := t.olen
  obj := t.obj
  ond := t.ond
  mu := t.mu
  base := t.base
  b0 := s.b0
  keep := fun a o h hm => by
    by_cases hb : g.bad a
    · exact t.keep a o ((zs_bad hb).trans h) hm
    · exact t.keep a o ((zs_not hb).trans (s.keep a o h fun q => hb (s.om_bad q))) hm
  on := fun a h => by
    rcases t.on a h with q | q
    · exact s.on a q
    · exact .inr (zs_none s q)
theorem zs_keep (s : SR K z S σ H g) {σ' : L2.St} (t : SR K (zs z H g) S' σ' H' g') {a : Addr} {o : HO} (h : H a = some o) (hb : ¬ g.bad a) : H' a = some o := by
  have h0 : (zs z H g).H0 a = some o := (zs_not hb).trans h
  refine t.keep a o h0 fun q => ?_
  rcases t.on a q with q | q
  · exact hb (s.om_bad q)
  · rw [h0] at q; cases q
mutual
/-- data that asks nothing of what is written to, nor of the objects -/
def D.still : D → Bool
  | .tup ds => D.stills ds
  | .lst _ => false
  | .dct _ _ _ => false
  | .rol ds => D.stills ds
  | .rdc _ _ vs => D.stills vs
  | .obj _ => false
  | _ => true
def D.stills : List D → Bool
  | [] => true
  | d :: r => d.still && D.stills r
end
mutual
theorem Rp.still (hk : ∀ a o, H a = some o → ¬ g.bad a → H' a = some o) (m : Mu H g) {v : V} : ∀ {d : D}, Rp K H g v d → d.still = true → Rp K H' g' v d
  | _, .non, _ => .non
  | _, .bl b, _ => .bl b
  | _, .int b, _ => .int b
  | _, .str b, _ => .str b
  | _, .tup h r, i => .tup (hk _ _ h fun q => by have := m _ q; rw [h] at this; exact this) (RpA.still hk m r (by simpa [D.still] using i))
  | _, .lst h n r, i => by simp [D.still] at i
  | _, .dct h c n r, i => by simp [D.still] at i
  | _, .rol h r, i => .rol (by
      rcases h with ⟨o, h⟩ | h
      · exact .inl ⟨o, hk _ _ h fun q => by have := m _ q; rw [h] at this; exact this⟩
      · exact .inr h) (RpA.still hk m r (by simpa [D.still] using i))
  | _, .obj h, i => by simp [D.still] at i
  | _, .opq v, _ => .opq v
  | _, .rdc h c r, i => .rdc (hk _ _ h fun q => by have := m _ q; rw [h] at this; exact this) (c.mono fun _ _ e => hk _ _ e fun q => by have := m _ q; rw [e] at this; exact this) (RpA.still hk m r (by simpa [D.still] using i))
theorem RpA.still (hk : ∀ a o, H a = some o → ¬ g.bad a → H' a = some o) (m : Mu H g) {vs : List V} : ∀ {ds : List D}, RpA K H g vs ds → D.stills ds = true → RpA K H' g' vs ds
  | _, .nil, _ => .nil
  | _, .cons h r, i => by
    simp [D.stills] at i
    exact .cons (Rp.still hk m h i.1) (RpA.still hk m r i.2)
end
structure SuZ (K : PySem.W.Frag) (mg : Str → Option Value) (cls : Value) (d : Option Addr) (x : Exn) (z : Zx) : Prop where
  W : z.W = blkW
  cls : mg x.cls = some cls
  fld : ∀ fs, x.fs = some fs → ∃ dd vs, d = some dd ∧ vs.map (·.1) = fs.map (·.1) ∧ ∀ S σ H g, SR K z S σ H g → H dd = some (.xd vs) ∧ RpA K H g (vs.map (·.2)) (fs.map (·.2))
def Exn.still (x : Exn) : Bool := match x.fs with
  | some fs => D.stills (fs.map (·.2))
  | none => true
def unslot (i : Nat) : Option (Except Exn Fl × Sx) → Option (Except Exn Fl × Sx)
  | some (.ok (.ret (.own j d)), S) => if j = i then none else some (.ok (.ret (.own j d)), S.put i .un)
  | some (.ok fl, S) => some (.ok fl, S.put i .un)
  | _ => none
theorem xd_not_bad (s : SR K z S σ H g) {a : Addr} {vs : List (Str × V)} (h : H a = some (.xd vs)) : ¬ g.bad a := fun q => by
  have := s.mu a q
  rw [h] at this
  exact this
theorem ResOk.ofSuite {σ' : L2.St} (s : SR K z S σ H g) {j : Nat} (h : ResOk K (zs z H g) S' σ' H' g' v r) (hj : ∀ d, r ≠ .own j d) : ResOk K z (S'.put j .un) (σ'.set j none) H' g' v r := by
  cases r with
  | dat d => exact h
  | new d =>
    obtain ⟨a, e, hb, rt, h0, ho, hn⟩ := h
    refine ⟨a, e, hb, rt, zs_none s h0, ho, fun k e' he hs => ?_⟩
    rcases set_get he with ⟨rfl, q⟩ | ⟨ne, q⟩
    · cases q
    · rw [List.getElem?_set_ne ne] at hs
      exact hn k e' q hs
  | own k d =>
    obtain ⟨h1, h2⟩ := h
    have ne : j ≠ k := fun q => hj d (by rw [q])
    exact ⟨by show (S'.env.set j .un)[k]? = _; rw [List.getElem?_set_ne ne]; exact h1, by rw [List.getElem?_set_ne ne]; exact h2⟩
variable {P : L2.St → Prop}
def tPA (P : L2.St → Prop) (t : TA) : TA := fun σ H Q => P σ ∧ t σ H Q
structure DAHP (X : Cx) (z : Zx) (P : L2.St → Prop) (es : List Expr) (f : M (List Res)) : Prop where
  da : PA X es (tPA P (tA X.K X.mg z f))
  held : ∀ S rs S', f S = some (.ok rs, S') → Held rs
end
def subL (l : List (Str × Bool)) (c : Str) : Option Bool := l.lookup c
theorem subL_of {K : PySem.W.Frag} {mg : Str → Option Value} {c : Value} : ∀ {l : List (Str × Bool)}, (∀ p ∈ l, ∀ cls, mg p.1 = some cls → PySem.W.exmOne K cls c = some p.2) → ∀ cn cls b, mg cn = some cls → subL l cn = some b → PySem.W.exmOne K cls c = some b
  | [], _, cn, cls, b, _, e => by cases e
  | (k, b') :: l, h, cn, cls, b, hm, e => by
    unfold subL at e
    rw [List.lookup_cons] at e
    by_cases c : (cn == k) = true
    · rw [c] at e
      cases e
      have : cn = k := by simpa using c
      subst this
      exact h _ List.mem_cons_self cls hm
    · have c' : (cn == k) = false := by simpa using c
      rw [c'] at e
      exact subL_of (fun p hp => h p (List.mem_cons_of_mem _ hp)) cn cls b hm e
structure Own (K : PySem.W.Frag) (mg : Str → Option Value) (cn qn fn : Str) : Prop where
  ex : ∃ C fI, PySem.LowX.LowTxt cn qn fn K mg C fI
structure Exm (K : PySem.W.Frag) (mg : Str → Option Value) (S C : Str) (b : Bool) : Prop where
  there : ∃ c, mg C = some c
  is : ∀ s c, mg S = some s → mg C = some c → PySem.W.exmOne K s c = some b
theorem exm_of {K : PySem.W.Frag} {S C : Addr} {b : Bool} (h1 : PySem.W.subIn K (.ref C) (.type "BaseException") = some true) (h2 : PySem.W.isClsIn K C = true) (h3 : PySem.W.typeIn K (.ref C) = some (.type "type")) (h4 : PySem.W.subIn K (.ref S) (.ref C) = some b) :
    PySem.W.exmOne K (.ref S) (.ref C) = some b := by
  have e1 : (PySem.W.subIn K (.ref C) (.type "BaseException") == some true) = true := by rw [h1] <;> rfl
  have e2 : ((PySem.W.clsIn K C).isSome && PySem.W.typeIn K (.ref C) == some (.type "type")) = true := by
    have h2' : (PySem.W.clsIn K C).isSome = true := h2
    rw [h2', h3] <;> rfl
  show (if (PySem.W.subIn K (.ref C) (.type "BaseException") == some true) = true then (if ((PySem.W.clsIn K C).isSome && PySem.W.typeIn K (.ref C) == some (.type "type")) = true then PySem.W.subIn K (.ref S) (.ref C) else none) else none) = some b
  rw [if_pos e1, if_pos e2]
  exact h4
theorem own_mk {K : PySem.W.Frag} {h : Heap} {mg : Str → Option Value} {cn qn fn : Str} {C f1 N : Addr} (X : K.In h) (G : h.Ns mainGlobals mg) {nm q : Str} {bs bm : List Value} {sn : List Str} {sub : List Value} {ab : Bool} {col : Option Bool} {dd : Option Addr} {m0 m1 m2 m3 m5 : Option Value}
    {od1 an1 : Option Addr} {sl1 : Array (Option Value)} {oc1 dc1 pm1 cd1 ct1 : Value} {p1 p2 q1 q2 q3 q4 : Pos}
    (aC : PySem.W.nsIn K mainGlobals cn = some (some (.ref C)))
    (xL : K.lookup C = some (excClassObj nm q C N bs bm true sn sub ab col dd m0 m1 m2 m3 m5 "ValueError.__new__")) (hbm : PySem.HandSPX.refsVE bm = true)
    (sa : PySem.W.findIn K (.ref C) "__setattr__" = some (some (.builtin "object.__setattr__"))) (ga : PySem.W.findIn K (.ref C) "__getattribute__" = some (some (.builtin "BaseException.__getattribute__"))) (gg : PySem.W.findIn K (.ref C) "__getattr__" = some none) (nb : PySem.W.findIn K (.ref C) fn = some none)
    (a1 : PySem.W.findIn K (.ref C) "__init__" = some (some (.ref f1))) (t1 : PySem.W.typeIn K (.ref f1) = some (.type "function"))
    (l1 : K.lookup f1 = some ⟨oc1, od1, .func (PySem.W.fnOf "__init__" qn (PySem.LowX.iA fn p1 p2) (PySem.LowX.iB fn q1 q2 q3 q4) (PySem.LowX.iS fn) .none .none dc1 pm1 an1 cd1 ct1), sl1⟩) (c1 : PySem.W.codeIn K cd1 qn = true)
    (kC : PySem.W.keepIn K (.ref C) = true) (eC : PySem.W.subIn K (.ref C) (.type "BaseException") = some true) (tC : PySem.W.typeIn K (.ref C) = some (.type "type")) (hC : PySem.W.hasDictIn K C = true) (iC : PySem.W.isClsIn K C = true) (sC : PySem.W.subIn K (.ref C) (.ref C) = some true) : Own K mg cn qn fn :=
  ⟨C, f1, ⟨PySem.W.mg_of X G aC, ⟨nm, q, N, bs, bm, sn, sub, ab, col, dd, m0, m1, m2, m3, m5, xL, hbm⟩, sa, ga, gg, nb, a1, t1, kC, eC, tC, hC, exm_of eC iC tC sC, ⟨_, _, _, _, _, _, _, _, _, _, _, _, _, _, l1, c1⟩⟩⟩
section
variable {X : Cx} {z : Zx} {pos p pos2 : Pos} {a : Expr} {fa : M Res} {cn qn fn : Str}
theorem ds_raiseO {k : Nat} (hc : X.calm = true) (fo : PySem.LowX.FldOk fn) (T : Own X.K X.mg cn qn fn) (hr : Room k X.A) (tk : Takes X z.W) (ha : DE X z a fa) (hdb : (cn == ("__debug__" : Str)) = false := by decide) (hg : Gl X cn := by rfl)
    (he : starEach (a :: []) X.env = (false, eval a X.env) :: starEach [] X.env := by rfl) (hpl : (backTo pos (starEach [] X.env)).any (·.1) = false := by rfl) :
    DS X z (.Raise (some (.Call (.Name cn p) [a] [] pos)) none pos2) (raiseM cn fn (consA fa nilA)) := by
  obtain ⟨C, fI, T⟩ := T.ex
  exact ds_raise hc fo hdb T hr tk ha hg he hpl
end
end DL
end
section
set_option maxRecDepth 100000
namespace DLT
open PySem PySem.Calls PyProof.Rows PySem.W PySem.SeqAt
section
variable {prog : Program} {w : World} {A : Around} {E : Value → Shared → Prop} {s : Shared}
theorem tup_inv {h : Heap} {a : Value} {xs : List PyData} {as : List Addr} (r : Reads h a (.tuple xs) as) : ∃ p o us n, a = .ref p ∧ h.get? p = some o ∧ o.cls = .type "tuple" ∧ o.data = .seq us n ∧ ReadsAll h us.toList xs as := by
  cases r with | tuple b c d e => exact ⟨_, _, _, _, rfl, b, c, d, e⟩
theorem oneLt_tups {f : Bool} {xs ys : List PyData} {a b : Value} {as bs : List Addr} {Q : Bool → Shared → Prop} (ra : Reads s.heap a (.tuple xs) as) (rb : Reads s.heap b (.tuple ys) bs) (h : alike (.tuple xs) (.tuple ys) = true)
    (hu : A.units + min (PyData.tuple xs).depth (PyData.tuple ys).depth < cLine) (hq : Q (dataLt (.tuple xs) (.tuple ys)) s) : wpAny (model prog w) A (oneLt' f a b) Q E s := by
  rcases f with _ | _
  · exact oneLt_alike nofun ra rb h nofun hu hq
  have same : alikeAll xs ys = true := by rw [alike] at h; exact h
  rw [oneLt'_eq, if_pos rfl]
  obtain ⟨p, o, us, n, rfl, a1, a2, a3, a4⟩ := tup_inv ra
  obtain ⟨q, o', ws, n', rfl, b1, b2, b3, b4⟩ := tup_inv rb
  have la := ReadsAll.length _ _ _ a4; have lb := ReadsAll.length _ _ _ b4
  rw [Array.length_toList] at la lb
  have inside := room_in hu
  have lt : wpAny (model prog w) A (call (.builtin "tuple.__lt__") [.ref p, .ref q]) (fun v t => v = .bool (dataLt (.tuple xs) (.tuple ys)) ∧ t = s) E s := by
    rcases o with ⟨c, dd, dt, sl⟩; rcases o' with ⟨c', dd', dt', sl'⟩
    obtain rfl : c = _ := a2; obtain rfl : dt = _ := a3; obtain rfl : c' = _ := b2; obtain rfl : dt' = _ := b3
    refine call_meets F.slot_tuple_lt ⟨_, a1, rfl⟩ F.entry_tuple_lt (F.args_tuple_lt_2 _ _) (tuple_ltAt p q us ws n n' dd dd' sl sl' (pairEq xs ys) fun j => dataLt (xs.getD j .none) (ys.getD j .none)) ⟨a1, b1, fun j j1 j2 => ?_, fun j j1 j2 ne => ?_, ?_, rfl⟩
    · exact eqAt_alikeAll xs ys A.in1 s _ _ _ _ a4 b4 same inside j (by rw [Array.length_toList]; exact j1) (by rw [Array.length_toList]; exact j2)
    · exact rcLt_alikeAll xs ys A.in1 s _ _ _ _ a4 b4 same inside j (by rw [Array.length_toList]; exact j1) (by rw [Array.length_toList]; exact j2) ne
    · rw [dataLt_tuple, ← firstLt_toks xs ys same, la, lb]
  refine wpAny_bind (wpAny_cRoomFor (room_here hu) (wpAny_bind (wpAny_callSpecialIfBound?_slot (T := "tuple") ⟨o, a1, a2⟩ F.slot_tuple_lt (wpAny_mono lt (fun v t e => ?_) fun _ _ x => x))))
  obtain ⟨rfl, rfl⟩ := e
  exact wpAny_truthy_bool hq
def isT1 : PyData → Bool
  | .tuple (_ :: _) => true
  | _ => false
def kindD (ds : List PyData) : SortKind := if (ds.head?.map isT1).getD false = true then general' else oneType'
theorem firsts_any : ∀ (vs : List Value) (ds : List PyData) {Q : List (Option Value) → Shared → Prop}, EachIs (fun v d => ∃ as, Reads s.heap v d as) vs ds → (∀ d, d ∈ ds → ∃ xs, d = .tuple xs) →
    (∀ os : List (Option Value), os.map (·.isSome) = ds.map isT1 → Q os s) → wpAny (model prog w) A (vs.mapM firstOfTuple') Q E s
  | _, _, _, .nil, _, h => by rw [List.mapM_nil]; exact wpAny_pure (h [] rfl)
  | _, _, Q, .cons (a := v) (as := vs) (b := d) (bs := ds) ⟨as, r⟩ t, ht, h => by
    obtain ⟨xs, rfl⟩ := ht d (List.mem_cons_self ..)
    obtain ⟨l, o, its, n, rfl, ho, hc, hd, hr⟩ := tup_inv r
    have rest : wpAny (model prog w) A (vs.mapM firstOfTuple') (fun os z => z = s ∧ os.map (·.isSome) = ds.map isT1) E s := firsts_any vs ds t (fun d hd => ht d (.tail _ hd)) fun os e => ⟨rfl, e⟩
    have cl : ¬ (o.cls != Value.type "tuple") = true := by rw [hc]; decide
    have isT : Looks (model prog w) s.heap (typeOf (.ref l)) o.cls := (Looks.ld ho).andThen .now
    have one : its[0]?.isSome = isT1 (.tuple xs) := by
      cases q : its.toList with
      | nil =>
        rw [q] at hr; cases hr
        obtain rfl : its = #[] := by simpa using q
        rfl
      | cons f fr =>
        rw [q] at hr
        cases hr
        rw [← Array.getElem?_toList, q]; rfl
    rw [List.mapM_cons, kas_first_eq]
    refine wpAny_bind (wpAny_bind (isT.here ?_))
    rw [hc]
    first
    | rw [if_neg (by simp)]
    | rw [if_neg (by decide)]
    refine wpAny_bind (listItems_at ho hd (wpAny_pure (wpAny_bind (wpAny_mono rest (fun os z e => ?_) fun _ _ x => x))))
    obtain ⟨rfl, e⟩ := e
    exact wpAny_pure (h _ (by rw [List.map_cons, List.map_cons, e, one]))
theorem kind_mixed {vs : List Value} {ds : List PyData} {Q : SortKind → Shared → Prop} (e : EachIs (fun v d => ∃ as, Reads s.heap v d as) vs ds) (ht : ∀ d, d ∈ ds → ∃ xs, d = .tuple xs) (hm : .tuple [] ∈ ds)
    (h : Q (kindD ds) s) : wpAny (model prog w) A (keyKind' vs.toArray) Q E s := by
  rw [keyKind'_eq]
  rw [List.mapM_toArray, map_eq_pure_bind]; refine wpAny_bind (wpAny_bind (firsts_any vs ds e ht fun os hos => wpAny_pure ?_))
  have hlen : os.length = ds.length := by simpa using congrArg List.length hos
  have hall : (os.toArray.all fun x => x.isSome) = false := by
    rw [List.all_toArray]
    obtain ⟨i, hi, hd⟩ := List.mem_iff_getElem.mp hm
    have h0 : (os.map (·.isSome))[i]? = some false := by
      rw [hos, List.getElem?_map, List.getElem?_eq_getElem hi, hd]; rfl
    rw [List.all_eq_false]
    rw [List.getElem?_map] at h0
    obtain ⟨o, ho, h1⟩ := Option.map_eq_some_iff.mp h0
    exact ⟨o, List.mem_of_getElem? ho, by rw [h1]; simp⟩
  rw [if_neg (by rw [hall]; simp)]
  cases e with
  | nil => cases hm
  | @cons v d vs ds hr t =>
    cases os with
    | nil => simp at hlen
    | cons o os =>
      have h1 : o.isSome = isT1 d := by
        have := congrArg List.head? hos
        simpa using this
      have h2 : (((o :: os).toArray)[0]?.bind id) = o := by simp
      rw [h2]
      by_cases c : o.isSome = true
      · rw [if_pos c]
        rw [c] at h1
        have : kindD (d :: ds) = general' := by
          unfold kindD
          simp [← h1]
        rw [this] at h
        exact wpAny_pure h
      · rw [if_neg c]
        have cf : o.isSome = false := by simpa using c
        rw [cf] at h1
        have : kindD (d :: ds) = oneType' := by
          unfold kindD
          simp [← h1]
        rw [this] at h
        have hT : ∀ u ∈ v :: vs, Looks (model prog w) s.heap (typeOf u) (.type "tuple") := fun u hu => by
          have E2 : EachIs (fun v d => ∃ as, Reads s.heap v d as) (v :: vs) (d :: ds) := .cons hr t
          obtain ⟨d', hd', as', r'⟩ := E2.left u hu
          obtain ⟨xs, rfl⟩ := ht d' hd'
          exact looks_reads r'
        rw [oneTypeOnly'_eq]
        rw [List.mapM_toArray, map_eq_pure_bind]
        refine wpAny_bind (wpAny_bind (wpAny_bind (kas_mapM (r := Value.type "tuple") _ (fun u hu Q' hq => (hT u hu).here hq) (wpAny_pure ?_))))
        have hall : ((List.map (fun _ => Value.type "tuple") (v :: vs)).toArray.all fun x => x == Value.type "tuple") = true := by
          rw [List.all_toArray, List.all_map]
          exact List.all_eq_true.mpr fun _ _ => beq_self_eq_true _
        have h0 : (List.map (fun _ => Value.type "tuple") (v :: vs)).toArray[0]? = some (Value.type "tuple") := by simp
        rw [h0]
        simp only [hall, if_true]
        exact wpAny_pure (wpAny_pure h)
theorem SortsAt.tups {vs : List Value} {ds : List PyData} (e : EachIs (fun v d => ∃ as, Reads s.heap v d as) vs ds) (hal : AllAlike ds) (ht : ∀ d, d ∈ ds → ∃ xs, d = .tuple xs) (hu : ∀ d, d ∈ ds → A.units + d.depth < cLine) : SortsAt prog w A s (dataKind s.heap ds) vs := by
  by_cases hm : PyData.tuple [] ∈ ds
  · refine ⟨fun v hv => let ⟨_, hd, _, r⟩ := e.left v hv; ⟨_, dataKind_some hal hd r⟩, ?_⟩
    · have key : ∀ f : Bool, ∀ (E : Value → Shared → Prop) (x y : Value) (a b : (dataKind s.heap ds).α) {Q : Bool → Shared → Prop}, (dataKind s.heap ds).keyOf x = some a → (dataKind s.heap ds).keyOf y = some b → Q ((dataKind s.heap ds).blt a b) s → wpAny (model prog w) A (oneLt' f x y) Q E s := by
        intro f E x y a b Q ha hb hq
        rcases dataKind_inv ha with ⟨d, _, hd, ra, rfl⟩; rcases dataKind_inv hb with ⟨d', _, hd', rb, rfl⟩
        obtain ⟨xs, rfl⟩ := ht d hd; obtain ⟨ys, rfl⟩ := ht d' hd'
        exact oneLt_tups ra rb (hal _ hd _ hd') (Nat.lt_of_le_of_lt (Nat.add_le_add_left (Nat.min_le_left _ _) _) (hu _ hd)) hq
      by_cases c : ∃ x r ds', ds = .tuple (x :: r) :: ds'
      · obtain ⟨x, r, ds', rfl⟩ := c
        exact ⟨general', fun E x y a b Q ha hb hq => key false E x y a b ha hb hq, fun _ E Q hq => kind_mixed e ht hm hq⟩
      · refine ⟨oneType', fun E x y a b Q ha hb hq => by rw [keyLt'_oneType]; exact key true E x y a b ha hb hq, fun _ E Q hq => kind_mixed e ht hm ?_⟩
        cases ds with
        | nil => exact hq
        | cons d ds =>
          obtain ⟨xs, rfl⟩ := ht d (List.mem_cons_self ..)
          cases xs with
          | nil => exact hq
          | cons x r => exact absurd ⟨x, r, ds, rfl⟩ c
  · refine SortsAt.data e hal (.inl fun d hd => ?_) hu
    obtain ⟨xs, rfl⟩ := ht d hd
    cases xs with
    | nil => exact absurd hd hm
    | cons x r => exact ⟨x, r, rfl⟩
def Sorts (ds : List PyData) : Prop := (∀ d, d ∈ ds → ∃ xs, d = .tuple xs) ∨ ∀ d, d ∈ ds → d ≠ .none ∧ ∀ xs, d ≠ .tuple xs
theorem SortsAt.any {vs : List Value} {ds : List PyData} (e : EachIs (fun v d => ∃ as, Reads s.heap v d as) vs ds) (hal : AllAlike ds) (hk : Sorts ds) (hu : ∀ d, d ∈ ds → A.units + d.depth < cLine) : SortsAt prog w A s (dataKind s.heap ds) vs := by
  rcases hk with ht | hn
  · exact SortsAt.tups e hal ht hu
  · exact SortsAt.data e hal (.inr hn) hu
variable {β : Type} {R : Value → β → Prop} {enc : β → PyData} {vs : List Value} {bs : List β}
def Behind (R : Value → β → Prop) (enc : β → PyData) (bs : List β) (P : List Value → Prop) : Prop := ∀ out, out.length = bs.length → EachIs R out (bs.mergeSort (dataLe false enc)) → P out
theorem road {h : Heap} (er : EachIs (fun v b => ∃ as, Reads h v (enc b) as) vs bs) (hal : AllAlike (bs.map enc)) (hk : Sorts (bs.map enc)) (hu : ∀ b, b ∈ bs → A.units + (enc b).depth < cLine) : SortsAt prog w A { s with heap := h } (dataKind h (bs.map enc)) vs :=
  SortsAt.any (s := { s with heap := h }) (each_map (R := fun v d => ∃ as, Reads h v d as) enc er) hal hk (bound_map hu)
theorem Behind.at {h : Heap} {P : List Value → Prop} (q : Behind R enc bs P) (e : EachIs R vs bs) (er : EachIs (fun v b => ∃ as, Reads h v (enc b) as) vs bs) (hal : AllAlike (bs.map enc)) : P (sortVals (dataKind h (bs.map enc)) false vs vs) :=
  q _ ((sortVals_length false rfl).trans e.length) (sortVals_data false e er hal)
theorem sorted_any {l : Addr} {Q : Value → Shared → Prop} (hl : s.heap.IsList l vs.toArray) (e : EachIs R vs bs) (er : EachIs (fun v b => ∃ as, Reads s.heap v (enc b) as) vs bs) (hal : AllAlike (bs.map enc)) (hk : Sorts (bs.map enc)) (fit : bs.length ≤ sizeLine)
    (hu : ∀ b, b ∈ bs → A.units + 2 + (enc b).depth < cLine) (q : Behind R enc bs fun out => Q (.ref (s.heap.objs.size + 1)) { s with heap := sortedAll s.heap vs (List.toArray out) }) : wpAny (model prog w) A (call (.builtin "sorted") [Value.ref l]) Q E s := by
  have there := er.mono (R' := fun v b => ∃ as, Reads (sortingHeap (copyHeap s.heap vs) (s.heap.objs.size + 1) vs) v (enc b) as) fun _ _ ⟨as, r⟩ => ⟨as, Reads.keeps (fun _ _ => sorting_copy_old) r⟩
  exact sorted_vals hl (road there hal hk hu) (e.length ▸ fit) (q.at e there hal)
end
end DLT
end
section
set_option maxRecDepth 100000
namespace DLT
open PySem PySem.Calls PyProof.Rows PySem.W PySem.SeqAt
section
variable {prog : Program} {w : World} {A : Around} {E : Value → Shared → Prop} {s : Shared} {β : Type} {R : Value → β → Prop} {enc : β → PyData} {vs : List Value} {bs : List β}
theorem list_sort_any {a : Addr} {n : Nat} {Q : Value → Shared → Prop} (ho : s.heap.get? a = some (seqObj "list" vs.toArray n)) (e : EachIs R vs bs) (er : EachIs (fun v b => ∃ as, Reads s.heap v (enc b) as ∧ a ∉ as) vs bs) (hal : AllAlike (bs.map enc)) (hk : Sorts (bs.map enc)) (fit : bs.length ≤ sizeLine)
    (hu : ∀ b, b ∈ bs → A.units + 1 + (enc b).depth < cLine) (q : Behind R enc bs fun out => Q .none { s with heap := sortedHeap s.heap a vs (List.toArray out) }) : wpAny (model prog w) A (call (.builtin "list.sort") [Value.ref a]) Q E s := by
  have there : EachIs (fun v b => ∃ as, Reads (sortingHeap s.heap a vs) v (enc b) as) vs bs := each_keepBut (fun _ _ hb q => sortingHeap_old hb q) (fun o q => Option.some.inj (ho.symm.trans q) ▸ rfl) hal er
  exact wpAny_call_entry slot_list_sort ⟨_, ho, rfl⟩ entry_list_sort (list_sort_vals (κ := dataKind (sortingHeap s.heap a vs) (bs.map enc)) ho (road there hal hk hu) (e.length ▸ fit) ⟨.none, rfl, q.at e there hal⟩) (args_list_sort _)
end
open L2 in
theorem isT_reads {P : Program} {w : World} {h : Heap} {b : Addr} {k : List Int} (x : IsT P w h k b) : Reads h (.ref b) (.tuple (k.map .int)) [] := by
  let ⟨_, _, _, at_, cl, dt, its⟩ := x
  exact .tuple at_ cl dt (IntsAre.reads h (ints_of_items its))
def encT (q : Addr × List Int) : PyData := .tuple (q.2.map .int)
theorem alike_encT (q r : Addr × List Int) : alike (encT q) (encT r) = true := by
  have : ∀ xs ys : List Int, alikeAll (xs.map .int) (ys.map .int) = true := by
    intro xs
    induction xs with
    | nil => intro ys; cases ys <;> simp [alikeAll]
    | cons x xs ih => intro ys; cases ys with
      | nil => simp [alikeAll]
      | cons y ys => simp [alikeAll, alike, ih ys]
  simp [encT, alike, this]
theorem depth_encT (q : Addr × List Int) : (encT q).depth = 1 := by
  have : ∀ xs : List Int, PyData.depthAll (xs.map .int) = 0 := by
    intro xs
    induction xs with
    | nil => simp [PyData.depthAll]
    | cons x xs ih => simp [PyData.depthAll, PyData.depth, ih]
  simp [encT, PyData.depth, this]
def ltL : List Int → List Int → Bool
  | _, [] => false
  | [], _ :: _ => true
  | a :: r, b :: s => if a < b then true else if b < a then false else ltL r s
theorem ltL_eq : ∀ xs ys : List Int, ltL xs ys = decide (xs < ys)
  | [], [] => by simp [ltL]
  | _ :: _, [] => by simp [ltL]
  | [], _ :: _ => by simp [ltL]
  | a :: r, b :: s => by
    unfold ltL
    rw [ltL_eq r s]
    by_cases h : a < b
    · simp [h, List.cons_lt_cons_iff]
    · by_cases h2 : b < a
      · have : a ≠ b := by omega
        simp [h, h2, this, List.cons_lt_cons_iff]
      · have : a = b := by omega
        subst this
        simp [List.cons_lt_cons_iff]
theorem ltL_irr : ∀ x : List Int, ltL x x = false
  | [] => rfl
  | a :: r => by unfold ltL; simp [ltL_irr r]
theorem ltL_tri : ∀ x y : List Int, ltL x y = false → ltL y x = false → x = y
  | [], [], _, _ => rfl
  | [], _ :: _, h, _ => by cases h
  | _ :: _, [], _, h => by cases h
  | a :: r, b :: s, h1, h2 => by
    unfold ltL at h1 h2
    by_cases c : a < b
    · rw [if_pos c] at h1; cases h1
    · by_cases d : b < a
      · rw [if_pos d] at h2; cases h2
      · rw [if_neg c, if_neg d] at h1
        rw [if_neg d, if_neg c] at h2
        have : a = b := by omega
        rw [this, ltL_tri r s h1 h2]
theorem ltL_trans : ∀ x y z : List Int, ltL x y = true → ltL y z = true → ltL x z = true
  | [], [], _, h, _ => by cases h
  | _ :: _, [], _, h, _ => by cases h
  | _, _ :: _, [], _, h => by cases h
  | [], _ :: _, _ :: _, _, _ => rfl
  | a :: r, b :: s, c :: t, h1, h2 => by
    unfold ltL at h1 h2 ⊢
    by_cases e1 : a < b
    · by_cases e2 : b < c
      · rw [if_pos (by omega)]
      · rw [if_neg e2] at h2
        by_cases e3 : c < b
        · rw [if_pos e3] at h2; cases h2
        · rw [if_pos (by omega)]
    · rw [if_neg e1] at h1
      by_cases e3 : b < a
      · rw [if_pos e3] at h1; cases h1
      · rw [if_neg e3] at h1
        have : a = b := by omega
        subst this
        by_cases e2 : a < c
        · rw [if_pos e2]
        · rw [if_neg e2] at h2 ⊢
          by_cases e4 : c < a
          · rw [if_pos e4] at h2; cases h2
          · rw [if_neg e4] at h2 ⊢
            exact ltL_trans r s t h1 h2
theorem ltL_asym {x y : List Int} (h : ltL x y = true) : ltL y x = false := by
  cases e : ltL y x with
  | false => rfl
  | true => have := ltL_trans x y x h e; rw [ltL_irr] at this; cases this
theorem dataLt_encT (q r : Addr × List Int) : dataLt (encT q) (encT r) = ltL q.2 r.2 := by
  unfold encT
  rw [dataLt_tuple, ltL_eq, ← dataLt_ints]
  rfl
theorem dataLe_encT (q r : Addr × List Int) : dataLe false encT q r = !ltL r.2 q.2 := by
  rw [dataLe_eq]
  show (!dataLt (encT r) (encT q)) = _
  rw [dataLt_encT]
theorem leL_trans {x y z : List Int} (h1 : ltL y x = false) (h2 : ltL z y = false) : ltL z x = false := by
  cases e : ltL z x with
  | false => rfl
  | true =>
    cases e2 : ltL x y with
    | true => have := ltL_trans z x y e e2; rw [h2] at this; cases this
    | false => have := ltL_tri x y e2 h1; subst this; rw [h2] at e; cases e
theorem perm_un {α β : Type} {f : α → β} {vs ws : List β} (h : vs.Perm ws) : ∀ L : List α, ws = L.map f → ∃ L1 : List α, L1.Perm L ∧ vs = L1.map f := by
  induction h with
  | nil =>
    intro L e
    cases L with
    | nil => exact ⟨[], .nil, rfl⟩
    | cons _ _ => cases e
  | cons x _ ih =>
    intro L e
    cases L with
    | nil => cases e
    | cons y L =>
      rw [List.map_cons] at e
      injection e with e1 e2
      obtain ⟨L1, p, e3⟩ := ih L e2
      exact ⟨y :: L1, p.cons y, by rw [List.map_cons, e1, e3]⟩
  | swap x y l =>
    intro L e
    match L, e with
    | a :: b :: r, e =>
      simp only [List.map_cons, List.cons.injEq] at e
      exact ⟨b :: a :: r, .swap a b r, by simp [e]⟩
  | trans _ _ i1 i2 =>
    intro L e
    obtain ⟨L2, p2, e2⟩ := i2 L e
    obtain ⟨L1, p1, e1⟩ := i1 L2 e2
    exact ⟨L1, p1.trans p2, e1⟩
abbrev AT := Addr × List Int
def AT.v (q : AT) : Value := .ref q.1
theorem each_at {S : Value → AT → Prop} : ∀ {l : List AT}, (∀ q ∈ l, S q.v q) → EachIs S (l.map AT.v) l
  | [], _ => .nil
  | _ :: _, h => .cons (h _ (.head _)) (each_at fun q m => h q (.tail _ m))
theorem each_un {out : List Value} {l : List AT} (h : EachIs (fun v q => v = AT.v q) out l) : out = l.map AT.v := by
  induction h with
  | nil => rfl
  | cons e _ ih => exact congr (congrArg List.cons e) ih
theorem rising (l : List AT) : (l.mergeSort (dataLe false encT)).Pairwise (fun q r => dataLe false encT q r = true) := by
  refine List.pairwise_mergeSort (fun x y z a b => ?_) (fun x y => ?_) l
  · simp only [dataLe_encT, Bool.not_eq_true'] at a b ⊢; exact leL_trans a b
  · simp only [dataLe_encT]
    cases e : ltL y.2 x.2 <;> simp [e]
    exact ltL_asym e
theorem sorted_setE {P : Program} {w : World} {A : Around} {E : Value → Shared → Prop} {s : Shared} {a : Addr} {L : List AT} {es : Array (Int × Value)} {ep : Nat} {t : SetTable} {Q : Value → Shared → Prop} (R : L2.SetTR P w s.heap a L es ep t) (free : A.handled = none) (hu : A.units + 64 < cLine)
    (q : ∀ s' p (out : Array Value) c (M : List AT), (∀ b o, s.heap.get? b = some o → s'.heap.get? b = some o) ∧ s'.gens = s.gens ∧ s'.os = s.os ∧ s.heap.objs.size ≤ p → s'.heap.get? p = some (seqObj "list" out c) → out.toList = M.map AT.v → M.Perm L → M.Pairwise (fun q r => dataLe false encT q r = true) → Q (.ref p) s') :
    wpAny (model P w) A (call (.builtin "sorted") [Value.ref a]) Q E s := by
  have few : L.length < 64 := R.few
  have ct : es.size = L.length := R.size
  obtain ⟨o, at_, ex, dt⟩ := R.ob
  refine Calls.call_function_entry kind_sorted plain_sorted entry_sorted (args_sorted1 _) (?_ : wpAny _ _ (Builtin.«sorted» _) _ _ _)
  unfold Builtin.«sorted»
  refine wpAny_bind (m := checkCount "sorted" 1 1 _) (wpAny_pure (wpAny_bind (L2.collect_set (A := A.in1) free ⟨o, at_, ex.1, dt⟩ R.fits (by unfold scanBound; omega) R.tab.ris R.led fun s1 vs k1 hz g1 o1 pm => ?_)))
  have rows : es.toList.map (·.2) = L.map AT.v := by rw [R.rows, L2.rowsOf, List.map_map]; rfl
  obtain ⟨N, pN, rfl⟩ := perm_un pm L rows
  have fewN : N.length < 64 := pN.length_eq ▸ few
  have fit : (N.map AT.v).length ≤ sizeLine := by rw [List.length_map, sizeLine_eq]; omega
  have new_ : (s1.heap.push (seqObj "list" (N.map AT.v).toArray 0)).get? s1.heap.objs.size = some (seqObj "list" (N.map AT.v).toArray 0) := Heap.get?_push_size _ rfl
  have old : ∀ b u, s.heap.get? b = some u → (s1.heap.push (seqObj "list" (N.map AT.v).toArray 0)).get? b = some u := fun b u e => Heap.get?_push_of_some _ (k1 b u e)
  refine wpAny_bind (wpAny_newList ?_ fit)
  refine wpAny_bind (wpAny_holding (list_sort_any (s := { s1 with heap := s1.heap.push (seqObj "list" (N.map AT.v).toArray 0) }) (enc := encT) (R := fun v q => v = AT.v q) new_ (each_at fun _ _ => rfl) (each_at fun q m => ⟨[], isT_reads (L2.isT_keep (R.tup q (pN.subset m)) old), List.not_mem_nil⟩) ?_ (.inl fun d m => ?_) (by rw [List.length_map] at fit; exact fit) (fun b _ => ?_) fun out _ eo => ?_))
  · intro x hx y hy
    obtain ⟨q, _, rfl⟩ := List.mem_map.mp hx; obtain ⟨r, _, rfl⟩ := List.mem_map.mp hy
    exact alike_encT q r
  · obtain ⟨q, _, rfl⟩ := List.mem_map.mp m; exact ⟨_, rfl⟩
  · have : A.in1.units = A.units + 1 := rfl
    rw [depth_encT, this]; omega
  · obtain ⟨c, here⟩ := sortedHeap_at (vs := N.map AT.v) (out := out.toArray) new_
    refine wpAny_pure ⟨_, rfl, q _ s1.heap.objs.size out.toArray c _ ⟨fun b u e => ?_, g1, o1, hz⟩ here (by rw [each_un eo]) ((List.mergeSort_perm _ _).trans pN) (rising N)⟩
    have b1 : b < s1.heap.objs.size := Heap.lt_size (k1 b u e)
    change Heap.get? (sortedHeap (s1.heap.push (seqObj "list" (N.map AT.v).toArray 0)) s1.heap.objs.size (N.map AT.v) out.toArray) b = some u
    have b2 : b < (s1.heap.push (seqObj "list" (N.map AT.v).toArray 0)).objs.size := by rw [size_push']; exact Nat.lt_succ_of_lt b1
    rw [sortedHeap_old (Nat.ne_of_lt b1) b2]
    exact old b u e
def insT (x : List Int) : List (List Int) → List (List Int)
  | [] => [x]
  | y :: r => if ltL x y then x :: y :: r else if ltL y x then y :: insT x r else y :: r
def sortT (ns : List (List Int)) : List (List Int) := ns.foldr insT []
theorem insT_mem (x k : List Int) : ∀ l : List (List Int), k ∈ insT x l ↔ k = x ∨ k ∈ l
  | [] => by simp [insT]
  | y :: r => by
    unfold insT
    by_cases h : ltL x y = true
    · rw [if_pos h, List.mem_cons]
    · rw [if_neg h]
      by_cases h2 : ltL y x = true
      · rw [if_pos h2, List.mem_cons, insT_mem x k r, List.mem_cons]
        constructor
        · rintro (h | h | h)
          · exact .inr (.inl h)
          · exact .inl h
          · exact .inr (.inr h)
        · rintro (h | h | h)
          · exact .inr (.inl h)
          · exact .inl h
          · exact .inr (.inr h)
      · rw [if_neg h2]
        have : x = y := ltL_tri x y (by simpa using h) (by simpa using h2)
        subst this
        simp
theorem insT_up (x : List Int) : ∀ l : List (List Int), l.Pairwise (fun a b => ltL a b = true) → (insT x l).Pairwise (fun a b => ltL a b = true)
  | [], _ => by simp [insT]
  | y :: r, h => by
    obtain ⟨h1, h2⟩ := List.pairwise_cons.mp h
    unfold insT
    by_cases c : ltL x y = true
    · rw [if_pos c]
      refine List.pairwise_cons.mpr ⟨fun k hk => ?_, h⟩
      rcases List.mem_cons.mp hk with rfl | hk
      · exact c
      · exact ltL_trans _ _ _ c (h1 k hk)
    · rw [if_neg c]
      by_cases c2 : ltL y x = true
      · rw [if_pos c2]
        refine List.pairwise_cons.mpr ⟨fun k hk => ?_, insT_up x r h2⟩
        rcases (insT_mem x k r).mp hk with rfl | hk
        · exact c2
        · exact h1 k hk
      · rw [if_neg c2]; exact h
theorem sortT_mem (k : List Int) : ∀ ns : List (List Int), k ∈ sortT ns ↔ k ∈ ns
  | [] => by simp [sortT]
  | x :: r => by
    show k ∈ insT x (sortT r) ↔ _
    rw [insT_mem, sortT_mem k r, List.mem_cons]
theorem sortT_up : ∀ ns : List (List Int), (sortT ns).Pairwise (fun a b => ltL a b = true)
  | [] => List.Pairwise.nil
  | x :: r => insT_up x _ (sortT_up r)
theorem upT_unique : ∀ {l m : List (List Int)}, l.Pairwise (fun a b => ltL a b = true) → m.Pairwise (fun a b => ltL a b = true) → (∀ k, k ∈ l ↔ k ∈ m) → l = m
  | [], [], _, _, _ => rfl
  | [], y :: m, _, _, h => by have := (h y).mpr List.mem_cons_self; simp at this
  | x :: l, [], _, _, h => by have := (h x).mp List.mem_cons_self; simp at this
  | x :: l, y :: m, h1, h2, h => by
    obtain ⟨a1, a2⟩ := List.pairwise_cons.mp h1
    obtain ⟨b1, b2⟩ := List.pairwise_cons.mp h2
    have e : x = y := by
      rcases List.mem_cons.mp ((h x).mp List.mem_cons_self) with e | e
      · exact e
      · rcases List.mem_cons.mp ((h y).mpr List.mem_cons_self) with e2 | e2
        · exact e2.symm
        · have := ltL_asym (a1 y e2)
          rw [b1 x e] at this; cases this
    subst e
    congr 1
    refine upT_unique a2 b2 fun k => ⟨fun hk => ?_, fun hk => ?_⟩
    · rcases List.mem_cons.mp ((h k).mp (List.mem_cons_of_mem _ hk)) with e | e
      · have := a1 k hk; rw [e, ltL_irr] at this; cases this
      · exact e
    · rcases List.mem_cons.mp ((h k).mpr (List.mem_cons_of_mem _ hk)) with e | e
      · have := b1 k hk; rw [e, ltL_irr] at this; cases this
      · exact e
theorem upT_of {l : List (List Int)} (h : l.Pairwise (fun a b => ltL b a = false)) (nd : l.Nodup) : l.Pairwise (fun a b => ltL a b = true) := by
  refine (h.and nd).imp fun {a b} ⟨q, ne⟩ => ?_
  cases e : ltL a b with
  | true => rfl
  | false => exact absurd (ltL_tri a b e q) ne
end DLT
end
section
set_option maxRecDepth 100000
namespace DL
open PySem PySem.Spec L2
open PySem.W (dataLe AllAlike EachIs)
open PySem.W (alike alikeAll dataLt)
open DLT (Sorts ltL sortT)
def rSortedE (K : PySem.W.Frag) : List V → Hp → VK → Prop := fun vs H Q => ∃ (a : Addr) (bs : List (V × D)) (k : D → PyData), vs = [V.ref a] ∧ SqL K H a (bs.map (·.1)) ∧ (∀ b ∈ bs, Dp K H b.1 (k b.2)) ∧ AllAlike (bs.map fun b => k b.2) ∧ Sorts (bs.map fun b => k b.2) ∧
  (∀ b ∈ bs, (k b.2).depth ≤ 60) ∧ ∀ p, H p = none → Q (.ref p) (upd H p (.lst ((bs.mergeSort (dataLe false fun b => k b.2)).map (·.1))))
def rSortedTE (K : PySem.W.Frag) (P : Program) (w : World) : List V → Hp → VK → Prop := fun vs H Q => ∃ (a : Addr) (L : List (Addr × List Int)), vs = [V.ref a] ∧ H a = some (SetTO P w a L) ∧ (∀ p ∈ L, SqT K H p.1 (p.2.map V.int)) ∧
  ∀ (L' : List (Addr × List Int)) (p : Addr), L'.Perm L → (L'.map (·.2)).Nodup → L'.length < 64 → L'.Pairwise (fun q r => ltL r.2 q.2 = false) → H p = none → Q (.ref p) (upd H p (.lst (L'.map fun q => V.ref q.1)))
def canSortE (ds : List D) : Bool := ds.all (fun d => d.py.isSome && decide (d.pyD.depth ≤ 60)) && (ds.all fun d => ds.all fun e => alike d.pyD e.pyD) && (ds.all (fun d => match d with | .tup _ => true | _ => false) || ds.all (fun d => noTup d.pyD))
def opSortedL (d : D) : M Res := M.opt d.lis fun ds => M.need (canSortE ds) (pure (.new (.lst (sortD ds))))
def opSortedE (d : D) : M Res := match d with
  | .dct _ _ _ => opSortedD d
  | _ => opSortedL d
section
variable {X : Cx} {z : Zx} {S S' : Sx} {σ : L2.St} {H H' H0 : Hp} {g g' g2 : Gh} {v : V} {d : D} {r : Res} {K : PySem.W.Frag} {mg : Str → Option Value} {pos p pos2 p2 : Pos} {a b c e : Expr} {fa fb fc : M Res}
theorem cr_sortedE (hu : X.A.units + 65 < cLine) : CallR X (.builtin "sorted") (rSortedE X.K) := fun pins s σ H vs us Q I r ⟨a, bs, k, ev, sq, hdp, hal, hso, dep, q⟩ => by
  subst ev
  obtain ⟨its, rv, pl, le⟩ := I.list sq
  rw [Vals.ref1 r]
  have each := each_vals rv
  have fit : bs.length ≤ sizeLine := by simpa using le
  refine DLT.sorted_any (enc := fun b => k b.2) pl.isList each (each_and each fun u b m rr => Dp.reads I _ _ _ (hdp b m) rr) hal hso fit (fun b m => by have := dep b m; omega) fun out _ eo => ?_
  obtain ⟨ep, at_⟩ := PyProof.Rows.sortedAll_at s.heap its out.toArray
  have fit2 : ((bs.mergeSort (dataLe false fun b => k b.2)).map (·.1)).length ≤ sizeLine := by rw [List.length_map, List.length_mergeSort]; exact fit
  exact ⟨.ref _, upd H (s.heap.objs.size + 1) (.lst ((bs.mergeSort (dataLe false fun b => k b.2)).map (·.1))), I.laid (t' := s.toks) (fun _ _ => PyProof.Rows.sortedAll_old) (Nat.le_succ _) ⟨fit2, out, ep, vals_each eo, at_⟩, rfl, q _ (I.hok.fresh (Nat.le_succ _))⟩
theorem cr_sortedTE (hc : X.calm = true) (hu : X.A.units + 64 < cLine) : CallR X (.builtin "sorted") (rSortedTE X.K X.prog X.w) := fun pins s σ H vs us Q I r ⟨a, L, ev, ha, hk, q⟩ => by
  subst ev
  obtain ⟨es, ep, t, R⟩ := ((I.hok a _ ha).1 : SetT0 X.prog X.w s.heap a L).full fun p hp => I.isT (hk p hp)
  rw [Vals.ref1 r]
  refine DLT.sorted_setE R (I.ok.hd hc) hu fun ⟨h', g', dr, tk, o'⟩ p out c M ⟨k, eg, eo, hp⟩ at_ eM pm up => ?_
  obtain rfl : g' = s.gens := eg; obtain rfl : o' = s.os := eo
  have few : M.length < 64 := pm.length_eq ▸ R.few
  have fit : (M.map fun q => V.ref q.1).length ≤ sizeLine := by rw [List.length_map, sizeLine_eq]; omega
  have vals : Vals (M.map fun q => V.ref q.1) out.toList := by rw [eM]; exact vals_of_refs M
  have free : H p = none := I.hok.fresh hp
  have J := I.call (ch := []) (g' := s.gens) (t' := tk) (d' := dr) (Un.laid (o := .lst (M.map fun q => V.ref q.1)) k hp free) (I.hok.laid (o := .lst (M.map fun q => V.ref q.1)) k hp ⟨fit, out.toList, c, vals, at_⟩) I.bare nofun
  exact ⟨.ref p, _, J, rfl, q M p pm ((pm.map (·.2)).nodup_iff.mpr R.nd) few (up.imp fun {x y} le => by rw [DLT.dataLe_encT] at le; simpa using le) free⟩
theorem sortE_parts {xs : List V} {ds : List D} {Q : VK} (s : SR X.K z S σ H g) (rx : RpA X.K H g xs ds) (c : canSortE ds = true) (h3 : Go X.K X.mg z (pure (.new (.lst (sortD ds)))) S σ H g (fun r S' H' g' => ∀ v, ResOk X.K z S' σ H' g' v r → Q v H')) :
    ∃ (bs : List (V × D)) (k : D → PyData), bs.map (·.1) = xs ∧ (∀ b ∈ bs, Dp X.K H b.1 (k b.2)) ∧ AllAlike (bs.map fun b => k b.2) ∧ Sorts (bs.map fun b => k b.2) ∧
      (∀ b ∈ bs, (k b.2).depth ≤ 60) ∧ ∀ p, H p = none → Q (.ref p) (upd H p (.lst ((bs.mergeSort (dataLe false fun b => k b.2)).map (·.1)))) := by
  obtain ⟨z1, z2⟩ := zip_map1 rx.length
  unfold canSortE at c
  simp only [Bool.and_eq_true, Bool.or_eq_true, List.all_eq_true, decide_eq_true_eq] at c
  obtain ⟨⟨c1, c2⟩, c3⟩ := c
  have mz : ∀ b ∈ xs.zip ds, Rp X.K H g b.1 b.2 ∧ b.2 ∈ ds := fun b m => rx.mem_zip m
  have e2 : ((xs.zip ds).map fun b => b.2.pyD) = ds.map D.pyD := by
    have : ((xs.zip ds).map fun b => b.2.pyD) = ((xs.zip ds).map (·.2)).map D.pyD := by rw [List.map_map]; rfl
    rw [this, z2]
  refine ⟨xs.zip ds, D.pyD, z1, fun b m => ?_, ?_, ?_, fun b m => (c1 _ (mz b m).2).2, fun p hp => ?_⟩
  · obtain ⟨pd, ep⟩ := Option.isSome_iff_exists.mp (c1 _ (mz b m).2).1
    unfold D.pyD
    rw [ep]
    exact (mz b m).1.dp ep
  · rw [e2]
    intro p hp q hq
    obtain ⟨d, hd, rfl⟩ := List.mem_map.mp hp
    obtain ⟨f, hf, rfl⟩ := List.mem_map.mp hq
    exact c2 d hd f hf
  · rw [e2]
    rcases c3 with c3 | c3
    · refine .inl fun p hp => ?_
      obtain ⟨d, hd, rfl⟩ := List.mem_map.mp hp
      have h4 := c3 d hd
      obtain ⟨pd, ep⟩ := Option.isSome_iff_exists.mp (c1 d hd).1
      cases d <;> first | (exact absurd h4 Bool.false_ne_true) | skip
      rename_i l
      simp only [D.py, Option.map_eq_some_iff] at ep
      obtain ⟨q, e4, rfl⟩ := ep
      exact ⟨q, by unfold D.pyD; simp [D.py, e4]⟩
    · refine .inr fun p hp => ?_
      obtain ⟨d, hd, rfl⟩ := List.mem_map.mp hp
      have := c3 d hd
      revert this
      cases d.pyD with
      | none => intro q; cases q
      | tuple l => intro q; cases q
      | _ => intro _; exact ⟨by simp, fun l q => by simp at q⟩
  · have e3 : ((xs.zip ds).mergeSort (dataLe false fun b => b.2.pyD)).map (·.2) = sortD ds := by
      rw [List.map_mergeSort (s := fun x y => !D.lt y x) (f := fun b : V × D => b.2)]
      · rw [z2]; rfl
      · intro b _ b' _; rfl
    have r2 : RpA X.K H g (((xs.zip ds).mergeSort (dataLe false fun b => b.2.pyD)).map (·.1)) (sortD ds) := by
      rw [← e3]
      exact RpA.of_pairs fun b m => (mz b (by simpa [List.mem_mergeSort] using m)).1
    exact out_lst s r2 h3 p hp
theorem ud_sortedE : UnD X z (rSortedE X.K) opSortedL := by
  intro S σ H g x dx Q s px h
  obtain ⟨ds, e, h2⟩ := h.opt
  obtain ⟨c, h3⟩ := h2.need
  obtain ⟨ad, xs, rfl, hx, rx⟩ := px.lis e
  obtain ⟨bs, k, e1, q⟩ := sortE_parts s rx c h3
  exact ⟨ad, bs, k, rfl, by rw [e1]; exact hx, q⟩
theorem de_sortedE (hc : X.calm = true) (hu : X.A.units + 65 < cLine) (hm : X.mg "sorted" = none) (ha : DE X z a fa) (hg : Gl X "sorted" := by rfl) (hs : starEach [a] X.env = (false, eval a X.env) :: starEach [] X.env := by rfl) (hpl : (backTo pos (starEach [] X.env)).any (·.1) = false := by rfl) :
    DE X z (.Call (.Name "sorted" p) [a] [] pos) (unM opSortedE fa) :=
  de_un (fun S σ H g x dx Q s px h => by
    unfold opSortedE at h
    split at h
    · rename_i t ks vs
      unfold opSortedD at h
      cases t with
      | true => exact h.none.elim
      | false =>
        simp only at h
        obtain ⟨ns, e, h2⟩ := h.opt
        obtain ⟨c, h3⟩ := h2.need
        rw [Bool.and_eq_true] at c
        have c1 := of_decide_eq_true c.1
        have c2 := of_decide_eq_true c.2
        obtain ⟨ad, o, ws, rfl, hx, cc, rx⟩ := px.dct
        cases cc with
        | dK kvs =>
          refine .inr ⟨ad, kvs, ns, rfl, .inl hx, ints_keys e, c1, fun ys p hp hup hn => ?_⟩
          have := perm_up hp hup c2
          subst this
          exact out_lst s (RpA.of_ints _) h3 p hn
    · exact .inl (ud_sortedE S σ H g x dx Q s px h))
    (pe_callB ((cr_sortedE hu).or (call_sortedDI hc)) hg hm (by decide +kernel) (pa_cons ha pa_nil hs) (he := hs) (hpl := hpl))
def D.tups? : List D → Option (List (List Int))
  | [] => some []
  | .tup ds :: r => (D.ints? ds).bind fun ns => (D.tups? r).map fun q => ns :: q
  | _ => none
def tupI (ns : List Int) : D := .tup (ns.map .int)
theorem tups?_of : ∀ {ds : List D} {ks : List (List Int)}, D.tups? ds = some ks → ds = ks.map tupI
  | [], ks, e => by simp [D.tups?] at e; subst e; rfl
  | d :: r, ks, e => by
    cases d <;> simp [D.tups?, Option.bind_eq_some_iff] at e
    obtain ⟨ns, e1, q, e2, rfl⟩ := e
    rw [List.map_cons, ← tups?_of e2, ints?_of e1]; rfl
def opSortSetT (d : D) : M Res := M.opt (d.lis.bind D.tups?) fun ks => M.need (decide (ks.length < 64)) (pure (.new (.lst ((sortT ks).map tupI))))
def opSortSetE (d : D) : M Res := match d.lis.bind D.ints? with
  | some _ => opSortSet d
  | none => opSortSetT d
theorem RpA.tups : ∀ {vs : List V} {ks : List (List Int)}, RpA K H g vs (ks.map tupI) → ∃ ps : List (Addr × List Int), vs = ps.map (fun p => V.ref p.1) ∧ ps.map (·.2) = ks ∧ ∀ p ∈ ps, H p.1 = some (.tup (p.2.map V.int))
  | _, [], .nil => ⟨[], rfl, rfl, fun p hp => by cases hp⟩
  | _, k :: r, .cons h t => by
    obtain ⟨ps, e1, e2, e3⟩ := RpA.tups t
    cases h with
    | @tup ad xs ds hx rx =>
      have := rx.ints; subst this
      refine ⟨(ad, k) :: ps, by rw [e1]; rfl, by rw [List.map_cons, e2], fun p hp => ?_⟩
      rcases List.mem_cons.mp hp with rfl | hp
      · exact hx
      · exact e3 p hp
theorem RpA.of_tups : ∀ {ps : List (Addr × List Int)}, (∀ p ∈ ps, H p.1 = some (.tup (p.2.map V.int))) → RpA K H g (ps.map fun p => V.ref p.1) ((ps.map (·.2)).map tupI)
  | [], _ => .nil
  | p :: r, h => .cons (.tup (h p List.mem_cons_self) (RpA.of_ints p.2)) (RpA.of_tups fun q hq => h q (List.mem_cons_of_mem _ hq))
theorem de_sortedSetE (hc : X.calm = true) (hu : X.A.units + 65 < cLine) (hm : X.mg "sorted" = none) (hm2 : X.mg "set" = none) (ha : DE X z a fa) (hg : Gl X "sorted" := by rfl) (hg2 : Gl X "set" := by rfl) (na : starEach [a] X.env = (false, eval a X.env) :: starEach [] X.env := by rfl)
    (na2 : starEach [.Call (.Name "set" p2) [a] [] pos2] X.env = (false, eval (.Call (.Name "set" p2) [a] [] pos2) X.env) :: starEach [] X.env := by rfl) (hpl : (backTo pos (starEach [] X.env)).any (·.1) = false := by rfl) (hpl2 : (backTo pos2 (starEach [] X.env)).any (·.1) = false := by rfl) :
    DE X z (.Call (.Name "sorted" p) [.Call (.Name "set" p2) [a] [] pos2] [] pos) (unM opSortSetE fa) :=
  PE.imp (pe_callB ((cr_sortedSet hc).or (cr_sortedTE hc (by omega))) hg hm (by decide +kernel) (pa_cons (pe_callTy ((cr_setI hc).or (cr_setOfT hc (by omega))) hg2 hm2 (by decide +kernel) (pa_cons ha pa_nil na) (he := na) (hpl := hpl2)) pa_nil na2) (he := na2) (hpl := hpl)) fun σ H Q ⟨S, g, s, h⟩ =>
    ⟨S, g, s, h.bnd.imp fun r S1 H1 g1 s1 f1 h0 x rx => by
      unfold opSortSetE at h0
      split at h0
      · obtain ⟨ns, e, h2⟩ := h0.opt
        obtain ⟨c, h3⟩ := h2.need
        rw [Bool.and_eq_true] at c
        have c1 := of_decide_eq_true c.1
        have c2 := of_decide_eq_true c.2
        obtain ⟨ds, e1, e2⟩ := Option.bind_eq_some_iff.mp e
        obtain ⟨ad, xs, rfl, hx, rxs⟩ := (s1.pk rx).lis e1
        have := ints?_of e2; subst this
        have := rxs.ints; subst this
        refine .inl ⟨ad, ns, rfl, hx, c1, fun p T n hp hT ⟨l, l1, l2, l3⟩ => ?_⟩
        have hl : (sortS ns).length = n := by
          rw [← l3]
          exact nodup_len (up_nodup (sortS_up ns)) l1 fun k => by rw [sortS_mem, l2]
        refine .inl ⟨p, T, n, rfl, upd_same, by omega, fun ms q hup hmem hlen hq => ?_⟩
        have em : ms = sortS ns := up_unique hup (sortS_up ns) fun k => by rw [hmem, hT, sortS_mem]
        subst em
        have sr := s1.upd_new (o := SetO X.w p T n) hp
        have fr : Fr H1 g1 (upd H1 p (SetO X.w p T n)) g1 := Fr.upd_new hp
        exact out_lst sr (RpA.of_ints _) (Go.at h3 fr) q hq
      · obtain ⟨ks, e, h2⟩ := h0.opt
        obtain ⟨c, h3⟩ := h2.need
        have c1 := of_decide_eq_true c
        obtain ⟨ds, e1, e2⟩ := Option.bind_eq_some_iff.mp e
        obtain ⟨ad, xs, rfl, hx, rxs⟩ := (s1.pk rx).lis e1
        have := tups?_of e2; subst this
        obtain ⟨ps, rfl, e4, e5⟩ := rxs.tups
        refine .inr ⟨ad, ps, rfl, hx, fun p hp => SqT.of (e5 p hp), by rw [← List.length_map (f := (·.2)), e4]; exact c1, fun p L hp hL1 hL2 => ?_⟩
        have hne : ∀ q ∈ L, q.1 ≠ p := fun q hq h => by
          have := e5 q (hL1 q hq)
          rw [h, hp] at this; cases this
        have sr := s1.upd_new (o := SetTO X.prog X.w p L) hp
        have fr : Fr H1 g1 (upd H1 p (SetTO X.prog X.w p L)) g1 := Fr.upd_new hp
        have e6 : ∀ q ∈ L, upd H1 p (SetTO X.prog X.w p L) q.1 = some (.tup (q.2.map V.int)) := fun q hq => by rw [upd_ne (hne q hq)]; exact e5 q (hL1 q hq)
        refine .inr ⟨p, L, rfl, upd_same, fun q hq => SqT.of (e6 q hq), fun L' q pm nd few pw hq => ?_⟩
        have em : L'.map (·.2) = sortT ks := by
          refine DLT.upT_unique (DLT.upT_of (List.pairwise_map.mpr pw) nd) (DLT.sortT_up ks) fun k => ?_
          rw [DLT.sortT_mem, (pm.map (·.2)).mem_iff]
          constructor
          · intro hk
            obtain ⟨q, hq, rfl⟩ := List.mem_map.mp hk
            rw [← e4]
            exact List.mem_map.mpr ⟨q, hL1 q hq, rfl⟩
          · intro hk
            rw [← e4] at hk
            obtain ⟨q, hq, rfl⟩ := List.mem_map.mp hk
            exact hL2 q hq
        have rp : RpA X.K (upd H1 p (SetTO X.prog X.w p L)) g1 (L'.map fun q => V.ref q.1) ((sortT ks).map tupI) := by
          rw [← em]
          exact RpA.of_tups fun q hq => e6 q (pm.mem_iff.mp hq)
        exact out_lst sr rp (Go.at h3 fr) q hq⟩
def QStep (K : PySem.W.Frag) (H : Hp) (v : V) (H' : Hp) (r : Res) : Prop := ∀ z S σ g, SR K z S σ H g → ∃ g', SR K z S σ H' g' ∧ Fr H g H' g' ∧ ResOk K z S σ H' g' v r
structure QE (X : Cx) (e : Expr) (r : Res) : Prop where
  pe : PE X e fun _ H Q => ∀ v H', QStep X.K H v H' r → Q v H'
theorem QStep.set {D0 : Ends} {i : Nat} {f : M Fl} (q : QStep K H v H' r) (s : SR K z S σ H g) (h : GoS K mg z (seqM (asgM i (pure r)) f) S σ H g D0) : ∃ S1 g1, SR K z S1 (σ.set i (some v)) H' g1 ∧ GoS K mg z f S1 (σ.set i (some v)) H' g1 D0 := by
  obtain ⟨g1, s1, f1, rv⟩ := q z S σ g s
  have h1 : GoS K mg z (asgM i (pure r)) S σ H' g1 ⟨fun σ1 H1 => ∃ S2 g2, SR K z S2 σ1 H1 g2 ∧ GoS K mg z f S2 σ1 H1 g2 D0, fun _ _ => True, fun _ _ => True, fun _ _ => True⟩ := by
    refine GoS.seq (GoS.at h f1) (fun S1 σ1 H1 g1 s h => ⟨S1, g1, s, h⟩) (fun _ _ _ _ _ _ => trivial) (fun _ _ _ _ _ _ => trivial) (fun _ _ _ _ _ _ _ _ _ => trivial)
  exact GoS.set s1 rv h1
variable {i j l : Nat} {x y w : Str} {px py pw pt pt2 : Pos} {kt k2 : Nat} {ra rb rc : Res}
end
end DL
end
section
set_option maxRecDepth 100000
namespace DL
open PySem L2
def Er {α : Type} (m : M α) (S : Sx) (E : Exn → Sx → Prop) : Prop := match m S with
  | some (.error x, S') => E x S'
  | _ => False
def De (den : Den) (as o : List D) (E : Exn → List D → Prop) : Prop := match den as o with
  | some (.error x, o') => E x o'
  | _ => False
section
variable {α β : Type} {f : M α} {k : α → M β} {S : Sx} {E : Exn → Sx → Prop} {n i : Nat} {d : D} {o as ds : List D} {env : List Slot}
theorem Er.mono {E' : Exn → Sx → Prop} (h : Er f S E) (q : ∀ x S', E x S' → E' x S') : Er f S E' := by
  unfold Er at h ⊢
  split at h
  · exact q _ _ h
  · exact h.elim
end
theorem De.mono {den : Den} {as o : List D} {E E' : Exn → List D → Prop} (h : De den as o E) (q : ∀ x o', E x o' → E' x o') : De den as o E' := by
  unfold De at h ⊢
  split at h
  · exact q _ _ h
  · exact h.elim
end DL
end
section
set_option maxRecDepth 100000
namespace DL
open PySem PySem.Spec L2
section
variable {X : Cx} {z : Zx} {S S' : Sx} {σ : L2.St} {H H' H0 : Hp} {g g' g2 : Gh} {v : V} {d : D} {r : Res} {K : PySem.W.Frag} {mg : Str → Option Value} {pos p : Pos} {a b c e : Expr} {fa fb fc : M Res} {i : Nat}
variable {apos px : Pos} {x : Str}
def zipK : List D → Option (List D)
  | [.tup ds, .tup es] => some (zipD ds es)
  | [.lst ds, .lst es] => some (zipD ds es)
  | [.rol ds, .lst es] => some (zipD ds es)
  | [.lst ds, .rol es] => some (zipD ds es)
  | _ => Option.none
def zipI (fs : M (List Res)) : M (List D) := fs >>= fun rs => useAll rs >>= fun ds => M.opt (zipK ds) fun l => pure l
theorem di_zip {elts : List Expr} {kk : Nat} {tpos : Pos} {fs : M (List Res)} (hg : Gl X "zip") (hm : X.mg "zip" = none) (ha : DAH X z [a, b] fs)
    (hs : starEach [a, b] X.env = (false, eval a X.env) :: starEach [b] X.env := by rfl) (hpl : (backTo pos (starEach [b] X.env)).any (·.1) = false := by rfl) :
    DI X z (.Tuple elts kk tpos) (.Call (.Name "zip" p) [a, b] [] pos) (zipI fs) :=
  PI.imp (RZ.pi_zipA hg hm ha.da hs hpl) fun σ H R ⟨S, g, s, h⟩ => ⟨S, g, s, (Go.heldP ha.held h.bnd).imp fun rs S1 H1 g1 s1 f1 ⟨hh, h1⟩ xs rxs => by
    obtain ⟨S2, g2, s2, f2, rp, h2⟩ := h1.useAll s1 hh rxs
    obtain ⟨ds, e, h3⟩ := h2.opt
    have q4 := h3.pure s2
    generalize rs.map (·.d) = L at rp e
    unfold zipK at e
    split at e
    · cases e
      cases rp with | cons r1 rp => cases rp with | cons r2 rp => cases rp with | nil =>
      cases r1 with | tup hx rx => cases r2 with | tup hy ry =>
      exact ⟨_, _, _, _, rfl, .inr ⟨SqT.of hx, SqT.of hy, q4 _ (itzT_ok (fun H1 g1 f => SqT.of (f.tup s2.mu hx)) (fun H1 g1 f => SqT.of (f.tup s2.mu hy)) rx ry s2.mu)⟩⟩
    · cases e
      cases rp with | cons r1 rp => cases rp with | cons r2 rp => cases rp with | nil =>
      cases r1 with | lst hx hb rx => cases r2 with | lst hy hc ry =>
      exact ⟨_, _, _, _, rfl, .inl ⟨SqL.of hx, SqL.of hy, q4 _ (itz_ok (fun H1 g1 f => SqL.of (f.keep _ _ hx hb).1) (fun H1 g1 f => SqL.of (f.keep _ _ hy hc).1) rx ry s2.mu)⟩⟩
    · cases e
      cases rp with | cons r1 rp => cases rp with | cons r2 rp => cases rp with | nil =>
      cases r1 with | rol hx rx => cases r2 with | lst hy hc ry =>
      exact ⟨_, _, _, _, rfl, .inl ⟨hx.sq, SqL.of hy, q4 _ (itz_ok (fun H1 g1 f => (f.rol s2.mu hx).sq) (fun H1 g1 f => SqL.of (f.keep _ _ hy hc).1) rx ry s2.mu)⟩⟩
    · cases e
      cases rp with | cons r1 rp => cases rp with | cons r2 rp => cases rp with | nil =>
      cases r1 with | lst hx hb rx => cases r2 with | rol hy ry =>
      exact ⟨_, _, _, _, rfl, .inl ⟨SqL.of hx, hy.sq, q4 _ (itz_ok (fun H1 g1 f => SqL.of (f.keep _ _ hx hb).1) (fun H1 g1 f => (f.rol s2.mu hy).sq) rx ry s2.mu)⟩⟩
    · cases e⟩
end
end DL
end
section
set_option maxRecDepth 100000
namespace DL
open PySem PySem.Spec L2
section
variable {X : Cx} {z : Zx} {S S' : Sx} {σ : L2.St} {H H' H0 : Hp} {g g' g2 : Gh} {v : V} {d : D} {r : Res} {K : PySem.W.Frag} {mg : Str → Option Value} {pos p : Pos} {a b c e : Expr} {fa fb fc : M Res} {i : Nat}
def D.ty : D → Option String
  | .non => some "NoneType"
  | .bl _ => some "bool"
  | .int _ => some "int"
  | .str _ => some "str"
  | .tup _ => some "tuple"
  | .lst _ => some "list"
  | .rol _ => some "list"
  | .dct false _ _ => some "dict"
  | _ => none
def isiB (t T : String) : Option Bool :=
  if T = "int" then some (t = "int" || t = "bool") else if T = "bool" then some (t = "bool") else if T = "str" then some (t = "str") else if T = "tuple" then some (t = "tuple") else if T = "list" then some (t = "list") else if T = "dict" then some (t = "dict") else none
theorem isi_kit {t T : String} {r : Bool} (ht : t ∈ ["NoneType", "bool", "int", "str", "tuple", "list", "dict"]) (h : isiB t T = some r) : kitB t T = some r := by
  simp only [List.mem_cons, List.not_mem_nil, or_false] at ht
  unfold isiB at h
  split at h
  · rename_i e; subst e; cases h
    rcases ht with rfl | rfl | rfl | rfl | rfl | rfl | rfl <;> decide +kernel
  · split at h
    · rename_i e; subst e; cases h
      rcases ht with rfl | rfl | rfl | rfl | rfl | rfl | rfl <;> decide +kernel
    · split at h
      · rename_i e; subst e; cases h
        rcases ht with rfl | rfl | rfl | rfl | rfl | rfl | rfl <;> decide +kernel
      · split at h
        · rename_i e; subst e; cases h
          rcases ht with rfl | rfl | rfl | rfl | rfl | rfl | rfl <;> decide +kernel
        · split at h
          · rename_i e; subst e; cases h
            rcases ht with rfl | rfl | rfl | rfl | rfl | rfl | rfl <;> decide +kernel
          · split at h
            · rename_i e; subst e; cases h
              rcases ht with rfl | rfl | rfl | rfl | rfl | rfl | rfl <;> decide +kernel
            · cases h
theorem ty_mem {t : String} (h : d.ty = some t) : t ∈ ["NoneType", "bool", "int", "str", "tuple", "list", "dict"] := by
  cases d with
  | dct b ks vs => cases b <;> simp [D.ty] at h <;> subst h <;> simp
  | _ => simp [D.ty] at h <;> subst h <;> simp
theorem ty_dc {o : HO} {ks : List D} {ws : List V} {ad : Addr} (hx : H ad = some o) (c : DcAt H ad o false ks ws) : TyX K H (.ref ad) (.type "dict") := by
  cases c with
  | dK kvs => exact .base (.dK hx)
theorem Pk.tyX {t : String} (p : Pk K H g v d) (h : d.ty = some t) : TyX K H v (.type t) := by
  rcases p with p | ⟨ad, rfl, p⟩
  · cases p with
    | non => cases h; exact .base .non
    | bl b => cases h; exact .base (.bl b)
    | int b => cases h; exact .base (.int b)
    | str b => cases h; exact .base (.str b)
    | tup hx r => cases h; exact .base (.tup hx)
    | lst hx n r => cases h; exact .base (.lst hx)
    | @dct a o tt ks vs ws hx c n r => cases tt with
      | false => cases h; exact ty_dc hx c
      | true => cases h
    | rol hx r =>
      cases h
      rcases hx with ⟨o, hx⟩ | ⟨o, its, n, hx, hc, _⟩
      · exact .base (.frz hx)
      · exact .kList hx hc
    | obj e => cases h
    | opq v => cases h
    | rdc hx c r => cases h
  · cases p with
    | lst hx r => cases h; exact .base (.lst hx)
    | @dct o tt ks vs ws hx c r => cases tt with
      | false => cases h; exact ty_dc hx c
      | true => cases h
def opIsi (T : String) (d : D) : M Res := M.opt (d.ty.bind fun t => isiB t T) fun b => pure (.dat (.bl b))
theorem ud_isi {T : String} : UnD X z (fun xs H Q => rIsi X.K (xs ++ [.ty T]) H Q) (opIsi T) := by
  intro S σ H g x dx Q s px h
  obtain ⟨b, e, h2⟩ := h.opt
  obtain ⟨t, e1, e2⟩ := Option.bind_eq_some_iff.mp e
  exact ⟨x, .ty T, .type t, .type T, b, rfl, .ty T, px.tyX e1, kit_ty (isi_kit (ty_mem e1) e2), out_dat s (.bl b) h2⟩
theorem de_isi {T : String} {pT : Pos} {nT : Str} (hm : X.mg "isinstance" = none) (hT : X.mg nT = none) (ha : DE X z a fa) (hg : Gl X "isinstance" := by rfl) (hgT : Gl X nT := by rfl) (hv : bootBuiltins nT = some (.type T) := by decide +kernel) (hn : nT ≠ "__name__" := by decide) (hd : (nT == ("__debug__" : Str)) = false := by decide)
    (hs : starEach [a, .Name nT pT] X.env = (false, eval a X.env) :: starEach [.Name nT pT] X.env := by rfl) (hs2 : starEach [.Name nT pT] X.env = (false, eval (.Name nT pT) X.env) :: starEach [] X.env := by rfl) (hpl : (backTo pos (starEach [.Name nT pT] X.env)).any (·.1) = false := by rfl) :
    DE X z (.Call (.Name "isinstance" p) [a, .Name nT pT] [] pos) (unM (opIsi T) fa) :=
  PE.imp (pe_callB call_isi hg hm PyProof.Rows.boot_isinstance (pa_cons ha (pa_cons (pe_bltn hgT hT hv (show RelV (.ty T) (.type T) from rfl) hn hd) pa_nil hs2) hs) (he := hs) (hpl := hpl)) fun σ H Q ⟨S, g, s, h⟩ =>
    ⟨S, g, s, h.bnd.imp fun r S1 H1 g1 s1 f1 h1 x rx => ud_isi S1 σ H1 g1 x _ Q s1 (s1.pk rx) h1⟩
def chK (f g : Int → Int → Bool) (fc : M Res) (i j : Int) : M Bool := if f i j = true then fc >>= fun rc => M.opt rc.d.isInt fun k => pure (g j k) else pure false
def chT (f g : Int → Int → Bool) (fa fb fc : M Res) : M Bool := fa >>= fun ra => M.opt ra.d.isInt fun i => fb >>= fun rb => M.opt rb.d.isInt fun j => chK f g fc i j
def chM (f g : Int → Int → Bool) (fa fb fc : M Res) : M Res := chT f g fa fb fc >>= fun b => pure (.dat (.bl b))
theorem ch_go {f g' : Int → Int → Bool} {Q : VK} (s : SR X.K z S σ H g) (h : Go X.K X.mg z (chT f g' fa fb fc) S σ H g fun b _ H' _ => Q (.bl b) H') : tChain (rI0 fun i j => .bl (f i j)) (rI0 fun i j => .bl (g' i j)) (tD X.K X.mg z fa) (tD X.K X.mg z fb) (tD X.K X.mg z fc) σ H Q := by
  refine ⟨S, g, s, h.bnd.imp fun ra S1 H1 g1 s1 f1 h1 x rx => ?_⟩
  obtain ⟨i, ei, h2⟩ := h1.opt
  have ex := isInt_pk (s1.pk rx) ei
  refine ⟨S1, g1, s1, h2.bnd.imp fun rb S3 H3 g3 s3 f3 h3 y ry => ?_⟩
  obtain ⟨j, ej, h4⟩ := h3.opt
  have ey := isInt_pk (s3.pk ry) ej
  refine ⟨i, j, ex, ey, f i j, rfl, ?_⟩
  unfold chK at h4
  by_cases c : f i j = true
  · rw [if_pos c] at h4 ⊢
    refine ⟨S3, g3, s3, h4.bnd.imp fun rc S5 H5 g5 s5 f5 h5 w rw' => ?_⟩
    obtain ⟨k, ek, h6⟩ := h5.opt
    exact ⟨j, k, ey, isInt_pk (s5.pk rw') ek, h6.pure s5⟩
  · rw [if_neg c] at h4 ⊢
    exact h4.pure s3
theorem de_ch {op op' : CmpOp} {f g' : Int → Int → Bool} (ho : OpR X (compareOp op) (rI0 fun i j => .bl (f i j))) (ho' : OpR X (compareOp op') (rI0 fun i j => .bl (g' i j))) (ha : DE X z a fa) (hb : DE X z b fb) (hc : DE X z c fc)
    (hm : lastMarks [op, op'] [b, c] = false := by with_unfolding_all rfl) : DE X z (.Compare a [op, op'] [b, c] pos) (chM f g' fa fb fc) :=
  PE.imp (pe_chain ho ho' ha hb hc hm) fun σ H Q ⟨S, g, s, h⟩ => ch_go s (h.bnd.imp fun b S' H' g' s' f' q => q.pure s' _ (.bl b))
def opInsert (k : Int) : D → D → Option (D × D)
  | .lst ds, x => if ds.length < sizeLine ∧ 0 ≤ k ∧ k < 2 ^ 63 then some (.non, .lst (ds.take k.toNat ++ [x] ++ ds.drop k.toNat)) else Option.none
  | _, _ => Option.none
def insK (i : Nat) : List D → M Res
  | [.int k, x] => methK i (opInsert k) x
  | _ => M.no
def insM (i : Nat) (fs : M (List Res)) : M Res := guardM (isTM "list" i) (fs >>= fun rs => useAll rs >>= fun ds => insK i ds)
theorem de_insert {b : Expr} {x : Str} {apos px : Pos} {fs : M (List Res)} (i : Nat) (ha : DAH X z [a, b] fs) (hN : X.N[i]? = some x := by rfl) (hv : Vis X.env.scope x := by first | exact Or.inl rfl | exact Or.inr (Or.inl rfl) | exact Or.inr (Or.inr rfl)) (hd : (x == ("__debug__" : Str)) = false := by decide) (hcd : (x == ("__classdict__" : Str)) = false := by decide)
    (h1 : attributeBase (.Name x px) "insert" X.env (eval (.Name x px) X.env) = eval (.Name x px) X.env := by rfl)
    (h2 : (((backTo pos (starEach [a, b] X.env)).all fun x => !x.1) && ((backToKw pos (keywordEach [] X.env)).all fun x => x.1.isSome) && decide (([a, b] : List Expr).length + ([] : List Keyword).length + (if ([] : List Keyword).isEmpty = true then 0 else 1) < 30)) = true := by rfl)
    (h3 : (apos.endLine == pos.line) = true := by rfl) (hs : starEach [a, b] X.env = (false, eval a X.env) :: starEach [b] X.env := by rfl) (h5 : (backTo pos (starEach [b] X.env)).any (·.1) = false := by rfl) :
    DE X z (.Call (.Attribute (.Name x px) "insert" apos) [a, b] [] pos) (insM i fs) :=
  PE.imp (pe_bm PySem.F.plainAttrs_list PySem.F.slot_list_insert PySem.F.type_list_insert mt_insert (pe_var hN hv hd hcd) ha.da h1 h2 h3 hs h5) fun σ H Q ⟨S, g, s, h⟩ => by
    obtain ⟨c, h1⟩ := h.guard
    obtain ⟨w0, d0, e0, hT⟩ := isTM_where c
    obtain ⟨ad, es, rt, _⟩ := s.where_ e0
    refine ⟨_, es, rt.tyL hT, S, g, s, (Go.heldP ha.held h1.bnd).imp fun rs S1 H1 g1 s1 f1 ⟨hh, q1⟩ vs rxs => ?_⟩
    obtain ⟨S2, g2, s2, f2, rp, q2⟩ := q1.useAll s1 hh rxs
    generalize rs.map (·.d) = L at rp q2
    unfold insK at q2
    split at q2
    · cases rp with | cons r1 rp => cases rp with | cons r2 rp => cases rp with | nil =>
      obtain ⟨d, res, d', rt2, e3, hb, q3⟩ := q2.meth s2 es
      unfold opInsert at e3
      split at e3
      · split at e3
        · rename_i hk
          cases e3
          obtain ⟨xs, hx, rx⟩ := rt2.lstAt
          have fr : ∀ o, Fr H1 g2 (upd H1 ad o) g2 := fun o => Fr.mut hb
          exact ⟨ad, xs, _, _, rfl, by rw [Pk.int (.inl r1)], hx, by rw [rx.length]; exact hk.1, hk.2.1, hk.2.2, q3 _ _ trivial (.lst upd_same ((((rx.take _).append (.cons r2 .nil)).append (rx.drop _)).fr (fr _) s2.mu)) .non⟩
        · cases e3
      · cases e3
    · exact q2.none.elim
end
end DL
end
section
set_option maxRecDepth 100000
namespace DL
open PySem PySem.Spec L2
section
variable {X : Cx} {z : Zx} {S S' : Sx} {σ : L2.St} {H H' H0 : Hp} {g g' g2 : Gh} {v : V} {d : D} {r : Res} {K : PySem.W.Frag} {mg : Str → Option Value} {pos p : Pos} {a b c e : Expr} {fa fb fc : M Res} {i : Nat}
def D.isObj : D → Option Nat
  | .obj n => some n
  | _ => none
theorem Pk.obj {n : Nat} (p : Pk K H g v d) (e : d.isObj = some n) : ∃ ad, v = .ref ad ∧ g.om[n]? = some ad := by
  cases d <;> simp [D.isObj] at e
  subst e
  rcases p with p | ⟨ad, rfl, p⟩
  · cases p with | obj q => exact ⟨_, rfl, q⟩
  · cases p
theorem GoS.of_eq {f f' : M Fl} {D : Ends} (e : f S = f' S) (h : GoS K mg z f S σ H g D) : GoS K mg z f' S σ H g D := by
  unfold GoS at h ⊢
  rw [e] at h
  exact h
end
end DL
end
section
set_option maxRecDepth 100000
namespace DL
open PySem PySem.Spec L2
section
variable {X : Cx} {z : Zx} {S S' : Sx} {σ : L2.St} {H H' H0 : Hp} {g g' g2 : Gh} {v : V} {d : D} {r : Res} {K : PySem.W.Frag} {mg : Str → Option Value} {pos p : Pos} {a b c e : Expr} {fa fb fc : M Res} {i : Nat}
def drs (f : D → Option D) : List D → Option (List D)
  | [] => some []
  | d :: r => (f d).bind fun x => (drs f r).map (x :: ·)
def D.dr (objs : List D) : Nat → D → Option D
  | 0, _ => none
  | m + 1, .obj n => (objs[n]?).bind (D.dr objs m)
  | m + 1, .tup ds => (drs (D.dr objs m) ds).map .tup
  | m + 1, .lst ds => (drs (D.dr objs m) ds).map .lst
  | m + 1, .rol ds => (drs (D.dr objs m) ds).map .rol
  | m + 1, .dct t ks vs => (drs (D.dr objs m) vs).map (.dct t ks)
  | m + 1, .rdc t ks vs => (drs (D.dr objs m) vs).map (.rdc t ks)
  | _ + 1, d => some d
theorem SR.ext (s : SR K z S σ H g) (hk : ∀ a o, H a = some o → H' a = some o) : SR K z S σ H' g ∧ Fr H g H' g := by
  have fr : Fr H g H' g := ⟨fun a o h n => ⟨hk a o h, n⟩, List.prefix_rfl⟩
  have re : ∀ {a : Addr} {d : D}, Root K H g a d → H' a = H a := fun {a d} r => by
    cases q : H a with
    | none => exact absurd q r.there
    | some o => exact hk a o q
  refine ⟨?_, fr⟩
  constructor
  · exact s.len
  · exact fun i d e => let ⟨v, e1, r⟩ := s.dat i d e; ⟨v, e1, r.fr fr s.mu⟩
  · exact fun i d e => let ⟨b, e1, hb, r, h0, ho⟩ := s.own i d e; ⟨b, e1, hb, r.fr fr s.mu (re r), h0, ho⟩
  · exact s.inj
  · exact s.olen
  · exact fun n b d e1 e2 => let ⟨r, hb⟩ := s.obj n b d e1 e2; ⟨r.fr fr s.mu (re r), hb⟩
  · exact s.ond
  · intro b hb
    have m := s.mu b hb
    cases q : H b with
    | none => rw [q] at m; exact m.elim
    | some o => rw [hk b o q]; rw [q] at m; exact m
  · exact s.base
  · exact s.b0
  · exact fun b u h0 hm => hk b u (s.keep b u h0 hm)
  · exact s.on
end
end DL
end
section
set_option maxRecDepth 100000
namespace DL
open PySem PySem.Spec L2 PyProof.Rows
abbrev ClK := Option Nat × Value × (Addr → Value → Option Addr → TS)
def endOf (D : Ends) : Option Nat → Ends
  | none => D
  | some i => ⟨fun σ H => D.nx (σ.set i none) H, D.rt, fun σ H => D.bk (σ.set i none) H, fun σ H => D.ct (σ.set i none) H⟩
def begOf (a : Addr) (σ : L2.St) : Option Nat → L2.St
  | none => σ
  | some i => σ.set i (some (.ref a))
def wG (K : PySem.W.Frag) (Wout : WX) (D : Ends) : List ClK → WX
  | [] => Wout
  | (o, c, ts) :: r => fun cls d σ H => match PySem.W.exmOne K cls c with
    | none => False
    | some true => ∀ a, H a = none → ts a cls d (endOf D o) (begOf a σ o) H
    | some false => wG K Wout D r cls d σ H
inductive ClsT (X : Cx) : ExceptHandler → ClK → Prop
  | plain {x : Str} {np q : Pos} {c : Value} {ts : Addr → Value → Option Addr → TS} {st : Stmt} {sts : List Stmt} (nm : Names X x c)
      (su : ∀ a oe cls d pn, Zc cls d oe → (∃ vs, oe.data = .fields vs) → PSs (X.suite a ((a, oe) :: pn)) (st :: sts) (ts a cls d)) : ClsT X (.ExceptHandler (some (.Name x np)) none (st :: sts) q) (none, c, ts)
  | named {x n : Str} {i : Nat} {np q : Pos} {c : Value} {ts : Addr → Value → Option Addr → TS} {st : Stmt} {sts : List Stmt} (nm : Names X x c) (at_ : X.N[i]? = some n) (loc : X.env.kindOf n = some .local)
      (su : ∀ a oe cls d pn, Zc cls d oe → (∃ vs, oe.data = .fields vs) → PSs (X.suite a ((a, oe) :: pn)) (st :: sts) (ts a cls d)) : ClsT X (.ExceptHandler (some (.Name x np)) (some n) (st :: sts) q) (some i, c, ts)
inductive HdsG (X : Cx) : List ExceptHandler → List ClK → Prop
  | nil : HdsG X [] []
  | cons {h : ExceptHandler} {k : ClK} {hs : List ExceptHandler} {ks : List ClK} : ClsT X h k → HdsG X hs ks → HdsG X (h :: hs) (k :: ks)
structure Got (X : Cx) (pins : List (Addr × Obj)) (σ : L2.St) (H : Hp) (a : Addr) (cls : Value) (d : Option Addr) (s : Shared) : Prop where
  stk : X.stack = X.env :: X.outer
  frm : X.env.frame = some X.env.locals
  air : ∃ (B : Heap) (t : Shared), Inv X pins σ H t ∧ (∀ b o, t.heap.get? b = some o → b ∉ frs X.stack → B.get? b = some o) ∧ t.heap.UpToSlots s.heap ∧ HandSPX.FlyingZ B (X.env :: X.outer) a (Zc cls d) s.heap ∧ s.os = t.os ∧ AllBare s.gens
  free : H a = none
section
variable {X : Cx} {pins : List (Addr × Obj)} {σ : L2.St} {H : Hp} {a : Addr} {cls : Value} {d : Option Addr} {s : Shared} {D : Ends} {Wout : WX}
theorem Got.inv (G : Got X pins σ H a cls d s) : Inv X pins σ H s :=
  let ⟨_, _, I, nb, up, fl, os, ag⟩ := G.air; I.landed nb fl.1 up os ag
theorem Got.obj (G : Got X pins σ H a cls d s) : ∃ oe vs, s.heap.get? a = some oe ∧ Zc cls d oe ∧ oe.data = .fields vs :=
  let ⟨_, _, _, _, _, fl, _, _⟩ := G.air; fl.there
theorem Got.apart (G : Got X pins σ H a cls d s) : a ∉ frs (X.env :: X.outer) := by
  obtain ⟨B, t, _, _, _, ⟨_, _, ff, _⟩, _, _⟩ := G.air
  obtain ⟨oe, vs, e, _, dt⟩ := G.obj
  intro m
  obtain ⟨_, o, eo, no⟩ := ff.mem m
  have : o = oe := Option.some.inj (eo.symm.trans e)
  exact no vs (this ▸ dt)
theorem Got.in_ (G : Got X pins σ H a cls d s) {oe : Obj} {vs : Array Value} (e : s.heap.get? a = some oe) (dt : oe.data = .fields vs) : Inv (X.suite a ((a, oe) :: (X.pn ++ pins))) [] σ H s := by
  refine G.inv.suite e dt G.free (fun q => G.apart ?_) fun m => G.apart ?_
  · rw [q]; exact List.mem_filterMap.mpr ⟨X.env, .head _, G.frm⟩
  · obtain ⟨v, mv, q⟩ := List.mem_filterMap.mp m
    exact List.mem_filterMap.mpr ⟨v, .tail _ mv, q⟩
theorem Got.again {M : Model} {A : Around} {E : Value → Shared → Prop} {Q : Unit → Shared → Prop} (G : Got X pins σ H a cls d s) (q : ∀ s', Got X pins σ H a cls d s' → Q () s') : wpAny M A (setFlight (.ref a) none) Q E s := by
  obtain ⟨B, t, I, nb, up, fl, os, ag⟩ := G.air
  exact HandSPX.lands_againZ fl fun h2 fl2 up2 => q _ ⟨G.stk, G.frm, ⟨B, t, I, nb, up.trans up2, fl2, os, ag⟩, G.free⟩
theorem Got.out (G : Got X pins σ H a cls d s) (tk : Takes X Wout) (w : Wout cls d σ H) : wpAny (model X.prog X.w) X.A (handleBy (.ref a) X.env []) (SP X pins D) X.xe s := by
  obtain ⟨B, t, I, nb, up, fl, os, ag⟩ := G.air
  have up1 : wpAny (model X.prog X.w) X.A (setFlight (.ref a) X.env.frame) (fun _ s2 => wpAny (model X.prog X.w) X.A (throw (.ref a) : Sem Flow) (SP X pins D) X.xe s2) X.xe s := by
    rw [G.frm]
    refine HandSPX.setFlight_upZ fl fun h2 hl up2 => wpAny_throw (tk _ _ ⟨a, B, t, pins, σ, H, cls, d, rfl, I, nb, up.trans up2, ?_, G.free, os, ag, w⟩)
    rw [G.stk]
    exact .inr (.inr hl)
  obtain ⟨_, _, _, oe, vs, T, _, _, e, _, dt, e1, _⟩ := fl
  refine wpAny_handleBy_nil (?_ : wpAny _ _ (PySem.passOn _ _ _) _ _ _)
  unfold PySem.passOn
  refine wpAny_bind (wpAny_field e dt e1 ?_)
  have ne : ¬ ((Value.ref T == Value.none) = true) := by simp
  rw [if_neg ne]
  first
    | exact wpAny_bind (wpAny_pure (wpAny_bind up1))
    | exact wpAny_bind up1
theorem Got.asked {x : Str} {np : Pos} {c : Value} {b : Bool} (G : Got X pins σ H a cls d s) (nm : Names X x c) (hb : PySem.W.exmOne X.K cls c = some b) {Q : Bool → Shared → Prop} {E E2 : Value → Shared → Prop} (q : Q b s) :
    wpAny (model X.prog X.w) (X.A.mark (some (.ref a))) (eval (.Name x np) X.env) (fun c' s1 => wpAny (model X.prog X.w) (X.A.mark (some (.ref a))) (excMatches (.ref a) c') Q E s1) E2 s := by
  obtain ⟨oe, vs, e, zc, dt⟩ := G.obj
  have J := G.in_ e dt
  have ty : PySem.W.Looks (model X.prog X.w) s.heap (typeOf (.ref a)) cls := fun _ _ _ _ k r => wpAny_typeOf_ref (k _ _ e) (by rw [zc.1]; exact r)
  have yes := PySem.W.exm_one (M := model X.prog X.w) G.inv.kIn ty hb
  rcases nm with ⟨g1, g2, g3 | ⟨g3, g4, g5⟩⟩
  · exact ld_glob J g1 g3 (yes.here q) g2
  · exact ld_blt J g1 g3 g4 (yes.here q) g5 g2
end
end DL
namespace L2
open PySem PySem.Spec PyProof.Rows
end L2
namespace DL
open PySem PySem.Spec L2
structure OwnP (K : PySem.W.Frag) (mg : Str → Option Value) (cn : Str) : Prop where
  ex : ∃ C, mg cn = some (.ref C) ∧ PySem.W.excIn K C [.type "ValueError", .type "Exception", .type "BaseException", .type "object"] "ValueError.__new__" = true ∧ PySem.W.keepIn K (.ref C) = true ∧ PySem.W.subIn K (.ref C) (.type "BaseException") = some true ∧ PySem.W.typeIn K (.ref C) = some (.type "type")
section
variable {X : Cx} {z : Zx} {S S' : Sx} {σ σ' : L2.St} {H H' : Hp} {g g' : Gh} {v : V} {d : D} {r : Res} {a e : Expr} {es : List Expr} {fa fb : M Res} {fs : M (List Res)} {K : PySem.W.Frag} {mg : Str → Option Value} {pos p pos2 : Pos} {cn qn fn : Str}
structure Clz where
  nm : Option Nat
  sub : Str → Option Bool
  h : Exn → M Fl
def quietR : Option (Except Exn Fl × Sx) → Option (Except Exn Fl × Sx)
  | some (.ok fl, S) => some (.ok fl, S)
  | _ => none
def tryC (x : Exn) (S' : Sx) : List Clz → Option (Except Exn Fl × Sx)
  | [] => some (.error x, S')
  | c :: r => match c.sub x.cls with
    | some true => if x.still = true then (match c.nm with | some i => unslot i (c.h x (S'.put i .un)) | none => quietR (c.h x S')) else none
    | some false => tryC x S' r
    | none => none
inductive DHs (X : Cx) (z : Zx) : List ExceptHandler → List Clz → Prop
  | nil : DHs X z [] []
  | plain {x : Str} {b₀ : Stmt} {suite : List Stmt} {np pos' : Pos} {hds : List ExceptHandler} {cs : List Clz} (l : List (Str × Bool)) {mh : Exn → M Fl} (hl : ∀ p ∈ l, Exm X.K X.mg p.1 x p.2) (hne : ∃ c, X.mg x = some c)
      (hsu : ∀ (a : Addr) (oe : Obj) (cls : Value) (d : Option Addr) (pn : List (Addr × Obj)) (e : Exn) (z' : Zx), Zc cls d oe → (∃ vs, oe.data = .fields vs) → SuZ X.K X.mg cls d e z' → subL l e.cls = some true →
        PSs (X.suite a ((a, oe) :: pn)) (b₀ :: suite) (tS X.K X.mg z' (mh e))) (r : DHs X z hds cs) (hg : Gl X x := by rfl) (hdb : (x == ("__debug__" : Str)) = false := by decide) :
      DHs X z (.ExceptHandler (some (.Name x np)) none (b₀ :: suite) pos' :: hds) (⟨none, subL l, mh⟩ :: cs)
  | named {x n : Str} {b₀ : Stmt} {suite : List Stmt} {np pos' : Pos} {hds : List ExceptHandler} {cs : List Clz} (i : Nat) (l : List (Str × Bool)) {mh : Exn → M Fl} (hl : ∀ p ∈ l, Exm X.K X.mg p.1 x p.2) (hne : ∃ c, X.mg x = some c)
      (hsu : ∀ (a : Addr) (oe : Obj) (cls : Value) (d : Option Addr) (pn : List (Addr × Obj)) (e : Exn) (z' : Zx), Zc cls d oe → (∃ vs, oe.data = .fields vs) → SuZ X.K X.mg cls d e z' → subL l e.cls = some true →
        PSs (X.suite a ((a, oe) :: pn)) (b₀ :: suite) fun D σ H => σ[i]? = some (some (.ref a)) ∧ tS X.K X.mg z' (mh e) D σ H) (r : DHs X z hds cs)
      (hi : X.N[i]? = some n := by rfl) (hln : X.env.kindOf n = some .local := by rfl) (hg : Gl X x := by rfl) (hdb : (x == ("__debug__" : Str)) = false := by decide) :
      DHs X z (.ExceptHandler (some (.Name x np)) (some n) (b₀ :: suite) pos' :: hds) (⟨some i, subL l, mh⟩ :: cs)
theorem suz_of {cls : Value} {dx : Option Addr} {x : Exn} (t1 : SR K z S σ H g) (ex : ExnOk K mg H g cls dx x) (hst : x.still = true) : SuZ K mg cls dx x (zs z H g) := by
  refine ⟨rfl, ex.1, fun fs hfs => ?_⟩
  have ex2 := ex.2
  rw [hfs] at ex2
  obtain ⟨dd, vs, e1, e2, e3, e4⟩ := ex2
  have st : DL.D.stills (fs.map (·.2)) = true := by
    unfold Exn.still at hst
    rw [hfs] at hst
    exact hst
  refine ⟨dd, vs, e1, e3, fun S2 σ2 H2 g2 t2 => ⟨zs_keep t1 t2 e2 (xd_not_bad t1 e2), ?_⟩⟩
  exact e4.still (fun b o q nb => zs_keep t1 t2 q nb) t1.mu st
theorem ResOk.ofSuite0 {σ' : L2.St} (s : SR K z S σ H g) (h : ResOk K (zs z H g) S' σ' H' g' v r) : ResOk K z S' σ' H' g' v r := by
  cases r with
  | dat d => exact h
  | new d =>
    obtain ⟨a, e, hb, rt, h0, ho, hn⟩ := h
    exact ⟨a, e, hb, rt, zs_none s h0, ho, hn⟩
  | own k d => exact h
theorem DHs.ok {hds : List ExceptHandler} {cs : List Clz} (hh : DHs X z hds cs) : ∃ l : List ClK, HdsG X hds l ∧ ∀ (D : Ends) (x : Exn) (S1 : Sx) (σ1 : L2.St) (H1 : Hp) (g1 : Gh) (cls : Value) (dx : Option Addr),
    SR X.K z S1 σ1 H1 g1 → ExnOk X.K X.mg H1 g1 cls dx x → GoS X.K X.mg z (fun _ => tryC x S1 cs) S1 σ1 H1 g1 D → wG X.K (fun cls dx σ H => z.W cls dx σ H) D l cls dx σ1 H1 := by
  induction hh with
  | nil =>
    refine ⟨[], .nil, fun D x S1 σ1 H1 g1 cls dx s1 ex h => ?_⟩
    unfold GoS at h
    exact h cls dx σ1 H1 g1 s1 (Fr.refl _ _) ex
  | @plain x b₀ suite np pos' hds cs l mh hl hne hsu r hg hdb ih =>
    obtain ⟨lk, hk, ih⟩ := ih
    obtain ⟨c, hc⟩ := hne
    refine ⟨(none, c, fun a cls d D σ H => ∃ (e : Exn) (z' : Zx), SuZ X.K X.mg cls d e z' ∧ subL l e.cls = some true ∧ tS X.K X.mg z' (mh e) D σ H) :: lk, .cons (.plain ⟨hg, hdb, .inl hc⟩ (fun a oe cls d pn hz hd => ⟨fun pins s σ H D I ⟨e, z', sz, se, q⟩ => (hsu a oe cls d pn e z' hz hd sz se).run pins s σ H D I q⟩)) hk, fun D x S1 σ1 H1 g1 cls dx s1 ex h => ?_⟩
    have hsub := subL_of fun p hp cls hcls => (hl p hp).is _ _ hcls hc
    unfold GoS tryC at h
    dsimp only at h
    cases hsb : subL l x.cls with
    | none => rw [hsb] at h; exact h.elim
    | some b =>
      rw [hsb] at h
      have hex := hsub _ _ _ ex.1 hsb
      unfold wG
      rw [hex]
      cases b with
      | true =>
        intro a ha
        dsimp only at h
        by_cases hst : x.still = true
        · rw [if_pos hst] at h
          refine ⟨x, zs z H1 g1, suz_of s1 ex hst, hsb, S1, g1, s1.toSuite, ?_⟩
          unfold GoS
          cases hm : mh x S1 with
          | none => rw [hm] at h; exact h.elim
          | some pr =>
            obtain ⟨res, S2⟩ := pr
            rw [hm] at h
            cases res with
            | error y => exact h.elim
            | ok fl =>
              cases fl with
              | next => exact fun σ2 H2 g2 t2 f2 => h σ2 H2 g2 (s1.ofSuite t2) f2
              | brk => exact fun σ2 H2 g2 t2 f2 => h σ2 H2 g2 (s1.ofSuite t2) f2
              | cont => exact fun σ2 H2 g2 t2 f2 => h σ2 H2 g2 (s1.ofSuite t2) f2
              | ret r => exact fun σ2 H2 g2 v t2 f2 rv => h σ2 H2 g2 v (s1.ofSuite t2) f2 (ResOk.ofSuite0 s1 rv)
        · rw [if_neg hst] at h; exact h.elim
      | false => exact ih D x S1 σ1 H1 g1 cls dx s1 ex (by unfold GoS; exact h)
  | @named x n b₀ suite np pos' hds cs i l mh hl hne hsu r hi hln hg hdb ih =>
    obtain ⟨lk, hk, ih⟩ := ih
    obtain ⟨c, hc⟩ := hne
    refine ⟨(some i, c, fun a cls d D σ H => ∃ (e : Exn) (z' : Zx), SuZ X.K X.mg cls d e z' ∧ subL l e.cls = some true ∧ (∃ σ0 : L2.St, σ = σ0.set i (some (.ref a))) ∧ tS X.K X.mg z' (mh e) D σ H) :: lk,
      .cons (.named ⟨hg, hdb, .inl hc⟩ hi hln (fun a oe cls d pn hz hd => ⟨fun pins s σ H D I ⟨e, z', sz, se, ⟨σ0, e0⟩, q⟩ => (hsu a oe cls d pn e z' hz hd sz se).run pins s σ H D I ⟨by
        subst e0
        have hl := I.len
        rw [List.length_set] at hl
        have hi' : i < X.N.length := (List.getElem?_eq_some_iff.mp hi).1
        exact List.getElem?_set_self (by rw [hl]; exact hi'), q⟩⟩)) hk, fun D x S1 σ1 H1 g1 cls dx s1 ex h => ?_⟩
    have hsub := subL_of fun p hp cls hcls => (hl p hp).is _ _ hcls hc
    unfold GoS tryC at h
    dsimp only at h
    cases hsb : subL l x.cls with
    | none => rw [hsb] at h; exact h.elim
    | some b =>
      rw [hsb] at h
      have hex := hsub _ _ _ ex.1 hsb
      unfold wG
      rw [hex]
      cases b with
      | true =>
        intro a ha
        dsimp only at h
        by_cases hst : x.still = true
        · rw [if_pos hst] at h
          have tun : SR X.K z (S1.put i .un) (σ1.set i (some (.ref a))) H1 g1 := s1.put_un
          refine ⟨x, zs z H1 g1, suz_of s1 ex hst, hsb, ⟨σ1, rfl⟩, S1.put i .un, g1, tun.toSuite, ?_⟩
          unfold GoS
          cases hm : mh x (S1.put i .un) with
          | none => rw [hm] at h; exact h.elim
          | some pr =>
            obtain ⟨res, S2⟩ := pr
            rw [hm] at h
            cases res with
            | error y => exact h.elim
            | ok fl =>
              cases fl with
              | next => exact fun σ2 H2 g2 t2 f2 => h (σ2.set i none) H2 g2 (tun.ofSuite t2).put_un f2
              | brk => exact fun σ2 H2 g2 t2 f2 => h (σ2.set i none) H2 g2 (tun.ofSuite t2).put_un f2
              | cont => exact fun σ2 H2 g2 t2 f2 => h (σ2.set i none) H2 g2 (tun.ofSuite t2).put_un f2
              | ret r =>
                intro σ2 H2 g2 v t2 f2 rv
                cases r with
                | dat d => exact h (σ2.set i none) H2 g2 v (tun.ofSuite t2).put_un f2 rv
                | new d => exact h (σ2.set i none) H2 g2 v (tun.ofSuite t2).put_un f2 (ResOk.ofSuite tun rv fun _ q => by cases q)
                | own j d =>
                  have h' := h
                  unfold unslot at h'
                  by_cases hj : j = i
                  · simp only [if_pos hj] at h'
                  · simp only [if_neg hj] at h'
                    exact h' (σ2.set i none) H2 g2 v (tun.ofSuite t2).put_un f2 (ResOk.ofSuite tun rv fun _ q => by cases q; exact hj rfl)
        · rw [if_neg hst] at h; exact h.elim
      | false => exact ih D x S1 σ1 H1 g1 cls dx s1 ex (by unfold GoS; exact h)
end
section
variable {X : Cx} {z : Zx} {S S' : Sx} {σ σ' : L2.St} {H H' : Hp} {g g' : Gh} {v : V} {d : D} {r : Res} {a e tg : Expr} {fa fb : M Res} {K : PySem.W.Frag} {mg : Str → Option Value}
def keyK : Res → M (List D)
  | .new (.dct false ks _) => pure ks
  | _ => M.no
end
end DL
end
section
set_option maxRecDepth 100000
namespace DL
open PySem PySem.Spec L2
section
variable {X : Cx} {z : Zx} {S S' : Sx} {σ : L2.St} {H H' : Hp} {g g' : Gh} {v : V} {d : D} {r : Res} {K : PySem.W.Frag} {mg : Str → Option Value} {pos px py pt pt2 : Pos} {a b : Expr} {fa fb : M Res} {i j kt k2 : Nat} {x y : Str} {p : Addr}
open Classical in
end
end DL
end
section
set_option maxRecDepth 100000
namespace DL
open PySem PySem.Spec L2
section
variable {X : Cx} {z : Zx} {S S' : Sx} {σ : L2.St} {H H' H0 : Hp} {g g' : Gh} {v : V} {d : D} {K : PySem.W.Frag} {mg : Str → Option Value} {fa fb fc : M Res}
structure BlkR (K : PySem.W.Frag) (env : List Slot) (σ : L2.St) (vs : List Nat) (H1 : Hp) (g1 : Gh) (Dd : Addr) (d : D) (objs : List D) (H : Hp) (g : Gh) : Prop where
  inn : In K env objs (wipe σ vs) H g
  keep : ∀ a o, H1 a = some o → a ∉ g.om → H a = some o
  fr : Fr H1 g1 H g
  base : ∀ a, g1.bad a → g.bad a
  new : ∀ a, a ∈ g.om → a ∈ g1.om ∨ H1 a = none
  root : Root K H g Dd d
  bad : g.bad Dd
  om : Dd ∉ g.om
theorem BlkR.step {env : List Slot} {σ : L2.St} {vs : List Nat} {H1 H' H4 : Hp} {g1 g5 : Gh} {Dd : Addr} {objs : List D} {S4 : Sx} {σ2 : L2.St} (b : BlkR K env σ vs H1 g1 Dd d objs H g) (gr : Grow H H')
    (s : SR K ⟨H', g.bad, g.om, blkW⟩ S4 σ2 H4 g5) (f : Fr H' g H4 g5) : BlkR K env σ vs H1 g1 Dd d S4.objs H4 g5 := by
  have there := b.root.there
  have k1 : ∀ a o, H a = some o → H' a = some o := fun a o h => by
    rcases gr with rfl | ⟨p, xs, hp, rfl⟩
    · exact h
    · rw [upd_ne (ne_of_none h hp)]; exact h
  have f1 : Fr H g H' g := gr.fr
  have sub : ∀ a, a ∈ g.om → a ∈ g5.om := fun a h => by
    obtain ⟨t, e⟩ := f.om
    rw [← e]; exact List.mem_append_left _ h
  obtain ⟨od, eD⟩ := Option.ne_none_iff_exists'.mp there
  have nom : Dd ∉ g5.om := fun h => by
    rcases s.on Dd h with q | q
    · exact b.om q
    · change H' Dd = none at q
      rw [k1 _ _ eD] at q; cases q
  have kp : ∀ a o, H a = some o → a ∉ g5.om → H4 a = some o := fun a o h n => s.keep a o (k1 a o h) n
  have ft := f1.trans f
  refine ⟨⟨b.inn.len, fun i d e => ?_, s.olen, s.obj, s.ond, s.mu⟩, fun a o h n => kp a o (b.keep a o h fun q => n (sub a q)) n, b.fr.trans ft, fun a h => s.base a (b.base a h), fun a h => ?_, b.root.fr ft b.inn.mu ((kp _ _ eD nom).trans eD.symm), s.base _ b.bad, nom⟩
  · obtain ⟨v, e1, r⟩ := b.inn.dat i d e
    exact ⟨v, e1, r.fr ft b.inn.mu⟩
  · rcases s.on a h with q | q
    · exact b.new a q
    · change H' a = none at q
      by_cases m : a ∈ g.om
      · exact b.new a m
      · refine .inr ?_
        cases e : H1 a with
        | none => rfl
        | some o => rw [k1 _ _ (b.keep a o e m)] at q; cases q
theorem BlkR.mut {env : List Slot} {σ : L2.St} {vs : List Nat} {H1 : Hp} {g1 : Gh} {Dd : Addr} {objs : List D} {o : HO} {d' : D} (b : BlkR K env σ vs H1 g1 Dd d objs H g) (hD : H1 Dd = none) (mo : Mut (some o)) (r : Root K (upd H Dd o) g Dd d') : BlkR K env σ vs H1 g1 Dd d' objs (upd H Dd o) g := by
  have f : Fr H g (upd H Dd o) g := Fr.mut b.bad
  refine ⟨⟨b.inn.len, fun i d e => ?_, b.inn.olen, fun n a d e1 e2 => ?_, b.inn.ond, fun a hb => ?_⟩, fun a o h n => ?_, b.fr.trans f, b.base, b.new, r, b.bad, b.om⟩
  · obtain ⟨v, e1, r⟩ := b.inn.dat i d e
    exact ⟨v, e1, r.fr f b.inn.mu⟩
  · obtain ⟨rt, hb⟩ := b.inn.obj n a d e1 e2
    exact ⟨rt.fr f b.inn.mu (upd_ne fun q => b.om (q ▸ List.mem_iff_getElem?.mpr ⟨n, e1⟩)), hb⟩
  · by_cases q : a = Dd
    · subst q; rw [upd_same]; exact mo
    · rw [upd_ne q]; exact b.inn.mu a hb
  · rw [upd_ne (ne_of_none h hD)]; exact b.keep a o h n
variable {tg kx vx iter : Expr} {ifs : List Expr} {scope : Scope} {own : List (Str × Nat)} {it : M (List D)} {tgt : D → M Unit} {t : M Bool} {fk fv : M Res} {ts : List Nat} {pos : Pos}
end
end DL
end
section
set_option maxRecDepth 100000
namespace DL
open PySem PySem.Spec L2
mutual
/-- no tracked object from m on -/
def D.low (m : Nat) : D → Bool
  | .obj n => decide (n < m)
  | .tup ds => D.lows m ds
  | .lst ds => D.lows m ds
  | .rol ds => D.lows m ds
  | .dct _ _ vs => D.lows m vs
  | .rdc _ _ vs => D.lows m vs
  | _ => true
def D.lows (m : Nat) : List D → Bool
  | [] => true
  | d :: r => d.low m && D.lows m r
end
def Res.low (m : Nat) : Res → Bool
  | .dat d => d.low m
  | .new d => d.low m
  | .own _ _ => false
def Exn.low (m : Nat) (x : Exn) : Bool := match x.fs with
  | none => true
  | some fs => D.lows m (fs.map (·.2))
def Gh.cut (g : Gh) (m : Nat) : Gh := ⟨g.bad, g.om.take m⟩
section
variable {K : PySem.W.Frag} {mg : Str → Option Value} {H H' : Hp} {g g' : Gh} {m : Nat}
mutual
theorem Rp.down {v : V} : ∀ {d : D}, d.low m = true → Rp K H g v d → Rp K H (g.cut m) v d
  | _, _, .non => .non
  | _, _, .bl b => .bl b
  | _, _, .int b => .int b
  | _, _, .str b => .str b
  | _, l, .tup h r => .tup h (RpA.down l r)
  | _, l, .lst h n r => .lst h n (RpA.down l r)
  | _, l, .dct h c n r => .dct h c n (RpA.down l r)
  | _, l, .rol h r => .rol h (RpA.down l r)
  | _, l, .obj h => .obj ((List.getElem?_take_of_lt (of_decide_eq_true l)).trans h)
  | _, _, .opq v => .opq v
  | _, l, .rdc h c r => .rdc h c (RpA.down l r)
theorem RpA.down {vs : List V} : ∀ {ds : List D}, D.lows m ds = true → RpA K H g vs ds → RpA K H (g.cut m) vs ds
  | _, _, .nil => .nil
  | _, l, .cons h r => .cons (Rp.down (Bool.and_eq_true_iff.mp l).1 h) (RpA.down (Bool.and_eq_true_iff.mp l).2 r)
end
theorem Root.down {a : Addr} {d : D} (l : D.lows m d.parts = true) (r : Root K H g a d) : Root K H (g.cut m) a d := by
  cases r with
  | lst h r => exact .lst h (r.down l)
  | dct h c r => exact .dct h c (r.down l)
theorem take_pre {α : Type} {l m : List α} (h : l <+: m) : m.take l.length = l := by
  obtain ⟨t, rfl⟩ := h
  simp
theorem Behind.cut {objs' : List D} (b : Behind K H g objs' H' g') (l : (objs'.take g.om.length).all (fun d => D.lows g.om.length d.parts) = true) : Behind K H g (objs'.take g.om.length) H' (g'.cut g.om.length) := by
  have e : (g'.cut g.om.length).om = g.om := take_pre b.om
  refine ⟨fun a o h n => b.keep a o h fun q => ?_, b.base, by rw [e]; exact List.prefix_rfl, by rw [e]; exact b.ond.sublist b.om.sublist, b.mu, ⟨?_, fun n a d e1 e2 => ?_⟩, fun a q => .inl (e ▸ q)⟩
  · rw [e] at n
    rcases b.new a q with w | w
    · exact n w
    · rw [w] at h; cases h
  · rw [e, List.length_take, b.obs.1]
    have := b.om.length_le
    omega
  · have hm : d ∈ objs'.take g.om.length := List.mem_of_getElem? e2
    have lt : n < g.om.length := by
      rw [e] at e1
      exact (List.getElem?_eq_some_iff.mp e1).1
    rw [e] at e1
    obtain ⟨rt, hb⟩ := b.obs.2 n a d (pre_get b.om e1) ((List.getElem?_take_of_lt lt).symm.trans e2)
    exact ⟨rt.down (List.all_eq_true.mp l d hm), hb⟩
theorem ROk.cut {H0 : Hp} {v : V} {r : Res} (l : r.low m = true) (h : ROk K H0 H g v r) : ROk K H0 H (g.cut m) v r := by
  cases r with
  | dat d => exact Rp.down l h
  | new d =>
    obtain ⟨a, e, hb, rt, h0, hm⟩ := h
    refine ⟨a, e, hb, rt.down ?_, h0, fun q => hm (List.mem_of_mem_take q)⟩
    cases rt <;> exact l
  | own i d => exact h
theorem ExnOk.cut {cls : Value} {dx : Option Addr} {x : Exn} (l : x.low m = true) (h : ExnOk K mg H g cls dx x) : ExnOk K mg H (g.cut m) cls dx x := by
  unfold ExnOk at h ⊢
  unfold Exn.low at l
  refine ⟨h.1, ?_⟩
  have h2 := h.2
  cases e : x.fs with
  | none => rw [e] at h2; exact h2
  | some fs =>
    rw [e] at h2 l
    obtain ⟨a, vs, e1, e2, e3, r⟩ := h2
    exact ⟨a, vs, e1, e2, e3, r.down l⟩
def cutDen (den : Den) : Den := fun ds objs => match den ds objs with
  | none => none
  | some (.ok r, o') => if (r.low objs.length && (o'.take objs.length).all fun d => D.lows objs.length d.parts) = true then some (.ok r, o'.take objs.length) else none
  | some (.error x, o') => if (x.low objs.length && (o'.take objs.length).all fun d => D.lows objs.length d.parts) = true then some (.error x, o'.take objs.length) else none
theorem spDen_cut {n : Nat} {den : Den} {vs : List V} {Q : VK} {E : XK} (h : spDen K mg n (cutDen den) vs H Q E) : spDen K mg n den vs H Q E := by
  obtain ⟨g, ds, objs, hl, mu, nd, ra, ob, h⟩ := h
  refine ⟨g, ds, objs, hl, mu, nd, ra, ob, ?_⟩
  unfold cutDen at h
  cases e : den ds objs with
  | none => rw [e] at h; exact h
  | some p =>
    obtain ⟨r, o'⟩ := p
    rw [e] at h
    cases r with
    | ok r =>
      simp only at h ⊢
      by_cases c : (r.low objs.length && (o'.take objs.length).all fun d => D.lows objs.length d.parts) = true
      · rw [if_pos c] at h
        obtain ⟨c1, c2⟩ := Bool.and_eq_true_iff.mp c
        rw [ob.1] at c1 c2 h
        exact fun H' g' v b ro => h H' _ v (b.cut c2) (ro.cut c1)
      · rw [if_neg c] at h; exact h.elim
    | error x =>
      simp only at h ⊢
      by_cases c : (x.low objs.length && (o'.take objs.length).all fun d => D.lows objs.length d.parts) = true
      · rw [if_pos c] at h
        obtain ⟨c1, c2⟩ := Bool.and_eq_true_iff.mp c
        rw [ob.1] at c1 c2 h
        exact fun cls dx H' g' b xo => h cls dx H' _ (b.cut c2) (xo.cut c1)
      · rw [if_neg c] at h; exact h.elim
theorem FnG.cut {P : Program} {w : World} {base : Heap} {k n : Nat} {f : Addr} {fd : FuncData} {ps : List Str} {den : Den} (F : FnG P w K mg base k f fd ps (spDen K mg n den)) : FnG P w K mg base k f fd ps (spDen K mg n (cutDen den)) :=
  F.imp fun _ _ _ _ q => spDen_cut q
theorem Dn.cut {P : Program} {w : World} {base : Heap} {k : Nat} {x : Str} {ps : List Str} {den : Den} (D : Dn P w K mg base k x ps den) : Dn P w K mg base k x ps (cutDen den) :=
  let ⟨f, fd, a, b, c, F⟩ := D.ex
  ⟨f, fd, a, b, c, F.cut⟩
end
section
variable {X : Cx} {z : Zx} {o a : Expr} {fa fb : M Res} {apos pos : Pos}
end
end DL
end
section
set_option maxRecDepth 100000
namespace DL
open PySem PySem.Spec L2
section
variable {X : Cx} {z : Zx} {S S' : Sx} {σ : L2.St} {H H' : Hp} {g g' : Gh} {v : V} {d : D} {K : PySem.W.Frag} {mg : Str → Option Value} {a tg : Expr} {fa : M Res}
theorem nk_rps : ∀ {ks : List NestedKey} {xs : List V}, ks.length = xs.length → (∀ p ∈ ks.zip xs, Rp K H g p.2 (kN p.1)) → RpA K H g xs (kNs ks)
  | [], [], _, _ => .nil
  | k :: ks, x :: xs, l, q => .cons (q (k, x) (by simp)) (nk_rps (by simpa using l) fun p m => q p (by rw [List.zip_cons_cons]; exact List.mem_cons_of_mem _ m))
  | [], _ :: _, l, _ => by simp at l
  | _ :: _, [], l, _ => by simp at l
theorem NK.rp {k : NestedKey} {v : V} (h : NK H k v) : Rp K H g v (kN k) := by
  induction h with
  | none => exact .non
  | num i => exact .int i
  | nil e => exact .tup e .nil
  | cons e r l ih => exact .tup e (nk_rps (by simp [l]) ih)
end
end DL
end
section
set_option maxRecDepth 100000
namespace DL
open PySem PySem.Spec L2
def Slot.low (m : Nat) : Slot → Bool
  | .un => true
  | .dat d => d.low m
  | .own d => D.lows m d.parts
def Sx.low (m : Nat) (S : Sx) : Bool := S.env.all (Slot.low m) && (S.objs.take m).all fun d => D.lows m d.parts
def Sx.cut (m : Nat) (S : Sx) : Sx := ⟨S.env, S.objs.take m⟩
def Fl.low (m : Nat) : Fl → Bool
  | .ret r => r.low m
  | _ => true
def exLow (m : Nat) : Except Exn Fl → Bool
  | .ok r => r.low m
  | .error x => x.low m
def cutK (m : Nat) : Option (Except Exn Fl × Sx) → Option (Except Exn Fl × Sx)
  | none => none
  | some (r, S') => if (S'.low m && exLow m r) = true then some (r, S'.cut m) else none
def cutS (f : M Fl) : M Fl := fun S => cutK S.objs.length (f S)
section
variable {K : PySem.W.Frag} {mg : Str → Option Value} {z : Zx} {S S' : Sx} {σ σ' : L2.St} {H H' : Hp} {g g' : Gh} {v : V} {om0 : List Addr}
end
end DL
end
section
set_option maxRecDepth 100000
namespace DL
open PySem PySem.Spec L2
def Res.stays : Res → Bool
  | .dat d => d.imm
  | .new d => D.imms d.parts
  | .own _ _ => false
section
variable {K : PySem.W.Frag} {mg : Str → Option Value} {z : Zx} {S S' : Sx} {σ : L2.St} {H H' : Hp} {g g1 g' : Gh} {v : V} {r : Res}
def Gh.back (g' g g1 : Gh) : Gh := ⟨fun a => g'.bad a ∨ (g.bad a ∧ ¬ g1.bad a), g'.om⟩
def OwnAt (S : Sx) (σ : L2.St) (a : Addr) : Prop := ∃ (i : Nat) (d : D), S.env[i]? = some (.own d) ∧ σ[i]? = some (some (.ref a))
theorem SR.back (s : SR K z S σ H g) (t : SR K z S' σ H' g') (f1 : Fr H g H g1) (f : Fr H g1 H' g') (own1 : ∀ a, OwnAt S σ a ↔ g.bad a ∧ ¬ g1.bad a) (im : (S'.objs.all fun o => D.imms o.parts) = true) :
    SR K z ⟨S.env, S'.objs⟩ σ H' (g'.back g g1) ∧ Fr H g H' (g'.back g g1) ∧ ∀ a, OwnAt S σ a → ¬ g'.bad a := by
  have own2 : ∀ a, OwnAt S σ a → H' a = H a ∧ ¬ g'.bad a := fun a oa => by
    obtain ⟨i, d, h, e⟩ := oa
    obtain ⟨b, e1, _, rt, _⟩ := s.own i d h
    rw [e] at e1; cases e1
    cases q : H a with
    | none => exact absurd q rt.there
    | some o => exact f.keep a o q ((own1 a).mp ⟨i, d, h, e⟩).2
  have fr : Fr H g H' (g'.back g g1) := ⟨fun a o h n => by
    obtain ⟨h1, n1⟩ := f1.keep a o h n
    obtain ⟨h2, n2⟩ := f.keep a o h1 n1
    exact ⟨h2, fun q => q.elim n2 fun w => n w.1⟩, f1.om.trans f.om⟩
  refine ⟨⟨s.len, fun i d h => ?_, fun i d h => ?_, s.inj, t.olen, fun n a d h1 h2 => ?_, t.ond, fun a q => ?_, fun a q => .inl (t.base a q), t.b0, t.keep, t.on⟩, fr, fun a oa => (own2 a oa).2⟩
  · obtain ⟨v, e, rp⟩ := s.dat i d h
    exact ⟨v, e, rp.fr fr s.mu⟩
  · obtain ⟨a, e, hb, rt, h0, hm⟩ := s.own i d h
    have oa : OwnAt S σ a := ⟨i, d, h, e⟩
    obtain ⟨e2, nb⟩ := own2 a oa
    refine ⟨a, e, .inr ((own1 a).mp oa), rt.fr fr s.mu e2, h0, fun q => ?_⟩
    obtain ⟨n, hn⟩ := List.mem_iff_getElem?.mp q
    have hl : n < S'.objs.length := by rw [t.olen]; exact (List.getElem?_eq_some_iff.mp hn).1
    exact nb (t.obj n a _ hn (List.getElem?_eq_getElem hl)).2
  · obtain ⟨rt, hb⟩ := t.obj n a d h1 h2
    exact ⟨rt.im (show g'.om <+: (g'.back g g1).om from List.prefix_rfl) (List.all_eq_true.mp im d (List.mem_of_getElem? h2)), .inl hb⟩
  · rcases q with q | q
    · exact t.mu a q
    · rw [(own2 a ((own1 a).mpr q)).1]; exact s.mu a q.1
end
end DL
end
section
set_option maxRecDepth 100000
namespace DLT
open PySem PySem.Calls PyProof.Rows PySem.W PySem.SeqAt
mutual
/-- the lists and dicts that are read stand -/
theorem read_there {h : Heap} : ∀ {v : Value} {d : PyData} {as : List Addr}, Reads h v d as → ∀ a ∈ as, ∃ o, h.get? a = some o
  | _, _, _, .none, _, m => nomatch m
  | _, _, _, .bool _, _, m => nomatch m
  | _, _, _, .int _ _, _, m => nomatch m
  | _, _, _, .str _ _, _, m => nomatch m
  | _, _, _, .list h1 _ _ r, a, m => (List.mem_cons.mp m).elim (fun e => e ▸ ⟨_, h1⟩) (reads_there r a)
  | _, _, _, .tuple _ _ _ r, a, m => reads_there r a m
  | _, _, _, .dict h1 _ _ r1 r2, a, m => by
    rcases List.mem_append.mp m with m | m
    · exact (List.mem_cons.mp m).elim (fun e => e ▸ ⟨_, h1⟩) (reads_there r1 a)
    · exact reads_there r2 a m
theorem reads_there {h : Heap} : ∀ {vs : List Value} {ds : List PyData} {as : List Addr}, ReadsAll h vs ds as → ∀ a ∈ as, ∃ o, h.get? a = some o
  | _, _, _, .nil, _, m => nomatch m
  | _, _, _, .cons r t, a, m => (List.mem_append.mp m).elim (read_there r a) (reads_there t a)
end
section
variable {prog : Program} {w : World} {A : Around} {E : Value → Shared → Prop} {s : Shared} {β : Type} {R : Value → β → Prop} {enc : β → PyData} {vs : List Value} {bs : List β}
theorem sorted_keys {d : Addr} {es : Array DictEntry} {ep : Nat} {Q : Value → Shared → Prop} (lo : (d == sysModules) = false) (free : A.handled = none) (raw : s.heap.DictRaw d es ep) (hv : vs = es.toList.map (·.key)) (e : EachIs R vs bs) (er : EachIs (fun v b => ∃ as, Reads s.heap v (enc b) as) vs bs)
    (hal : AllAlike (bs.map enc)) (hk : Sorts (bs.map enc)) (fit : bs.length ≤ sizeLine) (hu : ∀ b, b ∈ bs → A.units + 2 + (enc b).depth < cLine)
    (q : ∀ (h1 h' : Heap) (tk : Nat), (∀ b o, s.heap.get? b = some o → h1.get? b = some o) → (∀ b o, h1.get? b = some o → h'.get? b = some o) → Behind R enc bs fun out => ∀ c : Nat, h'.get? h1.objs.size = some (seqObj "list" out.toArray c) → Q (.ref h1.objs.size) { s with heap := h', toks := tk }) :
    wpAny (model prog w) A (call (.builtin "sorted") [Value.ref d]) Q E s := by
  subst hv
  refine Calls.call_function_entry kind_sorted plain_sorted entry_sorted (args_sorted1 _) (?_ : wpAny _ _ (Builtin.«sorted» _) _ _ _)
  have len : es.size = bs.length := by rw [← e.length, List.length_map, Array.length_toList]
  unfold Builtin.«sorted»
  refine wpAny_bind (m := checkCount "sorted" 1 1 _) (wpAny_pure (wpAny_bind (kdu_collect (A := A.in1) (KdlSrc.rawDict lo) free raw (by rw [len]; exact fit) fun h1 tk acc k1 got => ?_)))
  have ea : acc.toList = es.toList.map (·.key) := by
    apply List.ext_getElem?
    intro j
    rw [Array.getElem?_toList, List.getElem?_map, Array.getElem?_toList]
    by_cases hj : j < es.size
    · have h2 : acc[j]? = some (acc[j]'(by rw [got.1]; exact hj)) := Array.getElem?_eq_getElem _
      obtain ⟨_, e3⟩ := got.2 j _ h2
      rw [h2, e3, Array.getElem?_eq_getElem hj]; rfl
    · rw [Array.getElem?_eq_none (by rw [got.1]; omega), Array.getElem?_eq_none (by omega)]; rfl
  rw [ea]
  generalize hL : es.toList.map (·.key) = vs at e er
  have new_ : (h1.push (seqObj "list" vs.toArray 0)).get? h1.objs.size = some (seqObj "list" vs.toArray 0) := Heap.get?_push_size _ rfl
  have old : ∀ b u, s.heap.get? b = some u → (h1.push (seqObj "list" vs.toArray 0)).get? b = some u := fun b u e => Heap.get?_push_of_some _ (k1 b u e)
  have er2 : EachIs (fun v b => ∃ as, Reads (h1.push (seqObj "list" vs.toArray 0)) v (enc b) as ∧ h1.objs.size ∉ as) vs bs := er.mono fun v b h => by
    obtain ⟨as, r⟩ := h
    refine ⟨as, Reads.keeps old r, fun m => ?_⟩
    obtain ⟨o, ho⟩ := read_there r _ m
    exact absurd (Heap.lt_size (k1 _ _ ho)) (Nat.lt_irrefl _)
  have hu2 : ∀ b, b ∈ bs → A.in1.units + 1 + (enc b).depth < cLine := fun b m => by
    have := hu b m
    have e1 : A.in1.units = A.units + 1 := rfl
    rw [e1]; omega
  refine wpAny_bind (wpAny_newList ?_ (by rw [e.length]; exact fit))
  refine wpAny_bind (wpAny_holding (list_sort_any (s := { s with heap := h1.push (seqObj "list" vs.toArray 0), toks := tk }) new_ e er2 hal hk fit hu2 fun out lo eo => ?_))
  obtain ⟨c, here⟩ := sortedHeap_at (vs := vs) (out := out.toArray) new_
  refine wpAny_pure ⟨_, rfl, q h1 _ tk k1 (fun b u e => ?_) out lo eo c here⟩
  have b1 : b < h1.objs.size := Heap.lt_size e
  show Heap.get? (sortedHeap (h1.push (seqObj "list" vs.toArray 0)) h1.objs.size vs out.toArray) b = some u
  rw [sortedHeap_old (Nat.ne_of_lt b1) (by rw [size_push']; exact Nat.lt_succ_of_lt b1)]
  exact Heap.get?_push_of_some _ e
end
end DLT
namespace DL
open PySem PySem.Spec L2
open PySem.W (dataLe AllAlike EachIs)
open DLT (Sorts)
section
variable {X : Cx} {z : Zx} {S S' : Sx} {σ : L2.St} {H H' : Hp} {g g' : Gh} {v : V} {d : D} {K : PySem.W.Frag} {pos p : Pos} {a : Expr} {fa : M Res}
def rSortedN (K : PySem.W.Frag) : List V → Hp → VK → Prop := fun vs H Q => ∃ (a : Addr) (rows : List NRow) (bs : List (V × D)) (k : D → PyData), vs = [V.ref a] ∧ Rd H a (NDictO a rows) ∧ bs.map (·.1) = rows.map (fun r => V.ref r.2.1) ∧ (∀ b ∈ bs, Dp K H b.1 (k b.2)) ∧
  AllAlike (bs.map fun b => k b.2) ∧ Sorts (bs.map fun b => k b.2) ∧ (∀ b ∈ bs, (k b.2).depth ≤ 60) ∧ ∀ p, H p = none → Q (.ref p) (upd H p (.lst ((bs.mergeSort (dataLe false fun b => k b.2)).map (·.1))))
theorem nkey_vals : ∀ {rows : List NRow} {xs : List (NestedKey × Addr × Value)}, Paired NRel rows xs → Vals (rows.map fun r => V.ref r.2.1) ((xs.map nEnt).map (·.key))
  | _, _, .nil => .nil
  | r :: _, x :: _, .cons h t => .cons (show RelV (V.ref r.2.1) (Value.ref x.2.1) from by rw [h.2.1]; rfl) (nkey_vals t)
theorem cr_sortedN (hc : X.calm = true) (hu : X.A.units + 65 < cLine) : CallR X (.builtin "sorted") (rSortedN X.K) := fun pins s σ H vs us Q I r ⟨a, rows, bs, k, ev, rd, em, hdp, hal, hso, dep, q⟩ => by
  subst ev
  rw [Vals.ref1 r]
  obtain ⟨⟨z, lo, n, xs, p, o, es, ep, h1, h2, h3, h4⟩, _⟩ := (show ObjOk X.prog X.w H s.heap a (NDictO a rows) from rd.ok I.hok)
  have rv : Vals (bs.map (·.1)) (es.toList.map (·.key)) := by rw [em, h4]; exact nkey_vals p
  have each := each_vals rv
  have fit : bs.length ≤ sizeLine := by
    have := congrArg List.length em
    rw [List.length_map, List.length_map] at this
    rw [this]; exact z
  refine DLT.sorted_keys (enc := fun b => k b.2) lo (I.ok.hd hc) ⟨o, h1, h2, h3⟩ rfl each (each_and each fun u b m rr => Dp.reads I _ _ _ (hdp b m) rr) hal hso fit (fun b m => by have := dep b m; omega) fun h1 h' tk k1 k2 out _ eo c at_ => ?_
  have I1 : Inv X pins σ H { s with heap := h1, toks := tk } := I.kept k1
  have fit2 : ((bs.mergeSort (dataLe false fun b => k b.2)).map (·.1)).length ≤ sizeLine := by rw [List.length_map, List.length_mergeSort]; exact fit
  exact ⟨.ref _, upd H h1.objs.size (.lst ((bs.mergeSort (dataLe false fun b => k b.2)).map (·.1))), I1.laid (t' := tk) k2 (Nat.le_refl _) ⟨fit2, out, c, vals_each eo, at_⟩, rfl, q _ (I1.hok.fresh (Nat.le_refl _))⟩
theorem nkeys_rp : ∀ {rows : List NRow}, NKeys H rows → RpA K H g (rows.map fun r => V.ref r.2.1) ((rows.map NRow.pr).map fun p => kN p.1)
  | [], _ => .nil
  | r :: l, h => .cons (h r (.head _)).1.rp (nkeys_rp fun x m => h x (.tail _ m))
def sortN (ks : List D) : M Res := M.need (canSortE ks) (pure (.new (.lst (sortD ks))))
def opSortedN : D → M Res
  | .dct true ks _ => sortN ks
  | .rdc true ks _ => sortN ks
  | d => opSortedL d
theorem sortN_ok {ad : Addr} {rows : List NRow} {Q : VK} (s : SR X.K z S σ H g) (rd : Rd H ad (NDictO ad rows)) (nk : NKeys H rows) (h : Go X.K X.mg z (sortN ((rows.map NRow.pr).map fun p => kN p.1)) S σ H g (fun r S' H' g' => ∀ v, ResOk X.K z S' σ H' g' v r → Q v H')) : rSortedN X.K [.ref ad] H Q := by
  obtain ⟨c, h3⟩ := h.need
  obtain ⟨bs, k, e1, q⟩ := sortE_parts s (nkeys_rp nk) c h3
  exact ⟨ad, rows, bs, k, rfl, rd, e1, q⟩
theorem de_sortedN (hc : X.calm = true) (hu : X.A.units + 65 < cLine) (hm : X.mg "sorted" = none) (ha : DE X z a fa) (hg : Gl X "sorted" := by rfl) (hs : starEach [a] X.env = (false, eval a X.env) :: starEach [] X.env := by rfl) (hpl : (backTo pos (starEach [] X.env)).any (·.1) = false := by rfl) :
    DE X z (.Call (.Name "sorted" p) [a] [] pos) (unM opSortedN fa) :=
  de_un (fun S σ H g x dx Q s px h => by
    unfold opSortedN at h
    split at h
    · obtain ⟨ad, o, ws, rfl, hx, cc, rx⟩ := px.dct
      cases cc with
      | dN rows nk => exact .inr (sortN_ok s (.inl hx) nk h)
    · obtain ⟨ad, o, u, ws, rfl, hx, cc, rx⟩ := px.rdc
      cases cc with
      | dN rows nk => exact .inr (sortN_ok s (.inr ⟨o, hx⟩) nk h)
    · exact .inl (ud_sortedE S σ H g x _ Q s px h))
    (pe_callB ((cr_sortedE hu).or (cr_sortedN hc hu)) hg hm (by decide +kernel) (pa_cons ha pa_nil hs) (he := hs) (hpl := hpl))
end
end DL
end
section
set_option maxRecDepth 100000
namespace DL
open PySem PySem.Spec L2
def rSetTI (K : PySem.W.Frag) (w : World) : List V → Hp → VK → Prop := fun vs H Q => ∃ (a : Addr) (ns : List Int), vs = [V.ref a] ∧ SqT K H a (ns.map V.int) ∧ ns.length + 1 < scanBound ∧
  ∀ (p : Addr) (T : Int → Bool) (n : Nat), H p = none → (∀ k, T k = true ↔ k ∈ ns) → (∃ l : List Int, l.Nodup ∧ (∀ k, k ∈ l ↔ k ∈ ns) ∧ l.length = n) → Q (.ref p) (upd H p (SetO w p T n))
section
variable {X : Cx} {z : Zx} {S S' : Sx} {σ : L2.St} {H H' : Hp} {g g' : Gh} {v : V} {K : PySem.W.Frag} {pos p pos2 p2 : Pos} {a : Expr} {fa : M Res}
theorem cr_setTI (hc : X.calm = true) : CallR X (.type "set") (rSetTI X.K X.w) := fun pins s σ H vs us Q I r ⟨a, ns, ev, sq, few, q⟩ => by
  subst ev
  obtain ⟨its, rv, pl, _⟩ := I.tuple sq
  rw [Vals.ref1 r]
  refine call_set_tupI ns (I.ok.hd hc) pl (by simpa using rv.ints) few fun h tk c R le kp => ?_
  exact ⟨.ref _, upd H s.heap.objs.size (SetO X.w s.heap.objs.size _ c), I.laid (t' := tk) kp (Nat.le_refl _) (setO_new R), rfl, q _ _ _ (I.hok.fresh (Nat.le_refl _)) (fun k => decide_eq_true_iff) (setR_count R)⟩
def opSortSetU : D → M Res
  | .tup ds => M.opt (D.ints? ds) fun ns => M.need (decide (ns.length + 1 < scanBound) && decide ((sortS ns).length < 64)) (pure (.new (.lst ((sortS ns).map .int))))
  | _ => M.no
theorem de_sortedSetU (hc : X.calm = true) (hm : X.mg "sorted" = none) (hm2 : X.mg "set" = none) (ha : DE X z a fa) (hg : Gl X "sorted" := by rfl) (hg2 : Gl X "set" := by rfl) (na : starEach [a] X.env = (false, eval a X.env) :: starEach [] X.env := by rfl)
    (na2 : starEach [.Call (.Name "set" p2) [a] [] pos2] X.env = (false, eval (.Call (.Name "set" p2) [a] [] pos2) X.env) :: starEach [] X.env := by rfl) (hpl : (backTo pos (starEach [] X.env)).any (·.1) = false := by rfl) (hpl2 : (backTo pos2 (starEach [] X.env)).any (·.1) = false := by rfl) :
    DE X z (.Call (.Name "sorted" p) [.Call (.Name "set" p2) [a] [] pos2] [] pos) (unM opSortSetU fa) :=
  PE.imp (pe_callB (cr_sortedSet hc) hg hm (by decide +kernel) (pa_cons (pe_callTy (cr_setTI hc) hg2 hm2 (by decide +kernel) (pa_cons ha pa_nil na) (he := na) (hpl := hpl2)) pa_nil na2) (he := na2) (hpl := hpl)) fun σ H Q ⟨S, g, s, h⟩ =>
    ⟨S, g, s, h.bnd.imp fun r S1 H1 g1 s1 f1 h1 x rx => by
      have pk := s1.pk rx
      revert pk h1
      generalize r.d = d
      intro h1 pk
      unfold opSortSetU at h1
      split at h1
      · obtain ⟨ns, e, h2⟩ := h1.opt
        obtain ⟨c, h3⟩ := h2.need
        obtain ⟨c1, c2⟩ := Bool.and_eq_true_iff.mp c
        have c1 := of_decide_eq_true c1
        have c2 := of_decide_eq_true c2
        obtain ⟨ad, xs, rfl, hx, rxs⟩ := pk.tup
        have := ints?_of e
        subst this
        have := rxs.ints
        subst this
        refine ⟨ad, ns, rfl, SqT.of hx, c1, fun p T n hp hT ⟨l, l1, l2, l3⟩ => ?_⟩
        have many : (sortS ns).length = n := l3 ▸ nodup_len (up_nodup (sortS_up ns)) l1 fun k => by rw [sortS_mem, l2]
        refine ⟨p, T, n, rfl, upd_same, by omega, fun ms q hup hmem hlen hq => ?_⟩
        obtain rfl : ms = sortS ns := up_unique hup (sortS_up ns) fun k => by rw [hmem, hT, sortS_mem]
        have f2 : Fr H1 g1 (upd H1 p (SetO X.w p T n)) g1 := Fr.upd_new hp
        exact out_lst (s1.upd_new (o := SetO X.w p T n) hp) (RpA.of_ints _) (h3.at f2) q hq
      · exact h1.none.elim⟩
end
end DL
end
section
set_option maxRecDepth 100000
namespace DL
open PySem PySem.Spec L2
structure IsX (K : PySem.W.Frag) (mg : Str → Option Value) (S C : Str) (b : Bool) : Prop where
  ex : ∃ (D c : Addr) (gt : Option Value), mg S = some (.ref D) ∧ mg C = some (.ref c) ∧ (PySem.W.clsIn K D).isSome = true ∧ PySem.W.findIn K (.ref D) "__getattribute__" = some (some (.builtin "BaseException.__getattribute__")) ∧ PySem.W.findIn K (.ref D) "__getattr__" = some gt ∧
    PySem.W.subIn K (.ref D) (.type "BaseException") = some true ∧ PySem.W.findIn K (.ref D) "__class__" = some (some (.builtin "object.__class__")) ∧ PySem.W.specialIn K (.builtin "object.__class__") "__get__" = some (some (.builtin "getset_descriptor.__get__")) ∧
    PySem.W.takesIn K (.builtin "object.__class__") = some true ∧ PySem.W.mroIn K D (.type "object") = some true ∧ PySem.W.kitOne K (.ref D) (.ref c) = some b
section
variable {X : Cx} {z : Zx} {S S' : Sx} {σ σ' : L2.St} {H H' : Hp} {g g' : Gh} {v : V} {d : D} {r : Res} {a c e : Expr} {es : List Expr} {fa fb : M Res} {ta : M Bool} {fs : M (List Res)} {K : PySem.W.Frag} {mg : Str → Option Value} {pos p pos2 : Pos} {cn : Str} {P : L2.St → Prop} {ad : Addr} {oe : Obj} {cls : Value} {dx : Option Addr} {pn : List (Addr × Obj)} {x : Exn} {i : Nat} {n : Str} {p1 p2 : Pos}
variable {Y : Cx}
variable {st : Stmt} {sts xs ys : List Stmt} {f h : M Fl}
end
end DL
end
section
set_option maxRecDepth 100000
namespace DL
open PySem PySem.Spec L2
open L2H (RoomH PinOk)
structure FnS (P : Program) (w : World) (K : PySem.W.Frag) (mg : Str → Option Value) (base : Heap) (k : Nat) (f : Addr) (fd : FuncData) (ps : List Str) (sp : Sp) : Prop where
  len : ∀ vs H Q E, sp vs H Q E → vs.length = ps.length
  run : ∀ (A : Around) (outer : List Env) (s : Shared) (H : Hp) (args : Args) (us : List Value) (vs : List V) (Q : VK) (E : XK) (y : Addr × Obj), A.guards = some [] → RoomH k A → PinOk outer H s y → Env0 P w K mg base A outer s H → BindsTo s fd args (ps.zip us) → Vals vs us →
    sp vs H Q E → codeAny (model P w) A (.call (.ref f) args) (CR (L2.CX P w) outer P w H s Q E) s
section
variable {P : Program} {w : World} {K : PySem.W.Frag} {mg : Str → Option Value} {base : Heap}
theorem FnS.mono {j k : Nat} {f : Addr} {fd : FuncData} {ps : List Str} {sp : Sp} (F : FnS P w K mg base j f fd ps sp) (h : j ≤ k) : FnS P w K mg base k f fd ps sp :=
  ⟨F.len, fun A outer s H args us vs Q E y gd hr => F.run A outer s H args us vs Q E y gd (hr.mono h)⟩
structure Ds (P : Program) (w : World) (K : PySem.W.Frag) (mg : Str → Option Value) (base : Heap) (k : Nat) (x : Str) (ps : List Str) (den : Den) : Prop where
  ex : ∃ f fd, mg x = some (.ref f) ∧ PySem.W.keepIn K (.ref f) = true ∧ Binds K fd ps [] ∧ FnS P w K mg base k f fd ps (spDen K mg ps.length den)
theorem Ds.mono {j k : Nat} {x : Str} {ps : List Str} {den : Den} (D : Ds P w K mg base j x ps den) (h : j ≤ k) : Ds P w K mg base k x ps den :=
  let ⟨f, fd, a, b, c, F⟩ := D.ex
  ⟨f, fd, a, b, c, F.mono h⟩
end
section
variable {X : Cx} {z : Zx} {e : Expr} {es : List Expr} {fs : M (List Res)} {t : TA} {K : PySem.W.Frag} {pos p : Pos} {x : Str} {ps : List Str} {k n : Nat} {den : Den} {f : Addr} {fd : FuncData} {sp : Sp} {P : L2.St → Prop} {ad : Addr} {oe : Obj} {pn : List (Addr × Obj)} {cls : Value} {dx : Option Addr} {xn : Exn}
end
end DL
end
section
set_option maxRecDepth 100000
namespace DL
open PySem PySem.Spec L2
abbrev bareSet (w : World) : Obj := { cls := .type "set", dict := none, data := .set #[] 0 (.fresh 0 0 (!w.params.followText "set-order")) }
structure Filling (P : Program) (w : World) (O : Addr → HO) (ad : Addr → V → Hp → Hp → Prop) : Prop where
  born : ∀ (h : Heap) (H : Hp), ObjOk P w H (h.push (bareSet w)) h.objs.size (O h.objs.size)
  more : ∀ (Y : Cx), Y.prog = P → Y.w = w → ∀ {pins : List (Addr × Obj)} {σ : L2.St} {H H' : Hp} {s : Shared} {D : Addr} {y : V} {u : Value} {E Q : Value → Shared → Prop}, Inv Y pins σ H s → RelV y u → ad D y H H' →
    (∀ t, Inv Y pins σ H' t → Q .none t) → wpAny (model P w) Y.A (call (.builtin "set.add") [.ref D, u]) Q E s
section
variable {B : Cx} {τ σ2 : L2.St} {tn : Nat → Heap → Prop} {fp : List Addr} {W : Nat → Nat → Hp → Prop} {n i m : Nat} {t t0 : Shared} {H : Hp} {J : It} {it : Addr} {tg : Expr} {P : Program} {w : World} {K : PySem.W.Frag}
end
section
variable {X : Cx} {pins : List (Addr × Obj)} {s : Shared} {σ : L2.St} {H : Hp} {Q : VK} {elt tg iter : Expr} {ifs : List Expr} {scope : Scope} {own : List (Str × Nat)} {pos : Pos} {wi : TI} {g : TG} {tt : TT} {te : TE} {O : Addr → HO} {ad : Addr → V → Hp → Hp → Prop}
end
structure BlkO (K : PySem.W.Frag) (env : List Slot) (σ : L2.St) (vs : List Nat) (H1 : Hp) (g1 : Gh) (Dd : Addr) (o : HO) (objs : List D) (H : Hp) (g : Gh) : Prop where
  inn : In K env objs (wipe σ vs) H g
  keep : ∀ a o, H1 a = some o → a ∉ g.om → H a = some o
  fr : Fr H1 g1 H g
  base : ∀ a, g1.bad a → g.bad a
  new : ∀ a, a ∈ g.om → a ∈ g1.om ∨ H1 a = none
  obj : H Dd = some o
  bad : g.bad Dd
  om : Dd ∉ g.om
section
variable {X : Cx} {z : Zx} {S S' : Sx} {σ : L2.St} {H H' H0 H1 : Hp} {g g' g1 : Gh} {v : V} {d : D} {K : PySem.W.Frag} {mg : Str → Option Value} {env : List Slot} {vs : List Nat} {Dd : Addr} {o o' : HO} {objs : List D}
theorem BlkO.step {H4 : Hp} {g5 : Gh} {S4 : Sx} {σ2 : L2.St} (b : BlkO K env σ vs H1 g1 Dd o objs H g) (gr : Grow H H') (s : SR K ⟨H', g.bad, g.om, blkW⟩ S4 σ2 H4 g5) (f : Fr H' g H4 g5) : BlkO K env σ vs H1 g1 Dd o S4.objs H4 g5 := by
  have k1 : ∀ a o, H a = some o → H' a = some o := fun a o h => by
    rcases gr with rfl | ⟨p, xs, hp, rfl⟩
    · exact h
    · rw [upd_ne (ne_of_none h hp)]; exact h
  have ft : Fr H g H4 g5 := gr.fr.trans f
  have sub : ∀ a, a ∈ g.om → a ∈ g5.om := fun a h => by
    obtain ⟨t, e⟩ := f.om
    rw [← e]; exact List.mem_append_left _ h
  have nom : Dd ∉ g5.om := fun h => (s.on Dd h).elim b.om fun q => by
    have q : H' Dd = none := q
    rw [k1 _ _ b.obj] at q; cases q
  have kp : ∀ a o, H a = some o → a ∉ g5.om → H4 a = some o := fun a o h n => s.keep a o (k1 a o h) n
  refine ⟨⟨b.inn.len, fun i d e => ?_, s.olen, s.obj, s.ond, s.mu⟩, fun a o h n => kp a o (b.keep a o h fun q => n (sub a q)) n, b.fr.trans ft, fun a h => s.base a (b.base a h), fun a h => ?_, kp _ _ b.obj nom, s.base _ b.bad, nom⟩
  · obtain ⟨v, e1, r⟩ := b.inn.dat i d e
    exact ⟨v, e1, r.fr ft b.inn.mu⟩
  · by_cases m : a ∈ g.om
    · exact b.new a m
    refine (s.on a h).elim (fun q => absurd q m) fun q => .inr ?_
    have q : H' a = none := q
    cases e : H1 a with
    | none => rfl
    | some o => rw [k1 _ _ (b.keep a o e m)] at q; cases q
theorem BlkO.mut (b : BlkO K env σ vs H1 g1 Dd o objs H g) (hD : H1 Dd = none) (mo : Mut (some o')) : BlkO K env σ vs H1 g1 Dd o' objs (upd H Dd o') g := by
  have f : Fr H g (upd H Dd o') g := Fr.mut b.bad
  refine ⟨⟨b.inn.len, fun i d e => ?_, b.inn.olen, fun n a d e1 e2 => ?_, b.inn.ond, fun a hb => ?_⟩, fun a o h n => ?_, b.fr.trans f, b.base, b.new, upd_same, b.bad, b.om⟩
  · obtain ⟨v, e1, r⟩ := b.inn.dat i d e
    exact ⟨v, e1, r.fr f b.inn.mu⟩
  · obtain ⟨rt, hb⟩ := b.inn.obj n a d e1 e2
    exact ⟨rt.fr f b.inn.mu (upd_ne fun q => b.om (q ▸ List.mem_iff_getElem?.mpr ⟨n, e1⟩)), hb⟩
  · by_cases q : a = Dd
    · subst q; rw [upd_same]; exact mo
    · rw [upd_ne q]; exact b.inn.mu a hb
  · rw [upd_ne (ne_of_none h hD)]; exact b.keep a o h n
theorem BlkO.start {S1 : Sx} {gf : Gh} (sf : SR K z ⟨S1.env.map Slot.frz, S1.objs⟩ σ H1 gf) (hD : H1 Dd = none) (mo : Mut (some o)) : BlkO K (wipeE (S1.env.map Slot.frz) vs) σ vs H1 gf Dd o S1.objs (upd H1 Dd o) (gf.add Dd) := by
  have fr : Fr H1 gf (upd H1 Dd o) (gf.add Dd) := Fr.upd_add hD
  have sr := sf.alloc hD (o := o) mo
  refine ⟨⟨by rw [wipeE_len, wipe_length]; exact sf.len, fun i d e => ?_, sr.olen, sr.obj, sr.ond, sr.mu⟩, fun a o h _ => ?_, fr, fun a h => .inl h, fun a h => .inl h, upd_same, .inr rfl, fun h => sf.om_there h hD⟩
  · obtain ⟨e1, e2⟩ := wipeE_get e (by simp)
    obtain ⟨v, e3, r⟩ := sf.dat i d e1
    exact ⟨v, by rw [wipe_out e2]; exact e3, r.fr fr sf.mu⟩
  · rw [upd_ne (ne_of_none h hD)]; exact h
theorem BlkO.out {S1 : Sx} {H2 : Hp} {gf g2 : Gh} {acc objsF : List D} {P : Res → Sx → Hp → Gh → Prop} (s1 : SR K z S1 σ H1 g1) (sf : SR K z ⟨S1.env.map Slot.frz, S1.objs⟩ σ H1 gf) (ff : Fr H1 g1 H1 gf) (of : gf.om = g1.om)
    (b : BlkO K env σ vs H1 gf Dd o objsF H2 g2) (q : match outL acc objsF S1 with | some (.ok r, S') => ∀ H' g', SR K z S' σ H' g' → Fr H1 g1 H' g' → P r S' H' g' | _ => False) : ∃ S' g', SR K z S' σ H2 g' ∧ P (.new (.lst acc)) S' H2 g' := by
  have bh : Behind K H1 gf objsF H2 g2 := ⟨b.keep, b.base, b.fr.om, b.inn.ond, b.inn.mu, ⟨b.inn.olen, b.inn.obj⟩, b.new⟩
  have known : ∀ c, c ∈ g2.om → g2.bad c := fun c q => by
    obtain ⟨j, hj⟩ := List.mem_iff_getElem?.mp q
    have lt : j < objsF.length := by rw [b.inn.olen]; exact (List.getElem?_eq_some_iff.mp hj).1
    exact (b.inn.obj j c _ hj (List.getElem?_eq_getElem lt)).2
  unfold outL at q
  by_cases safe : (D.imms acc && objsF.all fun o => D.imms o.parts) = true
  · rw [if_pos safe] at q
    have all := (Bool.and_eq_true_iff.mp safe).2
    exact ⟨_, _, bh.sr s1 (root := fun _ => False) of (fun _ => False.elim) fun n c d e1 e2 => root_im_parts (b.inn.obj n c d e1 e2).1 (List.all_eq_true.mp all d (List.mem_of_getElem? e2)),
      q H2 _ (bh.sr s1 (root := fun _ => False) of (fun _ => False.elim) fun n c d e1 e2 => root_im_parts (b.inn.obj n c d e1 e2).1 (List.all_eq_true.mp all d (List.mem_of_getElem? e2))) (bh.fr (root := fun _ => False) s1 of fun _ => False.elim)⟩
  · rw [if_neg safe] at q
    have less : Fr H2 g2 H2 (gf.aft g2 fun _ => False) := Fr.less (fun c q => q.elim (b.base c) fun q => q.elim (known c) False.elim) rfl
    have sr := bh.sr sf (root := fun _ => False) rfl (fun _ => False.elim) fun n c d e1 e2 => (b.inn.obj n c d e1 e2).1.fr less b.inn.mu rfl
    exact ⟨_, _, sr, q H2 _ sr (ff.trans (bh.fr (root := fun _ => False) sf rfl fun _ => False.elim))⟩
structure Metl (acc : List D) (T : Int → Bool) (c : Nat) : Prop where
  mem : ∀ k, T k = true ↔ D.int k ∈ acc
  few : c ≤ acc.length
  many : ∃ l : List Int, l.Nodup ∧ (∀ k, k ∈ l ↔ D.int k ∈ acc) ∧ l.length = c
theorem Metl.nil : Metl [] (fun _ => false) 0 := ⟨by simp, Nat.le_refl _, [], List.nodup_nil, by simp, rfl⟩
theorem Metl.more {acc : List D} {T : Int → Bool} {c : Nat} (h : Metl acc T c) (k : Int) : Metl (acc ++ [.int k]) (fun j => T j || decide (j = k)) (if T k = true then c else c + 1) := by
  obtain ⟨l, l1, l2, l3⟩ := h.many
  refine ⟨fun j => by simp [h.mem j], ?_, ?_⟩
  · have := h.few
    rw [List.length_append]
    split <;> simp <;> omega
  · by_cases there : T k = true
    · refine ⟨l, l1, fun j => ?_, by rw [if_pos there]; exact l3⟩
      rw [l2, List.mem_append]
      refine ⟨.inl, fun q => q.elim id fun q => ?_⟩
      obtain rfl : j = k := by simpa using q
      exact (h.mem j).mp there
    · refine ⟨k :: l, List.nodup_cons.mpr ⟨fun q => there ((h.mem k).mpr ((l2 k).mp q)), l1⟩, fun j => by simp [l2 j, or_comm], by rw [if_neg there, List.length_cons, l3]⟩
variable {tg elt iter : Expr} {ifs : List Expr} {scope : Scope} {own : List (Str × Nat)} {it : M (List D)} {tgt : D → M Unit} {t : M Bool} {f : M Res} {ts : List Nat} {pos p pos2 : Pos} {w : World}
end
end DL
end
section
set_option maxRecDepth 100000
namespace DL
open PySem PySem.Spec L2
def isBl : D → Bool
  | .bl _ => true
  | _ => false
section
variable {X : Cx} {z : Zx} {S S' : Sx} {σ : L2.St} {H H' : Hp} {g g' : Gh} {v : V} {K : PySem.W.Frag} {mg : Str → Option Value} {pos p : Pos} {e : Expr}
end
end DL
end
section
set_option maxRecDepth 100000
namespace DL
open PySem PySem.Spec L2
section
variable {X : Cx} {z : Zx} {pos : Pos} {a b : Expr} {fa fb : M Res}
end
def Slot.kept (m : Nat) (x : Slot) : Slot := if x.low m = true then x else .un
section
variable {K : PySem.W.Frag} {mg : Str → Option Value} {z : Zx} {S S' : Sx} {σ σ' : L2.St} {H H' : Hp} {g g' : Gh} {v : V}
theorem kept_get {m i : Nat} {x : Slot} {l : List Slot} (h : (l.map (Slot.kept m))[i]? = some x) (n : x ≠ .un) : l[i]? = some x := by
  rw [List.getElem?_map] at h
  obtain ⟨y, e, q⟩ := Option.map_eq_some_iff.mp h
  unfold Slot.kept at q
  split at q
  · rw [e, q]
  · exact absurd q.symm n
theorem SR.kept {m : Nat} (s : SR K z S σ H g) : SR K z ⟨S.env.map (Slot.kept m), S.objs⟩ σ H g where
  len := by rw [List.length_map]; exact s.len
  dat := fun i d h => s.dat i d (kept_get h (fun q => by cases q))
  own := fun i d h => s.own i d (kept_get h (fun q => by cases q))
  inj := fun i j d e a h1 h2 => s.inj i j d e a (kept_get h1 (fun q => by cases q)) (kept_get h2 (fun q => by cases q))
  olen := s.olen
  obj := s.obj
  ond := s.ond
  mu := s.mu
  base := s.base
  b0 := s.b0
  keep := s.keep
  on := s.on
end
end DL
end
section
set_option maxRecDepth 100000
namespace DLN
open L2 PySem PySem.Spec PyProof.Rows
structure Calm {P : Program} {w : World} {K : Type} [DecidableEq K] (knd : HeapKind P w K) : Prop where
  st : knd.Stays
  byVal : ∀ {A : Around} {E : Value → Shared → Prop} {s : Shared} {k : K} {b : Addr} {Q : Bool → Shared → Prop}, knd.is s.heap k b → Q true s → wpAny (model P w) A (hashByValue 8 (.ref b)) Q E s
  noCls : ∀ {A : Around} {E : Value → Shared → Prop} {s : Shared} {k : K} {b : Addr} {Q : Bool → Shared → Prop}, knd.is s.heap k b → Q false s → wpAny (model P w) A (ofAClassStatement 8 (.ref b)) Q E s
section
variable {P : Program} {w : World} {K : Type} [DecidableEq K] {knd : HeapKind P w K}
def ent (knd : HeapKind P w K) (q : Addr × K) : Int × Value := (knd.hash q.2, .ref q.1)
abbrev Led (w : World) (t : SetTable) : Prop := w.params.followText "set-order" = true ∨ t.led = true
structure NSet (knd : HeapKind P w K) (h : Heap) (a : Addr) (L : List (Addr × K)) (es : Array (Int × Value)) (ep : Nat) (t : SetTable) : Prop where
  here : ∃ o, h.get? a = some o ∧ o.ExactSet ∧ o.data = .set es ep t
  ents : es.toList = L.map (ent knd)
  tab : TabOk t (L.map fun q => knd.hash q.2)
  once : (L.map (·.2)).Nodup
  keys : ∀ q ∈ L, knd.is h q.2 q.1
  pl : t.plain = true
  led : Led w t
  room : 5 * L.length < 3 * t.mask
  few : L.length < 64
theorem Calm.over (C : Calm knd) {h h' : Heap} {k : K} {b : Addr} (x : knd.is h k b) (old : ∀ c o, h.get? c = some o → h'.get? c = some o) : knd.is h' k b := C.st.stays (fun c o _ _ e _ => old c o e) x
theorem Calm.but (C : Calm knd) {h h' : Heap} {k : K} {a b : Addr} {o : Obj} {es : Array (Int × Value)} {ep : Nat} {t : SetTable} (x : knd.is h k b) (ho : h.get? a = some o) (hd : o.data = .set es ep t) (sb : Heap.SameBut a h h') : knd.is h' k b :=
  C.st.stays (fun c ob vs n e ed => (sb.2 c fun z => by
    subst z
    cases ho.symm.trans e
    rw [hd] at ed; cases ed).trans e) x
section
variable {A : Around} {E : Value → Shared → Prop} {s : Shared} {a : Addr} {L : List (Addr × K)} {es : Array (Int × Value)} {ep : Nat} {t : SetTable}
theorem size_of {es : Array (Int × Value)} {L : List (Addr × K)} (h : es.toList = L.map (ent knd)) : es.size = L.length := by
  simpa using congrArg List.length h
theorem fits_of (ents : es.toList = L.map (ent knd)) (tab : TabOk t (L.map fun q => knd.hash q.2)) (le : L.length ≤ t.mask) : t.fits es.size = true := by
  have h1 : t.place.size = L.length := by simpa using tab.sz
  simp only [SetTable.fits, SetTable.fill, tab.dm, Bool.and_eq_true, beq_iff_eq, decide_eq_true_eq, List.size_toArray, List.length_nil, Nat.add_zero, size_of ents, h1, le, and_self]
theorem NSet.look (R : NSet knd s.heap a L es ep t) {Q : Array (Int × Value) × Nat × SetTable → Shared → Prop} (q : Q (es, ep, t) s) : wpAny (model P w) A (setState a) Q E s := by
  obtain ⟨o, ho, _, hd⟩ := R.here
  have := R.room
  exact wpAny_setState_of ho hd (fits_of R.ents R.tab (by omega)) q
theorem ent_at {es : Array (Int × Value)} {L : List (Addr × K)} (h : es.toList = L.map (ent knd)) (i : Nat) : es[i]? = (L[i]?).map (ent knd) := by
  rw [← Array.getElem?_toList, h, List.getElem?_map]
theorem unseen (C : Calm knd) {k : K} {b : Addr} {Q : Bool → Shared → Prop} (hk : knd.is s.heap k b) : ∀ ys : List Value, (∀ y ∈ ys, ∃ k' c, y = Value.ref c ∧ knd.is s.heap k' c) → Q false s → wpAny (model P w) A (searchCouldBeSeen (.ref b) ys) Q E s := by
  intro ys hy h
  unfold searchCouldBeSeen
  refine wpAny_bind (wpAny_forIn_list _ (fun rest r s' => r.1 = none ∧ s' = s ∧ ∀ y ∈ rest, ∃ k' c, y = Value.ref c ∧ knd.is s.heap k' c) _ ?_ ?_ _ _ ⟨rfl, rfl, hy⟩)
  · rintro y rest r s' ⟨_, rfl, all⟩
    have later := fun u hu => all u (List.mem_cons_of_mem y hu)
    obtain ⟨k', c, rfl, hc⟩ := all y (.head _)
    dsimp only
    by_cases e : (b == c || (carriedByValue (.ref b) && carriedByValue (.ref c))) = true
    · exact wp_if_pos e (wpAny_pure ⟨rfl, rfl, later⟩)
    · refine wp_if_neg e (wpAny_bind (knd.quiet hk ?_))
      rw [if_neg (by decide)]
      refine wpAny_bind (knd.quiet hc ?_)
      rw [if_neg (by decide)]
      refine wpAny_bind (C.noCls hk ?_)
      rw [if_neg (by decide)]
      refine wpAny_bind (C.noCls hc ?_)
      rw [if_neg (by decide)]
      exact wpAny_pure ⟨rfl, rfl, later⟩
  · rintro ⟨r1, r2⟩ s' ⟨e, rfl, _⟩
    cases (show r1 = none from e)
    exact wpAny_pure h
abbrev pb (m : Nat) (h : Int) (c : Nat) : SetTable.Probe := nth m (runAt m (SetTable.bits h % (m + 1)) (SetTable.bits h)) c
theorem pb_none (m : Nat) (h : Int) (c : Nat) : (pb m h c).dummy = none := by
  have all : ∀ n (p : SetTable.Probe), p.dummy = none → (nth m p n).dummy = none := by
    intro n
    induction n with
    | zero => exact fun p e => e
    | succ n ih => exact fun p e => ih _ (by unfold adv; split <;> exact e)
  exact all c _ rfl
theorem pb_add (m : Nat) (h : Int) (c n : Nat) : nth m (pb m h c) n = pb m h (c + n) := (nth_add m c _ n).symm
def Meets (t : SetTable) (h : Int) (c i : Nat) : Prop := t.place.toList[i]? = some (way t.mask h c)
theorem Meets.one {t : SetTable} (r : Ris t.place.toList) {h : Int} {c i j : Nat} (x : Meets t h c i) (y : Meets t h c j) : i = j := by
  have e := slot_live r x
  rw [slot_live r y] at e
  injection e with e
  exact e.symm
theorem seek (C : Calm knd) (R : NSet knd s.heap a L es ep t) {x : Addr} {k : K} (hx : knd.is s.heap k x) (hu : knd.room A) {N : Nat} (free : way t.mask (knd.hash k) N ∉ t.place.toList) (taken : ∀ c, c < N → way t.mask (knd.hash k) c ∈ t.place.toList)
    (small : N < 10 * SetTable.turns t.mask) {Q : SetFound → Shared → Prop} (yes : k ∈ L.map (·.2) → Q (.there none) s) (no : k ∉ L.map (·.2) → Q (.free (way t.mask (knd.hash k) N) false) s) :
    ∀ (f c : Nat) (stand : Option SetTable.Probe), N < c + f → c ≤ N → stand.getD (t.probeStart (knd.hash k)) = pb t.mask (knd.hash k) c → (∀ (i : Nat) (q : Addr × K), L[i]? = some q → q.2 = k → ∃ d, c ≤ d ∧ d < N ∧ Meets t (knd.hash k) d i) →
      wpAny (model P w) A (setSearchFrom a (.ref x) (knd.hash k) true f stand) Q E s := by
  intro f
  induction f with
  | zero => exact fun c _ hf hc => absurd hf (by omega)
  | succ f ih =>
    intro c stand hf hc hs ahead
    obtain ⟨o, ho, hex, hd⟩ := R.here
    rw [setSearchFrom_succ]
    refine wpAny_bind (R.look ?_)
    dsimp only
    refine wp_if_neg (by unfold SetTable.gaveWay; rw [mask_odd R.tab.mok]; decide) ?_
    have hash_ : ∀ (i : Nat) q, L[i]? = some q → ((es[i]?.map (·.1)).getD 0) = knd.hash q.2 := fun i q e => by rw [ent_at R.ents, e]; rfl
    have answer := go_spec t R.tab.ris R.tab.dm (fun i => (es[i]?.map (·.1)).getD 0) (knd.hash k) (10 * SetTable.turns t.mask) (N - c) (pb t.mask (knd.hash k) c) (pb_none _ _ _) (by omega)
      (fun n hn => by rw [pb_add]; exact taken (c + n) (by omega)) (by rw [pb_add, show c + (N - c) = N by omega]; exact free)
    simp only [pb_add] at answer
    rcases answer with ⟨n, i, hn, hi, eh, before, ep_⟩ | ⟨before, ep_⟩
    · have asked : t.probe (fun i => (es[i]?.map (·.1)).getD 0) (knd.hash k) (stand.getD (t.probeStart (knd.hash k))) = some (.candidate (way t.mask (knd.hash k) (c + n)) i (pb t.mask (knd.hash k) (c + (n + 1)))) := by
        rw [hs]; exact ep_
      rw [asked]
      dsimp only
      have many : t.place.toList.length = L.length := by have := R.tab.sz; simpa using this
      obtain ⟨q, hq⟩ : ∃ q, L[i]? = some q := ⟨_, List.getElem?_eq_getElem (by rw [← many]; exact (List.getElem?_eq_some_iff.mp hi).1)⟩
      have inL := List.mem_of_getElem? hq
      have eq_ : es[i]? = some (knd.hash q.2, Value.ref q.1) := by rw [ent_at R.ents, hq]; rfl
      have onward : wpAny (model P w) A (searchRest a (.ref x) (knd.hash k) true f es t (way t.mask (knd.hash k) (c + n)) i (pb t.mask (knd.hash k) (c + (n + 1)))) Q E s := by
        unfold searchRest
        rw [eq_]
        dsimp only
        refine wpAny_bind (wpAny_holding (knd.eqBool hu (R.keys q inL) hx ?_))
        refine wpAny_bind (R.look ?_)
        dsimp only
        by_cases same : q.2 = k
        · exact wp_if_pos (by simp [same]) (wpAny_pure (yes (List.mem_map.mpr ⟨q, inL, same⟩)))
        · refine wp_if_neg (by simp [same]) ?_
          rw [sameMem]
          dsimp only
          have at_ : t.slot (way t.mask (knd.hash k) (c + n)) = .live i := slot_live R.tab.ris hi
          simp only [if_true, at_, eq_]
          refine wpAny_bind (wpAny_isSame_ref_self (wpAny_bind (wpAny_pure ?_)))
          simp only [if_true]
          refine wp_if_neg (by simp [same]) (ih (c + (n + 1)) _ (by omega) (by omega) rfl fun j r hr er => ?_)
          obtain ⟨d, d1, d2, d3⟩ := ahead j r hr er
          refine ⟨d, ?_, d2, d3⟩
          rcases Nat.lt_trichotomy d (c + n) with z | z | z
          · refine absurd ((hash_ j r hr).trans (by rw [er])) (before (d - c) j (by omega) ?_)
            rw [show c + (d - c) = d by omega]; exact d3
          · subst z
            have := d3.one R.tab.ris hi
            subst this
            rw [hq] at hr; cases hr
            exact absurd er same
          · omega
      by_cases led : t.led = true
      · refine wp_if_neg (by simp [led]) ?_
        exact onward
      · refine wp_if_pos (by simp [led]) (wpAny_bind (unseen C hx _ (fun y hy => ?_) ?_))
        · obtain ⟨e, he, rfl⟩ := List.mem_map.mp hy
          have : e ∈ es.toList := by
            have h2 : e ∈ es ∧ e.1 = knd.hash k := by simpa using he
            simpa using h2.1
          rw [R.ents] at this
          obtain ⟨r, hr, rfl⟩ := List.mem_map.mp this
          exact ⟨r.2, r.1, rfl, R.keys r hr⟩
        · refine wp_if_neg (by decide) ?_
          exact onward
    · have asked : t.probe (fun i => (es[i]?.map (·.1)).getD 0) (knd.hash k) (stand.getD (t.probeStart (knd.hash k))) = some (.empty (way t.mask (knd.hash k) N) none) := by
        rw [hs]
        refine ep_.trans ?_
        rw [show c + (N - c) = N by omega]
      rw [asked]
      dsimp only
      refine wpAny_pure (no fun m => ?_)
      obtain ⟨q, inL, eq_⟩ := List.mem_map.mp m
      obtain ⟨i, hi, e⟩ := List.getElem_of_mem inL
      have hq : L[i]? = some q := by rw [List.getElem?_eq_getElem hi, e]
      obtain ⟨d, d1, d2, d3⟩ := ahead i q hq eq_
      refine absurd ((hash_ i q hq).trans (by rw [eq_])) (before (d - c) i (by omega) ?_)
      rw [show c + (d - c) = d by omega]; exact d3
theorem seek0 (C : Calm knd) (R : NSet knd s.heap a L es ep t) {x : Addr} {k : K} (hx : knd.is s.heap k x) (hu : knd.room A) {Q : SetFound → Shared → Prop} (yes : k ∈ L.map (·.2) → Q (.there none) s)
    (no : ∀ N, k ∉ L.map (·.2) → way t.mask (knd.hash k) N ∉ t.place.toList → (∀ c, c < N → way t.mask (knd.hash k) c ∈ t.place.toList) → Q (.free (way t.mask (knd.hash k) N) false) s) : wpAny (model P w) A (setSearch a (.ref x) (knd.hash k) true) Q E s := by
  have room := R.room
  obtain ⟨N, n1, n2, n3⟩ := R.tab.first (by rw [List.length_map]; omega) (knd.hash k)
  have big : N < 0 + 100000 := by
    have : SetTable.turns t.mask ≤ 142 := by
      unfold SetTable.turns
      have mok := R.tab.mok
      unfold MaskOk at mok
      omega
    omega
  refine seek C R hx hu n2 n3 n1 yes (fun h => no N h n2 n3) 100000 0 none big (Nat.zero_le _) rfl fun i q hq eq_ => ?_
  have l1 : i < t.place.toList.length := by
    have h1 : t.place.toList.length = L.length := by have := R.tab.sz; simpa using this
    rw [h1]; exact (List.getElem?_eq_some_iff.mp hq).1
  have l2 := List.getElem?_eq_getElem l1
  obtain ⟨d, d1, d2⟩ := R.tab.before n2 (show (L.map fun q => knd.hash q.2)[i]? = some (knd.hash k) by rw [List.getElem?_map, hq, ← eq_]; rfl) l2
  exact ⟨d, Nat.zero_le _, d1, by unfold Meets; rw [l2, d2]⟩
end
theorem range_get {α : Type} : ∀ l : List α, (List.range l.length).filterMap (fun i => l[i]?) = l
  | [] => rfl
  | x :: l => by
    rw [List.length_cons, List.range_succ_eq_map, List.filterMap_cons_some (b := x) (by simp), List.filterMap_map]
    exact congrArg (x :: ·) (range_get l)
theorem re_ents {L : List (Addr × K)} {es : Array (Int × Value)} {order : Array Nat} (h : es.toList = L.map (ent knd)) : (order.filterMap (es[·]?)).toList = (order.toList.filterMap fun i => L[i]?).map (ent knd) := by
  rw [Array.toList_filterMap, List.map_filterMap]
  congr 1
  funext i
  exact ent_at h i
theorem re_hash {L : List (Addr × K)} {es : Array (Int × Value)} (h : es.toList = L.map (ent knd)) : ∀ l : List Nat, (∀ i ∈ l, i < L.length) → ((l.filterMap fun i => L[i]?).map fun q => knd.hash q.2) = l.map fun i => (es.map (·.1)).getD i 0
  | [], _ => rfl
  | i :: l, lt => by
    have l1 := lt i (.head _)
    have e : (es.map (·.1)).getD i 0 = knd.hash (L[i]).2 := by
      rw [Array.getD_eq_getD_getElem?, Array.getElem?_map, ent_at h, List.getElem?_eq_getElem l1]; rfl
    rw [List.filterMap_cons_some (List.getElem?_eq_getElem l1), List.map_cons, List.map_cons, re_hash h l fun j m => lt j (.tail _ m), e]
section
variable {A : Around} {E : Value → Shared → Prop} {s : Shared} {a : Addr} {L : List (Addr × K)} {es : Array (Int × Value)} {ep : Nat} {t : SetTable}
theorem relay (C : Calm knd) {o : Obj} (ho : s.heap.get? a = some o) (hex : o.ExactSet) (hd : o.data = .set es ep t) (ents : es.toList = L.map (ent knd)) (tab : TabOk t (L.map fun q => knd.hash q.2)) (once : (L.map (·.2)).Nodup) (keys : ∀ q ∈ L, knd.is s.heap q.2 q.1)
    (pl : t.plain = true) (led : Led w t) (few : L.length < 64) (fill : L.length ≤ t.mask) {n M : Nat} (hM : SetTable.sizeAbove n = M + 1) (ok : MaskOk M) (room : 5 * L.length < 3 * M)
    {Q : Unit → Shared → Prop} (q : ∀ h' L' es' ep' t', Heap.SameBut a s.heap h' → NSet knd h' a L' es' ep' t' → L'.Perm L → Q () { s with heap := h' }) : wpAny (model P w) A (setRelay a n) Q E s := by
  have sz := size_of ents
  have M128 : M ≤ 127 := by rcases ok with e | e | e <;> omega
  obtain ⟨t2, order, e1, pm, T2, m2, l2, p2, d2⟩ := relaid_ok t (hs := es.map (·.1)) (wanted := n) (M := M) (by rw [hM]; rfl) ok (by rw [Array.size_map, sz]; omega)
  rw [Array.size_map, sz] at pm
  have in_ : ∀ i ∈ order.toList, i < L.length := fun i m => List.mem_range.mp (pm.mem_iff.mp m)
  have re := re_ents (order := order) ents
  rw [← re_hash ents order.toList in_] at T2
  have pmL : (order.toList.filterMap fun i => L[i]?).Perm L := by
    have := pm.filterMap fun i => L[i]?
    rwa [range_get] at this
  generalize (order.toList.filterMap fun i => L[i]?) = L2 at re T2 pmL
  have sz3 : (order.filterMap (es[·]?)).size = es.size := by rw [size_of re, sz, pmL.length_eq]
  rw [setRelay_eq]
  refine wpAny_bind (wpAny_setState_of ho hd (fits_of ents tab fill) ?_)
  dsimp only
  refine wp_if_neg (by rw [sizeLine_eq, hM]; omega) ?_
  rw [e1]
  dsimp only
  refine wpAny_bind (wp_if_neg (by rw [sz3]; simp) ?_)
  refine wpAny_pure ?_
  dsimp only
  have sb : Heap.SameBut a s.heap (s.heap.update a (Obj.putSet (order.filterMap (es[·]?)) t2)) := Heap.SameBut.update ..
  refine wpAny_storeSet_of ho hd (q _ L2 _ (ep + 1) t2 sb ⟨⟨_, store_at ho hd, ⟨hex.1, hex.2.1, hex.2.2⟩, rfl⟩, re, T2, (pmL.map (·.2)).nodup_iff.mpr once, fun r m => C.but (keys r (pmL.mem_iff.mp m)) ho hd sb, p2 ▸ pl, led.imp id l2.trans, ?_, pmL.length_eq ▸ few⟩ pmL) (by rw [sz3, sz, sizeLine_eq]; omega)
  rw [pmL.length_eq, m2]; exact room
theorem add (C : Calm knd) (R : NSet knd s.heap a L es ep t) {x : Addr} {k : K} (hx : knd.is s.heap k x) (hu : knd.room A) (few : L.length + 1 < 64) {Q : Bool → Shared → Prop}
    (q : ∀ b h' L' es' ep' t', Heap.SameBut a s.heap h' → NSet knd h' a L' es' ep' t' → (k ∈ L.map (·.2) ∧ L' = L ∨ k ∉ L.map (·.2) ∧ L'.Perm ((x, k) :: L)) → Q b { s with heap := h' }) : wpAny (model P w) A (setAddHashed a (.ref x) (knd.hash k)) Q E s := by
  obtain ⟨o, ho, hex, hd⟩ := R.here
  have sz := size_of R.ents
  have room := R.room
  unfold setAddHashed
  refine wpAny_holding ?_
  show wpAny _ _ (setAddHashedIn a (.ref x) (knd.hash k) (99999 + 1)) _ _ _
  rw [setAddHashedIn_succ]
  refine wpAny_bind (R.look ?_)
  dsimp only
  refine wp_if_neg (show ¬ byScan (.ref x) es = true by simp [byScan, Value.scannable]) ?_
  refine wpAny_bind (seek0 C R hx hu (fun m => ?_) fun N m n1 n2 => ?_)
  · dsimp only
    exact wpAny_pure (q false s.heap L es ep t (Heap.SameBut.refl a s.heap) R (.inl ⟨m, rfl⟩))
  · dsimp only
    refine wpAny_bind (R.look ?_)
    dsimp only
    obtain ⟨p1, p2, p3, p4, p5, p6, _, _, p9⟩ := R.tab.put n1 n2
    generalize SetTable.below t.place (way t.mask (knd.hash k) N) = i at p1 p2 p3
    generalize ht : t.put (way t.mask (knd.hash k) N) = pt at p1 p3 p4 p5 p6 p9 ⊢
    obtain ⟨t1, i1⟩ := pt
    dsimp only at p1 p3 p4 p5 p6 p9 ⊢
    subst p1
    have pl1 : t1.plain = true := p6.trans R.pl
    first
      | (refine wpAny_bind ?_; refine wp_if_pos pl1 ?_; refine C.byVal hx ?_)
      | refine wp_if_pos pl1 (wpAny_bind (C.byVal hx ?_))
    simp only [if_true]
    have pm := put_perm L i1 (x, k)
    have e1 : (SetTable.insertAt es i1 (knd.hash k, Value.ref x)).toList = (L.take i1 ++ (x, k) :: L.drop i1).map (ent knd) := by
      rw [SetTable.toList_insertAt, R.ents, List.map_append, List.map_cons, List.map_take, List.map_drop]; rfl
    have T1 : TabOk t1 ((L.take i1 ++ (x, k) :: L.drop i1).map fun q => knd.hash q.2) := by
      rw [List.map_append, List.map_cons, List.map_take, List.map_drop]; exact p3
    generalize SetTable.insertAt es i1 (knd.hash k, Value.ref x) = es1 at e1 ⊢
    generalize L.take i1 ++ (x, k) :: L.drop i1 = L1 at pm e1 T1
    have len : L1.length = L.length + 1 := pm.length_eq
    have sz1 := size_of e1
    have once : (L1.map (·.2)).Nodup := (pm.map (·.2)).nodup_iff.mpr (List.nodup_cons.mpr ⟨m, R.once⟩)
    have led1 : Led w t1 := R.led.imp id p5.trans
    refine wpAny_bind (wpAny_storeSet_of ho hd ?_ (by rw [sz1, len, sizeLine_eq]; omega))
    obtain ⟨h1, eh, sb, ho1⟩ : ∃ h1, s.heap.update a (Obj.putSet es1 t1) = h1 ∧ Heap.SameBut a s.heap h1 ∧ h1.get? a = some { o with data := .set es1 (ep + 1) t1 } := ⟨_, rfl, .update .., store_at ho hd⟩
    rw [eh]
    have keys1 : ∀ r ∈ L1, knd.is h1 r.2 r.1 := fun r hr => by
      rcases List.mem_cons.mp (pm.mem_iff.mp hr) with e | hr
      · subst e; exact C.but hx ho hd sb
      · exact C.but (R.keys r hr) ho hd sb
    by_cases full : t1.tooFull = true
    · first
        | (refine wpAny_bind ?_; refine wp_if_pos (by simp [full]) ?_)
        | (refine wp_if_pos (by simp [full]) ?_; refine wpAny_bind ?_)
      have over : (L.length + 1) * 5 ≥ t.mask * 3 := by
        have f := full
        unfold SetTable.tooFull at f
        rw [decide_eq_true_eq, p9, List.length_map, p4] at f
        exact f
      rw [sz]
      obtain ⟨M, hM, ok, r1⟩ : ∃ M, SetTable.sizeAbove (SetTable.grown (L.length + 1)) = M + 1 ∧ MaskOk M ∧ 5 * (L.length + 1) < 3 * M := by
        rcases R.tab.mok with z | z | z
        · have e2 : L.length = 4 := by omega
          rw [e2]; exact ⟨31, size_20, .inr (.inl rfl), by decide⟩
        · have e2 : L.length = 18 := by omega
          rw [e2]; exact ⟨127, size_76, .inr (.inr rfl), by decide⟩
        · omega
      refine relay (s := { s with heap := h1 }) C ho1 ⟨hex.1, hex.2.1, hex.2.2⟩ rfl e1 T1 once keys1 pl1 led1 (by omega) (by rw [len, p4]; omega) hM ok (by rw [len]; exact r1) fun h2 L2 es2 ep2 t2 sb2 R2 pm2 => ?_
      exact wpAny_pure (q true h2 L2 es2 ep2 t2 (sb.trans sb2) R2 (.inr ⟨m, pm2.trans pm⟩))
    · have under : 5 * (L.length + 1) < 3 * t1.mask := by
        have f := full
        unfold SetTable.tooFull at f
        rw [decide_eq_true_eq, p9, List.length_map] at f
        omega
      first
        | refine wp_if_neg (by simp [full]) ?_
        | (refine wpAny_bind ?_; refine wp_if_neg (by simp [full]) ?_; refine wpAny_pure ?_)
      exact wpAny_pure (q true h1 L1 es1 (ep + 1) t1 sb ⟨⟨_, ho1, ⟨hex.1, hex.2.1, hex.2.2⟩, rfl⟩, e1, T1, once, keys1, pl1, led1, by rw [len]; exact under, by omega⟩ (.inr ⟨m, pm⟩))
end
end
end DLN
end
section
set_option maxRecDepth 100000
namespace DLN
open L2 PySem PySem.Spec PyProof.Rows
mutual
/-- no text within -/
def wordless : NestedKey → Bool
  | .none => true
  | .num _ => true
  | .text _ => false
  | .tup ks => wordlessA ks
def wordlessA : List NestedKey → Bool
  | [] => true
  | k :: r => wordless k && wordlessA r
end
section
variable {P : Program} {w : World}
def Says (P : Program) (w : World) (s : Shared) (q : Sem Bool) (r : Bool) : Prop := ∀ (A : Around) (E : Value → Shared → Prop) (Q : Bool → Shared → Prop), Q r s → wpAny (model P w) A q Q E s
theorem says_items {s : Shared} {q : Value → Sem Bool} {vs : Array Value} {r : Bool} {f : Bool → Sem (ForInStep (Option Bool × Unit))} (all : ∀ v ∈ vs.toList, Says P w s (q v) r) (hf : f r = pure (.yield (none, ()))) {A : Around} {E : Value → Shared → Prop} {Q : Option Bool × Unit → Shared → Prop} (h : Q (none, ()) s) :
    wpAny (model P w) A (forIn vs (none, ()) fun x _ => do let b ← q x; f b) Q E s := by
  rw [← Array.forIn_toList]
  refine wpAny_forIn_list _ (fun rest z s' => z.1 = none ∧ s' = s ∧ ∀ v ∈ rest, Says P w s (q v) r) _ ?_ ?_ _ _ ⟨rfl, rfl, all⟩
  · rintro v rest z s' ⟨_, rfl, al⟩
    refine wpAny_bind (al v (.head _) _ _ _ ?_)
    rw [hf]
    exact wpAny_pure ⟨rfl, rfl, fun u m => al u (.tail _ m)⟩
  · rintro ⟨z1, _⟩ s' ⟨e, rfl, _⟩
    cases (show z1 = none from e)
    exact h
mutual
theorem byVal_key : ∀ (k : NestedKey) (v : Value) (n : Nat) (s : Shared), NestedIs s.heap k v → k.depth ≤ n → wordless k = true → Says P w s (hashByValue n v) true
  | .none, _, n, s, x, _, _ => by cases x; cases n <;> exact fun A E Q h => wpAny_pure h
  | .num i, _, n, s, x, _, _ => by cases x <;> cases n <;> exact fun A E Q h => wpAny_pure h
  | .text y, _, n, s, x, _, p => by simp [wordless] at p
  | .tup ks, _, n, s, x, d, p => by
    cases x with
    | @tup b o vs m _ ho hc hd al =>
      cases n with
      | zero => simp [NestedKey.depth] at d
      | succ n =>
        have each := byVal_keys ks _ n s al (by simp [NestedKey.depth] at d; exact d) (by simpa [wordless] using p)
        intro A E Q h
        unfold hashByValue
        refine wpAny_bind (wpAny_specialOf (T := "tuple") ⟨o, ho, hc⟩ F.slot_tuple_hash.lookup ?_)
        show wpAny _ _ (seqItems? (.ref b) >>= fun r => _) _ _ s
        refine wpAny_bind (wpAny_seqItems ho hd (wpAny_bind ?_))
        dsimp only [Option.getD]
        refine says_items (q := hashByValue n) (r := true) each ?_ ?_
        · rfl
        · exact wpAny_pure h
theorem byVal_keys : ∀ (ks : List NestedKey) (vs : List Value) (n : Nat) (s : Shared), NestedAll s.heap ks vs → NestedKey.depthAll ks ≤ n → wordlessA ks = true → ∀ v ∈ vs, Says P w s (hashByValue n v) true
  | [], _, n, s, x, _, _, v, m => by cases x; cases m
  | k :: ks, _, n, s, x, d, p, v, m => by
    cases x with
    | cons x1 x2 =>
      simp only [NestedKey.depthAll] at d
      simp only [wordlessA, Bool.and_eq_true] at p
      rcases List.mem_cons.mp m with e | m
      · rw [e]; exact byVal_key k _ n s x1 (by omega) p.1
      · exact byVal_keys ks _ n s x2 (by omega) p.2 v m
end
mutual
theorem noCls_key : ∀ (k : NestedKey) (v : Value) (n : Nat) (s : Shared), NestedIs s.heap k v → k.depth ≤ n → Says P w s (ofAClassStatement n v) false
  | .none, _, n, s, x, _ => by cases x; cases n <;> exact fun A E Q h => wpAny_pure h
  | .num i, _, n, s, x, _ => by cases x <;> cases n <;> exact fun A E Q h => wpAny_pure h
  | .text y, _, n, s, x, _ => by cases x; cases n <;> exact fun A E Q h => wpAny_pure h
  | .tup ks, _, n, s, x, d => by
    cases x with
    | @tup b o vs m _ ho hc hd al =>
      cases n with
      | zero => simp [NestedKey.depth] at d
      | succ n =>
        have each := noCls_keys ks _ n s al (by simp [NestedKey.depth] at d; exact d)
        intro A E Q h
        unfold ofAClassStatement
        refine wpAny_bind (wpAny_typeOf (s := s) (T := "tuple") ⟨_, ho, hc⟩ ?_)
        dsimp only
        simp only [show (("tuple" : String) == "tuple") = true by decide, if_true, Bool.not_true]
        refine wpAny_bind (wpAny_pure ?_)
        rw [if_neg (by decide)]
        show wpAny _ _ (seqItems? (.ref b) >>= fun r => _) _ _ s
        refine wpAny_bind (wpAny_seqItems (n := m) ho hd ?_)
        dsimp only
        refine wpAny_bind ?_
        refine says_items (q := ofAClassStatement n) (r := false) each ?_ ?_
        · rfl
        · exact wpAny_pure h
theorem noCls_keys : ∀ (ks : List NestedKey) (vs : List Value) (n : Nat) (s : Shared), NestedAll s.heap ks vs → NestedKey.depthAll ks ≤ n → ∀ v ∈ vs, Says P w s (ofAClassStatement n v) false
  | [], _, n, s, x, _, v, m => by cases x; cases m
  | k :: ks, _, n, s, x, d, v, m => by
    cases x with
    | cons x1 x2 =>
      simp only [NestedKey.depthAll] at d
      rcases List.mem_cons.mp m with e | m
      · rw [e]; exact noCls_key k _ n s x1 (by omega)
      · exact noCls_keys ks _ n s x2 (by omega) v m
end
def calmKind (P : Program) (w : World) : HeapKind P w NestedKey where
  is := fun h k a => (nestedKind P w).is h k a ∧ wordless k = true
  hash := (nestedKind P w).hash
  draws := (nestedKind P w).draws
  room := (nestedKind P w).room
  inj := fun x y => (nestedKind P w).inj x.1 y.1
  keeps := fun x ho hd sb => ⟨(nestedKind P w).keeps x.1 ho hd sb, x.2⟩
  pyHash := fun hu x h => (nestedKind P w).pyHash hu x.1 h
  eqBool := fun hu x y h => (nestedKind P w).eqBool hu x.1 y.1 h
  quiet := fun x h => (nestedKind P w).quiet x.1 h
theorem calm_kind : Calm (calmKind P w) where
  st := ⟨fun old x => ⟨nestedKind_stays.stays old x.1, x.2⟩, fun x => nestedKind_stays.tuple x.1⟩
  byVal := fun x h => byVal_key _ _ _ _ x.1.1 x.1.2 x.2 _ _ _ h
  noCls := fun x h => noCls_key _ _ _ _ x.1.1 x.1.2 _ _ _ h
variable {K : Type} [DecidableEq K] {knd : HeapKind P w K}
structure Took (ks : List (Addr × K)) (i : Nat) (L : List (Addr × K)) : Prop where
  from_ : ∀ q ∈ L, q ∈ ks.take i
  keys : ∀ k, k ∈ L.map (·.2) ↔ k ∈ (ks.take i).map (·.2)
  len : L.length ≤ i
theorem Took.next {ks L L' : List (Addr × K)} {i : Nat} {q : Addr × K} (T : Took ks i L) (e : ks[i]? = some q) (c : q.2 ∈ L.map (·.2) ∧ L' = L ∨ q.2 ∉ L.map (·.2) ∧ L'.Perm (q :: L)) : Took ks (i + 1) L' := by
  have e2 : ks.take (i + 1) = ks.take i ++ [q] := by rw [List.take_succ, e]; rfl
  have e3 : ∀ k, k ∈ (ks.take (i + 1)).map (·.2) ↔ k ∈ L.map (·.2) ∨ k = q.2 := fun k => by
    rw [e2, List.map_append, List.mem_append, T.keys]; simp
  rcases c with ⟨m, rfl⟩ | ⟨_, pm⟩
  · refine ⟨fun r hr => by rw [e2]; exact List.mem_append_left _ (T.from_ r hr), fun k => ?_, Nat.le_succ_of_le T.len⟩
    rw [e3]
    exact ⟨.inl, fun h => h.elim id fun h => h ▸ m⟩
  · refine ⟨fun r hr => ?_, fun k => ?_, by rw [pm.length_eq]; exact Nat.succ_le_succ T.len⟩
    · rw [e2]
      rcases List.mem_cons.mp (pm.mem_iff.mp hr) with rfl | h
      · simp
      · exact List.mem_append_left _ (T.from_ r h)
    · rw [e3, (pm.map (·.2)).mem_iff, List.map_cons, List.mem_cons]
      exact Or.comm
def Half (knd : HeapKind P w K) (h : Heap) (a : Addr) (ks : List (Addr × K)) (i : Nat) : Prop := ∃ L es ep t, NSet knd h a L es ep t ∧ Took ks i L
theorem Half.new {h : Heap} {a : Addr} {ks : List (Addr × K)} (ho : h.get? a = some { cls := .type "set", dict := none, data := .set #[] 0 (.fresh 0 0 (!w.params.followText "set-order")) }) : Half knd h a ks 0 := by
  refine ⟨[], #[], 0, _, ⟨⟨_, ho, ⟨rfl, rfl, rfl⟩, rfl⟩, rfl, ⟨List.Pairwise.nil, rfl, rfl, .inl rfl, (by intro x m; cases m), (by intro i h j e; simp at e)⟩, List.nodup_nil, (by intro q m; cases m), rfl, ?_, (by decide : 5 * 0 < 3 * 7), Nat.zero_lt_succ 63⟩, ⟨(by intro q m; cases m), fun k => by simp, Nat.le_refl 0⟩⟩
  cases e : w.params.followText "set-order" with
  | true => exact .inl e
  | false => exact .inr rfl
section
variable {s : Shared} {A : Around} {E : Value → Shared → Prop}
theorem Half.over (C : Calm knd) {h0 h h' : Heap} {a : Addr} {ks : List (Addr × K)} {i : Nat} (H : Half knd h a ks i) (lie : ∀ q ∈ ks, knd.is h0 q.2 q.1) (old : ∀ b o, h0.get? b = some o → h'.get? b = some o) (same : ∀ o, h.get? a = some o → h'.get? a = some o) : Half knd h' a ks i := by
  obtain ⟨L, es, ep, t, R, T⟩ := H
  obtain ⟨o, ho, r⟩ := R.here
  exact ⟨L, es, ep, t, ⟨⟨o, same o ho, r⟩, R.ents, R.tab, R.once, fun q m => C.over (lie q (List.mem_of_mem_take (T.from_ q m))) old, R.pl, R.led, R.room, R.few⟩, T⟩
theorem fill (C : Calm knd) {I : Addr} {fp wr : List Addr} {G : Array GenState → Array GenState → Prop} {n : Nat} {Pv : Nat → Value → Prop} {St : Nat → Shared → Prop} {R : Result → Shared → Prop} (W : WalksS P w A.in1 I fp wr G n Pv St) (a : Addr) (out_ : a ∉ fp)
    (ks : List (Addr × K)) (en : n = ks.length) (few : ks.length < 64) (val : ∀ i v, Pv i v → ∃ q, ks[i]? = some q ∧ v = .ref q.1) (h0 : Heap) (lie : ∀ q ∈ ks, knd.is h0 q.2 q.1) (na : h0.get? a = none) (nw : ∀ b ∈ wr, h0.get? b = none) (hu : knd.room A.in1)
    (s0 : Shared) (fin : ∀ s', G s0.gens s'.gens ∧ s'.drawn = s0.drawn ∧ s'.os = s0.os → Half knd s'.heap a ks n → (∀ b o, h0.get? b = some o → s'.heap.get? b = some o) → R (.ok (.ret .none)) s') :
    ∀ (m i : Nat) (s : Shared), i + m = n → G s0.gens s.gens ∧ s.drawn = s0.drawn ∧ s.os = s0.os → St i s → (∀ b o, h0.get? b = some o → s.heap.get? b = some o) → Half knd s.heap a ks i → codeAny (model P w) A (.builtin "set.update.loop" ⟨[.ref a, .ref I], []⟩) R s := by
  have old_ : ∀ {s s' : Shared}, Moved wr G s s' → (∀ b o, h0.get? b = some o → s.heap.get? b = some o) → ∀ b o, h0.get? b = some o → s'.heap.get? b = some o := fun mv k b o e =>
    mv.heap b o (fun m => by rw [nw b m] at e; cases e) (k b o e)
  have here_ : ∀ {s s' : Shared}, Moved wr G s s' → ∀ o, s.heap.get? a = some o → s'.heap.get? a = some o := fun mv o e => mv.heap a o (fun m => out_ (W.sub a m)) e
  have like_ : ∀ {s s' : Shared}, Moved wr G s s' → G s0.gens s.gens ∧ s.drawn = s0.drawn ∧ s.os = s0.os → G s0.gens s'.gens ∧ s'.drawn = s0.drawn ∧ s'.os = s0.os := fun mv lk => ⟨W.gtrans _ _ _ lk.1 mv.gens, mv.drawn.trans lk.2.1, mv.os.trans lk.2.2⟩
  intro m
  induction m with
  | zero =>
    intro i s e lk st old H
    obtain rfl : i = n := by omega
    refine codeAny_builtin F.entry_set_update_loop ?_
    rw [Around.under_plainId F.plain_set_update_loop _]
    exact wpAny_bind (W.done s _ _ st fun s' mv => wpAny_pure (fin s' (like_ mv lk) (H.over C lie (old_ mv old) (here_ mv)) (old_ mv old)))
  | succ m ih =>
    intro i s e lk st old H
    refine codeAny_builtin F.entry_set_update_loop ?_
    rw [Around.under_plainId F.plain_set_update_loop _]
    refine wpAny_bind (W.item i s _ _ (by omega) st fun v s' pv st' mv => ?_)
    obtain ⟨q, eq_, rfl⟩ := val i v pv
    have old' := old_ mv old
    have lk' := like_ mv lk
    obtain ⟨L, es, ep, t, NS, T⟩ := H.over C lie old' (here_ mv)
    have x := C.over (lie q (List.mem_of_getElem? eq_)) old'
    show wpAny _ A.in1 (holding [Value.ref q.1] (setAdd a (.ref q.1)) >>= _) _ _ s'
    refine wpAny_bind (wpAny_holding ?_)
    unfold setAdd
    refine wpAny_holding (wpAny_bind (knd.pyHash hu x ?_))
    refine add (s := { s' with toks := s'.toks + knd.draws q.2 }) C NS x hu (by have := T.len; have := (List.getElem?_eq_some_iff.mp eq_).1; omega) fun b h' L' es' ep' t' sb NS' c => ?_
    refine wpAny_pure ⟨plainId_quiet F.plain_set_update_loop _, ih (i + 1) _ (by omega) lk' (W.frame _ s' _ _ st' (Nat.le_add_right _ _) fun b hb o e => ?_) (fun b o e => ?_) ⟨L', es', ep', t', NS', T.next eq_ c⟩⟩
    · rw [sb.2 b fun z : b = a => out_ (z ▸ hb)]; exact e
    · exact (sb.2 b fun z => by rw [z, na] at e; cases e).trans (old' b o e)
end
end
end DLN
end
section
set_option maxRecDepth 100000
namespace DLN
open L2 PySem PySem.Spec PyProof.Rows
section
variable {P : Program} {w : World} {K : Type} [DecidableEq K] {knd : HeapKind P w K} {A : Around} {E : Value → Shared → Prop} {s : Shared}
abbrev bare (w : World) : Obj := { cls := .type "set", dict := none, data := .set #[] 0 (.fresh 0 0 (!w.params.followText "set-order")) }
theorem init_list (C : Calm knd) (free : A.handled = none) {l a : Addr} {items : Array Value} {ks : List (Addr × K)} {h0 : Heap} (ea : a = h0.objs.size) (eh : s.heap = h0.push (bare w)) (hl : h0.IsList l items) (it : items.toList = ks.map fun q => Value.ref q.1) (lie : ∀ q ∈ ks, knd.is h0 q.2 q.1)
    (few : ks.length < 64) (hu : ∀ B : Around, B.units ≤ A.units + 4 → knd.room B) {R : PySem.Fin → Shared → Prop}
    (q : ∀ h' tk, Half knd h' a ks ks.length → (∀ b o, h0.get? b = some o → h'.get? b = some o) → R (.done (.ret .none)) { s with heap := h', toks := tk }) : wpAny (model P w) A (Builtin.«set.__init__» ⟨[.ref a, .ref l], []⟩) R E s := by
  subst ea
  have sz : items.size = ks.length := by simpa using congrArg List.length it
  have none_ : ∀ b, h0.objs.size ≤ b → h0.get? b = none := fun b le => by
    cases e : h0.get? b with
    | none => rfl
    | some o => exact absurd (Heap.lt_size e) (Nat.not_lt.mpr le)
  obtain ⟨⟨lc, ld, lt, ls⟩, lo, c1, ln, c2⟩ := id hl
  cases (show lc = .type "list" from c1); cases (show lt = .seq items ln from c2)
  have big : l < h0.objs.size := Heap.lt_size lo
  have lo1 : s.heap.get? l = some ⟨.type "list", ld, .seq items ln, ls⟩ := by rw [eh]; exact Heap.get?_push_of_some _ lo
  have hl1 : s.heap.IsList l items := ⟨_, lo1, rfl, ln, rfl⟩
  have sub1 := F.sub_list_set; have sub2 := F.sub_list_frozenset
  have other : (Value.type "list" == Value.type "dict") = false := by decide
  have s1 : s.heap.objs.size = h0.objs.size + 1 := by rw [eh]; exact Heap.size_push ..
  have there : s.heap.get? h0.objs.size = some { cls := .type "set", dict := none, data := .set #[] 0 (.fresh 0 0 (!w.params.followText "set-order")) } := by rw [eh]; exact Heap.get?_push_size _ rfl
  have type_ : s.TypeIs (.ref h0.objs.size) "set" := ⟨_, there, rfl⟩
  unfold Builtin.«set.__init__» noKeywords Builtin.Frozenset.updateFrom
  generalize hp : pyIter = it_
  wp_walk
  subst hp
  refine wpAny_pyIter_list hl1 ?_
  refine wpAny_bind (wpAny_runValue ?_)
  refine fill (A := A) (I := s.heap.objs.size) C ((Walks.list (by simp [free]) _ l (by rw [s1]; exact Nat.ne_of_lt (Nat.lt_succ_of_lt big)) items).toS) h0.objs.size ?_ ks sz few (fun i v e => ?_) h0 lie (none_ _ (Nat.le_refl _)) (fun b m => ?_) (hu _ (by simp [Around.in1_units]; try omega)) s (fun s' ⟨eg, ed, eo⟩ H old => ?_) items.size 0 _ (Nat.zero_add _) ?_ ?_ ?_ ?_
  · simp only [s1, List.mem_cons, List.not_mem_nil, or_false, not_or]
    exact ⟨Nat.ne_of_lt (Nat.lt_succ_self _), Nat.ne_of_gt big⟩
  · have e2 : items.toList[i]? = some v := by rw [Array.getElem?_toList]; exact e
    rw [it, List.getElem?_map, Option.map_eq_some_iff] at e2
    obtain ⟨q, e3, e4⟩ := e2
    exact ⟨q, e3, e4.symm⟩
  · rw [List.mem_singleton.mp m]; exact none_ _ (by rw [s1]; omega)
  · exact ⟨rfl, rfl, rfl⟩
  · exact ⟨⟨_, Heap.get?_push_size _ rfl, rfl, rfl⟩, hl1.push _⟩
  · exact fun b o e => Heap.get?_push_of_some _ (eh ▸ Heap.get?_push_of_some _ e : s.heap.get? b = some o)
  · exact Half.new (Heap.get?_push_of_some _ there)
  · obtain ⟨h', g', d', tk, os⟩ := s'
    cases (show g' = s.gens from eg); cases (show d' = s.drawn from ed); cases (show os = s.os from eo)
    rw [sz] at H
    exact wpAny_pure (wpAny_pure (q h' tk H old))
theorem set_list (C : Calm knd) (free : A.handled = none) {l : Addr} {items : Array Value} {ks : List (Addr × K)} {Q : Value → Shared → Prop} (hl : s.heap.IsList l items) (it : items.toList = ks.map fun q => Value.ref q.1) (lie : ∀ q ∈ ks, knd.is s.heap q.2 q.1)
    (few : ks.length < 64) (hu : ∀ B : Around, B.units ≤ A.units + 8 → knd.room B) (q : ∀ h' tk, Half knd h' s.heap.objs.size ks ks.length → (∀ b o, s.heap.get? b = some o → h'.get? b = some o) → Q (.ref s.heap.objs.size) { s with heap := h', toks := tk }) : wpAny (model P w) A (call (.type "set") [.ref l]) Q E s := by
  obtain ⟨_, _, mro_⟩ := F.called_set.mro
  have m1 := F.called_set.made; have m2 := F.called_set.sub; have m3 := F.called_set.notType; have m4 := F.called_set.canCreate; have m5 := F.typeCall_set_1 (.ref l)
  refine wpAny_call (codeAny_of_tree (wpAny_pure ⟨Code.quiet_builtin _ (by decide +kernel), codeAny_builtin F.entry_type_call ?_⟩ : wpAny _ _ (callAny (.type "set") _) _ _ _))
  rw [Around.under_plain (weight_type_call_type "set" [.ref l] []) rfl]
  repeat (any_goals (first | assumption | wp_step))
  refine codeAny_mono (code_set_led1 (.ref l) (E := E) (Q₁ := fun x s1 => x = .ref s.heap.objs.size ∧ s1 = { s with heap := s.heap.push (bare w) }) ⟨rfl, rfl⟩) fun r s1 hr => ?_
  rcases r with _ | ⟨_ | x | _⟩ <;> try exact hr.elim
  all_goals first | exact hr | skip
  obtain ⟨rfl, rfl⟩ := hr
  have there : Shared.TypeIs { s with heap := s.heap.push (bare w) } (.ref s.heap.objs.size) "set" := ⟨_, Heap.get?_push_size _ rfl, rfl⟩
  have i1 := F.called_set.init.lookup; have i2 := F.called_set.init.bind (.ref s.heap.objs.size)
  repeat (any_goals (first | assumption | wp_step))
  refine codeAny_mono (codeAny_call_builtin (R := wants (fun r s2 => r = .none ∧ ∃ h' tk, s2 = { s with heap := h', toks := tk } ∧ Half knd h' s.heap.objs.size ks ks.length ∧ ∀ b o, s.heap.get? b = some o → h'.get? b = some o) E) F.called_set.init.plain F.entry_set_init (check_set_init_1 there ?_)) fun r2 s2 hr => ?_
  · exact init_list (h0 := s.heap) C (by simp [free]) rfl rfl hl it lie few (fun B le => hu B (by simp [Around.in1_units] at le; omega)) fun h' tk H old => ⟨rfl, h', tk, rfl, H, old⟩
  · rcases r2 with _ | ⟨_ | x | _⟩ <;> try exact hr.elim
    all_goals first | exact hr | skip
    obtain ⟨rfl, h', tk, rfl, H, old⟩ := hr
    clear hl it lie few hu i1 i2 m1 m2 m3 m4 m5 mro_ there
    repeat (any_goals (first | assumption | wp_step))
    exact q h' tk H old
end
end DLN
end
section
set_option maxRecDepth 100000
namespace DLN
open L2 PySem PySem.Spec PyProof.Rows
open PySem.W (dataLe dataLt AllAlike EachIs alike alikeAll keyToks)
mutual
theorem same_data : ∀ (k l : NestedKey), alike k.data l.data = true → PyData.eqv k.data l.data = true → k = l
  | .none, l, a, e => by cases l <;> simp [NestedKey.data, alike] at a ⊢
  | .num i, l, a, e => by cases l <;> simp [NestedKey.data, alike, PyData.eqv] at a e ⊢; exact e
  | .text x, l, a, e => by cases l <;> simp [NestedKey.data, alike, PyData.eqv] at a e ⊢; exact e
  | .tup ks, l, a, e => by
    cases l <;> simp [NestedKey.data, alike, PyData.eqv] at a e ⊢
    exact same_datas ks _ a e
theorem same_datas : ∀ (ks ls : List NestedKey), alikeAll (NestedKey.datas ks) (NestedKey.datas ls) = true → PyData.eqvAll (NestedKey.datas ks) (NestedKey.datas ls) = true → ks = ls
  | [], ls, a, e => by cases ls <;> simp [NestedKey.datas, PyData.eqvAll] at e ⊢
  | k :: ks, ls, a, e => by
    cases ls with
    | nil => simp [NestedKey.datas, PyData.eqvAll] at e
    | cons l ls =>
      simp only [NestedKey.datas, alikeAll, PyData.eqvAll, Bool.and_eq_true] at a e
      rw [same_data k l a.1 e.1, same_datas ks ls a.2 e.2]
end
theorem lt_tri {k l : NestedKey} (a : alike k.data l.data = true) (h1 : dataLt k.data l.data = false) (h2 : dataLt l.data k.data = false) : k = l := by
  have t : keyToks k.data = keyToks l.data := lex_total _ _ h1 h2
  refine same_data k l a ?_
  cases e : PyData.eqv k.data l.data with
  | true => rfl
  | false =>
    have z := (PySem.W.toks_eqv _ _ a).2 e [] [.inl 5]
    rw [t] at z
    have z1 := PySem.W.lex_pre (keyToks l.data) [] [.inl 5]
    rw [z1] at z
    have z2 : dataLt k.data l.data = true := by
      have : PyProof.Rows.lexLt PyProof.Rows.itemOrd ([] : List (Int ⊕ List Nat)) [.inl 5] = true := rfl
      rw [this] at z
      rw [show dataLt k.data l.data = PyProof.Rows.lexLt PyProof.Rows.itemOrd (keyToks k.data) (keyToks l.data) from rfl, t]
      exact z.symm
    rw [h1] at z2; cases z2
theorem lt_trans {x y z : PyData} (h1 : dataLt x y = true) (h2 : dataLt y z = true) : dataLt x z = true := lex_trans _ _ _ h1 h2
theorem lt_irr (x : PyData) : dataLt x x = false := lex_irrefl _
theorem lt_asym {x y : PyData} (h : dataLt x y = true) : dataLt y x = false := by
  cases e : dataLt y x with
  | false => rfl
  | true => have := lt_trans h e; rw [lt_irr] at this; cases this
theorem le_trans {x y z : PyData} (h1 : dataLt y x = false) (h2 : dataLt z y = false) : dataLt z x = false := by
  cases e : dataLt z x with
  | false => rfl
  | true =>
    rcases PyProof.Rows.lex_negTrans (O := PyProof.Rows.itemOrd) (keyToks z) (keyToks y) (keyToks x) e with h | h
    · exact absurd h2 (by rw [show dataLt z y = true from h]; decide)
    · exact absurd h1 (by rw [show dataLt y x = true from h]; decide)
theorem rise_unique : ∀ {l m : List NestedKey}, l.Perm m → (∀ x ∈ l, ∀ y ∈ l, alike x.data y.data = true) → l.Pairwise (fun x y => dataLt y.data x.data = false) → m.Pairwise (fun x y => dataLt y.data x.data = false) → l = m
  | [], m, p, _, _, _ => by rw [List.nil_perm.mp p]
  | x :: l, [], p, _, _, _ => by have := p.length_eq; simp at this
  | x :: l, y :: m, p, a, h1, h2 => by
    obtain ⟨a1, a2⟩ := List.pairwise_cons.mp h1
    obtain ⟨b1, b2⟩ := List.pairwise_cons.mp h2
    have e : x = y := by
      rcases List.mem_cons.mp (p.mem_iff.mp (.head l)) with e | e
      · exact e
      · rcases List.mem_cons.mp (p.mem_iff.mpr (.head m)) with e2 | e2
        · exact e2.symm
        · exact lt_tri (a x (.head _) y (.tail _ e2)) (b1 x e) (a1 y e2)
    subst e
    rw [rise_unique ((List.perm_cons x).mp p) (fun u hu v hv => a u (.tail _ hu) v (.tail _ hv)) a2 b2]
section
variable {P : Program} {w : World} {knd : HeapKind P w NestedKey} {A : Around} {E : Value → Shared → Prop} {s : Shared} {a : Addr} {L : List (Addr × NestedKey)} {es : Array (Int × Value)} {ep : Nat} {t : SetTable}
theorem same_of {out : List Value} {M : List (Addr × NestedKey)} (h : EachIs (fun v q => v = Value.ref q.1) out M) : out = M.map fun q => Value.ref q.1 := by
  induction h with
  | nil => rfl
  | cons e _ ih => rw [e, ih]; rfl
def encN (q : Addr × NestedKey) : PyData := q.2.data
theorem sorted_nset (R : NSet knd s.heap a L es ep t) (free : A.handled = none) (reads : ∀ q ∈ L, Reads s.heap (.ref q.1) (encN q) []) (hal : AllAlike (L.map encN)) (tups : ∀ q ∈ L, ∃ ks, q.2 = .tup ks) (dep : ∀ q ∈ L, A.units + 3 + (encN q).depth < cLine) {Q : Value → Shared → Prop}
    (q : ∀ s' p (out : Array Value) c (M : List (Addr × NestedKey)), (∀ b o, s.heap.get? b = some o → s'.heap.get? b = some o) ∧ s'.gens = s.gens ∧ s'.os = s.os ∧ s.heap.objs.size ≤ p → s'.heap.get? p = some (seqObj "list" out c) → out.toList = M.map (fun q => Value.ref q.1) → M.Perm L →
      M.Pairwise (fun q r => dataLt (encN r) (encN q) = false) → Q (.ref p) s') : wpAny (model P w) A (call (.builtin "sorted") [Value.ref a]) Q E s := by
  have few := R.few
  have sz := size_of R.ents
  obtain ⟨o, ho, hex, hd⟩ := R.here
  refine Calls.call_function_entry kind_sorted plain_sorted entry_sorted (args_sorted1 _) (?_ : wpAny _ _ (Builtin.«sorted» _) _ _ _)
  unfold Builtin.«sorted»
  refine wpAny_bind (m := checkCount "sorted" 1 1 _) (wpAny_pure (wpAny_bind (collect_set (A := A.in1) free ⟨o, ho, hex.1, hd⟩ (by have := R.room; exact fits_of R.ents R.tab (by omega)) (by unfold scanBound; omega) R.tab.ris R.led fun s1 vs k1 hz g1 o1 pm => ?_)))
  have rows : es.toList.map (·.2) = L.map fun q => Value.ref q.1 := by rw [R.ents, List.map_map]; rfl
  obtain ⟨N, pN, rfl⟩ := DLT.perm_un pm L rows
  have len : N.length = L.length := pN.length_eq
  have fit : N.length ≤ sizeLine := by rw [sizeLine_eq]; omega
  generalize hv : (N.map fun q => Value.ref q.1) = vs
  have lv : vs.length = N.length := by rw [← hv, List.length_map]
  have each : EachIs (fun v q => v = Value.ref q.1) vs N := by
    rw [← hv]
    clear hv lv fit len pN pm
    induction N with
    | nil => exact .nil
    | cons x N ih => exact .cons rfl ih
  have new_ : (s1.heap.push (seqObj "list" vs.toArray 0)).get? s1.heap.objs.size = some (seqObj "list" vs.toArray 0) := Heap.get?_push_size _ rfl
  have old : ∀ b u, s.heap.get? b = some u → (s1.heap.push (seqObj "list" vs.toArray 0)).get? b = some u := fun b u e => Heap.get?_push_of_some _ (k1 b u e)
  have erN : EachIs (fun v q => ∃ as, Reads (s1.heap.push (seqObj "list" vs.toArray 0)) v (encN q) as ∧ s1.heap.objs.size ∉ as) vs N := DL.each_and each fun u q m e => ⟨[], by rw [e]; exact Reads.keeps old (reads q (pN.subset m)), List.not_mem_nil⟩
  have halN : AllAlike (N.map encN) := fun x hx y hy => hal x ((pN.map encN).subset hx) y ((pN.map encN).subset hy)
  have srt : DLT.Sorts (N.map encN) := .inl fun d m => by
    obtain ⟨q, hq, rfl⟩ := List.mem_map.mp m
    obtain ⟨ks, e⟩ := tups q (pN.subset hq)
    exact ⟨_, by unfold encN; rw [e, NestedKey.data]⟩
  refine wpAny_bind (wpAny_newList ?_ (by rw [lv]; exact fit))
  refine wpAny_bind (wpAny_holding (DLT.list_sort_any (s := { s1 with heap := s1.heap.push (seqObj "list" vs.toArray 0) }) (enc := encN) (R := fun v q => v = Value.ref q.1) new_ each erN halN srt fit (fun q m => ?_) fun out _ eo => ?_))
  · have := dep q (pN.subset m)
    have e1 : A.in1.units = A.units + 1 := rfl
    rw [e1]; omega
  · obtain ⟨c, here⟩ := sortedHeap_at (vs := vs) (out := out.toArray) new_
    refine wpAny_pure ⟨_, rfl, q _ s1.heap.objs.size out.toArray c (N.mergeSort (dataLe false encN)) ⟨fun b u e => ?_, g1, o1, hz⟩ here ?_ ((List.mergeSort_perm _ _).trans pN) ?_⟩
    · have b1 : b < s1.heap.objs.size := Heap.lt_size (k1 b u e)
      show Heap.get? (sortedHeap (s1.heap.push (seqObj "list" vs.toArray 0)) s1.heap.objs.size vs out.toArray) b = some u
      rw [sortedHeap_old (Nat.ne_of_lt b1) (by rw [size_push']; exact Nat.lt_succ_of_lt b1)]
      exact old b u e
    · show out = _
      generalize N.mergeSort (dataLe false encN) = M at eo
      exact same_of eo
    · have up : (N.mergeSort (dataLe false encN)).Pairwise (fun x y => dataLe false encN x y = true) := by
        refine List.pairwise_mergeSort (fun x y z h1 h2 => ?_) (fun x y => ?_) N
        · simp only [PySem.W.dataLe_eq, cond_false, Bool.not_eq_true'] at h1 h2 ⊢; exact le_trans h1 h2
        · simp only [PySem.W.dataLe_eq, cond_false]
          cases e : dataLt (encN y) (encN x) <;> simp
          exact lt_asym e
      exact up.imp fun {x y} h => by simpa [PySem.W.dataLe_eq] using h
end
end DLN
end
section
set_option maxRecDepth 100000
namespace DL
open PySem PySem.Spec L2 DLN
open PySem.W (dataLe dataLt AllAlike EachIs alike)
def SetNO (P : Program) (w : World) (a : Addr) (L : List (Addr × NestedKey)) : HO := .ext fun h => ∃ es ep t, (∃ o, h.get? a = some o ∧ o.ExactSet ∧ o.data = .set es ep t) ∧ es.toList = L.map (ent (calmKind P w)) ∧ TabOk t (L.map fun q => (calmKind P w).hash q.2) ∧ (L.map (·.2)).Nodup ∧
  t.plain = true ∧ Led w t ∧ 5 * L.length < 3 * t.mask ∧ L.length < 64
def NLie (H : Hp) (L : List (Addr × NestedKey)) : Prop := ∀ q ∈ L, NK H q.2 (.ref q.1) ∧ q.2.depth ≤ 8
section
variable {P : Program} {w : World} {H : Hp} {h : Heap} {a : Addr} {L : List (Addr × NestedKey)}
mutual
theorem wl_of : ∀ {k : NestedKey} {v : V}, NK H k v → wordless k = true
  | .none, _, _ => rfl
  | .num _, _, _ => rfl
  | .text x, _, h => by cases h
  | .tup ks, _, h => by
    obtain ⟨a, xs, _, _, l, r⟩ := h.tupAt
    rw [wordless]
    exact wls_of l r
theorem wls_of : ∀ {ks : List NestedKey} {xs : List V}, ks.length = xs.length → (∀ p ∈ ks.zip xs, NK H p.1 p.2) → wordlessA ks = true
  | [], _, _, _ => rfl
  | k :: ks, [], l, _ => by simp at l
  | k :: ks, x :: xs, l, r => by
    rw [wordlessA, wl_of (r (k, x) (by simp)), wls_of (ks := ks) (xs := xs) (by simpa using l) fun p m => r p (by rw [List.zip_cons_cons]; exact .tail _ m)]; rfl
end
theorem NLie.is (ok : HOk P w H h) (n : NLie H L) : ∀ q ∈ L, (calmKind P w).is h q.2 q.1 := fun q m => ⟨⟨(n q m).1.at ok rfl, (n q m).2⟩, wl_of (n q m).1⟩
theorem setN_obj {H' : Hp} {h' : Heap} {es : Array (Int × Value)} {ep : Nat} {t : SetTable} (R : NSet (calmKind P w) h' a L es ep t) : ObjOk P w H' h' a (SetNO P w a L) := by
  refine ⟨⟨es, ep, t, R.here, R.ents, R.tab, R.once, R.pl, R.led, R.room, R.few⟩, ?_, ?_⟩
  · obtain ⟨o, e, _⟩ := R.here; exact ⟨o, e⟩
  · intro h1 h2 ⟨es, ep, t, ⟨o, e, c⟩, r⟩ k
    exact ⟨es, ep, t, ⟨o, k o e, c⟩, r⟩
theorem setN_back (ok : HOk P w H h) (e : H a = some (SetNO P w a L)) (n : NLie H L) : ∃ es ep t, NSet (calmKind P w) h a L es ep t := by
  obtain ⟨⟨es, ep, t, h1, h2, h3, h4, h5, h6, h7, h8⟩, _⟩ := (show ObjOk P w H h a (SetNO P w a L) from ok a _ e)
  exact ⟨es, ep, t, h1, h2, h3, h4, n.is ok, h5, h6, h7, h8⟩
mutual
theorem kN_py : ∀ k : NestedKey, (kN k).py = some k.data
  | .none => by simp [kN, D.py, NestedKey.data]
  | .num i => by simp [kN, D.py, NestedKey.data]
  | .text x => by simp [kN, D.py, NestedKey.data]
  | .tup ks => by simp [kN, D.py, NestedKey.data, kNs_pys ks]
theorem kNs_pys : ∀ ks : List NestedKey, D.pys (kNs ks) = some (NestedKey.datas ks)
  | [] => by simp [kNs, D.pys, NestedKey.datas]
  | k :: ks => by simp [kNs, D.pys, NestedKey.datas, kN_py k, kNs_pys ks]
end
mutual
theorem dep_data : ∀ k : NestedKey, k.data.depth = k.depth
  | .none => by simp [NestedKey.data, NestedKey.depth, PyData.depth]
  | .num i => by simp [NestedKey.data, NestedKey.depth, PyData.depth]
  | .text x => by simp [NestedKey.data, NestedKey.depth, PyData.depth]
  | .tup ks => by simp [NestedKey.data, NestedKey.depth, PyData.depth, deps_data ks]
theorem deps_data : ∀ ks : List NestedKey, PyData.depthAll (NestedKey.datas ks) = NestedKey.depthAll ks
  | [] => by simp [NestedKey.datas, NestedKey.depthAll, PyData.depthAll]
  | k :: ks => by simp [NestedKey.datas, NestedKey.depthAll, PyData.depthAll, dep_data k, deps_data ks]
end
theorem kN_pyD (k : NestedKey) : (kN k).pyD = k.data := by unfold D.pyD; rw [kN_py]; rfl
end
theorem vals_refs {α : Type} : ∀ {ks : List (Addr × α)} {us : List Value}, Vals (ks.map fun q => V.ref q.1) us ↔ us = ks.map fun q => Value.ref q.1
  | [], us => ⟨fun h => by cases h; rfl, fun h => by subst h; exact .nil⟩
  | k :: ks, us => by
    constructor
    · intro h
      cases h with
      | cons r t => rw [List.map_cons, vals_refs.mp t, show _ = Value.ref k.1 from r]
    · rintro rfl
      exact .cons rfl (vals_refs.mpr rfl)
section
variable {P : Program} {w : World} {H : Hp} {h : Heap}
theorem reads_zip : ∀ {ks : List NestedKey} {xs : List V} {us : List Value}, ks.length = xs.length → Vals xs us → (∀ p ∈ ks.zip xs, ∀ u, RelV p.2 u → Reads h u p.1.data []) → ReadsAll h us (NestedKey.datas ks) []
  | [], [], _, _, .nil, _ => .nil
  | k :: ks, x :: xs, _, l, .cons r t, q => by
    rw [NestedKey.datas]
    exact .cons (q (k, x) (by simp) _ r) (reads_zip (by simpa using l) t fun p m => q p (by rw [List.zip_cons_cons]; exact .tail _ m))
  | [], _ :: _, _, l, _, _ => by simp at l
  | _ :: _, [], _, l, _, _ => by simp at l
theorem NK.reads (ok : HOk P w H h) {k : NestedKey} {v : V} (q : NK H k v) : ∀ {u : Value}, RelV v u → Reads h u k.data [] := by
  have tup : ∀ {a : Addr} {xs : List V} {ks : List NestedKey}, H a = some (.tup xs) → ks.length = xs.length → (∀ p ∈ ks.zip xs, ∀ u, RelV p.2 u → Reads h u p.1.data []) → Reads h (.ref a) (NestedKey.tup ks).data [] := by
    intro a xs ks e l r
    obtain ⟨_, its, rv, o, ho, hc, n, hd⟩ := (show ObjOk P w H h a (.tup xs) from ok a _ e)
    rw [NestedKey.data]
    exact .tuple ho hc hd (by simpa using reads_zip l rv r)
  induction q with
  | none => intro u r; cases (show u = Value.none from r); rw [NestedKey.data]; exact .none
  | num i => intro u r; obtain ⟨t, rfl⟩ := (show ∃ t, u = Value.int i t from r); rw [NestedKey.data]; exact .int i t
  | nil e => intro u r; cases (show u = Value.ref _ from r); exact tup e rfl (by simp)
  | cons e r l ih => intro u r2; cases (show u = Value.ref _ from r2); exact tup e (by simp [l]) fun p m u ru => ih p m ru
end
def rSetN (K : PySem.W.Frag) (P : Program) (w : World) : List V → Hp → VK → Prop := fun vs H Q => ∃ (a : Addr) (ks : List (Addr × NestedKey)), vs = [V.ref a] ∧ SqL K H a (ks.map fun q => V.ref q.1) ∧ NLie H ks ∧ ks.length < 64 ∧
  ∀ (p : Addr) (L : List (Addr × NestedKey)), H p = none → (∀ q ∈ L, q ∈ ks) → (∀ k, k ∈ L.map (·.2) ↔ k ∈ ks.map (·.2)) → (L.map (·.2)).Nodup → L.length < 64 → Q (.ref p) (upd H p (SetNO P w p L))
def rSortedSN (K : PySem.W.Frag) (P : Program) (w : World) : List V → Hp → VK → Prop := fun vs H Q => ∃ (a : Addr) (L : List (Addr × NestedKey)), vs = [V.ref a] ∧ H a = some (SetNO P w a L) ∧ NLie H L ∧ (∀ q ∈ L, ∃ ks, q.2 = .tup ks) ∧ AllAlike (L.map encN) ∧
  ∀ (M : List (Addr × NestedKey)) (p : Addr), M.Perm L → M.Pairwise (fun q r => dataLt r.2.data q.2.data = false) → M.length < 64 → H p = none → Q (.ref p) (upd H p (.lst (M.map fun q => V.ref q.1)))
section
variable {X : Cx} {z : Zx} {S S' : Sx} {σ : L2.St} {H H' : Hp} {g g' : Gh} {v : V} {d : D} {K : PySem.W.Frag} {pos p pos2 p2 : Pos} {a : Expr} {fa : M Res}
theorem cr_setN (hc : X.calm = true) (hu : X.A.units + 64 < cLine) : CallR X (.type "set") (rSetN X.K X.prog X.w) := fun pins s σ H vs us Q I r ⟨a, ks, ev, sq, n, few, q⟩ => by
  subst ev
  obtain ⟨its, rv, pl, _⟩ := I.list sq
  rw [Vals.ref1 r]
  refine set_list calm_kind (I.ok.hd hc) pl.isList (by simpa using vals_refs.mp rv) (n.is I.hok) few (fun B le => (by show B.units + 8 < cLine; omega)) fun h' tk Hf old => ?_
  obtain ⟨L, es, ep, t, R, T⟩ := Hf
  have T1 := T.from_; have T2 := T.keys
  rw [List.take_length] at T1 T2
  exact ⟨.ref _, upd H s.heap.objs.size (SetNO X.prog X.w s.heap.objs.size L), I.laid (t' := tk) old (Nat.le_refl _) (setN_obj R), rfl, q _ L (I.hok.fresh (Nat.le_refl _)) T1 T2 R.once R.few⟩
theorem cr_sortedSN (hc : X.calm = true) (hu : X.A.units + 64 < cLine) : CallR X (.builtin "sorted") (rSortedSN X.K X.prog X.w) := fun pins s σ H vs us Q I r ⟨a, L, ev, ha, n, tp, hal, q⟩ => by
  subst ev
  obtain ⟨es, ep, t, R⟩ := setN_back I.hok ha n
  rw [Vals.ref1 r]
  refine sorted_nset R (I.ok.hd hc) (fun x m => ?_) hal tp (fun x m => ?_) fun ⟨h', g', dr, tk, o'⟩ p out c M ⟨k, eg, eo, hp⟩ at_ eM pm up => ?_
  · exact NK.reads I.hok (n x m).1 rfl
  · have := (n x m).2
    show X.A.units + 3 + x.2.data.depth < cLine
    rw [dep_data]; omega
  · obtain rfl : g' = s.gens := eg; obtain rfl : o' = s.os := eo
    have few : M.length < 64 := pm.length_eq ▸ R.few
    have fit : (M.map fun q => V.ref q.1).length ≤ sizeLine := by rw [List.length_map, sizeLine_eq]; omega
    have vals : Vals (M.map fun q => V.ref q.1) out.toList := vals_refs.mpr eM
    have free : H p = none := I.hok.fresh hp
    have J := I.call (ch := []) (g' := s.gens) (t' := tk) (d' := dr) (Un.laid (o := .lst (M.map fun q => V.ref q.1)) k hp free) (I.hok.laid (o := .lst (M.map fun q => V.ref q.1)) k hp ⟨fit, out.toList, c, vals, at_⟩) I.bare nofun
    exact ⟨.ref p, _, J, rfl, q M p pm up few free⟩
def onceN (ks : List NestedKey) : List NestedKey := ks.foldl (fun l k => if k ∈ l then l else l ++ [k]) []
theorem once_go : ∀ (ks l : List NestedKey), l.Nodup → (ks.foldl (fun l k => if k ∈ l then l else l ++ [k]) l).Nodup ∧ ∀ k, k ∈ ks.foldl (fun l k => if k ∈ l then l else l ++ [k]) l ↔ k ∈ l ∨ k ∈ ks
  | [], l, n => ⟨n, fun k => by simp⟩
  | x :: ks, l, n => by
    rw [List.foldl_cons]
    by_cases m : x ∈ l
    · rw [if_pos m]
      refine ⟨(once_go ks l n).1, fun k => ?_⟩
      rw [(once_go ks l n).2, List.mem_cons]
      exact ⟨fun h => h.imp id .inr, fun h => h.elim .inl fun h => h.elim (fun e => .inl (e ▸ m)) .inr⟩
    · rw [if_neg m]
      have n2 : (l ++ [x]).Nodup := by
        rw [List.nodup_append]
        exact ⟨n, List.nodup_cons.mpr ⟨List.not_mem_nil, List.nodup_nil⟩, fun a ha b hb e => m (by rw [List.mem_singleton] at hb; rw [← hb, ← e]; exact ha)⟩
      refine ⟨(once_go ks _ n2).1, fun k => ?_⟩
      rw [(once_go ks _ n2).2, List.mem_append, List.mem_singleton, List.mem_cons, or_assoc]
theorem onceN_nodup (ks : List NestedKey) : (onceN ks).Nodup := (once_go ks [] List.nodup_nil).1
theorem onceN_mem (ks : List NestedKey) (k : NestedKey) : k ∈ onceN ks ↔ k ∈ ks := by
  unfold onceN; rw [(once_go ks [] List.nodup_nil).2]; simp
def isTupN : NestedKey → Bool
  | .tup _ => true
  | _ => false
theorem isTupN_of {k : NestedKey} (h : isTupN k = true) : ∃ ks, k = .tup ks := by cases k <;> first | exact ⟨_, rfl⟩ | cases h
def fitN (ks : List NestedKey) : Bool := decide (ks.length < 64) && ks.all (fun k => isTupN k && decide (k.depth ≤ 8)) && ks.all fun k => ks.all fun l => alike k.data l.data
def opSortSetN (d : D) : M Res := M.opt (d.lis.bind D.nks) fun ks => M.need (fitN ks) (pure (.new (.lst (sortD ((onceN ks).map kN)))))
def opSortSetA (d : D) : M Res := match d.lis.bind D.ints? with
  | some _ => opSortSet d
  | none => match d.lis.bind D.tups? with
    | some _ => opSortSetT d
    | none => opSortSetN d
theorem sorted_keys {ks : List NestedKey} {L M : List (Addr × NestedKey)} (al : ∀ k ∈ ks, ∀ l ∈ ks, alike k.data l.data = true) (hm : ∀ k, k ∈ L.map (·.2) ↔ k ∈ ks) (nd : (L.map (·.2)).Nodup) (pm : M.Perm L) (up : M.Pairwise (fun q r => dataLt r.2.data q.2.data = false)) :
    sortD ((onceN ks).map kN) = M.map fun q => kN q.2 := by
  have e1 : sortD ((onceN ks).map kN) = ((onceN ks).mergeSort fun x y => !dataLt y.data x.data).map kN := by
    unfold sortD
    refine (List.map_mergeSort (r := fun x y => !dataLt y.data x.data) (s := fun x y => !D.lt y x) (f := kN) (fun x _ y _ => ?_)).symm
    unfold D.lt
    rw [kN_pyD, kN_pyD]
  have p1 := List.mergeSort_perm (onceN ks) fun x y => !dataLt y.data x.data
  have u1 : ((onceN ks).mergeSort fun x y => !dataLt y.data x.data).Pairwise fun x y => dataLt y.data x.data = false := by
    refine (List.pairwise_mergeSort (le := fun x y : NestedKey => !dataLt y.data x.data) (fun x y z h1 h2 => ?_) (fun x y => ?_) (onceN ks)).imp fun h => by simpa using h
    · simp only [Bool.not_eq_true'] at h1 h2 ⊢; exact le_trans h1 h2
    · cases e : dataLt y.data x.data <;> simp
      exact lt_asym e
  have p2 : ((onceN ks).mergeSort fun x y => !dataLt y.data x.data).Perm (M.map (·.2)) := by
    refine p1.trans (List.Perm.trans ?_ (pm.map (·.2)).symm)
    exact (List.perm_ext_iff_of_nodup (onceN_nodup ks) nd).mpr fun k => by rw [onceN_mem, hm]
  rw [e1, rise_unique p2 (fun x hx y hy => al x ((onceN_mem ks x).mp (p1.subset hx)) y ((onceN_mem ks y).mp (p1.subset hy))) u1 (List.pairwise_map.mpr up), List.map_map]
  rfl
theorem RpA.keysN : ∀ {vs : List V} {ds : List D} {ks : List NestedKey}, RpA K H g vs ds → D.nks ds = some ks → (∀ k ∈ ks, isTupN k = true) → ∃ ps : List (Addr × NestedKey), vs = ps.map (fun q => V.ref q.1) ∧ ps.map (·.2) = ks ∧ ∀ q ∈ ps, NK H q.2 (.ref q.1)
  | _, _, ks, .nil, e, _ => by simp [D.nks] at e; subst e; exact ⟨[], rfl, rfl, fun q m => nomatch m⟩
  | _, _, ks, .cons (v := v) (d := d) r t, e, tp => by
    simp only [D.nks, Option.bind_eq_some_iff, Option.map_eq_some_iff] at e
    obtain ⟨k, e1, l, e2, rfl⟩ := e
    obtain ⟨ps, h1, h2, h3⟩ := RpA.keysN t e2 fun k m => tp k (.tail _ m)
    have q := (nk_of (K := K) e1).2 _ r
    obtain ⟨ks', rfl⟩ := isTupN_of (tp k (.head _))
    obtain ⟨a, xs, rfl, _⟩ := q.tupAt
    refine ⟨(a, .tup ks') :: ps, by rw [h1]; rfl, by rw [← h2]; rfl, fun p m => ?_⟩
    rcases List.mem_cons.mp m with rfl | m
    · exact q
    · exact h3 p m
theorem RpA.of_keysN : ∀ {M : List (Addr × NestedKey)}, (∀ q ∈ M, NK H q.2 (.ref q.1)) → RpA K H g (M.map fun q => V.ref q.1) (M.map fun q => kN q.2)
  | [], _ => .nil
  | q :: M, h => .cons (h q (.head _)).rp (RpA.of_keysN fun r m => h r (.tail _ m))
theorem de_sortedSetA (hc : X.calm = true) (hu : X.A.units + 65 < cLine) (hm : X.mg "sorted" = none) (hm2 : X.mg "set" = none) (ha : DE X z a fa) (hg : Gl X "sorted" := by rfl) (hg2 : Gl X "set" := by rfl) (na : starEach [a] X.env = (false, eval a X.env) :: starEach [] X.env := by rfl)
    (na2 : starEach [.Call (.Name "set" p2) [a] [] pos2] X.env = (false, eval (.Call (.Name "set" p2) [a] [] pos2) X.env) :: starEach [] X.env := by rfl) (hpl : (backTo pos (starEach [] X.env)).any (·.1) = false := by rfl) (hpl2 : (backTo pos2 (starEach [] X.env)).any (·.1) = false := by rfl) :
    DE X z (.Call (.Name "sorted" p) [.Call (.Name "set" p2) [a] [] pos2] [] pos) (unM opSortSetA fa) :=
  PE.imp (pe_callB (((cr_sortedSet hc).or (cr_sortedTE hc (by omega))).or (cr_sortedSN hc (by omega))) hg hm (by decide +kernel) (pa_cons (pe_callTy (((cr_setI hc).or (cr_setOfT hc (by omega))).or (cr_setN hc (by omega))) hg2 hm2 (by decide +kernel) (pa_cons ha pa_nil na) (he := na) (hpl := hpl2)) pa_nil na2) (he := na2) (hpl := hpl)) fun σ H Q ⟨S, g, s, h⟩ =>
    ⟨S, g, s, h.bnd.imp fun r S1 H1 g1 s1 f1 h0 x rx => by
      unfold opSortSetA at h0
      split at h0
      · obtain ⟨ns, e, h2⟩ := h0.opt
        obtain ⟨c, h3⟩ := h2.need
        rw [Bool.and_eq_true] at c
        have c1 := of_decide_eq_true c.1
        have c2 := of_decide_eq_true c.2
        obtain ⟨ds, e1, e2⟩ := Option.bind_eq_some_iff.mp e
        obtain ⟨ad, xs, rfl, hx, rxs⟩ := (s1.pk rx).lis e1
        obtain rfl := ints?_of e2; obtain rfl := rxs.ints
        refine .inl (.inl ⟨ad, ns, rfl, hx, c1, fun p T n hp hT ⟨l, l1, l2, l3⟩ => ?_⟩)
        have hl : (sortS ns).length = n := l3 ▸ nodup_len (up_nodup (sortS_up ns)) l1 fun k => by rw [sortS_mem, l2]
        refine .inl (.inl ⟨p, T, n, rfl, upd_same, by omega, fun ms q hup hmem hlen hq => ?_⟩)
        obtain rfl : ms = sortS ns := up_unique hup (sortS_up ns) fun k => by rw [hmem, hT, sortS_mem]
        exact out_lst (s1.upd_new (o := SetO X.w p T n) hp) (RpA.of_ints _) (Go.at h3 (Fr.upd_new hp)) q hq
      · split at h0
        · obtain ⟨ks, e, h2⟩ := h0.opt
          obtain ⟨c, h3⟩ := h2.need
          have c1 := of_decide_eq_true c
          obtain ⟨ds, e1, e2⟩ := Option.bind_eq_some_iff.mp e
          obtain ⟨ad, xs, rfl, hx, rxs⟩ := (s1.pk rx).lis e1
          obtain rfl := tups?_of e2
          obtain ⟨ps, rfl, e4, e5⟩ := rxs.tups
          refine .inl (.inr ⟨ad, ps, rfl, hx, fun p hp => SqT.of (e5 p hp), by rw [← List.length_map (f := (·.2)), e4]; exact c1, fun p L hp hL1 hL2 => ?_⟩)
          have e6 : ∀ q ∈ L, upd H1 p (SetTO X.prog X.w p L) q.1 = some (.tup (q.2.map V.int)) := fun q hq => by
            rw [upd_ne fun h => by have := e5 q (hL1 q hq); rw [h, hp] at this; cases this]; exact e5 q (hL1 q hq)
          refine .inl (.inr ⟨p, L, rfl, upd_same, fun q hq => SqT.of (e6 q hq), fun L' q pm nd few pw hq => ?_⟩)
          have em : L'.map (·.2) = DLT.sortT ks := by
            refine DLT.upT_unique (DLT.upT_of (List.pairwise_map.mpr pw) nd) (DLT.sortT_up ks) fun k => ?_
            rw [DLT.sortT_mem, (pm.map (·.2)).mem_iff, ← e4]
            refine ⟨fun h => ?_, fun h => ?_⟩ <;> obtain ⟨q, hq, rfl⟩ := List.mem_map.mp h
            · exact List.mem_map_of_mem (hL1 q hq)
            · exact hL2 q hq
          have rp := RpA.of_tups (K := X.K) (g := g1) (H := upd H1 p (SetTO X.prog X.w p L)) (ps := L') fun q hq => e6 q (pm.mem_iff.mp hq)
          rw [em] at rp
          exact out_lst (s1.upd_new (o := SetTO X.prog X.w p L) hp) rp (Go.at h3 (Fr.upd_new hp)) q hq
        · obtain ⟨ks, e, h2⟩ := h0.opt
          obtain ⟨c, h3⟩ := h2.need
          simp only [fitN, Bool.and_eq_true, decide_eq_true_eq, List.all_eq_true] at c
          obtain ⟨⟨c1, c2⟩, c3⟩ := c
          obtain ⟨ds, e1, e2⟩ := Option.bind_eq_some_iff.mp e
          obtain ⟨ad, xs, rfl, hx, rxs⟩ := (s1.pk rx).lis e1
          obtain ⟨ps, rfl, e4, e5⟩ := rxs.keysN e2 fun k m => (c2 k m).1
          have in_ : ∀ q ∈ ps, q.2 ∈ ks := fun q m => by rw [← e4]; exact List.mem_map_of_mem m
          refine .inr ⟨ad, ps, rfl, hx, fun q m => ⟨e5 q m, (c2 _ (in_ q m)).2⟩, by rw [← List.length_map (f := (·.2)), e4]; exact c1, fun p L hp l1 l2 l3 l4 => ?_⟩
          have lie : NLie (upd H1 p (SetNO X.prog X.w p L)) L := fun q m => ⟨(e5 q (l1 q m)).mono fun b xs e => by rw [upd_ne fun h => by rw [h, hp] at e; cases e]; exact e, (c2 _ (in_ q (l1 q m))).2⟩
          refine .inr ⟨p, L, rfl, upd_same, lie, fun q m => isTupN_of (c2 _ (in_ q (l1 q m))).1, fun x hx y hy => ?_, fun M q pm up few hq => ?_⟩
          · obtain ⟨u, hu, rfl⟩ := List.mem_map.mp hx
            obtain ⟨v, hv, rfl⟩ := List.mem_map.mp hy
            exact c3 _ (in_ u (l1 u hu)) _ (in_ v (l1 v hv))
          · have rp := RpA.of_keysN (K := X.K) (g := g1) (M := M) fun r m => (lie r (pm.mem_iff.mp m)).1
            rw [← sorted_keys (ks := ks) c3 (fun k => by rw [l2, e4]) l3 pm up] at rp
            exact out_lst (s1.upd_new (o := SetNO X.prog X.w p L) hp) rp (Go.at h3 (Fr.upd_new hp)) q hq⟩
end
end DL
end
section
set_option maxRecDepth 100000
namespace LC
open PySem L2 DL
inductive Cd where
  | go (s : Int) | get (w : Int) (ds : List Cd)
mutual
def Cd.toD : Cd → D
  | .go s => .tup [.str "go", .int s]
  | .get w ds => .tup [.str "get", .int w, .tup (Cd.toDs ds)]
def Cd.toDs : List Cd → List D
  | [] => []
  | c :: r => c.toD :: Cd.toDs r
end
mutual
/-- its depth is at most n, its workers are below m, its states below g -/
def Cd.Ok (many : List Int) : Nat → Cd → Prop
  | _, .go s => 0 ≤ s ∧ s < 8
  | 0, .get _ _ => False
  | n + 1, .get w ds => 0 ≤ w ∧ many[w.toNat]? = some (ds.length : Int) ∧ Cd.Oks many n ds
def Cd.Oks (many : List Int) : Nat → List Cd → Prop
  | _, [] => True
  | n, c :: r => c.Ok many n ∧ Cd.Oks many n r
end
def tI (ns : List Int) : D := .tup (ns.map .int)
def lI (ns : List Int) : D := .lst (ns.map .int)
def lotsD (lots : List (List Int)) : D := .tup (lots.map tI)
theorem toDs_len : ∀ ds : List Cd, (Cd.toDs ds).length = ds.length
  | [] => rfl
  | c :: r => by show (Cd.toDs r).length + 1 = r.length + 1; rw [toDs_len r]
theorem toDs_get : ∀ (ds : List Cd) (i : Nat), (Cd.toDs ds)[i]? = ds[i]?.map Cd.toD
  | [], i => by simp [Cd.toDs]
  | c :: r, 0 => by simp [Cd.toDs]
  | c :: r, i + 1 => by simp [Cd.toDs, toDs_get r i]
theorem toDs_map : ∀ ds : List Cd, Cd.toDs ds = ds.map Cd.toD
  | [] => rfl
  | c :: r => by show c.toD :: Cd.toDs r = _; rw [toDs_map r]; rfl
mutual
theorem Cd.imm : ∀ c : Cd, c.toD.imm = true
  | .go s => by simp [Cd.toD, D.imm, D.imms]
  | .get w ds => by simp [Cd.toD, D.imm, D.imms, Cd.imms ds]
theorem Cd.imms : ∀ ds : List Cd, D.imms (Cd.toDs ds) = true
  | [] => rfl
  | c :: r => by simp [Cd.toDs, D.imms, Cd.imm c, Cd.imms r]
end
theorem Oks_get {many : List Int} {n : Nat} : ∀ {ds : List Cd} {i : Nat} {c : Cd}, Cd.Oks many n ds → ds[i]? = some c → c.Ok many n
  | [], i, c, _, e => by simp at e
  | d :: r, 0, c, h, e => by simp at e; subst e; exact h.1
  | d :: r, i + 1, c, h, e => Oks_get (ds := r) h.2 (by simpa using e)
def Fits (many xs : List Int) : Prop := xs.length = many.length ∧ ∀ (i : Nat) (k m : Int), xs[i]? = some k → many[i]? = some m → 0 ≤ k ∧ k < m
theorem toNat_int {w : Int} (h : 0 ≤ w) : ∃ k : Nat, w = (k : Int) := ⟨w.toNat, by omega⟩
theorem ix_tI {Q : Res → Sx → Prop} {S : Sx} {xs : List Int} {w k : Int} (h0 : 0 ≤ w) (h : xs[w.toNat]? = some k) : Rn (opIx (tI xs) (.int w)) S Q = Q (.dat (.int k)) S := by
  obtain ⟨m, rfl⟩ := toNat_int h0
  exact op_ix_tn (by simp at h; simp [h])
theorem ix_ds {Q : Res → Sx → Prop} {S : Sx} {ds : List Cd} {k : Nat} {c : Cd} (h : ds[k]? = some c) : Rn (opIx (.tup (Cd.toDs ds)) (.int (k : Nat))) S Q = Q (.dat c.toD) S :=
  op_ix_tn (by rw [toDs_get, h]; rfl)
theorem fuel_lt {n : Nat} (h : n < 1000000) : n < whFuel := h
def stN (lots : List (List Int)) : Nat → Cd → List Int
  | _, .go s => [s]
  | 0, .get _ _ => []
  | n + 1, .get w ds => ((lots[w.toNat]?).getD []).flatMap fun k => ((ds[k.toNat]?).map (stN lots n)).getD []
def cntN (lots : List (List Int)) : Nat → Cd → Nat
  | _, .go _ => 1
  | 0, .get _ _ => 1
  | n + 1, .get w ds => 1 + (((lots[w.toNat]?).getD []).map fun k => ((ds[k.toNat]?).map (cntN lots n)).getD 0).sum
structure LotsOk (many : List Int) (lots : List (List Int)) : Prop where
  len : lots.length = many.length
  few : ∀ l ∈ lots, l.length ≤ 5
  one : ∀ l ∈ lots, l ≠ []
  fit : ∀ (i : Nat) (l : List Int) (m : Int), lots[i]? = some l → many[i]? = some m → ∀ k ∈ l, 0 ≤ k ∧ k < m
  up : ∀ l ∈ lots, l.Pairwise (· < ·)
theorem lots_step {many : List Int} {lots : List (List Int)} {n : Nat} {w : Int} {ds : List Cd} (f : LotsOk many lots) (h : Cd.Ok many (n + 1) (.get w ds)) : ∃ l : List Int, 0 ≤ w ∧ lots[w.toNat]? = some l ∧ l ∈ lots ∧ ∀ k ∈ l, ∃ (j : Nat) (c : Cd), k = (j : Int) ∧ ds[j]? = some c ∧ c.Ok many n := by
  obtain ⟨h0, h1, h2⟩ := h
  have hl : w.toNat < lots.length := by rw [f.len]; exact (List.getElem?_eq_some_iff.mp h1).1
  refine ⟨lots[w.toNat], h0, List.getElem?_eq_getElem hl, List.getElem_mem hl, fun k hk => ?_⟩
  obtain ⟨k0, k1⟩ := f.fit _ _ _ (List.getElem?_eq_getElem hl) h1 k hk
  have hj : k.toNat < ds.length := by omega
  exact ⟨k.toNat, ds[k.toNat], by omega, List.getElem?_eq_getElem hj, Oks_get h2 (List.getElem?_eq_getElem hj)⟩
theorem sum_le (f : Int → Nat) (b : Nat) : ∀ l : List Int, (∀ k ∈ l, f k ≤ b) → (l.map f).sum ≤ l.length * b
  | [], _ => by simp
  | k :: r, h => by
    have h1 := sum_le f b r fun j hj => h j (List.mem_cons_of_mem _ hj)
    have h2 := h k List.mem_cons_self
    simp only [List.map_cons, List.sum_cons, List.length_cons]
    rw [Nat.succ_mul]; omega
theorem cnt_le {many : List Int} {lots : List (List Int)} (f : LotsOk many lots) : ∀ (n : Nat) (c : Cd), c.Ok many n → cntN lots n c ≤ 6 ^ n
  | 0, .go s, _ => by simp [cntN]
  | 0, .get _ _, h => h.elim
  | n + 1, .go s, _ => by simp only [cntN]; exact Nat.pow_pos (by decide)
  | n + 1, .get w ds, h => by
    obtain ⟨l, h0, hl, hm, hk⟩ := lots_step f h
    have : ((l.map fun k => ((ds[k.toNat]?).map (cntN lots n)).getD 0).sum) ≤ l.length * 6 ^ n := sum_le _ _ l fun k hkl => by
      obtain ⟨j, c, rfl, e, hc⟩ := hk k hkl
      simp only [Int.toNat_natCast, e, Option.map_some, Option.getD_some]
      exact cnt_le f n c hc
    have h5 := f.few l hm
    have : l.length * 6 ^ n ≤ 5 * 6 ^ n := Nat.mul_le_mul_right _ h5
    have p : 0 < 6 ^ n := Nat.pow_pos (by decide)
    simp only [cntN, hl, Option.getD_some]
    rw [Nat.pow_succ]
    omega
def fdD (p : List Int × Int) : D := .tup [tI p.1, .int p.2]
theorem cnt_pos (lots : List (List Int)) : ∀ (n : Nat) (c : Cd), 1 ≤ cntN lots n c
  | 0, .go _ => by simp [cntN]
  | 0, .get _ _ => by simp [cntN]
  | n + 1, .go _ => by simp [cntN]
  | n + 1, .get _ _ => by simp [cntN]
theorem lot_at {lots : List (List Int)} {w : Int} {l : List Int} {Q : Res → Sx → Prop} {S : Sx} (h0 : 0 ≤ w) (h : lots[w.toNat]? = some l) : Rn (opIx (lotsD lots) (.int w)) S Q = Q (.dat (tI l)) S := by
  obtain ⟨m, rfl⟩ := toNat_int h0
  exact op_ix_tn (by simp at h; simp [h])
theorem pys_ints : ∀ ns : List Int, D.pys (ns.map .int) = some (ns.map .int)
  | [] => by simp [D.pys]
  | n :: r => by simp [D.pys, D.py, pys_ints r]
theorem lay_ints : ∀ ns : List Int, PyData.canLayAll0 (ns.map .int) = true
  | [] => by simp [PyData.canLayAll0]
  | n :: r => by simp [PyData.canLayAll0, PyData.canLay0, lay_ints r]
def Shp (d : D) (b : Nat) : Prop := ∃ p, d.py = some p ∧ p.canLay0 = true ∧ p.depth ≤ b
def Shps (ds : List D) (b : Nat) : Prop := ∃ ps, D.pys ds = some ps ∧ PyData.canLayAll0 ps = true ∧ PyData.depthAll ps ≤ b
theorem Shp.mono {d : D} {a b : Nat} (h : Shp d a) (l : a ≤ b) : Shp d b := let ⟨p, h1, h2, h3⟩ := h; ⟨p, h1, h2, by omega⟩
theorem shps_nil {b : Nat} : Shps [] b := ⟨[], by simp [D.pys], by simp [PyData.canLayAll0], by simp [PyData.depthAll]⟩
theorem shps_cons {d : D} {ds : List D} {b : Nat} (h : Shp d b) (r : Shps ds b) : Shps (d :: ds) b := by
  obtain ⟨p, h1, h2, h3⟩ := h
  obtain ⟨ps, r1, r2, r3⟩ := r
  exact ⟨p :: ps, by simp [D.pys, h1, r1], by simp [PyData.canLayAll0, h2, r2], by simp [PyData.depthAll]; omega⟩
theorem shps_all {b : Nat} : ∀ {ds : List D}, (∀ d ∈ ds, Shp d b) → Shps ds b
  | [], _ => shps_nil
  | d :: r, h => shps_cons (h d List.mem_cons_self) (shps_all fun e he => h e (List.mem_cons_of_mem _ he))
theorem shp_tup {ds : List D} {b : Nat} (h : Shps ds b) : Shp (.tup ds) (b + 1) := by
  obtain ⟨ps, r1, r2, r3⟩ := h
  exact ⟨.tuple ps, by simp [D.py, r1], by simp [PyData.canLay0, r2], by simp [PyData.depth]; omega⟩
theorem shp_lst {ds : List D} {b : Nat} (h : Shps ds b) : Shp (.lst ds) (b + 1) := by
  obtain ⟨ps, r1, r2, r3⟩ := h
  exact ⟨.list ps, by simp [D.py, r1], by simp [PyData.canLay0, r2], by simp [PyData.depth]; omega⟩
theorem shp_int {i : Int} {b : Nat} : Shp (.int i) b := ⟨.int i, by simp [D.py], by simp [PyData.canLay0], by simp [PyData.depth]⟩
theorem shp_go {b : Nat} : Shp (.str "go") b := ⟨.str "go", by simp [D.py], by simp [PyData.canLay0, ok_go], by simp [PyData.depth]⟩
theorem shp_get {b : Nat} : Shp (.str "get") b := ⟨.str "get", by simp [D.py], by simp [PyData.canLay0, ok_get], by simp [PyData.depth]⟩
theorem shp_tI (ns : List Int) {b : Nat} : Shp (tI ns) (b + 1) := shp_tup (shps_all fun d hd => by obtain ⟨i, _, rfl⟩ := List.mem_map.mp hd; exact shp_int)
mutual
theorem shp_cd {many : List Int} : ∀ (n : Nat) (c : Cd), c.Ok many n → Shp c.toD (2 * n + 1)
  | n, .go s, _ => by
    simp only [Cd.toD]
    exact shp_tup (shps_cons shp_go (shps_cons shp_int shps_nil))
  | 0, .get _ _, h => h.elim
  | n + 1, .get w ds, h => by
    simp only [Cd.toD]
    exact shp_tup (shps_cons shp_get (shps_cons shp_int (shps_cons (shp_tup (shp_cds n ds h.2.2)) shps_nil)))
theorem shp_cds {many : List Int} : ∀ (n : Nat) (ds : List Cd), Cd.Oks many n ds → Shps (Cd.toDs ds) (2 * n + 1)
  | _, [], _ => shps_nil
  | n, c :: r, h => shps_cons (shp_cd n c h.1) (shp_cds n r h.2)
end
theorem shp_ok {d : D} {b : Nat} (h : Shp d b) (hb : b ≤ 64) : ∃ p, d.py = some p ∧ SeqAt.shaped p = true := by
  obtain ⟨p, h1, h2, h3⟩ := h
  exact ⟨p, h1, by unfold SeqAt.shaped; rw [h2]; simp; omega⟩
theorem ne_nil {ds : List D} {b : Nat} {neg : Bool} {Q : Res → Sx → Prop} {S : Sx} (h : Shps ds b) (hb : b < 64) : Rn (opEq neg (.lst ds) (.lst [])) S Q = Q (.dat (.bl (ds.isEmpty != neg))) S := by
  obtain ⟨p, h1, h2⟩ := shp_ok (shp_lst h) (by omega)
  have e : D.eqv (.lst ds) (.lst []) = some ds.isEmpty := by
    unfold D.eqv
    rw [h1]
    have : (D.lst []).py = some (.list []) := by simp [D.py, D.pys]
    rw [this]
    have h3 : SeqAt.shaped (.list []) = true := by simp [SeqAt.shaped, PyData.canLay0, PyData.canLayAll0, PyData.depth, PyData.depthAll]
    simp only [h2, h3, Bool.and_self, if_true]
    simp only [D.py, Option.map_eq_some_iff] at h1
    obtain ⟨ps, h1, rfl⟩ := h1
    congr 1
    cases ds with
    | nil => simp [D.pys] at h1; subst h1; simp [PyData.eqv, PyData.eqvAll]
    | cons d r =>
      simp only [D.pys, Option.bind_eq_some_iff, Option.map_eq_some_iff] at h1
      obtain ⟨_, _, _, _, rfl⟩ := h1
      simp [PyData.eqv, PyData.eqvAll]
  unfold opEq
  rw [e]; rfl
theorem small_lt {n : Nat} (h : n < 100000) : n < sizeLine := Nat.lt_trans h (by decide)
theorem small_le {n : Nat} (h : n ≤ 100000) : n ≤ sizeLine := Nat.le_trans h (by decide)
theorem it_tI {l : List Int} : (tI l).items = some (l.map .int) := rfl
theorem add_tI {a : List Int} {k : Int} {Q : Res → Sx → Prop} {S : Sx} : Rn (opAdd (tI a) (.tup [.int k])) S Q = (a.length + 1 ≤ sizeLine ∧ Q (.dat (tI (a ++ [k]))) S) := by
  unfold tI
  rw [op_add_t]
  simp
theorem emp_snoc {α : Type} {l : List α} {x : α} : (l ++ [x]).isEmpty = false := by simp
theorem snoc_of {α : Type} (l : List α) (h : l ≠ []) : ∃ r x, l = r ++ [x] := ⟨l.dropLast, l.getLast h, (List.dropLast_concat_getLast h).symm⟩
theorem st_fit {many : List Int} {lots : List (List Int)} (f : LotsOk many lots) : ∀ (n : Nat) (c : Cd), c.Ok many n → ∀ s ∈ stN lots n c, 0 ≤ s ∧ s < 8
  | 0, .go s, h, t, ht => by simp [stN] at ht; subst ht; exact h
  | 0, .get _ _, h, _, _ => h.elim
  | n + 1, .go s, h, t, ht => by simp [stN] at ht; subst ht; exact h
  | n + 1, .get w ds, h, t, ht => by
    obtain ⟨l, h0, hl, hm, hk⟩ := lots_step f h
    simp only [stN, hl, Option.getD_some, List.mem_flatMap] at ht
    obtain ⟨k, hkl, ht⟩ := ht
    obtain ⟨j, c, rfl, e, hc⟩ := hk k hkl
    simp only [Int.toNat_natCast, e, Option.map_some, Option.getD_some] at ht
    exact st_fit f n c hc t ht
theorem up_len : ∀ (l : List Int) (a : Int) (n : Nat), l.Pairwise (· < ·) → (∀ x ∈ l, a ≤ x ∧ x < a + n) → l.length ≤ n
  | [], _, _, _, _ => Nat.zero_le _
  | x :: r, a, n, h, hb => by
    obtain ⟨h1, h2⟩ := List.pairwise_cons.mp h
    have hx := hb x List.mem_cons_self
    have := up_len r (x + 1) (n - (x + 1 - a).toNat) h2 fun y hy => by
      have := h1 y hy
      have := hb y (List.mem_cons_of_mem _ hy)
      omega
    simp only [List.length_cons]
    omega
theorem up_len0 {l : List Int} {b : Nat} (h : l.Pairwise (· < ·)) (hb : ∀ x ∈ l, 0 ≤ x ∧ x < (b : Int)) : l.length ≤ b := up_len l 0 b h fun x hx => by have := hb x hx; omega
theorem sortS_eq {l m : List Int} (h : ∀ k, k ∈ l ↔ k ∈ m) : sortS l = sortS m := up_unique (sortS_up l) (sortS_up m) fun k => by rw [sortS_mem, sortS_mem, h]
def resN (lots : List (List Int)) (n : Nat) (c : Cd) : List Int := sortS (stN lots n c)
theorem res_fit {many : List Int} {lots : List (List Int)} (f : LotsOk many lots) {n : Nat} {c : Cd} (h : c.Ok many n) : ∀ s ∈ resN lots n c, 0 ≤ s ∧ s < 8 := fun s hs => st_fit f n c h s ((sortS_mem s _).mp hs)
theorem ints_lis (ns : List Int) : (D.lst (ns.map .int)).lis.bind D.ints? = some ns := ints?_map ns
theorem sortset_rn {Q : Res → Sx → Prop} {S : Sx} {ns : List Int} {b : Nat} (hl : ns.length + 1 < 4096) (hb : ∀ x ∈ ns, 0 ≤ x ∧ x < (b : Int)) (hb2 : b < 64) (q : Q (.new (lI (sortS ns))) S) : Rn (opSortSet (.lst (ns.map .int))) S Q := by
  unfold opSortSet
  rw [ints_lis, rn_opt1, rn_need]
  refine ⟨?_, q⟩
  rw [Bool.and_eq_true]
  refine ⟨decide_eq_true hl, decide_eq_true ?_⟩
  have := up_len0 (sortS_up ns) (b := b) fun x hx => hb x ((sortS_mem x ns).mp hx)
  omega
theorem sortsetE_rn {Q : Res → Sx → Prop} {S : Sx} {ns : List Int} {b : Nat} (hl : ns.length + 1 < 4096) (hb : ∀ x ∈ ns, 0 ≤ x ∧ x < (b : Int)) (hb2 : b < 64) (q : Q (.new (lI (sortS ns))) S) : Rn (opSortSetE (.lst (ns.map .int))) S Q := by
  unfold opSortSetE
  rw [ints_lis]
  exact sortset_rn hl hb hb2 q
theorem imms_lI (ns : List Int) : (Res.new (lI ns)).safe = true := imms_ints ns
theorem imms_fd : ∀ fd : List (List Int × Int), D.imms (fd.map fdD) = true
  | [] => rfl
  | p :: r => by simp [D.imms, imms_fd r, fdD, D.imm, tI, imms_ints]
theorem if_safe {α β : Prop} {r : Res} {o : List D} (h1 : r.safe = true) (h2 : (o.all fun o => D.imms o.parts) = true) : (if (r.safe && o.all fun o => D.imms o.parts) = true then α else β) = α := by rw [h1, h2]; rfl
theorem if_imms {α β : Prop} {l : List D} {o : List D} (h1 : D.imms l = true) (h2 : (o.all fun o => D.imms o.parts) = true) : (if (D.imms l && o.all fun o => D.imms o.parts) = true then α else β) = α := by rw [h1, h2]; rfl
mutual
def Cd.wk : Cd → List Int
  | .go _ => []
  | .get w ds => w :: Cd.wks ds
def Cd.wks : List Cd → List Int
  | [] => []
  | c :: r => c.wk ++ Cd.wks r
end
mutual
def Cd.sz : Cd → Nat
  | .go _ => 1
  | .get _ ds => 1 + Cd.szs ds
def Cd.szs : List Cd → Nat
  | [] => 0
  | c :: r => c.sz + Cd.szs r
end
def Cd.top : Cd → Option Int
  | .go _ => none
  | .get w _ => some w
structure ManyOk (many : List Int) : Prop where
  len : many.length ≤ 8
  fit : ∀ m ∈ many, 1 ≤ m ∧ m ≤ 4
theorem cds_imm (ds : List Cd) : D.imms (ds.map Cd.toD) = true := by rw [← toDs_map]; exact Cd.imms ds
theorem in_lI {neg : Bool} {i : Int} {ns : List Int} {Q : Res → Sx → Prop} {S : Sx} : Rn (opIn neg (.int i) (lI ns)) S Q = Q (.dat (.bl (decide (i ∈ ns) != neg))) S := by
  have e : D.inn (.int i) (lI ns) = some (decide (i ∈ ns)) := by
    show D.among (.int i) (ns.map .int) = _
    unfold D.among
    have h1 : (D.int i).py = some (.int i) := by simp [D.py]
    rw [h1, pys_ints]
    have h2 : SeqAt.shaped (.int i) = true := by simp [SeqAt.shaped, PyData.canLay0, PyData.depth]
    have h3 : SeqAt.shaped (.list (ns.map .int)) = true := by
      have := dp_depth_ints ns
      simp [SeqAt.shaped, PyData.canLay0, lay_ints, PyData.depth, this]
    simp only [h2, h3, Bool.and_self, if_true]
    congr 1
    rw [List.any_map]
    rw [Bool.eq_iff_iff, List.any_eq_true, decide_eq_true_eq]
    constructor
    · rintro ⟨x, hx, e⟩
      simp [PyData.eqv] at e
      exact e ▸ hx
    · intro h
      exact ⟨i, h, by simp [PyData.eqv]⟩
  unfold opIn
  rw [e]; rfl
theorem in_lst {neg : Bool} {i : Int} {ns : List Int} {Q : Res → Sx → Prop} {S : Sx} : Rn (opIn neg (.int i) (.lst (ns.map .int))) S Q = Q (.dat (.bl (decide (i ∈ ns) != neg))) S := in_lI
theorem imms_tI : ∀ ts : List (List Int), D.imms (ts.map tI) = true
  | [] => rfl
  | t :: r => by simp [D.imms, imms_tI r, tI, D.imm, imms_ints]
mutual
def Cd.pl : Cd → List (List Int)
  | .go _ => [[]]
  | .get _ ds => [] :: Cd.pls 0 ds
def Cd.pls : Nat → List Cd → List (List Int)
  | _, [] => []
  | k, c :: r => (c.pl.map fun p => (k : Int) :: p) ++ Cd.pls (k + 1) r
end
def undC : Cd → List Int → Option Cd
  | c, [] => some c
  | .go _, _ :: _ => none
  | .get _ ds, k :: p => if 0 ≤ k then (ds[k.toNat]?).bind fun d => undC d p else none
theorem pls_mem {q : List Int} : ∀ {ds : List Cd} {k : Nat}, q ∈ Cd.pls k ds ↔ ∃ (i : Nat) (d : Cd) (p : List Int), ds[i]? = some d ∧ p ∈ d.pl ∧ q = ((k + i : Nat) : Int) :: p
  | [], k => by simp [Cd.pls]
  | c :: r, k => by
    simp only [Cd.pls, List.mem_append, List.mem_map, pls_mem (ds := r)]
    constructor
    · rintro (⟨p, hp, rfl⟩ | ⟨i, d, p, h1, h2, rfl⟩)
      · exact ⟨0, c, p, rfl, hp, by simp⟩
      · exact ⟨i + 1, d, p, h1, h2, by rw [show k + 1 + i = k + (i + 1) by omega]⟩
    · rintro ⟨i, d, p, h1, h2, rfl⟩
      cases i with
      | zero => cases h1; exact .inl ⟨p, h2, by simp⟩
      | succ i => exact .inr ⟨i, d, p, h1, h2, by rw [show k + 1 + i = k + (i + 1) by omega]⟩
theorem cut_take {α : Type} (l : List α) (w : Nat) : cutD l none (some (w : Int)) = l.take w := by
  unfold cutD
  rw [HT.sIx_nat, HT.sIx_none, List.drop_zero, Nat.sub_zero]
  by_cases h : w ≤ l.length
  · rw [Nat.min_eq_left h]
  · rw [Nat.min_eq_right (by omega), List.take_of_length_le (Nat.le_refl _), List.take_of_length_le (by omega)]
theorem cut_drop {α : Type} (l : List α) (w : Nat) : cutD l (some (w : Int)) none = l.drop w := by
  unfold cutD
  rw [HT.sIx_nat, HT.sIx_none]
  by_cases h : w ≤ l.length
  · rw [Nat.min_eq_left h, List.take_of_length_le (by rw [List.length_drop]; exact Nat.le_refl _)]
  · rw [Nat.min_eq_right (by omega), List.drop_eq_nil_of_le (Nat.le_refl _), List.drop_eq_nil_of_le (show l.length ≤ w by omega)]
    simp
theorem cw_left {turn : D → M (Option D)} {env : List Slot} {P : List D → List D → Prop} {I : List D → List D → List D → Prop} : ∀ {ds acc o : List D}, acc.length + ds.length ≤ sizeLine → I ds acc o →
    (∀ d ds acc o, I (d :: ds) acc o → Rn (turn d) ⟨env, o⟩ fun x S' => match x with | some v => I ds (acc ++ [v]) S'.objs | none => I ds acc S'.objs) → (∀ acc o, I [] acc o → P acc o) → Cw turn env ds acc o P
  | [], acc, o, _, i, _, q => by rw [cw_nil]; exact q _ _ i
  | d :: ds, acc, o, hl, i, h, q => by
    rw [cw_cons]
    have hl' : acc.length + (ds.length + 1) ≤ sizeLine := by simpa using hl
    refine (h d ds acc o i).mono ?_
    intro x S' r
    cases x with
    | none => exact cw_left (by omega) r h q
    | some v => exact ⟨by omega, cw_left (by simp; omega) r h q⟩
def absF (d : D) : Option D := match d with
  | .int i => some (.int (if i < 0 then -i else i))
  | _ => none
theorem absF_eq : ∀ ns : List Int, (ns.map D.int).filterMap absF = (ns.map fun i => if i < 0 then -i else i).map .int
  | [] => rfl
  | k :: r => by
    rw [List.map_cons, List.filterMap_cons, absF]
    simp only
    rw [absF_eq r]
    rfl
theorem Ok_mono {many : List Int} : ∀ (n m : Nat) (c : Cd), n ≤ m → c.Ok many n → c.Ok many m := by
  intro n
  induction n with
  | zero =>
    intro m c _ h
    cases c with
    | go s => cases m <;> exact h
    | get _ _ => exact h.elim
  | succ n ih =>
    intro m c hl h
    cases c with
    | go s => cases m <;> exact h
    | get w ds =>
      cases m with
      | zero => omega
      | succ m =>
        obtain ⟨h0, h1, h2⟩ := h
        refine ⟨h0, h1, ?_⟩
        have : ∀ ds : List Cd, Cd.Oks many n ds → Cd.Oks many m ds := by
          intro ds
          induction ds with
          | nil => intro _; trivial
          | cons d r ihr => intro h; exact ⟨ih m d (by omega) h.1, ihr h.2⟩
        exact this ds h2
theorem Oks_snoc {many : List Int} {n : Nat} {c : Cd} : ∀ {ds : List Cd}, Cd.Oks many n ds → c.Ok many n → Cd.Oks many n (ds ++ [c])
  | [], _, h => ⟨h, trivial⟩
  | _ :: _, h, hc => ⟨h.1, Oks_snoc h.2 hc⟩
theorem tup_lI {ms : List Int} {Q : Res → Sx → Prop} {S : Sx} : Rn (opTuple (lI ms)) S Q = Q (.dat (tI ms)) S := rfl
theorem len_tI {ms : List Int} {Q : Res → Sx → Prop} {S : Sx} : Rn (opLen (tI ms)) S Q = Q (.dat (.int ms.length)) S := by
  show Q (.dat (.int ((ms.map D.int).length : Nat))) S = _
  rw [List.length_map]
theorem nc_ints {ns : List Int} {b : Nat} (h : ∀ n ∈ ns, 0 ≤ n ∧ n < 1000) : Ncs (ns.map .int) b (ns.length * 21) := by
  have := ncs_all (ds := ns.map D.int) (b := b) (w := 20) fun d hd => by
    obtain ⟨n, hn, rfl⟩ := List.mem_map.mp hd
    have := h n hn
    exact nc_int (by omega)
  simpa using this
theorem lots_imm (l : List (List Int)) : (lotsD l).imm = true := by simp [lotsD, D.imm, imms_tI]
end LC
end
section
set_option maxRecDepth 100000
namespace LC
open PySem L2 DL
open DLT (ltL sortT)
def pT (ns : List Int) : PyData := .tuple (ns.map .int)
theorem py_tI (ns : List Int) : (tI ns).py = some (pT ns) := by simp [tI, D.py, pys_ints, pT]
theorem pys_tI : ∀ ts : List (List Int), D.pys (ts.map tI) = some (ts.map pT)
  | [] => by simp [D.pys]
  | t :: r => by simp [D.pys, py_tI, pys_tI r]
theorem eqvAll_ints : ∀ xs ys : List Int, PyData.eqvAll (xs.map .int) (ys.map .int) = decide (xs = ys)
  | [], [] => by simp [PyData.eqvAll]
  | [], _ :: _ => by simp [PyData.eqvAll]
  | _ :: _, [] => by simp [PyData.eqvAll]
  | a :: r, b :: s => by
    simp only [List.map_cons, PyData.eqvAll, PyData.eqv, eqvAll_ints r s]
    by_cases h : a = b <;> by_cases h2 : r = s <;> simp [h, h2]
theorem eqv_pT (a b : List Int) : PyData.eqv (pT a) (pT b) = decide (a = b) := by
  unfold pT
  rw [PyData.eqv]
  exact eqvAll_ints a b
theorem eqvAll_pT : ∀ as bs : List (List Int), PyData.eqvAll (as.map pT) (bs.map pT) = decide (as = bs)
  | [], [] => by simp [PyData.eqvAll]
  | [], _ :: _ => by simp [PyData.eqvAll]
  | _ :: _, [] => by simp [PyData.eqvAll]
  | a :: r, b :: s => by simp [PyData.eqvAll, eqv_pT, eqvAll_pT r s]
theorem lay_pT (a : List Int) : (pT a).canLay0 = true := by simp [pT, PyData.canLay0, lay_ints]
theorem lays_pT : ∀ as : List (List Int), PyData.canLayAll0 (as.map pT) = true
  | [] => by simp [PyData.canLayAll0]
  | a :: r => by simp [PyData.canLayAll0, lay_pT, lays_pT r]
theorem dp_pT (a : List Int) : (pT a).depth ≤ 1 := by
  have := dp_depth_ints a
  simp [pT, PyData.depth, this]
theorem dps_pT : ∀ as : List (List Int), PyData.depthAll (as.map pT) ≤ 1
  | [] => by simp [PyData.depthAll]
  | a :: r => by
    have h1 := dp_pT a
    have h2 := dps_pT r
    simp only [List.map_cons, PyData.depthAll]; omega
section
variable {Q : Res → Sx → Prop} {S : Sx} {neg : Bool}
theorem in_iT {ns : List Int} {i : Int} : Rn (opIn neg (.int i) (tI ns)) S Q = Q (.dat (.bl (decide (i ∈ ns) != neg))) S := in_lI
theorem eq_tT {a b : List (List Int)} : Rn (opEq neg (.tup (a.map tI)) (.tup (b.map tI))) S Q = Q (.dat (.bl (decide (a = b) != neg))) S := by
  have h2 : ∀ ts : List (List Int), SeqAt.shaped (.tuple (ts.map pT)) = true := fun ts => by
    have := dps_pT ts
    simp [SeqAt.shaped, PyData.canLay0, lays_pT, PyData.depth]; omega
  unfold opEq
  rw [show D.eqv (.tup (a.map tI)) (.tup (b.map tI)) = some (decide (a = b)) by unfold D.eqv; simp [D.py, pys_tI, h2, PyData.eqv, eqvAll_pT]]
  rfl
end
theorem alikes_pT (a b : List Int) : PySem.W.alike (pT a) (pT b) = true := DLT.alike_encT (0, a) (0, b)
def pF2 (p : List Int × Int) : PyData := .tuple [pT p.1, .int p.2]
theorem py_fd (p : List Int × Int) : (fdD p).py = some (pF2 p) := by simp [fdD, D.py, D.pys, py_tI, pF2]
def ltP (p q : List Int × Int) : Bool := if p.1 = q.1 then decide (p.2 < q.2) else ltL p.1 q.1
def leP (p q : List Int × Int) : Bool := !ltP q p
theorem lt_fd (p q : List Int × Int) : D.lt (fdD p) (fdD q) = ltP p q := by
  unfold D.lt D.pyD
  rw [py_fd, py_fd]
  show PySem.W.dataLt (pF2 p) (pF2 q) = _
  unfold pF2
  rw [PySem.W.dataLt_pair (alikes_pT p.1 q.1) (by simp [PySem.W.alike]), eqv_pT, show PySem.W.dataLt (pT p.1) (pT q.1) = ltL p.1 q.1 from DLT.dataLt_encT (0, p.1) (0, q.1), PySem.W.dataLt_int]
  unfold ltP
  by_cases h : p.1 = q.1
  · by_cases h2 : p.2 = q.2
    · simp [h, h2, PyData.eqv]
    · simp [h, h2, PyData.eqv]
  · simp [h]
theorem ltP_tri {p q : List Int × Int} (h1 : ltP p q = false) (h2 : ltP q p = false) : p = q := by
  unfold ltP at h1 h2
  by_cases h : p.1 = q.1
  · rw [if_pos h] at h1
    rw [if_pos h.symm] at h2
    simp at h1 h2
    exact Prod.ext h (by omega)
  · rw [if_neg h] at h1
    rw [if_neg (Ne.symm h)] at h2
    exact absurd (DLT.ltL_tri _ _ h1 h2) h
theorem ltP_trans {p q r : List Int × Int} (h1 : ltP p q = true) (h2 : ltP q r = true) : ltP p r = true := by
  unfold ltP at *
  by_cases a : p.1 = q.1
  · rw [if_pos a] at h1
    by_cases b : q.1 = r.1
    · rw [if_pos b] at h2
      rw [if_pos (a.trans b)]
      simp at h1 h2 ⊢; omega
    · rw [if_neg b] at h2
      rw [if_neg (fun e => b (a.symm.trans e)), a]
      exact h2
  · rw [if_neg a] at h1
    by_cases b : q.1 = r.1
    · rw [if_neg (fun e => a (e.trans b.symm)), ← b]
      exact h1
    · rw [if_neg b] at h2
      have t := DLT.ltL_trans _ _ _ h1 h2
      rw [if_neg (fun e => by rw [e, DLT.ltL_irr] at t; cases t)]
      exact t
theorem ltP_irr (p : List Int × Int) : ltP p p = false := by unfold ltP; simp
theorem ltP_asym {p q : List Int × Int} (h : ltP p q = true) : ltP q p = false := by
  cases e : ltP q p with
  | false => rfl
  | true => have := ltP_trans h e; rw [ltP_irr] at this; cases this
theorem leP_trans {a b c : List Int × Int} (h1 : leP a b = true) (h2 : leP b c = true) : leP a c = true := by
  unfold leP at *
  rw [Bool.not_eq_true'] at *
  cases e : ltP c a with
  | false => rfl
  | true =>
    cases e2 : ltP a b with
    | true => have := ltP_trans e e2; rw [h2] at this; cases this
    | false => have := ltP_tri e2 h1; subst this; rw [h2] at e; cases e
theorem leP_total (a b : List Int × Int) : (leP a b || leP b a) = true := by
  unfold leP
  cases e : ltP b a with
  | false => rfl
  | true => rw [ltP_asym e]; rfl
def sortP (l : List (List Int × Int)) : List (List Int × Int) := l.mergeSort leP
theorem sortP_perm (l : List (List Int × Int)) : (sortP l).Perm l := List.mergeSort_perm _ _
theorem sortP_eq {l m : List (List Int × Int)} (p : l.Perm m) : sortP l = sortP m :=
  List.Perm.eq_of_pairwise (le := fun a b => leP a b = true) (fun a b _ _ h1 h2 => ltP_tri (by simpa [leP] using h2) (by simpa [leP] using h1)) (List.pairwise_mergeSort (le := leP) (fun _ _ _ => leP_trans) leP_total l) (List.pairwise_mergeSort (le := leP) (fun _ _ _ => leP_trans) leP_total m)
    (((sortP_perm l).trans p).trans (sortP_perm m).symm)
theorem sortD_fd (ts : List (List Int × Int)) : sortD (ts.map fdD) = (sortP ts).map fdD := by
  unfold sortD sortP
  rw [List.map_mergeSort (r := leP) (s := fun x y => !D.lt y x) (f := fdD)]
  intro a _ b _
  rw [lt_fd]; rfl
theorem can_fdE (fd : List (List Int × Int)) : canSortE (fd.map fdD) = true := by
  unfold canSortE
  simp only [Bool.and_eq_true, Bool.or_eq_true, List.all_eq_true, List.forall_mem_map, decide_eq_true_eq]
  refine ⟨⟨fun p _ => ⟨by rw [py_fd]; rfl, ?_⟩, fun p _ q _ => ?_⟩, .inl fun p _ => rfl⟩
  · unfold D.pyD
    rw [py_fd]
    have := dp_pT p.1
    simp only [Option.getD_some, pF2, PyData.depth, PyData.depthAll]; omega
  · unfold D.pyD
    rw [py_fd, py_fd]
    have := alikes_pT p.1 q.1
    simp [pF2, PySem.W.alike, PySem.W.alikeAll, this]
theorem sorted_fd {Q : Res → Sx → Prop} {S : Sx} {ts : List (List Int × Int)} (q : Q (.new (.lst ((sortP ts).map fdD))) S) : Rn (opSortedE (.lst (ts.map fdD))) S Q := by
  show Rn (opSortedL (.lst (ts.map fdD))) S Q
  unfold opSortedL
  rw [show (D.lst (ts.map fdD)).lis = some (ts.map fdD) from rfl, rn_opt1, rn_need]
  refine ⟨can_fdE ts, ?_⟩
  rw [sortD_fd]
  exact q
theorem range_map (n : Nat) : ∀ k : Nat, rangeD (k : Int) n = ((List.range' k n).map fun i => D.int ((i : Nat) : Int)) := by
  induction n with
  | zero => intro k; rfl
  | succ n ih => intro k; rw [rangeD, List.range'_succ, List.map_cons, ← ih (k + 1)]; rfl
structure Dk (d : D) (f : Int → Option Int) (b : Nat) : Prop where
  ex : ∃ ks vs, d = .dct false ks vs ∧ ks.length = vs.length ∧ ks.length ≤ b ∧ D.imms vs = true ∧ ∀ k, D.look ks vs (.int k) = (f k).map .int
theorem Dk.mono {d : D} {f : Int → Option Int} {b b' : Nat} (h : Dk d f b) (hb : b ≤ b') : Dk d f b' := let ⟨ks, vs, e, l, m, i, q⟩ := h.ex; ⟨ks, vs, e, l, by omega, i, q⟩
def updF (f : Int → Option Int) (k v : Int) : Int → Option Int := fun j => if j = k then some v else f j
theorem look_app {ks vs : List D} (h : ks.length = vs.length) {k x j : D} : k ∉ ks → D.look (ks ++ [k]) (vs ++ [x]) j = if k = j then some x else D.look ks vs j := by
  induction ks generalizing vs with
  | nil =>
    intro _
    cases vs with
    | nil => simp [D.look]
    | cons _ _ => simp at h
  | cons a r ih =>
    intro hn
    cases vs with
    | nil => simp at h
    | cons v vs =>
      simp only [List.cons_append, D.look]
      rw [ih (by simpa using h) (fun q => hn (List.mem_cons_of_mem _ q))]
      by_cases h1 : a = j
      · have : k ≠ j := fun e => hn (by rw [e, ← h1]; exact List.mem_cons_self)
        simp [h1, this]
      · simp [h1]
theorem look_set {ks vs : List D} (h : ks.length = vs.length) {k x j : D} : k ∈ ks → D.look ks (D.setV ks vs k x) j = if k = j then some x else D.look ks vs j := by
  induction ks generalizing vs with
  | nil => intro hn; cases hn
  | cons a r ih =>
    intro hn
    cases vs with
    | nil => simp at h
    | cons v vs =>
      simp only [D.look, D.setV]
      by_cases h1 : a = j
      · subst h1
        by_cases h2 : a = k
        · subst h2; simp
        · have : k ≠ a := fun e => h2 e.symm
          simp [h2, this]
      · rw [if_neg h1, if_neg h1]
        rcases List.mem_cons.mp hn with e | hn'
        · subst e
          rw [if_neg h1]
          have : ∀ (ks vs : List D), ks.length = vs.length → D.look ks (D.setV ks vs k x) j = D.look ks vs j := by
            intro ks
            induction ks with
            | nil => intro vs _; cases vs <;> rfl
            | cons b r ih2 =>
              intro vs hl
              cases vs with
              | nil => simp at hl
              | cons w vs =>
                simp only [D.look, D.setV]
                by_cases h3 : b = j
                · have : b ≠ k := fun e => h1 (e.symm.trans h3)
                  simp [h3, show ¬ j = k from fun e => h1 e.symm]
                · rw [if_neg h3, if_neg h3, ih2 vs (by simpa using hl)]
          exact this r vs (by simpa using h)
        · exact ih (by simpa using h) hn'
theorem setV_len {k x : D} : ∀ {ks vs : List D}, ks.length = vs.length → (D.setV ks vs k x).length = vs.length
  | [], [], _ => rfl
  | [], _ :: _, h => by simp at h
  | _ :: _, [], h => by simp at h
  | _ :: ks, _ :: vs, h => by simp [D.setV, setV_len (ks := ks) (vs := vs) (by simpa using h)]
theorem setV_imm {k x : D} (hx : x.imm = true) : ∀ {ks vs : List D}, D.imms vs = true → D.imms (D.setV ks vs k x) = true
  | [], _, _ => rfl
  | _ :: _, [], _ => rfl
  | a :: ks, v :: vs, h => by
    simp only [D.imms, Bool.and_eq_true] at h
    simp only [D.setV, D.imms, Bool.and_eq_true]
    exact ⟨by split <;> first | exact hx | exact h.1, setV_imm hx h.2⟩
theorem imms_app : ∀ {a b : List D}, D.imms (a ++ b) = (D.imms a && D.imms b)
  | [], b => by simp [D.imms]
  | d :: a, b => by simp [D.imms, imms_app (a := a), Bool.and_assoc]
theorem Dk.store {d : D} {f : Int → Option Int} {b : Nat} (h : Dk d f b) (hb : b < 1000) (k v : Int) : ∃ d', D.store d (.int k) (.int v) = some d' ∧ Dk d' (updF f k v) (b + 1) := by
  obtain ⟨ks, vs, rfl, hl, hm, hi, hq⟩ := h.ex
  refine ⟨.dct false (D.putK ks (.int k)) (D.putV ks vs (.int k) (.int v)), ?_, ?_⟩
  · have : ks.length < sizeLine := small_lt (by omega)
    show (if ((D.lookKey false ks vs (.int k)).isSome && decide (ks.length < sizeLine)) = true then _ else _) = _
    rw [if_pos (by simp [D.lookKey, this])]
  · unfold D.putK D.putV
    by_cases c : D.int k ∈ ks
    · rw [if_pos c, if_pos c]
      refine ⟨ks, _, rfl, by rw [setV_len hl]; exact hl, by omega, setV_imm rfl hi, fun j => ?_⟩
      rw [look_set hl c, hq]
      unfold updF
      by_cases e : j = k
      · subst e; simp
      · have : ¬ D.int k = D.int j := fun q => e (by cases q; rfl)
        simp [e, this]
    · rw [if_neg c, if_neg c]
      refine ⟨_, _, rfl, by simp [hl], by simp; omega, by rw [imms_app, hi]; rfl, fun j => ?_⟩
      rw [look_app hl c, hq]
      unfold updF
      by_cases e : j = k
      · subst e; simp
      · have : ¬ D.int k = D.int j := fun q => e (by cases q; rfl)
        simp [e, this]
theorem Dk.get {d : D} {f : Int → Option Int} {b : Nat} (h : Dk d f b) {k v : Int} (e : f k = some v) {Q : Res → Sx → Prop} {S : Sx} : Rn (opIx d (.int k)) S Q = Q (.dat (.int v)) S := by
  obtain ⟨ks, vs, rfl, hl, hm, hi, hq⟩ := h.ex
  have : D.item (.dct false ks vs) (.int k) = some (.int v) := by
    show (D.lookKey false ks vs (.int k)).bind id = _
    simp [D.lookKey, hq, e]
  unfold opIx
  rw [this]; rfl
theorem Dk.safe {d : D} {f : Int → Option Int} {b : Nat} (h : Dk d f b) : D.imms d.parts = true := by
  obtain ⟨ks, vs, rfl, hl, hm, hi, hq⟩ := h.ex
  exact hi
end LC
end
section
set_option maxRecDepth 100000
namespace LC
open PySem L2 DL
open DLT (ltL sortT)
mutual
def Cd.rp (ws : List Int) : Cd → List (List Int)
  | .go _ => []
  | .get w ds => (if w ∈ ws then [[]] else []) ++ Cd.rps (ws ++ [w]) 0 ds
def Cd.rps (ws : List Int) : Nat → List Cd → List (List Int)
  | _, [] => []
  | k, c :: r => (c.rp ws).map (fun p => (k : Int) :: p) ++ Cd.rps ws (k + 1) r
end
theorem rps_mem {ws q : List Int} : ∀ {ds : List Cd} {k : Nat}, q ∈ Cd.rps ws k ds ↔ ∃ (i : Nat) (d : Cd) (p : List Int), ds[i]? = some d ∧ p ∈ d.rp ws ∧ q = ((k + i : Nat) : Int) :: p
  | [], k => by simp [Cd.rps]
  | c :: r, k => by
    simp only [Cd.rps, List.mem_append, List.mem_map, rps_mem (ds := r)]
    constructor
    · rintro (⟨p, hp, rfl⟩ | ⟨i, d, p, h1, h2, rfl⟩)
      · exact ⟨0, c, p, rfl, hp, by simp⟩
      · exact ⟨i + 1, d, p, h1, h2, by rw [show k + 1 + i = k + (i + 1) by omega]⟩
    · rintro ⟨i, d, p, h1, h2, rfl⟩
      cases i with
      | zero => cases h1; exact .inl ⟨p, h2, by simp⟩
      | succ i => exact .inr ⟨i, d, p, h1, h2, by rw [show k + 1 + i = k + (i + 1) by omega]⟩
def wayW : List Int → Cd → List Int
  | [], _ => []
  | _ :: _, .go _ => []
  | k :: p, .get w ds => w :: (match ds[k.toNat]? with
    | some d => wayW p d
    | none => [])
mutual
theorem rp_iff (p : List Int) : ∀ (c : Cd) (ws : List Int), p ∈ c.rp ws ↔ p ∈ c.pl ∧ ∃ w ds, undC c p = some (.get w ds) ∧ w ∈ ws ++ wayW p c
  | .go s, ws => by
    simp only [Cd.rp, Cd.pl, List.not_mem_nil, List.mem_singleton, false_iff]
    rintro ⟨rfl, w, ds, e, _⟩
    cases e
  | .get w ds, ws => by
    simp only [Cd.rp, List.mem_append, Cd.pl, List.mem_cons]
    cases p with
    | nil =>
      constructor
      · rintro (h | h)
        · split at h
          · rename_i c
            exact ⟨.inl rfl, w, ds, rfl, .inl c⟩
          · cases h
        · obtain ⟨i, d, r, _, _, e⟩ := rps_mem.mp h
          cases e
      · rintro ⟨_, w', ds', e, h⟩
        cases e
        simp only [wayW, List.not_mem_nil, or_false] at h
        rw [if_pos h]; exact .inl (by simp)
    | cons k r =>
      constructor
      · rintro (h | h)
        · split at h
          · simp at h
          · cases h
        · obtain ⟨i, d, r', h1, h2, e⟩ := rps_mem.mp h
          simp only [Nat.zero_add] at e
          cases e
          obtain ⟨i1, w', ds', i2, i3⟩ := (rps_iff r ds i d h1 (ws ++ [w])).mp h2
          refine ⟨.inr (pls_mem.mpr ⟨i, d, r, h1, i1, by simp⟩), w', ds', by simp [undC, h1, i2], ?_⟩
          simp only [wayW, Int.toNat_natCast, h1, List.mem_cons]
          simp only [List.mem_append, List.mem_singleton] at i3
          rcases i3 with (a | a) | a
          · exact .inl a
          · exact .inr (.inl a)
          · exact .inr (.inr a)
      · rintro ⟨hp, w', ds', e, h⟩
        rcases hp with hp | hp
        · cases hp
        · obtain ⟨i, d, r', h1, h2, e2⟩ := pls_mem.mp hp
          simp only [Nat.zero_add] at e2
          cases e2
          refine .inr (rps_mem.mpr ⟨i, d, r, h1, (rps_iff r ds i d h1 (ws ++ [w])).mpr ⟨h2, w', ds', ?_, ?_⟩, by simp⟩)
          · simpa [undC, h1] using e
          · simp only [wayW, Int.toNat_natCast, h1, List.mem_cons] at h
            simp only [List.mem_append, List.mem_singleton]
            rcases h with a | a | a
            · exact .inl (.inl a)
            · exact .inl (.inr a)
            · exact .inr a
theorem rps_iff (p : List Int) : ∀ (ds : List Cd) (i : Nat) (d : Cd), ds[i]? = some d → ∀ ws : List Int, p ∈ d.rp ws ↔ p ∈ d.pl ∧ ∃ w es, undC d p = some (.get w es) ∧ w ∈ ws ++ wayW p d
  | [], i, d, h, _ => by simp at h
  | c :: r, 0, d, h, ws => by cases h; exact rp_iff p c ws
  | c :: r, i + 1, d, h, ws => rps_iff p r i d (by simpa using h) ws
end
def reps (c : Cd) : List (List Int) := c.rp []
def stp (lots : List (List Int)) : Nat → Cd → List (List Int × Int)
  | _, .go s => [([], s)]
  | 0, .get _ _ => []
  | n + 1, .get w ds => ((lots[w.toNat]?).getD []).flatMap fun k => ((ds[k.toNat]?).map fun d => (stp lots n d).map fun x => (k :: x.1, x.2)).getD []
def SOK (sh : List (List Int)) (c : Cd) (p ws : List Int) : Prop := ∀ r ∈ c.pl, p ++ r ∈ sh → r ∈ c.rp ws
def GOK (many : List Int) (g : Int → Option Int) (ws : List Int) : Prop := ∀ w ∈ ws, ∃ (k : Nat) (m : Int), g w = some (k : Int) ∧ many[w.toNat]? = some m ∧ (k : Int) < m
theorem GOK.upd {many : List Int} {g : Int → Option Int} {ws : List Int} (h : GOK many g ws) {w m : Int} {k : Nat} (e : many[w.toNat]? = some m) (hk : (k : Int) < m) : GOK many (updF g w k) (ws ++ [w]) := by
  intro v hv
  unfold updF
  by_cases c : v = w
  · subst c
    exact ⟨k, m, by simp, e, hk⟩
  · rcases List.mem_append.mp hv with h1 | h1
    · obtain ⟨j, m', a, b, d⟩ := h v h1
      exact ⟨j, m', by simp [c, a], b, d⟩
    · simp at h1; exact absurd h1 c
theorem SOK.here {sh : List (List Int)} {w : Int} {ds : List Cd} {p ws : List Int} (h : SOK sh (.get w ds) p ws) (hp : p ∈ sh) : w ∈ ws := by
  have := h [] (by simp [Cd.pl]) (by simpa using hp)
  obtain ⟨_, w', ds', e, q⟩ := (rp_iff [] _ ws).mp this
  cases e
  simpa [wayW] using q
theorem SOK.down {sh : List (List Int)} {w : Int} {ds : List Cd} {p ws : List Int} (h : SOK sh (.get w ds) p ws) {i : Nat} {d : Cd} (e : ds[i]? = some d) : SOK sh d (p ++ [(i : Int)]) (ws ++ [w]) := by
  intro r hr hs
  have h1 : (i : Int) :: r ∈ (Cd.get w ds).pl := by
    simp only [Cd.pl, List.mem_cons]
    exact .inr (pls_mem.mpr ⟨i, d, r, e, hr, by simp⟩)
  have h2 := h _ h1 (by simpa using hs)
  simp only [Cd.rp, List.mem_append] at h2
  rcases h2 with h2 | h2
  · split at h2
    · simp at h2
    · cases h2
  · obtain ⟨j, d', p', a, b, c⟩ := rps_mem.mp h2
    simp only [Nat.zero_add, List.cons.injEq] at c
    obtain ⟨c1, rfl⟩ := c
    have : i = j := by omega
    subst this
    rw [e] at a; cases a
    exact b
theorem SOK.less {sh sh' : List (List Int)} {c : Cd} {p ws : List Int} (h : SOK sh c p ws) (hs : ∀ q ∈ sh', q ∈ sh) : SOK sh' c p ws := fun r hr hq => h r hr (hs _ hq)
def kp (sh : List (List Int)) : List Int → Cd → List Int → (Int → Option Int) → Option (List Int)
  | [], _, _, _ => some []
  | _ :: _, .go _, _, _ => none
  | k :: r, .get w ds, p, g => match ds[k.toNat]? with
    | none => none
    | some d => if p ∈ sh then (if g w = some k then kp sh r d (p ++ [k]) g else none) else (kp sh r d (p ++ [k]) (updF g w k)).map (k :: ·)
def GLo (lots : List (List Int)) (g : Int → Option Int) : Prop := ∀ (w k : Int), g w = some k → ∃ l, lots[w.toNat]? = some l ∧ k ∈ l
theorem GLo.upd {lots : List (List Int)} {g : Int → Option Int} (h : GLo lots g) {w k : Int} {l : List Int} (e : lots[w.toNat]? = some l) (hk : k ∈ l) : GLo lots (updF g w k) := by
  intro v j hv
  unfold updF at hv
  by_cases c : v = w
  · subst c; simp at hv; subst hv; exact ⟨l, e, hk⟩
  · rw [if_neg c] at hv; exact h v j hv
theorem st_stp (lots : List (List Int)) : ∀ (n : Nat) (c : Cd), stN lots n c = (stp lots n c).map (·.2)
  | 0, .go _ => rfl
  | 0, .get _ _ => rfl
  | n + 1, .go _ => rfl
  | n + 1, .get w ds => by
    show ((lots[w.toNat]?).getD []).flatMap _ = (((lots[w.toNat]?).getD []).flatMap _).map _
    rw [List.map_flatMap]
    congr 1
    funext k
    cases e : ds[k.toNat]? with
    | none => rfl
    | some d =>
      simp only [Option.map_some, Option.getD_some, List.map_map]
      rw [st_stp lots n d]
      rfl
end LC
end
section
set_option maxRecDepth 100000
namespace LC
open PySem L2 DL
open DLT (ltL sortT)
structure Nd where
  n : Nat
  a : List Int
  c : Cd
def cnts (lots : List (List Int)) (rs : List Nd) : Nat := (rs.map fun r => cntN lots r.n r.c).sum
theorem cnts_len (lots : List (List Int)) : ∀ rs : List Nd, rs.length ≤ cnts lots rs
  | [] => by simp [cnts]
  | r :: rs => by
    have h1 := cnts_len lots rs
    have h2 := cnt_pos lots r.n r.c
    simp only [cnts, List.map_cons, List.sum_cons, List.length_cons] at h1 ⊢
    omega
theorem cnts_app (lots : List (List Int)) (a b : List Nd) : cnts lots (a ++ b) = cnts lots a + cnts lots b := by
  simp [cnts]
def kids (n : Nat) (a : List Int) (ds : List Cd) (l : List Int) : List Nd := l.filterMap fun k => (ds[k.toNat]?).map fun c => ⟨n, a ++ [k], c⟩
theorem cnts_kids (lots : List (List Int)) (n : Nat) (a : List Int) (ds : List Cd) : ∀ l : List Int, cnts lots (kids n a ds l) = (l.map fun k => ((ds[k.toNat]?).map (cntN lots n)).getD 0).sum
  | [] => by simp [kids, cnts]
  | k :: r => by
    have ih := cnts_kids lots n a ds r
    unfold kids at ih ⊢
    rw [List.filterMap_cons, List.map_cons, List.sum_cons, ← ih]
    cases ds[k.toNat]? with
    | none => simp
    | some c => simp [cnts]
def ndD (r : Nd) : D := .tup [tI r.a, r.c.toD]
theorem kids_snoc {n : Nat} {a : List Int} {ds : List Cd} {l : List Int} {j : Nat} {c : Cd} (e : ds[j]? = some c) : kids n a ds (l ++ [(j : Int)]) = kids n a ds l ++ [⟨n, a ++ [(j : Int)], c⟩] := by
  simp [kids, e]
theorem kids_len (n : Nat) (a : List Int) (ds : List Cd) (l : List Int) : (kids n a ds l).length ≤ l.length := by
  unfold kids
  exact List.length_filterMap_le _ _
theorem nd_shp {many : List Int} {r : Nd} {n : Nat} (h : r.c.Ok many r.n) (hn : r.n ≤ n) : Shp (ndD r) (2 * n + 3) :=
  (shp_tup (shps_cons (shp_tI r.a (b := 2 * n + 1)) (shps_cons ((shp_cd r.n r.c h).mono (by omega)) shps_nil))).mono (by omega)
def flN (lots : List (List Int)) (r : Nd) : List (List Int × Int) := (stp lots r.n r.c).map fun x => (r.a ++ x.1, x.2)
structure Way (many : List Int) (lots : List (List Int)) (n : Nat) (c : Cd) (m : Nat) (fd : List (List Int × Int)) (rs : List Nd) : Prop where
  ok : ∀ r ∈ rs, r.c.Ok many r.n ∧ r.n ≤ n ∧ r.a.length + r.n ≤ n
  cnt : m = cnts lots rs
  all : fd.length + m ≤ cntN lots n c
  set : (fd ++ rs.flatMap (flN lots)).Perm (stp lots n c)
theorem way_start {many : List Int} {lots : List (List Int)} {n : Nat} {c : Cd} (h : c.Ok many n) : Way many lots n c (cntN lots n c) [] [⟨n, [], c⟩] :=
  ⟨fun r hr => by simp at hr; subst hr; exact ⟨h, Nat.le_refl _, by simp⟩, by simp [cnts], by simp, by simp [flN]⟩
theorem way_go {many : List Int} {lots : List (List Int)} {n m : Nat} {c : Cd} {fd : List (List Int × Int)} {rs : List Nd} {k : Nat} {a : List Int} {s : Int} (w : Way many lots n c m fd (rs ++ [⟨k, a, .go s⟩])) : m = m - 1 + 1 ∧ Way many lots n c (m - 1) (fd ++ [(a, s)]) rs := by
  have hc := w.cnt
  rw [cnts_app] at hc
  have h1 : cnts lots [⟨k, a, .go s⟩] = 1 := by cases k <;> simp [cnts, cntN]
  have h2 := w.all
  refine ⟨by omega, fun r hr => w.ok r (List.mem_append_left _ hr), by omega, by simp; omega, ?_⟩
  have h3 : flN lots ⟨k, a, .go s⟩ = [(a, s)] := by cases k <;> simp [flN, stp]
  refine List.Perm.trans ?_ w.set
  rw [List.flatMap_append, List.append_assoc]
  refine List.Perm.append_left fd ?_
  simp only [List.flatMap_cons, List.flatMap_nil, List.append_nil, h3]
  exact List.perm_append_comm
theorem fl_kids (lots : List (List Int)) (n : Nat) (a : List Int) (ds : List Cd) : ∀ l : List Int, (kids n a ds l).flatMap (flN lots) = l.flatMap fun k => ((ds[k.toNat]?).map fun d => (stp lots n d).map fun x => (a ++ k :: x.1, x.2)).getD []
  | [] => rfl
  | k :: r => by
    have ih := fl_kids lots n a ds r
    unfold kids at ih ⊢
    rw [List.filterMap_cons, List.flatMap_cons, ← ih]
    cases ds[k.toNat]? with
    | none => simp
    | some c => simp [flN]
theorem way_get {many : List Int} {lots : List (List Int)} {n m : Nat} {c : Cd} {fd : List (List Int × Int)} {rs : List Nd} {k : Nat} {a : List Int} {u : Int} {ds : List Cd} {l : List Int} (hl : lots[u.toNat]? = some l) (w : Way many lots n c m fd (rs ++ [⟨k + 1, a, .get u ds⟩])) :
    m - 1 < m ∧ Way many lots n c (m - 1) fd (rs ++ kids k a ds l) := by
  have hc := w.cnt
  rw [cnts_app] at hc
  have h1 : cnts lots [⟨k + 1, a, .get u ds⟩] = 1 + cnts lots (kids k a ds l) := by rw [cnts_kids]; simp [cnts, cntN, hl]
  have h2 := w.all
  obtain ⟨o1, o2, o3⟩ := w.ok _ (List.mem_append_right _ (List.mem_singleton.mpr rfl))
  refine ⟨by omega, fun r hr => ?_, by rw [cnts_app]; omega, by omega, ?_⟩
  · rcases List.mem_append.mp hr with hr | hr
    · exact w.ok r (List.mem_append_left _ hr)
    · unfold kids at hr
      obtain ⟨j, hj, e⟩ := List.mem_filterMap.mp hr
      obtain ⟨d, e1, rfl⟩ := Option.map_eq_some_iff.mp e
      dsimp only at o2 o3 ⊢
      exact ⟨Oks_get o1.2.2 e1, by omega, by simp; omega⟩
  · have h3 : flN lots ⟨k + 1, a, .get u ds⟩ = (kids k a ds l).flatMap (flN lots) := by
      rw [fl_kids]
      unfold flN
      show (((lots[u.toNat]?).getD []).flatMap _).map _ = _
      rw [hl, Option.getD_some, List.map_flatMap]
      congr 1
      funext j
      cases ds[j.toNat]? <;> simp
    have := w.set
    rw [List.flatMap_append, List.flatMap_cons, List.flatMap_nil, List.append_nil, h3] at this
    rw [List.flatMap_append]
    exact this
structure Nr where
  p : List Int
  c : Cd
  ws : List Int
  n : Nat
def flR (r : Nr) : List (List Int) := (r.c.rp r.ws).map (r.p ++ ·)
def szR (rs : List Nr) : Nat := (rs.map fun r => r.c.sz).sum
structure WayR (many : List Int) (n : Nat) (c : Cd) (m : Nat) (fd : List (List Int)) (rs : List Nr) : Prop where
  ok : ∀ r ∈ rs, r.c.Ok many r.n ∧ r.n ≤ n ∧ r.p.length + r.n ≤ n ∧ r.ws.length + r.n ≤ n
  cnt : m = szR rs
  all : fd.length + m ≤ c.sz
  set : (fd ++ rs.flatMap flR).Perm (reps c)
theorem stp_len (lots : List (List Int)) : ∀ (n : Nat) (c : Cd), (stp lots n c).length ≤ cntN lots n c
  | 0, .go _ => by simp [stp, cntN]
  | 0, .get _ _ => by simp [stp]
  | n + 1, .go _ => by simp [stp, cntN]
  | n + 1, .get w ds => by
    show (((lots[w.toNat]?).getD []).flatMap _).length ≤ 1 + (((lots[w.toNat]?).getD []).map _).sum
    rw [List.length_flatMap]
    have : ∀ l : List Int, (l.map fun k => (((ds[k.toNat]?).map fun d => (stp lots n d).map fun x => (k :: x.1, x.2)).getD []).length).sum ≤ (l.map fun k => ((ds[k.toNat]?).map (cntN lots n)).getD 0).sum := by
      intro l
      induction l with
      | nil => simp
      | cons k r ih =>
        simp only [List.map_cons, List.sum_cons]
        refine Nat.add_le_add ?_ ih
        cases e : ds[k.toNat]? with
        | none => simp
        | some d => simpa using stp_len lots n d
    exact Nat.le_trans (this _) (by omega)
theorem stp_few {many : List Int} {lots : List (List Int)} (f : LotsOk many lots) {n : Nat} {c : Cd} (h : c.Ok many n) (hn : n ≤ 4) : (stp lots n c).length ≤ 1296 :=
  Nat.le_trans (stp_len lots n c) (Nat.le_trans (cnt_le f n c h) (Nat.le_trans (Nat.pow_le_pow_right (by decide) hn) (by decide)))
end LC
end
section
set_option maxRecDepth 100000
namespace LC
open PySem L2
open DL hiding tI
structure Wk where
  m : Int
  sh : List Int
  cs : List Cd
def Wk.toD (w : Wk) : D := .tup [.int w.m, tI w.sh, .tup (Cd.toDs w.cs)]
mutual
def Cd.To (g : Int) : Cd → Prop
  | .go s => s < g
  | .get _ ds => Cd.Tos g ds
def Cd.Tos (g : Int) : List Cd → Prop
  | [] => True
  | c :: r => c.To g ∧ Cd.Tos g r
end
theorem Tos_mem {g : Int} : ∀ {ds : List Cd}, Cd.Tos g ds → ∀ c ∈ ds, c.To g
  | [], _, _, h => by cases h
  | d :: r, h, c, hc => by
    rcases List.mem_cons.mp hc with rfl | hc
    · exact h.1
    · exact Tos_mem h.2 c hc
theorem Tos_of {g : Int} : ∀ {ds : List Cd}, (∀ c ∈ ds, c.To g) → Cd.Tos g ds
  | [], _ => trivial
  | d :: r, h => ⟨h d List.mem_cons_self, Tos_of fun c hc => h c (List.mem_cons_of_mem _ hc)⟩
structure WkOk (many : List Int) (w : Wk) : Prop where
  s1 : 1 ≤ w.sh.length
  s5 : w.sh.length ≤ 5
  cl : w.cs.length = w.sh.length
  m1 : 1 ≤ w.m
  m4 : w.m ≤ 4
  sh : ∀ k ∈ w.sh, 0 ≤ k ∧ k < w.m
  cs : ∀ c ∈ w.cs, c.Ok many 3 ∧ c.To w.sh.length
def msOf (ws : List Wk) : List Int := ws.map (·.m)
def nsOf (ws : List Wk) : List Int := ws.map fun w => (w.sh.length : Int)
structure NetOk (ws : List Wk) : Prop where
  l1 : 1 ≤ ws.length
  l5 : ws.length ≤ 5
  ok : ∀ w ∈ ws, WkOk (msOf ws) w
structure AbOk (many : List Int) (lots : List (List Int)) : Prop where
  len : lots.length = many.length
  few : ∀ l ∈ lots, l.length ≤ 5
  fit : ∀ (i : Nat) (l : List Int) (m : Int), lots[i]? = some l → many[i]? = some m → ∀ k ∈ l, 0 ≤ k ∧ k < m
theorem LotsOk.ab {many : List Int} {lots : List (List Int)} (h : LotsOk many lots) : AbOk many lots := ⟨h.len, h.few, h.fit⟩
theorem NetOk.many {ws : List Wk} (h : NetOk ws) : ManyOk (msOf ws) := ⟨by have := h.l5; simp [msOf]; omega, fun m hm => by
  obtain ⟨w, hw, rfl⟩ := List.mem_map.mp hm
  exact ⟨(h.ok w hw).m1, (h.ok w hw).m4⟩⟩
def shW (w : Wk) (l : List Int) : List Int := sortS (l.map fun s => (w.sh[s.toNat]?).getD 0)
def shB (ws : List Wk) (box : List (List Int)) : List (List Int) := List.zipWith shW ws box
def jnB (one other : List (List Int)) : List (List Int) := List.zipWith (fun a b => sortS (a ++ b)) one other
def stW (lots : List (List Int)) (w : Wk) (l : List Int) : List Int := sortS (l ++ l.flatMap fun s => ((w.cs[s.toNat]?).map (stN lots 3)).getD [])
def stB (ws : List Wk) (box lots : List (List Int)) : List (List Int) := List.zipWith (stW lots) ws box
def nxB (ws : List Wk) (about box : List (List Int)) : List (List Int) := stB ws box (jnB (shB ws box) about)
theorem zw_get {α β γ : Type} {f : α → β → γ} {as : List α} {bs : List β} {i : Nat} {c : γ} (h : (List.zipWith f as bs)[i]? = some c) : ∃ a b, as[i]? = some a ∧ bs[i]? = some b ∧ c = f a b := by
  rw [List.getElem?_zipWith] at h
  cases ha : as[i]? with
  | none => rw [ha] at h; simp at h
  | some a =>
    cases hb : bs[i]? with
    | none => rw [ha, hb] at h; simp at h
    | some b => rw [ha, hb] at h; simp at h; exact ⟨a, b, rfl, rfl, h.symm⟩
theorem zw_at {α β γ : Type} {f : α → β → γ} {as : List α} {bs : List β} {i : Nat} {a : α} {b : β} (ha : as[i]? = some a) (hb : bs[i]? = some b) : (List.zipWith f as bs)[i]? = some (f a b) := by
  rw [List.getElem?_zipWith, ha, hb]
theorem mem_ix {α : Type} {l : List α} {a : α} (h : a ∈ l) : ∃ i : Nat, l[i]? = some a := List.mem_iff_getElem?.mp h
section
variable {ws : List Wk} {box about lots : List (List Int)} {many : List Int}
theorem ns_at {i : Nat} {w : Wk} (h : ws[i]? = some w) : (nsOf ws)[i]? = some (w.sh.length : Int) := by simp [nsOf, h]
theorem ms_at {i : Nat} {w : Wk} (h : ws[i]? = some w) : (msOf ws)[i]? = some w.m := by simp [msOf, h]
theorem box_at (hb : LotsOk (nsOf ws) box) {i : Nat} {w : Wk} {l : List Int} (hw : ws[i]? = some w) (hl : box[i]? = some l) : l ≠ [] ∧ l.length ≤ 5 ∧ l.Pairwise (· < ·) ∧ ∀ k ∈ l, 0 ≤ k ∧ k < (w.sh.length : Int) :=
  ⟨hb.one l (List.mem_of_getElem? hl), hb.few l (List.mem_of_getElem? hl), hb.up l (List.mem_of_getElem? hl), hb.fit i l _ hl (ns_at hw)⟩
theorem sort_ne {l : List Int} (h : l ≠ []) : sortS l ≠ [] := by
  cases l with
  | nil => exact absurd rfl h
  | cons a r =>
    intro e
    have := (sortS_mem a (a :: r)).mpr List.mem_cons_self
    rw [e] at this; cases this
theorem sort_id {l : List Int} (h : l.Pairwise (· < ·)) : sortS l = l := up_unique (sortS_up l) h fun k => sortS_mem k l
theorem shW_fit {w : Wk} (hw : WkOk many w) {l : List Int} (h : ∀ k ∈ l, 0 ≤ k ∧ k < (w.sh.length : Int)) : ∀ k ∈ shW w l, 0 ≤ k ∧ k < w.m := fun k hk => by
  have := (sortS_mem k _).mp hk
  obtain ⟨s, hs, rfl⟩ := List.mem_map.mp this
  obtain ⟨h0, h1⟩ := h s hs
  have hl : s.toNat < w.sh.length := by omega
  rw [List.getElem?_eq_getElem hl]
  exact hw.sh _ (List.getElem_mem hl)
theorem shB_ok (hn : NetOk ws) (hb : LotsOk (nsOf ws) box) : LotsOk (msOf ws) (shB ws box) := by
  have bl := hb.len
  have lw : ∀ (i : Nat) (l : List Int), (shB ws box)[i]? = some l → ∃ w b, ws[i]? = some w ∧ box[i]? = some b ∧ l = shW w b := fun i l h => zw_get h
  constructor
  · simp [shB, msOf, List.length_zipWith]; rw [bl]; simp [nsOf]
  · intro l hl
    obtain ⟨i, hi⟩ := mem_ix hl
    obtain ⟨w, b, e1, e2, rfl⟩ := lw i l hi
    have ok := hn.ok w (List.mem_of_getElem? e1)
    have := up_len0 (sortS_up (b.map fun s => (w.sh[s.toNat]?).getD 0)) (b := 4) fun k hk => by
      have := shW_fit ok (box_at hb e1 e2).2.2.2 k hk
      have := ok.m4
      omega
    show (shW w b).length ≤ 5
    unfold shW; omega
  · intro l hl
    obtain ⟨i, hi⟩ := mem_ix hl
    obtain ⟨w, b, e1, e2, rfl⟩ := lw i l hi
    exact sort_ne fun e => (box_at hb e1 e2).1 (List.map_eq_nil_iff.mp e)
  · intro i l m h1 h2 k hk
    obtain ⟨w, b, e1, e2, rfl⟩ := lw i l h1
    rw [ms_at e1] at h2
    cases h2
    exact shW_fit (hn.ok w (List.mem_of_getElem? e1)) (box_at hb e1 e2).2.2.2 k hk
  · intro l hl
    obtain ⟨i, hi⟩ := mem_ix hl
    obtain ⟨w, b, e1, e2, rfl⟩ := lw i l hi
    exact sortS_up _
theorem jnB_ok (hm : ManyOk many) (ha : LotsOk many lots) (hb : AbOk many about) : LotsOk many (jnB lots about) := by
  have lw : ∀ (i : Nat) (l : List Int), (jnB lots about)[i]? = some l → ∃ a b, lots[i]? = some a ∧ about[i]? = some b ∧ l = sortS (a ++ b) := fun i l h => zw_get h
  have fit : ∀ (i : Nat) (l : List Int) (m : Int), (jnB lots about)[i]? = some l → many[i]? = some m → ∀ k ∈ l, 0 ≤ k ∧ k < m := by
    intro i l m h1 h2 k hk
    obtain ⟨a, b, e1, e2, rfl⟩ := lw i l h1
    rcases List.mem_append.mp ((sortS_mem k _).mp hk) with h | h
    · exact ha.fit i a m e1 h2 k h
    · exact hb.fit i b m e2 h2 k h
  have len : (jnB lots about).length = many.length := by simp [jnB, List.length_zipWith, ha.len, hb.len]
  constructor
  · exact len
  · intro l hl
    obtain ⟨i, hi⟩ := mem_ix hl
    have hlt : i < many.length := by rw [← len]; exact (List.getElem?_eq_some_iff.mp hi).1
    obtain ⟨a, b, e1, e2, rfl⟩ := lw i l hi
    have := up_len0 (sortS_up (a ++ b)) (b := 4) fun k hk => by
      have := fit i _ _ hi (List.getElem?_eq_getElem hlt) k hk
      have := hm.fit _ (List.getElem_mem hlt)
      omega
    omega
  · intro l hl
    obtain ⟨i, hi⟩ := mem_ix hl
    obtain ⟨a, b, e1, e2, rfl⟩ := lw i l hi
    exact sort_ne fun e => ha.one a (List.mem_of_getElem? e1) (List.append_eq_nil_iff.mp e).1
  · exact fit
  · intro l hl
    obtain ⟨i, hi⟩ := mem_ix hl
    obtain ⟨a, b, e1, e2, rfl⟩ := lw i l hi
    exact sortS_up _
theorem st_to {g : Int} (f : LotsOk many lots) : ∀ (n : Nat) (c : Cd), c.Ok many n → c.To g → ∀ s ∈ stN lots n c, s < g
  | 0, .go s, h, h2, t, ht => by simp [stN] at ht; subst ht; exact h2
  | 0, .get _ _, h, _, _, _ => h.elim
  | n + 1, .go s, h, h2, t, ht => by simp [stN] at ht; subst ht; exact h2
  | n + 1, .get w ds, h, h2, t, ht => by
    obtain ⟨l, h0, hl, hm, hk⟩ := lots_step f h
    simp only [stN, hl, Option.getD_some, List.mem_flatMap] at ht
    obtain ⟨k, hkl, ht⟩ := ht
    obtain ⟨j, c, rfl, e, hc⟩ := hk k hkl
    simp only [Int.toNat_natCast, e, Option.map_some, Option.getD_some] at ht
    exact st_to f n c hc (Tos_mem (ds := ds) h2 c (List.mem_of_getElem? e)) t ht
theorem stW_mem {w : Wk} {l : List Int} {k : Int} : k ∈ stW lots w l ↔ k ∈ l ∨ ∃ s ∈ l, k ∈ ((w.cs[s.toNat]?).map (stN lots 3)).getD [] := by
  unfold stW
  rw [sortS_mem, List.mem_append, List.mem_flatMap]
theorem stW_fit {w : Wk} (hw : WkOk many w) (f : LotsOk many lots) {l : List Int} (h : ∀ k ∈ l, 0 ≤ k ∧ k < (w.sh.length : Int)) : ∀ k ∈ stW lots w l, 0 ≤ k ∧ k < (w.sh.length : Int) := fun k hk => by
  rcases stW_mem.mp hk with h1 | ⟨s, hs, h1⟩
  · exact h k h1
  · obtain ⟨h0, h2⟩ := h s hs
    have hl : s.toNat < w.cs.length := by rw [hw.cl]; omega
    rw [List.getElem?_eq_getElem hl] at h1
    obtain ⟨o1, o2⟩ := hw.cs _ (List.getElem_mem hl)
    simp only [Option.map_some, Option.getD_some] at h1
    exact ⟨(st_fit f 3 _ o1 k h1).1, st_to f 3 _ o1 o2 k h1⟩
theorem stB_ok (hn : NetOk ws) (f : LotsOk (msOf ws) lots) (hb : LotsOk (nsOf ws) box) : LotsOk (nsOf ws) (stB ws box lots) := by
  have bl := hb.len
  have lw : ∀ (i : Nat) (l : List Int), (stB ws box lots)[i]? = some l → ∃ w b, ws[i]? = some w ∧ box[i]? = some b ∧ l = stW lots w b := fun i l h => zw_get h
  constructor
  · simp [stB, List.length_zipWith]; rw [bl]; simp [nsOf]
  · intro l hl
    obtain ⟨i, hi⟩ := mem_ix hl
    obtain ⟨w, b, e1, e2, rfl⟩ := lw i l hi
    have ok := hn.ok w (List.mem_of_getElem? e1)
    have := up_len0 (show (stW lots w b).Pairwise (· < ·) from sortS_up _) (b := 5) fun k hk => by
      have := stW_fit ok f (box_at hb e1 e2).2.2.2 k hk
      have := ok.s5
      omega
    omega
  · intro l hl
    obtain ⟨i, hi⟩ := mem_ix hl
    obtain ⟨w, b, e1, e2, rfl⟩ := lw i l hi
    exact sort_ne fun e => (box_at hb e1 e2).1 (List.append_eq_nil_iff.mp e).1
  · intro i l m h1 h2 k hk
    obtain ⟨w, b, e1, e2, rfl⟩ := lw i l h1
    rw [ns_at e1] at h2
    cases h2
    exact stW_fit (hn.ok w (List.mem_of_getElem? e1)) f (box_at hb e1 e2).2.2.2 k hk
  · intro l hl
    obtain ⟨i, hi⟩ := mem_ix hl
    obtain ⟨w, b, e1, e2, rfl⟩ := lw i l hi
    exact sortS_up _
theorem nxB_ok (hn : NetOk ws) (ha : AbOk (msOf ws) about) (hb : LotsOk (nsOf ws) box) : LotsOk (nsOf ws) (nxB ws about box) :=
  stB_ok hn (jnB_ok hn.many (shB_ok hn hb) ha) hb
theorem up_sub : ∀ (l' l : List Int), l.Pairwise (· < ·) → l'.Pairwise (· < ·) → (∀ k ∈ l, k ∈ l') → l.length ≤ l'.length ∧ (l'.length ≤ l.length → l = l')
  | [], l, _, _, h => by
    cases l with
    | nil => simp
    | cons a r => exact absurd (h a List.mem_cons_self) (by simp)
  | y :: r', [], _, _, _ => by simp
  | y :: r', x :: r, h1, h2, h => by
    obtain ⟨a1, a2⟩ := List.pairwise_cons.mp h1
    obtain ⟨b1, b2⟩ := List.pairwise_cons.mp h2
    by_cases e : x = y
    · subst e
      obtain ⟨i1, i2⟩ := up_sub r' r a2 b2 fun k hk => by
        rcases List.mem_cons.mp (h k (List.mem_cons_of_mem _ hk)) with rfl | q
        · exact absurd (a1 k hk) (by omega)
        · exact q
      simp only [List.length_cons]
      exact ⟨by omega, fun q => by rw [i2 (by omega)]⟩
    · have hx : x ∈ r' := by
        rcases List.mem_cons.mp (h x List.mem_cons_self) with q | q
        · exact absurd q e
        · exact q
      have lt := b1 x hx
      obtain ⟨i1, i2⟩ := up_sub r' (x :: r) h1 b2 fun k hk => by
        rcases List.mem_cons.mp (h k hk) with rfl | q
        · rcases List.mem_cons.mp hk with rfl | q2
          · exact absurd rfl e
          · exact absurd (a1 k q2) (by omega)
        · exact q
      simp only [List.length_cons] at i1 ⊢
      exact ⟨by omega, fun q => by omega⟩
def szB (box : List (List Int)) : Nat := (box.map List.length).sum
def capW (ws : List Wk) : Nat := (ws.map fun w => w.sh.length).sum
theorem szB_sub : ∀ {a b : List (List Int)}, a.length = b.length → (∀ (i : Nat) (x y : List Int), a[i]? = some x → b[i]? = some y → x.Pairwise (· < ·) ∧ y.Pairwise (· < ·) ∧ ∀ k ∈ x, k ∈ y) → szB a ≤ szB b ∧ (szB b ≤ szB a → a = b)
  | [], [], _, _ => by simp
  | [], _ :: _, h, _ => by simp at h
  | _ :: _, [], h, _ => by simp at h
  | x :: a, y :: b, hl, h => by
    obtain ⟨u1, u2, u3⟩ := h 0 x y rfl rfl
    obtain ⟨s1, s2⟩ := up_sub y x u1 u2 u3
    obtain ⟨i1, i2⟩ := szB_sub (a := a) (b := b) (by simpa using hl) fun i p q e1 e2 => h (i + 1) p q (by simpa using e1) (by simpa using e2)
    simp only [szB, List.map_cons, List.sum_cons] at *
    exact ⟨by omega, fun q => by rw [s2 (by omega), i2 (by omega)]⟩
theorem szB_cap : ∀ {ws : List Wk} {box : List (List Int)}, LotsOk (nsOf ws) box → szB box ≤ capW ws
  | [], [], _ => by simp [szB, capW]
  | [], _ :: _, h => by have := h.len; simp [nsOf] at this
  | _ :: _, [], h => by have := h.len; simp [nsOf] at this
  | w :: ws, l :: box, h => by
    have i := szB_cap (ws := ws) (box := box) ⟨by simpa [nsOf] using h.len, fun l hl => h.few l (List.mem_cons_of_mem _ hl), fun l hl => h.one l (List.mem_cons_of_mem _ hl), fun i l m e1 e2 => h.fit (i + 1) l m (by simpa using e1) (by simpa [nsOf] using e2), fun l hl => h.up l (List.mem_cons_of_mem _ hl)⟩
    have b := up_len0 (h.up l List.mem_cons_self) (b := w.sh.length) (h.fit 0 l _ rfl rfl)
    simp only [szB, capW, List.map_cons, List.sum_cons] at *
    omega
theorem capW_le (hn : NetOk ws) : capW ws ≤ 25 := by
  have : ∀ l : List Wk, (∀ w ∈ l, w.sh.length ≤ 5) → capW l ≤ l.length * 5 := by
    intro l
    induction l with
    | nil => simp [capW]
    | cons a r ih =>
      intro h
      have h1 := ih fun w hw => h w (List.mem_cons_of_mem _ hw)
      have h2 := h a List.mem_cons_self
      simp only [capW, List.map_cons, List.sum_cons, List.length_cons] at *
      omega
  have h1 := this ws fun w hw => (hn.ok w hw).s5
  have := hn.l5
  omega
theorem szB_pos (hn : NetOk ws) (hb : LotsOk (nsOf ws) box) : 1 ≤ szB box := by
  cases box with
  | nil => have := hb.len; have := hn.l1; simp [nsOf] at *; omega
  | cons l r =>
    have := hb.one l List.mem_cons_self
    have : 0 < l.length := List.length_pos_iff.mpr this
    simp [szB]; omega
theorem nx_sub (hb : LotsOk (nsOf ws) box) {i : Nat} {x y : List Int} (e1 : box[i]? = some x) (e2 : (stB ws box lots)[i]? = some y) : x.Pairwise (· < ·) ∧ y.Pairwise (· < ·) ∧ ∀ k ∈ x, k ∈ y := by
  obtain ⟨w, b, q1, q2, rfl⟩ := zw_get (show (List.zipWith (stW lots) ws box)[i]? = some y from e2)
  rw [e1] at q2; cases q2
  exact ⟨hb.up x (List.mem_of_getElem? e1), sortS_up _, fun k hk => stW_mem.mpr (.inl hk)⟩
theorem stB_len (hb : LotsOk (nsOf ws) box) : box.length = (stB ws box lots).length := by
  have := hb.len
  simp [stB, nsOf, List.length_zipWith] at *; omega
theorem nx_grow (hb : LotsOk (nsOf ws) box) : szB box ≤ szB (stB ws box lots) ∧ (szB (stB ws box lots) ≤ szB box → box = stB ws box lots) :=
  szB_sub (stB_len hb) fun i x y e1 e2 => nx_sub hb e1 e2
def fixB (ws : List Wk) (about : List (List Int)) : Nat → List (List Int) → List (List Int)
  | 0, b => b
  | n + 1, b => if nxB ws about b = b then b else fixB ws about n (nxB ws about b)
theorem fix_ok (hn : NetOk ws) (ha : AbOk (msOf ws) about) : ∀ (n : Nat) {b : List (List Int)}, LotsOk (nsOf ws) b → LotsOk (nsOf ws) (fixB ws about n b)
  | 0, b, h => h
  | n + 1, b, h => by
    unfold fixB
    split
    · exact h
    · exact fix_ok hn ha n (nxB_ok hn ha h)
theorem fix_fixed (hn : NetOk ws) (ha : AbOk (msOf ws) about) : ∀ (n : Nat) {b : List (List Int)}, LotsOk (nsOf ws) b → capW ws ≤ szB b + n → nxB ws about (fixB ws about n b) = fixB ws about n b
  | 0, b, h, hc => by
    have h1 := szB_cap (nxB_ok hn ha h)
    exact ((nx_grow h).2 (by show szB (nxB ws about b) ≤ _; omega)).symm
  | n + 1, b, h, hc => by
    unfold fixB
    split
    · assumption
    · rename_i ne
      refine fix_fixed hn ha n (nxB_ok hn ha h) ?_
      have h1 := (nx_grow (lots := jnB (shB ws b) about) h).1
      have h2 := (nx_grow (lots := jnB (shB ws b) about) h).2
      have : szB b < szB (nxB ws about b) := by
        refine Nat.lt_of_not_le fun q => ne (h2 q).symm
      omega
theorem fix_succ (hn : NetOk ws) (ha : AbOk (msOf ws) about) : ∀ (n : Nat) {b : List (List Int)}, LotsOk (nsOf ws) b → capW ws ≤ szB b + n → fixB ws about (n + 1) b = fixB ws about n b
  | 0, b, h, hc => by
    have : nxB ws about b = b := fix_fixed hn ha 0 h hc
    unfold fixB
    rw [if_pos this]
  | n + 1, b, h, hc => by
    rw [fixB]
    conv => rhs; rw [fixB]
    split
    · rfl
    · rename_i ne
      refine fix_succ hn ha n (nxB_ok hn ha h) ?_
      have h2 := (nx_grow (lots := jnB (shB ws b) about) h).2
      have : szB b < szB (nxB ws about b) := Nat.lt_of_not_le fun q => ne (h2 q).symm
      omega
def grB (ws : List Wk) (about box : List (List Int)) : List (List Int) := fixB ws about 25 box
theorem grB_ok (hn : NetOk ws) (ha : AbOk (msOf ws) about) (hb : LotsOk (nsOf ws) box) : LotsOk (nsOf ws) (grB ws about box) := fix_ok hn ha 25 hb
theorem grB_stop (h : nxB ws about box = box) : grB ws about box = box := by unfold grB fixB; rw [if_pos h]
theorem grB_go (hn : NetOk ws) (ha : AbOk (msOf ws) about) (hb : LotsOk (nsOf ws) box) (h : nxB ws about box ≠ box) : grB ws about (nxB ws about box) = grB ws about box := by
  have c := capW_le hn
  have := szB_pos hn (nxB_ok hn ha hb)
  conv => rhs; unfold grB fixB
  rw [if_neg h]
  exact fix_succ hn ha 24 (nxB_ok hn ha hb) (by omega)
def SubB (a b : List (List Int)) : Prop := ∀ (i : Nat) (x : List Int), a[i]? = some x → ∃ y, b[i]? = some y ∧ ∀ k ∈ x, k ∈ y
theorem SubB.refl (a : List (List Int)) : SubB a a := fun i x e => ⟨x, e, fun k h => h⟩
theorem SubB.trans {a b c : List (List Int)} (h : SubB a b) (h2 : SubB b c) : SubB a c := fun i x e => by
  obtain ⟨y, e1, s1⟩ := h i x e
  obtain ⟨z, e2, s2⟩ := h2 i y e1
  exact ⟨z, e2, fun k hk => s2 k (s1 k hk)⟩
end
end LC
end
section
set_option maxRecDepth 100000
namespace LC
open PySem L2
open DL hiding tI
theorem mem_ints {s : Int} {ks : List Int} : D.int s ∈ ks.map D.int ↔ s ∈ ks := by simp
def putI (ks : List Int) (s : Int) : List Int := if s ∈ ks then ks else ks ++ [s]
theorem put_ks (ks : List Int) (s : Int) : D.putK (ks.map D.int) (.int s) = (putI ks s).map D.int := by
  unfold D.putK putI
  by_cases h : s ∈ ks
  · rw [if_pos (mem_ints.mpr h), if_pos h]
  · rw [if_neg (fun q => h (mem_ints.mp q)), if_neg h]; simp
theorem put_nd {ks : List Int} (h : ks.Nodup) (s : Int) : (putI ks s).Nodup := by
  unfold putI
  split
  · exact h
  · rename_i n
    rw [List.nodup_append]
    exact ⟨h, by simp, fun a ha b hb q => n (by simp at hb; rw [← hb, ← q]; exact ha)⟩
theorem put_mem (ks : List Int) (s t : Int) : t ∈ putI ks s ↔ t ∈ ks ∨ t = s := by
  unfold putI
  split
  · rename_i h
    exact ⟨.inl, fun q => q.elim id fun e => e ▸ h⟩
  · simp
theorem ex_put {ks : List Int} {vs : List D} {s : Int} {x : D} (hl : ks.length < 100000) {P : D → Prop} (h : ∀ vs', P (.dct false ((putI ks s).map .int) vs')) : ∃ d', D.store (.dct false (ks.map .int) vs) (.int s) x = some d' ∧ P d' := by
  refine ⟨_, ?_, h (D.putV (ks.map .int) vs (.int s) x)⟩
  unfold D.store
  have c : ((D.lookKey false (ks.map .int) vs (.int s)).isSome && decide ((ks.map D.int).length < sizeLine)) = true := by
    rw [Bool.and_eq_true]
    exact ⟨rfl, decide_eq_true (by rw [List.length_map]; exact small_lt hl)⟩
  simp only [c, if_true, put_ks]
theorem sorted_dct {Q : Res → Sx → Prop} {S : Sx} {ks : List Int} {vs : List D} (nd : ks.Nodup) (hl : ks.length < 64) (q : Q (.new (lI (sortS ks))) S) : Rn (opSortedE (.dct false (ks.map .int) vs)) S Q := by
  show Rn (opSortedD (.dct false (ks.map .int) vs)) S Q
  show Rn (M.opt (D.ints? (ks.map .int)) fun ns => M.need (decide (ns.length < 64) && decide ns.Nodup) (pure (.new (.lst ((sortS ns).map .int))))) S Q
  rw [ints?_map, rn_opt1, rn_need]
  exact ⟨by rw [Bool.and_eq_true]; exact ⟨decide_eq_true hl, decide_eq_true nd⟩, q⟩
theorem nodup_fit {ks : List Int} {b : Nat} (nd : ks.Nodup) (hb : ∀ x ∈ ks, 0 ≤ x ∧ x < (b : Int)) : ks.length ≤ b := by
  have h1 := up_len0 (sortS_up ks) (b := b) fun x hx => hb x ((sortS_mem x ks).mp hx)
  have h2 := DL.nodup_len nd (up_nodup (sortS_up ks)) fun k => (sortS_mem k ks).symm
  omega
theorem for_put {Q : Fl → Sx → Prop} {tgt : D → M Unit} {b : M Fl} {all : List Int} {St : List Int → List D → Slot → Sx} {ks0 : List Int} {vs0 : List D} {s0 : Slot} (g : Int → Int) {bd : Nat} (hbd : bd < 64) (nd0 : ks0.Nodup) (h0 : ∀ k ∈ ks0, 0 ≤ k ∧ k < (bd : Int)) (hal : ∀ k ∈ all, 0 ≤ g k ∧ g k < (bd : Int))
    (turn : ∀ (x : Int) (ks : List Int) (vs : List D) (s : Slot), x ∈ all → ks.Nodup → ks.length < 64 → (∀ P : Fl → Sx → Prop, (∀ vs' s', P .next (St (putI ks (g x)) vs' s')) → Rn (tgt (.int x)) (St ks vs s) fun _ S1 => Rn b S1 P))
    (q : ∀ (ks : List Int) (vs : List D) (s : Slot), ks.Nodup → ks.length < 64 → (∀ k, k ∈ ks ↔ k ∈ ks0 ∨ k ∈ all.map g) → Q .next (St ks vs s)) : Rn (forM tgt b (all.map .int)) (St ks0 vs0 s0) Q := by
  refine for_of (f := D.int) (all := all) (a := []) (r := all) (I := fun a r S => ∃ ks vs s, ks.Nodup ∧ (∀ k, k ∈ ks ↔ k ∈ ks0 ∨ k ∈ a.map g) ∧ S = St ks vs s) rfl ⟨ks0, vs0, s0, nd0, by simp, rfl⟩ ?_ ?_
  · rintro a x r S e ⟨ks, vs, s, nd, hk, rfl⟩
    have hx : x ∈ all := by rw [e]; simp
    have fit : ks.length ≤ bd := nodup_fit nd fun k h => by
      rcases (hk k).mp h with h | h
      · exact h0 k h
      · obtain ⟨y, hy, rfl⟩ := List.mem_map.mp h
        exact hal y (by rw [e]; exact List.mem_append_left _ hy)
    exact turn x ks vs s hx nd (by omega) _ fun vs' s' => ⟨putI ks (g x), vs', s', put_nd nd _, fun k => by rw [put_mem, hk, List.map_append]; simp [or_assoc], rfl⟩
  · rintro S ⟨ks, vs, s, nd, hk, rfl⟩
    have fit : ks.length ≤ bd := nodup_fit nd fun k h => by
      rcases (hk k).mp h with h | h
      · exact h0 k h
      · obtain ⟨y, hy, rfl⟩ := List.mem_map.mp h
        exact hal y hy
    exact q ks vs s nd (by omega) hk
theorem for_rng {Q : Fl → Sx → Prop} {tgt : D → M Unit} {b : M Fl} {n : Nat} {I : Nat → Sx → Prop} {S : Sx} (i0 : I 0 S)
    (h : ∀ i S, i < n → I i S → Rn (tgt (.int (i : Int))) S fun _ S1 => Rn b S1 fun fl S2 => match fl with
      | .next => I (i + 1) S2
      | .cont => I (i + 1) S2
      | .brk => Q .next S2
      | .ret v => Q (.ret v) S2) (q : ∀ S, I n S → Q .next S) : Rn (forM tgt b (rangeD 0 n)) S Q := by
  rw [show rangeD 0 n = (List.range' 0 n).map fun i => D.int ((i : Nat) : Int) from range_map n 0]
  refine for_of (f := fun i : Nat => D.int (i : Int)) (all := List.range' 0 n) (a := []) (r := List.range' 0 n) (I := fun a r S => I a.length S) rfl i0 ?_ ?_
  · intro a x r S e hi
    have hl : a.length < n := by
      have := congrArg List.length e
      simp at this; omega
    have hx : x = a.length := by
      have h1 : (List.range' 0 n)[a.length]? = some x := by rw [e]; simp
      rw [List.getElem?_range' hl] at h1
      simpa using h1.symm
    subst hx
    refine (h a.length S hl hi).mono fun _ S1 h1 => h1.mono fun fl S2 h2 => ?_
    cases fl <;> simpa using h2
  · intro S hi
    exact q S (by simpa using hi)
theorem zipD_map {α β : Type} {f : α → D} {g : β → D} : ∀ (as : List α) (bs : List β), zipD (as.map f) (bs.map g) = (as.zip bs).map fun p => .tup [f p.1, g p.2]
  | [], _ => by simp [zipD]
  | _ :: _, [] => by simp [zipD]
  | a :: as, b :: bs => by simp [zipD, zipD_map as bs]
theorem zip_zipWith {α β γ : Type} {f : α → β → γ} : ∀ (as : List α) (bs : List β), (as.zip bs).map (fun p => f p.1 p.2) = List.zipWith f as bs
  | [], _ => by simp
  | _ :: _, [] => by simp
  | a :: as, b :: bs => by simp [zip_zipWith as bs]
theorem rn_zipI {fs : M (List Res)} {S : Sx} {P : List D → Sx → Prop} : Rn (zipI fs) S P = Rn fs S fun rs S1 => Rn (useAll rs) S1 fun ds S2 => Rn (M.opt (zipK ds) fun l => pure l) S2 P := by
  unfold zipI
  simp only [rn_bind]
theorem zipK_tt {as bs : List D} {S : Sx} {P : List D → Sx → Prop} : Rn (M.opt (zipK [.tup as, .tup bs]) fun l => pure l) S P = P (zipD as bs) S := rfl
theorem ex_set {ds : List D} {i : Nat} {x : D} (hi : i < ds.length) {P : D → Prop} (h : P (.lst (ds.set i x))) : ∃ d', D.store (.lst ds) (.int i) x = some d' ∧ P d' := by
  refine ⟨_, ?_, h⟩
  unfold D.store ixN
  have h1 : (0 : Int) ≤ (i : Int) := by omega
  have h2 : (i : Int) < (ds.length : Int) := by omega
  simp [hi]
theorem wks_imm (ws : List Wk) : D.imms (ws.map Wk.toD) = true := by
  induction ws with
  | nil => rfl
  | cons w r ih => simp [D.imms, Wk.toD, D.imm, tI, imms_ints, Cd.imms, ih]
def netD (ws : List Wk) (st : List Int) : D := .tup [.tup (ws.map Wk.toD), tI st]
theorem net_imm (ws : List Wk) (st : List Int) : (netD ws st).imm = true := by simp [netD, D.imm, D.imms, wks_imm, tI, imms_ints]
theorem ix_wk {ws : List Wk} {i : Nat} {w : Wk} (h : ws[i]? = some w) {S : Sx} {Q : Res → Sx → Prop} : Rn (opIx (.tup (ws.map Wk.toD)) (.int (i : Nat))) S Q = Q (.dat w.toD) S :=
  op_ix_tn (by rw [List.getElem?_map, h]; rfl)
theorem ix_lot {b : List (List Int)} {i : Nat} {l : List Int} (h : b[i]? = some l) {S : Sx} {Q : Res → Sx → Prop} : Rn (opIx (lotsD b) (.int (i : Nat))) S Q = Q (.dat (tI l)) S :=
  op_ix_tn (by rw [List.getElem?_map, h]; rfl)
def ndE (r : Nd) : D := .tup [r.c.toD, tI r.a]
end LC
end
section
set_option maxRecDepth 100000
namespace LC
open PySem L2
open DL hiding tI
mutual
/-- its depth is at most n, it asks workers below b -/
def Cd.Fit (b : Nat) : Nat → Cd → Prop
  | _, .go s => 0 ≤ s ∧ s < 8
  | 0, .get _ _ => False
  | n + 1, .get u ds => (0 ≤ u ∧ u < (b : Int)) ∧ ds.length ≤ 4 ∧ Cd.Fits b n ds
def Cd.Fits (b : Nat) : Nat → List Cd → Prop
  | _, [] => True
  | n, c :: r => c.Fit b n ∧ Cd.Fits b n r
end
mutual
theorem fit_of {many : List Int} (hm : ManyOk many) {b : Nat} (hb : many.length ≤ b) : ∀ (n : Nat) (c : Cd), c.Ok many n → c.Fit b n
  | n, .go s, h => by cases n <;> exact h
  | 0, .get _ _, h => h.elim
  | n + 1, .get u ds, h => by
    have h1 := (List.getElem?_eq_some_iff.mp h.2.1).1
    have h2 := hm.fit _ (List.mem_of_getElem? h.2.1)
    exact ⟨⟨h.1, by have := h.1; omega⟩, by omega, fits_of hm hb n ds h.2.2⟩
theorem fits_of {many : List Int} (hm : ManyOk many) {b : Nat} (hb : many.length ≤ b) : ∀ (n : Nat) (ds : List Cd), Cd.Oks many n ds → Cd.Fits b n ds
  | n, [], _ => trivial
  | n, c :: r, h => ⟨fit_of hm hb n c h.1, fits_of hm hb n r h.2⟩
end
structure WkFit (b : Nat) (w : Wk) : Prop where
  m : 1 ≤ w.m ∧ w.m ≤ 8
  sl : w.sh.length ≤ 5
  sh : ∀ k ∈ w.sh, 0 ≤ k ∧ k < 8
  cl : w.cs.length ≤ 5
  cs : ∀ c ∈ w.cs, c.Fit b 3
def Wk.asks (w : Wk) (u : Int) : Prop := ∃ c ∈ w.cs, u ∈ c.wk
def putAll (f : Nat → Int) : List Nat → List Int → Nat → List Int
  | [], t, _ => t
  | p :: r, t, k => putAll f r (t.set p (f k)) (k + 1)
end LC
end
section
set_option maxRecDepth 100000
namespace LC
open PySem L2
open DL hiding tI
def uI (l : List Nat) : List Int := l.map fun i : Nat => (i : Int)
theorem uI_mem {l : List Nat} {k : Nat} : (k : Int) ∈ uI l ↔ k ∈ l := by
  rw [uI, List.mem_map]
  exact ⟨fun ⟨a, h, e⟩ => by have : a = k := by omega
                             rw [← this]; exact h, fun h => ⟨k, h, rfl⟩⟩
theorem rng_uI (n : Nat) : rangeD 0 n = (uI (List.range n)).map D.int := by
  rw [show rangeD 0 n = (List.range' 0 n).map fun i => D.int ((i : Nat) : Int) from range_map n 0, uI, List.map_map, List.range_eq_range']; rfl
section
variable {α : Type} {f : α → D}
end
section
variable {S : Sx} {b : M Fl} {cs : List Clz} {Q : Fl → Sx → Prop} {x : Exn}
end
section
variable {α : Type} {f : α → D} {tgt : D → M Unit} {b : M Fl} {E : Exn → Sx → Prop} {I : Nat → Sx → Prop}
end
end LC
end
section
set_option maxRecDepth 100000
namespace LC
open PySem L2
open DL hiding tI
def wsAt (ws : List Wk) (i : Nat) : Wk := (ws[i]?).getD ⟨0, [], []⟩
def wanted (ws : List Wk) (so : List Nat) (u : Nat) : Prop := ∃ i ∈ so, (wsAt ws i).asks u
structure Cut (ws : List Wk) (so ch : List Nat) : Prop where
  lo : ∀ i ∈ so, i < ws.length
  up : so.Pairwise (· < ·)
  sub : ∀ i ∈ ch, i ∈ so
  cu : ch.Pairwise (· < ·)
  cne : ch ≠ []
section
variable {ws : List Wk} {so ch : List Nat}
def fits (ws : List Wk) : Prop := ∀ w ∈ ws, WkFit ws.length w
end
end LC
namespace LC
open PySem L2
open DL hiding tI
theorem uI_map (l : List Nat) : (uI l).map D.int = l.map fun i : Nat => D.int (i : Int) := by rw [uI, List.map_map]; rfl
end LC
end
section
set_option maxRecDepth 100000
namespace GR
inductive Rch (E : Nat → List Nat) : Nat → Nat → Prop
  | refl (a : Nat) : Rch E a a
  | step {a b c : Nat} : b ∈ E a → Rch E b c → Rch E a c
section
variable {E : Nat → List Nat}
theorem Rch.trans {a b c : Nat} (h : Rch E a b) (k : Rch E b c) : Rch E a c := by
  induction h with
  | refl => exact k
  | step e _ ih => exact .step e (ih k)
theorem Rch.one {a b : Nat} (h : b ∈ E a) : Rch E a b := .step h (.refl b)
def Eqv (E : Nat → List Nat) (a b : Nat) : Prop := Rch E a b ∧ Rch E b a
theorem Eqv.refl (a : Nat) : Eqv E a a := ⟨.refl a, .refl a⟩
theorem Eqv.symm {a b : Nat} (h : Eqv E a b) : Eqv E b a := ⟨h.2, h.1⟩
theorem Eqv.trans {a b c : Nat} (h : Eqv E a b) (k : Eqv E b c) : Eqv E a c := ⟨h.1.trans k.1, k.2.trans h.2⟩
def tops (st : List (Nat × Nat)) : List Nat := st.map (·.1)
def Chain (E : Nat → List Nat) : List (Nat × Nat) → Prop
  | [] => True
  | [_] => True
  | a :: b :: r => a.1 ∈ E b.1 ∧ Chain E (b :: r)
theorem chain_reach : ∀ {r : List (Nat × Nat)} {p : Nat × Nat}, Chain E (p :: r) → ∀ q ∈ r, Rch E q.1 p.1
  | b :: r, p, h, q, m => by
    rcases List.mem_cons.mp m with rfl | m
    · exact .one h.1
    · exact (chain_reach h.2 q m).trans (.one h.1)
theorem chain_tail : ∀ {r : List (Nat × Nat)} {p : Nat × Nat}, Chain E (p :: r) → Chain E r
  | [], _, _ => trivial
  | _ :: _, _, h => h.2
def Low (E : Nat → List Nat) (D : List Nat) : List (Nat × Nat) → Prop
  | [] => True
  | p :: r => (∀ u ∈ D, Rch E u p.1 → ∃ s ∈ p.1 :: tops r, Eqv E u s) ∧ Low E D r
theorem Low.mem {D : List Nat} : ∀ {st : List (Nat × Nat)}, Low E D st → ∀ u ∈ D, ∀ x ∈ tops st, Rch E u x → ∃ s ∈ tops st, Eqv E u s
  | p :: r, h, u, hu, x, hx, w => by
    rcases List.mem_cons.mp hx with rfl | hx
    · exact h.1 u hu w
    · obtain ⟨s, hs, e⟩ := h.2.mem u hu x hx w
      exact ⟨s, .tail _ hs, e⟩
def After (D : List Nat) (v u : Nat) : Prop := ∃ a b, D = a ++ v :: b ∧ u ∈ v :: b
structure DInv (E : Nat → List Nat) (D : List Nat) (st : List (Nat × Nat)) : Prop where
  nd : (D ++ tops st).Nodup
  path : Chain E st
  edD : ∀ d ∈ D, ∀ e ∈ E d, e ∈ D ∨ e ∈ tops st
  edS : ∀ p ∈ st, ∀ e ∈ (E p.1).take p.2, e ∈ D ∨ e ∈ tops st
  low : Low E D st
  late : ∀ u ∈ D, ∀ v ∈ D, Rch E u v → ∃ x, Eqv E u x ∧ (x ∈ tops st ∨ After D v x)
variable {D : List Nat} {st r : List (Nat × Nat)} {s g : Nat}
theorem DInv.out (h : DInv E D st) {u w : Nat} (p : Rch E u w) : u ∈ D → w ∉ D → ∃ x ∈ tops st, Rch E u x ∧ Rch E x w := by
  induction p with
  | refl a => exact fun a b => absurd a b
  | step e p ih =>
    intro hu hw
    rcases h.edD _ hu _ e with hb | hb
    · obtain ⟨x, hx, h1, h2⟩ := ih hb hw
      exact ⟨x, hx, .step e h1, h2⟩
    · exact ⟨_, hb, .one e, p⟩
theorem DInv.root (h : DInv E D []) {b : Nat} (nb : b ∉ D) : DInv E D [(b, 0)] := by
  refine ⟨?_, trivial, fun d hd e he => (h.edD d hd e he).imp id (fun q => nomatch q), fun p hp e he => ?_, ⟨fun u hu w => ?_, trivial⟩, fun u hu v hv w => ?_⟩
  · have := h.nd
    simp only [tops, List.map_nil, List.append_nil] at this
    simp only [tops, List.map_cons, List.map_nil]
    rw [List.nodup_append]
    exact ⟨this, by simp, fun a ha c hc e => by simp at hc; subst hc; exact nb (e ▸ ha)⟩
  · simp at hp; subst hp; simp at he
  · obtain ⟨x, hx, _⟩ := h.out w hu nb
    cases hx
  · obtain ⟨x, e, q⟩ := h.late u hu v hv w
    exact ⟨x, e, q.imp (fun q => nomatch q) id⟩
theorem DInv.skip (h : DInv E D ((s, g) :: r)) {o : Nat} (ho : (E s)[g]? = some o) (seen : o ∈ D ∨ o ∈ s :: tops r) : DInv E D ((s, g + 1) :: r) := by
  refine ⟨h.nd, ?_, h.edD, fun p hp e he => ?_, h.low, h.late⟩
  · have := h.path
    cases r with
    | nil => trivial
    | cons b r => exact this
  · rcases List.mem_cons.mp hp with rfl | hp
    · rw [List.take_add_one, ho] at he
      rcases List.mem_append.mp he with he | he
      · exact h.edS _ (.head _) e he
      · simp at he; subst he; exact seen
    · exact h.edS p (.tail _ hp) e he
theorem DInv.push (h : DInv E D ((s, g) :: r)) {o : Nat} (ho : (E s)[g]? = some o) (nD : o ∉ D) (nS : o ∉ s :: tops r) : DInv E D ((o, 0) :: (s, g + 1) :: r) := by
  have mo := List.mem_of_getElem? ho
  refine ⟨?_, ⟨mo, ?_⟩, fun d hd e he => (h.edD d hd e he).imp id (.tail _), fun p hp e he => ?_, ⟨fun u hu w => ?_, h.low⟩, fun u hu v hv w => ?_⟩
  · have := h.nd
    rw [List.nodup_append] at this ⊢
    refine ⟨this.1, List.nodup_cons.mpr ⟨nS, this.2.1⟩, fun a ha c hc e => ?_⟩
    rcases List.mem_cons.mp hc with rfl | hc
    · exact nD (e ▸ ha)
    · exact this.2.2 a ha c hc e
  · have := h.path
    cases r with
    | nil => trivial
    | cons b r => exact this
  · rcases List.mem_cons.mp hp with rfl | hp
    · simp at he
    · rcases List.mem_cons.mp hp with rfl | hp
      · rw [List.take_add_one, ho] at he
        rcases List.mem_append.mp he with he | he
        · exact (h.edS _ (.head _) e he).imp id (.tail _)
        · simp at he; subst he; exact .inr (.head _)
      · exact (h.edS p (.tail _ hp) e he).imp id (.tail _)
  · obtain ⟨x, hx, h1, _⟩ := h.out w hu nD
    obtain ⟨y, hy, e⟩ := h.low.mem u hu x hx h1
    exact ⟨y, .tail _ hy, e⟩
  · obtain ⟨x, e, q⟩ := h.late u hu v hv w
    exact ⟨x, e, q.imp (.tail _) id⟩
theorem low_more {p : Nat × Nat} : ∀ {r : List (Nat × Nat)}, Low E D r → (∀ q ∈ r, Rch E q.1 s) → Low E (D ++ [s]) r
  | [], _, _ => trivial
  | q :: r, h, k => by
    refine ⟨fun u hu w => ?_, low_more (p := p) h.2 fun x hx => k x (.tail _ hx)⟩
    rcases List.mem_append.mp hu with hu' | hu'
    · exact h.1 u hu' w
    · obtain rfl := List.mem_singleton.mp hu'
      exact ⟨q.1, .head _, w, k q (.head _)⟩
theorem after_more {v u : Nat} (h : After D v u) : After (D ++ [s]) v u := by
  obtain ⟨a, b, e, m⟩ := h
  refine ⟨a, b ++ [s], by rw [e]; simp, ?_⟩
  rcases List.mem_cons.mp m with rfl | m
  · exact .head _
  · exact .tail _ (List.mem_append_left _ m)
theorem after_last {v : Nat} (h : v ∈ D ++ [s]) : After (D ++ [s]) v s := by
  rcases List.mem_append.mp h with h | h
  · obtain ⟨a, b, e⟩ := List.append_of_mem h
    exact ⟨a, b ++ [s], by rw [e]; simp, .tail _ (List.mem_append_right _ (.head _))⟩
  · obtain rfl := List.mem_singleton.mp h
    exact ⟨D, [], rfl, .head _⟩
theorem DInv.done (h : DInv E D ((s, g) :: r)) (hg : (E s).length ≤ g) : DInv E (D ++ [s]) r := by
  have rch := chain_reach h.path
  refine ⟨?_, chain_tail h.path, fun d hd e he => ?_, fun p hp e he => ?_, low_more (p := (s, g)) h.low.2 rch, fun u hu v hv w => ?_⟩
  · have := h.nd
    simpa [tops] using this
  · have : e ∈ D ∨ e ∈ s :: tops r := by
      rcases List.mem_append.mp hd with hd | hd
      · exact h.edD d hd e he
      · obtain rfl := List.mem_singleton.mp hd
        exact h.edS _ (.head _) e (by rw [List.take_of_length_le hg]; exact he)
    rcases this with q | q
    · exact .inl (List.mem_append_left _ q)
    · rcases List.mem_cons.mp q with rfl | q
      · exact .inl (by simp)
      · exact .inr q
  · rcases h.edS p (.tail _ hp) e he with q | q
    · exact .inl (List.mem_append_left _ q)
    · rcases List.mem_cons.mp q with rfl | q
      · exact .inl (by simp)
      · exact .inr q
  · rcases List.mem_append.mp hu with hu' | hu'
    · rcases List.mem_append.mp hv with hv' | hv'
      · obtain ⟨x, e, q⟩ := h.late u hu' v hv' w
        refine ⟨x, e, ?_⟩
        rcases q with q | q
        · rcases List.mem_cons.mp q with rfl | q
          · exact .inr (after_last hv)
          · exact .inl q
        · exact .inr (after_more q)
      · have ev := List.mem_singleton.mp hv'
        obtain ⟨x, hx, e⟩ := h.low.1 u hu' (by rw [ev] at w; exact w)
        refine ⟨x, e, ?_⟩
        rcases List.mem_cons.mp hx with ex | hx
        · rw [ex]; exact .inr (after_last hv)
        · exact .inl hx
    · rw [List.mem_singleton.mp hu']
      exact ⟨s, .refl s, .inr (after_last hv)⟩
theorem DInv.end_ (h : DInv E D []) {u v : Nat} (hu : u ∈ D) (hv : v ∈ D) (w : Rch E u v) : ∃ x, Eqv E u x ∧ After D v x := by
  obtain ⟨x, e, q⟩ := h.late u hu v hv w
  exact ⟨x, e, q.elim (fun q => nomatch q) id⟩
end
end GR
end
section
set_option maxRecDepth 100000
namespace GR
section
variable {E : Nat → List Nat} {D P N : List Nat} {r : Nat}
theorem split_one : ∀ {a a' b b' : List Nat}, (a ++ r :: b).Nodup → a ++ r :: b = a' ++ r :: b' → b = b'
  | [], [], b, b', _, e => (List.cons.inj e).2
  | [], x :: a', b, b', h, e => by
    obtain ⟨e1, e2⟩ := List.cons.inj e
    subst e1
    exact absurd (by rw [e2]; simp) (List.nodup_cons.mp h).1
  | x :: a, [], b, b', h, e => by
    obtain ⟨e1, e2⟩ := List.cons.inj e
    subst e1
    exact absurd (by simp) (List.nodup_cons.mp h).1
  | x :: a, y :: a', b, b', h, e => split_one (List.nodup_cons.mp h).2 (List.cons.inj e).2
structure Fin (E : Nat → List Nat) (D : List Nat) : Prop where
  nd : D.Nodup
  cl : ∀ d ∈ D, ∀ e ∈ E d, e ∈ D
  late : ∀ u ∈ D, ∀ v ∈ D, Rch E u v → ∃ x, Eqv E u x ∧ After D v x
theorem DInv.fin (h : DInv E D []) : Fin E D := ⟨by simpa [tops] using h.nd, fun d hd e he => (h.edD d hd e he).elim id (fun q => nomatch q), fun u hu v hv w => h.end_ hu hv w⟩
theorem Fin.reach (f : Fin E D) {u v : Nat} (w : Rch E u v) : u ∈ D → v ∈ D := by
  induction w with
  | refl a => exact id
  | step e _ ih => exact fun h => ih (f.cl _ h _ e)
def Full (E : Nat → List Nat) (P : List Nat) : Prop := ∀ x ∈ P, ∀ y, Eqv E x y → y ∈ P
theorem Fin.after (f : Fin E D) {a b : List Nat} (e : D = a ++ r :: b) {x : Nat} (h : After D r x) : x = r ∨ x ∈ b := by
  obtain ⟨a', b', e', m⟩ := h
  have : b = b' := split_one (by rw [← e]; exact f.nd) (e.symm.trans e')
  rw [this]
  exact List.mem_cons.mp m
theorem back_in (f : Fin E D) (full : Full E P) (hr : r ∉ P) (rN : r ∈ N) (cl : ∀ m ∈ N, ∀ x ∈ D, m ∈ E x → x ∈ P ∨ x ∈ N) {x : Nat} (w : Rch E x r) : x ∈ D → Rch E r x → x ∈ N := by
  generalize et : r = t at w
  induction w with
  | refl c => exact fun _ _ => et ▸ rN
  | @step x b c e1 w ih =>
    intro hD k
    subst et
    have hb := ih rfl (f.cl _ hD _ e1) (k.trans (.one e1))
    rcases cl _ hb _ hD e1 with q | q
    · exact absurd (full _ q _ ⟨.step e1 w, k⟩) hr
    · exact q
theorem class_of (f : Fin E D) {a b : List Nat} (e : D = a ++ r :: b) (hb : ∀ x ∈ b, x ∈ P) (full : Full E P) (hr : r ∉ P) (rN : r ∈ N) (inn : ∀ w ∈ N, w ∈ D ∧ w ∉ P ∧ Rch E w r) (cl : ∀ m ∈ N, ∀ x ∈ D, m ∈ E x → x ∈ P ∨ x ∈ N) (x : Nat) : x ∈ N ↔ Eqv E r x := by
  have rD : r ∈ D := by rw [e]; simp
  constructor
  · intro hx
    obtain ⟨h1, h2, h3⟩ := inn x hx
    obtain ⟨y, ey, ay⟩ := f.late x h1 r rD h3
    rcases f.after e ay with rfl | q
    · exact ey.symm
    · exact absurd (full y (hb y q) x ey.symm) h2
  · intro hx
    exact back_in f full hr rN cl hx.2 (f.reach hx.1 rD) hx.1
end
end GR
end
section
set_option maxRecDepth 100000
namespace GR
section
variable {E : Nat → List Nat} {D P M R : List Nat} {r : Nat}
structure NInv (E : Nat → List Nat) (D P : List Nat) (r : Nat) (M R : List Nat) : Prop where
  nd : (M ++ R).Nodup
  rn : r ∈ M ++ R
  inn : ∀ w ∈ M ++ R, w ∈ D ∧ w ∉ P ∧ Rch E w r
  cl : ∀ m ∈ M, ∀ x ∈ D, m ∈ E x → x ∈ P ∨ x ∈ M ++ R
theorem NInv.pop {h : Nat} {X : List Nat} (n : NInv E D P r M (R ++ [h])) (xn : X.Nodup) (xi : ∀ x ∈ X, x ∈ D ∧ h ∈ E x ∧ x ∉ P ∧ x ∉ M ++ (R ++ [h])) (xa : ∀ x ∈ D, h ∈ E x → x ∈ P ∨ x ∈ M ++ (R ++ [h]) ∨ x ∈ X) : NInv E D P r (M ++ [h]) (R ++ X) := by
  have mem : ∀ x, x ∈ (M ++ [h]) ++ (R ++ X) ↔ x ∈ M ++ (R ++ [h]) ∨ x ∈ X := fun x => by
    simp only [List.mem_append, List.mem_singleton]
    constructor
    · rintro ((a | a) | a | a)
      · exact .inl (.inl a)
      · exact .inl (.inr (.inr a))
      · exact .inl (.inr (.inl a))
      · exact .inr a
    · rintro ((a | a | a) | a)
      · exact .inl (.inl a)
      · exact .inr (.inl a)
      · exact .inl (.inr a)
      · exact .inr (.inr a)
  have hh : h ∈ M ++ (R ++ [h]) := by simp
  refine ⟨?_, (mem r).mpr (.inl n.rn), fun w hw => ?_, fun m hm x hx e => ?_⟩
  · have p : (M ++ (R ++ [h])).Perm ((M ++ [h]) ++ R) := by
      rw [List.append_assoc]
      exact List.Perm.append_left M (List.perm_append_comm)
    have nd1 : ((M ++ [h]) ++ R).Nodup := p.nodup_iff.mp n.nd
    rw [← List.append_assoc, List.nodup_append]
    exact ⟨nd1, xn, fun a ha b hb e => (xi b hb).2.2.2 (e ▸ p.mem_iff.mpr ha)⟩
  · rcases (mem w).mp hw with q | q
    · exact n.inn w q
    · obtain ⟨h1, h2, h3, _⟩ := xi w q
      exact ⟨h1, h3, .step h2 (n.inn h hh).2.2⟩
  · rcases List.mem_append.mp hm with q | q
    · exact (n.cl m q x hx e).imp id fun q => (mem x).mpr (.inl q)
    · obtain rfl := List.mem_singleton.mp q
      exact (xa x hx e).imp id (mem x).mpr
structure CInv (E : Nat → List Nat) (D b P : List Nat) (cs : List (List Nat)) : Prop where
  sub : ∀ x ∈ P, x ∈ D
  got : ∀ x ∈ b, x ∈ P
  full : Full E P
  cov : ∀ x, x ∈ P ↔ ∃ c ∈ cs, x ∈ c
  cls : ∀ c ∈ cs, c.Nodup ∧ ∃ r ∈ D, (∀ x, x ∈ c ↔ Eqv E r x) ∧ ∀ z, After D r z → z ∈ P
  ord : cs.Pairwise fun c k => ∀ x ∈ k, ∀ y ∈ E x, y ∉ c
variable {a b : List Nat} {cs : List (List Nat)}
theorem CInv.old (c : CInv E D b P cs) (h : r ∈ P) : CInv E D (r :: b) P cs := ⟨c.sub, fun x hx => (List.mem_cons.mp hx).elim (fun e => e ▸ h) (c.got x), c.full, c.cov, c.cls, c.ord⟩
theorem CInv.more (f : Fin E D) (i : CInv E D b P cs) (e : D = a ++ r :: b) (hr : r ∉ P) (n : NInv E D P r M []) {c P' : List Nat} (hc : ∀ x, x ∈ c ↔ x ∈ M) (cn : c.Nodup) (hP : ∀ x, x ∈ P' ↔ x ∈ P ∨ x ∈ M) : CInv E D (r :: b) P' (cs ++ [c]) := by
  have n1 := n.rn; have n2 := n.inn; have n3 := n.cl
  simp only [List.append_nil] at n1 n2 n3
  have ck := class_of f e i.got i.full hr n1 n2 n3
  have rD : r ∈ D := by rw [e]; simp
  refine ⟨fun x hx => ?_, fun x hx => ?_, fun x hx y ey => ?_, fun x => ?_, fun k hk => ?_, ?_⟩
  · rcases (hP x).mp hx with q | q
    · exact i.sub x q
    · exact (n2 x q).1
  · rw [hP]
    rcases List.mem_cons.mp hx with rfl | q
    · exact .inr n1
    · exact .inl (i.got x q)
  · rw [hP]
    rcases (hP x).mp hx with q | q
    · exact .inl (i.full x q y ey)
    · exact .inr ((ck y).mpr (((ck x).mp q).trans ey))
  · rw [hP, i.cov]
    constructor
    · rintro (⟨k, hk, q⟩ | q)
      · exact ⟨k, List.mem_append_left _ hk, q⟩
      · exact ⟨c, by simp, (hc x).mpr q⟩
    · rintro ⟨k, hk, q⟩
      rcases List.mem_append.mp hk with hk | hk
      · exact .inl ⟨k, hk, q⟩
      · rw [List.mem_singleton.mp hk] at q
        exact .inr ((hc x).mp q)
  · rcases List.mem_append.mp hk with hk | hk
    · obtain ⟨k1, r0, h0, k2, k3⟩ := i.cls k hk
      exact ⟨k1, r0, h0, k2, fun z hz => (hP z).mpr (.inl (k3 z hz))⟩
    · rw [List.mem_singleton.mp hk]
      refine ⟨cn, r, rD, fun x => (hc x).trans (ck x), fun z hz => (hP z).mpr ?_⟩
      rcases f.after e hz with rfl | q
      · exact .inr n1
      · exact .inl (i.got z q)
  · rw [List.pairwise_append]
    refine ⟨i.ord, by simp, fun k hk k' hk' x hx y hy hyk => ?_⟩
    rw [List.mem_singleton.mp hk'] at hx
    obtain ⟨_, r0, h0, k2, k3⟩ := i.cls k hk
    have hxM := (hc x).mp hx
    obtain ⟨xD, xP, _⟩ := n2 x hxM
    have w : Rch E x r0 := .step hy ((k2 y).mp hyk).2
    obtain ⟨z, ez, az⟩ := f.late x xD r0 h0 w
    exact xP (i.full z (k3 z az) x ez.symm)
theorem CInv.all (i : CInv E D D P cs) : (∀ x, x ∈ D ↔ ∃ c ∈ cs, x ∈ c) ∧ (∀ c ∈ cs, c.Nodup ∧ ∃ r ∈ c, ∀ x, x ∈ c ↔ Eqv E r x) ∧ cs.Pairwise fun c k => ∀ x ∈ k, ∀ y ∈ E x, y ∉ c := by
  refine ⟨fun x => ?_, fun c hc => ?_, i.ord⟩
  · rw [← i.cov]
    exact ⟨i.got x, i.sub x⟩
  · obtain ⟨h1, r, _, h2, _⟩ := i.cls c hc
    exact ⟨h1, r, (h2 r).mpr (.refl r), h2⟩
end
end GR
end
section
set_option maxRecDepth 100000
namespace GR
section
variable {E : Nat → List Nat} {V : List Nat} {cs : List (List Nat)}
def R1 (E : Nat → List Nat) (u v : Nat) : Prop := ∃ x ∈ E u, Rch E x v
theorem R1.rch {u v : Nat} (h : R1 E u v) : Rch E u v := let ⟨x, m, w⟩ := h; .step m w
theorem R1.more {u v w : Nat} (h : R1 E u v) (k : Rch E v w) : R1 E u w := let ⟨x, m, a⟩ := h; ⟨x, m, a.trans k⟩
theorem Rch.r1 {u v w : Nat} (h : Rch E u v) (k : R1 E v w) : R1 E u w := by
  cases h with
  | refl => exact k
  | step e r => exact ⟨_, e, r.trans k.rch⟩
theorem Rch.ne {u v : Nat} (h : Rch E u v) (ne : u ≠ v) : R1 E u v := by
  cases h with
  | refl => exact absurd rfl ne
  | step e r => exact ⟨_, e, r⟩
theorem up_eq : ∀ {l m : List Nat}, l.Pairwise (· < ·) → m.Pairwise (· < ·) → (∀ k, k ∈ l ↔ k ∈ m) → l = m
  | [], [], _, _, _ => rfl
  | [], y :: m, _, _, h => nomatch (h y).mpr (.head _)
  | x :: l, [], _, _, h => nomatch (h x).mp (.head _)
  | x :: l, y :: m, a, b, h => by
    obtain ⟨a1, a2⟩ := List.pairwise_cons.mp a
    obtain ⟨b1, b2⟩ := List.pairwise_cons.mp b
    have e : x = y := by
      rcases List.mem_cons.mp ((h x).mp (.head _)) with e | e
      · exact e
      · rcases List.mem_cons.mp ((h y).mpr (.head _)) with e2 | e2
        · exact e2.symm
        · have := a1 y e2; have := b1 x e; omega
    subst e
    rw [up_eq a2 b2 fun k => ⟨fun hk => ?_, fun hk => ?_⟩]
    · rcases List.mem_cons.mp ((h k).mp (.tail _ hk)) with e | e
      · have := a1 k hk; omega
      · exact e
    · rcases List.mem_cons.mp ((h k).mpr (.tail _ hk)) with e | e
      · have := b1 k hk; omega
      · exact e
structure Clss (E : Nat → List Nat) (V : List Nat) (cs : List (List Nat)) : Prop where
  cov : ∀ x, x ∈ V ↔ ∃ c ∈ cs, x ∈ c
  up : ∀ c ∈ cs, c.Pairwise (· < ·)
  cls : ∀ c ∈ cs, ∃ r ∈ c, ∀ x, x ∈ c ↔ Eqv E r x
  ord : cs.Pairwise fun c k => ∀ x ∈ k, ∀ y ∈ E x, y ∉ c
  dis : cs.Pairwise fun c k => ∀ x ∈ k, x ∉ c
  few : cs.length ≤ 8
noncomputable def pd (p : Prop) : Bool := @decide p (Classical.propDecidable p)
theorem pd_iff {p : Prop} : pd p = true ↔ p := @decide_eq_true_iff p (Classical.propDecidable p)
noncomputable def clsOf (E : Nat → List Nat) (V : List Nat) (s : Nat) : List Nat := V.filter fun t => pd (R1 E s t ∧ R1 E t s)
theorem Clss.same (h : Clss E V cs) {c : List Nat} (hc : c ∈ cs) {s : Nat} (hs : s ∈ c) (x : Nat) : x ∈ c ↔ Eqv E s x := by
  obtain ⟨r, hr, q⟩ := h.cls c hc
  have e := (q s).mp hs
  rw [q]
  exact ⟨fun k => e.symm.trans k, fun k => e.trans k⟩
theorem self_iff {s x : Nat} (h : R1 E s s) : Eqv E s x ↔ R1 E s x ∧ R1 E x s :=
  ⟨fun k => ⟨h.more k.1, k.2.r1 h⟩, fun k => ⟨k.1.rch, k.2.rch⟩⟩
theorem Clss.is (h : Clss E V cs) (vu : V.Pairwise (· < ·)) {c : List Nat} (hc : c ∈ cs) {s : Nat} (hs : s ∈ c) (k : R1 E s s) : c = clsOf E V s := by
  refine up_eq (h.up c hc) (List.Pairwise.filter _ vu) fun x => ?_
  unfold clsOf
  rw [List.mem_filter, pd_iff, ← self_iff k, h.same hc hs]
  exact ⟨fun e => ⟨(h.cov x).mpr ⟨c, hc, (h.same hc hs x).mpr e⟩, e⟩, fun e => e.2⟩
theorem Clss.nd (h : Clss E V cs) : cs.Nodup := h.dis.imp_of_mem fun {c k} _ hk q e => by
  subst e
  obtain ⟨r, hr, _⟩ := h.cls c hk
  exact q r hr hr
theorem Clss.le (h : Clss E V cs) : cs.length ≤ V.length := by
  have key : ∀ l : List (List Nat), (∀ c ∈ l, c ∈ cs) → l.Pairwise (fun c k => ∀ x ∈ k, x ∉ c) → (l.map fun c => c.headD 0).Nodup := by
    intro l hl p
    refine List.pairwise_map.mpr (p.imp_of_mem fun {c k} hc hk q e => ?_)
    obtain ⟨r, hr, _⟩ := h.cls c (hl c hc)
    obtain ⟨t, ht, _⟩ := h.cls k (hl k hk)
    match c, k, hr, ht, q, e with
    | a :: _, b :: _, _, _, q, e =>
      have e : a = b := e
      exact q b (.head _) (by rw [← e]; exact .head _)
  have := (key cs (fun _ h => h) h.dis).length_le_of_subset (l₂ := V) fun u hu => by
    obtain ⟨c, hc, rfl⟩ := List.mem_map.mp hu
    obtain ⟨r, hr, _⟩ := h.cls c hc
    match c, hr, hc with
    | a :: l, _, hc => exact (h.cov a).mpr ⟨_, hc, .head _⟩
  simpa using this
end
end GR
end
section
set_option maxRecDepth 100000
namespace LC
open PySem L2
open DL hiding tI
abbrev Mv := Nat × List Int × Nat
def Path (mv : List Mv) : Nat → List Mv → Nat → Prop
  | a, [], b => a = b
  | a, m :: l, b => m ∈ mv ∧ m.1 = a ∧ Path mv m.2.2 l b
section
variable {mv : List Mv} {a b c : Nat} {l k : List Mv}
theorem Path.one {m : Mv} (h : m ∈ mv) : Path mv m.1 [m] m.2.2 := ⟨h, rfl, rfl⟩
theorem Path.sub : ∀ {a : Nat} {l : List Mv}, Path mv a l b → ∀ m ∈ l, m ∈ mv
  | _, [], _, _, q => nomatch q
  | _, _ :: _, h, m, q => (List.mem_cons.mp q).elim (fun e => e ▸ h.1) (h.2.2.sub m)
theorem Path.next : ∀ {a : Nat} {l : List Mv}, Path mv a l b → ∀ (i : Nat) (m : Mv), l[i]? = some m → (∃ m', l[i + 1]? = some m' ∧ m'.1 = m.2.2) ∨ (l.length = i + 1 ∧ m.2.2 = b)
  | _, [], _, i, m, e => by simp at e
  | _, x :: l, h, 0, m, e => by
    simp at e; subst e
    cases l with
    | nil => exact .inr ⟨rfl, h.2.2⟩
    | cons y l => exact .inl ⟨y, rfl, h.2.2.2.1⟩
  | _, x :: l, h, i + 1, m, e => by
    rcases h.2.2.next i m (by simpa using e) with ⟨m', e1, e2⟩ | ⟨e1, e2⟩
    · exact .inl ⟨m', by simpa using e1, e2⟩
    · exact .inr ⟨by simp [e1], e2⟩
structure Walk (mv : List Mv) (V : List Nat) (s0 : Nat) (g : List Mv) : Prop where
  ne : g ≠ []
  sub : ∀ m ∈ g, m ∈ mv
  next : ∀ (i : Nat) (m : Mv), g[i]? = some m → ∃ m', g[(i + 1) % g.length]? = some m' ∧ m'.1 = m.2.2
  all : ∀ v ∈ V, ∃ m ∈ g, m.1 = v
  head : ∃ m, g[0]? = some m ∧ m.1 = s0
end
end LC
end
section
set_option maxRecDepth 100000
namespace LC
open PySem L2
open DL hiding tI
abbrev Rw := Nat × List Int
def rD (r : Rw) : D := .tup [.int (r.1 : Nat), tI r.2]
end LC
end
section
set_option maxRecDepth 100000
namespace LC
open PySem L2
open DL hiding tI
def stayW (w : Wk) : Wk := { w with cs := (List.range w.sh.length).map fun s => .go (s : Nat) }
def stay (st : List Nat) (ws : List Wk) : List Wk := ws.mapIdx fun j w => if j ∈ st then stayW w else w
section
variable {ws : List Wk} {st : List Nat} {box about lots : List (List Int)}
theorem stay_at {i : Nat} {w : Wk} (e : ws[i]? = some w) : (stay st ws)[i]? = some (if i ∈ st then stayW w else w) := by
  unfold stay
  rw [List.getElem?_mapIdx, e]; rfl
theorem stay_len : (stay st ws).length = ws.length := by simp [stay]
theorem stay_m (w : Wk) {p : Prop} [Decidable p] : (if p then stayW w else w).m = w.m ∧ (if p then stayW w else w).sh = w.sh := by split <;> exact ⟨rfl, rfl⟩
theorem stay_map {β : Type} {f : Wk → β} (hf : ∀ w, f (stayW w) = f w) : (stay st ws).map f = ws.map f := by
  refine List.ext_getElem? fun i => ?_
  rw [List.getElem?_map, List.getElem?_map]
  cases e : ws[i]? with
  | none =>
    have : (stay st ws)[i]? = none := by rw [List.getElem?_eq_none_iff] at e ⊢; rw [stay_len]; exact e
    rw [this]
  | some w =>
    rw [stay_at e]
    show some (f (if i ∈ st then stayW w else w)) = some (f w)
    split
    · rw [hf]
    · rfl
theorem stay_ns : nsOf (stay st ws) = nsOf ws := stay_map fun _ => rfl
theorem stay_ms : msOf (stay st ws) = msOf ws := stay_map fun _ => rfl
theorem stay_sh : shB (stay st ws) box = shB ws box := by
  refine List.ext_getElem? fun i => ?_
  unfold shB
  rw [List.getElem?_zipWith, List.getElem?_zipWith]
  cases e : ws[i]? with
  | none =>
    have : (stay st ws)[i]? = none := by rw [List.getElem?_eq_none_iff] at e ⊢; rw [stay_len]; exact e
    rw [this]
  | some w =>
    rw [stay_at e]
    cases box[i]? with
    | none => rfl
    | some l =>
      show some (shW (if i ∈ st then stayW w else w) l) = some (shW w l)
      unfold shW
      rw [(stay_m w).2]
theorem stay_ok (hn : NetOk ws) : NetOk (stay st ws) := by
  refine ⟨by rw [stay_len]; exact hn.l1, by rw [stay_len]; exact hn.l5, fun v hv => ?_⟩
  rw [stay_ms]
  obtain ⟨i, hi⟩ := mem_ix hv
  have lt : i < ws.length := by rw [← stay_len (st := st)]; exact (List.getElem?_eq_some_iff.mp hi).1
  have e := List.getElem?_eq_getElem lt
  rw [stay_at e] at hi
  have ok := hn.ok _ (List.mem_of_getElem? e)
  generalize ws[i] = w at hi ok
  cases Option.some.inj hi
  split
  · refine ⟨ok.s1, ok.s5, by simp [stayW], ok.m1, ok.m4, ok.sh, fun c hc => ?_⟩
    obtain ⟨s, hs, rfl⟩ := List.mem_map.mp hc
    have := List.mem_range.mp hs
    have := ok.s5
    have e2 : (stayW w).sh.length = w.sh.length := rfl
    refine ⟨?_, ?_⟩
    · simp only [Cd.Ok]; omega
    · simp only [Cd.To]; omega
  · exact ok
theorem stW_stay {w : Wk} {l : List Int} (hu : l.Pairwise (· < ·)) (hf : ∀ k ∈ l, 0 ≤ k ∧ k < (w.sh.length : Int)) : stW lots (stayW w) l = l := by
  refine up_unique (sortS_up _) hu fun k => ?_
  show k ∈ stW lots (stayW w) l ↔ k ∈ l
  rw [stW_mem]
  refine ⟨fun h => h.elim id fun ⟨s, hs, h⟩ => ?_, .inl⟩
  obtain ⟨h0, h1⟩ := hf s hs
  have e : (stayW w).cs[s.toNat]? = some (.go (s.toNat : Nat)) := by
    show ((List.range w.sh.length).map fun s : Nat => Cd.go (s : Nat))[s.toNat]? = _
    rw [List.getElem?_map, List.getElem?_range (by omega)]; rfl
  rw [e] at h
  have h2 : k = ((s.toNat : Nat) : Int) := by simpa [stN] using h
  rw [h2, Int.toNat_of_nonneg h0]; exact hs
theorem stay_st (hn : NetOk ws) (hb : LotsOk (nsOf ws) box) (i : Nat) : (stB (stay st ws) box lots)[i]? = if i ∈ st then box[i]? else (stB ws box lots)[i]? := by
  unfold stB
  rw [List.getElem?_zipWith, List.getElem?_zipWith]
  cases e : ws[i]? with
  | none =>
    have n1 : (stay st ws)[i]? = none := by rw [List.getElem?_eq_none_iff] at e ⊢; rw [stay_len]; exact e
    have n2 : box[i]? = none := by
      rw [List.getElem?_eq_none_iff] at e ⊢
      have := hb.len
      simp [nsOf] at this; omega
    rw [n1, n2]; simp
  | some w =>
    rw [stay_at e]
    cases e2 : box[i]? with
    | none => simp
    | some l =>
      obtain ⟨b1, b2, b3, b4⟩ := box_at hb e e2
      show some (stW lots (if i ∈ st then stayW w else w) l) = if i ∈ st then some l else some (stW lots w l)
      by_cases m : i ∈ st
      · rw [if_pos m, if_pos m, stW_stay b3 b4]
      · rw [if_neg m, if_neg m]
theorem stay_fix (hn : NetOk ws) (ha : AbOk (msOf ws) about) {i : Nat} (m : i ∈ st) : ∀ (n : Nat) {b : List (List Int)}, LotsOk (nsOf ws) b → (fixB (stay st ws) about n b)[i]? = b[i]?
  | 0, b, _ => rfl
  | n + 1, b, hb => by
    unfold fixB
    split
    · rfl
    · have h1 : LotsOk (nsOf ws) (nxB (stay st ws) about b) := by
        have := nxB_ok (stay_ok (st := st) hn) (about := about) (box := b) (by rw [stay_ms]; exact ha) (by rw [stay_ns]; exact hb)
        rw [stay_ns] at this; exact this
      rw [stay_fix hn ha m n h1]
      unfold nxB
      rw [stay_st hn hb, if_pos m]
theorem stay_gr (hn : NetOk ws) (ha : AbOk (msOf ws) about) (hb : LotsOk (nsOf ws) box) {i : Nat} (m : i ∈ st) : (grB (stay st ws) about box)[i]? = box[i]? := stay_fix hn ha m 25 hb
theorem stay_gr_ok (hn : NetOk ws) (ha : AbOk (msOf ws) about) (hb : LotsOk (nsOf ws) box) : LotsOk (nsOf ws) (grB (stay st ws) about box) := by
  have := grB_ok (stay_ok (st := st) hn) (about := about) (box := box) (by rw [stay_ms]; exact ha) (by rw [stay_ns]; exact hb)
  rw [stay_ns] at this; exact this
end
end LC
end
section
set_option maxRecDepth 100000
namespace LC
open PySem L2
open DL hiding tI
abbrev KE := Nat × Int × List Int
def setsB (b : List (List Int)) (ps : List (Nat × List Int)) : List (List Int) := ps.foldl (fun b p => b.set p.1 p.2) b
theorem sets_snoc (b : List (List Int)) (ps : List (Nat × List Int)) (p : Nat × List Int) : setsB b (ps ++ [p]) = (setsB b ps).set p.1 p.2 := by simp [setsB]
theorem sets_len (b : List (List Int)) : ∀ ps : List (Nat × List Int), (setsB b ps).length = b.length := by
  intro ps
  induction ps generalizing b with
  | nil => rfl
  | cons p ps ih => show (setsB (b.set p.1 p.2) ps).length = _; rw [ih, List.length_set]
theorem sets_no {i : Nat} : ∀ {ps : List (Nat × List Int)} {b : List (List Int)}, i ∉ ps.map (·.1) → (setsB b ps)[i]? = b[i]?
  | [], _, _ => rfl
  | p :: ps, b, h => by
    simp only [List.map_cons, List.mem_cons, not_or] at h
    show (setsB (b.set p.1 p.2) ps)[i]? = _
    rw [sets_no h.2, List.getElem?_set_ne (fun e => h.1 e.symm)]
theorem sets_at : ∀ {ps : List (Nat × List Int)} {b : List (List Int)}, (ps.map (·.1)).Nodup → ∀ p ∈ ps, p.1 < b.length → (setsB b ps)[p.1]? = some p.2
  | q :: ps, b, nd, p, m, lt => by
    rw [List.map_cons, List.nodup_cons] at nd
    show (setsB (b.set q.1 q.2) ps)[p.1]? = _
    rcases List.mem_cons.mp m with rfl | m
    · rw [sets_no nd.1, List.getElem?_set_self lt]
    · exact sets_at nd.2 p m (by rw [List.length_set]; exact lt)
structure KnOk (ws : List Wk) (kn : List KE) : Prop where
  up : (kn.map (·.1)).Pairwise (· < ·)
  at_ : ∀ p ∈ kn, ∃ w, ws[p.1]? = some w ∧ 0 ≤ p.2.1 ∧ p.2.1 < (w.sh.length : Int) ∧ p.2.2.Pairwise (· < ·) ∧ (∀ x ∈ p.2.2, 0 ≤ x ∧ x < w.m) ∧ (w.sh[p.2.1.toNat]?).getD 0 ∈ p.2.2
def stK (kn : List KE) : List Nat := kn.map (·.1)
def zeB (ws : List Wk) : List (List Int) := ws.map fun _ => [0]
def noB (ws : List Wk) : List (List Int) := ws.map fun _ => []
def bgK (ws : List Wk) (kn : List KE) : List (List Int) := setsB (zeB ws) (kn.map fun p => (p.1, [p.2.1]))
def abK (ws : List Wk) (kn : List KE) : List (List Int) := setsB (noB ws) (kn.map fun p => (p.1, p.2.2))
def kbK (ws : List Wk) (kn : List KE) : List (List Int) := grB (stay (stK kn) ws) (abK ws kn) (bgK ws kn)
def ltK (ws : List Wk) (kn : List KE) : List (List Int) := jnB (shB ws (kbK ws kn)) (abK ws kn)
def cdK (ws : List Wk) (p : KE) : Cd := ((ws[p.1]?).bind fun w => w.cs[p.2.1.toNat]?).getD (.go 0)
def shK (ws : List Wk) (i : Nat) (s : Int) : Int := ((ws[i]?).bind fun w => w.sh[s.toNat]?).getD 0
def bhK (ws : List Wk) (kn : List KE) (p : KE) (k : Nat) (s : Int) : List KE := kn.set k (p.1, s, sortS (p.2.2 ++ [shK ws p.1 s]))
def nxK (ws : List Wk) (kn : List KE) : List (List KE) := kn.zipIdx.flatMap fun p => (resN (ltK ws kn) 3 (cdK ws p.1)).map fun s => bhK ws kn p.1 p.2 s
section
variable {ws : List Wk} {kn : List KE}
theorem kn_nd (h : KnOk ws kn) : (kn.map (·.1)).Nodup := h.up.imp fun q e => by omega
theorem kn_lt (h : KnOk ws kn) {p : KE} (m : p ∈ kn) : p.1 < ws.length := by
  obtain ⟨w, e, _⟩ := h.at_ p m
  exact (List.getElem?_eq_some_iff.mp e).1
theorem kn_len (hn : NetOk ws) (h : KnOk ws kn) : kn.length ≤ 5 := by
  have u : (uI (kn.map (·.1))).Pairwise (· < ·) := List.Pairwise.map _ (fun a b h => by omega) h.up
  have := up_len0 u (b := 5) fun k hk => by
    obtain ⟨i, hi, rfl⟩ := List.mem_map.mp hk
    obtain ⟨p, hp, rfl⟩ := List.mem_map.mp hi
    have := kn_lt h hp
    have := hn.l5
    omega
  simpa [uI] using this
theorem st_mem {i : Nat} : i ∈ stK kn ↔ ∃ p ∈ kn, p.1 = i := List.mem_map
theorem sets_get {f : KE → List Int} {b : List (List Int)} (h : KnOk ws kn) (l : b.length = ws.length) {i : Nat} {x : List Int} (e : (setsB b (kn.map fun p => (p.1, f p)))[i]? = some x) : (∃ p ∈ kn, p.1 = i ∧ x = f p) ∨ (i ∉ stK kn ∧ b[i]? = some x) := by
  have mm : (kn.map fun p : KE => (p.1, f p)).map (·.1) = kn.map (·.1) := by rw [List.map_map]; rfl
  by_cases m : i ∈ stK kn
  · obtain ⟨p, hp, rfl⟩ := st_mem.mp m
    have e2 := sets_at (ps := kn.map fun p : KE => (p.1, f p)) (b := b) (by rw [mm]; exact kn_nd h) (p.1, f p) (List.mem_map_of_mem (f := fun p : KE => (p.1, f p)) hp) (by rw [l]; exact kn_lt h hp)
    rw [e] at e2
    exact .inl ⟨p, hp, rfl, Option.some.inj e2⟩
  · refine .inr ⟨m, ?_⟩
    rw [sets_no (by rw [mm]; exact m)] at e
    exact e
theorem bg_len : (bgK ws kn).length = ws.length := by unfold bgK; rw [sets_len]; simp [zeB]
theorem ab_len : (abK ws kn).length = ws.length := by unfold abK; rw [sets_len]; simp [noB]
theorem bg_get (h : KnOk ws kn) {i : Nat} {x : List Int} (e : (bgK ws kn)[i]? = some x) : (∃ p ∈ kn, p.1 = i ∧ x = [p.2.1]) ∨ (i ∉ stK kn ∧ x = [0]) := by
  rcases sets_get (f := fun p => [p.2.1]) h (by simp [zeB]) e with h1 | ⟨h1, h2⟩
  · exact .inl h1
  · refine .inr ⟨h1, ?_⟩
    unfold zeB at h2
    rw [List.getElem?_map, Option.map_eq_some_iff] at h2
    obtain ⟨_, _, e⟩ := h2
    exact e.symm
theorem ab_get (h : KnOk ws kn) {i : Nat} {x : List Int} (e : (abK ws kn)[i]? = some x) : (∃ p ∈ kn, p.1 = i ∧ x = p.2.2) ∨ (i ∉ stK kn ∧ x = []) := by
  rcases sets_get (f := fun p => p.2.2) h (by simp [noB]) e with h1 | ⟨h1, h2⟩
  · exact .inl h1
  · refine .inr ⟨h1, ?_⟩
    unfold noB at h2
    rw [List.getElem?_map, Option.map_eq_some_iff] at h2
    obtain ⟨_, _, e⟩ := h2
    exact e.symm
theorem bg_ok (hn : NetOk ws) (h : KnOk ws kn) : LotsOk (nsOf ws) (bgK ws kn) := by
  have each : ∀ x ∈ bgK ws kn, ∃ k, x = [k] := fun x m => by
    obtain ⟨i, e⟩ := mem_ix m
    rcases bg_get h e with ⟨p, _, _, rfl⟩ | ⟨_, rfl⟩ <;> exact ⟨_, rfl⟩
  refine ⟨by rw [bg_len]; simp [nsOf], fun x m => ?_, fun x m => ?_, fun i x mm e em k hk => ?_, fun x m => ?_⟩
  · obtain ⟨k, rfl⟩ := each x m; simp
  · obtain ⟨k, rfl⟩ := each x m; simp
  · unfold nsOf at em
    rw [List.getElem?_map, Option.map_eq_some_iff] at em
    obtain ⟨w, ew, rfl⟩ := em
    rcases bg_get h e with ⟨p, hp, rfl, rfl⟩ | ⟨_, rfl⟩
    · obtain ⟨w', ew', h0, h1, _⟩ := h.at_ p hp
      cases ew.symm.trans ew'
      rw [List.mem_singleton.mp hk]; exact ⟨h0, h1⟩
    · have := (hn.ok w (List.mem_of_getElem? ew)).s1
      rw [List.mem_singleton.mp hk]; omega
  · obtain ⟨k, rfl⟩ := each x m; simp
theorem ab_ok (hn : NetOk ws) (h : KnOk ws kn) : AbOk (msOf ws) (abK ws kn) := by
  have fit : ∀ (i : Nat) (x : List Int) (w : Wk), (abK ws kn)[i]? = some x → ws[i]? = some w → x.Pairwise (· < ·) ∧ ∀ k ∈ x, 0 ≤ k ∧ k < w.m := fun i x w e ew => by
    rcases ab_get h e with ⟨p, hp, rfl, rfl⟩ | ⟨_, rfl⟩
    · obtain ⟨w', ew', _, _, h2, h3, _⟩ := h.at_ p hp
      cases ew.symm.trans ew'
      exact ⟨h2, h3⟩
    · exact ⟨List.Pairwise.nil, fun k hk => by cases hk⟩
  refine ⟨by rw [ab_len]; simp [msOf], fun x m => ?_, fun i x mm e em k hk => ?_⟩
  · obtain ⟨i, e⟩ := mem_ix m
    have lt : i < ws.length := by rw [← ab_len (kn := kn)]; exact (List.getElem?_eq_some_iff.mp e).1
    obtain ⟨u, f⟩ := fit i x _ e (List.getElem?_eq_getElem lt)
    have m4 := (hn.ok _ (List.getElem_mem lt)).m4
    exact up_len0 u (b := 5) fun k hk => by have := f k hk; omega
  · unfold msOf at em
    rw [List.getElem?_map, Option.map_eq_some_iff] at em
    obtain ⟨w, ew, rfl⟩ := em
    exact (fit i x w e ew).2 k hk
theorem kb_ok (hn : NetOk ws) (h : KnOk ws kn) : LotsOk (nsOf ws) (kbK ws kn) := stay_gr_ok hn (ab_ok hn h) (bg_ok hn h)
theorem lt_ok (hn : NetOk ws) (h : KnOk ws kn) : LotsOk (msOf ws) (ltK ws kn) := jnB_ok hn.many (shB_ok hn (kb_ok hn h)) (ab_ok hn h)
theorem sh_one {w : Wk} {s : Int} : shW w [s] = [(w.sh[s.toNat]?).getD 0] := rfl
theorem kn_has (h : KnOk ws kn) {b : List (List Int)} (hb : ∀ i ∈ stK kn, b[i]? = (bgK ws kn)[i]?) {i : Nat} (m : i ∈ stK kn) {x y : List Int} (ex : (shB ws b)[i]? = some x) (ey : (abK ws kn)[i]? = some y) : y.Pairwise (· < ·) ∧ ∀ k ∈ x, k ∈ y := by
  obtain ⟨w, l, ew, el, rfl⟩ := zw_get ex
  rw [hb i m] at el
  rcases bg_get h el with ⟨p, hp, e1, rfl⟩ | ⟨n, _⟩
  · rcases ab_get h ey with ⟨q, hq, e2, rfl⟩ | ⟨n, _⟩
    · have : p = q := by
        have nd := kn_nd h
        obtain ⟨a, ha⟩ := mem_ix hp; obtain ⟨c, hc⟩ := mem_ix hq
        have hac : a = c := by
          have h1 : (kn.map (·.1))[a]? = some i := by rw [List.getElem?_map, ha]; exact congrArg some e1
          have h2 : (kn.map (·.1))[c]? = some i := by rw [List.getElem?_map, hc]; exact congrArg some e2
          exact (List.getElem?_inj (List.getElem?_eq_some_iff.mp h1).1 nd).mp (h1.trans h2.symm)
        subst hac
        exact Option.some.inj (ha.symm.trans hc)
      subst this
      obtain ⟨w', ew', _, _, h2, h3, h4⟩ := h.at_ p hp
      rw [e1] at ew'
      cases ew.symm.trans ew'
      refine ⟨h2, fun k hk => ?_⟩
      rw [sh_one, List.mem_singleton] at hk
      rw [hk]; exact h4
    · exact absurd m n
  · exact absurd m n
theorem kb_st (hn : NetOk ws) (h : KnOk ws kn) {i : Nat} (m : i ∈ stK kn) : (kbK ws kn)[i]? = (bgK ws kn)[i]? := stay_gr hn (ab_ok hn h) (bg_ok hn h) m
theorem cd_ok (hn : NetOk ws) (h : KnOk ws kn) {p : KE} (m : p ∈ kn) : ∃ w c, ws[p.1]? = some w ∧ w.cs[p.2.1.toNat]? = some c ∧ cdK ws p = c ∧ c.Ok (msOf ws) 3 ∧ c.To w.sh.length := by
  obtain ⟨w, ew, h0, h1, _⟩ := h.at_ p m
  have ok := hn.ok w (List.mem_of_getElem? ew)
  have lt : p.2.1.toNat < w.cs.length := by rw [ok.cl]; omega
  have ec := List.getElem?_eq_getElem lt
  obtain ⟨c1, c2⟩ := ok.cs _ (List.getElem_mem lt)
  refine ⟨w, _, ew, ec, ?_, c1, c2⟩
  unfold cdK
  rw [ew]
  show (w.cs[p.2.1.toNat]?).getD _ = _
  rw [ec]; rfl
theorem res_in (hn : NetOk ws) (h : KnOk ws kn) {p : KE} (m : p ∈ kn) {s : Int} (hs : s ∈ resN (ltK ws kn) 3 (cdK ws p)) : ∃ w, ws[p.1]? = some w ∧ 0 ≤ s ∧ s < (w.sh.length : Int) ∧ shK ws p.1 s = (w.sh[s.toNat]?).getD 0 := by
  obtain ⟨w, c, ew, ec, e, c1, c2⟩ := cd_ok hn h m
  rw [e] at hs
  refine ⟨w, ew, (res_fit (lt_ok hn h) c1 s hs).1, st_to (lt_ok hn h) 3 c c1 c2 s ((sortS_mem s _).mp hs), ?_⟩
  unfold shK; rw [ew]; rfl
theorem bh_ok (hn : NetOk ws) (h : KnOk ws kn) {p : KE} {k : Nat} (e : kn[k]? = some p) {s : Int} (hs : s ∈ resN (ltK ws kn) 3 (cdK ws p)) : KnOk ws (bhK ws kn p k s) := by
  have m := List.mem_of_getElem? e
  obtain ⟨w, ew, h0, h1, es⟩ := res_in hn h m hs
  obtain ⟨w', ew', _, _, h2, h3, _⟩ := h.at_ p m
  cases ew.symm.trans ew'
  have ok := hn.ok w (List.mem_of_getElem? ew)
  have e1 : (bhK ws kn p k s).map (·.1) = kn.map (·.1) := by
    unfold bhK
    rw [List.map_set]
    refine List.ext_getElem? fun j => ?_
    rw [List.getElem?_set]
    by_cases ej : k = j
    · subst ej
      have lt := (List.getElem?_eq_some_iff.mp e).1
      rw [if_pos rfl, if_pos (by simpa using lt), List.getElem?_map, e]; rfl
    · rw [if_neg ej]
  refine ⟨by rw [e1]; exact h.up, fun q hq => ?_⟩
  have ln : s.toNat < w.sh.length := by omega
  rcases List.mem_or_eq_of_mem_set hq with hq | rfl
  · exact h.at_ q hq
  · refine ⟨w, ew, h0, h1, sortS_up _, fun x hx => ?_, ?_⟩
    · rw [sortS_mem, List.mem_append] at hx
      rcases hx with hx | hx
      · exact h3 x hx
      · rw [List.mem_singleton.mp hx, es, List.getElem?_eq_getElem ln]
        exact ok.sh _ (List.getElem_mem ln)
    · rw [sortS_mem, ← es]; simp
theorem nx_ok (hn : NetOk ws) (h : KnOk ws kn) : ∀ kk ∈ nxK ws kn, KnOk ws kk := fun kk m => by
  obtain ⟨⟨p, k⟩, hp, hm⟩ := List.mem_flatMap.mp m
  obtain ⟨s, hs, rfl⟩ := List.mem_map.mp hm
  exact bh_ok hn h (by rw [List.mem_zipIdx_iff_getElem?] at hp; exact hp) hs
theorem nx_st {kk : List KE} (m : kk ∈ nxK ws kn) : stK kk = stK kn := by
  obtain ⟨⟨p, k⟩, hp, hm⟩ := List.mem_flatMap.mp m
  obtain ⟨s, hs, rfl⟩ := List.mem_map.mp hm
  rw [List.mem_zipIdx_iff_getElem?] at hp
  unfold stK bhK
  rw [List.map_set]
  refine List.ext_getElem? fun j => ?_
  rw [List.getElem?_set]
  by_cases ej : k = j
  · subst ej
    have lt := (List.getElem?_eq_some_iff.mp (show kn[k]? = some p from hp)).1
    rw [if_pos rfl, if_pos (by simpa using lt), List.getElem?_map, show kn[k]? = some p from hp]; rfl
  · rw [if_neg ej]
theorem lt_sets (hn : NetOk ws) (h : KnOk ws kn) : setsB (shB ws (kbK ws kn)) (kn.map fun p => (p.1, p.2.2)) = ltK ws kn := by
  have f := shB_ok hn (kb_ok hn h)
  have fl : (shB ws (kbK ws kn)).length = ws.length := by have := f.len; simpa [msOf] using this
  have mm : (kn.map fun p : KE => (p.1, p.2.2)).map (·.1) = kn.map (·.1) := by rw [List.map_map]; rfl
  refine List.ext_getElem? fun i => ?_
  unfold ltK jnB
  rw [List.getElem?_zipWith]
  by_cases lt : i < ws.length
  · have ex := List.getElem?_eq_getElem (show i < (shB ws (kbK ws kn)).length by omega)
    have ey := List.getElem?_eq_getElem (show i < (abK ws kn).length by rw [ab_len]; omega)
    generalize (shB ws (kbK ws kn))[i]'(by omega) = x at ex
    generalize (abK ws kn)[i]'(by rw [ab_len]; omega) = y at ey
    rw [ex, ey]
    show _ = some (sortS (x ++ y))
    by_cases m : i ∈ stK kn
    · obtain ⟨h1, h2⟩ := kn_has h (b := kbK ws kn) (fun j mj => kb_st hn h mj) m ex ey
      have e3 : sortS (x ++ y) = y := up_unique (sortS_up _) h1 fun k => by rw [sortS_mem, List.mem_append]; exact ⟨fun h => h.elim (h2 k) id, .inr⟩
      obtain ⟨p, hp, rfl⟩ := st_mem.mp m
      have e4 := sets_at (ps := kn.map fun p : KE => (p.1, p.2.2)) (b := noB ws) (by rw [mm]; exact kn_nd h) (p.1, p.2.2) (List.mem_map_of_mem (f := fun p : KE => (p.1, p.2.2)) hp) (by simp [noB]; exact lt)
      have e5 := sets_at (ps := kn.map fun p : KE => (p.1, p.2.2)) (b := shB ws (kbK ws kn)) (by rw [mm]; exact kn_nd h) (p.1, p.2.2) (List.mem_map_of_mem (f := fun p : KE => (p.1, p.2.2)) hp) (by omega)
      have e6 : y = p.2.2 := Option.some.inj (ey.symm.trans e4)
      rw [e3, e5, e6]
    · have e4 : (abK ws kn)[i]? = (noB ws)[i]? := sets_no (by rw [mm]; exact m)
      have e5 : y = [] := by
        rw [ey] at e4
        unfold noB at e4
        rw [List.getElem?_map] at e4
        obtain ⟨_, _, e⟩ := Option.map_eq_some_iff.mp e4.symm
        exact e.symm
      rw [sets_no (by rw [mm]; exact m), ex, e5, List.append_nil, sort_id (f.up x (List.mem_of_getElem? ex))]
  · rw [List.getElem?_eq_none (by rw [sets_len]; omega), List.getElem?_eq_none (show (shB ws (kbK ws kn)).length ≤ i by omega)]
end
end LC
end
section
set_option maxRecDepth 100000
namespace LW
open PySem PySem.Spec L2 DL
def top (i : Nat) : Stmt := PySem.Challenge.pw_oldletters_k40_knots_and_their_boxes.main.body.getD i (.Pass ⟨0, 0, 0, 0⟩)
abbrev s_steps_of : Stmt := top 5
abbrev s_results_of : Stmt := top 6
abbrev s_is_integer : Stmt := top 8
abbrev s_is_index : Stmt := top 9
abbrev s_looked_at : Stmt := top 11
abbrev s_letter_at : Stmt := top 12
abbrev s_code_at : Stmt := top 13
abbrev s_shown_lots : Stmt := top 14
abbrev s_joined_lots : Stmt := top 16
abbrev s_stepped : Stmt := top 17
abbrev s_grown : Stmt := top 18
abbrev s_first_knot : Stmt := top 20
abbrev s_movers_of : Stmt := top 21
abbrev s_lots_of_knot : Stmt := top 22
abbrev s_knot_box : Stmt := top 23
abbrev s_behind_knot : Stmt := top 24
abbrev s_about_knot : Stmt := top 25
abbrev s_knots_by : Stmt := top 26
abbrev s_next_knots : Stmt := top 27
abbrev s__law_bag : Stmt := top 29
abbrev s__law_take : Stmt := top 30
abbrev s__law_alike : Stmt := top 31
abbrev s__law_free : Stmt := top 32
abbrev s__law_form : Stmt := top 33
abbrev s__law_worker : Stmt := top 34
abbrev s__law_net : Stmt := top 35
abbrev s__law_lot : Stmt := top 36
abbrev s__law_steps : Stmt := top 37
abbrev s__law_results : Stmt := top 38
abbrev s__law_shown : Stmt := top 39
abbrev s__law_grown : Stmt := top 40
abbrev s__law_knot_box : Stmt := top 41
abbrev s__law_knot_next : Stmt := top 42
abbrev s__law_knot_any : Stmt := top 43
abbrev s__law_begin_knot : Stmt := top 44
abbrev s_law : Stmt := top 45
def b_steps_of : M Fl := (seqM (asgM 2 (lstM nilA))
  (seqM (asgM 3 (lstM (consA (tupM (consA (varM 0) (consA (tupM nilA) nilA))) nilA)))
  (seqM (whileM (testM (varM 3)) (seqM (asgG (methM0 "list" 3 opPop) (gT 2 (gsC (gN 5) (gsC (gN 6) gsN))))
  (seqM (ifM (cmpT (opEq false) (binM opIx (varM 5) (kM (.int 0))) (kM (.str "go"))) (seqM (exprM (methM "list" 2 (tupM (consA (varM 6) (consA (binM opIx (varM 5) (kM (.int 1))) nilA))) opAppend))
  (pure .cont)) (pure .next))
  (forIn (seqI (binM opIx (varM 1) (binM opIx (varM 5) (kM (.int 1))))) (gN 4) (exprM (methM "list" 3 (tupM (consA (binM opIx (binM opIx (varM 5) (kM (.int 2))) (varM 4)) (consA (binM opAdd (varM 6) (tupM (consA (varM 4) nilA))) nilA))) opAppend))))) whFuel)
  (retM (unM opSortedE (varM 2))))))
def d_steps_of : Den := runB 7 b_steps_of
def b_results_of : M Fl := (seqM (asgM 2 (dnewM false))
  (seqM (forIn (seqI (callM 2 d_steps_of (consA (varM 0) (consA (varM 1) nilA)))) (gT 2 (gsC (gN 3) (gsC (gN 4) gsN))) (storeM 2 (kM (.bl true)) (varM 4)))
  (retM (unM opSortedE (varM 2)))))
def d_results_of : Den := runB 5 b_results_of
def b_is_integer : M Fl := (retM (andM (unM (opIsi "int") (varM 0)) (notM (unM (opIsi "bool") (varM 0)))))
def d_is_integer : Den := runB 1 b_is_integer
def b_is_index : M Fl := (retM (andM (callM 1 d_is_integer (consA (varM 0) nilA)) (chM (fun i j => decide (i ≤ j)) (fun i j => decide (i < j)) (kM (.int 0)) (varM 0) (varM 1))))
def d_is_index : Den := runB 2 b_is_index
def b_looked_at : M Fl := (seqM (ifM (notT (testM (callM 2 d_is_index (consA (varM 1) (consA (unM opLen (binM opIx (varM 0) (kM (.int 0)))) nilA))))) (raiseM "NoWorker" "worker" (consA (varM 1) nilA)) (pure .next))
  (retM (binM opIx (binM opIx (varM 0) (kM (.int 0))) (varM 1))))
def d_looked_at : Den := runB 2 b_looked_at
def b_letter_at : M Fl := (seqM (asgM 3 (binM opIx (callM 2 d_looked_at (consA (varM 0) (consA (varM 1) nilA))) (kM (.int 1))))
  (seqM (ifM (notT (testM (callM 2 d_is_index (consA (varM 2) (consA (unM opLen (varM 3)) nilA))))) (raiseM "NoState" "state" (consA (varM 2) nilA)) (pure .next))
  (retM (binM opIx (varM 3) (varM 2)))))
def d_letter_at : Den := runB 4 b_letter_at
def b_code_at : M Fl := (seqM (asgM 3 (binM opIx (callM 2 d_looked_at (consA (varM 0) (consA (varM 1) nilA))) (kM (.int 2))))
  (seqM (ifM (notT (testM (callM 2 d_is_index (consA (varM 2) (consA (unM opLen (varM 3)) nilA))))) (raiseM "NoState" "state" (consA (varM 2) nilA)) (pure .next))
  (retM (binM opIx (varM 3) (varM 2)))))
def d_code_at : Den := runB 4 b_code_at
def b_shown_lots : M Fl := (seqM (asgM 2 (lstM nilA))
  (seqM (forIn (zipI (consA (binM opIx (varM 0) (kM (.int 0))) (consA (varM 1) nilA))) (gT 2 (gsC (gN 3) (gsC (gN 4) gsN))) (seqM (asgM 5 (dnewM false))
  (seqM (forIn (seqI (varM 4)) (gN 6) (storeM 5 (kM (.bl true)) (binM opIx (binM opIx (varM 3) (kM (.int 1))) (varM 6))))
  (exprM (methM "list" 2 (unM opTuple (unM opSortedE (varM 5))) opAppend)))))
  (retM (unM opTuple (varM 2)))))
def d_shown_lots : Den := runB 7 b_shown_lots
def b_joined_lots : M Fl := (seqM (asgM 2 (lstM nilA))
  (seqM (forIn (zipI (consA (varM 0) (consA (varM 1) nilA))) (gT 2 (gsC (gN 3) (gsC (gN 4) gsN))) (seqM (asgM 5 (dnewM false))
  (seqM (forIn (seqI (binM opAdd (varM 3) (varM 4))) (gN 6) (storeM 5 (kM (.bl true)) (varM 6)))
  (exprM (methM "list" 2 (unM opTuple (unM opSortedE (varM 5))) opAppend)))))
  (retM (unM opTuple (varM 2)))))
def d_joined_lots : Den := runB 7 b_joined_lots
def b_stepped : M Fl := (seqM (asgM 5 (unM opList (varM 1)))
  (seqM (forIn (seqI (varM 3)) (gN 6) (seqM (asgG (binM opIx (binM opIx (varM 0) (kM (.int 0))) (varM 6)) (gT 3 (gsC (gN 9) (gsC (gN 10) (gsC (gN 11) gsN)))))
  (seqM (asgM 7 (dnewM false))
  (seqM (forIn (seqI (binM opIx (varM 1) (varM 6))) (gN 8) (seqM (storeM 7 (kM (.bl true)) (varM 8))
  (forIn (seqI (callM 2 d_results_of (consA (binM opIx (varM 11) (varM 8)) (consA (varM 2) nilA)))) (gN 12) (ifM (cmpT (opEq true) (tupM (consA (varM 6) (consA (binM opIx (varM 10) (varM 12)) nilA))) (varM 4)) (storeM 7 (kM (.bl true)) (varM 12)) (pure .next)))))
  (storeM 5 (unM opTuple (unM opSortedE (varM 7))) (varM 6))))))
  (retM (unM opTuple (varM 5)))))
def d_stepped : Den := runB 13 b_stepped
def b_grown : M Fl := (seqM (asgM 5 (varM 1))
  (whileM (testM (kM (.bl true))) (seqM (asgM 6 (callM 5 d_stepped (consA (varM 0) (consA (varM 5) (consA (callM 2 d_joined_lots (consA (callM 2 d_shown_lots (consA (varM 0) (consA (varM 5) nilA))) (consA (varM 2) nilA))) (consA (varM 3) (consA (varM 4) nilA)))))))
  (seqM (ifM (cmpT (opEq false) (varM 6) (varM 5)) (retM (varM 5)) (pure .next))
  (asgM 5 (varM 6)))) whFuel))
def d_grown : Den := runB 7 b_grown
def b_first_knot : M Fl := (seqM (asgM 1 (unM opTuple (lcM (seqI (binM opIx (varM 0) (kM (.int 1)))) [2] (turnM (gN 2) (pure true) (tupM (consA (callM 3 d_letter_at (consA (varM 0) (consA (varM 2) (consA (kM (.int 0)) nilA)))) nilA))))))
  (retM (tupM (consA (unM opTuple (lcM (seqI (binM opIx (varM 0) (kM (.int 1)))) [2] (turnM (gN 2) (pure true) (kM (.int 0))))) (consA (varM 1) nilA)))))
def d_first_knot : Den := runB 3 b_first_knot
def b_movers_of : M Fl := (retM (lcM (rng1I (unM opLen (binM opIx (varM 0) (kM (.int 0))))) [1] (turnM (gN 1) (cmpT (opIn true) (varM 1) (binM opIx (varM 0) (kM (.int 1)))) (varM 1))))
def d_movers_of : Den := runB 2 b_movers_of
def b_lots_of_knot : M Fl := (seqM (asgM 2 (lcM (seqI (binM opIx (varM 0) (kM (.int 0)))) [3] (turnM (gN 3) (pure true) (tupM nilA))))
  (seqM (forIn (zipI (consA (binM opIx (varM 0) (kM (.int 1))) (consA (binM opIx (varM 1) (kM (.int 1))) nilA))) (gT 2 (gsC (gN 3) (gsC (gN 4) gsN))) (storeM 2 (varM 4) (varM 3)))
  (retM (unM opTuple (varM 2)))))
def d_lots_of_knot : Den := runB 5 b_lots_of_knot
def b_knot_box : M Fl := (seqM (asgM 2 (lcM (seqI (binM opIx (varM 0) (kM (.int 0)))) [3] (turnM (gN 3) (pure true) (tupM (consA (kM (.int 0)) nilA)))))
  (seqM (forIn (zipI (consA (binM opIx (varM 0) (kM (.int 1))) (consA (binM opIx (varM 1) (kM (.int 0))) nilA))) (gT 2 (gsC (gN 3) (gsC (gN 4) gsN))) (storeM 2 (tupM (consA (varM 4) nilA)) (varM 3)))
  (retM (callM 5 d_grown (consA (varM 0) (consA (unM opTuple (varM 2)) (consA (callM 2 d_lots_of_knot (consA (varM 0) (consA (varM 1) nilA))) (consA (callM 1 d_movers_of (consA (varM 0) nilA)) (consA (kM .non) nilA)))))))))
def d_knot_box : Den := runB 5 b_knot_box
def b_behind_knot : M Fl := (seqM (asgG (varM 1) (gT 2 (gsC (gN 6) (gsC (gN 7) gsN))))
  (seqM (asgM 4 (callM 3 d_letter_at (consA (varM 0) (consA (binM opIx (binM opIx (varM 0) (kM (.int 1))) (varM 2)) (consA (varM 3) nilA)))))
  (seqM (asgM 5 (unM opTuple (unM opSortSetU (binM opAdd (binM opIx (varM 7) (varM 2)) (tupM (consA (varM 4) nilA))))))
  (retM (tupM (consA (binM opAdd (binM opAdd (slM (varM 6) (pure none) (partM (varM 2))) (tupM (consA (varM 3) nilA))) (slM (varM 6) (partM (binM opAdd (varM 2) (kM (.int 1)))) (pure none))) (consA (binM opAdd (binM opAdd (slM (varM 7) (pure none) (partM (varM 2))) (tupM (consA (varM 5) nilA))) (slM (varM 7) (partM (binM opAdd (varM 2) (kM (.int 1)))) (pure none))) nilA)))))))
def d_behind_knot : Den := runB 8 b_behind_knot
def b_about_knot : M Fl := (retM (callM 2 d_joined_lots (consA (callM 2 d_shown_lots (consA (varM 0) (consA (callM 2 d_knot_box (consA (varM 0) (consA (varM 1) nilA))) nilA))) (consA (callM 2 d_lots_of_knot (consA (varM 0) (consA (varM 1) nilA))) nilA))))
def d_about_knot : Den := runB 2 b_about_knot
def b_knots_by : M Fl := (seqM (asgM 3 (dnewM true))
  (seqM (forIn (enumI (binM opIx (varM 0) (kM (.int 1)))) (gT 2 (gsC (gN 4) (gsC (gN 5) gsN))) (forIn (seqI (callM 2 d_results_of (consA (callM 3 d_code_at (consA (varM 0) (consA (varM 5) (consA (binM opIx (binM opIx (varM 1) (kM (.int 0))) (varM 4)) nilA)))) (consA (varM 2) nilA)))) (gN 6) (storeM 3 (kM (.bl true)) (callM 4 d_behind_knot (consA (varM 0) (consA (varM 1) (consA (varM 4) (consA (varM 6) nilA))))))))
  (retM (unM opSortedN (varM 3)))))
def d_knots_by : Den := runB 7 b_knots_by
def b_next_knots : M Fl := (retM (callM 3 d_knots_by (consA (varM 0) (consA (varM 1) (consA (callM 2 d_about_knot (consA (varM 0) (consA (varM 1) nilA))) nilA)))))
def d_next_knots : Den := runB 2 b_next_knots
def b__law_bag : M Fl := (retM (lstM (consA (kM (.int 0)) (consA (kM (.int 1234567891)) (consA (kM (.int 0)) (consA (frzM (lcM (seqI (slM (varM 0) (pure none) (partM (kM (.int 63))))) [1] (turnM (gN 1) (pure true) (unM opAbs (varM 1))))) nilA))))))
def d__law_bag : Den := runB 2 b__law_bag
def b__law_take : M Fl := (seqM (ifM (cmpT (opEq false) (binMO opIx (varM 0) (kM (.int 0))) (kM (.int 0))) (seqM (asgM 4 (binM opIx (binM opAdd (slM (binMO opIx (varM 0) (kM (.int 3))) (partM (binMO opIx (varM 0) (kM (.int 2)))) (pure none)) (lstM (consA (kM (.int 0)) nilA))) (kM (.int 0))))
  (seqM (augSM 0 (fun i j => i + j) (kM (.int 2)) (kM (.int 1)))
  (seqM (ifM (cmpT opGe (varM 4) (binM opPow (kM (.int 10)) (kM (.int 18)))) (storeM 0 (varM 4) (kM (.int 0))) (pure .next))
  (seqM (asgM 5 (binM opAdd (binM opAdd (binM opMul (binMO opIx (varM 0) (kM (.int 1))) (kM (.int 48271))) (binM opMod (unM opInt (varM 4)) (kM (.int 2147483647)))) (binM opMul (kM (.int 7919)) (binMO opIx (varM 0) (kM (.int 2))))))
  (storeM 0 (binM opMod (unM opInt (varM 5)) (kM (.int 2147483647))) (kM (.int 1))))))) (pure .next))
  (seqM (ifM (cmpT opGt (binMO opIx (varM 0) (kM (.int 0))) (kM (.int 0))) (seqM (asgM 6 (binM opMod (unM opInt (binMO opIx (varM 0) (kM (.int 0)))) (varM 1)))
  (seqM (storeM 0 (binM opDiv (unM opInt (binMO opIx (varM 0) (kM (.int 0)))) (varM 1)) (kM (.int 0)))
  (retM (varM 6)))) (pure .next))
  (seqM (asgM 2 (binM opMod (unM opInt (binM opMul (binM opAdd (binMO opIx (varM 0) (kM (.int 1))) (kM (.int 1))) (kM (.int 39373)))) (kM (.int 1000000007))))
  (seqM (asgM 3 (binM opMod (unM opInt (binM opMul (binM opMod (unM opInt (binM opMul (varM 2) (varM 2))) (kM (.int 998244353))) (kM (.int 30011)))) (kM (.int 998244353))))
  (retM (binM opMod (unM opInt (binM opDiv (varM 3) (kM (.int 7)))) (varM 1)))))))
def d__law_take : Den := runB 7 b__law_take
def b__law_alike : M Fl := (retM (andM (binM (opEq false) (varM 0) (varM 1)) (binM (opEq false) (unM opRepr (varM 0)) (unM opRepr (varM 1)))))
def d__law_alike : Den := runB 2 b__law_alike
def b__law_free (r : Den) : M Fl := (seqM (ifM (orT (cmpT (opEq false) (varM 4) (kM (.int 0))) (cmpT (opEq false) (callM 2 d__law_take (consA (varM 0) (consA (kM (.int 4)) nilA))) (kM (.int 0)))) (retM (tupM (consA (kM (.str "go")) (consA (callM 2 d__law_take (consA (varM 0) (consA (binM opIx (varM 2) (varM 1)) nilA))) nilA)))) (pure .next))
  (seqM (asgM 5 (callM 2 d__law_take (consA (varM 0) (consA (unM opLen (varM 3)) nilA))))
  (seqM (par2M 7 8 (callM 2 d__law_take (consA (varM 0) (consA (binM opIx (varM 3) (varM 5)) nilA))) (lstM nilA))
  (seqM (forIn (rng1I (binM opIx (varM 3) (varM 5))) (gN 6) (exprM (methM "list" 8 (callM 5 r (consA (varM 0) (consA (varM 1) (consA (varM 2) (consA (varM 3) (consA (ifM (andT (cmpT (opEq false) (varM 4) (kM (.int 3))) (cmpT (opEq true) (varM 6) (varM 7))) (kM (.int 1)) (binM opSub (varM 4) (kM (.int 1)))) nilA)))))) opAppend)))
  (retM (tupM (consA (kM (.str "get")) (consA (varM 5) (consA (unM opTuple (varM 8)) nilA)))))))))
def d__law_free : Nat → Den
  | 0 => fun _ _ => none
  | n + 1 => runB 9 (b__law_free (d__law_free n))
def b__law_form : M Fl := (seqM (asgM 5 (lcM (rng1I (varM 4)) [7] (turnM (gN 7) (pure true) (binM opMod (varM 7) (varM 2)))))
  (seqM (ifM (cmpT (opEq false) (varM 0) (kM (.int 2))) (asgM 5 (lcM (rng1I (varM 4)) [7] (turnM (gN 7) (pure true) (binM opMod (binM opAdd (varM 7) (kM (.int 1))) (varM 2))))) (ifM (cmpT (opEq false) (varM 0) (kM (.int 3))) (asgM 5 (lcM (rng1I (varM 4)) [7] (turnM (gN 7) (pure true) (binM opMod (binM opAdd (varM 1) (unM opInt (binM (opEq false) (varM 7) (binM opMod (varM 1) (varM 4))))) (varM 2))))) (ifM (cmpT (opEq false) (varM 0) (kM (.int 4))) (asgM 5 (lcM (rng1I (varM 4)) [7] (turnM (gN 7) (pure true) (binM opMax2 (varM 1) (binM opMod (varM 7) (varM 2)))))) (ifM (orT (andT (cmpT (opEq false) (varM 0) (kM (.int 5))) (cmpT opGt (varM 1) (kM (.int 0)))) (andT (cmpT (opEq false) (varM 0) (kM (.int 6))) (cmpT (opEq false) (varM 1) (kM (.int 0))))) (retM (tupM (consA (kM (.str "go")) (consA (binM opMin2 (binM opAdd (varM 1) (unM opInt (binM (opEq false) (varM 0) (kM (.int 6))))) (binM opSub (varM 2) (kM (.int 1)))) nilA)))) (ifM (andT (cmpT (opEq false) (varM 0) (kM (.int 7))) (cmpT opGt (varM 1) (kM (.int 0)))) (retM (tupM (consA (kM (.str "go")) (consA (ifM (cmpT opLt (binM opAdd (varM 1) (kM (.int 2))) (varM 2)) (binM opAdd (varM 1) (kM (.int 2))) (binM opSub (kM (.int 2)) (binM opMod (varM 1) (kM (.int 2))))) nilA)))) (ifM (cmpT (opEq false) (varM 0) (kM (.int 8))) (retM (tupM (consA (kM (.str "go")) (consA (binM opMod (binM opAdd (varM 1) (kM (.int 1))) (varM 2)) nilA)))) (ifM (cmpT (opEq false) (varM 0) (kM (.int 7))) (asgM 5 (lcM (rng1I (varM 4)) [7] (turnM (gN 7) (pure true) (binM opMin2 (binM opAdd (varM 7) (kM (.int 1))) (binM opSub (varM 2) (kM (.int 1))))))) (pure .next))))))))
  (seqM (ifM (cmpT (opEq false) (varM 0) (kM (.int 9))) (seqM (asgM 6 (lcM (rng1I (varM 4)) [7] (turnM (gN 7) (pure true) (frzM (lcM (rng1I (varM 4)) [8] (turnM (gN 8) (pure true) (tupM (consA (kM (.str "go")) (consA (ifM (cmpT (opEq false) (varM 7) (varM 8)) (varM 1) (binM opSub (varM 2) (kM (.int 1)))) nilA)))))))))
  (retM (tupM (consA (kM (.str "get")) (consA (varM 3) (consA (unM opTuple (lcM (seqI (varM 6)) [10] (turnM (gN 10) (pure true) (tupM (consA (kM (.str "get")) (consA (varM 3) (consA (unM opTuple (varM 10)) nilA))))))) nilA)))))) (pure .next))
  (retM (tupM (consA (kM (.str "get")) (consA (varM 3) (consA (unM opTuple (lcM (seqI (varM 5)) [9] (turnM (gN 9) (pure true) (tupM (consA (kM (.str "go")) (consA (varM 9) nilA)))))) nilA))))))))
def d__law_form : Den := runB 11 b__law_form
def b__law_worker : M Fl := (seqM (asgG (tupM (consA (callM 2 d__law_take (consA (varM 0) (consA (kM (.int 10)) nilA))) (consA (callM 2 d__law_take (consA (varM 0) (consA (unM opLen (varM 3)) nilA))) nilA))) (gT 2 (gsC (gN 7) (gsC (gN 8) gsN))))
  (seqM (asgM 5 (lcM (rng1I (binM opIx (varM 2) (varM 1))) [9] (turnM (gN 9) (pure true) (binM opMod (varM 9) (binM opIx (varM 3) (varM 1))))))
  (seqM (ifM (cmpT (opEq false) (callM 2 d__law_take (consA (varM 0) (consA (kM (.int 3)) nilA))) (kM (.int 0))) (asgM 5 (lcM (rng1I (binM opIx (varM 2) (varM 1))) [9] (turnM (gN 9) (pure true) (callM 2 d__law_take (consA (varM 0) (consA (binM opIx (varM 3) (varM 1)) nilA)))))) (pure .next))
  (seqM (asgM 6 (lcM (rng1I (binM opIx (varM 2) (varM 1))) [9] (turnM (gN 9) (cmpT opGt (varM 7) (kM (.int 0))) (callM 5 d__law_form (consA (varM 7) (consA (varM 9) (consA (binM opIx (varM 2) (varM 1)) (consA (varM 8) (consA (binM opIx (varM 3) (varM 8)) nilA)))))))))
  (seqM (ifM (cmpT (opEq false) (varM 7) (kM (.int 0))) (asgM 6 (lcM (rng1I (binM opIx (varM 2) (varM 1))) [9] (turnM (gN 9) (pure true) (callM 5 (d__law_free 5) (consA (varM 0) (consA (varM 1) (consA (varM 2) (consA (varM 3) (consA (varM 4) nilA))))))))) (ifM (cmpT (opEq false) (callM 2 d__law_take (consA (varM 0) (consA (kM (.int 2)) nilA))) (kM (.int 0))) (storeM 6 (callM 5 (d__law_free 5) (consA (varM 0) (consA (varM 1) (consA (varM 2) (consA (varM 3) (consA (varM 4) nilA)))))) (callM 2 d__law_take (consA (varM 0) (consA (unM opLen (varM 6)) nilA)))) (pure .next)))
  (retM (tupM (consA (binM opIx (varM 3) (varM 1)) (consA (unM opTuple (varM 5)) (consA (unM opTuple (varM 6)) nilA))))))))))
def d__law_worker : Den := runB 10 b__law_worker
def b__law_net : M Fl := (seqM (asgM 6 (binM opAdd (kM (.int 1)) (callM 2 d__law_take (consA (varM 0) (consA (varM 1) nilA)))))
  (seqM (asgM 7 (lcM (rng1I (varM 6)) [11] (turnM (gN 11) (pure true) (binM opAdd (kM (.int 1)) (binM opMax2 (callM 2 d__law_take (consA (varM 0) (consA (varM 3) nilA))) (callM 2 d__law_take (consA (varM 0) (consA (varM 3) nilA))))))))
  (seqM (asgM 8 (lcM (rng1I (varM 6)) [11] (turnM (gN 11) (pure true) (binM opAdd (kM (.int 1)) (binM opMax2 (callM 2 d__law_take (consA (varM 0) (consA (varM 2) nilA))) (callM 2 d__law_take (consA (varM 0) (consA (varM 2) nilA))))))))
  (seqM (asgM 9 (lcM (rng1I (callM 2 d__law_take (consA (varM 0) (consA (binM opAdd (varM 5) (kM (.int 1))) nilA)))) [11] (turnM (gN 11) (pure true) (callM 2 d__law_take (consA (varM 0) (consA (varM 6) nilA))))))
  (seqM (asgM 10 (lcM (rng1I (varM 6)) [11] (turnM (gN 11) (pure true) (callM 5 d__law_worker (consA (varM 0) (consA (varM 11) (consA (varM 8) (consA (varM 7) (consA (varM 4) nilA)))))))))
  (retM (tupM (consA (unM opTuple (varM 10)) (consA (unM opTuple (lcM (rng1I (varM 6)) [11] (turnM (gN 11) (cmpT (opIn false) (varM 11) (varM 9)) (varM 11)))) nilA)))))))))
def d__law_net : Den := runB 12 b__law_net
def b__law_lot : M Fl := (seqM (asgM 2 (callM 2 d__law_take (consA (varM 0) (consA (varM 1) nilA))))
  (retM (unM opTuple (lcM (rng1I (varM 1)) [3] (turnM (gN 3) (orT (cmpT (opEq false) (varM 3) (varM 2)) (cmpT (opEq false) (callM 2 d__law_take (consA (varM 0) (consA (kM (.int 2)) nilA))) (kM (.int 0)))) (varM 3))))))
def d__law_lot : Den := runB 4 b__law_lot
def b__law_steps : M Fl := (seqM (asgM 2 (lstM nilA))
  (seqM (asgM 3 (lstM (consA (tupM (consA (tupM nilA) (consA (varM 0) nilA))) nilA)))
  (seqM (whileM (cmpT (opEq true) (varM 3) (lstM nilA)) (seqM (asgG (methM0 "list" 3 opPop) (gT 2 (gsC (gN 4) (gsC (gN 5) gsN))))
  (ifM (cmpT (opEq false) (binM opIx (varM 5) (kM (.int 0))) (kM (.str "go"))) (exprM (methM "list" 2 (tupM (consA (varM 4) (consA (binM opIx (varM 5) (kM (.int 1))) nilA))) opAppend)) (forIn (seqI (binM opIx (varM 1) (binM opIx (varM 5) (kM (.int 1))))) (gN 6) (exprM (methM "list" 3 (tupM (consA (binM opAdd (varM 4) (tupM (consA (varM 6) nilA))) (consA (binM opIx (binM opIx (varM 5) (kM (.int 2))) (varM 6)) nilA))) opAppend))))) whFuel)
  (retM (unM opSortedE (varM 2))))))
def d__law_steps : Den := runB 7 b__law_steps
def b__law_results : M Fl := (retM (unM opSortSetE (lcM (seqI (callM 2 d__law_steps (consA (varM 0) (consA (varM 1) nilA)))) [2] (turnM (gN 2) (pure true) (binM opIx (varM 2) (kM (.int 1)))))))
def d__law_results : Den := runB 3 b__law_results
def b__law_shown : M Fl := (retM (unM opTuple (lcM (rng1I (unM opLen (varM 0))) [2] (turnM (gN 2) (pure true) (unM opTuple (unM opSortSetE (lcM (seqI (binM opIx (varM 1) (varM 2))) [3] (turnM (gN 3) (pure true) (binM opIx (binM opIx (binM opIx (varM 0) (varM 2)) (kM (.int 1))) (varM 3))))))))))
def d__law_shown : Den := runB 4 b__law_shown
def b__law_grown : M Fl := (seqM (asgM 5 (unM opTuple (lcM (seqI (varM 2)) [13] (turnM (gN 13) (pure true) (unM opTuple (unM opSortSetE (unM opList (varM 13))))))))
  (seqM (forIn (rng1I (binM opAdd (unM opSum (lcM (seqI (varM 0)) [15] (turnM (gN 15) (pure true) (unM opLen (binM opIx (varM 15) (kM (.int 1))))))) (kM (.int 1)))) (gN 6) (seqM (asgM 7 (callM 2 d__law_shown (consA (varM 0) (consA (varM 5) nilA))))
  (seqM (asgM 8 (lcM (rng1I (unM opLen (varM 0))) [9] (turnM (gN 9) (pure true) (binM opIx (varM 3) (varM 9)))))
  (seqM (forIn (rng1I (unM opLen (varM 0))) (gN 9) (ifM (cmpT (opIn true) (varM 9) (varM 4)) (storeM 8 (unM opTuple (unM opSortSetE (binM opAdd (unM opList (binM opIx (varM 3) (varM 9))) (unM opList (binM opIx (varM 7) (varM 9)))))) (varM 9)) (pure .next)))
  (seqM (asgM 10 (binM opAdd (unM opTuple (varM 1)) (unM opTuple (varM 8))))
  (seqM (asgM 11 (lstM nilA))
  (seqM (forIn (rng1I (unM opLen (varM 0))) (gN 9) (seqM (asgM 12 (unM opList (binM opIx (varM 5) (varM 9))))
  (seqM (ifM (cmpT (opIn true) (varM 9) (varM 4)) (forIn (seqI (binM opIx (varM 5) (varM 9))) (gN 14) (asgM 12 (binM opAdd (varM 12) (callM 2 d__law_results (consA (binM opIx (binM opIx (binM opIx (varM 0) (varM 9)) (kM (.int 2))) (varM 14)) (consA (varM 10) nilA)))))) (pure .next))
  (exprM (methM "list" 11 (unM opTuple (unM opSortSetE (varM 12))) opAppend)))))
  (seqM (ifM (cmpT (opEq false) (unM opTuple (varM 11)) (varM 5)) (retM (varM 5)) (pure .next))
  (asgM 5 (unM opTuple (varM 11)))))))))))
  (retM (varM 5))))
def d__law_grown : Den := runB 16 b__law_grown
def b__law_knot_box : M Fl := (seqM (asgG (varM 0) (gT 2 (gsC (gN 5) (gsC (gN 6) gsN))))
  (seqM (asgM 2 (lcM (seqI (varM 5)) [7] (turnM (gN 7) (pure true) (tupM (consA (kM (.int 0)) nilA)))))
  (seqM (asgM 3 (lcM (seqI (varM 5)) [7] (turnM (gN 7) (pure true) (tupM nilA))))
  (seqM (forIn (rng1I (unM opLen (varM 6))) (gN 4) (seqM (storeM 2 (tupM (consA (binM opIx (binM opIx (varM 1) (kM (.int 0))) (varM 4)) nilA)) (binM opIx (varM 6) (varM 4)))
  (storeM 3 (binM opIx (binM opIx (varM 1) (kM (.int 1))) (varM 4)) (binM opIx (varM 6) (varM 4)))))
  (retM (callM 5 d__law_grown (consA (varM 5) (consA (tupM nilA) (consA (unM opTuple (varM 2)) (consA (unM opTuple (varM 3)) (consA (varM 6) nilA)))))))))))
def d__law_knot_box : Den := runB 8 b__law_knot_box
def b__law_knot_next : M Fl := (seqM (asgG (varM 0) (gT 2 (gsC (gN 6) (gsC (gN 7) gsN))))
  (seqM (asgM 2 (callM 2 d__law_knot_box (consA (varM 0) (consA (varM 1) nilA))))
  (seqM (asgM 3 (unM opList (callM 2 d__law_shown (consA (varM 6) (consA (varM 2) nilA)))))
  (seqM (forIn (rng1I (unM opLen (varM 7))) (gN 4) (storeM 3 (binM opIx (binM opIx (varM 1) (kM (.int 1))) (varM 4)) (binM opIx (varM 7) (varM 4))))
  (seqM (asgM 5 (lstM nilA))
  (seqM (forIn (rng1I (unM opLen (varM 7))) (gN 4) (seqM (asgM 8 (binM opIx (varM 6) (binM opIx (varM 7) (varM 4))))
  (forIn (seqI (callM 2 d__law_results (consA (binM opIx (binM opIx (varM 8) (kM (.int 2))) (binM opIx (binM opIx (varM 1) (kM (.int 0))) (varM 4))) (consA (unM opTuple (varM 3)) nilA)))) (gN 9) (seqM (asgM 10 (unM opTuple (unM opSortSetA (binM opAdd (unM opList (binM opIx (binM opIx (varM 1) (kM (.int 1))) (varM 4))) (lstM (consA (binM opIx (binM opIx (varM 8) (kM (.int 1))) (varM 9)) nilA))))))
  (exprM (methM "list" 5 (tupM (consA (binM opAdd (binM opAdd (slM (binM opIx (varM 1) (kM (.int 0))) (pure none) (partM (varM 4))) (tupM (consA (varM 9) nilA))) (slM (binM opIx (varM 1) (kM (.int 0))) (partM (binM opAdd (varM 4) (kM (.int 1)))) (pure none))) (consA (binM opAdd (binM opAdd (slM (binM opIx (varM 1) (kM (.int 1))) (pure none) (partM (varM 4))) (tupM (consA (varM 10) nilA))) (slM (binM opIx (varM 1) (kM (.int 1))) (partM (binM opAdd (varM 4) (kM (.int 1)))) (pure none))) nilA))) opAppend))))))
  (retM (unM opSortSetA (varM 5)))))))))
def d__law_knot_next : Den := runB 11 b__law_knot_next
def b__law_knot_any : M Fl := (seqM (asgM 2 (unM opTuple (lcM (seqI (binM opIx (varM 1) (kM (.int 1)))) [4] (turnM (gN 4) (pure true) (callM 2 d__law_take (consA (varM 0) (consA (unM opLen (binM opIx (binM opIx (binM opIx (varM 1) (kM (.int 0))) (varM 4)) (kM (.int 1)))) nilA)))))))
  (seqM (asgM 3 (lstM nilA))
  (seqM (forIn (zipI (consA (binM opIx (varM 1) (kM (.int 1))) (consA (varM 2) nilA))) (gT 2 (gsC (gN 4) (gsC (gN 5) gsN))) (exprM (methM "list" 3 (unM opTuple (unM opSortSetE (binM opAdd (lstM (consA (binM opIx (binM opIx (binM opIx (binM opIx (varM 1) (kM (.int 0))) (varM 4)) (kM (.int 1))) (varM 5)) nilA)) (unM opList (callM 2 d__law_lot (consA (varM 0) (consA (binM opIx (binM opIx (binM opIx (varM 1) (kM (.int 0))) (varM 4)) (kM (.int 0))) nilA))))))) opAppend)))
  (retM (tupM (consA (varM 2) (consA (unM opTuple (varM 3)) nilA)))))))
def d__law_knot_any : Den := runB 6 b__law_knot_any
def b__law_begin_knot : M Fl := (retM (tupM (consA (unM opTuple (lcM (seqI (binM opIx (varM 0) (kM (.int 1)))) [1] (turnM (gN 1) (pure true) (kM (.int 0))))) (consA (unM opTuple (lcM (seqI (binM opIx (varM 0) (kM (.int 1)))) [1] (turnM (gN 1) (pure true) (tupM (consA (binM opIx (binM opIx (binM opIx (binM opIx (varM 0) (kM (.int 0))) (varM 1)) (kM (.int 1))) (kM (.int 0))) nilA))))) nilA))))
def d__law_begin_knot : Den := runB 2 b__law_begin_knot
def b_law : M Fl := (seqM (asgTM 1 (callM 1 d__law_bag (consA (varM 0) nilA)))
  (seqM (forIn (rng1I (kM (.int 3))) (gN 2) (seqM (asgM 3 (callM 6 d__law_net (consA (varM 1) (consA (kM (.int 5)) (consA (kM (.int 5)) (consA (kM (.int 4)) (consA (kM (.int 3)) (consA (kM (.int 2)) nilA))))))))
  (seqM (asgM 4 (callM 1 d__law_begin_knot (consA (varM 3) nilA)))
  (seqM (ifM (notT (testM (callM 2 d__law_alike (consA (callM 1 d_first_knot (consA (varM 3) nilA)) (consA (varM 4) nilA))))) (retM (kM (.bl false))) (pure .next))
  (seqM (par2M 6 7 (callM 2 d__law_knot_any (consA (varM 1) (consA (varM 3) nilA))) (callM 2 d__law_knot_any (consA (varM 1) (consA (varM 3) nilA))))
  (forIn (seqI (binM opAdd (lstM (consA (varM 4) (consA (varM 6) (consA (varM 7) (consA (varM 6) nilA))))) (slM (callM 2 d__law_knot_next (consA (varM 3) (consA (varM 6) nilA))) (pure none) (partM (kM (.int 2)))))) (gN 5) (seqM (par2M 9 10 (callM 2 d__law_knot_box (consA (varM 3) (consA (varM 5) nilA))) (callM 2 d__law_knot_next (consA (varM 3) (consA (varM 5) nilA))))
  (seqM (asgM 8 (callM 2 d_next_knots (consA (varM 3) (consA (varM 5) nilA))))
  (seqM (ifM (orT (notT (testM (callM 2 d__law_alike (consA (callM 2 d_knot_box (consA (varM 3) (consA (varM 5) nilA))) (consA (varM 9) nilA))))) (notT (testM (callM 2 d__law_alike (consA (varM 8) (consA (varM 10) nilA)))))) (retM (kM (.bl false))) (pure .next))
  (seqM (exprM (methM "list" 8 (varM 5) opAppend))
  (seqM (exprM (insM 8 (consA (kM (.int 0)) (consA (kM .non) nilA))))
  (ifM (notT (testM (callM 2 d__law_alike (consA (callM 2 d_next_knots (consA (varM 3) (consA (varM 5) nilA))) (consA (varM 10) nilA))))) (retM (kM (.bl false))) (pure .next)))))))))))))
  (retM (kM (.bl true)))))
def d_law : Den := runB 11 b_law
structure Txt (K : PySem.W.Frag) (mg : Str → Option Value) : Prop where
  f_steps_of : Fn0 K mg "steps_of" s_steps_of ["code", "lots"]
  f_results_of : Fn0 K mg "results_of" s_results_of ["code", "lots"]
  f_is_integer : Fn0 K mg "is_integer" s_is_integer ["thing"]
  f_is_index : Fn0 K mg "is_index" s_is_index ["thing", "many"]
  f_looked_at : Fn0 K mg "looked_at" s_looked_at ["net", "worker"]
  f_letter_at : Fn0 K mg "letter_at" s_letter_at ["net", "worker", "state"]
  f_code_at : Fn0 K mg "code_at" s_code_at ["net", "worker", "state"]
  f_shown_lots : Fn0 K mg "shown_lots" s_shown_lots ["net", "box"]
  f_joined_lots : Fn0 K mg "joined_lots" s_joined_lots ["one", "other"]
  f_stepped : Fn0 K mg "stepped" s_stepped ["net", "box", "lots", "movers", "barred"]
  f_grown : Fn0 K mg "grown" s_grown ["net", "box", "lots", "movers", "barred"]
  f_first_knot : Fn0 K mg "first_knot" s_first_knot ["net"]
  f_movers_of : Fn0 K mg "movers_of" s_movers_of ["net"]
  f_lots_of_knot : Fn0 K mg "lots_of_knot" s_lots_of_knot ["net", "knot"]
  f_knot_box : Fn0 K mg "knot_box" s_knot_box ["net", "knot"]
  f_behind_knot : Fn0 K mg "behind_knot" s_behind_knot ["net", "knot", "index", "state"]
  f_about_knot : Fn0 K mg "about_knot" s_about_knot ["net", "knot"]
  f_knots_by : Fn0 K mg "knots_by" s_knots_by ["net", "knot", "lots"]
  f_next_knots : Fn0 K mg "next_knots" s_next_knots ["net", "knot"]
  f__law_bag : Fn0 K mg "_law_bag" s__law_bag ["_law_script"]
  f__law_take : Fn0 K mg "_law_take" s__law_take ["_law_bag_here", "_law_upto"]
  f__law_alike : Fn0 K mg "_law_alike" s__law_alike ["_law_found", "_law_due"]
  f__law_free : Fn0 K mg "_law_free" s__law_free ["_law_bag_here", "_law_own", "_law_states", "_law_letters", "_law_deep"]
  f__law_form : Fn0 K mg "_law_form" s__law_form ["_law_form_here", "_law_at", "_law_many", "_law_asked", "_law_heard"]
  f__law_worker : Fn0 K mg "_law_worker" s__law_worker ["_law_bag_here", "_law_own", "_law_states", "_law_letters", "_law_deep"]
  f__law_net : Fn0 K mg "_law_net" s__law_net ["_law_bag_here", "_law_most", "_law_high", "_law_wide", "_law_deep", "_law_steady"]
  f__law_lot : Fn0 K mg "_law_lot" s__law_lot ["_law_bag_here", "_law_many"]
  f__law_steps : Fn0 K mg "_law_steps" s__law_steps ["_law_code", "_law_lots"]
  f__law_results : Fn0 K mg "_law_results" s__law_results ["_law_code", "_law_lots"]
  f__law_shown : Fn0 K mg "_law_shown" s__law_shown ["_law_workers", "_law_box"]
  f__law_grown : Fn0 K mg "_law_grown" s__law_grown ["_law_workers", "_law_outer", "_law_begun", "_law_about", "_law_still"]
  f__law_knot_box : Fn0 K mg "_law_knot_box" s__law_knot_box ["_law_net_here", "_law_knot"]
  f__law_knot_next : Fn0 K mg "_law_knot_next" s__law_knot_next ["_law_net_here", "_law_knot"]
  f__law_knot_any : Fn0 K mg "_law_knot_any" s__law_knot_any ["_law_bag_here", "_law_net_here"]
  f__law_begin_knot : Fn0 K mg "_law_begin_knot" s__law_begin_knot ["_law_net_here"]
  f_law : Fn0 K mg "law" s_law ["_law_script"]
  m_abs : mg "abs" = none
  m_bool : mg "bool" = none
  m_enumerate : mg "enumerate" = none
  m_int : mg "int" = none
  m_isinstance : mg "isinstance" = none
  m_len : mg "len" = none
  m_list : mg "list" = none
  m_max : mg "max" = none
  m_min : mg "min" = none
  m_range : mg "range" = none
  m_repr : mg "repr" = none
  m_set : mg "set" = none
  m_sorted : mg "sorted" = none
  m_sum : mg "sum" = none
  m_tuple : mg "tuple" = none
  m_zip : mg "zip" = none
  x_NoState : Own K mg "NoState" "NoState.__init__" "state"
  x_NoWorker : Own K mg "NoWorker" "NoWorker.__init__" "worker"
theorem fo_state : PySem.LowX.FldOk "state" := ⟨fun _ _ _ _ _ _ _ _ _ _ _ _ _ _ => rfl, fun _ _ => rfl, fun _ _ _ _ => rfl, by decide, fun _ _ _ _ _ _ => rfl, fun _ _ _ _ _ _ => rfl⟩
theorem fo_worker : PySem.LowX.FldOk "worker" := ⟨fun _ _ _ _ _ _ _ _ _ _ _ _ _ _ => rfl, fun _ _ => rfl, fun _ _ _ _ => rfl, by decide, fun _ _ _ _ _ _ => rfl, fun _ _ _ _ _ _ => rfl⟩
section
variable {P : Program} {w : World} {K : PySem.W.Frag} {mg : Str → Option Value} {base : Heap}
theorem sc_steps_of : FnScope ["code", "lots", "found", "rest", "letter", "here", "answers"] ["code", "lots"] (defScope s_steps_of) := ⟨rfl, rfl, rfl, by decide +kernel, rfl, by decide +kernel, by decide +kernel⟩
theorem k_steps_of (T : Txt K mg) : Dn P w K mg base 1 "steps_of" ["code", "lots"] d_steps_of := by
  have m_sorted := T.m_sorted
  have hN := sc_steps_of.nd
  exact okN T.f_steps_of sc_steps_of fun cdv A outer s H E z gd room tk =>
    (db_cons (ds_set 2 hN (de_lst dah_nil))
    (db_cons (ds_set 3 hN (de_lst (dah_cons (de_tup (dah_cons (de_var 0) (dah_cons (de_tup dah_nil) dah_nil))) dah_nil)))
    (db_cons (ds_while whFuel (passes_of rfl) (dt_val (de_var 3)) (db_cons (ds_asg (calm_t (calms_c (calm_n (i := 5)) (calms_c (calm_n (i := 6)) calms_n))) (de_pop 3) (dg_tup rfl (dgs_cons (dg_name 5 hN) (dgs_cons (dg_name 6 hN) dgs_nil))))
    (db_cons (ds_if (dt_eq (u64 room) (de_ix (u65 room) (de_var 5) de_int) de_str) (db_cons (ds_expr (de_append 2 (de_tup (dah_cons (de_var 6) (dah_cons (de_ix (u65 room) (de_var 5) de_int) dah_nil)))))
    (db_one ds_cont)) db_nil)
    (db_one (ds_for (passes_of rfl) rfl (calm_n (i := 4)) (di_seq (de_ix (u65 room) (de_var 1) (de_ix (u65 room) (de_var 5) de_int))) (dg_name 4 hN) (db_one (ds_expr (de_append 3 (de_tup (dah_cons (de_ix (u65 room) (de_ix (u65 room) (de_var 5) de_int) (de_var 4)) (dah_cons (de_add (de_var 6) (de_tup (dah_cons (de_var 4) dah_nil))) dah_nil)))))))))))
    (db_one (ds_ret (de_sortedE rfl (u65 room) m_sorted (de_var 2)))))))
theorem sc_results_of : FnScope ["code", "lots", "reached", "answers", "state"] ["code", "lots"] (defScope s_results_of) := ⟨rfl, rfl, rfl, by decide +kernel, rfl, by decide +kernel, by decide +kernel⟩
theorem k_results_of (T : Txt K mg) : Dn P w K mg base 2 "results_of" ["code", "lots"] d_results_of := by
  have c_steps_of := (k_steps_of (P := P) (w := w) (base := base) T).mono (show 1 ≤ 1 by decide)
  have m_sorted := T.m_sorted
  have hN := sc_results_of.nd
  exact okN T.f_results_of sc_results_of fun cdv A outer s H E z gd room tk =>
    (db_cons (ds_set 2 hN de_dnewK)
    (db_cons (ds_for (passes_of rfl) rfl (calm_t (calms_c (calm_n (i := 3)) (calms_c (calm_n (i := 4)) calms_n))) (di_seq (de_cal c_steps_of gd room tk (dah_cons (de_var 0) (dah_cons (de_var 1) dah_nil)))) (dg_tup rfl (dgs_cons (dg_name 3 hN) (dgs_cons (dg_name 4 hN) dgs_nil))) (db_one (ds_store (u65 room) 2 de_bl (de_var 4))))
    (db_one (ds_ret (de_sortedE rfl (u65 room) m_sorted (de_var 2))))))
theorem sc_is_integer : FnScope ["thing"] ["thing"] (defScope s_is_integer) := ⟨rfl, rfl, rfl, by decide +kernel, rfl, by decide +kernel, by decide +kernel⟩
theorem k_is_integer (T : Txt K mg) : Dn P w K mg base 1 "is_integer" ["thing"] d_is_integer := by
  have m_bool := T.m_bool
  have m_int := T.m_int
  have m_isinstance := T.m_isinstance
  have hN := sc_is_integer.nd
  exact okN T.f_is_integer sc_is_integer fun cdv A outer s H E z gd room tk =>
    (db_one (ds_ret (de_and (de_isi (T := "int") m_isinstance m_int (de_var 0)) (de_one (de_not (de_isi (T := "bool") m_isinstance m_bool (de_var 0)))))))
theorem sc_is_index : FnScope ["thing", "many"] ["thing", "many"] (defScope s_is_index) := ⟨rfl, rfl, rfl, by decide +kernel, rfl, by decide +kernel, by decide +kernel⟩
theorem k_is_index (T : Txt K mg) : Dn P w K mg base 2 "is_index" ["thing", "many"] d_is_index := by
  have c_is_integer := (k_is_integer (P := P) (w := w) (base := base) T).mono (show 1 ≤ 1 by decide)
  have hN := sc_is_index.nd
  exact okN T.f_is_index sc_is_index fun cdv A outer s H E z gd room tk =>
    (db_one (ds_ret (de_and (de_cal c_is_integer gd room tk (dah_cons (de_var 0) dah_nil)) (de_one (de_ch op_le op_lt de_int (de_var 0) (de_var 1))))))
theorem sc_looked_at : FnScope ["net", "worker"] ["net", "worker"] (defScope s_looked_at) := ⟨rfl, rfl, rfl, by decide +kernel, rfl, by decide +kernel, by decide +kernel⟩
theorem k_looked_at (T : Txt K mg) : Dn P w K mg base 3 "looked_at" ["net", "worker"] d_looked_at := by
  have c_is_index := (k_is_index (P := P) (w := w) (base := base) T).mono (show 2 ≤ 2 by decide)
  have m_len := T.m_len
  have hN := sc_looked_at.nd
  exact okN T.f_looked_at sc_looked_at fun cdv A outer s H E z gd room tk =>
    (db_cons (ds_if (dt_not (dt_val (de_cal c_is_index gd room tk (dah_cons (de_var 1) (dah_cons (de_len m_len (de_ix (u65 room) (de_var 0) de_int)) dah_nil))))) (db_one (ds_raiseO rfl fo_worker T.x_NoWorker room tk (de_var 1))) db_nil)
    (db_one (ds_ret (de_ix (u65 room) (de_ix (u65 room) (de_var 0) de_int) (de_var 1)))))
theorem sc_letter_at : FnScope ["net", "worker", "state", "shown"] ["net", "worker", "state"] (defScope s_letter_at) := ⟨rfl, rfl, rfl, by decide +kernel, rfl, by decide +kernel, by decide +kernel⟩
theorem k_letter_at (T : Txt K mg) : Dn P w K mg base 4 "letter_at" ["net", "worker", "state"] d_letter_at := by
  have c_looked_at := (k_looked_at (P := P) (w := w) (base := base) T).mono (show 3 ≤ 3 by decide)
  have c_is_index := (k_is_index (P := P) (w := w) (base := base) T).mono (show 2 ≤ 3 by decide)
  have m_len := T.m_len
  have hN := sc_letter_at.nd
  exact okN T.f_letter_at sc_letter_at fun cdv A outer s H E z gd room tk =>
    (db_cons (ds_set 3 hN (de_ix (u65 room) (de_cal c_looked_at gd room tk (dah_cons (de_var 0) (dah_cons (de_var 1) dah_nil))) de_int))
    (db_cons (ds_if (dt_not (dt_val (de_cal c_is_index gd room tk (dah_cons (de_var 2) (dah_cons (de_len m_len (de_var 3)) dah_nil))))) (db_one (ds_raiseO rfl fo_state T.x_NoState room tk (de_var 2))) db_nil)
    (db_one (ds_ret (de_ix (u65 room) (de_var 3) (de_var 2))))))
theorem sc_code_at : FnScope ["net", "worker", "state", "codes"] ["net", "worker", "state"] (defScope s_code_at) := ⟨rfl, rfl, rfl, by decide +kernel, rfl, by decide +kernel, by decide +kernel⟩
theorem k_code_at (T : Txt K mg) : Dn P w K mg base 4 "code_at" ["net", "worker", "state"] d_code_at := by
  have c_looked_at := (k_looked_at (P := P) (w := w) (base := base) T).mono (show 3 ≤ 3 by decide)
  have c_is_index := (k_is_index (P := P) (w := w) (base := base) T).mono (show 2 ≤ 3 by decide)
  have m_len := T.m_len
  have hN := sc_code_at.nd
  exact okN T.f_code_at sc_code_at fun cdv A outer s H E z gd room tk =>
    (db_cons (ds_set 3 hN (de_ix (u65 room) (de_cal c_looked_at gd room tk (dah_cons (de_var 0) (dah_cons (de_var 1) dah_nil))) de_int))
    (db_cons (ds_if (dt_not (dt_val (de_cal c_is_index gd room tk (dah_cons (de_var 2) (dah_cons (de_len m_len (de_var 3)) dah_nil))))) (db_one (ds_raiseO rfl fo_state T.x_NoState room tk (de_var 2))) db_nil)
    (db_one (ds_ret (de_ix (u65 room) (de_var 3) (de_var 2))))))
theorem sc_shown_lots : FnScope ["net", "box", "found", "worker", "states", "letters", "state"] ["net", "box"] (defScope s_shown_lots) := ⟨rfl, rfl, rfl, by decide +kernel, rfl, by decide +kernel, by decide +kernel⟩
theorem k_shown_lots (T : Txt K mg) : Dn P w K mg base 1 "shown_lots" ["net", "box"] d_shown_lots := by
  have m_sorted := T.m_sorted
  have m_tuple := T.m_tuple
  have m_zip := T.m_zip
  have hN := sc_shown_lots.nd
  exact okN T.f_shown_lots sc_shown_lots fun cdv A outer s H E z gd room tk =>
    (db_cons (ds_set 2 hN (de_lst dah_nil))
    (db_cons (ds_for (passes_of rfl) rfl (calm_t (calms_c (calm_n (i := 3)) (calms_c (calm_n (i := 4)) calms_n))) (di_zip rfl m_zip (dah_cons (de_ix (u65 room) (de_var 0) de_int) (dah_cons (de_var 1) dah_nil))) (dg_tup rfl (dgs_cons (dg_name 3 hN) (dgs_cons (dg_name 4 hN) dgs_nil))) (db_cons (ds_set 5 hN de_dnewK)
    (db_cons (ds_for (passes_of rfl) rfl (calm_n (i := 6)) (di_seq (de_var 4)) (dg_name 6 hN) (db_one (ds_store (u65 room) 5 de_bl (de_ix (u65 room) (de_ix (u65 room) (de_var 3) de_int) (de_var 6)))))
    (db_one (ds_expr (de_append 2 (de_tuple m_tuple (de_sortedE rfl (u65 room) m_sorted (de_var 5)))))))))
    (db_one (ds_ret (de_tuple m_tuple (de_var 2))))))
theorem sc_joined_lots : FnScope ["one", "other", "found", "entry", "more", "letters", "letter"] ["one", "other"] (defScope s_joined_lots) := ⟨rfl, rfl, rfl, by decide +kernel, rfl, by decide +kernel, by decide +kernel⟩
theorem k_joined_lots (T : Txt K mg) : Dn P w K mg base 1 "joined_lots" ["one", "other"] d_joined_lots := by
  have m_sorted := T.m_sorted
  have m_tuple := T.m_tuple
  have m_zip := T.m_zip
  have hN := sc_joined_lots.nd
  exact okN T.f_joined_lots sc_joined_lots fun cdv A outer s H E z gd room tk =>
    (db_cons (ds_set 2 hN (de_lst dah_nil))
    (db_cons (ds_for (passes_of rfl) rfl (calm_t (calms_c (calm_n (i := 3)) (calms_c (calm_n (i := 4)) calms_n))) (di_zip rfl m_zip (dah_cons (de_var 0) (dah_cons (de_var 1) dah_nil))) (dg_tup rfl (dgs_cons (dg_name 3 hN) (dgs_cons (dg_name 4 hN) dgs_nil))) (db_cons (ds_set 5 hN de_dnewK)
    (db_cons (ds_for (passes_of rfl) rfl (calm_n (i := 6)) (di_seq (de_add (de_var 3) (de_var 4))) (dg_name 6 hN) (db_one (ds_store (u65 room) 5 de_bl (de_var 6))))
    (db_one (ds_expr (de_append 2 (de_tuple m_tuple (de_sortedE rfl (u65 room) m_sorted (de_var 5)))))))))
    (db_one (ds_ret (de_tuple m_tuple (de_var 2))))))
theorem sc_stepped : FnScope ["net", "box", "lots", "movers", "barred", "found", "worker", "reached", "state", "letters", "shown", "codes", "behind"] ["net", "box", "lots", "movers", "barred"] (defScope s_stepped) := ⟨rfl, rfl, rfl, by decide +kernel, rfl, by decide +kernel, by decide +kernel⟩
theorem k_stepped (T : Txt K mg) : Dn P w K mg base 3 "stepped" ["net", "box", "lots", "movers", "barred"] d_stepped := by
  have c_results_of := (k_results_of (P := P) (w := w) (base := base) T).mono (show 2 ≤ 2 by decide)
  have m_list := T.m_list
  have m_sorted := T.m_sorted
  have m_tuple := T.m_tuple
  have hN := sc_stepped.nd
  exact okN T.f_stepped sc_stepped fun cdv A outer s H E z gd room tk =>
    (db_cons (ds_set 5 hN (de_list m_list (de_var 1)))
    (db_cons (ds_for (passes_of rfl) rfl (calm_n (i := 6)) (di_seq (de_var 3)) (dg_name 6 hN) (db_cons (ds_asg (calm_t (calms_c (calm_n (i := 9)) (calms_c (calm_n (i := 10)) (calms_c (calm_n (i := 11)) calms_n)))) (de_ix (u65 room) (de_ix (u65 room) (de_var 0) de_int) (de_var 6)) (dg_tup rfl (dgs_cons (dg_name 9 hN) (dgs_cons (dg_name 10 hN) (dgs_cons (dg_name 11 hN) dgs_nil)))))
    (db_cons (ds_set 7 hN de_dnewK)
    (db_cons (ds_for (passes_of rfl) rfl (calm_n (i := 8)) (di_seq (de_ix (u65 room) (de_var 1) (de_var 6))) (dg_name 8 hN) (db_cons (ds_store (u65 room) 7 de_bl (de_var 8))
    (db_one (ds_for (passes_of rfl) rfl (calm_n (i := 12)) (di_seq (de_cal c_results_of gd room tk (dah_cons (de_ix (u65 room) (de_var 11) (de_var 8)) (dah_cons (de_var 2) dah_nil)))) (dg_name 12 hN) (db_one (ds_if (dt_ne (u64 room) (de_tup (dah_cons (de_var 6) (dah_cons (de_ix (u65 room) (de_var 10) (de_var 12)) dah_nil))) (de_var 4)) (db_one (ds_store (u65 room) 7 de_bl (de_var 12))) db_nil))))))
    (db_one (ds_store (u65 room) 5 (de_tuple m_tuple (de_sortedE rfl (u65 room) m_sorted (de_var 7))) (de_var 6)))))))
    (db_one (ds_ret (de_tuple m_tuple (de_var 5))))))
theorem sc_grown : FnScope ["net", "box", "lots", "movers", "barred", "here", "behind"] ["net", "box", "lots", "movers", "barred"] (defScope s_grown) := ⟨rfl, rfl, rfl, by decide +kernel, rfl, by decide +kernel, by decide +kernel⟩
theorem k_grown (T : Txt K mg) : Dn P w K mg base 4 "grown" ["net", "box", "lots", "movers", "barred"] d_grown := by
  have c_shown_lots := (k_shown_lots (P := P) (w := w) (base := base) T).mono (show 1 ≤ 3 by decide)
  have c_joined_lots := (k_joined_lots (P := P) (w := w) (base := base) T).mono (show 1 ≤ 3 by decide)
  have c_stepped := (k_stepped (P := P) (w := w) (base := base) T).mono (show 3 ≤ 3 by decide)
  have hN := sc_grown.nd
  exact okN T.f_grown sc_grown fun cdv A outer s H E z gd room tk =>
    (db_cons (ds_set 5 hN (de_var 1))
    (db_one (ds_while whFuel (passes_of rfl) (dt_val de_bl) (db_cons (ds_set 6 hN (de_cal c_stepped gd room tk (dah_cons (de_var 0) (dah_cons (de_var 5) (dah_cons (de_cal c_joined_lots gd room tk (dah_cons (de_cal c_shown_lots gd room tk (dah_cons (de_var 0) (dah_cons (de_var 5) dah_nil))) (dah_cons (de_var 2) dah_nil))) (dah_cons (de_var 3) (dah_cons (de_var 4) dah_nil)))))))
    (db_cons (ds_if (dt_eq (u64 room) (de_var 6) (de_var 5)) (db_one (ds_ret (de_var 5))) db_nil)
    (db_one (ds_set 5 hN (de_var 6))))))))
theorem sc_first_knot : FnScope ["net", "lots", "worker"] ["net"] (defScope s_first_knot) := ⟨rfl, rfl, rfl, by decide +kernel, rfl, by decide +kernel, by decide +kernel⟩
theorem k_first_knot (T : Txt K mg) : Dn P w K mg base 5 "first_knot" ["net"] d_first_knot := by
  have c_letter_at := (k_letter_at (P := P) (w := w) (base := base) T).mono (show 4 ≤ 4 by decide)
  have m_tuple := T.m_tuple
  have hN := sc_first_knot.nd
  exact okN T.f_first_knot sc_first_knot fun cdv A outer s H E z gd room tk =>
    (db_cons (ds_set 1 hN (de_tuple m_tuple (de_lc (own := [("worker", 2)]) rfl hN (calm_n (i := 2)) (di_seq (de_ix (u65 room) (de_var 0) de_int)) (blkOk_by rfl) (by decide) (fun s H C cl fp z => (dg_name 2 hN)) (fun s H C cl fp => pts_x0) (fun s H C cl fp z hz => (de_tup (dah_cons (de_cal c_letter_at gd room (tk_blk hz) (dah_cons (de_var 0) (dah_cons (de_var 2) (dah_cons de_int dah_nil)))) dah_nil))))))
    (db_one (ds_ret (de_tup (dah_cons (de_tuple m_tuple (de_lc (own := [("worker", 2)]) rfl hN (calm_n (i := 2)) (di_seq (de_ix (u65 room) (de_var 0) de_int)) (blkOk_by rfl) (by decide) (fun s H C cl fp z => (dg_name 2 hN)) (fun s H C cl fp => pts_x0) (fun s H C cl fp z hz => de_int))) (dah_cons (de_var 1) dah_nil))))))
theorem sc_movers_of : FnScope ["net", "worker"] ["net"] (defScope s_movers_of) := ⟨rfl, rfl, rfl, by decide +kernel, rfl, by decide +kernel, by decide +kernel⟩
theorem k_movers_of (T : Txt K mg) : Dn P w K mg base 1 "movers_of" ["net"] d_movers_of := by
  have m_len := T.m_len
  have m_range := T.m_range
  have hN := sc_movers_of.nd
  exact okN T.f_movers_of sc_movers_of fun cdv A outer s H E z gd room tk =>
    (db_one (ds_ret (de_lc (own := [("worker", 1)]) rfl hN (calm_n (i := 1)) (di_rng1 rfl m_range (de_len m_len (de_ix (u65 room) (de_var 0) de_int))) (blkOk_by rfl) (by decide) (fun s H C cl fp z => (dg_name 1 hN)) (fun s H C cl fp => (pts_x1 fun z hz => (dt_notin (u65 room) (de_var 1) (de_ix (u65 room) (de_var 0) de_int)))) (fun s H C cl fp z hz => (de_var 1)))))
theorem sc_lots_of_knot : FnScope ["net", "knot", "found", "worker", "entry"] ["net", "knot"] (defScope s_lots_of_knot) := ⟨rfl, rfl, rfl, by decide +kernel, rfl, by decide +kernel, by decide +kernel⟩
theorem k_lots_of_knot (T : Txt K mg) : Dn P w K mg base 1 "lots_of_knot" ["net", "knot"] d_lots_of_knot := by
  have m_tuple := T.m_tuple
  have m_zip := T.m_zip
  have hN := sc_lots_of_knot.nd
  exact okN T.f_lots_of_knot sc_lots_of_knot fun cdv A outer s H E z gd room tk =>
    (db_cons (ds_setLc (own := [("worker", 3)]) rfl hN (calm_n (i := 3)) (di_seq (de_ix (u65 room) (de_var 0) de_int)) (blkOk_by rfl) (by decide) (fun s H C cl fp z => (dg_name 3 hN)) (fun s H C cl fp => pts_x0) (fun s H C cl fp z hz => (de_tup dah_nil)))
    (db_cons (ds_for (passes_of rfl) rfl (calm_t (calms_c (calm_n (i := 3)) (calms_c (calm_n (i := 4)) calms_n))) (di_zip rfl m_zip (dah_cons (de_ix (u65 room) (de_var 0) de_int) (dah_cons (de_ix (u65 room) (de_var 1) de_int) dah_nil))) (dg_tup rfl (dgs_cons (dg_name 3 hN) (dgs_cons (dg_name 4 hN) dgs_nil))) (db_one (ds_store (u65 room) 2 (de_var 4) (de_var 3))))
    (db_one (ds_ret (de_tuple m_tuple (de_var 2))))))
theorem sc_knot_box : FnScope ["net", "knot", "begun", "worker", "state"] ["net", "knot"] (defScope s_knot_box) := ⟨rfl, rfl, rfl, by decide +kernel, rfl, by decide +kernel, by decide +kernel⟩
theorem k_knot_box (T : Txt K mg) : Dn P w K mg base 5 "knot_box" ["net", "knot"] d_knot_box := by
  have c_lots_of_knot := (k_lots_of_knot (P := P) (w := w) (base := base) T).mono (show 1 ≤ 4 by decide)
  have c_movers_of := (k_movers_of (P := P) (w := w) (base := base) T).mono (show 1 ≤ 4 by decide)
  have c_grown := (k_grown (P := P) (w := w) (base := base) T).mono (show 4 ≤ 4 by decide)
  have m_tuple := T.m_tuple
  have m_zip := T.m_zip
  have hN := sc_knot_box.nd
  exact okN T.f_knot_box sc_knot_box fun cdv A outer s H E z gd room tk =>
    (db_cons (ds_setLc (own := [("worker", 3)]) rfl hN (calm_n (i := 3)) (di_seq (de_ix (u65 room) (de_var 0) de_int)) (blkOk_by rfl) (by decide) (fun s H C cl fp z => (dg_name 3 hN)) (fun s H C cl fp => pts_x0) (fun s H C cl fp z hz => (de_tup (dah_cons de_int dah_nil))))
    (db_cons (ds_for (passes_of rfl) rfl (calm_t (calms_c (calm_n (i := 3)) (calms_c (calm_n (i := 4)) calms_n))) (di_zip rfl m_zip (dah_cons (de_ix (u65 room) (de_var 0) de_int) (dah_cons (de_ix (u65 room) (de_var 1) de_int) dah_nil))) (dg_tup rfl (dgs_cons (dg_name 3 hN) (dgs_cons (dg_name 4 hN) dgs_nil))) (db_one (ds_store (u65 room) 2 (de_tup (dah_cons (de_var 4) dah_nil)) (de_var 3))))
    (db_one (ds_ret (de_cal c_grown gd room tk (dah_cons (de_var 0) (dah_cons (de_tuple m_tuple (de_var 2)) (dah_cons (de_cal c_lots_of_knot gd room tk (dah_cons (de_var 0) (dah_cons (de_var 1) dah_nil))) (dah_cons (de_cal c_movers_of gd room tk (dah_cons (de_var 0) dah_nil)) (dah_cons de_non dah_nil))))))))))
theorem sc_behind_knot : FnScope ["net", "knot", "index", "state", "letter", "entry", "places", "lots"] ["net", "knot", "index", "state"] (defScope s_behind_knot) := ⟨rfl, rfl, rfl, by decide +kernel, rfl, by decide +kernel, by decide +kernel⟩
theorem k_behind_knot (T : Txt K mg) : Dn P w K mg base 5 "behind_knot" ["net", "knot", "index", "state"] d_behind_knot := by
  have c_letter_at := (k_letter_at (P := P) (w := w) (base := base) T).mono (show 4 ≤ 4 by decide)
  have m_set := T.m_set
  have m_sorted := T.m_sorted
  have m_tuple := T.m_tuple
  have hN := sc_behind_knot.nd
  exact okN T.f_behind_knot sc_behind_knot fun cdv A outer s H E z gd room tk =>
    (db_cons (ds_asg (calm_t (calms_c (calm_n (i := 6)) (calms_c (calm_n (i := 7)) calms_n))) (de_var 1) (dg_tup rfl (dgs_cons (dg_name 6 hN) (dgs_cons (dg_name 7 hN) dgs_nil))))
    (db_cons (ds_set 4 hN (de_cal c_letter_at gd room tk (dah_cons (de_var 0) (dah_cons (de_ix (u65 room) (de_ix (u65 room) (de_var 0) de_int) (de_var 2)) (dah_cons (de_var 3) dah_nil)))))
    (db_cons (ds_set 5 hN (de_tuple m_tuple (de_sortedSetU rfl m_sorted m_set (de_add (de_ix (u65 room) (de_var 7) (de_var 2)) (de_tup (dah_cons (de_var 4) dah_nil))))))
    (db_one (ds_ret (de_tup (dah_cons (de_add (de_add (de_sl (de_var 6) do_none (do_some (de_var 2))) (de_tup (dah_cons (de_var 3) dah_nil))) (de_sl (de_var 6) (do_some (de_add (de_var 2) de_int)) do_none)) (dah_cons (de_add (de_add (de_sl (de_var 7) do_none (do_some (de_var 2))) (de_tup (dah_cons (de_var 5) dah_nil))) (de_sl (de_var 7) (do_some (de_add (de_var 2) de_int)) do_none)) dah_nil))))))))
theorem sc_about_knot : FnScope ["net", "knot"] ["net", "knot"] (defScope s_about_knot) := ⟨rfl, rfl, rfl, by decide +kernel, rfl, by decide +kernel, by decide +kernel⟩
theorem k_about_knot (T : Txt K mg) : Dn P w K mg base 6 "about_knot" ["net", "knot"] d_about_knot := by
  have c_knot_box := (k_knot_box (P := P) (w := w) (base := base) T).mono (show 5 ≤ 5 by decide)
  have c_shown_lots := (k_shown_lots (P := P) (w := w) (base := base) T).mono (show 1 ≤ 5 by decide)
  have c_lots_of_knot := (k_lots_of_knot (P := P) (w := w) (base := base) T).mono (show 1 ≤ 5 by decide)
  have c_joined_lots := (k_joined_lots (P := P) (w := w) (base := base) T).mono (show 1 ≤ 5 by decide)
  have hN := sc_about_knot.nd
  exact okN T.f_about_knot sc_about_knot fun cdv A outer s H E z gd room tk =>
    (db_one (ds_ret (de_cal c_joined_lots gd room tk (dah_cons (de_cal c_shown_lots gd room tk (dah_cons (de_var 0) (dah_cons (de_cal c_knot_box gd room tk (dah_cons (de_var 0) (dah_cons (de_var 1) dah_nil))) dah_nil))) (dah_cons (de_cal c_lots_of_knot gd room tk (dah_cons (de_var 0) (dah_cons (de_var 1) dah_nil))) dah_nil)))))
theorem sc_knots_by : FnScope ["net", "knot", "lots", "found", "index", "worker", "state"] ["net", "knot", "lots"] (defScope s_knots_by) := ⟨rfl, rfl, rfl, by decide +kernel, rfl, by decide +kernel, by decide +kernel⟩
theorem k_knots_by (T : Txt K mg) : Dn P w K mg base 6 "knots_by" ["net", "knot", "lots"] d_knots_by := by
  have c_code_at := (k_code_at (P := P) (w := w) (base := base) T).mono (show 4 ≤ 5 by decide)
  have c_results_of := (k_results_of (P := P) (w := w) (base := base) T).mono (show 2 ≤ 5 by decide)
  have c_behind_knot := (k_behind_knot (P := P) (w := w) (base := base) T).mono (show 5 ≤ 5 by decide)
  have m_enumerate := T.m_enumerate
  have m_sorted := T.m_sorted
  have hN := sc_knots_by.nd
  exact okN T.f_knots_by sc_knots_by fun cdv A outer s H E z gd room tk =>
    (db_cons (ds_set 3 hN de_dnewT)
    (db_cons (ds_for (passes_of rfl) rfl (calm_t (calms_c (calm_n (i := 4)) (calms_c (calm_n (i := 5)) calms_n))) (di_enum rfl m_enumerate (de_ix (u65 room) (de_var 0) de_int)) (dg_tup rfl (dgs_cons (dg_name 4 hN) (dgs_cons (dg_name 5 hN) dgs_nil))) (db_one (ds_for (passes_of rfl) rfl (calm_n (i := 6)) (di_seq (de_cal c_results_of gd room tk (dah_cons (de_cal c_code_at gd room tk (dah_cons (de_var 0) (dah_cons (de_var 5) (dah_cons (de_ix (u65 room) (de_ix (u65 room) (de_var 1) de_int) (de_var 4)) dah_nil)))) (dah_cons (de_var 2) dah_nil)))) (dg_name 6 hN) (db_one (ds_store (u65 room) 3 de_bl (de_cal c_behind_knot gd room tk (dah_cons (de_var 0) (dah_cons (de_var 1) (dah_cons (de_var 4) (dah_cons (de_var 6) dah_nil))))))))))
    (db_one (ds_ret (de_sortedN rfl (u65 room) m_sorted (de_var 3))))))
theorem sc_next_knots : FnScope ["net", "knot"] ["net", "knot"] (defScope s_next_knots) := ⟨rfl, rfl, rfl, by decide +kernel, rfl, by decide +kernel, by decide +kernel⟩
theorem k_next_knots (T : Txt K mg) : Dn P w K mg base 7 "next_knots" ["net", "knot"] d_next_knots := by
  have c_about_knot := (k_about_knot (P := P) (w := w) (base := base) T).mono (show 6 ≤ 6 by decide)
  have c_knots_by := (k_knots_by (P := P) (w := w) (base := base) T).mono (show 6 ≤ 6 by decide)
  have hN := sc_next_knots.nd
  exact okN T.f_next_knots sc_next_knots fun cdv A outer s H E z gd room tk =>
    (db_one (ds_ret (de_cal c_knots_by gd room tk (dah_cons (de_var 0) (dah_cons (de_var 1) (dah_cons (de_cal c_about_knot gd room tk (dah_cons (de_var 0) (dah_cons (de_var 1) dah_nil))) dah_nil))))))
theorem sc__law_bag : FnScope ["_law_script", "_law_cell"] ["_law_script"] (defScope s__law_bag) := ⟨rfl, rfl, rfl, by decide +kernel, rfl, by decide +kernel, by decide +kernel⟩
theorem k__law_bag (T : Txt K mg) : Dn P w K mg base 1 "_law_bag" ["_law_script"] d__law_bag := by
  have m_abs := T.m_abs
  have hN := sc__law_bag.nd
  exact okN T.f__law_bag sc__law_bag fun cdv A outer s H E z gd room tk =>
    (db_one (ds_ret (de_lst (dah_cons de_int (dah_cons de_int (dah_cons de_int (dah_cons (de_frz (de_lc (own := [("_law_cell", 1)]) rfl hN (calm_n (i := 1)) (di_seq (de_sl (de_var 0) do_none (do_some de_int))) (blkOk_by rfl) (by decide) (fun s H C cl fp z => (dg_name 1 hN)) (fun s H C cl fp => pts_x0) (fun s H C cl fp z hz => (de_abs m_abs (de_var 1))))) dah_nil)))))))
theorem sc__law_take : FnScope ["_law_bag_here", "_law_upto", "_law_begin", "_law_second", "_law_cell", "_law_stirred", "_law_value"] ["_law_bag_here", "_law_upto"] (defScope s__law_take) := ⟨rfl, rfl, rfl, by decide +kernel, rfl, by decide +kernel, by decide +kernel⟩
theorem k__law_take (T : Txt K mg) : Dn P w K mg base 1 "_law_take" ["_law_bag_here", "_law_upto"] d__law_take := by
  have m_int := T.m_int
  have hN := sc__law_take.nd
  exact okN T.f__law_take sc__law_take fun cdv A outer s H E z gd room tk =>
    (db_cons (ds_if (dt_eq (u64 room) (de_ixO (u65 room) (de_var 0) de_int) de_int) (db_cons (ds_set 4 hN (de_ix (u65 room) (de_add (de_sl (de_ixO (u65 room) (de_var 0) de_int) (do_some (de_ixO (u65 room) (de_var 0) de_int)) do_none) (de_lst (dah_cons de_int dah_nil))) de_int))
    (db_cons (ds_augSAdd (u65 room) 0 de_int de_int)
    (db_cons (ds_if (dt_ge (de_var 4) (de_pow de_int de_int)) (db_one (ds_store (u65 room) 0 (de_var 4) de_int)) db_nil)
    (db_cons (ds_set 5 hN (de_add (de_add (de_mul (de_ixO (u65 room) (de_var 0) de_int) de_int) (de_mod (de_intC m_int (de_var 4)) de_int)) (de_mul de_int (de_ixO (u65 room) (de_var 0) de_int))))
    (db_one (ds_store (u65 room) 0 (de_mod (de_intC m_int (de_var 5)) de_int) de_int)))))) db_nil)
    (db_cons (ds_if (dt_gt (de_ixO (u65 room) (de_var 0) de_int) de_int) (db_cons (ds_set 6 hN (de_mod (de_intC m_int (de_ixO (u65 room) (de_var 0) de_int)) (de_var 1)))
    (db_cons (ds_store (u65 room) 0 (de_div (de_intC m_int (de_ixO (u65 room) (de_var 0) de_int)) (de_var 1)) de_int)
    (db_one (ds_ret (de_var 6))))) db_nil)
    (db_cons (ds_set 2 hN (de_mod (de_intC m_int (de_mul (de_add (de_ixO (u65 room) (de_var 0) de_int) de_int) de_int)) de_int))
    (db_cons (ds_set 3 hN (de_mod (de_intC m_int (de_mul (de_mod (de_intC m_int (de_mul (de_var 2) (de_var 2))) de_int) de_int)) de_int))
    (db_one (ds_ret (de_mod (de_intC m_int (de_div (de_var 3) de_int)) (de_var 1))))))))
theorem sc__law_alike : FnScope ["_law_found", "_law_due"] ["_law_found", "_law_due"] (defScope s__law_alike) := ⟨rfl, rfl, rfl, by decide +kernel, rfl, by decide +kernel, by decide +kernel⟩
theorem k__law_alike (T : Txt K mg) : Dn P w K mg base 1 "_law_alike" ["_law_found", "_law_due"] d__law_alike := by
  have m_repr := T.m_repr
  have hN := sc__law_alike.nd
  exact okN T.f__law_alike sc__law_alike fun cdv A outer s H E z gd room tk =>
    (db_one (ds_ret (de_and (de_eq (u64 room) (de_var 0) (de_var 1)) (de_one (de_eq (u64 room) (de_repr gd (u65 room) m_repr (de_var 0)) (de_repr gd (u65 room) m_repr (de_var 1)))))))
theorem sc__law_free : FnScope ["_law_bag_here", "_law_own", "_law_states", "_law_letters", "_law_deep", "_law_asked", "_law_k", "_law_rich", "_law_codes"] ["_law_bag_here", "_law_own", "_law_states", "_law_letters", "_law_deep"] (defScope s__law_free) := ⟨rfl, rfl, rfl, by decide +kernel, rfl, by decide +kernel, by decide +kernel⟩
theorem k__law_free (T : Txt K mg) : ∀ n : Nat, Dn P w K mg base (1 + n) "_law_free" ["_law_bag_here", "_law_own", "_law_states", "_law_letters", "_law_deep"] (d__law_free n)
  | 0 => T.f__law_free.none_
  | n + 1 => by
    have c__law_free := k__law_free T n
    have c__law_take := (k__law_take (P := P) (w := w) (base := base) T).mono (show 1 ≤ 1 + n by omega)
    have m_len := T.m_len
    have m_range := T.m_range
    have m_tuple := T.m_tuple
    have hN := sc__law_free.nd
    exact okN T.f__law_free sc__law_free fun cdv A outer s H E z gd room tk =>
    (db_cons (ds_if (dt_w (dw_or (dt_eq (u64 room) (de_var 4) de_int) (dw_or1 (dt_eq (u64 room) (de_cal c__law_take gd room tk (dah_cons (de_var 0) (dah_cons de_int dah_nil))) de_int)))) (db_one (ds_ret (de_tup (dah_cons de_str (dah_cons (de_cal c__law_take gd room tk (dah_cons (de_var 0) (dah_cons (de_ix (u65 room) (de_var 2) (de_var 1)) dah_nil))) dah_nil))))) db_nil)
    (db_cons (ds_set 5 hN (de_cal c__law_take gd room tk (dah_cons (de_var 0) (dah_cons (de_len m_len (de_var 3)) dah_nil))))
    (db_cons (ds_par2 7 8 rfl hN (de_cal c__law_take gd room tk (dah_cons (de_var 0) (dah_cons (de_ix (u65 room) (de_var 3) (de_var 5)) dah_nil))) (de_lst dah_nil))
    (db_cons (ds_for (passes_of rfl) rfl (calm_n (i := 6)) (di_rng1 rfl m_range (de_ix (u65 room) (de_var 3) (de_var 5))) (dg_name 6 hN) (db_one (ds_expr (de_append 8 (de_cal c__law_free gd room tk (dah_cons (de_var 0) (dah_cons (de_var 1) (dah_cons (de_var 2) (dah_cons (de_var 3) (dah_cons (de_if (dt_w (dw_and (dt_eq (u64 room) (de_var 4) de_int) (dw_and1 (dt_ne (u64 room) (de_var 6) (de_var 7))))) de_int (de_sub (de_var 4) de_int)) dah_nil))))))))))
    (db_one (ds_ret (de_tup (dah_cons de_str (dah_cons (de_var 5) (dah_cons (de_tuple m_tuple (de_var 8)) dah_nil))))))))))
theorem sc__law_form : FnScope ["_law_form_here", "_law_at", "_law_many", "_law_asked", "_law_heard", "_law_goes", "_law_twice", "_law_k", "_law_m", "_law_state", "_law_row"] ["_law_form_here", "_law_at", "_law_many", "_law_asked", "_law_heard"] (defScope s__law_form) := ⟨rfl, rfl, rfl, by decide +kernel, rfl, by decide +kernel, by decide +kernel⟩
theorem k__law_form (T : Txt K mg) : Dn P w K mg base 1 "_law_form" ["_law_form_here", "_law_at", "_law_many", "_law_asked", "_law_heard"] d__law_form := by
  have m_int := T.m_int
  have m_max := T.m_max
  have m_min := T.m_min
  have m_range := T.m_range
  have m_tuple := T.m_tuple
  have hN := sc__law_form.nd
  exact okN T.f__law_form sc__law_form fun cdv A outer s H E z gd room tk =>
    (db_cons (ds_setLc (own := [("_law_k", 7)]) rfl hN (calm_n (i := 7)) (di_rng1 rfl m_range (de_var 4)) (blkOk_by rfl) (by decide) (fun s H C cl fp z => (dg_name 7 hN)) (fun s H C cl fp => pts_x0) (fun s H C cl fp z hz => (de_mod (de_var 7) (de_var 2))))
    (db_cons (ds_if (dt_eq (u64 room) (de_var 0) de_int) (db_one (ds_setLc (own := [("_law_k", 7)]) rfl hN (calm_n (i := 7)) (di_rng1 rfl m_range (de_var 4)) (blkOk_by rfl) (by decide) (fun s H C cl fp z => (dg_name 7 hN)) (fun s H C cl fp => pts_x0) (fun s H C cl fp z hz => (de_mod (de_add (de_var 7) de_int) (de_var 2))))) (db_one (ds_if (dt_eq (u64 room) (de_var 0) de_int) (db_one (ds_setLc (own := [("_law_k", 7)]) rfl hN (calm_n (i := 7)) (di_rng1 rfl m_range (de_var 4)) (blkOk_by rfl) (by decide) (fun s H C cl fp z => (dg_name 7 hN)) (fun s H C cl fp => pts_x0) (fun s H C cl fp z hz => (de_mod (de_add (de_var 1) (de_intC m_int (de_eq (u64 room) (de_var 7) (de_mod (de_var 1) (de_var 4))))) (de_var 2))))) (db_one (ds_if (dt_eq (u64 room) (de_var 0) de_int) (db_one (ds_setLc (own := [("_law_k", 7)]) rfl hN (calm_n (i := 7)) (di_rng1 rfl m_range (de_var 4)) (blkOk_by rfl) (by decide) (fun s H C cl fp z => (dg_name 7 hN)) (fun s H C cl fp => pts_x0) (fun s H C cl fp z hz => (de_max2 rfl m_max (de_var 1) (de_mod (de_var 7) (de_var 2)))))) (db_one (ds_if (dt_w (dw_or (dt_w (dw_and (dt_eq (u64 room) (de_var 0) de_int) (dw_and1 (dt_gt (de_var 1) de_int)))) (dw_or1 (dt_w (dw_and (dt_eq (u64 room) (de_var 0) de_int) (dw_and1 (dt_eq (u64 room) (de_var 1) de_int))))))) (db_one (ds_ret (de_tup (dah_cons de_str (dah_cons (de_min2 rfl m_min (de_add (de_var 1) (de_intC m_int (de_eq (u64 room) (de_var 0) de_int))) (de_sub (de_var 2) de_int)) dah_nil))))) (db_one (ds_if (dt_w (dw_and (dt_eq (u64 room) (de_var 0) de_int) (dw_and1 (dt_gt (de_var 1) de_int)))) (db_one (ds_ret (de_tup (dah_cons de_str (dah_cons (de_if (dt_lt (de_add (de_var 1) de_int) (de_var 2)) (de_add (de_var 1) de_int) (de_sub de_int (de_mod (de_var 1) de_int))) dah_nil))))) (db_one (ds_if (dt_eq (u64 room) (de_var 0) de_int) (db_one (ds_ret (de_tup (dah_cons de_str (dah_cons (de_mod (de_add (de_var 1) de_int) (de_var 2)) dah_nil))))) (db_one (ds_if (dt_eq (u64 room) (de_var 0) de_int) (db_one (ds_setLc (own := [("_law_k", 7)]) rfl hN (calm_n (i := 7)) (di_rng1 rfl m_range (de_var 4)) (blkOk_by rfl) (by decide) (fun s H C cl fp z => (dg_name 7 hN)) (fun s H C cl fp => pts_x0) (fun s H C cl fp z hz => (de_min2 rfl m_min (de_add (de_var 7) de_int) (de_sub (de_var 2) de_int))))) db_nil)))))))))))))
    (db_cons (ds_if (dt_eq (u64 room) (de_var 0) de_int) (db_cons (ds_setLc (own := [("_law_k", 7)]) rfl hN (calm_n (i := 7)) (di_rng1 rfl m_range (de_var 4)) (blkOk_by rfl) (by decide) (fun s H C cl fp z => (dg_name 7 hN)) (fun s H C cl fp => pts_x0) (fun s H C cl fp z hz => (de_frz (de_lc (own := [("_law_m", 8)]) rfl hN (calm_n (i := 8)) (di_rng1 rfl m_range (de_var 4)) (blkOk_by rfl) (by decide) (fun s H C cl fp z => (dg_name 8 hN)) (fun s H C cl fp => pts_x0) (fun s H C cl fp z hz => (de_tup (dah_cons de_str (dah_cons (de_if (dt_eq (u64 room) (de_var 7) (de_var 8)) (de_var 1) (de_sub (de_var 2) de_int)) dah_nil))))))))
    (db_one (ds_ret (de_tup (dah_cons de_str (dah_cons (de_var 3) (dah_cons (de_tuple m_tuple (de_lc (own := [("_law_row", 10)]) rfl hN (calm_n (i := 10)) (di_seq (de_var 6)) (blkOk_by rfl) (by decide) (fun s H C cl fp z => (dg_name 10 hN)) (fun s H C cl fp => pts_x0) (fun s H C cl fp z hz => (de_tup (dah_cons de_str (dah_cons (de_var 3) (dah_cons (de_tuple m_tuple (de_var 10)) dah_nil))))))) dah_nil))))))) db_nil)
    (db_one (ds_ret (de_tup (dah_cons de_str (dah_cons (de_var 3) (dah_cons (de_tuple m_tuple (de_lc (own := [("_law_state", 9)]) rfl hN (calm_n (i := 9)) (di_seq (de_var 5)) (blkOk_by rfl) (by decide) (fun s H C cl fp z => (dg_name 9 hN)) (fun s H C cl fp => pts_x0) (fun s H C cl fp z hz => (de_tup (dah_cons de_str (dah_cons (de_var 9) dah_nil)))))) dah_nil)))))))))
theorem sc__law_worker : FnScope ["_law_bag_here", "_law_own", "_law_states", "_law_letters", "_law_deep", "_law_shown_here", "_law_codes", "_law_form_here", "_law_asked", "_law_k"] ["_law_bag_here", "_law_own", "_law_states", "_law_letters", "_law_deep"] (defScope s__law_worker) := ⟨rfl, rfl, rfl, by decide +kernel, rfl, by decide +kernel, by decide +kernel⟩
theorem k__law_worker (T : Txt K mg) : Dn P w K mg base 7 "_law_worker" ["_law_bag_here", "_law_own", "_law_states", "_law_letters", "_law_deep"] d__law_worker := by
  have c__law_take := (k__law_take (P := P) (w := w) (base := base) T).mono (show 1 ≤ 6 by decide)
  have c__law_form := (k__law_form (P := P) (w := w) (base := base) T).mono (show 1 ≤ 6 by decide)
  have c__law_free := (k__law_free (P := P) (w := w) (base := base) T 5).mono (show 6 ≤ 6 by decide)
  have m_len := T.m_len
  have m_range := T.m_range
  have m_tuple := T.m_tuple
  have hN := sc__law_worker.nd
  exact okN T.f__law_worker sc__law_worker fun cdv A outer s H E z gd room tk =>
    (db_cons (ds_asg (calm_t (calms_c (calm_n (i := 7)) (calms_c (calm_n (i := 8)) calms_n))) (de_tup (dah_cons (de_cal c__law_take gd room tk (dah_cons (de_var 0) (dah_cons de_int dah_nil))) (dah_cons (de_cal c__law_take gd room tk (dah_cons (de_var 0) (dah_cons (de_len m_len (de_var 3)) dah_nil))) dah_nil))) (dg_tup rfl (dgs_cons (dg_name 7 hN) (dgs_cons (dg_name 8 hN) dgs_nil))))
    (db_cons (ds_setLc (own := [("_law_k", 9)]) rfl hN (calm_n (i := 9)) (di_rng1 rfl m_range (de_ix (u65 room) (de_var 2) (de_var 1))) (blkOk_by rfl) (by decide) (fun s H C cl fp z => (dg_name 9 hN)) (fun s H C cl fp => pts_x0) (fun s H C cl fp z hz => (de_mod (de_var 9) (de_ix (u65 room) (de_var 3) (de_var 1)))))
    (db_cons (ds_if (dt_eq (u64 room) (de_cal c__law_take gd room tk (dah_cons (de_var 0) (dah_cons de_int dah_nil))) de_int) (db_one (ds_setLc (own := [("_law_k", 9)]) rfl hN (calm_n (i := 9)) (di_rng1 rfl m_range (de_ix (u65 room) (de_var 2) (de_var 1))) (blkOk_by rfl) (by decide) (fun s H C cl fp z => (dg_name 9 hN)) (fun s H C cl fp => pts_x0) (fun s H C cl fp z hz => (de_cal c__law_take gd room (tk_blk hz) (dah_cons (de_var 0) (dah_cons (de_ix (u65 room) (de_var 3) (de_var 1)) dah_nil)))))) db_nil)
    (db_cons (ds_setLc (own := [("_law_k", 9)]) rfl hN (calm_n (i := 9)) (di_rng1 rfl m_range (de_ix (u65 room) (de_var 2) (de_var 1))) (blkOk_by rfl) (by decide) (fun s H C cl fp z => (dg_name 9 hN)) (fun s H C cl fp => (pts_x1 fun z hz => (dt_gt (de_var 7) de_int))) (fun s H C cl fp z hz => (de_cal c__law_form gd room (tk_blk hz) (dah_cons (de_var 7) (dah_cons (de_var 9) (dah_cons (de_ix (u65 room) (de_var 2) (de_var 1)) (dah_cons (de_var 8) (dah_cons (de_ix (u65 room) (de_var 3) (de_var 8)) dah_nil))))))))
    (db_cons (ds_if (dt_eq (u64 room) (de_var 7) de_int) (db_one (ds_setLc (own := [("_law_k", 9)]) rfl hN (calm_n (i := 9)) (di_rng1 rfl m_range (de_ix (u65 room) (de_var 2) (de_var 1))) (blkOk_by rfl) (by decide) (fun s H C cl fp z => (dg_name 9 hN)) (fun s H C cl fp => pts_x0) (fun s H C cl fp z hz => (de_cal c__law_free gd room (tk_blk hz) (dah_cons (de_var 0) (dah_cons (de_var 1) (dah_cons (de_var 2) (dah_cons (de_var 3) (dah_cons (de_var 4) dah_nil))))))))) (db_one (ds_if (dt_eq (u64 room) (de_cal c__law_take gd room tk (dah_cons (de_var 0) (dah_cons de_int dah_nil))) de_int) (db_one (ds_store (u65 room) 6 (de_cal c__law_free gd room tk (dah_cons (de_var 0) (dah_cons (de_var 1) (dah_cons (de_var 2) (dah_cons (de_var 3) (dah_cons (de_var 4) dah_nil)))))) (de_cal c__law_take gd room tk (dah_cons (de_var 0) (dah_cons (de_len m_len (de_var 6)) dah_nil))))) db_nil)))
    (db_one (ds_ret (de_tup (dah_cons (de_ix (u65 room) (de_var 3) (de_var 1)) (dah_cons (de_tuple m_tuple (de_var 5)) (dah_cons (de_tuple m_tuple (de_var 6)) dah_nil)))))))))))
theorem sc__law_net : FnScope ["_law_bag_here", "_law_most", "_law_high", "_law_wide", "_law_deep", "_law_steady", "_law_many", "_law_letters", "_law_states", "_law_firm", "_law_workers", "_law_k"] ["_law_bag_here", "_law_most", "_law_high", "_law_wide", "_law_deep", "_law_steady"] (defScope s__law_net) := ⟨rfl, rfl, rfl, by decide +kernel, rfl, by decide +kernel, by decide +kernel⟩
theorem k__law_net (T : Txt K mg) : Dn P w K mg base 8 "_law_net" ["_law_bag_here", "_law_most", "_law_high", "_law_wide", "_law_deep", "_law_steady"] d__law_net := by
  have c__law_take := (k__law_take (P := P) (w := w) (base := base) T).mono (show 1 ≤ 7 by decide)
  have c__law_worker := (k__law_worker (P := P) (w := w) (base := base) T).mono (show 7 ≤ 7 by decide)
  have m_max := T.m_max
  have m_range := T.m_range
  have m_tuple := T.m_tuple
  have hN := sc__law_net.nd
  exact okN T.f__law_net sc__law_net fun cdv A outer s H E z gd room tk =>
    (db_cons (ds_set 6 hN (de_add de_int (de_cal c__law_take gd room tk (dah_cons (de_var 0) (dah_cons (de_var 1) dah_nil)))))
    (db_cons (ds_set 7 hN (de_lc (own := [("_law_k", 11)]) rfl hN (calm_n (i := 11)) (di_rng1 rfl m_range (de_var 6)) (blkOk_by rfl) (by decide) (fun s H C cl fp z => (dg_name 11 hN)) (fun s H C cl fp => pts_x0) (fun s H C cl fp z hz => (de_add de_int (de_max2 rfl m_max (de_cal c__law_take gd room (tk_blk hz) (dah_cons (de_var 0) (dah_cons (de_var 3) dah_nil))) (de_cal c__law_take gd room (tk_blk hz) (dah_cons (de_var 0) (dah_cons (de_var 3) dah_nil))))))))
    (db_cons (ds_set 8 hN (de_lc (own := [("_law_k", 11)]) rfl hN (calm_n (i := 11)) (di_rng1 rfl m_range (de_var 6)) (blkOk_by rfl) (by decide) (fun s H C cl fp z => (dg_name 11 hN)) (fun s H C cl fp => pts_x0) (fun s H C cl fp z hz => (de_add de_int (de_max2 rfl m_max (de_cal c__law_take gd room (tk_blk hz) (dah_cons (de_var 0) (dah_cons (de_var 2) dah_nil))) (de_cal c__law_take gd room (tk_blk hz) (dah_cons (de_var 0) (dah_cons (de_var 2) dah_nil))))))))
    (db_cons (ds_set 9 hN (de_lc (own := [("_law_k", 11)]) rfl hN (calm_n (i := 11)) (di_rng1 rfl m_range (de_cal c__law_take gd room tk (dah_cons (de_var 0) (dah_cons (de_add (de_var 5) de_int) dah_nil)))) (blkOk_by rfl) (by decide) (fun s H C cl fp z => (dg_name 11 hN)) (fun s H C cl fp => pts_x0) (fun s H C cl fp z hz => (de_cal c__law_take gd room (tk_blk hz) (dah_cons (de_var 0) (dah_cons (de_var 6) dah_nil))))))
    (db_cons (ds_setLc (own := [("_law_k", 11)]) rfl hN (calm_n (i := 11)) (di_rng1 rfl m_range (de_var 6)) (blkOk_by rfl) (by decide) (fun s H C cl fp z => (dg_name 11 hN)) (fun s H C cl fp => pts_x0) (fun s H C cl fp z hz => (de_cal c__law_worker gd room (tk_blk hz) (dah_cons (de_var 0) (dah_cons (de_var 11) (dah_cons (de_var 8) (dah_cons (de_var 7) (dah_cons (de_var 4) dah_nil))))))))
    (db_one (ds_ret (de_tup (dah_cons (de_tuple m_tuple (de_var 10)) (dah_cons (de_tuple m_tuple (de_lc (own := [("_law_k", 11)]) rfl hN (calm_n (i := 11)) (di_rng1 rfl m_range (de_var 6)) (blkOk_by rfl) (by decide) (fun s H C cl fp z => (dg_name 11 hN)) (fun s H C cl fp => (pts_x1 fun z hz => (dt_in (u65 room) (de_var 11) (de_var 9)))) (fun s H C cl fp z hz => (de_var 11)))) dah_nil))))))))))
theorem sc__law_lot : FnScope ["_law_bag_here", "_law_many", "_law_first", "_law_k"] ["_law_bag_here", "_law_many"] (defScope s__law_lot) := ⟨rfl, rfl, rfl, by decide +kernel, rfl, by decide +kernel, by decide +kernel⟩
theorem k__law_lot (T : Txt K mg) : Dn P w K mg base 2 "_law_lot" ["_law_bag_here", "_law_many"] d__law_lot := by
  have c__law_take := (k__law_take (P := P) (w := w) (base := base) T).mono (show 1 ≤ 1 by decide)
  have m_range := T.m_range
  have m_tuple := T.m_tuple
  have hN := sc__law_lot.nd
  exact okN T.f__law_lot sc__law_lot fun cdv A outer s H E z gd room tk =>
    (db_cons (ds_set 2 hN (de_cal c__law_take gd room tk (dah_cons (de_var 0) (dah_cons (de_var 1) dah_nil))))
    (db_one (ds_ret (de_tuple m_tuple (de_lc (own := [("_law_k", 3)]) rfl hN (calm_n (i := 3)) (di_rng1 rfl m_range (de_var 1)) (blkOk_by rfl) (by decide) (fun s H C cl fp z => (dg_name 3 hN)) (fun s H C cl fp => (pts_x1 fun z hz => (dt_w (dw_or (dt_eq (u64 room) (de_var 3) (de_var 2)) (dw_or1 (dt_eq (u64 room) (de_cal c__law_take gd room (tk_blk hz) (dah_cons (de_var 0) (dah_cons de_int dah_nil))) de_int)))))) (fun s H C cl fp z hz => (de_var 3)))))))
theorem sc__law_steps : FnScope ["_law_code", "_law_lots", "_law_found", "_law_stack", "_law_chosen", "_law_now", "_law_letter"] ["_law_code", "_law_lots"] (defScope s__law_steps) := ⟨rfl, rfl, rfl, by decide +kernel, rfl, by decide +kernel, by decide +kernel⟩
theorem k__law_steps (T : Txt K mg) : Dn P w K mg base 1 "_law_steps" ["_law_code", "_law_lots"] d__law_steps := by
  have m_sorted := T.m_sorted
  have hN := sc__law_steps.nd
  exact okN T.f__law_steps sc__law_steps fun cdv A outer s H E z gd room tk =>
    (db_cons (ds_set 2 hN (de_lst dah_nil))
    (db_cons (ds_set 3 hN (de_lst (dah_cons (de_tup (dah_cons (de_tup dah_nil) (dah_cons (de_var 0) dah_nil))) dah_nil)))
    (db_cons (ds_while whFuel (passes_of rfl) (dt_ne (u64 room) (de_var 3) (de_lst dah_nil)) (db_cons (ds_asg (calm_t (calms_c (calm_n (i := 4)) (calms_c (calm_n (i := 5)) calms_n))) (de_pop 3) (dg_tup rfl (dgs_cons (dg_name 4 hN) (dgs_cons (dg_name 5 hN) dgs_nil))))
    (db_one (ds_if (dt_eq (u64 room) (de_ix (u65 room) (de_var 5) de_int) de_str) (db_one (ds_expr (de_append 2 (de_tup (dah_cons (de_var 4) (dah_cons (de_ix (u65 room) (de_var 5) de_int) dah_nil)))))) (db_one (ds_for (passes_of rfl) rfl (calm_n (i := 6)) (di_seq (de_ix (u65 room) (de_var 1) (de_ix (u65 room) (de_var 5) de_int))) (dg_name 6 hN) (db_one (ds_expr (de_append 3 (de_tup (dah_cons (de_add (de_var 4) (de_tup (dah_cons (de_var 6) dah_nil))) (dah_cons (de_ix (u65 room) (de_ix (u65 room) (de_var 5) de_int) (de_var 6)) dah_nil))))))))))))
    (db_one (ds_ret (de_sortedE rfl (u65 room) m_sorted (de_var 2)))))))
theorem sc__law_results : FnScope ["_law_code", "_law_lots", "_law_step"] ["_law_code", "_law_lots"] (defScope s__law_results) := ⟨rfl, rfl, rfl, by decide +kernel, rfl, by decide +kernel, by decide +kernel⟩
theorem k__law_results (T : Txt K mg) : Dn P w K mg base 2 "_law_results" ["_law_code", "_law_lots"] d__law_results := by
  have c__law_steps := (k__law_steps (P := P) (w := w) (base := base) T).mono (show 1 ≤ 1 by decide)
  have m_set := T.m_set
  have m_sorted := T.m_sorted
  have hN := sc__law_results.nd
  exact okN T.f__law_results sc__law_results fun cdv A outer s H E z gd room tk =>
    (db_one (ds_ret (de_sortedSetE rfl (u65 room) m_sorted m_set (de_lc (own := [("_law_step", 2)]) rfl hN (calm_n (i := 2)) (di_seq (de_cal c__law_steps gd room tk (dah_cons (de_var 0) (dah_cons (de_var 1) dah_nil)))) (blkOk_by rfl) (by decide) (fun s H C cl fp z => (dg_name 2 hN)) (fun s H C cl fp => pts_x0) (fun s H C cl fp z hz => (de_ix (u65 room) (de_var 2) de_int))))))
theorem sc__law_shown : FnScope ["_law_workers", "_law_box", "_law_w", "_law_s"] ["_law_workers", "_law_box"] (defScope s__law_shown) := ⟨rfl, rfl, rfl, by decide +kernel, rfl, by decide +kernel, by decide +kernel⟩
theorem k__law_shown (T : Txt K mg) : Dn P w K mg base 1 "_law_shown" ["_law_workers", "_law_box"] d__law_shown := by
  have m_len := T.m_len
  have m_range := T.m_range
  have m_set := T.m_set
  have m_sorted := T.m_sorted
  have m_tuple := T.m_tuple
  have hN := sc__law_shown.nd
  exact okN T.f__law_shown sc__law_shown fun cdv A outer s H E z gd room tk =>
    (db_one (ds_ret (de_tuple m_tuple (de_lc (own := [("_law_w", 2)]) rfl hN (calm_n (i := 2)) (di_rng1 rfl m_range (de_len m_len (de_var 0))) (blkOk_by rfl) (by decide) (fun s H C cl fp z => (dg_name 2 hN)) (fun s H C cl fp => pts_x0) (fun s H C cl fp z hz => (de_tuple m_tuple (de_sortedSetE rfl (u65 room) m_sorted m_set (de_lc (own := [("_law_s", 3)]) rfl hN (calm_n (i := 3)) (di_seq (de_ix (u65 room) (de_var 1) (de_var 2))) (blkOk_by rfl) (by decide) (fun s H C cl fp z => (dg_name 3 hN)) (fun s H C cl fp => pts_x0) (fun s H C cl fp z hz => (de_ix (u65 room) (de_ix (u65 room) (de_ix (u65 room) (de_var 0) (de_var 2)) de_int) (de_var 3)))))))))))
theorem sc__law_grown : FnScope ["_law_workers", "_law_outer", "_law_begun", "_law_about", "_law_still", "_law_box", "_law_turn", "_law_shown_here", "_law_own", "_law_w", "_law_lots", "_law_grown_here", "_law_more", "_law_entry", "_law_s", "_law_worker_here"] ["_law_workers", "_law_outer", "_law_begun", "_law_about", "_law_still"] (defScope s__law_grown) := ⟨rfl, rfl, rfl, by decide +kernel, rfl, by decide +kernel, by decide +kernel⟩
theorem k__law_grown (T : Txt K mg) : Dn P w K mg base 3 "_law_grown" ["_law_workers", "_law_outer", "_law_begun", "_law_about", "_law_still"] d__law_grown := by
  have c__law_shown := (k__law_shown (P := P) (w := w) (base := base) T).mono (show 1 ≤ 2 by decide)
  have c__law_results := (k__law_results (P := P) (w := w) (base := base) T).mono (show 2 ≤ 2 by decide)
  have m_len := T.m_len
  have m_list := T.m_list
  have m_range := T.m_range
  have m_set := T.m_set
  have m_sorted := T.m_sorted
  have m_sum := T.m_sum
  have m_tuple := T.m_tuple
  have hN := sc__law_grown.nd
  exact okN T.f__law_grown sc__law_grown fun cdv A outer s H E z gd room tk =>
    (db_cons (ds_set 5 hN (de_tuple m_tuple (de_lc (own := [("_law_entry", 13)]) rfl hN (calm_n (i := 13)) (di_seq (de_var 2)) (blkOk_by rfl) (by decide) (fun s H C cl fp z => (dg_name 13 hN)) (fun s H C cl fp => pts_x0) (fun s H C cl fp z hz => (de_tuple m_tuple (de_sortedSetE rfl (u65 room) m_sorted m_set (de_list m_list (de_var 13))))))))
    (db_cons (ds_for (passes_of rfl) rfl (calm_n (i := 6)) (di_rng1 rfl m_range (de_add (de_sum rfl m_sum (de_lc (own := [("_law_worker_here", 15)]) rfl hN (calm_n (i := 15)) (di_seq (de_var 0)) (blkOk_by rfl) (by decide) (fun s H C cl fp z => (dg_name 15 hN)) (fun s H C cl fp => pts_x0) (fun s H C cl fp z hz => (de_len m_len (de_ix (u65 room) (de_var 15) de_int))))) de_int)) (dg_name 6 hN) (db_cons (ds_set 7 hN (de_cal c__law_shown gd room tk (dah_cons (de_var 0) (dah_cons (de_var 5) dah_nil))))
    (db_cons (ds_setLc (own := [("_law_w", 9)]) rfl hN (calm_n (i := 9)) (di_rng1 rfl m_range (de_len m_len (de_var 0))) (blkOk_by rfl) (by decide) (fun s H C cl fp z => (dg_name 9 hN)) (fun s H C cl fp => pts_x0) (fun s H C cl fp z hz => (de_ix (u65 room) (de_var 3) (de_var 9))))
    (db_cons (ds_for (passes_of rfl) rfl (calm_n (i := 9)) (di_rng1 rfl m_range (de_len m_len (de_var 0))) (dg_name 9 hN) (db_one (ds_if (dt_notin (u65 room) (de_var 9) (de_var 4)) (db_one (ds_store (u65 room) 8 (de_tuple m_tuple (de_sortedSetE rfl (u65 room) m_sorted m_set (de_add (de_list m_list (de_ix (u65 room) (de_var 3) (de_var 9))) (de_list m_list (de_ix (u65 room) (de_var 7) (de_var 9)))))) (de_var 9))) db_nil)))
    (db_cons (ds_set 10 hN (de_add (de_tuple m_tuple (de_var 1)) (de_tuple m_tuple (de_var 8))))
    (db_cons (ds_set 11 hN (de_lst dah_nil))
    (db_cons (ds_for (passes_of rfl) rfl (calm_n (i := 9)) (di_rng1 rfl m_range (de_len m_len (de_var 0))) (dg_name 9 hN) (db_cons (ds_set 12 hN (de_list m_list (de_ix (u65 room) (de_var 5) (de_var 9))))
    (db_cons (ds_if (dt_notin (u65 room) (de_var 9) (de_var 4)) (db_one (ds_for (passes_of rfl) rfl (calm_n (i := 14)) (di_seq (de_ix (u65 room) (de_var 5) (de_var 9))) (dg_name 14 hN) (db_one (ds_set 12 hN (de_add (de_var 12) (de_cal c__law_results gd room tk (dah_cons (de_ix (u65 room) (de_ix (u65 room) (de_ix (u65 room) (de_var 0) (de_var 9)) de_int) (de_var 14)) (dah_cons (de_var 10) dah_nil)))))))) db_nil)
    (db_one (ds_expr (de_append 11 (de_tuple m_tuple (de_sortedSetE rfl (u65 room) m_sorted m_set (de_var 12)))))))))
    (db_cons (ds_if (dt_eq (u64 room) (de_tuple m_tuple (de_var 11)) (de_var 5)) (db_one (ds_ret (de_var 5))) db_nil)
    (db_one (ds_set 5 hN (de_tuple m_tuple (de_var 11))))))))))))
    (db_one (ds_ret (de_var 5)))))
theorem sc__law_knot_box : FnScope ["_law_net_here", "_law_knot", "_law_begun", "_law_about", "_law_k", "_law_workers", "_law_steady", "_law_worker_here"] ["_law_net_here", "_law_knot"] (defScope s__law_knot_box) := ⟨rfl, rfl, rfl, by decide +kernel, rfl, by decide +kernel, by decide +kernel⟩
theorem k__law_knot_box (T : Txt K mg) : Dn P w K mg base 4 "_law_knot_box" ["_law_net_here", "_law_knot"] d__law_knot_box := by
  have c__law_grown := (k__law_grown (P := P) (w := w) (base := base) T).mono (show 3 ≤ 3 by decide)
  have m_len := T.m_len
  have m_range := T.m_range
  have m_tuple := T.m_tuple
  have hN := sc__law_knot_box.nd
  exact okN T.f__law_knot_box sc__law_knot_box fun cdv A outer s H E z gd room tk =>
    (db_cons (ds_asg (calm_t (calms_c (calm_n (i := 5)) (calms_c (calm_n (i := 6)) calms_n))) (de_var 0) (dg_tup rfl (dgs_cons (dg_name 5 hN) (dgs_cons (dg_name 6 hN) dgs_nil))))
    (db_cons (ds_setLc (own := [("_law_worker_here", 7)]) rfl hN (calm_n (i := 7)) (di_seq (de_var 5)) (blkOk_by rfl) (by decide) (fun s H C cl fp z => (dg_name 7 hN)) (fun s H C cl fp => pts_x0) (fun s H C cl fp z hz => (de_tup (dah_cons de_int dah_nil))))
    (db_cons (ds_setLc (own := [("_law_worker_here", 7)]) rfl hN (calm_n (i := 7)) (di_seq (de_var 5)) (blkOk_by rfl) (by decide) (fun s H C cl fp z => (dg_name 7 hN)) (fun s H C cl fp => pts_x0) (fun s H C cl fp z hz => (de_tup dah_nil)))
    (db_cons (ds_for (passes_of rfl) rfl (calm_n (i := 4)) (di_rng1 rfl m_range (de_len m_len (de_var 6))) (dg_name 4 hN) (db_cons (ds_store (u65 room) 2 (de_tup (dah_cons (de_ix (u65 room) (de_ix (u65 room) (de_var 1) de_int) (de_var 4)) dah_nil)) (de_ix (u65 room) (de_var 6) (de_var 4)))
    (db_one (ds_store (u65 room) 3 (de_ix (u65 room) (de_ix (u65 room) (de_var 1) de_int) (de_var 4)) (de_ix (u65 room) (de_var 6) (de_var 4))))))
    (db_one (ds_ret (de_cal c__law_grown gd room tk (dah_cons (de_var 5) (dah_cons (de_tup dah_nil) (dah_cons (de_tuple m_tuple (de_var 2)) (dah_cons (de_tuple m_tuple (de_var 3)) (dah_cons (de_var 6) dah_nil))))))))))))
theorem sc__law_knot_next : FnScope ["_law_net_here", "_law_knot", "_law_box", "_law_lots", "_law_k", "_law_found", "_law_workers", "_law_steady", "_law_worker_here", "_law_t", "_law_has"] ["_law_net_here", "_law_knot"] (defScope s__law_knot_next) := ⟨rfl, rfl, rfl, by decide +kernel, rfl, by decide +kernel, by decide +kernel⟩
theorem k__law_knot_next (T : Txt K mg) : Dn P w K mg base 5 "_law_knot_next" ["_law_net_here", "_law_knot"] d__law_knot_next := by
  have c__law_knot_box := (k__law_knot_box (P := P) (w := w) (base := base) T).mono (show 4 ≤ 4 by decide)
  have c__law_shown := (k__law_shown (P := P) (w := w) (base := base) T).mono (show 1 ≤ 4 by decide)
  have c__law_results := (k__law_results (P := P) (w := w) (base := base) T).mono (show 2 ≤ 4 by decide)
  have m_len := T.m_len
  have m_list := T.m_list
  have m_range := T.m_range
  have m_set := T.m_set
  have m_sorted := T.m_sorted
  have m_tuple := T.m_tuple
  have hN := sc__law_knot_next.nd
  exact okN T.f__law_knot_next sc__law_knot_next fun cdv A outer s H E z gd room tk =>
    (db_cons (ds_asg (calm_t (calms_c (calm_n (i := 6)) (calms_c (calm_n (i := 7)) calms_n))) (de_var 0) (dg_tup rfl (dgs_cons (dg_name 6 hN) (dgs_cons (dg_name 7 hN) dgs_nil))))
    (db_cons (ds_set 2 hN (de_cal c__law_knot_box gd room tk (dah_cons (de_var 0) (dah_cons (de_var 1) dah_nil))))
    (db_cons (ds_set 3 hN (de_list m_list (de_cal c__law_shown gd room tk (dah_cons (de_var 6) (dah_cons (de_var 2) dah_nil)))))
    (db_cons (ds_for (passes_of rfl) rfl (calm_n (i := 4)) (di_rng1 rfl m_range (de_len m_len (de_var 7))) (dg_name 4 hN) (db_one (ds_store (u65 room) 3 (de_ix (u65 room) (de_ix (u65 room) (de_var 1) de_int) (de_var 4)) (de_ix (u65 room) (de_var 7) (de_var 4)))))
    (db_cons (ds_set 5 hN (de_lst dah_nil))
    (db_cons (ds_for (passes_of rfl) rfl (calm_n (i := 4)) (di_rng1 rfl m_range (de_len m_len (de_var 7))) (dg_name 4 hN) (db_cons (ds_set 8 hN (de_ix (u65 room) (de_var 6) (de_ix (u65 room) (de_var 7) (de_var 4))))
    (db_one (ds_for (passes_of rfl) rfl (calm_n (i := 9)) (di_seq (de_cal c__law_results gd room tk (dah_cons (de_ix (u65 room) (de_ix (u65 room) (de_var 8) de_int) (de_ix (u65 room) (de_ix (u65 room) (de_var 1) de_int) (de_var 4))) (dah_cons (de_tuple m_tuple (de_var 3)) dah_nil)))) (dg_name 9 hN) (db_cons (ds_set 10 hN (de_tuple m_tuple (de_sortedSetA rfl (u65 room) m_sorted m_set (de_add (de_list m_list (de_ix (u65 room) (de_ix (u65 room) (de_var 1) de_int) (de_var 4))) (de_lst (dah_cons (de_ix (u65 room) (de_ix (u65 room) (de_var 8) de_int) (de_var 9)) dah_nil))))))
    (db_one (ds_expr (de_append 5 (de_tup (dah_cons (de_add (de_add (de_sl (de_ix (u65 room) (de_var 1) de_int) do_none (do_some (de_var 4))) (de_tup (dah_cons (de_var 9) dah_nil))) (de_sl (de_ix (u65 room) (de_var 1) de_int) (do_some (de_add (de_var 4) de_int)) do_none)) (dah_cons (de_add (de_add (de_sl (de_ix (u65 room) (de_var 1) de_int) do_none (do_some (de_var 4))) (de_tup (dah_cons (de_var 10) dah_nil))) (de_sl (de_ix (u65 room) (de_var 1) de_int) (do_some (de_add (de_var 4) de_int)) do_none)) dah_nil)))))))))))
    (db_one (ds_ret (de_sortedSetA rfl (u65 room) m_sorted m_set (de_var 5))))))))))
theorem sc__law_knot_any : FnScope ["_law_bag_here", "_law_net_here", "_law_places", "_law_lots", "_law_k", "_law_place"] ["_law_bag_here", "_law_net_here"] (defScope s__law_knot_any) := ⟨rfl, rfl, rfl, by decide +kernel, rfl, by decide +kernel, by decide +kernel⟩
theorem k__law_knot_any (T : Txt K mg) : Dn P w K mg base 3 "_law_knot_any" ["_law_bag_here", "_law_net_here"] d__law_knot_any := by
  have c__law_take := (k__law_take (P := P) (w := w) (base := base) T).mono (show 1 ≤ 2 by decide)
  have c__law_lot := (k__law_lot (P := P) (w := w) (base := base) T).mono (show 2 ≤ 2 by decide)
  have m_len := T.m_len
  have m_list := T.m_list
  have m_set := T.m_set
  have m_sorted := T.m_sorted
  have m_tuple := T.m_tuple
  have m_zip := T.m_zip
  have hN := sc__law_knot_any.nd
  exact okN T.f__law_knot_any sc__law_knot_any fun cdv A outer s H E z gd room tk =>
    (db_cons (ds_set 2 hN (de_tuple m_tuple (de_lc (own := [("_law_k", 4)]) rfl hN (calm_n (i := 4)) (di_seq (de_ix (u65 room) (de_var 1) de_int)) (blkOk_by rfl) (by decide) (fun s H C cl fp z => (dg_name 4 hN)) (fun s H C cl fp => pts_x0) (fun s H C cl fp z hz => (de_cal c__law_take gd room (tk_blk hz) (dah_cons (de_var 0) (dah_cons (de_len m_len (de_ix (u65 room) (de_ix (u65 room) (de_ix (u65 room) (de_var 1) de_int) (de_var 4)) de_int)) dah_nil)))))))
    (db_cons (ds_set 3 hN (de_lst dah_nil))
    (db_cons (ds_for (passes_of rfl) rfl (calm_t (calms_c (calm_n (i := 4)) (calms_c (calm_n (i := 5)) calms_n))) (di_zip rfl m_zip (dah_cons (de_ix (u65 room) (de_var 1) de_int) (dah_cons (de_var 2) dah_nil))) (dg_tup rfl (dgs_cons (dg_name 4 hN) (dgs_cons (dg_name 5 hN) dgs_nil))) (db_one (ds_expr (de_append 3 (de_tuple m_tuple (de_sortedSetE rfl (u65 room) m_sorted m_set (de_add (de_lst (dah_cons (de_ix (u65 room) (de_ix (u65 room) (de_ix (u65 room) (de_ix (u65 room) (de_var 1) de_int) (de_var 4)) de_int) (de_var 5)) dah_nil)) (de_list m_list (de_cal c__law_lot gd room tk (dah_cons (de_var 0) (dah_cons (de_ix (u65 room) (de_ix (u65 room) (de_ix (u65 room) (de_var 1) de_int) (de_var 4)) de_int) dah_nil)))))))))))
    (db_one (ds_ret (de_tup (dah_cons (de_var 2) (dah_cons (de_tuple m_tuple (de_var 3)) dah_nil))))))))
theorem sc__law_begin_knot : FnScope ["_law_net_here", "_law_k"] ["_law_net_here"] (defScope s__law_begin_knot) := ⟨rfl, rfl, rfl, by decide +kernel, rfl, by decide +kernel, by decide +kernel⟩
theorem k__law_begin_knot (T : Txt K mg) : Dn P w K mg base 1 "_law_begin_knot" ["_law_net_here"] d__law_begin_knot := by
  have m_tuple := T.m_tuple
  have hN := sc__law_begin_knot.nd
  exact okN T.f__law_begin_knot sc__law_begin_knot fun cdv A outer s H E z gd room tk =>
    (db_one (ds_ret (de_tup (dah_cons (de_tuple m_tuple (de_lc (own := [("_law_k", 1)]) rfl hN (calm_n (i := 1)) (di_seq (de_ix (u65 room) (de_var 0) de_int)) (blkOk_by rfl) (by decide) (fun s H C cl fp z => (dg_name 1 hN)) (fun s H C cl fp => pts_x0) (fun s H C cl fp z hz => de_int))) (dah_cons (de_tuple m_tuple (de_lc (own := [("_law_k", 1)]) rfl hN (calm_n (i := 1)) (di_seq (de_ix (u65 room) (de_var 0) de_int)) (blkOk_by rfl) (by decide) (fun s H C cl fp z => (dg_name 1 hN)) (fun s H C cl fp => pts_x0) (fun s H C cl fp z hz => (de_tup (dah_cons (de_ix (u65 room) (de_ix (u65 room) (de_ix (u65 room) (de_ix (u65 room) (de_var 0) de_int) (de_var 1)) de_int) de_int) dah_nil))))) dah_nil)))))
theorem sc_law : FnScope ["_law_script", "_law_bag_here", "_law_turn", "_law_net_here", "_law_first", "_law_knot", "_law_one", "_law_other", "_law_found", "_law_box", "_law_more"] ["_law_script"] (defScope s_law) := ⟨rfl, rfl, rfl, by decide +kernel, rfl, by decide +kernel, by decide +kernel⟩
theorem k_law {f : Addr} {fd : FuncData} (F : Fun K "law" "law" s_law f fd) (T : Txt K mg) : FnG P w K mg base 9 f fd ["_law_script"] (spDen K mg 1 d_law) := by
  have c__law_bag := (k__law_bag (P := P) (w := w) (base := base) T).mono (show 1 ≤ 8 by decide)
  have c__law_net := (k__law_net (P := P) (w := w) (base := base) T).mono (show 8 ≤ 8 by decide)
  have c__law_begin_knot := (k__law_begin_knot (P := P) (w := w) (base := base) T).mono (show 1 ≤ 8 by decide)
  have c_first_knot := (k_first_knot (P := P) (w := w) (base := base) T).mono (show 5 ≤ 8 by decide)
  have c__law_alike := (k__law_alike (P := P) (w := w) (base := base) T).mono (show 1 ≤ 8 by decide)
  have c__law_knot_any := (k__law_knot_any (P := P) (w := w) (base := base) T).mono (show 3 ≤ 8 by decide)
  have c__law_knot_next := (k__law_knot_next (P := P) (w := w) (base := base) T).mono (show 5 ≤ 8 by decide)
  have c__law_knot_box := (k__law_knot_box (P := P) (w := w) (base := base) T).mono (show 4 ≤ 8 by decide)
  have c_next_knots := (k_next_knots (P := P) (w := w) (base := base) T).mono (show 7 ≤ 8 by decide)
  have c_knot_box := (k_knot_box (P := P) (w := w) (base := base) T).mono (show 5 ≤ 8 by decide)
  have m_range := T.m_range
  have hN := sc_law.nd
  exact okD F sc_law fun cdv A outer s H E z gd room tk =>
    (db_cons (ds_setT 1 hN (de_cal c__law_bag gd room tk (dah_cons (de_var 0) dah_nil)))
    (db_cons (ds_for (passes_of rfl) rfl (calm_n (i := 2)) (di_rng1 rfl m_range de_int) (dg_name 2 hN) (db_cons (ds_set 3 hN (de_cal c__law_net gd room tk (dah_cons (de_var 1) (dah_cons de_int (dah_cons de_int (dah_cons de_int (dah_cons de_int (dah_cons de_int dah_nil))))))))
    (db_cons (ds_set 4 hN (de_cal c__law_begin_knot gd room tk (dah_cons (de_var 3) dah_nil)))
    (db_cons (ds_if (dt_not (dt_val (de_cal c__law_alike gd room tk (dah_cons (de_cal c_first_knot gd room tk (dah_cons (de_var 3) dah_nil)) (dah_cons (de_var 4) dah_nil))))) (db_one (ds_ret de_bl)) db_nil)
    (db_cons (ds_par2 6 7 rfl hN (de_cal c__law_knot_any gd room tk (dah_cons (de_var 1) (dah_cons (de_var 3) dah_nil))) (de_cal c__law_knot_any gd room tk (dah_cons (de_var 1) (dah_cons (de_var 3) dah_nil))))
    (db_one (ds_for (passes_of rfl) rfl (calm_n (i := 5)) (di_seq (de_add (de_lst (dah_cons (de_var 4) (dah_cons (de_var 6) (dah_cons (de_var 7) (dah_cons (de_var 6) dah_nil))))) (de_sl (de_cal c__law_knot_next gd room tk (dah_cons (de_var 3) (dah_cons (de_var 6) dah_nil))) do_none (do_some de_int)))) (dg_name 5 hN) (db_cons (ds_par2 9 10 rfl hN (de_cal c__law_knot_box gd room tk (dah_cons (de_var 3) (dah_cons (de_var 5) dah_nil))) (de_cal c__law_knot_next gd room tk (dah_cons (de_var 3) (dah_cons (de_var 5) dah_nil))))
    (db_cons (ds_set 8 hN (de_cal c_next_knots gd room tk (dah_cons (de_var 3) (dah_cons (de_var 5) dah_nil))))
    (db_cons (ds_if (dt_w (dw_or (dt_not (dt_val (de_cal c__law_alike gd room tk (dah_cons (de_cal c_knot_box gd room tk (dah_cons (de_var 3) (dah_cons (de_var 5) dah_nil))) (dah_cons (de_var 9) dah_nil))))) (dw_or1 (dt_not (dt_val (de_cal c__law_alike gd room tk (dah_cons (de_var 8) (dah_cons (de_var 10) dah_nil)))))))) (db_one (ds_ret de_bl)) db_nil)
    (db_cons (ds_expr (de_append 8 (de_var 5)))
    (db_cons (ds_expr (de_insert 8 (dah_cons de_int (dah_cons de_non dah_nil))))
    (db_one (ds_if (dt_not (dt_val (de_cal c__law_alike gd room tk (dah_cons (de_cal c_next_knots gd room tk (dah_cons (de_var 3) (dah_cons (de_var 5) dah_nil))) (dah_cons (de_var 10) dah_nil))))) (db_one (ds_ret de_bl)) db_nil))))))))))))))
    (db_one (ds_ret de_bl))))
end
theorem walk {q : Program} {loose : List Str} {XP : (Str → Option Value) → Heap → Prop} {YP : World → Heap → Prop} {d : DefRec} {K : Params → PySem.W.Frag} (nod : d.params.defaults = []) (nm : d.name = "law") (hY : ∀ (w : World) (h : Heap), YP w h → (K w.params).In h)
    (hT : ∀ (w : World) (mg : Str → Option Value) (h : Heap), (K w.params).In h → h.Ns mainGlobals mg → Txt (K w.params) mg) (hden : ∀ ns : List Int, ns.length ≤ 63 → ∃ objs, d_law [.rol (ns.map .int)] [] = some (.ok (.dat (.bl true)), objs)) :
    PySem.W.WalkO q loose XP YP PySem.Challenge.rw_oldletters_k40_knots_and_their_boxes.row.toRowW d [] (fun f vs => PySem.call f vs) :=
  walkD (n := 63) (k := 9) (x := "_law_script") (l := PySem.Challenge.rw_oldletters_k40_knots_and_their_boxes) rfl (by decide) nod ⟨rfl, by decide, by decide⟩ hY (fun w mg fa h inK ns hfa => by
    obtain ⟨f, fd, a, F, b⟩ := (hT w mg h inK ns).f_law.ex
    rw [nm, a] at hfa; cases hfa
    exact ⟨fd, b, fun base _ _ => k_law F (hT w mg h inK ns)⟩) hden
end LW
end
section
set_option maxRecDepth 100000
namespace LW
open PySem L2 LC
open DL hiding tI
local macro_rules | `(tactic| simp!) => `(tactic| simp -implicitDefEqProofs only [rn_bind, rn_pure, rn_no, rn_need, rn_opt1, rn_ite, rn_var, rn_put, rn_useD, rn_useN, rn_useO, rn_chkD, rn_chkN, rn_chkO, rn_call, rn_seq, rn_guard, rn_forIn, rn_for0, rn_setD, rn_setN, rn_setO, binM, binMO, unM, cmpT, testM, andT, orT, notT, ifM, asgM, retM, exprM, kM, consA, nilA, tupM, lstM, useAll, chkAll, slM, partM, DL.andM, DL.orM, DL.notM, negM, asgG, gN, gT, gsC, gsN, seqI, frzM, asgTM, dnewM, par2M, hold_d, hold_n, hold_o, d_d, d_n, d_o, out_d, out_n, out_o, fo_next, fo_ret, isBl_b, isInt_i, tr_i, tr_b, tr_n, tr_l, tr_t, it_l, it_r, it_t, li_l, li_r, op_add_i, op_add_l, op_add_t, op_sub_i, op_mul_i, op_mod_i, op_div_i, op_pow_i, op_lt_i, op_le_i, op_gt_i, op_ge_i, op_int_i, op_abs_i, op_len_l, op_len_t, op_len_r, op_tup_l, op_tup_t, op_lst_l, op_lst_t, op_max_i, op_eq_i, eq_go_go, eq_get_get, eq_go_get, eq_get_go, Bool.bne_false, Bool.bne_true, Bool.not_true, Bool.not_false, op_sl_l, op_sl_r, op_sl_t, op_ix_t0, op_ix_t1, op_ix_t2, op_ix_l0, List.getElem?_cons_zero, List.getElem?_cons_succ, List.set_cons_zero, List.set_cons_succ, List.map_cons, List.map_nil, List.length_cons, List.length_nil, List.cons_append, List.nil_append, if_true, if_false, Bool.false_eq_true, decide_eq_true_eq, and_true, true_and, ite_true, ite_false, reduceCtorEq, rn_methM, rn_methM0, isTM_eq, rn_mk, rn_st, mk_own, st_own, ty_own, ex_app, ex_ext, ex_extT, ex_rev, ex_pop, rn_storeM, rn_lc, rn_lc2, rn_turn, rn_turn1, rn_frz])
local macro_rules | `(tactic| simp! [$ls,*]) => `(tactic| simp -implicitDefEqProofs only [rn_bind, rn_pure, rn_no, rn_need, rn_opt1, rn_ite, rn_var, rn_put, rn_useD, rn_useN, rn_useO, rn_chkD, rn_chkN, rn_chkO, rn_call, rn_seq, rn_guard, rn_forIn, rn_for0, rn_setD, rn_setN, rn_setO, binM, binMO, unM, cmpT, testM, andT, orT, notT, ifM, asgM, retM, exprM, kM, consA, nilA, tupM, lstM, useAll, chkAll, slM, partM, DL.andM, DL.orM, DL.notM, negM, asgG, gN, gT, gsC, gsN, seqI, frzM, asgTM, dnewM, par2M, hold_d, hold_n, hold_o, d_d, d_n, d_o, out_d, out_n, out_o, fo_next, fo_ret, isBl_b, isInt_i, tr_i, tr_b, tr_n, tr_l, tr_t, it_l, it_r, it_t, li_l, li_r, op_add_i, op_add_l, op_add_t, op_sub_i, op_mul_i, op_mod_i, op_div_i, op_pow_i, op_lt_i, op_le_i, op_gt_i, op_ge_i, op_int_i, op_abs_i, op_len_l, op_len_t, op_len_r, op_tup_l, op_tup_t, op_lst_l, op_lst_t, op_max_i, op_eq_i, eq_go_go, eq_get_get, eq_go_get, eq_get_go, Bool.bne_false, Bool.bne_true, Bool.not_true, Bool.not_false, op_sl_l, op_sl_r, op_sl_t, op_ix_t0, op_ix_t1, op_ix_t2, op_ix_l0, List.getElem?_cons_zero, List.getElem?_cons_succ, List.set_cons_zero, List.set_cons_succ, List.map_cons, List.map_nil, List.length_cons, List.length_nil, List.cons_append, List.nil_append, if_true, if_false, Bool.false_eq_true, decide_eq_true_eq, and_true, true_and, ite_true, ite_false, reduceCtorEq, rn_methM, rn_methM0, isTM_eq, rn_mk, rn_st, mk_own, st_own, ty_own, ex_app, ex_ext, ex_extT, ex_rev, ex_pop, rn_storeM, rn_lc, rn_lc2, rn_turn, rn_turn1, rn_frz, $ls,*])
theorem lt_call {x : Bag} {u : Int} {Q : Res → List D → Prop} (hx : BOk x) (hu : 0 < u) (hu2 : u < 1073741824) (h : ∀ (k : Int) (x' : Bag), 0 ≤ k → k < u → BOk x' → Q (.dat (.int k)) [bagD x']) : Dr d__law_take [.obj 0, .int u] [bagD x] Q :=
  take_call hx hu hu2 h
theorem bag_ok {ns : List Int} (hl : ns.length ≤ 63) {Q : Res → List D → Prop} (q : ∀ x, BOk x → Q (.new (bagD x)) []) : Dr d__law_bag [.rol (ns.map .int)] [] Q := by
  unfold d__law_bag b__law_bag
  rw [dr_run]
  simp! [List.replicate, show (63 : Int) = ((63 : Nat) : Int) from rfl, cut_take]
  refine cw_map (F := absF) (small_le (by simp; omega)) (fun d hd => ?_) ?_
  · rw [← List.map_take] at hd
    obtain ⟨k, hk, rfl⟩ := List.mem_map.mp hd
    simp! [wipeE, Slot.frz]
    rfl
  · rw [List.nil_append, ← List.map_take, absF_eq, if_imms (imms_ints _) rfl]
    refine ⟨small_le (by decide), ?_⟩
    exact q ⟨0, 1234567891, 0, (ns.take 63).map fun i => if i < 0 then -i else i⟩ ⟨⟨Int.le_refl _, Int.le.intro_sub 1234567891 rfl, Int.le_refl _, fun v hv => by
      obtain ⟨i, _, rfl⟩ := List.mem_map.mp hv
      split <;> omega⟩, by simp; omega⟩
theorem lot_ok {m : Int} {x : Bag} (hx : BOk x) (h1 : 1 ≤ m) (h4 : m ≤ 8) {Q : Res → List D → Prop} (q : ∀ l : List Int, ∀ x', BOk x' → l ≠ [] → l.Pairwise (· < ·) → (∀ k ∈ l, 0 ≤ k ∧ k < m) → Q (.dat (tI l)) [bagD x']) : Dr d__law_lot [.obj 0, .int m] [bagD x] Q := by
  unfold d__law_lot b__law_lot
  rw [dr_run]
  simp! [List.replicate]
  refine lt_call hx (by omega) (by omega) fun first x' k0 k1 hy => ?_
  rw [safe_b rfl]
  simp! [rng1I]
  refine ⟨by unfold rngOk; exact decide_eq_true (by omega), ?_⟩
  refine cw_left (I := fun ds acc o => ∃ (j : Nat) (l : List Int) (y : Bag), (j : Int) ≤ m ∧ ds = rangeD j (m.toNat - j) ∧ acc = l.map .int ∧ o = [bagD y] ∧ BOk y ∧ l.Pairwise (· < ·) ∧ (∀ k ∈ l, 0 ≤ k ∧ k < (j : Int)) ∧ (first < (j : Int) → l ≠ [])) (small_le (by rw [rangeD_len]; simp; omega)) ⟨0, [], x', by omega, rfl, rfl, rfl, hy, .nil, by simp, fun h => by omega⟩ ?_ ?_
  · rintro d ds acc o ⟨j, l, y, hj, e1, rfl, rfl, hy, up, hb, hf⟩
    have hjm : j < m.toNat := by
      rcases Nat.lt_or_ge j m.toNat with h | h
      · exact h
      · rw [show m.toNat - j = 0 by omega] at e1
        cases e1
    rw [show m.toNat - j = (m.toNat - (j + 1)) + 1 by omega] at e1
    cases e1
    have keep : ∀ y', BOk y' → ∃ (j' : Nat) (l' : List Int) (y'' : Bag), (j' : Int) ≤ m ∧ rangeD ((j : Int) + 1) (m.toNat - (j + 1)) = rangeD j' (m.toNat - j') ∧ l.map D.int ++ [.int j] = l'.map D.int ∧ [bagD y'] = [bagD y''] ∧ BOk y'' ∧ l'.Pairwise (· < ·) ∧ (∀ k ∈ l', 0 ≤ k ∧ k < (j' : Int)) ∧ (first < (j' : Int) → l' ≠ []) := fun y' hy' =>
      ⟨j + 1, l ++ [(j : Int)], y', by omega, rfl, by simp, rfl, hy', by
        rw [List.pairwise_append]
        exact ⟨up, by simp, fun a ha b hb' => by simp at hb'; subst hb'; exact (hb a ha).2⟩, fun k hk => by
        rcases List.mem_append.mp hk with h | h
        · have := hb k h; omega
        · simp at h; omega, fun _ => by simp⟩
    simp! [wipeE, Slot.frz]
    by_cases c : (j : Int) = first
    · have c' : ((j : Int) == first) = true := by simp [c]
      simp only [c']
      simp!
      exact keep _ hy
    · have c' : ((j : Int) == first) = false := by simp [c]
      simp only [c']
      simp!
      refine lt_call hy (by omega) (by omega) fun k y' k0 k1 hy' => ?_
      rw [safe_b rfl]
      simp!
      split
      · exact keep _ hy'
      · exact ⟨j + 1, l, y', by omega, rfl, rfl, rfl, hy', up, fun k hk => by have := hb k hk; omega, fun h => hf (by omega)⟩
  · rintro acc o ⟨j, l, y, hj, e1, rfl, rfl, hy, up, hb, hf⟩
    have hjm : j = m.toNat := by
      rcases Nat.lt_or_ge j m.toNat with h | h
      · rw [show m.toNat - j = (m.toNat - (j + 1)) + 1 by omega] at e1
        cases e1
      · omega
    rw [if_imms (imms_ints _) (bag_all y)]
    exact q l y hy (hf (by omega)) up fun k hk => by have := hb k hk; omega
end LW
end
section
set_option maxRecDepth 100000
namespace LW
open PySem L2 LC
open DL hiding tI
local macro_rules | `(tactic| simp!) => `(tactic| simp -implicitDefEqProofs only [rn_bind, rn_pure, rn_no, rn_need, rn_opt1, rn_ite, rn_var, rn_put, rn_useD, rn_useN, rn_useO, rn_chkD, rn_chkN, rn_chkO, rn_call, rn_seq, rn_guard, rn_forIn, rn_for0, rn_setD, rn_setN, rn_setO, binM, binMO, unM, cmpT, testM, andT, orT, notT, ifM, asgM, retM, exprM, kM, consA, nilA, tupM, lstM, useAll, chkAll, slM, partM, DL.andM, DL.orM, DL.notM, negM, asgG, gN, gT, gsC, gsN, seqI, frzM, asgTM, dnewM, par2M, hold_d, hold_n, hold_o, d_d, d_n, d_o, out_d, out_n, out_o, fo_next, fo_ret, isBl_b, isInt_i, tr_i, tr_b, tr_n, tr_l, tr_t, it_l, it_r, it_t, li_l, li_r, op_add_i, op_add_l, op_add_t, op_sub_i, op_mul_i, op_mod_i, op_div_i, op_pow_i, op_lt_i, op_le_i, op_gt_i, op_ge_i, op_int_i, op_abs_i, op_len_l, op_len_t, op_len_r, op_tup_l, op_tup_t, op_lst_l, op_lst_t, op_max_i, op_eq_i, eq_go_go, eq_get_get, eq_go_get, eq_get_go, Bool.bne_false, Bool.bne_true, Bool.not_true, Bool.not_false, op_sl_l, op_sl_r, op_sl_t, op_ix_t0, op_ix_t1, op_ix_t2, op_ix_l0, List.getElem?_cons_zero, List.getElem?_cons_succ, List.set_cons_zero, List.set_cons_succ, List.map_cons, List.map_nil, List.length_cons, List.length_nil, List.cons_append, List.nil_append, if_true, if_false, Bool.false_eq_true, decide_eq_true_eq, and_true, true_and, ite_true, ite_false, reduceCtorEq, rn_methM, rn_methM0, isTM_eq, rn_mk, rn_st, mk_own, st_own, ty_own, ex_app, ex_ext, ex_extT, ex_rev, ex_pop, rn_storeM, rn_lc, rn_lc2, rn_turn, rn_turn1, rn_frz])
local macro_rules | `(tactic| simp! [$ls,*]) => `(tactic| simp -implicitDefEqProofs only [rn_bind, rn_pure, rn_no, rn_need, rn_opt1, rn_ite, rn_var, rn_put, rn_useD, rn_useN, rn_useO, rn_chkD, rn_chkN, rn_chkO, rn_call, rn_seq, rn_guard, rn_forIn, rn_for0, rn_setD, rn_setN, rn_setO, binM, binMO, unM, cmpT, testM, andT, orT, notT, ifM, asgM, retM, exprM, kM, consA, nilA, tupM, lstM, useAll, chkAll, slM, partM, DL.andM, DL.orM, DL.notM, negM, asgG, gN, gT, gsC, gsN, seqI, frzM, asgTM, dnewM, par2M, hold_d, hold_n, hold_o, d_d, d_n, d_o, out_d, out_n, out_o, fo_next, fo_ret, isBl_b, isInt_i, tr_i, tr_b, tr_n, tr_l, tr_t, it_l, it_r, it_t, li_l, li_r, op_add_i, op_add_l, op_add_t, op_sub_i, op_mul_i, op_mod_i, op_div_i, op_pow_i, op_lt_i, op_le_i, op_gt_i, op_ge_i, op_int_i, op_abs_i, op_len_l, op_len_t, op_len_r, op_tup_l, op_tup_t, op_lst_l, op_lst_t, op_max_i, op_eq_i, eq_go_go, eq_get_get, eq_go_get, eq_get_go, Bool.bne_false, Bool.bne_true, Bool.not_true, Bool.not_false, op_sl_l, op_sl_r, op_sl_t, op_ix_t0, op_ix_t1, op_ix_t2, op_ix_l0, List.getElem?_cons_zero, List.getElem?_cons_succ, List.set_cons_zero, List.set_cons_succ, List.map_cons, List.map_nil, List.length_cons, List.length_nil, List.cons_append, List.nil_append, if_true, if_false, Bool.false_eq_true, decide_eq_true_eq, and_true, true_and, ite_true, ite_false, reduceCtorEq, rn_methM, rn_methM0, isTM_eq, rn_mk, rn_st, mk_own, st_own, ty_own, ex_app, ex_ext, ex_extT, ex_rev, ex_pop, rn_storeM, rn_lc, rn_lc2, rn_turn, rn_turn1, rn_frz, $ls,*])
theorem ix_li {ns : List Int} {i : Nat} {k : Int} (h : ns[i]? = some k) {Q : Res → Sx → Prop} {S : Sx} : Rn (opIx (.lst (ns.map .int)) (.int (i : Nat))) S Q = Q (.dat (.int k)) S := op_ix_ln (by rw [List.getElem?_map, h]; rfl)
theorem To_snoc {g : Int} {c : Cd} : ∀ {ds : List Cd}, Cd.Tos g ds → c.To g → Cd.Tos g (ds ++ [c])
  | [], _, h => ⟨h, trivial⟩
  | d :: r, h, h2 => ⟨h.1, To_snoc h.2 h2⟩
theorem free_ok {letters states : List Int} (hm : ManyOk letters) (hne : letters ≠ []) {w : Nat} {g : Int} (hg : states[w]? = some g) (g1 : 1 ≤ g) (g8 : g ≤ 8) : ∀ (fuel n : Nat), n < fuel → ∀ (x : Bag), BOk x →
    ∀ {Q : Res → List D → Prop}, (∀ (c : Cd) (x' : Bag), c.Ok letters n → c.To g → BOk x' → Q (.dat c.toD) [bagD x']) → Dr (d__law_free fuel) [.obj 0, .int (w : Nat), .lst (states.map .int), .lst (letters.map .int), .int n] [bagD x] Q
  | 0, n, hn, _, _, _, _ => absurd hn (Nat.not_lt_zero _)
  | fuel + 1, n, hn, x, hx, Q, q => by
    have lp : 0 < letters.length := List.length_pos_iff.mpr hne
    have l5 := hm.len
    unfold d__law_free b__law_free
    rw [dr_run]
    generalize hB : exprM (methM "list" 8 _ opAppend) = B
    simp! [List.replicate]
    have leaf : ∀ y, BOk y → ∀ {Q' : Res → List D → Prop}, (∀ (k : Int) (x' : Bag), 0 ≤ k → k < g → BOk x' → Q' (.dat (.int k)) [bagD x']) → Dr d__law_take [.obj 0, .int g] [bagD y] Q' := fun y hy Q' h => lt_call hy (by omega) (by omega) h
    by_cases n0 : n = 0
    · subst n0
      have e0 : (((0 : Nat) : Int) == 0) = true := rfl
      simp only [e0]
      simp! [ix_li hg]
      refine leaf x hx fun k x' k0 k1 hy => ?_
      rw [safe_b rfl]
      simp!
      exact ⟨small_le (by decide), q (.go k) x' ⟨k0, by omega⟩ k1 hy⟩
    · have e0 : (((n : Nat) : Int) == 0) = false := by simp [n0]
      simp only [e0]
      simp!
      refine lt_call hx (by decide) (by decide) fun k x' k0 k1 hy => ?_
      rw [safe_b rfl]
      simp! [ix_li hg]
      split
      · refine leaf x' hy fun k x2 k0 k1 hy2 => ?_
        rw [safe_b rfl]
        simp!
        refine ⟨small_le (by decide), q (.go k) x2 ?_ k1 hy2⟩
        cases n <;> exact ⟨k0, by omega⟩
      · simp! [List.length_map]
        refine lt_call hy (by omega) (by omega) fun w2 x2 w0 w1 hy2 => ?_
        rw [safe_b rfl]
        obtain ⟨j, rfl⟩ := toNat_int w0
        have hj : j < letters.length := by omega
        have hmj : letters[j]? = some letters[j] := List.getElem?_eq_getElem hj
        have mj := hm.fit _ (List.getElem_mem hj)
        simp! [ix_li hmj]
        refine lt_call hy2 (by omega) (by omega) fun full x3 k0 k1 hy3 => ?_
        rw [safe_b rfl]
        simp! [parK, rng1I, ix_li hmj]
        refine ⟨small_le (by decide), by unfold rngOk; exact decide_eq_true (by omega), ?_⟩
        obtain ⟨p, rfl⟩ : ∃ p, n = p + 1 := ⟨n - 1, by omega⟩
        refine for_rng (n := letters[j].toNat) (I := fun k S => ∃ (cs : List Cd) (y : Bag) (s6 : Slot), cs.length = k ∧ Cd.Oks letters p cs ∧ Cd.Tos g cs ∧ BOk y ∧ S = ⟨[.dat (.obj 0), .dat (.int (w : Nat)), .dat (.lst (states.map .int)), .dat (.lst (letters.map .int)), .dat (.int ((p + 1 : Nat) : Int)), .dat (.int j), s6, .dat (.int full), .own (.lst (cs.map Cd.toD))], [bagD y]⟩) ⟨[], x3, _, rfl, trivial, trivial, hy3, rfl⟩ ?_ ?_
        · rintro i S hi ⟨cs, y, s6, hl, ok, to, hy, rfl⟩
          have fin : ∀ (m : Nat), m ≤ p → ∀ {Q' : Res → List D → Prop}, (∀ (c : Cd) (y' : Bag), c.Ok letters p → c.To g → BOk y' → Q' (.dat c.toD) [bagD y']) → Dr (d__law_free fuel) [.obj 0, .int (w : Nat), .lst (states.map .int), .lst (letters.map .int), .int m] [bagD y] Q' :=
            fun m h Q' q' => free_ok hm hne hg g1 g8 fuel m (by omega) y hy fun c y' hc ht hy' => q' c y' (Ok_mono m p c h hc) ht hy'
          have c1 : ((p + 1 : Nat) : Int) - 1 = (p : Int) := by omega
          rw [← hB]
          simp! [c1]
          have e1 : ∀ c : Cd, cs.map Cd.toD ++ [c.toD] = (cs ++ [c]).map Cd.toD := fun c => by simp
          split
          · rename_i e3
            have p2 : p = 2 := by simp at e3; omega
            split
            · refine fin 1 (by omega) fun c y' hc ht hy' => ?_
              rw [safe_b (Cd.imm c)]
              simp!
              rw [e1]
              exact ⟨small_lt (by simp; omega), cs ++ [c], y', _, by simp [hl], Oks_snoc ok hc, To_snoc to ht, hy', rfl⟩
            · refine fin p (by omega) fun c y' hc ht hy' => ?_
              rw [safe_b (Cd.imm c)]
              simp!
              rw [e1]
              exact ⟨small_lt (by simp; omega), cs ++ [c], y', _, by simp [hl], Oks_snoc ok hc, To_snoc to ht, hy', rfl⟩
          · refine fin p (by omega) fun c y' hc ht hy' => ?_
            rw [safe_b (Cd.imm c)]
            simp!
            rw [e1]
            exact ⟨small_lt (by simp; omega), cs ++ [c], y', _, by simp [hl], Oks_snoc ok hc, To_snoc to ht, hy', rfl⟩
        · rintro S ⟨cs, y, s6, hl, ok, to, hy, rfl⟩
          simp!
          refine ⟨small_le (by decide), ?_⟩
          have e := q (.get j cs) y ⟨w0, by rw [Int.toNat_natCast, hmj]; congr 1; omega, ok⟩ to hy
          rw [← toDs_map]
          exact e
end LW
end
section
set_option maxRecDepth 100000
namespace LW
open PySem L2 LC
open DL hiding tI
local macro_rules | `(tactic| simp!) => `(tactic| simp -implicitDefEqProofs only [rn_bind, rn_pure, rn_no, rn_need, rn_opt1, rn_ite, rn_var, rn_put, rn_useD, rn_useN, rn_useO, rn_chkD, rn_chkN, rn_chkO, rn_call, rn_seq, rn_guard, rn_forIn, rn_for0, rn_setD, rn_setN, rn_setO, binM, binMO, unM, cmpT, testM, andT, orT, notT, ifM, asgM, retM, exprM, kM, consA, nilA, tupM, lstM, useAll, chkAll, slM, partM, DL.andM, DL.orM, DL.notM, negM, asgG, gN, gT, gsC, gsN, seqI, frzM, asgTM, dnewM, par2M, hold_d, hold_n, hold_o, d_d, d_n, d_o, out_d, out_n, out_o, fo_next, fo_ret, isBl_b, isInt_i, tr_i, tr_b, tr_n, tr_l, tr_t, it_l, it_r, it_t, li_l, li_r, op_add_i, op_add_l, op_add_t, op_sub_i, op_mul_i, op_mod_i, op_div_i, op_pow_i, op_lt_i, op_le_i, op_gt_i, op_ge_i, op_int_i, op_abs_i, op_len_l, op_len_t, op_len_r, op_tup_l, op_tup_t, op_lst_l, op_lst_t, op_max_i, op_eq_i, eq_go_go, eq_get_get, eq_go_get, eq_get_go, Bool.bne_false, Bool.bne_true, Bool.not_true, Bool.not_false, op_sl_l, op_sl_r, op_sl_t, op_ix_t0, op_ix_t1, op_ix_t2, op_ix_l0, List.getElem?_cons_zero, List.getElem?_cons_succ, List.set_cons_zero, List.set_cons_succ, List.map_cons, List.map_nil, List.length_cons, List.length_nil, List.cons_append, List.nil_append, if_true, if_false, Bool.false_eq_true, decide_eq_true_eq, and_true, true_and, ite_true, ite_false, reduceCtorEq, rn_methM, rn_methM0, isTM_eq, rn_mk, rn_st, mk_own, st_own, ty_own, ex_app, ex_ext, ex_extT, ex_rev, ex_pop, rn_storeM, rn_lc, rn_lc2, rn_turn, rn_turn1, rn_frz])
local macro_rules | `(tactic| simp! [$ls,*]) => `(tactic| simp -implicitDefEqProofs only [rn_bind, rn_pure, rn_no, rn_need, rn_opt1, rn_ite, rn_var, rn_put, rn_useD, rn_useN, rn_useO, rn_chkD, rn_chkN, rn_chkO, rn_call, rn_seq, rn_guard, rn_forIn, rn_for0, rn_setD, rn_setN, rn_setO, binM, binMO, unM, cmpT, testM, andT, orT, notT, ifM, asgM, retM, exprM, kM, consA, nilA, tupM, lstM, useAll, chkAll, slM, partM, DL.andM, DL.orM, DL.notM, negM, asgG, gN, gT, gsC, gsN, seqI, frzM, asgTM, dnewM, par2M, hold_d, hold_n, hold_o, d_d, d_n, d_o, out_d, out_n, out_o, fo_next, fo_ret, isBl_b, isInt_i, tr_i, tr_b, tr_n, tr_l, tr_t, it_l, it_r, it_t, li_l, li_r, op_add_i, op_add_l, op_add_t, op_sub_i, op_mul_i, op_mod_i, op_div_i, op_pow_i, op_lt_i, op_le_i, op_gt_i, op_ge_i, op_int_i, op_abs_i, op_len_l, op_len_t, op_len_r, op_tup_l, op_tup_t, op_lst_l, op_lst_t, op_max_i, op_eq_i, eq_go_go, eq_get_get, eq_go_get, eq_get_go, Bool.bne_false, Bool.bne_true, Bool.not_true, Bool.not_false, op_sl_l, op_sl_r, op_sl_t, op_ix_t0, op_ix_t1, op_ix_t2, op_ix_l0, List.getElem?_cons_zero, List.getElem?_cons_succ, List.set_cons_zero, List.set_cons_succ, List.map_cons, List.map_nil, List.length_cons, List.length_nil, List.cons_append, List.nil_append, if_true, if_false, Bool.false_eq_true, decide_eq_true_eq, and_true, true_and, ite_true, ite_false, reduceCtorEq, rn_methM, rn_methM0, isTM_eq, rn_mk, rn_st, mk_own, st_own, ty_own, ex_app, ex_ext, ex_extT, ex_rev, ex_pop, rn_storeM, rn_lc, rn_lc2, rn_turn, rn_turn1, rn_frz, $ls,*])
theorem fm_fit (a : Int) {m : Int} (h : 0 < m) : 0 ≤ a.fmod m ∧ a.fmod m < m := ⟨Int.fmod_nonneg_of_pos a h, Int.fmod_lt_of_pos a h⟩
theorem cw_goes {turn : D → M (Option D)} {env : List Slot} {o : List D} {P : List D → List D → Prop} {hd : Nat} {mn : Int} (F : Nat → Int) (h5 : hd ≤ 1000) (hF : ∀ i, i < hd → 0 ≤ F i ∧ F i < mn) (ht : ∀ i, i < hd → Rn (turn (.int (i : Nat))) ⟨env, o⟩ fun r S' => r = some (.int (F i)) ∧ S'.objs = o)
    (q : ∀ goes : List Int, goes.length = hd → (∀ x ∈ goes, 0 ≤ x ∧ x < mn) → P (goes.map .int) o) : Cw turn env (rangeD 0 hd) [] o P := by
  rw [show rangeD 0 hd = (List.range' 0 hd).map fun i => D.int ((i : Nat) : Int) from range_map hd 0]
  refine cw_ofM (g := fun i => .int (F i)) (small_le (by simp; omega)) (fun i hi => ht i (by simp at hi; omega)) ?_
  have := q ((List.range' 0 hd).map F) (by simp) (fun x hx => by
    obtain ⟨i, hi, rfl⟩ := List.mem_map.mp hx
    exact hF i (by simp at hi; omega))
  rw [List.map_map] at this
  exact this
theorem op_int_b {b : Bool} {Q : Res → Sx → Prop} {S : Sx} : Rn (opInt (.bl b)) S Q = Q (.dat (.int (if b = true then 1 else 0))) S := rfl
theorem op_tup_r {ds : List D} {Q : Res → Sx → Prop} {S : Sx} : Rn (opTuple (.rol ds)) S Q = Q (.dat (.tup ds)) S := rfl
theorem op_min_i {i j : Int} {Q : Res → Sx → Prop} {S : Sx} : Rn (opMin2 (.int i) (.int j)) S Q = Q (.dat (.int (if j < i then j else i))) S := by
  unfold opMin2 DL.opI
  rw [rn_need]
  simp [rn_pure]
def rowC (at_ mn : Int) (hd i : Nat) : List Cd := (List.range' 0 hd).map fun m => Cd.go (if i = m then at_ else mn - 1)
theorem rowC_mem {at_ mn : Int} {hd i : Nat} (a0 : 0 ≤ at_) (a1 : at_ < mn) {c : Cd} (h : c ∈ rowC at_ mn hd i) : ∃ s, c = .go s ∧ 0 ≤ s ∧ s < mn := by
  obtain ⟨m, _, rfl⟩ := List.mem_map.mp h
  refine ⟨_, rfl, ?_, ?_⟩ <;> split <;> omega
theorem Oks_of {many : List Int} {n : Nat} : ∀ {ds : List Cd}, (∀ c ∈ ds, c.Ok many n) → Cd.Oks many n ds
  | [], _ => trivial
  | d :: r, h => ⟨h d List.mem_cons_self, Oks_of fun c hc => h c (List.mem_cons_of_mem _ hc)⟩
theorem form_ok {letters : List Int} (hm : ManyOk letters) {fm at_ mn : Int} {asked hd : Nat} {o : List D} (ho : (o.all fun o => D.imms o.parts) = true) (a0 : 0 ≤ at_) (a1 : at_ < mn) (m8 : mn ≤ 8) (hk : letters[asked]? = some (hd : Int)) {Q : Res → List D → Prop}
    (q : ∀ c : Cd, c.Ok letters 3 → c.To mn → Q (.dat c.toD) o) : Dr d__law_form [.int fm, .int at_, .int mn, .int (asked : Nat), .int (hd : Nat)] o Q := by
  have mh := hm.fit _ (List.mem_of_getElem? hk)
  have h4 : hd ≤ 4 := by omega
  have h1 : 1 ≤ hd := by omega
  have mp : 0 < mn := by omega
  unfold d__law_form b__law_form
  rw [dr_run]
  generalize hT : seqM (ifM (cmpT (opEq false) (varM 0) (kM (.int 9))) _ _) _ = T
  have tail : ∀ (goes : List Int) (s6 s7 s8 s9 s10 : Slot), goes.length = hd → (∀ x ∈ goes, 0 ≤ x ∧ x < mn) → Rn T ⟨[.dat (.int fm), .dat (.int at_), .dat (.int mn), .dat (.int (asked : Nat)), .dat (.int (hd : Nat)), .own (.lst (goes.map .int)), s6, s7, s8, s9, s10], o⟩ (flOut Q) := by
    intro goes s6 s7 s8 s9 s10 gl gf
    rw [← hT]
    simp! [rng1I, Int.toNat_natCast]
    split
    · refine ⟨by unfold rngOk; exact decide_eq_true (by omega), ?_⟩
      rw [show rangeD 0 hd = (List.range' 0 hd).map fun i => D.int ((i : Nat) : Int) from range_map hd 0]
      refine cw_ofM (g := fun i => .rol ((rowC at_ mn hd i).map Cd.toD)) (small_le (by simp; omega)) (fun i hi => ?_) ?_
      · simp! [wipeE, Slot.frz, List.map_cons, rng1I, Int.toNat_natCast]
        refine ⟨by unfold rngOk; exact decide_eq_true (by omega), ?_⟩
        rw [show rangeD 0 hd = (List.range' 0 hd).map fun i => D.int ((i : Nat) : Int) from range_map hd 0]
        refine cw_ofM (g := fun m => Cd.toD (.go (if i = m then at_ else mn - 1))) (small_le (by simp; omega)) (fun m hm => ?_) ?_
        · simp! [wipeE, Slot.frz, List.map_cons]
          by_cases e : i = m
          · subst e; simp; exact ⟨small_le (by decide), rfl⟩
          · have e' : ¬ ((i : Int) = (m : Int)) := by omega
            simp [e, e']; exact ⟨small_le (by decide), rfl⟩
        · have er : (List.range' 0 hd).map (fun m => Cd.toD (.go (if i = m then at_ else mn - 1))) = (rowC at_ mn hd i).map Cd.toD := by unfold rowC; rw [List.map_map]; rfl
          rw [er, if_imms (cds_imm _) ho]
          exact ⟨rfl, rfl⟩
      · have im : D.imms ((List.range' 0 hd).map fun i => D.rol ((rowC at_ mn hd i).map Cd.toD)) = true := by
          generalize List.range' 0 hd = L
          induction L with
          | nil => rfl
          | cons a r ih => simp [D.imms, D.imm, cds_imm, ih]
        rw [if_imms im ho]
        refine cw_ofM (f := fun i => D.rol ((rowC at_ mn hd i).map Cd.toD)) (g := fun i => Cd.toD (.get asked (rowC at_ mn hd i))) (xs := List.range' 0 hd) (small_le (by simp; omega)) (fun i hi => ?_) ?_
        · simp! [wipeE, Slot.frz, List.map_cons, op_tup_r]
          rw [← toDs_map]
          exact ⟨small_le (by decide), rfl⟩
        · have er : (List.range' 0 hd).map (fun i => Cd.toD (.get asked (rowC at_ mn hd i))) = ((List.range' 0 hd).map fun i => Cd.get asked (rowC at_ mn hd i)).map Cd.toD := by rw [List.map_map]; rfl
          rw [er, if_imms (cds_imm _) ho]
          refine ⟨small_le (by decide), ?_⟩
          rw [← toDs_map]
          have lr : ∀ i, (rowC at_ mn hd i).length = hd := fun i => by simp [rowC]
          refine q (.get asked ((List.range' 0 hd).map fun i => Cd.get asked (rowC at_ mn hd i))) ⟨by omega, by simp [hk], Oks_of fun c hc => ?_⟩ (Tos_of fun c hc => ?_)
          · obtain ⟨i, _, rfl⟩ := List.mem_map.mp hc
            refine ⟨by omega, by simp [hk, lr], Oks_of fun c hc => ?_⟩
            obtain ⟨s, rfl, h0, h1⟩ := rowC_mem a0 a1 hc
            exact ⟨h0, by omega⟩
          · obtain ⟨i, _, rfl⟩ := List.mem_map.mp hc
            refine Tos_of fun c hc => ?_
            obtain ⟨s, rfl, h0, h1⟩ := rowC_mem a0 a1 hc
            exact h1
    · refine cw_ofM (f := D.int) (g := fun s => Cd.toD (.go s)) (xs := goes) (small_le (by omega)) (fun s hs => ?_) ?_
      · simp! [wipeE, Slot.frz, List.map_cons]
        exact ⟨small_le (by decide), rfl⟩
      · have er : goes.map (fun s => Cd.toD (.go s)) = (goes.map Cd.go).map Cd.toD := by rw [List.map_map]; rfl
        rw [er, if_imms (cds_imm _) ho]
        refine ⟨small_le (by decide), ?_⟩
        rw [← toDs_map]
        refine q (.get asked (goes.map Cd.go)) ⟨by omega, by simp [hk, gl], Oks_of fun c hc => ?_⟩ (Tos_of fun c hc => ?_)
        · obtain ⟨s, hs, rfl⟩ := List.mem_map.mp hc
          have := gf s hs
          exact ⟨this.1, by omega⟩
        · obtain ⟨s, hs, rfl⟩ := List.mem_map.mp hc
          exact (gf s hs).2
  generalize hC2 : ifM (cmpT (opEq false) (varM 0) (kM (.int 2))) _ _ = C2
  simp! [List.replicate, rng1I, Int.toNat_natCast]
  refine ⟨by unfold rngOk; exact decide_eq_true (by omega), ?_⟩
  refine cw_goes (fun i => (i : Int).fmod mn) (by omega) (fun i hi => fm_fit _ mp) (fun i hi => ?_) fun goes hl hg => ?_
  · simp! [wipeE, Slot.frz, List.map_cons]
    omega
  · rw [if_imms (imms_ints _) ho]
    have rg : rngOk (hd : Int) = true := by unfold rngOk; exact decide_eq_true (by omega)
    rw [← hC2]
    generalize hC3 : ifM (cmpT (opEq false) (varM 0) (kM (.int 3))) _ _ = C3
    simp! [rng1I, Int.toNat_natCast]
    split
    · refine ⟨rg, ?_⟩
      refine cw_goes (fun i => ((i : Int) + 1).fmod mn) (by omega) (fun i hi => fm_fit _ mp) (fun i hi => ?_) fun goes hl hg => ?_
      · simp! [wipeE, Slot.frz, List.map_cons]
        omega
      · rw [if_imms (imms_ints _) ho]
        exact tail goes _ _ _ _ _ hl hg
    · rw [← hC3]
      generalize hC4 : ifM (cmpT (opEq false) (varM 0) (kM (.int 4))) _ _ = C4
      simp! [rng1I, Int.toNat_natCast]
      split
      · refine ⟨rg, ?_⟩
        refine cw_goes (fun i => (at_ + if ((i : Int) == at_.fmod hd) = true then 1 else 0).fmod mn) (by omega) (fun i hi => fm_fit _ mp) (fun i hi => ?_) fun goes hl hg => ?_
        · simp! [wipeE, Slot.frz, List.map_cons, op_int_b]
          exact ⟨by omega, by omega⟩
        · rw [if_imms (imms_ints _) ho]
          exact tail goes _ _ _ _ _ hl hg
      · rw [← hC4]
        generalize hC5 : ifM (orT _ _) _ _ = C5
        simp! [rng1I, Int.toNat_natCast]
        split
        · refine ⟨rg, ?_⟩
          refine cw_goes (mn := mn) (fun i => if (i : Int).fmod mn > at_ then (i : Int).fmod mn else at_) (by omega) (fun i hi => ?_) (fun i hi => ?_) fun goes hl hg => ?_
          · have := fm_fit (i : Int) mp
            split <;> omega
          · simp! [wipeE, Slot.frz, List.map_cons]
            omega
          · rw [if_imms (imms_ints _) ho]
            exact tail goes _ _ _ _ _ hl hg
        · rw [← hC5]
          generalize hC7 : ifM (andT _ _) _ _ = C7
          have goq : ∀ s : Int, 0 ≤ s → s < mn → 0 + 1 + 1 ≤ sizeLine ∧ Q (.dat (.tup [.str "go", .int s])) o := fun s h0 h1 => ⟨small_le (by decide), q (.go s) ⟨h0, by omega⟩ h1⟩
          have big9 : ∀ C9, ifM (cmpT (opEq false) (varM 0) (kM (.int 7))) (asgM 5 (lcM (rng1I (varM 4)) [7] (turnM (gN 7) (pure true) (binM opMin2 (binM opAdd (varM 7) (kM (.int 1))) (binM opSub (varM 2) (kM (.int 1))))))) (pure .next) = C9 → Rn (seqM C9 T) ⟨[.dat (.int fm), .dat (.int at_), .dat (.int mn), .dat (.int (asked : Nat)), .dat (.int (hd : Nat)), .own (.lst (goes.map .int)), .un, .un, .un, .un, .un], o⟩ (flOut Q) := by
            rintro C9 rfl
            simp! [rng1I, Int.toNat_natCast]
            split
            · refine ⟨rg, ?_⟩
              refine cw_goes (mn := mn) (fun i => if mn - 1 < (i : Int) + 1 then mn - 1 else (i : Int) + 1) (by omega) (fun i hi => ?_) (fun i hi => ?_) fun goes hl hg => ?_
              · split <;> omega
              · simp! [wipeE, Slot.frz, List.map_cons, op_min_i]
              · rw [if_imms (imms_ints _) ho]
                exact tail goes _ _ _ _ _ hl hg
            · exact tail goes _ _ _ _ _ hl hg
          have big : Rn (seqM C7 T) ⟨[.dat (.int fm), .dat (.int at_), .dat (.int mn), .dat (.int (asked : Nat)), .dat (.int (hd : Nat)), .own (.lst (goes.map .int)), .un, .un, .un, .un, .un], o⟩ (flOut Q) := by
            rw [← hC7]
            generalize hC8 : ifM (cmpT (opEq false) (varM 0) (kM (.int 8))) _ _ = C8
            have big8 : Rn (seqM C8 T) ⟨[.dat (.int fm), .dat (.int at_), .dat (.int mn), .dat (.int (asked : Nat)), .dat (.int (hd : Nat)), .own (.lst (goes.map .int)), .un, .un, .un, .un, .un], o⟩ (flOut Q) := by
              rw [← hC8]
              generalize hC9 : ifM (cmpT (opEq false) (varM 0) (kM (.int 7))) _ _ = C9
              have b9 := big9 C9 hC9
              rw [rn_seq] at b9
              simp!
              split
              · obtain ⟨h0, h1⟩ := fm_fit (at_ + 1) mp
                exact ⟨by omega, goq _ h0 h1⟩
              · exact b9
            rw [rn_seq] at big8
            simp!
            split
            · split
              · split
                · exact goq _ (by omega) (by omega)
                · obtain ⟨h0, h1⟩ := fm_fit at_ (show (0 : Int) < 2 by decide)
                  have : at_.fmod 2 = at_ % 2 := Int.fmod_eq_emod_of_nonneg _ (by decide)
                  exact ⟨by decide, goq _ (by omega) (by omega)⟩
              · exact big8
            · exact big8
          rw [rn_seq] at big
          have val : 0 ≤ (if mn - 1 < at_ + (if (fm == 6) = true then 1 else 0) then mn - 1 else at_ + (if (fm == 6) = true then 1 else 0)) ∧ (if mn - 1 < at_ + (if (fm == 6) = true then 1 else 0) then mn - 1 else at_ + (if (fm == 6) = true then 1 else 0)) < mn := by
            by_cases e6 : (fm == 6) = true
            · simp only [if_pos e6]; split <;> omega
            · simp only [if_neg e6]; split <;> omega
          simp! [op_int_b, op_min_i]
          generalize (if mn - 1 < at_ + (if (fm == 6) = true then 1 else 0) then mn - 1 else at_ + (if (fm == 6) = true then 1 else 0)) = vv at val ⊢
          have gv := goq vv val.1 val.2
          split
          · split
            · exact gv
            · split
              · split
                · exact gv
                · exact big
              · exact big
          · split
            · split
              · exact gv
              · exact big
            · exact big
end LW
end
section
set_option maxRecDepth 100000
namespace LW
open PySem L2 LC
open DL hiding tI
local macro_rules | `(tactic| simp!) => `(tactic| simp -implicitDefEqProofs only [rn_bind, rn_pure, rn_no, rn_need, rn_opt1, rn_ite, rn_var, rn_put, rn_useD, rn_useN, rn_useO, rn_chkD, rn_chkN, rn_chkO, rn_call, rn_seq, rn_guard, rn_forIn, rn_for0, rn_setD, rn_setN, rn_setO, binM, binMO, unM, cmpT, testM, andT, orT, notT, ifM, asgM, retM, exprM, kM, consA, nilA, tupM, lstM, useAll, chkAll, slM, partM, DL.andM, DL.orM, DL.notM, negM, asgG, gN, gT, gsC, gsN, seqI, frzM, asgTM, dnewM, par2M, hold_d, hold_n, hold_o, d_d, d_n, d_o, out_d, out_n, out_o, fo_next, fo_ret, isBl_b, isInt_i, tr_i, tr_b, tr_n, tr_l, tr_t, it_l, it_r, it_t, li_l, li_r, op_add_i, op_add_l, op_add_t, op_sub_i, op_mul_i, op_mod_i, op_div_i, op_pow_i, op_lt_i, op_le_i, op_gt_i, op_ge_i, op_int_i, op_abs_i, op_len_l, op_len_t, op_len_r, op_tup_l, op_tup_t, op_lst_l, op_lst_t, op_max_i, op_eq_i, eq_go_go, eq_get_get, eq_go_get, eq_get_go, Bool.bne_false, Bool.bne_true, Bool.not_true, Bool.not_false, op_sl_l, op_sl_r, op_sl_t, op_ix_t0, op_ix_t1, op_ix_t2, op_ix_l0, List.getElem?_cons_zero, List.getElem?_cons_succ, List.set_cons_zero, List.set_cons_succ, List.map_cons, List.map_nil, List.length_cons, List.length_nil, List.cons_append, List.nil_append, if_true, if_false, Bool.false_eq_true, decide_eq_true_eq, and_true, true_and, ite_true, ite_false, reduceCtorEq, rn_methM, rn_methM0, isTM_eq, rn_mk, rn_st, mk_own, st_own, ty_own, ex_app, ex_ext, ex_extT, ex_rev, ex_pop, rn_storeM, rn_lc, rn_lc2, rn_turn, rn_turn1, rn_frz])
local macro_rules | `(tactic| simp! [$ls,*]) => `(tactic| simp -implicitDefEqProofs only [rn_bind, rn_pure, rn_no, rn_need, rn_opt1, rn_ite, rn_var, rn_put, rn_useD, rn_useN, rn_useO, rn_chkD, rn_chkN, rn_chkO, rn_call, rn_seq, rn_guard, rn_forIn, rn_for0, rn_setD, rn_setN, rn_setO, binM, binMO, unM, cmpT, testM, andT, orT, notT, ifM, asgM, retM, exprM, kM, consA, nilA, tupM, lstM, useAll, chkAll, slM, partM, DL.andM, DL.orM, DL.notM, negM, asgG, gN, gT, gsC, gsN, seqI, frzM, asgTM, dnewM, par2M, hold_d, hold_n, hold_o, d_d, d_n, d_o, out_d, out_n, out_o, fo_next, fo_ret, isBl_b, isInt_i, tr_i, tr_b, tr_n, tr_l, tr_t, it_l, it_r, it_t, li_l, li_r, op_add_i, op_add_l, op_add_t, op_sub_i, op_mul_i, op_mod_i, op_div_i, op_pow_i, op_lt_i, op_le_i, op_gt_i, op_ge_i, op_int_i, op_abs_i, op_len_l, op_len_t, op_len_r, op_tup_l, op_tup_t, op_lst_l, op_lst_t, op_max_i, op_eq_i, eq_go_go, eq_get_get, eq_go_get, eq_get_go, Bool.bne_false, Bool.bne_true, Bool.not_true, Bool.not_false, op_sl_l, op_sl_r, op_sl_t, op_ix_t0, op_ix_t1, op_ix_t2, op_ix_l0, List.getElem?_cons_zero, List.getElem?_cons_succ, List.set_cons_zero, List.set_cons_succ, List.map_cons, List.map_nil, List.length_cons, List.length_nil, List.cons_append, List.nil_append, if_true, if_false, Bool.false_eq_true, decide_eq_true_eq, and_true, true_and, ite_true, ite_false, reduceCtorEq, rn_methM, rn_methM0, isTM_eq, rn_mk, rn_st, mk_own, st_own, ty_own, ex_app, ex_ext, ex_extT, ex_rev, ex_pop, rn_storeM, rn_lc, rn_lc2, rn_turn, rn_turn1, rn_frz, $ls,*])
def wk1 : M Fl := (asgG (tupM (consA (callM 2 d__law_take (consA (varM 0) (consA (kM (.int 10)) nilA))) (consA (callM 2 d__law_take (consA (varM 0) (consA (unM opLen (varM 3)) nilA))) nilA))) (gT 2 (gsC (gN 7) (gsC (gN 8) gsN))))
def wk2 : M Fl := (asgM 5 (lcM (rng1I (binM opIx (varM 2) (varM 1))) [9] (turnM (gN 9) (pure true) (binM opMod (varM 9) (binM opIx (varM 3) (varM 1))))))
def wk3 : M Fl := (ifM (cmpT (opEq false) (callM 2 d__law_take (consA (varM 0) (consA (kM (.int 3)) nilA))) (kM (.int 0))) (asgM 5 (lcM (rng1I (binM opIx (varM 2) (varM 1))) [9] (turnM (gN 9) (pure true) (callM 2 d__law_take (consA (varM 0) (consA (binM opIx (varM 3) (varM 1)) nilA)))))) (pure .next))
def wk4 : M Fl := (asgM 6 (lcM (rng1I (binM opIx (varM 2) (varM 1))) [9] (turnM (gN 9) (cmpT opGt (varM 7) (kM (.int 0))) (callM 5 d__law_form (consA (varM 7) (consA (varM 9) (consA (binM opIx (varM 2) (varM 1)) (consA (varM 8) (consA (binM opIx (varM 3) (varM 8)) nilA)))))))))
def wk5 : M Fl := (ifM (cmpT (opEq false) (varM 7) (kM (.int 0))) (asgM 6 (lcM (rng1I (binM opIx (varM 2) (varM 1))) [9] (turnM (gN 9) (pure true) (callM 5 (d__law_free 5) (consA (varM 0) (consA (varM 1) (consA (varM 2) (consA (varM 3) (consA (varM 4) nilA))))))))) (ifM (cmpT (opEq false) (callM 2 d__law_take (consA (varM 0) (consA (kM (.int 2)) nilA))) (kM (.int 0))) (storeM 6 (callM 5 (d__law_free 5) (consA (varM 0) (consA (varM 1) (consA (varM 2) (consA (varM 3) (consA (varM 4) nilA)))))) (callM 2 d__law_take (consA (varM 0) (consA (unM opLen (varM 6)) nilA)))) (pure .next)))
def wk6 : M Fl := (retM (tupM (consA (binM opIx (varM 3) (varM 1)) (consA (unM opTuple (varM 5)) (consA (unM opTuple (varM 6)) nilA)))))
theorem wk_eq : b__law_worker = seqM wk1 (seqM wk2 (seqM wk3 (seqM wk4 (seqM wk5 (wk6))))) := rfl
section
variable {letters states : List Int} {own n d : Nat} {m : Int}
abbrev wkE (letters states : List Int) (own d : Nat) (r : List Slot) : List Slot := .dat (.obj 0) :: .dat (.int (own : Nat)) :: .dat (.lst (states.map .int)) :: .dat (.lst (letters.map .int)) :: .dat (.int (d : Nat)) :: r
theorem gt_fm {fm : Int} {S : Sx} {Q : Res → Sx → Prop} : Rn (opGt (.int fm) (.int 0)) S Q = Q (.dat (.bl (decide (fm > 0)))) S := by rw [op_gt_i]
theorem wk4_ok (hm : ManyOk letters) (hs : states[own]? = some (n : Int)) (n1 : 1 ≤ n) (n5 : n ≤ 5) {fm : Int} (f0 : 0 ≤ fm) {asked : Nat} (ha : asked < letters.length) {x : Bag} {s6 s9 : Slot} {sh : List Int} {P : Fl → Sx → Prop}
    (q : ∀ cs : List Cd, (fm > 0 → cs.length = n) → (∀ c ∈ cs, c.Ok letters 3 ∧ c.To n) → cs.length ≤ 5 → P .next ⟨wkE letters states own d [.own (.lst (sh.map .int)), .own (.lst (cs.map Cd.toD)), .dat (.int fm), .dat (.int (asked : Nat)), s9], [bagD x]⟩) :
    Rn wk4 ⟨wkE letters states own d [.own (.lst (sh.map .int)), s6, .dat (.int fm), .dat (.int (asked : Nat)), s9], [bagD x]⟩ P := by
  have hk : letters[asked]? = some letters[asked] := List.getElem?_eq_getElem ha
  have hk4 := hm.fit _ (List.getElem_mem ha)
  generalize letters[asked] = hd at hk hk4
  obtain ⟨h, rfl⟩ := toNat_int (show 0 ≤ hd by omega)
  unfold wk4
  simp! [rng1I, ix_li hs, Int.toNat_natCast]
  refine ⟨by unfold rngOk; exact decide_eq_true (by omega), ?_⟩
  by_cases f : fm > 0
  · refine cw_left (I := fun ds acc o => ∃ (j : Nat) (cs : List Cd), ds = rangeD j (n - j) ∧ j ≤ n ∧ acc = cs.map Cd.toD ∧ cs.length = j ∧ (∀ c ∈ cs, c.Ok letters 3 ∧ c.To n) ∧ o = [bagD x]) (small_le (by rw [rangeD_len]; simp; omega)) ⟨0, [], rfl, Nat.zero_le _, rfl, rfl, by simp, rfl⟩ ?_ ?_
    · rintro dd ds acc o ⟨j, cs, e1, hj, rfl, hl, hc, rfl⟩
      have hjn : j < n := by
        rcases Nat.lt_or_ge j n with h | h
        · exact h
        · rw [show n - j = 0 by omega] at e1; cases e1
      rw [show n - j = (n - (j + 1)) + 1 by omega] at e1
      cases e1
      simp! [wipeE, Slot.frz, List.map_cons, ix_li hs, ix_li hk, gt_fm]
      rw [if_pos f]
      with_reducible refine form_ok hm (bag_all x) (by omega) (by omega) (by omega) hk fun c c1 c2 => ?_
      rw [safe_b (Cd.imm c)]
      exact ⟨j + 1, cs ++ [c], rfl, hjn, by simp, by simp [hl], fun c' hc' => by
        rcases List.mem_append.mp hc' with h | h
        · exact hc c' h
        · rw [List.mem_singleton] at h; subst h; exact ⟨c1, c2⟩, rfl⟩
    · rintro acc o ⟨j, cs, e1, hj, rfl, hl, hc, rfl⟩
      have hjn : j = n := by
        rcases Nat.lt_or_ge j n with h | h
        · rw [show n - j = (n - (j + 1)) + 1 by omega] at e1; cases e1
        · omega
      rw [if_imms (cds_imm _) (bag_all x)]
      exact q cs (fun _ => by omega) hc (by omega)
  · rw [show rangeD 0 n = (List.range' 0 n).map fun i => D.int ((i : Nat) : Int) from range_map n 0]
    refine cw_ofF (c := fun _ => false) (g := fun _ => .non) (small_le (by simp; omega)) (fun i hi => ?_) ?_
    · simp! [wipeE, Slot.frz, List.map_cons, gt_fm]
      rw [if_neg f]
      simp
    · rw [show ((List.range' 0 n).filter fun _ => false) = [] by simp, List.map_nil, if_imms rfl (bag_all x)]
      exact q [] (fun h => absurd h f) (by simp) (by simp)
theorem wk5_ok (hm : ManyOk letters) (hne : letters ≠ []) (hs : states[own]? = some (n : Int)) (n1 : 1 ≤ n) (n5 : n ≤ 5) (d3 : d ≤ 3) {fm : Int} (f0 : 0 ≤ fm) {x : Bag} (hx : BOk x) {s8 s9 : Slot} {sh : List Int} {cs : List Cd} (hl : fm > 0 → cs.length = n) (hc : ∀ c ∈ cs, c.Ok letters 3 ∧ c.To n) {P : Fl → Sx → Prop}
    (q : ∀ (cs : List Cd) (y : Bag) (s9 : Slot), cs.length = n → (∀ c ∈ cs, c.Ok letters 3 ∧ c.To n) → BOk y → P .next ⟨wkE letters states own d [.own (.lst (sh.map .int)), .own (.lst (cs.map Cd.toD)), .dat (.int fm), s8, s9], [bagD y]⟩) :
    Rn wk5 ⟨wkE letters states own d [.own (.lst (sh.map .int)), .own (.lst (cs.map Cd.toD)), .dat (.int fm), s8, s9], [bagD x]⟩ P := by
  have fr : ∀ y, BOk y → ∀ {Q : Res → List D → Prop}, (∀ (c : Cd) (y' : Bag), c.Ok letters 3 → c.To n → BOk y' → Q (.dat c.toD) [bagD y']) → Dr (d__law_free 5) [.obj 0, .int (own : Nat), .lst (states.map .int), .lst (letters.map .int), .int (d : Nat)] [bagD y] Q :=
    fun y hy Q q => free_ok hm hne hs (by omega) (by omega) 5 d (by omega) y hy fun c y' h1 h2 h3 => q c y' (Ok_mono d 3 c d3 h1) h2 h3
  unfold wk5
  simp! [rng1I, ix_li hs, Int.toNat_natCast]
  split
  · refine ⟨by unfold rngOk; exact decide_eq_true (by omega), ?_⟩
    refine cw_left (I := fun ds acc o => ∃ (cs : List Cd) (y : Bag), cs.length + ds.length = n ∧ acc = cs.map Cd.toD ∧ (∀ c ∈ cs, c.Ok letters 3 ∧ c.To n) ∧ BOk y ∧ o = [bagD y]) (small_le (by rw [rangeD_len]; simp; omega)) ⟨[], x, by rw [rangeD_len]; simp, rfl, by simp, hx, rfl⟩ ?_ ?_
    · rintro dd ds acc o ⟨cs, y, hl, rfl, hc, hy, rfl⟩
      simp! [wipeE, Slot.frz, List.map_cons]
      refine fr y hy fun c y' c1 c2 hy' => ?_
      rw [safe_b (Cd.imm c)]
      exact ⟨cs ++ [c], y', by simp at hl ⊢; omega, by simp, fun c' hc' => by
        rcases List.mem_append.mp hc' with h | h
        · exact hc c' h
        · rw [List.mem_singleton] at h; subst h; exact ⟨c1, c2⟩, hy', rfl⟩
    · rintro acc o ⟨cs, y, hl, rfl, hc, hy, rfl⟩
      rw [if_imms (cds_imm _) (bag_all y)]
      exact q cs y _ (by simpa using hl) hc hy
  · rename_i f
    have fp : fm > 0 := by simp at f; omega
    have hl := hl fp
    refine lt_call hx (by decide) (by decide) fun k y k0 k1 hy => ?_
    rw [safe_b rfl]
    simp!
    split
    · refine fr y hy fun c y' c1 c2 hy' => ?_
      rw [safe_b (Cd.imm c)]
      simp! [List.length_map]
      refine ⟨rfl, ?_⟩
      refine lt_call hy' (by omega) (by omega) fun k y2 k0 k1 hy2 => ?_
      rw [safe_b rfl]
      obtain ⟨j, rfl⟩ := toNat_int k0
      simp!
      refine ex_set (by simp; omega) ?_
      rw [← List.map_set]
      refine q (cs.set j c) y2 _ (by simp [hl]) (fun c' hc' => ?_) hy2
      rcases List.mem_or_eq_of_mem_set hc' with h | rfl
      · exact hc c' h
      · exact ⟨c1, c2⟩
    · exact q cs y _ hl hc hy
theorem worker_ok (hm : ManyOk letters) (hne : letters ≠ []) (hs : states[own]? = some (n : Int)) (hk : letters[own]? = some m) (n1 : 1 ≤ n) (n5 : n ≤ 5) (d3 : d ≤ 3) {x : Bag} (hx : BOk x) {Q : Res → List D → Prop}
    (q : ∀ (w : Wk) (y : Bag), WkOk letters w → w.m = m → w.sh.length = n → BOk y → Q (.dat w.toD) [bagD y]) : Dr d__law_worker [.obj 0, .int (own : Nat), .lst (states.map .int), .lst (letters.map .int), .int (d : Nat)] [bagD x] Q := by
  have lp : 0 < letters.length := List.length_pos_iff.mpr hne
  have l5 := hm.len
  have mk := hm.fit _ (List.mem_of_getElem? hk)
  unfold d__law_worker
  rw [dr_run, wk_eq]
  generalize hR2 : seqM wk2 _ = R2
  unfold wk1
  simp! [List.replicate]
  refine lt_call hx (by decide) (by decide) fun fm x1 f0 f1 hx1 => ?_
  rw [safe_b rfl]
  simp! [List.length_map]
  refine lt_call hx1 (by omega) (by omega) fun as x2 a0 a1 hx2 => ?_
  rw [safe_b rfl]
  obtain ⟨asked, rfl⟩ := toNat_int a0
  simp!
  refine ⟨small_le (by decide), ?_⟩
  rw [← hR2]
  generalize hR3 : seqM wk3 _ = R3
  unfold wk2
  simp! [rng1I, ix_li hs, Int.toNat_natCast]
  refine ⟨by unfold rngOk; exact decide_eq_true (by omega), ?_⟩
  refine cw_goes (mn := m) (fun i => (i : Int).fmod m) (by omega) (fun i hi => fm_fit _ (by omega)) (fun i hi => ?_) fun sh0 sl0 sf0 => ?_
  · simp! [wipeE, Slot.frz, List.map_cons, ix_li hk]
    omega
  · rw [if_imms (imms_ints _) (bag_all x2), ← hR3]
    generalize hR4 : seqM wk4 _ = R4
    have rest : ∀ (sh : List Int) (y : Bag) (s6 s9 : Slot), sh.length = n → (∀ k ∈ sh, 0 ≤ k ∧ k < m) → BOk y → Rn R4 ⟨wkE letters states own d [.own (.lst (sh.map .int)), s6, .dat (.int fm), .dat (.int (asked : Nat)), s9], [bagD y]⟩ (flOut Q) := by
      intro sh y s6 s9 sl sf hy
      rw [← hR4, rn_seq]
      refine wk4_ok hm hs n1 n5 f0 (by omega) fun cs cl cc c5 => ?_
      simp only
      rw [rn_seq]
      refine wk5_ok hm hne hs n1 n5 d3 f0 hy cl cc fun cs y2 s9 cl cc hy2 => ?_
      simp only
      unfold wk6 wkE
      simp! [ix_li hk]
      refine ⟨small_le (by decide), ?_⟩
      have := q ⟨m, sh, cs⟩ y2 ⟨by show 1 ≤ sh.length; omega, by show sh.length ≤ 5; omega, by show cs.length = sh.length; omega, mk.1, mk.2, sf, fun c hc => by
        have := cc c hc
        show c.Ok letters 3 ∧ c.To sh.length
        rw [sl]; exact this⟩ rfl sl hy2
      unfold Wk.toD tI at this
      rw [toDs_map] at this
      exact this
    unfold wk3
    simp! [rng1I, ix_li hs, Int.toNat_natCast]
    refine lt_call hx2 (by decide) (by decide) fun k x3 k0 k1 hx3 => ?_
    rw [safe_b rfl]
    simp! [rng1I, ix_li hs, Int.toNat_natCast]
    split
    · refine ⟨by unfold rngOk; exact decide_eq_true (by omega), ?_⟩
      refine cw_left (I := fun ds acc o => ∃ (sh : List Int) (y : Bag), sh.length + ds.length = n ∧ acc = sh.map .int ∧ (∀ k ∈ sh, 0 ≤ k ∧ k < m) ∧ BOk y ∧ o = [bagD y]) (small_le (by rw [rangeD_len]; simp; omega)) ⟨[], x3, by rw [rangeD_len]; simp, rfl, by simp, hx3, rfl⟩ ?_ ?_
      · rintro dd ds acc o ⟨sh, y, hl, rfl, hc, hy, rfl⟩
        simp! [wipeE, Slot.frz, List.map_cons, ix_li hk]
        refine lt_call hy (by omega) (by omega) fun k y' k0 k1 hy' => ?_
        rw [safe_b rfl]
        exact ⟨sh ++ [k], y', by simp at hl ⊢; omega, by simp, fun c' hc' => by
          rcases List.mem_append.mp hc' with h | h
          · exact hc c' h
          · rw [List.mem_singleton] at h; subst h; exact ⟨k0, k1⟩, hy', rfl⟩
      · rintro acc o ⟨sh, y, hl, rfl, hc, hy, rfl⟩
        rw [if_imms (imms_ints _) (bag_all y)]
        exact rest sh y _ _ (by simpa using hl) hc hy
    · exact rest sh0 x3 _ _ sl0 sf0 hx3
end
end LW
end
section
set_option maxRecDepth 100000
namespace LW
open PySem L2 LC
open DL hiding tI
local macro_rules | `(tactic| simp!) => `(tactic| simp -implicitDefEqProofs only [rn_bind, rn_pure, rn_no, rn_need, rn_opt1, rn_ite, rn_var, rn_put, rn_useD, rn_useN, rn_useO, rn_chkD, rn_chkN, rn_chkO, rn_call, rn_seq, rn_guard, rn_forIn, rn_for0, rn_setD, rn_setN, rn_setO, binM, binMO, unM, cmpT, testM, andT, orT, notT, ifM, asgM, retM, exprM, kM, consA, nilA, tupM, lstM, useAll, chkAll, slM, partM, DL.andM, DL.orM, DL.notM, negM, asgG, gN, gT, gsC, gsN, seqI, frzM, asgTM, dnewM, par2M, hold_d, hold_n, hold_o, d_d, d_n, d_o, out_d, out_n, out_o, fo_next, fo_ret, isBl_b, isInt_i, tr_i, tr_b, tr_n, tr_l, tr_t, it_l, it_r, it_t, li_l, li_r, op_add_i, op_add_l, op_add_t, op_sub_i, op_mul_i, op_mod_i, op_div_i, op_pow_i, op_lt_i, op_le_i, op_gt_i, op_ge_i, op_int_i, op_abs_i, op_len_l, op_len_t, op_len_r, op_tup_l, op_tup_t, op_lst_l, op_lst_t, op_max_i, op_eq_i, eq_go_go, eq_get_get, eq_go_get, eq_get_go, Bool.bne_false, Bool.bne_true, Bool.not_true, Bool.not_false, op_sl_l, op_sl_r, op_sl_t, op_ix_t0, op_ix_t1, op_ix_t2, op_ix_l0, List.getElem?_cons_zero, List.getElem?_cons_succ, List.set_cons_zero, List.set_cons_succ, List.map_cons, List.map_nil, List.length_cons, List.length_nil, List.cons_append, List.nil_append, if_true, if_false, Bool.false_eq_true, decide_eq_true_eq, and_true, true_and, ite_true, ite_false, reduceCtorEq, rn_methM, rn_methM0, isTM_eq, rn_mk, rn_st, mk_own, st_own, ty_own, ex_app, ex_ext, ex_extT, ex_rev, ex_pop, rn_storeM, rn_lc, rn_lc2, rn_turn, rn_turn1, rn_frz])
local macro_rules | `(tactic| simp! [$ls,*]) => `(tactic| simp -implicitDefEqProofs only [rn_bind, rn_pure, rn_no, rn_need, rn_opt1, rn_ite, rn_var, rn_put, rn_useD, rn_useN, rn_useO, rn_chkD, rn_chkN, rn_chkO, rn_call, rn_seq, rn_guard, rn_forIn, rn_for0, rn_setD, rn_setN, rn_setO, binM, binMO, unM, cmpT, testM, andT, orT, notT, ifM, asgM, retM, exprM, kM, consA, nilA, tupM, lstM, useAll, chkAll, slM, partM, DL.andM, DL.orM, DL.notM, negM, asgG, gN, gT, gsC, gsN, seqI, frzM, asgTM, dnewM, par2M, hold_d, hold_n, hold_o, d_d, d_n, d_o, out_d, out_n, out_o, fo_next, fo_ret, isBl_b, isInt_i, tr_i, tr_b, tr_n, tr_l, tr_t, it_l, it_r, it_t, li_l, li_r, op_add_i, op_add_l, op_add_t, op_sub_i, op_mul_i, op_mod_i, op_div_i, op_pow_i, op_lt_i, op_le_i, op_gt_i, op_ge_i, op_int_i, op_abs_i, op_len_l, op_len_t, op_len_r, op_tup_l, op_tup_t, op_lst_l, op_lst_t, op_max_i, op_eq_i, eq_go_go, eq_get_get, eq_go_get, eq_get_go, Bool.bne_false, Bool.bne_true, Bool.not_true, Bool.not_false, op_sl_l, op_sl_r, op_sl_t, op_ix_t0, op_ix_t1, op_ix_t2, op_ix_l0, List.getElem?_cons_zero, List.getElem?_cons_succ, List.set_cons_zero, List.set_cons_succ, List.map_cons, List.map_nil, List.length_cons, List.length_nil, List.cons_append, List.nil_append, if_true, if_false, Bool.false_eq_true, decide_eq_true_eq, and_true, true_and, ite_true, ite_false, reduceCtorEq, rn_methM, rn_methM0, isTM_eq, rn_mk, rn_st, mk_own, st_own, ty_own, ex_app, ex_ext, ex_extT, ex_rev, ex_pop, rn_storeM, rn_lc, rn_lc2, rn_turn, rn_turn1, rn_frz, $ls,*])
def nt1 : M Fl := (asgM 6 (binM opAdd (kM (.int 1)) (callM 2 d__law_take (consA (varM 0) (consA (varM 1) nilA)))))
def nt2 : M Fl := (asgM 7 (lcM (rng1I (varM 6)) [11] (turnM (gN 11) (pure true) (binM opAdd (kM (.int 1)) (binM opMax2 (callM 2 d__law_take (consA (varM 0) (consA (varM 3) nilA))) (callM 2 d__law_take (consA (varM 0) (consA (varM 3) nilA))))))))
def nt3 : M Fl := (asgM 8 (lcM (rng1I (varM 6)) [11] (turnM (gN 11) (pure true) (binM opAdd (kM (.int 1)) (binM opMax2 (callM 2 d__law_take (consA (varM 0) (consA (varM 2) nilA))) (callM 2 d__law_take (consA (varM 0) (consA (varM 2) nilA))))))))
def nt4 : M Fl := (asgM 9 (lcM (rng1I (callM 2 d__law_take (consA (varM 0) (consA (binM opAdd (varM 5) (kM (.int 1))) nilA)))) [11] (turnM (gN 11) (pure true) (callM 2 d__law_take (consA (varM 0) (consA (varM 6) nilA))))))
def nt5 : M Fl := (asgM 10 (lcM (rng1I (varM 6)) [11] (turnM (gN 11) (pure true) (callM 5 d__law_worker (consA (varM 0) (consA (varM 11) (consA (varM 8) (consA (varM 7) (consA (varM 4) nilA)))))))))
def nt6 : M Fl := (retM (tupM (consA (unM opTuple (varM 10)) (consA (unM opTuple (lcM (rng1I (varM 6)) [11] (turnM (gN 11) (cmpT (opIn false) (varM 11) (varM 9)) (varM 11)))) nilA))))
theorem nt_eq : b__law_net = seqM nt1 (seqM nt2 (seqM nt3 (seqM nt4 (seqM nt5 (nt6))))) := rfl
section
theorem cw_sizes {turn : D → M (Option D)} {env : List Slot} {x : Bag} {P : List D → List D → Prop} {n : Nat} {b : Int} (hx : BOk x) (hn : n ≤ 1000)
    (ht : ∀ (d : D) (y : Bag) (T : Option D → Sx → Prop), BOk y → (∀ (v : Int) (y' : Bag), 1 ≤ v → v ≤ b → BOk y' → ∀ S', S'.objs = [bagD y'] → T (some (.int v)) S') → Rn (turn d) ⟨env, [bagD y]⟩ T)
    (q : ∀ (ns : List Int) (y : Bag), ns.length = n → (∀ k ∈ ns, 1 ≤ k ∧ k ≤ b) → BOk y → P (ns.map .int) [bagD y]) : Cw turn env (rangeD 0 n) [] [bagD x] P := by
  refine cw_left (I := fun ds acc o => ∃ (ns : List Int) (y : Bag), ns.length + ds.length = n ∧ acc = ns.map .int ∧ (∀ k ∈ ns, 1 ≤ k ∧ k ≤ b) ∧ BOk y ∧ o = [bagD y]) (small_le (by rw [rangeD_len]; simp; omega)) ⟨[], x, by rw [rangeD_len]; simp, rfl, by simp, hx, rfl⟩ ?_ ?_
  · rintro dd ds acc o ⟨ns, y, hl, rfl, hc, hy, rfl⟩
    refine ht dd y _ hy fun v y' v1 v2 hy' S' hS' => ?_
    simp only
    exact ⟨ns ++ [v], y', by simp at hl ⊢; omega, by simp, fun c' hc' => by
      rcases List.mem_append.mp hc' with h | h
      · exact hc c' h
      · rw [List.mem_singleton] at h; subst h; exact ⟨v1, v2⟩, hy', hS'⟩
  · rintro acc o ⟨ns, y, hl, rfl, hc, hy, rfl⟩
    exact q ns y (by simpa using hl) hc hy
theorem netS_okW {most high wide steady : Int} {deep : Nat} (m1 : 1 ≤ most) (m5 : most ≤ 5) (h1 : 1 ≤ high) (h5 : high ≤ 5) (w1 : 1 ≤ wide) (w4 : wide ≤ 4) (d3 : deep ≤ 3) (s0 : 0 ≤ steady) (s2 : steady ≤ 100) {x : Bag} (hx : BOk x) {Q : Res → List D → Prop}
    (q : ∀ (ws : List Wk) (st : List Nat) (y : Bag), NetOk ws → (ws.length : Int) ≤ most → (∀ i ∈ st, i < ws.length) → st.length ≤ 8 → st.Pairwise (· < ·) → (steady = 0 → st = []) → (∀ w ∈ ws, (w.sh.length : Int) ≤ high ∧ w.m ≤ wide) → BOk y → Q (.dat (netD ws (uI st))) [bagD y]) : Dr d__law_net [.obj 0, .int most, .int high, .int wide, .int (deep : Nat), .int steady] [bagD x] Q := by
  unfold d__law_net
  rw [dr_run, nt_eq]
  generalize hR2 : seqM nt2 _ = R2
  unfold nt1
  simp! [List.replicate]
  refine lt_call hx (by omega) (by omega) fun mn x1 k0 k1 hx1 => ?_
  rw [safe_b rfl]
  simp!
  obtain ⟨n, hn⟩ := toNat_int (show 0 ≤ 1 + mn by omega)
  rw [hn]
  have n1 : 1 ≤ n := by omega
  have n5 : n ≤ 5 := by omega
  have rg : rngOk (n : Int) = true := by unfold rngOk; exact decide_eq_true (by omega)
  rw [← hR2]
  generalize hR3 : seqM nt3 _ = R3
  unfold nt2
  simp! [rng1I, Int.toNat_natCast]
  refine ⟨rg, ?_⟩
  refine cw_sizes (b := wide) hx1 (by omega) (fun d y T hy hT => ?_) fun letters x2 ll lf hx2 => ?_
  · simp! [wipeE, Slot.frz, List.map_cons]
    refine lt_call hy (by omega) (by omega) fun a y1 a0 a1 hy1 => ?_
    rw [safe_b rfl]
    simp!
    refine lt_call hy1 (by omega) (by omega) fun b y2 b0 b1 hy2 => ?_
    rw [safe_b rfl]
    simp!
    refine hT _ y2 ?_ ?_ hy2 _ rfl <;> split <;> omega
  rw [if_imms (imms_ints _) (bag_all x2), ← hR3]
  have hm : ManyOk letters := ⟨by omega, fun m h => by have := lf m h; omega⟩
  have hne : letters ≠ [] := fun e => by rw [e] at ll; simp at ll; omega
  generalize hR4 : seqM nt4 _ = R4
  unfold nt3
  simp! [rng1I, Int.toNat_natCast]
  refine ⟨rg, ?_⟩
  refine cw_sizes (b := high) hx2 (by omega) (fun d y T hy hT => ?_) fun states x3 sl sf hx3 => ?_
  · simp! [wipeE, Slot.frz, List.map_cons]
    refine lt_call hy (by omega) (by omega) fun a y1 a0 a1 hy1 => ?_
    rw [safe_b rfl]
    simp!
    refine lt_call hy1 (by omega) (by omega) fun b y2 b0 b1 hy2 => ?_
    rw [safe_b rfl]
    simp!
    refine hT _ y2 ?_ ?_ hy2 _ rfl <;> split <;> omega
  rw [if_imms (imms_ints _) (bag_all x3), ← hR4]
  generalize hR5 : seqM nt5 _ = R5
  unfold nt4
  simp! [rng1I]
  refine lt_call hx3 (by omega) (by omega) fun fc x4 c0 c1 hx4 => ?_
  rw [safe_b rfl]
  obtain ⟨fn, rfl⟩ := toNat_int c0
  simp! [Int.toNat_natCast]
  refine ⟨by unfold rngOk; exact decide_eq_true (by omega), ?_⟩
  refine cw_left (I := fun ds acc o => ∃ (firm : List Int) (y : Bag), firm.length + ds.length = fn ∧ acc = firm.map .int ∧ BOk y ∧ o = [bagD y]) (small_le (by rw [rangeD_len]; simp; omega)) ⟨[], x4, by rw [rangeD_len]; simp, rfl, hx4, rfl⟩ ?_ ?_
  · rintro dd ds acc o ⟨firm, y, fl, rfl, hy, rfl⟩
    simp! [wipeE, Slot.frz, List.map_cons]
    refine lt_call hy (by omega) (by omega) fun k y' k0 k1 hy' => ?_
    rw [safe_b rfl]
    exact ⟨firm ++ [k], y', by simp at fl ⊢; omega, by simp, hy', rfl⟩
  rintro acc o ⟨firm, x5, fl, rfl, hx5, rfl⟩
  rw [if_imms (imms_ints _) (bag_all x5), ← hR5]
  generalize hR6 : nt6 = R6
  unfold nt5
  simp! [rng1I, Int.toNat_natCast]
  refine ⟨rg, ?_⟩
  refine cw_left (I := fun ds acc o => ∃ (j : Nat) (ws : List Wk) (y : Bag), ds = rangeD j (n - j) ∧ j ≤ n ∧ ws.length = j ∧ acc = ws.map Wk.toD ∧ (∀ (i : Nat) (w : Wk), ws[i]? = some w → WkOk letters w ∧ letters[i]? = some w.m ∧ (w.sh.length : Int) ≤ high) ∧ BOk y ∧ o = [bagD y]) (small_le (by rw [rangeD_len]; simp; omega)) ⟨0, [], x5, rfl, Nat.zero_le _, rfl, rfl, by simp, hx5, rfl⟩ ?_ ?_
  · rintro dd ds acc o ⟨j, ws, y, e1, hj, hl, rfl, hw, hy, rfl⟩
    have hjn : j < n := by
      rcases Nat.lt_or_ge j n with h | h
      · exact h
      · rw [show n - j = 0 by omega] at e1; cases e1
    rw [show n - j = (n - (j + 1)) + 1 by omega] at e1
    cases e1
    have ek : letters[j]? = some (letters[j]'(by omega)) := List.getElem?_eq_getElem (by omega)
    have es : states[j]? = some (states[j]'(by omega)) := List.getElem?_eq_getElem (by omega)
    have fs := sf _ (List.mem_of_getElem? es)
    generalize states[j]'(by omega) = sn at es fs
    obtain ⟨sn, rfl⟩ := toNat_int (show 0 ≤ sn by omega)
    simp! [wipeE, Slot.frz, List.map_cons]
    with_reducible refine worker_ok hm hne es ek (by omega) (by omega) d3 hy fun w y' ok e1 e2 hy' => ?_
    rw [safe_b (show w.toD.imm = true by simp [Wk.toD, D.imm, D.imms, tI, imms_ints, Cd.imms])]
    refine ⟨j + 1, ws ++ [w], y', rfl, hjn, by simp [hl], by simp, fun i w' h => ?_, hy', rfl⟩
    rcases Nat.lt_or_ge i ws.length with h2 | h2
    · rw [List.getElem?_append_left h2] at h; exact hw i w' h
    · have : i = ws.length := by
        have := (List.getElem?_eq_some_iff.mp h).1
        simp at this; omega
      subst this
      rw [List.getElem?_append_right (by omega)] at h
      simp at h
      subst h
      exact ⟨ok, by rw [hl, ek, e1], by omega⟩
  rintro acc o ⟨j, ws, y, e1, hj, hl, rfl, hw, hy, rfl⟩
  have hjn : j = n := by
    rcases Nat.lt_or_ge j n with h | h
    · rw [show n - j = (n - (j + 1)) + 1 by omega] at e1; cases e1
    · omega
  have em : msOf ws = letters := by
    refine List.ext_getElem? fun i => ?_
    by_cases hi : i < ws.length
    · have := (hw i _ (List.getElem?_eq_getElem hi)).2.1
      rw [ms_at (List.getElem?_eq_getElem hi), this]
    · rw [List.getElem?_eq_none_iff.mpr (by simp [msOf]; omega), List.getElem?_eq_none_iff.mpr (by omega)]
  have NO : NetOk ws := ⟨by omega, by omega, fun w hw' => by
    obtain ⟨i, hi⟩ := mem_ix hw'
    rw [em]
    exact (hw i w hi).1⟩
  rw [if_imms (wks_imm ws) (bag_all y), ← hR6]
  unfold nt6
  simp! [rng1I, Int.toNat_natCast]
  refine ⟨rg, ?_⟩
  rw [show rangeD 0 n = (List.range' 0 n).map fun i => D.int ((i : Nat) : Int) from range_map n 0]
  refine cw_ofF (c := fun i : Nat => decide ((i : Int) ∈ firm)) (g := fun i : Nat => D.int (i : Int)) (small_le (by simp; omega)) (fun i hi => ?_) ?_
  · simp! [wipeE, Slot.frz, List.map_cons, in_lst]
    by_cases e : (i : Int) ∈ firm <;> simp [e]
  · rw [show ((List.range' 0 n).filter fun i : Nat => decide ((i : Int) ∈ firm)).map (fun i : Nat => D.int (i : Int)) = (((List.range' 0 n).filter fun i : Nat => decide ((i : Int) ∈ firm)).map fun i : Nat => (i : Int)).map .int by rw [List.map_map]; rfl, if_imms (imms_ints _) (bag_all y)]
    refine ⟨small_le (by decide), ?_⟩
    refine q ws ((List.range' 0 n).filter fun i : Nat => decide ((i : Int) ∈ firm)) y NO (by omega) (fun i hi => ?_) ?_ ?_ ?_ ?_ hy
    · have := (List.mem_filter.mp hi).1
      simp at this; omega
    · have := List.length_filter_le (fun i : Nat => decide ((i : Int) ∈ firm)) (List.range' 0 n)
      simp at this; omega
    · exact List.Pairwise.filter _ List.pairwise_lt_range'
    · intro e
      have : firm = [] := List.length_eq_zero_iff.mp (by simp at fl; omega)
      rw [this]
      simp
    · intro w hw'
      obtain ⟨i, hi⟩ := mem_ix hw'
      exact ⟨(hw i w hi).2.2, (lf _ (List.mem_of_getElem? (hw i w hi).2.1)).2⟩
theorem netS_okT {most high wide steady : Int} {deep : Nat} (m1 : 1 ≤ most) (m5 : most ≤ 5) (h1 : 1 ≤ high) (h5 : high ≤ 5) (w1 : 1 ≤ wide) (w4 : wide ≤ 4) (d3 : deep ≤ 3) (s0 : 0 ≤ steady) (s2 : steady ≤ 100) {x : Bag} (hx : BOk x) {Q : Res → List D → Prop}
    (q : ∀ (ws : List Wk) (st : List Nat) (y : Bag), NetOk ws → (ws.length : Int) ≤ most → (∀ i ∈ st, i < ws.length) → st.length ≤ 8 → st.Pairwise (· < ·) → (steady = 0 → st = []) → (∀ w ∈ ws, (w.sh.length : Int) ≤ high) → BOk y → Q (.dat (netD ws (uI st))) [bagD y]) : Dr d__law_net [.obj 0, .int most, .int high, .int wide, .int (deep : Nat), .int steady] [bagD x] Q :=
  netS_okW m1 m5 h1 h5 w1 w4 d3 s0 s2 hx fun ws st y a b c d e f g h => q ws st y a b c d e f (fun w hw => (g w hw).1) h
theorem netS_okS {most high wide steady : Int} {deep : Nat} (m1 : 1 ≤ most) (m5 : most ≤ 5) (h1 : 1 ≤ high) (h5 : high ≤ 5) (w1 : 1 ≤ wide) (w4 : wide ≤ 4) (d3 : deep ≤ 3) (s0 : 0 ≤ steady) (s2 : steady ≤ 100) {x : Bag} (hx : BOk x) {Q : Res → List D → Prop}
    (q : ∀ (ws : List Wk) (st : List Nat) (y : Bag), NetOk ws → (ws.length : Int) ≤ most → (∀ i ∈ st, i < ws.length) → st.length ≤ 8 → st.Pairwise (· < ·) → (steady = 0 → st = []) → BOk y → Q (.dat (netD ws (uI st))) [bagD y]) : Dr d__law_net [.obj 0, .int most, .int high, .int wide, .int (deep : Nat), .int steady] [bagD x] Q :=
  netS_okT m1 m5 h1 h5 w1 w4 d3 s0 s2 hx fun ws st y a b c d e f _ g => q ws st y a b c d e f g
end
end LW
end
section
set_option maxRecDepth 100000
namespace LW
open PySem L2 LC
open DL hiding tI
local macro_rules | `(tactic| simp!) => `(tactic| simp -implicitDefEqProofs only [rn_bind, rn_pure, rn_no, rn_need, rn_opt1, rn_ite, rn_var, rn_put, rn_useD, rn_useN, rn_useO, rn_chkD, rn_chkN, rn_chkO, rn_call, rn_seq, rn_guard, rn_forIn, rn_for0, rn_setD, rn_setN, rn_setO, binM, binMO, unM, cmpT, testM, andT, orT, notT, ifM, asgM, retM, exprM, kM, consA, nilA, tupM, lstM, useAll, chkAll, slM, partM, DL.andM, DL.orM, DL.notM, negM, asgG, gN, gT, gsC, gsN, seqI, frzM, asgTM, dnewM, par2M, hold_d, hold_n, hold_o, d_d, d_n, d_o, out_d, out_n, out_o, fo_next, fo_ret, isBl_b, isInt_i, tr_i, tr_b, tr_n, tr_l, tr_t, it_l, it_r, it_t, li_l, li_r, op_add_i, op_add_l, op_add_t, op_sub_i, op_mul_i, op_mod_i, op_div_i, op_pow_i, op_lt_i, op_le_i, op_gt_i, op_ge_i, op_int_i, op_abs_i, op_len_l, op_len_t, op_len_r, op_tup_l, op_tup_t, op_lst_l, op_lst_t, op_max_i, op_eq_i, eq_go_go, eq_get_get, eq_go_get, eq_get_go, Bool.bne_false, Bool.bne_true, Bool.not_true, Bool.not_false, op_sl_l, op_sl_r, op_sl_t, op_ix_t0, op_ix_t1, op_ix_t2, op_ix_l0, List.getElem?_cons_zero, List.getElem?_cons_succ, List.set_cons_zero, List.set_cons_succ, List.map_cons, List.map_nil, List.length_cons, List.length_nil, List.cons_append, List.nil_append, if_true, if_false, Bool.false_eq_true, decide_eq_true_eq, and_true, true_and, ite_true, ite_false, reduceCtorEq, rn_methM, rn_methM0, isTM_eq, rn_mk, rn_st, mk_own, st_own, ty_own, ex_app, ex_ext, ex_extT, ex_rev, ex_pop, rn_storeM, rn_lc, rn_lc2, rn_turn, rn_turn1, rn_frz])
local macro_rules | `(tactic| simp! [$ls,*]) => `(tactic| simp -implicitDefEqProofs only [rn_bind, rn_pure, rn_no, rn_need, rn_opt1, rn_ite, rn_var, rn_put, rn_useD, rn_useN, rn_useO, rn_chkD, rn_chkN, rn_chkO, rn_call, rn_seq, rn_guard, rn_forIn, rn_for0, rn_setD, rn_setN, rn_setO, binM, binMO, unM, cmpT, testM, andT, orT, notT, ifM, asgM, retM, exprM, kM, consA, nilA, tupM, lstM, useAll, chkAll, slM, partM, DL.andM, DL.orM, DL.notM, negM, asgG, gN, gT, gsC, gsN, seqI, frzM, asgTM, dnewM, par2M, hold_d, hold_n, hold_o, d_d, d_n, d_o, out_d, out_n, out_o, fo_next, fo_ret, isBl_b, isInt_i, tr_i, tr_b, tr_n, tr_l, tr_t, it_l, it_r, it_t, li_l, li_r, op_add_i, op_add_l, op_add_t, op_sub_i, op_mul_i, op_mod_i, op_div_i, op_pow_i, op_lt_i, op_le_i, op_gt_i, op_ge_i, op_int_i, op_abs_i, op_len_l, op_len_t, op_len_r, op_tup_l, op_tup_t, op_lst_l, op_lst_t, op_max_i, op_eq_i, eq_go_go, eq_get_get, eq_go_get, eq_get_go, Bool.bne_false, Bool.bne_true, Bool.not_true, Bool.not_false, op_sl_l, op_sl_r, op_sl_t, op_ix_t0, op_ix_t1, op_ix_t2, op_ix_l0, List.getElem?_cons_zero, List.getElem?_cons_succ, List.set_cons_zero, List.set_cons_succ, List.map_cons, List.map_nil, List.length_cons, List.length_nil, List.cons_append, List.nil_append, if_true, if_false, Bool.false_eq_true, decide_eq_true_eq, and_true, true_and, ite_true, ite_false, reduceCtorEq, rn_methM, rn_methM0, isTM_eq, rn_mk, rn_st, mk_own, st_own, ty_own, ex_app, ex_ext, ex_extT, ex_rev, ex_pop, rn_storeM, rn_lc, rn_lc2, rn_turn, rn_turn1, rn_frz, $ls,*])
theorem law_steps_ok {many : List Int} {lots : List (List Int)} (f : LotsOk many lots) {n : Nat} {c : Cd} {o : List D} (h : c.Ok many n) (hn : n ≤ 4) {Q : Res → List D → Prop}
    (q : Q (.new (.lst ((sortP (stp lots n c)).map fdD))) o) : Dr d__law_steps [c.toD, lotsD lots] o Q := by
  have c6 : cntN lots n c ≤ 1296 := Nat.le_trans (cnt_le f n c h) (Nat.le_trans (Nat.pow_le_pow_right (by decide) hn) (by decide))
  unfold d__law_steps b__law_steps
  rw [dr_run]
  generalize hW : whileM _ _ whFuel = W
  simp! [List.replicate]
  refine ⟨small_le (by decide), small_le (by decide), small_le (by decide), small_le (by decide), ?_⟩
  rw [← hW]
  refine while_inv (I := fun m S => ∃ (fd : List (List Int × Int)) (rs : List Nd) (s4 s5 s6 : Slot), Way many lots n c m fd rs ∧ S = ⟨[.dat c.toD, .dat (lotsD lots), .own (.lst (fd.map fdD)), .own (.lst (rs.map ndD)), s4, s5, s6], o⟩) (n := whFuel) (m := cntN lots n c) (fuel_lt (by omega)) ⟨[], [⟨n, [], c⟩], _, _, _, way_start h, rfl⟩ ?_
  rintro m S ⟨fd, rs, s4, s5, s6, w, rfl⟩
  have hall := w.all
  have hlen : rs.length ≤ m := by rw [w.cnt]; exact cnts_len lots rs
  have hshp : Shps (rs.map ndD) 11 := shps_all fun d hd => by
    obtain ⟨r, hr, rfl⟩ := List.mem_map.mp hd
    exact (nd_shp (w.ok r hr).1 (w.ok r hr).2.1).mono (by omega)
  by_cases he : rs = []
  · subst he
    simp! [ne_nil hshp (by decide : 11 < 64)]
    refine ⟨Nat.zero_le _, sorted_fd ?_⟩
    have := w.set
    rw [List.flatMap_nil, List.append_nil] at this
    rw [sortP_eq this]
    exact q
  · obtain ⟨rs', ⟨k, a, c'⟩, rfl⟩ := snoc_of rs he
    have hne : ((rs' ++ [Nd.mk k a c']).map ndD).isEmpty = false := by simp
    obtain ⟨o1, o2, o3⟩ := w.ok _ (List.mem_append_right _ (List.mem_singleton.mpr rfl))
    dsimp only at o1 o2 o3
    cases c' with
    | go s =>
      obtain ⟨w1, w2⟩ := way_go w
      simp only [List.map_append, List.map_cons, List.map_nil, ndD, Cd.toD] at hshp ⊢
      simp! [ne_nil hshp (by decide : 11 < 64), emp_snoc, ex_pop]
      refine ⟨Nat.zero_le _, small_le (by decide), small_lt (by simp; omega), m - 1, by omega, fd ++ [(a, s)], rs', .dat (tI a), .dat (.tup [.str "go", .int s]), s6, w2, ?_⟩
      rw [List.map_append]; rfl
    | get u ds =>
      cases k with
      | zero => exact o1.elim
      | succ k =>
        obtain ⟨l, h0, hl, hm, hk⟩ := lots_step f o1
        obtain ⟨w1, w2⟩ := way_get hl w
        simp only [List.map_append, List.map_cons, List.map_nil, ndD, Cd.toD] at hshp ⊢
        simp! [ne_nil hshp (by decide : 11 < 64), emp_snoc, ex_pop, lot_at h0 hl, it_tI]
        refine ⟨Nat.zero_le _, ?_⟩
        have ll := f.few l hm
        refine for_inv (I := fun xs S => ∃ l1 l2 s6, l = l1 ++ l2 ∧ xs = l2.map D.int ∧ S = ⟨[.dat c.toD, .dat (lotsD lots), .own (.lst (fd.map fdD)), .own (.lst ((rs' ++ kids k a ds l1).map ndD)), .dat (tI a), .dat (.tup [.str "get", .int u, .tup (Cd.toDs ds)]), s6], o⟩) ⟨[], l, s6, rfl, rfl, by simp [kids]⟩ ?_ ?_
        · rintro d xs S ⟨l1, l2, s6, e1, e2, rfl⟩
          cases l2 with
          | nil => cases e2
          | cons x l2 =>
            rw [List.map_cons] at e2
            cases e2
            obtain ⟨j, c2, rfl, e3, h3⟩ := hk x (by rw [e1]; simp)
            have hl1 : l1.length ≤ 5 := by rw [e1] at ll; simp at ll; omega
            have hkl := kids_len k a ds l1
            simp only [List.length_append, List.length_cons, List.length_nil] at hlen
            simp! [add_tI, ix_ds e3]
            refine ⟨small_le (by decide), small_le (by omega), small_le (by decide), small_lt (by simp; omega), l1 ++ [(j : Int)], l2, .dat (.int j), by rw [e1]; simp, rfl, ?_⟩
            simp only [kids_snoc e3, List.map_append, List.map_cons, List.map_nil, ndD, List.append_assoc]
        · rintro S ⟨l1, l2, s6, e1, e2, rfl⟩
          have : l2 = [] := by
            cases l2 with
            | nil => rfl
            | cons x r => cases e2
          subst this
          rw [List.append_nil] at e1
          subst e1
          exact ⟨m - 1, w1, fd, _, _, _, _, w2, rfl⟩
theorem law_results_ok {many : List Int} {lots : List (List Int)} (f : LotsOk many lots) {n : Nat} {c : Cd} {o : List D} (ho : (o.all fun o => D.imms o.parts) = true) (h : c.Ok many n) (hn : n ≤ 4) {Q : Res → List D → Prop}
    (q : Q (.new (lI (resN lots n c))) o) : Dr d__law_results [c.toD, lotsD lots] o Q := by
  have few := stp_few f h hn
  have hp := sortP_perm (stp lots n c)
  have hm : ∀ s, s ∈ (sortP (stp lots n c)).map (·.2) ↔ s ∈ stN lots n c := fun s => by rw [st_stp]; exact (hp.map (·.2)).mem_iff
  unfold d__law_results b__law_results
  rw [dr_run]
  simp! [List.replicate]
  refine law_steps_ok f h hn ?_
  rw [if_safe (show (Res.new (.lst ((sortP (stp lots n c)).map fdD))).safe = true from imms_fd _) ho]
  simp!
  refine cw_ofM (g := fun x => .int x.2) (small_le (by rw [hp.length_eq]; omega)) (fun x hx => ?_) ?_
  · simp! [fdD, wipeE, List.map_cons, Slot.frz]
  · rw [show (sortP (stp lots n c)).map (fun x => D.int x.2) = ((sortP (stp lots n c)).map (·.2)).map .int by rw [List.map_map]; rfl, if_imms (imms_ints _) ho]
    refine sortsetE_rn (b := 8) (by rw [List.length_map, hp.length_eq]; omega) (fun x hx => st_fit f n c h x ((hm x).mp hx)) (by decide) ?_
    simp!
    rw [sortS_eq hm]
    exact q
end LW
end
section
set_option maxRecDepth 100000
namespace LW
open PySem L2 LC
open DL hiding tI
local macro_rules | `(tactic| simp!) => `(tactic| simp -implicitDefEqProofs only [rn_bind, rn_pure, rn_no, rn_need, rn_opt1, rn_ite, rn_var, rn_put, rn_useD, rn_useN, rn_useO, rn_chkD, rn_chkN, rn_chkO, rn_call, rn_seq, rn_guard, rn_forIn, rn_for0, rn_setD, rn_setN, rn_setO, binM, binMO, unM, cmpT, testM, andT, orT, notT, ifM, asgM, retM, exprM, kM, consA, nilA, tupM, lstM, useAll, chkAll, slM, partM, DL.andM, DL.orM, DL.notM, negM, asgG, gN, gT, gsC, gsN, seqI, frzM, asgTM, dnewM, par2M, hold_d, hold_n, hold_o, d_d, d_n, d_o, out_d, out_n, out_o, fo_next, fo_ret, isBl_b, isInt_i, tr_i, tr_b, tr_n, tr_l, tr_t, it_l, it_r, it_t, li_l, li_r, op_add_i, op_add_l, op_add_t, op_sub_i, op_mul_i, op_mod_i, op_div_i, op_pow_i, op_lt_i, op_le_i, op_gt_i, op_ge_i, op_int_i, op_abs_i, op_len_l, op_len_t, op_len_r, op_tup_l, op_tup_t, op_lst_l, op_lst_t, op_max_i, op_eq_i, eq_go_go, eq_get_get, eq_go_get, eq_get_go, Bool.bne_false, Bool.bne_true, Bool.not_true, Bool.not_false, op_sl_l, op_sl_r, op_sl_t, op_ix_t0, op_ix_t1, op_ix_t2, op_ix_l0, List.getElem?_cons_zero, List.getElem?_cons_succ, List.set_cons_zero, List.set_cons_succ, List.map_cons, List.map_nil, List.length_cons, List.length_nil, List.cons_append, List.nil_append, if_true, if_false, Bool.false_eq_true, decide_eq_true_eq, and_true, true_and, ite_true, ite_false, reduceCtorEq, rn_methM, rn_methM0, isTM_eq, rn_mk, rn_st, mk_own, st_own, ty_own, ex_app, ex_ext, ex_extT, ex_rev, ex_pop, rn_storeM, rn_lc, rn_lc2, rn_turn, rn_turn1, rn_frz])
local macro_rules | `(tactic| simp! [$ls,*]) => `(tactic| simp -implicitDefEqProofs only [rn_bind, rn_pure, rn_no, rn_need, rn_opt1, rn_ite, rn_var, rn_put, rn_useD, rn_useN, rn_useO, rn_chkD, rn_chkN, rn_chkO, rn_call, rn_seq, rn_guard, rn_forIn, rn_for0, rn_setD, rn_setN, rn_setO, binM, binMO, unM, cmpT, testM, andT, orT, notT, ifM, asgM, retM, exprM, kM, consA, nilA, tupM, lstM, useAll, chkAll, slM, partM, DL.andM, DL.orM, DL.notM, negM, asgG, gN, gT, gsC, gsN, seqI, frzM, asgTM, dnewM, par2M, hold_d, hold_n, hold_o, d_d, d_n, d_o, out_d, out_n, out_o, fo_next, fo_ret, isBl_b, isInt_i, tr_i, tr_b, tr_n, tr_l, tr_t, it_l, it_r, it_t, li_l, li_r, op_add_i, op_add_l, op_add_t, op_sub_i, op_mul_i, op_mod_i, op_div_i, op_pow_i, op_lt_i, op_le_i, op_gt_i, op_ge_i, op_int_i, op_abs_i, op_len_l, op_len_t, op_len_r, op_tup_l, op_tup_t, op_lst_l, op_lst_t, op_max_i, op_eq_i, eq_go_go, eq_get_get, eq_go_get, eq_get_go, Bool.bne_false, Bool.bne_true, Bool.not_true, Bool.not_false, op_sl_l, op_sl_r, op_sl_t, op_ix_t0, op_ix_t1, op_ix_t2, op_ix_l0, List.getElem?_cons_zero, List.getElem?_cons_succ, List.set_cons_zero, List.set_cons_succ, List.map_cons, List.map_nil, List.length_cons, List.length_nil, List.cons_append, List.nil_append, if_true, if_false, Bool.false_eq_true, decide_eq_true_eq, and_true, true_and, ite_true, ite_false, reduceCtorEq, rn_methM, rn_methM0, isTM_eq, rn_mk, rn_st, mk_own, st_own, ty_own, ex_app, ex_ext, ex_extT, ex_rev, ex_pop, rn_storeM, rn_lc, rn_lc2, rn_turn, rn_turn1, rn_frz, $ls,*])
theorem steps_ok {many : List Int} {lots : List (List Int)} (f : LotsOk many lots) {n : Nat} {c : Cd} {o : List D} (h : c.Ok many n) (hn : n ≤ 4) {Q : Res → List D → Prop}
    (q : Q (.new (.lst ((sortP (stp lots n c)).map fdD))) o) : Dr d_steps_of [c.toD, lotsD lots] o Q := by
  have c6 : cntN lots n c ≤ 1296 := Nat.le_trans (cnt_le f n c h) (Nat.le_trans (Nat.pow_le_pow_right (by decide) hn) (by decide))
  unfold d_steps_of b_steps_of
  rw [dr_run]
  generalize hW : whileM _ _ whFuel = W
  simp! [List.replicate]
  refine ⟨small_le (by decide), small_le (by decide), small_le (by decide), small_le (by decide), ?_⟩
  rw [← hW]
  refine while_inv (I := fun m S => ∃ (fd : List (List Int × Int)) (rs : List Nd) (s4 s5 s6 : Slot), Way many lots n c m fd rs ∧ S = ⟨[.dat c.toD, .dat (lotsD lots), .own (.lst (fd.map fdD)), .own (.lst (rs.map ndE)), s4, s5, s6], o⟩) (n := whFuel) (m := cntN lots n c) (fuel_lt (by omega)) ⟨[], [⟨n, [], c⟩], _, _, _, way_start h, rfl⟩ ?_
  rintro m S ⟨fd, rs, s4, s5, s6, w, rfl⟩
  have hall := w.all
  have hlen : rs.length ≤ m := by rw [w.cnt]; exact cnts_len lots rs
  by_cases he : rs = []
  · subst he
    simp! [List.isEmpty_nil]
    refine sorted_fd ?_
    have := w.set
    rw [List.flatMap_nil, List.append_nil] at this
    rw [sortP_eq this]
    exact q
  · obtain ⟨rs', ⟨k, a, c'⟩, rfl⟩ := snoc_of rs he
    obtain ⟨o1, o2, o3⟩ := w.ok _ (List.mem_append_right _ (List.mem_singleton.mpr rfl))
    dsimp only at o1 o2 o3
    cases c' with
    | go s =>
      obtain ⟨w1, w2⟩ := way_go w
      simp only [List.map_append, List.map_cons, List.map_nil, ndE, Cd.toD]
      simp! [emp_snoc, ex_pop]
      refine ⟨small_le (by decide), small_lt (by simp; omega), m - 1, by omega, fd ++ [(a, s)], rs', s4, .dat (.tup [.str "go", .int s]), .dat (tI a), w2, ?_⟩
      rw [List.map_append]; rfl
    | get u ds =>
      cases k with
      | zero => exact o1.elim
      | succ k =>
        obtain ⟨l, h0, hl, hm, hk⟩ := lots_step f o1
        obtain ⟨w1, w2⟩ := way_get hl w
        simp only [List.map_append, List.map_cons, List.map_nil, ndE, Cd.toD]
        simp! [emp_snoc, ex_pop, lot_at h0 hl, it_tI]
        have ll := f.few l hm
        refine for_inv (I := fun xs S => ∃ l1 l2 s4, l = l1 ++ l2 ∧ xs = l2.map D.int ∧ S = ⟨[.dat c.toD, .dat (lotsD lots), .own (.lst (fd.map fdD)), .own (.lst ((rs' ++ kids k a ds l1).map ndE)), s4, .dat (.tup [.str "get", .int u, .tup (Cd.toDs ds)]), .dat (tI a)], o⟩) ⟨[], l, s4, rfl, rfl, by simp [kids]⟩ ?_ ?_
        · rintro d xs S ⟨l1, l2, s6, e1, e2, rfl⟩
          cases l2 with
          | nil => cases e2
          | cons x l2 =>
            rw [List.map_cons] at e2
            cases e2
            obtain ⟨j, c2, rfl, e3, h3⟩ := hk x (by rw [e1]; simp)
            have hl1 : l1.length ≤ 5 := by rw [e1] at ll; simp at ll; omega
            have hkl := kids_len k a ds l1
            simp only [List.length_append, List.length_cons, List.length_nil] at hlen
            simp! [add_tI, ix_ds e3]
            refine ⟨small_le (by decide), small_le (by omega), small_le (by decide), small_lt (by simp; omega), l1 ++ [(j : Int)], l2, .dat (.int j), by rw [e1]; simp, rfl, ?_⟩
            simp only [kids_snoc e3, List.map_append, List.map_cons, List.map_nil, ndE, List.append_assoc]
        · rintro S ⟨l1, l2, s6, e1, e2, rfl⟩
          have : l2 = [] := by
            cases l2 with
            | nil => rfl
            | cons x r => cases e2
          subst this
          rw [List.append_nil] at e1
          subst e1
          exact ⟨m - 1, w1, fd, _, _, _, _, w2, rfl⟩
theorem results_ok {many : List Int} {lots : List (List Int)} (f : LotsOk many lots) {n : Nat} {c : Cd} {o : List D} (ho : (o.all fun o => D.imms o.parts) = true) (h : c.Ok many n) (hn : n ≤ 4) {Q : Res → List D → Prop}
    (q : Q (.new (lI (resN lots n c))) o) : Dr d_results_of [c.toD, lotsD lots] o Q := by
  have hp := sortP_perm (stp lots n c)
  have hs : ∀ s, s ∈ (sortP (stp lots n c)).map (·.2) ↔ s ∈ stN lots n c := fun s => by rw [st_stp]; exact (hp.map (·.2)).mem_iff
  unfold d_results_of b_results_of
  rw [dr_run]
  simp! [List.replicate]
  refine steps_ok f h hn ?_
  rw [if_safe (show (Res.new (.lst ((sortP (stp lots n c)).map fdD))).safe = true from imms_fd _) ho]
  simp!
  refine for_of (f := fdD) (all := sortP (stp lots n c)) (a := []) (r := sortP (stp lots n c)) (I := fun a r S => ∃ ks vs s3 s4, ks.Nodup ∧ (∀ s, s ∈ ks ↔ s ∈ a.map (·.2)) ∧ S = ⟨[.dat c.toD, .dat (lotsD lots), .own (.dct false (ks.map .int) vs), s3, s4], o⟩) rfl ⟨[], [], _, _, List.nodup_nil, fun s => by simp, rfl⟩ ?_ ?_
  · rintro a p r S e ⟨ks, vs, s3, s4, nd, hk, rfl⟩
    have kl : ks.length ≤ 8 := nodup_fit nd fun x hx => st_fit f n c h x ((hs x).mp (by rw [e, List.map_append]; exact List.mem_append_left _ ((hk x).mp hx)))
    unfold fdD
    simp!
    refine ⟨rfl, ex_put (by omega) fun vs' => ⟨putI ks p.2, vs', _, _, put_nd nd _, fun s => ?_, rfl⟩⟩
    rw [put_mem, hk, List.map_append]
    simp
  · rintro S ⟨ks, vs, s3, s4, nd, hk, rfl⟩
    simp!
    have hk' : ∀ s, s ∈ ks ↔ s ∈ stN lots n c := fun s => (hk s).trans (hs s)
    have kl : ks.length ≤ 8 := nodup_fit nd fun x hx => st_fit f n c h x ((hk' x).mp hx)
    refine sorted_dct nd (by omega) ?_
    simp!
    rw [sortS_eq hk']
    exact q
end LW
end
section
set_option maxRecDepth 100000
namespace LW
open PySem L2 LC
open DL hiding tI
local macro_rules | `(tactic| simp!) => `(tactic| simp -implicitDefEqProofs only [rn_bind, rn_pure, rn_no, rn_need, rn_opt1, rn_ite, rn_var, rn_put, rn_useD, rn_useN, rn_useO, rn_chkD, rn_chkN, rn_chkO, rn_call, rn_seq, rn_guard, rn_forIn, rn_for0, rn_setD, rn_setN, rn_setO, binM, binMO, unM, cmpT, testM, andT, orT, notT, ifM, asgM, retM, exprM, kM, consA, nilA, tupM, lstM, useAll, chkAll, slM, partM, DL.andM, DL.orM, DL.notM, negM, asgG, gN, gT, gsC, gsN, seqI, frzM, asgTM, dnewM, par2M, hold_d, hold_n, hold_o, d_d, d_n, d_o, out_d, out_n, out_o, fo_next, fo_ret, isBl_b, isInt_i, tr_i, tr_b, tr_n, tr_l, tr_t, it_l, it_r, it_t, li_l, li_r, op_add_i, op_add_l, op_add_t, op_sub_i, op_mul_i, op_mod_i, op_div_i, op_pow_i, op_lt_i, op_le_i, op_gt_i, op_ge_i, op_int_i, op_abs_i, op_len_l, op_len_t, op_len_r, op_tup_l, op_tup_t, op_lst_l, op_lst_t, op_max_i, op_eq_i, eq_go_go, eq_get_get, eq_go_get, eq_get_go, Bool.bne_false, Bool.bne_true, Bool.not_true, Bool.not_false, op_sl_l, op_sl_r, op_sl_t, op_ix_t0, op_ix_t1, op_ix_t2, op_ix_l0, List.getElem?_cons_zero, List.getElem?_cons_succ, List.set_cons_zero, List.set_cons_succ, List.map_cons, List.map_nil, List.length_cons, List.length_nil, List.cons_append, List.nil_append, if_true, if_false, Bool.false_eq_true, decide_eq_true_eq, and_true, true_and, ite_true, ite_false, reduceCtorEq, rn_methM, rn_methM0, isTM_eq, rn_mk, rn_st, mk_own, st_own, ty_own, ex_app, ex_ext, ex_extT, ex_rev, ex_pop, rn_storeM, rn_lc, rn_lc2, rn_turn, rn_turn1, rn_frz])
local macro_rules | `(tactic| simp! [$ls,*]) => `(tactic| simp -implicitDefEqProofs only [rn_bind, rn_pure, rn_no, rn_need, rn_opt1, rn_ite, rn_var, rn_put, rn_useD, rn_useN, rn_useO, rn_chkD, rn_chkN, rn_chkO, rn_call, rn_seq, rn_guard, rn_forIn, rn_for0, rn_setD, rn_setN, rn_setO, binM, binMO, unM, cmpT, testM, andT, orT, notT, ifM, asgM, retM, exprM, kM, consA, nilA, tupM, lstM, useAll, chkAll, slM, partM, DL.andM, DL.orM, DL.notM, negM, asgG, gN, gT, gsC, gsN, seqI, frzM, asgTM, dnewM, par2M, hold_d, hold_n, hold_o, d_d, d_n, d_o, out_d, out_n, out_o, fo_next, fo_ret, isBl_b, isInt_i, tr_i, tr_b, tr_n, tr_l, tr_t, it_l, it_r, it_t, li_l, li_r, op_add_i, op_add_l, op_add_t, op_sub_i, op_mul_i, op_mod_i, op_div_i, op_pow_i, op_lt_i, op_le_i, op_gt_i, op_ge_i, op_int_i, op_abs_i, op_len_l, op_len_t, op_len_r, op_tup_l, op_tup_t, op_lst_l, op_lst_t, op_max_i, op_eq_i, eq_go_go, eq_get_get, eq_go_get, eq_get_go, Bool.bne_false, Bool.bne_true, Bool.not_true, Bool.not_false, op_sl_l, op_sl_r, op_sl_t, op_ix_t0, op_ix_t1, op_ix_t2, op_ix_l0, List.getElem?_cons_zero, List.getElem?_cons_succ, List.set_cons_zero, List.set_cons_succ, List.map_cons, List.map_nil, List.length_cons, List.length_nil, List.cons_append, List.nil_append, if_true, if_false, Bool.false_eq_true, decide_eq_true_eq, and_true, true_and, ite_true, ite_false, reduceCtorEq, rn_methM, rn_methM0, isTM_eq, rn_mk, rn_st, mk_own, st_own, ty_own, ex_app, ex_ext, ex_extT, ex_rev, ex_pop, rn_storeM, rn_lc, rn_lc2, rn_turn, rn_turn1, rn_frz, $ls,*])
section
variable {ws : List Wk} {st : List Int} {box about lots : List (List Int)} {o : List D} {s0 s1 s2 s3 s4 s5 s6 s7 s8 s9 s10 s11 s12 s13 s14 s15 : Slot}
theorem sh_at {w : Wk} {many : List Int} (hw : WkOk many w) {s : Int} (h0 : 0 ≤ s) (h1 : s < (w.sh.length : Int)) {S : Sx} {Q : Res → Sx → Prop} : Rn (opIx (tI w.sh) (.int s)) S Q = Q (.dat (.int ((w.sh[s.toNat]?).getD 0))) S := by
  have hl : s.toNat < w.sh.length := by omega
  rw [ix_tI h0 (List.getElem?_eq_getElem hl), List.getElem?_eq_getElem hl]; rfl
theorem rng_map {α : Type} {f : α → D} {g : Nat → D} {n : Nat} {l : List α} (hl : l.length = n) (h : ∀ (i : Nat) (a : α), l[i]? = some a → g i = f a) : (List.range' 0 n).map g = l.map f := by
  apply List.ext_getElem
  · simp [hl]
  · intro i h1 h2
    simp only [List.getElem_map, List.getElem_range']
    simp only [List.length_map] at h2
    rw [Nat.zero_add, Nat.one_mul]
    exact h i _ (List.getElem?_eq_getElem h2)
theorem lshown_ok (hn : NetOk ws) (hb : LotsOk (nsOf ws) box) (ho : (o.all fun o => D.imms o.parts) = true) {Q : Res → List D → Prop} (q : Q (.dat (lotsD (shB ws box))) o) : Dr d__law_shown [.tup (ws.map Wk.toD), lotsD box] o Q := by
  have bl : box.length = ws.length := by have := hb.len; simpa [nsOf] using this
  have l5 := hn.l5
  have f := shB_ok hn hb
  unfold d__law_shown b__law_shown
  rw [dr_run]
  simp! [List.replicate, rng1I, List.length_map, Int.toNat_natCast]
  refine ⟨by unfold rngOk; exact decide_eq_true (by omega), ?_⟩
  rw [show rangeD 0 ws.length = (List.range' 0 ws.length).map fun i => D.int ((i : Nat) : Int) from range_map ws.length 0]
  refine cw_ofM (g := fun i => tI ((shB ws box).getD i [])) (small_le (by simp; omega)) (fun i hi => ?_) ?_
  · have hi' : i < ws.length := by simp at hi; omega
    have e1 : ws[i]? = some ws[i] := List.getElem?_eq_getElem hi'
    have hi2 : i < box.length := by omega
    have e2 : box[i]? = some box[i] := List.getElem?_eq_getElem hi2
    generalize ws[i] = w at e1
    generalize box[i] = l at e2
    have ok := hn.ok w (List.mem_of_getElem? e1)
    obtain ⟨b1, b2, b3, b4⟩ := box_at hb e1 e2
    have wd : w.toD = D.tup [.int w.m, tI w.sh, .tup (Cd.toDs w.cs)] := rfl
    simp! [wipeE, Slot.frz, List.map_cons, ix_lot e2, it_tI]
    refine cw_ofM (g := fun s => .int ((w.sh[s.toNat]?).getD 0)) (small_le (by omega)) (fun s hs => ?_) ?_
    · obtain ⟨h0, h1⟩ := b4 s hs
      simp! [wipeE, Slot.frz, List.map_cons, ix_wk e1, wd, sh_at ok h0 h1]
    · have e3 : l.map (fun s => D.int ((w.sh[s.toNat]?).getD 0)) = (l.map fun s => (w.sh[s.toNat]?).getD 0).map .int := by rw [List.map_map]; rfl
      rw [e3, if_imms (imms_ints _) ho]
      refine sortsetE_rn (b := 4) (by simp; omega) (fun k hk => ?_) (by decide) ?_
      · have := shW_fit ok b4 k ((sortS_mem k _).mpr hk)
        have := ok.m4
        omega
      · unfold lI
        simp!
        rw [show (shB ws box).getD i [] = shW w l by rw [List.getD_eq_getElem?_getD, show (shB ws box)[i]? = some (shW w l) from zw_at e1 e2]; rfl]
        rfl
  · rw [rng_map (f := tI) (l := shB ws box) (by have := f.len; simpa [msOf] using this) (fun i a h => by rw [List.getD_eq_getElem?_getD, h]; rfl), if_imms (imms_tI _) ho]
    exact q
end
end LW
end
section
set_option maxRecDepth 100000
namespace LW
open PySem L2 LC
open DL hiding tI
local macro_rules | `(tactic| simp!) => `(tactic| simp -implicitDefEqProofs only [rn_bind, rn_pure, rn_no, rn_need, rn_opt1, rn_ite, rn_var, rn_put, rn_useD, rn_useN, rn_useO, rn_chkD, rn_chkN, rn_chkO, rn_call, rn_seq, rn_guard, rn_forIn, rn_for0, rn_setD, rn_setN, rn_setO, binM, binMO, unM, cmpT, testM, andT, orT, notT, ifM, asgM, retM, exprM, kM, consA, nilA, tupM, lstM, useAll, chkAll, slM, partM, DL.andM, DL.orM, DL.notM, negM, asgG, gN, gT, gsC, gsN, seqI, frzM, asgTM, dnewM, par2M, hold_d, hold_n, hold_o, d_d, d_n, d_o, out_d, out_n, out_o, fo_next, fo_ret, isBl_b, isInt_i, tr_i, tr_b, tr_n, tr_l, tr_t, it_l, it_r, it_t, li_l, li_r, op_add_i, op_add_l, op_add_t, op_sub_i, op_mul_i, op_mod_i, op_div_i, op_pow_i, op_lt_i, op_le_i, op_gt_i, op_ge_i, op_int_i, op_abs_i, op_len_l, op_len_t, op_len_r, op_tup_l, op_tup_t, op_lst_l, op_lst_t, op_max_i, op_eq_i, eq_go_go, eq_get_get, eq_go_get, eq_get_go, Bool.bne_false, Bool.bne_true, Bool.not_true, Bool.not_false, op_sl_l, op_sl_r, op_sl_t, op_ix_t0, op_ix_t1, op_ix_t2, op_ix_l0, List.getElem?_cons_zero, List.getElem?_cons_succ, List.set_cons_zero, List.set_cons_succ, List.map_cons, List.map_nil, List.length_cons, List.length_nil, List.cons_append, List.nil_append, if_true, if_false, Bool.false_eq_true, decide_eq_true_eq, and_true, true_and, ite_true, ite_false, reduceCtorEq, rn_methM, rn_methM0, isTM_eq, rn_mk, rn_st, mk_own, st_own, ty_own, ex_app, ex_ext, ex_extT, ex_rev, ex_pop, rn_storeM, rn_lc, rn_lc2, rn_turn, rn_turn1, rn_frz])
local macro_rules | `(tactic| simp! [$ls,*]) => `(tactic| simp -implicitDefEqProofs only [rn_bind, rn_pure, rn_no, rn_need, rn_opt1, rn_ite, rn_var, rn_put, rn_useD, rn_useN, rn_useO, rn_chkD, rn_chkN, rn_chkO, rn_call, rn_seq, rn_guard, rn_forIn, rn_for0, rn_setD, rn_setN, rn_setO, binM, binMO, unM, cmpT, testM, andT, orT, notT, ifM, asgM, retM, exprM, kM, consA, nilA, tupM, lstM, useAll, chkAll, slM, partM, DL.andM, DL.orM, DL.notM, negM, asgG, gN, gT, gsC, gsN, seqI, frzM, asgTM, dnewM, par2M, hold_d, hold_n, hold_o, d_d, d_n, d_o, out_d, out_n, out_o, fo_next, fo_ret, isBl_b, isInt_i, tr_i, tr_b, tr_n, tr_l, tr_t, it_l, it_r, it_t, li_l, li_r, op_add_i, op_add_l, op_add_t, op_sub_i, op_mul_i, op_mod_i, op_div_i, op_pow_i, op_lt_i, op_le_i, op_gt_i, op_ge_i, op_int_i, op_abs_i, op_len_l, op_len_t, op_len_r, op_tup_l, op_tup_t, op_lst_l, op_lst_t, op_max_i, op_eq_i, eq_go_go, eq_get_get, eq_go_get, eq_get_go, Bool.bne_false, Bool.bne_true, Bool.not_true, Bool.not_false, op_sl_l, op_sl_r, op_sl_t, op_ix_t0, op_ix_t1, op_ix_t2, op_ix_l0, List.getElem?_cons_zero, List.getElem?_cons_succ, List.set_cons_zero, List.set_cons_succ, List.map_cons, List.map_nil, List.length_cons, List.length_nil, List.cons_append, List.nil_append, if_true, if_false, Bool.false_eq_true, decide_eq_true_eq, and_true, true_and, ite_true, ite_false, reduceCtorEq, rn_methM, rn_methM0, isTM_eq, rn_mk, rn_st, mk_own, st_own, ty_own, ex_app, ex_ext, ex_extT, ex_rev, ex_pop, rn_storeM, rn_lc, rn_lc2, rn_turn, rn_turn1, rn_frz, $ls,*])
section
variable {ws : List Wk} {st : List Int} {box about lots : List (List Int)} {o : List D}
theorem add_tt {a b : List Int} {Q : Res → Sx → Prop} {S : Sx} : Rn (opAdd (tI a) (tI b)) S Q = (a.length + b.length ≤ sizeLine ∧ Q (.dat (tI (a ++ b))) S) := by
  unfold tI
  rw [op_add_t]
  simp
theorem shown_ok (hn : NetOk ws) (hb : LotsOk (nsOf ws) box) {Q : Res → List D → Prop} (q : Q (.dat (lotsD (shB ws box))) o) : Dr d_shown_lots [netD ws st, lotsD box] o Q := by
  have bl : box.length = ws.length := by have := hb.len; simpa [nsOf] using this
  have l5 := hn.l5
  unfold d_shown_lots b_shown_lots netD lotsD
  rw [dr_run]
  simp! [List.replicate, rn_zipI, zipK_tt, zipD_map]
  refine ⟨small_le (by decide), ?_⟩
  refine for_of (f := fun p : Wk × List Int => D.tup [p.1.toD, tI p.2]) (all := ws.zip box) (a := []) (r := ws.zip box) (I := fun a r S => ∃ s3 s4 s5 s6, S = ⟨[.dat (.tup [.tup (ws.map Wk.toD), tI st]), .dat (.tup (box.map tI)), .own (.lst ((a.map fun p => shW p.1 p.2).map tI)), s3, s4, s5, s6], o⟩) rfl ⟨_, _, _, _, rfl⟩ ?_ ?_
  · rintro a ⟨w, l⟩ r S e ⟨s3, s4, s5, s6, rfl⟩
    have hz : (ws.zip box)[a.length]? = some (w, l) := by rw [e]; simp
    obtain ⟨e1, e2⟩ : ws[a.length]? = some w ∧ box[a.length]? = some l := by
      rw [List.getElem?_zip_eq_some] at hz; exact hz
    have ok := hn.ok w (List.mem_of_getElem? e1)
    obtain ⟨b1, b2, b3, b4⟩ := box_at hb e1 e2
    have al : a.length < ws.length := (List.getElem?_eq_some_iff.mp e1).1
    have wd : w.toD = D.tup [.int w.m, tI w.sh, .tup (Cd.toDs w.cs)] := rfl
    simp! [wd]
    refine for_put (all := l) (St := fun ks vs s => ⟨[.dat (.tup [.tup (ws.map Wk.toD), tI st]), .dat (.tup (box.map tI)), .own (.lst ((a.map fun p => shW p.1 p.2).map tI)), .dat (.tup [.int w.m, tI w.sh, .tup (Cd.toDs w.cs)]), .dat (tI l), .own (.dct false (ks.map .int) vs), s], o⟩) (ks0 := []) (vs0 := []) (s0 := s6) (fun s => (w.sh[s.toNat]?).getD 0) (bd := 4) (by decide) List.nodup_nil (by simp) ?_ ?_ ?_
    · intro s hs
      have := shW_fit ok b4 ((w.sh[s.toNat]?).getD 0) ((sortS_mem _ _).mpr (List.mem_map.mpr ⟨s, hs, rfl⟩))
      have := ok.m4
      omega
    · intro s ks vs s' hs nd kl P hP
      obtain ⟨h0, h1⟩ := b4 s hs
      simp! [sh_at ok h0 h1]
      exact ⟨rfl, ex_put (by omega) fun vs' => hP _ _⟩
    · intro ks vs s nd kl hk
      simp!
      refine sorted_dct nd kl ?_
      unfold lI
      simp!
      have : sortS ks = shW w l := sortS_eq fun k => by rw [hk]; simp
      have ea : (a.map fun p => shW p.1 p.2).map tI ++ [D.tup ((sortS ks).map .int)] = ((a ++ [(w, l)]).map fun p => shW p.1 p.2).map tI := by rw [this, List.map_append, List.map_append]; rfl
      rw [ea]
      exact ⟨small_lt (by simp; omega), _, _, _, _, rfl⟩
  · rintro S ⟨s3, s4, s5, s6, rfl⟩
    rw [zip_zipWith]
    simp!
    exact q
theorem joined_ok {many : List Int} (hm : ManyOk many) (ha : LotsOk many lots) (hb : AbOk many about) {Q : Res → List D → Prop} (q : Q (.dat (lotsD (jnB lots about))) o) : Dr d_joined_lots [lotsD lots, lotsD about] o Q := by
  have l1 := ha.len
  have l5 := hm.len
  unfold d_joined_lots b_joined_lots lotsD
  rw [dr_run]
  simp! [List.replicate, rn_zipI, zipK_tt, zipD_map]
  refine ⟨small_le (by decide), ?_⟩
  refine for_of (f := fun p : List Int × List Int => D.tup [tI p.1, tI p.2]) (all := lots.zip about) (a := []) (r := lots.zip about) (I := fun a r S => ∃ s3 s4 s5 s6, S = ⟨[.dat (.tup (lots.map tI)), .dat (.tup (about.map tI)), .own (.lst ((a.map fun p => sortS (p.1 ++ p.2)).map tI)), s3, s4, s5, s6], o⟩) rfl ⟨_, _, _, _, rfl⟩ ?_ ?_
  · rintro a ⟨x, y⟩ r S e ⟨s3, s4, s5, s6, rfl⟩
    have hz : (lots.zip about)[a.length]? = some (x, y) := by rw [e]; simp
    obtain ⟨e1, e2⟩ : lots[a.length]? = some x ∧ about[a.length]? = some y := by
      rw [List.getElem?_zip_eq_some] at hz; exact hz
    have al : a.length < many.length := by rw [← l1]; exact (List.getElem?_eq_some_iff.mp e1).1
    have m4 := hm.fit _ (List.getElem_mem al)
    have f1 := ha.few x (List.mem_of_getElem? e1)
    have f2 := hb.few y (List.mem_of_getElem? e2)
    simp! [add_tt, it_tI]
    refine ⟨small_le (by omega), ?_⟩
    refine for_put (all := x ++ y) (St := fun ks vs s => ⟨[.dat (.tup (lots.map tI)), .dat (.tup (about.map tI)), .own (.lst ((a.map fun p => sortS (p.1 ++ p.2)).map tI)), .dat (tI x), .dat (tI y), .own (.dct false (ks.map .int) vs), s], o⟩) (ks0 := []) (vs0 := []) (s0 := s6) id (bd := 4) (by decide) List.nodup_nil (by simp) ?_ ?_ ?_
    · intro k hk
      rcases List.mem_append.mp hk with h | h
      · have := ha.fit _ _ _ e1 (List.getElem?_eq_getElem al) k h
        simp only [id]; omega
      · have := hb.fit _ _ _ e2 (List.getElem?_eq_getElem al) k h
        simp only [id]; omega
    · intro s ks vs s' hs nd kl P hP
      simp!
      exact ⟨rfl, ex_put (by omega) fun vs' => hP _ _⟩
    · intro ks vs s nd kl hk
      simp!
      refine sorted_dct nd kl ?_
      unfold lI
      simp!
      have : sortS ks = sortS (x ++ y) := sortS_eq fun k => by rw [hk]; simp
      have ea : (a.map fun p => sortS (p.1 ++ p.2)).map tI ++ [D.tup ((sortS ks).map .int)] = ((a ++ [(x, y)]).map fun p => sortS (p.1 ++ p.2)).map tI := by rw [this, List.map_append, List.map_append]; rfl
      rw [ea]
      exact ⟨small_lt (by simp; omega), _, _, _, _, rfl⟩
  · rintro S ⟨s3, s4, s5, s6, rfl⟩
    rw [zip_zipWith (f := fun a b => sortS (a ++ b))]
    simp!
    exact q
theorem eq_tn {a b : Int} {Q : Res → Sx → Prop} {S : Sx} : Rn (opEq true (.tup [.int a, .int b]) .non) S Q = Q (.dat (.bl true)) S := by
  unfold opEq
  rw [show D.eqv (.tup [.int a, .int b]) .non = some false by simp [D.eqv, D.py, D.pys, SeqAt.shaped, PyData.canLay0, PyData.canLayAll0, PyData.depth, PyData.depthAll, PyData.eqv]]
  rfl
theorem eq_lots {a b : List (List Int)} {neg : Bool} {Q : Res → Sx → Prop} {S : Sx} : Rn (opEq neg (lotsD a) (lotsD b)) S Q = Q (.dat (.bl (decide (a = b) != neg))) S := eq_tT
theorem safe_lots {α β : Prop} {l : List (List Int)} (ho : (o.all fun o => D.imms o.parts) = true) : (if ((Res.dat (lotsD l)).safe && o.all fun o => D.imms o.parts) = true then α else β) = α := if_safe (lots_imm l) ho
end
end LW
end
section
set_option maxRecDepth 100000
namespace LW
open PySem L2 LC
open DL hiding tI
local macro_rules | `(tactic| simp!) => `(tactic| simp -implicitDefEqProofs only [rn_bind, rn_pure, rn_no, rn_need, rn_opt1, rn_ite, rn_var, rn_put, rn_useD, rn_useN, rn_useO, rn_chkD, rn_chkN, rn_chkO, rn_call, rn_seq, rn_guard, rn_forIn, rn_for0, rn_setD, rn_setN, rn_setO, binM, binMO, unM, cmpT, testM, andT, orT, notT, ifM, asgM, retM, exprM, kM, consA, nilA, tupM, lstM, useAll, chkAll, slM, partM, DL.andM, DL.orM, DL.notM, negM, asgG, gN, gT, gsC, gsN, seqI, frzM, asgTM, dnewM, par2M, hold_d, hold_n, hold_o, d_d, d_n, d_o, out_d, out_n, out_o, fo_next, fo_ret, isBl_b, isInt_i, tr_i, tr_b, tr_n, tr_l, tr_t, it_l, it_r, it_t, li_l, li_r, op_add_i, op_add_l, op_add_t, op_sub_i, op_mul_i, op_mod_i, op_div_i, op_pow_i, op_lt_i, op_le_i, op_gt_i, op_ge_i, op_int_i, op_abs_i, op_len_l, op_len_t, op_len_r, op_tup_l, op_tup_t, op_lst_l, op_lst_t, op_max_i, op_eq_i, eq_go_go, eq_get_get, eq_go_get, eq_get_go, Bool.bne_false, Bool.bne_true, Bool.not_true, Bool.not_false, op_sl_l, op_sl_r, op_sl_t, op_ix_t0, op_ix_t1, op_ix_t2, op_ix_l0, List.getElem?_cons_zero, List.getElem?_cons_succ, List.set_cons_zero, List.set_cons_succ, List.map_cons, List.map_nil, List.length_cons, List.length_nil, List.cons_append, List.nil_append, if_true, if_false, Bool.false_eq_true, decide_eq_true_eq, and_true, true_and, ite_true, ite_false, reduceCtorEq, rn_methM, rn_methM0, isTM_eq, rn_mk, rn_st, mk_own, st_own, ty_own, ex_app, ex_ext, ex_extT, ex_rev, ex_pop, rn_storeM, rn_lc, rn_lc2, rn_turn, rn_turn1, rn_frz])
local macro_rules | `(tactic| simp! [$ls,*]) => `(tactic| simp -implicitDefEqProofs only [rn_bind, rn_pure, rn_no, rn_need, rn_opt1, rn_ite, rn_var, rn_put, rn_useD, rn_useN, rn_useO, rn_chkD, rn_chkN, rn_chkO, rn_call, rn_seq, rn_guard, rn_forIn, rn_for0, rn_setD, rn_setN, rn_setO, binM, binMO, unM, cmpT, testM, andT, orT, notT, ifM, asgM, retM, exprM, kM, consA, nilA, tupM, lstM, useAll, chkAll, slM, partM, DL.andM, DL.orM, DL.notM, negM, asgG, gN, gT, gsC, gsN, seqI, frzM, asgTM, dnewM, par2M, hold_d, hold_n, hold_o, d_d, d_n, d_o, out_d, out_n, out_o, fo_next, fo_ret, isBl_b, isInt_i, tr_i, tr_b, tr_n, tr_l, tr_t, it_l, it_r, it_t, li_l, li_r, op_add_i, op_add_l, op_add_t, op_sub_i, op_mul_i, op_mod_i, op_div_i, op_pow_i, op_lt_i, op_le_i, op_gt_i, op_ge_i, op_int_i, op_abs_i, op_len_l, op_len_t, op_len_r, op_tup_l, op_tup_t, op_lst_l, op_lst_t, op_max_i, op_eq_i, eq_go_go, eq_get_get, eq_go_get, eq_get_go, Bool.bne_false, Bool.bne_true, Bool.not_true, Bool.not_false, op_sl_l, op_sl_r, op_sl_t, op_ix_t0, op_ix_t1, op_ix_t2, op_ix_l0, List.getElem?_cons_zero, List.getElem?_cons_succ, List.set_cons_zero, List.set_cons_succ, List.map_cons, List.map_nil, List.length_cons, List.length_nil, List.cons_append, List.nil_append, if_true, if_false, Bool.false_eq_true, decide_eq_true_eq, and_true, true_and, ite_true, ite_false, reduceCtorEq, rn_methM, rn_methM0, isTM_eq, rn_mk, rn_st, mk_own, st_own, ty_own, ex_app, ex_ext, ex_extT, ex_rev, ex_pop, rn_storeM, rn_lc, rn_lc2, rn_turn, rn_turn1, rn_frz, $ls,*])
section
variable {o : List D} {ws : List Wk} {st : List Int}
theorem isi_i {k : Int} {S : Sx} {Q : Res → Sx → Prop} : Rn (opIsi "int" (.int k)) S Q = Q (.dat (.bl true)) S := rfl
theorem isi_b {k : Int} {S : Sx} {Q : Res → Sx → Prop} : Rn (opIsi "bool" (.int k)) S Q = Q (.dat (.bl false)) S := rfl
theorem integer_ok {k : Int} {Q : Res → List D → Prop} (q : Q (.dat (.bl true)) o) : Dr d_is_integer [.int k] o Q := by
  unfold d_is_integer b_is_integer
  rw [dr_run]
  simp! [List.replicate, isi_i, isi_b]
  exact q
theorem index_ok {k n : Nat} (h : k < n) (ho : (o.all fun o => D.imms o.parts) = true) {Q : Res → List D → Prop} (q : Q (.dat (.bl true)) o) : Dr d_is_index [.int (k : Nat), .int (n : Nat)] o Q := by
  unfold d_is_index b_is_index
  rw [dr_run]
  simp! [List.replicate]
  refine integer_ok ?_
  rw [if_safe rfl ho]
  simp! [chM, chT]
  unfold chK
  rw [if_pos (decide_eq_true (by omega))]
  simp!
  rw [decide_eq_true (show (k : Int) < (n : Int) by omega)]
  exact q
theorem looked_ok {i : Nat} {w : Wk} (h : ws[i]? = some w) (ho : (o.all fun o => D.imms o.parts) = true) {Q : Res → List D → Prop} (q : Q (.dat w.toD) o) : Dr d_looked_at [netD ws st, .int (i : Nat)] o Q := by
  have hl := (List.getElem?_eq_some_iff.mp h).1
  have n0 : ∀ {S : Sx} {Q : Res → Sx → Prop}, Rn (opIx (netD ws st) (.int 0)) S Q = Q (.dat (.tup (ws.map Wk.toD))) S := fun {S Q} => op_ix_t0
  unfold d_looked_at b_looked_at
  rw [dr_run]
  simp! [List.replicate, n0, List.length_map]
  refine index_ok hl ho ?_
  rw [if_safe rfl ho]
  simp! [n0, ix_wk h]
  exact q
theorem code_ok {i s : Nat} {w : Wk} {c : Cd} (h : ws[i]? = some w) (hc : w.cs[s]? = some c) (ho : (o.all fun o => D.imms o.parts) = true) {Q : Res → List D → Prop} (q : Q (.dat c.toD) o) : Dr d_code_at [netD ws st, .int (i : Nat), .int (s : Nat)] o Q := by
  have hl := (List.getElem?_eq_some_iff.mp hc).1
  have w2 : ∀ {S : Sx} {Q : Res → Sx → Prop}, Rn (opIx w.toD (.int 2)) S Q = Q (.dat (.tup (Cd.toDs w.cs))) S := fun {S Q} => op_ix_t2
  unfold d_code_at b_code_at
  rw [dr_run]
  simp! [List.replicate]
  refine looked_ok h ho ?_
  rw [if_safe (show (Res.dat w.toD).safe = true by simp [Res.safe, Wk.toD, D.imm, D.imms, tI, imms_ints, Cd.imms]) ho]
  simp! [w2, toDs_len]
  refine index_ok hl ho ?_
  rw [if_safe rfl ho]
  simp! [ix_ds hc]
  exact q
end
end LW
end
section
set_option maxRecDepth 100000
namespace LW
open PySem L2 LC
open DL hiding tI
local macro_rules | `(tactic| simp!) => `(tactic| simp -implicitDefEqProofs only [rn_bind, rn_pure, rn_no, rn_need, rn_opt1, rn_ite, rn_var, rn_put, rn_useD, rn_useN, rn_useO, rn_chkD, rn_chkN, rn_chkO, rn_call, rn_seq, rn_guard, rn_forIn, rn_for0, rn_setD, rn_setN, rn_setO, binM, binMO, unM, cmpT, testM, andT, orT, notT, ifM, asgM, retM, exprM, kM, consA, nilA, tupM, lstM, useAll, chkAll, slM, partM, DL.andM, DL.orM, DL.notM, negM, asgG, gN, gT, gsC, gsN, seqI, frzM, asgTM, dnewM, par2M, hold_d, hold_n, hold_o, d_d, d_n, d_o, out_d, out_n, out_o, fo_next, fo_ret, isBl_b, isInt_i, tr_i, tr_b, tr_n, tr_l, tr_t, it_l, it_r, it_t, li_l, li_r, op_add_i, op_add_l, op_add_t, op_sub_i, op_mul_i, op_mod_i, op_div_i, op_pow_i, op_lt_i, op_le_i, op_gt_i, op_ge_i, op_int_i, op_abs_i, op_len_l, op_len_t, op_len_r, op_tup_l, op_tup_t, op_lst_l, op_lst_t, op_max_i, op_eq_i, eq_go_go, eq_get_get, eq_go_get, eq_get_go, Bool.bne_false, Bool.bne_true, Bool.not_true, Bool.not_false, op_sl_l, op_sl_r, op_sl_t, op_ix_t0, op_ix_t1, op_ix_t2, op_ix_l0, List.getElem?_cons_zero, List.getElem?_cons_succ, List.set_cons_zero, List.set_cons_succ, List.map_cons, List.map_nil, List.length_cons, List.length_nil, List.cons_append, List.nil_append, if_true, if_false, Bool.false_eq_true, decide_eq_true_eq, and_true, true_and, ite_true, ite_false, reduceCtorEq, rn_methM, rn_methM0, isTM_eq, rn_mk, rn_st, mk_own, st_own, ty_own, ex_app, ex_ext, ex_extT, ex_rev, ex_pop, rn_storeM, rn_lc, rn_lc2, rn_turn, rn_turn1, rn_frz])
local macro_rules | `(tactic| simp! [$ls,*]) => `(tactic| simp -implicitDefEqProofs only [rn_bind, rn_pure, rn_no, rn_need, rn_opt1, rn_ite, rn_var, rn_put, rn_useD, rn_useN, rn_useO, rn_chkD, rn_chkN, rn_chkO, rn_call, rn_seq, rn_guard, rn_forIn, rn_for0, rn_setD, rn_setN, rn_setO, binM, binMO, unM, cmpT, testM, andT, orT, notT, ifM, asgM, retM, exprM, kM, consA, nilA, tupM, lstM, useAll, chkAll, slM, partM, DL.andM, DL.orM, DL.notM, negM, asgG, gN, gT, gsC, gsN, seqI, frzM, asgTM, dnewM, par2M, hold_d, hold_n, hold_o, d_d, d_n, d_o, out_d, out_n, out_o, fo_next, fo_ret, isBl_b, isInt_i, tr_i, tr_b, tr_n, tr_l, tr_t, it_l, it_r, it_t, li_l, li_r, op_add_i, op_add_l, op_add_t, op_sub_i, op_mul_i, op_mod_i, op_div_i, op_pow_i, op_lt_i, op_le_i, op_gt_i, op_ge_i, op_int_i, op_abs_i, op_len_l, op_len_t, op_len_r, op_tup_l, op_tup_t, op_lst_l, op_lst_t, op_max_i, op_eq_i, eq_go_go, eq_get_get, eq_go_get, eq_get_go, Bool.bne_false, Bool.bne_true, Bool.not_true, Bool.not_false, op_sl_l, op_sl_r, op_sl_t, op_ix_t0, op_ix_t1, op_ix_t2, op_ix_l0, List.getElem?_cons_zero, List.getElem?_cons_succ, List.set_cons_zero, List.set_cons_succ, List.map_cons, List.map_nil, List.length_cons, List.length_nil, List.cons_append, List.nil_append, if_true, if_false, Bool.false_eq_true, decide_eq_true_eq, and_true, true_and, ite_true, ite_false, reduceCtorEq, rn_methM, rn_methM0, isTM_eq, rn_mk, rn_st, mk_own, st_own, ty_own, ex_app, ex_ext, ex_extT, ex_rev, ex_pop, rn_storeM, rn_lc, rn_lc2, rn_turn, rn_turn1, rn_frz, $ls,*])
section
variable {ws : List Wk} {st : List Nat} {box about lots : List (List Int)} {o : List D}
def mvL (st : List Nat) (n : Nat) : List Nat := (List.range n).filter fun i => decide (i ∉ st)
theorem mvL_mem {n i : Nat} : i ∈ mvL st n ↔ i < n ∧ i ∉ st := by simp [mvL]
theorem stepped_okS (hn : NetOk ws) (f : LotsOk (msOf ws) lots) (hb : LotsOk (nsOf ws) box) (ho : (o.all fun o => D.imms o.parts) = true) {Q : Res → List D → Prop} (q : Q (.dat (lotsD (stB (stay st ws) box lots))) o) : Dr d_stepped [netD ws (uI st), lotsD box, lotsD lots, .lst ((mvL st ws.length).map fun i => D.int (i : Nat)), .non] o Q := by
  have bl : box.length = ws.length := by have := hb.len; simpa [nsOf] using this
  have l5 := hn.l5
  have sl := stB_len (lots := lots) hb
  unfold d_stepped b_stepped netD
  rw [dr_run]
  simp! [List.replicate]
  refine for_of (f := fun i : Nat => D.int (i : Nat)) (all := mvL st ws.length) (a := []) (r := mvL st ws.length) (I := fun a r S => ∃ F s6 s7 s8 s9 s10 s11 s12, (∀ j, F[j]? = if j ∈ a then (stB ws box lots)[j]? else box[j]?) ∧ S = ⟨[.dat (.tup [.tup (ws.map Wk.toD), tI (uI st)]), .dat (lotsD box), .dat (lotsD lots), .dat (.lst ((mvL st ws.length).map fun i => D.int (i : Nat))), .dat .non, .own (.lst (F.map tI)), s6, s7, s8, s9, s10, s11, s12], o⟩) rfl ⟨box, _, _, _, _, _, _, _, by simp, rfl⟩ ?_ ?_
  · rintro a0 i r0 S eA ⟨F, s6, s7, s8, s9, s10, s11, s12, hF, rfl⟩
    have hi : i < ws.length := (mvL_mem.mp (by rw [eA]; simp)).1
    have lF : F.length = ws.length := by
      have h1 : ∀ j, F[j]? = none ↔ box[j]? = none := fun j => by
        rw [hF]
        split
        · rw [List.getElem?_eq_none_iff, List.getElem?_eq_none_iff, ← sl]
        · exact Iff.rfl
      have h2 := (h1 box.length).mpr (by simp)
      have h3 : F.length ≤ box.length := List.getElem?_eq_none_iff.mp h2
      have h4 := (h1 F.length).mp (by simp)
      have h5 : box.length ≤ F.length := List.getElem?_eq_none_iff.mp h4
      omega
    have e1 : ws[i]? = some ws[i] := List.getElem?_eq_getElem hi
    have hi2 : i < box.length := by omega
    have e2 : box[i]? = some box[i] := List.getElem?_eq_getElem hi2
    generalize ws[i] = w at e1
    generalize box[i] = l at e2
    have ok := hn.ok w (List.mem_of_getElem? e1)
    obtain ⟨b1, b2, b3, b4⟩ := box_at hb e1 e2
    have wd : w.toD = D.tup [.int w.m, tI w.sh, .tup (Cd.toDs w.cs)] := rfl
    simp! [ix_wk e1, wd, ix_lot e2, it_tI]
    have sS : ∀ s ∈ l, ∃ c, w.cs[s.toNat]? = some c ∧ c.Ok (msOf ws) 3 ∧ c.To w.sh.length ∧ 0 ≤ s := fun s hs => by
      obtain ⟨h0, h1⟩ := b4 s hs
      have hl : s.toNat < w.cs.length := by rw [ok.cl]; omega
      exact ⟨_, List.getElem?_eq_getElem hl, (ok.cs _ (List.getElem_mem hl)).1, (ok.cs _ (List.getElem_mem hl)).2, h0⟩
    have s5 := ok.s5
    refine for_of (f := D.int) (all := l) (a := []) (r := l) (I := fun a r S => ∃ ks vs s8 s12, ks.Nodup ∧ (∀ k, k ∈ ks ↔ k ∈ a ∨ ∃ s ∈ a, k ∈ ((w.cs[s.toNat]?).map (stN lots 3)).getD []) ∧ S = ⟨[.dat (.tup [.tup (ws.map Wk.toD), tI (uI st)]), .dat (lotsD box), .dat (lotsD lots), .dat (.lst ((mvL st ws.length).map fun i => D.int (i : Nat))), .dat .non, .own (.lst (F.map tI)), .dat (.int i), .own (.dct false (ks.map .int) vs), s8, .dat (.int w.m), .dat (tI w.sh), .dat (.tup (Cd.toDs w.cs)), s12], o⟩) rfl ⟨[], [], _, _, List.nodup_nil, by simp, rfl⟩ ?_ ?_
    · rintro a x r S e ⟨ks, vs, s8, s12, nd, hk, rfl⟩
      have hx : x ∈ l := by rw [e]; simp
      have fitK : ∀ k ∈ ks, 0 ≤ k ∧ k < ((5 : Nat) : Int) := fun k h => by
        have : k ∈ stW lots w l := stW_mem.mpr (by
          rcases (hk k).mp h with h | ⟨s, hs, h⟩
          · exact .inl (by rw [e]; exact List.mem_append_left _ h)
          · exact .inr ⟨s, by rw [e]; exact List.mem_append_left _ hs, h⟩)
        have := stW_fit ok f b4 k this
        omega
      have kl := nodup_fit nd fitK
      obtain ⟨c, ec, c1, c2, x0⟩ := sS x hx
      obtain ⟨_, x1⟩ := b4 x hx
      obtain ⟨xn, rfl⟩ := toNat_int x0
      rw [Int.toNat_natCast] at ec
      simp!
      refine ⟨rfl, ex_put (by omega) fun vs' => ?_⟩
      simp! [ix_ds ec]
      refine results_ok f ho c1 (by decide) ?_
      rw [if_safe (imms_lI _) ho]
      unfold lI
      simp!
      have rfit : ∀ k ∈ resN lots 3 c, 0 ≤ k ∧ k < (w.sh.length : Int) := fun k h => ⟨(res_fit f c1 k h).1, st_to f 3 c c1 c2 k ((sortS_mem k _).mp h)⟩
      refine for_put (all := resN lots 3 c) (St := fun ks vs s => ⟨[.dat (.tup [.tup (ws.map Wk.toD), tI (uI st)]), .dat (lotsD box), .dat (lotsD lots), .dat (.lst ((mvL st ws.length).map fun i => D.int (i : Nat))), .dat .non, .own (.lst (F.map tI)), .dat (.int i), .own (.dct false (ks.map .int) vs), .dat (.int xn), .dat (.int w.m), .dat (tI w.sh), .dat (.tup (Cd.toDs w.cs)), s], o⟩) (ks0 := putI ks xn) (vs0 := vs') (s0 := s12) id (bd := 5) (by decide) (put_nd nd _) ?_ ?_ ?_ ?_
      · intro k h
        rcases (put_mem ks xn k).mp h with h | rfl
        · exact fitK k h
        · omega
      · intro k h
        have := rfit k h
        simp only [id]; omega
      · intro y ks' vs2 s' hy nd' kl' P hP
        obtain ⟨y0, y1⟩ := rfit y hy
        simp! [sh_at ok y0 y1, eq_tn]
        exact ⟨small_le (by decide), rfl, ex_put (by omega) fun vs' => hP _ _⟩
      · intro ks' vs2 s' nd' kl' hk'
        refine ⟨ks', vs2, _, _, nd', fun k => ?_, rfl⟩
        rw [hk', put_mem, hk]
        simp only [List.mem_append, List.mem_singleton, List.map_id]
        have hc : ((w.cs[(xn : Int).toNat]?).map (stN lots 3)).getD [] = stN lots 3 c := by rw [Int.toNat_natCast, ec]; rfl
        rw [show (k ∈ resN lots 3 c) = (k ∈ stN lots 3 c) from propext (sortS_mem k _)]
        constructor
        · rintro (((h | ⟨s, hs, h⟩) | rfl) | h)
          · exact .inl (.inl h)
          · exact .inr ⟨s, .inl hs, h⟩
          · exact .inl (.inr rfl)
          · exact .inr ⟨xn, .inr rfl, by rw [hc]; exact h⟩
        · rintro ((h | rfl) | ⟨s, hs | rfl, h⟩)
          · exact .inl (.inl (.inl h))
          · exact .inl (.inr rfl)
          · exact .inl (.inl (.inr ⟨s, hs, h⟩))
          · exact .inr (by rw [hc] at h; exact h)
    · rintro S ⟨ks, vs, s8, s12, nd, hk, rfl⟩
      have ee : sortS ks = stW lots w l := sortS_eq fun k => by rw [hk, List.mem_append, List.mem_flatMap]
      have fitK : ∀ k ∈ ks, 0 ≤ k ∧ k < ((5 : Nat) : Int) := fun k h => by
        have := stW_fit ok f b4 k (by rw [← ee]; exact (sortS_mem k ks).mpr h)
        omega
      have kl := nodup_fit nd fitK
      simp!
      refine sorted_dct nd (by omega) ?_
      unfold lI
      simp!
      refine ⟨rfl, ex_set (by simp; omega) ?_⟩
      have ea : (F.map tI).set i (.tup ((sortS ks).map .int)) = (F.set i (stW lots w l)).map tI := by rw [ee, List.map_set]; rfl
      rw [ea]
      refine ⟨F.set i (stW lots w l), _, _, _, _, _, _, _, fun j => ?_, rfl⟩
      rw [List.getElem?_set, hF]
      by_cases ej : i = j
      · subst ej
        rw [if_pos rfl, if_pos (by omega), if_pos (by simp)]
        exact (show (stB ws box lots)[i]? = some (stW lots w l) from zw_at e1 e2).symm
      · rw [if_neg ej]
        have : (j ∈ a0 ++ [i]) ↔ j ∈ a0 := by simp; exact fun h => absurd h.symm ej
        by_cases m : j ∈ a0
        · rw [if_pos m, if_pos (this.mpr m)]
        · rw [if_neg m, if_neg (fun h => m (this.mp h))]
  · rintro S ⟨F, s6, s7, s8, s9, s10, s11, s12, hF, rfl⟩
    have eF : F = stB (stay st ws) box lots := by
      refine List.ext_getElem? fun j => ?_
      rw [hF, stay_st hn hb]
      by_cases m : j ∈ st
      · rw [if_pos m, if_neg (fun h => (mvL_mem.mp h).2 m)]
      · rw [if_neg m]
        by_cases lt : j < ws.length
        · rw [if_pos (mvL_mem.mpr ⟨lt, m⟩)]
        · rw [if_neg (fun h => lt (mvL_mem.mp h).1), List.getElem?_eq_none (by omega), List.getElem?_eq_none (by omega)]
    rw [eF]
    simp!
    exact q
theorem grown_okS (hn : NetOk ws) (ha : AbOk (msOf ws) about) (hb : LotsOk (nsOf ws) box) (ho : (o.all fun o => D.imms o.parts) = true) {Q : Res → List D → Prop} (q : Q (.dat (lotsD (grB (stay st ws) about box))) o) : Dr d_grown [netD ws (uI st), lotsD box, lotsD about, .lst ((mvL st ws.length).map fun i => D.int (i : Nat)), .non] o Q := by
  have hnS := stay_ok (st := st) hn
  have haS : AbOk (msOf (stay st ws)) about := by rw [stay_ms]; exact ha
  have c25 := capW_le hnS
  unfold d_grown b_grown
  rw [dr_run]
  generalize hW : whileM _ _ whFuel = W
  simp! [List.replicate]
  rw [← hW]
  refine while_inv (I := fun m S => ∃ b s6, LotsOk (nsOf ws) b ∧ grB (stay st ws) about b = grB (stay st ws) about box ∧ m = capW (stay st ws) - szB b ∧ S = ⟨[.dat (netD ws (uI st)), .dat (lotsD box), .dat (lotsD about), .dat (.lst ((mvL st ws.length).map fun i => D.int (i : Nat))), .dat .non, .dat (lotsD b), s6], o⟩) (n := whFuel) (m := capW (stay st ws) - szB box) (fuel_lt (by omega)) ⟨box, _, hb, rfl, rfl, rfl⟩ ?_
  rintro m S ⟨b, s6, hb', hg, rfl, rfl⟩
  simp!
  refine shown_ok hn hb' ?_
  rw [safe_lots ho]
  simp!
  refine joined_ok hn.many (shB_ok hn hb') ha ?_
  rw [safe_lots ho]
  simp!
  refine stepped_okS hn (jnB_ok hn.many (shB_ok hn hb') ha) hb' ho ?_
  rw [safe_lots ho]
  simp! [eq_lots]
  have nx : nxB (stay st ws) about b = stB (stay st ws) b (jnB (shB ws b) about) := by unfold nxB; rw [stay_sh]
  have hbS : LotsOk (nsOf (stay st ws)) b := by rw [stay_ns]; exact hb'
  rw [← nx]
  by_cases e : nxB (stay st ws) about b = b
  · rw [if_pos e]
    rw [← hg, grB_stop e] at q
    exact q
  · rw [if_neg e]
    have hx := nxB_ok hnS haS hbS
    have c1 := szB_cap hx
    have g1 := (nx_grow (lots := jnB (shB (stay st ws) b) about) hbS).1
    have g2 := (nx_grow (lots := jnB (shB (stay st ws) b) about) hbS).2
    have lt : szB b < szB (nxB (stay st ws) about b) := Nat.lt_of_not_le fun q => e (g2 q).symm
    exact ⟨capW (stay st ws) - szB (nxB (stay st ws) about b), by omega, nxB (stay st ws) about b, _, (by rw [stay_ns] at hx; exact hx), by rw [grB_go hnS haS hbS e, hg], rfl, rfl⟩
end
end LW
end
section
set_option maxRecDepth 100000
namespace LW
open PySem L2 LC
open DL hiding tI
local macro_rules | `(tactic| simp!) => `(tactic| simp -implicitDefEqProofs only [rn_bind, rn_pure, rn_no, rn_need, rn_opt1, rn_ite, rn_var, rn_put, rn_useD, rn_useN, rn_useO, rn_chkD, rn_chkN, rn_chkO, rn_call, rn_seq, rn_guard, rn_forIn, rn_for0, rn_setD, rn_setN, rn_setO, binM, binMO, unM, cmpT, testM, andT, orT, notT, ifM, asgM, retM, exprM, kM, consA, nilA, tupM, lstM, useAll, chkAll, slM, partM, DL.andM, DL.orM, DL.notM, negM, asgG, gN, gT, gsC, gsN, seqI, frzM, asgTM, dnewM, par2M, hold_d, hold_n, hold_o, d_d, d_n, d_o, out_d, out_n, out_o, fo_next, fo_ret, isBl_b, isInt_i, tr_i, tr_b, tr_n, tr_l, tr_t, it_l, it_r, it_t, li_l, li_r, op_add_i, op_add_l, op_add_t, op_sub_i, op_mul_i, op_mod_i, op_div_i, op_pow_i, op_lt_i, op_le_i, op_gt_i, op_ge_i, op_int_i, op_abs_i, op_len_l, op_len_t, op_len_r, op_tup_l, op_tup_t, op_lst_l, op_lst_t, op_max_i, op_eq_i, eq_go_go, eq_get_get, eq_go_get, eq_get_go, Bool.bne_false, Bool.bne_true, Bool.not_true, Bool.not_false, op_sl_l, op_sl_r, op_sl_t, op_ix_t0, op_ix_t1, op_ix_t2, op_ix_l0, List.getElem?_cons_zero, List.getElem?_cons_succ, List.set_cons_zero, List.set_cons_succ, List.map_cons, List.map_nil, List.length_cons, List.length_nil, List.cons_append, List.nil_append, if_true, if_false, Bool.false_eq_true, decide_eq_true_eq, and_true, true_and, ite_true, ite_false, reduceCtorEq, rn_methM, rn_methM0, isTM_eq, rn_mk, rn_st, mk_own, st_own, ty_own, ex_app, ex_ext, ex_extT, ex_rev, ex_pop, rn_storeM, rn_lc, rn_lc2, rn_turn, rn_turn1, rn_frz])
local macro_rules | `(tactic| simp! [$ls,*]) => `(tactic| simp -implicitDefEqProofs only [rn_bind, rn_pure, rn_no, rn_need, rn_opt1, rn_ite, rn_var, rn_put, rn_useD, rn_useN, rn_useO, rn_chkD, rn_chkN, rn_chkO, rn_call, rn_seq, rn_guard, rn_forIn, rn_for0, rn_setD, rn_setN, rn_setO, binM, binMO, unM, cmpT, testM, andT, orT, notT, ifM, asgM, retM, exprM, kM, consA, nilA, tupM, lstM, useAll, chkAll, slM, partM, DL.andM, DL.orM, DL.notM, negM, asgG, gN, gT, gsC, gsN, seqI, frzM, asgTM, dnewM, par2M, hold_d, hold_n, hold_o, d_d, d_n, d_o, out_d, out_n, out_o, fo_next, fo_ret, isBl_b, isInt_i, tr_i, tr_b, tr_n, tr_l, tr_t, it_l, it_r, it_t, li_l, li_r, op_add_i, op_add_l, op_add_t, op_sub_i, op_mul_i, op_mod_i, op_div_i, op_pow_i, op_lt_i, op_le_i, op_gt_i, op_ge_i, op_int_i, op_abs_i, op_len_l, op_len_t, op_len_r, op_tup_l, op_tup_t, op_lst_l, op_lst_t, op_max_i, op_eq_i, eq_go_go, eq_get_get, eq_go_get, eq_get_go, Bool.bne_false, Bool.bne_true, Bool.not_true, Bool.not_false, op_sl_l, op_sl_r, op_sl_t, op_ix_t0, op_ix_t1, op_ix_t2, op_ix_l0, List.getElem?_cons_zero, List.getElem?_cons_succ, List.set_cons_zero, List.set_cons_succ, List.map_cons, List.map_nil, List.length_cons, List.length_nil, List.cons_append, List.nil_append, if_true, if_false, Bool.false_eq_true, decide_eq_true_eq, and_true, true_and, ite_true, ite_false, reduceCtorEq, rn_methM, rn_methM0, isTM_eq, rn_mk, rn_st, mk_own, st_own, ty_own, ex_app, ex_ext, ex_extT, ex_rev, ex_pop, rn_storeM, rn_lc, rn_lc2, rn_turn, rn_turn1, rn_frz, $ls,*])
def gwA0 : M Fl := (asgM 5 (unM opTuple (lcM (seqI (varM 2)) [13] (turnM (gN 13) (pure true) (unM opTuple (unM opSortSetE (unM opList (varM 13))))))))
def gwI : M (List D) := (rng1I (binM opAdd (unM opSum (lcM (seqI (varM 0)) [15] (turnM (gN 15) (pure true) (unM opLen (binM opIx (varM 15) (kM (.int 1))))))) (kM (.int 1))))
def gw1 : M Fl := (asgM 7 (callM 2 d__law_shown (consA (varM 0) (consA (varM 5) nilA))))
def gw2 : M Fl := (asgM 8 (lcM (rng1I (unM opLen (varM 0))) [9] (turnM (gN 9) (pure true) (binM opIx (varM 3) (varM 9)))))
def gw3 : M Fl := (forIn (rng1I (unM opLen (varM 0))) (gN 9) (ifM (cmpT (opIn true) (varM 9) (varM 4)) (storeM 8 (unM opTuple (unM opSortSetE (binM opAdd (unM opList (binM opIx (varM 3) (varM 9))) (unM opList (binM opIx (varM 7) (varM 9)))))) (varM 9)) (pure .next)))
def gw4 : M Fl := (asgM 10 (binM opAdd (unM opTuple (varM 1)) (unM opTuple (varM 8))))
def gw5 : M Fl := (asgM 11 (lstM nilA))
def gw6 : M Fl := (forIn (rng1I (unM opLen (varM 0))) (gN 9) (seqM (asgM 12 (unM opList (binM opIx (varM 5) (varM 9))))
  (seqM (ifM (cmpT (opIn true) (varM 9) (varM 4)) (forIn (seqI (binM opIx (varM 5) (varM 9))) (gN 14) (asgM 12 (binM opAdd (varM 12) (callM 2 d__law_results (consA (binM opIx (binM opIx (binM opIx (varM 0) (varM 9)) (kM (.int 2))) (varM 14)) (consA (varM 10) nilA)))))) (pure .next))
  (exprM (methM "list" 11 (unM opTuple (unM opSortSetE (varM 12))) opAppend)))))
def gw7 : M Fl := (ifM (cmpT (opEq false) (unM opTuple (varM 11)) (varM 5)) (retM (varM 5)) (pure .next))
def gw8 : M Fl := (asgM 5 (unM opTuple (varM 11)))
def gwT : M Fl := seqM gw1 (seqM gw2 (seqM gw3 (seqM gw4 (seqM gw5 (seqM gw6 (seqM gw7 (gw8)))))))
def gwR : M Fl := (retM (varM 5))
theorem gw_eq : b__law_grown = seqM gwA0 (seqM (forIn gwI (gN 6) gwT) gwR) := rfl
section
variable {ws : List Wk} {st : List Nat} {box about lots : List (List Int)} {o : List D} {s0 s1 s2 s3 s4 s5 s6 s7 s8 s9 s10 s11 s12 s13 s14 s15 : Slot}
theorem in_st {i : Nat} {neg : Bool} {Q : Res → Sx → Prop} {S : Sx} : Rn (opIn neg (.int (i : Nat)) (tI (uI st))) S Q = Q (.dat (.bl (decide (i ∈ st) != neg))) S := by
  rw [in_iT]
  have : decide ((i : Int) ∈ uI st) = decide (i ∈ st) := by simp only [uI_mem]
  rw [this]
def Has (ws : List Wk) (st : List Nat) (about box : List (List Int)) : Prop := ∀ i ∈ st, ∀ x y, (shB ws box)[i]? = some x → about[i]? = some y → y.Pairwise (· < ·) ∧ ∀ k ∈ x, k ∈ y
theorem has_jn {i : Nat} (h : Has ws st about box) (m : i ∈ st) (l : about.length = (shB ws box).length) : (jnB (shB ws box) about)[i]? = about[i]? := by
  unfold jnB
  rw [List.getElem?_zipWith]
  cases e : (shB ws box)[i]? with
  | none =>
    have : about[i]? = none := by rw [List.getElem?_eq_none_iff] at e ⊢; omega
    rw [this]
  | some x =>
    have lt : i < about.length := by rw [l]; exact (List.getElem?_eq_some_iff.mp e).1
    have e2 := List.getElem?_eq_getElem lt
    rw [e2]
    obtain ⟨h1, h2⟩ := h i m x _ e e2
    show some (sortS (x ++ about[i])) = some about[i]
    congr 1
    exact up_unique (sortS_up _) h1 fun k => by rw [sortS_mem, List.mem_append]; exact ⟨fun h => h.elim (h2 k) id, .inr⟩
theorem lst_tI {ms : List Int} {Q : Res → Sx → Prop} {S : Sx} : Rn (opList (tI ms)) S Q = Q (.new (lI ms)) S := rfl
theorem add_lI {a b : List Int} {Q : Res → Sx → Prop} {S : Sx} : Rn (opAdd (lI a) (lI b)) S Q = (a.length + b.length ≤ sizeLine ∧ Q (.new (lI (a ++ b))) S) := by
  unfold lI
  rw [op_add_l]
  simp
theorem sortset_lI {Q : Res → Sx → Prop} {S : Sx} {ns : List Int} {b : Nat} (hl : ns.length + 1 < 4096) (hb : ∀ x ∈ ns, 0 ≤ x ∧ x < (b : Int)) (hb2 : b < 64) (q : Q (.new (lI (sortS ns))) S) : Rn (opSortSetE (lI ns)) S Q := sortsetE_rn hl hb hb2 q
theorem jn_swap {a b : List (List Int)} {i : Nat} {x y : List Int} (h1 : a[i]? = some x) (h2 : b[i]? = some y) : (jnB a b)[i]? = some (sortS (y ++ x)) := by
  rw [show (jnB a b)[i]? = some (sortS (x ++ y)) from zw_at h1 h2]
  congr 1
  exact sortS_eq fun k => by simp [or_comm]
theorem few_res {many : List Int} {lots : List (List Int)} (f : LotsOk many lots) {c : Cd} (h : c.Ok many 3) : (resN lots 3 c).length ≤ 8 := up_len0 (sortS_up _) (b := 8) (res_fit f h)
theorem gwT_ok {b : List (List Int)} {bg : D} (hn : NetOk ws) (ha : AbOk (msOf ws) about) (hb : LotsOk (nsOf ws) b) (hs : Has ws st about b) (ho : (o.all fun o => D.imms o.parts) = true) {P : Fl → Sx → Prop}
    (q1 : nxB (stay st ws) about b = b → ∀ S, S.objs = o → P (.ret (.dat (lotsD b))) S)
    (q2 : nxB (stay st ws) about b ≠ b → ∀ s6 s7 s8 s9 s10 s11 s12 s13 s14 s15, P .next ⟨[.dat (.tup (ws.map Wk.toD)), .dat (.tup []), .dat bg, .dat (lotsD about), .dat (tI (uI st)), .dat (lotsD (nxB (stay st ws) about b)), s6, s7, s8, s9, s10, s11, s12, s13, s14, s15], o⟩) :
    Rn gwT ⟨[.dat (.tup (ws.map Wk.toD)), .dat (.tup []), .dat bg, .dat (lotsD about), .dat (tI (uI st)), .dat (lotsD b), s6, s7, s8, s9, s10, s11, s12, s13, s14, s15], o⟩ P := by
  have bl : b.length = ws.length := by have := hb.len; simpa [nsOf] using this
  have al : about.length = ws.length := by have := ha.len; simpa [msOf] using this
  have l5 := hn.l5
  have f := shB_ok hn hb
  have fl : (shB ws b).length = ws.length := by have := f.len; simpa [msOf] using this
  have jok := jnB_ok hn.many f ha
  have jl : (jnB (shB ws b) about).length = ws.length := by have := jok.len; simpa [msOf] using this
  have nl0 : (stB ws b (jnB (shB ws b) about)).length = ws.length := by have := stB_len (lots := jnB (shB ws b) about) hb; omega
  have nl : (stB (stay st ws) b (jnB (shB ws b) about)).length = ws.length := by have := stB_len (ws := stay st ws) (box := b) (lots := jnB (shB ws b) about) (by rw [stay_ns]; exact hb); omega
  unfold gwT
  generalize hR3 : seqM gw3 _ = R3
  unfold gw1 gw2
  simp!
  with_reducible refine lshown_ok hn hb ho ?_
  rw [safe_lots ho]
  simp! [rng1I, List.length_map, Int.toNat_natCast]
  refine ⟨by unfold rngOk; exact decide_eq_true (by omega), ?_⟩
  rw [show rangeD 0 ws.length = (List.range' 0 ws.length).map fun i => D.int ((i : Nat) : Int) from range_map ws.length 0]
  refine cw_ofM (g := fun i => tI (about.getD i [])) (small_le (by simp; omega)) (fun i hi => ?_) ?_
  · have hi' : i < about.length := by simp at hi; omega
    simp! [wipeE, Slot.frz, List.map_cons, ix_lot (List.getElem?_eq_getElem hi')]
    rw [List.getD_eq_getElem?_getD, List.getElem?_eq_getElem hi']
    rfl
  · rw [rng_map (f := tI) (l := about) al (fun i a h => by rw [List.getD_eq_getElem?_getD, h]; rfl), if_imms (imms_tI _) ho]
    rw [← hR3]
    generalize hR4 : seqM gw4 _ = R4
    unfold gw3
    simp! [rng1I, List.length_map, Int.toNat_natCast]
    refine ⟨by unfold rngOk; exact decide_eq_true (by omega), ?_⟩
    refine for_rng (I := fun i S => ∃ O s9, (∀ j, O[j]? = if j < i then (jnB (shB ws b) about)[j]? else about[j]?) ∧ O.length = ws.length ∧ S = ⟨[.dat (.tup (ws.map Wk.toD)), .dat (.tup []), .dat bg, .dat (lotsD about), .dat (tI (uI st)), .dat (lotsD b), s6, .dat (lotsD (shB ws b)), .own (.lst (O.map tI)), s9, s10, s11, s12, s13, s14, s15], o⟩) ⟨about, _, by simp, al, rfl⟩ ?_ ?_
    · rintro i S hi ⟨O, s9, hO, lO, rfl⟩
      have e1 : (shB ws b)[i]? = some ((shB ws b)[i]'(by omega)) := List.getElem?_eq_getElem (by omega)
      have e2 : about[i]? = some (about[i]'(by omega)) := List.getElem?_eq_getElem (by omega)
      generalize (shB ws b)[i]'(by omega) = x at e1
      generalize about[i]'(by omega) = y at e2
      have ew : (msOf ws)[i]? = some ((msOf ws)[i]'(by simp [msOf]; omega)) := List.getElem?_eq_getElem _
      have m4 := hn.many.fit _ (List.mem_of_getElem? ew)
      have fx := f.fit i x _ e1 ew
      have fy := ha.fit i y _ e2 ew
      have x5 := f.few x (List.mem_of_getElem? e1)
      have y5 := ha.few y (List.mem_of_getElem? e2)
      have nxt : ∀ j, j ≠ i → ((if j < i then (jnB (shB ws b) about)[j]? else about[j]?) = if j < i + 1 then (jnB (shB ws b) about)[j]? else about[j]?) := fun j ne => by
        by_cases h : j < i
        · rw [if_pos h, if_pos (by omega)]
        · rw [if_neg h, if_neg (by omega)]
      simp! [in_st]
      by_cases m : i ∈ st
      · rw [if_neg (by simp [m])]
        refine ⟨O, _, fun j => ?_, lO, rfl⟩
        rw [hO]
        by_cases ej : j = i
        · subst ej
          rw [if_neg (by omega), if_pos (by omega), has_jn hs m (by omega)]
        · exact nxt j ej
      rw [if_pos (by simp [m])]
      simp! [ix_lot e1, ix_lot e2, lst_tI, add_lI]
      refine ⟨small_le (by omega), ?_⟩
      refine sortset_lI (b := 4) (by simp; omega) (fun k hk => ?_) (by decide) ?_
      · rcases List.mem_append.mp hk with h | h
        · have := fy k h; omega
        · have := fx k h; omega
      simp! [tup_lI]
      refine ⟨rfl, ex_set (by simp; omega) ?_⟩
      have ea : (O.map tI).set i (tI (sortS (y ++ x))) = (O.set i (sortS (y ++ x))).map tI := by rw [List.map_set]
      rw [ea]
      refine ⟨O.set i (sortS (y ++ x)), _, fun j => ?_, by simp [lO], rfl⟩
      rw [List.getElem?_set, hO]
      by_cases ej : i = j
      · subst ej
        rw [if_pos rfl, if_pos (by omega), if_pos (by omega)]
        exact (jn_swap e1 e2).symm
      · rw [if_neg ej]
        exact nxt j (fun h => ej h.symm)
    · rintro S ⟨O, s9, hO, lO, rfl⟩
      have eO : O = jnB (shB ws b) about := by
        refine List.ext_getElem? fun j => ?_
        rw [hO]
        by_cases lt : j < ws.length
        · rw [if_pos lt]
        · rw [if_neg lt, List.getElem?_eq_none (by omega), List.getElem?_eq_none (by omega)]
      rw [eO]
      clear eO hO lO O
      generalize hl : jnB (shB ws b) about = lots at *
      rw [← hR4]
      generalize hR6 : seqM gw6 _ = R6
      unfold gw4 gw5
      simp! [List.length_map]
      refine ⟨small_le (by simp; omega), small_le (by decide), ?_⟩
      rw [← hR6]
      generalize hR7 : seqM gw7 _ = R7
      unfold gw6
      simp! [rng1I, List.length_map, Int.toNat_natCast]
      refine ⟨by unfold rngOk; exact decide_eq_true (by omega), ?_⟩
      refine for_rng (I := fun i S => ∃ s9 s12 s14, S = ⟨[.dat (.tup (ws.map Wk.toD)), .dat (.tup []), .dat bg, .dat (lotsD about), .dat (tI (uI st)), .dat (lotsD b), s6, .dat (lotsD (shB ws b)), .own (.lst (lots.map tI)), s9, .dat (lotsD lots), .own (.lst (((stB (stay st ws) b lots).take i).map tI)), s12, s13, s14, s15], o⟩) ⟨_, _, _, rfl⟩ ?_ ?_
      · rintro i S hi ⟨s9, s12, s14, rfl⟩
        have e1 : ws[i]? = some ws[i] := List.getElem?_eq_getElem hi
        have e2 : b[i]? = some (b[i]'(by omega)) := List.getElem?_eq_getElem (by omega)
        generalize ws[i] = w at e1
        generalize b[i]'(by omega) = l at e2
        have ok := hn.ok w (List.mem_of_getElem? e1)
        obtain ⟨b1, b2, b3, b4⟩ := box_at hb e1 e2
        have wd : w.toD = D.tup [.int w.m, tI w.sh, .tup (Cd.toDs w.cs)] := rfl
        have s5' := ok.s5
        simp! [ix_lot e2, lst_tI, in_st]
        by_cases m : i ∈ st
        · rw [if_neg (by simp [m])]
          refine sortset_lI (b := 5) (by omega) (fun k hk => by have := b4 k hk; omega) (by decide) ?_
          simp! [tup_lI]
          have ea : ((stB (stay st ws) b lots).take i).map tI ++ [tI (sortS l)] = ((stB (stay st ws) b lots).take (i + 1)).map tI := by
            rw [sort_id b3, List.take_add_one, stay_st hn hb, if_pos m, e2]
            simp
          rw [ea]
          exact ⟨small_lt (by simp; omega), _, _, _, rfl⟩
        rw [if_pos (by simp [m])]
        simp! [ix_lot e2, it_tI]
        refine for_of (f := D.int) (all := l) (a := []) (r := l) (I := fun a r S => ∃ acc s14, (∀ k, k ∈ acc ↔ k ∈ l ∨ ∃ s ∈ a, k ∈ ((w.cs[s.toNat]?).map (stN lots 3)).getD []) ∧ acc.length ≤ 5 + 8 * a.length ∧ S = ⟨[.dat (.tup (ws.map Wk.toD)), .dat (.tup []), .dat bg, .dat (lotsD about), .dat (tI (uI st)), .dat (lotsD b), s6, .dat (lotsD (shB ws b)), .own (.lst (lots.map tI)), .dat (.int i), .dat (lotsD lots), .own (.lst (((stB (stay st ws) b lots).take i).map tI)), .own (lI acc), s13, s14, s15], o⟩) rfl ⟨l, _, by simp, by simp; omega, rfl⟩ ?_ ?_
        · rintro a x r S e ⟨acc, s14, hk, hac, rfl⟩
          have hx : x ∈ l := by rw [e]; simp
          have ha5 : a.length ≤ 5 := by have := congrArg List.length e; simp at this; omega
          obtain ⟨x0, x1⟩ := b4 x hx
          obtain ⟨xn, rfl⟩ := toNat_int x0
          have hxl : xn < w.cs.length := by rw [ok.cl]; omega
          have ec : w.cs[xn]? = some w.cs[xn] := List.getElem?_eq_getElem hxl
          generalize w.cs[xn] = c at ec
          obtain ⟨c1, c2⟩ := ok.cs c (List.mem_of_getElem? ec)
          have r8 := few_res jok c1
          simp! [ix_wk e1, wd, ix_ds ec]
          with_reducible refine law_results_ok jok ho c1 (by decide) ?_
          rw [if_safe (imms_lI _) ho]
          simp! [add_lI]
          refine ⟨small_le (by omega), acc ++ resN lots 3 c, _, fun k => ?_, by simp; omega, rfl⟩
          have hc : ((w.cs[(xn : Int).toNat]?).map (stN lots 3)).getD [] = stN lots 3 c := by rw [Int.toNat_natCast, ec]; rfl
          rw [List.mem_append, hk, show (k ∈ resN lots 3 c) = (k ∈ stN lots 3 c) from propext (sortS_mem k _)]
          simp only [List.mem_append, List.mem_singleton]
          constructor
          · rintro ((h | ⟨s, hs, h⟩) | h)
            · exact .inl h
            · exact .inr ⟨s, .inl hs, h⟩
            · exact .inr ⟨xn, .inr rfl, by rw [hc]; exact h⟩
          · rintro (h | ⟨s, hs | rfl, h⟩)
            · exact .inl (.inl h)
            · exact .inl (.inr ⟨s, hs, h⟩)
            · exact .inr (by rw [hc] at h; exact h)
        · rintro S ⟨acc, s14, hk, hac, rfl⟩
          have ee : sortS acc = stW lots w l := sortS_eq fun k => by rw [hk, List.mem_append, List.mem_flatMap]
          simp!
          refine sortset_lI (b := 5) (by omega) (fun k hk => ?_) (by decide) ?_
          · have := stW_fit ok jok b4 k (by rw [← ee]; exact (sortS_mem k acc).mpr hk)
            omega
          simp! [tup_lI]
          have ea : ((stB (stay st ws) b lots).take i).map tI ++ [tI (sortS acc)] = ((stB (stay st ws) b lots).take (i + 1)).map tI := by
            rw [ee, List.take_add_one, stay_st hn hb, if_neg m, show (stB ws b lots)[i]? = some (stW lots w l) from zw_at e1 e2]
            simp
          rw [ea]
          exact ⟨small_lt (by simp; omega), _, _, _, rfl⟩
      · rintro S ⟨s9, s12, s14, rfl⟩
        rw [List.take_of_length_le (by omega), ← hR7]
        unfold gw7 gw8
        have nx : nxB (stay st ws) about b = stB (stay st ws) b lots := by unfold nxB; rw [stay_sh, hl]
        simp!
        rw [show D.tup ((stB (stay st ws) b lots).map tI) = lotsD (stB (stay st ws) b lots) from rfl]
        simp! [eq_lots]
        rw [← nx]
        by_cases e : nxB (stay st ws) about b = b
        · rw [if_pos (by simp [e])]
          exact q1 e _ rfl
        · rw [if_neg (by simp [e])]
          exact q2 e _ _ _ _ _ _ _ _ _ _
theorem has_nx {b : List (List Int)} (hn : NetOk ws) (hb : LotsOk (nsOf ws) b) (h : Has ws st about b) : Has ws st about (nxB (stay st ws) about b) := by
  intro i m x y ex ey
  have e : (shB ws (nxB (stay st ws) about b))[i]? = (shB ws b)[i]? := by
    unfold shB nxB
    rw [List.getElem?_zipWith, List.getElem?_zipWith, stay_st hn hb, if_pos m]
  rw [e] at ex
  exact h i m x y ex ey
theorem sum_ints {ns : List Int} {Q : Res → Sx → Prop} {S : Sx} : Rn (opSum (.lst (ns.map .int))) S Q = Q (.dat (.int ns.sum)) S := by
  unfold opSum
  rw [show (D.lst (ns.map .int)).lis.bind D.ints? = some ns from ints?_map ns]
  rfl
theorem sum_cap : ∀ ws : List Wk, (nsOf ws).sum = (capW ws : Int)
  | [] => rfl
  | w :: ws => by
    have := sum_cap ws
    simp only [nsOf, capW, List.map_cons, List.sum_cons] at *
    omega
theorem lgrown_okS {bg : D} (hn : NetOk ws) (ha : AbOk (msOf ws) about) (hb : LotsOk (nsOf ws) box) (hs : Has ws st about box) (ho : (o.all fun o => D.imms o.parts) = true) (hbg : bg.items = some (box.map tI)) {Q : Res → List D → Prop} (q : Q (.dat (lotsD (grB (stay st ws) about box))) o) : Dr d__law_grown [.tup (ws.map Wk.toD), .tup [], bg, lotsD about, tI (uI st)] o Q := by
  have bl : box.length = ws.length := by have := hb.len; simpa [nsOf] using this
  have l5 := hn.l5
  have hnS := stay_ok (st := st) hn
  have haS : AbOk (msOf (stay st ws)) about := by rw [stay_ms]; exact ha
  have c25 := capW_le hn
  unfold d__law_grown
  rw [dr_run, gw_eq]
  generalize hR : seqM (forIn gwI _ _) _ = R
  unfold gwA0
  simp! [List.replicate, hbg]
  refine cw_ofM (g := tI) (small_le (by omega)) (fun l hl => ?_) ?_
  · obtain ⟨i, hi⟩ := mem_ix hl
    have hi' : i < ws.length := by have := (List.getElem?_eq_some_iff.mp hi).1; omega
    obtain ⟨b1, b2, b3, b4⟩ := box_at hb (List.getElem?_eq_getElem hi') hi
    have ok := hn.ok _ (List.getElem_mem hi')
    have := ok.s5
    simp! [wipeE, Slot.frz, List.map_cons, lst_tI]
    refine sortset_lI (b := 5) (by omega) (fun k hk => by have := b4 k hk; omega) (by decide) ?_
    simp! [tup_lI]
    rw [sort_id b3]
  · rw [if_imms (imms_tI _) ho, ← hR]
    generalize hT : gwT = T
    unfold gwI
    simp! [rng1I]
    refine cw_ofM (f := Wk.toD) (g := fun w => .int (w.sh.length : Int)) (xs := ws) (small_le (by omega)) (fun w hw => ?_) ?_
    · have wd : w.toD = D.tup [.int w.m, tI w.sh, .tup (Cd.toDs w.cs)] := rfl
      simp! [wipeE, Slot.frz, List.map_cons, wd, len_tI]
    · rw [show ws.map (fun w => D.int (w.sh.length : Int)) = (nsOf ws).map .int by simp [nsOf], if_imms (imms_ints _) ho]
      simp! [sum_ints, sum_cap, rng1I]
      refine ⟨by unfold rngOk; exact decide_eq_true (by omega), ?_⟩
      rw [show ((capW ws : Int) + 1).toNat = capW ws + 1 by omega, ← hT]
      with_reducible refine for_rng (n := capW ws + 1) (I := fun i S => ∃ b s6 s7 s8 s9 s10 s11 s12 s13 s14 s15, LotsOk (nsOf ws) b ∧ Has ws st about b ∧ grB (stay st ws) about b = grB (stay st ws) about box ∧ i + 1 ≤ szB b ∧ S = ⟨[.dat (.tup (ws.map Wk.toD)), .dat (.tup []), .dat bg, .dat (lotsD about), .dat (tI (uI st)), .dat (lotsD b), s6, s7, s8, s9, s10, s11, s12, s13, s14, s15], o⟩) ?_ ?_ ?_
      · exact ⟨box, _, _, _, _, _, _, _, _, _, _, hb, hs, rfl, szB_pos hn hb, rfl⟩
      · rintro i S hi ⟨b, s6, s7, s8, s9, s10, s11, s12, s13, s14, s15, hb', hs', hg, hi1, rfl⟩
        simp!
        with_reducible refine gwT_ok hn ha hb' hs' ho (fun e S eo => ?_) (fun e s6 s7 s8 s9 s10 s11 s12 s13 s14 s15 => ?_)
        · rw [← hg, grB_stop e] at q
          rw [← eo] at q
          exact q
        · have hbS : LotsOk (nsOf (stay st ws)) b := by rw [stay_ns]; exact hb'
          have hx0 := nxB_ok hnS haS hbS
          have hx : LotsOk (nsOf ws) (nxB (stay st ws) about b) := by rw [stay_ns] at hx0; exact hx0
          have g2 := (nx_grow (lots := jnB (shB (stay st ws) b) about) hbS).2
          have lt : szB b < szB (nxB (stay st ws) about b) := Nat.lt_of_not_le fun q => e (g2 q).symm
          exact ⟨nxB (stay st ws) about b, _, _, _, _, _, _, _, _, _, _, hx, has_nx hn hb' hs', by rw [grB_go hnS haS hbS e, hg], by omega, rfl⟩
      · rintro S ⟨b, s6, s7, s8, s9, s10, s11, s12, s13, s14, s15, hb', hs', hg, hi1, rfl⟩
        have := szB_cap hb'
        omega
end
end LW
end
section
set_option maxRecDepth 100000
namespace LW
open PySem L2 LC
open DL hiding tI
local macro_rules | `(tactic| simp!) => `(tactic| simp -implicitDefEqProofs only [rn_bind, rn_pure, rn_no, rn_need, rn_opt1, rn_ite, rn_var, rn_put, rn_useD, rn_useN, rn_useO, rn_chkD, rn_chkN, rn_chkO, rn_call, rn_seq, rn_guard, rn_forIn, rn_for0, rn_setD, rn_setN, rn_setO, binM, binMO, unM, cmpT, testM, andT, orT, notT, ifM, asgM, retM, exprM, kM, consA, nilA, tupM, lstM, useAll, chkAll, slM, partM, DL.andM, DL.orM, DL.notM, negM, asgG, gN, gT, gsC, gsN, seqI, frzM, asgTM, dnewM, par2M, hold_d, hold_n, hold_o, d_d, d_n, d_o, out_d, out_n, out_o, fo_next, fo_ret, isBl_b, isInt_i, tr_i, tr_b, tr_n, tr_l, tr_t, it_l, it_r, it_t, li_l, li_r, op_add_i, op_add_l, op_add_t, op_sub_i, op_mul_i, op_mod_i, op_div_i, op_pow_i, op_lt_i, op_le_i, op_gt_i, op_ge_i, op_int_i, op_abs_i, op_len_l, op_len_t, op_len_r, op_tup_l, op_tup_t, op_lst_l, op_lst_t, op_max_i, op_eq_i, eq_go_go, eq_get_get, eq_go_get, eq_get_go, Bool.bne_false, Bool.bne_true, Bool.not_true, Bool.not_false, op_sl_l, op_sl_r, op_sl_t, op_ix_t0, op_ix_t1, op_ix_t2, op_ix_l0, List.getElem?_cons_zero, List.getElem?_cons_succ, List.set_cons_zero, List.set_cons_succ, List.map_cons, List.map_nil, List.length_cons, List.length_nil, List.cons_append, List.nil_append, if_true, if_false, Bool.false_eq_true, decide_eq_true_eq, and_true, true_and, ite_true, ite_false, reduceCtorEq, rn_methM, rn_methM0, isTM_eq, rn_mk, rn_st, mk_own, st_own, ty_own, ex_app, ex_ext, ex_extT, ex_rev, ex_pop, rn_storeM, rn_lc, rn_lc2, rn_turn, rn_turn1, rn_frz])
local macro_rules | `(tactic| simp! [$ls,*]) => `(tactic| simp -implicitDefEqProofs only [rn_bind, rn_pure, rn_no, rn_need, rn_opt1, rn_ite, rn_var, rn_put, rn_useD, rn_useN, rn_useO, rn_chkD, rn_chkN, rn_chkO, rn_call, rn_seq, rn_guard, rn_forIn, rn_for0, rn_setD, rn_setN, rn_setO, binM, binMO, unM, cmpT, testM, andT, orT, notT, ifM, asgM, retM, exprM, kM, consA, nilA, tupM, lstM, useAll, chkAll, slM, partM, DL.andM, DL.orM, DL.notM, negM, asgG, gN, gT, gsC, gsN, seqI, frzM, asgTM, dnewM, par2M, hold_d, hold_n, hold_o, d_d, d_n, d_o, out_d, out_n, out_o, fo_next, fo_ret, isBl_b, isInt_i, tr_i, tr_b, tr_n, tr_l, tr_t, it_l, it_r, it_t, li_l, li_r, op_add_i, op_add_l, op_add_t, op_sub_i, op_mul_i, op_mod_i, op_div_i, op_pow_i, op_lt_i, op_le_i, op_gt_i, op_ge_i, op_int_i, op_abs_i, op_len_l, op_len_t, op_len_r, op_tup_l, op_tup_t, op_lst_l, op_lst_t, op_max_i, op_eq_i, eq_go_go, eq_get_get, eq_go_get, eq_get_go, Bool.bne_false, Bool.bne_true, Bool.not_true, Bool.not_false, op_sl_l, op_sl_r, op_sl_t, op_ix_t0, op_ix_t1, op_ix_t2, op_ix_l0, List.getElem?_cons_zero, List.getElem?_cons_succ, List.set_cons_zero, List.set_cons_succ, List.map_cons, List.map_nil, List.length_cons, List.length_nil, List.cons_append, List.nil_append, if_true, if_false, Bool.false_eq_true, decide_eq_true_eq, and_true, true_and, ite_true, ite_false, reduceCtorEq, rn_methM, rn_methM0, isTM_eq, rn_mk, rn_st, mk_own, st_own, ty_own, ex_app, ex_ext, ex_extT, ex_rev, ex_pop, rn_storeM, rn_lc, rn_lc2, rn_turn, rn_turn1, rn_frz, $ls,*])
section
variable {ws : List Wk} {kn : List KE} {o : List D} {w : Wk}
def netK (ws : List Wk) (kn : List KE) : D := netD ws (uI (stK kn))
def plK (kn : List KE) : List Int := kn.map (·.2.1)
def enK (kn : List KE) : List (List Int) := kn.map (·.2.2)
def knD (kn : List KE) : D := .tup [tI (plK kn), lotsD (enK kn)]
theorem if_anyK {α β : Prop} {c : Prop} [Decidable c] (e : α = β) (h : α) : if c then α else β := by
  by_cases hc : c
  · rw [if_pos hc]; exact h
  · rw [if_neg hc, ← e]; exact h
theorem nk_0 {S : Sx} {Q : Res → Sx → Prop} : Rn (opIx (netK ws kn) (.int 0)) S Q = Q (.dat (.tup (ws.map Wk.toD))) S := op_ix_t0
theorem nk_1 {S : Sx} {Q : Res → Sx → Prop} : Rn (opIx (netK ws kn) (.int 1)) S Q = Q (.dat (tI (uI (stK kn)))) S := op_ix_t1
theorem kd_0 {S : Sx} {Q : Res → Sx → Prop} : Rn (opIx (knD kn) (.int 0)) S Q = Q (.dat (tI (plK kn))) S := op_ix_t0
theorem kd_1 {S : Sx} {Q : Res → Sx → Prop} : Rn (opIx (knD kn) (.int 1)) S Q = Q (.dat (lotsD (enK kn))) S := op_ix_t1
theorem st_ints : (uI (stK kn)).map D.int = kn.map fun p : KE => D.int (p.1 : Nat) := by rw [uI, stK, List.map_map, List.map_map]; rfl
theorem pl_ints : (plK kn).map D.int = kn.map fun p : KE => D.int p.2.1 := by rw [plK, List.map_map]; rfl
theorem en_lots : (enK kn).map tI = kn.map fun p : KE => tI p.2.2 := by rw [enK, List.map_map]; rfl
theorem kn_imm (kn : List KE) : (knD kn).imm = true := by simp [knD, D.imm, D.imms, lots_imm, tI, imms_ints]
theorem safe_kn {α β : Prop} {kn : List KE} (ho : (o.all fun o => D.imms o.parts) = true) : (if ((Res.dat (knD kn)).safe && o.all fun o => D.imms o.parts) = true then α else β) = α := if_safe (kn_imm kn) ho
theorem zipD_same {f g : KE → D} : ∀ kn : List KE, zipD (kn.map f) (kn.map g) = kn.map fun p => .tup [f p, g p]
  | [] => by simp [zipD]
  | p :: kn => by simp [zipD, zipD_same kn]
theorem in_stK {i : Nat} {neg : Bool} {Q : Res → Sx → Prop} {S : Sx} : Rn (opIn neg (.int (i : Nat)) (tI (uI (stK kn)))) S Q = Q (.dat (.bl (decide (i ∈ stK kn) != neg))) S := by
  rw [in_iT]
  have : decide ((i : Int) ∈ uI (stK kn)) = decide (i ∈ stK kn) := by simp only [uI_mem]
  rw [this]
theorem moversS_ok (hn : NetOk ws) (ho : (o.all fun o => D.imms o.parts) = true) {Q : Res → List D → Prop} (q : Q (.new (.lst ((mvL (stK kn) ws.length).map fun i => D.int (i : Nat)))) o) : Dr d_movers_of [netK ws kn] o Q := by
  have l5 := hn.l5
  unfold d_movers_of b_movers_of
  rw [dr_run]
  simp! [List.replicate, nk_0, rng1I, List.length_map, Int.toNat_natCast]
  refine ⟨by unfold rngOk; exact decide_eq_true (by omega), ?_⟩
  rw [rng_uI, uI_map]
  refine cw_ofF (f := fun i : Nat => D.int (i : Nat)) (g := fun i : Nat => D.int (i : Nat)) (c := fun i => decide (i ∉ stK kn)) (xs := List.range ws.length) (small_le (by simp; omega)) (fun i hi => ?_) ?_
  · simp! [wipeE, Slot.frz, List.map_cons, nk_1, in_stK]
    by_cases m : i ∈ stK kn
    · rw [if_neg (by simp [m])]
      simp [m]
    · rw [if_pos (by simp [m])]
      simp!
      simp [m]
  · rw [if_imms ?_ ho]
    · exact q
    · have := imms_ints (uI ((List.range ws.length).filter fun i => decide (i ∉ stK kn)))
      rw [uI_map] at this
      exact this
theorem lokS_ok (hn : NetOk ws) (h : KnOk ws kn) (ho : (o.all fun o => D.imms o.parts) = true) {Q : Res → List D → Prop} (q : Q (.dat (lotsD (abK ws kn))) o) : Dr d_lots_of_knot [netK ws kn, knD kn] o Q := by
  have l5 := hn.l5
  unfold d_lots_of_knot b_lots_of_knot
  rw [dr_run]
  simp! [List.replicate, nk_0]
  refine cw_ofM (f := Wk.toD) (g := fun _ => .tup []) (small_le (by omega)) (fun w hw => ?_) ?_
  · simp! [wipeE, Slot.frz, List.map_cons]
    exact small_le (by decide)
  · have em : (ws.map fun _ => D.tup []) = (noB ws).map tI := by rw [noB, List.map_map]; rfl
    rw [em, if_imms (imms_tI _) ho]
    have e1 : tI (uI (stK kn)) = .tup (kn.map fun p : KE => D.int (p.1 : Nat)) := congrArg D.tup st_ints
    have e2 : lotsD (enK kn) = .tup (kn.map fun p : KE => tI p.2.2) := congrArg D.tup en_lots
    simp! [rn_zipI, nk_1, kd_1, e1, e2, zipK_tt, zipD_same]
    refine for_of (f := fun p : KE => D.tup [.int (p.1 : Nat), tI p.2.2]) (all := kn) (a := []) (r := kn) (I := fun a r S => ∃ s3 s4, S = ⟨[.dat (netK ws kn), .dat (knD kn), .own (.lst ((setsB (noB ws) (a.map fun p => (p.1, p.2.2))).map tI)), s3, s4], o⟩) rfl ⟨_, _, rfl⟩ ?_ ?_
    · rintro a p r S e ⟨s3, s4, rfl⟩
      have lt := kn_lt h (show p ∈ kn by rw [e]; simp)
      simp!
      refine ⟨rfl, ex_set (by simp [sets_len, noB]; exact lt) ?_⟩
      rw [← List.map_set, ← sets_snoc (p := (p.1, p.2.2))]
      exact ⟨_, _, by rw [List.map_append]; rfl⟩
    · rintro S ⟨s3, s4, rfl⟩
      simp!
      exact q
theorem kbS_ok (hn : NetOk ws) (h : KnOk ws kn) (ho : (o.all fun o => D.imms o.parts) = true) {Q : Res → List D → Prop} (q : Q (.dat (lotsD (kbK ws kn))) o) : Dr d_knot_box [netK ws kn, knD kn] o Q := by
  have l5 := hn.l5
  unfold d_knot_box b_knot_box
  rw [dr_run]
  simp! [List.replicate, nk_0]
  refine cw_ofM (f := Wk.toD) (g := fun _ => .tup [.int 0]) (small_le (by omega)) (fun w hw => ?_) ?_
  · simp! [wipeE, Slot.frz, List.map_cons]
    exact small_le (by decide)
  · have em : (ws.map fun _ => D.tup [.int 0]) = (zeB ws).map tI := by rw [zeB, List.map_map]; rfl
    rw [em, if_imms (imms_tI _) ho]
    have e1 : tI (uI (stK kn)) = .tup (kn.map fun p : KE => D.int (p.1 : Nat)) := congrArg D.tup st_ints
    have e2 : tI (plK kn) = .tup (kn.map fun p : KE => D.int p.2.1) := congrArg D.tup pl_ints
    simp! [rn_zipI, nk_1, kd_0, e1, e2, zipK_tt, zipD_same]
    refine for_of (f := fun p : KE => D.tup [.int (p.1 : Nat), .int p.2.1]) (all := kn) (a := []) (r := kn) (I := fun a r S => ∃ s3 s4, S = ⟨[.dat (netK ws kn), .dat (knD kn), .own (.lst ((setsB (zeB ws) (a.map fun p => (p.1, [p.2.1]))).map tI)), s3, s4], o⟩) rfl ⟨_, _, rfl⟩ ?_ ?_
    · rintro a p r S e ⟨s3, s4, rfl⟩
      have lt := kn_lt h (show p ∈ kn by rw [e]; simp)
      simp!
      refine ⟨small_le (by decide), rfl, ex_set (by simp [sets_len, zeB]; exact lt) ?_⟩
      rw [show D.tup [.int p.2.1] = tI [p.2.1] from rfl, ← List.map_set, ← sets_snoc (p := (p.1, [p.2.1]))]
      exact ⟨_, _, by rw [List.map_append]; rfl⟩
    · rintro S ⟨s3, s4, rfl⟩
      simp!
      with_reducible refine lokS_ok hn h ho ?_
      rw [safe_lots ho]
      simp!
      with_reducible refine moversS_ok hn ho ?_
      refine if_anyK rfl ?_
      simp!
      show Dr d_grown [netD ws (uI (stK kn)), lotsD (bgK ws kn), lotsD (abK ws kn), .lst ((mvL (stK kn) ws.length).map fun i => D.int (i : Nat)), .non] o _
      with_reducible refine grown_okS hn (ab_ok hn h) (bg_ok hn h) ho ?_
      refine if_anyK rfl ?_
      simp!
      exact q
theorem letterK_ok {i s : Nat} (h : ws[i]? = some w) (hs : s < w.sh.length) (ho : (o.all fun o => D.imms o.parts) = true) {Q : Res → List D → Prop} (q : Q (.dat (.int ((w.sh[s]?).getD 0))) o) : Dr d_letter_at [netK ws kn, .int (i : Nat), .int (s : Nat)] o Q := by
  have w1 : ∀ {S : Sx} {Q : Res → Sx → Prop}, Rn (opIx w.toD (.int 1)) S Q = Q (.dat (tI w.sh)) S := fun {S Q} => op_ix_t1
  have ix : ∀ {S : Sx} {Q : Res → Sx → Prop}, Rn (opIx (tI w.sh) (.int (s : Nat))) S Q = Q (.dat (.int ((w.sh[s]?).getD 0))) S := fun {S Q} => by
    rw [ix_tI (by omega) (show w.sh[((s : Nat) : Int).toNat]? = some w.sh[s] from by rw [Int.toNat_natCast]; exact List.getElem?_eq_getElem hs), List.getElem?_eq_getElem hs]; rfl
  unfold d_letter_at b_letter_at
  rw [dr_run]
  simp! [List.replicate]
  refine looked_ok h ho ?_
  rw [if_safe (by simp [Res.safe, Wk.toD, D.imm, D.imms, tI, imms_ints, Cd.imms]) ho]
  simp! [w1, len_tI]
  refine index_ok hs ho ?_
  rw [if_safe rfl ho]
  simp! [ix]
  exact q
def f0K (ws : List Wk) (st : List Nat) : List KE := st.map fun i => (i, 0, [shK ws i 0])
theorem f0_st (ws : List Wk) (st : List Nat) : stK (f0K ws st) = st := by unfold stK f0K; rw [List.map_map]; exact List.map_id _
theorem f0_ok (hn : NetOk ws) {st : List Nat} (lt : ∀ i ∈ st, i < ws.length) (up : st.Pairwise (· < ·)) : KnOk ws (f0K ws st) := by
  refine ⟨by have := f0_st ws st; unfold stK at this; rw [this]; exact up, fun p hp => ?_⟩
  obtain ⟨i, hi, rfl⟩ := List.mem_map.mp hp
  have e := List.getElem?_eq_getElem (lt i hi)
  have ok := hn.ok _ (List.getElem_mem (lt i hi))
  generalize ws[i]'(lt i hi) = w at e ok
  have s1 := ok.s1
  have e2 : shK ws i 0 = (w.sh[(0 : Int).toNat]?).getD 0 := by unfold shK; rw [e]; rfl
  refine ⟨w, e, Int.le_refl 0, by show (0 : Int) < _; omega, by simp, fun x hx => ?_, by rw [e2]; simp⟩
  rw [List.mem_singleton.mp hx, e2, List.getElem?_eq_getElem (show (0 : Int).toNat < w.sh.length by simp; omega)]
  exact ok.sh _ (List.getElem_mem _)
theorem firstS_ok (hn : NetOk ws) {st : List Nat} (lt : ∀ i ∈ st, i < ws.length) (l8 : st.length ≤ 8) (ho : (o.all fun o => D.imms o.parts) = true) {Q : Res → List D → Prop} (q : Q (.dat (knD (f0K ws st))) o) : Dr d_first_knot [netK ws (f0K ws st)] o Q := by
  have it : (tI (uI (stK (f0K ws st)))).items = some (st.map fun i : Nat => D.int (i : Nat)) := by
    rw [f0_st]
    show some ((uI st).map D.int) = _
    rw [uI, List.map_map]; rfl
  have e1 : (st.map fun i => D.tup [.int (shK ws i 0)]) = (enK (f0K ws st)).map tI := by
    rw [en_lots, f0K, List.map_map]; rfl
  have e2 : (st.map fun _ => D.int 0) = (plK (f0K ws st)).map D.int := by
    rw [pl_ints, f0K, List.map_map]; rfl
  unfold d_first_knot b_first_knot
  rw [dr_run]
  simp! [List.replicate, nk_1, it]
  refine cw_ofM (f := fun i : Nat => D.int (i : Nat)) (g := fun i => .tup [.int (shK ws i 0)]) (xs := st) (small_le (by omega)) (fun i hi => ?_) ?_
  · have e := List.getElem?_eq_getElem (lt i hi)
    have s1 := (hn.ok _ (List.getElem_mem (lt i hi))).s1
    generalize ws[i]'(lt i hi) = w at e s1
    simp! [wipeE, Slot.frz, List.map_cons]
    show Dr d_letter_at [netK ws (f0K ws st), .int (i : Nat), .int ((0 : Nat) : Int)] o _
    with_reducible refine letterK_ok (s := 0) e (by omega) ho ?_
    rw [if_safe rfl ho]
    simp!
    have : shK ws i 0 = (w.sh[0]?).getD 0 := by unfold shK; rw [e]; rfl
    rw [this]
    have z : 0 + 1 ≤ sizeLine := small_le (by decide)
    simp [z]
  · rw [e1, if_imms (imms_tI _) ho]
    simp! [nk_1, it]
    refine cw_ofM (f := fun i : Nat => D.int (i : Nat)) (g := fun i => .int 0) (xs := st) (small_le (by omega)) (fun i hi => ?_) ?_
    · simp! [wipeE, Slot.frz, List.map_cons]
    · rw [e2]
      first
      | rw [if_imms (imms_ints _) ho]
      | skip
      exact ⟨small_le (by decide), q⟩
theorem sortset_tIK {Q : Res → Sx → Prop} {S : Sx} {ns : List Int} {b : Nat} (hl : ns.length + 1 < 4096) (hb : ∀ x ∈ ns, 0 ≤ x ∧ x < (b : Int)) (hb2 : b < 64) (q : Q (.new (lI (sortS ns))) S) : Rn (opSortSetU (tI ns)) S Q := by
  have h := sortsetE_rn (S := S) (Q := Q) hl hb hb2 q
  have e : (D.lst (ns.map .int)).lis.bind D.ints? = some ns := ints?_map ns
  unfold opSortSetE at h
  rw [e] at h
  dsimp only at h
  unfold opSortSet at h
  rw [e] at h
  unfold opSortSetU tI
  dsimp only
  rw [ints?_map]
  exact h
theorem take_set {α : Type} {l : List α} {k : Nat} {x : α} (h : k < l.length) : l.take k ++ [x] ++ l.drop (k + 1) = l.set k x := by
  rw [List.set_eq_take_append_cons_drop, if_pos h, List.append_assoc]; rfl
theorem sh_get {i : Nat} {s : Int} (e : ws[i]? = some w) : shK ws i s = (w.sh[s.toNat]?).getD 0 := by unfold shK; rw [e]; rfl
theorem bh_pl {p : KE} {k : Nat} {s : Int} : plK (bhK ws kn p k s) = (plK kn).set k s := by unfold plK bhK; rw [List.map_set]
theorem bh_en {p : KE} {k : Nat} {s : Int} : enK (bhK ws kn p k s) = (enK kn).set k (sortS (p.2.2 ++ [shK ws p.1 s])) := by unfold enK bhK; rw [List.map_set]
theorem behindS_ok (hn : NetOk ws) (h : KnOk ws kn) {p : KE} {k : Nat} (e : kn[k]? = some p) {s : Nat} (hw : ws[p.1]? = some w) (hs : s < w.sh.length) (ho : (o.all fun o => D.imms o.parts) = true) {Q : Res → List D → Prop} (q : Q (.dat (knD (bhK ws kn p k (s : Nat)))) o) : Dr d_behind_knot [netK ws kn, knD kn, .int (k : Nat), .int (s : Nat)] o Q := by
  have lk := (List.getElem?_eq_some_iff.mp e).1
  have l5 := kn_len hn h
  have l1 : (plK kn).length = kn.length := by simp [plK]
  have l2 : (enK kn).length = kn.length := by simp [enK]
  obtain ⟨w', ew', h0, h1, h2, h3, _⟩ := h.at_ p (List.mem_of_getElem? e)
  cases hw.symm.trans ew'
  have ok := hn.ok w (List.mem_of_getElem? hw)
  have m4 := ok.m4
  have p5 : p.2.2.length ≤ 4 := up_len0 h2 (b := 4) fun x hx => by have := h3 x hx; omega
  have sf := ok.sh _ (List.getElem_mem hs)
  have es : (w.sh[s]?).getD 0 = w.sh[s] := by rw [List.getElem?_eq_getElem hs]; rfl
  have ek : ∀ {S : Sx} {Q : Res → Sx → Prop}, Rn (opIx (tI (uI (stK kn))) (.int (k : Nat))) S Q = Q (.dat (.int (p.1 : Nat))) S := fun {S Q} => by
    rw [ix_tI (k := (p.1 : Nat)) (by omega) (by rw [Int.toNat_natCast, uI, stK, List.getElem?_map, List.getElem?_map, e]; rfl)]
  have el : ∀ {S : Sx} {Q : Res → Sx → Prop}, Rn (opIx (lotsD (enK kn)) (.int (k : Nat))) S Q = Q (.dat (tI p.2.2)) S := fun {S Q} => ix_lot (by rw [enK, List.getElem?_map, e]; rfl)
  unfold d_behind_knot b_behind_knot
  rw [dr_run]
  have k0 : knD kn = .tup [tI (plK kn), lotsD (enK kn)] := rfl
  simp! [List.replicate, k0, nk_1, ek]
  with_reducible refine letterK_ok (s := s) hw hs ho ?_
  rw [if_safe rfl ho]
  simp! [el]
  rw [show D.tup [D.int ((w.sh[s]?).getD 0)] = tI [(w.sh[s]?).getD 0] from rfl]
  simp! [add_tt]
  refine ⟨small_le (by decide), small_le (by simp; omega), ?_⟩
  refine sortset_tIK (b := 4) (by simp; omega) (fun x hx => ?_) (by decide) ?_
  · rcases List.mem_append.mp hx with hx | hx
    · have := h3 x hx; omega
    · rw [List.mem_singleton.mp hx, es]; omega
  unfold lI
  simp!
  have c1 : cutD ((plK kn).map D.int) none (some (k : Int)) = ((plK kn).map D.int).take k := cut_take _ _
  have c2 : cutD ((plK kn).map D.int) (some ((k : Int) + 1)) none = ((plK kn).map D.int).drop (k + 1) := cut_drop _ (k + 1)
  have c3 : cutD ((enK kn).map tI) none (some (k : Int)) = ((enK kn).map tI).take k := cut_take _ _
  have c4 : cutD ((enK kn).map tI) (some ((k : Int) + 1)) none = ((enK kn).map tI).drop (k + 1) := cut_drop _ (k + 1)
  unfold tI lotsD
  simp!
  have n1 : ((plK kn).map D.int).length = kn.length := by simp [plK]
  have n2 : ((enK kn).map tI).length = kn.length := by simp [enK]
  rw [c1, c2, c3, c4]
  refine ⟨small_le (by decide), small_le (by rw [List.length_take, n1]; omega), small_le (by rw [List.length_append, List.length_take, List.length_drop, n1]; simp; omega), small_le (by decide), small_le (by rw [List.length_take, n2]; omega), small_le (by rw [List.length_append, List.length_take, List.length_drop, n2]; simp; omega), small_le (by decide), ?_⟩
  rw [take_set (by omega), take_set (by omega)]
  have ee : D.tup [D.tup (((plK kn).map D.int).set k (D.int (s : Nat))), D.tup (((enK kn).map tI).set k (D.tup ((sortS (p.2.2 ++ [(w.sh[s]?).getD 0])).map D.int)))] = knD (bhK ws kn p k (s : Nat)) := by
    unfold knD
    rw [bh_pl, bh_en, sh_get hw, Int.toNat_natCast]
    simp [tI, lotsD, List.map_set]
  rw [ee]
  exact q
theorem aboutS_ok (hn : NetOk ws) (h : KnOk ws kn) (ho : (o.all fun o => D.imms o.parts) = true) {Q : Res → List D → Prop} (q : Q (.dat (lotsD (ltK ws kn))) o) : Dr d_about_knot [netK ws kn, knD kn] o Q := by
  unfold d_about_knot b_about_knot
  rw [dr_run]
  simp! [List.replicate]
  with_reducible refine kbS_ok hn h ho ?_
  rw [safe_lots ho]
  simp!
  show Dr d_shown_lots [netD ws (uI (stK kn)), lotsD (kbK ws kn)] o _
  with_reducible refine shown_ok hn (kb_ok hn h) ?_
  rw [safe_lots ho]
  simp!
  with_reducible refine lokS_ok hn h ho ?_
  rw [safe_lots ho]
  simp!
  with_reducible refine joined_ok hn.many (shB_ok hn (kb_ok hn h)) (ab_ok hn h) ?_
  rw [safe_lots ho]
  simp!
  exact q
def keyK (kn : List KE) : NestedKey := .tup [.tup ((plK kn).map .num), .tup ((enK kn).map fun l => .tup (l.map .num))]
theorem kNs_nums : ∀ l : List Int, kNs (l.map .num) = l.map D.int
  | [] => rfl
  | x :: l => by rw [List.map_cons, kNs, kNs_nums l]; rfl
theorem kNs_rows : ∀ l : List (List Int), kNs (l.map fun l => .tup (l.map .num)) = l.map tI
  | [] => rfl
  | x :: l => by rw [List.map_cons, kNs, kNs_rows l, kN, kNs_nums]; rfl
theorem kN_key (kn : List KE) : kN (keyK kn) = knD kn := by
  unfold keyK knD
  rw [kN, kNs, kNs, kNs, kN, kN, kNs_nums, kNs_rows]; rfl
theorem nks_nums : ∀ l : List Int, D.nks (l.map D.int) = some (l.map .num)
  | [] => rfl
  | x :: l => by simp [D.nks, D.nk, nks_nums l]
theorem nks_rows : ∀ l : List (List Int), D.nks (l.map tI) = some (l.map fun l => .tup (l.map .num))
  | [] => rfl
  | x :: l => by simp [D.nks, D.nk, tI, nks_nums, nks_rows l]
theorem nk_key (kn : List KE) : (knD kn).nk = some (keyK kn) := by
  unfold knD keyK lotsD
  simp [D.nk, D.nks, tI, nks_nums, nks_rows]
theorem dep_nums : ∀ l : List Int, NestedKey.depthAll (l.map .num) = 0
  | [] => rfl
  | x :: l => by rw [List.map_cons, NestedKey.depthAll, dep_nums l]; rfl
theorem dep_rows : ∀ l : List (List Int), NestedKey.depthAll (l.map fun l => .tup (l.map .num)) ≤ 1
  | [] => by simp [NestedKey.depthAll]
  | x :: l => by
    have := dep_rows l
    rw [List.map_cons, NestedKey.depthAll, NestedKey.depth, dep_nums]; omega
theorem dep_key (kn : List KE) : (keyK kn).depth ≤ 3 := by
  unfold keyK
  have := dep_rows (enK kn)
  simp only [NestedKey.depth, NestedKey.depthAll, dep_nums]; omega
theorem once_snoc (l : List NestedKey) (k : NestedKey) : onceN (l ++ [k]) = if k ∈ onceN l then onceN l else onceN l ++ [k] := by
  unfold onceN
  rw [List.foldl_append]; rfl
theorem put_once (l : List NestedKey) (k : NestedKey) : D.putK ((onceN l).map kN) (kN k) = (onceN (l ++ [k])).map kN := by
  rw [once_snoc]
  unfold D.putK
  have e : kN k ∈ (onceN l).map kN ↔ k ∈ onceN l := ⟨fun h => by
    obtain ⟨j, hj, ej⟩ := List.mem_map.mp h
    rw [← kN_inj ej]; exact hj, fun h => List.mem_map_of_mem h⟩
  by_cases m : k ∈ onceN l
  · rw [if_pos m, if_pos (e.mpr m)]
  · rw [if_neg m, if_neg (fun h => m (e.mp h)), List.map_append]; rfl
theorem once_len_go : ∀ ks l : List NestedKey, (ks.foldl (fun l k => if k ∈ l then l else l ++ [k]) l).length ≤ l.length + ks.length
  | [], l => by simp
  | k :: ks, l => by
    rw [List.foldl_cons]
    refine Nat.le_trans (once_len_go ks _) ?_
    split
    · simp only [List.length_cons]; omega
    · simp only [List.length_append, List.length_cons, List.length_nil]; omega
theorem once_len (l : List NestedKey) : (onceN l).length ≤ l.length := by have := once_len_go l []; simpa [onceN] using this
theorem ex_putK {l : List NestedKey} {vs : List D} {x : D} {kk : List KE} (hl : l.length < 100000) {P : D → Prop} (h : ∀ vs', P (.dct true ((onceN (l ++ [keyK kk])).map kN) vs')) : ∃ d', D.store (.dct true ((onceN l).map kN) vs) (knD kk) x = some d' ∧ P d' := by
  have ol := once_len l
  refine ⟨.dct true ((onceN (l ++ [keyK kk])).map kN) (D.putV ((onceN l).map kN) vs (knD kk) x), ?_, h _⟩
  have key : (D.lookKey true ((onceN l).map kN) vs (knD kk)).isSome = true := by
    have e : ((knD kk).nk.map fun k => decide (k.depth ≤ 8)) = some true := by
      rw [nk_key]
      have := dep_key kk
      simp; omega
    rw [show D.lookKey true ((onceN l).map kN) vs (knD kk) = some (D.look ((onceN l).map kN) vs (knD kk)) from if_pos (e := none) e]; rfl
  unfold D.store
  have c : ((D.lookKey true ((onceN l).map kN) vs (knD kk)).isSome && decide (((onceN l).map kN).length < sizeLine)) = true := by
    rw [key, Bool.true_and, decide_eq_true_eq, List.length_map]
    exact small_lt (by omega)
  rw [← put_once, kN_key]
  exact if_pos (e := none) c
theorem enum_zipK {α : Type} {f : α → D} : ∀ (xs : List α) (k : Nat), enumD (k : Nat) (xs.map f) = (xs.zipIdx k).map fun p => D.tup [.int (p.2 : Nat), f p.1]
  | [], _ => rfl
  | x :: xs, k => by
    rw [List.map_cons, enumD, List.zipIdx_cons, List.map_cons, ← enum_zipK xs (k + 1)]
def nxD (ws : List Wk) (kn : List KE) : List D := sortD ((onceN ((nxK ws kn).map keyK)).map kN)
def metK (ws : List Wk) (kn : List KE) (a : List (KE × Nat)) : List (List KE) := a.flatMap fun p => (resN (ltK ws kn) 3 (cdK ws p.1)).map fun s => bhK ws kn p.1 p.2 s
theorem res_few (hn : NetOk ws) (h : KnOk ws kn) {p : KE} (m : p ∈ kn) : (resN (ltK ws kn) 3 (cdK ws p)).length ≤ 8 := by
  obtain ⟨w, c, ew, ec, e, c1, c2⟩ := cd_ok hn h m
  rw [e]
  exact up_len0 (sortS_up _) (b := 8) (res_fit (lt_ok hn h) c1)
theorem met_few (hn : NetOk ws) (h : KnOk ws kn) : ∀ (a : List (KE × Nat)), (∀ p ∈ a, p.1 ∈ kn) → (metK ws kn a).length ≤ 8 * a.length
  | [], _ => Nat.le_refl 0
  | p :: a, m => by
    have h1 := met_few hn h a fun q hq => m q (.tail _ hq)
    have h2 := res_few hn h (m p (.head _))
    unfold metK at h1 ⊢
    rw [List.flatMap_cons, List.length_append, List.length_map, List.length_cons]
    omega
theorem alike_nums : ∀ a b : List Int, PySem.W.alikeAll (NestedKey.datas (a.map .num)) (NestedKey.datas (b.map .num)) = true
  | [], _ => by simp [NestedKey.datas, PySem.W.alikeAll]
  | _ :: _, [] => by simp [NestedKey.datas, PySem.W.alikeAll]
  | x :: a, y :: b => by simp [NestedKey.datas, NestedKey.data, PySem.W.alikeAll, PySem.W.alike, alike_nums a b]
theorem alike_rows : ∀ a b : List (List Int), PySem.W.alikeAll (NestedKey.datas (a.map fun l => .tup (l.map .num))) (NestedKey.datas (b.map fun l => .tup (l.map .num))) = true
  | [], _ => by simp [NestedKey.datas, PySem.W.alikeAll]
  | _ :: _, [] => by simp [NestedKey.datas, PySem.W.alikeAll]
  | x :: a, y :: b => by simp [NestedKey.datas, NestedKey.data, PySem.W.alikeAll, PySem.W.alike, alike_nums x y, alike_rows a b]
theorem alike_key (a b : List KE) : PySem.W.alike (keyK a).data (keyK b).data = true := by
  simp [keyK, NestedKey.data, NestedKey.datas, PySem.W.alike, PySem.W.alikeAll, alike_nums, alike_rows]
theorem can_keys (l : List (List KE)) : canSortE ((onceN (l.map keyK)).map kN) = true := by
  have each : ∀ k ∈ onceN (l.map keyK), ∃ kk, k = keyK kk := fun k m => by
    obtain ⟨kk, _, e⟩ := List.mem_map.mp ((onceN_mem _ k).mp m)
    exact ⟨kk, e.symm⟩
  unfold canSortE
  simp only [Bool.and_eq_true, Bool.or_eq_true, List.all_eq_true, List.forall_mem_map, decide_eq_true_eq]
  refine ⟨⟨fun k m => ⟨by rw [kN_py]; rfl, ?_⟩, fun k m j mj => ?_⟩, .inl fun k m => ?_⟩
  · obtain ⟨kk, rfl⟩ := each k m
    rw [kN_pyD, dep_data]
    have := dep_key kk
    omega
  · obtain ⟨kk, rfl⟩ := each k m; obtain ⟨jj, rfl⟩ := each j mj
    rw [kN_pyD, kN_pyD]; exact alike_key kk jj
  · obtain ⟨kk, rfl⟩ := each k m
    rw [kN_key]; rfl
theorem sorted_keysK {l : List (List KE)} {vs : List D} {Q : Res → Sx → Prop} {S : Sx} (q : Q (.new (.lst (sortD ((onceN (l.map keyK)).map kN)))) S) : Rn (opSortedN (.dct true ((onceN (l.map keyK)).map kN) vs)) S Q := by
  show Rn (sortN _) S Q
  unfold sortN
  rw [rn_need]
  exact ⟨can_keys l, q⟩
theorem knotsS_ok (hn : NetOk ws) (h : KnOk ws kn) (ho : (o.all fun o => D.imms o.parts) = true) {Q : Res → List D → Prop} (q : Q (.new (.lst (nxD ws kn))) o) : Dr d_knots_by [netK ws kn, knD kn, lotsD (ltK ws kn)] o Q := by
  have l5 := kn_len hn h
  have it : tI (uI (stK kn)) = .tup (kn.map fun p : KE => D.int (p.1 : Nat)) := congrArg D.tup st_ints
  have en : enumD 0 (kn.map fun p : KE => D.int (p.1 : Nat)) = kn.zipIdx.map fun p => D.tup [.int (p.2 : Nat), .int (p.1.1 : Nat)] := enum_zipK kn 0
  unfold d_knots_by b_knots_by enumI
  rw [dr_run]
  simp! [List.replicate, nk_1, it, en]
  refine for_of (f := fun p : KE × Nat => D.tup [.int (p.2 : Nat), .int (p.1.1 : Nat)]) (all := kn.zipIdx) (a := []) (r := kn.zipIdx) (I := fun a r S => ∃ vs s4 s5 s6, S = ⟨[.dat (netK ws kn), .dat (knD kn), .dat (lotsD (ltK ws kn)), .own (.dct true ((onceN ((metK ws kn a).map keyK)).map kN) vs), s4, s5, s6], o⟩) rfl ⟨[], _, _, _, rfl⟩ ?_ ?_
  · rintro a ⟨p, k⟩ r S e ⟨vs, s4, s5, s6, rfl⟩
    have hp : kn[k]? = some p := by
      have : (p, k) ∈ kn.zipIdx := by rw [e]; simp
      rwa [List.mem_zipIdx_iff_getElem?] at this
    have mp := List.mem_of_getElem? hp
    have ma : ∀ q ∈ a, q.1 ∈ kn := fun q hq => by
      have : q ∈ kn.zipIdx := by rw [e]; exact List.mem_append_left _ hq
      rw [List.mem_zipIdx_iff_getElem?] at this
      exact List.mem_of_getElem? this
    have fa := met_few hn h a ma
    have la : a.length ≤ 5 := by
      have := congrArg List.length e
      simp at this; omega
    obtain ⟨w, c, ew, ec, ed, c1, c2⟩ := cd_ok hn h mp
    obtain ⟨_, _, h0, _⟩ := h.at_ p mp
    obtain ⟨sn, hsn⟩ := toNat_int h0
    have ep : ∀ {S : Sx} {Q : Res → Sx → Prop}, Rn (opIx (tI (plK kn)) (.int (k : Nat))) S Q = Q (.dat (.int (sn : Nat))) S := fun {S Q} => by
      rw [ix_tI (k := (sn : Nat)) (by omega) (by rw [Int.toNat_natCast, plK, List.getElem?_map, hp, ← hsn]; rfl)]
    rw [hsn, Int.toNat_natCast] at ec
    simp! [kd_0, ep]
    show Dr d_code_at [netD ws (uI (stK kn)), .int (p.1 : Nat), .int (sn : Nat)] o _
    with_reducible refine code_ok ew ec ho ?_
    rw [if_safe (show (Res.dat c.toD).safe = true from Cd.imm c) ho]
    simp!
    with_reducible refine results_ok (lt_ok hn h) ho c1 (by decide) ?_
    rw [if_safe (imms_lI _) ho]
    unfold lI
    simp!
    have f8 := res_few hn h mp
    refine for_of (f := D.int) (all := resN (ltK ws kn) 3 c) (a := []) (r := resN (ltK ws kn) 3 c) (I := fun b r S => ∃ vs s6, S = ⟨[.dat (netK ws kn), .dat (knD kn), .dat (lotsD (ltK ws kn)), .own (.dct true ((onceN ((metK ws kn a ++ b.map fun s => bhK ws kn p k s).map keyK)).map kN) vs), .dat (.int (k : Nat)), .dat (.int (p.1 : Nat)), s6], o⟩) rfl ⟨vs, _, by simp; rfl⟩ ?_ ?_
    · rintro b s r2 S e2 ⟨vs, s6, rfl⟩
      have hs : s ∈ resN (ltK ws kn) 3 (cdK ws p) := by rw [ed, e2]; simp
      obtain ⟨w2, ew2, s0, s1, _⟩ := res_in hn h mp hs
      cases ew.symm.trans ew2
      obtain ⟨tn, rfl⟩ := toNat_int s0
      simp!
      refine ⟨rfl, ?_⟩
      with_reducible refine behindS_ok (s := tn) hn h hp ew (by omega) ho ?_
      rw [safe_kn ho]
      simp!
      have lb : b.length ≤ 8 := by
        have := congrArg List.length e2
        rw [← ed] at this
        simp at this; omega
      refine ex_putK (by simp; omega) fun vs' => ⟨vs', .dat (.int (tn : Nat)), ?_⟩
      simp only [List.map_append, List.map_cons, List.map_nil, List.append_assoc]
    · rintro S ⟨vs, s6, rfl⟩
      have em : metK ws kn (a ++ [(p, k)]) = metK ws kn a ++ (resN (ltK ws kn) 3 c).map fun s => bhK ws kn p k s := by
        unfold metK
        rw [List.flatMap_append]
        simp [ed]
      exact ⟨vs, _, _, _, by rw [em]⟩
  · rintro S ⟨vs, s4, s5, s6, rfl⟩
    simp!
    exact sorted_keysK (l := metK ws kn kn.zipIdx) q
theorem nextS_ok (hn : NetOk ws) (h : KnOk ws kn) (ho : (o.all fun o => D.imms o.parts) = true) {Q : Res → List D → Prop} (q : Q (.new (.lst (nxD ws kn))) o) : Dr d_next_knots [netK ws kn, knD kn] o Q := by
  unfold d_next_knots b_next_knots
  rw [dr_run]
  simp! [List.replicate]
  with_reducible refine aboutS_ok hn h ho ?_
  rw [safe_lots ho]
  simp!
  with_reducible refine knotsS_ok hn h ho ?_
  refine if_anyK rfl ?_
  simp!
  exact q
end
end LW
end
section
set_option maxRecDepth 100000
namespace LW
open PySem L2 LC
open DL hiding tI
local macro_rules | `(tactic| simp!) => `(tactic| simp -implicitDefEqProofs only [rn_bind, rn_pure, rn_no, rn_need, rn_opt1, rn_ite, rn_var, rn_put, rn_useD, rn_useN, rn_useO, rn_chkD, rn_chkN, rn_chkO, rn_call, rn_seq, rn_guard, rn_forIn, rn_for0, rn_setD, rn_setN, rn_setO, binM, binMO, unM, cmpT, testM, andT, orT, notT, ifM, asgM, retM, exprM, kM, consA, nilA, tupM, lstM, useAll, chkAll, slM, partM, DL.andM, DL.orM, DL.notM, negM, asgG, gN, gT, gsC, gsN, seqI, frzM, asgTM, dnewM, par2M, hold_d, hold_n, hold_o, d_d, d_n, d_o, out_d, out_n, out_o, fo_next, fo_ret, isBl_b, isInt_i, tr_i, tr_b, tr_n, tr_l, tr_t, it_l, it_r, it_t, li_l, li_r, op_add_i, op_add_l, op_add_t, op_sub_i, op_mul_i, op_mod_i, op_div_i, op_pow_i, op_lt_i, op_le_i, op_gt_i, op_ge_i, op_int_i, op_abs_i, op_len_l, op_len_t, op_len_r, op_tup_l, op_tup_t, op_lst_l, op_lst_t, op_max_i, op_eq_i, eq_go_go, eq_get_get, eq_go_get, eq_get_go, Bool.bne_false, Bool.bne_true, Bool.not_true, Bool.not_false, op_sl_l, op_sl_r, op_sl_t, op_ix_t0, op_ix_t1, op_ix_t2, op_ix_l0, List.getElem?_cons_zero, List.getElem?_cons_succ, List.set_cons_zero, List.set_cons_succ, List.map_cons, List.map_nil, List.length_cons, List.length_nil, List.cons_append, List.nil_append, if_true, if_false, Bool.false_eq_true, decide_eq_true_eq, and_true, true_and, ite_true, ite_false, reduceCtorEq, rn_methM, rn_methM0, isTM_eq, rn_mk, rn_st, mk_own, st_own, ty_own, ex_app, ex_ext, ex_extT, ex_rev, ex_pop, rn_storeM, rn_lc, rn_lc2, rn_turn, rn_turn1, rn_frz])
local macro_rules | `(tactic| simp! [$ls,*]) => `(tactic| simp -implicitDefEqProofs only [rn_bind, rn_pure, rn_no, rn_need, rn_opt1, rn_ite, rn_var, rn_put, rn_useD, rn_useN, rn_useO, rn_chkD, rn_chkN, rn_chkO, rn_call, rn_seq, rn_guard, rn_forIn, rn_for0, rn_setD, rn_setN, rn_setO, binM, binMO, unM, cmpT, testM, andT, orT, notT, ifM, asgM, retM, exprM, kM, consA, nilA, tupM, lstM, useAll, chkAll, slM, partM, DL.andM, DL.orM, DL.notM, negM, asgG, gN, gT, gsC, gsN, seqI, frzM, asgTM, dnewM, par2M, hold_d, hold_n, hold_o, d_d, d_n, d_o, out_d, out_n, out_o, fo_next, fo_ret, isBl_b, isInt_i, tr_i, tr_b, tr_n, tr_l, tr_t, it_l, it_r, it_t, li_l, li_r, op_add_i, op_add_l, op_add_t, op_sub_i, op_mul_i, op_mod_i, op_div_i, op_pow_i, op_lt_i, op_le_i, op_gt_i, op_ge_i, op_int_i, op_abs_i, op_len_l, op_len_t, op_len_r, op_tup_l, op_tup_t, op_lst_l, op_lst_t, op_max_i, op_eq_i, eq_go_go, eq_get_get, eq_go_get, eq_get_go, Bool.bne_false, Bool.bne_true, Bool.not_true, Bool.not_false, op_sl_l, op_sl_r, op_sl_t, op_ix_t0, op_ix_t1, op_ix_t2, op_ix_l0, List.getElem?_cons_zero, List.getElem?_cons_succ, List.set_cons_zero, List.set_cons_succ, List.map_cons, List.map_nil, List.length_cons, List.length_nil, List.cons_append, List.nil_append, if_true, if_false, Bool.false_eq_true, decide_eq_true_eq, and_true, true_and, ite_true, ite_false, reduceCtorEq, rn_methM, rn_methM0, isTM_eq, rn_mk, rn_st, mk_own, st_own, ty_own, ex_app, ex_ext, ex_extT, ex_rev, ex_pop, rn_storeM, rn_lc, rn_lc2, rn_turn, rn_turn1, rn_frz, $ls,*])
section
variable {ws : List Wk} {kn : List KE} {o : List D} {w : Wk}
theorem nkD : netK ws kn = D.tup [.tup (ws.map Wk.toD), tI (uI (stK kn))] := rfl
theorem knd : knD kn = D.tup [tI (plK kn), lotsD (enK kn)] := rfl
theorem st_len : (uI (stK kn)).length = kn.length := by simp [uI, stK]
theorem ix_stK {k : Nat} {p : KE} (e : kn[k]? = some p) {S : Sx} {Q : Res → Sx → Prop} : Rn (opIx (tI (uI (stK kn))) (.int (k : Nat))) S Q = Q (.dat (.int (p.1 : Nat))) S := by
  rw [ix_tI (k := (p.1 : Nat)) (by omega) (by rw [Int.toNat_natCast, uI, stK, List.getElem?_map, List.getElem?_map, e]; rfl)]
theorem ix_plK {k : Nat} {p : KE} (e : kn[k]? = some p) {S : Sx} {Q : Res → Sx → Prop} : Rn (opIx (tI (plK kn)) (.int (k : Nat))) S Q = Q (.dat (.int p.2.1)) S := by
  rw [ix_tI (k := p.2.1) (by omega) (by rw [Int.toNat_natCast, plK, List.getElem?_map, e]; rfl)]
theorem ix_enK {k : Nat} {p : KE} (e : kn[k]? = some p) {S : Sx} {Q : Res → Sx → Prop} : Rn (opIx (lotsD (enK kn)) (.int (k : Nat))) S Q = Q (.dat (tI p.2.2)) S := ix_lot (by rw [enK, List.getElem?_map, e]; rfl)
theorem take_next' {α β : Type} {l : List α} {f : α → β} {i : Nat} {x : α} (e : l[i]? = some x) : (l.take (i + 1)).map f = (l.take i).map f ++ [f x] := by
  rw [List.take_add_one, e, List.map_append]; rfl
theorem lkb_ok (hn : NetOk ws) (h : KnOk ws kn) (ho : (o.all fun o => D.imms o.parts) = true) {Q : Res → List D → Prop} (q : Q (.dat (lotsD (kbK ws kn))) o) : Dr d__law_knot_box [netK ws kn, knD kn] o Q := by
  have l5 := hn.l5
  have k5 := kn_len hn h
  unfold d__law_knot_box b__law_knot_box
  rw [dr_run]
  simp! [List.replicate, nkD]
  refine cw_ofM (f := Wk.toD) (g := fun _ => .tup [.int 0]) (small_le (by omega)) (fun w hw => ?_) ?_
  · simp! [wipeE, Slot.frz, List.map_cons]
    exact small_le (by decide)
  have em : (ws.map fun _ => D.tup [.int 0]) = (zeB ws).map tI := by rw [zeB, List.map_map]; rfl
  rw [em, if_imms (imms_tI _) ho]
  refine cw_ofM (f := Wk.toD) (g := fun _ => .tup []) (small_le (by omega)) (fun w hw => ?_) ?_
  · simp! [wipeE, Slot.frz, List.map_cons]
    exact small_le (by decide)
  have em : (ws.map fun _ => D.tup []) = (noB ws).map tI := by rw [noB, List.map_map]; rfl
  rw [em, if_imms (imms_tI _) ho]
  simp! [rng1I, len_tI, st_len, Int.toNat_natCast]
  refine ⟨by unfold rngOk; exact decide_eq_true (by omega), ?_⟩
  refine for_rng (n := kn.length) (I := fun i S => ∃ s4, S = ⟨[.dat (D.tup [.tup (ws.map Wk.toD), tI (uI (stK kn))]), .dat (knD kn), .own (.lst ((setsB (zeB ws) ((kn.take i).map fun p => (p.1, [p.2.1]))).map tI)), .own (.lst ((setsB (noB ws) ((kn.take i).map fun p => (p.1, p.2.2))).map tI)), s4, .dat (.tup (ws.map Wk.toD)), .dat (tI (uI (stK kn))), .un], o⟩) ⟨_, rfl⟩ ?_ ?_
  · rintro i S hi ⟨s4, rfl⟩
    have e := List.getElem?_eq_getElem hi
    generalize kn[i] = p at e
    have lt := kn_lt h (List.mem_of_getElem? e)
    simp! [kd_0, kd_1, ix_plK e, ix_stK e, ix_enK e]
    refine ⟨small_le (by decide), rfl, ex_set (by simp [sets_len, zeB]; exact lt) ?_⟩
    refine ⟨rfl, ex_set (by simp [sets_len, noB]; exact lt) ?_⟩
    rw [show D.tup [.int p.2.1] = tI [p.2.1] from rfl, ← List.map_set, ← List.map_set, ← sets_snoc (p := (p.1, [p.2.1])), ← sets_snoc (p := (p.1, p.2.2)), take_next' e, take_next' e]
    exact ⟨_, rfl⟩
  · rintro S ⟨s4, rfl⟩
    rw [List.take_length]
    simp!
    refine ⟨small_le (by decide), ?_⟩
    show Dr d__law_grown [.tup (ws.map Wk.toD), .tup [], lotsD (bgK ws kn), lotsD (abK ws kn), tI (uI (stK kn))] o _
    have hs : Has ws (stK kn) (abK ws kn) (bgK ws kn) := fun i m x y ex ey => kn_has h (b := bgK ws kn) (fun _ _ => rfl) m ex ey
    refine lgrown_okS hn (ab_ok hn h) (bg_ok hn h) hs ho rfl ?_
    rw [safe_lots ho]
    simp!
    exact q
theorem setA_lI {Q : Res → Sx → Prop} {S : Sx} {ns : List Int} {b : Nat} (hl : ns.length + 1 < 4096) (hb : ∀ x ∈ ns, 0 ≤ x ∧ x < (b : Int)) (hb2 : b < 64) (q : Q (.new (lI (sortS ns))) S) : Rn (opSortSetA (lI ns)) S Q := by
  have h := sortsetE_rn (S := S) (Q := Q) hl hb hb2 q
  have e : (D.lst (ns.map .int)).lis.bind D.ints? = some ns := ints?_map ns
  unfold opSortSetE at h
  rw [e] at h
  unfold opSortSetA lI
  rw [e]
  exact h
theorem sorted_knots {l : List (List KE)} (hl : l.length < 64) {Q : Res → Sx → Prop} {S : Sx} (q : Q (.new (.lst (sortD ((onceN (l.map keyK)).map kN)))) S) : Rn (opSortSetA (.lst (l.map knD))) S Q := by
  have nks : ∀ l : List (List KE), D.nks (l.map knD) = some (l.map keyK) := by
    intro l
    induction l with
    | nil => rfl
    | cons k l ih => rw [List.map_cons, D.nks, nk_key, ih]; rfl
  cases l with
  | nil =>
    have h := sortsetE_rn (ns := []) (b := 1) (S := S) (Q := Q) (by decide) (by simp) (by decide) (by simpa [onceN, sortD, lI, sortS] using q)
    exact h
  | cons k l =>
    have e1 : (D.lst ((k :: l).map knD)).lis.bind D.ints? = none := rfl
    have e2 : (D.lst ((k :: l).map knD)).lis.bind D.tups? = none := by
      show D.tups? (knD k :: l.map knD) = none
      rw [knd, D.tups?]; rfl
    have e3 : (D.lst ((k :: l).map knD)).lis.bind D.nks = some ((k :: l).map keyK) := nks (k :: l)
    unfold opSortSetA
    rw [e1, e2]
    show Rn (opSortSetN _) S Q
    unfold opSortSetN
    rw [e3, rn_opt1, rn_need]
    refine ⟨?_, q⟩
    unfold fitN
    simp only [Bool.and_eq_true, decide_eq_true_eq, List.all_eq_true, List.forall_mem_map, List.length_map]
    exact ⟨⟨hl, fun kk _ => ⟨rfl, by have := dep_key kk; omega⟩⟩, fun kk _ jj _ => alike_key kk jj⟩
theorem ix_w1 {S : Sx} {Q : Res → Sx → Prop} : Rn (opIx w.toD (.int 1)) S Q = Q (.dat (tI w.sh)) S := op_ix_t1
theorem ix_w2 {S : Sx} {Q : Res → Sx → Prop} : Rn (opIx w.toD (.int 2)) S Q = Q (.dat (.tup (Cd.toDs w.cs))) S := op_ix_t2
theorem lst_lots {l : List (List Int)} {Q : Res → Sx → Prop} {S : Sx} : Rn (opList (lotsD l)) S Q = Q (.new (.lst (l.map tI))) S := rfl
theorem lst_tIk {ms : List Int} {Q : Res → Sx → Prop} {S : Sx} : Rn (opList (tI ms)) S Q = Q (.new (lI ms)) S := rfl
theorem add_lIk {a b : List Int} {Q : Res → Sx → Prop} {S : Sx} : Rn (opAdd (lI a) (lI b)) S Q = (a.length + b.length ≤ sizeLine ∧ Q (.new (lI (a ++ b))) S) := by
  unfold lI
  rw [op_add_l]
  simp
theorem knot_cut (hn : NetOk ws) (h : KnOk ws kn) {p : KE} {k : Nat} (e : kn[k]? = some p) {s : Int} {has : List Int} (eh : has = sortS (p.2.2 ++ [shK ws p.1 s])) {P : D → Prop} (q : P (knD (bhK ws kn p k s))) :
    0 + 1 ≤ sizeLine ∧ (cutD ((plK kn).map D.int) none (some (k : Int))).length + (0 + 1) ≤ sizeLine ∧ (cutD ((plK kn).map D.int) none (some (k : Int)) ++ [D.int s]).length + (cutD ((plK kn).map D.int) (some ((k : Int) + 1)) none).length ≤ sizeLine ∧
    0 + 1 ≤ sizeLine ∧ (cutD ((enK kn).map tI) none (some (k : Int))).length + (0 + 1) ≤ sizeLine ∧ (cutD ((enK kn).map tI) none (some (k : Int)) ++ [D.tup (has.map D.int)]).length + (cutD ((enK kn).map tI) (some ((k : Int) + 1)) none).length ≤ sizeLine ∧ 0 + 1 + 1 ≤ sizeLine ∧
    P (D.tup [D.tup (cutD ((plK kn).map D.int) none (some (k : Int)) ++ [D.int s] ++ cutD ((plK kn).map D.int) (some ((k : Int) + 1)) none), D.tup (cutD ((enK kn).map tI) none (some (k : Int)) ++ [D.tup (has.map D.int)] ++ cutD ((enK kn).map tI) (some ((k : Int) + 1)) none)]) := by
  have lk := (List.getElem?_eq_some_iff.mp e).1
  have l5 := kn_len hn h
  have n1 : ((plK kn).map D.int).length = kn.length := by simp [plK]
  have n2 : ((enK kn).map tI).length = kn.length := by simp [enK]
  have c1 : cutD ((plK kn).map D.int) none (some (k : Int)) = ((plK kn).map D.int).take k := cut_take _ _
  have c2 : cutD ((plK kn).map D.int) (some ((k : Int) + 1)) none = ((plK kn).map D.int).drop (k + 1) := cut_drop _ (k + 1)
  have c3 : cutD ((enK kn).map tI) none (some (k : Int)) = ((enK kn).map tI).take k := cut_take _ _
  have c4 : cutD ((enK kn).map tI) (some ((k : Int) + 1)) none = ((enK kn).map tI).drop (k + 1) := cut_drop _ (k + 1)
  rw [c1, c2, c3, c4]
  refine ⟨small_le (by decide), small_le (by rw [List.length_take, n1]; omega), small_le (by rw [List.length_append, List.length_take, List.length_drop, n1]; simp; omega), small_le (by decide), small_le (by rw [List.length_take, n2]; omega), small_le (by rw [List.length_append, List.length_take, List.length_drop, n2]; simp; omega), small_le (by decide), ?_⟩
  rw [take_set (by omega), take_set (by omega)]
  have ee : D.tup [D.tup (((plK kn).map D.int).set k (D.int s)), D.tup (((enK kn).map tI).set k (D.tup (has.map D.int)))] = knD (bhK ws kn p k s) := by
    unfold knD
    rw [bh_pl, bh_en, eh]
    simp [tI, lotsD, List.map_set]
  rw [ee]
  exact q
theorem lnk_ok (hn : NetOk ws) (h : KnOk ws kn) (ho : (o.all fun o => D.imms o.parts) = true) {Q : Res → List D → Prop} (q : Q (.new (.lst (nxD ws kn))) o) : Dr d__law_knot_next [netK ws kn, knD kn] o Q := by
  have l5 := hn.l5
  have k5 := kn_len hn h
  have fl : (shB ws (kbK ws kn)).length = ws.length := by have := (shB_ok hn (kb_ok hn h)).len; simpa [msOf] using this
  unfold d__law_knot_next b__law_knot_next
  rw [dr_run]
  simp! [List.replicate]
  have un : netK ws kn = D.tup [.tup (ws.map Wk.toD), tI (uI (stK kn))] := rfl
  rw [un]
  simp!
  show Dr d__law_knot_box [netK ws kn, knD kn] o _
  with_reducible refine lkb_ok hn h ho ?_
  rw [safe_lots ho]
  simp!
  with_reducible refine lshown_ok hn (kb_ok hn h) ho ?_
  rw [safe_lots ho]
  simp! [lst_lots, rng1I, len_tI, st_len, Int.toNat_natCast]
  refine ⟨by unfold rngOk; exact decide_eq_true (by omega), ?_⟩
  refine for_rng (n := kn.length) (I := fun i S => ∃ s4, S = ⟨[.dat (D.tup [.tup (ws.map Wk.toD), tI (uI (stK kn))]), .dat (knD kn), .dat (lotsD (kbK ws kn)), .own (.lst ((setsB (shB ws (kbK ws kn)) ((kn.take i).map fun p => (p.1, p.2.2))).map tI)), s4, .un, .dat (.tup (ws.map Wk.toD)), .dat (tI (uI (stK kn))), .un, .un, .un], o⟩) ⟨_, rfl⟩ ?_ ?_
  · rintro i S hi ⟨s4, rfl⟩
    have e := List.getElem?_eq_getElem hi
    generalize kn[i] = p at e
    have lt := kn_lt h (List.mem_of_getElem? e)
    simp! [kd_1, ix_stK e, ix_enK e]
    refine ⟨rfl, ex_set (by simp [sets_len]; omega) ?_⟩
    rw [← List.map_set, ← sets_snoc (p := (p.1, p.2.2)), take_next' e]
    exact ⟨_, rfl⟩
  · rintro S ⟨s4, rfl⟩
    rw [List.take_length, lt_sets hn h]
    simp! [rng1I, len_tI, st_len, Int.toNat_natCast]
    refine ⟨small_le (by decide), by unfold rngOk; exact decide_eq_true (by omega), ?_⟩
    have tl : D.tup ((ltK ws kn).map tI) = lotsD (ltK ws kn) := rfl
    refine for_rng (n := kn.length) (I := fun i S => ∃ s4 s8 s9 s10, S = ⟨[.dat (D.tup [.tup (ws.map Wk.toD), tI (uI (stK kn))]), .dat (knD kn), .dat (lotsD (kbK ws kn)), .own (.lst ((ltK ws kn).map tI)), s4, .own (.lst ((metK ws kn (kn.zipIdx.take i)).map knD)), .dat (.tup (ws.map Wk.toD)), .dat (tI (uI (stK kn))), s8, s9, s10], o⟩) ⟨_, _, _, _, rfl⟩ ?_ ?_
    · rintro i S hi ⟨s4, s8, s9, s10, rfl⟩
      have hp := List.getElem?_eq_getElem hi
      generalize kn[i] = p at hp
      have mp := List.mem_of_getElem? hp
      have zi : kn.zipIdx[i]? = some (p, i) := by rw [List.getElem?_zipIdx, hp]; simp
      have fa := met_few hn h (kn.zipIdx.take i) fun q hq => by
        have := List.mem_of_mem_take hq
        rw [List.mem_zipIdx_iff_getElem?] at this
        exact List.mem_of_getElem? this
      have la : (kn.zipIdx.take i).length ≤ 5 := by rw [List.length_take]; simp; omega
      obtain ⟨w, c, ew, ec, ed, c1, c2⟩ := cd_ok hn h mp
      obtain ⟨w', ew', h0, _, h2, h3, _⟩ := h.at_ p mp
      cases ew.symm.trans ew'
      have m4 := (hn.ok w (List.mem_of_getElem? ew)).m4
      have p5 : p.2.2.length ≤ 4 := up_len0 h2 (b := 4) fun x hx => by have := h3 x hx; omega
      obtain ⟨sn, hsn⟩ := toNat_int h0
      rw [hsn, Int.toNat_natCast] at ec
      simp! [ix_stK hp, ix_wk ew, ix_w2, kd_0, ix_plK hp]
      rw [hsn]
      simp! [ix_ds ec]
      rw [tl]
      with_reducible refine law_results_ok (lt_ok hn h) ho c1 (by decide) ?_
      rw [if_safe (imms_lI _) ho]
      unfold lI
      simp!
      have f8 := res_few hn h mp
      refine for_of (f := D.int) (all := resN (ltK ws kn) 3 c) (a := []) (r := resN (ltK ws kn) 3 c) (I := fun b r S => ∃ s9 s10, S = ⟨[.dat (D.tup [.tup (ws.map Wk.toD), tI (uI (stK kn))]), .dat (knD kn), .dat (lotsD (kbK ws kn)), .own (.lst ((ltK ws kn).map tI)), .dat (.int (i : Nat)), .own (.lst ((metK ws kn (kn.zipIdx.take i) ++ b.map fun s => bhK ws kn p i s).map knD)), .dat (.tup (ws.map Wk.toD)), .dat (tI (uI (stK kn))), .dat w.toD, s9, s10], o⟩) rfl ⟨s9, s10, by simp⟩ ?_ ?_
      · rintro b s r2 S e2 ⟨s9, s10, rfl⟩
        have hs : s ∈ resN (ltK ws kn) 3 (cdK ws p) := by rw [ed, e2]; simp
        obtain ⟨w2, ew2, s0, s1, es⟩ := res_in hn h mp hs
        cases ew.symm.trans ew2
        have lb : b.length ≤ 8 := by
          have := congrArg List.length e2
          rw [← ed] at this
          simp at this; omega
        have ls : s.toNat < w.sh.length := by omega
        have sf := (hn.ok w (List.mem_of_getElem? ew)).sh _ (List.getElem_mem ls)
        have ev : (w.sh[s.toNat]?).getD 0 = w.sh[s.toNat] := by rw [List.getElem?_eq_getElem ls]; rfl
        have ok := hn.ok w (List.mem_of_getElem? ew)
        simp! [kd_1, ix_enK hp, lst_tIk, ix_w1, sh_at ok s0 s1]
        rw [show D.lst [D.int ((w.sh[s.toNat]?).getD 0)] = lI [(w.sh[s.toNat]?).getD 0] from rfl]
        simp! [add_lIk]
        refine ⟨small_le (by decide), small_le (by omega), ?_⟩
        refine setA_lI (b := 4) (by simp; omega) (fun x hx => ?_) (by decide) ?_
        · rcases List.mem_append.mp hx with hx | hx
          · have := h3 x hx; omega
          · rw [List.mem_singleton.mp hx, ev]; omega
        unfold lI
        have k0 : ∀ {S : Sx} {Q : Res → Sx → Prop}, Rn (opIx (knD kn) (.int 0)) S Q = Q (.dat (.tup ((plK kn).map D.int))) S := fun {S Q} => op_ix_t0
        have k1 : ∀ {S : Sx} {Q : Res → Sx → Prop}, Rn (opIx (knD kn) (.int 1)) S Q = Q (.dat (.tup ((enK kn).map tI))) S := fun {S Q} => op_ix_t1
        simp! [k0, k1]
        obtain ⟨z1, z2, z3, z4, z5, z6, z7, ee⟩ := knot_cut (P := fun d => d = knD (bhK ws kn p i s)) (has := sortS (p.2.2 ++ [(w.sh[s.toNat]?).getD 0])) hn h hp (by rw [es]) rfl
        refine ⟨z1, z2, z3, z4, z5, z6, z7, ?_⟩
        rw [ee]
        refine ⟨small_lt (by simp; omega), .dat (.int s), .dat (.tup ((sortS (p.2.2 ++ [(w.sh[s.toNat]?).getD 0])).map D.int)), ?_⟩
        simp only [List.map_append, List.map_cons, List.map_nil, List.append_assoc]
      · rintro S ⟨s9, s10, rfl⟩
        have em : metK ws kn (kn.zipIdx.take (i + 1)) = metK ws kn (kn.zipIdx.take i) ++ (resN (ltK ws kn) 3 c).map fun s => bhK ws kn p i s := by
          unfold metK
          rw [List.take_add_one, zi, List.flatMap_append]
          simp [ed]
        exact ⟨_, _, _, _, by rw [em]⟩
    · rintro S ⟨s4, s8, s9, s10, rfl⟩
      have zl : kn.zipIdx.take kn.length = kn.zipIdx := List.take_of_length_le (by simp)
      have fa := met_few hn h kn.zipIdx fun q hq => by
        rw [List.mem_zipIdx_iff_getElem?] at hq
        exact List.mem_of_getElem? hq
      rw [zl]
      simp!
      exact sorted_knots (l := metK ws kn kn.zipIdx) (by simp at fa; omega) q
end
end LW
end
section
set_option maxRecDepth 100000
namespace LW
open PySem L2 LC
open DL hiding tI
local macro_rules | `(tactic| simp!) => `(tactic| simp -implicitDefEqProofs only [rn_bind, rn_pure, rn_no, rn_need, rn_opt1, rn_ite, rn_var, rn_put, rn_useD, rn_useN, rn_useO, rn_chkD, rn_chkN, rn_chkO, rn_call, rn_seq, rn_guard, rn_forIn, rn_for0, rn_setD, rn_setN, rn_setO, binM, binMO, unM, cmpT, testM, andT, orT, notT, ifM, asgM, retM, exprM, kM, consA, nilA, tupM, lstM, useAll, chkAll, slM, partM, DL.andM, DL.orM, DL.notM, negM, asgG, gN, gT, gsC, gsN, seqI, frzM, asgTM, dnewM, par2M, hold_d, hold_n, hold_o, d_d, d_n, d_o, out_d, out_n, out_o, fo_next, fo_ret, isBl_b, isInt_i, tr_i, tr_b, tr_n, tr_l, tr_t, it_l, it_r, it_t, li_l, li_r, op_add_i, op_add_l, op_add_t, op_sub_i, op_mul_i, op_mod_i, op_div_i, op_pow_i, op_lt_i, op_le_i, op_gt_i, op_ge_i, op_int_i, op_abs_i, op_len_l, op_len_t, op_len_r, op_tup_l, op_tup_t, op_lst_l, op_lst_t, op_max_i, op_eq_i, eq_go_go, eq_get_get, eq_go_get, eq_get_go, Bool.bne_false, Bool.bne_true, Bool.not_true, Bool.not_false, op_sl_l, op_sl_r, op_sl_t, op_ix_t0, op_ix_t1, op_ix_t2, op_ix_l0, List.getElem?_cons_zero, List.getElem?_cons_succ, List.set_cons_zero, List.set_cons_succ, List.map_cons, List.map_nil, List.length_cons, List.length_nil, List.cons_append, List.nil_append, if_true, if_false, Bool.false_eq_true, decide_eq_true_eq, and_true, true_and, ite_true, ite_false, reduceCtorEq, rn_methM, rn_methM0, isTM_eq, rn_mk, rn_st, mk_own, st_own, ty_own, ex_app, ex_ext, ex_extT, ex_rev, ex_pop, rn_storeM, rn_lc, rn_lc2, rn_turn, rn_turn1, rn_frz])
local macro_rules | `(tactic| simp! [$ls,*]) => `(tactic| simp -implicitDefEqProofs only [rn_bind, rn_pure, rn_no, rn_need, rn_opt1, rn_ite, rn_var, rn_put, rn_useD, rn_useN, rn_useO, rn_chkD, rn_chkN, rn_chkO, rn_call, rn_seq, rn_guard, rn_forIn, rn_for0, rn_setD, rn_setN, rn_setO, binM, binMO, unM, cmpT, testM, andT, orT, notT, ifM, asgM, retM, exprM, kM, consA, nilA, tupM, lstM, useAll, chkAll, slM, partM, DL.andM, DL.orM, DL.notM, negM, asgG, gN, gT, gsC, gsN, seqI, frzM, asgTM, dnewM, par2M, hold_d, hold_n, hold_o, d_d, d_n, d_o, out_d, out_n, out_o, fo_next, fo_ret, isBl_b, isInt_i, tr_i, tr_b, tr_n, tr_l, tr_t, it_l, it_r, it_t, li_l, li_r, op_add_i, op_add_l, op_add_t, op_sub_i, op_mul_i, op_mod_i, op_div_i, op_pow_i, op_lt_i, op_le_i, op_gt_i, op_ge_i, op_int_i, op_abs_i, op_len_l, op_len_t, op_len_r, op_tup_l, op_tup_t, op_lst_l, op_lst_t, op_max_i, op_eq_i, eq_go_go, eq_get_get, eq_go_get, eq_get_go, Bool.bne_false, Bool.bne_true, Bool.not_true, Bool.not_false, op_sl_l, op_sl_r, op_sl_t, op_ix_t0, op_ix_t1, op_ix_t2, op_ix_l0, List.getElem?_cons_zero, List.getElem?_cons_succ, List.set_cons_zero, List.set_cons_succ, List.map_cons, List.map_nil, List.length_cons, List.length_nil, List.cons_append, List.nil_append, if_true, if_false, Bool.false_eq_true, decide_eq_true_eq, and_true, true_and, ite_true, ite_false, reduceCtorEq, rn_methM, rn_methM0, isTM_eq, rn_mk, rn_st, mk_own, st_own, ty_own, ex_app, ex_ext, ex_extT, ex_rev, ex_pop, rn_storeM, rn_lc, rn_lc2, rn_turn, rn_turn1, rn_frz, $ls,*])
section
variable {ws : List Wk} {kn : List KE} {st : List Nat} {o : List D} {x : Bag}
theorem ne_0 {S : Sx} {Q : Res → Sx → Prop} : Rn (opIx (netD ws (uI st)) (.int 0)) S Q = Q (.dat (.tup (ws.map Wk.toD))) S := op_ix_t0
theorem ne_1 {S : Sx} {Q : Res → Sx → Prop} : Rn (opIx (netD ws (uI st)) (.int 1)) S Q = Q (.dat (tI (uI st))) S := op_ix_t1
theorem it_uI : (tI (uI st)).items = some (st.map fun i : Nat => D.int (i : Nat)) := by
  show some ((uI st).map D.int) = _
  rw [uI, List.map_map]; rfl
theorem begin_ok (hn : NetOk ws) (lt : ∀ i ∈ st, i < ws.length) (l8 : st.length ≤ 8) (ho : (o.all fun o => D.imms o.parts) = true) {Q : Res → List D → Prop} (q : Q (.dat (knD (f0K ws st))) o) : Dr d__law_begin_knot [netD ws (uI st)] o Q := by
  have e1 : (st.map fun i => D.tup [.int (shK ws i 0)]) = (enK (f0K ws st)).map tI := by
    rw [en_lots, f0K, List.map_map]; rfl
  have e2 : (st.map fun _ => D.int 0) = (plK (f0K ws st)).map D.int := by
    rw [pl_ints, f0K, List.map_map]; rfl
  unfold d__law_begin_knot b__law_begin_knot
  rw [dr_run]
  generalize hT : turnM _ _ (tupM _) = T
  simp! [List.replicate, ne_1, it_uI]
  refine cw_ofM (f := fun i : Nat => D.int (i : Nat)) (g := fun i => .int 0) (xs := st) (small_le (by omega)) (fun i hi => ?_) ?_
  · simp! [wipeE, Slot.frz, List.map_cons]
  · rw [e2, if_imms (imms_ints _) ho]
    refine cw_ofM (f := fun i : Nat => D.int (i : Nat)) (g := fun i => .tup [.int (shK ws i 0)]) (xs := st) (small_le (by omega)) (fun i hi => ?_) ?_
    · have e := List.getElem?_eq_getElem (lt i hi)
      have s1 := (hn.ok _ (List.getElem_mem (lt i hi))).s1
      generalize ws[i]'(lt i hi) = w at e s1
      rw [← hT]
      have i0 : ∀ {S : Sx} {Q : Res → Sx → Prop}, Rn (opIx (tI w.sh) (.int 0)) S Q = Q (.dat (.int (shK ws i 0))) S := fun {S Q} => by
        have h0 : (0 : Int).toNat < w.sh.length := by simp; omega
        rw [ix_tI (Int.le_refl 0) (List.getElem?_eq_getElem h0), sh_get e, List.getElem?_eq_getElem h0]; rfl
      simp! [wipeE, Slot.frz, List.map_cons, ne_0, ix_wk e, ix_w1, i0]
      exact small_le (by decide)
    · rw [e1, if_imms (imms_tI _) ho]
      simp!
      exact ⟨small_le (by decide), q⟩
theorem zipD_sameG {α : Type} {f g : α → D} : ∀ l : List α, zipD (l.map f) (l.map g) = l.map fun p => .tup [f p, g p]
  | [] => by simp [zipD]
  | p :: l => by simp [zipD, zipD_sameG l]
def PlOk (ws : List Wk) (zs : List (Nat × Int)) : Prop := ∀ z ∈ zs, ∃ w, ws[z.1]? = some w ∧ 0 ≤ z.2 ∧ z.2 < (w.sh.length : Int)
theorem any_ok (hn : NetOk ws) (lt : ∀ i ∈ st, i < ws.length) (l8 : st.length ≤ 8) (up : st.Pairwise (· < ·)) (hx : BOk x) {Q : Res → List D → Prop} (q : ∀ kn y, KnOk ws kn → stK kn = st → BOk y → Q (.dat (knD kn)) [bagD y]) : Dr d__law_knot_any [.obj 0, netD ws (uI st)] [bagD x] Q := by
  have l5 := hn.l5
  unfold d__law_knot_any b__law_knot_any
  rw [dr_run]
  generalize hB : seqM (asgM 3 _) _ = B
  simp! [List.replicate, ne_1, it_uI]
  refine cw_left (I := fun ds acc o => ∃ (zs : List (Nat × Int)) (r : List Nat) (y : Bag), st = zs.map (·.1) ++ r ∧ ds = r.map (fun i : Nat => D.int (i : Nat)) ∧ acc = zs.map (fun z => D.int z.2) ∧ PlOk ws zs ∧ BOk y ∧ o = [bagD y]) (small_le (by simp; omega)) ⟨[], st, x, rfl, rfl, rfl, (by intro z hz; cases hz), hx, rfl⟩ ?_ ?_
  · rintro d ds acc o ⟨zs, r, y, e1, e2, rfl, ok, hy, rfl⟩
    cases r with
    | nil => cases e2
    | cons i r =>
      cases e2
      have hi : i ∈ st := by rw [e1]; simp
      have e := List.getElem?_eq_getElem (lt i hi)
      have okw := hn.ok _ (List.getElem_mem (lt i hi))
      generalize ws[i]'(lt i hi) = w at e okw
      have s1 := okw.s1; have s5 := okw.s5
      simp! [wipeE, Slot.frz, List.map_cons, ne_0, ix_wk e, ix_w1, len_tI]
      refine lt_call hy (by omega) (by omega) fun k y' k0 k1 hy' => ?_
      rw [safe_b rfl]
      simp!
      exact ⟨zs ++ [(i, k)], r, y', by rw [e1]; simp, rfl, by simp, fun z hz => by
        rcases List.mem_append.mp hz with hz | hz
        · exact ok z hz
        · rw [List.mem_singleton.mp hz]; exact ⟨w, e, k0, k1⟩, hy', rfl⟩
  · rintro acc o ⟨zs, r, y, e1, e2, rfl, ok, hy, rfl⟩
    have : r = [] := by
      cases r with
      | nil => rfl
      | cons z r => cases e2
    subst this
    rw [List.append_nil] at e1
    have zl : zs.length = st.length := by rw [e1, List.length_map]
    have em : (zs.map fun z => D.int z.2) = (zs.map (·.2)).map .int := by rw [List.map_map]; rfl
    rw [em, if_imms (imms_ints _) (bag_all y), ← em]
    have it2 : tI (uI st) = .tup (zs.map fun z : Nat × Int => D.int (z.1 : Nat)) := by
      rw [e1]
      show D.tup ((uI (zs.map (·.1))).map D.int) = _
      rw [uI, List.map_map, List.map_map]; rfl
    rw [← hB]
    simp! [rn_zipI, ne_1, it2, zipK_tt, zipD_sameG]
    refine ⟨small_le (by decide), ?_⟩
    refine for_of (f := fun z : Nat × Int => D.tup [.int (z.1 : Nat), .int z.2]) (all := zs) (a := []) (r := zs) (I := fun a r S => ∃ (kn : List KE) (y : Bag) (s4 s5 : Slot), kn.map (fun p => (p.1, p.2.1)) = a ∧ (∀ p ∈ kn, ∃ w, ws[p.1]? = some w ∧ 0 ≤ p.2.1 ∧ p.2.1 < (w.sh.length : Int) ∧ p.2.2.Pairwise (· < ·) ∧ (∀ x ∈ p.2.2, 0 ≤ x ∧ x < w.m) ∧ (w.sh[p.2.1.toNat]?).getD 0 ∈ p.2.2) ∧ BOk y ∧ S = ⟨[.dat (.obj 0), .dat (netD ws (uI st)), .dat (.tup (zs.map fun z => D.int z.2)), .own (.lst ((enK kn).map tI)), s4, s5], [bagD y]⟩) rfl ⟨[], y, _, _, rfl, (by intro p hp; cases hp), hy, rfl⟩ ?_ ?_
    · rintro a z r S e3 ⟨kn, y, s4, s5, ek, okk, hy, rfl⟩
      obtain ⟨w, ew, z0, z1⟩ := ok z (by rw [e3]; simp)
      have okw := hn.ok w (List.mem_of_getElem? ew)
      have m1 := okw.m1; have m4 := okw.m4
      have ls : z.2.toNat < w.sh.length := by omega
      have sf := okw.sh _ (List.getElem_mem ls)
      have ev : (w.sh[z.2.toNat]?).getD 0 = w.sh[z.2.toNat] := by rw [List.getElem?_eq_getElem ls]; rfl
      have kl : kn.length ≤ 8 := by
        have h1 := congrArg List.length ek
        have h2 := congrArg List.length e3
        simp at h1 h2; omega
      have w0 : ∀ {S : Sx} {Q : Res → Sx → Prop}, Rn (opIx w.toD (.int 0)) S Q = Q (.dat (.int w.m)) S := fun {S Q} => op_ix_t0
      simp! [ne_0, ix_wk ew, ix_w1, w0, sh_at okw z0 z1]
      refine ⟨small_le (by decide), ?_⟩
      refine lot_ok hy m1 (by omega) fun l y' hy' l0 lu lf => ?_
      rw [safe_b (show (Res.dat (tI l)).safe = true from imms_ints l)]
      have l4 := up_len0 lu (b := 4) fun k hk => by have := lf k hk; omega
      rw [show D.lst [D.int ((w.sh[z.2.toNat]?).getD 0)] = lI [(w.sh[z.2.toNat]?).getD 0] from rfl]
      simp! [lst_tIk, add_lIk]
      refine ⟨small_le (by simp; omega), ?_⟩
      refine sortsetE_rn (b := 4) (by simp; omega) (fun k hk => ?_) (by decide) ?_
      · rcases List.mem_cons.mp hk with rfl | hk
        · rw [ev]; omega
        · have := lf k hk; omega
      unfold lI
      simp!
      refine ⟨small_lt (by simp [enK]; omega), kn ++ [(z.1, z.2, sortS ((w.sh[z.2.toNat]?).getD 0 :: l))], y', .dat (.int (z.1 : Nat)), .dat (.int z.2), ?_, ?_, hy', ?_⟩
      · rw [List.map_append, ek]; rfl
      · intro p hp
        rcases List.mem_append.mp hp with hp | hp
        · exact okk p hp
        · rw [List.mem_singleton.mp hp]
          refine ⟨w, ew, z0, z1, sortS_up _, fun k hk => ?_, ?_⟩
          · rw [sortS_mem] at hk
            rcases List.mem_cons.mp hk with rfl | hk
            · rw [ev]; exact sf
            · exact lf k hk
          · rw [sortS_mem]; simp
      · simp [enK, tI]
    · rintro S ⟨kn, y, s4, s5, ek, okk, hy, rfl⟩
      have es : stK kn = st := by
        rw [e1, ← ek, List.map_map]; rfl
      have ep : D.tup (zs.map fun z => D.int z.2) = tI (plK kn) := by
        rw [← ek, List.map_map]
        unfold tI
        rw [pl_ints]; rfl
      simp!
      refine ⟨small_le (by decide), ?_⟩
      rw [ep]
      exact q kn y ⟨by have : kn.map (·.1) = st := es; rw [this]; exact up, okk⟩ es hy
end
end LW
end
section
set_option maxRecDepth 100000
namespace LW
open PySem L2 LC
open DL hiding tI
local macro_rules | `(tactic| simp!) => `(tactic| simp -implicitDefEqProofs only [rn_bind, rn_pure, rn_no, rn_need, rn_opt1, rn_ite, rn_var, rn_put, rn_useD, rn_useN, rn_useO, rn_chkD, rn_chkN, rn_chkO, rn_call, rn_seq, rn_guard, rn_forIn, rn_for0, rn_setD, rn_setN, rn_setO, binM, binMO, unM, cmpT, testM, andT, orT, notT, ifM, asgM, retM, exprM, kM, consA, nilA, tupM, lstM, useAll, chkAll, slM, partM, DL.andM, DL.orM, DL.notM, negM, asgG, gN, gT, gsC, gsN, seqI, frzM, asgTM, dnewM, par2M, hold_d, hold_n, hold_o, d_d, d_n, d_o, out_d, out_n, out_o, fo_next, fo_ret, isBl_b, isInt_i, tr_i, tr_b, tr_n, tr_l, tr_t, it_l, it_r, it_t, li_l, li_r, op_add_i, op_add_l, op_add_t, op_sub_i, op_mul_i, op_mod_i, op_div_i, op_pow_i, op_lt_i, op_le_i, op_gt_i, op_ge_i, op_int_i, op_abs_i, op_len_l, op_len_t, op_len_r, op_tup_l, op_tup_t, op_lst_l, op_lst_t, op_max_i, op_eq_i, eq_go_go, eq_get_get, eq_go_get, eq_get_go, Bool.bne_false, Bool.bne_true, Bool.not_true, Bool.not_false, op_sl_l, op_sl_r, op_sl_t, op_ix_t0, op_ix_t1, op_ix_t2, op_ix_l0, List.getElem?_cons_zero, List.getElem?_cons_succ, List.set_cons_zero, List.set_cons_succ, List.map_cons, List.map_nil, List.length_cons, List.length_nil, List.cons_append, List.nil_append, if_true, if_false, Bool.false_eq_true, decide_eq_true_eq, and_true, true_and, ite_true, ite_false, reduceCtorEq, rn_methM, rn_methM0, isTM_eq, rn_mk, rn_st, mk_own, st_own, ty_own, ex_app, ex_ext, ex_extT, ex_rev, ex_pop, rn_storeM, rn_lc, rn_lc2, rn_turn, rn_turn1, rn_frz])
local macro_rules | `(tactic| simp! [$ls,*]) => `(tactic| simp -implicitDefEqProofs only [rn_bind, rn_pure, rn_no, rn_need, rn_opt1, rn_ite, rn_var, rn_put, rn_useD, rn_useN, rn_useO, rn_chkD, rn_chkN, rn_chkO, rn_call, rn_seq, rn_guard, rn_forIn, rn_for0, rn_setD, rn_setN, rn_setO, binM, binMO, unM, cmpT, testM, andT, orT, notT, ifM, asgM, retM, exprM, kM, consA, nilA, tupM, lstM, useAll, chkAll, slM, partM, DL.andM, DL.orM, DL.notM, negM, asgG, gN, gT, gsC, gsN, seqI, frzM, asgTM, dnewM, par2M, hold_d, hold_n, hold_o, d_d, d_n, d_o, out_d, out_n, out_o, fo_next, fo_ret, isBl_b, isInt_i, tr_i, tr_b, tr_n, tr_l, tr_t, it_l, it_r, it_t, li_l, li_r, op_add_i, op_add_l, op_add_t, op_sub_i, op_mul_i, op_mod_i, op_div_i, op_pow_i, op_lt_i, op_le_i, op_gt_i, op_ge_i, op_int_i, op_abs_i, op_len_l, op_len_t, op_len_r, op_tup_l, op_tup_t, op_lst_l, op_lst_t, op_max_i, op_eq_i, eq_go_go, eq_get_get, eq_go_get, eq_get_go, Bool.bne_false, Bool.bne_true, Bool.not_true, Bool.not_false, op_sl_l, op_sl_r, op_sl_t, op_ix_t0, op_ix_t1, op_ix_t2, op_ix_l0, List.getElem?_cons_zero, List.getElem?_cons_succ, List.set_cons_zero, List.set_cons_succ, List.map_cons, List.map_nil, List.length_cons, List.length_nil, List.cons_append, List.nil_append, if_true, if_false, Bool.false_eq_true, decide_eq_true_eq, and_true, true_and, ite_true, ite_false, reduceCtorEq, rn_methM, rn_methM0, isTM_eq, rn_mk, rn_st, mk_own, st_own, ty_own, ex_app, ex_ext, ex_extT, ex_rev, ex_pop, rn_storeM, rn_lc, rn_lc2, rn_turn, rn_turn1, rn_frz, $ls,*])
def laA0 : M Fl := (asgTM 1 (callM 1 d__law_bag (consA (varM 0) nilA)))
def laI : M (List D) := (rng1I (kM (.int 3)))
def la1 : M Fl := (asgM 3 (callM 6 d__law_net (consA (varM 1) (consA (kM (.int 5)) (consA (kM (.int 5)) (consA (kM (.int 4)) (consA (kM (.int 3)) (consA (kM (.int 2)) nilA))))))))
def la2 : M Fl := (asgM 4 (callM 1 d__law_begin_knot (consA (varM 3) nilA)))
def la3 : M Fl := (ifM (notT (testM (callM 2 d__law_alike (consA (callM 1 d_first_knot (consA (varM 3) nilA)) (consA (varM 4) nilA))))) (retM (kM (.bl false))) (pure .next))
def la4 : M Fl := (par2M 6 7 (callM 2 d__law_knot_any (consA (varM 1) (consA (varM 3) nilA))) (callM 2 d__law_knot_any (consA (varM 1) (consA (varM 3) nilA))))
def la5 : M Fl := (forIn (seqI (binM opAdd (lstM (consA (varM 4) (consA (varM 6) (consA (varM 7) (consA (varM 6) nilA))))) (slM (callM 2 d__law_knot_next (consA (varM 3) (consA (varM 6) nilA))) (pure none) (partM (kM (.int 2)))))) (gN 5) (seqM (par2M 9 10 (callM 2 d__law_knot_box (consA (varM 3) (consA (varM 5) nilA))) (callM 2 d__law_knot_next (consA (varM 3) (consA (varM 5) nilA))))
  (seqM (asgM 8 (callM 2 d_next_knots (consA (varM 3) (consA (varM 5) nilA))))
  (seqM (ifM (orT (notT (testM (callM 2 d__law_alike (consA (callM 2 d_knot_box (consA (varM 3) (consA (varM 5) nilA))) (consA (varM 9) nilA))))) (notT (testM (callM 2 d__law_alike (consA (varM 8) (consA (varM 10) nilA)))))) (retM (kM (.bl false))) (pure .next))
  (seqM (exprM (methM "list" 8 (varM 5) opAppend))
  (seqM (exprM (insM 8 (consA (kM (.int 0)) (consA (kM .non) nilA))))
  (ifM (notT (testM (callM 2 d__law_alike (consA (callM 2 d_next_knots (consA (varM 3) (consA (varM 5) nilA))) (consA (varM 10) nilA))))) (retM (kM (.bl false))) (pure .next))))))))
def laT : M Fl := seqM la1 (seqM la2 (seqM la3 (seqM la4 (la5))))
def laR : M Fl := (retM (kM (.bl true)))
theorem la_eq : b_law = seqM laA0 (seqM (forIn laI (gN 2) laT) laR) := rfl
def lbI : M (List D) := (seqI (binM opAdd (lstM (consA (varM 4) (consA (varM 6) (consA (varM 7) (consA (varM 6) nilA))))) (slM (callM 2 d__law_knot_next (consA (varM 3) (consA (varM 6) nilA))) (pure none) (partM (kM (.int 2))))))
def lb1 : M Fl := (par2M 9 10 (callM 2 d__law_knot_box (consA (varM 3) (consA (varM 5) nilA))) (callM 2 d__law_knot_next (consA (varM 3) (consA (varM 5) nilA))))
def lb2 : M Fl := (asgM 8 (callM 2 d_next_knots (consA (varM 3) (consA (varM 5) nilA))))
def lb3 : M Fl := (ifM (orT (notT (testM (callM 2 d__law_alike (consA (callM 2 d_knot_box (consA (varM 3) (consA (varM 5) nilA))) (consA (varM 9) nilA))))) (notT (testM (callM 2 d__law_alike (consA (varM 8) (consA (varM 10) nilA)))))) (retM (kM (.bl false))) (pure .next))
def lb4 : M Fl := (exprM (methM "list" 8 (varM 5) opAppend))
def lb5 : M Fl := (exprM (insM 8 (consA (kM (.int 0)) (consA (kM .non) nilA))))
def lb6 : M Fl := (ifM (notT (testM (callM 2 d__law_alike (consA (callM 2 d_next_knots (consA (varM 3) (consA (varM 5) nilA))) (consA (varM 10) nilA))))) (retM (kM (.bl false))) (pure .next))
def lbT : M Fl := seqM lb1 (seqM lb2 (seqM lb3 (seqM lb4 (seqM lb5 (lb6)))))
theorem lb_eq : la5 = forIn lbI (gN 5) lbT := rfl
section
variable {ws : List Wk} {kn : List KE} {st : List Nat} {o : List D} {x : Bag}
theorem trk_newK {d : D} {env : List Slot} {o : List D} {Q : D → Sx → Prop} : Rn (trkM (.new d)) ⟨env, o⟩ Q = Q (.obj o.length) ⟨env, o ++ [d]⟩ := rfl
theorem alk_ok {d : D} {b w : Nat} {o : List D} (h : Nc d b w) (hb : b ≤ 64) (hw : w ≤ 1048576) {Q : Res → List D → Prop} (q : Q (.dat (.bl true)) o) : Dr d__law_alike [d, d] o Q := alike_self h hb hw q
theorem nc_lotsK {x : List (List Int)} (h : x.length ≤ 5 ∧ ∀ e ∈ x, e.length ≤ 5 ∧ ∀ k ∈ e, 0 ≤ k ∧ k < 1000) : Nc (lotsD x) 3 530 := by
  have one : ∀ d ∈ x.map tI, Nc d 2 105 := fun d hd => by
    obtain ⟨e, he, rfl⟩ := List.mem_map.mp hd
    obtain ⟨e5, ek⟩ := h.2 e he
    exact (nc_tup (nc_ints (b := 1) ek)).mono (Nat.le_refl _) (by omega)
  exact (nc_tup (ncs_all one)).mono (Nat.le_refl _) (by rw [List.length_map]; omega)
theorem low_kb (hn : NetOk ws) (hb : LotsOk (nsOf ws) b) : b.length ≤ 5 ∧ ∀ e ∈ b, e.length ≤ 5 ∧ ∀ k ∈ e, 0 ≤ k ∧ k < 1000 := by
  have bl : b.length = ws.length := by have := hb.len; simpa [nsOf] using this
  refine ⟨by have := hn.l5; omega, fun e he => ⟨hb.few e he, fun k hk => ?_⟩⟩
  obtain ⟨i, hi⟩ := mem_ix he
  have hlt : i < ws.length := by rw [← bl]; exact (List.getElem?_eq_some_iff.mp hi).1
  have ew := List.getElem?_eq_getElem hlt
  have s5 := (hn.ok _ (List.getElem_mem hlt)).s5
  have := hb.fit i e _ hi (ns_at ew) k hk
  omega
theorem nc_kn (hn : NetOk ws) (h : KnOk ws kn) : Nc (knD kn) 4 1062 := by
  have k5 := kn_len hn h
  have each : ∀ p ∈ kn, 0 ≤ p.2.1 ∧ p.2.1 < 1000 ∧ p.2.2.length ≤ 5 ∧ ∀ k ∈ p.2.2, 0 ≤ k ∧ k < 1000 := fun p hp => by
    obtain ⟨w, ew, h0, h1, h2, h3, _⟩ := h.at_ p hp
    have ok := hn.ok w (List.mem_of_getElem? ew)
    have s5 := ok.s5; have m4 := ok.m4
    exact ⟨h0, by omega, up_len0 h2 (b := 5) fun k hk => by (have := h3 k hk; omega), fun k hk => by have := h3 k hk; omega⟩
  have e1 : Nc (tI (plK kn)) 3 530 := (nc_tup (nc_ints (b := 2) fun k hk => by
    obtain ⟨p, hp, rfl⟩ := List.mem_map.mp hk
    exact ⟨(each p hp).1, (each p hp).2.1⟩)).mono (Nat.le_refl _) (by simp [plK]; omega)
  have e2 : Nc (lotsD (enK kn)) 3 530 := nc_lotsK ⟨by simp [enK]; exact k5, fun e he => by
    obtain ⟨p, hp, rfl⟩ := List.mem_map.mp he
    exact ⟨(each p hp).2.2.1, (each p hp).2.2.2⟩⟩
  have one : ∀ d ∈ [tI (plK kn), lotsD (enK kn)], Nc d 3 530 := fun d hd => by
    simp only [List.mem_cons, List.not_mem_nil, or_false] at hd
    rcases hd with rfl | rfl
    · exact e1
    · exact e2
  exact (nc_tup (ncs_all one)).mono (Nat.le_refl _) (by simp)
theorem rows_of : ∀ {l : List D} {P : List KE → Prop}, (∀ d ∈ l, ∃ kk, P kk ∧ d = knD kk) → ∃ ks : List (List KE), l = ks.map knD ∧ ∀ kk ∈ ks, P kk
  | [], _, _ => ⟨[], rfl, fun kk m => by cases m⟩
  | d :: l, P, h => by
    obtain ⟨ks, e, q⟩ := rows_of (l := l) fun d hd => h d (.tail _ hd)
    obtain ⟨kk, hk, rfl⟩ := h d (.head _)
    exact ⟨kk :: ks, by rw [e]; rfl, fun j m => by
      rcases List.mem_cons.mp m with rfl | m
      · exact hk
      · exact q j m⟩
theorem nxD_of (hn : NetOk ws) (h : KnOk ws kn) : ∃ ks : List (List KE), nxD ws kn = ks.map knD ∧ ks.length ≤ 40 ∧ ∀ kk ∈ ks, KnOk ws kk ∧ stK kk = stK kn := by
  have k5 := kn_len hn h
  have fa := met_few hn h kn.zipIdx fun q hq => by
    rw [List.mem_zipIdx_iff_getElem?] at hq
    exact List.mem_of_getElem? hq
  have nl : (nxK ws kn).length ≤ 40 := by
    have e : nxK ws kn = metK ws kn kn.zipIdx := rfl
    rw [e]; simp at fa; omega
  have dl : (nxD ws kn).length ≤ 40 := by
    unfold nxD sortD
    rw [List.length_mergeSort, List.length_map]
    have := once_len ((nxK ws kn).map keyK)
    rw [List.length_map] at this
    omega
  obtain ⟨ks, e, q⟩ := rows_of (l := nxD ws kn) (P := fun kk => KnOk ws kk ∧ stK kk = stK kn) fun d hd => by
    unfold nxD sortD at hd
    rw [List.mem_mergeSort] at hd
    obtain ⟨k, hk, rfl⟩ := List.mem_map.mp hd
    obtain ⟨kk, hkk, rfl⟩ := List.mem_map.mp ((onceN_mem _ k).mp hk)
    exact ⟨kk, ⟨nx_ok hn h kk hkk, nx_st hkk⟩, kN_key kk⟩
  exact ⟨ks, e, by rw [e, List.length_map] at dl; exact dl, q⟩
theorem nc_nx (hn : NetOk ws) (h : KnOk ws kn) : Nc (.lst (nxD ws kn)) 5 50000 := by
  obtain ⟨ks, e, l40, q⟩ := nxD_of hn h
  rw [e]
  have one : ∀ d ∈ ks.map knD, Nc d 4 1062 := fun d hd => by
    obtain ⟨kk, hk, rfl⟩ := List.mem_map.mp hd
    exact nc_kn hn (q kk hk).1
  exact (nc_lst (ncs_all one)).mono (Nat.le_refl _) (by rw [List.length_map]; omega)
theorem imms_kn (ks : List (List KE)) : D.imms (ks.map knD) = true := by
  induction ks with
  | nil => rfl
  | cons k ks ih => rw [List.map_cons, D.imms, kn_imm, ih]; rfl
theorem lbT_ok (hn : NetOk ws) (h : KnOk ws kn) {s0 s2 s4 s6 s7 s8 s9 s10 : Slot} {P : Fl → Sx → Prop}
    (q : ∀ s8 s9 s10, P .next ⟨[s0, .dat (.obj 0), s2, .dat (netK ws kn), s4, .dat (knD kn), s6, s7, s8, s9, s10], [bagD x]⟩) :
    Rn lbT ⟨[s0, .dat (.obj 0), s2, .dat (netK ws kn), s4, .dat (knD kn), s6, s7, s8, s9, s10], [bagD x]⟩ P := by
  have hb := kb_ok hn h
  obtain ⟨ks, e, l40, hk⟩ := nxD_of hn h
  unfold lbT
  rw [rn_seq]
  generalize hR : seqM lb2 _ = R
  unfold lb1
  simp!
  with_reducible refine lkb_ok hn h (bag_all x) ?_
  rw [safe_lots (bag_all x)]
  simp!
  with_reducible refine lnk_ok hn h (bag_all x) ?_
  have sn : (Res.new (.lst (nxD ws kn))).safe = true := by rw [e]; exact imms_kn ks
  rw [if_safe sn (bag_all x)]
  unfold parK
  simp!
  rw [← hR, rn_seq]
  generalize hR : seqM lb3 _ = R
  unfold lb2
  simp!
  with_reducible refine nextS_ok hn h (bag_all x) ?_
  rw [if_safe sn (bag_all x)]
  simp!
  rw [← hR, rn_seq]
  generalize hR : seqM lb4 _ = R
  unfold lb3
  simp!
  with_reducible refine kbS_ok hn h (bag_all x) ?_
  rw [safe_lots (bag_all x)]
  simp!
  with_reducible refine alk_ok (nc_lotsK (low_kb hn hb)) (by decide) (by decide) ?_
  rw [if_safe rfl (bag_all x)]
  simp!
  with_reducible refine alk_ok (nc_nx hn h) (by decide) (by decide) ?_
  rw [if_safe rfl (bag_all x)]
  simp!
  rw [← hR, rn_seq]
  generalize hR : seqM lb5 _ = R
  unfold lb4
  simp!
  refine ⟨small_lt (by rw [e, List.length_map]; omega), ?_⟩
  rw [← hR, rn_seq]
  generalize hR : lb6 = R
  unfold lb5 insM
  simp!
  unfold insK
  simp!
  have e2 : opInsert 0 (.lst (nxD ws kn ++ [knD kn])) .non = some (.non, .lst (.non :: (nxD ws kn ++ [knD kn]))) := by
    show (if (nxD ws kn ++ [knD kn]).length < sizeLine ∧ (0 : Int) ≤ 0 ∧ (0 : Int) < 2 ^ 63 then some (D.non, D.lst ((nxD ws kn ++ [knD kn]).take 0 ++ [D.non] ++ (nxD ws kn ++ [knD kn]).drop 0)) else none) = _
    rw [if_pos ⟨small_lt (by rw [List.length_append, e, List.length_map]; simp; omega), by decide, by decide⟩]
    rfl
  refine ⟨_, _, e2, ?_⟩
  rw [← hR]
  unfold lb6
  simp!
  with_reducible refine nextS_ok hn h (bag_all x) ?_
  rw [if_safe sn (bag_all x)]
  simp!
  with_reducible refine alk_ok (nc_nx hn h) (by decide) (by decide) ?_
  rw [if_safe rfl (bag_all x)]
  simp!
  exact q _ _ _
theorem net_st (h : stK kn = st) : netD ws (uI st) = netK ws kn := by unfold netK; rw [h]
theorem laT_ok (hx : BOk x) {s0 s2 s3 s4 s5 s6 s7 s8 s9 s10 : Slot} {P : Fl → Sx → Prop}
    (q : ∀ s3 s4 s5 s6 s7 s8 s9 s10 y, BOk y → P .next ⟨[s0, .dat (.obj 0), s2, s3, s4, s5, s6, s7, s8, s9, s10], [bagD y]⟩) : Rn laT ⟨[s0, .dat (.obj 0), s2, s3, s4, s5, s6, s7, s8, s9, s10], [bagD x]⟩ P := by
  unfold laT
  rw [rn_seq]
  generalize hR : seqM la2 _ = R
  unfold la1
  simp!
  rw [show D.int 3 = .int ((3 : Nat) : Int) from rfl]
  with_reducible refine netS_okS (most := 5) (high := 5) (wide := 4) (deep := 3) (steady := 2) (by decide) (by decide) (by decide) (by decide) (by decide) (by decide) (by decide) (by decide) (by decide) hx fun ws st x1 hn l5 lt l8 up _ hx1 => ?_
  rw [safe_b (net_imm _ _)]
  simp!
  rw [← hR, rn_seq]
  generalize hR : seqM la3 _ = R
  have f0 := f0_ok hn lt up
  have f1 := f0_st ws st
  unfold la2
  simp!
  with_reducible refine begin_ok hn lt l8 (bag_all x1) ?_
  rw [safe_kn (bag_all x1)]
  simp!
  rw [← hR, rn_seq]
  generalize hR : seqM la4 _ = R
  unfold la3
  rw [net_st f1]
  simp!
  with_reducible refine firstS_ok hn lt l8 (bag_all x1) ?_
  rw [safe_kn (bag_all x1)]
  simp!
  with_reducible refine alk_ok (nc_kn hn f0) (by decide) (by decide) ?_
  rw [if_safe rfl (bag_all x1)]
  simp!
  rw [← hR, rn_seq]
  generalize hR : la5 = R
  unfold la4
  rw [← net_st f1]
  simp!
  with_reducible refine any_ok hn lt l8 up hx1 fun one x2 k1 t1 hx2 => ?_
  rw [safe_kn (bag_all x2)]
  simp!
  with_reducible refine any_ok hn lt l8 up hx2 fun two x3 k2 t2 hx3 => ?_
  rw [safe_kn (bag_all x3)]
  unfold parK
  simp!
  obtain ⟨ks, e, l40, hk⟩ := nxD_of hn k1
  rw [← hR, lb_eq]
  generalize hT : lbT = T
  unfold lbI
  rw [net_st t1]
  simp!
  refine ⟨small_le (by decide), ?_⟩
  with_reducible refine lnk_ok hn k1 (bag_all x3) ?_
  have sn : (Res.new (.lst (nxD ws one))).safe = true := by rw [e]; exact imms_kn ks
  rw [if_safe sn (bag_all x3)]
  have cut : cutD (nxD ws one) none (some 2) = (ks.take 2).map knD := by
    rw [e, List.map_take]; exact cut_take _ 2
  simp! [cut]
  have lt2 : (ks.take 2).length ≤ 2 := by rw [List.length_take]; omega
  refine ⟨small_le (by simp; omega), ?_⟩
  rw [← net_st t1]
  have all_ok : ∀ kk ∈ [f0K ws st, one, two, one] ++ ks.take 2, KnOk ws kk ∧ stK kk = st := fun kk m => by
    rcases List.mem_append.mp m with m | m
    · simp only [List.mem_cons, List.not_mem_nil, or_false] at m
      rcases m with rfl | rfl | rfl | rfl
      · exact ⟨f0, f1⟩
      · exact ⟨k1, t1⟩
      · exact ⟨k2, t2⟩
      · exact ⟨k1, t1⟩
    · obtain ⟨h1, h2⟩ := hk kk (List.mem_of_mem_take m)
      exact ⟨h1, h2.trans t1⟩
  have em : [knD (f0K ws st), knD one, knD two, knD one] ++ (ks.take 2).map knD = ([f0K ws st, one, two, one] ++ ks.take 2).map knD := by simp
  generalize hA : [f0K ws st, one, two, one] ++ ks.take 2 = all at all_ok em
  first
  | rw [em]
  | rw [show knD (f0K ws st) :: knD one :: knD two :: knD one :: (ks.take 2).map knD = all.map knD from em]
  refine for_of (f := knD) (all := all) (a := []) (r := all) (I := fun a r S => ∃ s5 s8 s9 s10, S = ⟨[s0, .dat (.obj 0), s2, .dat (netD ws (uI st)), .dat (knD (f0K ws st)), s5, .dat (knD one), .dat (knD two), s8, s9, s10], [bagD x3]⟩) rfl ⟨_, _, _, _, rfl⟩ ?_ ?_
  · rintro a kk r S eA ⟨s5, s8, s9, s10, rfl⟩
    obtain ⟨h1, h2⟩ := all_ok kk (by rw [eA]; simp)
    rw [← hT]
    simp!
    rw [net_st h2]
    with_reducible refine lbT_ok hn h1 fun s8 s9 s10 => ?_
    exact ⟨_, _, _, _, rfl⟩
  · rintro S ⟨s5, s8, s9, s10, rfl⟩
    exact q _ _ _ _ _ _ _ _ x3 hx3
theorem law_true : ∀ ns : List Int, ns.length ≤ 63 → ∃ objs, d_law [.rol (ns.map .int)] [] = some (.ok (.dat (.bl true)), objs) := by
  intro ns hl
  have key : Dr d_law [.rol (ns.map .int)] [] fun r o => r = .dat (.bl true) := by
    unfold d_law
    rw [dr_run, la_eq, rn_seq]
    generalize hR : seqM _ laR = R
    unfold laA0
    simp! [List.replicate]
    refine bag_ok hl fun x hx => ?_
    rw [if_safe (show (Res.new (bagD x)).safe = true from bag_imm x) rfl]
    simp! [trk_newK]
    rw [← hR]
    generalize hT : laT = T
    unfold laI
    simp! [rng1I]
    refine ⟨by decide, ?_⟩
    rw [show (3 : Int).toNat = 3 from rfl, ← hT]
    refine for_rng (n := 3) (I := fun i S => ∃ s2 s3 s4 s5 s6 s7 s8 s9 s10 y, BOk y ∧ S = ⟨[.dat (.rol (ns.map .int)), .dat (.obj 0), s2, s3, s4, s5, s6, s7, s8, s9, s10], [bagD y]⟩) ⟨_, _, _, _, _, _, _, _, _, x, hx, rfl⟩ ?_ ?_
    · rintro i S hi ⟨s2, s3, s4, s5, s6, s7, s8, s9, s10, y, hy, rfl⟩
      simp!
      with_reducible refine laT_ok hy fun s3 s4 s5 s6 s7 s8 s9 s10 y2 hy2 => ?_
      exact ⟨_, _, _, _, _, _, _, _, _, y2, hy2, rfl⟩
    · rintro S ⟨s2, s3, s4, s5, s6, s7, s8, s9, s10, y, hy, rfl⟩
      unfold laR
      simp!
  obtain ⟨r, objs, e, h⟩ := key.ex
  exact ⟨objs, by rw [e, h]⟩
end
end LW
end
section
open PySem PySem.W PyProof.Rows
set_option maxRecDepth 100000 in
set_option maxHeartbeats 0 in
theorem PySem.Challenge.cw_oldletters_k40_knots_and_their_boxes_holds : PySem.Challenge.rw_oldletters_k40_knots_and_their_boxes.Holds := by
  w_on; o_law; k_head; (case hw => w_witness2)
  k_fill
  refine LW.walk rfl rfl (fun w h Y => PySem.W.kIn_of Y) ?T LW.law_true
  case T =>
    intro w mg h KX G
    constructor
    case f_steps_of =>
      refine' DL.fn0_mk KX G ?a ?l ?c ?k ?b
      (case a => k_is); (case l => k_is); (case c => k_is); (case k => k_is)
      (case b => exact fun F => F.binds fun _ _ _ _ _ _ us hl => match us, hl with | [_, _], _ => rfl)
    case f_results_of =>
      refine' DL.fn0_mk KX G ?a ?l ?c ?k ?b
      (case a => k_is); (case l => k_is); (case c => k_is); (case k => k_is)
      (case b => exact fun F => F.binds fun _ _ _ _ _ _ us hl => match us, hl with | [_, _], _ => rfl)
    case f_is_integer =>
      refine' DL.fn0_mk KX G ?a ?l ?c ?k ?b
      (case a => k_is); (case l => k_is); (case c => k_is); (case k => k_is)
      (case b => exact fun F => F.binds fun _ _ _ _ _ _ us hl => match us, hl with | [_], _ => rfl)
    case f_is_index =>
      refine' DL.fn0_mk KX G ?a ?l ?c ?k ?b
      (case a => k_is); (case l => k_is); (case c => k_is); (case k => k_is)
      (case b => exact fun F => F.binds fun _ _ _ _ _ _ us hl => match us, hl with | [_, _], _ => rfl)
    case f_looked_at =>
      refine' DL.fn0_mk KX G ?a ?l ?c ?k ?b
      (case a => k_is); (case l => k_is); (case c => k_is); (case k => k_is)
      (case b => exact fun F => F.binds fun _ _ _ _ _ _ us hl => match us, hl with | [_, _], _ => rfl)
    case f_letter_at =>
      refine' DL.fn0_mk KX G ?a ?l ?c ?k ?b
      (case a => k_is); (case l => k_is); (case c => k_is); (case k => k_is)
      (case b => exact fun F => F.binds fun _ _ _ _ _ _ us hl => match us, hl with | [_, _, _], _ => rfl)
    case f_code_at =>
      refine' DL.fn0_mk KX G ?a ?l ?c ?k ?b
      (case a => k_is); (case l => k_is); (case c => k_is); (case k => k_is)
      (case b => exact fun F => F.binds fun _ _ _ _ _ _ us hl => match us, hl with | [_, _, _], _ => rfl)
    case f_shown_lots =>
      refine' DL.fn0_mk KX G ?a ?l ?c ?k ?b
      (case a => k_is); (case l => k_is); (case c => k_is); (case k => k_is)
      (case b => exact fun F => F.binds fun _ _ _ _ _ _ us hl => match us, hl with | [_, _], _ => rfl)
    case f_joined_lots =>
      refine' DL.fn0_mk KX G ?a ?l ?c ?k ?b
      (case a => k_is); (case l => k_is); (case c => k_is); (case k => k_is)
      (case b => exact fun F => F.binds fun _ _ _ _ _ _ us hl => match us, hl with | [_, _], _ => rfl)
    case f_stepped =>
      refine' DL.fn0_mk KX G ?a ?l ?c ?k ?b
      (case a => k_is); (case l => k_is); (case c => k_is); (case k => k_is)
      (case b => exact fun F => F.binds fun _ _ _ _ _ _ us hl => match us, hl with | [_, _, _, _, _], _ => rfl)
    case f_grown =>
      refine' DL.fn0_mk KX G ?a ?l ?c ?k ?b
      (case a => k_is); (case l => k_is); (case c => k_is); (case k => k_is)
      (case b => exact fun F => F.binds fun _ _ _ _ _ _ us hl => match us, hl with | [_, _, _, _, _], _ => rfl)
    case f_first_knot =>
      refine' DL.fn0_mk KX G ?a ?l ?c ?k ?b
      (case a => k_is); (case l => k_is); (case c => k_is); (case k => k_is)
      (case b => exact fun F => F.binds fun _ _ _ _ _ _ us hl => match us, hl with | [_], _ => rfl)
    case f_movers_of =>
      refine' DL.fn0_mk KX G ?a ?l ?c ?k ?b
      (case a => k_is); (case l => k_is); (case c => k_is); (case k => k_is)
      (case b => exact fun F => F.binds fun _ _ _ _ _ _ us hl => match us, hl with | [_], _ => rfl)
    case f_lots_of_knot =>
      refine' DL.fn0_mk KX G ?a ?l ?c ?k ?b
      (case a => k_is); (case l => k_is); (case c => k_is); (case k => k_is)
      (case b => exact fun F => F.binds fun _ _ _ _ _ _ us hl => match us, hl with | [_, _], _ => rfl)
    case f_knot_box =>
      refine' DL.fn0_mk KX G ?a ?l ?c ?k ?b
      (case a => k_is); (case l => k_is); (case c => k_is); (case k => k_is)
      (case b => exact fun F => F.binds fun _ _ _ _ _ _ us hl => match us, hl with | [_, _], _ => rfl)
    case f_behind_knot =>
      refine' DL.fn0_mk KX G ?a ?l ?c ?k ?b
      (case a => k_is); (case l => k_is); (case c => k_is); (case k => k_is)
      (case b => exact fun F => F.binds fun _ _ _ _ _ _ us hl => match us, hl with | [_, _, _, _], _ => rfl)
    case f_about_knot =>
      refine' DL.fn0_mk KX G ?a ?l ?c ?k ?b
      (case a => k_is); (case l => k_is); (case c => k_is); (case k => k_is)
      (case b => exact fun F => F.binds fun _ _ _ _ _ _ us hl => match us, hl with | [_, _], _ => rfl)
    case f_knots_by =>
      refine' DL.fn0_mk KX G ?a ?l ?c ?k ?b
      (case a => k_is); (case l => k_is); (case c => k_is); (case k => k_is)
      (case b => exact fun F => F.binds fun _ _ _ _ _ _ us hl => match us, hl with | [_, _, _], _ => rfl)
    case f_next_knots =>
      refine' DL.fn0_mk KX G ?a ?l ?c ?k ?b
      (case a => k_is); (case l => k_is); (case c => k_is); (case k => k_is)
      (case b => exact fun F => F.binds fun _ _ _ _ _ _ us hl => match us, hl with | [_, _], _ => rfl)
    case f__law_bag =>
      refine' DL.fn0_mk KX G ?a ?l ?c ?k ?b
      (case a => k_is); (case l => k_is); (case c => k_is); (case k => k_is)
      (case b => exact fun F => F.binds fun _ _ _ _ _ _ us hl => match us, hl with | [_], _ => rfl)
    case f__law_take =>
      refine' DL.fn0_mk KX G ?a ?l ?c ?k ?b
      (case a => k_is); (case l => k_is); (case c => k_is); (case k => k_is)
      (case b => exact fun F => F.binds fun _ _ _ _ _ _ us hl => match us, hl with | [_, _], _ => rfl)
    case f__law_alike =>
      refine' DL.fn0_mk KX G ?a ?l ?c ?k ?b
      (case a => k_is); (case l => k_is); (case c => k_is); (case k => k_is)
      (case b => exact fun F => F.binds fun _ _ _ _ _ _ us hl => match us, hl with | [_, _], _ => rfl)
    case f__law_free =>
      refine' DL.fn0_mk KX G ?a ?l ?c ?k ?b
      (case a => k_is); (case l => k_is); (case c => k_is); (case k => k_is)
      (case b => exact fun F => F.binds fun _ _ _ _ _ _ us hl => match us, hl with | [_, _, _, _, _], _ => rfl)
    case f__law_form =>
      refine' DL.fn0_mk KX G ?a ?l ?c ?k ?b
      (case a => k_is); (case l => k_is); (case c => k_is); (case k => k_is)
      (case b => exact fun F => F.binds fun _ _ _ _ _ _ us hl => match us, hl with | [_, _, _, _, _], _ => rfl)
    case f__law_worker =>
      refine' DL.fn0_mk KX G ?a ?l ?c ?k ?b
      (case a => k_is); (case l => k_is); (case c => k_is); (case k => k_is)
      (case b => exact fun F => F.binds fun _ _ _ _ _ _ us hl => match us, hl with | [_, _, _, _, _], _ => rfl)
    case f__law_net =>
      refine' DL.fn0_mk KX G ?a ?l ?c ?k ?b
      (case a => k_is); (case l => k_is); (case c => k_is); (case k => k_is)
      (case b => exact fun F => F.binds fun _ _ _ _ _ _ us hl => match us, hl with | [_, _, _, _, _, _], _ => rfl)
    case f__law_lot =>
      refine' DL.fn0_mk KX G ?a ?l ?c ?k ?b
      (case a => k_is); (case l => k_is); (case c => k_is); (case k => k_is)
      (case b => exact fun F => F.binds fun _ _ _ _ _ _ us hl => match us, hl with | [_, _], _ => rfl)
    case f__law_steps =>
      refine' DL.fn0_mk KX G ?a ?l ?c ?k ?b
      (case a => k_is); (case l => k_is); (case c => k_is); (case k => k_is)
      (case b => exact fun F => F.binds fun _ _ _ _ _ _ us hl => match us, hl with | [_, _], _ => rfl)
    case f__law_results =>
      refine' DL.fn0_mk KX G ?a ?l ?c ?k ?b
      (case a => k_is); (case l => k_is); (case c => k_is); (case k => k_is)
      (case b => exact fun F => F.binds fun _ _ _ _ _ _ us hl => match us, hl with | [_, _], _ => rfl)
    case f__law_shown =>
      refine' DL.fn0_mk KX G ?a ?l ?c ?k ?b
      (case a => k_is); (case l => k_is); (case c => k_is); (case k => k_is)
      (case b => exact fun F => F.binds fun _ _ _ _ _ _ us hl => match us, hl with | [_, _], _ => rfl)
    case f__law_grown =>
      refine' DL.fn0_mk KX G ?a ?l ?c ?k ?b
      (case a => k_is); (case l => k_is); (case c => k_is); (case k => k_is)
      (case b => exact fun F => F.binds fun _ _ _ _ _ _ us hl => match us, hl with | [_, _, _, _, _], _ => rfl)
    case f__law_knot_box =>
      refine' DL.fn0_mk KX G ?a ?l ?c ?k ?b
      (case a => k_is); (case l => k_is); (case c => k_is); (case k => k_is)
      (case b => exact fun F => F.binds fun _ _ _ _ _ _ us hl => match us, hl with | [_, _], _ => rfl)
    case f__law_knot_next =>
      refine' DL.fn0_mk KX G ?a ?l ?c ?k ?b
      (case a => k_is); (case l => k_is); (case c => k_is); (case k => k_is)
      (case b => exact fun F => F.binds fun _ _ _ _ _ _ us hl => match us, hl with | [_, _], _ => rfl)
    case f__law_knot_any =>
      refine' DL.fn0_mk KX G ?a ?l ?c ?k ?b
      (case a => k_is); (case l => k_is); (case c => k_is); (case k => k_is)
      (case b => exact fun F => F.binds fun _ _ _ _ _ _ us hl => match us, hl with | [_, _], _ => rfl)
    case f__law_begin_knot =>
      refine' DL.fn0_mk KX G ?a ?l ?c ?k ?b
      (case a => k_is); (case l => k_is); (case c => k_is); (case k => k_is)
      (case b => exact fun F => F.binds fun _ _ _ _ _ _ us hl => match us, hl with | [_], _ => rfl)
    case f_law =>
      refine' DL.fn0_mk KX G ?a ?l ?c ?k ?b
      (case a => k_is); (case l => k_is); (case c => k_is); (case k => k_is)
      (case b => exact fun F => F.binds fun _ _ _ _ _ _ us hl => match us, hl with | [_], _ => rfl)
    case m_abs => exact PySem.W.mg_none_of KX G (by k_is)
    case m_bool => exact PySem.W.mg_none_of KX G (by k_is)
    case m_enumerate => exact PySem.W.mg_none_of KX G (by k_is)
    case m_int => exact PySem.W.mg_none_of KX G (by k_is)
    case m_isinstance => exact PySem.W.mg_none_of KX G (by k_is)
    case m_len => exact PySem.W.mg_none_of KX G (by k_is)
    case m_list => exact PySem.W.mg_none_of KX G (by k_is)
    case m_max => exact PySem.W.mg_none_of KX G (by k_is)
    case m_min => exact PySem.W.mg_none_of KX G (by k_is)
    case m_range => exact PySem.W.mg_none_of KX G (by k_is)
    case m_repr => exact PySem.W.mg_none_of KX G (by k_is)
    case m_set => exact PySem.W.mg_none_of KX G (by k_is)
    case m_sorted => exact PySem.W.mg_none_of KX G (by k_is)
    case m_sum => exact PySem.W.mg_none_of KX G (by k_is)
    case m_tuple => exact PySem.W.mg_none_of KX G (by k_is)
    case m_zip => exact PySem.W.mg_none_of KX G (by k_is)
    case x_NoState =>
      refine' DL.own_mk KX G (p1 := ⟨6, 17, 6, 21⟩) (p2 := ⟨6, 23, 6, 28⟩) (q1 := ⟨7, 8, 7, 12⟩) (q2 := ⟨7, 8, 7, 18⟩) (q3 := ⟨7, 21, 7, 26⟩) (q4 := ⟨7, 8, 7, 26⟩) ?aC ?xL ?hbm ?sa ?ga ?gg ?nb ?a1 ?t1 ?l1 ?c1 ?kC ?eC ?tC ?hC ?iC ?sC
      (case aC => k_is); (case xL => k_is); (case hbm => rfl); (case sa => k_is); (case ga => k_is); (case gg => k_is); (case nb => k_is); (case a1 => k_is); (case t1 => k_is); (case l1 => k_is); (case c1 => k_is)
      (case kC => k_is); (case eC => k_is); (case tC => k_is); (case hC => k_is); (case iC => k_is); (case sC => first | rfl | k_is)
    case x_NoWorker =>
      refine' DL.own_mk KX G (p1 := ⟨10, 17, 10, 21⟩) (p2 := ⟨10, 23, 10, 29⟩) (q1 := ⟨11, 8, 11, 12⟩) (q2 := ⟨11, 8, 11, 19⟩) (q3 := ⟨11, 22, 11, 28⟩) (q4 := ⟨11, 8, 11, 28⟩) ?aC ?xL ?hbm ?sa ?ga ?gg ?nb ?a1 ?t1 ?l1 ?c1 ?kC ?eC ?tC ?hC ?iC ?sC
      (case aC => k_is); (case xL => k_is); (case hbm => rfl); (case sa => k_is); (case ga => k_is); (case gg => k_is); (case nb => k_is); (case a1 => k_is); (case t1 => k_is); (case l1 => k_is); (case c1 => k_is)
      (case kC => k_is); (case eC => k_is); (case tC => k_is); (case hC => k_is); (case iC => k_is); (case sC => first | rfl | k_is)
end
