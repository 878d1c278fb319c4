import PyProof.Rows.All
import Wide.All
import OpenK.AllK
import Wide.FinOn
import HandS.ForMost
import HandS.CallSlots
import HandS.TupAny
import HandS.Flow
import HandS.Deep
import HandS.Zip
import HandS.Style
import HandS.Conv
import HandS.Strs
import HandS.TupSets
import KE.SortUse
import KE.DataMinMax
import HandS.Ends
import PySem.Challenge.RW_oldletters_k23_torn_states
set_option Elab.async false
set_option linter.all false
section
set_option maxRecDepth 100000
namespace DL
open PySem PySem.Spec L2

/-! ## data -/
inductive D where
  | non | bl (b : Bool) | int (i : Int) | str (x : Str) | tup (ds : List D) | lst (ds : List D) | dct (t : Bool) (ks vs : List D) | rol (ds : List D) | obj (n : Nat) | opq (v : V)
mutual
def D.beq : D → D → Bool
  | .non, .non => true
  | .bl a, .bl b => decide (a = b)
  | .int a, .int b => decide (a = b)
  | .str a, .str b => decide (a = b)
  | .tup a, .tup b => D.beqs a b
  | .lst a, .lst b => D.beqs a b
  | .rol a, .rol b => D.beqs a b
  | .dct t a c, .dct u b d => decide (t = u) && (D.beqs a b && D.beqs c d)
  | .obj a, .obj b => decide (a = b)
  | .opq a, .opq b => decide (a = b)
  | _, _ => false
def D.beqs : List D → List D → Bool
  | [], [] => true
  | a :: r, b :: s => D.beq a b && D.beqs r s
  | _, _ => false
end
mutual
theorem D.beq_of : ∀ a b : D, D.beq a b = true → a = b
  | .non, b, h => by cases b <;> simp [D.beq] at h ⊢
  | .bl a, b, h => by cases b <;> simp [D.beq] at h ⊢; exact h
  | .int a, b, h => by cases b <;> simp [D.beq] at h ⊢; exact h
  | .str a, b, h => by cases b <;> simp [D.beq] at h ⊢; exact h
  | .tup a, b, h => by cases b <;> simp [D.beq] at h ⊢; exact D.beqs_of _ _ h
  | .lst a, b, h => by cases b <;> simp [D.beq] at h ⊢; exact D.beqs_of _ _ h
  | .rol a, b, h => by cases b <;> simp [D.beq] at h ⊢; exact D.beqs_of _ _ h
  | .dct t a c, b, h => by cases b <;> simp [D.beq] at h ⊢; exact ⟨h.1, D.beqs_of _ _ h.2.1, D.beqs_of _ _ h.2.2⟩
  | .obj a, b, h => by cases b <;> simp [D.beq] at h ⊢; exact h
  | .opq a, b, h => by cases b <;> simp [D.beq] at h ⊢; exact h
theorem D.beqs_of : ∀ a b : List D, D.beqs a b = true → a = b
  | [], b, h => by cases b <;> simp [D.beqs] at h ⊢
  | a :: r, b, h => by
    cases b with
    | nil => simp [D.beqs] at h
    | cons b s => simp [D.beqs] at h; rw [D.beq_of a b h.1, D.beqs_of r s h.2]
end
mutual
theorem D.beq_refl : ∀ a : D, D.beq a a = true
  | .non => by simp [D.beq]
  | .bl a => by simp [D.beq]
  | .int a => by simp [D.beq]
  | .str a => by simp [D.beq]
  | .tup a => by simp [D.beq, D.beqs_refl a]
  | .lst a => by simp [D.beq, D.beqs_refl a]
  | .rol a => by simp [D.beq, D.beqs_refl a]
  | .dct t a c => by simp [D.beq, D.beqs_refl a, D.beqs_refl c]
  | .obj a => by simp [D.beq]
  | .opq a => by simp [D.beq]
theorem D.beqs_refl : ∀ a : List D, D.beqs a a = true
  | [] => by simp [D.beqs]
  | a :: r => by simp [D.beqs, D.beq_refl a, D.beqs_refl r]
end
instance : DecidableEq D := fun a b => if h : D.beq a b = true then isTrue (D.beq_of a b h) else isFalse fun e => h (e ▸ D.beq_refl a)
mutual
/-- nothing in it can change -/
def D.imm : D → Bool
  | .tup ds => D.imms ds
  | .lst _ => false
  | .dct _ _ _ => false
  | .rol ds => D.imms ds
  | _ => true
def D.imms : List D → Bool
  | [] => true
  | d :: r => d.imm && D.imms r
end

/-! ## how data lies in a heap -/
/-- what is written to (bad), and where the tracked objects lie -/
structure Gh where
  bad : Addr → Prop
  om : List Addr
def kD : Key → D
  | .inl i => .int i
  | .inr x => .str x
inductive DcAt : HO → Bool → List D → List V → Prop
  | dK (kvs : List (Key × V)) : DcAt (.dK kvs) false (kvs.map fun p => kD p.1) (kvs.map (·.2))
  | dT (kvs : List (List Key × V)) : DcAt (.dT kvs) true (kvs.map fun p => .tup (p.1.map kD)) (kvs.map (·.2))
/-- a list that nobody writes to: frozen, or the module's own -/
def RoL (K : PySem.W.Frag) (H : Hp) (a : Addr) (xs : List V) : Prop :=
  (∃ o, H a = some (.frz o (.lst xs))) ∨
    ∃ (o : Obj) (its : Array Value) (n : Nat),
      K.lookup a = some o ∧
        o.cls = .type "list" ∧
          o.dict = none ∧ o.data = .seq its n ∧
            its.size ≤ sizeLine ∧ Vals xs its.toList
theorem RoL.sq {K : PySem.W.Frag} {H : Hp} {a : Addr} {xs : List V} (h : RoL K H a xs) : SqL K H a xs := by
  rcases h with ⟨o, h⟩ | h
  · exact .inl (.inr ⟨o, h⟩)
  · exact .inr h
mutual
inductive Rp (K : PySem.W.Frag) (H : Hp) (g : Gh) : V → D → Prop
  | non : Rp K H g .non .non
  | bl (b : Bool) : Rp K H g (.bl b) (.bl b)
  | int (i : Int) : Rp K H g (.int i) (.int i)
  | str (x : Str) : Rp K H g (.str x) (.str x)
  | tup {a : Addr} {xs : List V} {ds : List D} : H a = some (.tup xs) → RpA K H g xs ds → Rp K H g (.ref a) (.tup ds)
  | lst {a : Addr} {xs : List V} {ds : List D} : H a = some (.lst xs) → ¬ g.bad a → RpA K H g xs ds → Rp K H g (.ref a) (.lst ds)
  | dct {a : Addr} {o : HO} {t : Bool} {ks vs : List D} {ws : List V} : H a = some o → DcAt o t ks ws → ¬ g.bad a → RpA K H g ws vs → Rp K H g (.ref a) (.dct t ks vs)
  | rol {a : Addr} {xs : List V} {ds : List D} : RoL K H a xs → RpA K H g xs ds → Rp K H g (.ref a) (.rol ds)
  | obj {a : Addr} {n : Nat} : g.om[n]? = some a → Rp K H g (.ref a) (.obj n)
  | opq (v : V) : Rp K H g v (.opq v)
inductive RpA (K : PySem.W.Frag) (H : Hp) (g : Gh) : List V → List D → Prop
  | nil : RpA K H g [] []
  | cons {v : V} {vs : List V} {d : D} {ds : List D} : Rp K H g v d → RpA K H g vs ds → RpA K H g (v :: vs) (d :: ds)
end
/-- the frame: what is not written to stays -/
structure Fr (H : Hp) (g : Gh) (H' : Hp) (g' : Gh) : Prop where
  keep : ∀ a o, H a = some o → ¬ g.bad a → H' a = some o ∧ ¬ g'.bad a
  om : g.om <+: g'.om
/-- what is written to can be written to -/
def Mu (H : Hp) (g : Gh) : Prop := ∀ a, g.bad a → Mut (H a)
section
variable {K : PySem.W.Frag} {H H' H1 H2 : Hp} {g g' g1 g2 : Gh}
theorem Fr.refl (H : Hp) (g : Gh) : Fr H g H g := ⟨fun _ _ h n => ⟨h, n⟩, List.prefix_rfl⟩
theorem Fr.trans (a : Fr H g H1 g1) (b : Fr H1 g1 H2 g2) : Fr H g H2 g2 :=
  ⟨fun c o h n => let ⟨h1, n1⟩ := a.keep c o h n; b.keep c o h1 n1, a.om.trans b.om⟩
theorem Fr.less (hb : ∀ a, g'.bad a → g.bad a) (ho : g.om = g'.om) : Fr H g H g' := ⟨fun _ _ h n => ⟨h, fun z => n (hb _ z)⟩, ho ▸ List.prefix_rfl⟩
theorem pre_get {α : Type} {l m : List α} {n : Nat} {a : α} (h : l <+: m) (e : l[n]? = some a) : m[n]? = some a := by
  obtain ⟨t, rfl⟩ := h
  have hl : n < l.length := (List.getElem?_eq_some_iff.mp e).1
  rw [List.getElem?_append_left hl]; exact e
theorem Fr.tup (f : Fr H g H' g') (m : Mu H g) {a : Addr} {xs : List V} (h : H a = some (.tup xs)) : H' a = some (.tup xs) :=
  (f.keep _ _ h fun z => by have := m _ z; rw [h] at this; exact this).1
theorem Fr.rol (f : Fr H g H' g') (m : Mu H g) {a : Addr} {xs : List V} (h : RoL K H a xs) : RoL K H' a xs := by
  rcases h with ⟨o, h⟩ | h
  · exact .inl ⟨o, (f.keep _ _ h fun z => by have := m _ z; rw [h] at this; exact this).1⟩
  · exact .inr h
mutual
theorem Rp.fr (f : Fr H g H' g') (m : Mu H g) {v : V} : ∀ {d : D}, Rp K H g v d → Rp K H' g' v d
  | _, .non => .non
  | _, .bl b => .bl b
  | _, .int b => .int b
  | _, .str b => .str b
  | _, .tup h r => .tup (f.tup m h) (RpA.fr f m r)
  | _, .lst h n r => .lst (f.keep _ _ h n).1 (f.keep _ _ h n).2 (RpA.fr f m r)
  | _, .dct h c n r => .dct (f.keep _ _ h n).1 c (f.keep _ _ h n).2 (RpA.fr f m r)
  | _, .rol h r => .rol (f.rol m h) (RpA.fr f m r)
  | _, .obj h => .obj (pre_get f.om h)
  | _, .opq v => .opq v
theorem RpA.fr (f : Fr H g H' g') (m : Mu H g) {vs : List V} : ∀ {ds : List D}, RpA K H g vs ds → RpA K H' g' vs ds
  | _, .nil => .nil
  | _, .cons h r => .cons (Rp.fr f m h) (RpA.fr f m r)
end
mutual
/-- data in which nothing can change does not ask what is written to -/
theorem Rp.im (ho : g.om <+: g'.om) {v : V} : ∀ {d : D}, Rp K H g v d → d.imm = true → Rp K H g' v d
  | _, .non, _ => .non
  | _, .bl b, _ => .bl b
  | _, .int b, _ => .int b
  | _, .str b, _ => .str b
  | _, .tup h r, i => .tup h (RpA.im ho r (by simpa [D.imm] using i))
  | _, .lst h n r, i => by simp [D.imm] at i
  | _, .dct h c n r, i => by simp [D.imm] at i
  | _, .rol h r, i => .rol h (RpA.im ho r (by simpa [D.imm] using i))
  | _, .obj h, _ => .obj (pre_get ho h)
  | _, .opq v, _ => .opq v
theorem RpA.im (ho : g.om <+: g'.om) {vs : List V} : ∀ {ds : List D}, RpA K H g vs ds → D.imms ds = true → RpA K H g' vs ds
  | _, .nil, _ => .nil
  | _, .cons h r, i => by
    simp [D.imms] at i
    exact .cons (Rp.im ho h i.1) (RpA.im ho r i.2)
end
theorem RpA.length : ∀ {vs : List V} {ds : List D}, RpA K H g vs ds → vs.length = ds.length
  | _, _, .nil => rfl
  | _, _, .cons _ r => congrArg Nat.succ (RpA.length r)
theorem RpA.get : ∀ {vs : List V} {ds : List D} {i : Nat} {d : D}, RpA K H g vs ds → ds[i]? = some d → ∃ v, vs[i]? = some v ∧ Rp K H g v d
  | _, _, _, _, .nil, e => by simp at e
  | _, _, 0, _, .cons r _, e => by simp at e; subst e; exact ⟨_, rfl, r⟩
  | _, _, i + 1, d, .cons _ t, e => by
    obtain ⟨u, h1, h2⟩ := RpA.get (i := i) (d := d) t (by simpa using e)
    exact ⟨u, by simpa using h1, h2⟩
theorem RpA.getV : ∀ {vs : List V} {ds : List D} {i : Nat} {v : V}, RpA K H g vs ds → vs[i]? = some v → ∃ d, ds[i]? = some d ∧ Rp K H g v d
  | _, _, _, _, .nil, e => by simp at e
  | _, _, 0, _, .cons r _, e => by simp at e; subst e; exact ⟨_, rfl, r⟩
  | _, _, i + 1, d, .cons _ t, e => by
    obtain ⟨u, h1, h2⟩ := RpA.getV (i := i) (v := d) t (by simpa using e)
    exact ⟨u, by simpa using h1, h2⟩
theorem RpA.append : ∀ {vs ws : List V} {ds es : List D}, RpA K H g vs ds → RpA K H g ws es → RpA K H g (vs ++ ws) (ds ++ es)
  | _, _, _, _, .nil, s => s
  | _, _, _, _, .cons r t, s => .cons r (RpA.append t s)
theorem RpA.take : ∀ {vs : List V} {ds : List D} (n : Nat), RpA K H g vs ds → RpA K H g (vs.take n) (ds.take n)
  | _, _, 0, _ => .nil
  | _, _, _ + 1, .nil => .nil
  | _, _, n + 1, .cons r t => .cons r (RpA.take n t)
theorem RpA.drop : ∀ {vs : List V} {ds : List D} (n : Nat), RpA K H g vs ds → RpA K H g (vs.drop n) (ds.drop n)
  | _, _, 0, r => r
  | _, _, _ + 1, .nil => .nil
  | _, _, n + 1, .cons _ t => RpA.drop n t
theorem RpA.set {v : V} {d : D} (q : Rp K H g v d) : ∀ {vs : List V} {ds : List D} (n : Nat), RpA K H g vs ds → RpA K H g (vs.set n v) (ds.set n d)
  | _, _, _, .nil => .nil
  | _, _, 0, .cons r t => .cons q t
  | _, _, n + 1, .cons r t => .cons r (RpA.set q n t)
theorem RpA.rev {vs : List V} {ds : List D} (h : RpA K H g vs ds) : RpA K H g vs.reverse ds.reverse := by
  induction vs generalizing ds with
  | nil => cases h; exact .nil
  | cons v vs ih => cases h with | cons a b => rw [List.reverse_cons, List.reverse_cons]; exact (ih b).append (.cons a .nil)
theorem RpA.dropLast : ∀ {vs : List V} {ds : List D}, RpA K H g vs ds → RpA K H g vs.dropLast ds.dropLast
  | _, _, .nil => .nil
  | _, _, .cons _ .nil => .nil
  | _, _, .cons r (.cons s t) => .cons r (RpA.dropLast (.cons s t))
end

/-- what stands at the address of an object that can be written to -/
inductive Root (K : PySem.W.Frag) (H : Hp) (g : Gh) (a : Addr) : D → Prop
  | lst {xs : List V} {ds : List D} : H a = some (.lst xs) → RpA K H g xs ds → Root K H g a (.lst ds)
  | dct {o : HO} {t : Bool} {ks vs : List D} {ws : List V} : H a = some o → DcAt o t ks ws → RpA K H g ws vs → Root K H g a (.dct t ks vs)
/-- the parts of an object -/
def D.parts : D → List D
  | .lst ds => ds
  | .dct _ _ vs => vs
  | _ => []
section
variable {K : PySem.W.Frag} {H H' H1 H2 : Hp} {g g' g1 g2 : Gh} {a : Addr} {d : D}
theorem Root.fr (f : Fr H g H' g') (m : Mu H g) (e : H' a = H a) (r : Root K H g a d) : Root K H' g' a d := by
  cases r with
  | lst h r => exact .lst (e.trans h) (r.fr f m)
  | dct h c r => exact .dct (e.trans h) c (r.fr f m)
theorem Root.rp (r : Root K H g a d) (hb : ¬ g.bad a) : Rp K H g (.ref a) d := by
  cases r with
  | lst h r => exact .lst h hb r
  | dct h c r => exact .dct h c hb r
theorem Root.im (ho : g.om <+: g'.om) (r : Root K H g a d) (i : D.imms d.parts = true) : Root K H g' a d := by
  cases r with
  | lst h r => exact .lst h (r.im ho i)
  | dct h c r => exact .dct h c (r.im ho i)
theorem Root.there (r : Root K H g a d) : H a ≠ none := by
  cases r with
  | lst h r => rw [h]; simp
  | dct h c r => rw [h]; simp
theorem Root.mut (r : Root K H g a d) : Mut (H a) := by
  cases r with
  | lst h r => rw [h]; trivial
  | dct h c r => rw [h]; cases c <;> trivial
end

/-! ## states, computations -/
inductive Slot where
  | un | dat (d : D) | own (d : D)
  deriving DecidableEq
structure Sx where
  env : List Slot
  objs : List D
inductive Res where
  | dat (d : D) | new (d : D) | own (i : Nat) (d : D)
  deriving DecidableEq
def Res.d : Res → D
  | .dat d => d
  | .new d => d
  | .own _ d => d
structure Exn where
  cls : Str
  fs : Option (List (Str × D))
def M (α : Type) : Type := Sx → Option (Except Exn α × Sx)
def M.ret {α : Type} (a : α) : M α := fun s => some (.ok a, s)
def M.bnd {α β : Type} (f : M α) (k : α → M β) : M β := fun s => match f s with
  | none => none
  | some (.error x, s') => some (.error x, s')
  | some (.ok a, s') => k a s'
instance : Monad M where
  pure := M.ret
  bind := M.bnd
def M.no {α : Type} : M α := fun _ => none
theorem pure_ap {α : Type} (a : α) (s : Sx) : (pure a : M α) s = some (.ok a, s) := rfl
theorem bind_ok {α β : Type} {f : M α} {k : α → M β} {s s' : Sx} {a : α} (h : f s = some (.ok a, s')) : (f >>= k) s = k a s' := by
  show M.bnd f k s = _
  unfold M.bnd
  rw [h]
theorem bind_err {α β : Type} {f : M α} {k : α → M β} {s s' : Sx} {x : Exn} (h : f s = some (.error x, s')) : (f >>= k) s = some (.error x, s') := by
  show M.bnd f k s = _
  unfold M.bnd
  rw [h]

/-- what stays the same through a def's run: the heap at its entry, what its caller writes to, the wish about exceptions -/
structure Zx where
  H0 : Hp
  bad0 : Addr → Prop
  om0 : List Addr
  W : WX
structure SR (K : PySem.W.Frag) (z : Zx) (S : Sx) (σ : St) (H : Hp) (g : Gh) : Prop where
  len : S.env.length = σ.length
  dat : ∀ (i : Nat) (d : D), S.env[i]? = some (.dat d) → ∃ v, σ[i]? = some (some v) ∧ Rp K H g v d
  own : ∀ (i : Nat) (d : D), S.env[i]? = some (.own d) → ∃ a, σ[i]? = some (some (.ref a)) ∧ g.bad a ∧ Root K H g a d ∧ z.H0 a = none ∧ a ∉ g.om
  inj : ∀ (i j : Nat) (d e : D) (a : Addr), S.env[i]? = some (.own d) → S.env[j]? = some (.own e) → σ[i]? = some (some (.ref a)) → σ[j]? = some (some (.ref a)) → i = j
  olen : S.objs.length = g.om.length
  obj : ∀ (n : Nat) (a : Addr) (d : D), g.om[n]? = some a → S.objs[n]? = some d → Root K H g a d ∧ g.bad a
  ond : g.om.Nodup
  mu : Mu H g
  base : ∀ a, z.bad0 a → g.bad a
  b0 : ∀ a, z.bad0 a → z.H0 a ≠ none
  keep : ∀ a o, z.H0 a = some o → a ∉ g.om → H a = some o
  on : ∀ a, a ∈ g.om → a ∈ z.om0 ∨ z.H0 a = none
/-- a result -/
def ResOk (K : PySem.W.Frag) (z : Zx) (S : Sx) (σ : St) (H : Hp) (g : Gh) (v : V) : Res → Prop
  | .dat d => Rp K H g v d
  | .new d => ∃ a, v = .ref a ∧ g.bad a ∧ Root K H g a d ∧ z.H0 a = none ∧ a ∉ g.om ∧ ∀ (i : Nat) (e : D), S.env[i]? = some (.own e) → σ[i]? ≠ some (some (.ref a))
  | .own i d => S.env[i]? = some (.own d) ∧ σ[i]? = some (some v)
/-- an exception of a class of one's own -/
def ExnOk (K : PySem.W.Frag) (mg : Str → Option Value) (H : Hp) (g : Gh) (cls : Value) (dx : Option Addr) (x : Exn) : Prop :=
  mg x.cls = some cls ∧ match x.fs with
    | none => dx = none
    | some fs => ∃ a vs, dx = some a ∧ H a = some (.xd vs) ∧ vs.map (·.1) = fs.map (·.1) ∧ RpA K H g (vs.map (·.2)) (fs.map (·.2))

section
variable {K : PySem.W.Frag} {mg : Str → Option Value} {z : Zx} {S S' : Sx} {σ : St} {H H' : Hp} {g g' : Gh}
/-- a computation, from a state on -/
def Go (K : PySem.W.Frag) (mg : Str → Option Value) (z : Zx) {α : Type} (f : M α) (S : Sx) (σ : St) (H : Hp) (g : Gh) (P : α → Sx → Hp → Gh → Prop) : Prop :=
  match f S with
  | none => False
  | some (.ok r, S') => ∀ H' g', SR K z S' σ H' g' → Fr H g H' g' → P r S' H' g'
  | some (.error x, S') => ∀ cls dx H' g', SR K z S' σ H' g' → Fr H g H' g' → ExnOk K mg H' g' cls dx x → z.W cls dx σ H'
theorem Go.ok {α : Type} {f : M α} {r : α} {P : α → Sx → Hp → Gh → Prop} (e : f S = some (.ok r, S')) (h : Go K mg z f S σ H g P) (s : SR K z S' σ H' g') (f : Fr H g H' g') : P r S' H' g' := by
  unfold Go at h
  rw [e] at h
  exact h H' g' s f
theorem Go.pure {α : Type} {r : α} {P : α → Sx → Hp → Gh → Prop} (h : Go K mg z (pure r) S σ H g P) (s : SR K z S σ H g) : P r S H g := Go.ok rfl h s (Fr.refl _ _)
theorem Go.bnd {α β : Type} {f : M α} {k : α → M β} {P : β → Sx → Hp → Gh → Prop} (h : Go K mg z (f >>= k) S σ H g P) :
    Go K mg z f S σ H g fun r S1 H1 g1 => Go K mg z (k r) S1 σ H1 g1 P := by
  have e : (f >>= k) S = M.bnd f k S := rfl
  unfold Go at h ⊢
  rw [e] at h
  unfold M.bnd at h
  cases hf : f S with
  | none => rw [hf] at h; exact h
  | some p =>
    obtain ⟨r, S1⟩ := p
    rw [hf] at h
    cases r with
    | error x => exact h
    | ok a =>
      intro H1 g1 s1 f1
      show Go K mg z (k a) S1 σ H1 g1 P
      unfold Go
      revert h
      show (match k a S1 with
        | none => False
        | some (.ok r, S') => ∀ H' g', SR K z S' σ H' g' → Fr H g H' g' → P r S' H' g'
        | some (.error x, S') => ∀ cls dx H' g', SR K z S' σ H' g' → Fr H g H' g' → ExnOk K mg H' g' cls dx x → z.W cls dx σ H') → _
      cases k a S1 with
      | none => exact id
      | some q =>
        obtain ⟨r2, S2⟩ := q
        cases r2 with
        | error x => exact fun h cls dx H2 g2 s2 f2 => h cls dx H2 g2 s2 (f1.trans f2)
        | ok b => exact fun h H2 g2 s2 f2 => h H2 g2 s2 (f1.trans f2)
theorem Go.imp {α : Type} {f : M α} {P Q : α → Sx → Hp → Gh → Prop} (h : Go K mg z f S σ H g P) (hp : ∀ r S' H' g', SR K z S' σ H' g' → Fr H g H' g' → P r S' H' g' → Q r S' H' g') : Go K mg z f S σ H g Q := by
  unfold Go at h ⊢
  cases hf : f S with
  | none => rw [hf] at h; exact h
  | some p =>
    obtain ⟨r, S1⟩ := p
    rw [hf] at h
    cases r with
    | error x => exact h
    | ok a => exact fun H' g' s f => hp _ _ _ _ s f (h H' g' s f)
end

/-- an expression's reading -/
def tD (K : PySem.W.Frag) (mg : Str → Option Value) (z : Zx) (f : M Res) : TE := fun σ H Q => ∃ S g, SR K z S σ H g ∧ Go K mg z f S σ H g fun r S' H' g' => ∀ v, ResOk K z S' σ H' g' v r → Q v H'
/-- a test's -/
def tT (K : PySem.W.Frag) (mg : Str → Option Value) (z : Zx) (f : M Bool) : TT := fun σ H Q => ∃ S g, SR K z S σ H g ∧ Go K mg z f S σ H g fun b _ H' _ => Q b H'
/-- arguments' -/
def tA (K : PySem.W.Frag) (mg : Str → Option Value) (z : Zx) (f : M (List Res)) : TA := fun σ H Q => ∃ S g, SR K z S σ H g ∧ Go K mg z f S σ H g fun rs S' H' g' => ∀ vs, Paired (ResOk K z S' σ H' g') vs rs → Q vs H'
inductive Fl where
  | next | brk | cont | ret (r : Res)
/-- a statement, from a state on -/
def GoS (K : PySem.W.Frag) (mg : Str → Option Value) (z : Zx) (f : M Fl) (S : Sx) (σ : St) (H : Hp) (g : Gh) (D : Ends) : Prop :=
  match f S with
  | none => False
  | some (.ok .next, S') => ∀ σ' H' g', SR K z S' σ' H' g' → Fr H g H' g' → D.nx σ' H'
  | some (.ok .brk, S') => ∀ σ' H' g', SR K z S' σ' H' g' → Fr H g H' g' → D.bk σ' H'
  | some (.ok .cont, S') => ∀ σ' H' g', SR K z S' σ' H' g' → Fr H g H' g' → D.ct σ' H'
  | some (.ok (.ret r), S') => ∀ σ' H' g' v, SR K z S' σ' H' g' → Fr H g H' g' → ResOk K z S' σ' H' g' v r → D.rt v H'
  | some (.error x, S') => ∀ cls dx σ' H' g', SR K z S' σ' H' g' → Fr H g H' g' → ExnOk K mg H' g' cls dx x → z.W cls dx σ' H'
def tS (K : PySem.W.Frag) (mg : Str → Option Value) (z : Zx) (f : M Fl) : TS := fun D σ H => ∃ S g, SR K z S σ H g ∧ GoS K mg z f S σ H g D
abbrev DE (X : Cx) (z : Zx) (e : Expr) (f : M Res) : Prop := PE X e (tD X.K X.mg z f)
abbrev DT (X : Cx) (z : Zx) (e : Expr) (f : M Bool) : Prop := PT X e (tT X.K X.mg z f)
abbrev DA (X : Cx) (z : Zx) (es : List Expr) (f : M (List Res)) : Prop := PA X es (tA X.K X.mg z f)
abbrev DS (X : Cx) (z : Zx) (st : Stmt) (f : M Fl) : Prop := PS X st (tS X.K X.mg z f)
abbrev DB (X : Cx) (z : Zx) (sts : List Stmt) (f : M Fl) : Prop := PSs X sts (tS X.K X.mg z f)
theorem PE.imp {X : Cx} {e : Expr} {t u : TE} (p : PE X e t) (h : ∀ σ H Q, u σ H Q → t σ H Q) : PE X e u := ⟨fun pins s σ H Q I q => p.run pins s σ H Q I (h σ H Q q)⟩
theorem PT.imp {X : Cx} {e : Expr} {t u : TT} (p : PT X e t) (h : ∀ σ H Q, u σ H Q → t σ H Q) : PT X e u := ⟨fun pins s σ H Q I q => p.run pins s σ H Q I (h σ H Q q)⟩
theorem PA.imp {X : Cx} {e : List Expr} {t u : TA} (p : PA X e t) (h : ∀ σ H Q, u σ H Q → t σ H Q) : PA X e u := ⟨fun pos pins s σ H Q I q => p.run pos pins s σ H Q I (h σ H Q q)⟩
theorem PS.imp {X : Cx} {st : Stmt} {t u : TS} (p : PS X st t) (h : ∀ D σ H, u D σ H → t D σ H) : PS X st u := ⟨fun pins s σ H D I q => p.run pins s σ H D I (h D σ H q)⟩
theorem PSs.imp {X : Cx} {st : List Stmt} {t u : TS} (p : PSs X st t) (h : ∀ D σ H, u D σ H → t D σ H) : PSs X st u := ⟨fun pins s σ H D I q => p.run pins s σ H D I (h D σ H q)⟩
end DL
end
section
set_option maxRecDepth 100000
namespace DL
open PySem PySem.Spec L2

/-! ## moves of the state -/
def Gh.add (g : Gh) (a : Addr) : Gh := ⟨fun b => g.bad b ∨ b = a, g.om⟩
def Gh.del (g : Gh) (a : Addr) : Gh := ⟨fun b => g.bad b ∧ b ≠ a, g.om⟩
section
variable {K : PySem.W.Frag} {mg : Str → Option Value} {z : Zx} {S S' : Sx} {σ : L2.St} {H H' : Hp} {g g' : Gh} {v : V} {d : D} {a : Addr} {r : Res}
theorem Fr.upd_new {o : HO} (hp : H a = none) : Fr H g (upd H a o) g :=
  ⟨fun b u h n => ⟨by rw [upd_ne (ne_of_none h hp)]; exact h, n⟩, List.prefix_rfl⟩
theorem Fr.upd_add {o : HO} (hp : H a = none) : Fr H g (upd H a o) (g.add a) :=
  ⟨fun b u h n => ⟨by rw [upd_ne (ne_of_none h hp)]; exact h, fun q => q.elim n (ne_of_none h hp)⟩, List.prefix_rfl⟩
theorem Fr.del : Fr H g H (g.del a) := Fr.less (fun _ q => q.1) rfl
theorem SR.om_there (s : SR K z S σ H g) (h : a ∈ g.om) : H a ≠ none := by
  obtain ⟨n, hn⟩ := List.mem_iff_getElem?.mp h
  have hl : n < S.objs.length := by rw [s.olen]; exact (List.getElem?_eq_some_iff.mp hn).1
  exact (s.obj n a _ hn (List.getElem?_eq_getElem hl)).1.there
theorem SR.own_there (s : SR K z S σ H g) {i : Nat} (h : S.env[i]? = some (.own d)) (e : σ[i]? = some (some (.ref a))) : H a ≠ none := by
  obtain ⟨b, e1, _, r, _⟩ := s.own i d h
  rw [e] at e1; cases e1
  exact r.there
theorem SR.fresh0 (s : SR K z S σ H g) (h : H a = none) : z.H0 a = none := by
  cases q : z.H0 a with
  | none => rfl
  | some o =>
    by_cases hm : a ∈ g.om
    · exact absurd h (s.om_there hm)
    · rw [s.keep a o q hm] at h; cases h
/-- the same heap, less to be written to; what the frame keeps, the slots keep -/
theorem SR.upd_new {o : HO} (s : SR K z S σ H g) (hp : H a = none) : SR K z S σ (upd H a o) g where
  len := s.len
  dat := fun i d e => let ⟨v, e1, r⟩ := s.dat i d e; ⟨v, e1, r.fr (Fr.upd_new hp) s.mu⟩
  own := fun i d e => let ⟨b, e1, hb, r, h0, ho⟩ := s.own i d e; ⟨b, e1, hb, r.fr (Fr.upd_new hp) s.mu (upd_ne fun q => r.there (q ▸ hp)), h0, ho⟩
  inj := s.inj
  olen := s.olen
  obj := fun n b d e1 e2 => let ⟨r, hb⟩ := s.obj n b d e1 e2; ⟨r.fr (Fr.upd_new hp) s.mu (upd_ne fun q => r.there (q ▸ hp)), hb⟩
  ond := s.ond
  mu := fun b hb => by
    have := s.mu b hb
    by_cases q : b = a
    · subst q; rw [hp] at this; exact this.elim
    · rw [upd_ne q]; exact this
  base := s.base
  b0 := s.b0
  keep := fun b u h0 hm => by
    have := s.keep b u h0 hm
    rw [upd_ne (ne_of_none this hp)]; exact this
  on := s.on
theorem SR.add (s : SR K z S σ H g) (hm : Mut (H a)) (hf : ∀ b d, Rp K H g (.ref b) d → True) (h0 : z.H0 a = none) (hn : Fr H g H (g.add a)) : SR K z S σ H (g.add a) where
  len := s.len
  dat := fun i d e => let ⟨v, e1, r⟩ := s.dat i d e; ⟨v, e1, r.fr hn s.mu⟩
  own := fun i d e => let ⟨b, e1, hb, r, h0, ho⟩ := s.own i d e; ⟨b, e1, .inl hb, r.fr hn s.mu rfl, h0, ho⟩
  inj := s.inj
  olen := s.olen
  obj := fun n b d e1 e2 => let ⟨r, hb⟩ := s.obj n b d e1 e2; ⟨r.fr hn s.mu rfl, .inl hb⟩
  ond := s.ond
  mu := fun b hb => hb.elim (s.mu b) fun q => q ▸ hm
  base := fun b hb => .inl (s.base b hb)
  b0 := s.b0
  keep := s.keep
  on := s.on
/-- a new object that can be written to -/
theorem SR.alloc {o : HO} (s : SR K z S σ H g) (hp : H a = none) (hm : Mut (some o)) : SR K z S σ (upd H a o) (g.add a) where
  len := s.len
  dat := fun i d e => let ⟨v, e1, r⟩ := s.dat i d e; ⟨v, e1, r.fr (Fr.upd_add hp) s.mu⟩
  own := fun i d e => let ⟨b, e1, hb, r, h0, ho⟩ := s.own i d e; ⟨b, e1, .inl hb, r.fr (Fr.upd_add hp) s.mu (upd_ne fun q => r.there (q ▸ hp)), h0, ho⟩
  inj := s.inj
  olen := s.olen
  obj := fun n b d e1 e2 => let ⟨r, hb⟩ := s.obj n b d e1 e2; ⟨r.fr (Fr.upd_add hp) s.mu (upd_ne fun q => r.there (q ▸ hp)), .inl hb⟩
  ond := s.ond
  mu := fun b hb => by
    by_cases q : b = a
    · subst q; rw [upd_same]; exact hm
    · rw [upd_ne q]
      exact hb.elim (s.mu b) fun z => absurd z q
  base := fun b hb => .inl (s.base b hb)
  b0 := s.b0
  keep := fun b u h0 hm => by
    have := s.keep b u h0 hm
    rw [upd_ne (ne_of_none this hp)]; exact this
  on := s.on
theorem SR.alloc_lst {xs : List V} {ds : List D} (s : SR K z S σ H g) (hp : H a = none) (r : RpA K H g xs ds) :
    ResOk K z S σ (upd H a (.lst xs)) (g.add a) (.ref a) (.new (.lst ds)) :=
  ⟨a, rfl, .inr rfl, .lst upd_same (r.fr (Fr.upd_add hp) s.mu), s.fresh0 hp, fun hm => s.om_there hm hp, fun i e h q => s.own_there h q hp⟩
theorem SR.alloc_dct {o : HO} {t : Bool} {xs : List V} {ks ds : List D} (s : SR K z S σ H g) (hp : H a = none) (c : DcAt o t ks xs) (r : RpA K H g xs ds) :
    ResOk K z S σ (upd H a o) (g.add a) (.ref a) (.new (.dct t ks ds)) :=
  ⟨a, rfl, .inr rfl, .dct upd_same c (r.fr (Fr.upd_add hp) s.mu), s.fresh0 hp, fun hm => s.om_there hm hp, fun i e h q => s.own_there h q hp⟩
theorem SR.alloc_tup {xs : List V} {ds : List D} (s : SR K z S σ H g) (hp : H a = none) (r : RpA K H g xs ds) :
    ResOk K z S σ (upd H a (.tup xs)) g (.ref a) (.dat (.tup ds)) := .tup upd_same (r.fr (Fr.upd_new hp) s.mu)
/-- an address that no slot, no object has, is no longer written to -/
theorem SR.del (s : SR K z S σ H g) (h0 : z.H0 a = none) (hm : a ∉ g.om) (hn : ∀ (i : Nat) (e : D), S.env[i]? = some (.own e) → σ[i]? ≠ some (some (.ref a))) : SR K z S σ H (g.del a) where
  len := s.len
  dat := fun i d e => let ⟨v, e1, r⟩ := s.dat i d e; ⟨v, e1, r.fr Fr.del s.mu⟩
  own := fun i d e => let ⟨b, e1, hb, r, h0, ho⟩ := s.own i d e; ⟨b, e1, ⟨hb, fun q => hn i d e (q ▸ e1)⟩, r.fr Fr.del s.mu rfl, h0, ho⟩
  inj := s.inj
  olen := s.olen
  obj := fun n b d e1 e2 => let ⟨r, hb⟩ := s.obj n b d e1 e2; ⟨r.fr Fr.del s.mu rfl, hb, fun q => hm (q ▸ List.mem_iff_getElem?.mpr ⟨n, e1⟩)⟩
  ond := s.ond
  mu := fun b hb => s.mu b hb.1
  base := fun b hb => ⟨s.base b hb, fun q => s.b0 b hb (q ▸ h0)⟩
  b0 := s.b0
  keep := s.keep
  on := s.on

/-! ### using a result as data -/
def Sx.put (S : Sx) (i : Nat) (x : Slot) : Sx := { S with env := S.env.set i x }
def useM : Res → M D
  | .dat d => pure d
  | .new d => pure d
  | .own i d => fun S => if S.env[i]? = some (.own d) then some (.ok d, S.put i (.dat d)) else none
theorem useM_own (i : Nat) (d : D) (S : Sx) : useM (.own i d) S = if S.env[i]? = some (.own d) then some (.ok d, S.put i (.dat d)) else none := rfl
theorem set_get {α : Type} {l : List α} {i j : Nat} {x y : α} (h : (l.set i x)[j]? = some y) : (i = j ∧ y = x) ∨ (i ≠ j ∧ l[j]? = some y) := by
  by_cases e : i = j
  · subst e
    by_cases hl : i < l.length
    · rw [List.getElem?_set_self hl] at h; cases h; exact .inl ⟨rfl, rfl⟩
    · rw [List.getElem?_eq_none (by rw [List.length_set]; omega)] at h; cases h
  · rw [List.getElem?_set_ne e] at h; exact .inr ⟨e, h⟩
theorem SR.use_own {i : Nat} (s : SR K z S σ H g) (h : S.env[i]? = some (.own d)) (e : σ[i]? = some (some (.ref a))) : SR K z (S.put i (.dat d)) σ H (g.del a) ∧ Rp K H (g.del a) (.ref a) d := by
  obtain ⟨b, e1, hb, r, h0, ho⟩ := s.own i d h
  rw [e] at e1; cases e1
  have rr : Rp K H (g.del a) (.ref a) d := (r.fr Fr.del s.mu rfl).rp fun q => q.2 rfl
  refine ⟨?_, rr⟩
  constructor
  · show (S.env.set i _).length = _
    rw [List.length_set]; exact s.len
  · intro j d' h'
    rcases set_get h' with ⟨rfl, q⟩ | ⟨_, q⟩
    · cases q; exact ⟨_, e, rr⟩
    · obtain ⟨v, e1, r⟩ := s.dat j d' q
      exact ⟨v, e1, r.fr Fr.del s.mu⟩
  · intro j d' h'
    rcases set_get h' with ⟨rfl, q⟩ | ⟨ne, q⟩
    · cases q
    · obtain ⟨b, e1, hb, r, h0, ho⟩ := s.own j d' q
      exact ⟨b, e1, ⟨hb, fun w => ne (s.inj _ _ _ _ _ h q e (w ▸ e1))⟩, r.fr Fr.del s.mu rfl, h0, ho⟩
  · intro j k d1 d2 b h1 h2
    rcases set_get h1 with ⟨rfl, q⟩ | ⟨_, q1⟩
    · cases q
    · rcases set_get h2 with ⟨rfl, q⟩ | ⟨_, q2⟩
      · cases q
      · exact s.inj j k d1 d2 b q1 q2
  · exact s.olen
  · intro n b d' e1 e2
    obtain ⟨r, hb⟩ := s.obj n b d' e1 e2
    exact ⟨r.fr Fr.del s.mu rfl, hb, fun q => ho (q ▸ List.mem_iff_getElem?.mpr ⟨n, e1⟩)⟩
  · exact s.ond
  · exact fun b hb => s.mu b hb.1
  · exact fun b hb => ⟨s.base b hb, fun q => s.b0 b hb (q ▸ h0)⟩
  · exact s.b0
  · exact s.keep
  · exact s.on
theorem SR.new_del (s : SR K z S σ H g) (r : ResOk K z S σ H g v (.new d)) : ∃ g', SR K z S σ H g' ∧ Fr H g H g' ∧ Rp K H g' v d := by
  obtain ⟨a, rfl, hb, r, h0, ho, hn⟩ := r
  exact ⟨g.del a, s.del h0 ho hn, Fr.del, (r.fr Fr.del s.mu rfl).rp fun q => q.2 rfl⟩
theorem Go.use {α : Type} {k : D → M α} {P : α → Sx → Hp → Gh → Prop} (s : SR K z S σ H g) (r0 : ResOk K z S σ H g v r) (h : Go K mg z (useM r >>= k) S σ H g P) :
    ∃ S' g', SR K z S' σ H g' ∧ Fr H g H g' ∧ Rp K H g' v r.d ∧ Go K mg z (k r.d) S' σ H g' P := by
  cases r with
  | dat d => exact ⟨S, g, s, Fr.refl _ _, r0, (h.bnd).pure s⟩
  | new d =>
    obtain ⟨g', s', f, r⟩ := s.new_del r0
    exact ⟨S, g', s', f, r, Go.ok (S' := S) rfl h.bnd s' f⟩
  | own i d =>
    obtain ⟨e1, e2⟩ := r0
    obtain ⟨a, e3, _⟩ := s.own i d e1
    rw [e2] at e3; cases e3
    obtain ⟨s', r⟩ := s.use_own e1 e2
    exact ⟨_, _, s', Fr.del, r, Go.ok (by rw [useM_own, if_pos e1]; rfl) h.bnd s' Fr.del⟩
/-- a result kept while another one is reckoned: what is new is data from now on -/
def Res.hold : Res → Res
  | .new d => .dat d
  | r => r
theorem Res.hold_d (r : Res) : r.hold.d = r.d := by cases r <;> rfl
theorem SR.hold (s : SR K z S σ H g) (r0 : ResOk K z S σ H g v r) : ∃ g', SR K z S σ H g' ∧ Fr H g H g' ∧ ResOk K z S σ H g' v r.hold := by
  cases r with
  | dat d => exact ⟨g, s, Fr.refl _ _, r0⟩
  | new d =>
    obtain ⟨g', s', f, r⟩ := s.new_del r0
    exact ⟨g', s', f, r⟩
  | own i d => exact ⟨g, s, Fr.refl _ _, r0⟩
/-- it stands still -/
def chkM : Res → M Unit
  | .own i d => fun S => if S.env[i]? = some (.own d) then some (.ok (), S) else none
  | _ => pure ()
theorem chkM_own (i : Nat) (d : D) (S : Sx) : chkM (.own i d) S = if S.env[i]? = some (.own d) then some (.ok (), S) else none := rfl
theorem Go.chk {α : Type} {k : Unit → M α} {P : α → Sx → Hp → Gh → Prop} (s : SR K z S σ H g) (s' : SR K z S' σ H' g') (f : Fr H g H' g') (hr : r.hold = r) (r0 : ResOk K z S σ H g v r) (h : Go K mg z (chkM r >>= k) S' σ H' g' P) :
    ResOk K z S' σ H' g' v r ∧ Go K mg z (k ()) S' σ H' g' P := by
  cases r with
  | dat d => exact ⟨Rp.fr f s.mu r0, h.bnd.pure s'⟩
  | new d => cases hr
  | own i d =>
    by_cases e : S'.env[i]? = some (.own d)
    · exact ⟨⟨e, r0.2⟩, Go.ok (by rw [chkM_own, if_pos e]) h.bnd s' (Fr.refl _ _)⟩
    · have q := h.bnd
      unfold Go at q
      rw [chkM_own, if_neg e] at q
      exact q.elim
/-- what a result shows, whoever has it -/
def Pk (K : PySem.W.Frag) (H : Hp) (g : Gh) (v : V) (d : D) : Prop := Rp K H g v d ∨ ∃ a, v = .ref a ∧ Root K H g a d
theorem SR.pk (s : SR K z S σ H g) (r0 : ResOk K z S σ H g v r) : Pk K H g v r.d := by
  cases r with
  | dat d => exact .inl r0
  | new d => obtain ⟨a, rfl, _, r, _⟩ := r0; exact .inr ⟨a, rfl, r⟩
  | own i d =>
    obtain ⟨e1, e2⟩ := r0
    obtain ⟨a, e3, _, r, _⟩ := s.own i d e1
    rw [e2] at e3; cases e3
    exact .inr ⟨a, rfl, r⟩
theorem Pk.lst {ds : List D} (p : Pk K H g v (.lst ds)) : ∃ a xs, v = .ref a ∧ H a = some (.lst xs) ∧ RpA K H g xs ds := by
  rcases p with p | ⟨a, rfl, p⟩
  · cases p with | lst h _ r => exact ⟨_, _, rfl, h, r⟩
  · cases p with | lst h r => exact ⟨_, _, rfl, h, r⟩
theorem Pk.dct {t : Bool} {ks vs : List D} (p : Pk K H g v (.dct t ks vs)) : ∃ a o ws, v = .ref a ∧ H a = some o ∧ DcAt o t ks ws ∧ RpA K H g ws vs := by
  rcases p with p | ⟨a, rfl, p⟩
  · cases p with | dct h c _ r => exact ⟨_, _, _, rfl, h, c, r⟩
  · cases p with | dct h c r => exact ⟨_, _, _, rfl, h, c, r⟩
theorem Pk.tup {ds : List D} (p : Pk K H g v (.tup ds)) : ∃ a xs, v = .ref a ∧ H a = some (.tup xs) ∧ RpA K H g xs ds := by
  rcases p with p | ⟨a, rfl, p⟩
  · cases p with | tup h r => exact ⟨_, _, rfl, h, r⟩
  · cases p
theorem Pk.rol {ds : List D} (p : Pk K H g v (.rol ds)) : ∃ a xs, v = .ref a ∧ RoL K H a xs ∧ RpA K H g xs ds := by
  rcases p with p | ⟨a, rfl, p⟩
  · cases p with | rol h r => exact ⟨_, _, rfl, h, r⟩
  · cases p
theorem Pk.int {i : Int} (p : Pk K H g v (.int i)) : v = .int i := by
  rcases p with p | ⟨a, rfl, p⟩ <;> cases p <;> rfl
theorem Pk.bl {i : Bool} (p : Pk K H g v (.bl i)) : v = .bl i := by
  rcases p with p | ⟨a, rfl, p⟩ <;> cases p <;> rfl
theorem Pk.str {i : Str} (p : Pk K H g v (.str i)) : v = .str i := by
  rcases p with p | ⟨a, rfl, p⟩ <;> cases p <;> rfl
theorem Pk.non (p : Pk K H g v .non) : v = .non := by
  rcases p with p | ⟨a, rfl, p⟩ <;> cases p <;> rfl
theorem Pk.fr (p : Pk K H g v d) (f : Fr H g H g') (m : Mu H g) : Pk K H g' v d := by
  rcases p with p | ⟨a, e, p⟩
  · exact .inl (p.fr f m)
  · exact .inr ⟨a, e, p.fr f m rfl⟩
end
end DL
end
section
set_option maxRecDepth 100000
namespace DL
open PySem PySem.Spec L2

/-! ## expressions -/
section
variable {X : Cx} {z : Zx} {S S' : Sx} {σ : L2.St} {H H' : Hp} {g g' : Gh} {v : V} {d : D} {a : Addr} {r : Res} {pos : Pos}
theorem Go.at {K : PySem.W.Frag} {mg : Str → Option Value} {α : Type} {f : M α} {P : α → Sx → Hp → Gh → Prop} (h : Go K mg z f S σ H g P) (fr : Fr H g H' g') : Go K mg z f S σ H' g' P := by
  unfold Go at h ⊢
  cases hf : f S with
  | none => rw [hf] at h; exact h
  | some p =>
    obtain ⟨r, S1⟩ := p
    rw [hf] at h
    cases r with
    | error x => exact fun cls dx H2 g2 s2 f2 => h cls dx H2 g2 s2 (fr.trans f2)
    | ok a => exact fun H2 g2 s2 f2 => h H2 g2 s2 (fr.trans f2)
theorem Go.none {K : PySem.W.Frag} {mg : Str → Option Value} {α : Type} {P : α → Sx → Hp → Gh → Prop} (h : Go K mg z (M.no : M α) S σ H g P) : False := h

/-- constants, names -/
def kM (d : D) : M Res := pure (.dat d)
def varM (i : Nat) : M Res := fun S => match S.env[i]? with
  | some (.dat d) => some (.ok (.dat d), S)
  | some (.own d) => some (.ok (.own i d), S)
  | _ => none
theorem de_int {i : Int} {j : Nat} : DE X z (.Constant (.int i) j pos) (kM (.int i)) :=
  PE.imp pe_int fun σ H Q ⟨S, g, s, h⟩ => h.pure s _ (.int i)
theorem de_bl {i : Bool} {j : Nat} : DE X z (.Constant (.bool i) j pos) (kM (.bl i)) :=
  PE.imp pe_bl fun σ H Q ⟨S, g, s, h⟩ => h.pure s _ (.bl i)
theorem de_str {i : Str} {j : Nat} : DE X z (.Constant (.str i) j pos) (kM (.str i)) :=
  PE.imp pe_str fun σ H Q ⟨S, g, s, h⟩ => h.pure s _ (.str i)
theorem de_non {j : Nat} : DE X z (.Constant .none j pos) (kM .non) :=
  PE.imp pe_non fun σ H Q ⟨S, g, s, h⟩ => h.pure s _ .non
theorem de_var (i : Nat) {x : Str} (hN : X.N[i]? = some x := by rfl) (hv : Vis X.env.scope x := by first | exact Or.inl rfl | exact Or.inr (Or.inl rfl) | exact Or.inr (Or.inr rfl)) (hd : (x == ("__debug__" : Str)) = false := by decide)
    (hcd : (x == ("__classdict__" : Str)) = false := by decide) : DE X z (.Name x pos) (varM i) :=
  PE.imp (pe_var hN hv hd hcd) fun σ H Q ⟨S, g, s, h⟩ => by
    unfold Go varM at h
    cases e : S.env[i]? with
    | none => rw [e] at h; exact h.elim
    | some sl =>
      rw [e] at h
      cases sl with
      | un => exact h.elim
      | dat d =>
        obtain ⟨v, e1, r⟩ := s.dat i d e
        exact ⟨v, e1, h H g s (Fr.refl _ _) v r⟩
      | own d =>
        obtain ⟨a, e1, _⟩ := s.own i d e
        exact ⟨_, e1, h H g s (Fr.refl _ _) _ ⟨e, e1⟩⟩
/-- a module's constant -/
theorem de_globInt {x : Str} {i : Int} {t : Tok} (hg : Gl X x) (hm : X.mg x = some (.int i t)) (hd : (x == ("__debug__" : Str)) = false := by decide) : DE X z (.Name x pos) (kM (.int i)) :=
  PE.imp (pe_glob (v := .int i) hg hm ⟨t, rfl⟩ hd) fun σ H Q ⟨S, g, s, h⟩ => h.pure s _ (.int i)
theorem de_globStr {x : Str} {i : Str} {t : Tok} (hg : Gl X x) (hm : X.mg x = some (.str i t)) (hd : (x == ("__debug__" : Str)) = false := by decide) : DE X z (.Name x pos) (kM (.str i)) :=
  PE.imp (pe_glob (v := .str i) hg hm ⟨t, rfl⟩ hd) fun σ H Q ⟨S, g, s, h⟩ => h.pure s _ (.str i)

/-! ### two operands -/
def OpD (X : Cx) (z : Zx) (r : R2) (op : D → D → M Res) : Prop :=
  ∀ (S : Sx) (σ : L2.St) (H : Hp) (g : Gh) (x y : V) (dx dy : D) (Q : VK), SR X.K z S σ H g → Pk X.K H g x dx → Pk X.K H g y dy →
    Go X.K X.mg z (op dx dy) S σ H g (fun r S' H' g' => ∀ v, ResOk X.K z S' σ H' g' v r → Q v H') → r x y H Q
def binM (op : D → D → M Res) (fa fb : M Res) : M Res := fa >>= fun ra => fb >>= fun rb => chkM ra.hold >>= fun _ => op ra.hold.d rb.d
theorem de_bin {e : Expr} {r : R2} {op : D → D → M Res} {fa fb : M Res} (hd : OpD X z r op) (pe : PE X e (tOp r (tD X.K X.mg z fa) (tD X.K X.mg z fb))) : DE X z e (binM op fa fb) := by
  refine PE.imp pe fun σ H Q ⟨S, g, s, h⟩ => ?_
  refine ⟨S, g, s, h.bnd.imp fun ra S1 H1 g1 s1 f1 h1 x rx => ?_⟩
  obtain ⟨g2, s2, f2, rx2⟩ := s1.hold rx
  refine ⟨S1, g2, s2, (h1.at f2).bnd.imp fun rb S3 H3 g3 s3 f3 h3 y ry => ?_⟩
  obtain ⟨rx3, h4⟩ := Go.chk s2 s3 f3 (by cases ra <;> rfl) rx2 h3
  exact hd S3 σ H3 g3 x y _ _ Q s3 (s3.pk rx3) (s3.pk ry) h4

/-- the heap's new object, by what is wanted of a new result -/
theorem out_lst {K : PySem.W.Frag} {mg : Str → Option Value} {ds : List D} {xs : List V} {Q : VK} (s : SR K z S σ H g) (r : RpA K H g xs ds) (h : Go K mg z (pure (.new (.lst ds))) S σ H g (fun r S' H' g' => ∀ v, ResOk K z S' σ H' g' v r → Q v H')) :
    ∀ p, H p = none → Q (.ref p) (upd H p (.lst xs)) := fun p hp =>
  Go.ok rfl h (s.alloc hp (o := .lst xs) trivial) (Fr.upd_add hp) _ (s.alloc_lst hp r)
theorem out_tup {K : PySem.W.Frag} {mg : Str → Option Value} {ds : List D} {xs : List V} {Q : VK} (s : SR K z S σ H g) (r : RpA K H g xs ds) (h : Go K mg z (pure (.dat (.tup ds))) S σ H g (fun r S' H' g' => ∀ v, ResOk K z S' σ H' g' v r → Q v H')) :
    ∀ p, H p = none → Q (.ref p) (upd H p (.tup xs)) := fun p hp =>
  Go.ok rfl h (s.upd_new hp) (Fr.upd_new hp) _ (s.alloc_tup hp r)
theorem out_dct {K : PySem.W.Frag} {mg : Str → Option Value} {o : HO} {t : Bool} {ks ds : List D} {xs : List V} {Q : VK} (s : SR K z S σ H g) (c : DcAt o t ks xs) (r : RpA K H g xs ds) (h : Go K mg z (pure (.new (.dct t ks ds))) S σ H g (fun r S' H' g' => ∀ v, ResOk K z S' σ H' g' v r → Q v H')) :
    ∀ p, H p = none → Q (.ref p) (upd H p o) := fun p hp =>
  Go.ok rfl h (s.alloc hp (by cases c <;> trivial)) (Fr.upd_add hp) _ (s.alloc_dct hp c r)
theorem out_dat {K : PySem.W.Frag} {mg : Str → Option Value} {Q : VK} (s : SR K z S σ H g) (r : Rp K H g v d) (h : Go K mg z (pure (.dat d)) S σ H g (fun r S' H' g' => ∀ v, ResOk K z S' σ H' g' v r → Q v H')) : Q v H := h.pure s v r

/-- a bound that a computation asks -/
def M.need {α : Type} (c : Bool) (f : M α) : M α := fun S => if c = true then f S else none
theorem Go.need {K : PySem.W.Frag} {mg : Str → Option Value} {α : Type} {c : Bool} {f : M α} {P : α → Sx → Hp → Gh → Prop} (h : Go K mg z (M.need c f) S σ H g P) : c = true ∧ Go K mg z f S σ H g P := by
  unfold Go M.need at h
  by_cases e : c = true
  · simp only [if_pos e] at h; exact ⟨e, h⟩
  · simp only [if_neg e] at h
theorem need_ok {α : Type} {c : Bool} {f : M α} (h : c = true) : M.need c f = f := by
  funext S; unfold M.need; rw [if_pos h]

def opAdd : D → D → M Res
  | .int i, .int j => pure (.dat (.int (i + j)))
  | .str a, .str b => M.need (decide (a.length + b.length ≤ sizeLine)) (pure (.dat (.str (a ++ b))))
  | .tup a, .tup b => M.need (decide (a.length + b.length ≤ sizeLine)) (pure (.dat (.tup (a ++ b))))
  | .lst a, .lst b => M.need (decide (a.length + b.length ≤ sizeLine)) (pure (.new (.lst (a ++ b))))
  | _, _ => M.no
def rAddD (K : PySem.W.Frag) : R2 := fun x y H Q => rI0 (fun i j => V.int (i + j)) x y H Q ∨ (∃ i j, x = V.str i ∧ y = V.str j ∧ i.length + j.length ≤ sizeLine ∧ Q (V.str (i ++ j)) H) ∨ rCatA K x y H Q ∨ rCat x y H Q
theorem op_addD : OpR X (binaryOp .Add) (rAddD X.K) := by
  intro pins s σ H x y v u Q I rx ry h
  rcases h with h | h | h | h
  · exact op_add pins s σ H x y v u Q I rx ry h
  · exact op_add_str pins s σ H x y v u Q I rx ry h
  · exact op_catA pins s σ H x y v u Q I rx ry h
  · exact op_cat pins s σ H x y v u Q I rx ry h
theorem RpA.nil_iff {K : PySem.W.Frag} {xs : List V} {ds : List D} (r : RpA K H g xs ds) : xs = [] ↔ ds = [] := by
  cases r <;> simp
theorem od_add : OpD X z (rAddD X.K) opAdd := by
  intro S σ H g x y dx dy Q s px py h
  unfold opAdd at h
  split at h
  · exact .inl ⟨_, _, px.int, py.int, out_dat s (.int _) h⟩
  · obtain ⟨c, h⟩ := h.need
    exact .inr (.inl ⟨_, _, px.str, py.str, of_decide_eq_true c, out_dat s (.str _) h⟩)
  · obtain ⟨c, h⟩ := h.need
    obtain ⟨p, xs, rfl, hx, rx⟩ := px.tup
    obtain ⟨q, ys, rfl, hy, ry⟩ := py.tup
    have c := of_decide_eq_true c
    rw [← rx.length, ← ry.length] at c
    refine .inr (.inr (.inl ⟨p, q, xs, ys, rfl, rfl, SqT.of hx, SqT.of hy, c, fun e => ?_, fun _ e => ?_, fun _ _ => out_tup s (rx.append ry) h⟩))
    · have e' := rx.nil_iff.mp e
      subst e'
      exact out_dat s (.tup hy ry) h
    · have e' := ry.nil_iff.mp e
      subst e'
      rw [List.append_nil] at h
      exact out_dat s (.tup hx rx) h
  · obtain ⟨c, h⟩ := h.need
    obtain ⟨p, xs, rfl, hx, rx⟩ := px.lst
    obtain ⟨q, ys, rfl, hy, ry⟩ := py.lst
    have c := of_decide_eq_true c
    rw [← rx.length, ← ry.length] at c
    exact .inr (.inr (.inr ⟨p, q, xs, ys, rfl, rfl, hx, hy, c, out_lst s (rx.append ry) h⟩))
  · exact h.none.elim
theorem de_add {a b : Expr} {fa fb : M Res} (ha : DE X z a fa) (hb : DE X z b fb) : DE X z (.BinOp a .Add b pos) (binM opAdd fa fb) := de_bin od_add (pe_op op_addD ha hb)

/-- whole numbers alone -/
def opI (c : Int → Int → Bool) (f : Int → Int → D) : D → D → M Res
  | .int i, .int j => M.need (c i j) (pure (.dat (f i j)))
  | _, _ => M.no
theorem od_int {c : Int → Int → Bool} {C : Int → Int → Prop} {f : Int → Int → Int} (hc : ∀ i j, c i j = true → C i j) : OpD X z (rI C fun i j => .int (f i j)) (opI c fun i j => .int (f i j)) := by
  intro S σ H g x y dx dy Q s px py h
  unfold opI at h
  split at h
  · obtain ⟨c, h⟩ := h.need
    exact ⟨_, _, px.int, py.int, hc _ _ c, out_dat s (.int _) h⟩
  · exact h.none.elim
theorem od_int0 {f : Int → Int → Int} : OpD X z (rI0 fun i j => .int (f i j)) (opI (fun _ _ => true) fun i j => .int (f i j)) := by
  intro S σ H g x y dx dy Q s px py h
  unfold opI at h
  split at h
  · exact ⟨_, _, px.int, py.int, out_dat s (.int _) h.need.2⟩
  · exact h.none.elim
theorem od_cmp {f : Int → Int → Bool} : OpD X z (rI0 fun i j => .bl (f i j)) (opI (fun _ _ => true) fun i j => .bl (f i j)) := by
  intro S σ H g x y dx dy Q s px py h
  unfold opI at h
  split at h
  · exact ⟨_, _, px.int, py.int, out_dat s (.bl _) h.need.2⟩
  · exact h.none.elim
def opSub : D → D → M Res := opI (fun _ _ => true) fun i j => .int (i - j)
def opMul : D → D → M Res := opI (fun i j => decide ((-(2 ^ 64) < i ∧ i < 2 ^ 64) ∨ (-(2 ^ 64) < j ∧ j < 2 ^ 64))) fun i j => .int (i * j)
def opMod : D → D → M Res := opI (fun _ j => decide (j ≠ 0)) fun i j => .int (i.fmod j)
def opDiv : D → D → M Res := opI (fun _ j => decide (j ≠ 0 ∧ j.natAbs < 1073741824)) fun i j => .int (i.fdiv j)
def opPow : D → D → M Res := opI (fun i j => decide (0 ≤ j ∧ j ≤ 1000000 ∧ i.natAbs < 2 ^ 64)) fun i j => .int (i ^ j.toNat)
def opLt : D → D → M Res := opI (fun _ _ => true) fun i j => .bl (decide (i < j))
def opLe : D → D → M Res := opI (fun _ _ => true) fun i j => .bl (decide (i ≤ j))
def opGt : D → D → M Res := opI (fun _ _ => true) fun i j => .bl (decide (j < i))
def opGe : D → D → M Res := opI (fun _ _ => true) fun i j => .bl (decide (j ≤ i))
variable {a b : Expr} {fa fb : M Res}
theorem de_sub (ha : DE X z a fa) (hb : DE X z b fb) : DE X z (.BinOp a .Sub b pos) (binM opSub fa fb) := de_bin od_int0 (pe_op op_sub ha hb)
theorem de_mul (ha : DE X z a fa) (hb : DE X z b fb) : DE X z (.BinOp a .Mult b pos) (binM opMul fa fb) := de_bin (od_int fun _ _ => of_decide_eq_true) (pe_op op_mul ha hb)
theorem de_mod (ha : DE X z a fa) (hb : DE X z b fb) : DE X z (.BinOp a .Mod b pos) (binM opMod fa fb) := de_bin (od_int fun _ _ => of_decide_eq_true) (pe_op op_modN ha hb)
theorem de_div (ha : DE X z a fa) (hb : DE X z b fb) : DE X z (.BinOp a .FloorDiv b pos) (binM opDiv fa fb) := de_bin (od_int fun _ _ => of_decide_eq_true) (pe_op op_fdivN ha hb)
theorem de_pow (ha : DE X z a fa) (hb : DE X z b fb) : DE X z (.BinOp a .Pow b pos) (binM opPow fa fb) := de_bin (od_int fun _ _ => of_decide_eq_true) (pe_op op_pow ha hb)
theorem de_lt (ha : DE X z a fa) (hb : DE X z b fb) : DE X z (.Compare a [.Lt] [b] pos) (binM opLt fa fb) := de_bin od_cmp (pe_cmpR op_lt ha hb (nomark _))
theorem de_le (ha : DE X z a fa) (hb : DE X z b fb) : DE X z (.Compare a [.LtE] [b] pos) (binM opLe fa fb) := de_bin od_cmp (pe_cmpR op_le ha hb (nomark _))
theorem de_gt (ha : DE X z a fa) (hb : DE X z b fb) : DE X z (.Compare a [.Gt] [b] pos) (binM opGt fa fb) := de_bin od_cmp (pe_cmpR op_gt ha hb (nomark _))
theorem de_ge (ha : DE X z a fa) (hb : DE X z b fb) : DE X z (.Compare a [.GtE] [b] pos) (binM opGe fa fb) := de_bin od_cmp (pe_cmpR op_ge ha hb (nomark _))

/-! ### == and in, of data at any depth -/
mutual
def D.py : D → Option PyData
  | .non => some .none
  | .bl b => some (.bool b)
  | .int i => some (.int i)
  | .str x => some (.str x)
  | .tup ds => (D.pys ds).map .tuple
  | .lst ds => (D.pys ds).map .list
  | .rol ds => (D.pys ds).map .list
  | _ => none
def D.pys : List D → Option (List PyData)
  | [] => some []
  | d :: r => (D.py d).bind fun p => (D.pys r).map fun q => p :: q
end
mutual
theorem Rp.dp {K : PySem.W.Frag} {v : V} : ∀ {d : D} {p : PyData}, Rp K H g v d → d.py = some p → Dp K H v p
  | _, p, .non, e => by simp [D.py] at e; subst e; exact .non
  | _, p, .bl b, e => by simp [D.py] at e; subst e; exact .bl b
  | _, p, .int b, e => by simp [D.py] at e; subst e; exact .int b
  | _, p, .str b, e => by simp [D.py] at e; subst e; exact .str b
  | _, p, .tup h r, e => by
    simp only [D.py, Option.map_eq_some_iff] at e
    obtain ⟨q, e, rfl⟩ := e
    exact .tup (SqT.of h) (RpA.dp r e)
  | _, p, .lst h n r, e => by
    simp only [D.py, Option.map_eq_some_iff] at e
    obtain ⟨q, e, rfl⟩ := e
    exact .lst (SqL.of h) (RpA.dp r e)
  | _, p, .rol h r, e => by
    simp only [D.py, Option.map_eq_some_iff] at e
    obtain ⟨q, e, rfl⟩ := e
    exact .lst h.sq (RpA.dp r e)
  | _, p, .dct h c n r, e => by simp [D.py] at e
  | _, p, .obj h, e => by simp [D.py] at e
  | _, p, .opq v, e => by simp [D.py] at e
theorem RpA.dp {K : PySem.W.Frag} {vs : List V} : ∀ {ds : List D} {ps : List PyData}, RpA K H g vs ds → D.pys ds = some ps → DpAll K H vs ps
  | _, ps, .nil, e => by simp [D.pys] at e; subst e; exact .nil
  | _, ps, .cons h r, e => by
    simp only [D.pys, Option.bind_eq_some_iff, Option.map_eq_some_iff] at e
    obtain ⟨p, e1, q, e2, rfl⟩ := e
    exact .cons (Rp.dp h e1) (RpA.dp r e2)
end
theorem Pk.dp {K : PySem.W.Frag} {p : PyData} (h : Pk K H g v d) (e : d.py = some p) : Dp K H v p := by
  rcases h with h | ⟨a, rfl, h⟩
  · exact h.dp e
  · cases h with
    | lst h r =>
      simp only [D.py, Option.map_eq_some_iff] at e
      obtain ⟨q, e, rfl⟩ := e
      exact .lst (SqL.of h) (r.dp e)
    | dct h c r => simp [D.py] at e
/-- == of two data, where the model speaks of it -/
def D.eqv (d e : D) : Option Bool := match d.py, e.py with
  | some p, some q => if SeqAt.shaped p && SeqAt.shaped q then some (PyData.eqv p q) else none
  | _, _ => none
def M.opt {α β : Type} (o : Option α) (k : α → M β) : M β := match o with
  | some a => k a
  | none => M.no
theorem Go.opt {K : PySem.W.Frag} {mg : Str → Option Value} {α β : Type} {o : Option α} {k : α → M β} {P : β → Sx → Hp → Gh → Prop} (h : Go K mg z (M.opt o k) S σ H g P) : ∃ a, o = some a ∧ Go K mg z (k a) S σ H g P := by
  cases o with
  | none => exact h.none.elim
  | some a => exact ⟨a, rfl, h⟩
def opEq (neg : Bool) (d e : D) : M Res := M.opt (d.eqv e) fun b => pure (.dat (.bl (b != neg)))
theorem od_eq : OpD X z (rEqD X.K) (opEq false) := by
  intro S σ H g x y dx dy Q s px py h
  obtain ⟨b, e, h⟩ := h.opt
  unfold D.eqv at e
  split at e
  · rename_i p q e1 e2
    split at e
    · rename_i c
      cases e
      simp only [Bool.and_eq_true] at c
      refine ⟨p, q, px.dp e1, py.dp e2, c.1, c.2, ?_⟩
      have := out_dat s (.bl _) h
      simpa using this
    · cases e
  · cases e
theorem od_ne : OpD X z (rNeD X.K) (opEq true) := by
  intro S σ H g x y dx dy Q s px py h
  obtain ⟨b, e, h⟩ := h.opt
  unfold D.eqv at e
  split at e
  · rename_i p q e1 e2
    split at e
    · rename_i c
      cases e
      simp only [Bool.and_eq_true] at c
      refine ⟨p, q, px.dp e1, py.dp e2, c.1, c.2, ?_⟩
      have := out_dat s (.bl _) h
      simpa using this
    · cases e
  · cases e
theorem de_eq (hu : X.A.units + 64 < cLine) (ha : DE X z a fa) (hb : DE X z b fb) : DE X z (.Compare a [.Eq] [b] pos) (binM (opEq false) fa fb) := de_bin od_eq (pe_cmpR (op_eqD hu) ha hb (nomark _))
theorem de_ne (hu : X.A.units + 64 < cLine) (ha : DE X z a fa) (hb : DE X z b fb) : DE X z (.Compare a [.NotEq] [b] pos) (binM (opEq true) fa fb) := de_bin od_ne (pe_cmpR (op_neD hu) ha hb (nomark _))
def D.isNon : D → Bool
  | .non => true
  | _ => false
def D.isOpq : D → Bool
  | .opq _ => true
  | _ => false
def opIsN (neg : Bool) : D → D → M Res
  | d, .non => M.need (!d.isOpq) (pure (.dat (.bl (d.isNon != neg))))
  | _, _ => M.no
theorem Pk.isN {K : PySem.W.Frag} (h : Pk K H g v d) (n : (!d.isOpq) = true) : decide (v = V.non) = d.isNon := by
  rcases h with h | ⟨a, rfl, h⟩
  · cases h <;> simp [D.isNon, D.isOpq] at n ⊢
  · cases h <;> simp [D.isNon]
theorem od_isN : OpD X z (fun x y H Q => y = V.non ∧ Q (V.bl (decide (x = V.non))) H) (opIsN false) := by
  intro S σ H g x y dx dy Q s px py h
  cases dy <;> first | exact h.none.elim | skip
  obtain ⟨c, h⟩ := h.need
  refine ⟨py.non, ?_⟩
  rw [px.isN c]
  have := out_dat s (.bl _) h
  simpa using this
theorem od_notN : OpD X z (fun x y H Q => y = V.non ∧ Q (V.bl (!decide (x = V.non))) H) (opIsN true) := by
  intro S σ H g x y dx dy Q s px py h
  cases dy <;> first | exact h.none.elim | skip
  obtain ⟨c, h⟩ := h.need
  refine ⟨py.non, ?_⟩
  rw [px.isN c]
  have := out_dat s (.bl _) h
  simpa using this
theorem de_is (ha : DE X z a fa) (hb : DE X z b fb) : DE X z (.Compare a [.Is] [b] pos) (binM (opIsN false) fa fb) := de_bin od_isN (pe_cmpR op_isN ha hb (nomark _))
theorem de_isnot (ha : DE X z a fa) (hb : DE X z b fb) : DE X z (.Compare a [.IsNot] [b] pos) (binM (opIsN true) fa fb) := de_bin od_notN (pe_cmpR op_notN ha hb (nomark _))
end
end DL
end
section
set_option maxRecDepth 100000
namespace DL
open PySem PySem.Spec L2
section
variable {X : Cx} {z : Zx} {S S' : Sx} {σ : L2.St} {H H' : Hp} {g g' : Gh} {v : V} {d : D} {r : Res} {pos : Pos} {a b c : Expr} {fa fb fc : M Res}

/-! ## keys of dicts -/
def D.key : D → Option Key
  | .int i => some (.inl i)
  | .str x => some (.inr x)
  | _ => none
def D.keys : List D → Option (List Key)
  | [] => some []
  | d :: r => d.key.bind fun k => (D.keys r).map fun q => k :: q
theorem key_kD : ∀ {d : D} {k : Key}, d.key = some k → d = kD k
  | .int i, k, e => by simp [D.key] at e; subst e; rfl
  | .str i, k, e => by simp [D.key] at e; subst e; rfl
  | .non, k, e => by simp [D.key] at e
  | .bl _, k, e => by simp [D.key] at e
  | .tup _, k, e => by simp [D.key] at e
  | .lst _, k, e => by simp [D.key] at e
  | .rol _, k, e => by simp [D.key] at e
  | .dct _ _ _, k, e => by simp [D.key] at e
  | .obj _, k, e => by simp [D.key] at e
  | .opq _, k, e => by simp [D.key] at e
theorem kD_key (k : Key) : (kD k).key = some k := by cases k <;> rfl
theorem kD_inj {k l : Key} (h : kD k = kD l) : k = l := by
  have := congrArg D.key h
  rw [kD_key, kD_key] at this
  exact Option.some.inj this
theorem keys_kD : ∀ {ds : List D} {ks : List Key}, D.keys ds = some ks → ds = ks.map kD
  | [], ks, e => by simp [D.keys] at e; subst e; rfl
  | d :: r, ks, e => by
    simp only [D.keys, Option.bind_eq_some_iff, Option.map_eq_some_iff] at e
    obtain ⟨k, e1, q, e2, rfl⟩ := e
    rw [List.map_cons, key_kD e1, keys_kD e2]
theorem kD_keys : ∀ ks : List Key, D.keys (ks.map kD) = some ks
  | [] => rfl
  | k :: r => by simp [D.keys, kD_key, kD_keys r]
theorem map_kD_inj {k l : List Key} (h : k.map kD = l.map kD) : k = l := by
  have := congrArg D.keys h
  rw [kD_keys, kD_keys] at this
  exact Option.some.inj this
theorem Pk.key {K : PySem.W.Frag} {k : Key} (h : Pk K H g v d) (e : d.key = some k) : v = kV k := by
  have := key_kD e
  subst this
  cases k with
  | inl i => exact h.int
  | inr x => exact h.str
theorem RpA.kV {K : PySem.W.Frag} : ∀ {vs : List V} {ks : List Key}, RpA K H g vs (ks.map kD) → vs = ks.map L2.kV
  | _, [], .nil => rfl
  | _, k :: r, .cons h t => by
    rw [List.map_cons, ← RpA.kV t, Pk.key (.inl h) (kD_key k)]
/-- looking a key up -/
def D.look : List D → List D → D → Option D
  | k :: ks, v :: vs, d => if k = d then some v else D.look ks vs d
  | _, _, _ => none
/-- a key in its place, or at the end -/
def D.putK (ks : List D) (d : D) : List D := if d ∈ ks then ks else ks ++ [d]
def D.setV : List D → List D → D → D → List D
  | k :: ks, v :: vs, d, x => (if k = d then x else v) :: D.setV ks vs d x
  | _, _, _, _ => []
def D.putV (ks vs : List D) (d x : D) : List D := if d ∈ ks then D.setV ks vs d x else vs ++ [x]
section
variable {κ : Type} [DecidableEq κ] {K : PySem.W.Frag}
/-- a dict by its pairs, c: how keys lie -/
theorem look_of {c : κ → D} (hc : ∀ k l, c k = c l → k = l) (k : κ) : ∀ {kvs : List (κ × V)} {vs : List D}, RpA K H g (kvs.map (·.2)) vs →
    (∀ d, D.look (kvs.map fun p => c p.1) vs (c k) = some d → ∃ w, valV kvs k = some w ∧ Rp K H g w d) ∧ (D.look (kvs.map fun p => c p.1) vs (c k) = none → valV kvs k = none)
  | [], _, .nil => ⟨fun d e => by simp [D.look] at e, fun _ => rfl⟩
  | p :: r, d :: vs, .cons h t => by
    obtain ⟨i1, i2⟩ := look_of hc k t
    by_cases e : p.1 = k
    · rw [valV_pos e]
      simp only [List.map_cons, D.look, e, if_true]
      exact ⟨fun d' e' => by cases e'; exact ⟨_, rfl, h⟩, fun q => by cases q⟩
    · rw [valV_neg e]
      have e' : ¬ c p.1 = c k := fun q => e (hc _ _ q)
      simp only [List.map_cons, D.look, if_neg e']
      exact ⟨i1, i2⟩
theorem setV_of {c : κ → D} (hc : ∀ k l, c k = c l → k = l) (k : κ) (x : V) (dx : D) (hx : Rp K H g x dx) : ∀ {kvs : List (κ × V)} {vs : List D}, RpA K H g (kvs.map (·.2)) vs →
    RpA K H g ((kvs.map fun kv => if kv.1 = k then (kv.1, x) else kv).map (·.2)) (D.setV (kvs.map fun p => c p.1) vs (c k) dx)
  | [], _, .nil => .nil
  | p :: r, d :: vs, .cons h t => by
    by_cases e : p.1 = k
    · simp only [List.map_cons, D.setV, e, if_true]
      exact .cons hx (setV_of hc k x dx hx t)
    · have e' : ¬ c p.1 = c k := fun q => e (hc _ _ q)
      simp only [List.map_cons, D.setV, if_neg e, if_neg e']
      exact .cons h (setV_of hc k x dx hx t)
theorem any_mem {c : κ → D} (hc : ∀ k l, c k = c l → k = l) (k : κ) : ∀ kvs : List (κ × V), (kvs.any fun kv => decide (kv.1 = k)) = true ↔ c k ∈ kvs.map fun p => c p.1
  | [] => by simp
  | p :: r => by
    rw [List.any_cons, List.map_cons, List.mem_cons, Bool.or_eq_true, decide_eq_true_eq, any_mem hc k r]
    exact ⟨fun h => h.elim (fun e => .inl (by rw [e])) .inr, fun h => h.elim (fun e => .inl (hc _ _ e).symm) .inr⟩
theorem put_of {c : κ → D} (hc : ∀ k l, c k = c l → k = l) (k : κ) (x : V) (dx : D) (hx : Rp K H g x dx) {kvs : List (κ × V)} {vs : List D} (r : RpA K H g (kvs.map (·.2)) vs) :
    D.putK (kvs.map fun p => c p.1) (c k) = (L2.putK kvs k x).map (fun p => c p.1) ∧ RpA K H g ((L2.putK kvs k x).map (·.2)) (D.putV (kvs.map fun p => c p.1) vs (c k) dx) := by
  unfold D.putK D.putV L2.putK
  by_cases a : (kvs.any fun kv => decide (kv.1 = k)) = true
  · rw [if_pos a, if_pos ((any_mem hc k kvs).mp a), if_pos ((any_mem hc k kvs).mp a)]
    refine ⟨?_, setV_of hc k x dx hx r⟩
    rw [List.map_map]
    refine (List.map_congr_left fun p hp => ?_).symm
    show c (if p.1 = k then (p.1, x) else p).1 = c p.1
    split <;> rfl
  · rw [if_neg a, if_neg (fun q => a ((any_mem hc k kvs).mpr q)), if_neg (fun q => a ((any_mem hc k kvs).mpr q))]
    refine ⟨by rw [List.map_append]; rfl, ?_⟩
    rw [List.map_append]
    exact r.append (.cons hx .nil)
/-- what a key finds -/
def D.lookKey (t : Bool) (ks vs : List D) (k : D) : Option (Option D) := match t, k with
  | false, .int i => some (D.look ks vs (.int i))
  | false, .str i => some (D.look ks vs (.str i))
  | true, .tup ds => if (D.keys ds).isSome then some (D.look ks vs (.tup ds)) else none
  | _, _ => none
end
theorem tupkey_inj {k l : List Key} (h : (D.tup (k.map kD)) = .tup (l.map kD)) : k = l := map_kD_inj (D.tup.inj h)
theorem dget_of {K : PySem.W.Frag} {t : Bool} {ks vs : List D} {k : D} {x y : V} {o : Option D} (p : Pk K H g x (.dct t ks vs)) (q : Pk K H g y k) (e : D.lookKey t ks vs k = some o) :
    ∃ a r, x = .ref a ∧ DGet H a y r ∧ (∀ d, o = some d → ∃ w, r = some w ∧ Rp K H g w d) ∧ (o = none → r = none) := by
  obtain ⟨a, ho, ws, rfl, ha, c, r⟩ := p.dct
  cases c with
  | dK kvs =>
    have key : ∀ kk : Key, k = kD kk → D.lookKey false (kvs.map fun p => kD p.1) vs k = some (D.look (kvs.map fun p => kD p.1) vs (kD kk)) := fun kk ek => by subst ek; cases kk <;> rfl
    have : ∃ kk : Key, k = kD kk := by
      cases k with
      | int i => exact ⟨.inl i, rfl⟩
      | str i => exact ⟨.inr i, rfl⟩
      | _ => simp [D.lookKey] at e
    obtain ⟨kk, rfl⟩ := this
    rw [key kk rfl] at e
    cases e
    obtain ⟨i1, i2⟩ := look_of (c := kD) (fun _ _ => kD_inj) kk r
    refine ⟨a, valV kvs kk, rfl, .inl ⟨kvs, kk, .inl ha, q.key (kD_key kk), rfl⟩, fun d ed => i1 d ed, i2⟩
  | dT kvs =>
    cases k with
    | tup ds =>
      simp only [D.lookKey] at e
      split at e
      · rename_i hs
        cases e
        obtain ⟨kk, hk⟩ := Option.isSome_iff_exists.mp hs
        have := keys_kD hk
        subst this
        obtain ⟨b, xs, rfl, hb, rb⟩ := q.tup
        have := rb.kV
        subst this
        obtain ⟨i1, i2⟩ := look_of (c := fun k => D.tup (k.map kD)) (fun _ _ => tupkey_inj) kk r
        exact ⟨a, valV kvs kk, rfl, .inr ⟨kvs, kk, b, .inl ha, rfl, hb, rfl⟩, fun d ed => i1 d ed, i2⟩
      · cases e
    | _ => simp [D.lookKey] at e
end

/-! ## in, subscripts, slices -/
section
variable {X : Cx} {z : Zx} {S S' : Sx} {σ : L2.St} {H H' : Hp} {g g' : Gh} {v : V} {d : D} {r : Res} {pos : Pos} {a b c : Expr} {fa fb fc : M Res}
def rInT (K : PySem.W.Frag) : R2 := fun x y H Q => ∃ d ds, Dp K H x d ∧ Dp K H y (.tuple ds) ∧ SeqAt.shaped d = true ∧ SeqAt.shaped (.tuple ds) = true ∧ Q (.bl (ds.any fun z => PyData.eqv z d)) H
def rNotInT (K : PySem.W.Frag) : R2 := fun x y H Q => ∃ d ds, Dp K H x d ∧ Dp K H y (.tuple ds) ∧ SeqAt.shaped d = true ∧ SeqAt.shaped (.tuple ds) = true ∧ Q (.bl (!ds.any fun z => PyData.eqv z d)) H
theorem op_inT (hu : X.A.units + 65 < cLine) : OpR X (compareOp .In) (rInT X.K) := by
  intro pins s σ H x y v u Q I rx ry h
  obtain ⟨d, ds, h1, h2, s1, s2, q⟩ := h
  obtain ⟨as, r1⟩ := Dp.reads I d x v h1 rx
  obtain ⟨bs, r2⟩ := Dp.reads I (.tuple ds) y u h2 ry
  exact SeqAt.in_tuple_reads r2 r1 (SeqAt.canLay_of_shaped s2) (SeqAt.canLay_of_shaped s1) (PyProof.Rows.room_in_shaped s1 hu) ⟨.bl _, H, I, rfl, q⟩
theorem op_notInT (hu : X.A.units + 65 < cLine) : OpR X (compareOp .NotIn) (rNotInT X.K) := by
  intro pins s σ H x y v u Q I rx ry h
  obtain ⟨d, ds, h1, h2, s1, s2, q⟩ := h
  obtain ⟨as, r1⟩ := Dp.reads I d x v h1 rx
  obtain ⟨bs, r2⟩ := Dp.reads I (.tuple ds) y u h2 ry
  exact SeqAt.notIn_tuple_reads r2 r1 (SeqAt.canLay_of_shaped s2) (SeqAt.canLay_of_shaped s1) (PyProof.Rows.room_in_shaped s1 hu) ⟨.bl _, H, I, rfl, q⟩
def rInDc : R2 := fun y x H Q => ∃ a o, x = .ref a ∧ DGet H a y o ∧ Q (.bl o.isSome) H
def rNotInDc : R2 := fun y x H Q => ∃ a o, x = .ref a ∧ DGet H a y o ∧ Q (.bl (!o.isSome)) H
theorem op_inDc (hu : X.A.units + 65 < cLine) : OpR X (compareOp .In) rInDc := by
  intro pins s σ H y x iv u Q I ry rx h
  obtain ⟨a, ov, rfl, g, q⟩ := h
  obtain rfl : u = Value.ref a := rx
  exact d_in (by omega) I g ry fun s3 I3 => ⟨.bl ov.isSome, H, I3, rfl, q⟩
theorem op_notInDc (hu : X.A.units + 65 < cLine) : OpR X (compareOp .NotIn) rNotInDc := by
  intro pins s σ H y x iv u Q I ry rx h
  obtain ⟨a, ov, rfl, g, q⟩ := h
  obtain rfl : u = Value.ref a := rx
  exact d_notIn (by omega) I g ry fun s3 I3 => ⟨.bl (!ov.isSome), H, I3, rfl, q⟩
def rInA (K : PySem.W.Frag) : R2 := fun x y H Q => rInD K x y H Q ∨ rInT K x y H Q ∨ rInDc x y H Q
def rNotInA (K : PySem.W.Frag) : R2 := fun x y H Q => rNotInD K x y H Q ∨ rNotInT K x y H Q ∨ rNotInDc x y H Q
theorem op_inA (hu : X.A.units + 65 < cLine) : OpR X (compareOp .In) (rInA X.K) := by
  intro pins s σ H x y v u Q I rx ry h
  rcases h with h | h | h
  · exact op_inD hu pins s σ H x y v u Q I rx ry h
  · exact op_inT hu pins s σ H x y v u Q I rx ry h
  · exact op_inDc hu pins s σ H x y v u Q I rx ry h
theorem op_notInA (hu : X.A.units + 65 < cLine) : OpR X (compareOp .NotIn) (rNotInA X.K) := by
  intro pins s σ H x y v u Q I rx ry h
  rcases h with h | h | h
  · exact op_notInD hu pins s σ H x y v u Q I rx ry h
  · exact op_notInT hu pins s σ H x y v u Q I rx ry h
  · exact op_notInDc hu pins s σ H x y v u Q I rx ry h
/-- is it among them -/
def D.among (d : D) (cs : List D) : Option Bool := match d.py, D.pys cs with
  | some p, some qs => if SeqAt.shaped p && SeqAt.shaped (.list qs) then some (qs.any fun q => PyData.eqv q p) else none
  | _, _ => none
def D.inn : D → D → Option Bool
  | d, .lst cs => d.among cs
  | d, .rol cs => d.among cs
  | d, .tup cs => d.among cs
  | d, .dct t ks vs => (D.lookKey t ks vs d).map Option.isSome
  | _, _ => none
def opIn (neg : Bool) (d e : D) : M Res := M.opt (d.inn e) fun b => pure (.dat (.bl (b != neg)))
theorem shaped_tl (qs : List PyData) : SeqAt.shaped (.tuple qs) = SeqAt.shaped (.list qs) := by
  simp [SeqAt.shaped, PyData.canLay0, PyData.depth]
theorem among_of {cs : List D} {o : Bool} (e : d.among cs = some o) : ∃ p qs, d.py = some p ∧ D.pys cs = some qs ∧ SeqAt.shaped p = true ∧ SeqAt.shaped (.list qs) = true ∧ o = qs.any fun q => PyData.eqv q p := by
  unfold D.among at e
  split at e
  · rename_i p qs e1 e2
    split at e
    · rename_i c
      cases e
      simp only [Bool.and_eq_true] at c
      exact ⟨p, qs, e1, e2, c.1, c.2, rfl⟩
    · cases e
  · cases e
theorem od_in : OpD X z (rInA X.K) (opIn false) := by
  intro S σ H g x y dx dy Q s px py h
  obtain ⟨o, e, h⟩ := h.opt
  have h := out_dat s (.bl _) h
  rw [Bool.bne_false] at h
  unfold D.inn at e
  split at e
  · obtain ⟨p, qs, e1, e2, c1, c2, rfl⟩ := among_of e
    exact .inl ⟨p, qs, px.dp e1, py.dp (by simp only [D.py, e2, Option.map_some]), c1, c2, h⟩
  · obtain ⟨p, qs, e1, e2, c1, c2, rfl⟩ := among_of e
    exact .inl ⟨p, qs, px.dp e1, py.dp (by simp only [D.py, e2, Option.map_some]), c1, c2, h⟩
  · obtain ⟨p, qs, e1, e2, c1, c2, rfl⟩ := among_of e
    exact .inr (.inl ⟨p, qs, px.dp e1, py.dp (by simp only [D.py, e2, Option.map_some]), c1, by rw [shaped_tl]; exact c2, h⟩)
  · simp only [Option.map_eq_some_iff] at e
    obtain ⟨w, e, rfl⟩ := e
    obtain ⟨a, r, rfl, gg, i1, i2⟩ := dget_of py px e
    refine .inr (.inr ⟨a, r, rfl, gg, ?_⟩)
    cases w with
    | none => rw [i2 rfl]; exact h
    | some d' => obtain ⟨w', e', _⟩ := i1 d' rfl; rw [e']; exact h
  · cases e
theorem od_notIn : OpD X z (rNotInA X.K) (opIn true) := by
  intro S σ H g x y dx dy Q s px py h
  obtain ⟨o, e, h⟩ := h.opt
  have h := out_dat s (.bl _) h
  rw [Bool.bne_true] at h
  unfold D.inn at e
  split at e
  · obtain ⟨p, qs, e1, e2, c1, c2, rfl⟩ := among_of e
    exact .inl ⟨p, qs, px.dp e1, py.dp (by simp only [D.py, e2, Option.map_some]), c1, c2, h⟩
  · obtain ⟨p, qs, e1, e2, c1, c2, rfl⟩ := among_of e
    exact .inl ⟨p, qs, px.dp e1, py.dp (by simp only [D.py, e2, Option.map_some]), c1, c2, h⟩
  · obtain ⟨p, qs, e1, e2, c1, c2, rfl⟩ := among_of e
    exact .inr (.inl ⟨p, qs, px.dp e1, py.dp (by simp only [D.py, e2, Option.map_some]), c1, by rw [shaped_tl]; exact c2, h⟩)
  · simp only [Option.map_eq_some_iff] at e
    obtain ⟨w, e, rfl⟩ := e
    obtain ⟨a, r, rfl, gg, i1, i2⟩ := dget_of py px e
    refine .inr (.inr ⟨a, r, rfl, gg, ?_⟩)
    cases w with
    | none => rw [i2 rfl]; exact h
    | some d' => obtain ⟨w', e', _⟩ := i1 d' rfl; rw [e']; exact h
  · cases e
theorem de_in (hu : X.A.units + 65 < cLine) (ha : DE X z a fa) (hb : DE X z b fb) (hm : behindInMarks .In b = false := by rfl) : DE X z (.Compare a [.In] [b] pos) (binM (opIn false) fa fb) := de_bin od_in (pe_cmpR (op_inA hu) ha hb hm)
theorem de_notin (hu : X.A.units + 65 < cLine) (ha : DE X z a fa) (hb : DE X z b fb) (hm : behindInMarks .NotIn b = false := by rfl) : DE X z (.Compare a [.NotIn] [b] pos) (binM (opIn true) fa fb) := de_bin od_notIn (pe_cmpR (op_notInA hu) ha hb hm)

/-- subscripts -/
def rIxDc : R2 := fun x y H Q => ∃ a v, x = V.ref a ∧ DGet H a y (some v) ∧ Q v H
theorem ix_dct (hu : X.A.units + 65 < cLine) : IxR X rIxDc := by
  intro value slice pins s σ H x y v u Q I rx ry h hs
  obtain ⟨a, w, rfl, gg, q⟩ := h
  obtain rfl : v = Value.ref a := rx
  exact PyProof.Rows.tail_any (dict_typeIs I gg) PySem.F.slot_dict_getitem.lookup (d_getItem (by omega) I gg ry fun w' s3 I3 rw' => ⟨w, H, I3, rw', q⟩) hs
def rIxA (K : PySem.W.Frag) : R2 := fun x y H Q => rIx K x y H Q ∨ rIxDc x y H Q
theorem ix_any (hu : X.A.units + 65 < cLine) : IxR X (rIxA X.K) := ix_seq.or (ix_dct hu)
def D.item : D → D → Option D
  | .lst ds, .int i => atI ds i
  | .rol ds, .int i => atI ds i
  | .tup ds, .int i => atI ds i
  | .str x, .int i => if x.length ≤ sizeLine then (atI x.cps.toList i).map fun c => .str ⟨#[c]⟩ else none
  | .dct t ks vs, k => (D.lookKey t ks vs k).bind id
  | _, _ => none
def opIx (d e : D) : M Res := M.opt (d.item e) fun x => pure (.dat x)
theorem RpA.atI {K : PySem.W.Frag} {vs : List V} {ds : List D} {i : Int} (r : RpA K H g vs ds) (e : L2.atI ds i = some d) : ∃ v, L2.atI vs i = some v ∧ Rp K H g v d := by
  unfold L2.atI at e ⊢
  rw [r.length]
  obtain ⟨j, e1, e2⟩ := Option.bind_eq_some_iff.mp e
  obtain ⟨w, e3, rw⟩ := r.get e2
  exact ⟨w, by rw [e1]; exact e3, rw⟩
theorem od_ix : OpD X z (rIxA X.K) opIx := by
  intro S σ H g x y dx dy Q s px py h
  obtain ⟨o, e, h2⟩ := h.opt
  unfold D.item at e
  split at e
  · obtain ⟨p, xs, rfl, hx, rx⟩ := px.lst
    obtain ⟨w, ew, rw⟩ := rx.atI e
    exact .inl (.inl ⟨p, xs, _, w, rfl, py.int, SqL.of hx, ew, out_dat s rw h2⟩)
  · obtain ⟨p, xs, rfl, hx, rx⟩ := px.rol
    obtain ⟨w, ew, rw⟩ := rx.atI e
    exact .inl (.inl ⟨p, xs, _, w, rfl, py.int, hx.sq, ew, out_dat s rw h2⟩)
  · obtain ⟨p, xs, rfl, hx, rx⟩ := px.tup
    obtain ⟨w, ew, rw⟩ := rx.atI e
    exact .inl (.inr (.inl ⟨p, xs, _, w, rfl, py.int, SqT.of hx, ew, out_dat s rw h2⟩))
  · split at e
    · rename_i hl
      simp only [Option.map_eq_some_iff] at e
      obtain ⟨c, e, rfl⟩ := e
      exact .inl (.inr (.inr ⟨_, _, c, px.str, py.int, hl, e, out_dat s (.str _) h2⟩))
    · cases e
  · obtain ⟨w, e1, e2⟩ := Option.bind_eq_some_iff.mp e
    obtain ⟨a, r, rfl, gg, i1, i2⟩ := dget_of px py e1
    obtain ⟨w', e', rw⟩ := i1 o e2
    exact .inr ⟨a, w', rfl, e' ▸ gg, out_dat s rw h2⟩
  · cases e
theorem de_ix (hu : X.A.units + 65 < cLine) (ha : DE X z a fa) (hb : DE X z b fb) (hs : PlainIx b := by exact fun _ _ => rfl) : DE X z (.Subscript a b pos) (binM opIx fa fb) := de_bin od_ix (pe_ix (ix_any hu) ha hb hs)
end
end DL
end
section
set_option maxRecDepth 100000
namespace DL
open PySem PySem.Spec L2
section
variable {X : Cx} {z : Zx} {S S' : Sx} {σ : L2.St} {H H' : Hp} {g g' : Gh} {v : V} {d : D} {r : Res} {pos : Pos} {a b c : Expr} {fa fb fc : M Res}

/-! ## slices -/
def tO (K : PySem.W.Frag) (mg : Str → Option Value) (z : Zx) (f : M (Option Int)) : TO := fun σ H Q => ∃ S g, SR K z S σ H g ∧ Go K mg z f S σ H g fun b _ H' _ => Q b H'
abbrev DO (X : Cx) (z : Zx) (e : Option Expr) (f : M (Option Int)) : Prop := PO X e (tO X.K X.mg z f)
theorem PO.imp {e : Option Expr} {t u : TO} (p : PO X e t) (h : ∀ σ H Q, u σ H Q → t σ H Q) : PO X e u := ⟨fun pins s σ H Q I q => p.run pins s σ H Q I (h σ H Q q)⟩
def D.isInt : D → Option Int
  | .int i => some i
  | _ => none
def partM (f : M Res) : M (Option Int) := f >>= fun r => M.opt r.d.isInt fun i => pure (some i)
theorem do_none : DO X z none (pure none) := PO.imp po_none fun σ H Q ⟨S, g, s, h⟩ => h.pure s
theorem do_some (ha : DE X z a fa) : DO X z (some a) (partM fa) := PO.imp (po_some ha) fun σ H Q ⟨S, g, s, h⟩ => by
  refine ⟨S, g, s, h.bnd.imp fun ra S1 H1 g1 s1 f1 h1 x rx => ?_⟩
  obtain ⟨i, e, h2⟩ := h1.opt
  have p := s1.pk rx
  cases hd : ra.d <;> rw [hd] at e <;> simp [D.isInt] at e
  subst e
  rw [hd] at p
  exact ⟨_, p.int, h2.pure s1⟩
/-- a part of a list -/
def cutD {α : Type} (xs : List α) (lo hi : Option Int) : List α := (xs.drop (HT.sIx xs.length 0 lo)).take (HT.sIx xs.length xs.length hi - HT.sIx xs.length 0 lo)
def opSl : D → Option Int → Option Int → M Res
  | .lst ds, lo, hi => pure (.new (.lst (cutD ds lo hi)))
  | .rol ds, lo, hi => pure (.new (.lst (cutD ds lo hi)))
  | .tup ds, lo, hi => pure (.dat (.tup (cutD ds lo hi)))
  | .str x, lo, hi => M.need (decide (x.length ≤ sizeLine)) (pure (.dat (.str (cutS x lo hi))))
  | _, _, _ => M.no
def slM (fa : M Res) (fl fh : M (Option Int)) : M Res := fa >>= fun ra => fl >>= fun lo => fh >>= fun hi => chkM ra.hold >>= fun _ => opSl ra.hold.d lo hi
def rSlAll (K : PySem.W.Frag) : V → Option Int → Option Int → Hp → VK → Prop := fun x lo hi H Q => rSlL K x lo hi H Q ∨ rSlA K x lo hi H Q ∨ rSlS x lo hi H Q
theorem sl_all : SlR X (rSlAll X.K) := sl_list.or (sl_tupA.or sl_str)
theorem RpA.cut {K : PySem.W.Frag} {vs : List V} {ds : List D} (r : RpA K H g vs ds) (lo hi : Option Int) : RpA K H g (cutV vs lo hi) (cutD ds lo hi) := by
  unfold cutV cutD
  rw [r.length]
  exact (r.drop _).take _
theorem de_sl {lo hi : Option Expr} {fl fh : M (Option Int)} {p2 : Pos} (ha : DE X z a fa) (hl : DO X z lo fl) (hh : DO X z hi fh) : DE X z (.Subscript a (.Slice lo hi none p2) pos) (slM fa fl fh) := by
  refine PE.imp (pe_slice sl_all ha hl hh) fun σ H Q ⟨S, g, s, h⟩ => ?_
  refine ⟨S, g, s, h.bnd.imp fun ra S1 H1 g1 s1 f1 h1 x rx => ?_⟩
  obtain ⟨g2, s2, f2, rx2⟩ := s1.hold rx
  refine ⟨S1, g2, s2, (h1.at f2).bnd.imp fun l S3 H3 g3 s3 f3 h3 => ?_⟩
  refine ⟨S3, g3, s3, h3.bnd.imp fun u S4 H4 g4 s4 f4 h4 => ?_⟩
  obtain ⟨rx3, h5⟩ := Go.chk s2 s4 (f3.trans f4) (by cases ra <;> rfl) rx2 h4
  have p := s4.pk rx3
  cases hd : ra.hold.d with
  | lst ds =>
    rw [hd] at h5 p
    obtain ⟨a, xs, rfl, hx, rx⟩ := p.lst
    exact .inl ⟨a, xs, rfl, SqL.of hx, out_lst s4 (rx.cut _ _) h5⟩
  | rol ds =>
    rw [hd] at h5 p
    obtain ⟨a, xs, rfl, hx, rx⟩ := p.rol
    exact .inl ⟨a, xs, rfl, hx.sq, out_lst s4 (rx.cut _ _) h5⟩
  | tup ds =>
    rw [hd] at h5 p
    obtain ⟨a, xs, rfl, hx, rx⟩ := p.tup
    refine .inr (.inl ⟨a, xs, rfl, SqT.of hx, fun q => ?_, fun _ => out_tup s4 (rx.cut _ _) h5⟩)
    have e : cutD ds l u = ds := by
      unfold cutD
      rw [← rx.length, q.1, q.2, List.drop_zero, Nat.sub_zero, rx.length, List.take_length]
    change Go _ _ _ (pure (Res.dat (D.tup (cutD ds l u)))) _ _ _ _ _ at h5
    rw [e] at h5
    exact out_dat s4 (.tup hx rx) h5
  | str x' =>
    rw [hd] at h5 p
    obtain ⟨cc, h5⟩ := h5.need
    exact .inr (.inr ⟨x', p.str, of_decide_eq_true cc, out_dat s4 (.str _) h5⟩)
  | _ => rw [hd] at h5; exact h5.none.elim

/-! ## tests -/
def D.truth : D → Option Bool
  | .non => some false
  | .bl b => some b
  | .int i => some (i != 0)
  | .str x => if x.length ≤ sizeLine then some ((x.length : Int) != 0) else none
  | .lst ds => some (!ds.isEmpty)
  | .rol ds => some (!ds.isEmpty)
  | .tup ds => some (!ds.isEmpty)
  | .dct false ks _ => some (!ks.isEmpty)
  | _ => none
theorem RpA.emp {K : PySem.W.Frag} {vs : List V} {ds : List D} (r : RpA K H g vs ds) : vs.isEmpty = ds.isEmpty := by cases r <;> rfl
theorem Pk.truth {K : PySem.W.Frag} {k : Bool} (p : Pk K H g v d) (e : d.truth = some k) : TruV K v H k := by
  unfold D.truth at e
  split at e
  · cases e; rw [p.non]; rfl
  · cases e; rw [p.bl]; rfl
  · cases e; rw [p.int]; rfl
  · split at e
    · rename_i h; cases e; rw [p.str]; exact ⟨h, rfl⟩
    · cases e
  · cases e; obtain ⟨a, xs, rfl, hx, rx⟩ := p.lst
    exact .inl ⟨xs, SqL.of hx, by rw [rx.emp]⟩
  · cases e; obtain ⟨a, xs, rfl, hx, rx⟩ := p.rol
    exact .inl ⟨xs, hx.sq, by rw [rx.emp]⟩
  · cases e; obtain ⟨a, xs, rfl, hx, rx⟩ := p.tup
    exact .inr (.inl ⟨xs, SqT.of hx, by rw [rx.emp]⟩)
  · cases e; obtain ⟨a, o, ws, rfl, hx, c, rx⟩ := p.dct
    cases c with
    | dK kvs => exact .inr (.inr ⟨kvs, hx, by cases kvs <;> rfl⟩)
  · cases e
def testM (f : M Res) : M Bool := f >>= fun r => M.opt r.d.truth pure
theorem dt_val (ha : DE X z a fa) (he : ∀ whole, PySem.isTrue a X.env whole = (do let v ← whole; standAt a.pos; holding [v] (truthy v)) := by intro _; rfl) : DT X z a (testM fa) :=
  PT.imp (pt_truth ha he) fun σ H Q ⟨S, g, s, h⟩ => ⟨S, g, s, h.bnd.imp fun ra S1 H1 g1 s1 f1 h1 x rx => by
    obtain ⟨k, e, h2⟩ := h1.opt
    exact ⟨k, (s1.pk rx).truth e, h2.pure s1⟩⟩
abbrev DW (X : Cx) (z : Zx) (e : Expr) (f : M Bool) : Prop := PW X e (tT X.K X.mg z f)
theorem PW.imp {e : Expr} {t u : TT} (p : PW X e t) (h : ∀ σ H Q, u σ H Q → t σ H Q) : PW X e u := ⟨fun wh pins s σ H Q I q => p.run wh pins s σ H Q I (h σ H Q q)⟩
variable {ta tb : M Bool} {rest : List Expr}
def andT (f g : M Bool) : M Bool := f >>= fun b => if b = true then g else pure false
def orT (f g : M Bool) : M Bool := f >>= fun b => if b = true then pure true else g
def notT (f : M Bool) : M Bool := f >>= fun b => pure (!b)
theorem dw_and1 (ha : DT X z a ta) : DW X z (.BoolOp .And [a] pos) ta := pw_and1 ha
theorem dw_or1 (ha : DT X z a ta) : DW X z (.BoolOp .Or [a] pos) ta := pw_or1 ha
theorem dw_and (ha : DT X z a ta) (hb : DW X z (.BoolOp .And (b :: rest) pos) tb) : DW X z (.BoolOp .And (a :: b :: rest) pos) (andT ta tb) :=
  PW.imp (pw_and ha hb) fun σ H Q ⟨S, g, s, h⟩ => ⟨S, g, s, h.bnd.imp fun k S1 H1 g1 s1 f1 h1 => by
    cases k with
    | true => exact ⟨S1, g1, s1, h1⟩
    | false => exact h1.pure s1⟩
theorem dw_or (ha : DT X z a ta) (hb : DW X z (.BoolOp .Or (b :: rest) pos) tb) : DW X z (.BoolOp .Or (a :: b :: rest) pos) (orT ta tb) :=
  PW.imp (pw_or ha hb) fun σ H Q ⟨S, g, s, h⟩ => ⟨S, g, s, h.bnd.imp fun k S1 H1 g1 s1 f1 h1 => by
    cases k with
    | true => exact h1.pure s1
    | false => exact ⟨S1, g1, s1, h1⟩⟩
theorem dt_w (h : DW X z a ta) : DT X z a ta := h.pt
theorem dt_not (ha : DT X z a ta) : DT X z (.UnaryOp .Not a pos) (notT ta) :=
  PT.imp (pt_not ha) fun σ H Q ⟨S, g, s, h⟩ => ⟨S, g, s, h.bnd.imp fun k S1 H1 g1 s1 f1 h1 => h1.pure s1⟩
/-- .. as values -/
def andM (f g : M Res) : M Res := f >>= fun r => M.opt r.d.truth fun k => if k = true then g else useM r >>= fun d => pure (.dat d)
def orM (f g : M Res) : M Res := f >>= fun r => M.opt r.d.truth fun k => if k = true then useM r >>= fun d => pure (.dat d) else g
def notM (f : M Res) : M Res := f >>= fun r => M.opt r.d.truth fun k => pure (.dat (.bl (!k)))
theorem out_use {K : PySem.W.Frag} {mg : Str → Option Value} {x : V} {Q : VK} (s : SR K z S σ H g) (rx : ResOk K z S σ H g x r) (h : Go K mg z (useM r >>= fun d => pure (.dat d)) S σ H g (fun r S' H' g' => ∀ v, ResOk K z S' σ H' g' v r → Q v H')) : Q x H := by
  obtain ⟨S', g', s', f, rp, h2⟩ := h.use s rx
  exact h2.pure s' x rp
theorem de_one {op} (ha : DE X z a fa) : DE X z (.BoolOp op [a] pos) fa := pe_one ha
theorem de_and (ha : DE X z a fa) (hb : DE X z (.BoolOp .And (b :: rest) pos) fb) : DE X z (.BoolOp .And (a :: b :: rest) pos) (andM fa fb) :=
  PE.imp (pe_andT ha hb) fun σ H Q ⟨S, g, s, h⟩ => ⟨S, g, s, h.bnd.imp fun ra S1 H1 g1 s1 f1 h1 x rx => by
    obtain ⟨k, e, h2⟩ := h1.opt
    refine ⟨k, (s1.pk rx).truth e, ?_⟩
    cases k with
    | true => exact ⟨S1, g1, s1, h2⟩
    | false => exact out_use s1 rx h2⟩
theorem de_or (ha : DE X z a fa) (hb : DE X z (.BoolOp .Or (b :: rest) pos) fb) : DE X z (.BoolOp .Or (a :: b :: rest) pos) (orM fa fb) :=
  PE.imp (pe_orT ha hb) fun σ H Q ⟨S, g, s, h⟩ => ⟨S, g, s, h.bnd.imp fun ra S1 H1 g1 s1 f1 h1 x rx => by
    obtain ⟨k, e, h2⟩ := h1.opt
    refine ⟨k, (s1.pk rx).truth e, ?_⟩
    cases k with
    | true => exact out_use s1 rx h2
    | false => exact ⟨S1, g1, s1, h2⟩⟩
theorem de_not (ha : DE X z a fa) : DE X z (.UnaryOp .Not a pos) (notM fa) :=
  PE.imp (pe_notT ha) fun σ H Q ⟨S, g, s, h⟩ => ⟨S, g, s, h.bnd.imp fun ra S1 H1 g1 s1 f1 h1 x rx => by
    obtain ⟨k, e, h2⟩ := h1.opt
    exact ⟨k, (s1.pk rx).truth e, out_dat s1 (.bl _) h2⟩⟩
def ifM {α : Type} (t : M Bool) (f g : M α) : M α := t >>= fun b => if b = true then f else g
theorem de_if (hc : DT X z c ta) (ha : DE X z a fa) (hb : DE X z b fb) : DE X z (.IfExp c a b pos) (ifM ta fa fb) :=
  PE.imp (pe_ifExp hc ha hb) fun σ H Q ⟨S, g, s, h⟩ => ⟨S, g, s, h.bnd.imp fun k S1 H1 g1 s1 f1 h1 => by
    cases k with
    | true => exact ⟨S1, g1, s1, h1⟩
    | false => exact ⟨S1, g1, s1, h1⟩⟩
def negM (f : M Res) : M Res := f >>= fun r => M.opt r.d.isInt fun i => pure (.dat (.int (-i)))
theorem isInt_eq {d : D} {i : Int} (e : d.isInt = some i) : d = .int i := by cases d <;> simp [D.isInt] at e; subst e; rfl
theorem de_neg (ha : DE X z a fa) : DE X z (.UnaryOp .USub a pos) (negM fa) :=
  PE.imp (pe_un un_neg ha) fun σ H Q ⟨S, g, s, h⟩ => ⟨S, g, s, h.bnd.imp fun ra S1 H1 g1 s1 f1 h1 x rx => by
    obtain ⟨i, e, h2⟩ := h1.opt
    have p := s1.pk rx
    rw [isInt_eq e] at p
    exact ⟨i, p.int, out_dat s1 (.int _) h2⟩⟩

/-! ## arguments -/
def nilA : M (List Res) := pure []
def consA (f : M Res) (g : M (List Res)) : M (List Res) := f >>= fun r => g >>= fun rs => chkM r.hold >>= fun _ => pure (r.hold :: rs)
theorem da_nil : DA X z [] nilA := PA.imp pa_nil fun σ H Q ⟨S, g, s, h⟩ => h.pure s [] .nil
variable {es : List Expr} {fs : M (List Res)}
theorem da_cons (ha : DE X z a fa) (hr : DA X z es fs) (hs : starEach (a :: es) X.env = (false, eval a X.env) :: starEach es X.env := by rfl) : DA X z (a :: es) (consA fa fs) :=
  PA.imp (pa_cons ha hr hs) fun σ H Q ⟨S, g, s, h⟩ => ⟨S, g, s, h.bnd.imp fun ra S1 H1 g1 s1 f1 h1 x rx => by
    obtain ⟨g2, s2, f2, rx2⟩ := s1.hold rx
    refine ⟨S1, g2, s2, (h1.at f2).bnd.imp fun rs S3 H3 g3 s3 f3 h3 xs rxs => ?_⟩
    obtain ⟨rx3, h4⟩ := Go.chk s2 s3 f3 (by cases ra <;> rfl) rx2 h3
    exact h4.pure s3 (x :: xs) (.cons rx3 rxs)⟩
/-- all arguments as data -/
def chkAll : List Res → M Unit
  | [] => pure ()
  | r :: rs => chkM r >>= fun _ => chkAll rs
def useAll : List Res → M (List D)
  | [] => pure []
  | r :: rs => useM r >>= fun d => chkAll rs >>= fun _ => useAll rs >>= fun ds => pure (d :: ds)
def Held (rs : List Res) : Prop := ∀ r ∈ rs, r.hold = r
theorem Go.chkAll {K : PySem.W.Frag} {mg : Str → Option Value} {α : Type} {P : α → Sx → Hp → Gh → Prop} {k : Unit → M α} (s : SR K z S σ H g) (s' : SR K z S' σ H' g') (f : Fr H g H' g') : ∀ {rs : List Res} {vs : List V}, Held rs → Paired (ResOk K z S σ H g) vs rs →
    Go K mg z (chkAll rs >>= k) S' σ H' g' P → Paired (ResOk K z S' σ H' g') vs rs ∧ Go K mg z (k ()) S' σ H' g' P
  | [], _, _, .nil, h => ⟨.nil, h.bnd.pure s'⟩
  | r :: rs, _, hh, .cons a t, h => by
    have h1 : Go K mg z (chkM r >>= fun _ => DL.chkAll rs >>= k) S' σ H' g' P := by
      have e : (DL.chkAll (r :: rs) >>= k) = (chkM r >>= fun _ => DL.chkAll rs >>= k) := by
        show M.bnd (M.bnd (chkM r) _) k = M.bnd (chkM r) _
        funext s0
        unfold M.bnd
        cases chkM r s0 with
        | none => rfl
        | some p => obtain ⟨e, s1⟩ := p; cases e <;> rfl
      rw [← e]; exact h
    obtain ⟨r1, h2⟩ := Go.chk s s' f (hh r List.mem_cons_self) a h1
    obtain ⟨r2, h3⟩ := Go.chkAll s s' f (fun q hq => hh q (List.mem_cons_of_mem _ hq)) t h2
    exact ⟨.cons r1 r2, h3⟩
theorem bind_assoc {α β γ : Type} (f : M α) (k : α → M β) (l : β → M γ) : ((f >>= k) >>= l) = (f >>= fun a => k a >>= l) := by
  funext s0
  show M.bnd (M.bnd f k) l s0 = M.bnd f (fun a => M.bnd (k a) l) s0
  unfold M.bnd
  cases f s0 with
  | none => rfl
  | some p => obtain ⟨e, s1⟩ := p; cases e <;> rfl
theorem pure_bind {α β : Type} (a : α) (k : α → M β) : ((pure a : M α) >>= k) = k a := rfl
theorem Go.useAll {K : PySem.W.Frag} {mg : Str → Option Value} {α : Type} {P : α → Sx → Hp → Gh → Prop} {k : List D → M α} : ∀ {rs : List Res} {vs : List V} {S : Sx} {g : Gh}, SR K z S σ H g → Held rs → Paired (ResOk K z S σ H g) vs rs →
    Go K mg z (useAll rs >>= k) S σ H g P → ∃ S' g', SR K z S' σ H g' ∧ Fr H g H g' ∧ RpA K H g' vs (rs.map (·.d)) ∧ Go K mg z (k (rs.map (·.d))) S' σ H g' P
  | [], _, S, g, s, _, .nil, h => ⟨S, g, s, Fr.refl _ _, .nil, h.bnd.pure s⟩
  | r :: rs, _, S, g, s, hh, .cons a t, h => by
    have e : (DL.useAll (r :: rs) >>= k) = (useM r >>= fun d => DL.chkAll rs >>= fun _ => DL.useAll rs >>= fun ds => k (d :: ds)) := by
      show ((useM r >>= fun d => DL.chkAll rs >>= fun _ => DL.useAll rs >>= fun ds => Pure.pure (d :: ds)) >>= k) = _
      rw [bind_assoc]
      refine congrArg _ (funext fun d => ?_)
      rw [bind_assoc]
      refine congrArg _ (funext fun _ => ?_)
      rw [bind_assoc]
      rfl
    rw [e] at h
    obtain ⟨S1, g1, s1, f1, rp, h1⟩ := h.use s a
    obtain ⟨t2, h2⟩ := Go.chkAll s s1 f1 (fun q hq => hh q (List.mem_cons_of_mem _ hq)) t h1
    obtain ⟨S3, g3, s3, f3, rps, h3⟩ := Go.useAll s1 (fun q hq => hh q (List.mem_cons_of_mem _ hq)) t2 h2
    exact ⟨S3, g3, s3, f1.trans f3, .cons (rp.fr f3 s1.mu) rps, h3⟩
/-- arguments are held by construction -/
structure DAH (X : Cx) (z : Zx) (es : List Expr) (f : M (List Res)) : Prop where
  da : DA X z es f
  held : ∀ S rs S', f S = some (.ok rs, S') → Held rs
theorem dah_nil : DAH X z [] nilA := ⟨da_nil, fun S rs S' e => by cases e; exact fun r hr => by cases hr⟩
theorem bind_inv {α β : Type} {f : M α} {k : α → M β} {b : β} {s s2 : Sx} (e : (f >>= k) s = some (.ok b, s2)) : ∃ a s1, f s = some (.ok a, s1) ∧ k a s1 = some (.ok b, s2) := by
  change M.bnd f k s = _ at e
  unfold M.bnd at e
  cases hf : f s with
  | none => rw [hf] at e; cases e
  | some p =>
    obtain ⟨r, s1⟩ := p
    rw [hf] at e
    cases r with
    | error x => cases e
    | ok a => exact ⟨a, s1, rfl, e⟩
theorem dah_cons (ha : DE X z a fa) (hr : DAH X z es fs) (hs : starEach (a :: es) X.env = (false, eval a X.env) :: starEach es X.env := by rfl) : DAH X z (a :: es) (consA fa fs) :=
  ⟨da_cons ha hr.da hs, fun S rs S' e => by
    obtain ⟨r, s1, _, e⟩ := bind_inv e
    obtain ⟨rs', s2, e2, e⟩ := bind_inv e
    obtain ⟨_, s3, _, e⟩ := bind_inv e
    cases e
    intro q hq
    rcases List.mem_cons.mp hq with rfl | hq
    · cases r <;> rfl
    · exact hr.held _ _ _ e2 q hq⟩
theorem Go.heldP {K : PySem.W.Frag} {mg : Str → Option Value} {f : M (List Res)} {P : List Res → Sx → Hp → Gh → Prop} (hh : ∀ S rs S', f S = some (.ok rs, S') → Held rs) (h : Go K mg z f S σ H g P) : Go K mg z f S σ H g fun rs S' H' g' => Held rs ∧ P rs S' H' g' := by
  unfold Go at h ⊢
  cases hf : f S with
  | none => rw [hf] at h; exact h
  | some p =>
    obtain ⟨r, S1⟩ := p
    rw [hf] at h
    cases r with
    | error x => exact h
    | ok a => exact fun H' g' s f => ⟨hh _ _ _ hf, h H' g' s f⟩
/-- displays -/
def tupM (f : M (List Res)) : M Res := f >>= fun rs => useAll rs >>= fun ds => M.need (decide (ds.length ≤ sizeLine)) (pure (.dat (.tup ds)))
def lstM (f : M (List Res)) : M Res := f >>= fun rs => useAll rs >>= fun ds => M.need (decide (ds.length ≤ sizeLine)) (pure (.new (.lst ds)))
theorem de_tup {x1} (ha : DAH X z es fs) : DE X z (.Tuple es x1 pos) (tupM fs) :=
  PE.imp (pe_tup ha.da) fun σ H Q ⟨S, g, s, h⟩ => ⟨S, g, s, (Go.heldP ha.held h.bnd).imp fun rs S1 H1 g1 s1 f1 ⟨hh, h1⟩ xs rxs => by
    obtain ⟨S2, g2, s2, f2, rp, h2⟩ := h1.useAll s1 hh rxs
    obtain ⟨c, h3⟩ := h2.need
    exact ⟨by rw [rp.length]; exact of_decide_eq_true c, out_tup s2 rp h3⟩⟩
theorem de_lst (ha : DAH X z es fs) : DE X z (.List es pos) (lstM fs) :=
  PE.imp (pe_lst ha.da) fun σ H Q ⟨S, g, s, h⟩ => ⟨S, g, s, (Go.heldP ha.held h.bnd).imp fun rs S1 H1 g1 s1 f1 ⟨hh, h1⟩ xs rxs => by
    obtain ⟨S2, g2, s2, f2, rp, h2⟩ := h1.useAll s1 hh rxs
    obtain ⟨c, h3⟩ := h2.need
    exact ⟨by rw [rp.length]; exact of_decide_eq_true c, out_lst s2 rp h3⟩⟩
end
end DL
end
section
set_option maxRecDepth 100000
namespace DL
open PySem PySem.Spec L2
section
variable {X : Cx} {z : Zx} {S S' : Sx} {σ : L2.St} {H H' : Hp} {g g' : Gh} {v : V} {d : D} {r : Res} {pos : Pos} {a b c : Expr} {fa fb fc : M Res} {K : PySem.W.Frag} {mg : Str → Option Value}

/-! ## statements -/
theorem GoS.at {f : M Fl} {D : Ends} (h : GoS K mg z f S σ H g D) (fr : Fr H g H' g') : GoS K mg z f S σ H' g' D := by
  unfold GoS at h ⊢
  cases hf : f S with
  | none => rw [hf] at h; exact h
  | some p =>
    obtain ⟨r, S1⟩ := p
    rw [hf] at h
    cases r with
    | error x => exact fun cls dx σ2 H2 g2 s2 f2 => h cls dx σ2 H2 g2 s2 (fr.trans f2)
    | ok a =>
      cases a with
      | ret r => exact fun σ2 H2 g2 v s2 f2 => h σ2 H2 g2 v s2 (fr.trans f2)
      | next => exact fun σ2 H2 g2 s2 f2 => h σ2 H2 g2 s2 (fr.trans f2)
      | brk => exact fun σ2 H2 g2 s2 f2 => h σ2 H2 g2 s2 (fr.trans f2)
      | cont => exact fun σ2 H2 g2 s2 f2 => h σ2 H2 g2 s2 (fr.trans f2)
/-- an expression ahead of what follows -/
theorem GoS.bnd {α : Type} {f : M α} {k : α → M Fl} {D : Ends} (h : GoS K mg z (f >>= k) S σ H g D) : Go K mg z f S σ H g fun r S1 H1 g1 => GoS K mg z (k r) S1 σ H1 g1 D := by
  have e : (f >>= k) S = M.bnd f k S := rfl
  unfold GoS at h
  unfold Go
  rw [e] at h
  unfold M.bnd at h
  cases hf : f S with
  | none => rw [hf] at h; exact h
  | some p =>
    obtain ⟨r, S1⟩ := p
    rw [hf] at h
    cases r with
    | error x => exact fun cls dx H2 g2 s2 f2 => h cls dx σ H2 g2 s2 f2
    | ok a =>
      intro H1 g1 s1 f1
      show GoS K mg z (k a) S1 σ H1 g1 D
      have h' : GoS K mg z (k a) S1 σ H g D := by unfold GoS; exact h
      exact h'.at f1
/-- a statement ahead of what follows -/
theorem GoS.fr_seq {f : M Fl} {k : Fl → M Fl} {D D' : Ends} (h : GoS K mg z (f >>= k) S σ H g D)
    (hn : ∀ S1 σ1 H1 g1, SR K z S1 σ1 H1 g1 → Fr H g H1 g1 → GoS K mg z (k .next) S1 σ1 H1 g1 D → D'.nx σ1 H1)
    (hb : ∀ S1 σ1 H1 g1, SR K z S1 σ1 H1 g1 → Fr H g H1 g1 → GoS K mg z (k .brk) S1 σ1 H1 g1 D → D'.bk σ1 H1)
    (hc : ∀ S1 σ1 H1 g1, SR K z S1 σ1 H1 g1 → Fr H g H1 g1 → GoS K mg z (k .cont) S1 σ1 H1 g1 D → D'.ct σ1 H1)
    (hr : ∀ r S1 σ1 H1 g1 v, SR K z S1 σ1 H1 g1 → Fr H g H1 g1 → ResOk K z S1 σ1 H1 g1 v r → GoS K mg z (k (.ret r)) S1 σ1 H1 g1 D → D'.rt v H1) : GoS K mg z f S σ H g D' := by
  have e : (f >>= k) S = M.bnd f k S := rfl
  unfold GoS at h
  rw [e] at h
  unfold M.bnd at h
  unfold GoS
  cases hf : f S with
  | none => rw [hf] at h; exact h
  | some p =>
    obtain ⟨r, S1⟩ := p
    rw [hf] at h
    cases r with
    | error x => exact h
    | ok a =>
      have h' : GoS K mg z (k a) S1 σ H g D := by unfold GoS; exact h
      have h2 : ∀ σ1 H1 g1, Fr H g H1 g1 → GoS K mg z (k a) S1 σ1 H1 g1 D := by
        intro σ1 H1 g1 f1
        unfold GoS at h' ⊢
        cases hk : k a S1 with
        | none => rw [hk] at h'; exact h'
        | some q =>
          obtain ⟨r2, S2⟩ := q
          rw [hk] at h'
          cases r2 with
          | error x => exact fun cls dx σ2 H2 g2 s2 f2 => h' cls dx σ2 H2 g2 s2 (f1.trans f2)
          | ok a =>
            cases a with
            | ret r => exact fun σ2 H2 g2 v s2 f2 => h' σ2 H2 g2 v s2 (f1.trans f2)
            | next => exact fun σ2 H2 g2 s2 f2 => h' σ2 H2 g2 s2 (f1.trans f2)
            | brk => exact fun σ2 H2 g2 s2 f2 => h' σ2 H2 g2 s2 (f1.trans f2)
            | cont => exact fun σ2 H2 g2 s2 f2 => h' σ2 H2 g2 s2 (f1.trans f2)
      cases a with
      | next => exact fun σ1 H1 g1 s1 f1 => hn S1 σ1 H1 g1 s1 f1 (h2 σ1 H1 g1 f1)
      | brk => exact fun σ1 H1 g1 s1 f1 => hb S1 σ1 H1 g1 s1 f1 (h2 σ1 H1 g1 f1)
      | cont => exact fun σ1 H1 g1 s1 f1 => hc S1 σ1 H1 g1 s1 f1 (h2 σ1 H1 g1 f1)
      | ret r => exact fun σ1 H1 g1 v s1 f1 rv => hr r S1 σ1 H1 g1 v s1 f1 rv (h2 σ1 H1 g1 f1)
theorem GoS.seq {f : M Fl} {k : Fl → M Fl} {D D' : Ends} (h : GoS K mg z (f >>= k) S σ H g D)
    (hn : ∀ S1 σ1 H1 g1, SR K z S1 σ1 H1 g1 → GoS K mg z (k .next) S1 σ1 H1 g1 D → D'.nx σ1 H1)
    (hb : ∀ S1 σ1 H1 g1, SR K z S1 σ1 H1 g1 → GoS K mg z (k .brk) S1 σ1 H1 g1 D → D'.bk σ1 H1)
    (hc : ∀ S1 σ1 H1 g1, SR K z S1 σ1 H1 g1 → GoS K mg z (k .cont) S1 σ1 H1 g1 D → D'.ct σ1 H1)
    (hr : ∀ r S1 σ1 H1 g1 v, SR K z S1 σ1 H1 g1 → ResOk K z S1 σ1 H1 g1 v r → GoS K mg z (k (.ret r)) S1 σ1 H1 g1 D → D'.rt v H1) : GoS K mg z f S σ H g D' :=
  h.fr_seq (fun S1 σ1 H1 g1 s _ => hn S1 σ1 H1 g1 s) (fun S1 σ1 H1 g1 s _ => hb S1 σ1 H1 g1 s) (fun S1 σ1 H1 g1 s _ => hc S1 σ1 H1 g1 s) fun r S1 σ1 H1 g1 v s _ => hr r S1 σ1 H1 g1 v s
theorem GoS.next {D : Ends} (h : GoS K mg z (pure .next) S σ H g D) (s : SR K z S σ H g) : D.nx σ H := h σ H g s (Fr.refl _ _)
theorem GoS.brk {D : Ends} (h : GoS K mg z (pure .brk) S σ H g D) (s : SR K z S σ H g) : D.bk σ H := h σ H g s (Fr.refl _ _)
theorem GoS.cont {D : Ends} (h : GoS K mg z (pure .cont) S σ H g D) (s : SR K z S σ H g) : D.ct σ H := h σ H g s (Fr.refl _ _)
theorem GoS.ret {D : Ends} (h : GoS K mg z (pure (.ret r)) S σ H g D) (s : SR K z S σ H g) (rv : ResOk K z S σ H g v r) : D.rt v H := h σ H g v s (Fr.refl _ _) rv

def seqM (f h : M Fl) : M Fl := f >>= fun fl => match fl with
  | .next => h
  | x => pure x
variable {st : Stmt} {sts : List Stmt} {f h : M Fl}
theorem db_nil : DB X z [] (pure .next) := PSs.imp pss_nil fun D σ H ⟨S, g, s, q⟩ => q.next s
theorem db_one (h1 : DS X z st f) : DB X z [st] f := pss_one h1
theorem db_cons (h1 : DS X z st f) (h2 : DB X z sts h) : DB X z (st :: sts) (seqM f h) :=
  PSs.imp (pss_cons h1 h2) fun D σ H ⟨S, g, s, q⟩ => ⟨S, g, s, q.seq (D' := { D with nx := tS X.K X.mg z h D })
    (fun S1 σ1 H1 g1 s1 q1 => ⟨S1, g1, s1, q1⟩) (fun S1 σ1 H1 g1 s1 q1 => q1.brk s1) (fun S1 σ1 H1 g1 s1 q1 => q1.cont s1) fun r S1 σ1 H1 g1 v s1 rv q1 => q1.ret s1 rv⟩
theorem ds_pass : DS X z (.Pass pos) (pure .next) := PS.imp ps_pass fun D σ H ⟨S, g, s, q⟩ => q.next s
theorem ds_break : DS X z (.Break pos) (pure .brk) := PS.imp ps_break fun D σ H ⟨S, g, s, q⟩ => q.brk s
theorem ds_cont : DS X z (.Continue pos) (pure .cont) := PS.imp ps_continue fun D σ H ⟨S, g, s, q⟩ => q.cont s
def retM (f : M Res) : M Fl := f >>= fun r => pure (.ret r)
theorem ds_ret (ha : DE X z a fa) : DS X z (.Return (some a) pos) (retM fa) :=
  PS.imp (ps_ret ha) fun D σ H ⟨S, g, s, q⟩ => ⟨S, g, s, q.bnd.imp fun r S1 H1 g1 s1 f1 q1 v rv => q1.ret s1 rv⟩
theorem ds_retN : DS X z (.Return none pos) (pure (.ret (.dat .non))) := PS.imp ps_retN fun D σ H ⟨S, g, s, q⟩ => q.ret s (v := .non) .non
def exprM (f : M Res) : M Fl := f >>= fun _ => pure .next
theorem ds_expr (ha : DE X z a fa) (hs : swapsWith a none pos.line X.env = pure false := by rfl) : DS X z (.Expr a pos) (exprM fa) :=
  PS.imp (ps_expr ha hs) fun D σ H ⟨S, g, s, q⟩ => ⟨S, g, s, q.bnd.imp fun r S1 H1 g1 s1 f1 q1 v rv => q1.next s1⟩
theorem ds_doc {x j} {p2 : Pos} : DS X z (.Expr (.Constant (.str x) j pos) p2) (pure .next) := PS.imp ps_doc fun D σ H ⟨S, g, s, q⟩ => q.next s
variable {xs ys : List Stmt} {ta : M Bool}
theorem ds_if (hc : DT X z c ta) (ha : DB X z xs f) (hb : DB X z ys h) : DS X z (.If c xs ys pos) (ifM ta f h) :=
  PS.imp (ps_if hc ha hb) fun D σ H ⟨S, g, s, q⟩ => ⟨S, g, s, q.bnd.imp fun k S1 H1 g1 s1 f1 q1 => by
    cases k with
    | true => exact ⟨S1, g1, s1, q1⟩
    | false => exact ⟨S1, g1, s1, q1⟩⟩

/-! ## slots -/
theorem SR.put_dat {i : Nat} (s : SR K z S σ H g) (rv : Rp K H g v d) : SR K z (S.put i (.dat d)) (σ.set i (some v)) H g where
  len := by show (S.env.set i _).length = _; rw [List.length_set, List.length_set]; exact s.len
  dat := fun j e h => by
    rcases set_get h with ⟨rfl, q⟩ | ⟨ne, q⟩
    · cases q
      have hl : i < σ.length := by
        have := (List.getElem?_eq_some_iff.mp h).1
        change i < (S.env.set i _).length at this
        rw [List.length_set, s.len] at this
        exact this
      exact ⟨v, List.getElem?_set_self hl, rv⟩
    · obtain ⟨w, e1, r⟩ := s.dat j e q
      exact ⟨w, by rw [List.getElem?_set_ne ne]; exact e1, r⟩
  own := fun j e h => by
    rcases set_get h with ⟨rfl, q⟩ | ⟨ne, q⟩
    · cases q
    · obtain ⟨b, e1, r⟩ := s.own j e q
      exact ⟨b, by rw [List.getElem?_set_ne ne]; exact e1, r⟩
  inj := fun j k d1 d2 b h1 h2 e1 e2 => by
    rcases set_get h1 with ⟨rfl, q⟩ | ⟨ne1, q1⟩
    · cases q
    · rcases set_get h2 with ⟨rfl, q⟩ | ⟨ne2, q2⟩
      · cases q
      · rw [List.getElem?_set_ne ne1] at e1
        rw [List.getElem?_set_ne ne2] at e2
        exact s.inj j k d1 d2 b q1 q2 e1 e2
  olen := s.olen
  obj := s.obj
  ond := s.ond
  mu := s.mu
  base := s.base
  b0 := s.b0
  keep := s.keep
  on := s.on
theorem SR.put_own {i : Nat} (s : SR K z S σ H g) (rv : ResOk K z S σ H g v (.new d)) : SR K z (S.put i (.own d)) (σ.set i (some v)) H g := by
  obtain ⟨a, rfl, hb, rt, h0, hm, hn⟩ := rv
  constructor
  · show (S.env.set i _).length = _; rw [List.length_set, List.length_set]; exact s.len
  · intro j e h
    rcases set_get h with ⟨rfl, q⟩ | ⟨ne, q⟩
    · cases q
    · obtain ⟨w, e1, r⟩ := s.dat j e q
      exact ⟨w, by rw [List.getElem?_set_ne ne]; exact e1, r⟩
  · intro j e h
    rcases set_get h with ⟨rfl, q⟩ | ⟨ne, q⟩
    · cases q
      have hl : i < σ.length := by
        have := (List.getElem?_eq_some_iff.mp h).1
        change i < (S.env.set i _).length at this
        rw [List.length_set, s.len] at this
        exact this
      exact ⟨a, List.getElem?_set_self hl, hb, rt, h0, hm⟩
    · obtain ⟨b, e1, r⟩ := s.own j e q
      exact ⟨b, by rw [List.getElem?_set_ne ne]; exact e1, r⟩
  · intro j k d1 d2 b h1 h2 e1 e2
    rcases set_get h1 with ⟨rfl, q⟩ | ⟨ne1, q1⟩
    · rcases set_get h2 with ⟨rfl, q⟩ | ⟨ne2, q2⟩
      · rfl
      · rw [List.getElem?_set_ne ne2] at e2
        rcases set_get e1 with ⟨_, w⟩ | ⟨w, _⟩
        · cases w; exact absurd e2 (hn k d2 q2)
        · exact absurd rfl w
    · rcases set_get h2 with ⟨rfl, q⟩ | ⟨ne2, q2⟩
      · rw [List.getElem?_set_ne ne1] at e1
        rcases set_get e2 with ⟨_, w⟩ | ⟨w, _⟩
        · cases w; exact absurd e1 (hn j d1 q1)
        · exact absurd rfl w
      · rw [List.getElem?_set_ne ne1] at e1
        rw [List.getElem?_set_ne ne2] at e2
        exact s.inj j k d1 d2 b q1 q2 e1 e2
  · exact s.olen
  · exact s.obj
  · exact s.ond
  · exact s.mu
  · exact s.base
  · exact s.b0
  · exact s.keep
  · exact s.on
def putM (i : Nat) (x : Slot) : M Unit := fun S => some (.ok (), S.put i x)
/-- a name gets a result: what is new is the name's own -/
def setM (i : Nat) : Res → M Unit
  | .new d => putM i (.own d)
  | r => useM r >>= fun d => putM i (.dat d)
def asgM (i : Nat) (f : M Res) : M Fl := f >>= fun r => setM i r >>= fun _ => pure .next
theorem GoS.put {i : Nat} {x : Slot} {k : Unit → M Fl} {D : Ends} {σ' : L2.St} (h : GoS K mg z (putM i x >>= k) S σ H g D) : GoS K mg z (k ()) (S.put i x) σ' H g D := h
theorem GoS.use {k : D → M Fl} {D : Ends} (s : SR K z S σ H g) (r0 : ResOk K z S σ H g v r) (h : GoS K mg z (useM r >>= k) S σ H g D) :
    ∃ S' g', SR K z S' σ H g' ∧ Fr H g H g' ∧ Rp K H g' v r.d ∧ GoS K mg z (k r.d) S' σ H g' D := by
  cases r with
  | dat d => exact ⟨S, g, s, Fr.refl _ _, r0, h⟩
  | new d =>
    obtain ⟨g', s', f, r⟩ := s.new_del r0
    exact ⟨S, g', s', f, r, GoS.at (f := k d) h f⟩
  | own i d =>
    obtain ⟨e1, e2⟩ := r0
    obtain ⟨a, e3, _⟩ := s.own i d e1
    rw [e2] at e3; cases e3
    obtain ⟨s', r⟩ := s.use_own e1 e2
    exact ⟨_, _, s', Fr.del, r, Go.ok (by rw [useM_own, if_pos e1]; rfl) h.bnd s' Fr.del⟩
theorem GoS.set {i : Nat} {D : Ends} (s : SR K z S σ H g) (rv : ResOk K z S σ H g v r) (h : GoS K mg z (setM i r >>= fun _ => pure .next) S σ H g D) : D.nx (σ.set i (some v)) H := by
  have key : ∀ (r : Res), ResOk K z S σ H g v r → GoS K mg z ((useM r >>= fun d => putM i (.dat d)) >>= fun _ => pure .next) S σ H g D → D.nx (σ.set i (some v)) H := fun r rv h => by
    rw [bind_assoc] at h
    obtain ⟨S', g', s', f, rp, h2⟩ := h.use s rv
    exact GoS.next (GoS.put h2) (s'.put_dat rp)
  cases r with
  | dat d => exact key _ rv h
  | new d => exact GoS.next (GoS.put h) (s.put_own rv)
  | own j d => exact key _ rv h
theorem ds_set (i : Nat) {x : Str} {e : Expr} {fe : M Res} {pos' : Pos} (hN : X.N.Nodup) (he : DE X z e fe) (hi : X.N[i]? = some x := by rfl) (hx : Loc X.env.scope x := by first | exact .inl rfl | exact .inr rfl)
    (hs : swapsWith e (some (.Name x pos')) pos.line X.env = pure false := by rfl) (hf : X.fn x = true ∨ X.env.scope.names.lookup x = some .local := by first | exact .inl rfl | exact .inr rfl | assumption) :
    DS X z (.Assign [.Name x pos'] e pos) (asgM i fe) :=
  PS.imp (ps_set hN hi hx he hs hf) fun D σ H ⟨S, g, s, q⟩ => ⟨S, g, s, q.bnd.imp fun r S1 H1 g1 s1 f1 q1 v rv => GoS.set s1 rv q1⟩

/-! ## targets -/
/-- the slots but those at ts stay -/
structure Sm (ts : List Nat) (σ σ' : L2.St) : Prop where
  len : σ'.length = σ.length
  at_ : ∀ i, i ∉ ts → σ'[i]? = σ[i]?
theorem Sm.refl (ts : List Nat) (σ : L2.St) : Sm ts σ σ := ⟨rfl, fun _ _ => rfl⟩
theorem Sm.trans {ts us : List Nat} {σ σ1 σ2 : L2.St} (a : Sm ts σ σ1) (b : Sm us σ1 σ2) : Sm (ts ++ us) σ σ2 :=
  ⟨b.len.trans a.len, fun i h => (b.at_ i fun q => h (List.mem_append_right _ q)).trans (a.at_ i fun q => h (List.mem_append_left _ q))⟩
/-- a store, from a state on -/
def GoG (K : PySem.W.Frag) (z : Zx) (ts : List Nat) (f : M Unit) (S : Sx) (σ : L2.St) (H : Hp) (g : Gh) (Q : L2.St → Hp → Prop) : Prop :=
  match f S with
  | some (.ok _, S') => ∀ σ' H' g', SR K z S' σ' H' g' → Fr H g H' g' → Sm ts σ σ' → Q σ' H'
  | _ => False
def tG (K : PySem.W.Frag) (z : Zx) (ts : List Nat) (f : D → M Unit) : TG := fun v σ H Q => ∃ S g d, SR K z S σ H g ∧ Rp K H g v d ∧ GoG K z ts (f d) S σ H g Q
def tGs (K : PySem.W.Frag) (z : Zx) (ts : List Nat) (f : List D → M Unit) : TGs := fun vs σ H Q => ∃ S g ds, SR K z S σ H g ∧ RpA K H g vs ds ∧ GoG K z ts (f ds) S σ H g Q
abbrev DG (X : Cx) (z : Zx) (ts : List Nat) (e : Expr) (f : D → M Unit) : Prop := PG X e (tG X.K z ts f)
abbrev DGs (X : Cx) (z : Zx) (ts : List Nat) (es : List Expr) (f : List D → M Unit) : Prop := PGs X es (tGs X.K z ts f)
theorem PG.imp {e : Expr} {t u : TG} (p : PG X e t) (h : ∀ v σ H Q, u v σ H Q → t v σ H Q) : PG X e u := ⟨fun pins s σ H v w Q I r q => p.run pins s σ H v w Q I r (h v σ H Q q)⟩
theorem PGs.imp {e : List Expr} {t u : TGs} (p : PGs X e t) (h : ∀ v σ H Q, u v σ H Q → t v σ H Q) : PGs X e u := ⟨fun pins s σ H v w Q I r q => p.run pins s σ H v w Q I r (h v σ H Q q)⟩
def gN (i : Nat) (d : D) : M Unit := putM i (.dat d)
theorem dg_name (i : Nat) {x : Str} (hN : X.N.Nodup) (hi : X.N[i]? = some x := by rfl) (hx : Loc X.env.scope x := by first | exact .inl rfl | exact .inr rfl)
    (hf : X.fn x = true ∨ X.env.scope.names.lookup x = some .local := by first | exact .inl rfl | exact .inr rfl | assumption) : DG X z [i] (.Name x pos) (gN i) :=
  PG.imp (pg_name hN hi hx hf) fun v σ H Q ⟨S, g, d, s, rv, q⟩ => q _ H g (s.put_dat rv) (Fr.refl _ _) ⟨List.length_set, fun j h => List.getElem?_set_ne fun e => h (List.mem_singleton.mpr e.symm)⟩
def gsN : List D → M Unit
  | [] => pure ()
  | _ => M.no
def gsC (f : D → M Unit) (h : List D → M Unit) : List D → M Unit
  | d :: ds => f d >>= fun _ => h ds
  | [] => M.no
theorem dgs_nil : DGs X z [] [] gsN := PGs.imp pgs_nil fun vs σ H Q ⟨S, g, ds, s, rv, q⟩ => by
  cases rv with
  | nil => exact ⟨rfl, q σ H g s (Fr.refl _ _) (Sm.refl _ _)⟩
  | cons => exact q.elim
theorem GoG.bnd {ts us : List Nat} {f : M Unit} {k : Unit → M Unit} {Q : L2.St → Hp → Prop} (h : GoG K z (ts ++ us) (f >>= k) S σ H g Q) : GoG K z ts f S σ H g fun σ1 H1 => ∃ S1 g1, SR K z S1 σ1 H1 g1 ∧ Fr H g H1 g1 ∧ GoG K z us (k ()) S1 σ1 H1 g1 Q := by
  have e : (f >>= k) S = M.bnd f k S := rfl
  unfold GoG at h ⊢
  rw [e] at h
  unfold M.bnd at h
  cases hf : f S with
  | none => rw [hf] at h; exact h
  | some p =>
    obtain ⟨r, S1⟩ := p
    rw [hf] at h
    cases r with
    | error x => exact h
    | ok a =>
      intro σ1 H1 g1 s1 f1 m1
      refine ⟨S1, g1, s1, f1, ?_⟩
      change (match k a S1 with
        | some (.ok _, S') => ∀ σ' H' g', SR K z S' σ' H' g' → Fr H g H' g' → Sm (ts ++ us) σ σ' → Q σ' H'
        | _ => False) at h
      cases hk : k a S1 with
      | none => rw [hk] at h; exact h.elim
      | some q =>
        obtain ⟨r2, S2⟩ := q
        rw [hk] at h
        cases r2 with
        | error x => exact h.elim
        | ok b => exact fun σ2 H2 g2 s2 f2 m2 => h σ2 H2 g2 s2 (f1.trans f2) (m1.trans m2)
theorem GoG.imp {ts : List Nat} {f : M Unit} {Q Q' : L2.St → Hp → Prop} (h : GoG K z ts f S σ H g Q) (hp : ∀ σ' H', Q σ' H' → Q' σ' H') : GoG K z ts f S σ H g Q' := by
  unfold GoG at h ⊢
  cases hf : f S with
  | none => rw [hf] at h; exact h
  | some p =>
    obtain ⟨r, S1⟩ := p
    rw [hf] at h
    cases r with
    | error x => exact h
    | ok a => exact fun σ1 H1 g1 s1 f1 m1 => hp _ _ (h σ1 H1 g1 s1 f1 m1)
theorem dgs_cons {ts us : List Nat} {e : Expr} {es : List Expr} {f : D → M Unit} {h : List D → M Unit} (h1 : DG X z ts e f) (h2 : DGs X z us es h)
    (hs : (assignEach (e :: es) X.env).map (·.2) = assign e X.env :: (assignEach es X.env).map (·.2) := by rfl) : DGs X z (ts ++ us) (e :: es) (gsC f h) :=
  PGs.imp (pgs_cons h1 h2 hs) fun vs σ H Q ⟨S, g, ds, s, rv, q⟩ => by
    cases rv with
    | nil => exact q.elim
    | cons rv rs =>
      exact ⟨_, _, rfl, S, g, _, s, rv, (GoG.bnd (f := f _) (k := fun _ => h _) q).imp fun σ' H' ⟨S1, g1, s1, f1, q2⟩ => ⟨S1, g1, _, s1, rs.fr f1 s.mu, q2⟩⟩
def gT (n : Nat) (h : List D → M Unit) : D → M Unit
  | .tup ds => if ds.length = n then h ds else M.no
  | _ => M.no
theorem dg_tup {ts : List Nat} {es : List Expr} {k n : Nat} {h : List D → M Unit} (hc : X.calm = true) (hh : DGs X z ts es h)
    (hn : (assignEach es X.env).length = n := by rfl) (hst : (assignEach es X.env).findIdx? (·.1) = none := by rfl) : DG X z ts (.Tuple es k pos) (gT n h) :=
  PG.imp (pg_tup hc hh hn hst) fun v σ H Q ⟨S, g, d, s, rv, q⟩ => by
    cases d <;> first | exact q.elim | skip
    rename_i ds
    obtain ⟨a, xs, rfl, hx, rx⟩ := Pk.tup (.inl rv)
    by_cases e : ds.length = n
    · change GoG X.K z ts (if ds.length = n then h ds else M.no) S σ H g Q at q
      rw [if_pos e] at q
      exact ⟨a, xs, rfl, SqT.of hx, by rw [rx.length]; exact e, S, g, ds, s, rx, q⟩
    · change GoG X.K z ts (if ds.length = n then h ds else M.no) S σ H g Q at q
      rw [if_neg e] at q
      exact q.elim
def asgG (fe : M Res) (f : D → M Unit) : M Fl := fe >>= fun r => useM r >>= fun d => f d >>= fun _ => pure .next
theorem GoS.goG {ts : List Nat} {f : M Unit} {D : Ends} (hne : ∀ S x S', f S ≠ some (.error x, S')) (h : GoS K mg z (f >>= fun _ => pure .next) S σ H g D) : GoG K z ts f S σ H g D.nx := by
  have e : (f >>= fun _ => (pure Fl.next : M Fl)) S = M.bnd f (fun _ => (pure Fl.next : M Fl)) S := rfl
  unfold GoS at h
  unfold GoG
  rw [e] at h
  unfold M.bnd at h
  cases hf : f S with
  | none => rw [hf] at h; exact h
  | some p =>
    obtain ⟨r, S1⟩ := p
    rw [hf] at h
    cases r with
    | error x => exact (hne _ _ _ hf).elim
    | ok a => exact fun σ1 H1 g1 s1 f1 _ => h σ1 H1 g1 s1 f1
/-- a store raises nothing -/
def Calm (f : D → M Unit) : Prop := ∀ d S x S', f d S ≠ some (.error x, S')
def Calms (f : List D → M Unit) : Prop := ∀ d S x S', f d S ≠ some (.error x, S')
theorem calm_n {i : Nat} : Calm (gN i) := fun d S x S' e => by cases e
theorem calms_n : Calms gsN := fun d S x S' e => by cases d <;> cases e
theorem calms_c {f : D → M Unit} {h : List D → M Unit} (a : Calm f) (b : Calms h) : Calms (gsC f h) := fun d S x S' e => by
  cases d with
  | nil => cases e
  | cons d ds =>
    change M.bnd (f d) _ S = _ at e
    unfold M.bnd at e
    cases hf : f d S with
    | none => rw [hf] at e; cases e
    | some p =>
      obtain ⟨r, S1⟩ := p
      rw [hf] at e
      cases r with
      | error y => exact a _ _ _ _ hf
      | ok u => exact b _ _ _ _ e
theorem calm_t {n : Nat} {h : List D → M Unit} (b : Calms h) : Calm (gT n h) := fun d S x S' e => by
  cases d <;> first | (cases e; done) | skip
  rename_i ds
  change (if ds.length = n then h ds else M.no) S = _ at e
  split at e
  · exact b _ _ _ _ e
  · cases e
theorem ds_asg {ts : List Nat} {tg e : Expr} {fe : M Res} {f : D → M Unit} (hcl : Calm f) (he : DE X z e fe) (hg : DG X z ts tg f) (hs : swapsWithSole [tg] e pos.line X.env = pure false := by rfl) (hw : swappedStores [tg] e X.env = pure none := by rfl)
    (h1 : (assignEach [tg] X.env).map (·.2) = [assign tg X.env] := by rfl) : DS X z (.Assign [tg] e pos) (asgG fe f) :=
  PS.imp (ps_asg he hg hs hw h1) fun D σ H ⟨S, g, s, q⟩ => ⟨S, g, s, q.bnd.imp fun r S1 H1 g1 s1 f1 q1 v rv => by
    obtain ⟨S2, g2, s2, f2, rp, q2⟩ := GoS.use s1 rv q1
    exact ⟨S2, g2, _, s2, rp, GoS.goG (hcl _) q2⟩⟩
end
end DL
end
section
set_option maxRecDepth 100000
namespace DL
open PySem PySem.Spec L2
section
variable {X : Cx} {z : Zx} {S S' : Sx} {σ : L2.St} {H H' : Hp} {g g' : Gh} {v : V} {d : D} {r : Res} {pos : Pos} {a b c : Expr} {fa fb fc : M Res} {K : PySem.W.Frag} {mg : Str → Option Value}
  {st : Stmt} {sts xs ys body : List Stmt} {f h : M Fl} {t ta tb : M Bool}

/-! ## while -/
/-- behind a loop's turn -/
def loopK (again : M Fl) : Fl → M Fl
  | .next => again
  | .cont => again
  | .brk => pure .next
  | .ret r => pure (.ret r)
def whileM (t : M Bool) (b : M Fl) : Nat → M Fl
  | 0 => M.no
  | n + 1 => t >>= fun c => if c = true then b >>= loopK (whileM t b n) else pure .next
theorem ds_while (n : Nat) (hp : PassesOwn (model X.prog X.w) X.A X.env X.xe) (hc : DT X z c t) (hb : DB X z body h) : DS X z (.While c body [] pos) (whileM t h n) :=
  PS.imp (ps_while hp hc hb) fun D σ H q => by
    refine ⟨fun m σ H => tS X.K X.mg z (whileM t h m) D σ H, ⟨n, q⟩, fun m σ H w => ?_⟩
    obtain ⟨S, g, s, q⟩ := w
    cases m with
    | zero => exact q.elim
    | succ m =>
      refine ⟨S, g, s, (GoS.bnd (f := t) q).imp fun k S1 H1 g1 s1 f1 q1 => ?_⟩
      cases k with
      | false => exact q1.next s1
      | true =>
        refine ⟨fun σ H => tS X.K X.mg z (whileM t h m) D σ H, fun σ' H' w => ⟨m, Nat.lt_succ_self m, w⟩, S1, g1, s1, ?_⟩
        exact GoS.seq (k := loopK (whileM t h m)) q1 (fun S2 σ2 H2 g2 s2 q2 => ⟨S2, g2, s2, q2⟩) (fun S2 σ2 H2 g2 s2 q2 => q2.next s2) (fun S2 σ2 H2 g2 s2 q2 => ⟨S2, g2, s2, q2⟩)
          fun r S2 σ2 H2 g2 v s2 rv q2 => q2.ret s2 rv

/-! ## what is walked -/
/-- the heap is the same, or has a new tuple -/
def Grow (H H' : Hp) : Prop := H' = H ∨ ∃ p xs, H p = none ∧ H' = upd H p (.tup xs)
structure ItOk (K : PySem.W.Frag) (J : It) (ds : List D) (H0 : Hp) (g0 : Gh) : Prop where
  go : ∀ i d H g, Fr H0 g0 H g → ds[i]? = some d → J.go i H
  yld : ∀ i d H g x H', Fr H0 g0 H g → Mu H g → ds[i]? = some d → J.yld i H x H' → Grow H H' ∧ Rp K H' g x d
  stop : ∀ H g, Fr H0 g0 H g → J.stop ds.length H
def tI (K : PySem.W.Frag) (mg : Str → Option Value) (z : Zx) (f : M (List D)) : TI := fun σ H R => ∃ S g, SR K z S σ H g ∧ Go K mg z f S σ H g fun ds S' H' g' => ∀ J, ItOk K J ds H' g' → R J H'
abbrev DI (X : Cx) (z : Zx) (tg e : Expr) (f : M (List D)) : Prop := PI X tg e (tI X.K X.mg z f)
theorem PI.imp {tg e : Expr} {t u : TI} (p : PI X tg e t) (h : ∀ σ H Q, u σ H Q → t σ H Q) : PI X tg e u := ⟨fun pins s σ H Q I q => p.run pins s σ H Q I (h σ H Q q)⟩
theorem SR.grow (s : SR K z S σ H g) (h : Grow H H') : SR K z S σ H' g ∧ Fr H g H' g := by
  rcases h with rfl | ⟨p, xs, hp, rfl⟩
  · exact ⟨s, Fr.refl _ _⟩
  · exact ⟨s.upd_new hp, Fr.upd_new hp⟩
/-- a list or a tuple, whichever it is -/
def iSeq (K : PySem.W.Frag) (tl : TE) : TI := fun σ H R => tl σ H fun x H1 => (∃ a, x = .ref a ∧ (∃ xs, SqL K H1 a xs) ∧ R (Itl K a) H1) ∨ ∃ a, x = .ref a ∧ (∃ xs, SqT K H1 a xs) ∧ R (Itt K a) H1
theorem pi_seq {tg l : Expr} {tl : TE} (hl : PE X l tl) : PI X tg l (iSeq X.K tl) := by
  constructor
  intro pins s0 σ0 G0 R inv hyp
  refine thn (hl.run pins s0 σ0 G0 _ inv hyp) ?_
  rintro w s1 ⟨x, G1, inv1, rel, alt⟩
  have fp : ∀ b ∈ [s1.heap.objs.size], FpOk X pins G1 b := fun b hb => by
    rw [List.mem_singleton] at hb
    subst hb
    exact inv1.fpOk (Nat.le_refl _) (inv1.hok.fresh (Nat.le_refl _))
  rcases alt with ⟨a, rfl, ⟨ys, sq⟩, fin⟩ | ⟨a, rfl, ⟨ys, sq⟩, fin⟩
  · obtain rfl : w = Value.ref a := rel
    obtain ⟨its, _, pl, _⟩ := inv1.list sq
    exact PySem.wpAny_pyIter_list pl.isList ⟨_, [s1.heap.objs.size], _, _, G1, rfl, inv1.kept (t' := s1.toks) (fun _ _ e => Heap.get?_push_of_some _ e), turn_list a _, ⟨_, Heap.get?_push_size _ rfl, rfl, rfl⟩, fp, fin⟩
  · obtain rfl : w = Value.ref a := rel
    obtain ⟨its, _, pl, _⟩ := inv1.tuple sq
    exact PySem.wpAny_pyIter_tuple (show s1.heap.IsTuple a its.toArray from pl) ⟨_, [s1.heap.objs.size], _, _, G1, rfl, inv1.kept (t' := s1.toks) (fun _ _ e => Heap.get?_push_of_some _ e), turn_tuple a _, ⟨_, Heap.get?_push_size _ rfl, rfl, rfl⟩, fp, fin⟩
theorem RpA.none {vs : List V} {ds : List D} {i : Nat} (r : RpA K H g vs ds) (h : ds.length ≤ i) : vs.length ≤ i := by rw [r.length]; exact h
theorem itl_ok {a : Addr} {xs : List V} {ds : List D} (h : H a = some (.lst xs)) (hb : ¬ g.bad a) (r : RpA K H g xs ds) (m : Mu H g) : ItOk K (Itl K a) ds H g where
  go := fun i d H1 g1 f e => let ⟨w, e1, _⟩ := r.get e; ⟨xs, w, SqL.of (f.keep _ _ h hb).1, e1⟩
  yld := fun i d H1 g1 x H2 f m1 e y => by
    obtain ⟨w, e1, rw⟩ := r.get e
    obtain ⟨rfl, y⟩ := y
    have := y xs (SqL.of (f.keep _ _ h hb).1)
    rw [e1] at this; cases this
    exact ⟨.inl rfl, rw.fr f m⟩
  stop := fun H1 g1 f => ⟨xs, SqL.of (f.keep _ _ h hb).1, by rw [r.length]; exact Nat.le_refl _⟩
theorem itr_ok {a : Addr} {xs : List V} {ds : List D} (h : RoL K H a xs) (r : RpA K H g xs ds) (m : Mu H g) : ItOk K (Itl K a) ds H g where
  go := fun i d H1 g1 f e => let ⟨w, e1, _⟩ := r.get e; ⟨xs, w, (f.rol m h).sq, e1⟩
  yld := fun i d H1 g1 x H2 f m1 e y => by
    obtain ⟨w, e1, rw⟩ := r.get e
    obtain ⟨rfl, y⟩ := y
    have := y xs (f.rol m h).sq
    rw [e1] at this; cases this
    exact ⟨.inl rfl, rw.fr f m⟩
  stop := fun H1 g1 f => ⟨xs, (f.rol m h).sq, by rw [r.length]; exact Nat.le_refl _⟩
theorem itt_ok {a : Addr} {xs : List V} {ds : List D} (h : H a = some (.tup xs)) (r : RpA K H g xs ds) (m : Mu H g) : ItOk K (Itt K a) ds H g where
  go := fun i d H1 g1 f e => let ⟨w, e1, _⟩ := r.get e; ⟨xs, w, SqT.of (f.tup m h), e1⟩
  yld := fun i d H1 g1 x H2 f m1 e y => by
    obtain ⟨w, e1, rw⟩ := r.get e
    obtain ⟨rfl, y⟩ := y
    have := y xs (SqT.of (f.tup m h))
    rw [e1] at this; cases this
    exact ⟨.inl rfl, rw.fr f m⟩
  stop := fun H1 g1 f => ⟨xs, SqT.of (f.tup m h), by rw [r.length]; exact Nat.le_refl _⟩
/-- the items of what is walked -/
def D.items : D → Option (List D)
  | .lst ds => some ds
  | .rol ds => some ds
  | .tup ds => some ds
  | _ => none
def seqI (f : M Res) : M (List D) := f >>= fun r => useM r >>= fun d => M.opt d.items pure
theorem Go.use2 {α : Type} {k : D → M α} {P : α → Sx → Hp → Gh → Prop} (s : SR K z S σ H g) (r0 : ResOk K z S σ H g v r) (h : Go K mg z (useM r >>= k) S σ H g P) :
    ∃ S' g', SR K z S' σ H g' ∧ Fr H g H g' ∧ Rp K H g' v r.d ∧ Go K mg z (k r.d) S' σ H g' P := h.use s r0
theorem di_seq {tg : Expr} (ha : DE X z a fa) : DI X z tg a (seqI fa) :=
  PI.imp (pi_seq ha) fun σ H R ⟨S, g, s, q⟩ => ⟨S, g, s, q.bnd.imp fun r S1 H1 g1 s1 f1 q1 v rv => by
    obtain ⟨S2, g2, s2, f2, rp, q2⟩ := q1.use s1 rv
    obtain ⟨ds, e, q3⟩ := q2.opt
    have q4 := q3.pure s2
    cases hd : r.d <;> rw [hd] at e rp <;> simp [D.items] at e
    · subst e
      obtain ⟨a, xs, rfl, hx, rx⟩ := Pk.tup (.inl rp)
      exact .inr ⟨a, rfl, ⟨xs, SqT.of hx⟩, q4 _ (itt_ok hx rx s2.mu)⟩
    · subst e
      cases rp with
      | lst hx hb rx => exact .inl ⟨_, rfl, ⟨_, SqL.of hx⟩, q4 _ (itl_ok hx hb rx s2.mu)⟩
    · subst e
      cases rp with
      | rol hx rx => exact .inl ⟨_, rfl, ⟨_, hx.sq⟩, q4 _ (itr_ok hx rx s2.mu)⟩⟩
/-- range -/
def rangeD (lo : Int) : Nat → List D
  | 0 => []
  | n + 1 => .int lo :: rangeD (lo + 1) n
theorem rangeD_len : ∀ (lo : Int) (n : Nat), (rangeD lo n).length = n
  | _, 0 => rfl
  | lo, n + 1 => congrArg Nat.succ (rangeD_len (lo + 1) n)
theorem rangeD_get : ∀ (lo : Int) (n i : Nat), i < n → (rangeD lo n)[i]? = some (.int (lo + i))
  | lo, n + 1, 0, _ => by simp [rangeD]
  | lo, n + 1, i + 1, h => by
    show (rangeD (lo + 1) n)[i]? = _
    rw [rangeD_get (lo + 1) n i (by omega)]
    congr 2
    push_cast
    omega
theorem itrng_ok {lo : Int} {n : Nat} : ItOk K (Itr lo n) (rangeD lo n) H g where
  go := fun i d H1 g1 f e => by
    have := (List.getElem?_eq_some_iff.mp e).1
    rw [rangeD_len] at this
    exact this
  yld := fun i d H1 g1 x H2 f m e y => by
    obtain ⟨rfl, rfl⟩ := y
    have h := (List.getElem?_eq_some_iff.mp e).1
    rw [rangeD_len] at h
    rw [rangeD_get lo n i h] at e
    cases e
    exact ⟨.inl rfl, .int _⟩
  stop := fun H1 g1 f => by rw [rangeD_len]; exact Nat.le_refl _
def rngOk (j : Int) : Bool := decide (-(2 ^ 62) ≤ j ∧ j < 2 ^ 62)
def rng1I (f : M Res) : M (List D) := f >>= fun r => M.opt r.d.isInt fun j => M.need (rngOk j) (pure (rangeD 0 j.toNat))
def rng2I (f h : M Res) : M (List D) := f >>= fun r => M.opt r.d.isInt fun i => h >>= fun r2 => M.opt r2.d.isInt fun j => M.need (rngOk i && rngOk j) (pure (rangeD i (j - i).toNat))
variable {es : List Expr} {fs : M (List Res)} {tg : Expr}
theorem Pk.isInt {i : Int} (p : Pk K H g v d) (e : d.isInt = some i) : v = .int i := by rw [isInt_eq e] at p; exact p.int
theorem di_rng1 {p : Pos} (hg : Gl X "range") (hm : X.mg "range" = none) (ha : DE X z a fa) (h1 : starEach [a] X.env = (false, eval a X.env) :: starEach [] X.env := by rfl) (hs : starEach [a] X.env = [(false, eval a X.env)] := by rfl) : DI X z tg (.Call (.Name "range" p) [a] [] pos) (rng1I fa) :=
  PI.imp (pi_range1 hg hm (pa_cons ha pa_nil h1) hs) fun σ H R ⟨S, g, s, q⟩ => ⟨S, g, s, q.bnd.imp fun r S1 H1 g1 s1 f1 q1 w rv => by
    obtain ⟨j, e, q2⟩ := q1.opt
    obtain ⟨c, q3⟩ := q2.need
    have c := of_decide_eq_true c
    exact ⟨j, by rw [(s1.pk rv).isInt e], c.1, c.2, q3.pure s1 _ itrng_ok⟩⟩
theorem di_rng2 {p : Pos} (hg : Gl X "range") (hm : X.mg "range" = none) (ha : DE X z a fa) (hb : DE X z b fb) (h1 : starEach [a, b] X.env = (false, eval a X.env) :: starEach [b] X.env := by rfl) (h2 : starEach [b] X.env = (false, eval b X.env) :: starEach [] X.env := by rfl)
    (hs : starEach [a, b] X.env = [(false, eval a X.env), (false, eval b X.env)] := by rfl) (hs2 : starEach [b] X.env = [(false, eval b X.env)] := by rfl) : DI X z tg (.Call (.Name "range" p) [a, b] [] pos) (rng2I fa fb) :=
  PI.imp (pi_range2 hg hm (pa_cons ha (pa_cons hb pa_nil h2) h1) hs hs2) fun σ H R ⟨S, g, s, q⟩ => ⟨S, g, s, q.bnd.imp fun r S1 H1 g1 s1 f1 q1 w rv => by
    obtain ⟨i, e, q2⟩ := q1.opt
    refine ⟨S1, g1, s1, q2.bnd.imp fun r2 S2 H2 g2 s2 f2 q3 w2 rv2 => ?_⟩
    obtain ⟨j, e2, q4⟩ := q3.opt
    obtain ⟨c, q5⟩ := q4.need
    rw [Bool.and_eq_true] at c
    have c1 := of_decide_eq_true c.1
    have c2 := of_decide_eq_true c.2
    exact ⟨i, j, by rw [(s1.pk rv).isInt e, (s2.pk rv2).isInt e2], ⟨c1.1, c1.2, c2.1, c2.2⟩, q5.pure s2 _ itrng_ok⟩⟩

/-! ## for -/
def forM (tgt : D → M Unit) (b : M Fl) : List D → M Fl
  | [] => pure .next
  | d :: ds => tgt d >>= fun _ => b >>= loopK (forM tgt b ds)
def forIn (it : M (List D)) (tgt : D → M Unit) (b : M Fl) : M Fl := it >>= fun ds => forM tgt b ds
theorem drop_get {α : Type} {l : List α} {i : Nat} {x : α} (h : l[i]? = some x) : l.drop i = x :: l.drop (i + 1) := by
  obtain ⟨hl, e⟩ := List.getElem?_eq_some_iff.mp h
  rw [List.drop_eq_getElem_cons hl, e]
theorem GoS.tgt {ts : List Nat} {f : M Unit} {k : Unit → M Fl} {D : Ends} (hne : ∀ S x S', f S ≠ some (.error x, S')) (h : GoS K mg z (f >>= k) S σ H g D) : GoG K z ts f S σ H g fun σ1 H1 => tS K mg z (k ()) D σ1 H1 := by
  have e : (f >>= k) S = M.bnd f k S := rfl
  unfold GoS at h
  unfold GoG
  rw [e] at h
  unfold M.bnd at h
  cases hf : f S with
  | none => rw [hf] at h; exact h
  | some p =>
    obtain ⟨r, S1⟩ := p
    rw [hf] at h
    cases r with
    | error x => exact (hne _ _ _ hf).elim
    | ok a =>
      intro σ1 H1 g1 s1 f1 m1
      refine ⟨S1, g1, s1, ?_⟩
      have h' : ∀ σ1 : L2.St, GoS K mg z (k ()) S1 σ1 H g D := fun σ1 => by
        unfold GoS
        change (match k () S1 with
          | none => False
          | some (.ok .next, S') => ∀ σ' H' g', SR K z S' σ' H' g' → Fr H g H' g' → D.nx σ' H'
          | some (.ok .brk, S') => ∀ σ' H' g', SR K z S' σ' H' g' → Fr H g H' g' → D.bk σ' H'
          | some (.ok .cont, S') => ∀ σ' H' g', SR K z S' σ' H' g' → Fr H g H' g' → D.ct σ' H'
          | some (.ok (.ret r), S') => ∀ σ' H' g' v, SR K z S' σ' H' g' → Fr H g H' g' → ResOk K z S' σ' H' g' v r → D.rt v H'
          | some (.error x, S') => ∀ cls dx σ' H' g', SR K z S' σ' H' g' → Fr H g H' g' → ExnOk K mg H' g' cls dx x → z.W cls dx σ' H') at h
        exact h
      exact (h' σ1).at f1
theorem ds_for {ts : List Nat} {iter : Expr} {it : M (List D)} {tgt : D → M Unit} (hp : PassesOwn (model X.prog X.w) X.A X.env X.xe) (hc : X.calm = true) (hcl : Calm tgt) (hi : DI X z tg iter it) (hg : DG X z ts tg tgt) (hb : DB X z body h)
    (hs : ∀ x, foldedSetIterable iter X.env x = pure x := by intro _; rfl) : DS X z (.For tg iter body [] pos) (forIn it tgt h) :=
  PS.imp (ps_for hp hc hi hg hb hs) fun D σ H ⟨S, g, s, q⟩ => ⟨S, g, s, q.bnd.imp fun ds S1 H1 g1 s1 f1 q1 J ok => by
    refine ⟨fun i m σ H => m = ds.length - i ∧ i ≤ ds.length ∧ ∃ S g, SR X.K z S σ H g ∧ Fr H1 g1 H g ∧ GoS X.K X.mg z (forM tgt h (ds.drop i)) S σ H g D, ⟨ds.length, by simp, Nat.zero_le _, S1, g1, s1, Fr.refl _ _, q1⟩, ?_⟩
    rintro i m σ2 H2 ⟨rfl, hi, S2, g2, s2, f2, q2⟩
    by_cases hlt : i < ds.length
    · have e := List.getElem?_eq_getElem hlt
      refine .inr ⟨ok.go i _ H2 g2 f2 e, fun σ H => ∃ S g, SR X.K z S σ H g ∧ Fr H1 g1 H g ∧ GoS X.K X.mg z (forM tgt h (ds.drop (i + 1))) S σ H g D, fun σ' H' w => ⟨ds.length - (i + 1), by omega, rfl, hlt, w⟩, fun x H3 y => ?_⟩
      obtain ⟨gr, rx⟩ := ok.yld i _ H2 g2 x H3 f2 s2.mu e y
      obtain ⟨s3, f3⟩ := s2.grow gr
      rw [drop_get e] at q2
      refine ⟨S2, g2, _, s3, rx, ?_⟩
      have q3 := GoS.tgt (ts := ts) (hcl _) (q2.at f3)
      unfold GoG at q3 ⊢
      cases hf : tgt ds[i] S2 with
      | none => rw [hf] at q3; exact q3
      | some p =>
        obtain ⟨r, S4⟩ := p
        rw [hf] at q3
        cases r with
        | error x => exact (hcl _ _ _ _ hf).elim
        | ok u =>
          intro σ4 H4 g4 s4 f4 m4
          have q4 : GoS X.K X.mg z (h >>= loopK (forM tgt h (ds.drop (i + 1)))) S4 σ4 H4 g4 D := by
            have q5 := q2.at f3
            have e5 : (forM tgt h (ds[i] :: ds.drop (i + 1))) S2 = (h >>= loopK (forM tgt h (ds.drop (i + 1)))) S4 := bind_ok hf
            have q6 : GoS X.K X.mg z (h >>= loopK (forM tgt h (ds.drop (i + 1)))) S4 σ2 H3 g2 D := by
              unfold GoS at q5 ⊢
              rw [e5] at q5
              exact q5
            have q7 : GoS X.K X.mg z (h >>= loopK (forM tgt h (ds.drop (i + 1)))) S4 σ4 H3 g2 D := by
              unfold GoS at q6 ⊢
              exact q6
            exact q7.at f4
          have fr : Fr H1 g1 H4 g4 := (f2.trans f3).trans f4
          refine ⟨S4, g4, s4, ?_⟩
          refine GoS.fr_seq q4 (D' := { D with nx := _, ct := _, bk := D.nx }) ?_ ?_ ?_ ?_
          · exact fun S6 σ6 H6 g6 s6 f6 q6 => ⟨S6, g6, s6, fr.trans f6, q6⟩
          · exact fun S6 σ6 H6 g6 s6 f6 q6 => q6.next s6
          · exact fun S6 σ6 H6 g6 s6 f6 q6 => ⟨S6, g6, s6, fr.trans f6, q6⟩
          · exact fun r S6 σ6 H6 g6 v s6 f6 rv q6 => q6.ret s6 rv
    · have e : i = ds.length := by omega
      subst e
      rw [List.drop_length] at q2
      exact .inl ⟨ok.stop H2 g2 f2, q2.next s2⟩⟩
end
end DL
end
section
set_option maxRecDepth 100000
namespace DL
open PySem PySem.Spec L2

/-! ## defs: what they promise, by a partial function on data -/
/-- from the arguments and the tracked objects: a result or an exception, the objects behind it -/
abbrev Den := List D → List D → Option (Except Exn Res × List D)
def ObsOk (K : PySem.W.Frag) (H : Hp) (g : Gh) (objs : List D) : Prop := objs.length = g.om.length ∧ ∀ (n : Nat) (a : Addr) (d : D), g.om[n]? = some a → objs[n]? = some d → Root K H g a d ∧ g.bad a
def ROk (K : PySem.W.Frag) (H0 H : Hp) (g : Gh) (v : V) : Res → Prop
  | .dat d => Rp K H g v d
  | .new d => ∃ a, v = .ref a ∧ g.bad a ∧ Root K H g a d ∧ H0 a = none ∧ a ∉ g.om
  | .own _ _ => False
/-- behind a call: the heap, what is written to -/
structure Behind (K : PySem.W.Frag) (H : Hp) (g : Gh) (objs' : List D) (H' : Hp) (g' : Gh) : Prop where
  keep : ∀ a o, H a = some o → a ∉ g'.om → H' a = some o
  base : ∀ a, g.bad a → g'.bad a
  om : g.om <+: g'.om
  ond : g'.om.Nodup
  mu : Mu H' g'
  obs : ObsOk K H' g' objs'
  new : ∀ a, a ∈ g'.om → a ∈ g.om ∨ H a = none
def spDen (K : PySem.W.Frag) (mg : Str → Option Value) (n : Nat) (den : Den) : Sp := fun vs H Q E => ∃ (g : Gh) (ds objs : List D), vs.length = n ∧ Mu H g ∧ g.om.Nodup ∧ RpA K H g vs ds ∧ ObsOk K H g objs ∧
  match den ds objs with
  | none => False
  | some (.ok r, objs') => ∀ H' g' v, Behind K H g objs' H' g' → ROk K H H' g' v r → Q v H'
  | some (.error x, objs') => ∀ cls dx H' g', Behind K H g objs' H' g' → ExnOk K mg H' g' cls dx x → E cls dx H'
/-- a def keeps its promise, where nothing is being shown (repr) -/
structure FnG (P : Program) (w : World) (K : PySem.W.Frag) (mg : Str → Option Value) (base : Heap) (k : Nat) (f : Addr) (fd : FuncData) (ps : List Str) (sp : Sp) : Prop where
  len : ∀ vs H Q E, sp vs H Q E → vs.length = ps.length
  run : ∀ (A : Around) (outer : List Env) (s : Shared) (H : Hp) (args : Args) (us : List Value) (vs : List V) (Q : VK) (E : XK), A.guards = some [] → Room k A → Env0 P w K mg base A outer s H → BindsTo s fd args (ps.zip us) → Vals vs us →
    sp vs H Q E → codeAny (model P w) A (.call (.ref f) args) (CR (L2.CX P w) outer P w H s Q E) s
section
variable {P : Program} {w : World} {K : PySem.W.Frag} {mg : Str → Option Value} {base : Heap}
theorem FnG.mono {j k : Nat} {f : Addr} {fd : FuncData} {ps : List Str} {sp : Sp} (F : FnG P w K mg base j f fd ps sp) (h : j ≤ k) : FnG P w K mg base k f fd ps sp :=
  ⟨F.len, fun A outer s H args us vs Q E hG hr => F.run A outer s H args us vs Q E hG (hr.mono h)⟩
theorem FnG.imp {k : Nat} {f : Addr} {fd : FuncData} {ps : List Str} {sp sp' : Sp} (F : FnG P w K mg base k f fd ps sp) (h : ∀ vs H Q E, sp' vs H Q E → sp vs H Q E) : FnG P w K mg base k f fd ps sp' :=
  ⟨fun vs H Q E q => F.len vs H Q E (h _ _ _ _ q), fun A outer s H args us vs Q E hG hr he hb hv q => F.run A outer s H args us vs Q E hG hr he hb hv (h _ _ _ _ q)⟩
/-- the body's context -/
abbrev bodyX (P : Program) (w : World) (K : PySem.W.Frag) (mg : Str → Option Value) (base : Heap) (N : List Str) (qual : Str) (st : Stmt) (f : Addr) (cdv : Value) (A : Around) (outer : List Env) (s : Shared) (H : Hp) (E : XK) : Cx :=
  cxOf (L2.CX P w) P w K mg base N qual (defScope st) f cdv A outer s H E
theorem okG {x qual : Str} {st : Stmt} {f : Addr} {fd : FuncData} {N ps : List Str} {k : Nat} {sp : Sp} (F : Fun K x qual st f fd) (Sc : FnScope N ps (defScope st)) (ln : ∀ vs H Q E, sp vs H Q E → vs.length = ps.length)
    (bod : ∀ (cdv : Value) (A : Around) (outer : List Env) (s : Shared) (H : Hp) (vs : List V) (Q : VK) (E : XK), A.guards = some [] → Room k (A.deeper (PyProof.Rows.envOfC qual (defScope st) s.heap.objs.size f cdv)) → sp vs H Q E →
      ∃ t, PSs (bodyX P w K mg base N qual st f cdv A outer s H E) (defBody st) t ∧ t { nx := fun _ H1 => Q .non H1, rt := Q } (start N vs) H) : FnG P w K mg base (k + 1) f fd ps sp := by
  obtain ⟨oc, od, kV, doc, pm, an, cdv, ct, osl, rfl, look, code⟩ := F.ex
  constructor
  · exact ln
  intro A outer s0 H args us vs Q E gd room env0 bnd rel prom
  have size := ln vs H Q E prom
  have inK : K.In s0.heap := env0.mod.kin.keeps fun _ _ e => (env0.bs _ _ e).1
  have noL : s0.heap.NoLimit := env0.mod.nolimit.keeps fun _ _ e => (env0.bs _ _ e).1
  refine codeAny_call_function room.depth (inK f _ look) rfl Sc.co Sc.gen rfl (PySem.W.codeRec_of inK code) (bnd _ _ _ _ ?_)
  have kinds : ∀ y ∈ ps.zip us, (defScope st).names.lookup y.1 = some .local ∨ ((defScope st).names.lookup y.1 = some .cell ∧ ((cellsFrom (s0.heap.objs.size + 1) (defScope st).names []).lookup y.1).isSome = true) := by
    rintro ⟨n, u⟩ hy
    rcases Sc.par n (List.of_mem_zip hy).1 with q | q
    · exact .inl q
    · exact .inr ⟨q, PySem.W.cellsFrom_some _ _ _ (.inl q)⟩
  refine wpAny_newFunctionEnv_cells Sc.kind kinds ?_
  intro env e0 s2 into
  subst e0
  refine ⟨noL.keeps into.toInCall.keep, ?_⟩
  refine codeAny_func ?_
  obtain ⟨t, walk, hyp⟩ := bod cdv A outer s0 H vs Q E gd (room.deeper _) prom
  have I0 := inv_start (CX := L2.CX P w) (E := E) (f := f) (cd := cdv) Sc room.hd env0 size rel into
  refine wpAny_mono (walk.run [] s2 (start N vs) H _ I0 hyp) ?_ (fun e s3 q => q)
  intro fl s3 q
  cases fl with
  | next =>
    obtain ⟨σ3, H3, J, q⟩ := q
    exact ⟨.non, H3, J.os, J.bare, J.base, J.hok, rfl, q⟩
  | ret u =>
    obtain ⟨v, σ3, H3, J, rv, q⟩ := q
    exact ⟨v, H3, J.os, J.bare, J.base, J.hok, rv, q⟩
  | brk => obtain ⟨_, _, _, q⟩ := q; exact q.elim
  | cont => obtain ⟨_, _, _, q⟩ := q; exact q.elim
end

/-- a body's run as such a function -/
def outR : Res → Res
  | .own _ d => .new d
  | r => r
def runB (n : Nat) (f : M Fl) : Den := fun ds objs => match f ⟨ds.map .dat ++ List.replicate (n - ds.length) .un, objs⟩ with
  | some (.ok .next, S') => some (.ok (.dat .non), S'.objs)
  | some (.ok (.ret r), S') => some (.ok (outR r), S'.objs)
  | some (.error x, S') => some (.error x, S'.objs)
  | _ => none
section
variable {P : Program} {w : World} {K : PySem.W.Frag} {mg : Str → Option Value} {base : Heap} {z : Zx} {S S' : Sx} {σ : L2.St} {H H' H0 : Hp} {g g' : Gh} {v : V} {d : D} {r : Res}
theorem SR.start {N : List Str} {W : WX} {vs : List V} {ds objs : List D} (hm : Mu H g) (hn : g.om.Nodup) (rv : RpA K H g vs ds) (ob : ObsOk K H g objs) :
    SR K ⟨H, g.bad, g.om, W⟩ ⟨ds.map .dat ++ List.replicate (N.length - ds.length) .un, objs⟩ (L2.start N vs) H g where
  len := by unfold L2.start; simp [rv.length]
  dat := fun i d e => by
    have hl := rv.length
    by_cases h : i < ds.length
    · have e' : (ds.map Slot.dat ++ List.replicate (N.length - ds.length) .un)[i]? = some (.dat d) := e
      rw [List.getElem?_append_left (by simpa using h), List.getElem?_map] at e'
      obtain ⟨d', e1, e2⟩ := Option.map_eq_some_iff.mp e'
      cases e2
      obtain ⟨v, e3, r⟩ := rv.get e1
      refine ⟨v, ?_, r⟩
      unfold L2.start
      rw [List.getElem?_append_left (by simpa [hl] using h), List.getElem?_map, e3]
      rfl
    · have e' : (ds.map Slot.dat ++ List.replicate (N.length - ds.length) .un)[i]? = some (.dat d) := e
      rw [List.getElem?_append_right (by simpa using h), List.getElem?_replicate] at e'
      split at e' <;> cases e'
  own := fun i d e => by
    have e' : (ds.map Slot.dat ++ List.replicate (N.length - ds.length) .un)[i]? = some (.own d) := e
    by_cases h : i < ds.length
    · rw [List.getElem?_append_left (by simpa using h), List.getElem?_map] at e'
      obtain ⟨d', _, e2⟩ := Option.map_eq_some_iff.mp e'
      cases e2
    · rw [List.getElem?_append_right (by simpa using h), List.getElem?_replicate] at e'
      split at e' <;> cases e'
  inj := fun i j d1 d2 a e => by
    have e' : (ds.map Slot.dat ++ List.replicate (N.length - ds.length) .un)[i]? = some (.own d1) := e
    by_cases h : i < ds.length
    · rw [List.getElem?_append_left (by simpa using h), List.getElem?_map] at e'
      obtain ⟨d', _, e2⟩ := Option.map_eq_some_iff.mp e'
      cases e2
    · rw [List.getElem?_append_right (by simpa using h), List.getElem?_replicate] at e'
      split at e' <;> cases e'
  olen := ob.1
  obj := ob.2
  ond := hn
  mu := hm
  base := fun a h => h
  b0 := fun a h e => by have := hm a h; change H a = none at e; rw [e] at this; exact this
  keep := fun a o h _ => h
  on := fun a h => .inl h
theorem SR.behind {W : WX} (s : SR K ⟨H0, g.bad, g.om, W⟩ S σ H' g') (f : Fr H0 g H' g') : Behind K H0 g S.objs H' g' := ⟨s.keep, s.base, f.om, s.ond, s.mu, ⟨s.olen, s.obj⟩, s.on⟩
/-- THE RULE for a def: its body's run -/
theorem okD {x qual : Str} {st : Stmt} {f : Addr} {fd : FuncData} {N ps : List Str} {k : Nat} {m : M Fl} (F : Fun K x qual st f fd) (Sc : FnScope N ps (defScope st))
    (bod : ∀ (cdv : Value) (A : Around) (outer : List Env) (s : Shared) (H : Hp) (E : XK) (z : Zx), A.guards = some [] → Room k (A.deeper (PyProof.Rows.envOfC qual (defScope st) s.heap.objs.size f cdv)) → Takes (bodyX P w K mg base N qual st f cdv A outer s H E) z.W →
      DB (bodyX P w K mg base N qual st f cdv A outer s H E) z (defBody st) m) : FnG P w K mg base (k + 1) f fd ps (spDen K mg ps.length (runB N.length m)) := by
  refine okG F Sc (fun vs H Q E h => let ⟨_, _, _, l, _⟩ := h; l) fun cdv A outer s H vs Q E gd room prom => ?_
  obtain ⟨g, ds, objs, hl, hm, hn, rv, ob, q⟩ := prom
  have tk : Takes (bodyX P w K mg base N qual st f cdv A outer s H E) (fun cls dx _ H => E cls dx H) := takes_of rfl rfl rfl rfl
  refine ⟨_, bod cdv A outer s H E ⟨H, g.bad, g.om, fun cls dx _ H => E cls dx H⟩ gd room tk, _, g, SR.start hm hn rv ob, ?_⟩
  unfold GoS
  unfold runB at q
  split at q
  · exact q.elim
  · rename_i r objs' e
    split at e
    · rename_i S' e1
      cases e
      rw [e1]
      exact fun σ' H' g' s f => q H' g' .non (s.behind f) .non
    · rename_i r' S' e1
      cases e
      rw [e1]
      refine fun σ' H' g' v s f rr => q H' g' v (s.behind f) ?_
      cases r' with
      | dat d => exact rr
      | new d => obtain ⟨a, e, hb, rt, h0, ho, _⟩ := rr; exact ⟨a, e, hb, rt, h0, ho⟩
      | own i d =>
        obtain ⟨e1, e2⟩ := rr
        obtain ⟨a, e3, hb, rt, h0, ho⟩ := s.own i d e1
        rw [e2] at e3; cases e3
        exact ⟨a, rfl, hb, rt, h0, ho⟩
    · cases e
    · cases e
  · rename_i x objs' e
    split at e
    · cases e
    · cases e
    · rename_i x' S' e1
      cases e
      rw [e1]
      exact fun cls dx σ' H' g' s f ex => q cls dx H' g' (s.behind f) ex
    · cases e
end

/-! ## calls -/
def putAll : List Res → Sx → Sx
  | [], S => S
  | .own i d :: rs, S => putAll rs (S.put i (.dat d))
  | _ :: rs, S => putAll rs S
def Res.safe : Res → Bool
  | .dat d => d.imm
  | .new d => D.imms d.parts
  | .own _ _ => false
def callM (n : Nat) (den : Den) (fs : M (List Res)) : M Res := fs >>= fun rs => fun S => if rs.length = n then (match den (rs.map (·.d)) S.objs with
  | none => none
  | some (.error x, objs') => some (.error x, putAll rs { S with objs := objs' })
  | some (.ok r, objs') => if r.safe && objs'.all (fun o => D.imms o.parts) then some (.ok r, { S with objs := objs' }) else some (.ok r, putAll rs { S with objs := objs' })) else none

section
variable {X : Cx} {z : Zx} {S S' : Sx} {σ : L2.St} {H H' H0 : Hp} {g g' g2 : Gh} {v : V} {d : D} {r : Res} {K : PySem.W.Frag} {mg : Str → Option Value}
theorem putAll_objs : ∀ (rs : List Res) (S : Sx) (o : List D), putAll rs { S with objs := o } = { putAll rs S with objs := o }
  | [], _, _ => rfl
  | .own i d :: rs, S, o => putAll_objs rs (S.put i (.dat d)) o
  | .dat _ :: rs, S, o => putAll_objs rs S o
  | .new _ :: rs, S, o => putAll_objs rs S o
/-- a result, perhaps one that is data by now -/
def ResAt (K : PySem.W.Frag) (S : Sx) (σ : L2.St) (H : Hp) (g : Gh) (v : V) : Res → Prop
  | .dat d => Rp K H g v d
  | .new d => False
  | .own i d => (S.env[i]? = some (.own d) ∨ S.env[i]? = some (.dat d)) ∧ σ[i]? = some (some v)
theorem put_same {i : Nat} {x : Slot} (h : S.env[i]? = some x) : S.put i x = S := by
  unfold Sx.put
  obtain ⟨hl, e⟩ := List.getElem?_eq_some_iff.mp h
  have : S.env.set i x = S.env := by rw [← e]; exact List.set_getElem_self hl
  rw [this]
theorem SR.putAll : ∀ {rs : List Res} {vs : List V} {S : Sx} {g : Gh}, SR K z S σ H g → Paired (ResAt K S σ H g) vs rs → ∃ g', SR K z (DL.putAll rs S) σ H g' ∧ Fr H g H g' ∧ g'.om = g.om ∧ (∀ a, g'.bad a → g.bad a) ∧ RpA K H g' vs (rs.map (·.d))
  | [], _, S, g, s, .nil => ⟨g, s, Fr.refl _ _, rfl, fun _ h => h, .nil⟩
  | .new d :: rs, _, S, g, s, .cons a t => a.elim
  | .dat d :: rs, _, S, g, s, .cons a t => by
    obtain ⟨g1, s1, f1, o1, b1, r1⟩ := SR.putAll s t
    exact ⟨g1, s1, f1, o1, b1, .cons (Rp.fr f1 s.mu a) r1⟩
  | .own i d :: rs, _, S, g, s, .cons a t => by
    obtain ⟨e1, e2⟩ := a
    rename_i v vs
    rcases e1 with e1 | e1
    · obtain ⟨a, e3, _⟩ := s.own i d e1
      rw [e2] at e3; cases e3
      obtain ⟨s1, r1⟩ := s.use_own e1 e2
      have hl : i < S.env.length := (List.getElem?_eq_some_iff.mp e1).1
      have t1 : Paired (ResAt K (S.put i (.dat d)) σ H (g.del a)) vs rs := Paired.mapP t fun v q hq => by
        cases q with
        | dat d' => exact Rp.fr Fr.del s.mu hq
        | new d' => exact hq.elim
        | own j d' =>
          refine ⟨?_, hq.2⟩
          by_cases ij : i = j
          · subst ij
            have : d' = d := by rcases hq.1 with q | q <;> rw [e1] at q <;> cases q; rfl
            subst this
            exact .inr (List.getElem?_set_self hl)
          · rcases hq.1 with q | q
            · exact .inl ((List.getElem?_set_ne ij).trans q)
            · exact .inr ((List.getElem?_set_ne ij).trans q)
      obtain ⟨g2, s2, f2, o2, b2, r2⟩ := SR.putAll s1 t1
      exact ⟨g2, s2, Fr.del.trans f2, o2, fun b h => (b2 b h).1, .cons (r1.fr f2 s1.mu) r2⟩
    · obtain ⟨w, e3, rw'⟩ := s.dat i d e1
      rw [e2] at e3; cases e3
      have t1 : Paired (ResAt K (S.put i (.dat d)) σ H g) vs rs := by rw [put_same e1]; exact t
      have s1 : SR K z (S.put i (.dat d)) σ H g := by rw [put_same e1]; exact s
      obtain ⟨g2, s2, f2, o2, b2, r2⟩ := SR.putAll s1 t1
      exact ⟨g2, s2, f2, o2, b2, .cons (rw'.fr f2 s.mu) r2⟩
theorem resAt_of {rs : List Res} {vs : List V} (hh : Held rs) (h : Paired (ResOk K z S σ H g) vs rs) : Paired (ResAt K S σ H g) vs rs := by
  induction h with
  | nil => exact .nil
  | @cons v r vs rs a t ih =>
    refine .cons ?_ (ih fun q hq => hh q (List.mem_cons_of_mem _ hq))
    cases r with
    | dat d => exact a
    | new d => exact absurd (hh _ List.mem_cons_self) (by intro e; cases e)
    | own i d => exact ⟨.inl a.1, a.2⟩
/-- the caller's ghost behind a call: root is what the result's own address may be -/
def Gh.aft (g g' : Gh) (root : Addr → Prop) : Gh := ⟨fun a => g.bad a ∨ a ∈ g'.om ∨ root a, g'.om⟩
theorem Behind.fr {objs' : List D} {root : Addr → Prop} (s : SR K z S σ H g) (bh : Behind K H g2 objs' H' g') (ho : g2.om = g.om) (hroot : ∀ a, root a → H a = none) : Fr H g H' (g.aft g' root) where
  keep := fun a o h n => by
    have hm : a ∉ g'.om := fun hm => by
      rcases bh.new a hm with q | q
      · rw [ho] at q
        obtain ⟨i, hi⟩ := List.mem_iff_getElem?.mp q
        have hl : i < S.objs.length := by rw [s.olen]; exact (List.getElem?_eq_some_iff.mp hi).1
        exact n (s.obj i a _ hi (List.getElem?_eq_getElem hl)).2
      · rw [h] at q; cases q
    refine ⟨bh.keep a o h hm, fun q => ?_⟩
    rcases q with q | q | q
    · exact n q
    · exact hm q
    · rw [hroot a q] at h; cases h
  om := ho ▸ bh.om
theorem Behind.sr {objs' : List D} {root : Addr → Prop} (s : SR K z S σ H g) (bh : Behind K H g2 objs' H' g') (ho : g2.om = g.om) (hroot : ∀ a, root a → H a = none ∧ g'.bad a)
    (hobs : ∀ (n : Nat) (a : Addr) (d : D), g'.om[n]? = some a → objs'[n]? = some d → Root K H' (g.aft g' root) a d) : SR K z { S with objs := objs' } σ H' (g.aft g' root) := by
  have fr : Fr H g H' (g.aft g' root) := bh.fr s ho fun a h => (hroot a h).1
  have mem : ∀ a, a ∈ g'.om → a ∈ g.om ∨ H a = none := fun a h => ho ▸ bh.new a h
  have same : ∀ a, H a ≠ none → a ∉ g.om → H' a = H a := fun a h n => by
    cases e : H a with
    | none => exact absurd e h
    | some o => exact bh.keep a o e fun hm => (mem a hm).elim n fun q => h q
  constructor
  · exact s.len
  · intro i d e
    obtain ⟨v, e1, r⟩ := s.dat i d e
    exact ⟨v, e1, r.fr fr s.mu⟩
  · intro i d e
    obtain ⟨a, e1, hb, r, h0, hm⟩ := s.own i d e
    exact ⟨a, e1, .inl hb, r.fr fr s.mu (same a r.there hm), h0, fun q => (mem a q).elim hm fun q => r.there q⟩
  · exact s.inj
  · exact bh.obs.1
  · exact fun n a d e1 e2 => ⟨hobs n a d e1 e2, .inr (.inl (List.mem_iff_getElem?.mpr ⟨n, e1⟩))⟩
  · exact bh.ond
  · intro a hb
    have inom : a ∈ g'.om → Mut (H' a) := fun q => by
      obtain ⟨i, hi⟩ := List.mem_iff_getElem?.mp q
      have hl : i < objs'.length := by rw [bh.obs.1]; exact (List.getElem?_eq_some_iff.mp hi).1
      exact bh.mu a (bh.obs.2 i a _ hi (List.getElem?_eq_getElem hl)).2
    rcases hb with q | q | q
    · by_cases hm : a ∈ g'.om
      · exact inom hm
      · have mu := s.mu a q
        cases e : H a with
        | none => rw [e] at mu; exact mu.elim
        | some o => rw [bh.keep a o e hm, ← e]; exact mu
    · exact inom q
    · exact bh.mu a (hroot a q).2
  · exact fun a h => .inl (s.base a h)
  · exact s.b0
  · intro a o h hm
    have hm' : a ∉ g.om := fun q => hm (by
      obtain ⟨t, e⟩ := bh.om
      rw [ho] at e
      show a ∈ g'.om
      rw [← e]
      exact List.mem_append_left _ q)
    exact bh.keep a o (s.keep a o h hm') hm
  · intro a h
    rcases mem a h with q | q
    · exact s.on a q
    · exact .inr (s.fresh0 q)
end
end DL
end
section
set_option maxRecDepth 100000
namespace DL
open PySem PySem.Spec L2
section
variable {X : Cx} {z : Zx} {S S' : Sx} {σ : L2.St} {H H' H0 : Hp} {g g' g2 : Gh} {v : V} {d : D} {r : Res} {K : PySem.W.Frag} {mg : Str → Option Value}
  {k : Nat} {f : Addr} {fd : FuncData} {ps : List Str} {sp : Sp} {x : Str} {p pos : Pos} {e : Expr} {es : List Expr} {fs : M (List Res)} {t : TA} {n : Nat} {den : Den}
def tCallG (W : WX) (sp : Sp) (t : TA) : TE := fun σ H Q => t σ H fun vs H1 => sp vs H1 Q fun cls dx H2 => W cls dx σ H2
theorem run_callG {W : WX} {pins : List (Addr × Obj)} {s : Shared} {Q : VK} {us : List Value} {vs : List V} (F : FnG X.prog X.w X.K X.mg X.base k f fd ps sp) (gd : X.A.guards = some []) (room : Room k X.A) (bnd : Binds X.K fd ps []) (tk : Takes X W)
    (inv : L2.Inv X pins σ H s) (rel : Vals vs us) (prom : sp vs H Q fun cls dx H2 => W cls dx σ H2) : wpAny (model X.prog X.w) X.A (call (.ref f) us) (EP X pins σ Q) X.xe s := by
  have size : (us ++ ([] : List Value)).length = ps.length := by rw [List.append_nil, ← rel.length]; exact F.len _ _ _ _ prom
  have bt := bnd s us inv.kIn size
  rw [List.append_nil] at bt
  refine wpAny_call (codeAny_mono (F.run X.A X.stack s H ⟨us, []⟩ us vs Q _ gd room inv.env0 bt rel prom) ?_)
  intro res s1 out
  match res, out with
  | .error ex, out => exact passAt tk σ pins H s ex s1 inv out
  | .ok (.ret u), out => exact inv.after out
theorem pe_callG {W : WX} (F : FnG X.prog X.w X.K X.mg X.base k f fd ps sp) (gd : X.A.guards = some []) (room : Room k X.A) (hg : Gl X x) (hm : X.mg x = some (.ref f)) (kp : PySem.W.keepIn X.K (.ref f) = true) (bnd : Binds X.K fd ps []) (tk : Takes X W)
    (ha : PA X (e :: es) t) (hdb : (x == ("__debug__" : Str)) = false := by decide) (he : starEach (e :: es) X.env = (false, eval e X.env) :: starEach es X.env := by rfl) (hpl : (backTo pos (starEach es X.env)).any (·.1) = false := by rfl) :
    PE X (.Call (.Name x p) (e :: es) [] pos) (tCallG W sp t) := by
  constructor
  intro pins s0 σ0 G0 Q inv hyp
  refine wpAny_Call_Name_kw (ld_glob inv hg hm ?_ hdb)
  refine PySem.W.callWith_K (h₀ := X.base) inv.ok.mod.kin kp ?_ he hpl
  refine thn (ha.run pos pins s0 σ0 G0 _ inv hyp) ?_
  rintro us s1 ⟨vs, G1, inv1, rel, prom⟩
  exact ⟨inv1.kIn, run_callG F gd room bnd tk inv1 rel prom⟩
theorem pe_callG0 {W : WX} (F : FnG X.prog X.w X.K X.mg X.base k f fd ps sp) (gd : X.A.guards = some []) (room : Room k X.A) (hg : Gl X x) (hm : X.mg x = some (.ref f)) (kp : PySem.W.keepIn X.K (.ref f) = true) (bnd : Binds X.K fd ps []) (tk : Takes X W)
    (hdb : (x == ("__debug__" : Str)) = false := by decide) : PE X (.Call (.Name x p) [] [] pos) (tCallG W sp tNil) := by
  constructor
  intro pins s0 σ0 G0 Q inv hyp
  refine wpAny_Call_Name_kw (ld_glob inv hg hm ?_ hdb)
  exact PySem.W.callWith_K0 inv.kIn kp (run_callG (us := []) F gd room bnd tk inv .nil hyp)

theorem root_im_parts {a : Addr} {r : Addr → Prop} (ob : Root K H' g' a d) (h : D.imms d.parts = true) : Root K H' (g.aft g' r) a d := ob.im (by show g'.om <+: g'.om; exact List.prefix_rfl) h
/-- the promise at a call, from what is wanted behind it -/
theorem call_den {Q : VK} {rs : List Res} {vs : List V} (s : SR K z S σ H g) (hh : Held rs) (rv : Paired (ResOk K z S σ H g) vs rs)
    (h : Go K mg z (fun S => if rs.length = n then (match den (rs.map (·.d)) S.objs with
      | none => none
      | some (.error x, objs') => some (.error x, putAll rs { S with objs := objs' })
      | some (.ok r, objs') => if r.safe && objs'.all (fun o => D.imms o.parts) then some (.ok r, { S with objs := objs' }) else some (.ok r, putAll rs { S with objs := objs' })) else none : M Res) S σ H g (fun r S' H' g' => ∀ v, ResOk K z S' σ H' g' v r → Q v H')) :
    spDen K mg n den vs H Q fun cls dx H2 => z.W cls dx σ H2 := by
  obtain ⟨g2, s2, f2, o2, b2, r2⟩ := SR.putAll s (resAt_of hh rv)
  unfold Go at h
  have hn : rs.length = n := by
    by_cases hn : rs.length = n
    · exact hn
    · simp only [if_neg hn] at h
  simp only [if_pos hn] at h
  have e0 : (DL.putAll rs S).objs = S.objs := by
    have := congrArg Sx.objs (putAll_objs rs S S.objs)
    exact this
  refine ⟨g2, rs.map (·.d), S.objs, by rw [rv.length]; exact hn, s2.mu, s2.ond, r2, ⟨by rw [o2]; exact s.olen, fun n a d e1 e2 => s2.obj n a d e1 (by rw [e0]; exact e2)⟩, ?_⟩
  cases hd : den (rs.map (·.d)) S.objs with
  | none => rw [hd] at h; exact h
  | some pr =>
    obtain ⟨res, objs'⟩ := pr
    rw [hd] at h
    cases res with
    | error x =>
      intro cls dx H' g' bh ex
      have less : Fr H' g' H' (g2.aft g' fun _ => False) := Fr.less (fun b q => by
        rcases q with q | q | q
        · exact bh.base b q
        · obtain ⟨i, hi⟩ := List.mem_iff_getElem?.mp q
          have hl : i < objs'.length := by rw [bh.obs.1]; exact (List.getElem?_eq_some_iff.mp hi).1
          exact (bh.obs.2 i b _ hi (List.getElem?_eq_getElem hl)).2
        · exact q.elim) rfl
      have hob : ∀ (n : Nat) (a : Addr) (d : D), g'.om[n]? = some a → objs'[n]? = some d → Root K H' (g2.aft g' fun _ => False) a d := fun n a d e1 e2 => (bh.obs.2 n a d e1 e2).1.fr less bh.mu rfl
      have sr := bh.sr s2 (root := fun _ => False) rfl (fun _ q => q.elim) hob
      have fr := bh.fr (root := fun _ => False) s2 rfl (fun _ q => q.elim)
      refine h cls dx H' _ (by rw [putAll_objs]; exact sr) (f2.trans fr) ⟨ex.1, ?_⟩
      have ex2 := ex.2
      cases hf : x.fs with
      | none => rw [hf] at ex2; exact ex2
      | some fs =>
        rw [hf] at ex2
        obtain ⟨a, ws, e1, e2, e3, e4⟩ := ex2
        exact ⟨a, ws, e1, e2, e3, e4.fr less bh.mu⟩
    | ok r =>
      intro H' g' v bh ok
      -- what the result's own address may be
      have root : ∃ R : Addr → Prop, (∀ a, R a → H a = none ∧ g'.bad a) ∧ (∀ a, r = .new r.d → v = .ref a → R a) := by
        cases r with
        | dat d => exact ⟨fun _ => False, fun _ q => q.elim, fun a q => by cases q⟩
        | own i d => exact ⟨fun _ => False, fun _ q => q.elim, fun a q => by cases q⟩
        | new d =>
          obtain ⟨a, rfl, hb, _, h0, _⟩ := ok
          exact ⟨fun b => b = a, fun b q => q ▸ ⟨h0, hb⟩, fun b _ q => by cases q; rfl⟩
      obtain ⟨R, hR, hRn⟩ := root
      have inom : ∀ b, b ∈ g'.om → g'.bad b := fun b q => by
        obtain ⟨i, hi⟩ := List.mem_iff_getElem?.mp q
        have hl : i < objs'.length := by rw [bh.obs.1]; exact (List.getElem?_eq_some_iff.mp hi).1
        exact (bh.obs.2 i b _ hi (List.getElem?_eq_getElem hl)).2
      by_cases safe : (r.safe && objs'.all fun o => D.imms o.parts) = true
      · simp only [if_pos safe] at h
        rw [Bool.and_eq_true] at safe
        have hob : ∀ (n : Nat) (a : Addr) (d : D), g'.om[n]? = some a → objs'[n]? = some d → Root K H' (g.aft g' R) a d := fun n a d e1 e2 =>
          root_im_parts (bh.obs.2 n a d e1 e2).1 (List.all_eq_true.mp safe.2 d (List.mem_of_getElem? e2))
        have sr := bh.sr s (root := R) o2 hR hob
        have fr := bh.fr (root := R) s o2 (fun a q => (hR a q).1)
        refine h H' _ sr fr v ?_
        cases r with
        | own i d => exact ok.elim
        | dat d => exact Rp.im (show g'.om <+: (g.aft g' R).om from List.prefix_rfl) ok safe.1
        | new d =>
          obtain ⟨a, rfl, hb, rt, h0, ho⟩ := ok
          exact ⟨a, rfl, .inr (.inr (hRn a rfl rfl)), root_im_parts rt safe.1, s.fresh0 h0, ho, fun i e he hs => s.own_there he hs h0⟩
      · simp only [if_neg safe] at h
        have less : Fr H' g' H' (g2.aft g' R) := Fr.less (fun b q => q.elim (bh.base b) fun q => q.elim (inom b) fun q => (hR b q).2) rfl
        have hob : ∀ (n : Nat) (a : Addr) (d : D), g'.om[n]? = some a → objs'[n]? = some d → Root K H' (g2.aft g' R) a d := fun n a d e1 e2 => (bh.obs.2 n a d e1 e2).1.fr less bh.mu rfl
        have sr := bh.sr s2 (root := R) rfl hR hob
        have fr := bh.fr (root := R) s2 rfl (fun a q => (hR a q).1)
        have sr' : SR K z (DL.putAll rs { S with objs := objs' }) σ H' (g2.aft g' R) := by rw [putAll_objs]; exact sr
        refine h H' _ sr' (f2.trans fr) v ?_
        cases r with
        | own i d => exact ok.elim
        | dat d => exact Rp.fr less bh.mu ok
        | new d =>
          obtain ⟨a, rfl, hb, rt, h0, ho⟩ := ok
          refine ⟨a, rfl, .inr (.inr (hRn a rfl rfl)), rt.fr less bh.mu rfl, s.fresh0 h0, ho, fun i e he hs => ?_⟩
          rw [putAll_objs] at he
          exact s2.own_there he hs h0
theorem de_call (F : FnG X.prog X.w X.K X.mg X.base k f fd ps (spDen X.K X.mg n den)) (gd : X.A.guards = some []) (room : Room k X.A) (tk : Takes X z.W) (hm : X.mg x = some (.ref f)) (kp : PySem.W.keepIn X.K (.ref f) = true) (bnd : Binds X.K fd ps [])
    (ha : DAH X z (e :: es) fs) (hg : Gl X x := by rfl) (hdb : (x == ("__debug__" : Str)) = false := by decide) (he : starEach (e :: es) X.env = (false, eval e X.env) :: starEach es X.env := by rfl) (hpl : (backTo pos (starEach es X.env)).any (·.1) = false := by rfl) :
    DE X z (.Call (.Name x p) (e :: es) [] pos) (callM n den fs) :=
  PE.imp (pe_callG F gd room hg hm kp bnd tk ha.da hdb he hpl) fun σ H Q ⟨S, g, s, h⟩ => ⟨S, g, s, (Go.heldP ha.held h.bnd).imp fun rs S1 H1 g1 s1 f1 ⟨hh, h1⟩ vs rv => call_den s1 hh rv h1⟩
theorem de_call0 (F : FnG X.prog X.w X.K X.mg X.base k f fd ps (spDen X.K X.mg n den)) (gd : X.A.guards = some []) (room : Room k X.A) (tk : Takes X z.W) (hm : X.mg x = some (.ref f)) (kp : PySem.W.keepIn X.K (.ref f) = true) (bnd : Binds X.K fd ps [])
    (hg : Gl X x := by rfl) (hdb : (x == ("__debug__" : Str)) = false := by decide) :
    DE X z (.Call (.Name x p) [] [] pos) (callM n den nilA) :=
  PE.imp (pe_callG0 F gd room hg hm kp bnd tk hdb) fun σ H Q ⟨S, g, s, h⟩ => by
    have h1 := (h.bnd).pure s
    exact call_den (rs := []) s (fun r hr => by cases hr) .nil h1
end
end DL
end
section
set_option maxRecDepth 100000
namespace DL
open PySem PySem.Spec L2
section
variable {X : Cx} {z : Zx} {S S' : Sx} {σ : L2.St} {H H' H0 : Hp} {g g' g2 : Gh} {v : V} {d : D} {r : Res} {K : PySem.W.Frag} {mg : Str → Option Value} {pos p : Pos} {a b c e : Expr} {fa fb fc : M Res}

/-! ## built-in functions of one argument -/
def UnD (X : Cx) (z : Zx) (r : List V → Hp → VK → Prop) (op : D → M Res) : Prop :=
  ∀ (S : Sx) (σ : L2.St) (H : Hp) (g : Gh) (x : V) (dx : D) (Q : VK), SR X.K z S σ H g → Pk X.K H g x dx →
    Go X.K X.mg z (op dx) S σ H g (fun r S' H' g' => ∀ v, ResOk X.K z S' σ H' g' v r → Q v H') → r [x] H Q
def unM (op : D → M Res) (f : M Res) : M Res := f >>= fun r => op r.d
theorem de_un {r : List V → Hp → VK → Prop} {op : D → M Res} (hd : UnD X z r op) (pe : PE X e (tCB r (tCons (tD X.K X.mg z fa) tNil))) : DE X z e (unM op fa) :=
  PE.imp pe fun σ H Q ⟨S, g, s, h⟩ => ⟨S, g, s, h.bnd.imp fun r S1 H1 g1 s1 f1 h1 x rx => hd S1 σ H1 g1 x _ Q s1 (s1.pk rx) h1⟩
/-- len -/
def D.len : D → Option Nat
  | .str x => if x.length ≤ sizeLine then some x.length else none
  | .lst ds => some ds.length
  | .rol ds => some ds.length
  | .tup ds => some ds.length
  | .dct false ks _ => some ks.length
  | _ => none
def opLen (d : D) : M Res := M.opt d.len fun n => pure (.dat (.int n))
def rLenA (K : PySem.W.Frag) : List V → Hp → VK → Prop := fun xs H Q => (∃ x n, xs = [x] ∧ LenV K x H n ∧ Q (V.int n) H) ∨ ∃ a kvs, xs = [V.ref a] ∧ H a = some (.dK kvs) ∧ Q (V.int kvs.length) H
theorem cr_lenA : CallR X (.builtin "len") (rLenA X.K) := call_len.or call_lenD
theorem ud_len : UnD X z (rLenA X.K) opLen := by
  intro S σ H g x dx Q s px h
  obtain ⟨n, e, h2⟩ := h.opt
  have q := out_dat s (.int _) h2
  unfold D.len at e
  split at e
  · split at e
    · rename_i hl; cases e
      have := px.str; subst this
      exact .inl ⟨_, _, rfl, ⟨hl, rfl⟩, q⟩
    · cases e
  · cases e; obtain ⟨a, xs, rfl, hx, rx⟩ := px.lst
    exact .inl ⟨_, _, rfl, .inl ⟨xs, SqL.of hx, rx.length.symm⟩, q⟩
  · cases e; obtain ⟨a, xs, rfl, hx, rx⟩ := px.rol
    exact .inl ⟨_, _, rfl, .inl ⟨xs, hx.sq, rx.length.symm⟩, q⟩
  · cases e; obtain ⟨a, xs, rfl, hx, rx⟩ := px.tup
    exact .inl ⟨_, _, rfl, .inr ⟨xs, SqT.of hx, rx.length.symm⟩, q⟩
  · cases e; obtain ⟨a, o, ws, rfl, hx, c, rx⟩ := px.dct
    cases c with
    | dK kvs => exact .inr ⟨a, kvs, rfl, hx, by simpa using q⟩
  · cases e
theorem de_len (hm : X.mg "len" = none) (ha : DE X z a fa) (hg : Gl X "len" := by rfl) (hs : starEach [a] X.env = (false, eval a X.env) :: starEach [] X.env := by rfl) (hpl : (backTo pos (starEach [] X.env)).any (·.1) = false := by rfl) :
    DE X z (.Call (.Name "len" p) [a] [] pos) (unM opLen fa) := de_un ud_len (pe_callB cr_lenA hg hm PySem.boot_len (pa_cons ha pa_nil hs) (he := hs) (hpl := hpl))
/-- int -/
def opInt : D → M Res
  | .int i => pure (.dat (.int i))
  | .bl b => pure (.dat (.int (if b = true then 1 else 0)))
  | _ => M.no
theorem ud_int : UnD X z (fun xs H Q => (∃ i, xs = [V.int i] ∧ Q (V.int i) H) ∨ ∃ k, xs = [V.bl k] ∧ Q (V.int (if k = true then 1 else 0)) H) opInt := by
  intro S σ H g x dx Q s px h
  cases dx <;> first | exact h.none.elim | skip
  · exact .inr ⟨_, by rw [px.bl], out_dat s (.int _) h⟩
  · exact .inl ⟨_, by rw [px.int], out_dat s (.int _) h⟩
theorem de_intC (hm : X.mg "int" = none) (ha : DE X z a fa) (hg : Gl X "int" := by rfl) (hs : starEach [a] X.env = (false, eval a X.env) :: starEach [] X.env := by rfl) (hpl : (backTo pos (starEach [] X.env)).any (·.1) = false := by rfl) :
    DE X z (.Call (.Name "int" p) [a] [] pos) (unM opInt fa) := de_un ud_int (pe_callTy call_int1 hg hm (by decide +kernel) (pa_cons ha pa_nil hs) (he := hs) (hpl := hpl))
def opAbs : D → M Res
  | .int i => pure (.dat (.int (if i < 0 then -i else i)))
  | _ => M.no
theorem ud_abs : UnD X z (fun xs H Q => ∃ i, xs = [V.int i] ∧ Q (V.int (if i < 0 then -i else i)) H) opAbs := by
  intro S σ H g x dx Q s px h
  cases dx <;> first | exact h.none.elim | skip
  exact ⟨_, by rw [px.int], out_dat s (.int _) h⟩
theorem de_abs (hm : X.mg "abs" = none) (ha : DE X z a fa) (hg : Gl X "abs" := by rfl) (hs : starEach [a] X.env = (false, eval a X.env) :: starEach [] X.env := by rfl) (hpl : (backTo pos (starEach [] X.env)).any (·.1) = false := by rfl) :
    DE X z (.Call (.Name "abs" p) [a] [] pos) (unM opAbs fa) := de_un ud_abs (pe_callB call_abs hg hm (by decide +kernel) (pa_cons ha pa_nil hs) (he := hs) (hpl := hpl))
/-- tuple, list -/
def opTuple : D → M Res
  | .lst ds => pure (.dat (.tup ds))
  | .rol ds => pure (.dat (.tup ds))
  | .tup ds => pure (.dat (.tup ds))
  | _ => M.no
theorem ud_tuple : UnD X z (fun xs H Q => ∃ p ys, xs = [V.ref p] ∧ ((SqL X.K H p ys ∧ ∀ l, H l = none → Q (V.ref l) (upd H l (.tup ys))) ∨ SqT X.K H p ys ∧ Q (V.ref p) H)) opTuple := by
  intro S σ H g x dx Q s px h
  cases dx <;> first | exact h.none.elim | skip
  · obtain ⟨a, xs, rfl, hx, rx⟩ := px.tup
    exact ⟨a, xs, rfl, .inr ⟨SqT.of hx, out_dat s (.tup hx rx) h⟩⟩
  · obtain ⟨a, xs, rfl, hx, rx⟩ := px.lst
    exact ⟨a, xs, rfl, .inl ⟨SqL.of hx, out_tup s rx h⟩⟩
  · obtain ⟨a, xs, rfl, hx, rx⟩ := px.rol
    exact ⟨a, xs, rfl, .inl ⟨hx.sq, out_tup s rx h⟩⟩
theorem de_tuple (hm : X.mg "tuple" = none) (ha : DE X z a fa) (hg : Gl X "tuple" := by rfl) (hs : starEach [a] X.env = (false, eval a X.env) :: starEach [] X.env := by rfl) (hpl : (backTo pos (starEach [] X.env)).any (·.1) = false := by rfl) :
    DE X z (.Call (.Name "tuple" p) [a] [] pos) (unM opTuple fa) := de_un ud_tuple (pe_callTy call_tuple_of hg hm (by decide +kernel) (pa_cons ha pa_nil hs) (he := hs) (hpl := hpl))
def opList : D → M Res
  | .lst ds => pure (.new (.lst ds))
  | .rol ds => pure (.new (.lst ds))
  | .tup ds => pure (.new (.lst ds))
  | _ => M.no
theorem ud_list : UnD X z (fun xs H Q => ∃ p ys, xs = [V.ref p] ∧ (SqL X.K H p ys ∨ SqT X.K H p ys) ∧ ∀ l, H l = none → Q (V.ref l) (upd H l (.lst ys))) opList := by
  intro S σ H g x dx Q s px h
  cases dx <;> first | exact h.none.elim | skip
  · obtain ⟨a, xs, rfl, hx, rx⟩ := px.tup
    exact ⟨a, xs, rfl, .inr (SqT.of hx), out_lst s rx h⟩
  · obtain ⟨a, xs, rfl, hx, rx⟩ := px.lst
    exact ⟨a, xs, rfl, .inl (SqL.of hx), out_lst s rx h⟩
  · obtain ⟨a, xs, rfl, hx, rx⟩ := px.rol
    exact ⟨a, xs, rfl, .inl hx.sq, out_lst s rx h⟩
theorem de_list (hm : X.mg "list" = none) (ha : DE X z a fa) (hg : Gl X "list" := by rfl) (hs : starEach [a] X.env = (false, eval a X.env) :: starEach [] X.env := by rfl) (hpl : (backTo pos (starEach [] X.env)).any (·.1) = false := by rfl) :
    DE X z (.Call (.Name "list" p) [a] [] pos) (unM opList fa) := de_un ud_list (pe_callTy call_list_of hg hm (by decide +kernel) (pa_cons ha pa_nil hs) (he := hs) (hpl := hpl))
/-- lists of ints, of truths -/
def D.ints? : List D → Option (List Int)
  | [] => some []
  | .int i :: r => (D.ints? r).map (i :: ·)
  | _ => none
def D.bls? : List D → Option (List Bool)
  | [] => some []
  | .bl i :: r => (D.bls? r).map (i :: ·)
  | _ => none
theorem ints?_of : ∀ {ds : List D} {ns : List Int}, D.ints? ds = some ns → ds = ns.map .int
  | [], ns, e => by simp [D.ints?] at e; subst e; rfl
  | d :: r, ns, e => by
    cases d <;> simp [D.ints?] at e
    obtain ⟨q, e, rfl⟩ := e
    rw [List.map_cons, ← ints?_of e]
theorem bls?_of : ∀ {ds : List D} {ns : List Bool}, D.bls? ds = some ns → ds = ns.map .bl
  | [], ns, e => by simp [D.bls?] at e; subst e; rfl
  | d :: r, ns, e => by
    cases d <;> simp [D.bls?] at e
    obtain ⟨q, e, rfl⟩ := e
    rw [List.map_cons, ← bls?_of e]
theorem ints?_map : ∀ ns : List Int, D.ints? (ns.map .int) = some ns
  | [] => rfl
  | n :: r => by simp [D.ints?, ints?_map r]
theorem bls?_map : ∀ ns : List Bool, D.bls? (ns.map .bl) = some ns
  | [] => rfl
  | n :: r => by simp [D.bls?, bls?_map r]
theorem RpA.ints : ∀ {vs : List V} {ns : List Int}, RpA K H g vs (ns.map .int) → vs = ns.map V.int
  | _, [], .nil => rfl
  | _, n :: r, .cons h t => by cases h; rw [List.map_cons, ← RpA.ints t]
theorem RpA.bls : ∀ {vs : List V} {ns : List Bool}, RpA K H g vs (ns.map .bl) → vs = ns.map V.bl
  | _, [], .nil => rfl
  | _, n :: r, .cons h t => by cases h; rw [List.map_cons, ← RpA.bls t]
/-- the items of a list -/
def D.lis : D → Option (List D)
  | .lst ds => some ds
  | .rol ds => some ds
  | _ => none
theorem Pk.lis {ds : List D} (p : Pk K H g v d) (e : d.lis = some ds) : ∃ a xs, v = .ref a ∧ SqL K H a xs ∧ RpA K H g xs ds := by
  cases d <;> simp [D.lis] at e
  · subst e; obtain ⟨a, xs, rfl, hx, rx⟩ := p.lst; exact ⟨a, xs, rfl, SqL.of hx, rx⟩
  · subst e; obtain ⟨a, xs, rfl, hx, rx⟩ := p.rol; exact ⟨a, xs, rfl, hx.sq, rx⟩
def opSum (d : D) : M Res := M.opt (d.lis.bind D.ints?) fun ns => pure (.dat (.int ns.sum))
def opAny (d : D) : M Res := M.opt (d.lis.bind D.bls?) fun bs => pure (.dat (.bl (bs.any id)))
def opAll (d : D) : M Res := M.opt (d.lis.bind D.bls?) fun bs => pure (.dat (.bl (bs.all id)))
theorem ud_sum : UnD X z (rSum X.K) opSum := by
  intro S σ H g x dx Q s px h
  obtain ⟨ns, e, h2⟩ := h.opt
  obtain ⟨ds, e1, e2⟩ := Option.bind_eq_some_iff.mp e
  obtain ⟨a, xs, rfl, hx, rx⟩ := px.lis e1
  have := ints?_of e2; subst this
  have := rx.ints; subst this
  exact ⟨a, ns, rfl, hx, out_dat s (.int _) h2⟩
theorem ud_any : UnD X z (rAny X.K) opAny := by
  intro S σ H g x dx Q s px h
  obtain ⟨ns, e, h2⟩ := h.opt
  obtain ⟨ds, e1, e2⟩ := Option.bind_eq_some_iff.mp e
  obtain ⟨a, xs, rfl, hx, rx⟩ := px.lis e1
  have := bls?_of e2; subst this
  have := rx.bls; subst this
  exact ⟨a, ns, rfl, hx, out_dat s (.bl _) h2⟩
theorem ud_all : UnD X z (rAll X.K) opAll := by
  intro S σ H g x dx Q s px h
  obtain ⟨ns, e, h2⟩ := h.opt
  obtain ⟨ds, e1, e2⟩ := Option.bind_eq_some_iff.mp e
  obtain ⟨a, xs, rfl, hx, rx⟩ := px.lis e1
  have := bls?_of e2; subst this
  have := rx.bls; subst this
  exact ⟨a, ns, rfl, hx, out_dat s (.bl _) h2⟩
theorem de_sum (hc : X.calm = true) (hm : X.mg "sum" = none) (ha : DE X z a fa) (hg : Gl X "sum" := by rfl) (hs : starEach [a] X.env = (false, eval a X.env) :: starEach [] X.env := by rfl) (hpl : (backTo pos (starEach [] X.env)).any (·.1) = false := by rfl) :
    DE X z (.Call (.Name "sum" p) [a] [] pos) (unM opSum fa) := de_un ud_sum (pe_callB (cr_sum hc) hg hm (by decide +kernel) (pa_cons ha pa_nil hs) (he := hs) (hpl := hpl))
theorem de_any (hc : X.calm = true) (hm : X.mg "any" = none) (ha : DE X z a fa) (hg : Gl X "any" := by rfl) (hs : starEach [a] X.env = (false, eval a X.env) :: starEach [] X.env := by rfl) (hpl : (backTo pos (starEach [] X.env)).any (·.1) = false := by rfl) :
    DE X z (.Call (.Name "any" p) [a] [] pos) (unM opAny fa) := de_un ud_any (pe_callB (cr_any hc) hg hm (by decide +kernel) (pa_cons ha pa_nil hs) (he := hs) (hpl := hpl))
theorem de_all (hc : X.calm = true) (hm : X.mg "all" = none) (ha : DE X z a fa) (hg : Gl X "all" := by rfl) (hs : starEach [a] X.env = (false, eval a X.env) :: starEach [] X.env := by rfl) (hpl : (backTo pos (starEach [] X.env)).any (·.1) = false := by rfl) :
    DE X z (.Call (.Name "all" p) [a] [] pos) (unM opAll fa) := de_un ud_all (pe_callB (cr_all hc) hg hm (by decide +kernel) (pa_cons ha pa_nil hs) (he := hs) (hpl := hpl))
/-- the greatest, the least of a list of whole numbers -/
def maxOf : List Int → Option Int
  | [] => none
  | n :: r => some (r.foldl (fun m k => if k > m then k else m) n)
def minOf : List Int → Option Int
  | [] => none
  | n :: r => some (r.foldl (fun m k => if k < m then k else m) n)
theorem maxF_spec : ∀ (r : List Int) (n : Int), (r.foldl (fun m k => if k > m then k else m) n = n ∨ r.foldl (fun m k => if k > m then k else m) n ∈ r) ∧ n ≤ r.foldl (fun m k => if k > m then k else m) n ∧ ∀ y ∈ r, y ≤ r.foldl (fun m k => if k > m then k else m) n
  | [], n => ⟨.inl rfl, Int.le_refl _, fun y h => by cases h⟩
  | k :: r, n => by
    rw [List.foldl_cons]
    by_cases e : k > n
    · rw [if_pos e]
      obtain ⟨h1, h2, h3⟩ := maxF_spec r k
      refine ⟨.inr (h1.elim (fun q => by rw [q]; exact List.mem_cons_self) (List.mem_cons_of_mem _)), by omega, fun y hy => ?_⟩
      rcases List.mem_cons.mp hy with rfl | hy
      · exact h2
      · exact h3 y hy
    · rw [if_neg e]
      obtain ⟨h1, h2, h3⟩ := maxF_spec r n
      refine ⟨h1.elim .inl fun q => .inr (List.mem_cons_of_mem _ q), h2, fun y hy => ?_⟩
      rcases List.mem_cons.mp hy with rfl | hy
      · omega
      · exact h3 y hy
theorem minF_spec : ∀ (r : List Int) (n : Int), (r.foldl (fun m k => if k < m then k else m) n = n ∨ r.foldl (fun m k => if k < m then k else m) n ∈ r) ∧ r.foldl (fun m k => if k < m then k else m) n ≤ n ∧ ∀ y ∈ r, r.foldl (fun m k => if k < m then k else m) n ≤ y
  | [], n => ⟨.inl rfl, Int.le_refl _, fun y h => by cases h⟩
  | k :: r, n => by
    rw [List.foldl_cons]
    by_cases e : k < n
    · rw [if_pos e]
      obtain ⟨h1, h2, h3⟩ := minF_spec r k
      refine ⟨.inr (h1.elim (fun q => by rw [q]; exact List.mem_cons_self) (List.mem_cons_of_mem _)), by omega, fun y hy => ?_⟩
      rcases List.mem_cons.mp hy with rfl | hy
      · exact h2
      · exact h3 y hy
    · rw [if_neg e]
      obtain ⟨h1, h2, h3⟩ := minF_spec r n
      refine ⟨h1.elim .inl fun q => .inr (List.mem_cons_of_mem _ q), h2, fun y hy => ?_⟩
      rcases List.mem_cons.mp hy with rfl | hy
      · omega
      · exact h3 y hy
theorem maxOf_spec {ns : List Int} {m : Int} (h : maxOf ns = some m) : m ∈ ns ∧ ∀ y ∈ ns, y ≤ m := by
  cases ns with
  | nil => cases h
  | cons n r =>
    cases h
    obtain ⟨h1, h2, h3⟩ := maxF_spec r n
    exact ⟨h1.elim (fun e => by rw [e]; exact List.mem_cons_self) (List.mem_cons_of_mem _), fun y hy => (List.mem_cons.mp hy).elim (fun e => e ▸ h2) (h3 y)⟩
theorem minOf_spec {ns : List Int} {m : Int} (h : minOf ns = some m) : m ∈ ns ∧ ∀ y ∈ ns, m ≤ y := by
  cases ns with
  | nil => cases h
  | cons n r =>
    cases h
    obtain ⟨h1, h2, h3⟩ := minF_spec r n
    exact ⟨h1.elim (fun e => by rw [e]; exact List.mem_cons_self) (List.mem_cons_of_mem _), fun y hy => (List.mem_cons.mp hy).elim (fun e => e ▸ h2) (h3 y)⟩
def opMax (d : D) : M Res := M.opt (d.lis.bind D.ints?) fun ns => M.opt (maxOf ns) fun m => pure (.dat (.int m))
def opMin (d : D) : M Res := M.opt (d.lis.bind D.ints?) fun ns => M.opt (minOf ns) fun m => pure (.dat (.int m))
theorem ud_max : UnD X z (rMax X.K) opMax := by
  intro S σ H g x dx Q s px h
  obtain ⟨ns, e, h2⟩ := h.opt
  obtain ⟨m, e3, h3⟩ := h2.opt
  obtain ⟨ds, e1, e2⟩ := Option.bind_eq_some_iff.mp e
  obtain ⟨a, xs, rfl, hx, rx⟩ := px.lis e1
  have := ints?_of e2; subst this
  have := rx.ints; subst this
  obtain ⟨m1, m2⟩ := maxOf_spec e3
  refine ⟨a, ns, rfl, hx, List.length_pos_of_mem m1, fun k k1 k2 => ?_⟩
  have : k = m := Int.le_antisymm (m2 k k1) (k2 m m1)
  rw [this]
  exact out_dat s (.int _) h3
theorem ud_min : UnD X z (rMin X.K) opMin := by
  intro S σ H g x dx Q s px h
  obtain ⟨ns, e, h2⟩ := h.opt
  obtain ⟨m, e3, h3⟩ := h2.opt
  obtain ⟨ds, e1, e2⟩ := Option.bind_eq_some_iff.mp e
  obtain ⟨a, xs, rfl, hx, rx⟩ := px.lis e1
  have := ints?_of e2; subst this
  have := rx.ints; subst this
  obtain ⟨m1, m2⟩ := minOf_spec e3
  refine ⟨a, ns, rfl, hx, List.length_pos_of_mem m1, fun k k1 k2 => ?_⟩
  have : k = m := Int.le_antisymm (k2 m m1) (m2 k k1)
  rw [this]
  exact out_dat s (.int _) h3
/-- .. of a tuple, made a list first is not asked: only lists here; two numbers: -/
def opMax2 : D → D → M Res := opI (fun _ _ => true) fun i j => .int (if j > i then j else i)
def opMin2 : D → D → M Res := opI (fun _ _ => true) fun i j => .int (if j < i then j else i)
theorem od_two {f : Int → Int → Int} : OpD X z (fun x y H Q => ∃ i j, [x, y] = [V.int i, V.int j] ∧ Q (.int (f i j)) H) (opI (fun _ _ => true) fun i j => .int (f i j)) := by
  intro S σ H g x y dx dy Q s px py h
  unfold opI at h
  split at h
  · exact ⟨_, _, by rw [px.int, py.int], out_dat s (.int _) h.need.2⟩
  · exact h.none.elim
theorem de_max (hc : X.calm = true) (hm : X.mg "max" = none) (ha : DE X z a fa) (hg : Gl X "max" := by rfl) (hs : starEach [a] X.env = (false, eval a X.env) :: starEach [] X.env := by rfl) (hpl : (backTo pos (starEach [] X.env)).any (·.1) = false := by rfl) :
    DE X z (.Call (.Name "max" p) [a] [] pos) (unM opMax fa) := de_un ud_max (pe_callB (cr_max hc) hg hm (by decide +kernel) (pa_cons ha pa_nil hs) (he := hs) (hpl := hpl))
theorem de_min (hc : X.calm = true) (hm : X.mg "min" = none) (ha : DE X z a fa) (hg : Gl X "min" := by rfl) (hs : starEach [a] X.env = (false, eval a X.env) :: starEach [] X.env := by rfl) (hpl : (backTo pos (starEach [] X.env)).any (·.1) = false := by rfl) :
    DE X z (.Call (.Name "min" p) [a] [] pos) (unM opMin fa) := de_un ud_min (pe_callB (cr_min hc) hg hm (by decide +kernel) (pa_cons ha pa_nil hs) (he := hs) (hpl := hpl))
theorem de_max2 (hc : X.calm = true) (hm : X.mg "max" = none) (ha : DE X z a fa) (hb : DE X z b fb) (hg : Gl X "max" := by rfl) (hs : starEach [a, b] X.env = (false, eval a X.env) :: starEach [b] X.env := by rfl) (hs2 : starEach [b] X.env = (false, eval b X.env) :: starEach [] X.env := by rfl)
    (hpl : (backTo pos (starEach [b] X.env)).any (·.1) = false := by rfl) : DE X z (.Call (.Name "max" p) [a, b] [] pos) (binM opMax2 fa fb) :=
  de_bin (r := fun x y H Q => ∃ i j, [x, y] = [V.int i, V.int j] ∧ Q (.int (if j > i then j else i)) H) od_two (pe_callB (call_max2 hc) hg hm (by decide +kernel) (pa_cons ha (pa_cons hb pa_nil hs2) hs) (he := hs) (hpl := hpl))
theorem de_min2 (hc : X.calm = true) (hm : X.mg "min" = none) (ha : DE X z a fa) (hb : DE X z b fb) (hg : Gl X "min" := by rfl) (hs : starEach [a, b] X.env = (false, eval a X.env) :: starEach [b] X.env := by rfl) (hs2 : starEach [b] X.env = (false, eval b X.env) :: starEach [] X.env := by rfl)
    (hpl : (backTo pos (starEach [b] X.env)).any (·.1) = false := by rfl) : DE X z (.Call (.Name "min" p) [a, b] [] pos) (binM opMin2 fa fb) :=
  de_bin (r := fun x y H Q => ∃ i j, [x, y] = [V.int i, V.int j] ∧ Q (.int (if j < i then j else i)) H) od_two (pe_callB (call_min2 hc) hg hm (by decide +kernel) (pa_cons ha (pa_cons hb pa_nil hs2) hs) (he := hs) (hpl := hpl))

/-! ## repr -/
def rRepr (K : PySem.W.Frag) : List V → Hp → VK → Prop := fun xs H Q => ∃ x p, xs = [x] ∧ Dp K H x p ∧ p.showable = true ∧ p.depth ≤ 64 ∧ p.shown.length ≤ sizeLine ∧ Q (.str p.shown) H
mutual
theorem Dp.noDict : ∀ {v : V} {p : PyData}, Dp K H v p → p.hasDict = false
  | _, _, .non => rfl
  | _, _, .bl _ => rfl
  | _, _, .int _ => rfl
  | _, _, .str _ => rfl
  | _, _, .lst _ h => by simp only [PyData.hasDict]; exact DpAll.noDict h
  | _, _, .tup _ h => by simp only [PyData.hasDict]; exact DpAll.noDict h
theorem DpAll.noDict : ∀ {v : List V} {p : List PyData}, DpAll K H v p → PyData.hasDictAll p = false
  | _, _, .nil => rfl
  | _, _, .cons a b => by simp only [PyData.hasDictAll, Dp.noDict a, DpAll.noDict b]; rfl
end
theorem cr_repr (gd : X.A.guards = some []) (hu : X.A.units + 65 < cLine) : CallR X (.builtin "repr") (rRepr X.K) := by
  intro pins s σ H xs us Q I r h
  obtain ⟨x, pd, rfl, dp, sh, dep, sz, q⟩ := h
  cases r with
  | cons rx rr =>
    cases rr
    rename_i u
    have ref : ∀ a, u = Value.ref a → (∃ as, Reads s.heap (.ref a) pd as) → wpAny (model X.prog X.w) X.A (call (.builtin "repr") [.ref a]) (EP X pins σ Q) X.xe s := fun a e ⟨as, rd⟩ =>
      PySem.repr_of_reads' rd sh (fun z => by rw [Dp.noDict dp] at z; cases z) gd (by omega) (fun _ _ e => e) (fun h' u' tk kp => ⟨.str _, H, I.kept (t' := tk) kp, ⟨_, rfl⟩, q⟩) sz
    cases dp with
    | non => obtain rfl : u = Value.none := rx; exact PySem.P.repr_of_none ⟨.str _, H, I.tok _, ⟨_, rfl⟩, q⟩
    | bl b =>
      obtain rfl : u = Value.bool b := rx
      exact PySem.P.repr_of_bool ⟨.str _, H, I.tok _, ⟨_, rfl⟩, q⟩
    | int i =>
      obtain ⟨t, rfl⟩ := rx
      have hs : i.natAbs.log2 < 1920 := by simpa [PyData.showable] using sh
      exact PySem.P.repr_of_int hs ⟨.str _, H, I.tok _, ⟨_, rfl⟩, q⟩
    | str x =>
      obtain ⟨t, rfl⟩ := rx
      exact PySem.P.repr_of_str ⟨.str _, H, I.tok _, ⟨_, rfl⟩, q⟩ sz
    | lst h1 h2 =>
      obtain rfl : u = Value.ref _ := rx
      exact ref _ rfl (Dp.reads I _ _ _ (.lst h1 h2) rfl)
    | tup h1 h2 =>
      obtain rfl : u = Value.ref _ := rx
      exact ref _ rfl (Dp.reads I _ _ _ (.tup h1 h2) rfl)
def D.shown (d : D) : Option Str := d.py.bind fun p => if p.showable && decide (p.depth ≤ 64) && decide (p.shown.length ≤ sizeLine) then some p.shown else none
def opRepr (d : D) : M Res := M.opt d.shown fun x => pure (.dat (.str x))
theorem ud_repr : UnD X z (rRepr X.K) opRepr := by
  intro S σ H g x dx Q s px h
  obtain ⟨t, e, h2⟩ := h.opt
  obtain ⟨p, e1, e2⟩ := Option.bind_eq_some_iff.mp e
  split at e2
  · rename_i c
    cases e2
    simp only [Bool.and_eq_true, decide_eq_true_eq] at c
    exact ⟨x, p, rfl, px.dp e1, c.1.1, c.1.2, c.2, out_dat s (.str _) h2⟩
  · cases e2
theorem de_repr (gd : X.A.guards = some []) (hu : X.A.units + 65 < cLine) (hm : X.mg "repr" = none) (ha : DE X z a fa) (hg : Gl X "repr" := by rfl) (hs : starEach [a] X.env = (false, eval a X.env) :: starEach [] X.env := by rfl) (hpl : (backTo pos (starEach [] X.env)).any (·.1) = false := by rfl) :
    DE X z (.Call (.Name "repr" p) [a] [] pos) (unM opRepr fa) := de_un ud_repr (pe_callB (cr_repr gd hu) hg hm (by decide +kernel) (pa_cons ha pa_nil hs) (he := hs) (hpl := hpl))
end
end DL
end
section
set_option maxRecDepth 100000
namespace DL
open PySem PySem.Spec L2
section
variable {X : Cx} {z : Zx} {S S' : Sx} {σ : L2.St} {H H' H0 : Hp} {g g' g2 : Gh} {v : V} {d : D} {r : Res} {K : PySem.W.Frag} {mg : Str → Option Value} {pos p : Pos} {a b c e : Expr} {fa fb fc : M Res} {i : Nat} {o : HO}

/-! ## a name's own object is changed -/
theorem Fr.mut {ad : Addr} (hb : g.bad ad) : Fr H g (upd H ad o) g := ⟨fun b u h n => ⟨by rw [upd_ne (show b ≠ ad from fun q => n (by rw [q]; exact hb))]; exact h, n⟩, List.prefix_rfl⟩
theorem SR.mutate {ad : Addr} {d' : D} (s : SR K z S σ H g) (h : S.env[i]? = some (.own d)) (e : σ[i]? = some (some (.ref ad))) (hm : Mut (some o)) (r : Root K (upd H ad o) g ad d') :
    SR K z (S.put i (.own d')) σ (upd H ad o) g ∧ Fr H g (upd H ad o) g := by
  obtain ⟨a0, e0, hb, rt, h0, ho⟩ := s.own i d h
  rw [e] at e0; cases e0
  have fr : Fr H g (upd H ad o) g := Fr.mut hb
  refine ⟨?_, fr⟩
  constructor
  · show (S.env.set i _).length = _; rw [List.length_set]; exact s.len
  · intro j d1 h1
    rcases set_get h1 with ⟨rfl, q⟩ | ⟨ne, q⟩
    · cases q
    · obtain ⟨w, e1, rw'⟩ := s.dat j d1 q
      exact ⟨w, e1, rw'.fr fr s.mu⟩
  · intro j d1 h1
    rcases set_get h1 with ⟨rfl, q⟩ | ⟨ne, q⟩
    · cases q; exact ⟨ad, e, hb, r, h0, ho⟩
    · obtain ⟨b, e1, hb1, rt1, h01, ho1⟩ := s.own j d1 q
      exact ⟨b, e1, hb1, rt1.fr fr s.mu (upd_ne fun w => ne (s.inj i j d d1 ad h q e (w ▸ e1))), h01, ho1⟩
  · intro j k d1 d2 b h1 h2 e1 e2
    have own : ∀ (j : Nat) (d1 : D), (S.put i (.own d')).env[j]? = some (.own d1) → ∃ d2, S.env[j]? = some (.own d2) := fun j d1 q => by
      rcases set_get q with ⟨rfl, _⟩ | ⟨_, q⟩
      · exact ⟨d, h⟩
      · exact ⟨d1, q⟩
    obtain ⟨d3, h3⟩ := own j d1 h1
    obtain ⟨d4, h4⟩ := own k d2 h2
    exact s.inj j k d3 d4 b h3 h4 e1 e2
  · exact s.olen
  · intro n b d1 e1 e2
    obtain ⟨rt1, hb1⟩ := s.obj n b d1 e1 e2
    exact ⟨rt1.fr fr s.mu (upd_ne fun w => ho (w ▸ List.mem_iff_getElem?.mpr ⟨n, e1⟩)), hb1⟩
  · exact s.ond
  · intro b hb1
    by_cases q : b = ad
    · subst q; rw [upd_same]; exact hm
    · rw [upd_ne q]; exact s.mu b hb1
  · exact s.base
  · exact s.b0
  · intro b u hu hn
    have := s.keep b u hu hn
    rw [upd_ne (fun q => by subst q; rw [h0] at hu; cases hu)]
    exact this
  · exact s.on
/-- a tracked object is changed -/
theorem SR.mutObj {n : Nat} {ad : Addr} {d' : D} (s : SR K z S σ H g) (e : g.om[n]? = some ad) (hm : Mut (some o)) (r : Root K (upd H ad o) g ad d') :
    SR K z { S with objs := S.objs.set n d' } σ (upd H ad o) g ∧ Fr H g (upd H ad o) g := by
  have hl : n < S.objs.length := by rw [s.olen]; exact (List.getElem?_eq_some_iff.mp e).1
  have hb : g.bad ad := (s.obj n ad _ e (List.getElem?_eq_getElem hl)).2
  have fr : Fr H g (upd H ad o) g := Fr.mut hb
  have hmem : ad ∈ g.om := List.mem_iff_getElem?.mpr ⟨n, e⟩
  refine ⟨?_, fr⟩
  constructor
  · exact s.len
  · intro j d1 h1
    obtain ⟨w, e1, rw'⟩ := s.dat j d1 h1
    exact ⟨w, e1, rw'.fr fr s.mu⟩
  · intro j d1 h1
    obtain ⟨b, e1, hb1, rt1, h01, ho1⟩ := s.own j d1 h1
    exact ⟨b, e1, hb1, rt1.fr fr s.mu (upd_ne fun w => ho1 (w ▸ hmem)), h01, ho1⟩
  · exact s.inj
  · rw [List.length_set]; exact s.olen
  · intro m b d1 e1 e2
    by_cases q : m = n
    · subst q
      rw [e] at e1; cases e1
      rw [List.getElem?_set_self hl] at e2; cases e2
      exact ⟨r, hb⟩
    · rw [List.getElem?_set_ne (Ne.symm q)] at e2
      obtain ⟨rt1, hb1⟩ := s.obj m b d1 e1 e2
      exact ⟨rt1.fr fr s.mu (upd_ne fun w => q (by subst w; exact nd_ix s.ond e1 e)), hb1⟩
  · exact s.ond
  · intro b hb1
    by_cases q : b = ad
    · subst q; rw [upd_same]; exact hm
    · rw [upd_ne q]; exact s.mu b hb1
  · exact s.base
  · exact s.b0
  · intro b u hu hn
    have := s.keep b u hu hn
    rw [upd_ne (show b ≠ ad from fun q => hn (by rw [q]; exact hmem))]
    exact this
  · exact s.on
/-- the object that a name stands for: its own, or a tracked one -/
inductive Where where
  | own | obj (n : Nat)
def whereM (i : Nat) (S : Sx) : Option (Where × D) := match S.env[i]? with
  | some (.own d) => some (.own, d)
  | some (.dat (.obj n)) => (S.objs[n]?).map fun d => (.obj n, d)
  | _ => none
def Sx.store (S : Sx) (i : Nat) : Where → D → Sx
  | .own, d => S.put i (.own d)
  | .obj n, d => { S with objs := S.objs.set n d }
theorem SR.where_ (s : SR K z S σ H g) {w : Where} (h : whereM i S = some (w, d)) : ∃ ad, σ[i]? = some (some (.ref ad)) ∧ Root K H g ad d ∧
    ∀ o d', Mut (some o) → Root K (upd H ad o) g ad d' → SR K z (S.store i w d') σ (upd H ad o) g ∧ Fr H g (upd H ad o) g := by
  unfold whereM at h
  cases e : S.env[i]? with
  | none => rw [e] at h; cases h
  | some x =>
    rw [e] at h
    cases x with
    | un => cases h
    | own d0 =>
      cases h
      obtain ⟨ad, e1, hb, rt, _⟩ := s.own i d e
      exact ⟨ad, e1, rt, fun o d' hm r => s.mutate e e1 hm r⟩
    | dat d0 =>
      cases d0 <;> first | (cases h; done) | skip
      rename_i n
      obtain ⟨d1, e1, e2⟩ := Option.map_eq_some_iff.mp h
      cases e2
      obtain ⟨w, e2, rw'⟩ := s.dat i _ e
      cases rw' with
      | obj e3 =>
        rename_i ad
        exact ⟨ad, e2, (s.obj n ad d e3 e1).1, fun o d' hm r => s.mutObj e3 hm r⟩
theorem Root.lstAt {ad : Addr} {ds : List D} (r : Root K H g ad (.lst ds)) : ∃ xs, H ad = some (.lst xs) ∧ RpA K H g xs ds := by
  cases r with | lst h r => exact ⟨_, h, r⟩
theorem Root.dctAt {ad : Addr} {t : Bool} {ks vs : List D} (r : Root K H g ad (.dct t ks vs)) : ∃ o ws, H ad = some o ∧ DcAt o t ks ws ∧ RpA K H g ws vs := by
  cases r with | dct h c r => exact ⟨_, _, h, c, r⟩
def D.isT : String → D → Bool
  | "list", .lst _ => true
  | "dict", .dct _ _ _ => true
  | _, _ => false
/-- a call of a method of it, with one argument: op: its result, the object behind it -/
def methK (i : Nat) (op : D → D → Option (D × D)) (x : D) : M Res := fun S1 => match whereM i S1 with
  | Option.none => Option.none
  | some (w, d) => match op d x with
    | Option.none => Option.none
    | some (res, d') => some (.ok (.dat res), S1.store i w d')
def guardM {α : Type} (c : Sx → Bool) (f : M α) : M α := fun S => if c S = true then f S else Option.none
def isTM (T : String) (i : Nat) (S : Sx) : Bool := match whereM i S with
  | some (_, d) => d.isT T
  | Option.none => false
def methM (T : String) (i : Nat) (f : M Res) (op : D → D → Option (D × D)) : M Res := guardM (isTM T i) (f >>= fun r => useM r >>= methK i op)
def methM0 (T : String) (i : Nat) (op : D → D → Option (D × D)) : M Res := guardM (isTM T i) (methK i op .non)
theorem Go.guard {α : Type} {c : Sx → Bool} {f : M α} {P : α → Sx → Hp → Gh → Prop} (h : Go K mg z (guardM c f) S σ H g P) : c S = true ∧ Go K mg z f S σ H g P := by
  unfold Go guardM at h
  by_cases e : c S = true
  · simp only [if_pos e] at h; exact ⟨e, h⟩
  · simp only [if_neg e] at h
def MetD (X : Cx) (r : V → List V → Hp → VK → Prop) (op : D → D → Option (D × D)) : Prop :=
  ∀ (H : Hp) (g : Gh) (ad : Addr) (x : V) (d dx res d' : D) (Q : VK), Root X.K H g ad d → Rp X.K H g x dx → op d dx = some (res, d') → g.bad ad → Mu H g →
    (∀ o v, Mut (some o) → Root X.K (upd H ad o) g ad d' → Rp X.K (upd H ad o) g v res → Q v (upd H ad o)) → r (.ref ad) [x] H Q
def MetD0 (X : Cx) (r : V → List V → Hp → VK → Prop) (op : D → D → Option (D × D)) : Prop :=
  ∀ (H : Hp) (g : Gh) (ad : Addr) (d res d' : D) (Q : VK), Root X.K H g ad d → op d .non = some (res, d') → g.bad ad → Mu H g →
    (∀ o v, Mut (some o) → Root X.K (upd H ad o) g ad d' → Rp X.K (upd H ad o) g v res → Q v (upd H ad o)) → r (.ref ad) [] H Q
theorem SR.bad_of (s : SR K z S σ H g) {w : Where} {ad : Addr} (h : whereM i S = some (w, d)) (e : σ[i]? = some (some (.ref ad))) : g.bad ad := by
  unfold whereM at h
  cases e1 : S.env[i]? with
  | none => rw [e1] at h; cases h
  | some x =>
    rw [e1] at h
    cases x with
    | un => cases h
    | own d0 =>
      obtain ⟨ad', e2, hb, _⟩ := s.own i d0 e1
      rw [e] at e2; cases e2; exact hb
    | dat d0 =>
      cases d0 <;> first | (cases h; done) | skip
      rename_i n
      obtain ⟨d1, e3, _⟩ := Option.map_eq_some_iff.mp h
      obtain ⟨w, e2, rw'⟩ := s.dat i _ e1
      rw [e] at e2; cases e2
      cases rw' with
      | obj e4 => exact (s.obj n ad d1 e4 e3).2
theorem Root.tyL {ad : Addr} (r : Root K H g ad d) (h : d.isT "list" = true) : tyV K "list" (.ref ad) H := by
  cases r with
  | lst hx r => exact .inl ⟨rfl, _, SqL.of hx⟩
  | dct hx c r => simp [D.isT] at h
theorem isTM_where {T : String} (h : isTM T i S = true) : ∃ w d, whereM i S = some (w, d) ∧ d.isT T = true := by
  unfold isTM at h
  cases e : whereM i S with
  | none => rw [e] at h; cases h
  | some pr => rw [e] at h; exact ⟨pr.1, pr.2, rfl, h⟩
theorem Go.meth {op : D → D → Option (D × D)} {xd : D} {ad : Addr} {Q : VK} (s : SR K z S σ H g) (es : σ[i]? = some (some (.ref ad))) (h : Go K mg z (methK i op xd) S σ H g (fun r S' H' g' => ∀ v, ResOk K z S' σ H' g' v r → Q v H')) :
    ∃ d res d', Root K H g ad d ∧ op d xd = some (res, d') ∧ g.bad ad ∧ ∀ o v, Mut (some o) → Root K (upd H ad o) g ad d' → Rp K (upd H ad o) g v res → Q v (upd H ad o) := by
  unfold Go methK at h
  cases e2 : whereM i S with
  | none => simp only [e2] at h
  | some pr =>
    obtain ⟨w, dd⟩ := pr
    simp only [e2] at h
    cases e3 : op dd xd with
    | none => simp only [e3] at h
    | some pr2 =>
      obtain ⟨res, d'⟩ := pr2
      simp only [e3] at h
      obtain ⟨ad2, es2, rt2, upd2⟩ := s.where_ e2
      rw [es] at es2; cases es2
      exact ⟨dd, res, d', rt2, e3, s.bad_of e2 es, fun o v hm rr rv => let ⟨s3, f3⟩ := upd2 o d' hm rr; h _ _ s3 f3 v rv⟩
theorem de_meth1 {r : V → List V → Hp → VK → Prop} {op : D → D → Option (D × D)} (hd : MetD X r op)
    (pe : PE X e (tBM X.K "list" r (tVar i) (tCons (tD X.K X.mg z fa) tNil))) : DE X z e (methM "list" i fa op) :=
  PE.imp pe fun σ H Q ⟨S, g, s, h⟩ => by
    obtain ⟨c, h1⟩ := h.guard
    obtain ⟨w0, d0, e0, hT⟩ := isTM_where c
    obtain ⟨ad, es, rt, _⟩ := s.where_ e0
    refine ⟨_, es, rt.tyL hT, S, g, s, h1.bnd.imp fun rr S1 H1 g1 s1 f1 q1 v rv => ?_⟩
    obtain ⟨S2, g2, s2, f2, rp, q2⟩ := q1.use s1 rv
    obtain ⟨d, res, d', rt2, e3, hb, q3⟩ := q2.meth s2 es
    exact hd H1 g2 ad v d _ res d' Q rt2 rp e3 hb s2.mu q3
theorem de_meth0 {r : V → List V → Hp → VK → Prop} {op : D → D → Option (D × D)} (hd : MetD0 X r op)
    (pe : PE X e (tBM0 X.K "list" r (tVar i))) : DE X z e (methM0 "list" i op) :=
  PE.imp pe fun σ H Q ⟨S, g, s, h⟩ => by
    obtain ⟨c, h1⟩ := h.guard
    obtain ⟨w0, d0, e0, hT⟩ := isTM_where c
    obtain ⟨ad, es, rt, _⟩ := s.where_ e0
    obtain ⟨d, res, d', rt2, e3, hb, q3⟩ := h1.meth s es
    exact ⟨_, es, rt.tyL hT, hd H g ad d res d' Q rt2 e3 hb s.mu q3⟩
/-- append, pop, extend by a list -/
def opAppend : D → D → Option (D × D)
  | .lst ds, x => if ds.length < sizeLine then some (.non, .lst (ds ++ [x])) else Option.none
  | _, _ => Option.none
def opPop : D → D → Option (D × D)
  | .lst ds, _ => (ds[ds.length - 1]?).map fun x => (x, .lst ds.dropLast)
  | _, _ => Option.none
def opExtend : D → D → Option (D × D)
  | .lst ds, .lst es => if ds.length + es.length ≤ sizeLine then some (.non, .lst (ds ++ es)) else Option.none
  | _, _ => Option.none
def opReverse : D → D → Option (D × D)
  | .lst ds, _ => some (.non, .lst ds.reverse)
  | _, _ => Option.none
def opClear : D → D → Option (D × D)
  | .lst ds, _ => some (.non, .lst [])
  | _, _ => Option.none
theorem md_append : MetD X rAppend opAppend := by
  intro H g ad x d dx res d' Q rt rp e hb m h
  obtain ⟨ds, rfl⟩ : ∃ ds, d = .lst ds := by
    cases d with
    | lst ds => exact ⟨ds, rfl⟩
    | _ => simp [opAppend] at e
  simp only [opAppend] at e
  split at e
  · rename_i hl
    cases e
    obtain ⟨xs, hx, rx⟩ := rt.lstAt
    have fr : Fr H g (upd H ad (.lst (xs ++ [x]))) g := Fr.mut hb
    exact ⟨ad, xs, x, rfl, rfl, hx, by rw [rx.length]; exact hl, h _ _ trivial (.lst upd_same ((rx.append (.cons rp .nil)).fr fr m)) .non⟩
  · cases e
theorem md_extend : MetD X rExtend opExtend := by
  intro H g ad x d dx res d' Q rt rp e hb m h
  obtain ⟨ds, rfl⟩ : ∃ ds, d = .lst ds := by
    cases d with
    | lst ds => exact ⟨ds, rfl⟩
    | _ => simp [opExtend] at e
  obtain ⟨es, rfl⟩ : ∃ es, dx = .lst es := by
    cases dx with
    | lst es => exact ⟨es, rfl⟩
    | _ => simp [opExtend] at e
  simp only [opExtend] at e
  split at e
  · rename_i hl
    cases e
    obtain ⟨xs, hx, rx⟩ := rt.lstAt
    obtain ⟨b, ys, rfl, hy, ry⟩ := Pk.lst (.inl rp)
    have fr : Fr H g (upd H ad (.lst (xs ++ ys))) g := Fr.mut hb
    exact ⟨ad, b, xs, ys, rfl, rfl, hx, hy, by rw [rx.length, ry.length]; exact hl, h _ _ trivial (.lst upd_same ((rx.append ry).fr fr m)) .non⟩
  · cases e
theorem md_pop : MetD0 X rPop opPop := by
  intro H g ad d res d' Q rt e hb m h
  unfold opPop at e
  cases d <;> first | (cases e; done) | skip
  rename_i ds
  obtain ⟨y, e1, e2⟩ := Option.map_eq_some_iff.mp e
  cases e2
  obtain ⟨xs, hx, rx⟩ := rt.lstAt
  obtain ⟨v, e3, rv⟩ := rx.get e1
  have fr : Fr H g (upd H ad (.lst xs.dropLast)) g := Fr.mut hb
  exact ⟨ad, xs, v, rfl, rfl, hx, by rw [rx.length]; exact e3, h _ _ trivial (.lst upd_same (rx.dropLast.fr fr m)) (rv.fr fr m)⟩
theorem md_reverse : MetD0 X rReverse opReverse := by
  intro H g ad d res d' Q rt e hb m h
  unfold opReverse at e
  cases d <;> first | (cases e; done) | skip
  cases e
  obtain ⟨xs, hx, rx⟩ := rt.lstAt
  have fr : Fr H g (upd H ad (.lst xs.reverse)) g := Fr.mut hb
  exact ⟨ad, xs, rfl, rfl, hx, h _ _ trivial (.lst upd_same (rx.rev.fr fr m)) .non⟩
theorem md_clear : MetD0 X rClear opClear := by
  intro H g ad d res d' Q rt e hb m h
  unfold opClear at e
  cases d <;> first | (cases e; done) | skip
  cases e
  obtain ⟨xs, hx, rx⟩ := rt.lstAt
  exact ⟨ad, xs, rfl, rfl, hx, h _ _ trivial (.lst upd_same .nil) .non⟩
variable {apos px : Pos} {x : Str}
theorem de_append (i : Nat) (ha : DE X z a fa) (hN : X.N[i]? = some x := by rfl) (hv : Vis X.env.scope x := by first | exact Or.inl rfl | exact Or.inr (Or.inl rfl) | exact Or.inr (Or.inr rfl)) (hd : (x == ("__debug__" : Str)) = false := by decide) (hcd : (x == ("__classdict__" : Str)) = false := by decide)
    (h1 : attributeBase (.Name x px) "append" X.env (eval (.Name x px) X.env) = eval (.Name x px) X.env := by rfl)
    (h2 : (((backTo pos (starEach [a] X.env)).all fun x => !x.1) && ((backToKw pos (keywordEach [] X.env)).all fun x => x.1.isSome) && decide (([a] : List Expr).length + ([] : List Keyword).length + (if ([] : List Keyword).isEmpty = true then 0 else 1) < 30)) = true := by rfl)
    (h3 : (apos.endLine == pos.line) = true := by rfl) (hs : starEach [a] X.env = (false, eval a X.env) :: starEach [] X.env := by rfl) (h5 : (backTo pos (starEach [] X.env)).any (·.1) = false := by rfl) :
    DE X z (.Call (.Attribute (.Name x px) "append" apos) [a] [] pos) (methM "list" i fa opAppend) :=
  de_meth1 md_append (pe_bm PySem.F.plainAttrs_list PySem.F.slot_list_append PySem.F.type_list_append mt_append (pe_var hN hv hd hcd) (pa_cons ha pa_nil hs) h1 h2 h3 hs h5)
theorem de_extend (i : Nat) (ha : DE X z a fa) (hN : X.N[i]? = some x := by rfl) (hv : Vis X.env.scope x := by first | exact Or.inl rfl | exact Or.inr (Or.inl rfl) | exact Or.inr (Or.inr rfl)) (hd : (x == ("__debug__" : Str)) = false := by decide) (hcd : (x == ("__classdict__" : Str)) = false := by decide)
    (h1 : attributeBase (.Name x px) "extend" X.env (eval (.Name x px) X.env) = eval (.Name x px) X.env := by rfl)
    (h2 : (((backTo pos (starEach [a] X.env)).all fun x => !x.1) && ((backToKw pos (keywordEach [] X.env)).all fun x => x.1.isSome) && decide (([a] : List Expr).length + ([] : List Keyword).length + (if ([] : List Keyword).isEmpty = true then 0 else 1) < 30)) = true := by rfl)
    (h3 : (apos.endLine == pos.line) = true := by rfl) (hs : starEach [a] X.env = (false, eval a X.env) :: starEach [] X.env := by rfl) (h5 : (backTo pos (starEach [] X.env)).any (·.1) = false := by rfl) :
    DE X z (.Call (.Attribute (.Name x px) "extend" apos) [a] [] pos) (methM "list" i fa opExtend) :=
  de_meth1 md_extend (pe_bm PySem.F.plainAttrs_list PySem.F.slot_list_extend PySem.F.type_list_extend mt_extend (pe_var hN hv hd hcd) (pa_cons ha pa_nil hs) h1 h2 h3 hs h5)
theorem de_pop (i : Nat) (hN : X.N[i]? = some x := by rfl) (hv : Vis X.env.scope x := by first | exact Or.inl rfl | exact Or.inr (Or.inl rfl) | exact Or.inr (Or.inr rfl)) (hd : (x == ("__debug__" : Str)) = false := by decide) (hcd : (x == ("__classdict__" : Str)) = false := by decide)
    (h1 : attributeBase (.Name x px) "pop" X.env (eval (.Name x px) X.env) = eval (.Name x px) X.env := by rfl) (h3 : (apos.endLine == pos.line) = true := by rfl) :
    DE X z (.Call (.Attribute (.Name x px) "pop" apos) [] [] pos) (methM0 "list" i opPop) :=
  de_meth0 md_pop (pe_bm0 PySem.F.plainAttrs_list PySem.F.slot_list_pop PySem.F.type_list_pop mt_pop (pe_var hN hv hd hcd) h1 h3)
theorem de_reverse (i : Nat) (hN : X.N[i]? = some x := by rfl) (hv : Vis X.env.scope x := by first | exact Or.inl rfl | exact Or.inr (Or.inl rfl) | exact Or.inr (Or.inr rfl)) (hd : (x == ("__debug__" : Str)) = false := by decide) (hcd : (x == ("__classdict__" : Str)) = false := by decide)
    (h1 : attributeBase (.Name x px) "reverse" X.env (eval (.Name x px) X.env) = eval (.Name x px) X.env := by rfl) (h3 : (apos.endLine == pos.line) = true := by rfl) :
    DE X z (.Call (.Attribute (.Name x px) "reverse" apos) [] [] pos) (methM0 "list" i opReverse) :=
  de_meth0 md_reverse (pe_bm0 PySem.F.plainAttrs_list PySem.F.slot_list_reverse PySem.F.type_list_reverse mt_reverse (pe_var hN hv hd hcd) h1 h3)

/-! ## stores: x[k] = v, x[k] += n -/
def rSetA : V → V → V → Hp → (Hp → Prop) → Prop := fun o i v H Q => rSetL o i v H Q ∨ ∃ a H1, o = .ref a ∧ DPut H a i v H1 ∧ Q H1
theorem set_any (hu : X.A.units + 65 < cLine) : PSet X rSetA := by
  intro pins s σ H o i v ov iv u Q I ro ri rv h
  rcases h with h | ⟨a, H1, rfl, dp, q⟩
  · exact set_list pins s σ H o i v ov iv u Q I ro ri rv h
  · obtain rfl : ov = Value.ref a := ro
    exact d_setItem (by omega) I dp ri rv fun s' I' => ⟨H1, I', q⟩
/-- the object behind a store -/
def D.store : D → D → D → Option D
  | .lst ds, .int k, x => (ixN ds.length k).map fun j => .lst (ds.set j x)
  | .dct t ks vs, k, x => if (D.lookKey t ks vs k).isSome && decide (ks.length < sizeLine) then some (.dct t (D.putK ks k) (D.putV ks vs k x)) else Option.none
  | _, _, _ => Option.none
def storeK (i : Nat) (k x : D) : M Unit := fun S => match whereM i S with
  | Option.none => Option.none
  | some (w, d) => match d.store k x with
    | Option.none => Option.none
    | some d' => some (.ok (), S.store i w d')
theorem store_ok {ad : Addr} {x y : V} {dk dx d' : D} (rt : Root K H g ad d) (py : Rp K H g y dk) (px : Rp K H g x dx) (e : d.store dk dx = some d') (hb : g.bad ad) (m : Mu H g) (Q : Hp → Prop)
    (h : ∀ o, Mut (some o) → Root K (upd H ad o) g ad d' → Q (upd H ad o)) : rSetA (.ref ad) y x H Q := by
  unfold D.store at e
  split at e
  · obtain ⟨j, e1, rfl⟩ := Option.map_eq_some_iff.mp e
    obtain ⟨xs, hx, rx⟩ := rt.lstAt
    have fr : Fr H g (upd H ad (.lst (xs.set j x))) g := Fr.mut hb
    exact .inl ⟨ad, xs, _, j, rfl, Pk.int (.inl py), hx, by rw [rx.length]; exact e1, h _ trivial (.lst upd_same ((rx.set px j).fr fr m))⟩
  · split at e
    · rename_i t ks vs cc
      cases e
      simp only [Bool.and_eq_true, decide_eq_true_eq] at cc
      obtain ⟨o, ws, hx, c, rx⟩ := rt.dctAt
      cases c with
      | dK kvs =>
        have : ∃ kk : Key, dk = kD kk := by
          cases dk with
          | int i => exact ⟨.inl i, rfl⟩
          | str i => exact ⟨.inr i, rfl⟩
          | _ => simp [D.lookKey] at cc
        obtain ⟨kk, rfl⟩ := this
        obtain ⟨p1, p2⟩ := put_of (c := kD) (fun _ _ => kD_inj) kk x dx px rx
        have fr : Fr H g (upd H ad (.dK (L2.putK kvs kk x))) g := Fr.mut hb
        refine .inr ⟨ad, _, rfl, .inl ⟨kvs, kk, hx, Pk.key (.inl py) (kD_key kk), by simpa using cc.2, rfl⟩, h _ trivial ?_⟩
        rw [p1]
        exact .dct upd_same (.dK _) (p2.fr fr m)
      | dT kvs =>
        cases dk with
        | tup ds =>
          simp only [D.lookKey] at cc
          have hs : (D.keys ds).isSome = true := by
            by_cases q : (D.keys ds).isSome = true
            · exact q
            · rw [if_neg q] at cc; exact absurd cc.1 (by simp)
          obtain ⟨kk, hk⟩ := Option.isSome_iff_exists.mp hs
          have := keys_kD hk
          subst this
          obtain ⟨b, xs, rfl, hb2, rb⟩ := Pk.tup (.inl py)
          have := rb.kV
          subst this
          obtain ⟨p1, p2⟩ := put_of (c := fun k => D.tup (k.map kD)) (fun _ _ => tupkey_inj) kk x dx px rx
          have fr : Fr H g (upd H ad (.dT (L2.putK kvs kk x))) g := Fr.mut hb
          refine .inr ⟨ad, _, rfl, .inr ⟨kvs, kk, b, hx, rfl, hb2, by simpa using cc.2, rfl⟩, h _ trivial ?_⟩
          rw [p1]
          exact .dct upd_same (.dT _) (p2.fr fr m)
        | _ => simp [D.lookKey] at cc
    · cases e
  · cases e
def storeM (i : Nat) (fv fk : M Res) : M Fl := fv >>= fun rv => useM rv >>= fun x => guardM (fun S => (whereM i S).isSome) (fk >>= fun rk => useM rk >>= fun k => storeK i k x >>= fun _ => pure .next)
theorem GoS.guard {c : Sx → Bool} {f : M Fl} {D : Ends} (h : GoS K mg z (guardM c f) S σ H g D) : c S = true ∧ GoS K mg z f S σ H g D := by
  unfold GoS guardM at h
  by_cases e : c S = true
  · simp only [if_pos e] at h; exact ⟨e, h⟩
  · simp only [if_neg e] at h
theorem GoS.storeK {k x : D} {D : Ends} {ad : Addr} {vk vx : V} (s : SR K z S σ H g) (es : σ[i]? = some (some (.ref ad))) (py : Rp K H g vk k) (px : Rp K H g vx x) (h : GoS K mg z (DL.storeK i k x >>= fun _ => pure .next) S σ H g D) : rSetA (.ref ad) vk vx H fun H1 => D.nx σ H1 := by
  unfold GoS at h
  change (match M.bnd (DL.storeK i k x) (fun _ => (Pure.pure Fl.next : M Fl)) S with
    | Option.none => False
    | some (.ok .next, S') => ∀ σ' H' g', SR K z S' σ' H' g' → Fr H g H' g' → D.nx σ' H'
    | some (.ok .brk, S') => ∀ σ' H' g', SR K z S' σ' H' g' → Fr H g H' g' → D.bk σ' H'
    | some (.ok .cont, S') => ∀ σ' H' g', SR K z S' σ' H' g' → Fr H g H' g' → D.ct σ' H'
    | some (.ok (.ret r), S') => ∀ σ' H' g' v, SR K z S' σ' H' g' → Fr H g H' g' → ResOk K z S' σ' H' g' v r → D.rt v H'
    | some (.error x, S') => ∀ cls dx σ' H' g', SR K z S' σ' H' g' → Fr H g H' g' → ExnOk K mg H' g' cls dx x → z.W cls dx σ' H') at h
  unfold M.bnd DL.storeK at h
  cases e2 : whereM i S with
  | none => simp only [e2] at h
  | some pr =>
    obtain ⟨w, d⟩ := pr
    simp only [e2] at h
    cases e3 : d.store k x with
    | none => simp only [e3] at h
    | some d' =>
      simp only [e3] at h
      obtain ⟨ad2, es2, rt2, upd2⟩ := s.where_ e2
      rw [es] at es2; cases es2
      refine store_ok rt2 py px e3 (s.bad_of e2 es) s.mu _ fun o hm rr => ?_
      obtain ⟨s3, f3⟩ := upd2 o d' hm rr
      exact h σ _ g s3 f3
theorem ds_store (hu : X.A.units + 65 < cLine) (i : Nat) (hv' : DE X z a fa) (hk : DE X z b fb) (hN : X.N[i]? = some x := by rfl) (hv : Vis X.env.scope x := by first | exact Or.inl rfl | exact Or.inr (Or.inl rfl) | exact Or.inr (Or.inr rfl)) (hd : (x == ("__debug__" : Str)) = false := by decide) (hcd : (x == ("__classdict__" : Str)) = false := by decide)
    {p1 : Pos} (hsub : ∀ v, assign (.Subscript (.Name x px) b p1) X.env v = (do
      let ov ← holding [v] (eval (.Name x px) X.env)
      let iv ← holding [v, ov] (eval b X.env)
      standAt p1
      holding [v, ov, iv] (setItem ov iv v)
      release [v, ov, iv] []) := by intro _; rfl)
    (hs : swapsWithSole [.Subscript (.Name x px) b p1] a pos.line X.env = pure false := by rfl) (hw : swappedStores [.Subscript (.Name x px) b p1] a X.env = pure Option.none := by rfl)
    (h1 : (assignEach [.Subscript (.Name x px) b p1] X.env).map (·.2) = [assign (.Subscript (.Name x px) b p1) X.env] := by rfl) : DS X z (.Assign [.Subscript (.Name x px) b p1] a pos) (storeM i fa fb) :=
  PS.imp (ps_asg hv' (pg_sub (pe_var hN hv hd hcd) hk (set_any hu) hsub) hs hw h1) fun D σ H ⟨S, g, s, q⟩ => by
    refine ⟨S, g, s, q.bnd.imp fun rv S1 H1 g1 s1 f1 q1 v rvv => ?_⟩
    obtain ⟨S2, g2, s2, f2, rp, q2⟩ := GoS.use s1 rvv q1
    obtain ⟨c, q3⟩ := GoS.guard q2
    obtain ⟨⟨w0, d0⟩, e0⟩ := Option.isSome_iff_exists.mp c
    obtain ⟨ad, es, _, _⟩ := s2.where_ e0
    refine ⟨_, es, S2, g2, s2, q3.bnd.imp fun rk S3 H3 g3 s3 f3 q4 y ry => ?_⟩
    obtain ⟨S5, g5, s5, f5, rpk, q5⟩ := GoS.use s3 ry q4
    exact q5.storeK s5 es rpk (rp.fr (f3.trans f5) s2.mu)
end
end DL
end
section
set_option maxRecDepth 100000
namespace DL
open PySem PySem.Spec L2

/-! ## comprehensions -/
def Slot.frz : Slot → Slot
  | .own d => .dat d
  | s => s
/-- the slots of a block's own names forgotten -/
def wipeE (env : List Slot) : List Nat → List Slot
  | [] => env
  | v :: vs => (wipeE env vs).set v .un
/-- the items one by one: what a turn makes of one is put behind; env: each turn's names -/
def compL (turn : D → M (Option D)) (env : List Slot) : List D → List D → List D → Option (List D × List D)
  | [], acc, o => some (acc, o)
  | d :: ds, acc, o => match turn d ⟨env, o⟩ with
    | some (.ok (some x), S') => if acc.length < sizeLine then compL turn env ds (acc ++ [x]) S'.objs else none
    | some (.ok none, S') => compL turn env ds acc S'.objs
    | _ => none
def turnM (tgt : D → M Unit) (t : M Bool) (f : M Res) (d : D) : M (Option D) := tgt d >>= fun _ => t >>= fun b => if b = true then f >>= fun r => useM r >>= fun x => pure (some x) else pure none
def lcM (it : M (List D)) (own : List Nat) (turn : D → M (Option D)) : M Res := it >>= fun ds => fun S => match compL turn (wipeE (S.env.map Slot.frz) own) ds [] S.objs with
  | none => none
  | some (acc, objs') => if D.imms acc && objs'.all (fun o => D.imms o.parts) then some (.ok (.new (.lst acc)), { S with objs := objs' }) else some (.ok (.new (.lst acc)), ⟨S.env.map Slot.frz, objs'⟩)
section
variable {X : Cx} {z : Zx} {S S' : Sx} {σ : L2.St} {H H' H0 : Hp} {g g' g2 : Gh} {v : V} {d : D} {r : Res} {K : PySem.W.Frag} {mg : Str → Option Value} {pos p : Pos} {a b c e : Expr} {fa fb fc : M Res} {i : Nat} {o : HO}
theorem wipe_at {σ : L2.St} {i : Nat} : ∀ {vs : List Nat}, i ∈ vs → i < σ.length → (wipe σ vs)[i]? = some none
  | v :: vs, h, hl => by
    unfold wipe
    by_cases e : v = i
    · subst e
      exact List.getElem?_set_self (by rw [wipe_length]; exact hl)
    · rw [List.getElem?_set_ne e]
      exact wipe_at ((List.mem_cons.mp h).elim (fun q => absurd q.symm e) id) hl
theorem wipe_sm {σ σ' : L2.St} {ts vs : List Nat} (m : Sm ts (wipe σ vs) σ') (h : ∀ i ∈ ts, i ∈ vs) : wipe σ' vs = wipe σ vs := by
  have hl : σ'.length = σ.length := by rw [m.len, wipe_length]
  apply List.ext_getElem?
  intro i
  by_cases hi : i ∈ vs
  · by_cases hs : i < σ.length
    · rw [wipe_at hi hs, wipe_at hi (by rw [hl]; exact hs)]
    · rw [List.getElem?_eq_none (by rw [wipe_length]; omega), List.getElem?_eq_none (by rw [wipe_length]; omega)]
  · rw [wipe_out hi]
    exact m.at_ i fun q => hi (h i q)
theorem wipeE_len (env : List Slot) : ∀ vs : List Nat, (wipeE env vs).length = env.length
  | [] => rfl
  | v :: vs => by unfold wipeE; rw [List.length_set, wipeE_len env vs]
theorem wipeE_get {env : List Slot} {i : Nat} {x : Slot} : ∀ {vs : List Nat}, (wipeE env vs)[i]? = some x → x ≠ .un → env[i]? = some x ∧ i ∉ vs
  | [], h, _ => ⟨h, by simp⟩
  | v :: vs, h, n => by
    unfold wipeE at h
    rcases set_get h with ⟨_, q⟩ | ⟨ne, q⟩
    · exact absurd q n
    · obtain ⟨h1, h2⟩ := wipeE_get q n
      exact ⟨h1, fun m => (List.mem_cons.mp m).elim (fun e => ne e.symm) h2⟩
/-- all names' own objects as data -/
theorem SR.frzAll (s : SR K z S σ H g) : ∃ g', SR K z ⟨S.env.map Slot.frz, S.objs⟩ σ H g' ∧ Fr H g H g' ∧ g'.om = g.om ∧ ∀ a, g'.bad a → g.bad a := by
  have key : ∀ n, ∃ S' g', SR K z S' σ H g' ∧ Fr H g H g' ∧ g'.om = g.om ∧ (∀ a, g'.bad a → g.bad a) ∧ S'.objs = S.objs ∧ S'.env.length = S.env.length ∧ ∀ i : Nat, S'.env[i]? = if i < n then S.env[i]?.map Slot.frz else S.env[i]? := by
    intro n
    induction n with
    | zero => exact ⟨S, g, s, Fr.refl _ _, rfl, fun _ h => h, rfl, rfl, fun i => by rw [if_neg (Nat.not_lt_zero i)]⟩
    | succ n ih =>
      obtain ⟨S1, g1, s1, f1, o1, b1, e1, l1, q1⟩ := ih
      have hn := q1 n
      rw [if_neg (Nat.lt_irrefl n)] at hn
      cases e : S.env[n]? with
      | none =>
        refine ⟨S1, g1, s1, f1, o1, b1, e1, l1, fun i => ?_⟩
        rw [q1 i]
        by_cases h1 : i < n
        · rw [if_pos h1, if_pos (Nat.lt_succ_of_lt h1)]
        · by_cases h2 : i = n
          · subst h2; rw [if_neg h1, if_pos (Nat.lt_succ_self i), e]; rfl
          · rw [if_neg h1, if_neg (by omega)]
      | some sl =>
        rw [e] at hn
        cases sl with
        | own d =>
          obtain ⟨ad, es, _⟩ := s1.own n d hn
          obtain ⟨s2, _⟩ := s1.use_own hn es
          have hl : n < S1.env.length := (List.getElem?_eq_some_iff.mp hn).1
          refine ⟨S1.put n (.dat d), g1.del ad, s2, f1.trans Fr.del, o1, fun a h => b1 a h.1, e1, by show (S1.env.set n _).length = _; rw [List.length_set]; exact l1, fun i => ?_⟩
          show (S1.env.set n (.dat d))[i]? = _
          by_cases h2 : n = i
          · subst h2
            rw [List.getElem?_set_self hl, if_pos (Nat.lt_succ_self n), e]; rfl
          · rw [List.getElem?_set_ne h2, q1 i]
            by_cases h1 : i < n
            · rw [if_pos h1, if_pos (Nat.lt_succ_of_lt h1)]
            · rw [if_neg h1, if_neg (by omega)]
        | dat d =>
          refine ⟨S1, g1, s1, f1, o1, b1, e1, l1, fun i => ?_⟩
          rw [q1 i]
          by_cases h1 : i < n
          · rw [if_pos h1, if_pos (Nat.lt_succ_of_lt h1)]
          · by_cases h2 : i = n
            · subst h2; rw [if_neg h1, if_pos (Nat.lt_succ_self i), e]; rfl
            · rw [if_neg h1, if_neg (by omega)]
        | un =>
          refine ⟨S1, g1, s1, f1, o1, b1, e1, l1, fun i => ?_⟩
          rw [q1 i]
          by_cases h1 : i < n
          · rw [if_pos h1, if_pos (Nat.lt_succ_of_lt h1)]
          · by_cases h2 : i = n
            · subst h2; rw [if_neg h1, if_pos (Nat.lt_succ_self i), e]; rfl
            · rw [if_neg h1, if_neg (by omega)]
  obtain ⟨S1, g1, s1, f1, o1, b1, e1, l1, q1⟩ := key S.env.length
  refine ⟨g1, ?_, f1, o1, b1⟩
  have : S1 = ⟨S.env.map Slot.frz, S.objs⟩ := by
    obtain ⟨env, objs⟩ := S1
    cases e1
    congr 1
    apply List.ext_getElem?
    intro i
    have := q1 i
    change env[i]? = _ at this
    rw [this, List.getElem?_map]
    by_cases h : i < S.env.length
    · rw [if_pos h]
    · rw [if_neg h, List.getElem?_eq_none (by omega)]; rfl
  rw [← this]; exact s1
def noOwn (env : List Slot) : Prop := ∀ (i : Nat) (d : D), env[i]? ≠ some (.own d)
theorem noOwn_frz (env : List Slot) (vs : List Nat) : noOwn (wipeE (env.map Slot.frz) vs) := fun i d h => by
  obtain ⟨h1, _⟩ := wipeE_get h (by simp)
  rw [List.getElem?_map] at h1
  obtain ⟨x, _, e⟩ := Option.map_eq_some_iff.mp h1
  cases x <;> cases e
/-- the state within a block -/
structure In (K : PySem.W.Frag) (env : List Slot) (objs : List D) (σ : L2.St) (H : Hp) (g : Gh) : Prop where
  len : env.length = σ.length
  dat : ∀ (i : Nat) (d : D), env[i]? = some (.dat d) → ∃ v, σ[i]? = some (some v) ∧ Rp K H g v d
  olen : objs.length = g.om.length
  obj : ∀ (n : Nat) (a : Addr) (d : D), g.om[n]? = some a → objs[n]? = some d → Root K H g a d ∧ g.bad a
  ond : g.om.Nodup
  mu : Mu H g
theorem In.sr {env : List Slot} {objs : List D} (h : In K env objs σ H g) (no : noOwn env) (W : WX) : SR K ⟨H, g.bad, g.om, W⟩ ⟨env, objs⟩ σ H g where
  len := h.len
  dat := h.dat
  own := fun i d e => absurd e (no i d)
  inj := fun i j d e a q => absurd q (no i d)
  olen := h.olen
  obj := h.obj
  ond := h.ond
  mu := h.mu
  base := fun a q => q
  b0 := fun a q e => by have := h.mu a q; change H a = none at e; rw [e] at this; exact this
  keep := fun a o q _ => q
  on := fun a q => .inl q
theorem Grow.fr (gr : Grow H H') : Fr H g H' g := by
  rcases gr with rfl | ⟨p, xs, hp, rfl⟩
  · exact Fr.refl _ _
  · exact Fr.upd_new hp
theorem In.grow {env : List Slot} {objs : List D} (h : In K env objs σ H g) (gr : Grow H H') : In K env objs σ H' g := by
  constructor
  · exact h.len
  · intro i d e
    obtain ⟨v, e1, r⟩ := h.dat i d e
    exact ⟨v, e1, r.fr gr.fr h.mu⟩
  · exact h.olen
  · intro n a d e1 e2
    obtain ⟨rt, hb⟩ := h.obj n a d e1 e2
    refine ⟨rt.fr gr.fr h.mu ?_, hb⟩
    rcases gr with rfl | ⟨p, xs, hp, rfl⟩
    · rfl
    · exact upd_ne fun q => rt.there (q ▸ hp)
  · exact h.ond
  · intro a hb
    have := h.mu a hb
    rcases gr with rfl | ⟨p, xs, hp, rfl⟩
    · exact this
    · rw [upd_ne (show a ≠ p from fun q => by rw [q, hp] at this; exact this)]; exact this
/-- the block's own W: nothing is let out -/
abbrev blkW : WX := fun _ _ _ _ => False
variable {tg elt iter : Expr} {ifs : List Expr} {scope : Scope} {own : List (Str × Nat)} {it : M (List D)} {tgt : D → M Unit} {t : M Bool} {f : M Res} {ts : List Nat}
/-- the same, whatever stays the same meanwhile -/
def tDx (K : PySem.W.Frag) (mg : Str → Option Value) (f : M Res) : TE := fun σ H Q => ∃ z : Zx, z.W = blkW ∧ tD K mg z f σ H Q
def tTx (K : PySem.W.Frag) (mg : Str → Option Value) (f : M Bool) : TT := fun σ H Q => ∃ z : Zx, z.W = blkW ∧ tT K mg z f σ H Q
def tGx (K : PySem.W.Frag) (ts : List Nat) (f : D → M Unit) : TG := fun v σ H Q => ∃ z : Zx, tG K z ts f v σ H Q
theorem pe_x (h : ∀ z : Zx, z.W = blkW → DE X z e fa) : PE X e (tDx X.K X.mg fa) := ⟨fun pins s σ H Q I ⟨z, w, q⟩ => (h z w).run pins s σ H Q I q⟩
theorem pt_x (h : ∀ z : Zx, z.W = blkW → DT X z e t) : PT X e (tTx X.K X.mg t) := ⟨fun pins s σ H Q I ⟨z, w, q⟩ => (h z w).run pins s σ H Q I q⟩
theorem pg_x (h : ∀ z : Zx, DG X z ts e tgt) : PG X e (tGx X.K ts tgt) := ⟨fun pins s σ H v u Q I r ⟨z, q⟩ => (h z).run pins s σ H v u Q I r q⟩
theorem pts_x0 : PTs X [] (tTx X.K X.mg (pure true)) := ⟨fun pins s σ H Q I ⟨z, w, S, g, sr, q⟩ => pts_nil.run pins s σ H Q I (q.pure sr)⟩
theorem pts_x1 (h : ∀ z : Zx, z.W = blkW → DT X z e t) : PTs X [e] (tTx X.K X.mg t) := pts_one (pt_x h)
theorem Go.of_run {α : Type} {f : M α} {x : α} {P : α → Sx → Hp → Gh → Prop} (e : f S = some (.ok x, S')) (h : ∀ H' g', SR K z S' σ H' g' → Fr H g H' g' → P x S' H' g') : Go K mg z f S σ H g P := by
  unfold Go
  rw [e]
  exact h
/-- the walk of a block's turns -/
structure Blk (K : PySem.W.Frag) (env : List Slot) (σ : L2.St) (vs : List Nat) (H1 : Hp) (g1 : Gh) (Dd : Addr) (acc objs : List D) (H : Hp) (g : Gh) : Prop where
  inn : In K env objs (wipe σ vs) H g
  keep : ∀ a o, H1 a = some o → a ∉ g.om → H a = some o
  fr : Fr H1 g1 H g
  base : ∀ a, g1.bad a → g.bad a
  new : ∀ a, a ∈ g.om → a ∈ g1.om ∨ H1 a = none
  lst : ∃ accV, H Dd = some (.lst accV) ∧ RpA K H g accV acc
  bad : g.bad Dd
  om : Dd ∉ g.om
theorem Blk.step {env : List Slot} {σ : L2.St} {vs : List Nat} {H1 H' H4 : Hp} {g1 g5 : Gh} {Dd : Addr} {acc objs : List D} {S4 : Sx} {σ2 : L2.St} (b : Blk K env σ vs H1 g1 Dd acc objs H g) (hD : H1 Dd = none) (gr : Grow H H')
    (s : SR K ⟨H', g.bad, g.om, blkW⟩ S4 σ2 H4 g5) (f : Fr H' g H4 g5) :
    (∀ a o, H a = some o → a ∉ g5.om → H4 a = some o) ∧ Dd ∉ g5.om ∧ (∃ accV, H4 Dd = some (.lst accV) ∧ RpA K H4 g5 accV acc) ∧ Blk K env σ vs H1 g1 Dd acc S4.objs H4 g5 := by
  have k1 : ∀ a o, H a = some o → H' a = some o := fun a o h => by
    rcases gr with rfl | ⟨p, xs, hp, rfl⟩
    · exact h
    · rw [upd_ne (ne_of_none h hp)]; exact h
  have f1 : Fr H g H' g := by
    rcases gr with rfl | ⟨p, xs, hp, rfl⟩
    · exact Fr.refl _ _
    · exact Fr.upd_new hp
  have sub : ∀ a, a ∈ g.om → a ∈ g5.om := fun a h => by
    obtain ⟨t, e⟩ := f.om
    rw [← e]; exact List.mem_append_left _ h
  have nom : Dd ∉ g5.om := fun h => by
    rcases s.on Dd h with q | q
    · exact b.om q
    · obtain ⟨accV, e, _⟩ := b.lst
      change H' Dd = none at q
      rw [k1 _ _ e] at q; cases q
  have kp : ∀ a o, H a = some o → a ∉ g5.om → H4 a = some o := fun a o h n => s.keep a o (k1 a o h) n
  have lst : ∃ accV, H4 Dd = some (.lst accV) ∧ RpA K H4 g5 accV acc := by
    obtain ⟨accV, e, r⟩ := b.lst
    exact ⟨accV, kp _ _ e nom, r.fr (f1.trans f) b.inn.mu⟩
  refine ⟨kp, nom, lst, ?_⟩
  constructor
  · constructor
    · exact b.inn.len
    · intro i d e
      obtain ⟨v, e1, r⟩ := b.inn.dat i d e
      exact ⟨v, e1, r.fr (f1.trans f) b.inn.mu⟩
    · exact s.olen
    · exact s.obj
    · exact s.ond
    · exact s.mu
  · exact fun a o h n => kp a o (b.keep a o h fun q => n (sub a q)) n
  · exact b.fr.trans (f1.trans f)
  · exact fun a h => s.base a (b.base a h)
  · intro a h
    rcases s.on a h with q | q
    · exact b.new a q
    · change H' a = none at q
      by_cases m : a ∈ g.om
      · exact b.new a m
      · refine .inr ?_
        cases e : H1 a with
        | none => rfl
        | some o => rw [k1 _ _ (b.keep a o e m)] at q; cases q
  · exact lst
  · exact s.base _ b.bad
  · exact nom
theorem Blk.put {env : List Slot} {σ : L2.St} {vs : List Nat} {H1 : Hp} {g1 : Gh} {Dd : Addr} {acc objs : List D} {accV : List V} {y : V} {x : D} (b : Blk K env σ vs H1 g1 Dd acc objs H g) (hD : H1 Dd = none) (e : H Dd = some (.lst accV)) (r : RpA K H g accV acc) (rx : Rp K H g y x) :
    Blk K env σ vs H1 g1 Dd (acc ++ [x]) objs (upd H Dd (.lst (accV ++ [y]))) g := by
  have f : Fr H g (upd H Dd (.lst (accV ++ [y]))) g := Fr.mut b.bad
  constructor
  · constructor
    · exact b.inn.len
    · intro i d e
      obtain ⟨v, e1, r⟩ := b.inn.dat i d e
      exact ⟨v, e1, r.fr f b.inn.mu⟩
    · exact b.inn.olen
    · intro n a d e1 e2
      obtain ⟨rt, hb⟩ := b.inn.obj n a d e1 e2
      exact ⟨rt.fr f b.inn.mu (upd_ne fun q => b.om (q ▸ List.mem_iff_getElem?.mpr ⟨n, e1⟩)), hb⟩
    · exact b.inn.ond
    · intro a hb
      by_cases q : a = Dd
      · subst q; rw [upd_same]; trivial
      · rw [upd_ne q]; exact b.inn.mu a hb
  · intro a o h n
    rw [upd_ne (ne_of_none h hD)]; exact b.keep a o h n
  · exact b.fr.trans f
  · exact b.base
  · exact b.new
  · exact ⟨_, upd_same, (r.append (.cons rx .nil)).fr f b.inn.mu⟩
  · exact b.bad
  · exact b.om

/-- a block's turns, from a place in the walk on; Pd: what is wanted behind the last -/
theorem blk_loop {env : List Slot} {σ : L2.St} {vs : List Nat} {H1 HJ : Hp} {g1 gJ : Gh} {Dd : Addr} {ds acc objs accF objsF : List D} {J : It} {Pd : Hp → Prop} (hcl : Calm tgt) (hts : ∀ i ∈ ts, i ∈ vs) (hD : H1 Dd = none) (no : noOwn env)
    (jk : ItOk K J ds HJ gJ) (fJ : Fr HJ gJ H g) (b : Blk K env σ vs H1 g1 Dd acc objs H g) (hrun : compL (turnM tgt t f) env ds acc objs = some (accF, objsF))
    (hP : ∀ H' g', Blk K env σ vs H1 g1 Dd accF objsF H' g' → Fr H g H' g' → J.stop ds.length H' → Pd H') :
    ∃ W : Nat → Nat → Hp → Prop, (∃ m, W 0 m H) ∧ ∀ i m H, W i m H →
      (J.stop i H ∧ Pd H) ∨ (J.go i H ∧ ∃ Nx : Hp → Prop, (∀ H', Nx H' → ∃ m', m' < m ∧ W (i + 1) m' H') ∧ ∀ x H', J.yld i H x H' → tGx K ts tgt x (wipe σ vs) H' fun σ2 H2 => wipe σ2 vs = wipe σ vs ∧ tTx K mg t σ2 H2 fun b H3 =>
        if b = true then tDx K mg f σ2 H3 fun y H4 => ∃ acc, H4 Dd = some (.lst acc) ∧ acc.length < sizeLine ∧ Nx (upd H4 Dd (.lst (acc ++ [y]))) else Nx H3) := by
  refine ⟨fun i m H' => m = ds.length - i ∧ i ≤ ds.length ∧ ∃ g' acc objs, Fr H g H' g' ∧ Blk K env σ vs H1 g1 Dd acc objs H' g' ∧ compL (turnM tgt t f) env (ds.drop i) acc objs = some (accF, objsF), ⟨ds.length, by simp, Nat.zero_le _, g, acc, objs, Fr.refl _ _, b, hrun⟩, ?_⟩
  rintro i m H2 ⟨rfl, hi2, g2, acc, objs, fB, b, hr⟩
  have fJ : Fr HJ gJ H2 g2 := fJ.trans fB
  by_cases hlt : i < ds.length
  · have e := List.getElem?_eq_getElem hlt
    refine .inr ⟨jk.go i _ H2 g2 fJ e, fun H' => ∃ g' acc objs, Fr H g H' g' ∧ Blk K env σ vs H1 g1 Dd acc objs H' g' ∧ compL (turnM tgt t f) env (ds.drop (i + 1)) acc objs = some (accF, objsF), fun H' w => ⟨ds.length - (i + 1), by omega, rfl, hlt, w⟩, fun x H3 y => ?_⟩
    obtain ⟨gr, rx⟩ := jk.yld i _ H2 g2 x H3 fJ b.inn.mu e y
    rw [drop_get e] at hr
    have f3 : Fr H2 g2 H3 g2 := gr.fr
    have s3 : SR K ⟨H3, g2.bad, g2.om, blkW⟩ ⟨env, objs⟩ (wipe σ vs) H3 g2 := (b.inn.grow gr).sr no blkW
    unfold compL at hr
    cases hturn : turnM tgt t f ds[i] ⟨env, objs⟩ with
    | none => rw [hturn] at hr; cases hr
    | some pr =>
      obtain ⟨res, S'⟩ := pr
      cases res with
      | error x => rw [hturn] at hr; cases hr
      | ok res =>
        obtain ⟨u, S4, r4, hturn⟩ := bind_inv hturn
        obtain ⟨bb, S5, r5, hturn⟩ := bind_inv hturn
        refine ⟨⟨H3, g2.bad, g2.om, blkW⟩, ⟨env, objs⟩, g2, ds[i], s3, rx.fr (Fr.refl _ _) s3.mu, ?_⟩
        unfold GoG
        rw [r4]
        intro σ4 H4 g4 s4 f4 m4
        refine ⟨wipe_sm m4 hts, ⟨H3, g2.bad, g2.om, blkW⟩, rfl, S4, g4, s4, Go.of_run r5 fun H5 g5 s5 f5 => ?_⟩
        cases bb with
        | false =>
          simp only [if_neg Bool.false_ne_true] at hturn ⊢
          cases hturn
          obtain ⟨_, _, _, b5⟩ := b.step hD gr s5 (f4.trans f5)
          have hr2 : compL (turnM tgt t f) env (ds.drop (i + 1)) acc S'.objs = some (accF, objsF) := by
            rw [show turnM tgt t f ds[i] ⟨env, objs⟩ = some (.ok none, S') from by
              unfold turnM; rw [bind_ok r4, bind_ok r5]; rfl] at hr
            exact hr
          exact ⟨g5, acc, S'.objs, fB.trans (f3.trans (f4.trans f5)), b5, hr2⟩
        | true =>
          simp only [if_pos] at hturn ⊢
          obtain ⟨rr, S6, r6, hturn⟩ := bind_inv hturn
          obtain ⟨xx, S7, r7, hturn⟩ := bind_inv hturn
          cases hturn
          refine ⟨⟨H3, g2.bad, g2.om, blkW⟩, rfl, S5, g5, s5, Go.of_run r6 fun H6 g6 s6 f6 v rv => ?_⟩
          have gu : Go K mg ⟨H3, g2.bad, g2.om, blkW⟩ (useM rr >>= fun d => pure d) S6 σ4 H6 g6 (fun x Sq H' g' => x = xx ∧ Sq = S') := by
            refine Go.of_run (x := xx) (S' := S') ?_ (fun _ _ _ _ => ⟨rfl, rfl⟩)
            rw [bind_ok r7]; rfl
          obtain ⟨S8, g8, s8, f8, rp, gu2⟩ := gu.use s6 rv
          obtain ⟨e1, e2⟩ := gu2.pure s8
          subst e2
          obtain ⟨_, _, ⟨accV, hl, ra⟩, b8⟩ := b.step hD gr s8 (((f4.trans f5).trans f6).trans f8)
          have hr2 : (if acc.length < sizeLine then compL (turnM tgt t f) env (ds.drop (i + 1)) (acc ++ [xx]) S8.objs else none) = some (accF, objsF) := by
            rw [show turnM tgt t f ds[i] ⟨env, objs⟩ = some (.ok (some xx), S8) from by
              unfold turnM; rw [bind_ok r4, bind_ok r5, if_pos rfl, bind_ok r6, bind_ok r7]; rfl] at hr
            exact hr
          by_cases hz : acc.length < sizeLine
          · rw [if_pos hz] at hr2
            refine ⟨accV, hl, by rw [ra.length]; exact hz, g8, acc ++ [xx], S8.objs, (fB.trans (f3.trans (((f4.trans f5).trans f6).trans f8))).trans (Fr.mut b8.bad), b8.put hD hl ra (e1 ▸ rp), hr2⟩
          · rw [if_neg hz] at hr2; cases hr2
  · have e : i = ds.length := by omega
    subst e
    rw [List.drop_length] at hr
    unfold compL at hr
    cases hr
    have st := jk.stop H2 g2 fJ
    exact .inl ⟨st, hP H2 g2 b fB st⟩
/-- the whole list done -/
def outL (acc objs' : List D) (S : Sx) : Option (Except Exn Res × Sx) :=
  if D.imms acc && objs'.all (fun o => D.imms o.parts) then some (.ok (.new (.lst acc)), { S with objs := objs' }) else some (.ok (.new (.lst acc)), ⟨S.env.map Slot.frz, objs'⟩)
theorem blk_out {S1 : Sx} {env : List Slot} {σ : L2.St} {vs : List Nat} {H1 H2 : Hp} {g1 gf g2 : Gh} {Dd : Addr} {accF objsF : List D} {P : Res → Sx → Hp → Gh → Prop} (s1 : SR K z S1 σ H1 g1) (sf : SR K z ⟨S1.env.map Slot.frz, S1.objs⟩ σ H1 gf) (ff : Fr H1 g1 H1 gf) (of : gf.om = g1.om) (hD : H1 Dd = none)
    (b : Blk K env σ vs H1 gf Dd accF objsF H2 g2) (q : match outL accF objsF S1 with | some (.ok r, S') => ∀ H' g', SR K z S' σ H' g' → Fr H1 g1 H' g' → P r S' H' g' | _ => False) :
    ∃ S' g', SR K z S' σ H2 g' ∧ Fr H1 g1 H2 g' ∧ ResOk K z S' σ H2 g' (.ref Dd) (.new (.lst accF)) ∧ P (.new (.lst accF)) S' H2 g' := by
  obtain ⟨accV, hl, ra⟩ := b.lst
  have bh : Behind K H1 gf objsF H2 g2 := ⟨b.keep, b.base, b.fr.om, b.inn.ond, b.inn.mu, ⟨b.inn.olen, b.inn.obj⟩, b.new⟩
  have inom : ∀ c, c ∈ g2.om → g2.bad c := fun c q => by
    obtain ⟨j, hj⟩ := List.mem_iff_getElem?.mp q
    have hl : j < objsF.length := by rw [b.inn.olen]; exact (List.getElem?_eq_some_iff.mp hj).1
    exact (b.inn.obj j c _ hj (List.getElem?_eq_getElem hl)).2
  have hR : ∀ c, c = Dd → H1 c = none ∧ g2.bad c := fun c q => q ▸ ⟨hD, b.bad⟩
  unfold outL at q
  by_cases safe : (D.imms accF && objsF.all fun o => D.imms o.parts) = true
  · simp only [if_pos safe] at q
    rw [Bool.and_eq_true] at safe
    have sr := bh.sr s1 (root := fun c => c = Dd) of hR fun n c d e1 e2 => root_im_parts (b.inn.obj n c d e1 e2).1 (List.all_eq_true.mp safe.2 d (List.mem_of_getElem? e2))
    have fr := bh.fr (root := fun c => c = Dd) s1 of (fun c q => (hR c q).1)
    exact ⟨_, _, sr, fr, ⟨Dd, rfl, .inr (.inr rfl), .lst hl (ra.im (show g2.om <+: (g1.aft g2 fun c => c = Dd).om from List.prefix_rfl) safe.1), s1.fresh0 hD, b.om, fun j d h1 h2 => s1.own_there h1 h2 hD⟩, q H2 _ sr fr⟩
  · simp only [if_neg safe] at q
    have less : Fr H2 g2 H2 (gf.aft g2 fun c => c = Dd) := Fr.less (fun c q => q.elim (b.base c) fun q => q.elim (inom c) fun q => (hR c q).2) rfl
    have sr := bh.sr sf (root := fun c => c = Dd) rfl hR fun n c d e1 e2 => (b.inn.obj n c d e1 e2).1.fr less b.inn.mu rfl
    have fr := bh.fr (root := fun c => c = Dd) sf rfl (fun c q => (hR c q).1)
    exact ⟨_, _, sr, ff.trans fr, ⟨Dd, rfl, .inr (.inr rfl), .lst hl (ra.fr less b.inn.mu), s1.fresh0 hD, b.om, fun j d h1 h2 => sf.own_there h1 h2 hD⟩, q H2 _ sr (ff.trans fr)⟩
theorem blk_start {S1 : Sx} {σ : L2.St} {vs : List Nat} {H1 : Hp} {gf : Gh} {Dd : Addr} (sf : SR K z ⟨S1.env.map Slot.frz, S1.objs⟩ σ H1 gf) (hD : H1 Dd = none) :
    Blk K (wipeE (S1.env.map Slot.frz) vs) σ vs H1 gf Dd [] S1.objs (upd H1 Dd (.lst [])) (gf.add Dd) := by
  have fr : Fr H1 gf (upd H1 Dd (.lst [])) (gf.add Dd) := Fr.upd_add hD
  have sr := sf.alloc hD (o := .lst []) trivial
  constructor
  · constructor
    · rw [wipeE_len, wipe_length]
      exact sf.len
    · intro i d e
      obtain ⟨e1, e2⟩ := wipeE_get e (by simp)
      obtain ⟨v, e3, r⟩ := sf.dat i d e1
      exact ⟨v, by rw [wipe_out e2]; exact e3, r.fr fr sf.mu⟩
    · exact sr.olen
    · exact sr.obj
    · exact sr.ond
    · exact sr.mu
  · intro a o h _
    rw [upd_ne (ne_of_none h hD)]; exact h
  · exact fr
  · exact fun a h => .inl h
  · exact fun a h => .inl h
  · exact ⟨[], upd_same, .nil⟩
  · exact .inr rfl
  · exact fun h => sf.om_there h hD
theorem lcM_go {vs : List Nat} {turn : D → M (Option D)} {P : Res → Sx → Hp → Gh → Prop} (q : Go K mg z (lcM it vs turn) S σ H g P) :
    Go K mg z it S σ H g fun ds S1 H1 g1 => ∃ accF objsF, compL turn (wipeE (S1.env.map Slot.frz) vs) ds [] S1.objs = some (accF, objsF) ∧ match outL accF objsF S1 with | some (.ok r, S') => ∀ H' g', SR K z S' σ H' g' → Fr H1 g1 H' g' → P r S' H' g' | _ => False := by
  unfold lcM at q
  refine q.bnd.imp fun ds S1 H1 g1 s1 f1 q1 => ?_
  unfold Go at q1
  cases hrun : compL turn (wipeE (S1.env.map Slot.frz) vs) ds [] S1.objs with
  | none => simp only [hrun] at q1
  | some pr =>
    obtain ⟨accF, objsF⟩ := pr
    simp only [hrun] at q1
    refine ⟨accF, objsF, rfl, ?_⟩
    unfold outL
    by_cases safe : (D.imms accF && objsF.all fun o => D.imms o.parts) = true
    · simp only [if_pos safe] at q1 ⊢; exact q1
    · simp only [if_neg safe] at q1 ⊢; exact q1
theorem tlc_of {vs : List Nat} {Q : VK} (hcl : Calm tgt) (hts : ∀ i ∈ ts, i ∈ vs) (h : tD K mg z (lcM it vs (turnM tgt t f)) σ H Q) :
    tLc (tI K mg z it) (tGx K ts tgt) (tTx K mg t) (tDx K mg f) vs σ H Q := by
  obtain ⟨S, g, s, q⟩ := h
  refine ⟨S, g, s, (lcM_go q).imp fun ds S1 H1 g1 s1 f1 ⟨accF, objsF, hrun, qo⟩ J jk Dd hD => ?_⟩
  obtain ⟨gf, sf, ff, of, bf⟩ := s1.frzAll
  exact blk_loop hcl hts hD (noOwn_frz S1.env vs) jk (ff.trans (blk_start (vs := vs) sf hD).fr) (blk_start sf hD) hrun fun H' g' b fB st => by
    obtain ⟨S', g'', sr, fr, rv, p⟩ := blk_out (P := fun r S' H' g' => ∀ v, ResOk K z S' σ H' g' v r → Q v H') s1 sf ff of hD b qo
    exact p _ rv
theorem de_lc (hc : X.calm = true) (hN : X.N.Nodup) (hcl : Calm tgt) (hi : DI X z tg iter it) (ok : BlkOk X.N X.env.scope scope own) (hts : ∀ i ∈ ts, i ∈ own.map (·.2))
    (hg : ∀ (s : Shared) (H : Hp) (C : Addr) (cl : List (Str × Addr)) (fp : List Addr) (z : Zx), DG (X.blk s H scope (compEnvC scope cl C X.env) fp) z ts tg tgt)
    (ht : ∀ (s : Shared) (H : Hp) (C : Addr) (cl : List (Str × Addr)) (fp : List Addr), PTs (X.blk s H scope (compEnvC scope cl C X.env) fp) ifs (tTx X.K X.mg t))
    (he : ∀ (s : Shared) (H : Hp) (C : Addr) (cl : List (Str × Addr)) (fp : List Addr) (z : Zx), z.W = blkW → DE (X.blk s H scope (compEnvC scope cl C X.env) fp) z elt f)
    (hs : ∀ x, foldedSetIterable iter X.env x = pure x := by intro _; rfl) : DE X z (.ListComp elt [⟨tg, iter, ifs, 0⟩] scope pos) (lcM it (own.map (·.2)) (turnM tgt t f)) :=
  PE.imp (pe_lc (g := tGx X.K ts tgt) (tt := tTx X.K X.mg t) (te := tDx X.K X.mg f) hc hN hi ok (fun s H C cl fp => pg_x (hg s H C cl fp)) ht (fun s H C cl fp => pe_x (he s H C cl fp)) hs) fun σ H Q q => tlc_of hcl hts q
/-- y = [..], y a plain local -/
theorem asg_tD {i : Nat} {D0 : Ends} (h : tS K mg z (asgM i fa) D0 σ H) : tD K mg z fa σ H fun v H1 => gName i v σ H1 D0.nx := by
  obtain ⟨S, g, s, q⟩ := h
  exact ⟨S, g, s, q.bnd.imp fun r S1 H1 g1 s1 f1 q1 v rv => GoS.set s1 rv q1⟩
theorem ds_setLc {i : Nat} {y : Str} {py spos : Pos} (hc : X.calm = true) (hN : X.N.Nodup) (hcl : Calm tgt) (hi : DI X z tg iter it) (ok : BlkOk X.N X.env.scope scope own) (hts : ∀ i ∈ ts, i ∈ own.map (·.2))
    (hg : ∀ (s : Shared) (H : Hp) (C : Addr) (cl : List (Str × Addr)) (fp : List Addr) (z : Zx), DG (X.blk s H scope (compEnvC scope cl C X.env) fp) z ts tg tgt)
    (ht : ∀ (s : Shared) (H : Hp) (C : Addr) (cl : List (Str × Addr)) (fp : List Addr), PTs (X.blk s H scope (compEnvC scope cl C X.env) fp) ifs (tTx X.K X.mg t))
    (he : ∀ (s : Shared) (H : Hp) (C : Addr) (cl : List (Str × Addr)) (fp : List Addr) (z : Zx), z.W = blkW → DE (X.blk s H scope (compEnvC scope cl C X.env) fp) z elt f)
    (hy : X.N[i]? = some y := by rfl) (hyl : X.env.scope.names.lookup y = some .local := by rfl) (hsw : swapsWith (.ListComp elt [⟨tg, iter, ifs, 0⟩] scope pos) (some (.Name y py)) spos.line X.env = pure true := by rfl)
    (hs : ∀ x, foldedSetIterable iter X.env x = pure x := by intro _; rfl) : DS X z (.Assign [.Name y py] (.ListComp elt [⟨tg, iter, ifs, 0⟩] scope pos) spos) (asgM i (lcM it (own.map (·.2)) (turnM tgt t f))) :=
  PS.imp (ps_setLc (g := tGx X.K ts tgt) (tt := tTx X.K X.mg t) (te := tDx X.K X.mg f) hc hN hy hyl hsw hi ok (fun s H C cl fp => pg_x (hg s H C cl fp)) ht (fun s H C cl fp => pe_x (he s H C cl fp)) hs) fun D0 σ H q => tlc_of hcl hts (asg_tD q)
end
end DL
end
section
set_option maxRecDepth 100000
namespace DL
open PySem PySem.Spec L2

/-! ## comprehensions of two clauses -/
def compL2 (turn1 : D → M (Option (List D))) (turn2 : D → M (Option D)) (env : List Slot) (vs1 : List Nat) : List D → List D → List D → Option (List D × List D)
  | [], acc, o => some (acc, o)
  | d :: ds, acc, o => match turn1 d ⟨env, o⟩ with
    | some (.ok (some ds1), S') => match compL turn2 (wipeE (S'.env.map Slot.frz) vs1) ds1 acc S'.objs with
      | some (acc', o') => compL2 turn1 turn2 env vs1 ds acc' o'
      | none => none
    | some (.ok none, S') => compL2 turn1 turn2 env vs1 ds acc S'.objs
    | _ => none
def turn1M (tgt : D → M Unit) (t : M Bool) (it1 : M (List D)) (d : D) : M (Option (List D)) := tgt d >>= fun _ => t >>= fun b => if b = true then it1 >>= fun ds => pure (some ds) else pure none
def lcM2 (it : M (List D)) (own vs1 : List Nat) (turn1 : D → M (Option (List D))) (turn2 : D → M (Option D)) : M Res := it >>= fun ds => fun S => match compL2 turn1 turn2 (wipeE (S.env.map Slot.frz) own) vs1 ds [] S.objs with
  | none => none
  | some (acc, objs') => outL acc objs' S
section
variable {X : Cx} {z : Zx} {S S' : Sx} {σ : L2.St} {H H' H0 : Hp} {g g' g2 : Gh} {v : V} {d : D} {r : Res} {K : PySem.W.Frag} {mg : Str → Option Value} {pos p : Pos} {a b c e : Expr} {fa fb fc : M Res} {i : Nat} {o : HO}
variable {tg elt iter tg1 iter1 : Expr} {ifs ifs1 : List Expr} {scope : Scope} {own : List (Str × Nat)} {it it1 : M (List D)} {tgt tgt1 : D → M Unit} {t t1 : M Bool} {f : M Res} {ts ts1 vs vs1 : List Nat}
def tIx (K : PySem.W.Frag) (mg : Str → Option Value) (f : M (List D)) : TI := fun σ H Q => ∃ z : Zx, z.W = blkW ∧ tI K mg z f σ H Q
theorem pi_x (h : ∀ z : Zx, z.W = blkW → DI X z tg e it) : PI X tg e (tIx X.K X.mg it) := ⟨fun pins s σ H Q I ⟨z, w, q⟩ => (h z w).run pins s σ H Q I q⟩
theorem Blk.back {env env' : List Slot} {σ σ' : L2.St} {vs vs' : List Nat} {H1 : Hp} {g1 : Gh} {Dd : Addr} {acc objs acc' objs' : List D} (b : Blk K env σ vs H1 g1 Dd acc objs H g) (c : Blk K env' σ' vs' H1 g1 Dd acc' objs' H' g') (f : Fr H g H' g') : Blk K env σ vs H1 g1 Dd acc' objs' H' g' where
  inn := ⟨b.inn.len, fun i d e => let ⟨v, e1, r⟩ := b.inn.dat i d e; ⟨v, e1, r.fr f b.inn.mu⟩, c.inn.olen, c.inn.obj, c.inn.ond, c.inn.mu⟩
  keep := c.keep
  fr := c.fr
  base := c.base
  new := c.new
  lst := c.lst
  bad := c.bad
  om := c.om
theorem tlc2_of {Q : VK} (hcl : Calm tgt) (hts : ∀ i ∈ ts, i ∈ vs) (hcl1 : Calm tgt1) (hts1 : ∀ i ∈ ts1, i ∈ vs1) (h : tD K mg z (lcM2 it vs vs1 (turn1M tgt t it1) (turnM tgt1 t1 f)) σ H Q) :
    tLc2 (tI K mg z it) (tGx K ts tgt) (tTx K mg t) (tIx K mg it1) (tGx K ts1 tgt1) (tTx K mg t1) (tDx K mg f) vs vs1 σ H Q := by
  obtain ⟨S, g, s, q⟩ := h
  unfold lcM2 at q
  refine ⟨S, g, s, q.bnd.imp fun ds S1 H1 g1 s1 f1 q1 J jk Dd hD => ?_⟩
  obtain ⟨gf, sf, ff, of, bf⟩ := s1.frzAll
  unfold Go at q1
  cases hrun : compL2 (turn1M tgt t it1) (turnM tgt1 t1 f) (wipeE (S1.env.map Slot.frz) vs) vs1 ds [] S1.objs with
  | none => simp only [hrun] at q1
  | some pr =>
    obtain ⟨accF, objsF⟩ := pr
    simp only [hrun] at q1
    have b0 := blk_start (K := K) (vs := vs) sf hD
    have no := noOwn_frz S1.env vs
    generalize wipeE (S1.env.map Slot.frz) vs = env at hrun b0 no
    refine ⟨fun i m H => m = ds.length - i ∧ i ≤ ds.length ∧ ∃ g acc objs, Blk K env σ vs H1 gf Dd acc objs H g ∧ compL2 (turn1M tgt t it1) (turnM tgt1 t1 f) env vs1 (ds.drop i) acc objs = some (accF, objsF), ⟨ds.length, by simp, Nat.zero_le _, gf.add Dd, [], S1.objs, b0, hrun⟩, ?_⟩
    rintro i m H2 ⟨rfl, hi2, g2, acc, objs, b, hr⟩
    have fJ : Fr H1 g1 H2 g2 := ff.trans b.fr
    by_cases hlt : i < ds.length
    · have e := List.getElem?_eq_getElem hlt
      refine .inr ⟨jk.go i _ H2 g2 fJ e, fun H => ∃ g acc objs, Blk K env σ vs H1 gf Dd acc objs H g ∧ compL2 (turn1M tgt t it1) (turnM tgt1 t1 f) env vs1 (ds.drop (i + 1)) acc objs = some (accF, objsF), fun H' w => ⟨ds.length - (i + 1), by omega, rfl, hlt, w⟩, fun x H3 y => ?_⟩
      obtain ⟨gr, rx⟩ := jk.yld i _ H2 g2 x H3 fJ b.inn.mu e y
      rw [drop_get e] at hr
      have s3 : SR K ⟨H3, g2.bad, g2.om, blkW⟩ ⟨env, objs⟩ (wipe σ vs) H3 g2 := (b.inn.grow gr).sr no blkW
      unfold compL2 at hr
      cases hturn : turn1M tgt t it1 ds[i] ⟨env, objs⟩ with
      | none => rw [hturn] at hr; cases hr
      | some pr =>
        obtain ⟨res, S'⟩ := pr
        rw [hturn] at hr
        cases res with
        | error x => cases hr
        | ok res =>
          obtain ⟨u, S4, r4, hturn⟩ := bind_inv hturn
          obtain ⟨bb, S5, r5, hturn⟩ := bind_inv hturn
          refine ⟨⟨H3, g2.bad, g2.om, blkW⟩, ⟨env, objs⟩, g2, ds[i], s3, rx.fr (Fr.refl _ _) s3.mu, ?_⟩
          unfold GoG
          rw [r4]
          intro σ4 H4 g4 s4 f4 m4
          refine ⟨wipe_sm m4 hts, ⟨H3, g2.bad, g2.om, blkW⟩, rfl, S4, g4, s4, Go.of_run r5 fun H5 g5 s5 f5 => ?_⟩
          cases bb with
          | false =>
            simp only [if_neg Bool.false_ne_true] at hturn ⊢
            cases hturn
            obtain ⟨_, _, _, b5⟩ := b.step hD gr s5 (f4.trans f5)
            exact ⟨g5, acc, S'.objs, b5, hr⟩
          | true =>
            simp only [if_pos] at hturn ⊢
            obtain ⟨ds1, S6, r6, hturn⟩ := bind_inv hturn
            cases hturn
            refine ⟨⟨H3, g2.bad, g2.om, blkW⟩, rfl, S5, g5, s5, Go.of_run r6 fun H6 g6 s6 f6 J1 jk1 => ?_⟩
            obtain ⟨g7, s7, f7, o7, _⟩ := s6.frzAll
            obtain ⟨_, _, _, b7⟩ := b.step hD gr s7 (((f4.trans f5).trans f6).trans f7)
            have bi : Blk K (wipeE (S'.env.map Slot.frz) vs1) σ4 vs1 H1 gf Dd acc S'.objs H6 g7 := by
              refine ⟨⟨?_, ?_, b7.inn.olen, b7.inn.obj, b7.inn.ond, b7.inn.mu⟩, b7.keep, b7.fr, b7.base, b7.new, b7.lst, b7.bad, b7.om⟩
              · rw [wipeE_len, wipe_length]; exact s7.len
              · intro i d e
                obtain ⟨e1, e2⟩ := wipeE_get e (by simp)
                obtain ⟨v, e3, r⟩ := s7.dat i d e1
                exact ⟨v, by rw [wipe_out e2]; exact e3, r⟩
            cases hr1 : compL (turnM tgt1 t1 f) (wipeE (S'.env.map Slot.frz) vs1) ds1 acc S'.objs with
            | none => simp only [hr1] at hr; cases hr
            | some pr =>
              obtain ⟨acc1, objs1⟩ := pr
              simp only [hr1] at hr
              exact blk_loop hcl1 hts1 hD (noOwn_frz S'.env vs1) jk1 f7 bi hr1 fun H' g' b8 fB st => ⟨g', acc1, objs1, b7.back b8 fB, hr⟩
    · have e : i = ds.length := by omega
      subst e
      rw [List.drop_length] at hr
      unfold compL2 at hr
      cases hr
      have st := jk.stop H2 g2 fJ
      refine .inl ⟨st, ?_⟩
      obtain ⟨S', g'', sr, fr, rv, p⟩ := blk_out (P := fun r S' H' g' => ∀ v, ResOk K z S' σ H' g' v r → Q v H') s1 sf ff of hD b (by
        unfold outL at q1 ⊢
        by_cases safe : (D.imms accF && objsF.all fun o => D.imms o.parts) = true
        · simp only [if_pos safe] at q1 ⊢; exact q1
        · simp only [if_neg safe] at q1 ⊢; exact q1)
      exact p _ rv
theorem de_lc2 (hc : X.calm = true) (hN : X.N.Nodup) (hcl : Calm tgt) (hcl1 : Calm tgt1) (hi : DI X z tg iter it) (ok : BlkOk X.N X.env.scope scope own) (hts : ∀ i ∈ ts, i ∈ own.map (·.2)) (hts1 : ∀ i ∈ ts1, i ∈ vs1) (hv : ∀ i ∈ vs1, i ∈ own.map (·.2))
    (hg : ∀ (s : Shared) (H : Hp) (C : Addr) (cl : List (Str × Addr)) (fp : List Addr) (z : Zx), DG (X.blk s H scope (compEnvC scope cl C X.env) fp) z ts tg tgt)
    (ht : ∀ (s : Shared) (H : Hp) (C : Addr) (cl : List (Str × Addr)) (fp : List Addr), PTs (X.blk s H scope (compEnvC scope cl C X.env) fp) ifs (tTx X.K X.mg t))
    (hi1 : ∀ (s : Shared) (H : Hp) (C : Addr) (cl : List (Str × Addr)) (fp : List Addr) (z : Zx), z.W = blkW → DI (X.blk s H scope (compEnvC scope cl C X.env) fp) z tg1 iter1 it1)
    (hg1 : ∀ (s : Shared) (H : Hp) (C : Addr) (cl : List (Str × Addr)) (fp : List Addr) (z : Zx), DG (X.blk s H scope (compEnvC scope cl C X.env) fp) z ts1 tg1 tgt1)
    (ht1 : ∀ (s : Shared) (H : Hp) (C : Addr) (cl : List (Str × Addr)) (fp : List Addr), PTs (X.blk s H scope (compEnvC scope cl C X.env) fp) ifs1 (tTx X.K X.mg t1))
    (he : ∀ (s : Shared) (H : Hp) (C : Addr) (cl : List (Str × Addr)) (fp : List Addr) (z : Zx), z.W = blkW → DE (X.blk s H scope (compEnvC scope cl C X.env) fp) z elt f)
    (hs : ∀ x, foldedSetIterable iter X.env x = pure x := by intro _; rfl) (hs1 : ∀ env x, foldedSetIterable iter1 env x = pure x := by intro _ _; rfl) : DE X z (.ListComp elt [⟨tg, iter, ifs, 0⟩, ⟨tg1, iter1, ifs1, 0⟩] scope pos) (lcM2 it (own.map (·.2)) vs1 (turn1M tgt t it1) (turnM tgt1 t1 f)) :=
  PE.imp (pe_lc2 (g := tGx X.K ts tgt) (tt := tTx X.K X.mg t) (wi1 := tIx X.K X.mg it1) (g1 := tGx X.K ts1 tgt1) (tt1 := tTx X.K X.mg t1) (te := tDx X.K X.mg f) hc hN hi ok hv (fun s H C cl fp => pg_x (hg s H C cl fp)) ht (fun s H C cl fp => pi_x (hi1 s H C cl fp)) (fun s H C cl fp => pg_x (hg1 s H C cl fp)) ht1 (fun s H C cl fp => pe_x (he s H C cl fp)) hs hs1)
    fun σ H Q q => tlc2_of hcl hts hcl1 hts1 q
theorem ds_setLc2 {i : Nat} {y : Str} {py spos : Pos} (hc : X.calm = true) (hN : X.N.Nodup) (hcl : Calm tgt) (hcl1 : Calm tgt1) (hi : DI X z tg iter it) (ok : BlkOk X.N X.env.scope scope own) (hts : ∀ i ∈ ts, i ∈ own.map (·.2)) (hts1 : ∀ i ∈ ts1, i ∈ vs1) (hv : ∀ i ∈ vs1, i ∈ own.map (·.2))
    (hg : ∀ (s : Shared) (H : Hp) (C : Addr) (cl : List (Str × Addr)) (fp : List Addr) (z : Zx), DG (X.blk s H scope (compEnvC scope cl C X.env) fp) z ts tg tgt)
    (ht : ∀ (s : Shared) (H : Hp) (C : Addr) (cl : List (Str × Addr)) (fp : List Addr), PTs (X.blk s H scope (compEnvC scope cl C X.env) fp) ifs (tTx X.K X.mg t))
    (hi1 : ∀ (s : Shared) (H : Hp) (C : Addr) (cl : List (Str × Addr)) (fp : List Addr) (z : Zx), z.W = blkW → DI (X.blk s H scope (compEnvC scope cl C X.env) fp) z tg1 iter1 it1)
    (hg1 : ∀ (s : Shared) (H : Hp) (C : Addr) (cl : List (Str × Addr)) (fp : List Addr) (z : Zx), DG (X.blk s H scope (compEnvC scope cl C X.env) fp) z ts1 tg1 tgt1)
    (ht1 : ∀ (s : Shared) (H : Hp) (C : Addr) (cl : List (Str × Addr)) (fp : List Addr), PTs (X.blk s H scope (compEnvC scope cl C X.env) fp) ifs1 (tTx X.K X.mg t1))
    (he : ∀ (s : Shared) (H : Hp) (C : Addr) (cl : List (Str × Addr)) (fp : List Addr) (z : Zx), z.W = blkW → DE (X.blk s H scope (compEnvC scope cl C X.env) fp) z elt f)
    (hy : X.N[i]? = some y := by rfl) (hyl : X.env.scope.names.lookup y = some .local := by rfl) (hsw : swapsWith (.ListComp elt [⟨tg, iter, ifs, 0⟩, ⟨tg1, iter1, ifs1, 0⟩] scope pos) (some (.Name y py)) spos.line X.env = pure true := by rfl)
    (hs : ∀ x, foldedSetIterable iter X.env x = pure x := by intro _; rfl) (hs1 : ∀ env x, foldedSetIterable iter1 env x = pure x := by intro _ _; rfl) : DS X z (.Assign [.Name y py] (.ListComp elt [⟨tg, iter, ifs, 0⟩, ⟨tg1, iter1, ifs1, 0⟩] scope pos) spos) (asgM i (lcM2 it (own.map (·.2)) vs1 (turn1M tgt t it1) (turnM tgt1 t1 f))) :=
  PS.imp (ps_setLc2 (g := tGx X.K ts tgt) (tt := tTx X.K X.mg t) (wi1 := tIx X.K X.mg it1) (g1 := tGx X.K ts1 tgt1) (tt1 := tTx X.K X.mg t1) (te := tDx X.K X.mg f) hc hN hy hyl hsw hi ok hv (fun s H C cl fp => pg_x (hg s H C cl fp)) ht (fun s H C cl fp => pi_x (hi1 s H C cl fp)) (fun s H C cl fp => pg_x (hg1 s H C cl fp)) ht1 (fun s H C cl fp => pe_x (he s H C cl fp)) hs hs1)
    fun D0 σ H q => tlc2_of hcl hts hcl1 hts1 (asg_tD q)
end
end DL
end
section
set_option maxRecDepth 100000
namespace DLE
open PySem
open AutoSeq1 (wpAny_loadPart')
/-! enumerate over a tuple, at the library's level -/
section
variable {prog : Program} {w : World} {A : Around} {E : Value → Shared → Prop} {s : Shared}
/-- one turn of enumerate over any iterator jt whose own turn is known -/
theorem en_next {en jt : Addr} {n : Nat} {u was : Value} {St : Heap → Prop} {Q : Value → Shared → Prop} (hen : IsEnum s.heap en jt n was) (apart : en ≠ jt)
    (nx : ∀ Q' : Value → Shared → Prop, (∀ k, St k → Heap.SameBut jt s.heap k → Q' u { s with heap := k }) → wpAny (model prog w) A (Builtin.SmallTypes.nextOf (.ref jt)) Q' E s)
    (stab : ∀ k k', St k → (∀ o, k.get? jt = some o → k'.get? jt = some o) → St k')
    (fin : ∀ k, IsEnumOut k en jt ((n : Int) + 1) u s.heap.objs.size → St k → k.get? s.heap.objs.size = some { cls := .type "tuple", data := .seq #[.int n s.toks, u] } → k.objs.size = s.heap.objs.size + 1 →
      (∀ b o, b ≠ en → b ≠ jt → s.heap.get? b = some o → k.get? b = some o) → Q (.ref s.heap.objs.size) { s with heap := k, toks := s.toks + 1 }) :
    wpAny (model prog w) A (Builtin.«enumerate.__next__» ⟨[.ref en], []⟩) (fun fin s' => ∃ v, fin = .done (.ret v) ∧ Q v s') E s := by
  obtain ⟨h0, gg, dd, tt, oo⟩ := s
  show wpAny _ _ (field (.ref en) 2 >>= _) _ _ _
  refine wpAny_bind (wpAny_field hen rfl (x := .ref jt) rfl (wpAny_bind (nx _ fun k1 st1 sb1 => ?_)))
  replace sb1 : Heap.SameBut jt h0 k1 := sb1
  have e1 : IsEnum k1 en jt n was := (sb1.2 en apart).trans hen
  show wpAny _ _ (field (.ref en) 3 >>= _) _ _ ⟨k1, gg, dd, tt, oo⟩
  refine wpAny_bind (wpAny_field e1 rfl (x := rawInt n) rfl ?_)
  show wpAny _ _ (field (.ref en) 4 >>= _) _ _ ⟨k1, gg, dd, tt, oo⟩
  refine wpAny_bind (wpAny_field e1 rfl (x := .none) rfl ?_)
  show wpAny _ _ (mkInt n >>= _) _ _ ⟨k1, gg, dd, tt, oo⟩
  refine wpAny_bind (wpAny_mkInt ?_)
  show wpAny _ _ (setField (.ref en) 3 (rawInt ((n : Int) + 1)) >>= _) _ _ ⟨k1, gg, dd, tt + 1, oo⟩
  refine wpAny_bind (wpAny_setField_rec e1 (by simp) fun k2 e2 sb2 => ?_)
  replace sb2 : Heap.SameBut en k1 k2 := sb2
  replace e2 : IsEnum k2 en jt ((n : Int) + 1) was := e2
  show wpAny _ _ (setField (.ref en) 4 .none >>= _) _ _ ⟨k2, gg, dd, tt + 1, oo⟩
  refine wpAny_bind (wpAny_setField_rec e2 (by simp) fun k3 e3 sb3 => ?_)
  replace sb3 : Heap.SameBut en k2 k3 := sb3
  replace e3 : IsEnum k3 en jt ((n : Int) + 1) was := e3
  show wpAny _ _ (newTuple [.int n tt, u] >>= _) _ _ ⟨k3, gg, dd, tt + 1, oo⟩
  refine wpAny_bind (wpAny_newTuple ?_)
  have e4 : IsEnum (k3.push { cls := .type "tuple", data := .seq #[.int n tt, u] }) en jt ((n : Int) + 1) was := Heap.get?_push_of_some _ e3
  generalize hk4 : k3.push { cls := .type "tuple", data := .seq #[.int n tt, u] } = k4 at e4
  have sz3 : k3.objs.size = h0.objs.size := by rw [sb3.1, sb2.1, sb1.1]
  have lt0 : en < h0.objs.size := Heap.lt_size hen
  have new4 : k4.get? h0.objs.size = some { cls := .type "tuple", data := .seq #[.int n tt, u] } := by rw [← hk4, ← sz3]; exact Heap.get?_push_size _ rfl
  have sz4 : k4.objs.size = h0.objs.size + 1 := by rw [← hk4, Heap.size_push, sz3]
  have kp4 : ∀ b o, b ≠ en → b ≠ jt → h0.get? b = some o → k4.get? b = some o := fun b o n1 n2 hb => by
    rw [← hk4]; exact Heap.get?_push_of_some _ (sb3.extBut b o n1 (sb2.extBut b o n1 (sb1.extBut b o n2 hb)))
  have st4 : St k4 := stab k1 k4 st1 fun o ho => by
    rw [← hk4]; exact Heap.get?_push_of_some _ (sb3.extBut jt o (Ne.symm apart) (sb2.extBut jt o (Ne.symm apart) ho))
  show wpAny _ _ (Builtin.SmallTypes.ownedTupleIsFree (.ref en) >>= _) _ _ ⟨k4, gg, dd, tt + 1, oo⟩
  rw [sz3]
  clear hk4 e3 sb3 e2 sb2 e1 sb1 st1 sz3 k3 k2 k1
  refine wpAny_bind ?_
  unfold Builtin.SmallTypes.ownedTupleIsFree
  refine wpAny_bind (wpAny_field e4 rfl (x := .none) rfl (wpAny_pure ?_))
  simp only [if_true]
  refine wpAny_bind (wpAny_rule (wpAny_bind (wpAny_field e4 rfl (x := was) rfl (wpAny_bind (wpAny_setField_rec e4 (by simp) fun k5 e5 sb5 => ?_)))))
  replace sb5 : Heap.SameBut en k4 k5 := sb5
  replace e5 : IsEnum k5 en jt ((n : Int) + 1) u := e5
  show wpAny _ _ (Builtin.SmallTypes.ownedTupleHandOut (.ref en) (.ref h0.objs.size) >>= _) _ _ ⟨k5, gg, dd, tt + 1, oo⟩
  refine wpAny_bind ?_
  unfold Builtin.SmallTypes.ownedTupleHandOut
  refine wpAny_bind (wpAny_setField_rec e5 (by simp) fun k6 e6 sb6 => ?_)
  replace sb6 : Heap.SameBut en k5 k6 := sb6
  replace e6 : IsEnumOut k6 en jt ((n : Int) + 1) u h0.objs.size := e6
  refine wpAny_setField_rec e6 (by simp) fun k7 e7 sb7 => ?_
  replace sb7 : Heap.SameBut en k6 k7 := sb7
  replace e7 : IsEnumOut k7 en jt ((n : Int) + 1) u h0.objs.size := e7
  have gt : h0.objs.size ≠ en := Nat.ne_of_gt lt0
  refine wpAny_bind (wpAny_letGo (wpAny_pure ⟨_, rfl, fin k7 e7 (stab k4 k7 st4 fun o ho => ?_) ?_ ?_ ?_⟩))
  · exact sb7.extBut jt o (Ne.symm apart) (sb6.extBut jt o (Ne.symm apart) (sb5.extBut jt o (Ne.symm apart) ho))
  · exact sb7.extBut _ _ gt (sb6.extBut _ _ gt (sb5.extBut _ _ gt new4))
  · rw [sb7.1, sb6.1, sb5.1, sz4]
  · exact fun b o n1 n2 hb => sb7.extBut b o n1 (sb6.extBut b o n1 (sb5.extBut b o n1 (kp4 b o n1 n2 hb)))
theorem pyNext_enT_item {en jt l : Addr} {n : Nat} {its : Array Value} {u was : Value} {Q : Option Value → Shared → Prop} (hen : IsEnum s.heap en jt n was) (hjt : s.heap.IsTupleIter jt l n) (htu : s.heap.IsTuple l its) (hu : its[n]? = some u) (apart : en ≠ jt)
    (fin : ∀ k, IsEnumOut k en jt ((n : Int) + 1) u s.heap.objs.size → k.IsTupleIter jt l (n + 1) → k.get? s.heap.objs.size = some { cls := .type "tuple", data := .seq #[.int n s.toks, u] } → k.objs.size = s.heap.objs.size + 1 →
      (∀ b o, b ≠ en → b ≠ jt → s.heap.get? b = some o → k.get? b = some o) → Q (some (.ref s.heap.objs.size)) { s with heap := k, toks := s.toks + 1 }) :
    wpAny (model prog w) A (pyNext (.ref en)) Q E s := by
  have ty : s.TypeIs (.ref en) "enumerate" := ⟨_, hen, rfl⟩
  unfold pyNext
  exact wpAny_bind (wpAny_attempt (wpAny_callSpecial?_slot (name := Str.ofString "__next__") ty F.slot_enumerate_next (wpAny_call_entry F.slot_enumerate_next ty F.entry_enumerate_next
    (en_next hen apart (St := fun k => k.IsTupleIter jt l (n + 1)) (fun Q' h => RZ.nextOf_tuple_item hjt htu hu h) (fun k k' st e => st.at e) fun k a b c d m => wpAny_pure (fin k a b c d m)) (F.args_enumerate_next_1 _))))
theorem pyNext_enT_end {en jt l : Addr} {n : Nat} {its : Array Value} {was : Value} {Q : Option Value → Shared → Prop} (calm : A.handled = none) (hen : IsEnum s.heap en jt n was) (hjt : s.heap.IsTupleIter jt l n) (htu : s.heap.IsTuple l its) (hu : its[n]? = none)
    (fin : ∀ k, Heap.ExtBut jt s.heap k → Q none { s with heap := k }) : wpAny (model prog w) A (pyNext (.ref en)) Q E s := by
  have ty : s.TypeIs (.ref en) "enumerate" := ⟨_, hen, rfl⟩
  unfold pyNext
  refine wpAny_bind (wpAny_attempt (wpAny_callSpecial?_slot (name := Str.ofString "__next__") ty F.slot_enumerate_next (wpAny_call_entry F.slot_enumerate_next ty F.entry_enumerate_next ?_ (F.args_enumerate_next_1 _))))
  show wpAny _ _ (field (.ref en) 2 >>= _) _ _ _
  refine wpAny_bind (wpAny_field hen rfl (x := .ref jt) rfl (wpAny_bind (RZ.nextOf_tuple_end calm hjt htu hu fun k x ext hx => ?_)))
  obtain ⟨o, ho, hc⟩ := hx
  exact wpAny_bind (wpAny_isInstance (T := "StopIteration") (b := true) ⟨o, ho, hc⟩ isSubtype_stop (wpAny_pure (fin _ ext)))
/-- its making -/
theorem meets_enT (l : Addr) (its : Array Value) (n : Nat) (dct : Option Addr) (sl : Array (Option Value)) :
    Meets (Builtin.«enumerate.__new__» ⟨[.type "enumerate", .ref l], []⟩) (fun _ R s => s.heap.get? l = some { cls := .type "tuple", dict := dct, data := .seq its n, slots := sl } ∧
      R (.ok (.ret (.ref (s.heap.push { cls := .type "tuple_iterator", data := .fields #[.ref l, .int 0 0] }).objs.size)))
        { s with heap := (s.heap.push { cls := .type "tuple_iterator", data := .fields #[.ref l, .int 0 0] }).push { cls := .type "enumerate", data := .fields #[.none, .bool false, .ref s.heap.objs.size, rawInt 0, .none, .none] } }) :=
  .of_wp fun prog w A R s h => by
    obtain ⟨h0, gg, dd, tt, oo⟩ := s; obtain ⟨htu, h⟩ := h
    have sub := sub_enumerate
    have hT : Heap.IsTuple (Shared.heap ⟨h0, gg, dd, tt, oo⟩) l its := ⟨_, htu, rfl, n, rfl⟩
    wp_walk using wpAny_loadPart' htu
    refine wpAny_stack_any fun st => wpAny_pure ?_
    split
    · rename_i c _ _ _ _ _
      cases (c == Value.type "enumerate")
      · wp_walk using wpAny_loadPart' htu, wpAny_pyIter_tuple hT
        exact ⟨_, rfl, h⟩
      · wp_walk using wpAny_loadPart' htu, wpAny_pyIter_tuple hT
        exact ⟨_, rfl, h⟩
    · wp_walk using wpAny_loadPart' htu, wpAny_pyIter_tuple hT
      exact ⟨_, rfl, h⟩
theorem call_enT {l : Addr} {its : Array Value} {Q : Value → Shared → Prop} (hT : s.heap.IsTuple l its)
    (h : ∀ k, IsEnum k (s.heap.objs.size + 1) s.heap.objs.size 0 .none → k.IsTupleIter s.heap.objs.size l 0 → k.objs.size = s.heap.objs.size + 2 → (∀ b o, s.heap.get? b = some o → k.get? b = some o) → Q (.ref (s.heap.objs.size + 1)) { s with heap := k }) :
    wpAny (model prog w) A (call (.type "enumerate") [.ref l]) Q E s := by
  obtain ⟨⟨c, dct, dt, sl⟩, htu, hc, n, hd⟩ := hT
  replace hc : c = .type "tuple" := hc
  replace hd : dt = .seq its n := hd
  subst hc hd
  refine callType_new F.called_enumerate (by decide) (F.typeCall_enumerate_1 _) (F.newCall_enumerate_1 _) (fun obj => F.args_object_init_2 obj _) F.entry_enumerate_new (meets_enT l its n dct sl) ⟨htu, ?_⟩
  have sz : (s.heap.push { cls := .type "tuple_iterator", data := .fields #[.ref l, .int 0 0] }).objs.size = s.heap.objs.size + 1 := Heap.size_push ..
  show _ ∧ _
  rw [sz]
  have hen : IsEnum ((s.heap.push { cls := .type "tuple_iterator", data := .fields #[.ref l, .int 0 0] }).push { cls := .type "enumerate", data := .fields #[.none, .bool false, .ref s.heap.objs.size, rawInt 0, .none, .none] }) (s.heap.objs.size + 1) s.heap.objs.size 0 .none := by
    have q := Heap.get?_push_size (s.heap.push { cls := .type "tuple_iterator", data := .fields #[.ref l, .int 0 0] }) (o := { cls := .type "enumerate", data := .fields #[.none, .bool false, .ref s.heap.objs.size, rawInt 0, .none, .none] }) rfl
    rw [sz] at q; exact q
  exact ⟨⟨_, hen, rfl⟩, h _ hen ⟨_, Heap.get?_push_of_some _ (Heap.get?_push_size _ rfl), rfl, rfl⟩ (by rw [Heap.size_push, sz]) fun b o x => Heap.get?_push_of_some _ (Heap.get?_push_of_some _ x)⟩
end
end DLE
namespace DL
open PySem PySem.Spec L2
/-- the tuple at a, each item in a new pair -/
def IteT (K : PySem.W.Frag) (a : Addr) : It :=
  ⟨fun i H => ∃ (xs : List V) (x : V), SqT K H a xs ∧ xs[i]? = some x, fun i H v H' => ∃ T x, v = .ref T ∧ H T = none ∧ H' = upd H T (.tup [.int (i : Nat), x]) ∧ ∀ xs, SqT K H a xs → xs[i]? = some x, fun i H => ∃ xs : List V, SqT K H a xs ∧ xs.length ≤ i⟩
theorem turn_enumT {P : Program} {w : World} {K : PySem.W.Frag} {elts : List Expr} {kk : Nat} {tpos : Pos} (a en jt : Addr) :
    Turn P w K (.Tuple elts kk tpos) (IteT K a) [en, jt] en (fun i h => (∃ was, IsEnum h en jt ((i : Nat) : Int) was) ∧ h.IsTupleIter jt a i ∧ en ≠ jt) where
  mem := by simp
  obj := fun i h st b hb => by
    obtain ⟨⟨was, hen⟩, ⟨o, ho, hc, hd⟩, _⟩ := st
    have two : b = en ∨ b = jt := by simpa using hb
    rcases two with q | q
    · rw [q]; exact ⟨_, hen, fun v w => nomatch w⟩
    · rw [q]; exact ⟨o, ho, fun v w => by rw [hd] at w; cases w⟩
  keep := fun i h h' st k => let ⟨⟨was, hen⟩, hj, ne⟩ := st; ⟨⟨was, k en (by simp) _ hen⟩, hj.at fun o q => k jt (by simp) o q, ne⟩
  item := by
    intro X hP hw hK hc i pins s σ H E I fp st hg
    subst hP hw hK
    obtain ⟨⟨was, hen⟩, hjt, ne⟩ := st
    obtain ⟨xs, x, sq, hx⟩ := hg
    obtain ⟨its, rv, pt, hz⟩ := I.tuple sq
    obtain ⟨u, hu, ru⟩ := rv.get hx
    have lt1 : en < s.heap.objs.size := Heap.lt_size hen
    have lt2 : jt < s.heap.objs.size := by obtain ⟨_, q, _⟩ := hjt; exact Heap.lt_size q
    refine DLE.pyNext_enT_item hen hjt pt (u := u) (by simpa using hu) ne fun k out hjt' new hsz kp => ?_
    refine ⟨_, rfl, wpAny_letOwnedTupleGo_enum (s := { s with heap := k, toks := s.toks + 1 }) out fun k2 out2 sb => ?_⟩
    have new2 : k2.get? s.heap.objs.size = some { cls := .type "tuple", data := .seq #[.int i s.toks, u] } := (sb.2 _ (Nat.ne_of_gt lt1)).trans new
    have okk : ObjOk X.prog X.w (upd H s.heap.objs.size (.tup [.int (i : Nat), x])) k2 s.heap.objs.size (.tup [.int (i : Nat), x]) :=
      ⟨by show 2 ≤ sizeLine; decide, [.int i s.toks, u], .cons ⟨_, rfl⟩ (.cons ru .nil), ⟨_, new2, rfl, _, rfl⟩⟩
    have I2 : Inv X pins σ (upd H s.heap.objs.size (.tup [.int (i : Nat), x])) { s with heap := k2, toks := s.toks + 1 } :=
      I.turnedNew (ch := [en, jt]) (fun b ob hb q => (sb.2 b (fun z => hb (by simp [z]))).trans (kp b ob (fun z => hb (by simp [z])) (fun z => hb (by simp [z])) q)) fp (Nat.le_refl _) okk
    refine ⟨.ref s.heap.objs.size, _, I2, rfl, ⟨_, x, rfl, I.hok.fresh (Nat.le_refl _), rfl, fun ys hy => by rw [I.tuple_inj hy sq]; exact hx⟩, ⟨⟨u, ?_⟩, hjt'.at fun o q => (sb.2 jt (Ne.symm ne)).trans q, ne⟩, fun b hb => ?_⟩
    · rw [show ((i + 1 : Nat) : Int) = (i : Int) + 1 by omega]; exact out2
    · have two : b = en ∨ b = jt := by simpa using hb
      have lt : b < s.heap.objs.size := two.elim (fun q => q ▸ lt1) fun q => q ▸ lt2
      rw [upd_ne (Nat.ne_of_lt lt)]
      exact (fp b hb).1
  done := by
    intro X hP hw hK hc i pins s σ H E I fp st hg
    subst hP hw hK
    obtain ⟨⟨was, hen⟩, hjt, ne⟩ := st
    obtain ⟨xs, sq, hx⟩ := hg
    obtain ⟨its, rv, pt, hz⟩ := I.tuple sq
    obtain ⟨f0, f1, f2, f3, f4, f5⟩ := fp jt (by simp)
    have hl := rv.length
    exact DLE.pyNext_enT_end (I.ok.hd hc) hen hjt pt (by simp; omega) fun k eb => ⟨rfl, I.turned (t' := s.toks) (fun b o hb q => eb b o hb q) f0 f1 f3 f4 f5⟩
  self := fun A i s Q E st h => let ⟨⟨_, he⟩, _⟩ := st; wpAny_pyIter_enum he h
def iEnumA (K : PySem.W.Frag) (ta : TA) : TI := fun σ H R => ta σ H fun vs H1 => ∃ a xs, vs = [.ref a] ∧ ((SqL K H1 a xs ∧ R (Ite K a) H1) ∨ SqT K H1 a xs ∧ R (IteT K a) H1)
theorem pi_enumA {X : Cx} {e : Expr} {ta : TA} {p pos tpos : Pos} {elts : List Expr} {kk : Nat} (hg : Gl X "enumerate") (hm : X.mg "enumerate" = none) (ha : PA X [e] ta) (hs : starEach [e] X.env = [(false, eval e X.env)] := by rfl) :
    PI X (.Tuple elts kk tpos) (.Call (.Name "enumerate" p) [e] [] pos) (iEnumA X.K ta) := by
  constructor
  intro pins s0 σ0 G0 R inv hyp
  refine PyProof.Rows.Call_ (ld_blt inv hg hm PyProof.Rows.boot_enumerate (PyProof.Rows.callWith_type1 (thn (ha.run pos pins s0 σ0 G0 _ inv hyp) ?_) hs rfl))
  rintro us s1 ⟨vs, H1, I1, r1, a, xs, rfl, alt⟩
  cases r1 with
  | cons r rr =>
    cases rr
    cases r
    have fp : ∀ b ∈ [s1.heap.objs.size + 1, s1.heap.objs.size], FpOk X pins H1 b := fun b hb => by
      have le : s1.heap.objs.size ≤ b := by
        rcases (show b = s1.heap.objs.size + 1 ∨ b = s1.heap.objs.size by simpa using hb) with q | q <;> omega
      exact I1.fpOk le (I1.hok.fresh le)
    rcases alt with ⟨sq, q⟩ | ⟨sq, q⟩
    · obtain ⟨its, rv, pl, hz⟩ := I1.list sq
      exact call_enumerate_list pl.isList fun k hen hit hsz hk => wpAny_pyIter_enum hen ⟨s1.heap.objs.size + 1, [s1.heap.objs.size + 1, s1.heap.objs.size], _, _, H1, rfl, I1.kept (t' := s1.toks) hk, turn_enum a _ _, ⟨⟨.none, hen⟩, hit, Nat.succ_ne_self _⟩, fp, q⟩
    · obtain ⟨its, rv, pl, hz⟩ := I1.tuple sq
      exact DLE.call_enT (show s1.heap.IsTuple a its.toArray from pl) fun k hen hit hsz hk => wpAny_pyIter_enum hen ⟨s1.heap.objs.size + 1, [s1.heap.objs.size + 1, s1.heap.objs.size], _, _, H1, rfl, I1.kept (t' := s1.toks) hk, turn_enumT a _ _, ⟨⟨.none, hen⟩, hit, Nat.succ_ne_self _⟩, fp, q⟩
section
variable {X : Cx} {z : Zx} {S S' : Sx} {σ : L2.St} {H H' H0 : Hp} {g g' g2 : Gh} {v : V} {d : D} {r : Res} {K : PySem.W.Frag} {mg : Str → Option Value} {pos p tpos : Pos} {a b c e : Expr} {fa fb fc : M Res} {elts : List Expr} {kk : Nat}
/-- the items with their places -/
def enumD : Nat → List D → List D
  | _, [] => []
  | n, d :: ds => .tup [.int n, d] :: enumD (n + 1) ds
theorem enumD_len : ∀ (n : Nat) (ds : List D), (enumD n ds).length = ds.length
  | _, [] => rfl
  | n, d :: ds => congrArg Nat.succ (enumD_len (n + 1) ds)
theorem enumD_get : ∀ (n : Nat) (ds : List D) (i : Nat), (enumD n ds)[i]? = ds[i]?.map fun d => .tup [.int ((n + i : Nat) : Int), d]
  | _, [], i => by simp [enumD]
  | n, d :: ds, 0 => by simp [enumD]
  | n, d :: ds, i + 1 => by
    show (enumD (n + 1) ds)[i]? = _
    rw [enumD_get (n + 1) ds i, List.getElem?_cons_succ, show n + 1 + i = n + (i + 1) by omega]
theorem ite_ok {ad : Addr} {xs : List V} {ds : List D} (hq : ∀ H1 g1, Fr H g H1 g1 → SqL K H1 ad xs) (r : RpA K H g xs ds) (m : Mu H g) : ItOk K (Ite K ad) (enumD 0 ds) H g where
  go := fun i d H1 g1 f e => by
    rw [enumD_get] at e
    obtain ⟨d', e1, e2⟩ := Option.map_eq_some_iff.mp e
    obtain ⟨w, e3, _⟩ := r.get e1
    exact ⟨xs, w, hq _ _ f, e3⟩
  yld := fun i d H1 g1 x H2 f m1 e y => by
    rw [enumD_get] at e
    obtain ⟨d', e1, rfl⟩ := Option.map_eq_some_iff.mp e
    obtain ⟨w, e3, rw⟩ := r.get e1
    obtain ⟨T, x', rfl, hT, rfl, y⟩ := y
    have := y xs (hq _ _ f)
    rw [e3] at this; cases this
    exact ⟨.inr ⟨T, _, hT, rfl⟩, .tup upd_same (.cons (by rw [Nat.zero_add]; exact .int _) (.cons ((rw.fr f m).fr (Fr.upd_new hT) m1) .nil))⟩
  stop := fun H1 g1 f => ⟨xs, hq _ _ f, by rw [r.length, enumD_len]; exact Nat.le_refl _⟩
theorem iteT_ok {ad : Addr} {xs : List V} {ds : List D} (hq : ∀ H1 g1, Fr H g H1 g1 → SqT K H1 ad xs) (r : RpA K H g xs ds) (m : Mu H g) : ItOk K (IteT K ad) (enumD 0 ds) H g where
  go := fun i d H1 g1 f e => by
    rw [enumD_get] at e
    obtain ⟨d', e1, e2⟩ := Option.map_eq_some_iff.mp e
    obtain ⟨w, e3, _⟩ := r.get e1
    exact ⟨xs, w, hq _ _ f, e3⟩
  yld := fun i d H1 g1 x H2 f m1 e y => by
    rw [enumD_get] at e
    obtain ⟨d', e1, rfl⟩ := Option.map_eq_some_iff.mp e
    obtain ⟨w, e3, rw⟩ := r.get e1
    obtain ⟨T, x', rfl, hT, rfl, y⟩ := y
    have := y xs (hq _ _ f)
    rw [e3] at this; cases this
    exact ⟨.inr ⟨T, _, hT, rfl⟩, .tup upd_same (.cons (by rw [Nat.zero_add]; exact .int _) (.cons ((rw.fr f m).fr (Fr.upd_new hT) m1) .nil))⟩
  stop := fun H1 g1 f => ⟨xs, hq _ _ f, by rw [r.length, enumD_len]; exact Nat.le_refl _⟩
def enumI (f : M Res) : M (List D) := f >>= fun r => useM r >>= fun d => M.opt d.items fun ds => pure (enumD 0 ds)
theorem di_enum (hg : Gl X "enumerate") (hm : X.mg "enumerate" = none) (ha : DE X z a fa) (h1 : starEach [a] X.env = (false, eval a X.env) :: starEach [] X.env := by rfl) (hs : starEach [a] X.env = [(false, eval a X.env)] := by rfl) :
    DI X z (.Tuple elts kk tpos) (.Call (.Name "enumerate" p) [a] [] pos) (enumI fa) :=
  PI.imp (pi_enumA hg hm (pa_cons ha pa_nil h1) hs) fun σ H R ⟨S, g, s, q⟩ => ⟨S, g, s, q.bnd.imp fun r S1 H1 g1 s1 f1 q1 v rv => by
    obtain ⟨S2, g2, s2, f2, rp, q2⟩ := q1.use s1 rv
    obtain ⟨ds, e, q3⟩ := q2.opt
    have q4 := q3.pure s2
    cases hd : r.d <;> rw [hd] at e rp <;> simp [D.items] at e
    · subst e
      obtain ⟨ad, xs, rfl, hx, rx⟩ := Pk.tup (.inl rp)
      exact ⟨ad, xs, rfl, .inr ⟨SqT.of hx, q4 _ (iteT_ok (fun H1 g1 f => SqT.of (f.tup s2.mu hx)) rx s2.mu)⟩⟩
    · subst e
      cases rp with
      | lst hx hb rx => exact ⟨_, _, rfl, .inl ⟨SqL.of hx, q4 _ (ite_ok (fun H1 g1 f => SqL.of (f.keep _ _ hx hb).1) rx s2.mu)⟩⟩
    · subst e
      cases rp with
      | rol hx rx => exact ⟨_, _, rfl, .inl ⟨hx.sq, q4 _ (ite_ok (fun H1 g1 f => (f.rol s2.mu hx).sq) rx s2.mu)⟩⟩⟩
/-- reversed -/
theorem itv_ok {ad : Addr} {xs : List V} {ds : List D} (hq : ∀ H1 g1, Fr H g H1 g1 → SqL K H1 ad xs) (r : RpA K H g xs ds) (m : Mu H g) : ItOk K (Itv K ad xs.length) ds.reverse H g where
  go := fun i d H1 g1 f e => by
    have hl : i < ds.length := by have := (List.getElem?_eq_some_iff.mp e).1; rwa [List.length_reverse] at this
    rw [List.getElem?_reverse hl] at e
    obtain ⟨w, e3, _⟩ := r.get e
    rw [r.length]
    exact ⟨hl, xs, w, hq _ _ f, e3⟩
  yld := fun i d H1 g1 x H2 f m1 e y => by
    have hl : i < ds.length := by have := (List.getElem?_eq_some_iff.mp e).1; rwa [List.length_reverse] at this
    rw [List.getElem?_reverse hl] at e
    obtain ⟨w, e3, rw⟩ := r.get e
    obtain ⟨rfl, y⟩ := y
    have := y xs (hq _ _ f)
    rw [r.length, e3] at this; cases this
    exact ⟨.inl rfl, rw.fr f m⟩
  stop := fun H1 g1 f => by rw [List.length_reverse, ← r.length]; exact Nat.le_refl _
def revI (f : M Res) : M (List D) := f >>= fun r => useM r >>= fun d => M.opt d.lis fun ds => pure ds.reverse
theorem di_rev {tg : Expr} (hg : Gl X "reversed") (hm : X.mg "reversed" = none) (ha : DE X z a fa) (h1 : starEach [a] X.env = (false, eval a X.env) :: starEach [] X.env := by rfl) (hs : starEach [a] X.env = [(false, eval a X.env)] := by rfl) :
    DI X z tg (.Call (.Name "reversed" p) [a] [] pos) (revI fa) :=
  PI.imp (pi_reversed hg hm (pa_cons ha pa_nil h1) hs) fun σ H R ⟨S, g, s, q⟩ => ⟨S, g, s, q.bnd.imp fun r S1 H1 g1 s1 f1 q1 v rv => by
    obtain ⟨S2, g2, s2, f2, rp, q2⟩ := q1.use s1 rv
    obtain ⟨ds, e, q3⟩ := q2.opt
    have q4 := q3.pure s2
    cases hd : r.d <;> rw [hd] at e rp <;> simp [D.lis] at e
    · subst e
      cases rp with
      | lst hx hb rx => exact ⟨_, _, rfl, SqL.of hx, q4 _ (itv_ok (fun H1 g1 f => SqL.of (f.keep _ _ hx hb).1) rx s2.mu)⟩
    · subst e
      cases rp with
      | rol hx rx => exact ⟨_, _, rfl, hx.sq, q4 _ (itv_ok (fun H1 g1 f => (f.rol s2.mu hx).sq) rx s2.mu)⟩⟩
/-- zip of two lists, of two tuples -/
def zipD : List D → List D → List D
  | x :: xs, y :: ys => .tup [x, y] :: zipD xs ys
  | _, _ => []
theorem zipD_get : ∀ (xs ys : List D) (i : Nat) (d : D), (zipD xs ys)[i]? = some d → ∃ x y, xs[i]? = some x ∧ ys[i]? = some y ∧ d = .tup [x, y]
  | [], _, i, d, e => by simp [zipD] at e
  | _ :: _, [], i, d, e => by simp [zipD] at e
  | x :: xs, y :: ys, 0, d, e => by simp [zipD] at e; exact ⟨x, y, rfl, rfl, e.symm⟩
  | x :: xs, y :: ys, i + 1, d, e => by
    obtain ⟨x', y', h⟩ := zipD_get xs ys i d (by simpa [zipD] using e)
    exact ⟨x', y', by simpa using h⟩
theorem zipD_len : ∀ xs ys : List D, xs.length ≤ (zipD xs ys).length ∨ ys.length ≤ (zipD xs ys).length
  | [], _ => .inl (Nat.zero_le _)
  | _ :: _, [] => .inr (Nat.zero_le _)
  | x :: xs, y :: ys => (zipD_len xs ys).imp Nat.succ_le_succ Nat.succ_le_succ
theorem itz_ok {a b : Addr} {xs ys : List V} {ds es : List D} (hx : ∀ H1 g1, Fr H g H1 g1 → SqL K H1 a xs) (hy : ∀ H1 g1, Fr H g H1 g1 → SqL K H1 b ys) (rx : RpA K H g xs ds) (ry : RpA K H g ys es) (m : Mu H g) : ItOk K (Itz K a b) (zipD ds es) H g where
  go := fun i d H1 g1 f e => by
    obtain ⟨x, y, e1, e2, rfl⟩ := zipD_get _ _ _ _ e
    obtain ⟨w, e3, _⟩ := rx.get e1
    obtain ⟨u, e4, _⟩ := ry.get e2
    exact ⟨xs, ys, w, u, hx _ _ f, hy _ _ f, e3, e4⟩
  yld := fun i d H1 g1 x H2 f m1 e yl => by
    obtain ⟨x, y, e1, e2, rfl⟩ := zipD_get _ _ _ _ e
    obtain ⟨w, e3, r3⟩ := rx.get e1
    obtain ⟨u, e4, r4⟩ := ry.get e2
    obtain ⟨T, x', y', rfl, hT, rfl, q1, q2⟩ := yl
    have := q1 xs (hx _ _ f)
    rw [e3] at this; cases this
    have := q2 ys (hy _ _ f)
    rw [e4] at this; cases this
    exact ⟨.inr ⟨T, _, hT, rfl⟩, .tup upd_same (.cons ((r3.fr f m).fr (Fr.upd_new hT) m1) (.cons ((r4.fr f m).fr (Fr.upd_new hT) m1) .nil))⟩
  stop := fun H1 g1 f => ⟨xs, ys, hx _ _ f, hy _ _ f, by rw [rx.length, ry.length]; exact zipD_len _ _⟩
theorem itzT_ok {a b : Addr} {xs ys : List V} {ds es : List D} (hx : ∀ H1 g1, Fr H g H1 g1 → SqT K H1 a xs) (hy : ∀ H1 g1, Fr H g H1 g1 → SqT K H1 b ys) (rx : RpA K H g xs ds) (ry : RpA K H g ys es) (m : Mu H g) : ItOk K (RZ.ItzT K a b) (zipD ds es) H g where
  go := fun i d H1 g1 f e => by
    obtain ⟨x, y, e1, e2, rfl⟩ := zipD_get _ _ _ _ e
    obtain ⟨w, e3, _⟩ := rx.get e1
    obtain ⟨u, e4, _⟩ := ry.get e2
    exact ⟨xs, ys, w, u, hx _ _ f, hy _ _ f, e3, e4⟩
  yld := fun i d H1 g1 x H2 f m1 e yl => by
    obtain ⟨x, y, e1, e2, rfl⟩ := zipD_get _ _ _ _ e
    obtain ⟨w, e3, r3⟩ := rx.get e1
    obtain ⟨u, e4, r4⟩ := ry.get e2
    obtain ⟨T, x', y', rfl, hT, rfl, q1, q2⟩ := yl
    have := q1 xs (hx _ _ f)
    rw [e3] at this; cases this
    have := q2 ys (hy _ _ f)
    rw [e4] at this; cases this
    exact ⟨.inr ⟨T, _, hT, rfl⟩, .tup upd_same (.cons ((r3.fr f m).fr (Fr.upd_new hT) m1) (.cons ((r4.fr f m).fr (Fr.upd_new hT) m1) .nil))⟩
  stop := fun H1 g1 f => ⟨xs, ys, hx _ _ f, hy _ _ f, by rw [rx.length, ry.length]; exact zipD_len _ _⟩
end
end DL
end
section
set_option maxRecDepth 100000
namespace DLE
open PySem
open AutoSeq1
theorem meets_extT (l : Addr) (xs : Array Value) (n : Nat) (b : Addr) (ys : Array Value) (n2 : Nat) (dct : Option Addr) (sl : Array (Option Value)) (h0 : ¬(!xs.isEmpty && Builtin.List.listTooLong (xs.size + ys.size)) = true) (h1 : xs.size ≤ sizeLine) (h2 : xs.size + ys.size ≤ sizeLine + 1) :
    Meets (Builtin.«list.extend» ⟨[.ref l, .ref b], []⟩) (fun _ R s => s.heap.get? l = some { cls := .type "list", dict := none, data := .seq xs n, slots := #[] } ∧ s.heap.get? b = some { cls := .type "tuple", dict := dct, data := .seq ys n2, slots := sl } ∧
      R (.ok (.ret Value.none)) { s with heap := s.heap.update l (Obj.mapSeq fun x => x ++ ys), toks := s.toks }) :=
  .of_wp fun prog w A R s h => by
    obtain ⟨hp, g, d, tk, os⟩ := s; obtain ⟨hl, hb, h⟩ := h; have f1 := idx_int; have f2 := sub_tuple_tuple; have f3 := sub_list_list; have f4 := sub_tuple_list; have f5 := sub_list_tuple
    have hz' : (xs ++ ys).size ≤ sizeLine + 1 := by rw [Array.size_append]; exact h2
    wp_walk using (wpAny_updateSeq hl rfl (hz := h1) (_hz' := hz')), wpAny_loadPart' hl, wpAny_loadPart' hb; exact ⟨_, rfl, h⟩
end DLE

namespace DL
open PySem PySem.Spec L2
section
variable {X : Cx} {z : Zx} {S S' : Sx} {σ : L2.St} {H H' H0 : Hp} {g g' g2 : Gh} {v : V} {d : D} {r : Res} {K : PySem.W.Frag} {mg : Str → Option Value} {pos p px apos : Pos} {a b c e : Expr} {fa fb fc : M Res} {i : Nat} {x : Str}
/-! ## extend -/
def rExtA (K : PySem.W.Frag) : V → List V → Hp → VK → Prop := fun x vs H Q => rExtend x vs H Q ∨ ∃ l b xs zs, x = .ref l ∧ vs = [.ref b] ∧ H l = some (.lst xs) ∧ SqT K H b zs ∧ xs.length + zs.length ≤ sizeLine ∧ Q .non (upd H l (.lst (xs ++ zs)))
theorem mt_extA : MtM X "list.extend" (rExtA X.K) := by
  intro pins s σ H x vs v us Q I rx rv h
  rcases h with h | ⟨l, b, xs, zs, rfl, rfl, hH, hB, hz, q⟩
  · exact mt_extend pins s σ H x vs v us Q I rx rv h
  · cases rx
    obtain ⟨u, rfl, ru⟩ := rv.one
    cases ru
    obtain ⟨z, its, n, r, hl, e⟩ := I.lstM hH
    obtain ⟨its2, r2, p2, hl2⟩ := I.tuple hB
    obtain ⟨⟨oc, od, odt, os⟩, e2, ec, n2, ed⟩ := p2
    cases ec
    cases ed
    have l2 := r2.length
    have hsz : its.toArray.size + its2.toArray.size ≤ sizeLine := by rw [List.size_toArray, List.size_toArray]; omega
    refine call_meets F.slot_list_extend ⟨_, e, rfl⟩ F.entry_list_extend (F.args_list_extend_2 _ _) (DLE.meets_extT l its.toArray n b its2.toArray n2 od os (by rw [notLongL hsz, Bool.and_false]; exact Bool.false_ne_true) (by rw [List.size_toArray]; omega) (by omega)) ⟨e, e2, ?_⟩
    refine ⟨.non, _, I.lset (its' := its ++ its2) hH e (by simp) (r.append r2) ?_, rfl, q⟩
    rw [List.length_append]
    omega
def opExtA : D → D → Option (D × D)
  | .lst ds, .lst es => if ds.length + es.length ≤ sizeLine then some (.non, .lst (ds ++ es)) else Option.none
  | .lst ds, .tup es => if ds.length + es.length ≤ sizeLine then some (.non, .lst (ds ++ es)) else Option.none
  | _, _ => Option.none
theorem md_extA : MetD X (rExtA X.K) opExtA := by
  intro H g ad x d dx res d' Q rt rp e hb m h
  unfold opExtA at e
  split at e
  · rename_i ds es
    exact .inl (md_extend (X := X) H g ad x (.lst ds) (.lst es) res d' Q rt rp (by simpa [opExtend] using e) hb m h)
  · rename_i ds es
    split at e
    · rename_i hl
      cases e
      obtain ⟨xs, hx, rx⟩ := rt.lstAt
      obtain ⟨b, ys, rfl, hy, ry⟩ := Pk.tup (.inl rp)
      have fr : Fr H g (upd H ad (.lst (xs ++ ys))) g := Fr.mut hb
      exact .inr ⟨ad, b, xs, ys, rfl, rfl, hx, SqT.of hy, by rw [rx.length, ry.length]; exact hl, h _ _ trivial (.lst upd_same ((rx.append ry).fr fr m)) .non⟩
    · cases e
  · cases e
theorem de_extA (i : Nat) (ha : DE X z a fa) (hN : X.N[i]? = some x := by rfl) (hv : Vis X.env.scope x := by first | exact Or.inl rfl | exact Or.inr (Or.inl rfl) | exact Or.inr (Or.inr rfl)) (hd : (x == ("__debug__" : Str)) = false := by decide) (hcd : (x == ("__classdict__" : Str)) = false := by decide)
    (h1 : attributeBase (.Name x px) "extend" X.env (eval (.Name x px) X.env) = eval (.Name x px) X.env := by rfl)
    (h2 : (((backTo pos (starEach [a] X.env)).all fun x => !x.1) && ((backToKw pos (keywordEach [] X.env)).all fun x => x.1.isSome) && decide (([a] : List Expr).length + ([] : List Keyword).length + (if ([] : List Keyword).isEmpty = true then 0 else 1) < 30)) = true := by rfl)
    (h3 : (apos.endLine == pos.line) = true := by rfl) (hs : starEach [a] X.env = (false, eval a X.env) :: starEach [] X.env := by rfl) (h5 : (backTo pos (starEach [] X.env)).any (·.1) = false := by rfl) :
    DE X z (.Call (.Attribute (.Name x px) "extend" apos) [a] [] pos) (methM "list" i fa opExtA) :=
  de_meth1 md_extA (pe_bm PySem.F.plainAttrs_list PySem.F.slot_list_extend PySem.F.type_list_extend mt_extA (pe_var hN hv hd hcd) (pa_cons ha pa_nil hs) h1 h2 h3 hs h5)

/-! ## xs[::-1] -/
def opRevS (d : D) : M Res := M.opt d.lis fun ds => pure (.new (.lst ds.reverse))
theorem de_revS {k : Nat} {p1 p2 p3 : Pos} (ha : DE X z a fa) : DE X z (.Subscript a (.Slice none none (some (.UnaryOp .USub (.Constant (.int 1) k p1) p2)) p3) pos) (unM opRevS fa) :=
  PE.imp (pe_revL ha) fun σ H Q ⟨S, g, s, h⟩ => ⟨S, g, s, h.bnd.imp fun r S1 H1 g1 s1 f1 h1 x rx => by
    obtain ⟨ds, e, q⟩ := h1.opt
    obtain ⟨ad, xs, rfl, hx, rx⟩ := (s1.pk rx).lis e
    exact ⟨ad, xs, rfl, hx, out_lst s1 rx.rev q⟩⟩
/-! ## list(range(n)) -/
def opLstRg : D → M Res
  | .int j => M.need (decide (-(2 ^ 62) ≤ j ∧ j < 2 ^ 62 ∧ j.toNat ≤ 2 ^ 24)) (pure (.new (.lst (rangeD 0 j.toNat))))
  | _ => M.no
theorem rgV_ok : ∀ (n : Nat) (lo : Int), RpA K H g ((List.range n).map fun i => V.int (lo + (i : Nat))) (rangeD lo n)
  | 0, _ => .nil
  | n + 1, lo => by
    rw [List.range_succ_eq_map, List.map_cons, List.map_map]
    refine .cons (by simpa using Rp.int lo) ?_
    have := rgV_ok n (lo + 1)
    refine cast ?_ this
    congr 1
    apply List.map_congr_left
    intro k _
    simp only [Function.comp]
    congr 1
    push_cast
    omega
theorem de_listRg {p2 pos2 : Pos} (hc : X.calm = true) (hm : X.mg "list" = none) (hm2 : X.mg "range" = none) (ha : DE X z a fa) (hg : Gl X "list" := by rfl) (hg2 : Gl X "range" := by rfl) (na : starEach [a] X.env = (false, eval a X.env) :: starEach [] X.env := by rfl)
    (na2 : starEach [.Call (.Name "range" p2) [a] [] pos2] X.env = (false, eval (.Call (.Name "range" p2) [a] [] pos2) X.env) :: starEach [] X.env := by rfl) : DE X z (.Call (.Name "list" p) [.Call (.Name "range" p2) [a] [] pos2] [] pos) (unM opLstRg fa) :=
  PE.imp (pe_listRg hc hg hm (prg_1 hg2 hm2 ha na) na2) fun σ H Q ⟨S, g, s, h⟩ => ⟨S, g, s, h.bnd.imp fun r S1 H1 g1 s1 f1 h1 x rx => by
    have px := s1.pk rx
    generalize r.d = dx at h1 px
    cases dx <;> first | exact h1.none.elim | skip
    rename_i j
    obtain ⟨c, q⟩ := h1.need
    have c := of_decide_eq_true c
    refine ⟨j, px.int, ⟨by decide, by decide, c.1, c.2.1, by simpa using c.2.2⟩, ?_⟩
    have : RpA X.K H1 g1 (rgV 0 j) (rangeD 0 (j - 0).toNat) := rgV_ok (j - 0).toNat 0
    exact out_lst s1 this (by simpa using q)⟩
end
end DL
end
section
set_option maxRecDepth 100000
namespace DLE
open PySem L2
open PyProof.Rows (firstMet firstMet_succ firstMet_length_le step_any step_length IntsAre)
/-! set(list of whole numbers), with its table known -/
section
variable {prog : Program} {w : World} {A : Around} {E : Value → Shared → Prop} {s : Shared}
/-- the members of a list, as a set's table keeps them: how many there may be -/
def SetIs (w : World) (h : Heap) (p : Addr) (ns : List Int) : Prop := ∃ c, c ≤ ns.length ∧ SetR w h p (fun j => decide (j ∈ ns)) c
def emptyO (w : World) : Obj := { cls := .type "set", dict := none, data := .set #[] 0 (.fresh 0 0 (!w.params.followText "set-order")) }
/-- __init__ of a new empty set at p, from a list -/
theorem init_set {A : Around} {p l : Addr} {xs : Array Value} {ns : List Int} {s : Shared} {R : Result → Shared → Prop} (free : A.handled = none) (hp : s.heap.get? p = some (emptyO w)) (hl : s.heap.IsList l xs) (ne : l ≠ p) (nsI : IntsAre xs.toList ns) (few : ns.length + 1 < scanBound)
    (q : ∀ h tk, SetIs w h p ns → (∀ b o, b ≠ p → s.heap.get? b = some o → h.get? b = some o) → R (.ok (.ret .none)) { s with heap := h, toks := tk }) : codeAny (model prog w) A (.call (.builtin "set.__init__") ⟨[.ref p, .ref l], []⟩) R s := by
  refine codeAny_call_builtin F.called_set.init.plain F.entry_set_init (check_set_init_1 ⟨_, hp, rfl⟩ ?_)
  have ct : xs.size = ns.length := by rw [← Array.length_toList]; exact IntsAre.length nsI
  have is2 := id hl
  rcases hl with ⟨⟨k, dd, dat, sl⟩, at_, k1, m, k2⟩
  obtain rfl : k = Value.type "list" := k1
  obtain rfl : dat = Data.seq xs m := k2
  have u1 := F.sub_list_set; have u2 := F.sub_list_frozenset
  have u3 : (Value.type "list" == Value.type "dict") = false := by decide
  unfold Builtin.«set.__init__» noKeywords
  unfold Builtin.Frozenset.updateFrom
  generalize hit : pyIter = it
  wp_walk
  subst hit
  have lp : p < s.heap.objs.size := Heap.lt_size hp
  have ll : l < s.heap.objs.size := Heap.lt_size at_
  have calm : A.in1.in1.handled = none := by simp [free]
  have off : p ∉ [s.heap.objs.size, l] := by simp [Nat.ne_of_lt lp, Ne.symm ne]
  refine wpAny_pyIter_list is2 (wpAny_bind (wpAny_runValue (L2.set_update_ints ((Walks.list calm s.heap.objs.size l (Nat.ne_of_lt ll) xs).toS) p off ns ct few (fun i v e => ?_) xs.size 0 _ rfl (Nat.zero_le _) ⟨⟨_, Heap.get?_push_size _ rfl, rfl, rfl⟩, is2.push _⟩ ⟨0, Nat.le_refl 0, setR_new_at (Heap.get?_push_of_some _ hp)⟩ fun t c mv le R => ?_)))
  · obtain ⟨tk, rfl⟩ := IntsAre.int_at nsI i v (by rw [Array.getElem?_toList]; exact e)
    have hi : i < ns.length := ct ▸ (Array.getElem?_eq_some_iff.mp e).1
    exact ⟨ns[i], tk, List.getElem?_eq_getElem hi, by rw [List.getD_eq_getElem?_getD, List.getElem?_eq_getElem hi]; rfl⟩
  · rcases t with ⟨th, tg, td, tt, to⟩
    have e1 : tg = s.gens := mv.gens
    have e2 : td = s.drawn := mv.drawn
    have e3 : to = s.os := mv.os
    subst e1 e2 e3
    refine wpAny_pure ((wpAny_pure (q th tt ⟨c, ct ▸ le, R⟩ fun b o nb e => mv.heap b o ?_ (Heap.get?_push_of_some _ e)) : wpAny _ _ (ret Value.none) _ _ _))
    simp [nb, Nat.ne_of_lt (Heap.lt_size e)]
set_option maxHeartbeats 3200000 in
/-- set(l) -/
theorem call_setI {l : Addr} {xs : Array Value} {ns : List Int} {Q : Value → Shared → Prop} (free : A.handled = none) (hl : s.heap.IsList l xs) (nsI : IntsAre xs.toList ns) (few : ns.length + 1 < scanBound)
    (q : ∀ h tk, SetIs w h s.heap.objs.size ns → (∀ b o, s.heap.get? b = some o → h.get? b = some o) → Q (.ref s.heap.objs.size) { s with heap := h, toks := tk }) : wpAny (model prog w) A (call (Value.type "set") [Value.ref l]) Q E s := by
  obtain ⟨c0, tail, way⟩ := F.called_set.mro
  have f1 := F.called_set.made; have f2 := F.called_set.sub; have f3 := F.called_set.notType; have f4 := F.called_set.canCreate
  have f5 := F.typeCall_set_1 (.ref l); have f6 := F.called_set.init.lookup; have f7 := F.called_set.init.bind (.ref s.heap.objs.size)
  have at0 : (s.heap.push (emptyO w)).get? s.heap.objs.size = some (emptyO w) := Heap.get?_push_size _ rfl
  have isS : Shared.TypeIs { s with heap := s.heap.push (emptyO w) } (.ref s.heap.objs.size) "set" := ⟨_, at0, rfl⟩
  have lt : l < s.heap.objs.size := let ⟨_, e, _⟩ := hl; Heap.lt_size e
  refine wpAny_call (codeAny_of_tree (?_ : wpAny _ _ (callAny (Value.type "set") _) _ _ _))
  refine wpAny_pure ⟨Code.quiet_builtin _ (by decide +kernel), codeAny_builtin F.entry_type_call (?_ : wpAny _ _ _ _ _ _)⟩
  rw [Around.under_plain (weight_type_call_type "set" [Value.ref l] []) rfl]
  repeat any_goals first | assumption | wp_step
  refine codeAny_mono (L2.code_set_led1 (.ref l) (E := E) (Q₁ := fun r t => r = .ref s.heap.objs.size ∧ t = { s with heap := s.heap.push (emptyO w) }) ⟨rfl, rfl⟩) fun r t made => ?_
  rcases r with err | (_ | _ | _ | u)
  all_goals first | exact made | exact made.elim | skip
  obtain ⟨rfl, rfl⟩ := made
  repeat any_goals first | assumption | wp_step
  refine init_set (by simp [free]) at0 (hl.push _) (Nat.ne_of_lt lt) nsI few fun h tk R kp => ?_
  repeat any_goals first | assumption | wp_step
  exact q h tk R fun b o e => kp b o (Nat.ne_of_lt (Heap.lt_size e)) (Heap.get?_push_of_some _ e)
end
end DLE
namespace DL
open PySem PySem.Spec L2
/-! ## sorted(set(xs)), xs whole numbers -/
/-- set(xs): its members -/
def rSetI (K : PySem.W.Frag) (w : World) : List V → Hp → VK → Prop := fun vs H Q => ∃ (a : Addr) (ns : List Int), vs = [V.ref a] ∧ SqL K H a (ns.map V.int) ∧ ns.length + 1 < scanBound ∧
  ∀ (p : Addr) (T : Int → Bool) (n : Nat), H p = none → (∀ k, T k = true ↔ k ∈ ns) → (∃ l : List Int, l.Nodup ∧ (∀ k, k ∈ l ↔ k ∈ ns) ∧ l.length = n) → Q (.ref p) (upd H p (SetO w p T n))
theorem dedup_fold (l : List Int) : ∀ acc : List Int, acc.Nodup → (l.foldl PyProof.Rows.step_dedup acc).Nodup ∧ ∀ k, k ∈ l.foldl PyProof.Rows.step_dedup acc ↔ k ∈ acc ∨ k ∈ l := by
  induction l with
  | nil => exact fun acc h => ⟨h, fun k => by simp⟩
  | cons x l ih =>
    intro acc h
    have st : (PyProof.Rows.step_dedup acc x).Nodup ∧ ∀ k, k ∈ PyProof.Rows.step_dedup acc x ↔ k ∈ acc ∨ k = x := by
      unfold PyProof.Rows.step_dedup
      by_cases e : acc.any (· == x) = true
      · rw [if_pos e]
        refine ⟨h, fun k => ⟨.inl, fun q => q.elim id fun q => ?_⟩⟩
        obtain ⟨y, hy, e2⟩ := List.any_eq_true.mp e
        rw [q, ← (by simpa using e2 : y = x)]; exact hy
      · have nx : x ∉ acc := fun q => e (List.any_eq_true.mpr ⟨x, q, by simp⟩)
        rw [if_neg e]
        refine ⟨?_, fun k => by simp⟩
        rw [List.nodup_append]
        exact ⟨h, by simp, fun a ha b hb q => nx (by simp at hb; rw [← hb, ← q]; exact ha)⟩
    obtain ⟨i1, i2⟩ := ih _ st.1
    rw [List.foldl_cons]
    exact ⟨i1, fun k => by rw [i2, st.2, List.mem_cons, or_assoc]⟩
theorem firstMet_spec (ns : List Int) : (PyProof.Rows.firstMet (fun i => ns.getD i 0) ns.length).Nodup ∧ ∀ k, k ∈ PyProof.Rows.firstMet (fun i => ns.getD i 0) ns.length ↔ k ∈ ns := by
  have e : (List.range ns.length).map (fun i => ns.getD i 0) = ns := by
    apply List.ext_getElem
    · simp
    · intro i h1 h2
      simp [h2]
  unfold PyProof.Rows.firstMet
  rw [e]
  obtain ⟨h1, h2⟩ := dedup_fold ns [] List.nodup_nil
  exact ⟨h1, fun k => by rw [h2]; simp⟩
section
variable {X : Cx} {z : Zx} {S S' : Sx} {σ : L2.St} {H H' H0 : Hp} {g g' g2 : Gh} {v : V} {d : D} {r : Res} {K : PySem.W.Frag} {mg : Str → Option Value} {pos p pos2 p2 : Pos} {a b c e : Expr} {fa fb fc : M Res}
theorem setR_count {w : World} {h : Heap} {p : Addr} {ns : List Int} {c : Nat} (R : SetR w h p (fun j => decide (j ∈ ns)) c) : ∃ l : List Int, l.Nodup ∧ (∀ k, k ∈ l ↔ k ∈ ns) ∧ l.length = c := by
  obtain ⟨_, es, _, _, _, _, _, _, nd, mem, _, _, n, _⟩ := R
  exact ⟨es.toList.map L2.keyOf, nd, fun k => by rw [← mem, decide_eq_true_iff], by rw [List.length_map, Array.length_toList, n]⟩
theorem cr_setI (hc : X.calm = true) : CallR X (.type "set") (rSetI X.K X.w) := fun pins s σ H vs us Q I r ⟨a, ns, ev, sq, few, q⟩ => by
  subst ev
  obtain ⟨its, rv, pl, _⟩ := I.list sq
  rw [Vals.ref1 r]
  refine DLE.call_setI (I.ok.hd hc) pl.isList rv.ints few fun h tk ⟨c, le, R⟩ kp => ?_
  have fresh : H s.heap.objs.size = none := I.hok.fresh (Nat.le_refl _)
  refine ⟨.ref _, upd H s.heap.objs.size (SetO X.w s.heap.objs.size _ c), I.laid (t' := tk) kp (Nat.le_refl _) (setO_new R), rfl, q _ _ _ fresh (fun k => decide_eq_true_iff) ?_⟩
  exact setR_count R
/-- the members, rising -/
def insS (x : Int) : List Int → List Int
  | [] => [x]
  | y :: r => if x < y then x :: y :: r else if x = y then y :: r else y :: insS x r
def sortS (ns : List Int) : List Int := ns.foldr insS []
theorem insS_mem (x k : Int) : ∀ l : List Int, k ∈ insS x l ↔ k = x ∨ k ∈ l
  | [] => by simp [insS]
  | y :: r => by
    unfold insS
    by_cases h : x < y
    · rw [if_pos h, List.mem_cons]
    · rw [if_neg h]
      by_cases h2 : x = y
      · rw [if_pos h2, h2]; simp
      · rw [if_neg h2, List.mem_cons, insS_mem x k r, List.mem_cons]
        constructor
        · rintro (h | h | h)
          · exact .inr (.inl h)
          · exact .inl h
          · exact .inr (.inr h)
        · rintro (h | h | h)
          · exact .inr (.inl h)
          · exact .inl h
          · exact .inr (.inr h)
theorem insS_up (x : Int) : ∀ l : List Int, l.Pairwise (· < ·) → (insS x l).Pairwise (· < ·)
  | [], _ => by simp [insS]
  | y :: r, h => by
    obtain ⟨h1, h2⟩ := List.pairwise_cons.mp h
    unfold insS
    by_cases c : x < y
    · rw [if_pos c]
      refine List.pairwise_cons.mpr ⟨fun k hk => ?_, h⟩
      rcases List.mem_cons.mp hk with rfl | hk
      · exact c
      · have := h1 k hk; omega
    · rw [if_neg c]
      by_cases c2 : x = y
      · rw [if_pos c2]; exact h
      · rw [if_neg c2]
        refine List.pairwise_cons.mpr ⟨fun k hk => ?_, insS_up x r h2⟩
        rcases (insS_mem x k r).mp hk with rfl | hk
        · omega
        · exact h1 k hk
theorem sortS_mem (k : Int) : ∀ ns : List Int, k ∈ sortS ns ↔ k ∈ ns
  | [] => by simp [sortS]
  | x :: r => by
    show k ∈ insS x (sortS r) ↔ _
    rw [insS_mem, sortS_mem k r, List.mem_cons]
theorem sortS_up : ∀ ns : List Int, (sortS ns).Pairwise (· < ·)
  | [] => List.Pairwise.nil
  | x :: r => insS_up x _ (sortS_up r)
theorem up_unique : ∀ {l m : List Int}, l.Pairwise (· < ·) → m.Pairwise (· < ·) → (∀ k, k ∈ l ↔ k ∈ m) → l = m
  | [], [], _, _, _ => rfl
  | [], y :: m, _, _, h => by have := (h y).mpr List.mem_cons_self; simp at this
  | x :: l, [], _, _, h => by have := (h x).mp List.mem_cons_self; simp at this
  | x :: l, y :: m, h1, h2, h => by
    obtain ⟨a1, a2⟩ := List.pairwise_cons.mp h1
    obtain ⟨b1, b2⟩ := List.pairwise_cons.mp h2
    have e : x = y := by
      rcases List.mem_cons.mp ((h x).mp List.mem_cons_self) with e | e
      · exact e
      · rcases List.mem_cons.mp ((h y).mpr List.mem_cons_self) with e2 | e2
        · exact e2.symm
        · have := a1 y e2; have := b1 x e; omega
    subst e
    congr 1
    refine up_unique a2 b2 fun k => ⟨fun hk => ?_, fun hk => ?_⟩
    · rcases List.mem_cons.mp ((h k).mp (List.mem_cons_of_mem _ hk)) with e | e
      · have := a1 k hk; omega
      · exact e
    · rcases List.mem_cons.mp ((h k).mpr (List.mem_cons_of_mem _ hk)) with e | e
      · have := b1 k hk; omega
      · exact e
theorem up_nodup {l : List Int} (h : l.Pairwise (· < ·)) : l.Nodup := h.imp fun q e => by omega
theorem nodup_len : ∀ {l m : List Int}, l.Nodup → m.Nodup → (∀ k, k ∈ l ↔ k ∈ m) → l.length = m.length := by
  intro l m h1 h2 h
  exact ((List.perm_ext_iff_of_nodup h1 h2).mpr h).length_eq
def opSortSet (d : D) : M Res := M.opt (d.lis.bind D.ints?) fun ns => M.need (decide (ns.length + 1 < scanBound) && decide ((sortS ns).length < 64)) (pure (.new (.lst ((sortS ns).map .int))))
theorem RpA.of_ints : ∀ ns : List Int, RpA K H g (ns.map V.int) (ns.map .int)
  | [] => .nil
  | n :: r => .cons (.int n) (RpA.of_ints r)
theorem de_sortedSet (hc : X.calm = true) (hm : X.mg "sorted" = none) (hm2 : X.mg "set" = none) (ha : DE X z a fa) (hg : Gl X "sorted" := by rfl) (hg2 : Gl X "set" := by rfl) (na : starEach [a] X.env = (false, eval a X.env) :: starEach [] X.env := by rfl)
    (na2 : starEach [.Call (.Name "set" p2) [a] [] pos2] X.env = (false, eval (.Call (.Name "set" p2) [a] [] pos2) X.env) :: starEach [] X.env := by rfl) (hpl : (backTo pos (starEach [] X.env)).any (·.1) = false := by rfl) (hpl2 : (backTo pos2 (starEach [] X.env)).any (·.1) = false := by rfl) :
    DE X z (.Call (.Name "sorted" p) [.Call (.Name "set" p2) [a] [] pos2] [] pos) (unM opSortSet fa) :=
  PE.imp (pe_callB (cr_sortedSet hc) hg hm (by decide +kernel) (pa_cons (pe_callTy (cr_setI hc) hg2 hm2 (by decide +kernel) (pa_cons ha pa_nil na) (he := na) (hpl := hpl2)) pa_nil na2) (he := na2) (hpl := hpl)) fun σ H Q ⟨S, g, s, h⟩ =>
    ⟨S, g, s, h.bnd.imp fun r S1 H1 g1 s1 f1 h1 x rx => by
      obtain ⟨ns, e, h2⟩ := h1.opt
      obtain ⟨c, h3⟩ := h2.need
      rw [Bool.and_eq_true] at c
      have c1 := of_decide_eq_true c.1
      have c2 := of_decide_eq_true c.2
      obtain ⟨ds, e1, e2⟩ := Option.bind_eq_some_iff.mp e
      obtain ⟨ad, xs, rfl, hx, rxs⟩ := (s1.pk rx).lis e1
      have := ints?_of e2; subst this
      have := rxs.ints; subst this
      refine ⟨ad, ns, rfl, hx, c1, fun p T n hp hT ⟨l, l1, l2, l3⟩ => ?_⟩
      have hl : (sortS ns).length = n := by
        rw [← l3]
        exact nodup_len (up_nodup (sortS_up ns)) l1 fun k => by rw [sortS_mem, l2]
      refine ⟨p, T, n, rfl, upd_same, by omega, fun ms q hup hmem hlen hq => ?_⟩
      have em : ms = sortS ns := up_unique hup (sortS_up ns) fun k => by rw [hmem, hT, sortS_mem]
      subst em
      -- the set itself is left behind
      have sr := s1.upd_new (o := SetO X.w p T n) hp
      have fr : Fr H1 g1 (upd H1 p (SetO X.w p T n)) g1 := Fr.upd_new hp
      exact out_lst sr (RpA.of_ints _) (Go.at h3 fr) q hq⟩
end
end DL
end
section
set_option maxRecDepth 100000
namespace DL
open PySem PySem.Spec L2
open PySem.W (dataLe AllAlike Sortable EachIs)
open PySem.W (alike alikeAll dataLt)
/-! ## sorted of data -/
/-- sorted(xs), any number of data that are alike -/
def rSortedA (K : PySem.W.Frag) : List V → Hp → VK → Prop := fun vs H Q => ∃ (a : Addr) (bs : List (V × D)) (k : D → PyData), vs = [V.ref a] ∧ SqL K H a (bs.map (·.1)) ∧ (∀ b ∈ bs, Dp K H b.1 (k b.2)) ∧ AllAlike (bs.map fun b => k b.2) ∧ Sortable (bs.map fun b => k b.2) ∧
  (∀ b ∈ bs, (k b.2).depth ≤ 60) ∧ ∀ p, H p = none → Q (.ref p) (upd H p (.lst ((bs.mergeSort (dataLe false fun b => k b.2)).map (·.1))))
section
variable {X : Cx} {z : Zx} {S S' : Sx} {σ : L2.St} {H H' H0 : Hp} {g g' g2 : Gh} {v : V} {d : D} {r : Res} {K : PySem.W.Frag} {mg : Str → Option Value} {pos p pos2 p2 : Pos} {a b c e : Expr} {fa fb fc : M Res}
theorem each_vals {β : Type} {f : β → V} : ∀ {bs : List β} {us : List Value}, Vals (bs.map f) us → EachIs (fun v b => RelV (f b) v) us bs
  | [], _, .nil => .nil
  | b :: bs, _, .cons h t => .cons h (each_vals t)
theorem vals_each {β : Type} {f : β → V} : ∀ {bs : List β} {us : List Value}, EachIs (fun v b => RelV (f b) v) us bs → Vals (bs.map f) us
  | [], _, .nil => .nil
  | b :: bs, _, .cons h t => .cons h (vals_each t)
theorem each_and {α β : Type} {R T : α → β → Prop} : ∀ {us : List α} {bs : List β}, EachIs R us bs → (∀ u b, b ∈ bs → R u b → T u b) → EachIs T us bs
  | _, _, .nil, _ => .nil
  | _, _, .cons h t, f => .cons (f _ _ List.mem_cons_self h) (each_and t fun u b m => f u b (List.mem_cons_of_mem _ m))
theorem cr_sortedA (hu : X.A.units + 65 < cLine) : CallR X (.builtin "sorted") (rSortedA X.K) := by
  intro pins s σ H vs us Q I r h
  obtain ⟨a, bs, k, rfl, sq, hdp, hal, hso, hdep, q⟩ := h
  obtain ⟨its, rv, hl, hz⟩ := I.list sq
  rw [Vals.ref1 r]
  have e1 := each_vals rv
  have e2 : EachIs (fun v b => ∃ as, Reads s.heap v (k b.2) as) its bs := each_and e1 fun u b m rr => Dp.reads I _ _ _ (hdp b m) rr
  have hz' : bs.length ≤ sizeLine := by simpa using hz
  refine PySem.W.sorted_data hl.isList e1 e2 hal hso hz' (fun b m => by have := hdep b m; omega) fun out hlen eo => ?_
  obtain ⟨ep, he⟩ := PyProof.Rows.sortedAll_at s.heap its out.toArray
  have rv2 := vals_each eo
  have hlen2 : ((bs.mergeSort (dataLe false fun b => k b.2)).map (·.1)).length ≤ sizeLine := by
    rw [List.length_map, List.length_mergeSort]; exact hz'
  exact ⟨.ref _, upd H (s.heap.objs.size + 1) (.lst ((bs.mergeSort (dataLe false fun b => k b.2)).map (·.1))), I.laid (t' := s.toks) (fun _ _ => PyProof.Rows.sortedAll_old) (Nat.le_succ _) ⟨hlen2, out, ep, rv2, he⟩, rfl, q _ (I.hok.fresh (Nat.le_succ _))⟩
/-- < of data -/
def D.pyD (d : D) : PyData := d.py.getD .none
def D.lt (d e : D) : Bool := dataLt d.pyD e.pyD
def sortD (ds : List D) : List D := ds.mergeSort fun x y => !D.lt y x
def isTup1 : PyData → Bool
  | .tuple (_ :: _) => true
  | _ => false
def noTup : PyData → Bool
  | .none => false
  | .tuple _ => false
  | _ => true
def canSort (ds : List D) : Bool := ds.all (fun d => d.py.isSome && decide (d.pyD.depth ≤ 60)) && (ds.all fun d => ds.all fun e => alike d.pyD e.pyD) && (ds.all (fun d => isTup1 d.pyD) || ds.all (fun d => noTup d.pyD))
def opSorted (d : D) : M Res := M.opt d.lis fun ds => M.need (canSort ds) (pure (.new (.lst (sortD ds))))
theorem RpA.mem_zip : ∀ {vs : List V} {ds : List D} {b : V × D}, RpA K H g vs ds → b ∈ vs.zip ds → Rp K H g b.1 b.2 ∧ b.2 ∈ ds
  | _, _, _, .nil, h => by simp at h
  | _, _, b, .cons r t, h => by
    rw [List.zip_cons_cons] at h
    rcases List.mem_cons.mp h with rfl | h
    · exact ⟨r, List.mem_cons_self⟩
    · have := RpA.mem_zip t h
      exact ⟨this.1, List.mem_cons_of_mem _ this.2⟩
theorem RpA.of_pairs : ∀ {bs : List (V × D)}, (∀ b ∈ bs, Rp K H g b.1 b.2) → RpA K H g (bs.map (·.1)) (bs.map (·.2))
  | [], _ => .nil
  | b :: bs, h => .cons (h b List.mem_cons_self) (RpA.of_pairs fun c m => h c (List.mem_cons_of_mem _ m))
theorem zip_map1 : ∀ {vs : List V} {ds : List D}, vs.length = ds.length → (vs.zip ds).map (·.1) = vs ∧ (vs.zip ds).map (·.2) = ds
  | [], [], _ => ⟨rfl, rfl⟩
  | v :: vs, d :: ds, h => by
    obtain ⟨h1, h2⟩ := zip_map1 (vs := vs) (ds := ds) (by simpa using h)
    rw [List.zip_cons_cons, List.map_cons, List.map_cons, h1, h2]
    exact ⟨rfl, rfl⟩
  | [], _ :: _, h => by simp at h
  | _ :: _, [], h => by simp at h
theorem ud_sortedA : UnD X z (rSortedA X.K) opSorted := by
  intro S σ H g x dx Q s px h
  obtain ⟨ds, e, h2⟩ := h.opt
  obtain ⟨c, h3⟩ := h2.need
  obtain ⟨ad, xs, rfl, hx, rx⟩ := px.lis e
  obtain ⟨z1, z2⟩ := zip_map1 rx.length
  unfold canSort at c
  simp only [Bool.and_eq_true, Bool.or_eq_true, List.all_eq_true, decide_eq_true_eq] at c
  obtain ⟨⟨c1, c2⟩, c3⟩ := c
  have mz : ∀ b ∈ xs.zip ds, Rp X.K H g b.1 b.2 ∧ b.2 ∈ ds := fun b m => rx.mem_zip m
  have e2 : ((xs.zip ds).map fun b => b.2.pyD) = ds.map D.pyD := by
    have : ((xs.zip ds).map fun b => b.2.pyD) = ((xs.zip ds).map (·.2)).map D.pyD := by rw [List.map_map]; rfl
    rw [this, z2]
  refine ⟨ad, xs.zip ds, D.pyD, rfl, by rw [z1]; exact hx, fun b m => ?_, ?_, ?_, fun b m => (c1 _ (mz b m).2).2, fun p hp => ?_⟩
  · obtain ⟨pd, ep⟩ := Option.isSome_iff_exists.mp (c1 _ (mz b m).2).1
    unfold D.pyD
    rw [ep]
    exact (mz b m).1.dp ep
  · rw [e2]
    intro p hp q hq
    obtain ⟨d, hd, rfl⟩ := List.mem_map.mp hp
    obtain ⟨f, hf, rfl⟩ := List.mem_map.mp hq
    exact c2 d hd f hf
  · rw [e2]
    rcases c3 with c3 | c3
    · refine .inl fun p hp => ?_
      obtain ⟨d, hd, rfl⟩ := List.mem_map.mp hp
      have := c3 d hd
      revert this
      cases d.pyD with
      | tuple l => cases l with
        | nil => intro q; cases q
        | cons x r => intro _; exact ⟨x, r, rfl⟩
      | _ => intro q; cases q
    · refine .inr fun p hp => ?_
      obtain ⟨d, hd, rfl⟩ := List.mem_map.mp hp
      have := c3 d hd
      revert this
      cases d.pyD with
      | none => intro q; cases q
      | tuple l => intro q; cases q
      | _ => intro _; exact ⟨by simp, fun l q => by simp at q⟩
  · have e3 : ((xs.zip ds).mergeSort (dataLe false fun b => b.2.pyD)).map (·.2) = sortD ds := by
      rw [List.map_mergeSort (s := fun x y => !D.lt y x) (f := fun b : V × D => b.2)]
      · rw [z2]; rfl
      · intro b _ b' _; rfl
    have r2 : RpA X.K H g (((xs.zip ds).mergeSort (dataLe false fun b => b.2.pyD)).map (·.1)) (sortD ds) := by
      rw [← e3]
      exact RpA.of_pairs fun b m => (mz b (by simpa [List.mem_mergeSort] using m)).1
    exact out_lst s r2 h3 p hp
/-- sorted(dict), its keys whole numbers -/
def opSortedD : D → M Res
  | .dct false ks _ => M.opt (D.ints? ks) fun ns => M.need (decide (ns.length < 64) && decide ns.Nodup) (pure (.new (.lst ((sortS ns).map .int))))
  | _ => M.no
def opSortedB (d : D) : M Res := match d with
  | .dct _ _ _ => opSortedD d
  | _ => opSorted d
theorem ints_keys {kvs : List (Key × V)} {ns : List Int} (e : D.ints? (kvs.map fun p => kD p.1) = some ns) : kvs.map (·.1) = ns.map Sum.inl := by
  have := ints?_of e
  have h : ∀ (l : List Key) (ns : List Int), l.map kD = ns.map D.int → l = ns.map Sum.inl := by
    intro l
    induction l with
    | nil => intro ns h; cases ns with
      | nil => rfl
      | cons n r => simp at h
    | cons k l ih => intro ns h; cases ns with
      | nil => simp at h
      | cons n r =>
        rw [List.map_cons, List.map_cons] at h
        injection h with h1 h2
        rw [List.map_cons, ← ih r h2]
        congr 1
        cases k with
        | inl i => simp [kD] at h1; rw [h1]
        | inr x => simp [kD] at h1
  exact h _ _ (by rw [List.map_map]; exact this)
theorem perm_up {l m : List Int} (p : l.Perm m) (h : l.Pairwise (· ≤ ·)) (nd : m.Nodup) : l = sortS m := by
  have nl : l.Nodup := p.nodup_iff.mpr nd
  refine up_unique (lt_of_le_nodup l h nl) (sortS_up m) fun k => by rw [p.mem_iff, sortS_mem]
theorem de_sorted (hc : X.calm = true) (hu : X.A.units + 65 < cLine) (hm : X.mg "sorted" = none) (ha : DE X z a fa) (hg : Gl X "sorted" := by rfl) (hs : starEach [a] X.env = (false, eval a X.env) :: starEach [] X.env := by rfl) (hpl : (backTo pos (starEach [] X.env)).any (·.1) = false := by rfl) :
    DE X z (.Call (.Name "sorted" p) [a] [] pos) (unM opSortedB fa) :=
  de_un (fun S σ H g x dx Q s px h => by
    unfold opSortedB at h
    split at h
    · rename_i t ks vs
      unfold opSortedD at h
      cases t with
      | true => exact h.none.elim
      | false =>
        simp only at h
        obtain ⟨ns, e, h2⟩ := h.opt
        obtain ⟨c, h3⟩ := h2.need
        rw [Bool.and_eq_true] at c
        have c1 := of_decide_eq_true c.1
        have c2 := of_decide_eq_true c.2
        obtain ⟨ad, o, ws, rfl, hx, cc, rx⟩ := px.dct
        cases cc with
        | dK kvs =>
          refine .inr ⟨ad, kvs, ns, rfl, .inl hx, ints_keys e, c1, fun ys p hp hup hn => ?_⟩
          have := perm_up hp hup c2
          subst this
          exact out_lst s (RpA.of_ints _) h3 p hn
    · exact .inl (ud_sortedA S σ H g x dx Q s px h))
    (pe_callB ((cr_sortedA hu).or (call_sortedDI hc)) hg hm (by decide +kernel) (pa_cons ha pa_nil hs) (he := hs) (hpl := hpl))
/-! ## max, min of a tuple or a list of whole numbers -/
def rMaxT (K : PySem.W.Frag) : List V → Hp → VK → Prop := fun vs H Q => ∃ (a : Addr) (n : Int) (ns : List Int), vs = [V.ref a] ∧ SqT K H a ((n :: ns).map V.int) ∧ Q (.int (ns.foldl max n)) H
def rMinT (K : PySem.W.Frag) : List V → Hp → VK → Prop := fun vs H Q => ∃ (a : Addr) (n : Int) (ns : List Int), vs = [V.ref a] ∧ SqT K H a ((n :: ns).map V.int) ∧ Q (.int (ns.foldl min n)) H
theorem dpAll_ints (ns : List Int) : DpAll K H (ns.map V.int) (ns.map .int) := by
  induction ns with
  | nil => exact .nil
  | cons n ns ih => exact .cons (.int n) ih
theorem dp_depth_ints : ∀ ns : List Int, PyData.depthAll (ns.map .int) = 0
  | [] => by simp [PyData.depthAll]
  | n :: r => by rw [List.map_cons]; simp [PyData.depthAll, PyData.depth, dp_depth_ints r]
theorem alike_ints_all (ns : List Int) : PySem.W.AlikeAll (ns.map .int) := by
  refine ⟨fun p hp q hq => ?_, fun p hp => ?_⟩
  · obtain ⟨a, _, rfl⟩ := List.mem_map.mp hp
    obtain ⟨b, _, rfl⟩ := List.mem_map.mp hq
    simp [alike]
  · obtain ⟨a, _, rfl⟩ := List.mem_map.mp hp
    simp
theorem cr_maxT (hc : X.calm = true) (hu : X.A.units + 65 < cLine) : CallR X (.builtin "max") (rMaxT X.K) := by
  intro pins s σ H vs us Q I r h
  obtain ⟨a, n, ns, rfl, sq, q⟩ := h
  obtain ⟨its, rv, pt, hz⟩ := I.tuple sq
  rw [Vals.ref1 r]
  obtain ⟨as, hr⟩ := Dp.readsAll I _ _ its (dpAll_ints (n :: ns)) rv
  refine PySem.W.max_tuple_data (x := .int n) (xs := ns.map .int) (I.ok.hd hc) (show s.heap.IsTuple a its.toArray from pt) (by simpa using hr) (alike_ints_all (n :: ns)) (by have := dp_depth_ints (n :: ns); rw [List.map_cons] at this; rw [this]; omega) fun i v h' tk bs hv rd kp => ?_
  rw [PySem.W.maxD_ints] at rd
  cases rd
  exact ⟨.int _, H, I.kept kp, ⟨_, rfl⟩, q⟩
theorem cr_minT (hc : X.calm = true) (hu : X.A.units + 65 < cLine) : CallR X (.builtin "min") (rMinT X.K) := by
  intro pins s σ H vs us Q I r h
  obtain ⟨a, n, ns, rfl, sq, q⟩ := h
  obtain ⟨its, rv, pt, hz⟩ := I.tuple sq
  rw [Vals.ref1 r]
  obtain ⟨as, hr⟩ := Dp.readsAll I _ _ its (dpAll_ints (n :: ns)) rv
  refine PySem.W.min_tuple_data (x := .int n) (xs := ns.map .int) (I.ok.hd hc) (show s.heap.IsTuple a its.toArray from pt) (by simpa using hr) (alike_ints_all (n :: ns)) (by have := dp_depth_ints (n :: ns); rw [List.map_cons] at this; rw [this]; omega) fun i v h' tk bs hv rd kp => ?_
  rw [PySem.W.minD_ints] at rd
  cases rd
  exact ⟨.int _, H, I.kept kp, ⟨_, rfl⟩, q⟩
theorem foldmax_of : ∀ (ns : List Int) (n : Int), (ns.foldl max n = n ∨ ns.foldl max n ∈ ns) ∧ n ≤ ns.foldl max n ∧ ∀ y ∈ ns, y ≤ ns.foldl max n
  | [], n => ⟨.inl rfl, Int.le_refl _, by simp⟩
  | k :: r, n => by
    rw [List.foldl_cons]
    obtain ⟨h1, h2, h3⟩ := foldmax_of r (max n k)
    refine ⟨?_, by omega, fun y hy => ?_⟩
    · rcases h1 with h1 | h1
      · rw [h1]
        by_cases c : n ≤ k
        · rw [Int.max_eq_right c]; exact .inr List.mem_cons_self
        · rw [Int.max_eq_left (by omega)]; exact .inl rfl
      · exact .inr (List.mem_cons_of_mem _ h1)
    · rcases List.mem_cons.mp hy with rfl | hy
      · omega
      · exact h3 y hy
theorem foldmin_of : ∀ (ns : List Int) (n : Int), (ns.foldl min n = n ∨ ns.foldl min n ∈ ns) ∧ ns.foldl min n ≤ n ∧ ∀ y ∈ ns, ns.foldl min n ≤ y
  | [], n => ⟨.inl rfl, Int.le_refl _, by simp⟩
  | k :: r, n => by
    rw [List.foldl_cons]
    obtain ⟨h1, h2, h3⟩ := foldmin_of r (min n k)
    refine ⟨?_, by omega, fun y hy => ?_⟩
    · rcases h1 with h1 | h1
      · rw [h1]
        by_cases c : n ≤ k
        · rw [Int.min_eq_left c]; exact .inl rfl
        · rw [Int.min_eq_right (by omega)]; exact .inr List.mem_cons_self
      · exact .inr (List.mem_cons_of_mem _ h1)
    · rcases List.mem_cons.mp hy with rfl | hy
      · omega
      · exact h3 y hy
def D.tis : D → Option (List D)
  | .tup ds => some ds
  | .lst ds => some ds
  | .rol ds => some ds
  | _ => none
def opMaxA (d : D) : M Res := M.opt (d.tis.bind D.ints?) fun
  | n :: ns => pure (.dat (.int (ns.foldl max n)))
  | [] => M.no
def opMinA (d : D) : M Res := M.opt (d.tis.bind D.ints?) fun
  | n :: ns => pure (.dat (.int (ns.foldl min n)))
  | [] => M.no
theorem de_maxA (hc : X.calm = true) (hu : X.A.units + 65 < cLine) (hm : X.mg "max" = none) (ha : DE X z a fa) (hg : Gl X "max" := by rfl) (hs : starEach [a] X.env = (false, eval a X.env) :: starEach [] X.env := by rfl) (hpl : (backTo pos (starEach [] X.env)).any (·.1) = false := by rfl) :
    DE X z (.Call (.Name "max" p) [a] [] pos) (unM opMaxA fa) :=
  de_un (fun S σ H g x dx Q s px h => by
    obtain ⟨ns, e, h2⟩ := h.opt
    obtain ⟨ds, e1, e2⟩ := Option.bind_eq_some_iff.mp e
    have := ints?_of e2; subst this
    cases ns with
    | nil => exact h2.none.elim
    | cons n ns =>
      have o := out_dat s (.int _) h2
      have key : ∀ ad xs, SqL X.K H ad xs → RpA X.K H g xs ((n :: ns).map .int) → x = .ref ad → (rMaxT X.K [x] H Q ∨ rMax X.K [x] H Q) := fun ad xs sq rx ex => by
        have := rx.ints; subst this
        obtain ⟨f1, f2, f3⟩ := foldmax_of ns n
        refine .inr ⟨ad, n :: ns, by rw [ex], sq, by simp, fun m m1 m2 => ?_⟩
        have : m = ns.foldl max n := by
          refine Int.le_antisymm ?_ (m2 _ ?_)
          · rcases List.mem_cons.mp m1 with rfl | m1
            · exact f2
            · exact f3 m m1
          · rcases f1 with f1 | f1
            · rw [f1]; exact List.mem_cons_self
            · exact List.mem_cons_of_mem _ f1
        rw [this]; exact o
      cases dx <;> simp [D.tis] at e1
      · obtain ⟨ad, xs, rfl, hx, rx⟩ := px.tup
        rw [e1] at rx
        have := rx.ints (ns := n :: ns); subst this
        exact .inl ⟨ad, n, ns, rfl, SqT.of hx, o⟩
      · obtain ⟨ad, xs, rfl, hx, rx⟩ := px.lst
        rw [e1] at rx
        exact key ad xs (SqL.of hx) rx rfl
      · obtain ⟨ad, xs, rfl, hx, rx⟩ := px.rol
        rw [e1] at rx
        exact key ad xs hx.sq rx rfl) (pe_callB ((cr_maxT hc hu).or (cr_max hc)) hg hm (by decide +kernel) (pa_cons ha pa_nil hs) (he := hs) (hpl := hpl))
theorem de_minA (hc : X.calm = true) (hu : X.A.units + 65 < cLine) (hm : X.mg "min" = none) (ha : DE X z a fa) (hg : Gl X "min" := by rfl) (hs : starEach [a] X.env = (false, eval a X.env) :: starEach [] X.env := by rfl) (hpl : (backTo pos (starEach [] X.env)).any (·.1) = false := by rfl) :
    DE X z (.Call (.Name "min" p) [a] [] pos) (unM opMinA fa) :=
  de_un (fun S σ H g x dx Q s px h => by
    obtain ⟨ns, e, h2⟩ := h.opt
    obtain ⟨ds, e1, e2⟩ := Option.bind_eq_some_iff.mp e
    have := ints?_of e2; subst this
    cases ns with
    | nil => exact h2.none.elim
    | cons n ns =>
      have o := out_dat s (.int _) h2
      have key : ∀ ad xs, SqL X.K H ad xs → RpA X.K H g xs ((n :: ns).map .int) → x = .ref ad → (rMinT X.K [x] H Q ∨ rMin X.K [x] H Q) := fun ad xs sq rx ex => by
        have := rx.ints; subst this
        obtain ⟨f1, f2, f3⟩ := foldmin_of ns n
        refine .inr ⟨ad, n :: ns, by rw [ex], sq, by simp, fun m m1 m2 => ?_⟩
        have : m = ns.foldl min n := by
          refine Int.le_antisymm (m2 _ ?_) ?_
          · rcases f1 with f1 | f1
            · rw [f1]; exact List.mem_cons_self
            · exact List.mem_cons_of_mem _ f1
          · rcases List.mem_cons.mp m1 with rfl | m1
            · exact f2
            · exact f3 m m1
        rw [this]; exact o
      cases dx <;> simp [D.tis] at e1
      · obtain ⟨ad, xs, rfl, hx, rx⟩ := px.tup
        rw [e1] at rx
        have := rx.ints (ns := n :: ns); subst this
        exact .inl ⟨ad, n, ns, rfl, SqT.of hx, o⟩
      · obtain ⟨ad, xs, rfl, hx, rx⟩ := px.lst
        rw [e1] at rx
        exact key ad xs (SqL.of hx) rx rfl
      · obtain ⟨ad, xs, rfl, hx, rx⟩ := px.rol
        rw [e1] at rx
        exact key ad xs hx.sq rx rfl) (pe_callB ((cr_minT hc hu).or (cr_min hc)) hg hm (by decide +kernel) (pa_cons ha pa_nil hs) (he := hs) (hpl := hpl))
/-! ## {} -/
def dnewM (t : Bool) : M Res := pure (.new (.dct t [] []))
theorem de_dnewK : DE X z (.Dict [] [] pos) (dnewM false) := PE.imp pe_dnewK fun σ H Q ⟨S, g, s, h⟩ => out_dct s (.dK []) .nil h
theorem de_dnewT : DE X z (.Dict [] [] pos) (dnewM true) := PE.imp pe_dnewT fun σ H Q ⟨S, g, s, h⟩ => out_dct s (.dT []) .nil h
end
end DL
end
section
set_option maxRecDepth 100000
namespace DL
open PySem PySem.Spec L2
section
variable {X : Cx} {z : Zx} {S S' : Sx} {σ : L2.St} {H H' H0 : Hp} {g g' g2 : Gh} {v : V} {d : D} {r : Res} {K : PySem.W.Frag} {mg : Str → Option Value} {pos p px pos2 p2 : Pos} {a b c e : Expr} {fa fb fc : M Res} {i j l : Nat} {x y w : Str}
/-! ## a tracked object read -/
def peekM : D → M D
  | .obj n => fun S => (S.objs[n]?).map fun e => (.ok e, S)
  | d => pure d
theorem Go.peek {α : Type} {k : D → M α} {P : α → Sx → Hp → Gh → Prop} (s : SR K z S σ H g) (p : Pk K H g v d) (h : Go K mg z (peekM d >>= k) S σ H g P) : ∃ e, Pk K H g v e ∧ Go K mg z (k e) S σ H g P := by
  by_cases q : ∃ n, d = .obj n
  · obtain ⟨n, rfl⟩ := q
    cases e : S.objs[n]? with
    | none =>
      have h := h.bnd
      unfold Go peekM at h
      simp only [e, Option.map_none] at h
    | some o =>
      have : ∃ ad, v = .ref ad ∧ g.om[n]? = some ad := by
        rcases p with p | ⟨ad, rfl, p⟩
        · cases p with | obj h => exact ⟨_, rfl, h⟩
        · cases p
      obtain ⟨ad, rfl, ho⟩ := this
      exact ⟨o, .inr ⟨ad, rfl, (s.obj n ad o ho e).1⟩, Go.ok (by show (S.objs[n]?).map _ = _; rw [e]; rfl) h.bnd s (Fr.refl _ _)⟩
  · have : peekM d = (Pure.pure d : M D) := by
      cases d <;> first | rfl | exact absurd ⟨_, rfl⟩ q
    rw [this] at h
    exact ⟨d, p, h.bnd.pure s⟩
def binMO (op : D → D → M Res) (fa fb : M Res) : M Res := fa >>= fun ra => fb >>= fun rb => chkM ra.hold >>= fun _ => peekM ra.hold.d >>= fun d => op d rb.d
theorem de_binO {e : Expr} {r : R2} {op : D → D → M Res} {fa fb : M Res} (hd : OpD X z r op) (pe : PE X e (tOp r (tD X.K X.mg z fa) (tD X.K X.mg z fb))) : DE X z e (binMO op fa fb) := by
  refine PE.imp pe fun σ H Q ⟨S, g, s, h⟩ => ?_
  refine ⟨S, g, s, h.bnd.imp fun ra S1 H1 g1 s1 f1 h1 x rx => ?_⟩
  obtain ⟨g2, s2, f2, rx2⟩ := s1.hold rx
  refine ⟨S1, g2, s2, (h1.at f2).bnd.imp fun rb S3 H3 g3 s3 f3 h3 y ry => ?_⟩
  obtain ⟨rx3, h4⟩ := Go.chk s2 s3 f3 (by cases ra <;> rfl) rx2 h3
  obtain ⟨dx, px, h5⟩ := h4.peek s3 (s3.pk rx3)
  exact hd S3 σ H3 g3 x y _ _ Q s3 px (s3.pk ry) h5
theorem de_ixO (hu : X.A.units + 65 < cLine) (ha : DE X z a fa) (hb : DE X z b fb) (hs : PlainIx b := by exact fun _ _ => rfl) : DE X z (.Subscript a b pos) (binMO opIx fa fb) := de_binO od_ix (pe_ix (ix_any hu) ha hb hs)
/-! ## op= -/
theorem isInt_pk {n : Int} (p : Pk K H g v d) (e : d.isInt = some n) : v = .int n := Pk.isInt p e
def augM (i : Nat) (op : D → D → M Res) (fe : M Res) : M Fl := varM i >>= fun ra => fe >>= fun rb => chkM ra.hold >>= fun _ => op ra.hold.d rb.d >>= fun r => setM i r >>= fun _ => pure .next
theorem ds_aug {op : Operator} {r2 : R2} {od : D → D → M Res} (i : Nat) (hd : OpD X z r2 od) (hp : PIp X op r2) (he : DE X z a fa) (hNd : X.N.Nodup) (hi : X.N[i]? = some x := by rfl) (hx : Loc X.env.scope x := by first | exact .inl rfl | exact .inr rfl)
    (hf : X.fn x = true ∨ X.env.scope.names.lookup x = some .local := by first | exact .inl rfl | exact .inr rfl | assumption) : DS X z (.AugAssign (.Name x px) op a pos) (augM i od fa) :=
  PS.imp (ps_aug hNd hi hx he hp hf) fun D0 σ H ⟨S, g, s, q⟩ => by
    unfold augM at q
    have hv : ∃ r v, varM i S = some (.ok r, S) ∧ σ[i]? = some (some v) ∧ ResOk X.K z S σ H g v r ∧ r.hold = r := by
      have q := (GoS.bnd (f := varM i) q)
      unfold Go varM at q
      cases e : S.env[i]? with
      | none => simp only [e] at q
      | some sl =>
        cases sl with
        | un => simp only [e] at q
        | dat d =>
          obtain ⟨v, e1, r⟩ := s.dat i d e
          exact ⟨.dat d, v, by unfold varM; rw [e], e1, r, rfl⟩
        | own d =>
          obtain ⟨ad, e1, _⟩ := s.own i d e
          exact ⟨.own i d, _, by unfold varM; rw [e], e1, ⟨e, e1⟩, rfl⟩
    obtain ⟨ra, v, e1, e2, rv, rh⟩ := hv
    have q1 := Go.ok e1 (GoS.bnd (f := varM i) q) s (Fr.refl _ _)
    refine ⟨v, e2, S, g, s, (GoS.bnd q1).imp fun rb S1 H1 g1 s1 f1 q2 y ry => ?_⟩
    have q3 : Go X.K X.mg z (chkM ra.hold >>= fun _ => od ra.hold.d rb.d) S1 σ H1 g1 (fun r S' H' g' => GoS X.K X.mg z (setM i r >>= fun _ => pure .next) S' σ H' g' D0) := by
      refine GoS.bnd (k := fun r => setM i r >>= fun _ => (pure .next : M Fl)) ?_
      rw [bind_assoc]
      exact q2
    rw [rh] at q3
    obtain ⟨rx, q4⟩ := Go.chk s s1 f1 rh rv q3
    exact hd S1 σ H1 g1 v y _ _ _ s1 (s1.pk rx) (s1.pk ry) (q4.imp fun r S2 H2 g2 s2 f2 q5 zv rz => GoS.set s2 rz q5)
def rIAdd : R2 := fun x y H Q => ipI (fun i j => i + j) x y H Q
theorem od_ipI {f : Int → Int → Int} : OpD X z (ipI f) (opI (fun _ _ => true) fun i j => .int (f i j)) := by
  intro S σ H g x y dx dy Q s px py h
  unfold opI at h
  split at h
  · exact ⟨_, _, px.int, py.int, out_dat s (.int _) h.need.2⟩
  · exact h.none.elim
theorem ds_augAdd (i : Nat) (he : DE X z a fa) (hNd : X.N.Nodup) (hi : X.N[i]? = some x := by rfl) (hx : Loc X.env.scope x := by first | exact .inl rfl | exact .inr rfl)
    (hf : X.fn x = true ∨ X.env.scope.names.lookup x = some .local := by first | exact .inl rfl | exact .inr rfl | assumption) : DS X z (.AugAssign (.Name x px) .Add a pos) (augM i (opI (fun _ _ => true) fun i j => .int (i + j)) fa) :=
  ds_aug i od_ipI ip_add he hNd hi hx hf
theorem ds_augSub (i : Nat) (he : DE X z a fa) (hNd : X.N.Nodup) (hi : X.N[i]? = some x := by rfl) (hx : Loc X.env.scope x := by first | exact .inl rfl | exact .inr rfl)
    (hf : X.fn x = true ∨ X.env.scope.names.lookup x = some .local := by first | exact .inl rfl | exact .inr rfl | assumption) : DS X z (.AugAssign (.Name x px) .Sub a pos) (augM i opSub fa) :=
  ds_aug i od_ipI ip_sub he hNd hi hx hf
theorem ds_augMul (i : Nat) (he : DE X z a fa) (hNd : X.N.Nodup) (hi : X.N[i]? = some x := by rfl) (hx : Loc X.env.scope x := by first | exact .inl rfl | exact .inr rfl)
    (hf : X.fn x = true ∨ X.env.scope.names.lookup x = some .local := by first | exact .inl rfl | exact .inr rfl | assumption) : DS X z (.AugAssign (.Name x px) .Mult a pos) (augM i opMul fa) :=
  ds_aug i (od_int fun _ _ => of_decide_eq_true) iop_mul he hNd hi hx hf
/-! ### x[k] op= e, of whole numbers -/
def rGetA (K : PySem.W.Frag) : V → V → Hp → VK → Prop := fun o k H Q => (∃ a xs n x, o = .ref a ∧ k = .int n ∧ SqL K H a xs ∧ 0 ≤ n ∧ n < 2 ^ 63 ∧ xs[n.toNat]? = some x ∧ Q x H) ∨ ∃ a x, o = .ref a ∧ DGet H a k (some x) ∧ Q x H
theorem get_any (hu : X.A.units + 65 < cLine) : PGet X (rGetA X.K) := by
  intro pins s σ H o k ov kv Q I ro rk h
  rcases h with ⟨a, xs, n, x, rfl, rfl, sq, n0, n1, ex, q⟩ | ⟨a, x, rfl, dg, q⟩
  · obtain rfl : ov = Value.ref a := ro
    obtain ⟨t, rfl⟩ := rk
    obtain ⟨its, rv, pl, _⟩ := I.list sq
    obtain ⟨u, hu', ru⟩ := rv.get ex
    exact wpAny_getItem_list pl.isList n0 n1 (x := u) (by simpa using hu') ⟨x, H, I, ru, q⟩
  · obtain rfl : ov = Value.ref a := ro
    exact d_getItem (by omega) I dg rk fun w' s' I' rw' => ⟨x, H, I', rw', q⟩
def D.get0 : D → D → Option D
  | .lst ds, .int k => if 0 ≤ k ∧ k < 2 ^ 63 then ds[k.toNat]? else none
  | .dct t ks vs, k => (D.lookKey t ks vs k).bind id
  | _, _ => none
def getK (i : Nat) (k : D) : M D := fun S => match whereM i S with
  | none => none
  | some (_, d) => (d.get0 k).map fun x => (.ok x, S)
def augSM (i : Nat) (op : Int → Int → Int) (fk fe : M Res) : M Fl := guardM (fun S => (whereM i S).isSome) (fk >>= fun rk => useM rk >>= fun k => getK i k >>= fun x => M.opt x.isInt fun n => fe >>= fun re => M.opt re.d.isInt fun m => storeK i k (.int (op n m)) >>= fun _ => pure .next)
theorem Go.optS {β : Type} {D0 : Ends} {o : Option β} {k : β → M Fl} (h : GoS K mg z (M.opt o k) S σ H g D0) : ∃ a, o = some a ∧ GoS K mg z (k a) S σ H g D0 := by
  cases o with
  | none => exact h.elim
  | some a => exact ⟨a, rfl, h⟩
theorem ds_augS {op : Operator} {f : Int → Int → Int} (hp : PIp X op (ipI f)) (hu : X.A.units + 65 < cLine) (i : Nat) (hk : DE X z a fa) (he : DE X z b fb) (hN : X.N[i]? = some x := by rfl) (hv : Vis X.env.scope x := by first | exact Or.inl rfl | exact Or.inr (Or.inl rfl) | exact Or.inr (Or.inr rfl)) (hd : (x == ("__debug__" : Str)) = false := by decide) (hcd : (x == ("__classdict__" : Str)) = false := by decide)
    (ha : ∀ ov iv new, augStore a ov iv new = (do holding [new, ov, iv] (setItem ov iv new); release [new, ov, iv] []; pure .next) := by intros; rfl) : DS X z (.AugAssign (.Subscript (.Name x px) a p2) op b pos) (augSM i f fa fb) :=
  PS.imp (ps_augS (pe_var hN hv hd hcd) hk (get_any hu) he hp (set_any hu) ha) fun D0 σ H ⟨S, g, s, q⟩ => by
    obtain ⟨c, q1⟩ := GoS.guard q
    obtain ⟨⟨w0, d0⟩, e0⟩ := Option.isSome_iff_exists.mp c
    obtain ⟨ad, es, _, _⟩ := s.where_ e0
    refine ⟨_, es, S, g, s, (GoS.bnd q1).imp fun rk S1 H1 g1 s1 f1 q2 k rk' => ?_⟩
    obtain ⟨S2, g2, s2, f2, rpk, q3⟩ := GoS.use s1 rk' q2
    have q4 := GoS.bnd (f := getK i rk.d) q3
    unfold Go getK at q4
    cases e2 : whereM i S2 with
    | none => simp only [e2] at q4
    | some pr =>
      obtain ⟨w2, d2⟩ := pr
      simp only [e2] at q4
      cases e3 : d2.get0 rk.d with
      | none => simp only [e3, Option.map_none] at q4
      | some xd =>
        simp only [e3, Option.map_some] at q4
        have q5 := q4 _ _ s2 (Fr.refl _ _)
        obtain ⟨n, e4, q6⟩ := Go.optS q5
        have ex : xd = .int n := isInt_eq e4
        subst ex
        obtain ⟨ad2, es2, rt2, _⟩ := s2.where_ e2
        rw [es] at es2; cases es2
        have fin : ∀ y : V, y = .int n → tD X.K X.mg z fb σ H1 fun y2 H4 => ipI f y y2 H4 fun zv H5 => rSetA (.ref ad) k zv H5 fun H6 => D0.nx σ H6 := fun y ey => by
          subst ey
          refine ⟨S2, g2, s2, (GoS.bnd q6).imp fun re S3 H3 g3 s3 f3 q7 y2 ry2 => ?_⟩
          obtain ⟨m, e5, q8⟩ := Go.optS q7
          have : y2 = .int m := (s3.pk ry2).isInt e5
          subst this
          exact ⟨n, m, rfl, rfl, q8.storeK s3 es (rpk.fr f3 s2.mu) (.int _)⟩
        unfold D.get0 at e3
        split at e3
        · rename_i ds kk hh
          split at e3
          · rename_i cc
            obtain ⟨xs, hx, rx⟩ := rt2.lstAt
            obtain ⟨wv, e6, rw6⟩ := rx.get e3
            rw [hh] at rpk
            cases rpk
            exact .inl ⟨ad, xs, _, wv, rfl, rfl, SqL.of hx, cc.1, cc.2, e6, fin wv (Pk.int (.inl rw6))⟩
          · cases e3
        · obtain ⟨o2, e7, e8⟩ := Option.bind_eq_some_iff.mp e3
          obtain ⟨ad3, rr, e9, gg, i1, i2⟩ := dget_of (.inr ⟨ad, rfl, rt2⟩) (.inl rpk) e7
          cases e9
          obtain ⟨wv, e10, rw10⟩ := i1 _ e8
          exact .inr ⟨ad, wv, rfl, e10 ▸ gg, fin wv (Pk.int (.inl rw10))⟩
        · cases e3
theorem ds_augSAdd (hu : X.A.units + 65 < cLine) (i : Nat) (hk : DE X z a fa) (he : DE X z b fb) (hN : X.N[i]? = some x := by rfl) (hv : Vis X.env.scope x := by first | exact Or.inl rfl | exact Or.inr (Or.inl rfl) | exact Or.inr (Or.inr rfl)) (hd : (x == ("__debug__" : Str)) = false := by decide) (hcd : (x == ("__classdict__" : Str)) = false := by decide)
    (ha : ∀ ov iv new, augStore a ov iv new = (do holding [new, ov, iv] (setItem ov iv new); release [new, ov, iv] []; pure .next) := by intros; rfl) : DS X z (.AugAssign (.Subscript (.Name x px) a p2) .Add b pos) (augSM i (fun i j => i + j) fa fb) :=
  ds_augS ip_add hu i hk he hN hv hd hcd ha
theorem ds_augSSub (hu : X.A.units + 65 < cLine) (i : Nat) (hk : DE X z a fa) (he : DE X z b fb) (hN : X.N[i]? = some x := by rfl) (hv : Vis X.env.scope x := by first | exact Or.inl rfl | exact Or.inr (Or.inl rfl) | exact Or.inr (Or.inr rfl)) (hd : (x == ("__debug__" : Str)) = false := by decide) (hcd : (x == ("__classdict__" : Str)) = false := by decide)
    (ha : ∀ ov iv new, augStore a ov iv new = (do holding [new, ov, iv] (setItem ov iv new); release [new, ov, iv] []; pure .next) := by intros; rfl) : DS X z (.AugAssign (.Subscript (.Name x px) a p2) .Sub b pos) (augSM i (fun i j => i - j) fa fb) :=
  ds_augS ip_sub hu i hk he hN hv hd hcd ha
/-! ## a, b = x, y -/
def parK (i j : Nat) : Res → Res → M Fl
  | .dat d, .new e => putM i (.dat d) >>= fun _ => putM j (.own e) >>= fun _ => pure .next
  | _, .new _ => M.no
  | x, y => useM x >>= fun d => chkM y >>= fun _ => useM y >>= fun e => putM i (.dat d) >>= fun _ => putM j (.dat e) >>= fun _ => pure .next
def par2M (i j : Nat) (fa fb : M Res) : M Fl := fa >>= fun ra => fb >>= fun rb => chkM ra.hold >>= fun _ => parK i j ra.hold rb
theorem GoS.chk {k : Unit → M Fl} {D0 : Ends} (s : SR K z S σ H g) (s' : SR K z S' σ H' g') (f : Fr H g H' g') (hr : r.hold = r) (r0 : ResOk K z S σ H g v r) (h : GoS K mg z (chkM r >>= k) S' σ H' g' D0) :
    ResOk K z S' σ H' g' v r ∧ GoS K mg z (k ()) S' σ H' g' D0 := by
  have q := GoS.bnd (f := chkM r) h
  obtain ⟨h1, h2⟩ := Go.chk (k := fun _ => (pure () : M Unit)) (P := fun _ S2 H2 g2 => GoS K mg z (k ()) S2 σ H2 g2 D0) s s' f hr r0 (by
    have e : (chkM r >>= fun _ => (pure () : M Unit)) = chkM r := by
      funext S0
      show M.bnd (chkM r) _ S0 = _
      unfold M.bnd
      cases hh : chkM r S0 with
      | none => rfl
      | some p => obtain ⟨e, s1⟩ := p; cases e <;> rfl
    rw [e]; exact q)
  exact ⟨h1, h2.pure s'⟩
theorem parK_ok {u t : V} {ra rb : Res} {D0 : Ends} (ra' : ResOk K z S σ H g u ra) (hh : ra.hold = ra) (rb' : ResOk K z S σ H g t rb) (s : SR K z S σ H g) (q : GoS K mg z (parK i j ra rb) S σ H g D0) : D0.nx ((σ.set i (some u)).set j (some t)) H := by
  have gen : rb.hold = rb → GoS K mg z (useM ra >>= fun d => chkM rb >>= fun _ => useM rb >>= fun e => putM i (.dat d) >>= fun _ => putM j (.dat e) >>= fun _ => pure .next) S σ H g D0 → D0.nx ((σ.set i (some u)).set j (some t)) H := fun hb q => by
    obtain ⟨S2, g2, s2, f2, rp, q2⟩ := GoS.use s ra' q
    obtain ⟨rb2, q3⟩ := GoS.chk s s2 f2 hb rb' q2
    obtain ⟨S3, g3, s3, f3, rp3, q4⟩ := GoS.use s2 rb2 q3
    exact GoS.next (mg := mg) (GoS.put (mg := mg) (σ := σ) (GoS.put (mg := mg) (σ := σ) q4 (σ' := σ)) (σ' := σ)) ((s3.put_dat (rp.fr f3 s2.mu)).put_dat rp3)
  cases rb with
  | new e =>
    cases ra with
    | dat d =>
      have s1 := s.put_dat (i := i) ra'
      obtain ⟨ad, rfl, hb, rt, h0, hm, hn⟩ := rb'
      refine GoS.next (mg := mg) (GoS.put (mg := mg) (σ := σ) (GoS.put (mg := mg) (σ := σ) q (σ' := σ)) (σ' := σ)) (s1.put_own ⟨ad, rfl, hb, rt, h0, hm, fun k ev hk => ?_⟩)
      have hk : (S.env.set i (.dat d))[k]? = some (.own ev) := hk
      rcases set_get hk with ⟨_, hk⟩ | ⟨ne, hk⟩
      · cases hk
      · rw [List.getElem?_set_ne ne]; exact hn k ev hk
    | new d => cases hh
    | own n d => exact q.elim
  | dat e => cases ra <;> first | exact gen rfl q | cases hh
  | own n e => cases ra <;> first | exact gen rfl q | cases hh
theorem ds_par2 (i j : Nat) {kt k2 : Nat} {py pt pt2 : Pos} (hc : X.calm = true) (hN : X.N.Nodup) (ha : DE X z a fa) (hb : DE X z b fb) (hi : X.N[i]? = some x := by rfl) (hj : X.N[j]? = some y := by rfl) (hij : i ≠ j := by decide)
    (hx : X.env.scope.names.lookup x = some .local := by rfl) (hy : X.env.scope.names.lookup y = some .local := by rfl)
    (h1 : starEach [a, b] X.env = (false, eval a X.env) :: starEach [b] X.env := by rfl) (h2 : starEach [b] X.env = (false, eval b X.env) :: starEach [] X.env := by rfl)
    (hw : swappedStores [.Tuple [.Name x px, .Name y py] kt pt] (.Tuple [a, b] k2 pt2) X.env = pure (some [x, y]) := by rfl)
    (hs : swapsWithSole [.Tuple [.Name x px, .Name y py] kt pt] (.Tuple [a, b] k2 pt2) pos.line X.env = pure false := by rfl) :
    DS X z (.Assign [.Tuple [.Name x px, .Name y py] kt pt] (.Tuple [a, b] k2 pt2) pos) (par2M i j fa fb) :=
  PS.imp (ps_par hc hN hi hj hij hx hy (pa_cons ha (pa_cons hb pa_nil h2) h1) hw hs) fun D0 σ H ⟨S, g, s, q⟩ => ⟨S, g, s, (GoS.bnd q).imp fun ra S1 H1 g1 s1 f1 q1 u ru => by
    obtain ⟨g2, s2, f2, ru2⟩ := s1.hold ru
    refine ⟨S1, g2, s2, (GoS.bnd q1).at f2 |>.imp fun rb S3 H3 g3 s3 f3 q3 t rt => ?_⟩
    have hh : ra.hold.hold = ra.hold := by cases ra <;> rfl
    obtain ⟨ru3, q4⟩ := GoS.chk s2 s3 f3 hh ru2 q3
    exact ⟨u, t, rfl, parK_ok ru3 hh rt s3 q4⟩⟩
end
end DL
end
section
set_option maxRecDepth 100000
namespace DL
open PySem PySem.Spec L2
section
variable {X : Cx} {z : Zx} {S S' : Sx} {σ : L2.St} {H H' H0 : Hp} {g g' g2 : Gh} {v : V} {d : D} {r : Res} {K : PySem.W.Frag} {mg : Str → Option Value} {pos p px pos2 p2 : Pos} {a b c e : Expr} {fa fb fc : M Res} {i j l : Nat} {x y w : Str}
/-! ## a new list that is never written to again -/
theorem frz_inv {pins : List (Addr × Obj)} {s : Shared} {ad : Addr} {xs : List V} (I : Inv X pins σ H s) (h : H ad = some (.lst xs)) : ∃ o, Inv X pins σ (upd H ad (.frz o (.lst xs))) s := by
  obtain ⟨hl, its, n, rv, ho⟩ := I.hok ad _ h
  exact ⟨_, I.write (x := ad) (e := ad) (h' := s.heap) (t' := s.toks) (by rw [h]; trivial) (.inl rfl) (fun b u _ q => q) ⟨_, ho⟩ ⟨ho, hl, its, n, rv, ho⟩⟩
theorem pe_frz {te : TE} (he : PE X e te) : PE X e fun σ H Q => te σ H fun x H1 => ∃ ad xs, x = .ref ad ∧ H1 ad = some (.lst xs) ∧ ∀ o, Q x (upd H1 ad (.frz o (.lst xs))) := by
  constructor
  intro pins s0 σ0 G0 Q inv hyp
  refine thn (he.run pins s0 σ0 G0 _ inv hyp) ?_
  rintro u s1 ⟨x, G1, inv1, rel, ad, xs, rfl, hx, q⟩
  obtain ⟨o, inv2⟩ := frz_inv inv1 hx
  exact ⟨_, _, inv2, rel, q o⟩
def frzK : Res → M Res
  | .new (.lst ds) => pure (.dat (.rol ds))
  | _ => M.no
def frzM (f : M Res) : M Res := f >>= frzK
theorem de_frz (he : DE X z e fa) : DE X z e (frzM fa) :=
  PE.imp (pe_frz he) fun σ H Q ⟨S, g, s, h⟩ => ⟨S, g, s, h.bnd.imp fun r S1 H1 g1 s1 f1 h1 x rx => by
    unfold frzK at h1
    split at h1
    · rename_i ds
      obtain ⟨ad, rfl, hb, rt, h0, hm, hn⟩ := rx
      obtain ⟨xs, hx, rxs⟩ := rt.lstAt
      refine ⟨ad, xs, rfl, hx, fun o => ?_⟩
      have fr : Fr H1 g1 (upd H1 ad (.frz o (.lst xs))) (g1.del ad) :=
        ⟨fun b u hb' nb => ⟨by rw [upd_ne (show b ≠ ad from fun q => nb (by rw [q]; exact hb))]; exact hb', fun q => nb q.1⟩, List.prefix_rfl⟩
      have sr : SR X.K z S1 σ (upd H1 ad (.frz o (.lst xs))) (g1.del ad) := by
        constructor
        · exact s1.len
        · intro i d e
          obtain ⟨v, e1, r⟩ := s1.dat i d e
          exact ⟨v, e1, r.fr fr s1.mu⟩
        · intro i d e
          obtain ⟨b, e1, hb', r, h0', hm'⟩ := s1.own i d e
          have ne : b ≠ ad := fun q => hn i d e (q ▸ e1)
          exact ⟨b, e1, ⟨hb', ne⟩, r.fr fr s1.mu (upd_ne ne), h0', hm'⟩
        · exact s1.inj
        · exact s1.olen
        · intro n b d e1 e2
          obtain ⟨r, hb'⟩ := s1.obj n b d e1 e2
          have ne : b ≠ ad := fun q => hm (q ▸ List.mem_iff_getElem?.mpr ⟨n, e1⟩)
          exact ⟨r.fr fr s1.mu (upd_ne ne), hb', ne⟩
        · exact s1.ond
        · intro b hb'
          rw [upd_ne hb'.2]; exact s1.mu b hb'.1
        · exact fun b q => ⟨s1.base b q, fun q2 => s1.b0 b q (q2 ▸ h0)⟩
        · exact s1.b0
        · intro b u hb' nb
          have ne : b ≠ ad := fun q => by rw [q, h0] at hb'; cases hb'
          rw [upd_ne ne]; exact s1.keep b u hb' nb
        · exact s1.on
      exact Go.ok rfl h1 sr fr _ (show ResOk X.K z S1 σ _ (g1.del ad) (.ref ad) (.dat (.rol ds)) from Rp.rol (.inl ⟨o, upd_same⟩) (rxs.fr fr s1.mu))
    · exact h1.none.elim⟩
/-! ## a new object tracked from now on -/
theorem SR.track (s : SR K z S σ H g) (rv : ResOk K z S σ H g v (.new d)) : ∃ g', SR K z { S with objs := S.objs ++ [d] } σ H g' ∧ Fr H g H g' ∧ Rp K H g' v (.obj S.objs.length) := by
  obtain ⟨ad, rfl, hb, rt, h0, hm, hn⟩ := rv
  have fr : Fr H g H ⟨g.bad, g.om ++ [ad]⟩ := ⟨fun b u h n => ⟨h, n⟩, List.prefix_append _ _⟩
  refine ⟨⟨g.bad, g.om ++ [ad]⟩, ?_, fr, .obj ?_⟩
  · constructor
    · exact s.len
    · intro i d e
      obtain ⟨v, e1, r⟩ := s.dat i d e
      exact ⟨v, e1, r.fr fr s.mu⟩
    · intro i d e
      obtain ⟨b, e1, hb', r, h0', hm'⟩ := s.own i d e
      refine ⟨b, e1, hb', r.fr fr s.mu rfl, h0', fun q => ?_⟩
      rcases List.mem_append.mp q with q | q
      · exact hm' q
      · rw [List.mem_singleton] at q
        exact hn i d e (q ▸ e1)
    · exact s.inj
    · show (S.objs ++ [d]).length = (g.om ++ [ad]).length
      rw [List.length_append, List.length_append, s.olen]; rfl
    · intro n b d' e1 e2
      have e1 : (g.om ++ [ad])[n]? = some b := e1
      have e2 : (S.objs ++ [d])[n]? = some d' := e2
      by_cases q : n < g.om.length
      · rw [List.getElem?_append_left q] at e1
        rw [List.getElem?_append_left (by rw [s.olen]; exact q)] at e2
        obtain ⟨r, hb'⟩ := s.obj n b d' e1 e2
        exact ⟨r.fr fr s.mu rfl, hb'⟩
      · rw [List.getElem?_append_right (by omega)] at e1
        rw [List.getElem?_append_right (by rw [s.olen]; omega), s.olen] at e2
        have : n - g.om.length = 0 := by
          have := (List.getElem?_eq_some_iff.mp e1).1
          simp at this; exact this
        rw [this] at e1 e2
        cases e1; cases e2
        exact ⟨rt.fr fr s.mu rfl, hb⟩
    · show (g.om ++ [ad]).Nodup
      rw [List.nodup_append]
      exact ⟨s.ond, by simp, fun x hx y hy q => hm (by rw [List.mem_singleton] at hy; rw [← hy, ← q]; exact hx)⟩
    · exact s.mu
    · exact s.base
    · exact s.b0
    · exact fun b u h n => s.keep b u h fun q => n (List.mem_append_left _ q)
    · intro b hb'
      rcases List.mem_append.mp hb' with q | q
      · exact s.on b q
      · rw [List.mem_singleton] at q
        exact .inr (q ▸ h0)
  · rw [s.olen, List.getElem?_append_right (Nat.le_refl _), Nat.sub_self]; rfl
def trkM : Res → M D
  | .new d => fun S => some (.ok (.obj S.objs.length), { S with objs := S.objs ++ [d] })
  | _ => M.no
def asgTM (i : Nat) (f : M Res) : M Fl := f >>= fun r => trkM r >>= fun d => putM i (.dat d) >>= fun _ => pure .next
theorem ds_setT (i : Nat) {x : Str} {e : Expr} {fe : M Res} {pos' : Pos} (hN : X.N.Nodup) (he : DE X z e fe) (hi : X.N[i]? = some x := by rfl) (hx : Loc X.env.scope x := by first | exact .inl rfl | exact .inr rfl)
    (hs : swapsWith e (some (.Name x pos')) pos.line X.env = pure false := by rfl) (hf : X.fn x = true ∨ X.env.scope.names.lookup x = some .local := by first | exact .inl rfl | exact .inr rfl | assumption) :
    DS X z (.Assign [.Name x pos'] e pos) (asgTM i fe) :=
  PS.imp (ps_set hN hi hx he hs hf) fun D0 σ H ⟨S, g, s, q⟩ => ⟨S, g, s, (GoS.bnd q).imp fun r S1 H1 g1 s1 f1 q1 v rv => by
    cases r with
    | dat d => exact q1.elim
    | own n d => exact q1.elim
    | new d =>
      obtain ⟨g2, s2, f2, rp⟩ := s1.track rv
      have q2 : GoS X.K X.mg z (putM i (.dat (.obj S1.objs.length)) >>= fun _ => (pure .next : M Fl)) { S1 with objs := S1.objs ++ [d] } σ H1 g1 D0 := q1
      exact GoS.next (mg := X.mg) (GoS.put (mg := X.mg) (σ := σ) (GoS.at (f := putM i (.dat (.obj S1.objs.length)) >>= fun _ => (pure .next : M Fl)) q2 f2)) (s2.put_dat rp)⟩
end

/-! ## the law's end -/
theorem only_rol {K : PySem.W.Frag} {H : Hp} {a : Addr} {xs : List V} (O : Only H) (h : SqL K H a xs) : RoL K H a xs := by
  rcases h with (h | h) | h
  · rcases O a with q | ⟨o, ys, q⟩
    · rw [h] at q; cases q
    · rw [h] at q; cases q
  · exact .inl h
  · exact .inr h
theorem law_run {P : Program} {w : World} {K : PySem.W.Frag} {mg mb : Str → Option Value} {k : Nat} {fa a : Addr} {fd : FuncData} {x : Str} {den : Den} {s1 : Shared} {us : List Value} {ns : List Int}
    (inK : K.In s1.heap) (nsG : s1.heap.Ns mainGlobals mg) (nsB : s1.heap.Ns builtinsNs mb) (blt : ∀ y : Str, y ≠ "__name__" → mb y = bootBuiltins y) (nol : s1.heap.NoLimit) (nog : s1.gens = #[])
    (at_ : s1.heap.get? a = some { cls := .type "list", data := .seq us.toArray }) (inp : PyProof.Rows.IntsAre us ns) (few : ns.length ≤ sizeLine) (room : Room k callerA)
    (F : ∀ base : Heap, K.In base → base.Ns mainGlobals mg → FnG P w K mg base k fa fd [x] (spDen K mg 1 den)) (bnd : Binds K fd [x] [])
    (hden : ∃ objs', den [.rol (ns.map .int)] [] = some (.ok (.dat (.bl true)), objs')) :
    codeAny (model P w) callerA (.call (.ref fa) ⟨[.ref a], []⟩) (fun r s' => r = .ok (.ret (.bool true)) ∧ OldK s1.heap s'.heap ∧ s'.os = s1.os ∧ PyProof.Rows.AllBare s'.gens) s1 := by
  have rv := vals_ints inp
  have len := inp.length
  -- whichever heap is tracked
  have main : ∀ H : Hp, Only H → SqL K H a (ns.map V.int) → HOk P w H s1.heap → (∀ b, H b ≠ none → b = a) → (H a ≠ none → K.lookup a = none) →
      codeAny (model P w) callerA (.call (.ref fa) ⟨[.ref a], []⟩) (fun r s' => r = .ok (.ret (.bool true)) ∧ OldK s1.heap s'.heap ∧ s'.os = s1.os ∧ PyProof.Rows.AllBare s'.gens) s1 := by
    intro H only sq hok just notK
    have below : ∀ {b : Addr} {o : Obj}, s1.heap.get? b = some o → H b = none → (hidT s1.heap H).get? b = some o := fun e n => hidT_get e n
    have free : ∀ {b : Addr} {o : Obj} {es : Array DictEntry} {ep : Nat}, s1.heap.get? b = some o → o.data = .dict es ep → H b = none := fun {b o es ep} e dd => by
      cases q : H b with
      | none => rfl
      | some u =>
        have eb : b = a := just b (by rw [q]; simp)
        subst eb
        rw [at_] at e; cases e
        exact nomatch (show Data.seq us.toArray _ = Data.dict es ep from dd)
    have nsT : ∀ {b : Addr} {m : Str → Option Value}, s1.heap.Ns b m → (hidT s1.heap H).Ns b m := fun {b m} ⟨o, es, ep, e, dd, rest⟩ => ⟨o, es, ep, below e (free e dd), dd, rest⟩
    have inT : K.In (hidT s1.heap H) := fun b o e => below (inK b o e) (by
      cases q : H b with
      | none => rfl
      | some u =>
        have eb : b = a := just b (by rw [q]; simp)
        subst eb
        rw [notK (by rw [q]; simp)] at e; cases e)
    have modT : Mod K mg (hidT s1.heap H) := ⟨inT, nsT nsG, ⟨mb, nsT nsB, blt⟩, let ⟨mc, h1, h2⟩ := nol; ⟨mc, nsT h1, h2⟩⟩
    have env0 : Env0 P w K mg (hidT s1.heap H) callerA [] s1 H := ⟨rfl, modT, fun b o e => of_hidT e, Nat.le_of_eq (hidT_size _ _), trivial, fun b hb => absurd (show b ∈ ([] : List Addr) from hb) (by simp), hok, PyProof.Rows.AllBare.of_eq nog⟩
    obtain ⟨objs', hd⟩ := hden
    have prom : spDen K mg 1 den [.ref a] H (fun v _ => v = .bl true) fun _ _ _ => False :=
      ⟨⟨fun _ => False, []⟩, [.rol (ns.map .int)], [], rfl, fun b q => q.elim, List.nodup_nil, .cons (.rol (only_rol only sq) (RpA.of_ints ns)) .nil, ⟨rfl, fun n b d q => by simp at q⟩, by
        rw [hd]
        exact fun H' g' v _ rok => by cases rok; rfl⟩
    refine codeAny_mono ((F _ inT (nsT nsG)).run callerA [] s1 H ⟨[.ref a], []⟩ [.ref a] [.ref a] _ _ rfl room env0 (bnd s1 [.ref a] inK rfl) (.cons rfl .nil) prom) fun r s' h => ?_
    cases r with
    | error e => obtain ⟨_, _, _, _, _, _, _, _, _, _, _, _, no⟩ := h; exact no.elim
    | ok fl =>
      cases fl with
      | next => exact h.elim
      | brk => exact h.elim
      | cont => exact h.elim
      | ret u =>
        obtain ⟨v, H', os, bare, un, hok', rel, rfl⟩ := h
        obtain rfl : u = Value.bool true := rel
        refine ⟨rfl, OldK.of_keep fun b o e => ?_, os, bare⟩
        cases q : H b with
        | none => exact un.keep b o e q (fun hb => absurd (show b ∈ ([] : List Addr) from hb) (by simp)) (by simp)
        | some u =>
          rcases only b with n | ⟨ob, xs, fz⟩
          · rw [q] at n; cases n
          · have fz2 := un.frzs b ob _ fz
            obtain ⟨e1, _⟩ := hok b _ fz
            obtain ⟨e2, _⟩ := hok' b _ fz2
            rw [e] at e1; cases e1
            exact e2
  cases hk : K.lookup a with
  | some o =>
    have e := inK a o hk
    rw [at_] at e
    cases e
    exact main (fun _ => none) (fun _ => .inl rfl) (.inr ⟨_, us.toArray, _, hk, rfl, rfl, rfl, by rw [List.size_toArray, len]; exact few, by simpa using rv⟩) (fun b u q => by cases q) (fun b q => absurd rfl q) fun q => absurd rfl q
  | none =>
    let F0 : HO := .frz { cls := .type "list", data := .seq us.toArray } (.lst (ns.map V.int))
    have is : (fun b => if b = a then some F0 else none : Hp) a = some F0 := if_pos rfl
    refine main (fun b => if b = a then some F0 else none) (fun b => ?_) (.inl (.inr ⟨_, is⟩)) (fun b u q => ?_) (fun b q => ?_) fun _ => hk
    · by_cases hb : b = a
      · exact .inr ⟨_, _, if_pos hb⟩
      · exact .inl (if_neg hb)
    · by_cases hb : b = a
      · cases (if_pos hb).symm.trans q
        subst hb
        exact ⟨at_, by rw [List.length_map]; exact few, us, _, rv, at_⟩
      · cases (if_neg hb).symm.trans q
    · by_cases hb : b = a
      · exact hb
      · exact absurd (if_neg hb) q
/-- the goal that k_head leaves, from the law's function on data -/
theorem walkD {l : PySem.W.OpenLaw} {n k : Nat} {q : Program} {loose : List Str} {XP : (Str → Option Value) → Heap → Prop} {YP : World → Heap → Prop} {d : DefRec} {K : Params → PySem.W.Frag} {x : Str} {den : Den}
    (most : l.most = some n) (few : n ≤ sizeLine) (nod : d.params.defaults = []) (room : Room k callerA) (hY : ∀ (w : World) (h : Heap), YP w h → (K w.params).In h)
    (F : ∀ (w : World) (mg : Str → Option Value) (fa : Addr) (h : Heap), (K w.params).In h → h.Ns mainGlobals mg → mg d.name = some (.ref fa) →
      ∃ fd : FuncData, Binds (K w.params) fd [x] [] ∧ ∀ base : Heap, (K w.params).In base → base.Ns mainGlobals mg → FnG l.prog w (K w.params) mg base k fa fd [x] (spDen (K w.params) mg 1 den))
    (hden : ∀ ns : List Int, ns.length ≤ n → ∃ objs', den [.rol (ns.map .int)] [] = some (.ok (.dat (.bl true)), objs')) : PySem.W.WalkO q loose XP YP l.row.toRowW d [] (fun f vs => PySem.call f vs) := by
  refine Att.attach_call most nod fun w s0 s1 mg mb fa o pm cd doc a us ns G Y ho hd hcd hmg at_ inp len nog => ?_
  have inK := hY w _ Y
  obtain ⟨fd, bnd, hF⟩ := F w mg fa _ inK G.T.g hmg
  exact law_run inK G.T.g G.T.b G.T.builtins G.T.nolimit nog at_ inp (Nat.le_trans len few) room hF bnd (hden ns len)
end DL
end
section
set_option maxRecDepth 100000
namespace DL
open PySem PySem.Spec L2
/-- turns that a while may take -/
def whFuel : Nat := 1000000
theorem u65 {k : Nat} {A : Around} (r : Room k A) : A.units + 65 < cLine := by have := r.un; omega
theorem u64 {k : Nat} {A : Around} (r : Room k A) : A.units + 64 < cLine := by have := r.un; omega
theorem tk_blk {X : Cx} {z : Zx} (h : z.W = blkW) : Takes X z.W := fun u s' x => by
  rw [h] at x
  obtain ⟨_, _, _, _, _, _, _, _, _, _, _, _, _, _, _, _, no⟩ := x
  exact no.elim
/-- a def stands at the top -/
structure Fn0 (K : PySem.W.Frag) (mg : Str → Option Value) (x : Str) (st : Stmt) (ps : List Str) : Prop where
  ex : ∃ f fd, mg x = some (.ref f) ∧ Fun K x x st f fd ∧ Binds K fd ps []
/-- a def keeps its mirror -/
structure Dn (P : Program) (w : World) (K : PySem.W.Frag) (mg : Str → Option Value) (base : Heap) (k : Nat) (x : Str) (ps : List Str) (den : Den) : Prop where
  ex : ∃ f fd, mg x = some (.ref f) ∧ PySem.W.keepIn K (.ref f) = true ∧ Binds K fd ps [] ∧ FnG P w K mg base k f fd ps (spDen K mg ps.length den)
section
variable {P : Program} {w : World} {K : PySem.W.Frag} {mg : Str → Option Value} {base : Heap} {x : Str} {st : Stmt} {ps N : List Str} {k j : Nat} {den : Den}
theorem Dn.mono (D : Dn P w K mg base j x ps den) (h : j ≤ k) : Dn P w K mg base k x ps den :=
  let ⟨f, fd, a, b, c, F⟩ := D.ex
  ⟨f, fd, a, b, c, F.mono h⟩
theorem Fn0.none_ (F : Fn0 K mg x st ps) : Dn P w K mg base k x ps (fun _ _ => none) := by
  obtain ⟨f, fd, a, F, b⟩ := F.ex
  exact ⟨f, fd, a, F.kp, b, ⟨fun vs H Q E ⟨_, _, _, l, _⟩ => l, fun A outer s H args us vs Q E _ _ _ _ _ ⟨_, _, _, _, _, _, _, _, no⟩ => no.elim⟩⟩
theorem okN {m : M Fl} (F : Fn0 K mg x st ps) (Sc : FnScope N ps (defScope st))
    (bod : ∀ {f : Addr} (cdv : Value) (A : Around) (outer : List Env) (s : Shared) (H : Hp) (E : XK) (z : Zx), A.guards = some [] → Room k (A.deeper (PyProof.Rows.envOfC x (defScope st) s.heap.objs.size f cdv)) → Takes (bodyX P w K mg base N x st f cdv A outer s H E) z.W →
      DB (bodyX P w K mg base N x st f cdv A outer s H E) z (defBody st) m) : Dn P w K mg base (k + 1) x ps (runB N.length m) := by
  obtain ⟨f, fd, a, F, b⟩ := F.ex
  exact ⟨f, fd, a, F.kp, b, okD F Sc fun cdv A outer s H E z => bod cdv A outer s H E z⟩
theorem fn0_mk {h : Heap} {f : Addr} {oc : Value} {od an : Option Addr} {osl : Array (Option Value)} {kV doc pm cdv ct : Value} (X : K.In h) (G : h.Ns mainGlobals mg) (a : PySem.W.nsIn K mainGlobals x = some (some (.ref f)))
    (l : K.lookup f = some ⟨oc, od, .func (PySem.W.fnOf x x (defArgs st) (defBody st) (defScope st) .none kV doc pm an cdv ct), osl⟩) (c : PySem.W.codeIn K cdv x = true) (kp : PySem.W.keepIn K (.ref f) = true)
    (b : ∀ F : Fun K x x st f (PySem.W.fnOf x x (defArgs st) (defBody st) (defScope st) .none kV doc pm an cdv ct), Binds K (PySem.W.fnOf x x (defArgs st) (defBody st) (defScope st) .none kV doc pm an cdv ct) ps []) : Fn0 K mg x st ps :=
  ⟨f, _, PySem.W.mg_of X G a, fun_mk (st := st) l c kp, b (fun_mk (st := st) l c kp)⟩
end
section
variable {X : Cx} {z : Zx} {pos p : Pos} {e : Expr} {es : List Expr} {fs : M (List Res)} {x : Str} {ps : List Str} {k n : Nat} {den : Den}
theorem de_cal (D : Dn X.prog X.w X.K X.mg X.base k x ps den) (gd : X.A.guards = some []) (room : Room k X.A) (tk : Takes X z.W) (ha : DAH X z (e :: es) fs) (hg : Gl X x := by rfl) (hdb : (x == ("__debug__" : Str)) = false := by decide)
    (he : starEach (e :: es) X.env = (false, eval e X.env) :: starEach es X.env := by rfl) (hpl : (backTo pos (starEach es X.env)).any (·.1) = false := by rfl) (hn : ps.length = n := by rfl) : DE X z (.Call (.Name x p) (e :: es) [] pos) (callM n den fs) := by
  subst hn
  obtain ⟨f, fd, a, b, c, F⟩ := D.ex
  exact de_call F gd room tk a b c ha hg hdb he hpl
/-! ## comparisons as tests -/
def D.isBl : D → Option Bool
  | .bl b => some b
  | _ => Option.none
def cmpT (op : D → D → M Res) (fa fb : M Res) : M Bool := binM op fa fb >>= fun r => M.opt r.d.isBl pure
variable {a b : Expr} {fa fb : M Res}
theorem isBl_pk {K : PySem.W.Frag} {H : Hp} {g : Gh} {v : V} {d : D} {k : Bool} (p : Pk K H g v d) (e : d.isBl = some k) : v = .bl k := by
  cases d <;> simp [D.isBl] at e
  subst e; exact p.bl
theorem dt_bin {r : R2} {op : D → D → M Res} (hd : OpD X z r op) (pt : PT X e (tTest (tOp r (tD X.K X.mg z fa) (tD X.K X.mg z fb)))) : DT X z e (cmpT op fa fb) := by
  refine PT.imp pt fun σ H Q ⟨S, g, s, h⟩ => ?_
  have h' : Go X.K X.mg z (binM op fa fb) S σ H g fun r S' H' g' => ∀ v, ResOk X.K z S' σ H' g' v r → ∃ k, v = .bl k ∧ Q k H' := h.bnd.imp fun r S1 H1 g1 s1 f1 h1 v rv => by
    obtain ⟨k, e1, q⟩ := h1.opt
    exact ⟨k, isBl_pk (s1.pk rv) e1, q.pure s1⟩
  unfold binM at h'
  refine ⟨S, g, s, h'.bnd.imp fun ra S1 H1 g1 s1 f1 h1 x rx => ?_⟩
  obtain ⟨g2, s2, f2, rx2⟩ := s1.hold rx
  refine ⟨S1, g2, s2, (h1.at f2).bnd.imp fun rb S3 H3 g3 s3 f3 h3 y ry => ?_⟩
  obtain ⟨rx3, h4⟩ := Go.chk s2 s3 f3 (by cases ra <;> rfl) rx2 h3
  exact hd S3 σ H3 g3 x y _ _ _ s3 (s3.pk rx3) (s3.pk ry) h4
theorem dt_lt (ha : DE X z a fa) (hb : DE X z b fb) : DT X z (.Compare a [.Lt] [b] pos) (cmpT opLt fa fb) := dt_bin od_cmp (pt_cmpR op_lt ha hb (nomark _))
theorem dt_le (ha : DE X z a fa) (hb : DE X z b fb) : DT X z (.Compare a [.LtE] [b] pos) (cmpT opLe fa fb) := dt_bin od_cmp (pt_cmpR op_le ha hb (nomark _))
theorem dt_gt (ha : DE X z a fa) (hb : DE X z b fb) : DT X z (.Compare a [.Gt] [b] pos) (cmpT opGt fa fb) := dt_bin od_cmp (pt_cmpR op_gt ha hb (nomark _))
theorem dt_ge (ha : DE X z a fa) (hb : DE X z b fb) : DT X z (.Compare a [.GtE] [b] pos) (cmpT opGe fa fb) := dt_bin od_cmp (pt_cmpR op_ge ha hb (nomark _))
theorem dt_eq (hu : X.A.units + 64 < cLine) (ha : DE X z a fa) (hb : DE X z b fb) : DT X z (.Compare a [.Eq] [b] pos) (cmpT (opEq false) fa fb) := dt_bin od_eq (pt_cmpR (op_eqD hu) ha hb (nomark _))
theorem dt_ne (hu : X.A.units + 64 < cLine) (ha : DE X z a fa) (hb : DE X z b fb) : DT X z (.Compare a [.NotEq] [b] pos) (cmpT (opEq true) fa fb) := dt_bin od_ne (pt_cmpR (op_neD hu) ha hb (nomark _))
theorem dt_is (ha : DE X z a fa) (hb : DE X z b fb) : DT X z (.Compare a [.Is] [b] pos) (cmpT (opIsN false) fa fb) := dt_bin od_isN (pt_cmpR op_isN ha hb (nomark _))
theorem dt_isnot (ha : DE X z a fa) (hb : DE X z b fb) : DT X z (.Compare a [.IsNot] [b] pos) (cmpT (opIsN true) fa fb) := dt_bin od_notN (pt_cmpR op_notN ha hb (nomark _))
theorem dt_in (hu : X.A.units + 65 < cLine) (ha : DE X z a fa) (hb : DE X z b fb) (hm : behindInMarks .In b = false := by rfl) : DT X z (.Compare a [.In] [b] pos) (cmpT (opIn false) fa fb) := dt_bin od_in (pt_cmpR (op_inA hu) ha hb hm)
theorem dt_notin (hu : X.A.units + 65 < cLine) (ha : DE X z a fa) (hb : DE X z b fb) (hm : behindInMarks .NotIn b = false := by rfl) : DT X z (.Compare a [.NotIn] [b] pos) (cmpT (opIn true) fa fb) := dt_bin od_notIn (pt_cmpR (op_notInA hu) ha hb hm)
end
end DL
end
section
set_option maxRecDepth 100000
namespace DL
open PySem L2
/-! ## what a mirror's run gives -/
def Rn {α : Type} (m : M α) (S : Sx) (Q : α → Sx → Prop) : Prop := match m S with
  | some (.ok a, S') => Q a S'
  | _ => False
section
variable {α β : Type} {f g : M α} {k : α → M β} {S : Sx} {i j n : Nat} {d e : D} {o : List D} {env : List Slot}
theorem Rn.mono {Q Q' : α → Sx → Prop} (h : Rn f S Q) (hq : ∀ a S', Q a S' → Q' a S') : Rn f S Q' := by
  unfold Rn at h ⊢
  split at h
  · exact hq _ _ h
  · exact h.elim
theorem Rn.of {Q : α → Sx → Prop} {a : α} {S' : Sx} (h : f S = some (.ok a, S')) (q : Q a S') : Rn f S Q := by
  unfold Rn; rw [h]; exact q
theorem Rn.ex {Q : α → Sx → Prop} (h : Rn f S Q) : ∃ a S', f S = some (.ok a, S') ∧ Q a S' := by
  unfold Rn at h
  split at h
  · rename_i a S' e; exact ⟨a, S', e, h⟩
  · exact h.elim
theorem rn_bind {Q : β → Sx → Prop} : Rn (f >>= k) S Q = Rn f S fun a S' => Rn (k a) S' Q := by
  show (match M.bnd f k S with | some (.ok a, S') => Q a S' | _ => False) = _
  unfold Rn M.bnd
  cases f S with
  | none => rfl
  | some p => obtain ⟨r, S1⟩ := p; cases r <;> rfl
theorem rn_pure {Q : α → Sx → Prop} {a : α} : Rn (pure a) S Q = Q a S := rfl
theorem rn_no {Q : α → Sx → Prop} : Rn (M.no : M α) S Q = False := rfl
theorem rn_opt {γ : Type} {Q : β → Sx → Prop} {o : Option γ} {k : γ → M β} : Rn (M.opt o k) S Q = ∃ a, o = some a ∧ Rn (k a) S Q := by
  cases o with
  | none => exact propext ⟨fun h => h.elim, fun ⟨a, h, _⟩ => by cases h⟩
  | some a => exact propext ⟨fun h => ⟨a, rfl, h⟩, fun ⟨b, h, q⟩ => by cases h; exact q⟩
theorem rn_opt1 {γ : Type} {Q : β → Sx → Prop} {a : γ} {k : γ → M β} : Rn (M.opt (some a) k) S Q = Rn (k a) S Q := rfl
theorem rn_need {Q : α → Sx → Prop} {c : Bool} : Rn (M.need c f) S Q = (c = true ∧ Rn f S Q) := by
  unfold Rn M.need
  by_cases h : c = true
  · simp [h]
  · simp [h]
theorem rn_ite {Q : α → Sx → Prop} {c : Prop} [Decidable c] : Rn (if c then f else g) S Q = if c then Rn f S Q else Rn g S Q := by split <;> rfl
theorem rn_var {Q : Res → Sx → Prop} : Rn (varM i) ⟨env, o⟩ Q = match env[i]? with | some (.dat d) => Q (.dat d) ⟨env, o⟩ | some (.own d) => Q (.own i d) ⟨env, o⟩ | _ => False := by
  unfold Rn varM
  cases env[i]? with
  | none => rfl
  | some s => cases s <;> rfl
theorem rn_put {Q : Unit → Sx → Prop} {x : Slot} : Rn (putM i x) ⟨env, o⟩ Q = Q () ⟨env.set i x, o⟩ := rfl
theorem rn_useD {Q : D → Sx → Prop} : Rn (useM (.dat d)) S Q = Q d S := rfl
theorem rn_useN {Q : D → Sx → Prop} : Rn (useM (.new d)) S Q = Q d S := rfl
theorem rn_useO {Q : D → Sx → Prop} : Rn (useM (.own i d)) ⟨env, o⟩ Q = (env[i]? = some (.own d) ∧ Q d ⟨env.set i (.dat d), o⟩) := by
  unfold Rn
  rw [useM_own]
  by_cases h : env[i]? = some (.own d)
  · simp [h, Sx.put]
  · simp [h]
theorem rn_chkD {Q : Unit → Sx → Prop} : Rn (chkM (.dat d)) S Q = Q () S := rfl
theorem rn_chkN {Q : Unit → Sx → Prop} : Rn (chkM (.new d)) S Q = Q () S := rfl
theorem rn_chkO {Q : Unit → Sx → Prop} : Rn (chkM (.own i d)) ⟨env, o⟩ Q = (env[i]? = some (.own d) ∧ Q () ⟨env, o⟩) := by
  unfold Rn
  rw [chkM_own]
  by_cases h : env[i]? = some (.own d)
  · simp [h]
  · simp [h]
theorem rn_peekO {Q : D → Sx → Prop} : Rn (peekM (.obj n)) ⟨env, o⟩ Q = ∃ e, o[n]? = some e ∧ Q e ⟨env, o⟩ := by
  unfold Rn peekM
  cases h : o[n]? with
  | none => simp [h]
  | some e => simp [h]
/-- a def's -/
def Dr (den : Den) (as o : List D) (Q : Res → List D → Prop) : Prop := match den as o with
  | some (.ok r, o') => Q r o'
  | _ => False
theorem rn_call {Q : Res → Sx → Prop} {den : Den} {fs : M (List Res)} : Rn (callM n den fs) S Q = Rn fs S fun rs S' => rs.length = n ∧ Dr den (rs.map (·.d)) S'.objs fun r o' =>
    if (r.safe && o'.all fun o => D.imms o.parts) = true then Q r ⟨S'.env, o'⟩ else Q r (putAll rs ⟨S'.env, o'⟩) := by
  refine (rn_bind (f := fs)).trans ?_
  congr 1
  funext rs S'
  unfold Rn Dr
  by_cases h : rs.length = n
  · simp only [h, if_true, true_and]
    cases den (rs.map (·.d)) S'.objs with
    | none => rfl
    | some p =>
      obtain ⟨r, o'⟩ := p
      cases r with
      | error x => rfl
      | ok r =>
        by_cases c : (r.safe && o'.all fun o => D.imms o.parts) = true
        · simp [c]
        · simp [c]
  · simp only [h, if_false, false_and]
theorem Dr.of {den : Den} {as o o' : List D} {r : Res} {Q : Res → List D → Prop} (h : den as o = some (.ok r, o')) (q : Q r o') : Dr den as o Q := by
  unfold Dr; rw [h]; exact q
theorem Dr.mono {den : Den} {as o : List D} {Q Q' : Res → List D → Prop} (h : Dr den as o Q) (q : ∀ r o', Q r o' → Q' r o') : Dr den as o Q' := by
  unfold Dr at h ⊢
  split at h
  · exact q _ _ h
  · exact h.elim
theorem Dr.ex {den : Den} {as o : List D} {Q : Res → List D → Prop} (h : Dr den as o Q) : ∃ r o', den as o = some (.ok r, o') ∧ Q r o' := by
  unfold Dr at h
  split at h
  · rename_i r o' e; exact ⟨r, o', e, h⟩
  · exact h.elim
/-- what a body's end means -/
def flOut (Q : Res → List D → Prop) : Fl → Sx → Prop
  | .next, S => Q (.dat .non) S.objs
  | .ret r, S => Q (outR r) S.objs
  | _, _ => False
theorem dr_run {b : M Fl} {as : List D} {Q : Res → List D → Prop} : Dr (runB n b) as o Q = Rn b ⟨as.map .dat ++ List.replicate (n - as.length) .un, o⟩ (flOut Q) := by
  unfold Dr runB Rn
  cases b ⟨as.map .dat ++ List.replicate (n - as.length) .un, o⟩ with
  | none => rfl
  | some p =>
    obtain ⟨r, S'⟩ := p
    cases r with
    | error x => rfl
    | ok fl => cases fl <;> rfl
theorem rn_seq {Q : Fl → Sx → Prop} {f h : M Fl} : Rn (seqM f h) S Q = Rn f S fun fl S' => match fl with | .next => Rn h S' Q | x => Q x S' := by
  unfold seqM
  rw [rn_bind]
  congr 1
  funext fl S'
  cases fl <;> rfl
theorem rn_get {Q : D → Sx → Prop} {k : D} : Rn (getK i k) S Q = ∃ w d x, whereM i S = some (w, d) ∧ d.get0 k = some x ∧ Q x S := by
  unfold Rn getK
  cases h : whereM i S with
  | none => simp
  | some p =>
    obtain ⟨w, d⟩ := p
    simp only
    cases h2 : d.get0 k with
    | none => exact propext ⟨fun q => q.elim, fun ⟨_, _, _, e, q, _⟩ => by cases e; rw [h2] at q; cases q⟩
    | some x => exact propext ⟨fun q => ⟨_, _, _, rfl, h2, q⟩, fun ⟨_, _, _, e, e2, q⟩ => by cases e; rw [h2] at e2; cases e2; exact q⟩
theorem rn_store {Q : Unit → Sx → Prop} {k x : D} : Rn (storeK i k x) S Q = ∃ w d d', whereM i S = some (w, d) ∧ d.store k x = some d' ∧ Q () (S.store i w d') := by
  unfold Rn storeK
  cases h : whereM i S with
  | none => simp
  | some p =>
    obtain ⟨w, d⟩ := p
    simp only
    cases h2 : d.store k x with
    | none => exact propext ⟨fun q => q.elim, fun ⟨_, _, _, e, q, _⟩ => by cases e; rw [h2] at q; cases q⟩
    | some x => exact propext ⟨fun q => ⟨_, _, _, rfl, h2, q⟩, fun ⟨_, _, _, e, e2, q⟩ => by cases e; rw [h2] at e2; cases e2; exact q⟩
theorem rn_guard {Q : α → Sx → Prop} {c : Sx → Bool} : Rn (guardM c f) S Q = (c S = true ∧ Rn f S Q) := by
  unfold Rn guardM
  by_cases h : c S = true <;> simp [h]
theorem rn_meth {Q : Res → Sx → Prop} {op : D → D → Option (D × D)} {x : D} : Rn (methK i op x) S Q = ∃ w d r d', whereM i S = some (w, d) ∧ op d x = some (r, d') ∧ Q (.dat r) (S.store i w d') := by
  unfold Rn methK
  cases h : whereM i S with
  | none => simp
  | some p =>
    obtain ⟨w, d⟩ := p
    simp only
    cases h2 : op d x with
    | none => exact propext ⟨fun q => q.elim, fun ⟨_, _, _, _, e, q, _⟩ => by cases e; rw [h2] at q; cases q⟩
    | some p => obtain ⟨r, d'⟩ := p; exact propext ⟨fun q => ⟨_, _, _, _, rfl, h2, q⟩, fun ⟨_, _, _, _, e, e2, q⟩ => by cases e; rw [h2] at e2; cases e2; exact q⟩
/-- a loop over items -/
theorem rn_forIn {Q : Fl → Sx → Prop} {it : M (List D)} {tgt : D → M Unit} {b : M Fl} : Rn (forIn it tgt b) S Q = Rn it S fun ds S' => Rn (forM tgt b ds) S' Q := by
  unfold DL.forIn; exact rn_bind
theorem rn_for0 {Q : Fl → Sx → Prop} {tgt : D → M Unit} {b : M Fl} : Rn (forM tgt b []) S Q = Q .next S := rfl
theorem rn_for1 {Q : Fl → Sx → Prop} {tgt : D → M Unit} {b : M Fl} {ds : List D} : Rn (forM tgt b (d :: ds)) S Q = Rn (tgt d) S fun _ S1 => Rn b S1 fun fl S2 => match fl with
    | .next => Rn (forM tgt b ds) S2 Q
    | .cont => Rn (forM tgt b ds) S2 Q
    | .brk => Q .next S2
    | .ret r => Q (.ret r) S2 := by
  show Rn (tgt d >>= fun _ => b >>= loopK (forM tgt b ds)) S Q = _
  rw [rn_bind]
  congr 1
  funext u S1
  rw [rn_bind]
  congr 1
  funext fl S2
  cases fl <;> rfl
theorem rn_while {Q : Fl → Sx → Prop} {t : M Bool} {b : M Fl} : Rn (whileM t b (n + 1)) S Q = Rn t S fun c S1 => if c = true then Rn b S1 fun fl S2 => match fl with
    | .next => Rn (whileM t b n) S2 Q
    | .cont => Rn (whileM t b n) S2 Q
    | .brk => Q .next S2
    | .ret r => Q (.ret r) S2 else Q .next S1 := by
  show Rn (t >>= fun c => if c = true then b >>= loopK (whileM t b n) else pure .next) S Q = _
  rw [rn_bind]
  congr 1
  funext c S1
  rw [rn_ite, rn_bind]
  congr 1
  congr 1
  funext fl S2
  cases fl <;> rfl
/-! ### the small steps -/
section
variable {Q : Res → Sx → Prop} {i j : Int} {ds es : List D} {b c : Bool} {r : Res} {m : Nat} {x y : Str}
theorem hold_d : (Res.dat d).hold = .dat d := rfl
theorem hold_n : (Res.new d).hold = .dat d := rfl
theorem hold_o : (Res.own n d).hold = .own n d := rfl
theorem d_d : (Res.dat d).d = d := rfl
theorem d_n : (Res.new d).d = d := rfl
theorem d_o : (Res.own n d).d = d := rfl
theorem out_d : outR (.dat d) = .dat d := rfl
theorem out_n : outR (.new d) = .new d := rfl
theorem out_o : outR (.own n d) = .new d := rfl
theorem fo_next {Q : Res → List D → Prop} : flOut Q .next S = Q (.dat .non) S.objs := rfl
theorem fo_ret {Q : Res → List D → Prop} : flOut Q (.ret r) S = Q (outR r) S.objs := rfl
theorem rn_setD {Q : Unit → Sx → Prop} : Rn (setM n (.dat d)) ⟨env, o⟩ Q = Q () ⟨env.set n (.dat d), o⟩ := rfl
theorem rn_setN {Q : Unit → Sx → Prop} : Rn (setM n (.new d)) ⟨env, o⟩ Q = Q () ⟨env.set n (.own d), o⟩ := rfl
theorem rn_setO {Q : Unit → Sx → Prop} : Rn (setM n (.own m d)) ⟨env, o⟩ Q = (env[m]? = some (.own d) ∧ Q () ⟨(env.set m (.dat d)).set n (.dat d), o⟩) := by
  show Rn (useM (.own m d) >>= fun d => putM n (.dat d)) _ Q = _
  rw [rn_bind, rn_useO]; rfl
theorem isBl_b : (D.bl b).isBl = some b := rfl
theorem isInt_i : (D.int i).isInt = some i := rfl
theorem tr_i : (D.int i).truth = some (i != 0) := rfl
theorem tr_b : (D.bl b).truth = some b := rfl
theorem tr_n : D.non.truth = some false := rfl
theorem tr_l : (D.lst ds).truth = some (!ds.isEmpty) := rfl
theorem tr_t : (D.tup ds).truth = some (!ds.isEmpty) := rfl
theorem it_l : (D.lst ds).items = some ds := rfl
theorem it_r : (D.rol ds).items = some ds := rfl
theorem it_t : (D.tup ds).items = some ds := rfl
theorem li_l : (D.lst ds).lis = some ds := rfl
theorem li_r : (D.rol ds).lis = some ds := rfl
theorem op_add_i : Rn (opAdd (.int i) (.int j)) S Q = Q (.dat (.int (i + j))) S := rfl
theorem op_add_l : Rn (opAdd (.lst ds) (.lst es)) S Q = (ds.length + es.length ≤ sizeLine ∧ Q (.new (.lst (ds ++ es))) S) := by
  show Rn (M.need _ _) S Q = _
  rw [rn_need, decide_eq_true_eq]; rfl
theorem op_add_t : Rn (opAdd (.tup ds) (.tup es)) S Q = (ds.length + es.length ≤ sizeLine ∧ Q (.dat (.tup (ds ++ es))) S) := by
  show Rn (M.need _ _) S Q = _
  rw [rn_need, decide_eq_true_eq]; rfl
theorem op_sub_i : Rn (opSub (.int i) (.int j)) S Q = Q (.dat (.int (i - j))) S := rfl
theorem op_mul_i : Rn (opMul (.int i) (.int j)) S Q = (((-(2 ^ 64) < i ∧ i < 2 ^ 64) ∨ (-(2 ^ 64) < j ∧ j < 2 ^ 64)) ∧ Q (.dat (.int (i * j))) S) := by
  show Rn (M.need _ _) S Q = _
  rw [rn_need, decide_eq_true_eq]; rfl
theorem op_mod_i : Rn (opMod (.int i) (.int j)) S Q = (j ≠ 0 ∧ Q (.dat (.int (i.fmod j))) S) := by
  show Rn (M.need _ _) S Q = _
  rw [rn_need, decide_eq_true_eq]; rfl
theorem op_div_i : Rn (opDiv (.int i) (.int j)) S Q = ((j ≠ 0 ∧ j.natAbs < 1073741824) ∧ Q (.dat (.int (i.fdiv j))) S) := by
  show Rn (M.need _ _) S Q = _
  rw [rn_need, decide_eq_true_eq]; rfl
theorem op_pow_i : Rn (opPow (.int i) (.int j)) S Q = ((0 ≤ j ∧ j ≤ 1000000 ∧ i.natAbs < 2 ^ 64) ∧ Q (.dat (.int (i ^ j.toNat))) S) := by
  show Rn (M.need _ _) S Q = _
  rw [rn_need, decide_eq_true_eq]; rfl
theorem op_lt_i : Rn (opLt (.int i) (.int j)) S Q = Q (.dat (.bl (decide (i < j)))) S := rfl
theorem op_le_i : Rn (opLe (.int i) (.int j)) S Q = Q (.dat (.bl (decide (i ≤ j)))) S := rfl
theorem op_gt_i : Rn (opGt (.int i) (.int j)) S Q = Q (.dat (.bl (decide (j < i)))) S := rfl
theorem op_ge_i : Rn (opGe (.int i) (.int j)) S Q = Q (.dat (.bl (decide (j ≤ i)))) S := rfl
theorem op_int_i : Rn (opInt (.int i)) S Q = Q (.dat (.int i)) S := rfl
theorem op_abs_i : Rn (opAbs (.int i)) S Q = Q (.dat (.int (if i < 0 then -i else i))) S := rfl
theorem op_len_l : Rn (opLen (.lst ds)) S Q = Q (.dat (.int ds.length)) S := rfl
theorem op_len_t : Rn (opLen (.tup ds)) S Q = Q (.dat (.int ds.length)) S := rfl
theorem op_len_r : Rn (opLen (.rol ds)) S Q = Q (.dat (.int ds.length)) S := rfl
theorem op_tup_l : Rn (opTuple (.lst ds)) S Q = Q (.dat (.tup ds)) S := rfl
theorem op_tup_t : Rn (opTuple (.tup ds)) S Q = Q (.dat (.tup ds)) S := rfl
theorem op_lst_l : Rn (opList (.lst ds)) S Q = Q (.new (.lst ds)) S := rfl
theorem op_lst_t : Rn (opList (.tup ds)) S Q = Q (.new (.lst ds)) S := rfl
theorem op_max_i : Rn (opMax2 (.int i) (.int j)) S Q = Q (.dat (.int (if j > i then j else i))) S := rfl
theorem op_eq_i : Rn (opEq b (.int i) (.int j)) S Q = Q (.dat (.bl ((i == j) != b))) S := by
  have : D.eqv (.int i) (.int j) = some (i == j) := by
    unfold D.eqv
    simp [D.py, SeqAt.shaped, PyData.canLay0, PyData.depth, PyData.eqv]
  unfold opEq
  rw [this]; rfl
theorem op_eq_s (hx : PyData.strOk x = true) (hy : PyData.strOk y = true) : Rn (opEq b (.str x) (.str y)) S Q = Q (.dat (.bl ((x == y) != b))) S := by
  have : D.eqv (.str x) (.str y) = some (x == y) := by
    unfold D.eqv
    simp [D.py, SeqAt.shaped, PyData.canLay0, PyData.depth, PyData.eqv, hx, hy]
  unfold opEq
  rw [this]; rfl
theorem ok_go : PyData.strOk "go" = true := by decide +kernel
theorem ok_get : PyData.strOk "get" = true := by decide +kernel
theorem eq_go_go : Rn (opEq b (.str "go") (.str "go")) S Q = Q (.dat (.bl (true != b))) S := by rw [op_eq_s ok_go ok_go]; rfl
theorem eq_get_get : Rn (opEq b (.str "get") (.str "get")) S Q = Q (.dat (.bl (true != b))) S := by rw [op_eq_s ok_get ok_get]; rfl
theorem eq_go_get : Rn (opEq b (.str "go") (.str "get")) S Q = Q (.dat (.bl (false != b))) S := by
  rw [op_eq_s ok_go ok_get, show (("go" : Str) == ("get" : Str)) = false by decide +kernel]
theorem eq_get_go : Rn (opEq b (.str "get") (.str "go")) S Q = Q (.dat (.bl (false != b))) S := by
  rw [op_eq_s ok_get ok_go, show (("get" : Str) == ("go" : Str)) = false by decide +kernel]
theorem op_sl_l {lo hi : Option Int} : Rn (opSl (.lst ds) lo hi) S Q = Q (.new (.lst (cutD ds lo hi))) S := rfl
theorem op_sl_r {lo hi : Option Int} : Rn (opSl (.rol ds) lo hi) S Q = Q (.new (.lst (cutD ds lo hi))) S := rfl
theorem op_sl_t {lo hi : Option Int} : Rn (opSl (.tup ds) lo hi) S Q = Q (.dat (.tup (cutD ds lo hi))) S := rfl
/-- an item that is there -/
theorem atI_nat {α : Type} {l : List α} {m : Nat} {a : α} (h : l[m]? = some a) : atI l (m : Int) = some a := by
  have hl : m < l.length := (List.getElem?_eq_some_iff.mp h).1
  unfold atI ixN
  have h0 : (0 : Int) ≤ (m : Int) := by omega
  have h1 : (m : Int) < (l.length : Int) := by omega
  rw [if_pos h0, if_pos h1]
  simpa using h
theorem op_ix_t0 : Rn (opIx (.tup (d :: ds)) (.int 0)) S Q = Q (.dat d) S := by
  have : D.item (.tup (d :: ds)) (.int 0) = some d := atI_nat (m := 0) rfl
  unfold opIx; rw [this]; rfl
theorem op_ix_t1 {d2 : D} : Rn (opIx (.tup (d :: d2 :: ds)) (.int 1)) S Q = Q (.dat d2) S := by
  have : D.item (.tup (d :: d2 :: ds)) (.int 1) = some d2 := atI_nat (m := 1) rfl
  unfold opIx; rw [this]; rfl
theorem op_ix_t2 {d2 d3 : D} : Rn (opIx (.tup (d :: d2 :: d3 :: ds)) (.int 2)) S Q = Q (.dat d3) S := by
  have : D.item (.tup (d :: d2 :: d3 :: ds)) (.int 2) = some d3 := atI_nat (m := 2) rfl
  unfold opIx; rw [this]; rfl
theorem op_ix_l0 : Rn (opIx (.lst (d :: ds)) (.int 0)) S Q = Q (.dat d) S := by
  have : D.item (.lst (d :: ds)) (.int 0) = some d := atI_nat (m := 0) rfl
  unfold opIx; rw [this]; rfl
theorem op_ix_tn {k : Nat} (h : ds[k]? = some d) : Rn (opIx (.tup ds) (.int (k : Nat))) S Q = Q (.dat d) S := by
  have : D.item (.tup ds) (.int (k : Nat)) = some d := atI_nat h
  unfold opIx; rw [this]; rfl
theorem op_ix_ln {k : Nat} (h : ds[k]? = some d) : Rn (opIx (.lst ds) (.int (k : Nat))) S Q = Q (.dat d) S := by
  have : D.item (.lst ds) (.int (k : Nat)) = some d := atI_nat h
  unfold opIx; rw [this]; rfl
end
end
end DL
end
section
set_option maxRecDepth 100000
namespace DL
open PySem L2
/-! ## the laws' own drawing of numbers -/
structure Bag where
  a : Int
  b : Int
  c : Int
  cs : List Int
structure Bag.Ok (x : Bag) : Prop where
  a0 : 0 ≤ x.a
  b0 : 0 ≤ x.b
  c0 : 0 ≤ x.c
  cs0 : ∀ v ∈ x.cs, 0 ≤ v
def bagD (x : Bag) : D := .lst [.int x.a, .int x.b, .int x.c, .rol (x.cs.map .int)]
def takeB : M Fl := (seqM (ifM (cmpT (opEq false) (binMO opIx (varM 0) (kM (.int 0))) (kM (.int 0))) (seqM (asgM 4 (binM opIx (binM opAdd (slM (binMO opIx (varM 0) (kM (.int 3))) (partM (binMO opIx (varM 0) (kM (.int 2)))) (pure none)) (lstM (consA (kM (.int 0)) nilA))) (kM (.int 0))))
  (seqM (augSM 0 (fun i j => i + j) (kM (.int 2)) (kM (.int 1)))
  (seqM (ifM (cmpT opGe (varM 4) (binM opPow (kM (.int 10)) (kM (.int 18)))) (storeM 0 (varM 4) (kM (.int 0))) (pure .next))
  (seqM (asgM 5 (binM opAdd (binM opAdd (binM opMul (binMO opIx (varM 0) (kM (.int 1))) (kM (.int 48271))) (binM opMod (unM opInt (varM 4)) (kM (.int 2147483647)))) (binM opMul (kM (.int 7919)) (binMO opIx (varM 0) (kM (.int 2))))))
  (storeM 0 (binM opMod (unM opInt (varM 5)) (kM (.int 2147483647))) (kM (.int 1))))))) (pure .next))
  (seqM (ifM (cmpT opGt (binMO opIx (varM 0) (kM (.int 0))) (kM (.int 0))) (seqM (asgM 6 (binM opMod (unM opInt (binMO opIx (varM 0) (kM (.int 0)))) (varM 1)))
  (seqM (storeM 0 (binM opDiv (unM opInt (binMO opIx (varM 0) (kM (.int 0)))) (varM 1)) (kM (.int 0)))
  (retM (varM 6)))) (pure .next))
  (seqM (asgM 2 (binM opMod (unM opInt (binM opMul (binM opAdd (binMO opIx (varM 0) (kM (.int 1))) (kM (.int 1))) (kM (.int 39373)))) (kM (.int 1000000007))))
  (seqM (asgM 3 (binM opMod (unM opInt (binM opMul (binM opMod (unM opInt (binM opMul (varM 2) (varM 2))) (kM (.int 998244353))) (kM (.int 30011)))) (kM (.int 998244353))))
  (retM (binM opMod (unM opInt (binM opDiv (varM 3) (kM (.int 7)))) (varM 1)))))))
section
variable {x : Bag} {env : List Slot} {u : Int}
/-- reads of the bag -/
theorem peek_bag {Q : D → Sx → Prop} {o : List D} : Rn (peekM (.obj 0)) ⟨env, o⟩ Q = ∃ e, o[0]? = some e ∧ Q e ⟨env, o⟩ := rn_peekO
theorem rn_peek0 {Q : D → Sx → Prop} {d : D} {r : List D} : Rn (peekM (.obj 0)) ⟨env, d :: r⟩ Q = Q d ⟨env, d :: r⟩ := rfl
theorem ix_0 {Q : Res → Sx → Prop} {S : Sx} : Rn (opIx (bagD x) (.int 0)) S Q = Q (.dat (.int x.a)) S := rfl
theorem ix_1 {Q : Res → Sx → Prop} {S : Sx} : Rn (opIx (bagD x) (.int 1)) S Q = Q (.dat (.int x.b)) S := rfl
theorem ix_2 {Q : Res → Sx → Prop} {S : Sx} : Rn (opIx (bagD x) (.int 2)) S Q = Q (.dat (.int x.c)) S := rfl
theorem ix_3 {Q : Res → Sx → Prop} {S : Sx} : Rn (opIx (bagD x) (.int 3)) S Q = Q (.dat (.rol (x.cs.map .int))) S := rfl
theorem rn_eqI {Q : Res → Sx → Prop} {S : Sx} {i j : Int} {b : Bool} : Rn (opEq b (.int i) (.int j)) S Q = Q (.dat (.bl ((i == j) != b))) S := by
  have : D.eqv (.int i) (.int j) = some (i == j) := by
    unfold D.eqv
    simp [D.py, SeqAt.shaped, PyData.canLay0, PyData.depth, PyData.eqv]
  unfold opEq
  rw [this]; rfl
theorem sl_rol {Q : Res → Sx → Prop} {S : Sx} {ds : List D} {lo hi : Option Int} : Rn (opSl (.rol ds) lo hi) S Q = Q (.new (.lst (cutD ds lo hi))) S := rfl
theorem rn_ixl {Q : Res → Sx → Prop} {S : Sx} {d : D} {ds : List D} : Rn (opIx (.lst (d :: ds)) (.int 0)) S Q = Q (.dat d) S := by
  have : D.item (.lst (d :: ds)) (.int 0) = some d := by
    show atI (d :: ds) 0 = _
    unfold atI ixN
    simp
  unfold opIx
  rw [this]; rfl
/-- x[0] = v, x[1] = v -/
def Bag.st (x : Bag) : Nat → Int → Bag
  | 0, v => { x with a := v }
  | 1, v => { x with b := v }
  | _, v => { x with c := v }
theorem store_bag {i : Nat} (hi : i < 3) (v : Int) : D.store (bagD x) (.int (i : Nat)) (.int v) = some (bagD (x.st i v)) := by
  match i, hi with
  | 0, _ => rfl
  | 1, _ => rfl
  | 2, _ => rfl
theorem cut_head (cs : List Int) (h : ∀ v ∈ cs, 0 ≤ v) (c : Int) : ∃ (v : Int) (r : List D), 0 ≤ v ∧ cutD (cs.map D.int) (some c) none ++ [.int 0] = .int v :: r := by
  have key : ∀ (l : List Int), (∀ v ∈ l, 0 ≤ v) → ∃ (v : Int) (r : List D), 0 ≤ v ∧ l.map D.int ++ [.int 0] = .int v :: r := by
    intro l hl
    cases l with
    | nil => exact ⟨0, [], Int.le_refl _, rfl⟩
    | cons w t => exact ⟨w, t.map D.int ++ [.int 0], hl w List.mem_cons_self, rfl⟩
  unfold cutD
  rw [← List.map_drop, ← List.map_take]
  exact key _ fun v hv => h v (List.mem_of_mem_drop (List.mem_of_mem_take hv))
theorem cut_len {ds : List D} {lo hi : Option Int} : (cutD ds lo hi).length ≤ ds.length := by
  unfold cutD
  rw [List.length_take, List.length_drop]; omega
/-- x[k] = v, x[k] += n -/
theorem rn_storeM {Q : Fl → Sx → Prop} {f h : M Res} {i : Nat} {S : Sx} : Rn (storeM i f h) S Q = Rn f S fun r S1 => Rn (useM r) S1 fun x S2 => (whereM i S2).isSome = true ∧ Rn h S2 fun rk S3 => Rn (useM rk) S3 fun k S4 => Rn (storeK i k x) S4 fun _ S5 => Q .next S5 := by
  unfold storeM
  simp only [rn_bind, rn_guard, rn_pure]
theorem where_b {o : List D} : (whereM 0 ⟨.dat (.obj 0) :: env, bagD x :: o⟩).isSome = true := rfl
theorem st_b0 {Q : Unit → Sx → Prop} {o : List D} {v : Int} : Rn (storeK 0 (.int 0) (.int v)) ⟨.dat (.obj 0) :: env, bagD x :: o⟩ Q = Q () ⟨.dat (.obj 0) :: env, bagD { x with a := v } :: o⟩ := rfl
theorem st_b1 {Q : Unit → Sx → Prop} {o : List D} {v : Int} : Rn (storeK 0 (.int 1) (.int v)) ⟨.dat (.obj 0) :: env, bagD x :: o⟩ Q = Q () ⟨.dat (.obj 0) :: env, bagD { x with b := v } :: o⟩ := rfl
theorem aug_b2 {Q : Fl → Sx → Prop} {o : List D} : Rn (augSM 0 (fun i j => i + j) (pure (.dat (.int 2))) (pure (.dat (.int 1)))) ⟨.dat (.obj 0) :: env, bagD x :: o⟩ Q = Q .next ⟨.dat (.obj 0) :: env, bagD { x with c := x.c + 1 } :: o⟩ := rfl
theorem big_list {n : Nat} (h : n ≤ 64) : n ≤ sizeLine := Nat.le_trans h (by decide)
def takeEnv (u : Int) (s4 s5 : Slot) : List Slot := [.dat (.obj 0), .dat (.int u), .un, .un, s4, s5, .un]
theorem take1 (hx : x.Ok) (hcs : x.cs.length ≤ 63) (u : Int) : Rn (ifM (cmpT (opEq false) (binMO opIx (varM 0) (kM (.int 0))) (kM (.int 0))) (seqM (asgM 4 (binM opIx (binM opAdd (slM (binMO opIx (varM 0) (kM (.int 3))) (partM (binMO opIx (varM 0) (kM (.int 2)))) (pure none)) (lstM (consA (kM (.int 0)) nilA))) (kM (.int 0))))
  (seqM (augSM 0 (fun i j => i + j) (kM (.int 2)) (kM (.int 1)))
  (seqM (ifM (cmpT opGe (varM 4) (binM opPow (kM (.int 10)) (kM (.int 18)))) (storeM 0 (varM 4) (kM (.int 0))) (pure .next))
  (seqM (asgM 5 (binM opAdd (binM opAdd (binM opMul (binMO opIx (varM 0) (kM (.int 1))) (kM (.int 48271))) (binM opMod (unM opInt (varM 4)) (kM (.int 2147483647)))) (binM opMul (kM (.int 7919)) (binMO opIx (varM 0) (kM (.int 2))))))
  (storeM 0 (binM opMod (unM opInt (varM 5)) (kM (.int 2147483647))) (kM (.int 1))))))) (pure .next)) ⟨takeEnv u .un .un, [bagD x]⟩
    fun fl S' => fl = .next ∧ ∃ x' s4 s5, Bag.Ok x' ∧ x'.cs = x.cs ∧ S' = ⟨takeEnv u s4 s5, [bagD x']⟩ := by
  unfold takeEnv
  simp -implicitDefEqProofs only [rn_bind, rn_pure, rn_no, rn_need, rn_opt1, rn_ite, rn_var, rn_put, rn_useD, rn_useN, rn_useO, rn_chkD, rn_chkN, rn_chkO, rn_call, rn_seq, rn_guard, rn_forIn, rn_for0, rn_setD, rn_setN, rn_setO, binM, binMO, unM, cmpT, testM, andT, orT, notT, ifM, asgM, retM, exprM, kM, consA, nilA, tupM, lstM, useAll, chkAll, slM, partM, DL.andM, DL.orM, DL.notM, negM, asgG, gN, gT, gsC, gsN, seqI, frzM, asgTM, dnewM, par2M, hold_d, hold_n, hold_o, d_d, d_n, d_o, out_d, out_n, out_o, fo_next, fo_ret, isBl_b, isInt_i, tr_i, tr_b, tr_n, tr_l, tr_t, it_l, it_r, it_t, li_l, li_r, op_add_i, op_add_l, op_add_t, op_sub_i, op_mul_i, op_mod_i, op_div_i, op_pow_i, op_lt_i, op_le_i, op_gt_i, op_ge_i, op_int_i, op_abs_i, op_len_l, op_len_t, op_len_r, op_tup_l, op_tup_t, op_lst_l, op_lst_t, op_max_i, op_eq_i, eq_go_go, eq_get_get, eq_go_get, eq_get_go, Bool.bne_false, Bool.bne_true, Bool.not_true, Bool.not_false, op_sl_l, op_sl_r, op_sl_t, op_ix_t0, op_ix_t1, op_ix_t2, op_ix_l0, List.getElem?_cons_zero, List.getElem?_cons_succ, List.set_cons_zero, List.set_cons_succ, List.map_cons, List.map_nil, List.length_cons, List.length_nil, List.cons_append, List.nil_append, if_true, if_false, Bool.false_eq_true, decide_eq_true_eq, and_true, true_and, ite_true, ite_false, reduceCtorEq, rn_peek0, ix_0, ix_1, ix_2, ix_3]
  by_cases h0 : x.a = 0
  · have e0 : (x.a == 0) = true := by simp [h0]
    obtain ⟨v, r, hv, ec⟩ := cut_head x.cs hx.cs0 x.c
    have hl : (cutD (x.cs.map D.int) (some x.c) none).length + ([D.int 0] : List D).length ≤ sizeLine := by
      refine big_list ?_
      have := cut_len (ds := x.cs.map D.int) (lo := some x.c) (hi := none)
      rw [List.length_map] at this
      simp; omega
    rw [if_pos e0]
    simp -implicitDefEqProofs only [rn_bind, rn_pure, rn_no, rn_need, rn_opt1, rn_ite, rn_var, rn_put, rn_useD, rn_useN, rn_useO, rn_chkD, rn_chkN, rn_chkO, rn_call, rn_seq, rn_guard, rn_forIn, rn_for0, rn_setD, rn_setN, rn_setO, binM, binMO, unM, cmpT, testM, andT, orT, notT, ifM, asgM, retM, exprM, kM, consA, nilA, tupM, lstM, useAll, chkAll, slM, partM, DL.andM, DL.orM, DL.notM, negM, asgG, gN, gT, gsC, gsN, seqI, frzM, asgTM, dnewM, par2M, hold_d, hold_n, hold_o, d_d, d_n, d_o, out_d, out_n, out_o, fo_next, fo_ret, isBl_b, isInt_i, tr_i, tr_b, tr_n, tr_l, tr_t, it_l, it_r, it_t, li_l, li_r, op_add_i, op_add_l, op_add_t, op_sub_i, op_mul_i, op_mod_i, op_div_i, op_pow_i, op_lt_i, op_le_i, op_gt_i, op_ge_i, op_int_i, op_abs_i, op_len_l, op_len_t, op_len_r, op_tup_l, op_tup_t, op_lst_l, op_lst_t, op_max_i, op_eq_i, eq_go_go, eq_get_get, eq_go_get, eq_get_go, Bool.bne_false, Bool.bne_true, Bool.not_true, Bool.not_false, op_sl_l, op_sl_r, op_sl_t, op_ix_t0, op_ix_t1, op_ix_t2, op_ix_l0, List.getElem?_cons_zero, List.getElem?_cons_succ, List.set_cons_zero, List.set_cons_succ, List.map_cons, List.map_nil, List.length_cons, List.length_nil, List.cons_append, List.nil_append, if_true, if_false, Bool.false_eq_true, decide_eq_true_eq, and_true, true_and, ite_true, ite_false, reduceCtorEq, rn_peek0, ix_0, ix_1, ix_2, ix_3, ec]
    refine ⟨by decide, hl, ?_⟩
    simp -implicitDefEqProofs only [rn_bind, rn_pure, rn_no, rn_need, rn_opt1, rn_ite, rn_var, rn_put, rn_useD, rn_useN, rn_useO, rn_chkD, rn_chkN, rn_chkO, rn_call, rn_seq, rn_guard, rn_forIn, rn_for0, rn_setD, rn_setN, rn_setO, binM, binMO, unM, cmpT, testM, andT, orT, notT, ifM, asgM, retM, exprM, kM, consA, nilA, tupM, lstM, useAll, chkAll, slM, partM, DL.andM, DL.orM, DL.notM, negM, asgG, gN, gT, gsC, gsN, seqI, frzM, asgTM, dnewM, par2M, hold_d, hold_n, hold_o, d_d, d_n, d_o, out_d, out_n, out_o, fo_next, fo_ret, isBl_b, isInt_i, tr_i, tr_b, tr_n, tr_l, tr_t, it_l, it_r, it_t, li_l, li_r, op_add_i, op_add_l, op_add_t, op_sub_i, op_mul_i, op_mod_i, op_div_i, op_pow_i, op_lt_i, op_le_i, op_gt_i, op_ge_i, op_int_i, op_abs_i, op_len_l, op_len_t, op_len_r, op_tup_l, op_tup_t, op_lst_l, op_lst_t, op_max_i, op_eq_i, eq_go_go, eq_get_get, eq_go_get, eq_get_go, Bool.bne_false, Bool.bne_true, Bool.not_true, Bool.not_false, op_sl_l, op_sl_r, op_sl_t, op_ix_t0, op_ix_t1, op_ix_t2, op_ix_l0, List.getElem?_cons_zero, List.getElem?_cons_succ, List.set_cons_zero, List.set_cons_succ, List.map_cons, List.map_nil, List.length_cons, List.length_nil, List.cons_append, List.nil_append, if_true, if_false, Bool.false_eq_true, decide_eq_true_eq, and_true, true_and, ite_true, ite_false, reduceCtorEq, rn_peek0, ix_0, ix_1, ix_2, ix_3, aug_b2, rn_storeM, where_b, st_b0, st_b1]
    have m0 : ∀ k : Int, 0 ≤ k.fmod 2147483647 := fun k => by rw [Int.fmod_eq_emod_of_nonneg _ (by decide)]; exact Int.emod_nonneg _ (by decide)
    refine ⟨by decide, ?_⟩
    split
    · exact ⟨.inr (by decide), by decide, .inl (by decide), by decide, ⟨v, (x.b * 48271 + v.fmod 2147483647 + 7919 * (x.c + 1)).fmod 2147483647, x.c + 1, x.cs⟩, _, _, ⟨hv, m0 _, by have := hx.c0; show 0 ≤ x.c + 1; omega, hx.cs0⟩, rfl, rfl⟩
    · exact ⟨.inr (by decide), by decide, .inl (by decide), by decide, ⟨x.a, (x.b * 48271 + v.fmod 2147483647 + 7919 * (x.c + 1)).fmod 2147483647, x.c + 1, x.cs⟩, _, _, ⟨hx.a0, m0 _, by have := hx.c0; show 0 ≤ x.c + 1; omega, hx.cs0⟩, rfl, rfl⟩
  · have e0 : (x.a == 0) = false := by simp [h0]
    rw [if_neg (by rw [e0]; exact Bool.false_ne_true)]
    exact ⟨x, .un, .un, hx, rfl, rfl⟩
/-- THE FACT: a number below u -/
theorem take_ok (hx : x.Ok) (hcs : x.cs.length ≤ 63) (hu : 0 < u) (hu2 : u < 1073741824) : Dr (runB 7 takeB) [.obj 0, .int u] [bagD x] fun r o => ∃ (k : Int) (x' : Bag), r = .dat (.int k) ∧ 0 ≤ k ∧ k < u ∧ o = [bagD x'] ∧ x'.Ok ∧ x'.cs = x.cs := by
  rw [dr_run]
  show Rn takeB ⟨takeEnv u .un .un, [bagD x]⟩ _
  unfold takeB
  rw [rn_seq]
  refine (take1 hx hcs u).mono ?_
  rintro fl S' ⟨rfl, y, s4, s5, hy, hcy, rfl⟩
  have mu : ∀ k : Int, 0 ≤ k.fmod u ∧ k.fmod u < u := fun k => by
    rw [Int.fmod_eq_emod_of_nonneg _ (by omega)]
    exact ⟨Int.emod_nonneg _ (by omega), Int.emod_lt_of_pos _ hu⟩
  have m1 : ∀ k j : Int, 0 < j → 0 ≤ k.fmod j ∧ k.fmod j < j := fun k j hj => by
    rw [Int.fmod_eq_emod_of_nonneg _ (by omega)]
    exact ⟨Int.emod_nonneg _ (by omega), Int.emod_lt_of_pos _ hj⟩
  unfold takeEnv
  simp -implicitDefEqProofs only [rn_bind, rn_pure, rn_no, rn_need, rn_opt1, rn_ite, rn_var, rn_put, rn_useD, rn_useN, rn_useO, rn_chkD, rn_chkN, rn_chkO, rn_call, rn_seq, rn_guard, rn_forIn, rn_for0, rn_setD, rn_setN, rn_setO, binM, binMO, unM, cmpT, testM, andT, orT, notT, ifM, asgM, retM, exprM, kM, consA, nilA, tupM, lstM, useAll, chkAll, slM, partM, DL.andM, DL.orM, DL.notM, negM, asgG, gN, gT, gsC, gsN, seqI, frzM, asgTM, dnewM, par2M, hold_d, hold_n, hold_o, d_d, d_n, d_o, out_d, out_n, out_o, fo_next, fo_ret, isBl_b, isInt_i, tr_i, tr_b, tr_n, tr_l, tr_t, it_l, it_r, it_t, li_l, li_r, op_add_i, op_add_l, op_add_t, op_sub_i, op_mul_i, op_mod_i, op_div_i, op_pow_i, op_lt_i, op_le_i, op_gt_i, op_ge_i, op_int_i, op_abs_i, op_len_l, op_len_t, op_len_r, op_tup_l, op_tup_t, op_lst_l, op_lst_t, op_max_i, op_eq_i, eq_go_go, eq_get_get, eq_go_get, eq_get_go, Bool.bne_false, Bool.bne_true, Bool.not_true, Bool.not_false, op_sl_l, op_sl_r, op_sl_t, op_ix_t0, op_ix_t1, op_ix_t2, op_ix_l0, List.getElem?_cons_zero, List.getElem?_cons_succ, List.set_cons_zero, List.set_cons_succ, List.map_cons, List.map_nil, List.length_cons, List.length_nil, List.cons_append, List.nil_append, if_true, if_false, Bool.false_eq_true, decide_eq_true_eq, and_true, true_and, ite_true, ite_false, reduceCtorEq, rn_peek0, ix_0, ix_1, ix_2, ix_3, aug_b2, rn_storeM, where_b, st_b0, st_b1]
  split
  · refine ⟨by omega, ⟨by omega, by omega⟩, _, _, rfl, (mu _).1, (mu _).2, rfl, ⟨?_, hy.b0, hy.c0, hy.cs0⟩, hcy⟩
    show 0 ≤ y.a.fdiv u
    rw [Int.fdiv_eq_ediv_of_nonneg _ (by omega)]
    exact Int.ediv_nonneg hy.a0 (by omega)
  · have b1 := m1 ((y.b + 1) * 39373) 1000000007 (by decide)
    refine ⟨.inr (by decide), by decide, .inl ⟨by omega, by omega⟩, by decide, .inr (by decide), by decide, ⟨by decide, by decide⟩, by omega, _, _, rfl, (mu _).1, (mu _).2, rfl, hy, hcy⟩
end
end DL
end
section
set_option maxRecDepth 100000
namespace DL
open PySem L2
/-! ## comprehensions and loops, by what each turn gives -/
def Cw (turn : D → M (Option D)) (env : List Slot) (ds acc o : List D) (P : List D → List D → Prop) : Prop := match compL turn env ds acc o with
  | some (a, o') => P a o'
  | none => False
section
variable {turn : D → M (Option D)} {env : List Slot} {ds acc o : List D} {P : List D → List D → Prop} {d : D} {S : Sx}
theorem cw_nil : Cw turn env [] acc o P = P acc o := rfl
theorem cw_cons : Cw turn env (d :: ds) acc o P = Rn (turn d) ⟨env, o⟩ fun x S' => match x with | some v => acc.length < sizeLine ∧ Cw turn env ds (acc ++ [v]) S'.objs P | none => Cw turn env ds acc S'.objs P := by
  unfold Cw
  rw [compL]
  unfold Rn
  cases turn d ⟨env, o⟩ with
  | none => rfl
  | some p =>
    obtain ⟨r, S'⟩ := p
    cases r with
    | error x => rfl
    | ok x =>
      cases x with
      | none => rfl
      | some v =>
        by_cases h : acc.length < sizeLine
        · simp [h]
        · simp [h]
theorem rn_lc {Q : Res → Sx → Prop} {it : M (List D)} {own : List Nat} : Rn (lcM it own turn) S Q = Rn it S fun ds S' => Cw turn (wipeE (S'.env.map Slot.frz) own) ds [] S'.objs fun acc o' =>
    if (D.imms acc && o'.all fun o => D.imms o.parts) = true then Q (.new (.lst acc)) ⟨S'.env, o'⟩ else Q (.new (.lst acc)) ⟨S'.env.map Slot.frz, o'⟩ := by
  refine (rn_bind (f := it)).trans ?_
  congr 1
  funext ds S'
  unfold Rn Cw
  dsimp only
  cases compL turn (wipeE (S'.env.map Slot.frz) own) ds [] S'.objs with
  | none => rfl
  | some p =>
    obtain ⟨a, o'⟩ := p
    by_cases c : (D.imms a && o'.all fun o => D.imms o.parts) = true
    · simp [c]
    · simp [c]
theorem Cw.mono {P' : List D → List D → Prop} (h : Cw turn env ds acc o P) (q : ∀ a o', P a o' → P' a o') : Cw turn env ds acc o P' := by
  unfold Cw at h ⊢
  split at h
  · exact q _ _ h
  · exact h.elim
/-- nothing changes; what is put behind is F of the item -/
theorem cw_map {F : D → Option D} : ∀ {ds acc : List D}, acc.length + ds.length ≤ sizeLine → (∀ d ∈ ds, Rn (turn d) ⟨env, o⟩ fun x S' => x = F d ∧ S'.objs = o) → P (acc ++ ds.filterMap F) o → Cw turn env ds acc o P
  | [], acc, _, _, q => by rw [cw_nil]; simpa using q
  | d :: ds, acc, hl, h, q => by
    rw [cw_cons]
    have hl' : acc.length + (ds.length + 1) ≤ sizeLine := by simpa using hl
    refine (h d List.mem_cons_self).mono ?_
    rintro x S' ⟨rfl, e⟩
    cases hF : F d with
    | none =>
      simp only
      rw [e]
      exact cw_map (by omega) (fun c hc => h c (List.mem_cons_of_mem _ hc)) (by simpa [List.filterMap_cons, hF] using q)
    | some v =>
      simp only
      rw [e]
      refine ⟨by omega, cw_map (by simp; omega) (fun c hc => h c (List.mem_cons_of_mem _ hc)) ?_⟩
      simpa [List.filterMap_cons, hF] using q
/-- by an invariant -/
theorem cw_inv {I : List D → List D → Prop} : ∀ {ds acc o : List D}, acc.length + ds.length ≤ sizeLine → I acc o →
    (∀ d ∈ ds, ∀ acc o, I acc o → Rn (turn d) ⟨env, o⟩ fun x S' => match x with | some v => I (acc ++ [v]) S'.objs | none => I acc S'.objs) → (∀ acc o, I acc o → P acc o) → Cw turn env ds acc o P
  | [], acc, o, _, i, _, q => by rw [cw_nil]; exact q _ _ i
  | d :: ds, acc, o, hl, i, h, q => by
    rw [cw_cons]
    have hl' : acc.length + (ds.length + 1) ≤ sizeLine := by simpa using hl
    refine (h d List.mem_cons_self acc o i).mono ?_
    intro x S' r
    cases x with
    | none => exact cw_inv (by omega) r (fun c hc => h c (List.mem_cons_of_mem _ hc)) q
    | some v => exact ⟨by omega, cw_inv (by simp; omega) r (fun c hc => h c (List.mem_cons_of_mem _ hc)) q⟩
/-- a comprehension's turn -/
theorem rn_turn {Q : Option D → Sx → Prop} {tgt : D → M Unit} {t : M Bool} {f : M Res} : Rn (turnM tgt t f d) S Q = Rn (tgt d) S fun _ S1 => Rn t S1 fun b S2 => if b = true then Rn f S2 fun r S3 => Rn (useM r) S3 fun x S4 => Q (some x) S4 else Q none S2 := by
  unfold turnM
  simp only [rn_bind, rn_ite, rn_pure]
/-! ### two clauses -/
def Cw2 (t1 : D → M (Option (List D))) (t2 : D → M (Option D)) (env : List Slot) (vs : List Nat) (ds acc o : List D) (P : List D → List D → Prop) : Prop := match compL2 t1 t2 env vs ds acc o with
  | some (a, o') => P a o'
  | none => False
variable {t1 : D → M (Option (List D))} {vs : List Nat}
theorem cw2_nil : Cw2 t1 turn env vs [] acc o P = P acc o := rfl
theorem cw2_cons : Cw2 t1 turn env vs (d :: ds) acc o P = Rn (t1 d) ⟨env, o⟩ fun x S' => match x with
    | some ds1 => Cw turn (wipeE (S'.env.map Slot.frz) vs) ds1 acc S'.objs fun acc' o' => Cw2 t1 turn env vs ds acc' o' P
    | none => Cw2 t1 turn env vs ds acc S'.objs P := by
  unfold Cw2
  rw [compL2]
  unfold Rn
  cases t1 d ⟨env, o⟩ with
  | none => rfl
  | some p =>
    obtain ⟨r, S'⟩ := p
    cases r with
    | error x => rfl
    | ok x =>
      cases x with
      | none => rfl
      | some ds1 =>
        simp only
        unfold Cw
        cases compL turn (wipeE (S'.env.map Slot.frz) vs) ds1 acc S'.objs with
        | none => rfl
        | some p => rfl
theorem rn_lc2 {Q : Res → Sx → Prop} {it : M (List D)} {own : List Nat} : Rn (lcM2 it own vs t1 turn) S Q = Rn it S fun ds S' => Cw2 t1 turn (wipeE (S'.env.map Slot.frz) own) vs ds [] S'.objs fun acc o' =>
    if (D.imms acc && o'.all fun o => D.imms o.parts) = true then Q (.new (.lst acc)) ⟨S'.env, o'⟩ else Q (.new (.lst acc)) ⟨S'.env.map Slot.frz, o'⟩ := by
  refine (rn_bind (f := it)).trans ?_
  congr 1
  funext ds S'
  unfold Rn Cw2
  dsimp only
  cases compL2 t1 turn (wipeE (S'.env.map Slot.frz) own) vs ds [] S'.objs with
  | none => rfl
  | some p =>
    obtain ⟨a, o'⟩ := p
    unfold outL
    by_cases c : (D.imms a && o'.all fun o => D.imms o.parts) = true
    · simp [c]
    · simp [c]
theorem rn_turn1 {Q : Option (List D) → Sx → Prop} {tgt : D → M Unit} {t : M Bool} {it : M (List D)} : Rn (turn1M tgt t it d) S Q = Rn (tgt d) S fun _ S1 => Rn t S1 fun b S2 => if b = true then Rn it S2 fun ds S3 => Q (some ds) S3 else Q none S2 := by
  unfold turn1M
  simp only [rn_bind, rn_ite, rn_pure]
/-- a loop by an invariant -/
theorem for_inv {Q : Fl → Sx → Prop} {tgt : D → M Unit} {b : M Fl} {I : List D → Sx → Prop} : ∀ {ds : List D} {S : Sx}, I ds S →
    (∀ d ds S, I (d :: ds) S → Rn (tgt d) S fun _ S1 => Rn b S1 fun fl S2 => match fl with
      | .next => I ds S2
      | .cont => I ds S2
      | .brk => Q .next S2
      | .ret r => Q (.ret r) S2) → (∀ S, I [] S → Q .next S) → Rn (forM tgt b ds) S Q
  | [], S, i, _, q => q S i
  | d :: ds, S, i, h, q => by
    rw [rn_for1]
    refine (h d ds S i).mono fun _ S1 h1 => h1.mono fun fl S2 h2 => ?_
    cases fl with
    | next => exact for_inv h2 h q
    | cont => exact for_inv h2 h q
    | brk => exact h2
    | ret r => exact h2
/-- a while by a measure -/
theorem while_inv {Q : Fl → Sx → Prop} {t : M Bool} {b : M Fl} {I : Nat → Sx → Prop} : ∀ {n m : Nat} {S : Sx}, m < n → I m S →
    (∀ m S, I m S → Rn t S fun c S1 => if c = true then Rn b S1 fun fl S2 => match fl with
      | .next => ∃ m', m' < m ∧ I m' S2
      | .cont => ∃ m', m' < m ∧ I m' S2
      | .brk => Q .next S2
      | .ret r => Q (.ret r) S2 else Q .next S1) → Rn (whileM t b n) S Q
  | 0, m, S, hl, _, _ => absurd hl (Nat.not_lt_zero _)
  | n + 1, m, S, hl, i, h => by
    rw [rn_while]
    refine (h m S i).mono fun c S1 h1 => ?_
    by_cases e : c = true
    · rw [if_pos e] at h1 ⊢
      refine h1.mono fun fl S2 h2 => ?_
      cases fl with
      | next => obtain ⟨m', l, i'⟩ := h2; exact while_inv (by omega) i' h
      | cont => obtain ⟨m', l, i'⟩ := h2; exact while_inv (by omega) i' h
      | brk => exact h2
      | ret r => exact h2
    · rw [if_neg e] at h1 ⊢
      exact h1
end
theorem rn_frz {Q : Res → Sx → Prop} {S : Sx} {ds : List D} : Rn (frzK (.new (.lst ds))) S Q = Q (.dat (.rol ds)) S := rfl
/-! ## methods, stores on what stands in a slot -/
def tyAt (T : String) (o : List D) : Option Slot → Bool
  | some (.own d) => d.isT T
  | some (.dat (.obj n)) => match o[n]? with
    | some d => d.isT T
    | none => false
  | _ => false
def mkAt (op : D → D → Option (D × D)) (x : D) (i : Nat) (env : List Slot) (o : List D) (Q : Res → Sx → Prop) : Option Slot → Prop
  | some (.own d) => ∃ r d', op d x = some (r, d') ∧ Q (.dat r) ⟨env.set i (.own d'), o⟩
  | some (.dat (.obj n)) => ∃ d r d', o[n]? = some d ∧ op d x = some (r, d') ∧ Q (.dat r) ⟨env, o.set n d'⟩
  | _ => False
def stAt (k x : D) (i : Nat) (env : List Slot) (o : List D) (Q : Unit → Sx → Prop) : Option Slot → Prop
  | some (.own d) => ∃ d', d.store k x = some d' ∧ Q () ⟨env.set i (.own d'), o⟩
  | some (.dat (.obj n)) => ∃ d d', o[n]? = some d ∧ d.store k x = some d' ∧ Q () ⟨env, o.set n d'⟩
  | _ => False
section
variable {env : List Slot} {o : List D} {i : Nat} {d x : D} {ds es : List D} {P : D → D → Prop}
theorem isTM_eq {T : String} : isTM T i ⟨env, o⟩ = tyAt T o env[i]? := by
  unfold isTM whereM tyAt
  cases env[i]? with
  | none => rfl
  | some s =>
    cases s with
    | un => rfl
    | own d => rfl
    | dat d =>
      cases d <;> first | rfl | skip
      rename_i n
      dsimp only
      cases o[n]? <;> rfl
theorem rn_mk {Q : Res → Sx → Prop} {op : D → D → Option (D × D)} : Rn (methK i op x) ⟨env, o⟩ Q = mkAt op x i env o Q env[i]? := by
  rw [rn_meth]
  unfold whereM mkAt
  cases env[i]? with
  | none => exact propext ⟨fun ⟨_, _, _, _, e, _⟩ => (by cases e), fun h => h.elim⟩
  | some s =>
    cases s with
    | un => exact propext ⟨fun ⟨_, _, _, _, e, _⟩ => (by cases e), fun h => h.elim⟩
    | own d => exact propext ⟨fun ⟨_, _, r, d', e, h, q⟩ => by cases e; exact ⟨r, d', h, q⟩, fun ⟨r, d', h, q⟩ => ⟨.own, d, r, d', rfl, h, q⟩⟩
    | dat d =>
      cases d <;> first | exact propext ⟨fun ⟨_, _, _, _, e, _⟩ => (by cases e), fun h => h.elim⟩ | skip
      rename_i n
      dsimp only
      cases ho : o[n]? with
      | none => exact propext ⟨fun ⟨_, _, _, _, e, _⟩ => (by cases e), fun ⟨_, _, _, e, _⟩ => (by cases e)⟩
      | some d => exact propext ⟨fun ⟨_, _, r, d', e, h, q⟩ => by cases e; exact ⟨d, r, d', rfl, h, q⟩, fun ⟨_, r, d', e, h, q⟩ => by cases e; exact ⟨.obj n, d, r, d', rfl, h, q⟩⟩
theorem rn_st {Q : Unit → Sx → Prop} {k : D} : Rn (storeK i k x) ⟨env, o⟩ Q = stAt k x i env o Q env[i]? := by
  rw [rn_store]
  unfold whereM stAt
  cases env[i]? with
  | none => exact propext ⟨fun ⟨_, _, _, e, _⟩ => (by cases e), fun h => h.elim⟩
  | some s =>
    cases s with
    | un => exact propext ⟨fun ⟨_, _, _, e, _⟩ => (by cases e), fun h => h.elim⟩
    | own d => exact propext ⟨fun ⟨_, _, d', e, h, q⟩ => by cases e; exact ⟨d', h, q⟩, fun ⟨d', h, q⟩ => ⟨.own, d, d', rfl, h, q⟩⟩
    | dat d =>
      cases d <;> first | exact propext ⟨fun ⟨_, _, _, e, _⟩ => (by cases e), fun h => h.elim⟩ | skip
      rename_i n
      dsimp only
      cases ho : o[n]? with
      | none => exact propext ⟨fun ⟨_, _, _, e, _⟩ => (by cases e), fun ⟨_, _, e, _⟩ => (by cases e)⟩
      | some d => exact propext ⟨fun ⟨_, _, d', e, h, q⟩ => by cases e; exact ⟨d, d', rfl, h, q⟩, fun ⟨_, d', e, h, q⟩ => by cases e; exact ⟨.obj n, d, d', rfl, h, q⟩⟩
theorem rn_methM {Q : Res → Sx → Prop} {T : String} {f : M Res} {op : D → D → Option (D × D)} {S : Sx} : Rn (methM T i f op) S Q = (isTM T i S = true ∧ Rn f S fun r S1 => Rn (useM r) S1 fun x S2 => Rn (methK i op x) S2 Q) := by
  unfold methM
  rw [rn_guard, rn_bind]
  congr 1
  congr 1
  funext r S1
  rw [rn_bind]
theorem rn_methM0 {Q : Res → Sx → Prop} {T : String} {op : D → D → Option (D × D)} {S : Sx} : Rn (methM0 T i op) S Q = (isTM T i S = true ∧ Rn (methK i op .non) S Q) := by
  unfold methM0
  rw [rn_guard]
theorem mk_own {Q : Res → Sx → Prop} {op : D → D → Option (D × D)} : mkAt op x i env o Q (some (.own d)) = ∃ r d', op d x = some (r, d') ∧ Q (.dat r) ⟨env.set i (.own d'), o⟩ := rfl
theorem st_own {Q : Unit → Sx → Prop} {k : D} : stAt k x i env o Q (some (.own d)) = ∃ d', d.store k x = some d' ∧ Q () ⟨env.set i (.own d'), o⟩ := rfl
theorem ty_own : tyAt "list" o (some (.own (.lst ds))) = true := rfl
theorem ex_app : (∃ r d', opAppend (.lst ds) x = some (r, d') ∧ P r d') = (ds.length < sizeLine ∧ P .non (.lst (ds ++ [x]))) := by
  rw [show opAppend (.lst ds) x = if ds.length < sizeLine then some (D.non, D.lst (ds ++ [x])) else none from rfl]
  by_cases h : ds.length < sizeLine
  · exact propext ⟨fun ⟨_, _, e, q⟩ => by rw [if_pos h] at e; cases e; exact ⟨h, q⟩, fun ⟨_, q⟩ => ⟨_, _, if_pos h, q⟩⟩
  · exact propext ⟨fun ⟨_, _, e, q⟩ => (by rw [if_neg h] at e; cases e), fun ⟨h', _⟩ => absurd h' h⟩
theorem ex_ext : (∃ r d', opExtA (.lst ds) (.lst es) = some (r, d') ∧ P r d') = (ds.length + es.length ≤ sizeLine ∧ P .non (.lst (ds ++ es))) := by
  rw [show opExtA (.lst ds) (.lst es) = if ds.length + es.length ≤ sizeLine then some (D.non, D.lst (ds ++ es)) else none from rfl]
  by_cases h : ds.length + es.length ≤ sizeLine
  · exact propext ⟨fun ⟨_, _, e, q⟩ => by rw [if_pos h] at e; cases e; exact ⟨h, q⟩, fun ⟨_, q⟩ => ⟨_, _, if_pos h, q⟩⟩
  · exact propext ⟨fun ⟨_, _, e, q⟩ => (by rw [if_neg h] at e; cases e), fun ⟨h', _⟩ => absurd h' h⟩
theorem ex_extT : (∃ r d', opExtA (.lst ds) (.tup es) = some (r, d') ∧ P r d') = (ds.length + es.length ≤ sizeLine ∧ P .non (.lst (ds ++ es))) := by
  rw [show opExtA (.lst ds) (.tup es) = if ds.length + es.length ≤ sizeLine then some (D.non, D.lst (ds ++ es)) else none from rfl]
  by_cases h : ds.length + es.length ≤ sizeLine
  · exact propext ⟨fun ⟨_, _, e, q⟩ => by rw [if_pos h] at e; cases e; exact ⟨h, q⟩, fun ⟨_, q⟩ => ⟨_, _, if_pos h, q⟩⟩
  · exact propext ⟨fun ⟨_, _, e, q⟩ => (by rw [if_neg h] at e; cases e), fun ⟨h', _⟩ => absurd h' h⟩
theorem ex_rev : (∃ r d', opReverse (.lst ds) x = some (r, d') ∧ P r d') = P .non (.lst ds.reverse) := by
  unfold opReverse
  exact propext ⟨fun ⟨_, _, e, q⟩ => by cases e; exact q, fun q => ⟨_, _, rfl, q⟩⟩
theorem ex_pop : (∃ r d', opPop (.lst (ds ++ [d])) x = some (r, d') ∧ P r d') = P d (.lst ds) := by
  have e : opPop (.lst (ds ++ [d])) x = some (d, .lst ds) := by
    unfold opPop
    simp
  rw [e]
  exact propext ⟨fun ⟨_, _, e, q⟩ => by cases e; exact q, fun q => ⟨_, _, rfl, q⟩⟩
end
/-! ## calls that leave a bag -/
structure BOk (x : Bag) : Prop where
  ok : x.Ok
  len : x.cs.length ≤ 63
theorem imms_ints : ∀ ns : List Int, D.imms (ns.map .int) = true
  | [] => rfl
  | n :: r => by simp [D.imms, D.imm, imms_ints r]
theorem bag_imm (x : Bag) : D.imms (bagD x).parts = true := by
  show D.imms [.int x.a, .int x.b, .int x.c, .rol (x.cs.map .int)] = true
  simp [D.imms, D.imm, imms_ints]
theorem bag_all (x : Bag) : ([bagD x].all fun o => D.imms o.parts) = true := by simp [bag_imm]
theorem take_call {x : Bag} {u : Int} {Q : Res → List D → Prop} (hx : BOk x) (hu : 0 < u) (hu2 : u < 1073741824) (h : ∀ (k : Int) (x' : Bag), 0 ≤ k → k < u → BOk x' → Q (.dat (.int k)) [bagD x']) : Dr (runB 7 takeB) [.obj 0, .int u] [bagD x] Q :=
  (take_ok hx.ok hx.len hu hu2).mono fun r o ⟨k, x', e1, k0, k1, e2, hy, hc⟩ => by subst e1 e2; exact h k x' k0 k1 ⟨hy, by rw [hc]; exact hx.len⟩
/-- .. and no own list is given up -/
theorem safe_b {α : Prop} {β : Prop} {x : Bag} {d : D} (hd : d.imm = true) : (if ((Res.dat d).safe && [bagD x].all fun o => D.imms o.parts) = true then α else β) = α := by
  rw [bag_all, show (Res.dat d).safe = true from hd]; rfl
theorem safe_bn {α : Prop} {β : Prop} {x : Bag} {ds : List D} (hd : D.imms ds = true) : (if ((Res.new (.lst ds)).safe && [bagD x].all fun o => D.imms o.parts) = true then α else β) = α := by
  rw [bag_all, show (Res.new (.lst ds)).safe = true from hd]; rfl
theorem take_rn {x : Bag} {u : Int} {Q : Res → Sx → Prop} {env : List Slot} {rs : List Res} (hx : BOk x) (hu : 0 < u) (hu2 : u < 1073741824) (h : ∀ (k : Int) (x' : Bag), 0 ≤ k → k < u → BOk x' → Q (.dat (.int k)) ⟨env, [bagD x']⟩) :
    Dr (runB 7 takeB) [.obj 0, .int u] [bagD x] fun r o' => if (r.safe && o'.all fun o => D.imms o.parts) = true then Q r ⟨env, o'⟩ else Q r (putAll rs ⟨env, o'⟩) :=
  take_call hx hu hu2 fun k x' k0 k1 hy => by rw [safe_b (by rfl)]; exact h k x' k0 k1 hy
end DL
end
section
set_option maxRecDepth 100000
namespace DL
open PySem L2
/-! ## data that == and repr can speak of: small numbers, a few words -/
mutual
def niceP : PyData → Prop
  | .none => True
  | .bool _ => True
  | .int i => i.natAbs < 10 ^ 12
  | .str x => PyData.strOk x = true ∧ PyData.strOk (reprText x) = true
  | .list xs => nicesP xs
  | .tuple xs => nicesP xs
  | .dict _ => False
def nicesP : List PyData → Prop
  | [] => True
  | x :: r => niceP x ∧ nicesP r
end
mutual
theorem nice_lay : ∀ p : PyData, niceP p → p.canLay0 = true
  | .none, _ => by simp [PyData.canLay0]
  | .bool _, _ => by simp [PyData.canLay0]
  | .int i, _ => by simp [PyData.canLay0]
  | .str x, h => by simp [PyData.canLay0]; exact (by simpa [niceP] using h : _ ∧ _).1
  | .list xs, h => by simp [PyData.canLay0]; exact nices_lay xs (by simpa [niceP] using h)
  | .tuple xs, h => by simp [PyData.canLay0]; exact nices_lay xs (by simpa [niceP] using h)
  | .dict _, h => by simp [niceP] at h
theorem nices_lay : ∀ ps : List PyData, nicesP ps → PyData.canLayAll0 ps = true
  | [], _ => by simp [PyData.canLayAll0]
  | p :: r, h => by
    simp only [nicesP] at h
    simp [PyData.canLayAll0, nice_lay p h.1, nices_lay r h.2]
end
theorem log_small {i : Int} (h : i.natAbs < 10 ^ 12) : i.natAbs.log2 < 1920 := by
  by_cases h0 : i.natAbs = 0
  · rw [h0]; decide
  · have : i.natAbs.log2 < 40 := (Nat.log2_lt h0).mpr (Nat.lt_trans h (by decide))
    omega
mutual
theorem nice_show : ∀ p : PyData, niceP p → p.showable = true
  | .none, _ => by simp [PyData.showable]
  | .bool _, _ => by simp [PyData.showable]
  | .int i, h => by simp only [niceP] at h; simp only [PyData.showable, decide_eq_true_eq]; exact log_small h
  | .str x, _ => by simp [PyData.showable]
  | .list xs, h => by simp only [PyData.showable]; exact nices_show xs (by simpa [niceP] using h)
  | .tuple xs, h => by simp only [PyData.showable]; exact nices_show xs (by simpa [niceP] using h)
  | .dict _, h => by simp [niceP] at h
theorem nices_show : ∀ ps : List PyData, nicesP ps → PyData.showableAll ps = true
  | [], _ => by simp [PyData.showableAll]
  | p :: r, h => by
    simp only [nicesP] at h
    simp [PyData.showableAll, nice_show p h.1, nices_show r h.2]
end
mutual
theorem nice_short : ∀ p : PyData, niceP p → PyData.intsShort 13 p = true
  | .none, _ => by simp [PyData.intsShort]
  | .bool _, _ => by simp [PyData.intsShort]
  | .int i, h => by simp only [niceP] at h; simp only [PyData.intsShort, decide_eq_true_eq]; exact PyData.shown_int_le h
  | .str x, _ => by simp [PyData.intsShort]
  | .list xs, h => by simp only [PyData.intsShort]; exact nices_short xs (by simpa [niceP] using h)
  | .tuple xs, h => by simp only [PyData.intsShort]; exact nices_short xs (by simpa [niceP] using h)
  | .dict _, h => by simp [niceP] at h
theorem nices_short : ∀ ps : List PyData, nicesP ps → PyData.intsShortAll 13 ps = true
  | [], _ => by simp [PyData.intsShortAll]
  | p :: r, h => by
    simp only [nicesP] at h
    simp [PyData.intsShortAll, nice_short p h.1, nices_short r h.2]
end
def okC (x : Str) : Prop := ∀ c ∈ x.cps.toList, c < 0x110000
theorem okC_of {x : Str} (h : okC x) : PyData.strOk x = true := by
  unfold PyData.strOk
  rw [Array.all_eq_true']
  intro c hc
  exact decide_eq_true (h c (by simpa using hc))
theorem of_okC {x : Str} (h : PyData.strOk x = true) : okC x := by
  unfold PyData.strOk at h
  rw [Array.all_eq_true'] at h
  intro c hc
  exact of_decide_eq_true (h c (by simpa using hc))
theorem okC_app {x y : Str} (hx : okC x) (hy : okC y) : okC (x ++ y) := fun c hc => by
  rcases PyProof.Rows.mem_cps_append.mp hc with h | h
  · exact hx c h
  · exact hy c h
theorem okC_join {ts : List Str} (h : ∀ t ∈ ts, okC t) : okC (Str.join ", " ts) := fun c hc => by
  rcases (PyProof.Rows.mem_join ", " c ts).mp hc with ⟨t, ht, hc⟩ | ⟨_, hc⟩
  · exact h t ht c hc
  · rw [PyProof.Rows.signs_sep] at hc
    simp at hc
    omega
mutual
theorem nice_ok : ∀ p : PyData, niceP p → okC p.shown
  | .none, _ => of_okC (by decide +kernel)
  | .bool b, _ => by cases b <;> exact of_okC (by decide +kernel)
  | .int i, _ => fun c hc => by
    rcases Nat.lt_or_ge c 0x110000 with h | h
    · exact h
    · exact absurd hc (PyProof.Rows.shown_int_free' (k := c) ⟨by omega, by omega⟩ i)
  | .str x, h => by simp only [niceP] at h; rw [PyData.shown]; exact of_okC h.2
  | .list xs, h => by
    simp only [niceP] at h
    rw [PyData.shown_list]
    exact okC_app (okC_app (of_okC (by decide +kernel)) (okC_join (nices_ok xs h))) (of_okC (by decide +kernel))
  | .tuple xs, h => by
    simp only [niceP] at h
    rw [PyData.shown_tuple]
    refine okC_app (okC_app (of_okC (by decide +kernel)) (okC_join (nices_ok xs h))) ?_
    split <;> exact of_okC (by decide +kernel)
  | .dict _, h => by simp [niceP] at h
theorem nices_ok : ∀ ps : List PyData, nicesP ps → ∀ t ∈ PyData.shownAll ps, okC t
  | [], _, t, ht => by simp [PyData.shownAll] at ht
  | p :: r, h, t, ht => by
    simp only [nicesP] at h
    simp only [PyData.shownAll, List.mem_cons] at ht
    rcases ht with rfl | ht
    · exact nice_ok p h.1
    · exact nices_ok r h.2 t ht
end
/-- of a depth of at most b, of a weight of at most w -/
def Nc (d : D) (b w : Nat) : Prop := ∃ p, d.py = some p ∧ niceP p ∧ p.depth ≤ b ∧ p.weight ≤ w
def Ncs (ds : List D) (b w : Nat) : Prop := ∃ ps, D.pys ds = some ps ∧ nicesP ps ∧ PyData.depthAll ps ≤ b ∧ PyData.weightAll ps ≤ w
section
variable {d e : D} {ds es : List D} {b w b' w' : Nat}
theorem Nc.mono (h : Nc d b w) (hb : b ≤ b') (hw : w ≤ w') : Nc d b' w' := let ⟨p, h1, h2, h3, h4⟩ := h; ⟨p, h1, h2, by omega, by omega⟩
theorem Ncs.mono (h : Ncs ds b w) (hb : b ≤ b') (hw : w ≤ w') : Ncs ds b' w' := let ⟨p, h1, h2, h3, h4⟩ := h; ⟨p, h1, h2, by omega, by omega⟩
theorem ncs_nil : Ncs [] b w := ⟨[], by simp [D.pys], trivial, by simp [PyData.depthAll], by simp [PyData.weightAll]⟩
theorem ncs_cons (h : Nc d b w) (r : Ncs ds b w') : Ncs (d :: ds) b (w + 1 + w') := by
  obtain ⟨p, h1, h2, h3, h4⟩ := h
  obtain ⟨ps, r1, r2, r3, r4⟩ := r
  exact ⟨p :: ps, by simp [D.pys, h1, r1], ⟨h2, r2⟩, by simp only [PyData.depthAll]; omega, by simp only [PyData.weightAll]; omega⟩
theorem ncs_all : ∀ {ds : List D}, (∀ d ∈ ds, Nc d b w) → Ncs ds b (ds.length * (w + 1))
  | [], _ => ncs_nil
  | d :: r, h => by
    have := ncs_cons (h d List.mem_cons_self) (ncs_all fun e he => h e (List.mem_cons_of_mem _ he))
    refine this.mono (Nat.le_refl _) ?_
    rw [List.length_cons, Nat.add_mul]; omega
theorem ncs_app (h : Ncs ds b w) (r : Ncs es b w') : Ncs (ds ++ es) b (w + w') := by
  induction ds generalizing w with
  | nil => exact r.mono (Nat.le_refl _) (by omega)
  | cons d ds ih =>
    obtain ⟨ps, h1, h2, h3, h4⟩ := h
    simp only [D.pys, Option.bind_eq_some_iff, Option.map_eq_some_iff] at h1
    obtain ⟨p, e1, q, e2, rfl⟩ := h1
    simp only [nicesP, PyData.depthAll, PyData.weightAll] at h2 h3 h4
    obtain ⟨ps2, r1, r2, r3, r4⟩ := ih (w := PyData.weightAll q) ⟨q, e2, h2.2, by omega, Nat.le_refl _⟩
    exact ⟨p :: ps2, by simp [D.pys, e1, r1], ⟨h2.1, r2⟩, by simp only [PyData.depthAll]; omega, by simp only [PyData.weightAll]; omega⟩
theorem nc_tup (h : Ncs ds b w) : Nc (.tup ds) (b + 1) w := by
  obtain ⟨ps, h1, h2, h3, h4⟩ := h
  exact ⟨.tuple ps, by simp [D.py, h1], by simpa [niceP] using h2, by simp only [PyData.depth]; omega, by simpa only [PyData.weight] using h4⟩
theorem nc_lst (h : Ncs ds b w) : Nc (.lst ds) (b + 1) w := by
  obtain ⟨ps, h1, h2, h3, h4⟩ := h
  exact ⟨.list ps, by simp [D.py, h1], by simpa [niceP] using h2, by simp only [PyData.depth]; omega, by simpa only [PyData.weight] using h4⟩
theorem nc_rol (h : Ncs ds b w) : Nc (.rol ds) (b + 1) w := by
  obtain ⟨ps, h1, h2, h3, h4⟩ := h
  exact ⟨.list ps, by simp [D.py, h1], by simpa [niceP] using h2, by simp only [PyData.depth]; omega, by simpa only [PyData.weight] using h4⟩
theorem nc_int {i : Int} (h : i.natAbs < 2 ^ 20) : Nc (.int i) b 20 := by
  refine ⟨.int i, by simp [D.py], ?_, by simp [PyData.depth], ?_⟩
  · simp only [niceP]; exact Nat.lt_trans h (by decide)
  · simp only [PyData.weight]
    split
    · omega
    · rename_i h0
      have : i.natAbs ≠ 0 := by simpa using h0
      have := (Nat.log2_lt this).mpr h
      omega
theorem nc_bl {c : Bool} : Nc (.bl c) b w := ⟨.bool c, by simp [D.py], trivial, by simp [PyData.depth], by simp [PyData.weight]⟩
theorem nc_non : Nc .non b w := ⟨.none, by simp [D.py], trivial, by simp [PyData.depth], by simp [PyData.weight]⟩
theorem nc_str {x : Str} (h1 : PyData.strOk x = true) (h2 : PyData.strOk (reprText x) = true) (h3 : x.cps.size ≤ w) : Nc (.str x) b w := ⟨.str x, by simp [D.py], ⟨h1, h2⟩, by simp [PyData.depth], by simpa [PyData.weight] using h3⟩
theorem nc_go : Nc (.str "go") b 10 := nc_str (by decide +kernel) (by decide +kernel) (by decide +kernel)
theorem nc_get : Nc (.str "get") b 10 := nc_str (by decide +kernel) (by decide +kernel) (by decide +kernel)
/-- == of one datum with itself -/
theorem Nc.refl (h : Nc d b w) (hb : b ≤ 64) {Q : Res → Sx → Prop} {S : Sx} {neg : Bool} : Rn (opEq neg d d) S Q = Q (.dat (.bl (true != neg))) S := by
  obtain ⟨p, h1, h2, h3, h4⟩ := h
  have e : D.eqv d d = some true := by
    unfold D.eqv
    rw [h1]
    have l := nice_lay p h2
    simp [SeqAt.shaped, l, show p.depth ≤ 64 by omega, SeqAt.eqv_refl p l]
  unfold opEq
  rw [e]; rfl
theorem Nc.repr (h : Nc d b w) (hb : b ≤ 64) (hw : w ≤ 1048576) : ∃ x : Str, PyData.strOk x = true ∧ ∀ {Q : Res → Sx → Prop} {S : Sx}, Rn (opRepr d) S Q = Q (.dat (.str x)) S := by
  obtain ⟨p, h1, h2, h3, h4⟩ := h
  refine ⟨p.shown, okC_of (nice_ok p h2), fun {Q S} => ?_⟩
  have e : d.shown = some p.shown := by
    unfold D.shown
    rw [h1]
    have l := nice_lay p h2
    have sh := PyData.shown_fits (B := 13) (by decide) (by decide) (PyData.leavesShort_of_canLay0 13 p l (nice_short p h2)) (by omega : p.weight ≤ 2 ^ 20)
    simp [nice_show p h2, show p.depth ≤ 64 by omega, sh]
  unfold opRepr
  rw [e]; rfl
theorem eq_str_self {x : Str} (hx : PyData.strOk x = true) {Q : Res → Sx → Prop} {S : Sx} {neg : Bool} : Rn (opEq neg (.str x) (.str x)) S Q = Q (.dat (.bl (true != neg))) S := by
  rw [op_eq_s hx hx]; simp
/-- comprehensions over typed items -/
theorem cw_of {α : Type} {turn : D → M (Option D)} {env : List Slot} {o : List D} {P : List D → List D → Prop} {f : α → D} {g : α → Option D} : ∀ {xs : List α} {acc : List D}, acc.length + xs.length ≤ sizeLine → (∀ x ∈ xs, Rn (turn (f x)) ⟨env, o⟩ fun r S' => r = g x ∧ S'.objs = o) → P (acc ++ xs.filterMap g) o → Cw turn env (xs.map f) acc o P
  | [], acc, _, _, q => by
    rw [List.map_nil, cw_nil]
    simpa using q
  | x :: xs, acc, hl, h, q => by
    rw [List.map_cons, cw_cons]
    have hl' : acc.length + (xs.length + 1) ≤ sizeLine := by simpa using hl
    refine (h x List.mem_cons_self).mono ?_
    rintro r S' ⟨rfl, e⟩
    cases hg : g x with
    | none =>
      simp only
      rw [e]
      exact cw_of (by omega) (fun c hc => h c (List.mem_cons_of_mem _ hc)) (by simpa [List.filterMap_cons, hg] using q)
    | some v =>
      simp only
      rw [e]
      refine ⟨by omega, cw_of (by simp; omega) (fun c hc => h c (List.mem_cons_of_mem _ hc)) ?_⟩
      simpa [List.filterMap_cons, hg] using q
theorem cw_ofM {α : Type} {turn : D → M (Option D)} {env : List Slot} {o : List D} {P : List D → List D → Prop} {f g : α → D} {xs : List α} (hl : xs.length ≤ sizeLine) (h : ∀ x ∈ xs, Rn (turn (f x)) ⟨env, o⟩ fun r S' => r = some (g x) ∧ S'.objs = o) (q : P (xs.map g) o) : Cw turn env (xs.map f) [] o P :=
  cw_of (g := fun x => some (g x)) (by simpa using hl) h (by simpa using q)
theorem cw_ofF {α : Type} {turn : D → M (Option D)} {env : List Slot} {o : List D} {P : List D → List D → Prop} {f g : α → D} {c : α → Bool} {xs : List α} (hl : xs.length ≤ sizeLine) (h : ∀ x ∈ xs, Rn (turn (f x)) ⟨env, o⟩ fun r S' => r = (if c x = true then some (g x) else none) ∧ S'.objs = o) (q : P ((xs.filter c).map g) o) : Cw turn env (xs.map f) [] o P := by
  refine cw_of (g := fun x => if c x = true then some (g x) else none) (by simpa using hl) h ?_
  have : ∀ ys : List α, ys.filterMap (fun x => if c x = true then some (g x) else none) = (ys.filter c).map g := by
    intro ys
    induction ys with
    | nil => rfl
    | cons y r ih => by_cases hy : c y = true <;> simp [List.filterMap_cons, List.filter_cons, hy, ih]
  rw [List.nil_append, this]
  exact q
/-- a loop over typed items -/
theorem for_of {α : Type} {Q : Fl → Sx → Prop} {tgt : D → M Unit} {b : M Fl} {f : α → D} {I : List α → List α → Sx → Prop} {all : List α} : ∀ {a r : List α} {S : Sx}, all = a ++ r → I a r S →
    (∀ a x r S, all = a ++ x :: r → I a (x :: r) S → Rn (tgt (f x)) S fun _ S1 => Rn b S1 fun fl S2 => match fl with
      | .next => I (a ++ [x]) r S2
      | .cont => I (a ++ [x]) r S2
      | .brk => Q .next S2
      | .ret v => Q (.ret v) S2) → (∀ S, I all [] S → Q .next S) → Rn (forM tgt b (r.map f)) S Q
  | a, [], S, e, i, _, q => by
    rw [List.append_nil] at e
    subst e
    exact q S i
  | a, x :: r, S, e, i, h, q => by
    rw [List.map_cons, rn_for1]
    refine (h a x r S e i).mono fun _ S1 h1 => h1.mono fun fl S2 h2 => ?_
    cases fl with
    | next => exact for_of (a := a ++ [x]) (by simp [e]) h2 h q
    | cont => exact for_of (a := a ++ [x]) (by simp [e]) h2 h q
    | brk => exact h2
    | ret r => exact h2
/-- the laws' own question whether two things are alike, of one datum with itself -/
def alikeB : M Fl := (retM (andM (binM (opEq false) (varM 0) (varM 1)) (binM (opEq false) (unM opRepr (varM 0)) (unM opRepr (varM 1)))))
theorem alike_self {o : List D} (h : Nc d b w) (hb : b ≤ 64) (hw : w ≤ 1048576) {Q : Res → List D → Prop} (q : Q (.dat (.bl true)) o) : Dr (runB 2 alikeB) [d, d] o Q := by
  obtain ⟨x, hx, e⟩ := h.repr hb hw
  rw [dr_run]
  unfold alikeB
  simp -implicitDefEqProofs only [rn_bind, rn_pure, rn_no, rn_need, rn_opt1, rn_ite, rn_var, rn_put, rn_useD, rn_useN, rn_useO, rn_chkD, rn_chkN, rn_chkO, rn_call, rn_seq, rn_guard, rn_forIn, rn_for0, rn_setD, rn_setN, rn_setO, binM, binMO, unM, cmpT, testM, andT, orT, notT, ifM, asgM, retM, exprM, kM, consA, nilA, tupM, lstM, useAll, chkAll, slM, partM, DL.andM, DL.orM, DL.notM, negM, asgG, gN, gT, gsC, gsN, seqI, frzM, asgTM, dnewM, par2M, hold_d, hold_n, hold_o, d_d, d_n, d_o, out_d, out_n, out_o, fo_next, fo_ret, isBl_b, isInt_i, tr_i, tr_b, tr_n, tr_l, tr_t, it_l, it_r, it_t, li_l, li_r, op_add_i, op_add_l, op_add_t, op_sub_i, op_mul_i, op_mod_i, op_div_i, op_pow_i, op_lt_i, op_le_i, op_gt_i, op_ge_i, op_int_i, op_abs_i, op_len_l, op_len_t, op_len_r, op_tup_l, op_tup_t, op_lst_l, op_lst_t, op_max_i, op_eq_i, eq_go_go, eq_get_get, eq_go_get, eq_get_go, Bool.bne_false, Bool.bne_true, Bool.not_true, Bool.not_false, op_sl_l, op_sl_r, op_sl_t, op_ix_t0, op_ix_t1, op_ix_t2, op_ix_l0, List.getElem?_cons_zero, List.getElem?_cons_succ, List.set_cons_zero, List.set_cons_succ, List.map_cons, List.map_nil, List.length_cons, List.length_nil, List.cons_append, List.nil_append, if_true, if_false, Bool.false_eq_true, decide_eq_true_eq, and_true, true_and, ite_true, ite_false, reduceCtorEq, List.replicate, h.refl hb, e, eq_str_self hx]
  exact q
end
end DL
end
section
set_option maxRecDepth 100000
namespace LW
open PySem PySem.Spec L2 DL
def top (i : Nat) : Stmt := PySem.Challenge.pw_oldletters_k23_torn_states.main.body.getD i (.Pass ⟨0, 0, 0, 0⟩)
abbrev s_steps_of : Stmt := top 1
abbrev s_results_of : Stmt := top 2
abbrev s_plain_state : Stmt := top 3
abbrev s_inner_codes : Stmt := top 4
abbrev s_asked_by : Stmt := top 5
abbrev s_all_choices : Stmt := top 7
abbrev s_torn_states : Stmt := top 8
abbrev s__law_bag : Stmt := top 10
abbrev s__law_take : Stmt := top 11
abbrev s__law_some : Stmt := top 12
abbrev s__law_alike : Stmt := top 13
abbrev s__law_lot : Stmt := top 14
abbrev s__law_steps : Stmt := top 15
abbrev s__law_results : Stmt := top 16
abbrev s__law_rich : Stmt := top 17
abbrev s__law_case : Stmt := top 18
abbrev s__law_places : Stmt := top 19
abbrev s__law_under : Stmt := top 20
abbrev s__law_plain : Stmt := top 21
abbrev s__law_plain_all : Stmt := top 22
abbrev s__law_any_lots : Stmt := top 23
abbrev s__law_whom : Stmt := top 24
abbrev s_law : Stmt := top 25
/-! ## what the defs reckon, on data -/
def b_steps_of : M Fl := (seqM (asgM 2 (lstM nilA))
  (seqM (asgM 3 (lstM (consA (tupM (consA (varM 0) (consA (tupM nilA) nilA))) nilA)))
  (seqM (whileM (testM (varM 3)) (seqM (asgG (methM0 "list" 3 opPop) (gT 2 (gsC (gN 5) (gsC (gN 6) gsN))))
  (seqM (ifM (cmpT (opEq false) (binM opIx (varM 5) (kM (.int 0))) (kM (.str "go"))) (seqM (exprM (methM "list" 2 (tupM (consA (varM 6) (consA (binM opIx (varM 5) (kM (.int 1))) nilA))) opAppend))
  (pure .cont)) (pure .next))
  (forIn (seqI (binM opIx (varM 1) (binM opIx (varM 5) (kM (.int 1))))) (gN 4) (exprM (methM "list" 3 (tupM (consA (binM opIx (binM opIx (varM 5) (kM (.int 2))) (varM 4)) (consA (binM opAdd (varM 6) (tupM (consA (varM 4) nilA))) nilA))) opAppend))))) whFuel)
  (retM (unM opSortedB (varM 2))))))
def d_steps_of : Den := runB 7 b_steps_of
def b_results_of : M Fl := (seqM (asgM 2 (dnewM false))
  (seqM (forIn (seqI (callM 2 d_steps_of (consA (varM 0) (consA (varM 1) nilA)))) (gT 2 (gsC (gN 3) (gsC (gN 4) gsN))) (storeM 2 (kM (.bl true)) (varM 4)))
  (retM (unM opSortedB (varM 2)))))
def d_results_of : Den := runB 5 b_results_of
def b_plain_state : M Fl := (seqM (asgM 2 (varM 0))
  (seqM (whileM (cmpT (opEq false) (binM opIx (varM 2) (kM (.int 0))) (kM (.str "get"))) (asgM 2 (binM opIx (binM opIx (varM 2) (kM (.int 2))) (binM opIx (varM 1) (binM opIx (varM 2) (kM (.int 1)))))) whFuel)
  (retM (binM opIx (varM 2) (kM (.int 1))))))
def d_plain_state : Den := runB 3 b_plain_state
def b_inner_codes : M Fl := (seqM (asgM 1 (lstM nilA))
  (seqM (asgM 2 (lstM (consA (varM 0) nilA)))
  (seqM (whileM (testM (varM 2)) (seqM (asgM 3 (methM0 "list" 2 opPop))
  (seqM (exprM (methM "list" 1 (varM 3) opAppend))
  (ifM (cmpT (opEq false) (binM opIx (varM 3) (kM (.int 0))) (kM (.str "get"))) (exprM (methM "list" 2 (binM opIx (varM 3) (kM (.int 2))) opExtA)) (pure .next)))) whFuel)
  (retM (varM 1)))))
def d_inner_codes : Den := runB 4 b_inner_codes
def b_asked_by : M Fl := (seqM (asgM 1 (dnewM false))
  (seqM (forIn (seqI (callM 1 d_inner_codes (consA (varM 0) nilA))) (gN 2) (ifM (cmpT (opEq false) (binM opIx (varM 2) (kM (.int 0))) (kM (.str "get"))) (storeM 1 (kM (.bl true)) (binM opIx (varM 2) (kM (.int 1)))) (pure .next)))
  (retM (unM opSortedB (varM 1)))))
def d_asked_by : Den := runB 3 b_asked_by
def b_all_choices : M Fl := (seqM (asgM 1 (lstM (consA (tupM nilA) nilA)))
  (seqM (forIn (seqI (varM 0)) (gN 2) (asgM 1 (lcM2 (seqI (varM 1)) [3, 4] [4] (turn1M (gN 3) (pure true) (seqI (varM 2))) (turnM (gN 4) (pure true) (binM opAdd (varM 3) (tupM (consA (varM 4) nilA)))))))
  (retM (varM 1))))
def d_all_choices : Den := runB 5 b_all_choices
def b_torn_states : M Fl := (seqM (asgM 2 (callM 1 d_asked_by (consA (varM 0) nilA)))
  (seqM (asgM 3 (lcM (enumI (varM 1)) [7, 8] (turnM (gT 2 (gsC (gN 7) (gsC (gN 8) gsN))) (pure true) (ifM (cmpT (opIn false) (varM 7) (varM 2)) (varM 8) (slM (varM 8) (pure none) (partM (kM (.int 1))))))))
  (seqM (asgM 4 (lcM (seqI (callM 1 d_all_choices (consA (varM 3) nilA))) [5] (turnM (gN 5) (pure true) (callM 2 d_plain_state (consA (varM 0) (consA (varM 5) nilA))))))
  (retM (lcM (seqI (callM 2 d_results_of (consA (varM 0) (consA (varM 1) nilA)))) [6] (turnM (gN 6) (cmpT (opIn true) (varM 6) (varM 4)) (varM 6)))))))
def d_torn_states : Den := runB 9 b_torn_states
def b__law_bag : M Fl := (retM (lstM (consA (kM (.int 0)) (consA (kM (.int 1234567891)) (consA (kM (.int 0)) (consA (frzM (lcM (seqI (slM (varM 0) (pure none) (partM (kM (.int 63))))) [1] (turnM (gN 1) (pure true) (unM opAbs (varM 1))))) nilA))))))
def d__law_bag : Den := runB 2 b__law_bag
def b__law_take : M Fl := (seqM (ifM (cmpT (opEq false) (binMO opIx (varM 0) (kM (.int 0))) (kM (.int 0))) (seqM (asgM 4 (binM opIx (binM opAdd (slM (binMO opIx (varM 0) (kM (.int 3))) (partM (binMO opIx (varM 0) (kM (.int 2)))) (pure none)) (lstM (consA (kM (.int 0)) nilA))) (kM (.int 0))))
  (seqM (augSM 0 (fun i j => i + j) (kM (.int 2)) (kM (.int 1)))
  (seqM (ifM (cmpT opGe (varM 4) (binM opPow (kM (.int 10)) (kM (.int 18)))) (storeM 0 (varM 4) (kM (.int 0))) (pure .next))
  (seqM (asgM 5 (binM opAdd (binM opAdd (binM opMul (binMO opIx (varM 0) (kM (.int 1))) (kM (.int 48271))) (binM opMod (unM opInt (varM 4)) (kM (.int 2147483647)))) (binM opMul (kM (.int 7919)) (binMO opIx (varM 0) (kM (.int 2))))))
  (storeM 0 (binM opMod (unM opInt (varM 5)) (kM (.int 2147483647))) (kM (.int 1))))))) (pure .next))
  (seqM (ifM (cmpT opGt (binMO opIx (varM 0) (kM (.int 0))) (kM (.int 0))) (seqM (asgM 6 (binM opMod (unM opInt (binMO opIx (varM 0) (kM (.int 0)))) (varM 1)))
  (seqM (storeM 0 (binM opDiv (unM opInt (binMO opIx (varM 0) (kM (.int 0)))) (varM 1)) (kM (.int 0)))
  (retM (varM 6)))) (pure .next))
  (seqM (asgM 2 (binM opMod (unM opInt (binM opMul (binM opAdd (binMO opIx (varM 0) (kM (.int 1))) (kM (.int 1))) (kM (.int 39373)))) (kM (.int 1000000007))))
  (seqM (asgM 3 (binM opMod (unM opInt (binM opMul (binM opMod (unM opInt (binM opMul (varM 2) (varM 2))) (kM (.int 998244353))) (kM (.int 30011)))) (kM (.int 998244353))))
  (retM (binM opMod (unM opInt (binM opDiv (varM 3) (kM (.int 7)))) (varM 1)))))))
def d__law_take : Den := runB 7 b__law_take
def b__law_some : M Fl := (retM (binM opIx (varM 1) (callM 2 d__law_take (consA (varM 0) (consA (unM opLen (varM 1)) nilA)))))
def d__law_some : Den := runB 2 b__law_some
def b__law_alike : M Fl := (retM (andM (binM (opEq false) (varM 0) (varM 1)) (binM (opEq false) (unM opRepr (varM 0)) (unM opRepr (varM 1)))))
def d__law_alike : Den := runB 2 b__law_alike
def b__law_lot : M Fl := (seqM (asgM 2 (callM 2 d__law_take (consA (varM 0) (consA (varM 1) nilA))))
  (retM (unM opTuple (lcM (rng1I (varM 1)) [3] (turnM (gN 3) (orT (cmpT (opEq false) (varM 3) (varM 2)) (cmpT (opEq false) (callM 2 d__law_take (consA (varM 0) (consA (kM (.int 2)) nilA))) (kM (.int 0)))) (varM 3))))))
def d__law_lot : Den := runB 4 b__law_lot
def b__law_steps : M Fl := (seqM (asgM 2 (lstM nilA))
  (seqM (asgM 3 (lstM (consA (tupM (consA (tupM nilA) (consA (varM 0) nilA))) nilA)))
  (seqM (whileM (cmpT (opEq true) (varM 3) (lstM nilA)) (seqM (asgG (methM0 "list" 3 opPop) (gT 2 (gsC (gN 4) (gsC (gN 5) gsN))))
  (ifM (cmpT (opEq false) (binM opIx (varM 5) (kM (.int 0))) (kM (.str "go"))) (exprM (methM "list" 2 (tupM (consA (varM 4) (consA (binM opIx (varM 5) (kM (.int 1))) nilA))) opAppend)) (forIn (seqI (binM opIx (varM 1) (binM opIx (varM 5) (kM (.int 1))))) (gN 6) (exprM (methM "list" 3 (tupM (consA (binM opAdd (varM 4) (tupM (consA (varM 6) nilA))) (consA (binM opIx (binM opIx (varM 5) (kM (.int 2))) (varM 6)) nilA))) opAppend))))) whFuel)
  (retM (unM opSortedB (varM 2))))))
def d__law_steps : Den := runB 7 b__law_steps
def b__law_results : M Fl := (retM (unM opSortSet (lcM (seqI (callM 2 d__law_steps (consA (varM 0) (consA (varM 1) nilA)))) [2] (turnM (gN 2) (pure true) (binM opIx (varM 2) (kM (.int 1)))))))
def d__law_results : Den := runB 3 b__law_results
def b__law_rich (r : Den) : M Fl := (seqM (ifM (orT (cmpT (opEq false) (varM 4) (kM (.int 0))) (cmpT (opEq false) (callM 2 d__law_take (consA (varM 0) (consA (kM (.int 6)) nilA))) (kM (.int 0)))) (retM (tupM (consA (kM (.str "go")) (consA (callM 2 d__law_take (consA (varM 0) (consA (varM 2) nilA))) nilA)))) (pure .next))
  (seqM (asgM 5 (callM 2 d__law_some (consA (varM 0) (consA (varM 1) nilA))))
  (seqM (par2M 7 8 (callM 2 d__law_take (consA (varM 0) (consA (binM opIx (varM 3) (varM 5)) nilA))) (lstM nilA))
  (seqM (forIn (rng1I (binM opIx (varM 3) (varM 5))) (gN 6) (seqM (asgM 9 (ifM (andT (cmpT (opEq false) (varM 4) (kM (.int 3))) (andT (cmpT (opEq false) (unM opMaxA (varM 3)) (kM (.int 4))) (cmpT (opEq true) (varM 6) (varM 7)))) (kM (.int 1)) (binM opSub (varM 4) (kM (.int 1)))))
  (exprM (methM "list" 8 (callM 5 r (consA (varM 0) (consA (varM 1) (consA (varM 2) (consA (varM 3) (consA (varM 9) nilA)))))) opAppend))))
  (retM (tupM (consA (kM (.str "get")) (consA (varM 5) (consA (unM opTuple (varM 8)) nilA)))))))))
def d__law_rich : Nat → Den
  | 0 => fun _ _ => none
  | n + 1 => runB 10 (b__law_rich (d__law_rich n))
def b__law_case : M Fl := (seqM (asgM 4 (unM opTuple (lcM (rng1I (binM opAdd (kM (.int 1)) (callM 2 d__law_take (consA (varM 0) (consA (varM 1) nilA))))) [9] (turnM (gN 9) (pure true) (binM opAdd (kM (.int 1)) (binM opMax2 (callM 2 d__law_take (consA (varM 0) (consA (varM 2) nilA))) (callM 2 d__law_take (consA (varM 0) (consA (varM 2) nilA)))))))))
  (seqM (par2M 6 7 (binM opAdd (kM (.int 1)) (binM opMax2 (callM 2 d__law_take (consA (varM 0) (consA (kM (.int 4)) nilA))) (callM 2 d__law_take (consA (varM 0) (consA (kM (.int 4)) nilA))))) (callM 2 d__law_take (consA (varM 0) (consA (kM (.int 3)) nilA))))
  (seqM (asgM 5 (unM opLstRg (unM opLen (varM 4))))
  (seqM (ifM (cmpT opLt (varM 7) (kM (.int 2))) (seqM (asgM 8 (callM 2 d__law_take (consA (varM 0) (consA (unM opLen (varM 4)) nilA))))
  (asgM 5 (ifM (cmpT (opEq false) (varM 7) (kM (.int 0))) (lstM (consA (varM 8) nilA)) (lstM (consA (varM 8) (consA (callM 2 d__law_take (consA (varM 0) (consA (unM opLen (varM 4)) nilA))) nilA)))))) (pure .next))
  (retM (tupM (consA (varM 4) (consA (varM 6) (consA (callM 5 (d__law_rich 5) (consA (varM 0) (consA (varM 5) (consA (varM 6) (consA (varM 4) (consA (varM 3) nilA)))))) nilA)))))))))
def d__law_case : Den := runB 10 b__law_case
def b__law_places (r : Den) : M Fl := (seqM (asgM 1 (lstM (consA (tupM nilA) nilA)))
  (seqM (ifM (cmpT (opEq false) (binM opIx (varM 0) (kM (.int 0))) (kM (.str "get"))) (forIn (enumI (binM opIx (varM 0) (kM (.int 2)))) (gT 2 (gsC (gN 2) (gsC (gN 3) gsN))) (exprM (methM "list" 1 (lcM (seqI (callM 1 r (consA (varM 3) nilA))) [4] (turnM (gN 4) (pure true) (binM opAdd (tupM (consA (varM 2) nilA)) (varM 4)))) opExtA))) (pure .next))
  (retM (varM 1))))
def d__law_places : Nat → Den
  | 0 => fun _ _ => none
  | n + 1 => runB 5 (b__law_places (d__law_places n))
def b__law_under : M Fl := (seqM (forIn (seqI (varM 1)) (gN 2) (asgM 0 (binM opIx (binM opIx (varM 0) (kM (.int 2))) (varM 2))))
  (retM (varM 0)))
def d__law_under : Den := runB 3 b__law_under
def b__law_plain : M Fl := (seqM (whileM (cmpT (opEq false) (binM opIx (varM 0) (kM (.int 0))) (kM (.str "get"))) (asgM 0 (binM opIx (binM opIx (varM 0) (kM (.int 2))) (binM opIx (varM 1) (binM opIx (varM 0) (kM (.int 1)))))) whFuel)
  (retM (binM opIx (varM 0) (kM (.int 1)))))
def d__law_plain : Den := runB 2 b__law_plain
def b__law_whom : M Fl := (seqM (asgM 1 (lcM (seqI (callM 1 (d__law_places 5) (consA (varM 0) nilA))) [2] (turnM (gN 2) (pure true) (callM 2 d__law_under (consA (varM 0) (consA (varM 2) nilA))))))
  (retM (unM opSortSet (lcM (seqI (varM 1)) [3] (turnM (gN 3) (cmpT (opEq false) (binM opIx (varM 3) (kM (.int 0))) (kM (.str "get"))) (binM opIx (varM 3) (kM (.int 1))))))))
def d__law_whom : Den := runB 4 b__law_whom
def b__law_plain_all : M Fl := (seqM (asgM 2 (lstM (consA (frzM (lcM (seqI (varM 1)) [6] (turnM (gN 6) (pure true) (binM opIx (varM 6) (kM (.int 0)))))) nilA)))
  (seqM (forIn (seqI (callM 1 d__law_whom (consA (varM 0) nilA))) (gN 3) (seqM (asgM 4 (lstM nilA))
  (seqM (forIn (seqI (varM 2)) (gN 5) (exprM (methM "list" 4 (lcM (seqI (binM opIx (varM 1) (varM 3))) [7] (turnM (gN 7) (pure true) (frzM (binM opAdd (binM opAdd (slM (varM 5) (pure none) (partM (varM 3))) (lstM (consA (varM 7) nilA))) (slM (varM 5) (partM (binM opAdd (varM 3) (kM (.int 1)))) (pure none)))))) opExtA)))
  (asgM 2 (varM 4)))))
  (retM (unM opSortSet (lcM (seqI (varM 2)) [5] (turnM (gN 5) (pure true) (callM 2 d__law_plain (consA (varM 0) (consA (varM 5) nilA)))))))))
def d__law_plain_all : Den := runB 8 b__law_plain_all
def b__law_any_lots : M Fl := (seqM (asgM 3 (lstM nilA))
  (seqM (forIn (rng1I (unM opLen (varM 1))) (gN 4) (seqM (asgM 5 (unM opList (callM 2 d__law_lot (consA (varM 0) (consA (binM opIx (varM 1) (varM 4)) nilA)))))
  (seqM (ifM (andT (cmpT (opIsN true) (varM 2) (kM .non)) (cmpT (opEq false) (binM opIx (varM 2) (kM (.int 0))) (varM 4))) (exprM (methM "list" 5 (binM opIx (varM 2) (kM (.int 1))) opAppend)) (pure .next))
  (exprM (methM "list" 3 (unM opTuple (unM opSortSet (varM 5))) opAppend)))))
  (retM (unM opTuple (varM 3)))))
def d__law_any_lots : Den := runB 6 b__law_any_lots
def b_law : M Fl := (seqM (asgTM 1 (callM 1 d__law_bag (consA (varM 0) nilA)))
  (seqM (forIn (rng1I (kM (.int 3))) (gN 2) (seqM (asgG (callM 4 d__law_case (consA (varM 1) (consA (kM (.int 5)) (consA (kM (.int 4)) (consA (kM (.int 3)) nilA))))) (gT 3 (gsC (gN 5) (gsC (gN 6) (gsC (gN 7) gsN)))))
  (seqM (asgM 3 (lstM nilA))
  (seqM (forIn (seqI (tupM (consA (callM 3 d__law_any_lots (consA (varM 1) (consA (varM 5) (consA (kM .non) nilA)))) (consA (callM 3 d__law_any_lots (consA (varM 1) (consA (varM 5) (consA (kM .non) nilA)))) (consA (unM opTuple (lcM (seqI (varM 5)) [12] (turnM (gN 12) (pure true) (tupM (consA (kM (.int 0)) nilA))))) nilA))))) (gN 4) (seqM (asgM 8 (callM 2 d__law_plain_all (consA (varM 7) (consA (varM 4) nilA))))
  (seqM (asgM 9 (lcM (seqI (callM 2 d__law_results (consA (varM 7) (consA (varM 4) nilA)))) [11] (turnM (gN 11) (cmpT (opIn true) (varM 11) (varM 8)) (varM 11))))
  (seqM (asgM 10 (callM 2 d_torn_states (consA (varM 7) (consA (varM 4) nilA))))
  (seqM (ifM (notT (testM (callM 2 d__law_alike (consA (varM 10) (consA (varM 9) nilA))))) (retM (kM (.bl false))) (pure .next))
  (seqM (exprM (methM "list" 10 (kM (.int 7)) opAppend))
  (seqM (exprM (methM0 "list" 10 opReverse))
  (exprM (methM "list" 3 (tupM (consA (varM 4) (consA (varM 9) nilA))) opAppend)))))))))
  (forIn (seqI (binM opAdd (unM opRevS (varM 3)) (varM 3))) (gT 2 (gsC (gN 4) (gsC (gN 9) gsN))) (ifM (notT (testM (callM 2 d__law_alike (consA (callM 2 d_torn_states (consA (varM 7) (consA (varM 4) nilA))) (consA (varM 9) nilA))))) (retM (kM (.bl false))) (pure .next)))))))
  (retM (kM (.bl true)))))
def d_law : Den := runB 13 b_law
/-! ## what stands at the program's top -/
structure Txt (K : PySem.W.Frag) (mg : Str → Option Value) : Prop where
  f_steps_of : Fn0 K mg "steps_of" s_steps_of ["code", "lots"]
  f_results_of : Fn0 K mg "results_of" s_results_of ["code", "lots"]
  f_plain_state : Fn0 K mg "plain_state" s_plain_state ["code", "letters"]
  f_inner_codes : Fn0 K mg "inner_codes" s_inner_codes ["code"]
  f_asked_by : Fn0 K mg "asked_by" s_asked_by ["code"]
  f_all_choices : Fn0 K mg "all_choices" s_all_choices ["rows"]
  f_torn_states : Fn0 K mg "torn_states" s_torn_states ["code", "lots"]
  f__law_bag : Fn0 K mg "_law_bag" s__law_bag ["_law_script"]
  f__law_take : Fn0 K mg "_law_take" s__law_take ["_law_bag_here", "_law_upto"]
  f__law_some : Fn0 K mg "_law_some" s__law_some ["_law_bag_here", "_law_things"]
  f__law_alike : Fn0 K mg "_law_alike" s__law_alike ["_law_found", "_law_due"]
  f__law_lot : Fn0 K mg "_law_lot" s__law_lot ["_law_bag_here", "_law_many"]
  f__law_steps : Fn0 K mg "_law_steps" s__law_steps ["_law_code", "_law_lots"]
  f__law_results : Fn0 K mg "_law_results" s__law_results ["_law_code", "_law_lots"]
  f__law_rich : Fn0 K mg "_law_rich" s__law_rich ["_law_bag_here", "_law_menu", "_law_goals", "_law_many", "_law_deep"]
  f__law_case : Fn0 K mg "_law_case" s__law_case ["_law_bag_here", "_law_most", "_law_wide", "_law_deep"]
  f__law_places : Fn0 K mg "_law_places" s__law_places ["_law_code"]
  f__law_under : Fn0 K mg "_law_under" s__law_under ["_law_code", "_law_place"]
  f__law_plain : Fn0 K mg "_law_plain" s__law_plain ["_law_code", "_law_letters"]
  f__law_plain_all : Fn0 K mg "_law_plain_all" s__law_plain_all ["_law_code", "_law_lots"]
  f__law_any_lots : Fn0 K mg "_law_any_lots" s__law_any_lots ["_law_bag_here", "_law_many", "_law_own"]
  f__law_whom : Fn0 K mg "_law_whom" s__law_whom ["_law_code"]
  f_law : Fn0 K mg "law" s_law ["_law_script"]
  m_abs : mg "abs" = none
  m_enumerate : mg "enumerate" = none
  m_int : mg "int" = none
  m_len : mg "len" = none
  m_list : mg "list" = none
  m_max : mg "max" = none
  m_range : mg "range" = none
  m_repr : mg "repr" = none
  m_set : mg "set" = none
  m_sorted : mg "sorted" = none
  m_tuple : mg "tuple" = none
section
variable {P : Program} {w : World} {K : PySem.W.Frag} {mg : Str → Option Value} {base : Heap}
theorem sc_steps_of : FnScope ["code", "lots", "found", "rest", "letter", "here", "answers"] ["code", "lots"] (defScope s_steps_of) := ⟨rfl, rfl, rfl, by decide +kernel, rfl, by decide +kernel, by decide +kernel⟩
theorem k_steps_of (T : Txt K mg) : Dn P w K mg base 1 "steps_of" ["code", "lots"] d_steps_of := by
  have m_sorted := T.m_sorted
  have hN := sc_steps_of.nd
  exact okN T.f_steps_of sc_steps_of fun cdv A outer s H E z gd room tk =>
    (db_cons (ds_set 2 hN (de_lst dah_nil))
    (db_cons (ds_set 3 hN (de_lst (dah_cons (de_tup (dah_cons (de_var 0) (dah_cons (de_tup dah_nil) dah_nil))) dah_nil)))
    (db_cons (ds_while whFuel (passes_of rfl) (dt_val (de_var 3)) (db_cons (ds_asg (calm_t (calms_c (calm_n (i := 5)) (calms_c (calm_n (i := 6)) calms_n))) (de_pop 3) (dg_tup rfl (dgs_cons (dg_name 5 hN) (dgs_cons (dg_name 6 hN) dgs_nil))))
    (db_cons (ds_if (dt_eq (u64 room) (de_ix (u65 room) (de_var 5) de_int) de_str) (db_cons (ds_expr (de_append 2 (de_tup (dah_cons (de_var 6) (dah_cons (de_ix (u65 room) (de_var 5) de_int) dah_nil)))))
    (db_one ds_cont)) db_nil)
    (db_one (ds_for (passes_of rfl) rfl (calm_n (i := 4)) (di_seq (de_ix (u65 room) (de_var 1) (de_ix (u65 room) (de_var 5) de_int))) (dg_name 4 hN) (db_one (ds_expr (de_append 3 (de_tup (dah_cons (de_ix (u65 room) (de_ix (u65 room) (de_var 5) de_int) (de_var 4)) (dah_cons (de_add (de_var 6) (de_tup (dah_cons (de_var 4) dah_nil))) dah_nil)))))))))))
    (db_one (ds_ret (de_sorted rfl (u65 room) m_sorted (de_var 2)))))))
theorem sc_results_of : FnScope ["code", "lots", "reached", "answers", "state"] ["code", "lots"] (defScope s_results_of) := ⟨rfl, rfl, rfl, by decide +kernel, rfl, by decide +kernel, by decide +kernel⟩
theorem k_results_of (T : Txt K mg) : Dn P w K mg base 2 "results_of" ["code", "lots"] d_results_of := by
  have c_steps_of := (k_steps_of (P := P) (w := w) (base := base) T).mono (show 1 ≤ 1 by decide)
  have m_sorted := T.m_sorted
  have hN := sc_results_of.nd
  exact okN T.f_results_of sc_results_of fun cdv A outer s H E z gd room tk =>
    (db_cons (ds_set 2 hN de_dnewK)
    (db_cons (ds_for (passes_of rfl) rfl (calm_t (calms_c (calm_n (i := 3)) (calms_c (calm_n (i := 4)) calms_n))) (di_seq (de_cal c_steps_of gd room tk (dah_cons (de_var 0) (dah_cons (de_var 1) dah_nil)))) (dg_tup rfl (dgs_cons (dg_name 3 hN) (dgs_cons (dg_name 4 hN) dgs_nil))) (db_one (ds_store (u65 room) 2 de_bl (de_var 4))))
    (db_one (ds_ret (de_sorted rfl (u65 room) m_sorted (de_var 2))))))
theorem sc_plain_state : FnScope ["code", "letters", "here"] ["code", "letters"] (defScope s_plain_state) := ⟨rfl, rfl, rfl, by decide +kernel, rfl, by decide +kernel, by decide +kernel⟩
theorem k_plain_state (T : Txt K mg) : Dn P w K mg base 1 "plain_state" ["code", "letters"] d_plain_state := by
  have hN := sc_plain_state.nd
  exact okN T.f_plain_state sc_plain_state fun cdv A outer s H E z gd room tk =>
    (db_cons (ds_set 2 hN (de_var 0))
    (db_cons (ds_while whFuel (passes_of rfl) (dt_eq (u64 room) (de_ix (u65 room) (de_var 2) de_int) de_str) (db_one (ds_set 2 hN (de_ix (u65 room) (de_ix (u65 room) (de_var 2) de_int) (de_ix (u65 room) (de_var 1) (de_ix (u65 room) (de_var 2) de_int))))))
    (db_one (ds_ret (de_ix (u65 room) (de_var 2) de_int)))))
theorem sc_inner_codes : FnScope ["code", "found", "rest", "here"] ["code"] (defScope s_inner_codes) := ⟨rfl, rfl, rfl, by decide +kernel, rfl, by decide +kernel, by decide +kernel⟩
theorem k_inner_codes (T : Txt K mg) : Dn P w K mg base 1 "inner_codes" ["code"] d_inner_codes := by
  have hN := sc_inner_codes.nd
  exact okN T.f_inner_codes sc_inner_codes fun cdv A outer s H E z gd room tk =>
    (db_cons (ds_set 1 hN (de_lst dah_nil))
    (db_cons (ds_set 2 hN (de_lst (dah_cons (de_var 0) dah_nil)))
    (db_cons (ds_while whFuel (passes_of rfl) (dt_val (de_var 2)) (db_cons (ds_set 3 hN (de_pop 2))
    (db_cons (ds_expr (de_append 1 (de_var 3)))
    (db_one (ds_if (dt_eq (u64 room) (de_ix (u65 room) (de_var 3) de_int) de_str) (db_one (ds_expr (de_extA 2 (de_ix (u65 room) (de_var 3) de_int)))) db_nil)))))
    (db_one (ds_ret (de_var 1))))))
theorem sc_asked_by : FnScope ["code", "found", "here"] ["code"] (defScope s_asked_by) := ⟨rfl, rfl, rfl, by decide +kernel, rfl, by decide +kernel, by decide +kernel⟩
theorem k_asked_by (T : Txt K mg) : Dn P w K mg base 2 "asked_by" ["code"] d_asked_by := by
  have c_inner_codes := (k_inner_codes (P := P) (w := w) (base := base) T).mono (show 1 ≤ 1 by decide)
  have m_sorted := T.m_sorted
  have hN := sc_asked_by.nd
  exact okN T.f_asked_by sc_asked_by fun cdv A outer s H E z gd room tk =>
    (db_cons (ds_set 1 hN de_dnewK)
    (db_cons (ds_for (passes_of rfl) rfl (calm_n (i := 2)) (di_seq (de_cal c_inner_codes gd room tk (dah_cons (de_var 0) dah_nil))) (dg_name 2 hN) (db_one (ds_if (dt_eq (u64 room) (de_ix (u65 room) (de_var 2) de_int) de_str) (db_one (ds_store (u65 room) 1 de_bl (de_ix (u65 room) (de_var 2) de_int))) db_nil)))
    (db_one (ds_ret (de_sorted rfl (u65 room) m_sorted (de_var 1))))))
theorem sc_all_choices : FnScope ["rows", "found", "row", "chosen", "member"] ["rows"] (defScope s_all_choices) := ⟨rfl, rfl, rfl, by decide +kernel, rfl, by decide +kernel, by decide +kernel⟩
theorem k_all_choices (T : Txt K mg) : Dn P w K mg base 1 "all_choices" ["rows"] d_all_choices := by
  have hN := sc_all_choices.nd
  exact okN T.f_all_choices sc_all_choices fun cdv A outer s H E z gd room tk =>
    (db_cons (ds_set 1 hN (de_lst (dah_cons (de_tup dah_nil) dah_nil)))
    (db_cons (ds_for (passes_of rfl) rfl (calm_n (i := 2)) (di_seq (de_var 0)) (dg_name 2 hN) (db_one (ds_setLc2 (own := [("chosen", 3), ("member", 4)]) (vs1 := [4]) rfl hN (calm_n (i := 3)) (calm_n (i := 4)) (di_seq (de_var 1)) (blkOk_by rfl) (by decide) (by decide) (by decide) (fun s H C cl fp z => (dg_name 3 hN)) (fun s H C cl fp => pts_x0) (fun s H C cl fp z hz => (di_seq (de_var 2))) (fun s H C cl fp z => (dg_name 4 hN)) (fun s H C cl fp => pts_x0) (fun s H C cl fp z hz => (de_add (de_var 3) (de_tup (dah_cons (de_var 4) dah_nil)))))))
    (db_one (ds_ret (de_var 1)))))
theorem sc_torn_states : FnScope ["code", "lots", "workers", "rows", "plain", "letters", "state", "worker", "entry"] ["code", "lots"] (defScope s_torn_states) := ⟨rfl, rfl, rfl, by decide +kernel, rfl, by decide +kernel, by decide +kernel⟩
theorem k_torn_states (T : Txt K mg) : Dn P w K mg base 3 "torn_states" ["code", "lots"] d_torn_states := by
  have c_asked_by := (k_asked_by (P := P) (w := w) (base := base) T).mono (show 2 ≤ 2 by decide)
  have c_all_choices := (k_all_choices (P := P) (w := w) (base := base) T).mono (show 1 ≤ 2 by decide)
  have c_plain_state := (k_plain_state (P := P) (w := w) (base := base) T).mono (show 1 ≤ 2 by decide)
  have c_results_of := (k_results_of (P := P) (w := w) (base := base) T).mono (show 2 ≤ 2 by decide)
  have m_enumerate := T.m_enumerate
  have hN := sc_torn_states.nd
  exact okN T.f_torn_states sc_torn_states fun cdv A outer s H E z gd room tk =>
    (db_cons (ds_set 2 hN (de_cal c_asked_by gd room tk (dah_cons (de_var 0) dah_nil)))
    (db_cons (ds_setLc (own := [("worker", 7), ("entry", 8)]) rfl hN (calm_t (calms_c (calm_n (i := 7)) (calms_c (calm_n (i := 8)) calms_n))) (di_enum rfl m_enumerate (de_var 1)) (blkOk_by rfl) (by decide) (fun s H C cl fp z => (dg_tup rfl (dgs_cons (dg_name 7 hN) (dgs_cons (dg_name 8 hN) dgs_nil)))) (fun s H C cl fp => pts_x0) (fun s H C cl fp z hz => (de_if (dt_in (u65 room) (de_var 7) (de_var 2)) (de_var 8) (de_sl (de_var 8) do_none (do_some de_int)))))
    (db_cons (ds_set 4 hN (de_lc (own := [("letters", 5)]) rfl hN (calm_n (i := 5)) (di_seq (de_cal c_all_choices gd room tk (dah_cons (de_var 3) dah_nil))) (blkOk_by rfl) (by decide) (fun s H C cl fp z => (dg_name 5 hN)) (fun s H C cl fp => pts_x0) (fun s H C cl fp z hz => (de_cal c_plain_state gd room (tk_blk hz) (dah_cons (de_var 0) (dah_cons (de_var 5) dah_nil))))))
    (db_one (ds_ret (de_lc (own := [("state", 6)]) rfl hN (calm_n (i := 6)) (di_seq (de_cal c_results_of gd room tk (dah_cons (de_var 0) (dah_cons (de_var 1) dah_nil)))) (blkOk_by rfl) (by decide) (fun s H C cl fp z => (dg_name 6 hN)) (fun s H C cl fp => (pts_x1 fun z hz => (dt_notin (u65 room) (de_var 6) (de_var 4)))) (fun s H C cl fp z hz => (de_var 6))))))))
theorem sc__law_bag : FnScope ["_law_script", "_law_cell"] ["_law_script"] (defScope s__law_bag) := ⟨rfl, rfl, rfl, by decide +kernel, rfl, by decide +kernel, by decide +kernel⟩
theorem k__law_bag (T : Txt K mg) : Dn P w K mg base 1 "_law_bag" ["_law_script"] d__law_bag := by
  have m_abs := T.m_abs
  have hN := sc__law_bag.nd
  exact okN T.f__law_bag sc__law_bag fun cdv A outer s H E z gd room tk =>
    (db_one (ds_ret (de_lst (dah_cons de_int (dah_cons de_int (dah_cons de_int (dah_cons (de_frz (de_lc (own := [("_law_cell", 1)]) rfl hN (calm_n (i := 1)) (di_seq (de_sl (de_var 0) do_none (do_some de_int))) (blkOk_by rfl) (by decide) (fun s H C cl fp z => (dg_name 1 hN)) (fun s H C cl fp => pts_x0) (fun s H C cl fp z hz => (de_abs m_abs (de_var 1))))) dah_nil)))))))
theorem sc__law_take : FnScope ["_law_bag_here", "_law_upto", "_law_begin", "_law_second", "_law_cell", "_law_stirred", "_law_value"] ["_law_bag_here", "_law_upto"] (defScope s__law_take) := ⟨rfl, rfl, rfl, by decide +kernel, rfl, by decide +kernel, by decide +kernel⟩
theorem k__law_take (T : Txt K mg) : Dn P w K mg base 1 "_law_take" ["_law_bag_here", "_law_upto"] d__law_take := by
  have m_int := T.m_int
  have hN := sc__law_take.nd
  exact okN T.f__law_take sc__law_take fun cdv A outer s H E z gd room tk =>
    (db_cons (ds_if (dt_eq (u64 room) (de_ixO (u65 room) (de_var 0) de_int) de_int) (db_cons (ds_set 4 hN (de_ix (u65 room) (de_add (de_sl (de_ixO (u65 room) (de_var 0) de_int) (do_some (de_ixO (u65 room) (de_var 0) de_int)) do_none) (de_lst (dah_cons de_int dah_nil))) de_int))
    (db_cons (ds_augSAdd (u65 room) 0 de_int de_int)
    (db_cons (ds_if (dt_ge (de_var 4) (de_pow de_int de_int)) (db_one (ds_store (u65 room) 0 (de_var 4) de_int)) db_nil)
    (db_cons (ds_set 5 hN (de_add (de_add (de_mul (de_ixO (u65 room) (de_var 0) de_int) de_int) (de_mod (de_intC m_int (de_var 4)) de_int)) (de_mul de_int (de_ixO (u65 room) (de_var 0) de_int))))
    (db_one (ds_store (u65 room) 0 (de_mod (de_intC m_int (de_var 5)) de_int) de_int)))))) db_nil)
    (db_cons (ds_if (dt_gt (de_ixO (u65 room) (de_var 0) de_int) de_int) (db_cons (ds_set 6 hN (de_mod (de_intC m_int (de_ixO (u65 room) (de_var 0) de_int)) (de_var 1)))
    (db_cons (ds_store (u65 room) 0 (de_div (de_intC m_int (de_ixO (u65 room) (de_var 0) de_int)) (de_var 1)) de_int)
    (db_one (ds_ret (de_var 6))))) db_nil)
    (db_cons (ds_set 2 hN (de_mod (de_intC m_int (de_mul (de_add (de_ixO (u65 room) (de_var 0) de_int) de_int) de_int)) de_int))
    (db_cons (ds_set 3 hN (de_mod (de_intC m_int (de_mul (de_mod (de_intC m_int (de_mul (de_var 2) (de_var 2))) de_int) de_int)) de_int))
    (db_one (ds_ret (de_mod (de_intC m_int (de_div (de_var 3) de_int)) (de_var 1))))))))
theorem sc__law_some : FnScope ["_law_bag_here", "_law_things"] ["_law_bag_here", "_law_things"] (defScope s__law_some) := ⟨rfl, rfl, rfl, by decide +kernel, rfl, by decide +kernel, by decide +kernel⟩
theorem k__law_some (T : Txt K mg) : Dn P w K mg base 2 "_law_some" ["_law_bag_here", "_law_things"] d__law_some := by
  have c__law_take := (k__law_take (P := P) (w := w) (base := base) T).mono (show 1 ≤ 1 by decide)
  have m_len := T.m_len
  have hN := sc__law_some.nd
  exact okN T.f__law_some sc__law_some fun cdv A outer s H E z gd room tk =>
    (db_one (ds_ret (de_ix (u65 room) (de_var 1) (de_cal c__law_take gd room tk (dah_cons (de_var 0) (dah_cons (de_len m_len (de_var 1)) dah_nil))))))
theorem sc__law_alike : FnScope ["_law_found", "_law_due"] ["_law_found", "_law_due"] (defScope s__law_alike) := ⟨rfl, rfl, rfl, by decide +kernel, rfl, by decide +kernel, by decide +kernel⟩
theorem k__law_alike (T : Txt K mg) : Dn P w K mg base 1 "_law_alike" ["_law_found", "_law_due"] d__law_alike := by
  have m_repr := T.m_repr
  have hN := sc__law_alike.nd
  exact okN T.f__law_alike sc__law_alike fun cdv A outer s H E z gd room tk =>
    (db_one (ds_ret (de_and (de_eq (u64 room) (de_var 0) (de_var 1)) (de_one (de_eq (u64 room) (de_repr gd (u65 room) m_repr (de_var 0)) (de_repr gd (u65 room) m_repr (de_var 1)))))))
theorem sc__law_lot : FnScope ["_law_bag_here", "_law_many", "_law_first", "_law_k"] ["_law_bag_here", "_law_many"] (defScope s__law_lot) := ⟨rfl, rfl, rfl, by decide +kernel, rfl, by decide +kernel, by decide +kernel⟩
theorem k__law_lot (T : Txt K mg) : Dn P w K mg base 2 "_law_lot" ["_law_bag_here", "_law_many"] d__law_lot := by
  have c__law_take := (k__law_take (P := P) (w := w) (base := base) T).mono (show 1 ≤ 1 by decide)
  have m_range := T.m_range
  have m_tuple := T.m_tuple
  have hN := sc__law_lot.nd
  exact okN T.f__law_lot sc__law_lot fun cdv A outer s H E z gd room tk =>
    (db_cons (ds_set 2 hN (de_cal c__law_take gd room tk (dah_cons (de_var 0) (dah_cons (de_var 1) dah_nil))))
    (db_one (ds_ret (de_tuple m_tuple (de_lc (own := [("_law_k", 3)]) rfl hN (calm_n (i := 3)) (di_rng1 rfl m_range (de_var 1)) (blkOk_by rfl) (by decide) (fun s H C cl fp z => (dg_name 3 hN)) (fun s H C cl fp => (pts_x1 fun z hz => (dt_w (dw_or (dt_eq (u64 room) (de_var 3) (de_var 2)) (dw_or1 (dt_eq (u64 room) (de_cal c__law_take gd room (tk_blk hz) (dah_cons (de_var 0) (dah_cons de_int dah_nil))) de_int)))))) (fun s H C cl fp z hz => (de_var 3)))))))
theorem sc__law_steps : FnScope ["_law_code", "_law_lots", "_law_found", "_law_stack", "_law_chosen", "_law_now", "_law_letter"] ["_law_code", "_law_lots"] (defScope s__law_steps) := ⟨rfl, rfl, rfl, by decide +kernel, rfl, by decide +kernel, by decide +kernel⟩
theorem k__law_steps (T : Txt K mg) : Dn P w K mg base 1 "_law_steps" ["_law_code", "_law_lots"] d__law_steps := by
  have m_sorted := T.m_sorted
  have hN := sc__law_steps.nd
  exact okN T.f__law_steps sc__law_steps fun cdv A outer s H E z gd room tk =>
    (db_cons (ds_set 2 hN (de_lst dah_nil))
    (db_cons (ds_set 3 hN (de_lst (dah_cons (de_tup (dah_cons (de_tup dah_nil) (dah_cons (de_var 0) dah_nil))) dah_nil)))
    (db_cons (ds_while whFuel (passes_of rfl) (dt_ne (u64 room) (de_var 3) (de_lst dah_nil)) (db_cons (ds_asg (calm_t (calms_c (calm_n (i := 4)) (calms_c (calm_n (i := 5)) calms_n))) (de_pop 3) (dg_tup rfl (dgs_cons (dg_name 4 hN) (dgs_cons (dg_name 5 hN) dgs_nil))))
    (db_one (ds_if (dt_eq (u64 room) (de_ix (u65 room) (de_var 5) de_int) de_str) (db_one (ds_expr (de_append 2 (de_tup (dah_cons (de_var 4) (dah_cons (de_ix (u65 room) (de_var 5) de_int) dah_nil)))))) (db_one (ds_for (passes_of rfl) rfl (calm_n (i := 6)) (di_seq (de_ix (u65 room) (de_var 1) (de_ix (u65 room) (de_var 5) de_int))) (dg_name 6 hN) (db_one (ds_expr (de_append 3 (de_tup (dah_cons (de_add (de_var 4) (de_tup (dah_cons (de_var 6) dah_nil))) (dah_cons (de_ix (u65 room) (de_ix (u65 room) (de_var 5) de_int) (de_var 6)) dah_nil))))))))))))
    (db_one (ds_ret (de_sorted rfl (u65 room) m_sorted (de_var 2)))))))
theorem sc__law_results : FnScope ["_law_code", "_law_lots", "_law_step"] ["_law_code", "_law_lots"] (defScope s__law_results) := ⟨rfl, rfl, rfl, by decide +kernel, rfl, by decide +kernel, by decide +kernel⟩
theorem k__law_results (T : Txt K mg) : Dn P w K mg base 2 "_law_results" ["_law_code", "_law_lots"] d__law_results := by
  have c__law_steps := (k__law_steps (P := P) (w := w) (base := base) T).mono (show 1 ≤ 1 by decide)
  have m_set := T.m_set
  have m_sorted := T.m_sorted
  have hN := sc__law_results.nd
  exact okN T.f__law_results sc__law_results fun cdv A outer s H E z gd room tk =>
    (db_one (ds_ret (de_sortedSet rfl m_sorted m_set (de_lc (own := [("_law_step", 2)]) rfl hN (calm_n (i := 2)) (di_seq (de_cal c__law_steps gd room tk (dah_cons (de_var 0) (dah_cons (de_var 1) dah_nil)))) (blkOk_by rfl) (by decide) (fun s H C cl fp z => (dg_name 2 hN)) (fun s H C cl fp => pts_x0) (fun s H C cl fp z hz => (de_ix (u65 room) (de_var 2) de_int))))))
theorem sc__law_rich : FnScope ["_law_bag_here", "_law_menu", "_law_goals", "_law_many", "_law_deep", "_law_whom_here", "_law_k", "_law_full", "_law_inner", "_law_down"] ["_law_bag_here", "_law_menu", "_law_goals", "_law_many", "_law_deep"] (defScope s__law_rich) := ⟨rfl, rfl, rfl, by decide +kernel, rfl, by decide +kernel, by decide +kernel⟩
theorem k__law_rich (T : Txt K mg) : ∀ n : Nat, Dn P w K mg base (2 + n) "_law_rich" ["_law_bag_here", "_law_menu", "_law_goals", "_law_many", "_law_deep"] (d__law_rich n)
  | 0 => T.f__law_rich.none_
  | n + 1 => by
    have c__law_rich := k__law_rich T n
    have c__law_take := (k__law_take (P := P) (w := w) (base := base) T).mono (show 1 ≤ 2 + n by omega)
    have c__law_some := (k__law_some (P := P) (w := w) (base := base) T).mono (show 2 ≤ 2 + n by omega)
    have m_max := T.m_max
    have m_range := T.m_range
    have m_tuple := T.m_tuple
    have hN := sc__law_rich.nd
    exact okN T.f__law_rich sc__law_rich fun cdv A outer s H E z gd room tk =>
    (db_cons (ds_if (dt_w (dw_or (dt_eq (u64 room) (de_var 4) de_int) (dw_or1 (dt_eq (u64 room) (de_cal c__law_take gd room tk (dah_cons (de_var 0) (dah_cons de_int dah_nil))) de_int)))) (db_one (ds_ret (de_tup (dah_cons de_str (dah_cons (de_cal c__law_take gd room tk (dah_cons (de_var 0) (dah_cons (de_var 2) dah_nil))) dah_nil))))) db_nil)
    (db_cons (ds_set 5 hN (de_cal c__law_some gd room tk (dah_cons (de_var 0) (dah_cons (de_var 1) dah_nil))))
    (db_cons (ds_par2 7 8 rfl hN (de_cal c__law_take gd room tk (dah_cons (de_var 0) (dah_cons (de_ix (u65 room) (de_var 3) (de_var 5)) dah_nil))) (de_lst dah_nil))
    (db_cons (ds_for (passes_of rfl) rfl (calm_n (i := 6)) (di_rng1 rfl m_range (de_ix (u65 room) (de_var 3) (de_var 5))) (dg_name 6 hN) (db_cons (ds_set 9 hN (de_if (dt_w (dw_and (dt_eq (u64 room) (de_var 4) de_int) (dw_and (dt_eq (u64 room) (de_maxA rfl (u65 room) m_max (de_var 3)) de_int) (dw_and1 (dt_ne (u64 room) (de_var 6) (de_var 7)))))) de_int (de_sub (de_var 4) de_int)))
    (db_one (ds_expr (de_append 8 (de_cal c__law_rich gd room tk (dah_cons (de_var 0) (dah_cons (de_var 1) (dah_cons (de_var 2) (dah_cons (de_var 3) (dah_cons (de_var 9) dah_nil)))))))))))
    (db_one (ds_ret (de_tup (dah_cons de_str (dah_cons (de_var 5) (dah_cons (de_tuple m_tuple (de_var 8)) dah_nil))))))))))
theorem sc__law_case : FnScope ["_law_bag_here", "_law_most", "_law_wide", "_law_deep", "_law_many", "_law_menu", "_law_goals", "_law_sort", "_law_first", "_law_k"] ["_law_bag_here", "_law_most", "_law_wide", "_law_deep"] (defScope s__law_case) := ⟨rfl, rfl, rfl, by decide +kernel, rfl, by decide +kernel, by decide +kernel⟩
theorem k__law_case (T : Txt K mg) : Dn P w K mg base 8 "_law_case" ["_law_bag_here", "_law_most", "_law_wide", "_law_deep"] d__law_case := by
  have c__law_take := (k__law_take (P := P) (w := w) (base := base) T).mono (show 1 ≤ 7 by decide)
  have c__law_rich := (k__law_rich (P := P) (w := w) (base := base) T 5).mono (show 7 ≤ 7 by decide)
  have m_len := T.m_len
  have m_list := T.m_list
  have m_max := T.m_max
  have m_range := T.m_range
  have m_tuple := T.m_tuple
  have hN := sc__law_case.nd
  exact okN T.f__law_case sc__law_case fun cdv A outer s H E z gd room tk =>
    (db_cons (ds_set 4 hN (de_tuple m_tuple (de_lc (own := [("_law_k", 9)]) rfl hN (calm_n (i := 9)) (di_rng1 rfl m_range (de_add de_int (de_cal c__law_take gd room tk (dah_cons (de_var 0) (dah_cons (de_var 1) dah_nil))))) (blkOk_by rfl) (by decide) (fun s H C cl fp z => (dg_name 9 hN)) (fun s H C cl fp => pts_x0) (fun s H C cl fp z hz => (de_add de_int (de_max2 rfl m_max (de_cal c__law_take gd room (tk_blk hz) (dah_cons (de_var 0) (dah_cons (de_var 2) dah_nil))) (de_cal c__law_take gd room (tk_blk hz) (dah_cons (de_var 0) (dah_cons (de_var 2) dah_nil)))))))))
    (db_cons (ds_par2 6 7 rfl hN (de_add de_int (de_max2 rfl m_max (de_cal c__law_take gd room tk (dah_cons (de_var 0) (dah_cons de_int dah_nil))) (de_cal c__law_take gd room tk (dah_cons (de_var 0) (dah_cons de_int dah_nil))))) (de_cal c__law_take gd room tk (dah_cons (de_var 0) (dah_cons de_int dah_nil))))
    (db_cons (ds_set 5 hN (de_listRg rfl m_list m_range (de_len m_len (de_var 4))))
    (db_cons (ds_if (dt_lt (de_var 7) de_int) (db_cons (ds_set 8 hN (de_cal c__law_take gd room tk (dah_cons (de_var 0) (dah_cons (de_len m_len (de_var 4)) dah_nil))))
    (db_one (ds_set 5 hN (de_if (dt_eq (u64 room) (de_var 7) de_int) (de_lst (dah_cons (de_var 8) dah_nil)) (de_lst (dah_cons (de_var 8) (dah_cons (de_cal c__law_take gd room tk (dah_cons (de_var 0) (dah_cons (de_len m_len (de_var 4)) dah_nil))) dah_nil))))))) db_nil)
    (db_one (ds_ret (de_tup (dah_cons (de_var 4) (dah_cons (de_var 6) (dah_cons (de_cal c__law_rich gd room tk (dah_cons (de_var 0) (dah_cons (de_var 5) (dah_cons (de_var 6) (dah_cons (de_var 4) (dah_cons (de_var 3) dah_nil)))))) dah_nil))))))))))
theorem sc__law_places : FnScope ["_law_code", "_law_found", "_law_k", "_law_part", "_law_place"] ["_law_code"] (defScope s__law_places) := ⟨rfl, rfl, rfl, by decide +kernel, rfl, by decide +kernel, by decide +kernel⟩
theorem k__law_places (T : Txt K mg) : ∀ n : Nat, Dn P w K mg base (0 + n) "_law_places" ["_law_code"] (d__law_places n)
  | 0 => T.f__law_places.none_
  | n + 1 => by
    have c__law_places := k__law_places T n
    have m_enumerate := T.m_enumerate
    have hN := sc__law_places.nd
    exact okN T.f__law_places sc__law_places fun cdv A outer s H E z gd room tk =>
    (db_cons (ds_set 1 hN (de_lst (dah_cons (de_tup dah_nil) dah_nil)))
    (db_cons (ds_if (dt_eq (u64 room) (de_ix (u65 room) (de_var 0) de_int) de_str) (db_one (ds_for (passes_of rfl) rfl (calm_t (calms_c (calm_n (i := 2)) (calms_c (calm_n (i := 3)) calms_n))) (di_enum rfl m_enumerate (de_ix (u65 room) (de_var 0) de_int)) (dg_tup rfl (dgs_cons (dg_name 2 hN) (dgs_cons (dg_name 3 hN) dgs_nil))) (db_one (ds_expr (de_extA 1 (de_lc (own := [("_law_place", 4)]) rfl hN (calm_n (i := 4)) (di_seq (de_cal c__law_places gd room tk (dah_cons (de_var 3) dah_nil))) (blkOk_by rfl) (by decide) (fun s H C cl fp z => (dg_name 4 hN)) (fun s H C cl fp => pts_x0) (fun s H C cl fp z hz => (de_add (de_tup (dah_cons (de_var 2) dah_nil)) (de_var 4))))))))) db_nil)
    (db_one (ds_ret (de_var 1)))))
theorem sc__law_under : FnScope ["_law_code", "_law_place", "_law_letter"] ["_law_code", "_law_place"] (defScope s__law_under) := ⟨rfl, rfl, rfl, by decide +kernel, rfl, by decide +kernel, by decide +kernel⟩
theorem k__law_under (T : Txt K mg) : Dn P w K mg base 1 "_law_under" ["_law_code", "_law_place"] d__law_under := by
  have hN := sc__law_under.nd
  exact okN T.f__law_under sc__law_under fun cdv A outer s H E z gd room tk =>
    (db_cons (ds_for (passes_of rfl) rfl (calm_n (i := 2)) (di_seq (de_var 1)) (dg_name 2 hN) (db_one (ds_set 0 hN (de_ix (u65 room) (de_ix (u65 room) (de_var 0) de_int) (de_var 2)))))
    (db_one (ds_ret (de_var 0))))
theorem sc__law_plain : FnScope ["_law_code", "_law_letters"] ["_law_code", "_law_letters"] (defScope s__law_plain) := ⟨rfl, rfl, rfl, by decide +kernel, rfl, by decide +kernel, by decide +kernel⟩
theorem k__law_plain (T : Txt K mg) : Dn P w K mg base 1 "_law_plain" ["_law_code", "_law_letters"] d__law_plain := by
  have hN := sc__law_plain.nd
  exact okN T.f__law_plain sc__law_plain fun cdv A outer s H E z gd room tk =>
    (db_cons (ds_while whFuel (passes_of rfl) (dt_eq (u64 room) (de_ix (u65 room) (de_var 0) de_int) de_str) (db_one (ds_set 0 hN (de_ix (u65 room) (de_ix (u65 room) (de_var 0) de_int) (de_ix (u65 room) (de_var 1) (de_ix (u65 room) (de_var 0) de_int))))))
    (db_one (ds_ret (de_ix (u65 room) (de_var 0) de_int))))
theorem sc__law_whom : FnScope ["_law_code", "_law_here", "_law_place", "_law_now"] ["_law_code"] (defScope s__law_whom) := ⟨rfl, rfl, rfl, by decide +kernel, rfl, by decide +kernel, by decide +kernel⟩
theorem k__law_whom (T : Txt K mg) : Dn P w K mg base 6 "_law_whom" ["_law_code"] d__law_whom := by
  have c__law_places := (k__law_places (P := P) (w := w) (base := base) T 5).mono (show 5 ≤ 5 by decide)
  have c__law_under := (k__law_under (P := P) (w := w) (base := base) T).mono (show 1 ≤ 5 by decide)
  have m_set := T.m_set
  have m_sorted := T.m_sorted
  have hN := sc__law_whom.nd
  exact okN T.f__law_whom sc__law_whom fun cdv A outer s H E z gd room tk =>
    (db_cons (ds_setLc (own := [("_law_place", 2)]) rfl hN (calm_n (i := 2)) (di_seq (de_cal c__law_places gd room tk (dah_cons (de_var 0) dah_nil))) (blkOk_by rfl) (by decide) (fun s H C cl fp z => (dg_name 2 hN)) (fun s H C cl fp => pts_x0) (fun s H C cl fp z hz => (de_cal c__law_under gd room (tk_blk hz) (dah_cons (de_var 0) (dah_cons (de_var 2) dah_nil)))))
    (db_one (ds_ret (de_sortedSet rfl m_sorted m_set (de_lc (own := [("_law_now", 3)]) rfl hN (calm_n (i := 3)) (di_seq (de_var 1)) (blkOk_by rfl) (by decide) (fun s H C cl fp z => (dg_name 3 hN)) (fun s H C cl fp => (pts_x1 fun z hz => (dt_eq (u64 room) (de_ix (u65 room) (de_var 3) de_int) de_str))) (fun s H C cl fp z hz => (de_ix (u65 room) (de_var 3) de_int)))))))
theorem sc__law_plain_all : FnScope ["_law_code", "_law_lots", "_law_rows", "_law_worker", "_law_grown", "_law_row", "_law_entry", "_law_letter"] ["_law_code", "_law_lots"] (defScope s__law_plain_all) := ⟨rfl, rfl, rfl, by decide +kernel, rfl, by decide +kernel, by decide +kernel⟩
theorem k__law_plain_all (T : Txt K mg) : Dn P w K mg base 7 "_law_plain_all" ["_law_code", "_law_lots"] d__law_plain_all := by
  have c__law_whom := (k__law_whom (P := P) (w := w) (base := base) T).mono (show 6 ≤ 6 by decide)
  have c__law_plain := (k__law_plain (P := P) (w := w) (base := base) T).mono (show 1 ≤ 6 by decide)
  have m_set := T.m_set
  have m_sorted := T.m_sorted
  have hN := sc__law_plain_all.nd
  exact okN T.f__law_plain_all sc__law_plain_all fun cdv A outer s H E z gd room tk =>
    (db_cons (ds_set 2 hN (de_lst (dah_cons (de_frz (de_lc (own := [("_law_entry", 6)]) rfl hN (calm_n (i := 6)) (di_seq (de_var 1)) (blkOk_by rfl) (by decide) (fun s H C cl fp z => (dg_name 6 hN)) (fun s H C cl fp => pts_x0) (fun s H C cl fp z hz => (de_ix (u65 room) (de_var 6) de_int)))) dah_nil)))
    (db_cons (ds_for (passes_of rfl) rfl (calm_n (i := 3)) (di_seq (de_cal c__law_whom gd room tk (dah_cons (de_var 0) dah_nil))) (dg_name 3 hN) (db_cons (ds_set 4 hN (de_lst dah_nil))
    (db_cons (ds_for (passes_of rfl) rfl (calm_n (i := 5)) (di_seq (de_var 2)) (dg_name 5 hN) (db_one (ds_expr (de_extA 4 (de_lc (own := [("_law_letter", 7)]) rfl hN (calm_n (i := 7)) (di_seq (de_ix (u65 room) (de_var 1) (de_var 3))) (blkOk_by rfl) (by decide) (fun s H C cl fp z => (dg_name 7 hN)) (fun s H C cl fp => pts_x0) (fun s H C cl fp z hz => (de_frz (de_add (de_add (de_sl (de_var 5) do_none (do_some (de_var 3))) (de_lst (dah_cons (de_var 7) dah_nil))) (de_sl (de_var 5) (do_some (de_add (de_var 3) de_int)) do_none)))))))))
    (db_one (ds_set 2 hN (de_var 4))))))
    (db_one (ds_ret (de_sortedSet rfl m_sorted m_set (de_lc (own := [("_law_row", 5)]) rfl hN (calm_n (i := 5)) (di_seq (de_var 2)) (blkOk_by rfl) (by decide) (fun s H C cl fp z => (dg_name 5 hN)) (fun s H C cl fp => pts_x0) (fun s H C cl fp z hz => (de_cal c__law_plain gd room (tk_blk hz) (dah_cons (de_var 0) (dah_cons (de_var 5) dah_nil))))))))))
theorem sc__law_any_lots : FnScope ["_law_bag_here", "_law_many", "_law_own", "_law_found", "_law_worker", "_law_entry"] ["_law_bag_here", "_law_many", "_law_own"] (defScope s__law_any_lots) := ⟨rfl, rfl, rfl, by decide +kernel, rfl, by decide +kernel, by decide +kernel⟩
theorem k__law_any_lots (T : Txt K mg) : Dn P w K mg base 3 "_law_any_lots" ["_law_bag_here", "_law_many", "_law_own"] d__law_any_lots := by
  have c__law_lot := (k__law_lot (P := P) (w := w) (base := base) T).mono (show 2 ≤ 2 by decide)
  have m_len := T.m_len
  have m_list := T.m_list
  have m_range := T.m_range
  have m_set := T.m_set
  have m_sorted := T.m_sorted
  have m_tuple := T.m_tuple
  have hN := sc__law_any_lots.nd
  exact okN T.f__law_any_lots sc__law_any_lots fun cdv A outer s H E z gd room tk =>
    (db_cons (ds_set 3 hN (de_lst dah_nil))
    (db_cons (ds_for (passes_of rfl) rfl (calm_n (i := 4)) (di_rng1 rfl m_range (de_len m_len (de_var 1))) (dg_name 4 hN) (db_cons (ds_set 5 hN (de_list m_list (de_cal c__law_lot gd room tk (dah_cons (de_var 0) (dah_cons (de_ix (u65 room) (de_var 1) (de_var 4)) dah_nil)))))
    (db_cons (ds_if (dt_w (dw_and (dt_isnot (de_var 2) de_non) (dw_and1 (dt_eq (u64 room) (de_ix (u65 room) (de_var 2) de_int) (de_var 4))))) (db_one (ds_expr (de_append 5 (de_ix (u65 room) (de_var 2) de_int)))) db_nil)
    (db_one (ds_expr (de_append 3 (de_tuple m_tuple (de_sortedSet rfl m_sorted m_set (de_var 5)))))))))
    (db_one (ds_ret (de_tuple m_tuple (de_var 3))))))
theorem sc_law : FnScope ["_law_script", "_law_bag_here", "_law_turn", "_law_kept", "_law_lots", "_law_many", "_law_goals", "_law_code", "_law_flat", "_law_due", "_law_told", "_law_state", "_law_k"] ["_law_script"] (defScope s_law) := ⟨rfl, rfl, rfl, by decide +kernel, rfl, by decide +kernel, by decide +kernel⟩
theorem k_law {f : Addr} {fd : FuncData} (F : Fun K "law" "law" s_law f fd) (T : Txt K mg) : FnG P w K mg base 9 f fd ["_law_script"] (spDen K mg 1 d_law) := by
  have c__law_bag := (k__law_bag (P := P) (w := w) (base := base) T).mono (show 1 ≤ 8 by decide)
  have c__law_case := (k__law_case (P := P) (w := w) (base := base) T).mono (show 8 ≤ 8 by decide)
  have c__law_any_lots := (k__law_any_lots (P := P) (w := w) (base := base) T).mono (show 3 ≤ 8 by decide)
  have c__law_plain_all := (k__law_plain_all (P := P) (w := w) (base := base) T).mono (show 7 ≤ 8 by decide)
  have c__law_results := (k__law_results (P := P) (w := w) (base := base) T).mono (show 2 ≤ 8 by decide)
  have c_torn_states := (k_torn_states (P := P) (w := w) (base := base) T).mono (show 3 ≤ 8 by decide)
  have c__law_alike := (k__law_alike (P := P) (w := w) (base := base) T).mono (show 1 ≤ 8 by decide)
  have m_range := T.m_range
  have m_tuple := T.m_tuple
  have hN := sc_law.nd
  exact okD F sc_law fun cdv A outer s H E z gd room tk =>
    (db_cons (ds_setT 1 hN (de_cal c__law_bag gd room tk (dah_cons (de_var 0) dah_nil)))
    (db_cons (ds_for (passes_of rfl) rfl (calm_n (i := 2)) (di_rng1 rfl m_range de_int) (dg_name 2 hN) (db_cons (ds_asg (calm_t (calms_c (calm_n (i := 5)) (calms_c (calm_n (i := 6)) (calms_c (calm_n (i := 7)) calms_n)))) (de_cal c__law_case gd room tk (dah_cons (de_var 1) (dah_cons de_int (dah_cons de_int (dah_cons de_int dah_nil))))) (dg_tup rfl (dgs_cons (dg_name 5 hN) (dgs_cons (dg_name 6 hN) (dgs_cons (dg_name 7 hN) dgs_nil)))))
    (db_cons (ds_set 3 hN (de_lst dah_nil))
    (db_cons (ds_for (passes_of rfl) rfl (calm_n (i := 4)) (di_seq (de_tup (dah_cons (de_cal c__law_any_lots gd room tk (dah_cons (de_var 1) (dah_cons (de_var 5) (dah_cons de_non dah_nil)))) (dah_cons (de_cal c__law_any_lots gd room tk (dah_cons (de_var 1) (dah_cons (de_var 5) (dah_cons de_non dah_nil)))) (dah_cons (de_tuple m_tuple (de_lc (own := [("_law_k", 12)]) rfl hN (calm_n (i := 12)) (di_seq (de_var 5)) (blkOk_by rfl) (by decide) (fun s H C cl fp z => (dg_name 12 hN)) (fun s H C cl fp => pts_x0) (fun s H C cl fp z hz => (de_tup (dah_cons de_int dah_nil))))) dah_nil))))) (dg_name 4 hN) (db_cons (ds_set 8 hN (de_cal c__law_plain_all gd room tk (dah_cons (de_var 7) (dah_cons (de_var 4) dah_nil))))
    (db_cons (ds_setLc (own := [("_law_state", 11)]) rfl hN (calm_n (i := 11)) (di_seq (de_cal c__law_results gd room tk (dah_cons (de_var 7) (dah_cons (de_var 4) dah_nil)))) (blkOk_by rfl) (by decide) (fun s H C cl fp z => (dg_name 11 hN)) (fun s H C cl fp => (pts_x1 fun z hz => (dt_notin (u65 room) (de_var 11) (de_var 8)))) (fun s H C cl fp z hz => (de_var 11)))
    (db_cons (ds_set 10 hN (de_cal c_torn_states gd room tk (dah_cons (de_var 7) (dah_cons (de_var 4) dah_nil))))
    (db_cons (ds_if (dt_not (dt_val (de_cal c__law_alike gd room tk (dah_cons (de_var 10) (dah_cons (de_var 9) dah_nil))))) (db_one (ds_ret de_bl)) db_nil)
    (db_cons (ds_expr (de_append 10 de_int))
    (db_cons (ds_expr (de_reverse 10))
    (db_one (ds_expr (de_append 3 (de_tup (dah_cons (de_var 4) (dah_cons (de_var 9) dah_nil)))))))))))))
    (db_one (ds_for (passes_of rfl) rfl (calm_t (calms_c (calm_n (i := 4)) (calms_c (calm_n (i := 9)) calms_n))) (di_seq (de_add (de_revS (de_var 3)) (de_var 3))) (dg_tup rfl (dgs_cons (dg_name 4 hN) (dgs_cons (dg_name 9 hN) dgs_nil))) (db_one (ds_if (dt_not (dt_val (de_cal c__law_alike gd room tk (dah_cons (de_cal c_torn_states gd room tk (dah_cons (de_var 7) (dah_cons (de_var 4) dah_nil))) (dah_cons (de_var 9) dah_nil))))) (db_one (ds_ret de_bl)) db_nil))))))))
    (db_one (ds_ret de_bl))))
end
/-! ## the walk -/
theorem walk {q : Program} {loose : List Str} {XP : (Str → Option Value) → Heap → Prop} {YP : World → Heap → Prop} {d : DefRec} {K : Params → PySem.W.Frag} (nod : d.params.defaults = []) (nm : d.name = "law") (hY : ∀ (w : World) (h : Heap), YP w h → (K w.params).In h)
    (hT : ∀ (w : World) (mg : Str → Option Value) (h : Heap), (K w.params).In h → h.Ns mainGlobals mg → Txt (K w.params) mg) (hden : ∀ ns : List Int, ns.length ≤ 63 → ∃ objs, d_law [.rol (ns.map .int)] [] = some (.ok (.dat (.bl true)), objs)) :
    PySem.W.WalkO q loose XP YP PySem.Challenge.rw_oldletters_k23_torn_states.row.toRowW d [] (fun f vs => PySem.call f vs) :=
  walkD (n := 63) (k := 9) (x := "_law_script") (l := PySem.Challenge.rw_oldletters_k23_torn_states) rfl (by decide) nod ⟨rfl, by decide, by decide⟩ hY (fun w mg fa h inK ns hfa => by
    obtain ⟨f, fd, a, F, b⟩ := (hT w mg h inK ns).f_law.ex
    rw [nm, a] at hfa; cases hfa
    exact ⟨fd, b, fun base _ _ => k_law F (hT w mg h inK ns)⟩) hden
end LW
end
section
set_option maxRecDepth 100000
namespace LW
open PySem L2 DL
/-! ## codes -/
inductive Cd where
  | go (s : Int) | get (w : Int) (ds : List Cd)
mutual
def Cd.toD : Cd → D
  | .go s => .tup [.str "go", .int s]
  | .get w ds => .tup [.str "get", .int w, .tup (Cd.toDs ds)]
def Cd.toDs : List Cd → List D
  | [] => []
  | c :: r => c.toD :: Cd.toDs r
end
mutual
/-- its depth is at most n, its workers are below m, its states below g -/
def Cd.Ok (many : List Int) : Nat → Cd → Prop
  | _, .go s => 0 ≤ s ∧ s < 4
  | 0, .get _ _ => False
  | n + 1, .get w ds => 0 ≤ w ∧ many[w.toNat]? = some (ds.length : Int) ∧ Cd.Oks many n ds
def Cd.Oks (many : List Int) : Nat → List Cd → Prop
  | _, [] => True
  | n, c :: r => c.Ok many n ∧ Cd.Oks many n r
end
def tI (ns : List Int) : D := .tup (ns.map .int)
def lI (ns : List Int) : D := .lst (ns.map .int)
def lotsD (lots : List (List Int)) : D := .tup (lots.map tI)
theorem toDs_len : ∀ ds : List Cd, (Cd.toDs ds).length = ds.length
  | [] => rfl
  | c :: r => by show (Cd.toDs r).length + 1 = r.length + 1; rw [toDs_len r]
theorem toDs_get : ∀ (ds : List Cd) (i : Nat), (Cd.toDs ds)[i]? = ds[i]?.map Cd.toD
  | [], i => by simp [Cd.toDs]
  | c :: r, 0 => by simp [Cd.toDs]
  | c :: r, i + 1 => by simp [Cd.toDs, toDs_get r i]
theorem toDs_map : ∀ ds : List Cd, Cd.toDs ds = ds.map Cd.toD
  | [] => rfl
  | c :: r => by show c.toD :: Cd.toDs r = _; rw [toDs_map r]; rfl
mutual
theorem Cd.imm : ∀ c : Cd, c.toD.imm = true
  | .go s => by simp [Cd.toD, D.imm, D.imms]
  | .get w ds => by simp [Cd.toD, D.imm, D.imms, Cd.imms ds]
theorem Cd.imms : ∀ ds : List Cd, D.imms (Cd.toDs ds) = true
  | [] => rfl
  | c :: r => by simp [Cd.toDs, D.imms, Cd.imm c, Cd.imms r]
end
theorem Oks_get {many : List Int} {n : Nat} : ∀ {ds : List Cd} {i : Nat} {c : Cd}, Cd.Oks many n ds → ds[i]? = some c → c.Ok many n
  | [], i, c, _, e => by simp at e
  | d :: r, 0, c, h, e => by simp at e; subst e; exact h.1
  | d :: r, i + 1, c, h, e => Oks_get (ds := r) h.2 (by simpa using e)
/-! ## plain -/
def plainN : Nat → List Int → Cd → Option Int
  | _, _, .go s => some s
  | 0, _, .get _ _ => none
  | n + 1, xs, .get w ds => (xs[w.toNat]?).bind fun k => (ds[k.toNat]?).bind (plainN n xs)
/-- the letters fit the code -/
def Fits (many xs : List Int) : Prop := xs.length = many.length ∧ ∀ (i : Nat) (k m : Int), xs[i]? = some k → many[i]? = some m → 0 ≤ k ∧ k < m
theorem fits_step {many xs : List Int} {n : Nat} {w : Int} {ds : List Cd} (f : Fits many xs) (h : Cd.Ok many (n + 1) (.get w ds)) : ∃ (k : Nat) (c : Cd), 0 ≤ w ∧ xs[w.toNat]? = some (k : Int) ∧ ds[k]? = some c ∧ c.Ok many n := by
  obtain ⟨h0, h1, h2⟩ := h
  have hl : w.toNat < xs.length := by rw [f.1]; exact (List.getElem?_eq_some_iff.mp h1).1
  obtain ⟨f0, f1⟩ := f.2 _ _ _ (List.getElem?_eq_getElem hl) h1
  have hk : xs[w.toNat].toNat < ds.length := by omega
  exact ⟨xs[w.toNat].toNat, ds[xs[w.toNat].toNat], h0, by rw [List.getElem?_eq_getElem hl]; congr 1; omega, List.getElem?_eq_getElem hk, Oks_get h2 (List.getElem?_eq_getElem hk)⟩
theorem toNat_int {w : Int} (h : 0 ≤ w) : ∃ k : Nat, w = (k : Int) := ⟨w.toNat, by omega⟩
theorem ix_tI {Q : Res → Sx → Prop} {S : Sx} {xs : List Int} {w k : Int} (h0 : 0 ≤ w) (h : xs[w.toNat]? = some k) : Rn (opIx (tI xs) (.int w)) S Q = Q (.dat (.int k)) S := by
  obtain ⟨m, rfl⟩ := toNat_int h0
  exact op_ix_tn (by simp at h; simp [h])
theorem ix_rI {Q : Res → Sx → Prop} {S : Sx} {xs : List Int} {w k : Int} (h0 : 0 ≤ w) (h : xs[w.toNat]? = some k) : Rn (opIx (.rol (xs.map .int)) (.int w)) S Q = Q (.dat (.int k)) S := by
  obtain ⟨m, rfl⟩ := toNat_int h0
  have : D.item (.rol (xs.map .int)) (.int (m : Int)) = some (.int k) := DL.atI_nat (by simp at h; simp [h])
  unfold opIx; rw [this]; rfl
theorem ix_ds {Q : Res → Sx → Prop} {S : Sx} {ds : List Cd} {k : Nat} {c : Cd} (h : ds[k]? = some c) : Rn (opIx (.tup (Cd.toDs ds)) (.int (k : Nat))) S Q = Q (.dat c.toD) S :=
  op_ix_tn (by rw [toDs_get, h]; rfl)
/-- letters as a tuple or as a list -/
def isLet (xs : List Int) (d : D) : Prop := d = tI xs ∨ d = .rol (xs.map .int)
theorem ix_let {Q : Res → Sx → Prop} {S : Sx} {xs : List Int} {w k : Int} {d : D} (hd : isLet xs d) (h0 : 0 ≤ w) (h : xs[w.toNat]? = some k) : Rn (opIx d (.int w)) S Q = Q (.dat (.int k)) S := by
  rcases hd with rfl | rfl
  · exact ix_tI h0 h
  · exact ix_rI h0 h
theorem fuel_lt {n : Nat} (h : n < 1000000) : n < whFuel := h
theorem plain_ok {many xs : List Int} {ld : D} {o : List D} (hl : isLet xs ld) (f : Fits many xs) {n : Nat} {c : Cd} (h : c.Ok many n) (hn : n < 1000) {Q : Res → List D → Prop} (q : ∀ s, plainN n xs c = some s → Q (.dat (.int s)) o) : Dr d__law_plain [c.toD, ld] o Q := by
  unfold d__law_plain b__law_plain
  rw [dr_run, rn_seq]
  refine while_inv (I := fun m S => ∃ c' : Cd, c'.Ok many m ∧ m ≤ n ∧ plainN m xs c' = plainN n xs c ∧ S = ⟨[.dat c'.toD, .dat ld], o⟩) (n := whFuel) (m := n) (fuel_lt (by omega)) ⟨c, h, Nat.le_refl _, rfl, rfl⟩ ?_
  rintro m S ⟨c', hc, hm, hp, rfl⟩
  cases c' with
  | go s =>
    simp only [Cd.toD]
    simp -implicitDefEqProofs only [rn_bind, rn_pure, rn_no, rn_need, rn_opt1, rn_ite, rn_var, rn_put, rn_useD, rn_useN, rn_useO, rn_chkD, rn_chkN, rn_chkO, rn_call, rn_seq, rn_guard, rn_forIn, rn_for0, rn_setD, rn_setN, rn_setO, binM, binMO, unM, cmpT, testM, andT, orT, notT, ifM, asgM, retM, exprM, kM, consA, nilA, tupM, lstM, useAll, chkAll, slM, partM, DL.andM, DL.orM, DL.notM, negM, asgG, gN, gT, gsC, gsN, seqI, frzM, asgTM, dnewM, par2M, hold_d, hold_n, hold_o, d_d, d_n, d_o, out_d, out_n, out_o, fo_next, fo_ret, isBl_b, isInt_i, tr_i, tr_b, tr_n, tr_l, tr_t, it_l, it_r, it_t, li_l, li_r, op_add_i, op_add_l, op_add_t, op_sub_i, op_mul_i, op_mod_i, op_div_i, op_pow_i, op_lt_i, op_le_i, op_gt_i, op_ge_i, op_int_i, op_abs_i, op_len_l, op_len_t, op_len_r, op_tup_l, op_tup_t, op_lst_l, op_lst_t, op_max_i, op_eq_i, eq_go_go, eq_get_get, eq_go_get, eq_get_go, Bool.bne_false, Bool.bne_true, Bool.not_true, Bool.not_false, op_sl_l, op_sl_r, op_sl_t, op_ix_t0, op_ix_t1, op_ix_t2, op_ix_l0, List.getElem?_cons_zero, List.getElem?_cons_succ, List.set_cons_zero, List.set_cons_succ, List.map_cons, List.map_nil, List.length_cons, List.length_nil, List.cons_append, List.nil_append, if_true, if_false, Bool.false_eq_true, decide_eq_true_eq, and_true, true_and, ite_true, ite_false, reduceCtorEq]
    exact q s (by rw [← hp]; cases m <;> rfl)
  | get w ds =>
    cases m with
    | zero => exact hc.elim
    | succ m =>
      obtain ⟨k, c2, h0, e1, e2, h2⟩ := fits_step f hc
      simp only [Cd.toD]
      simp -implicitDefEqProofs only [rn_bind, rn_pure, rn_no, rn_need, rn_opt1, rn_ite, rn_var, rn_put, rn_useD, rn_useN, rn_useO, rn_chkD, rn_chkN, rn_chkO, rn_call, rn_seq, rn_guard, rn_forIn, rn_for0, rn_setD, rn_setN, rn_setO, binM, binMO, unM, cmpT, testM, andT, orT, notT, ifM, asgM, retM, exprM, kM, consA, nilA, tupM, lstM, useAll, chkAll, slM, partM, DL.andM, DL.orM, DL.notM, negM, asgG, gN, gT, gsC, gsN, seqI, frzM, asgTM, dnewM, par2M, hold_d, hold_n, hold_o, d_d, d_n, d_o, out_d, out_n, out_o, fo_next, fo_ret, isBl_b, isInt_i, tr_i, tr_b, tr_n, tr_l, tr_t, it_l, it_r, it_t, li_l, li_r, op_add_i, op_add_l, op_add_t, op_sub_i, op_mul_i, op_mod_i, op_div_i, op_pow_i, op_lt_i, op_le_i, op_gt_i, op_ge_i, op_int_i, op_abs_i, op_len_l, op_len_t, op_len_r, op_tup_l, op_tup_t, op_lst_l, op_lst_t, op_max_i, op_eq_i, eq_go_go, eq_get_get, eq_go_get, eq_get_go, Bool.bne_false, Bool.bne_true, Bool.not_true, Bool.not_false, op_sl_l, op_sl_r, op_sl_t, op_ix_t0, op_ix_t1, op_ix_t2, op_ix_l0, List.getElem?_cons_zero, List.getElem?_cons_succ, List.set_cons_zero, List.set_cons_succ, List.map_cons, List.map_nil, List.length_cons, List.length_nil, List.cons_append, List.nil_append, if_true, if_false, Bool.false_eq_true, decide_eq_true_eq, and_true, true_and, ite_true, ite_false, reduceCtorEq, ix_let hl h0 e1, ix_ds e2]
      refine ⟨m, Nat.lt_succ_self m, c2, h2, by omega, ?_, rfl⟩
      rw [← hp]
      simp only [plainN, e1, Option.bind_some, Int.toNat_natCast, e2]
/-! ## all the ways through a code -/
def stN (lots : List (List Int)) : Nat → Cd → List Int
  | _, .go s => [s]
  | 0, .get _ _ => []
  | n + 1, .get w ds => ((lots[w.toNat]?).getD []).flatMap fun k => ((ds[k.toNat]?).map (stN lots n)).getD []
def cntN (lots : List (List Int)) : Nat → Cd → Nat
  | _, .go _ => 1
  | 0, .get _ _ => 1
  | n + 1, .get w ds => 1 + (((lots[w.toNat]?).getD []).map fun k => ((ds[k.toNat]?).map (cntN lots n)).getD 0).sum
/-- the lots fit the workers -/
structure LotsOk (many : List Int) (lots : List (List Int)) : Prop where
  len : lots.length = many.length
  few : ∀ l ∈ lots, l.length ≤ 5
  one : ∀ l ∈ lots, l ≠ []
  fit : ∀ (i : Nat) (l : List Int) (m : Int), lots[i]? = some l → many[i]? = some m → ∀ k ∈ l, 0 ≤ k ∧ k < m
  up : ∀ l ∈ lots, l.Pairwise (· < ·)
theorem lots_step {many : List Int} {lots : List (List Int)} {n : Nat} {w : Int} {ds : List Cd} (f : LotsOk many lots) (h : Cd.Ok many (n + 1) (.get w ds)) : ∃ l : List Int, 0 ≤ w ∧ lots[w.toNat]? = some l ∧ l ∈ lots ∧ ∀ k ∈ l, ∃ (j : Nat) (c : Cd), k = (j : Int) ∧ ds[j]? = some c ∧ c.Ok many n := by
  obtain ⟨h0, h1, h2⟩ := h
  have hl : w.toNat < lots.length := by rw [f.len]; exact (List.getElem?_eq_some_iff.mp h1).1
  refine ⟨lots[w.toNat], h0, List.getElem?_eq_getElem hl, List.getElem_mem hl, fun k hk => ?_⟩
  obtain ⟨k0, k1⟩ := f.fit _ _ _ (List.getElem?_eq_getElem hl) h1 k hk
  have hj : k.toNat < ds.length := by omega
  exact ⟨k.toNat, ds[k.toNat], by omega, List.getElem?_eq_getElem hj, Oks_get h2 (List.getElem?_eq_getElem hj)⟩
theorem sum_le (f : Int → Nat) (b : Nat) : ∀ l : List Int, (∀ k ∈ l, f k ≤ b) → (l.map f).sum ≤ l.length * b
  | [], _ => by simp
  | k :: r, h => by
    have h1 := sum_le f b r fun j hj => h j (List.mem_cons_of_mem _ hj)
    have h2 := h k List.mem_cons_self
    simp only [List.map_cons, List.sum_cons, List.length_cons]
    rw [Nat.succ_mul]; omega
theorem cnt_le {many : List Int} {lots : List (List Int)} (f : LotsOk many lots) : ∀ (n : Nat) (c : Cd), c.Ok many n → cntN lots n c ≤ 6 ^ n
  | 0, .go s, _ => by simp [cntN]
  | 0, .get _ _, h => h.elim
  | n + 1, .go s, _ => by simp only [cntN]; exact Nat.pow_pos (by decide)
  | n + 1, .get w ds, h => by
    obtain ⟨l, h0, hl, hm, hk⟩ := lots_step f h
    have : ((l.map fun k => ((ds[k.toNat]?).map (cntN lots n)).getD 0).sum) ≤ l.length * 6 ^ n := sum_le _ _ l fun k hkl => by
      obtain ⟨j, c, rfl, e, hc⟩ := hk k hkl
      simp only [Int.toNat_natCast, e, Option.map_some, Option.getD_some]
      exact cnt_le f n c hc
    have h5 := f.few l hm
    have : l.length * 6 ^ n ≤ 5 * 6 ^ n := Nat.mul_le_mul_right _ h5
    have p : 0 < 6 ^ n := Nat.pow_pos (by decide)
    simp only [cntN, hl, Option.getD_some]
    rw [Nat.pow_succ]
    omega
def fdD (p : List Int × Int) : D := .tup [tI p.1, .int p.2]
/-- a node still to be looked at: its depth, the letters so far -/
structure Nd where
  n : Nat
  a : List Int
  c : Cd
def cnts (lots : List (List Int)) (rs : List Nd) : Nat := (rs.map fun r => cntN lots r.n r.c).sum
theorem cnt_pos (lots : List (List Int)) : ∀ (n : Nat) (c : Cd), 1 ≤ cntN lots n c
  | 0, .go _ => by simp [cntN]
  | 0, .get _ _ => by simp [cntN]
  | n + 1, .go _ => by simp [cntN]
  | n + 1, .get _ _ => by simp [cntN]
theorem cnts_len (lots : List (List Int)) : ∀ rs : List Nd, rs.length ≤ cnts lots rs
  | [] => by simp [cnts]
  | r :: rs => by
    have h1 := cnts_len lots rs
    have h2 := cnt_pos lots r.n r.c
    simp only [cnts, List.map_cons, List.sum_cons, List.length_cons] at h1 ⊢
    omega
theorem cnts_app (lots : List (List Int)) (a b : List Nd) : cnts lots (a ++ b) = cnts lots a + cnts lots b := by
  simp [cnts]
/-- the children that the lots allow -/
def kids (n : Nat) (a : List Int) (ds : List Cd) (l : List Int) : List Nd := l.filterMap fun k => (ds[k.toNat]?).map fun c => ⟨n, a ++ [k], c⟩
theorem cnts_kids (lots : List (List Int)) (n : Nat) (a : List Int) (ds : List Cd) : ∀ l : List Int, cnts lots (kids n a ds l) = (l.map fun k => ((ds[k.toNat]?).map (cntN lots n)).getD 0).sum
  | [] => by simp [kids, cnts]
  | k :: r => by
    have ih := cnts_kids lots n a ds r
    unfold kids at ih ⊢
    rw [List.filterMap_cons, List.map_cons, List.sum_cons, ← ih]
    cases ds[k.toNat]? with
    | none => simp
    | some c => simp [cnts]
theorem mem_kids (lots : List (List Int)) (n : Nat) (a : List Int) (ds : List Cd) (l : List Int) (s : Int) : (∃ r ∈ kids n a ds l, s ∈ stN lots r.n r.c) ↔ s ∈ l.flatMap fun k => ((ds[k.toNat]?).map (stN lots n)).getD [] := by
  simp only [kids, List.mem_filterMap, List.mem_flatMap]
  constructor
  · rintro ⟨r, ⟨k, hk, e⟩, hs⟩
    obtain ⟨c, e1, rfl⟩ := Option.map_eq_some_iff.mp e
    exact ⟨k, hk, by rw [e1]; exact hs⟩
  · rintro ⟨k, hk, hs⟩
    cases e : ds[k.toNat]? with
    | none => rw [e] at hs; simp at hs
    | some c =>
      rw [e] at hs
      exact ⟨⟨n, a ++ [k], c⟩, ⟨k, hk, by rw [e]; rfl⟩, hs⟩
theorem lot_at {lots : List (List Int)} {w : Int} {l : List Int} {Q : Res → Sx → Prop} {S : Sx} (h0 : 0 ≤ w) (h : lots[w.toNat]? = some l) : Rn (opIx (lotsD lots) (.int w)) S Q = Q (.dat (tI l)) S := by
  obtain ⟨m, rfl⟩ := toNat_int h0
  exact op_ix_tn (by simp at h; simp [h])
def ndD (r : Nd) : D := .tup [tI r.a, r.c.toD]
theorem tI_snoc (a : List Int) (k : Int) : D.tup (a.map .int ++ [.int k]) = tI (a ++ [k]) := by simp [tI]
theorem pys_ints : ∀ ns : List Int, D.pys (ns.map .int) = some (ns.map .int)
  | [] => by simp [D.pys]
  | n :: r => by simp [D.pys, D.py, pys_ints r]
theorem lay_ints : ∀ ns : List Int, PyData.canLayAll0 (ns.map .int) = true
  | [] => by simp [PyData.canLayAll0]
  | n :: r => by simp [PyData.canLayAll0, PyData.canLay0, lay_ints r]
/-- what == asks of data: a reading of depth b at most -/
def Shp (d : D) (b : Nat) : Prop := ∃ p, d.py = some p ∧ p.canLay0 = true ∧ p.depth ≤ b
def Shps (ds : List D) (b : Nat) : Prop := ∃ ps, D.pys ds = some ps ∧ PyData.canLayAll0 ps = true ∧ PyData.depthAll ps ≤ b
theorem Shp.mono {d : D} {a b : Nat} (h : Shp d a) (l : a ≤ b) : Shp d b := let ⟨p, h1, h2, h3⟩ := h; ⟨p, h1, h2, by omega⟩
theorem shps_nil {b : Nat} : Shps [] b := ⟨[], by simp [D.pys], by simp [PyData.canLayAll0], by simp [PyData.depthAll]⟩
theorem shps_cons {d : D} {ds : List D} {b : Nat} (h : Shp d b) (r : Shps ds b) : Shps (d :: ds) b := by
  obtain ⟨p, h1, h2, h3⟩ := h
  obtain ⟨ps, r1, r2, r3⟩ := r
  exact ⟨p :: ps, by simp [D.pys, h1, r1], by simp [PyData.canLayAll0, h2, r2], by simp [PyData.depthAll]; omega⟩
theorem shps_all {b : Nat} : ∀ {ds : List D}, (∀ d ∈ ds, Shp d b) → Shps ds b
  | [], _ => shps_nil
  | d :: r, h => shps_cons (h d List.mem_cons_self) (shps_all fun e he => h e (List.mem_cons_of_mem _ he))
theorem shp_tup {ds : List D} {b : Nat} (h : Shps ds b) : Shp (.tup ds) (b + 1) := by
  obtain ⟨ps, r1, r2, r3⟩ := h
  exact ⟨.tuple ps, by simp [D.py, r1], by simp [PyData.canLay0, r2], by simp [PyData.depth]; omega⟩
theorem shp_lst {ds : List D} {b : Nat} (h : Shps ds b) : Shp (.lst ds) (b + 1) := by
  obtain ⟨ps, r1, r2, r3⟩ := h
  exact ⟨.list ps, by simp [D.py, r1], by simp [PyData.canLay0, r2], by simp [PyData.depth]; omega⟩
theorem shp_int {i : Int} {b : Nat} : Shp (.int i) b := ⟨.int i, by simp [D.py], by simp [PyData.canLay0], by simp [PyData.depth]⟩
theorem shp_go {b : Nat} : Shp (.str "go") b := ⟨.str "go", by simp [D.py], by simp [PyData.canLay0, ok_go], by simp [PyData.depth]⟩
theorem shp_get {b : Nat} : Shp (.str "get") b := ⟨.str "get", by simp [D.py], by simp [PyData.canLay0, ok_get], by simp [PyData.depth]⟩
theorem shp_tI (ns : List Int) {b : Nat} : Shp (tI ns) (b + 1) := shp_tup (shps_all fun d hd => by obtain ⟨i, _, rfl⟩ := List.mem_map.mp hd; exact shp_int)
mutual
theorem shp_cd {many : List Int} : ∀ (n : Nat) (c : Cd), c.Ok many n → Shp c.toD (2 * n + 1)
  | n, .go s, _ => by
    simp only [Cd.toD]
    exact shp_tup (shps_cons shp_go (shps_cons shp_int shps_nil))
  | 0, .get _ _, h => h.elim
  | n + 1, .get w ds, h => by
    simp only [Cd.toD]
    exact shp_tup (shps_cons shp_get (shps_cons shp_int (shps_cons (shp_tup (shp_cds n ds h.2.2)) shps_nil)))
theorem shp_cds {many : List Int} : ∀ (n : Nat) (ds : List Cd), Cd.Oks many n ds → Shps (Cd.toDs ds) (2 * n + 1)
  | _, [], _ => shps_nil
  | n, c :: r, h => shps_cons (shp_cd n c h.1) (shp_cds n r h.2)
end
theorem shp_ok {d : D} {b : Nat} (h : Shp d b) (hb : b ≤ 64) : ∃ p, d.py = some p ∧ SeqAt.shaped p = true := by
  obtain ⟨p, h1, h2, h3⟩ := h
  exact ⟨p, h1, by unfold SeqAt.shaped; rw [h2]; simp; omega⟩
/-- xs != [] -/
theorem ne_nil {ds : List D} {b : Nat} {neg : Bool} {Q : Res → Sx → Prop} {S : Sx} (h : Shps ds b) (hb : b < 64) : Rn (opEq neg (.lst ds) (.lst [])) S Q = Q (.dat (.bl (ds.isEmpty != neg))) S := by
  obtain ⟨p, h1, h2⟩ := shp_ok (shp_lst h) (by omega)
  have e : D.eqv (.lst ds) (.lst []) = some ds.isEmpty := by
    unfold D.eqv
    rw [h1]
    have : (D.lst []).py = some (.list []) := by simp [D.py, D.pys]
    rw [this]
    have h3 : SeqAt.shaped (.list []) = true := by simp [SeqAt.shaped, PyData.canLay0, PyData.canLayAll0, PyData.depth, PyData.depthAll]
    simp only [h2, h3, Bool.and_self, if_true]
    simp only [D.py, Option.map_eq_some_iff] at h1
    obtain ⟨ps, h1, rfl⟩ := h1
    congr 1
    cases ds with
    | nil => simp [D.pys] at h1; subst h1; simp [PyData.eqv, PyData.eqvAll]
    | cons d r =>
      simp only [D.pys, Option.bind_eq_some_iff, Option.map_eq_some_iff] at h1
      obtain ⟨_, _, _, _, rfl⟩ := h1
      simp [PyData.eqv, PyData.eqvAll]
  unfold opEq
  rw [e]; rfl
theorem small_lt {n : Nat} (h : n < 100000) : n < sizeLine := Nat.lt_trans h (by decide)
theorem small_le {n : Nat} (h : n ≤ 100000) : n ≤ sizeLine := Nat.le_trans h (by decide)
/-- the places that are found, those still to be looked at -/
structure Way (many : List Int) (lots : List (List Int)) (n : Nat) (c : Cd) (m : Nat) (fd : List (List Int × Int)) (rs : List Nd) : Prop where
  ok : ∀ r ∈ rs, r.c.Ok many r.n ∧ r.n ≤ n ∧ r.a.length + r.n ≤ n
  cnt : m = cnts lots rs
  all : fd.length + m ≤ cntN lots n c
  set : ∀ s, s ∈ stN lots n c ↔ s ∈ fd.map (·.2) ∨ ∃ r ∈ rs, s ∈ stN lots r.n r.c
theorem way_start {many : List Int} {lots : List (List Int)} {n : Nat} {c : Cd} (h : c.Ok many n) : Way many lots n c (cntN lots n c) [] [⟨n, [], c⟩] :=
  ⟨fun r hr => by simp at hr; subst hr; exact ⟨h, Nat.le_refl _, by simp⟩, by simp [cnts], by simp, fun s => by simp⟩
theorem way_go {many : List Int} {lots : List (List Int)} {n m : Nat} {c : Cd} {fd : List (List Int × Int)} {rs : List Nd} {k : Nat} {a : List Int} {s : Int} (w : Way many lots n c m fd (rs ++ [⟨k, a, .go s⟩])) : m = m - 1 + 1 ∧ Way many lots n c (m - 1) (fd ++ [(a, s)]) rs := by
  have hc := w.cnt
  rw [cnts_app] at hc
  have h1 : cnts lots [⟨k, a, .go s⟩] = 1 := by cases k <;> simp [cnts, cntN]
  have h2 := w.all
  refine ⟨by omega, fun r hr => w.ok r (List.mem_append_left _ hr), by omega, by simp; omega, fun t => ?_⟩
  rw [w.set]
  have h3 : stN lots k (.go s) = [s] := by cases k <;> rfl
  constructor
  · rintro (h | ⟨r, hr, h⟩)
    · exact .inl (by rw [List.map_append]; exact List.mem_append_left _ h)
    · rcases List.mem_append.mp hr with hr | hr
      · exact .inr ⟨r, hr, h⟩
      · rw [List.mem_singleton] at hr; subst hr
        rw [h3] at h
        exact .inl (by rw [List.map_append]; exact List.mem_append_right _ h)
  · rintro (h | ⟨r, hr, h⟩)
    · rw [List.map_append] at h
      rcases List.mem_append.mp h with h | h
      · exact .inl h
      · exact .inr ⟨_, List.mem_append_right _ (List.mem_singleton.mpr rfl), by rw [h3]; exact h⟩
    · exact .inr ⟨r, List.mem_append_left _ hr, h⟩
theorem way_get {many : List Int} {lots : List (List Int)} (f : LotsOk many lots) {n m : Nat} {c : Cd} {fd : List (List Int × Int)} {rs : List Nd} {k : Nat} {a : List Int} {u : Int} {ds : List Cd} {l : List Int} (hl : lots[u.toNat]? = some l) (w : Way many lots n c m fd (rs ++ [⟨k + 1, a, .get u ds⟩])) :
    m - 1 < m ∧ Way many lots n c (m - 1) fd (rs ++ kids k a ds l) := by
  have hc := w.cnt
  rw [cnts_app] at hc
  have h1 : cnts lots [⟨k + 1, a, .get u ds⟩] = 1 + cnts lots (kids k a ds l) := by rw [cnts_kids]; simp [cnts, cntN, hl]
  have h2 := w.all
  obtain ⟨o1, o2, o3⟩ := w.ok _ (List.mem_append_right _ (List.mem_singleton.mpr rfl))
  refine ⟨by omega, fun r hr => ?_, by rw [cnts_app]; omega, by omega, fun t => ?_⟩
  · rcases List.mem_append.mp hr with hr | hr
    · exact w.ok r (List.mem_append_left _ hr)
    · unfold kids at hr
      obtain ⟨j, hj, e⟩ := List.mem_filterMap.mp hr
      obtain ⟨d, e1, rfl⟩ := Option.map_eq_some_iff.mp e
      dsimp only at o2 o3 ⊢
      exact ⟨Oks_get o1.2.2 e1, by omega, by simp; omega⟩
  · rw [w.set]
    have h3 : stN lots (k + 1) (.get u ds) = l.flatMap fun k' => ((ds[k'.toNat]?).map (stN lots k)).getD [] := by simp [stN, hl]
    constructor
    · rintro (h | ⟨r, hr, h⟩)
      · exact .inl h
      · rcases List.mem_append.mp hr with hr | hr
        · exact .inr ⟨r, List.mem_append_left _ hr, h⟩
        · rw [List.mem_singleton] at hr; subst hr
          dsimp only at h
          rw [h3] at h
          obtain ⟨r, hr, h⟩ := (mem_kids lots k a ds l t).mpr h
          exact .inr ⟨r, List.mem_append_right _ hr, h⟩
    · rintro (h | ⟨r, hr, h⟩)
      · exact .inl h
      · rcases List.mem_append.mp hr with hr | hr
        · exact .inr ⟨r, List.mem_append_left _ hr, h⟩
        · refine .inr ⟨_, List.mem_append_right _ (List.mem_singleton.mpr rfl), ?_⟩
          dsimp only
          rw [h3]
          exact (mem_kids lots k a ds l t).mp ⟨r, hr, h⟩
theorem it_tI {l : List Int} : (tI l).items = some (l.map .int) := rfl
theorem add_tI {a : List Int} {k : Int} {Q : Res → Sx → Prop} {S : Sx} : Rn (opAdd (tI a) (.tup [.int k])) S Q = (a.length + 1 ≤ sizeLine ∧ Q (.dat (tI (a ++ [k]))) S) := by
  unfold tI
  rw [op_add_t]
  simp
theorem kids_snoc {n : Nat} {a : List Int} {ds : List Cd} {l : List Int} {j : Nat} {c : Cd} (e : ds[j]? = some c) : kids n a ds (l ++ [(j : Int)]) = kids n a ds l ++ [⟨n, a ++ [(j : Int)], c⟩] := by
  simp [kids, e]
theorem kids_len (n : Nat) (a : List Int) (ds : List Cd) (l : List Int) : (kids n a ds l).length ≤ l.length := by
  unfold kids
  exact List.length_filterMap_le _ _
theorem emp_snoc {α : Type} {l : List α} {x : α} : (l ++ [x]).isEmpty = false := by simp
theorem snoc_of {α : Type} (l : List α) (h : l ≠ []) : ∃ r x, l = r ++ [x] := ⟨l.dropLast, l.getLast h, (List.dropLast_concat_getLast h).symm⟩
theorem nd_shp {many : List Int} {r : Nd} {n : Nat} (h : r.c.Ok many r.n) (hn : r.n ≤ n) : Shp (ndD r) (2 * n + 3) :=
  (shp_tup (shps_cons (shp_tI r.a (b := 2 * n + 1)) (shps_cons ((shp_cd r.n r.c h).mono (by omega)) shps_nil))).mono (by omega)
/-- what stands in the heap of found ways behind the sort -/
theorem alike_ints2 : ∀ xs ys : List Int, PySem.W.alikeAll (xs.map .int) (ys.map .int) = true
  | [], ys => by cases ys <;> simp [PySem.W.alikeAll]
  | x :: xs, [] => by simp [PySem.W.alikeAll]
  | x :: xs, y :: ys => by simp [PySem.W.alikeAll, PySem.W.alike, alike_ints2 xs ys]
theorem fd_py (p : List Int × Int) : (fdD p).py = some (.tuple [.tuple (p.1.map .int), .int p.2]) := by simp [fdD, tI, D.py, D.pys, pys_ints]
theorem can_fd (fd : List (List Int × Int)) : canSort (fd.map fdD) = true := by
  have e : ∀ p : List Int × Int, (fdD p).pyD = .tuple [.tuple (p.1.map .int), .int p.2] := fun p => by unfold D.pyD; rw [fd_py]; rfl
  unfold canSort
  simp only [Bool.and_eq_true, Bool.or_eq_true, List.all_eq_true, List.forall_mem_map, decide_eq_true_eq, e]
  refine ⟨⟨fun p _ => ⟨by rw [fd_py]; rfl, ?_⟩, fun p _ q _ => ?_⟩, .inl fun p _ => rfl⟩
  · have := dp_depth_ints p.1
    simp [PyData.depth, PyData.depthAll, this]
  · simp [PySem.W.alike, PySem.W.alikeAll, alike_ints2]
theorem sort_fd (fd : List (List Int × Int)) : ∃ fd' : List (List Int × Int), sortD (fd.map fdD) = fd'.map fdD ∧ fd'.length = fd.length ∧ ∀ s, s ∈ fd'.map (·.2) ↔ s ∈ fd.map (·.2) := by
  have p : (sortD (fd.map fdD)).Perm (fd.map fdD) := List.mergeSort_perm _ _
  have pre : ∀ l : List D, (∀ d ∈ l, ∃ q ∈ fd, d = fdD q) → ∃ fd' : List (List Int × Int), l = fd'.map fdD := by
    intro l
    induction l with
    | nil => exact fun _ => ⟨[], rfl⟩
    | cons d r ih =>
      intro h
      obtain ⟨q, _, rfl⟩ := h d List.mem_cons_self
      obtain ⟨fd', rfl⟩ := ih fun e he => h e (List.mem_cons_of_mem _ he)
      exact ⟨q :: fd', rfl⟩
  obtain ⟨fd', e⟩ := pre (sortD (fd.map fdD)) fun d hd => by
    obtain ⟨q, hq, rfl⟩ := List.mem_map.mp (p.mem_iff.mp hd)
    exact ⟨q, hq, rfl⟩
  rw [e] at p
  refine ⟨fd', e, by simpa using p.length_eq, fun s => ?_⟩
  have snd : ∀ (x y : List Int × Int), fdD x = fdD y → x.2 = y.2 := fun x y h => by simp [fdD] at h; exact h.2
  constructor
  · intro h
    obtain ⟨q, hq, rfl⟩ := List.mem_map.mp h
    obtain ⟨q2, hq2, e2⟩ := List.mem_map.mp (p.mem_iff.mp (List.mem_map.mpr ⟨q, hq, rfl⟩))
    exact List.mem_map.mpr ⟨q2, hq2, snd _ _ e2⟩
  · intro h
    obtain ⟨q, hq, rfl⟩ := List.mem_map.mp h
    obtain ⟨q2, hq2, e2⟩ := List.mem_map.mp (p.mem_iff.mpr (List.mem_map.mpr ⟨q, hq, rfl⟩))
    exact List.mem_map.mpr ⟨q2, hq2, snd _ _ e2⟩
theorem sortedB_fd {Q : Res → Sx → Prop} {S : Sx} {fd : List (List Int × Int)} (h : ∀ fd' : List (List Int × Int), fd'.length = fd.length → (∀ s, s ∈ fd'.map (·.2) ↔ s ∈ fd.map (·.2)) → Q (.new (.lst (fd'.map fdD))) S) : Rn (opSortedB (.lst (fd.map fdD))) S Q := by
  obtain ⟨fd', e, h1, h2⟩ := sort_fd fd
  show Rn (opSorted (.lst (fd.map fdD))) S Q
  unfold opSorted
  rw [show (D.lst (fd.map fdD)).lis = some (fd.map fdD) from rfl, rn_opt1, rn_need]
  exact ⟨can_fd fd, by rw [e]; exact h fd' h1 h2⟩
theorem law_steps_ok {many : List Int} {lots : List (List Int)} (f : LotsOk many lots) {n : Nat} {c : Cd} {o : List D} (h : c.Ok many n) (hn : n ≤ 4) {Q : Res → List D → Prop}
    (q : ∀ fd : List (List Int × Int), fd.length ≤ 1296 → (∀ s, s ∈ fd.map (·.2) ↔ s ∈ stN lots n c) → Q (.new (.lst (fd.map fdD))) o) : Dr d__law_steps [c.toD, lotsD lots] o Q := by
  have c6 : cntN lots n c ≤ 1296 := Nat.le_trans (cnt_le f n c h) (Nat.le_trans (Nat.pow_le_pow_right (by decide) hn) (by decide))
  unfold d__law_steps b__law_steps
  rw [dr_run]
  generalize hW : whileM _ _ whFuel = W
  simp -implicitDefEqProofs only [rn_bind, rn_pure, rn_no, rn_need, rn_opt1, rn_ite, rn_var, rn_put, rn_useD, rn_useN, rn_useO, rn_chkD, rn_chkN, rn_chkO, rn_call, rn_seq, rn_guard, rn_forIn, rn_for0, rn_setD, rn_setN, rn_setO, binM, binMO, unM, cmpT, testM, andT, orT, notT, ifM, asgM, retM, exprM, kM, consA, nilA, tupM, lstM, useAll, chkAll, slM, partM, DL.andM, DL.orM, DL.notM, negM, asgG, gN, gT, gsC, gsN, seqI, frzM, asgTM, dnewM, par2M, hold_d, hold_n, hold_o, d_d, d_n, d_o, out_d, out_n, out_o, fo_next, fo_ret, isBl_b, isInt_i, tr_i, tr_b, tr_n, tr_l, tr_t, it_l, it_r, it_t, li_l, li_r, op_add_i, op_add_l, op_add_t, op_sub_i, op_mul_i, op_mod_i, op_div_i, op_pow_i, op_lt_i, op_le_i, op_gt_i, op_ge_i, op_int_i, op_abs_i, op_len_l, op_len_t, op_len_r, op_tup_l, op_tup_t, op_lst_l, op_lst_t, op_max_i, op_eq_i, eq_go_go, eq_get_get, eq_go_get, eq_get_go, Bool.bne_false, Bool.bne_true, Bool.not_true, Bool.not_false, op_sl_l, op_sl_r, op_sl_t, op_ix_t0, op_ix_t1, op_ix_t2, op_ix_l0, List.getElem?_cons_zero, List.getElem?_cons_succ, List.set_cons_zero, List.set_cons_succ, List.map_cons, List.map_nil, List.length_cons, List.length_nil, List.cons_append, List.nil_append, if_true, if_false, Bool.false_eq_true, decide_eq_true_eq, and_true, true_and, ite_true, ite_false, reduceCtorEq, rn_methM, rn_methM0, isTM_eq, rn_mk, rn_st, mk_own, st_own, ty_own, ex_app, ex_ext, ex_extT, ex_rev, ex_pop, rn_storeM, rn_lc, rn_lc2, rn_turn, rn_turn1, rn_frz, List.replicate]
  refine ⟨small_le (by decide), small_le (by decide), small_le (by decide), small_le (by decide), ?_⟩
  rw [← hW]
  refine while_inv (I := fun m S => ∃ (fd : List (List Int × Int)) (rs : List Nd) (s4 s5 s6 : Slot), Way many lots n c m fd rs ∧ S = ⟨[.dat c.toD, .dat (lotsD lots), .own (.lst (fd.map fdD)), .own (.lst (rs.map ndD)), s4, s5, s6], o⟩) (n := whFuel) (m := cntN lots n c) (fuel_lt (by omega)) ⟨[], [⟨n, [], c⟩], _, _, _, way_start h, rfl⟩ ?_
  rintro m S ⟨fd, rs, s4, s5, s6, w, rfl⟩
  have hall := w.all
  have hlen : rs.length ≤ m := by rw [w.cnt]; exact cnts_len lots rs
  have hshp : Shps (rs.map ndD) 11 := shps_all fun d hd => by
    obtain ⟨r, hr, rfl⟩ := List.mem_map.mp hd
    exact (nd_shp (w.ok r hr).1 (w.ok r hr).2.1).mono (by omega)
  by_cases he : rs = []
  · subst he
    simp -implicitDefEqProofs only [rn_bind, rn_pure, rn_no, rn_need, rn_opt1, rn_ite, rn_var, rn_put, rn_useD, rn_useN, rn_useO, rn_chkD, rn_chkN, rn_chkO, rn_call, rn_seq, rn_guard, rn_forIn, rn_for0, rn_setD, rn_setN, rn_setO, binM, binMO, unM, cmpT, testM, andT, orT, notT, ifM, asgM, retM, exprM, kM, consA, nilA, tupM, lstM, useAll, chkAll, slM, partM, DL.andM, DL.orM, DL.notM, negM, asgG, gN, gT, gsC, gsN, seqI, frzM, asgTM, dnewM, par2M, hold_d, hold_n, hold_o, d_d, d_n, d_o, out_d, out_n, out_o, fo_next, fo_ret, isBl_b, isInt_i, tr_i, tr_b, tr_n, tr_l, tr_t, it_l, it_r, it_t, li_l, li_r, op_add_i, op_add_l, op_add_t, op_sub_i, op_mul_i, op_mod_i, op_div_i, op_pow_i, op_lt_i, op_le_i, op_gt_i, op_ge_i, op_int_i, op_abs_i, op_len_l, op_len_t, op_len_r, op_tup_l, op_tup_t, op_lst_l, op_lst_t, op_max_i, op_eq_i, eq_go_go, eq_get_get, eq_go_get, eq_get_go, Bool.bne_false, Bool.bne_true, Bool.not_true, Bool.not_false, op_sl_l, op_sl_r, op_sl_t, op_ix_t0, op_ix_t1, op_ix_t2, op_ix_l0, List.getElem?_cons_zero, List.getElem?_cons_succ, List.set_cons_zero, List.set_cons_succ, List.map_cons, List.map_nil, List.length_cons, List.length_nil, List.cons_append, List.nil_append, if_true, if_false, Bool.false_eq_true, decide_eq_true_eq, and_true, true_and, ite_true, ite_false, reduceCtorEq, rn_methM, rn_methM0, isTM_eq, rn_mk, rn_st, mk_own, st_own, ty_own, ex_app, ex_ext, ex_extT, ex_rev, ex_pop, rn_storeM, rn_lc, rn_lc2, rn_turn, rn_turn1, rn_frz, ne_nil hshp (by decide : 11 < 64)]
    refine ⟨Nat.zero_le _, sortedB_fd fun fd' l' s' => q fd' (by omega) fun s => ?_⟩
    rw [s', w.set]
    simp
  · obtain ⟨rs', ⟨k, a, c'⟩, rfl⟩ := snoc_of rs he
    have hne : ((rs' ++ [Nd.mk k a c']).map ndD).isEmpty = false := by simp
    obtain ⟨o1, o2, o3⟩ := w.ok _ (List.mem_append_right _ (List.mem_singleton.mpr rfl))
    dsimp only at o1 o2 o3
    cases c' with
    | go s =>
      obtain ⟨w1, w2⟩ := way_go w
      simp only [List.map_append, List.map_cons, List.map_nil, ndD, Cd.toD] at hshp ⊢
      simp -implicitDefEqProofs only [rn_bind, rn_pure, rn_no, rn_need, rn_opt1, rn_ite, rn_var, rn_put, rn_useD, rn_useN, rn_useO, rn_chkD, rn_chkN, rn_chkO, rn_call, rn_seq, rn_guard, rn_forIn, rn_for0, rn_setD, rn_setN, rn_setO, binM, binMO, unM, cmpT, testM, andT, orT, notT, ifM, asgM, retM, exprM, kM, consA, nilA, tupM, lstM, useAll, chkAll, slM, partM, DL.andM, DL.orM, DL.notM, negM, asgG, gN, gT, gsC, gsN, seqI, frzM, asgTM, dnewM, par2M, hold_d, hold_n, hold_o, d_d, d_n, d_o, out_d, out_n, out_o, fo_next, fo_ret, isBl_b, isInt_i, tr_i, tr_b, tr_n, tr_l, tr_t, it_l, it_r, it_t, li_l, li_r, op_add_i, op_add_l, op_add_t, op_sub_i, op_mul_i, op_mod_i, op_div_i, op_pow_i, op_lt_i, op_le_i, op_gt_i, op_ge_i, op_int_i, op_abs_i, op_len_l, op_len_t, op_len_r, op_tup_l, op_tup_t, op_lst_l, op_lst_t, op_max_i, op_eq_i, eq_go_go, eq_get_get, eq_go_get, eq_get_go, Bool.bne_false, Bool.bne_true, Bool.not_true, Bool.not_false, op_sl_l, op_sl_r, op_sl_t, op_ix_t0, op_ix_t1, op_ix_t2, op_ix_l0, List.getElem?_cons_zero, List.getElem?_cons_succ, List.set_cons_zero, List.set_cons_succ, List.map_cons, List.map_nil, List.length_cons, List.length_nil, List.cons_append, List.nil_append, if_true, if_false, Bool.false_eq_true, decide_eq_true_eq, and_true, true_and, ite_true, ite_false, reduceCtorEq, rn_methM, rn_methM0, isTM_eq, rn_mk, rn_st, mk_own, st_own, ty_own, ex_app, ex_ext, ex_extT, ex_rev, ex_pop, rn_storeM, rn_lc, rn_lc2, rn_turn, rn_turn1, rn_frz, ne_nil hshp (by decide : 11 < 64), emp_snoc, ex_pop]
      refine ⟨Nat.zero_le _, small_le (by decide), small_lt (by simp; omega), m - 1, by omega, fd ++ [(a, s)], rs', .dat (tI a), .dat (.tup [.str "go", .int s]), s6, w2, ?_⟩
      rw [List.map_append]; rfl
    | get u ds =>
      cases k with
      | zero => exact o1.elim
      | succ k =>
        obtain ⟨l, h0, hl, hm, hk⟩ := lots_step f o1
        obtain ⟨w1, w2⟩ := way_get f hl w
        simp only [List.map_append, List.map_cons, List.map_nil, ndD, Cd.toD] at hshp ⊢
        simp -implicitDefEqProofs only [rn_bind, rn_pure, rn_no, rn_need, rn_opt1, rn_ite, rn_var, rn_put, rn_useD, rn_useN, rn_useO, rn_chkD, rn_chkN, rn_chkO, rn_call, rn_seq, rn_guard, rn_forIn, rn_for0, rn_setD, rn_setN, rn_setO, binM, binMO, unM, cmpT, testM, andT, orT, notT, ifM, asgM, retM, exprM, kM, consA, nilA, tupM, lstM, useAll, chkAll, slM, partM, DL.andM, DL.orM, DL.notM, negM, asgG, gN, gT, gsC, gsN, seqI, frzM, asgTM, dnewM, par2M, hold_d, hold_n, hold_o, d_d, d_n, d_o, out_d, out_n, out_o, fo_next, fo_ret, isBl_b, isInt_i, tr_i, tr_b, tr_n, tr_l, tr_t, it_l, it_r, it_t, li_l, li_r, op_add_i, op_add_l, op_add_t, op_sub_i, op_mul_i, op_mod_i, op_div_i, op_pow_i, op_lt_i, op_le_i, op_gt_i, op_ge_i, op_int_i, op_abs_i, op_len_l, op_len_t, op_len_r, op_tup_l, op_tup_t, op_lst_l, op_lst_t, op_max_i, op_eq_i, eq_go_go, eq_get_get, eq_go_get, eq_get_go, Bool.bne_false, Bool.bne_true, Bool.not_true, Bool.not_false, op_sl_l, op_sl_r, op_sl_t, op_ix_t0, op_ix_t1, op_ix_t2, op_ix_l0, List.getElem?_cons_zero, List.getElem?_cons_succ, List.set_cons_zero, List.set_cons_succ, List.map_cons, List.map_nil, List.length_cons, List.length_nil, List.cons_append, List.nil_append, if_true, if_false, Bool.false_eq_true, decide_eq_true_eq, and_true, true_and, ite_true, ite_false, reduceCtorEq, rn_methM, rn_methM0, isTM_eq, rn_mk, rn_st, mk_own, st_own, ty_own, ex_app, ex_ext, ex_extT, ex_rev, ex_pop, rn_storeM, rn_lc, rn_lc2, rn_turn, rn_turn1, rn_frz, ne_nil hshp (by decide : 11 < 64), emp_snoc, ex_pop, lot_at h0 hl, it_tI]
        refine ⟨Nat.zero_le _, ?_⟩
        have ll := f.few l hm
        refine for_inv (I := fun xs S => ∃ l1 l2 s6, l = l1 ++ l2 ∧ xs = l2.map D.int ∧ S = ⟨[.dat c.toD, .dat (lotsD lots), .own (.lst (fd.map fdD)), .own (.lst ((rs' ++ kids k a ds l1).map ndD)), .dat (tI a), .dat (.tup [.str "get", .int u, .tup (Cd.toDs ds)]), s6], o⟩) ⟨[], l, s6, rfl, rfl, by simp [kids]⟩ ?_ ?_
        · rintro d xs S ⟨l1, l2, s6, e1, e2, rfl⟩
          cases l2 with
          | nil => cases e2
          | cons x l2 =>
            rw [List.map_cons] at e2
            cases e2
            obtain ⟨j, c2, rfl, e3, h3⟩ := hk x (by rw [e1]; simp)
            have hl1 : l1.length ≤ 5 := by rw [e1] at ll; simp at ll; omega
            have hkl := kids_len k a ds l1
            simp only [List.length_append, List.length_cons, List.length_nil] at hlen
            simp -implicitDefEqProofs only [rn_bind, rn_pure, rn_no, rn_need, rn_opt1, rn_ite, rn_var, rn_put, rn_useD, rn_useN, rn_useO, rn_chkD, rn_chkN, rn_chkO, rn_call, rn_seq, rn_guard, rn_forIn, rn_for0, rn_setD, rn_setN, rn_setO, binM, binMO, unM, cmpT, testM, andT, orT, notT, ifM, asgM, retM, exprM, kM, consA, nilA, tupM, lstM, useAll, chkAll, slM, partM, DL.andM, DL.orM, DL.notM, negM, asgG, gN, gT, gsC, gsN, seqI, frzM, asgTM, dnewM, par2M, hold_d, hold_n, hold_o, d_d, d_n, d_o, out_d, out_n, out_o, fo_next, fo_ret, isBl_b, isInt_i, tr_i, tr_b, tr_n, tr_l, tr_t, it_l, it_r, it_t, li_l, li_r, op_add_i, op_add_l, op_add_t, op_sub_i, op_mul_i, op_mod_i, op_div_i, op_pow_i, op_lt_i, op_le_i, op_gt_i, op_ge_i, op_int_i, op_abs_i, op_len_l, op_len_t, op_len_r, op_tup_l, op_tup_t, op_lst_l, op_lst_t, op_max_i, op_eq_i, eq_go_go, eq_get_get, eq_go_get, eq_get_go, Bool.bne_false, Bool.bne_true, Bool.not_true, Bool.not_false, op_sl_l, op_sl_r, op_sl_t, op_ix_t0, op_ix_t1, op_ix_t2, op_ix_l0, List.getElem?_cons_zero, List.getElem?_cons_succ, List.set_cons_zero, List.set_cons_succ, List.map_cons, List.map_nil, List.length_cons, List.length_nil, List.cons_append, List.nil_append, if_true, if_false, Bool.false_eq_true, decide_eq_true_eq, and_true, true_and, ite_true, ite_false, reduceCtorEq, rn_methM, rn_methM0, isTM_eq, rn_mk, rn_st, mk_own, st_own, ty_own, ex_app, ex_ext, ex_extT, ex_rev, ex_pop, rn_storeM, rn_lc, rn_lc2, rn_turn, rn_turn1, rn_frz, add_tI, ix_ds e3]
            refine ⟨small_le (by decide), small_le (by omega), small_le (by decide), small_lt (by simp; omega), l1 ++ [(j : Int)], l2, .dat (.int j), by rw [e1]; simp, rfl, ?_⟩
            simp only [kids_snoc e3, List.map_append, List.map_cons, List.map_nil, ndD, List.append_assoc]
        · rintro S ⟨l1, l2, s6, e1, e2, rfl⟩
          have : l2 = [] := by
            cases l2 with
            | nil => rfl
            | cons x r => cases e2
          subst this
          rw [List.append_nil] at e1
          subst e1
          exact ⟨m - 1, w1, fd, _, _, _, _, w2, rfl⟩
/-! ## what the two ask for: the states, sorted -/
theorem st_fit {many : List Int} {lots : List (List Int)} (f : LotsOk many lots) : ∀ (n : Nat) (c : Cd), c.Ok many n → ∀ s ∈ stN lots n c, 0 ≤ s ∧ s < 4
  | 0, .go s, h, t, ht => by simp [stN] at ht; subst ht; exact h
  | 0, .get _ _, h, _, _ => h.elim
  | n + 1, .go s, h, t, ht => by simp [stN] at ht; subst ht; exact h
  | n + 1, .get w ds, h, t, ht => by
    obtain ⟨l, h0, hl, hm, hk⟩ := lots_step f h
    simp only [stN, hl, Option.getD_some, List.mem_flatMap] at ht
    obtain ⟨k, hkl, ht⟩ := ht
    obtain ⟨j, c, rfl, e, hc⟩ := hk k hkl
    simp only [Int.toNat_natCast, e, Option.map_some, Option.getD_some] at ht
    exact st_fit f n c hc t ht
theorem up_len : ∀ (l : List Int) (a : Int) (n : Nat), l.Pairwise (· < ·) → (∀ x ∈ l, a ≤ x ∧ x < a + n) → l.length ≤ n
  | [], _, _, _, _ => Nat.zero_le _
  | x :: r, a, n, h, hb => by
    obtain ⟨h1, h2⟩ := List.pairwise_cons.mp h
    have hx := hb x List.mem_cons_self
    have := up_len r (x + 1) (n - (x + 1 - a).toNat) h2 fun y hy => by
      have := h1 y hy
      have := hb y (List.mem_cons_of_mem _ hy)
      omega
    simp only [List.length_cons]
    omega
theorem up_len0 {l : List Int} {b : Nat} (h : l.Pairwise (· < ·)) (hb : ∀ x ∈ l, 0 ≤ x ∧ x < (b : Int)) : l.length ≤ b := up_len l 0 b h fun x hx => by have := hb x hx; omega
theorem sortS_eq {l m : List Int} (h : ∀ k, k ∈ l ↔ k ∈ m) : sortS l = sortS m := up_unique (sortS_up l) (sortS_up m) fun k => by rw [sortS_mem, sortS_mem, h]
def resN (lots : List (List Int)) (n : Nat) (c : Cd) : List Int := sortS (stN lots n c)
theorem res_fit {many : List Int} {lots : List (List Int)} (f : LotsOk many lots) {n : Nat} {c : Cd} (h : c.Ok many n) : ∀ s ∈ resN lots n c, 0 ≤ s ∧ s < 4 := fun s hs => st_fit f n c h s ((sortS_mem s _).mp hs)
theorem ints_lis (ns : List Int) : (D.lst (ns.map .int)).lis.bind D.ints? = some ns := ints?_map ns
theorem sortset_rn {Q : Res → Sx → Prop} {S : Sx} {ns : List Int} {b : Nat} (hl : ns.length + 1 < 4096) (hb : ∀ x ∈ ns, 0 ≤ x ∧ x < (b : Int)) (hb2 : b < 64) (q : Q (.new (lI (sortS ns))) S) : Rn (opSortSet (.lst (ns.map .int))) S Q := by
  unfold opSortSet
  rw [ints_lis, rn_opt1, rn_need]
  refine ⟨?_, q⟩
  rw [Bool.and_eq_true]
  refine ⟨decide_eq_true hl, decide_eq_true ?_⟩
  have := up_len0 (sortS_up ns) (b := b) fun x hx => hb x ((sortS_mem x ns).mp hx)
  omega
theorem imms_lI (ns : List Int) : (Res.new (lI ns)).safe = true := imms_ints ns
theorem imms_fd : ∀ fd : List (List Int × Int), D.imms (fd.map fdD) = true
  | [] => rfl
  | p :: r => by simp [D.imms, imms_fd r, fdD, D.imm, tI, imms_ints]
/-- nothing is given up where the result and the objects cannot change -/
theorem if_safe {α β : Prop} {r : Res} {o : List D} (h1 : r.safe = true) (h2 : (o.all fun o => D.imms o.parts) = true) : (if (r.safe && o.all fun o => D.imms o.parts) = true then α else β) = α := by rw [h1, h2]; rfl
theorem if_imms {α β : Prop} {l : List D} {o : List D} (h1 : D.imms l = true) (h2 : (o.all fun o => D.imms o.parts) = true) : (if (D.imms l && o.all fun o => D.imms o.parts) = true then α else β) = α := by rw [h1, h2]; rfl
def secF (d : D) : Option D := match d with
  | .tup [_, x] => some x
  | _ => none
theorem fd_snd : ∀ fd : List (List Int × Int), (fd.map fdD).filterMap secF = (fd.map (·.2)).map .int
  | [] => rfl
  | p :: r => by
    rw [List.map_cons, List.filterMap_cons, show secF (fdD p) = some (.int p.2) from rfl]
    simp only
    rw [fd_snd r]
    rfl
theorem law_results_ok {many : List Int} {lots : List (List Int)} (f : LotsOk many lots) {n : Nat} {c : Cd} {o : List D} (ho : (o.all fun o => D.imms o.parts) = true) (h : c.Ok many n) (hn : n ≤ 4) {Q : Res → List D → Prop}
    (q : Q (.new (lI (resN lots n c))) o) : Dr d__law_results [c.toD, lotsD lots] o Q := by
  unfold d__law_results b__law_results
  rw [dr_run]
  simp -implicitDefEqProofs only [rn_bind, rn_pure, rn_no, rn_need, rn_opt1, rn_ite, rn_var, rn_put, rn_useD, rn_useN, rn_useO, rn_chkD, rn_chkN, rn_chkO, rn_call, rn_seq, rn_guard, rn_forIn, rn_for0, rn_setD, rn_setN, rn_setO, binM, binMO, unM, cmpT, testM, andT, orT, notT, ifM, asgM, retM, exprM, kM, consA, nilA, tupM, lstM, useAll, chkAll, slM, partM, DL.andM, DL.orM, DL.notM, negM, asgG, gN, gT, gsC, gsN, seqI, frzM, asgTM, dnewM, par2M, hold_d, hold_n, hold_o, d_d, d_n, d_o, out_d, out_n, out_o, fo_next, fo_ret, isBl_b, isInt_i, tr_i, tr_b, tr_n, tr_l, tr_t, it_l, it_r, it_t, li_l, li_r, op_add_i, op_add_l, op_add_t, op_sub_i, op_mul_i, op_mod_i, op_div_i, op_pow_i, op_lt_i, op_le_i, op_gt_i, op_ge_i, op_int_i, op_abs_i, op_len_l, op_len_t, op_len_r, op_tup_l, op_tup_t, op_lst_l, op_lst_t, op_max_i, op_eq_i, eq_go_go, eq_get_get, eq_go_get, eq_get_go, Bool.bne_false, Bool.bne_true, Bool.not_true, Bool.not_false, op_sl_l, op_sl_r, op_sl_t, op_ix_t0, op_ix_t1, op_ix_t2, op_ix_l0, List.getElem?_cons_zero, List.getElem?_cons_succ, List.set_cons_zero, List.set_cons_succ, List.map_cons, List.map_nil, List.length_cons, List.length_nil, List.cons_append, List.nil_append, if_true, if_false, Bool.false_eq_true, decide_eq_true_eq, and_true, true_and, ite_true, ite_false, reduceCtorEq, rn_methM, rn_methM0, isTM_eq, rn_mk, rn_st, mk_own, st_own, ty_own, ex_app, ex_ext, ex_extT, ex_rev, ex_pop, rn_storeM, rn_lc, rn_lc2, rn_turn, rn_turn1, rn_frz, List.replicate]
  refine law_steps_ok f h hn fun fd hl hs => ?_
  rw [if_safe (show (Res.new (.lst (fd.map fdD))).safe = true from imms_fd fd) ho]
  simp -implicitDefEqProofs only [rn_bind, rn_pure, rn_no, rn_need, rn_opt1, rn_ite, rn_var, rn_put, rn_useD, rn_useN, rn_useO, rn_chkD, rn_chkN, rn_chkO, rn_call, rn_seq, rn_guard, rn_forIn, rn_for0, rn_setD, rn_setN, rn_setO, binM, binMO, unM, cmpT, testM, andT, orT, notT, ifM, asgM, retM, exprM, kM, consA, nilA, tupM, lstM, useAll, chkAll, slM, partM, DL.andM, DL.orM, DL.notM, negM, asgG, gN, gT, gsC, gsN, seqI, frzM, asgTM, dnewM, par2M, hold_d, hold_n, hold_o, d_d, d_n, d_o, out_d, out_n, out_o, fo_next, fo_ret, isBl_b, isInt_i, tr_i, tr_b, tr_n, tr_l, tr_t, it_l, it_r, it_t, li_l, li_r, op_add_i, op_add_l, op_add_t, op_sub_i, op_mul_i, op_mod_i, op_div_i, op_pow_i, op_lt_i, op_le_i, op_gt_i, op_ge_i, op_int_i, op_abs_i, op_len_l, op_len_t, op_len_r, op_tup_l, op_tup_t, op_lst_l, op_lst_t, op_max_i, op_eq_i, eq_go_go, eq_get_get, eq_go_get, eq_get_go, Bool.bne_false, Bool.bne_true, Bool.not_true, Bool.not_false, op_sl_l, op_sl_r, op_sl_t, op_ix_t0, op_ix_t1, op_ix_t2, op_ix_l0, List.getElem?_cons_zero, List.getElem?_cons_succ, List.set_cons_zero, List.set_cons_succ, List.map_cons, List.map_nil, List.length_cons, List.length_nil, List.cons_append, List.nil_append, if_true, if_false, Bool.false_eq_true, decide_eq_true_eq, and_true, true_and, ite_true, ite_false, reduceCtorEq, rn_methM, rn_methM0, isTM_eq, rn_mk, rn_st, mk_own, st_own, ty_own, ex_app, ex_ext, ex_extT, ex_rev, ex_pop, rn_storeM, rn_lc, rn_lc2, rn_turn, rn_turn1, rn_frz]
  refine cw_map (F := secF) (small_le (by simp; omega)) (fun d hd => ?_) ?_
  · obtain ⟨p, hp, rfl⟩ := List.mem_map.mp hd
    simp -implicitDefEqProofs only [rn_bind, rn_pure, rn_no, rn_need, rn_opt1, rn_ite, rn_var, rn_put, rn_useD, rn_useN, rn_useO, rn_chkD, rn_chkN, rn_chkO, rn_call, rn_seq, rn_guard, rn_forIn, rn_for0, rn_setD, rn_setN, rn_setO, binM, binMO, unM, cmpT, testM, andT, orT, notT, ifM, asgM, retM, exprM, kM, consA, nilA, tupM, lstM, useAll, chkAll, slM, partM, DL.andM, DL.orM, DL.notM, negM, asgG, gN, gT, gsC, gsN, seqI, frzM, asgTM, dnewM, par2M, hold_d, hold_n, hold_o, d_d, d_n, d_o, out_d, out_n, out_o, fo_next, fo_ret, isBl_b, isInt_i, tr_i, tr_b, tr_n, tr_l, tr_t, it_l, it_r, it_t, li_l, li_r, op_add_i, op_add_l, op_add_t, op_sub_i, op_mul_i, op_mod_i, op_div_i, op_pow_i, op_lt_i, op_le_i, op_gt_i, op_ge_i, op_int_i, op_abs_i, op_len_l, op_len_t, op_len_r, op_tup_l, op_tup_t, op_lst_l, op_lst_t, op_max_i, op_eq_i, eq_go_go, eq_get_get, eq_go_get, eq_get_go, Bool.bne_false, Bool.bne_true, Bool.not_true, Bool.not_false, op_sl_l, op_sl_r, op_sl_t, op_ix_t0, op_ix_t1, op_ix_t2, op_ix_l0, List.getElem?_cons_zero, List.getElem?_cons_succ, List.set_cons_zero, List.set_cons_succ, List.map_cons, List.map_nil, List.length_cons, List.length_nil, List.cons_append, List.nil_append, if_true, if_false, Bool.false_eq_true, decide_eq_true_eq, and_true, true_and, ite_true, ite_false, reduceCtorEq, rn_methM, rn_methM0, isTM_eq, rn_mk, rn_st, mk_own, st_own, ty_own, ex_app, ex_ext, ex_extT, ex_rev, ex_pop, rn_storeM, rn_lc, rn_lc2, rn_turn, rn_turn1, rn_frz, fdD, wipeE, List.map_cons, Slot.frz]
    rfl
  · rw [List.nil_append, fd_snd, if_imms (imms_ints _) ho]
    refine sortset_rn (b := 4) (by simp; omega) (fun x hx => st_fit f n c h x ((hs x).mp hx)) (by decide) ?_
    simp -implicitDefEqProofs only [rn_bind, rn_pure, rn_no, rn_need, rn_opt1, rn_ite, rn_var, rn_put, rn_useD, rn_useN, rn_useO, rn_chkD, rn_chkN, rn_chkO, rn_call, rn_seq, rn_guard, rn_forIn, rn_for0, rn_setD, rn_setN, rn_setO, binM, binMO, unM, cmpT, testM, andT, orT, notT, ifM, asgM, retM, exprM, kM, consA, nilA, tupM, lstM, useAll, chkAll, slM, partM, DL.andM, DL.orM, DL.notM, negM, asgG, gN, gT, gsC, gsN, seqI, frzM, asgTM, dnewM, par2M, hold_d, hold_n, hold_o, d_d, d_n, d_o, out_d, out_n, out_o, fo_next, fo_ret, isBl_b, isInt_i, tr_i, tr_b, tr_n, tr_l, tr_t, it_l, it_r, it_t, li_l, li_r, op_add_i, op_add_l, op_add_t, op_sub_i, op_mul_i, op_mod_i, op_div_i, op_pow_i, op_lt_i, op_le_i, op_gt_i, op_ge_i, op_int_i, op_abs_i, op_len_l, op_len_t, op_len_r, op_tup_l, op_tup_t, op_lst_l, op_lst_t, op_max_i, op_eq_i, eq_go_go, eq_get_get, eq_go_get, eq_get_go, Bool.bne_false, Bool.bne_true, Bool.not_true, Bool.not_false, op_sl_l, op_sl_r, op_sl_t, op_ix_t0, op_ix_t1, op_ix_t2, op_ix_l0, List.getElem?_cons_zero, List.getElem?_cons_succ, List.set_cons_zero, List.set_cons_succ, List.map_cons, List.map_nil, List.length_cons, List.length_nil, List.cons_append, List.nil_append, if_true, if_false, Bool.false_eq_true, decide_eq_true_eq, and_true, true_and, ite_true, ite_false, reduceCtorEq, rn_methM, rn_methM0, isTM_eq, rn_mk, rn_st, mk_own, st_own, ty_own, ex_app, ex_ext, ex_extT, ex_rev, ex_pop, rn_storeM, rn_lc, rn_lc2, rn_turn, rn_turn1, rn_frz]
    rw [sortS_eq hs]
    exact q
end LW
end
section
set_option maxRecDepth 100000
namespace LW
open PySem L2 DL
/-! ## the program's ways through a code -/
def ndE (r : Nd) : D := .tup [r.c.toD, tI r.a]
theorem ne_emp {α : Type} {l : List α} {x : α} : (!(l ++ [x]).isEmpty) = true := by simp
theorem steps_ok {many : List Int} {lots : List (List Int)} (f : LotsOk many lots) {n : Nat} {c : Cd} {o : List D} (h : c.Ok many n) (hn : n ≤ 4) {Q : Res → List D → Prop}
    (q : ∀ fd : List (List Int × Int), fd.length ≤ 1296 → (∀ s, s ∈ fd.map (·.2) ↔ s ∈ stN lots n c) → Q (.new (.lst (fd.map fdD))) o) : Dr d_steps_of [c.toD, lotsD lots] o Q := by
  have c6 : cntN lots n c ≤ 1296 := Nat.le_trans (cnt_le f n c h) (Nat.le_trans (Nat.pow_le_pow_right (by decide) hn) (by decide))
  unfold d_steps_of b_steps_of
  rw [dr_run]
  generalize hW : whileM _ _ whFuel = W
  simp -implicitDefEqProofs only [rn_bind, rn_pure, rn_no, rn_need, rn_opt1, rn_ite, rn_var, rn_put, rn_useD, rn_useN, rn_useO, rn_chkD, rn_chkN, rn_chkO, rn_call, rn_seq, rn_guard, rn_forIn, rn_for0, rn_setD, rn_setN, rn_setO, binM, binMO, unM, cmpT, testM, andT, orT, notT, ifM, asgM, retM, exprM, kM, consA, nilA, tupM, lstM, useAll, chkAll, slM, partM, DL.andM, DL.orM, DL.notM, negM, asgG, gN, gT, gsC, gsN, seqI, frzM, asgTM, dnewM, par2M, hold_d, hold_n, hold_o, d_d, d_n, d_o, out_d, out_n, out_o, fo_next, fo_ret, isBl_b, isInt_i, tr_i, tr_b, tr_n, tr_l, tr_t, it_l, it_r, it_t, li_l, li_r, op_add_i, op_add_l, op_add_t, op_sub_i, op_mul_i, op_mod_i, op_div_i, op_pow_i, op_lt_i, op_le_i, op_gt_i, op_ge_i, op_int_i, op_abs_i, op_len_l, op_len_t, op_len_r, op_tup_l, op_tup_t, op_lst_l, op_lst_t, op_max_i, op_eq_i, eq_go_go, eq_get_get, eq_go_get, eq_get_go, Bool.bne_false, Bool.bne_true, Bool.not_true, Bool.not_false, op_sl_l, op_sl_r, op_sl_t, op_ix_t0, op_ix_t1, op_ix_t2, op_ix_l0, List.getElem?_cons_zero, List.getElem?_cons_succ, List.set_cons_zero, List.set_cons_succ, List.map_cons, List.map_nil, List.length_cons, List.length_nil, List.cons_append, List.nil_append, if_true, if_false, Bool.false_eq_true, decide_eq_true_eq, and_true, true_and, ite_true, ite_false, reduceCtorEq, rn_methM, rn_methM0, isTM_eq, rn_mk, rn_st, mk_own, st_own, ty_own, ex_app, ex_ext, ex_extT, ex_rev, ex_pop, rn_storeM, rn_lc, rn_lc2, rn_turn, rn_turn1, rn_frz, List.replicate]
  refine ⟨small_le (by decide), small_le (by decide), small_le (by decide), small_le (by decide), ?_⟩
  rw [← hW]
  refine while_inv (I := fun m S => ∃ (fd : List (List Int × Int)) (rs : List Nd) (s4 s5 s6 : Slot), Way many lots n c m fd rs ∧ S = ⟨[.dat c.toD, .dat (lotsD lots), .own (.lst (fd.map fdD)), .own (.lst (rs.map ndE)), s4, s5, s6], o⟩) (n := whFuel) (m := cntN lots n c) (fuel_lt (by omega)) ⟨[], [⟨n, [], c⟩], _, _, _, way_start h, rfl⟩ ?_
  rintro m S ⟨fd, rs, s4, s5, s6, w, rfl⟩
  have hall := w.all
  have hlen : rs.length ≤ m := by rw [w.cnt]; exact cnts_len lots rs
  by_cases he : rs = []
  · subst he
    simp -implicitDefEqProofs only [rn_bind, rn_pure, rn_no, rn_need, rn_opt1, rn_ite, rn_var, rn_put, rn_useD, rn_useN, rn_useO, rn_chkD, rn_chkN, rn_chkO, rn_call, rn_seq, rn_guard, rn_forIn, rn_for0, rn_setD, rn_setN, rn_setO, binM, binMO, unM, cmpT, testM, andT, orT, notT, ifM, asgM, retM, exprM, kM, consA, nilA, tupM, lstM, useAll, chkAll, slM, partM, DL.andM, DL.orM, DL.notM, negM, asgG, gN, gT, gsC, gsN, seqI, frzM, asgTM, dnewM, par2M, hold_d, hold_n, hold_o, d_d, d_n, d_o, out_d, out_n, out_o, fo_next, fo_ret, isBl_b, isInt_i, tr_i, tr_b, tr_n, tr_l, tr_t, it_l, it_r, it_t, li_l, li_r, op_add_i, op_add_l, op_add_t, op_sub_i, op_mul_i, op_mod_i, op_div_i, op_pow_i, op_lt_i, op_le_i, op_gt_i, op_ge_i, op_int_i, op_abs_i, op_len_l, op_len_t, op_len_r, op_tup_l, op_tup_t, op_lst_l, op_lst_t, op_max_i, op_eq_i, eq_go_go, eq_get_get, eq_go_get, eq_get_go, Bool.bne_false, Bool.bne_true, Bool.not_true, Bool.not_false, op_sl_l, op_sl_r, op_sl_t, op_ix_t0, op_ix_t1, op_ix_t2, op_ix_l0, List.getElem?_cons_zero, List.getElem?_cons_succ, List.set_cons_zero, List.set_cons_succ, List.map_cons, List.map_nil, List.length_cons, List.length_nil, List.cons_append, List.nil_append, if_true, if_false, Bool.false_eq_true, decide_eq_true_eq, and_true, true_and, ite_true, ite_false, reduceCtorEq, rn_methM, rn_methM0, isTM_eq, rn_mk, rn_st, mk_own, st_own, ty_own, ex_app, ex_ext, ex_extT, ex_rev, ex_pop, rn_storeM, rn_lc, rn_lc2, rn_turn, rn_turn1, rn_frz, List.isEmpty_nil]
    refine sortedB_fd fun fd' l' s' => q fd' (by omega) fun s => ?_
    rw [s', w.set]
    simp
  · obtain ⟨rs', ⟨k, a, c'⟩, rfl⟩ := snoc_of rs he
    obtain ⟨o1, o2, o3⟩ := w.ok _ (List.mem_append_right _ (List.mem_singleton.mpr rfl))
    dsimp only at o1 o2 o3
    cases c' with
    | go s =>
      obtain ⟨w1, w2⟩ := way_go w
      simp only [List.map_append, List.map_cons, List.map_nil, ndE, Cd.toD]
      simp -implicitDefEqProofs only [rn_bind, rn_pure, rn_no, rn_need, rn_opt1, rn_ite, rn_var, rn_put, rn_useD, rn_useN, rn_useO, rn_chkD, rn_chkN, rn_chkO, rn_call, rn_seq, rn_guard, rn_forIn, rn_for0, rn_setD, rn_setN, rn_setO, binM, binMO, unM, cmpT, testM, andT, orT, notT, ifM, asgM, retM, exprM, kM, consA, nilA, tupM, lstM, useAll, chkAll, slM, partM, DL.andM, DL.orM, DL.notM, negM, asgG, gN, gT, gsC, gsN, seqI, frzM, asgTM, dnewM, par2M, hold_d, hold_n, hold_o, d_d, d_n, d_o, out_d, out_n, out_o, fo_next, fo_ret, isBl_b, isInt_i, tr_i, tr_b, tr_n, tr_l, tr_t, it_l, it_r, it_t, li_l, li_r, op_add_i, op_add_l, op_add_t, op_sub_i, op_mul_i, op_mod_i, op_div_i, op_pow_i, op_lt_i, op_le_i, op_gt_i, op_ge_i, op_int_i, op_abs_i, op_len_l, op_len_t, op_len_r, op_tup_l, op_tup_t, op_lst_l, op_lst_t, op_max_i, op_eq_i, eq_go_go, eq_get_get, eq_go_get, eq_get_go, Bool.bne_false, Bool.bne_true, Bool.not_true, Bool.not_false, op_sl_l, op_sl_r, op_sl_t, op_ix_t0, op_ix_t1, op_ix_t2, op_ix_l0, List.getElem?_cons_zero, List.getElem?_cons_succ, List.set_cons_zero, List.set_cons_succ, List.map_cons, List.map_nil, List.length_cons, List.length_nil, List.cons_append, List.nil_append, if_true, if_false, Bool.false_eq_true, decide_eq_true_eq, and_true, true_and, ite_true, ite_false, reduceCtorEq, rn_methM, rn_methM0, isTM_eq, rn_mk, rn_st, mk_own, st_own, ty_own, ex_app, ex_ext, ex_extT, ex_rev, ex_pop, rn_storeM, rn_lc, rn_lc2, rn_turn, rn_turn1, rn_frz, emp_snoc, ex_pop]
      refine ⟨small_le (by decide), small_lt (by simp; omega), m - 1, by omega, fd ++ [(a, s)], rs', s4, .dat (.tup [.str "go", .int s]), .dat (tI a), w2, ?_⟩
      rw [List.map_append]; rfl
    | get u ds =>
      cases k with
      | zero => exact o1.elim
      | succ k =>
        obtain ⟨l, h0, hl, hm, hk⟩ := lots_step f o1
        obtain ⟨w1, w2⟩ := way_get f hl w
        simp only [List.map_append, List.map_cons, List.map_nil, ndE, Cd.toD]
        simp -implicitDefEqProofs only [rn_bind, rn_pure, rn_no, rn_need, rn_opt1, rn_ite, rn_var, rn_put, rn_useD, rn_useN, rn_useO, rn_chkD, rn_chkN, rn_chkO, rn_call, rn_seq, rn_guard, rn_forIn, rn_for0, rn_setD, rn_setN, rn_setO, binM, binMO, unM, cmpT, testM, andT, orT, notT, ifM, asgM, retM, exprM, kM, consA, nilA, tupM, lstM, useAll, chkAll, slM, partM, DL.andM, DL.orM, DL.notM, negM, asgG, gN, gT, gsC, gsN, seqI, frzM, asgTM, dnewM, par2M, hold_d, hold_n, hold_o, d_d, d_n, d_o, out_d, out_n, out_o, fo_next, fo_ret, isBl_b, isInt_i, tr_i, tr_b, tr_n, tr_l, tr_t, it_l, it_r, it_t, li_l, li_r, op_add_i, op_add_l, op_add_t, op_sub_i, op_mul_i, op_mod_i, op_div_i, op_pow_i, op_lt_i, op_le_i, op_gt_i, op_ge_i, op_int_i, op_abs_i, op_len_l, op_len_t, op_len_r, op_tup_l, op_tup_t, op_lst_l, op_lst_t, op_max_i, op_eq_i, eq_go_go, eq_get_get, eq_go_get, eq_get_go, Bool.bne_false, Bool.bne_true, Bool.not_true, Bool.not_false, op_sl_l, op_sl_r, op_sl_t, op_ix_t0, op_ix_t1, op_ix_t2, op_ix_l0, List.getElem?_cons_zero, List.getElem?_cons_succ, List.set_cons_zero, List.set_cons_succ, List.map_cons, List.map_nil, List.length_cons, List.length_nil, List.cons_append, List.nil_append, if_true, if_false, Bool.false_eq_true, decide_eq_true_eq, and_true, true_and, ite_true, ite_false, reduceCtorEq, rn_methM, rn_methM0, isTM_eq, rn_mk, rn_st, mk_own, st_own, ty_own, ex_app, ex_ext, ex_extT, ex_rev, ex_pop, rn_storeM, rn_lc, rn_lc2, rn_turn, rn_turn1, rn_frz, emp_snoc, ex_pop, lot_at h0 hl, it_tI]
        have ll := f.few l hm
        refine for_inv (I := fun xs S => ∃ l1 l2 s4, l = l1 ++ l2 ∧ xs = l2.map D.int ∧ S = ⟨[.dat c.toD, .dat (lotsD lots), .own (.lst (fd.map fdD)), .own (.lst ((rs' ++ kids k a ds l1).map ndE)), s4, .dat (.tup [.str "get", .int u, .tup (Cd.toDs ds)]), .dat (tI a)], o⟩) ⟨[], l, s4, rfl, rfl, by simp [kids]⟩ ?_ ?_
        · rintro d xs S ⟨l1, l2, s6, e1, e2, rfl⟩
          cases l2 with
          | nil => cases e2
          | cons x l2 =>
            rw [List.map_cons] at e2
            cases e2
            obtain ⟨j, c2, rfl, e3, h3⟩ := hk x (by rw [e1]; simp)
            have hl1 : l1.length ≤ 5 := by rw [e1] at ll; simp at ll; omega
            have hkl := kids_len k a ds l1
            simp only [List.length_append, List.length_cons, List.length_nil] at hlen
            simp -implicitDefEqProofs only [rn_bind, rn_pure, rn_no, rn_need, rn_opt1, rn_ite, rn_var, rn_put, rn_useD, rn_useN, rn_useO, rn_chkD, rn_chkN, rn_chkO, rn_call, rn_seq, rn_guard, rn_forIn, rn_for0, rn_setD, rn_setN, rn_setO, binM, binMO, unM, cmpT, testM, andT, orT, notT, ifM, asgM, retM, exprM, kM, consA, nilA, tupM, lstM, useAll, chkAll, slM, partM, DL.andM, DL.orM, DL.notM, negM, asgG, gN, gT, gsC, gsN, seqI, frzM, asgTM, dnewM, par2M, hold_d, hold_n, hold_o, d_d, d_n, d_o, out_d, out_n, out_o, fo_next, fo_ret, isBl_b, isInt_i, tr_i, tr_b, tr_n, tr_l, tr_t, it_l, it_r, it_t, li_l, li_r, op_add_i, op_add_l, op_add_t, op_sub_i, op_mul_i, op_mod_i, op_div_i, op_pow_i, op_lt_i, op_le_i, op_gt_i, op_ge_i, op_int_i, op_abs_i, op_len_l, op_len_t, op_len_r, op_tup_l, op_tup_t, op_lst_l, op_lst_t, op_max_i, op_eq_i, eq_go_go, eq_get_get, eq_go_get, eq_get_go, Bool.bne_false, Bool.bne_true, Bool.not_true, Bool.not_false, op_sl_l, op_sl_r, op_sl_t, op_ix_t0, op_ix_t1, op_ix_t2, op_ix_l0, List.getElem?_cons_zero, List.getElem?_cons_succ, List.set_cons_zero, List.set_cons_succ, List.map_cons, List.map_nil, List.length_cons, List.length_nil, List.cons_append, List.nil_append, if_true, if_false, Bool.false_eq_true, decide_eq_true_eq, and_true, true_and, ite_true, ite_false, reduceCtorEq, rn_methM, rn_methM0, isTM_eq, rn_mk, rn_st, mk_own, st_own, ty_own, ex_app, ex_ext, ex_extT, ex_rev, ex_pop, rn_storeM, rn_lc, rn_lc2, rn_turn, rn_turn1, rn_frz, add_tI, ix_ds e3]
            refine ⟨small_le (by decide), small_le (by omega), small_le (by decide), small_lt (by simp; omega), l1 ++ [(j : Int)], l2, .dat (.int j), by rw [e1]; simp, rfl, ?_⟩
            simp only [kids_snoc e3, List.map_append, List.map_cons, List.map_nil, ndE, List.append_assoc]
        · rintro S ⟨l1, l2, s6, e1, e2, rfl⟩
          have : l2 = [] := by
            cases l2 with
            | nil => rfl
            | cons x r => cases e2
          subst this
          rw [List.append_nil] at e1
          subst e1
          exact ⟨m - 1, w1, fd, _, _, _, _, w2, rfl⟩
/-! ### results_of -/
theorem mem_ints {s : Int} {ks : List Int} : D.int s ∈ ks.map D.int ↔ s ∈ ks := by simp
def putI (ks : List Int) (s : Int) : List Int := if s ∈ ks then ks else ks ++ [s]
theorem put_ks (ks : List Int) (s : Int) : D.putK (ks.map D.int) (.int s) = (putI ks s).map D.int := by
  unfold D.putK putI
  by_cases h : s ∈ ks
  · rw [if_pos (mem_ints.mpr h), if_pos h]
  · rw [if_neg (fun q => h (mem_ints.mp q)), if_neg h]; simp
theorem put_nd {ks : List Int} (h : ks.Nodup) (s : Int) : (putI ks s).Nodup := by
  unfold putI
  split
  · exact h
  · rename_i n
    rw [List.nodup_append]
    exact ⟨h, by simp, fun a ha b hb q => n (by simp at hb; rw [← hb, ← q]; exact ha)⟩
theorem put_mem (ks : List Int) (s t : Int) : t ∈ putI ks s ↔ t ∈ ks ∨ t = s := by
  unfold putI
  split
  · rename_i h
    exact ⟨.inl, fun q => q.elim id fun e => e ▸ h⟩
  · simp
/-- d[s] = True on a dict of whole numbers -/
theorem ex_put {ks : List Int} {vs : List D} {s : Int} {x : D} (hl : ks.length < 100000) {P : D → Prop} (h : ∀ vs', P (.dct false ((putI ks s).map .int) vs')) : ∃ d', D.store (.dct false (ks.map .int) vs) (.int s) x = some d' ∧ P d' := by
  refine ⟨_, ?_, h (D.putV (ks.map .int) vs (.int s) x)⟩
  unfold D.store
  have c : ((D.lookKey false (ks.map .int) vs (.int s)).isSome && decide ((ks.map D.int).length < sizeLine)) = true := by
    rw [Bool.and_eq_true]
    exact ⟨rfl, decide_eq_true (by rw [List.length_map]; exact small_lt hl)⟩
  simp only [c, if_true, put_ks]
theorem sortedB_dct {Q : Res → Sx → Prop} {S : Sx} {ks : List Int} {vs : List D} (nd : ks.Nodup) (hl : ks.length < 64) (q : Q (.new (lI (sortS ks))) S) : Rn (opSortedB (.dct false (ks.map .int) vs)) S Q := by
  show Rn (opSortedD (.dct false (ks.map .int) vs)) S Q
  show Rn (M.opt (D.ints? (ks.map .int)) fun ns => M.need (decide (ns.length < 64) && decide ns.Nodup) (pure (.new (.lst ((sortS ns).map .int))))) S Q
  rw [ints?_map, rn_opt1, rn_need]
  exact ⟨by rw [Bool.and_eq_true]; exact ⟨decide_eq_true hl, decide_eq_true nd⟩, q⟩
theorem nodup_len {ks : List Int} {b : Nat} (nd : ks.Nodup) (hb : ∀ x ∈ ks, 0 ≤ x ∧ x < (b : Int)) : ks.length ≤ b := by
  have h1 := up_len0 (sortS_up ks) (b := b) fun x hx => hb x ((sortS_mem x ks).mp hx)
  have h2 := DL.nodup_len nd (up_nodup (sortS_up ks)) fun k => (sortS_mem k ks).symm
  omega
theorem results_ok {many : List Int} {lots : List (List Int)} (f : LotsOk many lots) {n : Nat} {c : Cd} {o : List D} (ho : (o.all fun o => D.imms o.parts) = true) (h : c.Ok many n) (hn : n ≤ 4) {Q : Res → List D → Prop}
    (q : Q (.new (lI (resN lots n c))) o) : Dr d_results_of [c.toD, lotsD lots] o Q := by
  unfold d_results_of b_results_of
  rw [dr_run]
  simp -implicitDefEqProofs only [rn_bind, rn_pure, rn_no, rn_need, rn_opt1, rn_ite, rn_var, rn_put, rn_useD, rn_useN, rn_useO, rn_chkD, rn_chkN, rn_chkO, rn_call, rn_seq, rn_guard, rn_forIn, rn_for0, rn_setD, rn_setN, rn_setO, binM, binMO, unM, cmpT, testM, andT, orT, notT, ifM, asgM, retM, exprM, kM, consA, nilA, tupM, lstM, useAll, chkAll, slM, partM, DL.andM, DL.orM, DL.notM, negM, asgG, gN, gT, gsC, gsN, seqI, frzM, asgTM, dnewM, par2M, hold_d, hold_n, hold_o, d_d, d_n, d_o, out_d, out_n, out_o, fo_next, fo_ret, isBl_b, isInt_i, tr_i, tr_b, tr_n, tr_l, tr_t, it_l, it_r, it_t, li_l, li_r, op_add_i, op_add_l, op_add_t, op_sub_i, op_mul_i, op_mod_i, op_div_i, op_pow_i, op_lt_i, op_le_i, op_gt_i, op_ge_i, op_int_i, op_abs_i, op_len_l, op_len_t, op_len_r, op_tup_l, op_tup_t, op_lst_l, op_lst_t, op_max_i, op_eq_i, eq_go_go, eq_get_get, eq_go_get, eq_get_go, Bool.bne_false, Bool.bne_true, Bool.not_true, Bool.not_false, op_sl_l, op_sl_r, op_sl_t, op_ix_t0, op_ix_t1, op_ix_t2, op_ix_l0, List.getElem?_cons_zero, List.getElem?_cons_succ, List.set_cons_zero, List.set_cons_succ, List.map_cons, List.map_nil, List.length_cons, List.length_nil, List.cons_append, List.nil_append, if_true, if_false, Bool.false_eq_true, decide_eq_true_eq, and_true, true_and, ite_true, ite_false, reduceCtorEq, rn_methM, rn_methM0, isTM_eq, rn_mk, rn_st, mk_own, st_own, ty_own, ex_app, ex_ext, ex_extT, ex_rev, ex_pop, rn_storeM, rn_lc, rn_lc2, rn_turn, rn_turn1, rn_frz, List.replicate]
  refine steps_ok f h hn fun fd hl hs => ?_
  rw [if_safe (show (Res.new (.lst (fd.map fdD))).safe = true from imms_fd fd) ho]
  simp -implicitDefEqProofs only [rn_bind, rn_pure, rn_no, rn_need, rn_opt1, rn_ite, rn_var, rn_put, rn_useD, rn_useN, rn_useO, rn_chkD, rn_chkN, rn_chkO, rn_call, rn_seq, rn_guard, rn_forIn, rn_for0, rn_setD, rn_setN, rn_setO, binM, binMO, unM, cmpT, testM, andT, orT, notT, ifM, asgM, retM, exprM, kM, consA, nilA, tupM, lstM, useAll, chkAll, slM, partM, DL.andM, DL.orM, DL.notM, negM, asgG, gN, gT, gsC, gsN, seqI, frzM, asgTM, dnewM, par2M, hold_d, hold_n, hold_o, d_d, d_n, d_o, out_d, out_n, out_o, fo_next, fo_ret, isBl_b, isInt_i, tr_i, tr_b, tr_n, tr_l, tr_t, it_l, it_r, it_t, li_l, li_r, op_add_i, op_add_l, op_add_t, op_sub_i, op_mul_i, op_mod_i, op_div_i, op_pow_i, op_lt_i, op_le_i, op_gt_i, op_ge_i, op_int_i, op_abs_i, op_len_l, op_len_t, op_len_r, op_tup_l, op_tup_t, op_lst_l, op_lst_t, op_max_i, op_eq_i, eq_go_go, eq_get_get, eq_go_get, eq_get_go, Bool.bne_false, Bool.bne_true, Bool.not_true, Bool.not_false, op_sl_l, op_sl_r, op_sl_t, op_ix_t0, op_ix_t1, op_ix_t2, op_ix_l0, List.getElem?_cons_zero, List.getElem?_cons_succ, List.set_cons_zero, List.set_cons_succ, List.map_cons, List.map_nil, List.length_cons, List.length_nil, List.cons_append, List.nil_append, if_true, if_false, Bool.false_eq_true, decide_eq_true_eq, and_true, true_and, ite_true, ite_false, reduceCtorEq, rn_methM, rn_methM0, isTM_eq, rn_mk, rn_st, mk_own, st_own, ty_own, ex_app, ex_ext, ex_extT, ex_rev, ex_pop, rn_storeM, rn_lc, rn_lc2, rn_turn, rn_turn1, rn_frz]
  refine for_inv (I := fun xs S => ∃ f1 f2 ks vs s3 s4, fd = f1 ++ f2 ∧ xs = f2.map fdD ∧ ks.Nodup ∧ (∀ s, s ∈ ks ↔ s ∈ f1.map (·.2)) ∧ S = ⟨[.dat c.toD, .dat (lotsD lots), .own (.dct false (ks.map .int) vs), s3, s4], o⟩) ⟨[], fd, [], [], _, _, rfl, rfl, List.nodup_nil, fun s => by simp, rfl⟩ ?_ ?_
  · rintro d xs S ⟨f1, f2, ks, vs, s3, s4, e1, e2, nd, hk, rfl⟩
    cases f2 with
    | nil => cases e2
    | cons p f2 =>
      rw [List.map_cons] at e2
      cases e2
      have kl : ks.length ≤ 4 := nodup_len nd fun x hx => st_fit f n c h x ((hs x).mp (by rw [e1, List.map_append]; exact List.mem_append_left _ ((hk x).mp hx)))
      unfold fdD
      simp -implicitDefEqProofs only [rn_bind, rn_pure, rn_no, rn_need, rn_opt1, rn_ite, rn_var, rn_put, rn_useD, rn_useN, rn_useO, rn_chkD, rn_chkN, rn_chkO, rn_call, rn_seq, rn_guard, rn_forIn, rn_for0, rn_setD, rn_setN, rn_setO, binM, binMO, unM, cmpT, testM, andT, orT, notT, ifM, asgM, retM, exprM, kM, consA, nilA, tupM, lstM, useAll, chkAll, slM, partM, DL.andM, DL.orM, DL.notM, negM, asgG, gN, gT, gsC, gsN, seqI, frzM, asgTM, dnewM, par2M, hold_d, hold_n, hold_o, d_d, d_n, d_o, out_d, out_n, out_o, fo_next, fo_ret, isBl_b, isInt_i, tr_i, tr_b, tr_n, tr_l, tr_t, it_l, it_r, it_t, li_l, li_r, op_add_i, op_add_l, op_add_t, op_sub_i, op_mul_i, op_mod_i, op_div_i, op_pow_i, op_lt_i, op_le_i, op_gt_i, op_ge_i, op_int_i, op_abs_i, op_len_l, op_len_t, op_len_r, op_tup_l, op_tup_t, op_lst_l, op_lst_t, op_max_i, op_eq_i, eq_go_go, eq_get_get, eq_go_get, eq_get_go, Bool.bne_false, Bool.bne_true, Bool.not_true, Bool.not_false, op_sl_l, op_sl_r, op_sl_t, op_ix_t0, op_ix_t1, op_ix_t2, op_ix_l0, List.getElem?_cons_zero, List.getElem?_cons_succ, List.set_cons_zero, List.set_cons_succ, List.map_cons, List.map_nil, List.length_cons, List.length_nil, List.cons_append, List.nil_append, if_true, if_false, Bool.false_eq_true, decide_eq_true_eq, and_true, true_and, ite_true, ite_false, reduceCtorEq, rn_methM, rn_methM0, isTM_eq, rn_mk, rn_st, mk_own, st_own, ty_own, ex_app, ex_ext, ex_extT, ex_rev, ex_pop, rn_storeM, rn_lc, rn_lc2, rn_turn, rn_turn1, rn_frz]
      refine ⟨rfl, ex_put (by omega) fun vs' => ⟨f1 ++ [p], f2, putI ks p.2, vs', _, _, by rw [e1]; simp, rfl, put_nd nd _, fun s => ?_, rfl⟩⟩
      rw [put_mem, hk, List.map_append]
      simp
  · rintro S ⟨f1, f2, ks, vs, s3, s4, e1, e2, nd, hk, rfl⟩
    have : f2 = [] := by
      cases f2 with
      | nil => rfl
      | cons x r => cases e2
    subst this
    rw [List.append_nil] at e1
    subst e1
    simp -implicitDefEqProofs only [rn_bind, rn_pure, rn_no, rn_need, rn_opt1, rn_ite, rn_var, rn_put, rn_useD, rn_useN, rn_useO, rn_chkD, rn_chkN, rn_chkO, rn_call, rn_seq, rn_guard, rn_forIn, rn_for0, rn_setD, rn_setN, rn_setO, binM, binMO, unM, cmpT, testM, andT, orT, notT, ifM, asgM, retM, exprM, kM, consA, nilA, tupM, lstM, useAll, chkAll, slM, partM, DL.andM, DL.orM, DL.notM, negM, asgG, gN, gT, gsC, gsN, seqI, frzM, asgTM, dnewM, par2M, hold_d, hold_n, hold_o, d_d, d_n, d_o, out_d, out_n, out_o, fo_next, fo_ret, isBl_b, isInt_i, tr_i, tr_b, tr_n, tr_l, tr_t, it_l, it_r, it_t, li_l, li_r, op_add_i, op_add_l, op_add_t, op_sub_i, op_mul_i, op_mod_i, op_div_i, op_pow_i, op_lt_i, op_le_i, op_gt_i, op_ge_i, op_int_i, op_abs_i, op_len_l, op_len_t, op_len_r, op_tup_l, op_tup_t, op_lst_l, op_lst_t, op_max_i, op_eq_i, eq_go_go, eq_get_get, eq_go_get, eq_get_go, Bool.bne_false, Bool.bne_true, Bool.not_true, Bool.not_false, op_sl_l, op_sl_r, op_sl_t, op_ix_t0, op_ix_t1, op_ix_t2, op_ix_l0, List.getElem?_cons_zero, List.getElem?_cons_succ, List.set_cons_zero, List.set_cons_succ, List.map_cons, List.map_nil, List.length_cons, List.length_nil, List.cons_append, List.nil_append, if_true, if_false, Bool.false_eq_true, decide_eq_true_eq, and_true, true_and, ite_true, ite_false, reduceCtorEq, rn_methM, rn_methM0, isTM_eq, rn_mk, rn_st, mk_own, st_own, ty_own, ex_app, ex_ext, ex_extT, ex_rev, ex_pop, rn_storeM, rn_lc, rn_lc2, rn_turn, rn_turn1, rn_frz]
    have hk' : ∀ s, s ∈ ks ↔ s ∈ stN lots n c := fun s => (hk s).trans (hs s)
    have kl : ks.length ≤ 4 := nodup_len nd fun x hx => st_fit f n c h x ((hk' x).mp hx)
    refine sortedB_dct nd (by omega) ?_
    simp -implicitDefEqProofs only [rn_bind, rn_pure, rn_no, rn_need, rn_opt1, rn_ite, rn_var, rn_put, rn_useD, rn_useN, rn_useO, rn_chkD, rn_chkN, rn_chkO, rn_call, rn_seq, rn_guard, rn_forIn, rn_for0, rn_setD, rn_setN, rn_setO, binM, binMO, unM, cmpT, testM, andT, orT, notT, ifM, asgM, retM, exprM, kM, consA, nilA, tupM, lstM, useAll, chkAll, slM, partM, DL.andM, DL.orM, DL.notM, negM, asgG, gN, gT, gsC, gsN, seqI, frzM, asgTM, dnewM, par2M, hold_d, hold_n, hold_o, d_d, d_n, d_o, out_d, out_n, out_o, fo_next, fo_ret, isBl_b, isInt_i, tr_i, tr_b, tr_n, tr_l, tr_t, it_l, it_r, it_t, li_l, li_r, op_add_i, op_add_l, op_add_t, op_sub_i, op_mul_i, op_mod_i, op_div_i, op_pow_i, op_lt_i, op_le_i, op_gt_i, op_ge_i, op_int_i, op_abs_i, op_len_l, op_len_t, op_len_r, op_tup_l, op_tup_t, op_lst_l, op_lst_t, op_max_i, op_eq_i, eq_go_go, eq_get_get, eq_go_get, eq_get_go, Bool.bne_false, Bool.bne_true, Bool.not_true, Bool.not_false, op_sl_l, op_sl_r, op_sl_t, op_ix_t0, op_ix_t1, op_ix_t2, op_ix_l0, List.getElem?_cons_zero, List.getElem?_cons_succ, List.set_cons_zero, List.set_cons_succ, List.map_cons, List.map_nil, List.length_cons, List.length_nil, List.cons_append, List.nil_append, if_true, if_false, Bool.false_eq_true, decide_eq_true_eq, and_true, true_and, ite_true, ite_false, reduceCtorEq, rn_methM, rn_methM0, isTM_eq, rn_mk, rn_st, mk_own, st_own, ty_own, ex_app, ex_ext, ex_extT, ex_rev, ex_pop, rn_storeM, rn_lc, rn_lc2, rn_turn, rn_turn1, rn_frz]
    rw [sortS_eq hk']
    exact q
end LW
end
section
set_option maxRecDepth 100000
namespace LW
open PySem L2 DL
/-! ## the nodes of a code, its workers -/
mutual
def Cd.wk : Cd → List Int
  | .go _ => []
  | .get w ds => w :: Cd.wks ds
def Cd.wks : List Cd → List Int
  | [] => []
  | c :: r => c.wk ++ Cd.wks r
end
mutual
def Cd.sz : Cd → Nat
  | .go _ => 1
  | .get _ ds => 1 + Cd.szs ds
def Cd.szs : List Cd → Nat
  | [] => 0
  | c :: r => c.sz + Cd.szs r
end
def Cd.top : Cd → Option Int
  | .go _ => none
  | .get w _ => some w
theorem sz_pos : ∀ c : Cd, 1 ≤ c.sz
  | .go _ => by simp [Cd.sz]
  | .get _ _ => by simp [Cd.sz]
theorem szs_app : ∀ a b : List Cd, Cd.szs (a ++ b) = Cd.szs a + Cd.szs b
  | [], b => by simp [Cd.szs]
  | c :: a, b => by simp only [List.cons_append, Cd.szs, szs_app a b]; omega
theorem szs_len : ∀ a : List Cd, a.length ≤ Cd.szs a
  | [] => by simp
  | c :: r => by have := szs_len r; have := sz_pos c; simp only [Cd.szs, List.length_cons]; omega
theorem mem_wks {w : Int} : ∀ {ds : List Cd}, w ∈ Cd.wks ds ↔ ∃ d ∈ ds, w ∈ d.wk
  | [] => by simp [Cd.wks]
  | c :: r => by simp only [Cd.wks, List.mem_append, mem_wks (ds := r), List.mem_cons, or_and_right, exists_or, exists_eq_left]
theorem wks_app : ∀ a b : List Cd, Cd.wks (a ++ b) = Cd.wks a ++ Cd.wks b
  | [], b => rfl
  | c :: a, b => by simp only [List.cons_append, Cd.wks, wks_app a b, List.append_assoc]
theorem top_snoc {fd : List Cd} {d : Cd} {w : Int} : (∃ e ∈ fd ++ [d], e.top = some w) ↔ (∃ e ∈ fd, e.top = some w) ∨ d.top = some w := by
  simp only [List.mem_append, List.mem_singleton, or_and_right, exists_or, exists_eq_left]
/-- the workers: few, each with few letters -/
structure ManyOk (many : List Int) : Prop where
  len : many.length ≤ 5
  fit : ∀ m ∈ many, 1 ≤ m ∧ m ≤ 4
mutual
theorem sz_le {many : List Int} (hm : ManyOk many) : ∀ (n : Nat) (c : Cd), c.Ok many n → c.sz ≤ 5 ^ n
  | n, .go s, _ => by simp only [Cd.sz]; exact Nat.pow_pos (by decide)
  | 0, .get _ _, h => h.elim
  | n + 1, .get w ds, h => by
    have h1 := szs_le hm n ds h.2.2
    have h2 := hm.fit _ (List.mem_of_getElem? h.2.1)
    have h3 : ds.length ≤ 4 := by omega
    have h4 : ds.length * 5 ^ n ≤ 4 * 5 ^ n := Nat.mul_le_mul_right _ h3
    have p : 0 < 5 ^ n := Nat.pow_pos (by decide)
    simp only [Cd.sz]
    rw [Nat.pow_succ]
    omega
theorem szs_le {many : List Int} (hm : ManyOk many) : ∀ (n : Nat) (ds : List Cd), Cd.Oks many n ds → Cd.szs ds ≤ ds.length * 5 ^ n
  | n, [], _ => by simp [Cd.szs]
  | n, c :: r, h => by
    have h1 := sz_le hm n c h.1
    have h2 := szs_le hm n r h.2
    simp only [Cd.szs, List.length_cons]
    rw [Nat.succ_mul]; omega
end
mutual
theorem wk_fit {many : List Int} : ∀ (n : Nat) (c : Cd), c.Ok many n → ∀ w ∈ c.wk, 0 ≤ w ∧ w < (many.length : Int)
  | n, .go s, _, w, hw => by simp [Cd.wk] at hw
  | 0, .get _ _, h, _, _ => h.elim
  | n + 1, .get u ds, h, w, hw => by
    simp only [Cd.wk, List.mem_cons] at hw
    rcases hw with rfl | hw
    · have := (List.getElem?_eq_some_iff.mp h.2.1).1
      exact ⟨h.1, by have := h.1; omega⟩
    · exact wks_fit n ds h.2.2 w hw
theorem wks_fit {many : List Int} : ∀ (n : Nat) (ds : List Cd), Cd.Oks many n ds → ∀ w ∈ Cd.wks ds, 0 ≤ w ∧ w < (many.length : Int)
  | n, [], _, w, hw => by simp [Cd.wks] at hw
  | n, c :: r, h, w, hw => by
    simp only [Cd.wks, List.mem_append] at hw
    exact hw.elim (wk_fit n c h.1 w) (wks_fit n r h.2 w)
end
theorem sz_le4 {many : List Int} (hm : ManyOk many) {n : Nat} {c : Cd} (h : c.Ok many n) (hn : n ≤ 4) : c.sz ≤ 625 := Nat.le_trans (sz_le hm n c h) (Nat.le_trans (Nat.pow_le_pow_right (by decide) hn) (by decide))
theorem cds_imm (ds : List Cd) : D.imms (ds.map Cd.toD) = true := by rw [← toDs_map]; exact Cd.imms ds
/-- inner_codes: all nodes -/
theorem inner_ok {many : List Int} (hm : ManyOk many) {n : Nat} {c : Cd} {o : List D} (h : c.Ok many n) (hn : n ≤ 4) {Q : Res → List D → Prop}
    (q : ∀ fd : List Cd, fd.length ≤ 625 → (∀ w, w ∈ c.wk ↔ ∃ d ∈ fd, d.top = some w) → Q (.new (.lst (fd.map Cd.toD))) o) : Dr d_inner_codes [c.toD] o Q := by
  have cz := sz_le4 hm h hn
  unfold d_inner_codes b_inner_codes
  rw [dr_run]
  generalize hW : whileM _ _ whFuel = W
  simp -implicitDefEqProofs only [rn_bind, rn_pure, rn_no, rn_need, rn_opt1, rn_ite, rn_var, rn_put, rn_useD, rn_useN, rn_useO, rn_chkD, rn_chkN, rn_chkO, rn_call, rn_seq, rn_guard, rn_forIn, rn_for0, rn_setD, rn_setN, rn_setO, binM, binMO, unM, cmpT, testM, andT, orT, notT, ifM, asgM, retM, exprM, kM, consA, nilA, tupM, lstM, useAll, chkAll, slM, partM, DL.andM, DL.orM, DL.notM, negM, asgG, gN, gT, gsC, gsN, seqI, frzM, asgTM, dnewM, par2M, hold_d, hold_n, hold_o, d_d, d_n, d_o, out_d, out_n, out_o, fo_next, fo_ret, isBl_b, isInt_i, tr_i, tr_b, tr_n, tr_l, tr_t, it_l, it_r, it_t, li_l, li_r, op_add_i, op_add_l, op_add_t, op_sub_i, op_mul_i, op_mod_i, op_div_i, op_pow_i, op_lt_i, op_le_i, op_gt_i, op_ge_i, op_int_i, op_abs_i, op_len_l, op_len_t, op_len_r, op_tup_l, op_tup_t, op_lst_l, op_lst_t, op_max_i, op_eq_i, eq_go_go, eq_get_get, eq_go_get, eq_get_go, Bool.bne_false, Bool.bne_true, Bool.not_true, Bool.not_false, op_sl_l, op_sl_r, op_sl_t, op_ix_t0, op_ix_t1, op_ix_t2, op_ix_l0, List.getElem?_cons_zero, List.getElem?_cons_succ, List.set_cons_zero, List.set_cons_succ, List.map_cons, List.map_nil, List.length_cons, List.length_nil, List.cons_append, List.nil_append, if_true, if_false, Bool.false_eq_true, decide_eq_true_eq, and_true, true_and, ite_true, ite_false, reduceCtorEq, rn_methM, rn_methM0, isTM_eq, rn_mk, rn_st, mk_own, st_own, ty_own, ex_app, ex_ext, ex_extT, ex_rev, ex_pop, rn_storeM, rn_lc, rn_lc2, rn_turn, rn_turn1, rn_frz, List.replicate]
  refine ⟨small_le (by decide), small_le (by decide), ?_⟩
  rw [← hW]
  refine while_inv (I := fun m S => ∃ (fd rs : List Cd) (s3 : Slot), m = Cd.szs rs ∧ fd.length + m ≤ c.sz ∧ (∀ w, w ∈ c.wk ↔ (∃ d ∈ fd, d.top = some w) ∨ w ∈ Cd.wks rs) ∧ S = ⟨[.dat c.toD, .own (.lst (fd.map Cd.toD)), .own (.lst (rs.map Cd.toD)), s3], o⟩) (n := whFuel) (m := c.sz) (fuel_lt (by omega))
    ⟨[], [c], _, by simp [Cd.szs], by simp, fun w => by simp [Cd.wks], rfl⟩ ?_
  rintro m S ⟨fd, rs, s3, hm', hall, hw, rfl⟩
  by_cases he : rs = []
  · subst he
    simp -implicitDefEqProofs only [rn_bind, rn_pure, rn_no, rn_need, rn_opt1, rn_ite, rn_var, rn_put, rn_useD, rn_useN, rn_useO, rn_chkD, rn_chkN, rn_chkO, rn_call, rn_seq, rn_guard, rn_forIn, rn_for0, rn_setD, rn_setN, rn_setO, binM, binMO, unM, cmpT, testM, andT, orT, notT, ifM, asgM, retM, exprM, kM, consA, nilA, tupM, lstM, useAll, chkAll, slM, partM, DL.andM, DL.orM, DL.notM, negM, asgG, gN, gT, gsC, gsN, seqI, frzM, asgTM, dnewM, par2M, hold_d, hold_n, hold_o, d_d, d_n, d_o, out_d, out_n, out_o, fo_next, fo_ret, isBl_b, isInt_i, tr_i, tr_b, tr_n, tr_l, tr_t, it_l, it_r, it_t, li_l, li_r, op_add_i, op_add_l, op_add_t, op_sub_i, op_mul_i, op_mod_i, op_div_i, op_pow_i, op_lt_i, op_le_i, op_gt_i, op_ge_i, op_int_i, op_abs_i, op_len_l, op_len_t, op_len_r, op_tup_l, op_tup_t, op_lst_l, op_lst_t, op_max_i, op_eq_i, eq_go_go, eq_get_get, eq_go_get, eq_get_go, Bool.bne_false, Bool.bne_true, Bool.not_true, Bool.not_false, op_sl_l, op_sl_r, op_sl_t, op_ix_t0, op_ix_t1, op_ix_t2, op_ix_l0, List.getElem?_cons_zero, List.getElem?_cons_succ, List.set_cons_zero, List.set_cons_succ, List.map_cons, List.map_nil, List.length_cons, List.length_nil, List.cons_append, List.nil_append, if_true, if_false, Bool.false_eq_true, decide_eq_true_eq, and_true, true_and, ite_true, ite_false, reduceCtorEq, rn_methM, rn_methM0, isTM_eq, rn_mk, rn_st, mk_own, st_own, ty_own, ex_app, ex_ext, ex_extT, ex_rev, ex_pop, rn_storeM, rn_lc, rn_lc2, rn_turn, rn_turn1, rn_frz, List.isEmpty_nil]
    exact q fd (by omega) fun w => by rw [hw]; simp [Cd.wks]
  · obtain ⟨rs', c', rfl⟩ := snoc_of rs he
    rw [szs_app] at hm'
    have hl := szs_len rs'
    cases c' with
    | go s =>
      have e1 : Cd.szs [.go s] = 1 := rfl
      simp only [List.map_append, List.map_cons, List.map_nil, Cd.toD]
      simp -implicitDefEqProofs only [rn_bind, rn_pure, rn_no, rn_need, rn_opt1, rn_ite, rn_var, rn_put, rn_useD, rn_useN, rn_useO, rn_chkD, rn_chkN, rn_chkO, rn_call, rn_seq, rn_guard, rn_forIn, rn_for0, rn_setD, rn_setN, rn_setO, binM, binMO, unM, cmpT, testM, andT, orT, notT, ifM, asgM, retM, exprM, kM, consA, nilA, tupM, lstM, useAll, chkAll, slM, partM, DL.andM, DL.orM, DL.notM, negM, asgG, gN, gT, gsC, gsN, seqI, frzM, asgTM, dnewM, par2M, hold_d, hold_n, hold_o, d_d, d_n, d_o, out_d, out_n, out_o, fo_next, fo_ret, isBl_b, isInt_i, tr_i, tr_b, tr_n, tr_l, tr_t, it_l, it_r, it_t, li_l, li_r, op_add_i, op_add_l, op_add_t, op_sub_i, op_mul_i, op_mod_i, op_div_i, op_pow_i, op_lt_i, op_le_i, op_gt_i, op_ge_i, op_int_i, op_abs_i, op_len_l, op_len_t, op_len_r, op_tup_l, op_tup_t, op_lst_l, op_lst_t, op_max_i, op_eq_i, eq_go_go, eq_get_get, eq_go_get, eq_get_go, Bool.bne_false, Bool.bne_true, Bool.not_true, Bool.not_false, op_sl_l, op_sl_r, op_sl_t, op_ix_t0, op_ix_t1, op_ix_t2, op_ix_l0, List.getElem?_cons_zero, List.getElem?_cons_succ, List.set_cons_zero, List.set_cons_succ, List.map_cons, List.map_nil, List.length_cons, List.length_nil, List.cons_append, List.nil_append, if_true, if_false, Bool.false_eq_true, decide_eq_true_eq, and_true, true_and, ite_true, ite_false, reduceCtorEq, rn_methM, rn_methM0, isTM_eq, rn_mk, rn_st, mk_own, st_own, ty_own, ex_app, ex_ext, ex_extT, ex_rev, ex_pop, rn_storeM, rn_lc, rn_lc2, rn_turn, rn_turn1, rn_frz, emp_snoc, ex_pop]
      refine ⟨small_lt (by simp; omega), Cd.szs rs', by omega, fd ++ [.go s], rs', _, rfl, by simp; omega, fun w => ?_, by rw [List.map_append]; rfl⟩
      rw [hw, top_snoc, wks_app, List.mem_append, show Cd.wks [.go s] = [] from rfl, show (Cd.go s).top = none from rfl]
      simp
    | get u ds =>
      have e1 : Cd.szs [.get u ds] = 1 + Cd.szs ds := by simp [Cd.szs, Cd.sz]
      have hl2 := szs_len ds
      simp only [List.map_append, List.map_cons, List.map_nil, Cd.toD]
      simp -implicitDefEqProofs only [rn_bind, rn_pure, rn_no, rn_need, rn_opt1, rn_ite, rn_var, rn_put, rn_useD, rn_useN, rn_useO, rn_chkD, rn_chkN, rn_chkO, rn_call, rn_seq, rn_guard, rn_forIn, rn_for0, rn_setD, rn_setN, rn_setO, binM, binMO, unM, cmpT, testM, andT, orT, notT, ifM, asgM, retM, exprM, kM, consA, nilA, tupM, lstM, useAll, chkAll, slM, partM, DL.andM, DL.orM, DL.notM, negM, asgG, gN, gT, gsC, gsN, seqI, frzM, asgTM, dnewM, par2M, hold_d, hold_n, hold_o, d_d, d_n, d_o, out_d, out_n, out_o, fo_next, fo_ret, isBl_b, isInt_i, tr_i, tr_b, tr_n, tr_l, tr_t, it_l, it_r, it_t, li_l, li_r, op_add_i, op_add_l, op_add_t, op_sub_i, op_mul_i, op_mod_i, op_div_i, op_pow_i, op_lt_i, op_le_i, op_gt_i, op_ge_i, op_int_i, op_abs_i, op_len_l, op_len_t, op_len_r, op_tup_l, op_tup_t, op_lst_l, op_lst_t, op_max_i, op_eq_i, eq_go_go, eq_get_get, eq_go_get, eq_get_go, Bool.bne_false, Bool.bne_true, Bool.not_true, Bool.not_false, op_sl_l, op_sl_r, op_sl_t, op_ix_t0, op_ix_t1, op_ix_t2, op_ix_l0, List.getElem?_cons_zero, List.getElem?_cons_succ, List.set_cons_zero, List.set_cons_succ, List.map_cons, List.map_nil, List.length_cons, List.length_nil, List.cons_append, List.nil_append, if_true, if_false, Bool.false_eq_true, decide_eq_true_eq, and_true, true_and, ite_true, ite_false, reduceCtorEq, rn_methM, rn_methM0, isTM_eq, rn_mk, rn_st, mk_own, st_own, ty_own, ex_app, ex_ext, ex_extT, ex_rev, ex_pop, rn_storeM, rn_lc, rn_lc2, rn_turn, rn_turn1, rn_frz, emp_snoc, ex_pop, ex_extT]
      refine ⟨small_lt (by simp; omega), small_le (by rw [List.length_map, toDs_len]; omega), Cd.szs (rs' ++ ds), by rw [szs_app]; omega, fd ++ [.get u ds], rs' ++ ds, .dat (.tup [.str "get", .int u, .tup (Cd.toDs ds)]), rfl, by simp only [List.length_append, List.length_cons, List.length_nil, szs_app]; omega, fun w => ?_, by simp only [List.map_append, List.map_cons, List.map_nil, Cd.toD, toDs_map]⟩
      rw [hw, top_snoc, wks_app, wks_app, List.mem_append, List.mem_append, show Cd.wks [.get u ds] = u :: (Cd.wks ds ++ []) from rfl, List.append_nil, List.mem_cons, show (Cd.get u ds).top = some u from rfl, Option.some.injEq]
      constructor
      · rintro (h | h | rfl | h)
        · exact .inl (.inl h)
        · exact .inr (.inl h)
        · exact .inl (.inr rfl)
        · exact .inr (.inr h)
      · rintro ((h | h) | h | h)
        · exact .inl h
        · exact .inr (.inr (.inl h.symm))
        · exact .inr (.inl h)
        · exact .inr (.inr (.inr h))
theorem asked_ok {many : List Int} (hm : ManyOk many) {n : Nat} {c : Cd} {o : List D} (ho : (o.all fun o => D.imms o.parts) = true) (h : c.Ok many n) (hn : n ≤ 4) {Q : Res → List D → Prop} (q : Q (.new (lI (sortS c.wk))) o) : Dr d_asked_by [c.toD] o Q := by
  unfold d_asked_by b_asked_by
  rw [dr_run]
  simp -implicitDefEqProofs only [rn_bind, rn_pure, rn_no, rn_need, rn_opt1, rn_ite, rn_var, rn_put, rn_useD, rn_useN, rn_useO, rn_chkD, rn_chkN, rn_chkO, rn_call, rn_seq, rn_guard, rn_forIn, rn_for0, rn_setD, rn_setN, rn_setO, binM, binMO, unM, cmpT, testM, andT, orT, notT, ifM, asgM, retM, exprM, kM, consA, nilA, tupM, lstM, useAll, chkAll, slM, partM, DL.andM, DL.orM, DL.notM, negM, asgG, gN, gT, gsC, gsN, seqI, frzM, asgTM, dnewM, par2M, hold_d, hold_n, hold_o, d_d, d_n, d_o, out_d, out_n, out_o, fo_next, fo_ret, isBl_b, isInt_i, tr_i, tr_b, tr_n, tr_l, tr_t, it_l, it_r, it_t, li_l, li_r, op_add_i, op_add_l, op_add_t, op_sub_i, op_mul_i, op_mod_i, op_div_i, op_pow_i, op_lt_i, op_le_i, op_gt_i, op_ge_i, op_int_i, op_abs_i, op_len_l, op_len_t, op_len_r, op_tup_l, op_tup_t, op_lst_l, op_lst_t, op_max_i, op_eq_i, eq_go_go, eq_get_get, eq_go_get, eq_get_go, Bool.bne_false, Bool.bne_true, Bool.not_true, Bool.not_false, op_sl_l, op_sl_r, op_sl_t, op_ix_t0, op_ix_t1, op_ix_t2, op_ix_l0, List.getElem?_cons_zero, List.getElem?_cons_succ, List.set_cons_zero, List.set_cons_succ, List.map_cons, List.map_nil, List.length_cons, List.length_nil, List.cons_append, List.nil_append, if_true, if_false, Bool.false_eq_true, decide_eq_true_eq, and_true, true_and, ite_true, ite_false, reduceCtorEq, rn_methM, rn_methM0, isTM_eq, rn_mk, rn_st, mk_own, st_own, ty_own, ex_app, ex_ext, ex_extT, ex_rev, ex_pop, rn_storeM, rn_lc, rn_lc2, rn_turn, rn_turn1, rn_frz, List.replicate]
  refine inner_ok hm h hn fun fd hl hw => ?_
  rw [if_safe (show (Res.new (.lst (fd.map Cd.toD))).safe = true from cds_imm fd) ho]
  simp -implicitDefEqProofs only [rn_bind, rn_pure, rn_no, rn_need, rn_opt1, rn_ite, rn_var, rn_put, rn_useD, rn_useN, rn_useO, rn_chkD, rn_chkN, rn_chkO, rn_call, rn_seq, rn_guard, rn_forIn, rn_for0, rn_setD, rn_setN, rn_setO, binM, binMO, unM, cmpT, testM, andT, orT, notT, ifM, asgM, retM, exprM, kM, consA, nilA, tupM, lstM, useAll, chkAll, slM, partM, DL.andM, DL.orM, DL.notM, negM, asgG, gN, gT, gsC, gsN, seqI, frzM, asgTM, dnewM, par2M, hold_d, hold_n, hold_o, d_d, d_n, d_o, out_d, out_n, out_o, fo_next, fo_ret, isBl_b, isInt_i, tr_i, tr_b, tr_n, tr_l, tr_t, it_l, it_r, it_t, li_l, li_r, op_add_i, op_add_l, op_add_t, op_sub_i, op_mul_i, op_mod_i, op_div_i, op_pow_i, op_lt_i, op_le_i, op_gt_i, op_ge_i, op_int_i, op_abs_i, op_len_l, op_len_t, op_len_r, op_tup_l, op_tup_t, op_lst_l, op_lst_t, op_max_i, op_eq_i, eq_go_go, eq_get_get, eq_go_get, eq_get_go, Bool.bne_false, Bool.bne_true, Bool.not_true, Bool.not_false, op_sl_l, op_sl_r, op_sl_t, op_ix_t0, op_ix_t1, op_ix_t2, op_ix_l0, List.getElem?_cons_zero, List.getElem?_cons_succ, List.set_cons_zero, List.set_cons_succ, List.map_cons, List.map_nil, List.length_cons, List.length_nil, List.cons_append, List.nil_append, if_true, if_false, Bool.false_eq_true, decide_eq_true_eq, and_true, true_and, ite_true, ite_false, reduceCtorEq, rn_methM, rn_methM0, isTM_eq, rn_mk, rn_st, mk_own, st_own, ty_own, ex_app, ex_ext, ex_extT, ex_rev, ex_pop, rn_storeM, rn_lc, rn_lc2, rn_turn, rn_turn1, rn_frz]
  refine for_inv (I := fun xs S => ∃ f1 f2 ks vs s2, fd = f1 ++ f2 ∧ xs = f2.map Cd.toD ∧ ks.Nodup ∧ (∀ s, s ∈ ks ↔ ∃ d ∈ f1, d.top = some s) ∧ S = ⟨[.dat c.toD, .own (.dct false (ks.map .int) vs), s2], o⟩) ⟨[], fd, [], [], _, rfl, rfl, List.nodup_nil, fun s => by simp, rfl⟩ ?_ ?_
  · rintro d xs S ⟨f1, f2, ks, vs, s2, e1, e2, nd, hk, rfl⟩
    cases f2 with
    | nil => cases e2
    | cons p f2 =>
      rw [List.map_cons] at e2
      cases e2
      have kl : ks.length ≤ many.length := nodup_len nd fun x hx => wk_fit n c h x ((hw x).mpr (by
        obtain ⟨d, hd, e⟩ := (hk x).mp hx
        exact ⟨d, by rw [e1]; exact List.mem_append_left _ hd, e⟩))
      have m5 := hm.len
      cases p with
      | go s =>
        unfold Cd.toD
        simp -implicitDefEqProofs only [rn_bind, rn_pure, rn_no, rn_need, rn_opt1, rn_ite, rn_var, rn_put, rn_useD, rn_useN, rn_useO, rn_chkD, rn_chkN, rn_chkO, rn_call, rn_seq, rn_guard, rn_forIn, rn_for0, rn_setD, rn_setN, rn_setO, binM, binMO, unM, cmpT, testM, andT, orT, notT, ifM, asgM, retM, exprM, kM, consA, nilA, tupM, lstM, useAll, chkAll, slM, partM, DL.andM, DL.orM, DL.notM, negM, asgG, gN, gT, gsC, gsN, seqI, frzM, asgTM, dnewM, par2M, hold_d, hold_n, hold_o, d_d, d_n, d_o, out_d, out_n, out_o, fo_next, fo_ret, isBl_b, isInt_i, tr_i, tr_b, tr_n, tr_l, tr_t, it_l, it_r, it_t, li_l, li_r, op_add_i, op_add_l, op_add_t, op_sub_i, op_mul_i, op_mod_i, op_div_i, op_pow_i, op_lt_i, op_le_i, op_gt_i, op_ge_i, op_int_i, op_abs_i, op_len_l, op_len_t, op_len_r, op_tup_l, op_tup_t, op_lst_l, op_lst_t, op_max_i, op_eq_i, eq_go_go, eq_get_get, eq_go_get, eq_get_go, Bool.bne_false, Bool.bne_true, Bool.not_true, Bool.not_false, op_sl_l, op_sl_r, op_sl_t, op_ix_t0, op_ix_t1, op_ix_t2, op_ix_l0, List.getElem?_cons_zero, List.getElem?_cons_succ, List.set_cons_zero, List.set_cons_succ, List.map_cons, List.map_nil, List.length_cons, List.length_nil, List.cons_append, List.nil_append, if_true, if_false, Bool.false_eq_true, decide_eq_true_eq, and_true, true_and, ite_true, ite_false, reduceCtorEq, rn_methM, rn_methM0, isTM_eq, rn_mk, rn_st, mk_own, st_own, ty_own, ex_app, ex_ext, ex_extT, ex_rev, ex_pop, rn_storeM, rn_lc, rn_lc2, rn_turn, rn_turn1, rn_frz]
        refine ⟨f1 ++ [.go s], f2, ks, vs, _, by rw [e1]; simp, rfl, nd, fun t => ?_, rfl⟩
        rw [hk, top_snoc, show (Cd.go s).top = none from rfl]
        simp
      | get u ds =>
        unfold Cd.toD
        simp -implicitDefEqProofs only [rn_bind, rn_pure, rn_no, rn_need, rn_opt1, rn_ite, rn_var, rn_put, rn_useD, rn_useN, rn_useO, rn_chkD, rn_chkN, rn_chkO, rn_call, rn_seq, rn_guard, rn_forIn, rn_for0, rn_setD, rn_setN, rn_setO, binM, binMO, unM, cmpT, testM, andT, orT, notT, ifM, asgM, retM, exprM, kM, consA, nilA, tupM, lstM, useAll, chkAll, slM, partM, DL.andM, DL.orM, DL.notM, negM, asgG, gN, gT, gsC, gsN, seqI, frzM, asgTM, dnewM, par2M, hold_d, hold_n, hold_o, d_d, d_n, d_o, out_d, out_n, out_o, fo_next, fo_ret, isBl_b, isInt_i, tr_i, tr_b, tr_n, tr_l, tr_t, it_l, it_r, it_t, li_l, li_r, op_add_i, op_add_l, op_add_t, op_sub_i, op_mul_i, op_mod_i, op_div_i, op_pow_i, op_lt_i, op_le_i, op_gt_i, op_ge_i, op_int_i, op_abs_i, op_len_l, op_len_t, op_len_r, op_tup_l, op_tup_t, op_lst_l, op_lst_t, op_max_i, op_eq_i, eq_go_go, eq_get_get, eq_go_get, eq_get_go, Bool.bne_false, Bool.bne_true, Bool.not_true, Bool.not_false, op_sl_l, op_sl_r, op_sl_t, op_ix_t0, op_ix_t1, op_ix_t2, op_ix_l0, List.getElem?_cons_zero, List.getElem?_cons_succ, List.set_cons_zero, List.set_cons_succ, List.map_cons, List.map_nil, List.length_cons, List.length_nil, List.cons_append, List.nil_append, if_true, if_false, Bool.false_eq_true, decide_eq_true_eq, and_true, true_and, ite_true, ite_false, reduceCtorEq, rn_methM, rn_methM0, isTM_eq, rn_mk, rn_st, mk_own, st_own, ty_own, ex_app, ex_ext, ex_extT, ex_rev, ex_pop, rn_storeM, rn_lc, rn_lc2, rn_turn, rn_turn1, rn_frz]
        refine ⟨rfl, ex_put (by omega) fun vs' => ⟨f1 ++ [.get u ds], f2, putI ks u, vs', _, by rw [e1]; simp, rfl, put_nd nd _, fun t => ?_, rfl⟩⟩
        rw [put_mem, hk, top_snoc, show (Cd.get u ds).top = some u from rfl, Option.some.injEq]
        exact ⟨fun h => h.imp id Eq.symm, fun h => h.imp id Eq.symm⟩
  · rintro S ⟨f1, f2, ks, vs, s2, e1, e2, nd, hk, rfl⟩
    have : f2 = [] := by
      cases f2 with
      | nil => rfl
      | cons x r => cases e2
    subst this
    rw [List.append_nil] at e1
    subst e1
    simp -implicitDefEqProofs only [rn_bind, rn_pure, rn_no, rn_need, rn_opt1, rn_ite, rn_var, rn_put, rn_useD, rn_useN, rn_useO, rn_chkD, rn_chkN, rn_chkO, rn_call, rn_seq, rn_guard, rn_forIn, rn_for0, rn_setD, rn_setN, rn_setO, binM, binMO, unM, cmpT, testM, andT, orT, notT, ifM, asgM, retM, exprM, kM, consA, nilA, tupM, lstM, useAll, chkAll, slM, partM, DL.andM, DL.orM, DL.notM, negM, asgG, gN, gT, gsC, gsN, seqI, frzM, asgTM, dnewM, par2M, hold_d, hold_n, hold_o, d_d, d_n, d_o, out_d, out_n, out_o, fo_next, fo_ret, isBl_b, isInt_i, tr_i, tr_b, tr_n, tr_l, tr_t, it_l, it_r, it_t, li_l, li_r, op_add_i, op_add_l, op_add_t, op_sub_i, op_mul_i, op_mod_i, op_div_i, op_pow_i, op_lt_i, op_le_i, op_gt_i, op_ge_i, op_int_i, op_abs_i, op_len_l, op_len_t, op_len_r, op_tup_l, op_tup_t, op_lst_l, op_lst_t, op_max_i, op_eq_i, eq_go_go, eq_get_get, eq_go_get, eq_get_go, Bool.bne_false, Bool.bne_true, Bool.not_true, Bool.not_false, op_sl_l, op_sl_r, op_sl_t, op_ix_t0, op_ix_t1, op_ix_t2, op_ix_l0, List.getElem?_cons_zero, List.getElem?_cons_succ, List.set_cons_zero, List.set_cons_succ, List.map_cons, List.map_nil, List.length_cons, List.length_nil, List.cons_append, List.nil_append, if_true, if_false, Bool.false_eq_true, decide_eq_true_eq, and_true, true_and, ite_true, ite_false, reduceCtorEq, rn_methM, rn_methM0, isTM_eq, rn_mk, rn_st, mk_own, st_own, ty_own, ex_app, ex_ext, ex_extT, ex_rev, ex_pop, rn_storeM, rn_lc, rn_lc2, rn_turn, rn_turn1, rn_frz]
    have hk' : ∀ s, s ∈ ks ↔ s ∈ c.wk := fun s => (hk s).trans (hw s).symm
    have kl : ks.length ≤ many.length := nodup_len nd fun x hx => wk_fit n c h x ((hk' x).mp hx)
    have m5 := hm.len
    refine sortedB_dct nd (by omega) ?_
    simp -implicitDefEqProofs only [rn_bind, rn_pure, rn_no, rn_need, rn_opt1, rn_ite, rn_var, rn_put, rn_useD, rn_useN, rn_useO, rn_chkD, rn_chkN, rn_chkO, rn_call, rn_seq, rn_guard, rn_forIn, rn_for0, rn_setD, rn_setN, rn_setO, binM, binMO, unM, cmpT, testM, andT, orT, notT, ifM, asgM, retM, exprM, kM, consA, nilA, tupM, lstM, useAll, chkAll, slM, partM, DL.andM, DL.orM, DL.notM, negM, asgG, gN, gT, gsC, gsN, seqI, frzM, asgTM, dnewM, par2M, hold_d, hold_n, hold_o, d_d, d_n, d_o, out_d, out_n, out_o, fo_next, fo_ret, isBl_b, isInt_i, tr_i, tr_b, tr_n, tr_l, tr_t, it_l, it_r, it_t, li_l, li_r, op_add_i, op_add_l, op_add_t, op_sub_i, op_mul_i, op_mod_i, op_div_i, op_pow_i, op_lt_i, op_le_i, op_gt_i, op_ge_i, op_int_i, op_abs_i, op_len_l, op_len_t, op_len_r, op_tup_l, op_tup_t, op_lst_l, op_lst_t, op_max_i, op_eq_i, eq_go_go, eq_get_get, eq_go_get, eq_get_go, Bool.bne_false, Bool.bne_true, Bool.not_true, Bool.not_false, op_sl_l, op_sl_r, op_sl_t, op_ix_t0, op_ix_t1, op_ix_t2, op_ix_l0, List.getElem?_cons_zero, List.getElem?_cons_succ, List.set_cons_zero, List.set_cons_succ, List.map_cons, List.map_nil, List.length_cons, List.length_nil, List.cons_append, List.nil_append, if_true, if_false, Bool.false_eq_true, decide_eq_true_eq, and_true, true_and, ite_true, ite_false, reduceCtorEq, rn_methM, rn_methM0, isTM_eq, rn_mk, rn_st, mk_own, st_own, ty_own, ex_app, ex_ext, ex_extT, ex_rev, ex_pop, rn_storeM, rn_lc, rn_lc2, rn_turn, rn_turn1, rn_frz]
    rw [sortS_eq hk']
    exact q
/-- plain_state -/
theorem plain_state_ok {many xs : List Int} {o : List D} (f : Fits many xs) {n : Nat} {c : Cd} (h : c.Ok many n) (hn : n < 1000) {Q : Res → List D → Prop} (q : ∀ s, plainN n xs c = some s → Q (.dat (.int s)) o) : Dr d_plain_state [c.toD, tI xs] o Q := by
  unfold d_plain_state b_plain_state
  rw [dr_run]
  generalize hW : whileM _ _ whFuel = W
  simp -implicitDefEqProofs only [rn_bind, rn_pure, rn_no, rn_need, rn_opt1, rn_ite, rn_var, rn_put, rn_useD, rn_useN, rn_useO, rn_chkD, rn_chkN, rn_chkO, rn_call, rn_seq, rn_guard, rn_forIn, rn_for0, rn_setD, rn_setN, rn_setO, binM, binMO, unM, cmpT, testM, andT, orT, notT, ifM, asgM, retM, exprM, kM, consA, nilA, tupM, lstM, useAll, chkAll, slM, partM, DL.andM, DL.orM, DL.notM, negM, asgG, gN, gT, gsC, gsN, seqI, frzM, asgTM, dnewM, par2M, hold_d, hold_n, hold_o, d_d, d_n, d_o, out_d, out_n, out_o, fo_next, fo_ret, isBl_b, isInt_i, tr_i, tr_b, tr_n, tr_l, tr_t, it_l, it_r, it_t, li_l, li_r, op_add_i, op_add_l, op_add_t, op_sub_i, op_mul_i, op_mod_i, op_div_i, op_pow_i, op_lt_i, op_le_i, op_gt_i, op_ge_i, op_int_i, op_abs_i, op_len_l, op_len_t, op_len_r, op_tup_l, op_tup_t, op_lst_l, op_lst_t, op_max_i, op_eq_i, eq_go_go, eq_get_get, eq_go_get, eq_get_go, Bool.bne_false, Bool.bne_true, Bool.not_true, Bool.not_false, op_sl_l, op_sl_r, op_sl_t, op_ix_t0, op_ix_t1, op_ix_t2, op_ix_l0, List.getElem?_cons_zero, List.getElem?_cons_succ, List.set_cons_zero, List.set_cons_succ, List.map_cons, List.map_nil, List.length_cons, List.length_nil, List.cons_append, List.nil_append, if_true, if_false, Bool.false_eq_true, decide_eq_true_eq, and_true, true_and, ite_true, ite_false, reduceCtorEq, rn_methM, rn_methM0, isTM_eq, rn_mk, rn_st, mk_own, st_own, ty_own, ex_app, ex_ext, ex_extT, ex_rev, ex_pop, rn_storeM, rn_lc, rn_lc2, rn_turn, rn_turn1, rn_frz, List.replicate]
  rw [← hW]
  refine while_inv (I := fun m S => ∃ c' : Cd, c'.Ok many m ∧ m ≤ n ∧ plainN m xs c' = plainN n xs c ∧ S = ⟨[.dat c.toD, .dat (tI xs), .dat c'.toD], o⟩) (n := whFuel) (m := n) (fuel_lt (by omega)) ⟨c, h, Nat.le_refl _, rfl, rfl⟩ ?_
  rintro m S ⟨c', hc, hm, hp, rfl⟩
  cases c' with
  | go s =>
    simp only [Cd.toD]
    simp -implicitDefEqProofs only [rn_bind, rn_pure, rn_no, rn_need, rn_opt1, rn_ite, rn_var, rn_put, rn_useD, rn_useN, rn_useO, rn_chkD, rn_chkN, rn_chkO, rn_call, rn_seq, rn_guard, rn_forIn, rn_for0, rn_setD, rn_setN, rn_setO, binM, binMO, unM, cmpT, testM, andT, orT, notT, ifM, asgM, retM, exprM, kM, consA, nilA, tupM, lstM, useAll, chkAll, slM, partM, DL.andM, DL.orM, DL.notM, negM, asgG, gN, gT, gsC, gsN, seqI, frzM, asgTM, dnewM, par2M, hold_d, hold_n, hold_o, d_d, d_n, d_o, out_d, out_n, out_o, fo_next, fo_ret, isBl_b, isInt_i, tr_i, tr_b, tr_n, tr_l, tr_t, it_l, it_r, it_t, li_l, li_r, op_add_i, op_add_l, op_add_t, op_sub_i, op_mul_i, op_mod_i, op_div_i, op_pow_i, op_lt_i, op_le_i, op_gt_i, op_ge_i, op_int_i, op_abs_i, op_len_l, op_len_t, op_len_r, op_tup_l, op_tup_t, op_lst_l, op_lst_t, op_max_i, op_eq_i, eq_go_go, eq_get_get, eq_go_get, eq_get_go, Bool.bne_false, Bool.bne_true, Bool.not_true, Bool.not_false, op_sl_l, op_sl_r, op_sl_t, op_ix_t0, op_ix_t1, op_ix_t2, op_ix_l0, List.getElem?_cons_zero, List.getElem?_cons_succ, List.set_cons_zero, List.set_cons_succ, List.map_cons, List.map_nil, List.length_cons, List.length_nil, List.cons_append, List.nil_append, if_true, if_false, Bool.false_eq_true, decide_eq_true_eq, and_true, true_and, ite_true, ite_false, reduceCtorEq]
    exact q s (by rw [← hp]; cases m <;> rfl)
  | get w ds =>
    cases m with
    | zero => exact hc.elim
    | succ m =>
      obtain ⟨k, c2, h0, e1, e2, h2⟩ := fits_step f hc
      simp only [Cd.toD]
      simp -implicitDefEqProofs only [rn_bind, rn_pure, rn_no, rn_need, rn_opt1, rn_ite, rn_var, rn_put, rn_useD, rn_useN, rn_useO, rn_chkD, rn_chkN, rn_chkO, rn_call, rn_seq, rn_guard, rn_forIn, rn_for0, rn_setD, rn_setN, rn_setO, binM, binMO, unM, cmpT, testM, andT, orT, notT, ifM, asgM, retM, exprM, kM, consA, nilA, tupM, lstM, useAll, chkAll, slM, partM, DL.andM, DL.orM, DL.notM, negM, asgG, gN, gT, gsC, gsN, seqI, frzM, asgTM, dnewM, par2M, hold_d, hold_n, hold_o, d_d, d_n, d_o, out_d, out_n, out_o, fo_next, fo_ret, isBl_b, isInt_i, tr_i, tr_b, tr_n, tr_l, tr_t, it_l, it_r, it_t, li_l, li_r, op_add_i, op_add_l, op_add_t, op_sub_i, op_mul_i, op_mod_i, op_div_i, op_pow_i, op_lt_i, op_le_i, op_gt_i, op_ge_i, op_int_i, op_abs_i, op_len_l, op_len_t, op_len_r, op_tup_l, op_tup_t, op_lst_l, op_lst_t, op_max_i, op_eq_i, eq_go_go, eq_get_get, eq_go_get, eq_get_go, Bool.bne_false, Bool.bne_true, Bool.not_true, Bool.not_false, op_sl_l, op_sl_r, op_sl_t, op_ix_t0, op_ix_t1, op_ix_t2, op_ix_l0, List.getElem?_cons_zero, List.getElem?_cons_succ, List.set_cons_zero, List.set_cons_succ, List.map_cons, List.map_nil, List.length_cons, List.length_nil, List.cons_append, List.nil_append, if_true, if_false, Bool.false_eq_true, decide_eq_true_eq, and_true, true_and, ite_true, ite_false, reduceCtorEq, ix_tI h0 e1, ix_ds e2]
      refine ⟨m, Nat.lt_succ_self m, c2, h2, by omega, ?_, rfl⟩
      rw [← hp]
      simp only [plainN, e1, Option.bind_some, Int.toNat_natCast, e2]
end LW
end
section
set_option maxRecDepth 100000
namespace LW
open PySem L2 DL
/-! ## two-clause comprehensions where nothing changes -/
theorem cw2_map {t1 : D → M (Option (List D))} {turn : D → M (Option D)} {env : List Slot} {vs : List Nat} {o : List D} {P : List D → List D → Prop} {F1 : D → List D} {F2 : D → D → Option D} : ∀ {ds acc : List D}, acc.length + (ds.flatMap F1).length ≤ sizeLine →
    (∀ d ∈ ds, Rn (t1 d) ⟨env, o⟩ fun x S' => x = some (F1 d) ∧ S'.objs = o ∧ ∀ e ∈ F1 d, Rn (turn e) ⟨wipeE (S'.env.map Slot.frz) vs, o⟩ fun y S2 => y = F2 d e ∧ S2.objs = o) →
    P (acc ++ ds.flatMap fun d => (F1 d).filterMap (F2 d)) o → Cw2 t1 turn env vs ds acc o P
  | [], acc, _, _, q => by rw [cw2_nil]; simpa using q
  | d :: ds, acc, hl, h, q => by
    rw [cw2_cons]
    refine (h d List.mem_cons_self).mono ?_
    rintro x S' ⟨rfl, eo, ht⟩
    simp only
    rw [eo]
    have hl' : acc.length + ((F1 d).length + (ds.flatMap F1).length) ≤ sizeLine := by simpa [List.flatMap_cons] using hl
    refine cw_map (F := F2 d) (by omega) ht ?_
    have hf : ((F1 d).filterMap (F2 d)).length ≤ (F1 d).length := List.length_filterMap_le _ _
    refine cw2_map (by simp only [List.length_append]; omega) (fun e he => h e (List.mem_cons_of_mem _ he)) ?_
    simpa [List.flatMap_cons] using q
/-! ## all_choices -/
def stepC (found : List (List Int)) (row : List Int) : List (List Int) := found.flatMap fun ch => row.map fun m => ch ++ [m]
def choN (rows : List (List Int)) : List (List Int) := rows.foldl stepC [[]]
theorem stepC_len (found : List (List Int)) (row : List Int) : (stepC found row).length = found.length * row.length := by
  unfold stepC
  induction found with
  | nil => simp
  | cons c r ih => rw [List.flatMap_cons, List.length_append, ih, List.length_map, List.length_cons, Nat.succ_mul]; omega
theorem stepC_mem {found : List (List Int)} {row t : List Int} : t ∈ stepC found row ↔ ∃ ch ∈ found, ∃ m ∈ row, t = ch ++ [m] := by
  unfold stepC
  simp only [List.mem_flatMap, List.mem_map]
  exact ⟨fun ⟨a, h, b, h2, e⟩ => ⟨a, h, b, h2, e.symm⟩, fun ⟨a, h, b, h2, e⟩ => ⟨a, h, b, h2, e.symm⟩⟩
theorem snoc_ind {α : Type} {P : List α → Prop} (h0 : P []) (h : ∀ l x, P l → P (l ++ [x])) (l : List α) : P l := by
  have key : ∀ n, ∀ l : List α, l.length = n → P l := by
    intro n
    induction n with
    | zero => intro l hl; rw [List.length_eq_zero_iff.mp hl]; exact h0
    | succ n ih =>
      intro l hl
      have hne : l ≠ [] := by rintro rfl; simp at hl
      obtain ⟨r, x, rfl⟩ := snoc_of l hne
      exact h r x (ih r (by simp at hl; exact hl))
  exact key _ l rfl
theorem choN_snoc (rows : List (List Int)) (row : List Int) : choN (rows ++ [row]) = stepC (choN rows) row := by simp [choN]
theorem choN_mem (rows : List (List Int)) : ∀ t, t ∈ choN rows ↔ t.length = rows.length ∧ ∀ (i : Nat) (r : List Int), rows[i]? = some r → ∃ k, t[i]? = some k ∧ k ∈ r := by
  refine snoc_ind (P := fun rows => ∀ t, t ∈ choN rows ↔ t.length = rows.length ∧ ∀ (i : Nat) (r : List Int), rows[i]? = some r → ∃ k, t[i]? = some k ∧ k ∈ r) ?_ ?_ rows
  · intro t
    simp [choN]
  · intro l x ih t
    rw [choN_snoc, stepC_mem]
    constructor
    · rintro ⟨ch, hc, m, hm, rfl⟩
      obtain ⟨h1, h2⟩ := (ih ch).mp hc
      refine ⟨by simp [h1], fun i r hi => ?_⟩
      by_cases c : i < l.length
      · rw [List.getElem?_append_left c] at hi
        obtain ⟨k, e, hk⟩ := h2 i r hi
        exact ⟨k, by rw [List.getElem?_append_left (by omega)]; exact e, hk⟩
      · rw [List.getElem?_append_right (by omega)] at hi
        have : i - l.length = 0 := by have := (List.getElem?_eq_some_iff.mp hi).1; simp at this; exact this
        rw [this] at hi
        cases hi
        exact ⟨m, by rw [List.getElem?_append_right (by omega), show i - ch.length = 0 by omega]; rfl, hm⟩
    · rintro ⟨h1, h2⟩
      have hne : t ≠ [] := by rintro rfl; simp at h1
      obtain ⟨ch, m, rfl⟩ := snoc_of t hne
      have hl : ch.length = l.length := by simpa using h1
      refine ⟨ch, (ih ch).mpr ⟨hl, fun i r hi => ?_⟩, m, ?_, rfl⟩
      · have c : i < l.length := (List.getElem?_eq_some_iff.mp hi).1
        obtain ⟨k, e, hk⟩ := h2 i r (by rw [List.getElem?_append_left c]; exact hi)
        exact ⟨k, by rw [List.getElem?_append_left (by omega)] at e; exact e, hk⟩
      · obtain ⟨k, e, hk⟩ := h2 l.length x (by simp)
        rw [List.getElem?_append_right (by omega), show l.length - ch.length = 0 by omega] at e
        cases e
        exact hk
theorem choN_len (rows : List (List Int)) (h5 : ∀ r ∈ rows, r.length ≤ 5) : (choN rows).length ≤ 5 ^ rows.length := by
  refine snoc_ind (P := fun rows => (∀ r ∈ rows, r.length ≤ 5) → (choN rows).length ≤ 5 ^ rows.length) ?_ ?_ rows h5
  · intro _; simp [choN]
  · intro l x ih h
    rw [choN_snoc, stepC_len, List.length_append, List.length_cons, List.length_nil, Nat.pow_succ]
    exact Nat.mul_le_mul (ih fun r hr => h r (List.mem_append_left _ hr)) (h x (by simp))
theorem imms_tI : ∀ ts : List (List Int), D.imms (ts.map tI) = true
  | [] => rfl
  | t :: r => by simp [D.imms, imms_tI r, tI, D.imm, imms_ints]
/-- a tuple of whole numbers, read back -/
def unI (d : D) : List Int := match d with
  | .tup ds => (D.ints? ds).getD []
  | _ => []
theorem unI_tI (ns : List Int) : unI (tI ns) = ns := by simp [unI, tI, ints?_map]
def cF (d e : D) : Option D := match e with
  | .int k => some (tI (unI d ++ [k]))
  | _ => none
theorem cF_row (ch : List Int) : ∀ row : List Int, (row.map D.int).filterMap (cF (tI ch)) = (row.map fun k => ch ++ [k]).map tI
  | [] => rfl
  | k :: r => by
    rw [List.map_cons, List.filterMap_cons, show cF (tI ch) (.int k) = some (tI (unI (tI ch) ++ [k])) from rfl, unI_tI]
    simp only
    rw [cF_row ch r]
    rfl
theorem all_choices_ok {rows : List (List Int)} {o : List D} (ho : (o.all fun o => D.imms o.parts) = true) (h5 : ∀ r ∈ rows, r.length ≤ 5) (hl : rows.length ≤ 5) {Q : Res → List D → Prop} (q : Q (.new (.lst ((choN rows).map tI))) o) : Dr d_all_choices [.lst (rows.map tI)] o Q := by
  unfold d_all_choices b_all_choices
  rw [dr_run]
  simp -implicitDefEqProofs only [rn_bind, rn_pure, rn_no, rn_need, rn_opt1, rn_ite, rn_var, rn_put, rn_useD, rn_useN, rn_useO, rn_chkD, rn_chkN, rn_chkO, rn_call, rn_seq, rn_guard, rn_forIn, rn_for0, rn_setD, rn_setN, rn_setO, binM, binMO, unM, cmpT, testM, andT, orT, notT, ifM, asgM, retM, exprM, kM, consA, nilA, tupM, lstM, useAll, chkAll, slM, partM, DL.andM, DL.orM, DL.notM, negM, asgG, gN, gT, gsC, gsN, seqI, frzM, asgTM, dnewM, par2M, hold_d, hold_n, hold_o, d_d, d_n, d_o, out_d, out_n, out_o, fo_next, fo_ret, isBl_b, isInt_i, tr_i, tr_b, tr_n, tr_l, tr_t, it_l, it_r, it_t, li_l, li_r, op_add_i, op_add_l, op_add_t, op_sub_i, op_mul_i, op_mod_i, op_div_i, op_pow_i, op_lt_i, op_le_i, op_gt_i, op_ge_i, op_int_i, op_abs_i, op_len_l, op_len_t, op_len_r, op_tup_l, op_tup_t, op_lst_l, op_lst_t, op_max_i, op_eq_i, eq_go_go, eq_get_get, eq_go_get, eq_get_go, Bool.bne_false, Bool.bne_true, Bool.not_true, Bool.not_false, op_sl_l, op_sl_r, op_sl_t, op_ix_t0, op_ix_t1, op_ix_t2, op_ix_l0, List.getElem?_cons_zero, List.getElem?_cons_succ, List.set_cons_zero, List.set_cons_succ, List.map_cons, List.map_nil, List.length_cons, List.length_nil, List.cons_append, List.nil_append, if_true, if_false, Bool.false_eq_true, decide_eq_true_eq, and_true, true_and, ite_true, ite_false, reduceCtorEq, rn_methM, rn_methM0, isTM_eq, rn_mk, rn_st, mk_own, st_own, ty_own, ex_app, ex_ext, ex_extT, ex_rev, ex_pop, rn_storeM, rn_lc, rn_lc2, rn_turn, rn_turn1, rn_frz, List.replicate]
  refine ⟨small_le (by decide), small_le (by decide), ?_⟩
  refine for_inv (I := fun xs S => ∃ r1 r2 s2 s3 s4, rows = r1 ++ r2 ∧ xs = r2.map tI ∧ S = ⟨[.dat (.lst (rows.map tI)), .own (.lst ((choN r1).map tI)), s2, s3, s4], o⟩) ⟨[], rows, _, _, _, rfl, rfl, rfl⟩ ?_ ?_
  · rintro d xs S ⟨r1, r2, s2, s3, s4, e1, e2, rfl⟩
    cases r2 with
    | nil => cases e2
    | cons row r2 =>
      rw [List.map_cons] at e2
      cases e2
      simp -implicitDefEqProofs only [rn_bind, rn_pure, rn_no, rn_need, rn_opt1, rn_ite, rn_var, rn_put, rn_useD, rn_useN, rn_useO, rn_chkD, rn_chkN, rn_chkO, rn_call, rn_seq, rn_guard, rn_forIn, rn_for0, rn_setD, rn_setN, rn_setO, binM, binMO, unM, cmpT, testM, andT, orT, notT, ifM, asgM, retM, exprM, kM, consA, nilA, tupM, lstM, useAll, chkAll, slM, partM, DL.andM, DL.orM, DL.notM, negM, asgG, gN, gT, gsC, gsN, seqI, frzM, asgTM, dnewM, par2M, hold_d, hold_n, hold_o, d_d, d_n, d_o, out_d, out_n, out_o, fo_next, fo_ret, isBl_b, isInt_i, tr_i, tr_b, tr_n, tr_l, tr_t, it_l, it_r, it_t, li_l, li_r, op_add_i, op_add_l, op_add_t, op_sub_i, op_mul_i, op_mod_i, op_div_i, op_pow_i, op_lt_i, op_le_i, op_gt_i, op_ge_i, op_int_i, op_abs_i, op_len_l, op_len_t, op_len_r, op_tup_l, op_tup_t, op_lst_l, op_lst_t, op_max_i, op_eq_i, eq_go_go, eq_get_get, eq_go_get, eq_get_go, Bool.bne_false, Bool.bne_true, Bool.not_true, Bool.not_false, op_sl_l, op_sl_r, op_sl_t, op_ix_t0, op_ix_t1, op_ix_t2, op_ix_l0, List.getElem?_cons_zero, List.getElem?_cons_succ, List.set_cons_zero, List.set_cons_succ, List.map_cons, List.map_nil, List.length_cons, List.length_nil, List.cons_append, List.nil_append, if_true, if_false, Bool.false_eq_true, decide_eq_true_eq, and_true, true_and, ite_true, ite_false, reduceCtorEq, rn_methM, rn_methM0, isTM_eq, rn_mk, rn_st, mk_own, st_own, ty_own, ex_app, ex_ext, ex_extT, ex_rev, ex_pop, rn_storeM, rn_lc, rn_lc2, rn_turn, rn_turn1, rn_frz, it_tI]
      have hr1 : r1.length + 1 ≤ 5 := by rw [e1] at hl; simp at hl; omega
      have c1 := choN_len r1 fun r hr => h5 r (by rw [e1]; exact List.mem_append_left _ hr)
      have c2 : row.length ≤ 5 := h5 row (by rw [e1]; simp)
      have c3 : (choN r1).length ≤ 625 := Nat.le_trans c1 (Nat.le_trans (Nat.pow_le_pow_right (by decide) (show r1.length ≤ 4 by omega)) (by decide))
      have fl : ∀ l : List (List Int), ((l.map tI).flatMap fun _ => row.map D.int).length = l.length * row.length := by
        intro l
        induction l with
        | nil => simp
        | cons c r ih => rw [List.map_cons, List.flatMap_cons, List.length_append, ih, List.length_map, List.length_cons, Nat.succ_mul]; omega
      refine cw2_map (F1 := fun _ => row.map D.int) (F2 := cF) ?_ ?_ ?_
      · rw [fl]
        have : (choN r1).length * row.length ≤ 625 * 5 := Nat.mul_le_mul c3 c2
        exact small_le (by simp; omega)
      · intro d hd
        obtain ⟨ch, hch, rfl⟩ := List.mem_map.mp hd
        simp -implicitDefEqProofs only [rn_bind, rn_pure, rn_no, rn_need, rn_opt1, rn_ite, rn_var, rn_put, rn_useD, rn_useN, rn_useO, rn_chkD, rn_chkN, rn_chkO, rn_call, rn_seq, rn_guard, rn_forIn, rn_for0, rn_setD, rn_setN, rn_setO, binM, binMO, unM, cmpT, testM, andT, orT, notT, ifM, asgM, retM, exprM, kM, consA, nilA, tupM, lstM, useAll, chkAll, slM, partM, DL.andM, DL.orM, DL.notM, negM, asgG, gN, gT, gsC, gsN, seqI, frzM, asgTM, dnewM, par2M, hold_d, hold_n, hold_o, d_d, d_n, d_o, out_d, out_n, out_o, fo_next, fo_ret, isBl_b, isInt_i, tr_i, tr_b, tr_n, tr_l, tr_t, it_l, it_r, it_t, li_l, li_r, op_add_i, op_add_l, op_add_t, op_sub_i, op_mul_i, op_mod_i, op_div_i, op_pow_i, op_lt_i, op_le_i, op_gt_i, op_ge_i, op_int_i, op_abs_i, op_len_l, op_len_t, op_len_r, op_tup_l, op_tup_t, op_lst_l, op_lst_t, op_max_i, op_eq_i, eq_go_go, eq_get_get, eq_go_get, eq_get_go, Bool.bne_false, Bool.bne_true, Bool.not_true, Bool.not_false, op_sl_l, op_sl_r, op_sl_t, op_ix_t0, op_ix_t1, op_ix_t2, op_ix_l0, List.getElem?_cons_zero, List.getElem?_cons_succ, List.set_cons_zero, List.set_cons_succ, List.map_cons, List.map_nil, List.length_cons, List.length_nil, List.cons_append, List.nil_append, if_true, if_false, Bool.false_eq_true, decide_eq_true_eq, and_true, true_and, ite_true, ite_false, reduceCtorEq, rn_methM, rn_methM0, isTM_eq, rn_mk, rn_st, mk_own, st_own, ty_own, ex_app, ex_ext, ex_extT, ex_rev, ex_pop, rn_storeM, rn_lc, rn_lc2, rn_turn, rn_turn1, rn_frz, it_tI, wipeE, Slot.frz]
        refine fun e he => ?_
        obtain ⟨k, hk, rfl⟩ := List.mem_map.mp he
        have hlen : ch.length ≤ 5 := by have := ((choN_mem r1 ch).mp hch).1; omega
        simp -implicitDefEqProofs only [rn_bind, rn_pure, rn_no, rn_need, rn_opt1, rn_ite, rn_var, rn_put, rn_useD, rn_useN, rn_useO, rn_chkD, rn_chkN, rn_chkO, rn_call, rn_seq, rn_guard, rn_forIn, rn_for0, rn_setD, rn_setN, rn_setO, binM, binMO, unM, cmpT, testM, andT, orT, notT, ifM, asgM, retM, exprM, kM, consA, nilA, tupM, lstM, useAll, chkAll, slM, partM, DL.andM, DL.orM, DL.notM, negM, asgG, gN, gT, gsC, gsN, seqI, frzM, asgTM, dnewM, par2M, hold_d, hold_n, hold_o, d_d, d_n, d_o, out_d, out_n, out_o, fo_next, fo_ret, isBl_b, isInt_i, tr_i, tr_b, tr_n, tr_l, tr_t, it_l, it_r, it_t, li_l, li_r, op_add_i, op_add_l, op_add_t, op_sub_i, op_mul_i, op_mod_i, op_div_i, op_pow_i, op_lt_i, op_le_i, op_gt_i, op_ge_i, op_int_i, op_abs_i, op_len_l, op_len_t, op_len_r, op_tup_l, op_tup_t, op_lst_l, op_lst_t, op_max_i, op_eq_i, eq_go_go, eq_get_get, eq_go_get, eq_get_go, Bool.bne_false, Bool.bne_true, Bool.not_true, Bool.not_false, op_sl_l, op_sl_r, op_sl_t, op_ix_t0, op_ix_t1, op_ix_t2, op_ix_l0, List.getElem?_cons_zero, List.getElem?_cons_succ, List.set_cons_zero, List.set_cons_succ, List.map_cons, List.map_nil, List.length_cons, List.length_nil, List.cons_append, List.nil_append, if_true, if_false, Bool.false_eq_true, decide_eq_true_eq, and_true, true_and, ite_true, ite_false, reduceCtorEq, rn_methM, rn_methM0, isTM_eq, rn_mk, rn_st, mk_own, st_own, ty_own, ex_app, ex_ext, ex_extT, ex_rev, ex_pop, rn_storeM, rn_lc, rn_lc2, rn_turn, rn_turn1, rn_frz, add_tI, unI_tI]
        exact ⟨small_le (by decide), small_le (by omega), by rw [show cF (tI ch) (.int k) = some (tI (unI (tI ch) ++ [k])) from rfl, unI_tI]⟩
      · have e : ([] : List D) ++ ((choN r1).map tI).flatMap (fun d => (row.map D.int).filterMap (cF d)) = (stepC (choN r1) row).map tI := by
          rw [List.nil_append]
          unfold stepC
          rw [List.flatMap_map, List.map_flatMap]
          congr 1
          funext ch
          exact cF_row ch row
        rw [e, if_imms (imms_tI _) ho]
        exact ⟨r1 ++ [row], r2, _, _, _, by rw [e1]; simp, rfl, by rw [choN_snoc]⟩
  · rintro S ⟨r1, r2, s2, s3, s4, e1, e2, rfl⟩
    have : r2 = [] := by
      cases r2 with
      | nil => rfl
      | cons x r => cases e2
    subst this
    rw [List.append_nil] at e1
    subst e1
    simp -implicitDefEqProofs only [rn_bind, rn_pure, rn_no, rn_need, rn_opt1, rn_ite, rn_var, rn_put, rn_useD, rn_useN, rn_useO, rn_chkD, rn_chkN, rn_chkO, rn_call, rn_seq, rn_guard, rn_forIn, rn_for0, rn_setD, rn_setN, rn_setO, binM, binMO, unM, cmpT, testM, andT, orT, notT, ifM, asgM, retM, exprM, kM, consA, nilA, tupM, lstM, useAll, chkAll, slM, partM, DL.andM, DL.orM, DL.notM, negM, asgG, gN, gT, gsC, gsN, seqI, frzM, asgTM, dnewM, par2M, hold_d, hold_n, hold_o, d_d, d_n, d_o, out_d, out_n, out_o, fo_next, fo_ret, isBl_b, isInt_i, tr_i, tr_b, tr_n, tr_l, tr_t, it_l, it_r, it_t, li_l, li_r, op_add_i, op_add_l, op_add_t, op_sub_i, op_mul_i, op_mod_i, op_div_i, op_pow_i, op_lt_i, op_le_i, op_gt_i, op_ge_i, op_int_i, op_abs_i, op_len_l, op_len_t, op_len_r, op_tup_l, op_tup_t, op_lst_l, op_lst_t, op_max_i, op_eq_i, eq_go_go, eq_get_get, eq_go_get, eq_get_go, Bool.bne_false, Bool.bne_true, Bool.not_true, Bool.not_false, op_sl_l, op_sl_r, op_sl_t, op_ix_t0, op_ix_t1, op_ix_t2, op_ix_l0, List.getElem?_cons_zero, List.getElem?_cons_succ, List.set_cons_zero, List.set_cons_succ, List.map_cons, List.map_nil, List.length_cons, List.length_nil, List.cons_append, List.nil_append, if_true, if_false, Bool.false_eq_true, decide_eq_true_eq, and_true, true_and, ite_true, ite_false, reduceCtorEq, rn_methM, rn_methM0, isTM_eq, rn_mk, rn_st, mk_own, st_own, ty_own, ex_app, ex_ext, ex_extT, ex_rev, ex_pop, rn_storeM, rn_lc, rn_lc2, rn_turn, rn_turn1, rn_frz]
    exact q
end LW
end
section
set_option maxRecDepth 100000
namespace LW
open PySem L2 DL
/-! ## torn_states -/
theorem in_lI {neg : Bool} {i : Int} {ns : List Int} {Q : Res → Sx → Prop} {S : Sx} : Rn (opIn neg (.int i) (lI ns)) S Q = Q (.dat (.bl (decide (i ∈ ns) != neg))) S := by
  have e : D.inn (.int i) (lI ns) = some (decide (i ∈ ns)) := by
    show D.among (.int i) (ns.map .int) = _
    unfold D.among
    have h1 : (D.int i).py = some (.int i) := by simp [D.py]
    rw [h1, pys_ints]
    have h2 : SeqAt.shaped (.int i) = true := by simp [SeqAt.shaped, PyData.canLay0, PyData.depth]
    have h3 : SeqAt.shaped (.list (ns.map .int)) = true := by
      have := dp_depth_ints ns
      simp [SeqAt.shaped, PyData.canLay0, lay_ints, PyData.depth, this]
    simp only [h2, h3, Bool.and_self, if_true]
    congr 1
    rw [List.any_map]
    rw [Bool.eq_iff_iff, List.any_eq_true, decide_eq_true_eq]
    constructor
    · rintro ⟨x, hx, e⟩
      simp [PyData.eqv] at e
      exact e ▸ hx
    · intro h
      exact ⟨i, h, by simp [PyData.eqv]⟩
  unfold opIn
  rw [e]; rfl
theorem in_lst {neg : Bool} {i : Int} {ns : List Int} {Q : Res → Sx → Prop} {S : Sx} : Rn (opIn neg (.int i) (.lst (ns.map .int))) S Q = Q (.dat (.bl (decide (i ∈ ns) != neg))) S := in_lI
theorem cut1 {α : Type} (l : List α) : cutD l none (some 1) = l.take 1 := by
  cases l with
  | nil => simp [cutD]
  | cons x r => simp [cutD, HT.sIx]
theorem sl_tI {l : List Int} {Q : Res → Sx → Prop} {S : Sx} : Rn (opSl (tI l) none (some 1)) S Q = Q (.dat (tI (l.take 1))) S := by
  unfold tI
  rw [op_sl_t, cut1, List.map_take]
def rowsN (ws : List Int) : Nat → List (List Int) → List (List Int)
  | _, [] => []
  | k, l :: r => (if (k : Int) ∈ ws then l else l.take 1) :: rowsN ws (k + 1) r
def rF (ws : List Int) (d : D) : Option D := match d with
  | .tup [.int i, l] => some (tI (if i ∈ ws then unI l else (unI l).take 1))
  | _ => none
theorem rows_eq (ws : List Int) : ∀ (k : Nat) (lots : List (List Int)), (enumD k (lots.map tI)).filterMap (rF ws) = (rowsN ws k lots).map tI
  | _, [] => rfl
  | k, l :: r => by
    rw [List.map_cons, enumD, List.filterMap_cons, show rF ws (.tup [.int k, tI l]) = some (tI (if (k : Int) ∈ ws then unI (tI l) else (unI (tI l)).take 1)) from rfl, unI_tI]
    simp only
    rw [rows_eq ws (k + 1) r]
    rfl
theorem rows_len (ws : List Int) : ∀ (k : Nat) (lots : List (List Int)), (rowsN ws k lots).length = lots.length
  | _, [] => rfl
  | k, l :: r => by rw [rowsN, List.length_cons, rows_len ws (k + 1) r]; rfl
theorem rows_get (ws : List Int) : ∀ (k : Nat) (lots : List (List Int)) (i : Nat), (rowsN ws k lots)[i]? = (lots[i]?).map fun l => if ((k + i : Nat) : Int) ∈ ws then l else l.take 1
  | _, [], i => by simp [rowsN]
  | k, l :: r, 0 => by simp [rowsN]
  | k, l :: r, i + 1 => by
    rw [rowsN, List.getElem?_cons_succ, List.getElem?_cons_succ, rows_get ws (k + 1) r i, show k + 1 + i = k + (i + 1) by omega]
theorem enum_mem : ∀ {k : Nat} {lots : List (List Int)} {d : D}, d ∈ enumD k (lots.map tI) → ∃ (i : Int) (l : List Int), d = .tup [.int i, tI l]
  | _, [], d, h => by simp [enumD] at h
  | k, l :: r, d, h => by
    rw [List.map_cons, enumD] at h
    rcases List.mem_cons.mp h with rfl | h
    · exact ⟨_, _, rfl⟩
    · exact enum_mem h
theorem rows_five {many : List Int} {lots : List (List Int)} (f : LotsOk many lots) (ws : List Int) (k : Nat) : ∀ r ∈ rowsN ws k lots, r.length ≤ 5 := fun r hr => by
  obtain ⟨i, hi⟩ := List.mem_iff_getElem?.mp hr
  rw [rows_get] at hi
  obtain ⟨l, e1, rfl⟩ := Option.map_eq_some_iff.mp hi
  have := f.few l (List.mem_of_getElem? e1)
  split
  · exact this
  · rw [List.length_take]; omega
theorem cho_fits {many : List Int} {lots : List (List Int)} (f : LotsOk many lots) (ws : List Int) {t : List Int} (h : t ∈ choN (rowsN ws 0 lots)) : Fits many t := by
  obtain ⟨h1, h2⟩ := (choN_mem _ t).mp h
  rw [rows_len] at h1
  refine ⟨by rw [h1, f.len], fun i k m hk hm => ?_⟩
  have hl : i < lots.length := by rw [← h1]; exact (List.getElem?_eq_some_iff.mp hk).1
  obtain ⟨k', e, hk'⟩ := h2 i _ (by rw [rows_get, List.getElem?_eq_getElem hl]; rfl)
  rw [hk] at e
  cases e
  refine f.fit i lots[i] m (List.getElem?_eq_getElem hl) hm k ?_
  split at hk'
  · exact hk'
  · exact List.mem_of_mem_take hk'
def pF (n : Nat) (c : Cd) (d : D) : Option D := (plainN n (unI d) c).map .int
def plains (n : Nat) (c : Cd) (ts : List (List Int)) : List Int := ts.filterMap fun t => plainN n t c
theorem pF_eq (n : Nat) (c : Cd) : ∀ ts : List (List Int), (ts.map tI).filterMap (pF n c) = (plains n c ts).map .int
  | [] => rfl
  | t :: r => by
    rw [List.map_cons, List.filterMap_cons, pF, unI_tI]
    unfold plains
    rw [List.filterMap_cons]
    cases plainN n t c with
    | none => exact pF_eq n c r
    | some s =>
      simp only [Option.map_some, List.map_cons]
      congr 1
      exact pF_eq n c r
def nF (ps : List Int) (d : D) : Option D := match d with
  | .int s => if s ∈ ps then none else some (.int s)
  | _ => none
theorem nF_eq (ps : List Int) : ∀ ss : List Int, (ss.map D.int).filterMap (nF ps) = (ss.filter fun s => decide (s ∉ ps)).map .int
  | [] => rfl
  | s :: r => by
    rw [List.map_cons, List.filterMap_cons, nF, List.filter_cons]
    by_cases h : s ∈ ps
    · simp only [h, if_true, not_true, decide_false, Bool.false_eq_true, if_false]
      exact nF_eq ps r
    · simp only [h, if_false, not_false_eq_true, decide_true, if_true, List.map_cons]
      congr 1
      exact nF_eq ps r
theorem fits_plain {many xs : List Int} (f : Fits many xs) : ∀ (n : Nat) (c : Cd), c.Ok many n → ∃ s, plainN n xs c = some s
  | 0, .go s, _ => ⟨s, rfl⟩
  | 0, .get _ _, h => h.elim
  | n + 1, .go s, _ => ⟨s, rfl⟩
  | n + 1, .get w ds, h => by
    obtain ⟨k, c2, h0, e1, e2, h2⟩ := fits_step f h
    obtain ⟨s, e3⟩ := fits_plain f n c2 h2
    exact ⟨s, by simp only [plainN, e1, Option.bind_some, Int.toNat_natCast, e2, e3]⟩
theorem lotsD_items {lots : List (List Int)} : (lotsD lots).items = some (lots.map tI) := rfl
theorem lI_items {ns : List Int} : (lI ns).items = some (ns.map .int) := rfl
/-- the states that the plain code cannot reach -/
def tornN (lots : List (List Int)) (n : Nat) (c : Cd) : List Int := (resN lots n c).filter fun s => decide (s ∉ plains n c (choN (rowsN (sortS c.wk) 0 lots)))
theorem torn_ok {many : List Int} {lots : List (List Int)} (hm : ManyOk many) (f : LotsOk many lots) {n : Nat} {c : Cd} {o : List D} (ho : (o.all fun o => D.imms o.parts) = true) (h : c.Ok many n) (hn : n ≤ 4) {Q : Res → List D → Prop} (q : Q (.new (lI (tornN lots n c))) o) :
    Dr d_torn_states [c.toD, lotsD lots] o Q := by
  have ll : lots.length ≤ 5 := by rw [f.len]; exact hm.len
  unfold d_torn_states b_torn_states
  rw [dr_run]
  simp -implicitDefEqProofs only [rn_bind, rn_pure, rn_no, rn_need, rn_opt1, rn_ite, rn_var, rn_put, rn_useD, rn_useN, rn_useO, rn_chkD, rn_chkN, rn_chkO, rn_call, rn_seq, rn_guard, rn_forIn, rn_for0, rn_setD, rn_setN, rn_setO, binM, binMO, unM, cmpT, testM, andT, orT, notT, ifM, asgM, retM, exprM, kM, consA, nilA, tupM, lstM, useAll, chkAll, slM, partM, DL.andM, DL.orM, DL.notM, negM, asgG, gN, gT, gsC, gsN, seqI, frzM, asgTM, dnewM, par2M, hold_d, hold_n, hold_o, d_d, d_n, d_o, out_d, out_n, out_o, fo_next, fo_ret, isBl_b, isInt_i, tr_i, tr_b, tr_n, tr_l, tr_t, it_l, it_r, it_t, li_l, li_r, op_add_i, op_add_l, op_add_t, op_sub_i, op_mul_i, op_mod_i, op_div_i, op_pow_i, op_lt_i, op_le_i, op_gt_i, op_ge_i, op_int_i, op_abs_i, op_len_l, op_len_t, op_len_r, op_tup_l, op_tup_t, op_lst_l, op_lst_t, op_max_i, op_eq_i, eq_go_go, eq_get_get, eq_go_get, eq_get_go, Bool.bne_false, Bool.bne_true, Bool.not_true, Bool.not_false, op_sl_l, op_sl_r, op_sl_t, op_ix_t0, op_ix_t1, op_ix_t2, op_ix_l0, List.getElem?_cons_zero, List.getElem?_cons_succ, List.set_cons_zero, List.set_cons_succ, List.map_cons, List.map_nil, List.length_cons, List.length_nil, List.cons_append, List.nil_append, if_true, if_false, Bool.false_eq_true, decide_eq_true_eq, and_true, true_and, ite_true, ite_false, reduceCtorEq, rn_methM, rn_methM0, isTM_eq, rn_mk, rn_st, mk_own, st_own, ty_own, ex_app, ex_ext, ex_extT, ex_rev, ex_pop, rn_storeM, rn_lc, rn_lc2, rn_turn, rn_turn1, rn_frz, List.replicate]
  refine asked_ok hm ho h hn ?_
  rw [if_safe (imms_lI _) ho]
  simp -implicitDefEqProofs only [rn_bind, rn_pure, rn_no, rn_need, rn_opt1, rn_ite, rn_var, rn_put, rn_useD, rn_useN, rn_useO, rn_chkD, rn_chkN, rn_chkO, rn_call, rn_seq, rn_guard, rn_forIn, rn_for0, rn_setD, rn_setN, rn_setO, binM, binMO, unM, cmpT, testM, andT, orT, notT, ifM, asgM, retM, exprM, kM, consA, nilA, tupM, lstM, useAll, chkAll, slM, partM, DL.andM, DL.orM, DL.notM, negM, asgG, gN, gT, gsC, gsN, seqI, frzM, asgTM, dnewM, par2M, hold_d, hold_n, hold_o, d_d, d_n, d_o, out_d, out_n, out_o, fo_next, fo_ret, isBl_b, isInt_i, tr_i, tr_b, tr_n, tr_l, tr_t, it_l, it_r, it_t, li_l, li_r, op_add_i, op_add_l, op_add_t, op_sub_i, op_mul_i, op_mod_i, op_div_i, op_pow_i, op_lt_i, op_le_i, op_gt_i, op_ge_i, op_int_i, op_abs_i, op_len_l, op_len_t, op_len_r, op_tup_l, op_tup_t, op_lst_l, op_lst_t, op_max_i, op_eq_i, eq_go_go, eq_get_get, eq_go_get, eq_get_go, Bool.bne_false, Bool.bne_true, Bool.not_true, Bool.not_false, op_sl_l, op_sl_r, op_sl_t, op_ix_t0, op_ix_t1, op_ix_t2, op_ix_l0, List.getElem?_cons_zero, List.getElem?_cons_succ, List.set_cons_zero, List.set_cons_succ, List.map_cons, List.map_nil, List.length_cons, List.length_nil, List.cons_append, List.nil_append, if_true, if_false, Bool.false_eq_true, decide_eq_true_eq, and_true, true_and, ite_true, ite_false, reduceCtorEq, rn_methM, rn_methM0, isTM_eq, rn_mk, rn_st, mk_own, st_own, ty_own, ex_app, ex_ext, ex_extT, ex_rev, ex_pop, rn_storeM, rn_lc, rn_lc2, rn_turn, rn_turn1, rn_frz, lotsD_items, enumI]
  refine cw_map (F := rF (sortS c.wk)) ?_ (fun d hd => ?_) ?_
  · exact small_le (by rw [enumD_len]; simp; omega)
  · obtain ⟨i, l, rfl⟩ := enum_mem hd
    simp -implicitDefEqProofs only [rn_bind, rn_pure, rn_no, rn_need, rn_opt1, rn_ite, rn_var, rn_put, rn_useD, rn_useN, rn_useO, rn_chkD, rn_chkN, rn_chkO, rn_call, rn_seq, rn_guard, rn_forIn, rn_for0, rn_setD, rn_setN, rn_setO, binM, binMO, unM, cmpT, testM, andT, orT, notT, ifM, asgM, retM, exprM, kM, consA, nilA, tupM, lstM, useAll, chkAll, slM, partM, DL.andM, DL.orM, DL.notM, negM, asgG, gN, gT, gsC, gsN, seqI, frzM, asgTM, dnewM, par2M, hold_d, hold_n, hold_o, d_d, d_n, d_o, out_d, out_n, out_o, fo_next, fo_ret, isBl_b, isInt_i, tr_i, tr_b, tr_n, tr_l, tr_t, it_l, it_r, it_t, li_l, li_r, op_add_i, op_add_l, op_add_t, op_sub_i, op_mul_i, op_mod_i, op_div_i, op_pow_i, op_lt_i, op_le_i, op_gt_i, op_ge_i, op_int_i, op_abs_i, op_len_l, op_len_t, op_len_r, op_tup_l, op_tup_t, op_lst_l, op_lst_t, op_max_i, op_eq_i, eq_go_go, eq_get_get, eq_go_get, eq_get_go, Bool.bne_false, Bool.bne_true, Bool.not_true, Bool.not_false, op_sl_l, op_sl_r, op_sl_t, op_ix_t0, op_ix_t1, op_ix_t2, op_ix_l0, List.getElem?_cons_zero, List.getElem?_cons_succ, List.set_cons_zero, List.set_cons_succ, List.map_cons, List.map_nil, List.length_cons, List.length_nil, List.cons_append, List.nil_append, if_true, if_false, Bool.false_eq_true, decide_eq_true_eq, and_true, true_and, ite_true, ite_false, reduceCtorEq, rn_methM, rn_methM0, isTM_eq, rn_mk, rn_st, mk_own, st_own, ty_own, ex_app, ex_ext, ex_extT, ex_rev, ex_pop, rn_storeM, rn_lc, rn_lc2, rn_turn, rn_turn1, rn_frz, wipeE, Slot.frz, in_lI, sl_tI]
    rw [show rF (sortS c.wk) (.tup [.int i, tI l]) = some (tI (if i ∈ sortS c.wk then unI (tI l) else (unI (tI l)).take 1)) from rfl, unI_tI]
    split <;> rfl
  · rw [List.nil_append, rows_eq, if_imms (imms_tI _) ho]
    have rl : (rowsN (sortS c.wk) 0 lots).length ≤ 5 := by rw [rows_len]; exact ll
    refine all_choices_ok ho (rows_five f _ 0) rl ?_
    rw [if_safe (show (Res.new (.lst ((choN (rowsN (sortS c.wk) 0 lots)).map tI))).safe = true from imms_tI _) ho]
    simp -implicitDefEqProofs only [rn_bind, rn_pure, rn_no, rn_need, rn_opt1, rn_ite, rn_var, rn_put, rn_useD, rn_useN, rn_useO, rn_chkD, rn_chkN, rn_chkO, rn_call, rn_seq, rn_guard, rn_forIn, rn_for0, rn_setD, rn_setN, rn_setO, binM, binMO, unM, cmpT, testM, andT, orT, notT, ifM, asgM, retM, exprM, kM, consA, nilA, tupM, lstM, useAll, chkAll, slM, partM, DL.andM, DL.orM, DL.notM, negM, asgG, gN, gT, gsC, gsN, seqI, frzM, asgTM, dnewM, par2M, hold_d, hold_n, hold_o, d_d, d_n, d_o, out_d, out_n, out_o, fo_next, fo_ret, isBl_b, isInt_i, tr_i, tr_b, tr_n, tr_l, tr_t, it_l, it_r, it_t, li_l, li_r, op_add_i, op_add_l, op_add_t, op_sub_i, op_mul_i, op_mod_i, op_div_i, op_pow_i, op_lt_i, op_le_i, op_gt_i, op_ge_i, op_int_i, op_abs_i, op_len_l, op_len_t, op_len_r, op_tup_l, op_tup_t, op_lst_l, op_lst_t, op_max_i, op_eq_i, eq_go_go, eq_get_get, eq_go_get, eq_get_go, Bool.bne_false, Bool.bne_true, Bool.not_true, Bool.not_false, op_sl_l, op_sl_r, op_sl_t, op_ix_t0, op_ix_t1, op_ix_t2, op_ix_l0, List.getElem?_cons_zero, List.getElem?_cons_succ, List.set_cons_zero, List.set_cons_succ, List.map_cons, List.map_nil, List.length_cons, List.length_nil, List.cons_append, List.nil_append, if_true, if_false, Bool.false_eq_true, decide_eq_true_eq, and_true, true_and, ite_true, ite_false, reduceCtorEq, rn_methM, rn_methM0, isTM_eq, rn_mk, rn_st, mk_own, st_own, ty_own, ex_app, ex_ext, ex_extT, ex_rev, ex_pop, rn_storeM, rn_lc, rn_lc2, rn_turn, rn_turn1, rn_frz]
    refine cw_map (F := pF n c) ?_ (fun d hd => ?_) ?_
    · have := Nat.le_trans (choN_len _ (rows_five f (sortS c.wk) 0)) (Nat.pow_le_pow_right (by decide) rl)
      exact small_le (by simp; omega)
    · obtain ⟨t, ht, rfl⟩ := List.mem_map.mp hd
      simp -implicitDefEqProofs only [rn_bind, rn_pure, rn_no, rn_need, rn_opt1, rn_ite, rn_var, rn_put, rn_useD, rn_useN, rn_useO, rn_chkD, rn_chkN, rn_chkO, rn_call, rn_seq, rn_guard, rn_forIn, rn_for0, rn_setD, rn_setN, rn_setO, binM, binMO, unM, cmpT, testM, andT, orT, notT, ifM, asgM, retM, exprM, kM, consA, nilA, tupM, lstM, useAll, chkAll, slM, partM, DL.andM, DL.orM, DL.notM, negM, asgG, gN, gT, gsC, gsN, seqI, frzM, asgTM, dnewM, par2M, hold_d, hold_n, hold_o, d_d, d_n, d_o, out_d, out_n, out_o, fo_next, fo_ret, isBl_b, isInt_i, tr_i, tr_b, tr_n, tr_l, tr_t, it_l, it_r, it_t, li_l, li_r, op_add_i, op_add_l, op_add_t, op_sub_i, op_mul_i, op_mod_i, op_div_i, op_pow_i, op_lt_i, op_le_i, op_gt_i, op_ge_i, op_int_i, op_abs_i, op_len_l, op_len_t, op_len_r, op_tup_l, op_tup_t, op_lst_l, op_lst_t, op_max_i, op_eq_i, eq_go_go, eq_get_get, eq_go_get, eq_get_go, Bool.bne_false, Bool.bne_true, Bool.not_true, Bool.not_false, op_sl_l, op_sl_r, op_sl_t, op_ix_t0, op_ix_t1, op_ix_t2, op_ix_l0, List.getElem?_cons_zero, List.getElem?_cons_succ, List.set_cons_zero, List.set_cons_succ, List.map_cons, List.map_nil, List.length_cons, List.length_nil, List.cons_append, List.nil_append, if_true, if_false, Bool.false_eq_true, decide_eq_true_eq, and_true, true_and, ite_true, ite_false, reduceCtorEq, rn_methM, rn_methM0, isTM_eq, rn_mk, rn_st, mk_own, st_own, ty_own, ex_app, ex_ext, ex_extT, ex_rev, ex_pop, rn_storeM, rn_lc, rn_lc2, rn_turn, rn_turn1, rn_frz, wipeE, Slot.frz]
      refine plain_state_ok (cho_fits f _ ht) h (by omega) fun s hs => ?_
      rw [if_safe rfl ho]
      simp [pF, unI_tI, hs, rn_useD]
    · rw [List.nil_append, pF_eq, if_imms (imms_ints _) ho]
      refine results_ok f ho h hn ?_
      rw [if_safe (imms_lI _) ho]
      simp -implicitDefEqProofs only [rn_bind, rn_pure, rn_no, rn_need, rn_opt1, rn_ite, rn_var, rn_put, rn_useD, rn_useN, rn_useO, rn_chkD, rn_chkN, rn_chkO, rn_call, rn_seq, rn_guard, rn_forIn, rn_for0, rn_setD, rn_setN, rn_setO, binM, binMO, unM, cmpT, testM, andT, orT, notT, ifM, asgM, retM, exprM, kM, consA, nilA, tupM, lstM, useAll, chkAll, slM, partM, DL.andM, DL.orM, DL.notM, negM, asgG, gN, gT, gsC, gsN, seqI, frzM, asgTM, dnewM, par2M, hold_d, hold_n, hold_o, d_d, d_n, d_o, out_d, out_n, out_o, fo_next, fo_ret, isBl_b, isInt_i, tr_i, tr_b, tr_n, tr_l, tr_t, it_l, it_r, it_t, li_l, li_r, op_add_i, op_add_l, op_add_t, op_sub_i, op_mul_i, op_mod_i, op_div_i, op_pow_i, op_lt_i, op_le_i, op_gt_i, op_ge_i, op_int_i, op_abs_i, op_len_l, op_len_t, op_len_r, op_tup_l, op_tup_t, op_lst_l, op_lst_t, op_max_i, op_eq_i, eq_go_go, eq_get_get, eq_go_get, eq_get_go, Bool.bne_false, Bool.bne_true, Bool.not_true, Bool.not_false, op_sl_l, op_sl_r, op_sl_t, op_ix_t0, op_ix_t1, op_ix_t2, op_ix_l0, List.getElem?_cons_zero, List.getElem?_cons_succ, List.set_cons_zero, List.set_cons_succ, List.map_cons, List.map_nil, List.length_cons, List.length_nil, List.cons_append, List.nil_append, if_true, if_false, Bool.false_eq_true, decide_eq_true_eq, and_true, true_and, ite_true, ite_false, reduceCtorEq, rn_methM, rn_methM0, isTM_eq, rn_mk, rn_st, mk_own, st_own, ty_own, ex_app, ex_ext, ex_extT, ex_rev, ex_pop, rn_storeM, rn_lc, rn_lc2, rn_turn, rn_turn1, rn_frz, lI_items]
      refine cw_map (F := nF (plains n c (choN (rowsN (sortS c.wk) 0 lots)))) ?_ (fun d hd => ?_) ?_
      · have := up_len0 (sortS_up (stN lots n c)) (b := 4) (res_fit f h)
        exact small_le (by simp [resN]; omega)
      · obtain ⟨s, hs, rfl⟩ := List.mem_map.mp hd
        simp -implicitDefEqProofs only [rn_bind, rn_pure, rn_no, rn_need, rn_opt1, rn_ite, rn_var, rn_put, rn_useD, rn_useN, rn_useO, rn_chkD, rn_chkN, rn_chkO, rn_call, rn_seq, rn_guard, rn_forIn, rn_for0, rn_setD, rn_setN, rn_setO, binM, binMO, unM, cmpT, testM, andT, orT, notT, ifM, asgM, retM, exprM, kM, consA, nilA, tupM, lstM, useAll, chkAll, slM, partM, DL.andM, DL.orM, DL.notM, negM, asgG, gN, gT, gsC, gsN, seqI, frzM, asgTM, dnewM, par2M, hold_d, hold_n, hold_o, d_d, d_n, d_o, out_d, out_n, out_o, fo_next, fo_ret, isBl_b, isInt_i, tr_i, tr_b, tr_n, tr_l, tr_t, it_l, it_r, it_t, li_l, li_r, op_add_i, op_add_l, op_add_t, op_sub_i, op_mul_i, op_mod_i, op_div_i, op_pow_i, op_lt_i, op_le_i, op_gt_i, op_ge_i, op_int_i, op_abs_i, op_len_l, op_len_t, op_len_r, op_tup_l, op_tup_t, op_lst_l, op_lst_t, op_max_i, op_eq_i, eq_go_go, eq_get_get, eq_go_get, eq_get_go, Bool.bne_false, Bool.bne_true, Bool.not_true, Bool.not_false, op_sl_l, op_sl_r, op_sl_t, op_ix_t0, op_ix_t1, op_ix_t2, op_ix_l0, List.getElem?_cons_zero, List.getElem?_cons_succ, List.set_cons_zero, List.set_cons_succ, List.map_cons, List.map_nil, List.length_cons, List.length_nil, List.cons_append, List.nil_append, if_true, if_false, Bool.false_eq_true, decide_eq_true_eq, and_true, true_and, ite_true, ite_false, reduceCtorEq, rn_methM, rn_methM0, isTM_eq, rn_mk, rn_st, mk_own, st_own, ty_own, ex_app, ex_ext, ex_extT, ex_rev, ex_pop, rn_storeM, rn_lc, rn_lc2, rn_turn, rn_turn1, rn_frz, wipeE, Slot.frz, in_lst]
        rw [show nF (plains n c (choN (rowsN (sortS c.wk) 0 lots))) (.int s) = if s ∈ plains n c (choN (rowsN (sortS c.wk) 0 lots)) then none else some (.int s) from rfl]
        by_cases hp : s ∈ plains n c (choN (rowsN (sortS c.wk) 0 lots))
        · simp [hp]
        · simp [hp]
      · rw [List.nil_append, nF_eq, if_imms (imms_ints _) ho]
        exact q
end LW
end
section
set_option maxRecDepth 100000
namespace LW
open PySem L2 DL
/-! ## the law's own workers -/
mutual
def Cd.pl : Cd → List (List Int)
  | .go _ => [[]]
  | .get _ ds => [] :: Cd.pls 0 ds
def Cd.pls : Nat → List Cd → List (List Int)
  | _, [] => []
  | k, c :: r => (c.pl.map fun p => (k : Int) :: p) ++ Cd.pls (k + 1) r
end
def undC : Cd → List Int → Option Cd
  | c, [] => some c
  | .go _, _ :: _ => none
  | .get _ ds, k :: p => if 0 ≤ k then (ds[k.toNat]?).bind fun d => undC d p else none
mutual
theorem pl_len : ∀ c : Cd, c.pl.length = c.sz
  | .go _ => by simp [Cd.pl, Cd.sz]
  | .get _ ds => by simp only [Cd.pl, Cd.sz, List.length_cons, pls_len 0 ds]; omega
theorem pls_len : ∀ (k : Nat) (ds : List Cd), (Cd.pls k ds).length = Cd.szs ds
  | _, [] => rfl
  | k, c :: r => by simp only [Cd.pls, Cd.szs, List.length_append, List.length_map, pl_len c, pls_len (k + 1) r]
end
theorem pls_snoc : ∀ (a : List Cd) (k : Nat) (c : Cd), Cd.pls k (a ++ [c]) = Cd.pls k a ++ c.pl.map fun p => ((k + a.length : Nat) : Int) :: p
  | [], k, c => by simp [Cd.pls]
  | d :: a, k, c => by
    simp only [List.cons_append, Cd.pls, pls_snoc a (k + 1) c, List.append_assoc, List.length_cons]
    rw [show k + 1 + a.length = k + (a.length + 1) by omega]
theorem pls_mem {q : List Int} : ∀ {ds : List Cd} {k : Nat}, q ∈ Cd.pls k ds ↔ ∃ (i : Nat) (d : Cd) (p : List Int), ds[i]? = some d ∧ p ∈ d.pl ∧ q = ((k + i : Nat) : Int) :: p
  | [], k => by simp [Cd.pls]
  | c :: r, k => by
    simp only [Cd.pls, List.mem_append, List.mem_map, pls_mem (ds := r)]
    constructor
    · rintro (⟨p, hp, rfl⟩ | ⟨i, d, p, h1, h2, rfl⟩)
      · exact ⟨0, c, p, rfl, hp, by simp⟩
      · exact ⟨i + 1, d, p, h1, h2, by rw [show k + 1 + i = k + (i + 1) by omega]⟩
    · rintro ⟨i, d, p, h1, h2, rfl⟩
      cases i with
      | zero => cases h1; exact .inl ⟨p, h2, by simp⟩
      | succ i => exact .inr ⟨i, d, p, h1, h2, by rw [show k + 1 + i = k + (i + 1) by omega]⟩
mutual
theorem und_pl : ∀ (c : Cd) (p : List Int), p ∈ c.pl → ∃ d, undC c p = some d
  | .go s, p, h => by simp [Cd.pl] at h; subst h; exact ⟨_, rfl⟩
  | .get w ds, p, h => by
    simp only [Cd.pl, List.mem_cons] at h
    rcases h with rfl | h
    · exact ⟨_, rfl⟩
    · obtain ⟨i, d, p', h1, h2, rfl⟩ := pls_mem.mp h
      obtain ⟨e, he⟩ := und_pls ds i d h1 p' h2
      exact ⟨e, by simp [undC, h1, he]⟩
theorem und_pls : ∀ (ds : List Cd) (i : Nat) (d : Cd), ds[i]? = some d → ∀ p ∈ d.pl, ∃ e, undC d p = some e
  | [], i, d, h, _, _ => by simp at h
  | c :: r, 0, d, h, p, hp => by cases h; exact und_pl c p hp
  | c :: r, i + 1, d, h, p, hp => und_pls r i d (by simpa using h) p hp
end
mutual
theorem wk_pl (w : Int) : ∀ c : Cd, w ∈ c.wk ↔ ∃ p ∈ c.pl, ∃ d, undC c p = some d ∧ d.top = some w
  | .go s => by simp [Cd.wk, Cd.pl, undC, Cd.top]
  | .get u ds => by
    have ih := wks_pl w ds
    simp only [Cd.wk, Cd.pl, List.mem_cons]
    constructor
    · rintro (rfl | h)
      · exact ⟨[], .inl rfl, _, rfl, rfl⟩
      · obtain ⟨i, d, p, e, h1, h2, h3, h4⟩ := ih.mp h
        exact ⟨(i : Int) :: p, .inr (pls_mem.mpr ⟨i, d, p, h1, h2, by simp⟩), e, by simp [undC, h1, h3], h4⟩
    · rintro ⟨p, rfl | h, d, h1, h2⟩
      · cases h1; cases h2; exact .inl rfl
      · obtain ⟨i, e, p', e1, e2, rfl⟩ := pls_mem.mp h
        refine .inr (ih.mpr ⟨i, e, p', d, e1, e2, ?_, h2⟩)
        simpa [undC, e1] using h1
theorem wks_pl (w : Int) : ∀ ds : List Cd, w ∈ Cd.wks ds ↔ ∃ (i : Nat) (d : Cd) (p : List Int) (e : Cd), ds[i]? = some d ∧ p ∈ d.pl ∧ undC d p = some e ∧ e.top = some w
  | [] => by simp [Cd.wks]
  | c :: r => by
    have h1 := wk_pl w c
    have h2 := wks_pl w r
    simp only [Cd.wks, List.mem_append, h1, h2]
    constructor
    · rintro (⟨p, hp, d, a, b⟩ | ⟨i, d, p, e, a, b, c', d'⟩)
      · exact ⟨0, c, p, d, rfl, hp, a, b⟩
      · exact ⟨i + 1, d, p, e, a, b, c', d'⟩
    · rintro ⟨i, d, p, e, a, b, c', d'⟩
      cases i with
      | zero => cases a; exact .inl ⟨p, b, e, c', d'⟩
      | succ i => exact .inr ⟨i, d, p, e, a, b, c', d'⟩
end
theorem add_cons {a : List Int} {k : Int} {Q : Res → Sx → Prop} {S : Sx} : Rn (opAdd (.tup [.int k]) (tI a)) S Q = (1 + a.length ≤ sizeLine ∧ Q (.dat (tI (k :: a))) S) := by
  unfold tI
  rw [op_add_t]
  simp
def kF (k : Int) (d : D) : Option D := some (tI (k :: unI d))
theorem kF_eq (k : Int) : ∀ ps : List (List Int), (ps.map tI).filterMap (kF k) = (ps.map fun p => k :: p).map tI
  | [] => rfl
  | p :: r => by
    rw [List.map_cons, List.filterMap_cons, kF, unI_tI]
    simp only
    rw [kF_eq k r]
    rfl
mutual
theorem pl_short {many : List Int} : ∀ (n : Nat) (c : Cd), c.Ok many n → ∀ p ∈ c.pl, p.length ≤ n
  | n, .go s, _, p, hp => by simp [Cd.pl] at hp; subst hp; simp
  | 0, .get _ _, h, _, _ => h.elim
  | n + 1, .get w ds, h, p, hp => by
    simp only [Cd.pl, List.mem_cons] at hp
    rcases hp with rfl | hp
    · simp
    · obtain ⟨i, d, p', h1, h2, rfl⟩ := pls_mem.mp hp
      have := pls_short n ds h.2.2 i d h1 p' h2
      simp; omega
theorem pls_short {many : List Int} : ∀ (n : Nat) (ds : List Cd), Cd.Oks many n ds → ∀ (i : Nat) (d : Cd), ds[i]? = some d → ∀ p ∈ d.pl, p.length ≤ n
  | n, [], _, i, d, h, _, _ => by simp at h
  | n, c :: r, h, 0, d, e, p, hp => by cases e; exact pl_short n c h.1 p hp
  | n, c :: r, h, i + 1, d, e, p, hp => pls_short n r h.2 i d (by simpa using e) p hp
end
theorem enum_cons {k : Nat} {c : Cd} {r : List Cd} : enumD k (Cd.toDs (c :: r)) = .tup [.int k, c.toD] :: enumD (k + 1) (Cd.toDs r) := rfl
theorem places_ok {many : List Int} (hm : ManyOk many) {o : List D} (ho : (o.all fun o => D.imms o.parts) = true) : ∀ (m n : Nat) (c : Cd), c.Ok many n → n < m → n ≤ 4 → ∀ {Q : Res → List D → Prop}, Q (.new (.lst (c.pl.map tI))) o → Dr (d__law_places m) [c.toD] o Q
  | 0, n, c, _, h, _, _, _ => absurd h (Nat.not_lt_zero _)
  | m + 1, n, c, h, hnm, hn4, Q, q => by
    show Dr (runB 5 (b__law_places (d__law_places m))) [c.toD] o Q
    unfold b__law_places
    rw [dr_run]
    cases c with
    | go s =>
      unfold Cd.toD
      simp -implicitDefEqProofs only [rn_bind, rn_pure, rn_no, rn_need, rn_opt1, rn_ite, rn_var, rn_put, rn_useD, rn_useN, rn_useO, rn_chkD, rn_chkN, rn_chkO, rn_call, rn_seq, rn_guard, rn_forIn, rn_for0, rn_setD, rn_setN, rn_setO, binM, binMO, unM, cmpT, testM, andT, orT, notT, ifM, asgM, retM, exprM, kM, consA, nilA, tupM, lstM, useAll, chkAll, slM, partM, DL.andM, DL.orM, DL.notM, negM, asgG, gN, gT, gsC, gsN, seqI, frzM, asgTM, dnewM, par2M, hold_d, hold_n, hold_o, d_d, d_n, d_o, out_d, out_n, out_o, fo_next, fo_ret, isBl_b, isInt_i, tr_i, tr_b, tr_n, tr_l, tr_t, it_l, it_r, it_t, li_l, li_r, op_add_i, op_add_l, op_add_t, op_sub_i, op_mul_i, op_mod_i, op_div_i, op_pow_i, op_lt_i, op_le_i, op_gt_i, op_ge_i, op_int_i, op_abs_i, op_len_l, op_len_t, op_len_r, op_tup_l, op_tup_t, op_lst_l, op_lst_t, op_max_i, op_eq_i, eq_go_go, eq_get_get, eq_go_get, eq_get_go, Bool.bne_false, Bool.bne_true, Bool.not_true, Bool.not_false, op_sl_l, op_sl_r, op_sl_t, op_ix_t0, op_ix_t1, op_ix_t2, op_ix_l0, List.getElem?_cons_zero, List.getElem?_cons_succ, List.set_cons_zero, List.set_cons_succ, List.map_cons, List.map_nil, List.length_cons, List.length_nil, List.cons_append, List.nil_append, if_true, if_false, Bool.false_eq_true, decide_eq_true_eq, and_true, true_and, ite_true, ite_false, reduceCtorEq, rn_methM, rn_methM0, isTM_eq, rn_mk, rn_st, mk_own, st_own, ty_own, ex_app, ex_ext, ex_extT, ex_rev, ex_pop, rn_storeM, rn_lc, rn_lc2, rn_turn, rn_turn1, rn_frz, List.replicate]
      exact ⟨small_le (by decide), small_le (by decide), q⟩
    | get w ds =>
      cases n with
      | zero => exact h.elim
      | succ n =>
        have hsz := sz_le4 hm h hn4
        unfold Cd.toD
        simp -implicitDefEqProofs only [rn_bind, rn_pure, rn_no, rn_need, rn_opt1, rn_ite, rn_var, rn_put, rn_useD, rn_useN, rn_useO, rn_chkD, rn_chkN, rn_chkO, rn_call, rn_seq, rn_guard, rn_forIn, rn_for0, rn_setD, rn_setN, rn_setO, binM, binMO, unM, cmpT, testM, andT, orT, notT, ifM, asgM, retM, exprM, kM, consA, nilA, tupM, lstM, useAll, chkAll, slM, partM, DL.andM, DL.orM, DL.notM, negM, asgG, gN, gT, gsC, gsN, seqI, frzM, asgTM, dnewM, par2M, hold_d, hold_n, hold_o, d_d, d_n, d_o, out_d, out_n, out_o, fo_next, fo_ret, isBl_b, isInt_i, tr_i, tr_b, tr_n, tr_l, tr_t, it_l, it_r, it_t, li_l, li_r, op_add_i, op_add_l, op_add_t, op_sub_i, op_mul_i, op_mod_i, op_div_i, op_pow_i, op_lt_i, op_le_i, op_gt_i, op_ge_i, op_int_i, op_abs_i, op_len_l, op_len_t, op_len_r, op_tup_l, op_tup_t, op_lst_l, op_lst_t, op_max_i, op_eq_i, eq_go_go, eq_get_get, eq_go_get, eq_get_go, Bool.bne_false, Bool.bne_true, Bool.not_true, Bool.not_false, op_sl_l, op_sl_r, op_sl_t, op_ix_t0, op_ix_t1, op_ix_t2, op_ix_l0, List.getElem?_cons_zero, List.getElem?_cons_succ, List.set_cons_zero, List.set_cons_succ, List.map_cons, List.map_nil, List.length_cons, List.length_nil, List.cons_append, List.nil_append, if_true, if_false, Bool.false_eq_true, decide_eq_true_eq, and_true, true_and, ite_true, ite_false, reduceCtorEq, rn_methM, rn_methM0, isTM_eq, rn_mk, rn_st, mk_own, st_own, ty_own, ex_app, ex_ext, ex_extT, ex_rev, ex_pop, rn_storeM, rn_lc, rn_lc2, rn_turn, rn_turn1, rn_frz, List.replicate, enumI]
        refine ⟨small_le (by decide), small_le (by decide), ?_⟩
        refine for_inv (I := fun xs S => ∃ d1 d2 s2 s3 s4, ds = d1 ++ d2 ∧ xs = enumD d1.length (Cd.toDs d2) ∧ S = ⟨[.dat (.tup [.str "get", .int w, .tup (Cd.toDs ds)]), .own (.lst (([] :: Cd.pls 0 d1).map tI)), s2, s3, s4], o⟩) ⟨[], ds, _, _, _, rfl, rfl, rfl⟩ ?_ ?_
        · rintro x xs S ⟨d1, d2, s2, s3, s4, e1, e2, rfl⟩
          cases d2 with
          | nil => cases e2
          | cons d d2 =>
            rw [enum_cons] at e2
            cases e2
            have hd : d.Ok many n := Oks_get h.2.2 (i := d1.length) (by rw [e1, List.getElem?_append_right (Nat.le_refl _), Nat.sub_self]; rfl)
            have hs : Cd.szs ds = Cd.szs d1 + (d.sz + Cd.szs d2) := by rw [e1, szs_app]; rfl
            have hsz' : 1 + Cd.szs ds ≤ 625 := hsz
            simp -implicitDefEqProofs only [rn_bind, rn_pure, rn_no, rn_need, rn_opt1, rn_ite, rn_var, rn_put, rn_useD, rn_useN, rn_useO, rn_chkD, rn_chkN, rn_chkO, rn_call, rn_seq, rn_guard, rn_forIn, rn_for0, rn_setD, rn_setN, rn_setO, binM, binMO, unM, cmpT, testM, andT, orT, notT, ifM, asgM, retM, exprM, kM, consA, nilA, tupM, lstM, useAll, chkAll, slM, partM, DL.andM, DL.orM, DL.notM, negM, asgG, gN, gT, gsC, gsN, seqI, frzM, asgTM, dnewM, par2M, hold_d, hold_n, hold_o, d_d, d_n, d_o, out_d, out_n, out_o, fo_next, fo_ret, isBl_b, isInt_i, tr_i, tr_b, tr_n, tr_l, tr_t, it_l, it_r, it_t, li_l, li_r, op_add_i, op_add_l, op_add_t, op_sub_i, op_mul_i, op_mod_i, op_div_i, op_pow_i, op_lt_i, op_le_i, op_gt_i, op_ge_i, op_int_i, op_abs_i, op_len_l, op_len_t, op_len_r, op_tup_l, op_tup_t, op_lst_l, op_lst_t, op_max_i, op_eq_i, eq_go_go, eq_get_get, eq_go_get, eq_get_go, Bool.bne_false, Bool.bne_true, Bool.not_true, Bool.not_false, op_sl_l, op_sl_r, op_sl_t, op_ix_t0, op_ix_t1, op_ix_t2, op_ix_l0, List.getElem?_cons_zero, List.getElem?_cons_succ, List.set_cons_zero, List.set_cons_succ, List.map_cons, List.map_nil, List.length_cons, List.length_nil, List.cons_append, List.nil_append, if_true, if_false, Bool.false_eq_true, decide_eq_true_eq, and_true, true_and, ite_true, ite_false, reduceCtorEq, rn_methM, rn_methM0, isTM_eq, rn_mk, rn_st, mk_own, st_own, ty_own, ex_app, ex_ext, ex_extT, ex_rev, ex_pop, rn_storeM, rn_lc, rn_lc2, rn_turn, rn_turn1, rn_frz]
            refine places_ok hm ho m n d hd (by omega) (by omega) ?_
            rw [if_safe (show (Res.new (.lst (d.pl.map tI))).safe = true from imms_tI _) ho]
            simp -implicitDefEqProofs only [rn_bind, rn_pure, rn_no, rn_need, rn_opt1, rn_ite, rn_var, rn_put, rn_useD, rn_useN, rn_useO, rn_chkD, rn_chkN, rn_chkO, rn_call, rn_seq, rn_guard, rn_forIn, rn_for0, rn_setD, rn_setN, rn_setO, binM, binMO, unM, cmpT, testM, andT, orT, notT, ifM, asgM, retM, exprM, kM, consA, nilA, tupM, lstM, useAll, chkAll, slM, partM, DL.andM, DL.orM, DL.notM, negM, asgG, gN, gT, gsC, gsN, seqI, frzM, asgTM, dnewM, par2M, hold_d, hold_n, hold_o, d_d, d_n, d_o, out_d, out_n, out_o, fo_next, fo_ret, isBl_b, isInt_i, tr_i, tr_b, tr_n, tr_l, tr_t, it_l, it_r, it_t, li_l, li_r, op_add_i, op_add_l, op_add_t, op_sub_i, op_mul_i, op_mod_i, op_div_i, op_pow_i, op_lt_i, op_le_i, op_gt_i, op_ge_i, op_int_i, op_abs_i, op_len_l, op_len_t, op_len_r, op_tup_l, op_tup_t, op_lst_l, op_lst_t, op_max_i, op_eq_i, eq_go_go, eq_get_get, eq_go_get, eq_get_go, Bool.bne_false, Bool.bne_true, Bool.not_true, Bool.not_false, op_sl_l, op_sl_r, op_sl_t, op_ix_t0, op_ix_t1, op_ix_t2, op_ix_l0, List.getElem?_cons_zero, List.getElem?_cons_succ, List.set_cons_zero, List.set_cons_succ, List.map_cons, List.map_nil, List.length_cons, List.length_nil, List.cons_append, List.nil_append, if_true, if_false, Bool.false_eq_true, decide_eq_true_eq, and_true, true_and, ite_true, ite_false, reduceCtorEq, rn_methM, rn_methM0, isTM_eq, rn_mk, rn_st, mk_own, st_own, ty_own, ex_app, ex_ext, ex_extT, ex_rev, ex_pop, rn_storeM, rn_lc, rn_lc2, rn_turn, rn_turn1, rn_frz]
            refine cw_map (F := kF d1.length) ?_ (fun e he => ?_) ?_
            · exact small_le (by simp [pl_len]; omega)
            · obtain ⟨p, hp, rfl⟩ := List.mem_map.mp he
              have := pl_short n d hd p hp
              simp -implicitDefEqProofs only [rn_bind, rn_pure, rn_no, rn_need, rn_opt1, rn_ite, rn_var, rn_put, rn_useD, rn_useN, rn_useO, rn_chkD, rn_chkN, rn_chkO, rn_call, rn_seq, rn_guard, rn_forIn, rn_for0, rn_setD, rn_setN, rn_setO, binM, binMO, unM, cmpT, testM, andT, orT, notT, ifM, asgM, retM, exprM, kM, consA, nilA, tupM, lstM, useAll, chkAll, slM, partM, DL.andM, DL.orM, DL.notM, negM, asgG, gN, gT, gsC, gsN, seqI, frzM, asgTM, dnewM, par2M, hold_d, hold_n, hold_o, d_d, d_n, d_o, out_d, out_n, out_o, fo_next, fo_ret, isBl_b, isInt_i, tr_i, tr_b, tr_n, tr_l, tr_t, it_l, it_r, it_t, li_l, li_r, op_add_i, op_add_l, op_add_t, op_sub_i, op_mul_i, op_mod_i, op_div_i, op_pow_i, op_lt_i, op_le_i, op_gt_i, op_ge_i, op_int_i, op_abs_i, op_len_l, op_len_t, op_len_r, op_tup_l, op_tup_t, op_lst_l, op_lst_t, op_max_i, op_eq_i, eq_go_go, eq_get_get, eq_go_get, eq_get_go, Bool.bne_false, Bool.bne_true, Bool.not_true, Bool.not_false, op_sl_l, op_sl_r, op_sl_t, op_ix_t0, op_ix_t1, op_ix_t2, op_ix_l0, List.getElem?_cons_zero, List.getElem?_cons_succ, List.set_cons_zero, List.set_cons_succ, List.map_cons, List.map_nil, List.length_cons, List.length_nil, List.cons_append, List.nil_append, if_true, if_false, Bool.false_eq_true, decide_eq_true_eq, and_true, true_and, ite_true, ite_false, reduceCtorEq, rn_methM, rn_methM0, isTM_eq, rn_mk, rn_st, mk_own, st_own, ty_own, ex_app, ex_ext, ex_extT, ex_rev, ex_pop, rn_storeM, rn_lc, rn_lc2, rn_turn, rn_turn1, rn_frz, wipeE, Slot.frz, add_cons, kF, unI_tI]
              exact ⟨small_le (by decide), small_le (by omega)⟩
            · rw [List.nil_append, kF_eq, if_imms (imms_tI _) ho]
              refine ⟨small_le (by simp [pl_len, pls_len]; omega), d1 ++ [d], d2, .dat (.int d1.length), .dat d.toD, s4, by rw [e1]; simp, by simp, ?_⟩
              rw [pls_snoc]
              simp
        · rintro S ⟨d1, d2, s2, s3, s4, e1, e2, rfl⟩
          have : d2 = [] := by
            cases d2 with
            | nil => rfl
            | cons x r => cases e2
          subst this
          rw [List.append_nil] at e1
          subst e1
          simp -implicitDefEqProofs only [rn_bind, rn_pure, rn_no, rn_need, rn_opt1, rn_ite, rn_var, rn_put, rn_useD, rn_useN, rn_useO, rn_chkD, rn_chkN, rn_chkO, rn_call, rn_seq, rn_guard, rn_forIn, rn_for0, rn_setD, rn_setN, rn_setO, binM, binMO, unM, cmpT, testM, andT, orT, notT, ifM, asgM, retM, exprM, kM, consA, nilA, tupM, lstM, useAll, chkAll, slM, partM, DL.andM, DL.orM, DL.notM, negM, asgG, gN, gT, gsC, gsN, seqI, frzM, asgTM, dnewM, par2M, hold_d, hold_n, hold_o, d_d, d_n, d_o, out_d, out_n, out_o, fo_next, fo_ret, isBl_b, isInt_i, tr_i, tr_b, tr_n, tr_l, tr_t, it_l, it_r, it_t, li_l, li_r, op_add_i, op_add_l, op_add_t, op_sub_i, op_mul_i, op_mod_i, op_div_i, op_pow_i, op_lt_i, op_le_i, op_gt_i, op_ge_i, op_int_i, op_abs_i, op_len_l, op_len_t, op_len_r, op_tup_l, op_tup_t, op_lst_l, op_lst_t, op_max_i, op_eq_i, eq_go_go, eq_get_get, eq_go_get, eq_get_go, Bool.bne_false, Bool.bne_true, Bool.not_true, Bool.not_false, op_sl_l, op_sl_r, op_sl_t, op_ix_t0, op_ix_t1, op_ix_t2, op_ix_l0, List.getElem?_cons_zero, List.getElem?_cons_succ, List.set_cons_zero, List.set_cons_succ, List.map_cons, List.map_nil, List.length_cons, List.length_nil, List.cons_append, List.nil_append, if_true, if_false, Bool.false_eq_true, decide_eq_true_eq, and_true, true_and, ite_true, ite_false, reduceCtorEq, rn_methM, rn_methM0, isTM_eq, rn_mk, rn_st, mk_own, st_own, ty_own, ex_app, ex_ext, ex_extT, ex_rev, ex_pop, rn_storeM, rn_lc, rn_lc2, rn_turn, rn_turn1, rn_frz]
          exact q
theorem under_ok {o : List D} {c d : Cd} {p : List Int} (h : undC c p = some d) {Q : Res → List D → Prop} (q : Q (.dat d.toD) o) : Dr d__law_under [c.toD, tI p] o Q := by
  unfold d__law_under b__law_under
  rw [dr_run]
  simp -implicitDefEqProofs only [rn_bind, rn_pure, rn_no, rn_need, rn_opt1, rn_ite, rn_var, rn_put, rn_useD, rn_useN, rn_useO, rn_chkD, rn_chkN, rn_chkO, rn_call, rn_seq, rn_guard, rn_forIn, rn_for0, rn_setD, rn_setN, rn_setO, binM, binMO, unM, cmpT, testM, andT, orT, notT, ifM, asgM, retM, exprM, kM, consA, nilA, tupM, lstM, useAll, chkAll, slM, partM, DL.andM, DL.orM, DL.notM, negM, asgG, gN, gT, gsC, gsN, seqI, frzM, asgTM, dnewM, par2M, hold_d, hold_n, hold_o, d_d, d_n, d_o, out_d, out_n, out_o, fo_next, fo_ret, isBl_b, isInt_i, tr_i, tr_b, tr_n, tr_l, tr_t, it_l, it_r, it_t, li_l, li_r, op_add_i, op_add_l, op_add_t, op_sub_i, op_mul_i, op_mod_i, op_div_i, op_pow_i, op_lt_i, op_le_i, op_gt_i, op_ge_i, op_int_i, op_abs_i, op_len_l, op_len_t, op_len_r, op_tup_l, op_tup_t, op_lst_l, op_lst_t, op_max_i, op_eq_i, eq_go_go, eq_get_get, eq_go_get, eq_get_go, Bool.bne_false, Bool.bne_true, Bool.not_true, Bool.not_false, op_sl_l, op_sl_r, op_sl_t, op_ix_t0, op_ix_t1, op_ix_t2, op_ix_l0, List.getElem?_cons_zero, List.getElem?_cons_succ, List.set_cons_zero, List.set_cons_succ, List.map_cons, List.map_nil, List.length_cons, List.length_nil, List.cons_append, List.nil_append, if_true, if_false, Bool.false_eq_true, decide_eq_true_eq, and_true, true_and, ite_true, ite_false, reduceCtorEq, rn_methM, rn_methM0, isTM_eq, rn_mk, rn_st, mk_own, st_own, ty_own, ex_app, ex_ext, ex_extT, ex_rev, ex_pop, rn_storeM, rn_lc, rn_lc2, rn_turn, rn_turn1, rn_frz, List.replicate, it_tI]
  refine for_inv (I := fun xs S => ∃ c' p' s2, undC c' p' = some d ∧ xs = p'.map D.int ∧ S = ⟨[.dat c'.toD, .dat (tI p), s2], o⟩) ⟨c, p, _, h, rfl, rfl⟩ ?_ ?_
  · rintro x xs S ⟨c', p', s2, e1, e2, rfl⟩
    cases p' with
    | nil => cases e2
    | cons k p' =>
      rw [List.map_cons] at e2
      cases e2
      cases c' with
      | go s => cases e1
      | get w ds =>
        simp only [undC] at e1
        split at e1
        · rename_i k0
          obtain ⟨e, h1, h2⟩ := Option.bind_eq_some_iff.mp e1
          obtain ⟨j, rfl⟩ := toNat_int k0
          simp only [Cd.toD]
          simp -implicitDefEqProofs only [rn_bind, rn_pure, rn_no, rn_need, rn_opt1, rn_ite, rn_var, rn_put, rn_useD, rn_useN, rn_useO, rn_chkD, rn_chkN, rn_chkO, rn_call, rn_seq, rn_guard, rn_forIn, rn_for0, rn_setD, rn_setN, rn_setO, binM, binMO, unM, cmpT, testM, andT, orT, notT, ifM, asgM, retM, exprM, kM, consA, nilA, tupM, lstM, useAll, chkAll, slM, partM, DL.andM, DL.orM, DL.notM, negM, asgG, gN, gT, gsC, gsN, seqI, frzM, asgTM, dnewM, par2M, hold_d, hold_n, hold_o, d_d, d_n, d_o, out_d, out_n, out_o, fo_next, fo_ret, isBl_b, isInt_i, tr_i, tr_b, tr_n, tr_l, tr_t, it_l, it_r, it_t, li_l, li_r, op_add_i, op_add_l, op_add_t, op_sub_i, op_mul_i, op_mod_i, op_div_i, op_pow_i, op_lt_i, op_le_i, op_gt_i, op_ge_i, op_int_i, op_abs_i, op_len_l, op_len_t, op_len_r, op_tup_l, op_tup_t, op_lst_l, op_lst_t, op_max_i, op_eq_i, eq_go_go, eq_get_get, eq_go_get, eq_get_go, Bool.bne_false, Bool.bne_true, Bool.not_true, Bool.not_false, op_sl_l, op_sl_r, op_sl_t, op_ix_t0, op_ix_t1, op_ix_t2, op_ix_l0, List.getElem?_cons_zero, List.getElem?_cons_succ, List.set_cons_zero, List.set_cons_succ, List.map_cons, List.map_nil, List.length_cons, List.length_nil, List.cons_append, List.nil_append, if_true, if_false, Bool.false_eq_true, decide_eq_true_eq, and_true, true_and, ite_true, ite_false, reduceCtorEq, rn_methM, rn_methM0, isTM_eq, rn_mk, rn_st, mk_own, st_own, ty_own, ex_app, ex_ext, ex_extT, ex_rev, ex_pop, rn_storeM, rn_lc, rn_lc2, rn_turn, rn_turn1, rn_frz, ix_ds (show ds[j]? = some e by simpa using h1)]
          exact ⟨e, p', _, h2, rfl, rfl⟩
        · cases e1
  · rintro S ⟨c', p', s2, e1, e2, rfl⟩
    have : p' = [] := by
      cases p' with
      | nil => rfl
      | cons x r => cases e2
    subst this
    cases e1
    simp -implicitDefEqProofs only [rn_bind, rn_pure, rn_no, rn_need, rn_opt1, rn_ite, rn_var, rn_put, rn_useD, rn_useN, rn_useO, rn_chkD, rn_chkN, rn_chkO, rn_call, rn_seq, rn_guard, rn_forIn, rn_for0, rn_setD, rn_setN, rn_setO, binM, binMO, unM, cmpT, testM, andT, orT, notT, ifM, asgM, retM, exprM, kM, consA, nilA, tupM, lstM, useAll, chkAll, slM, partM, DL.andM, DL.orM, DL.notM, negM, asgG, gN, gT, gsC, gsN, seqI, frzM, asgTM, dnewM, par2M, hold_d, hold_n, hold_o, d_d, d_n, d_o, out_d, out_n, out_o, fo_next, fo_ret, isBl_b, isInt_i, tr_i, tr_b, tr_n, tr_l, tr_t, it_l, it_r, it_t, li_l, li_r, op_add_i, op_add_l, op_add_t, op_sub_i, op_mul_i, op_mod_i, op_div_i, op_pow_i, op_lt_i, op_le_i, op_gt_i, op_ge_i, op_int_i, op_abs_i, op_len_l, op_len_t, op_len_r, op_tup_l, op_tup_t, op_lst_l, op_lst_t, op_max_i, op_eq_i, eq_go_go, eq_get_get, eq_go_get, eq_get_go, Bool.bne_false, Bool.bne_true, Bool.not_true, Bool.not_false, op_sl_l, op_sl_r, op_sl_t, op_ix_t0, op_ix_t1, op_ix_t2, op_ix_l0, List.getElem?_cons_zero, List.getElem?_cons_succ, List.set_cons_zero, List.set_cons_succ, List.map_cons, List.map_nil, List.length_cons, List.length_nil, List.cons_append, List.nil_append, if_true, if_false, Bool.false_eq_true, decide_eq_true_eq, and_true, true_and, ite_true, ite_false, reduceCtorEq, rn_methM, rn_methM0, isTM_eq, rn_mk, rn_st, mk_own, st_own, ty_own, ex_app, ex_ext, ex_extT, ex_rev, ex_pop, rn_storeM, rn_lc, rn_lc2, rn_turn, rn_turn1, rn_frz]
    exact q
/-! ### whom -/
def wF (c : Cd) (d : D) : Option D := (undC c (unI d)).map Cd.toD
theorem wF_eq (c : Cd) : ∀ ps : List (List Int), (ps.map tI).filterMap (wF c) = (ps.filterMap (undC c)).map Cd.toD
  | [] => rfl
  | p :: r => by
    rw [List.map_cons, List.filterMap_cons, wF, unI_tI, List.filterMap_cons]
    cases undC c p with
    | none => exact wF_eq c r
    | some d =>
      simp only [Option.map_some, List.map_cons]
      congr 1
      exact wF_eq c r
def tF (d : D) : Option D := match d with
  | .tup [.str _, w, .tup _] => some w
  | _ => none
theorem tF_eq : ∀ ds : List Cd, (ds.map Cd.toD).filterMap tF = (ds.filterMap Cd.top).map .int
  | [] => rfl
  | c :: r => by
    rw [List.map_cons, List.filterMap_cons, List.filterMap_cons]
    cases c with
    | go s =>
      rw [show tF (Cd.go s).toD = none from rfl, show (Cd.go s).top = none from rfl]
      exact tF_eq r
    | get w ds =>
      rw [show tF (Cd.get w ds).toD = some (.int w) from rfl, show (Cd.get w ds).top = some w from rfl]
      simp only [List.map_cons]
      congr 1
      exact tF_eq r
theorem whom_ok {many : List Int} (hm : ManyOk many) {o : List D} (ho : (o.all fun o => D.imms o.parts) = true) {n : Nat} {c : Cd} (h : c.Ok many n) (hn : n ≤ 4) {Q : Res → List D → Prop} (q : Q (.new (lI (sortS c.wk))) o) : Dr d__law_whom [c.toD] o Q := by
  have hsz := sz_le4 hm h hn
  unfold d__law_whom b__law_whom
  rw [dr_run]
  simp -implicitDefEqProofs only [rn_bind, rn_pure, rn_no, rn_need, rn_opt1, rn_ite, rn_var, rn_put, rn_useD, rn_useN, rn_useO, rn_chkD, rn_chkN, rn_chkO, rn_call, rn_seq, rn_guard, rn_forIn, rn_for0, rn_setD, rn_setN, rn_setO, binM, binMO, unM, cmpT, testM, andT, orT, notT, ifM, asgM, retM, exprM, kM, consA, nilA, tupM, lstM, useAll, chkAll, slM, partM, DL.andM, DL.orM, DL.notM, negM, asgG, gN, gT, gsC, gsN, seqI, frzM, asgTM, dnewM, par2M, hold_d, hold_n, hold_o, d_d, d_n, d_o, out_d, out_n, out_o, fo_next, fo_ret, isBl_b, isInt_i, tr_i, tr_b, tr_n, tr_l, tr_t, it_l, it_r, it_t, li_l, li_r, op_add_i, op_add_l, op_add_t, op_sub_i, op_mul_i, op_mod_i, op_div_i, op_pow_i, op_lt_i, op_le_i, op_gt_i, op_ge_i, op_int_i, op_abs_i, op_len_l, op_len_t, op_len_r, op_tup_l, op_tup_t, op_lst_l, op_lst_t, op_max_i, op_eq_i, eq_go_go, eq_get_get, eq_go_get, eq_get_go, Bool.bne_false, Bool.bne_true, Bool.not_true, Bool.not_false, op_sl_l, op_sl_r, op_sl_t, op_ix_t0, op_ix_t1, op_ix_t2, op_ix_l0, List.getElem?_cons_zero, List.getElem?_cons_succ, List.set_cons_zero, List.set_cons_succ, List.map_cons, List.map_nil, List.length_cons, List.length_nil, List.cons_append, List.nil_append, if_true, if_false, Bool.false_eq_true, decide_eq_true_eq, and_true, true_and, ite_true, ite_false, reduceCtorEq, rn_methM, rn_methM0, isTM_eq, rn_mk, rn_st, mk_own, st_own, ty_own, ex_app, ex_ext, ex_extT, ex_rev, ex_pop, rn_storeM, rn_lc, rn_lc2, rn_turn, rn_turn1, rn_frz, List.replicate]
  refine places_ok hm ho 5 n c h (by omega) hn ?_
  rw [if_safe (show (Res.new (.lst (c.pl.map tI))).safe = true from imms_tI _) ho]
  simp -implicitDefEqProofs only [rn_bind, rn_pure, rn_no, rn_need, rn_opt1, rn_ite, rn_var, rn_put, rn_useD, rn_useN, rn_useO, rn_chkD, rn_chkN, rn_chkO, rn_call, rn_seq, rn_guard, rn_forIn, rn_for0, rn_setD, rn_setN, rn_setO, binM, binMO, unM, cmpT, testM, andT, orT, notT, ifM, asgM, retM, exprM, kM, consA, nilA, tupM, lstM, useAll, chkAll, slM, partM, DL.andM, DL.orM, DL.notM, negM, asgG, gN, gT, gsC, gsN, seqI, frzM, asgTM, dnewM, par2M, hold_d, hold_n, hold_o, d_d, d_n, d_o, out_d, out_n, out_o, fo_next, fo_ret, isBl_b, isInt_i, tr_i, tr_b, tr_n, tr_l, tr_t, it_l, it_r, it_t, li_l, li_r, op_add_i, op_add_l, op_add_t, op_sub_i, op_mul_i, op_mod_i, op_div_i, op_pow_i, op_lt_i, op_le_i, op_gt_i, op_ge_i, op_int_i, op_abs_i, op_len_l, op_len_t, op_len_r, op_tup_l, op_tup_t, op_lst_l, op_lst_t, op_max_i, op_eq_i, eq_go_go, eq_get_get, eq_go_get, eq_get_go, Bool.bne_false, Bool.bne_true, Bool.not_true, Bool.not_false, op_sl_l, op_sl_r, op_sl_t, op_ix_t0, op_ix_t1, op_ix_t2, op_ix_l0, List.getElem?_cons_zero, List.getElem?_cons_succ, List.set_cons_zero, List.set_cons_succ, List.map_cons, List.map_nil, List.length_cons, List.length_nil, List.cons_append, List.nil_append, if_true, if_false, Bool.false_eq_true, decide_eq_true_eq, and_true, true_and, ite_true, ite_false, reduceCtorEq, rn_methM, rn_methM0, isTM_eq, rn_mk, rn_st, mk_own, st_own, ty_own, ex_app, ex_ext, ex_extT, ex_rev, ex_pop, rn_storeM, rn_lc, rn_lc2, rn_turn, rn_turn1, rn_frz]
  refine cw_map (F := wF c) ?_ (fun d hd => ?_) ?_
  · exact small_le (by simp [pl_len]; omega)
  · obtain ⟨p, hp, rfl⟩ := List.mem_map.mp hd
    obtain ⟨e, he⟩ := und_pl c p hp
    simp -implicitDefEqProofs only [rn_bind, rn_pure, rn_no, rn_need, rn_opt1, rn_ite, rn_var, rn_put, rn_useD, rn_useN, rn_useO, rn_chkD, rn_chkN, rn_chkO, rn_call, rn_seq, rn_guard, rn_forIn, rn_for0, rn_setD, rn_setN, rn_setO, binM, binMO, unM, cmpT, testM, andT, orT, notT, ifM, asgM, retM, exprM, kM, consA, nilA, tupM, lstM, useAll, chkAll, slM, partM, DL.andM, DL.orM, DL.notM, negM, asgG, gN, gT, gsC, gsN, seqI, frzM, asgTM, dnewM, par2M, hold_d, hold_n, hold_o, d_d, d_n, d_o, out_d, out_n, out_o, fo_next, fo_ret, isBl_b, isInt_i, tr_i, tr_b, tr_n, tr_l, tr_t, it_l, it_r, it_t, li_l, li_r, op_add_i, op_add_l, op_add_t, op_sub_i, op_mul_i, op_mod_i, op_div_i, op_pow_i, op_lt_i, op_le_i, op_gt_i, op_ge_i, op_int_i, op_abs_i, op_len_l, op_len_t, op_len_r, op_tup_l, op_tup_t, op_lst_l, op_lst_t, op_max_i, op_eq_i, eq_go_go, eq_get_get, eq_go_get, eq_get_go, Bool.bne_false, Bool.bne_true, Bool.not_true, Bool.not_false, op_sl_l, op_sl_r, op_sl_t, op_ix_t0, op_ix_t1, op_ix_t2, op_ix_l0, List.getElem?_cons_zero, List.getElem?_cons_succ, List.set_cons_zero, List.set_cons_succ, List.map_cons, List.map_nil, List.length_cons, List.length_nil, List.cons_append, List.nil_append, if_true, if_false, Bool.false_eq_true, decide_eq_true_eq, and_true, true_and, ite_true, ite_false, reduceCtorEq, rn_methM, rn_methM0, isTM_eq, rn_mk, rn_st, mk_own, st_own, ty_own, ex_app, ex_ext, ex_extT, ex_rev, ex_pop, rn_storeM, rn_lc, rn_lc2, rn_turn, rn_turn1, rn_frz, wipeE, Slot.frz]
    refine under_ok he ?_
    rw [if_safe (show (Res.dat e.toD).safe = true from Cd.imm e) ho]
    simp [wF, unI_tI, he, rn_useD]
  · rw [List.nil_append, wF_eq, if_imms (cds_imm _) ho]
    have hl : (c.pl.filterMap (undC c)).length ≤ 625 := Nat.le_trans (List.length_filterMap_le _ _) (by rw [pl_len]; exact hsz)
    refine cw_map (F := tF) ?_ (fun d hd => ?_) ?_
    · exact small_le (by simp; omega)
    · obtain ⟨e, he, rfl⟩ := List.mem_map.mp hd
      cases e with
      | go s =>
        unfold Cd.toD
        simp -implicitDefEqProofs only [rn_bind, rn_pure, rn_no, rn_need, rn_opt1, rn_ite, rn_var, rn_put, rn_useD, rn_useN, rn_useO, rn_chkD, rn_chkN, rn_chkO, rn_call, rn_seq, rn_guard, rn_forIn, rn_for0, rn_setD, rn_setN, rn_setO, binM, binMO, unM, cmpT, testM, andT, orT, notT, ifM, asgM, retM, exprM, kM, consA, nilA, tupM, lstM, useAll, chkAll, slM, partM, DL.andM, DL.orM, DL.notM, negM, asgG, gN, gT, gsC, gsN, seqI, frzM, asgTM, dnewM, par2M, hold_d, hold_n, hold_o, d_d, d_n, d_o, out_d, out_n, out_o, fo_next, fo_ret, isBl_b, isInt_i, tr_i, tr_b, tr_n, tr_l, tr_t, it_l, it_r, it_t, li_l, li_r, op_add_i, op_add_l, op_add_t, op_sub_i, op_mul_i, op_mod_i, op_div_i, op_pow_i, op_lt_i, op_le_i, op_gt_i, op_ge_i, op_int_i, op_abs_i, op_len_l, op_len_t, op_len_r, op_tup_l, op_tup_t, op_lst_l, op_lst_t, op_max_i, op_eq_i, eq_go_go, eq_get_get, eq_go_get, eq_get_go, Bool.bne_false, Bool.bne_true, Bool.not_true, Bool.not_false, op_sl_l, op_sl_r, op_sl_t, op_ix_t0, op_ix_t1, op_ix_t2, op_ix_l0, List.getElem?_cons_zero, List.getElem?_cons_succ, List.set_cons_zero, List.set_cons_succ, List.map_cons, List.map_nil, List.length_cons, List.length_nil, List.cons_append, List.nil_append, if_true, if_false, Bool.false_eq_true, decide_eq_true_eq, and_true, true_and, ite_true, ite_false, reduceCtorEq, rn_methM, rn_methM0, isTM_eq, rn_mk, rn_st, mk_own, st_own, ty_own, ex_app, ex_ext, ex_extT, ex_rev, ex_pop, rn_storeM, rn_lc, rn_lc2, rn_turn, rn_turn1, rn_frz, wipeE, Slot.frz]
        rfl
      | get w ds =>
        unfold Cd.toD
        simp -implicitDefEqProofs only [rn_bind, rn_pure, rn_no, rn_need, rn_opt1, rn_ite, rn_var, rn_put, rn_useD, rn_useN, rn_useO, rn_chkD, rn_chkN, rn_chkO, rn_call, rn_seq, rn_guard, rn_forIn, rn_for0, rn_setD, rn_setN, rn_setO, binM, binMO, unM, cmpT, testM, andT, orT, notT, ifM, asgM, retM, exprM, kM, consA, nilA, tupM, lstM, useAll, chkAll, slM, partM, DL.andM, DL.orM, DL.notM, negM, asgG, gN, gT, gsC, gsN, seqI, frzM, asgTM, dnewM, par2M, hold_d, hold_n, hold_o, d_d, d_n, d_o, out_d, out_n, out_o, fo_next, fo_ret, isBl_b, isInt_i, tr_i, tr_b, tr_n, tr_l, tr_t, it_l, it_r, it_t, li_l, li_r, op_add_i, op_add_l, op_add_t, op_sub_i, op_mul_i, op_mod_i, op_div_i, op_pow_i, op_lt_i, op_le_i, op_gt_i, op_ge_i, op_int_i, op_abs_i, op_len_l, op_len_t, op_len_r, op_tup_l, op_tup_t, op_lst_l, op_lst_t, op_max_i, op_eq_i, eq_go_go, eq_get_get, eq_go_get, eq_get_go, Bool.bne_false, Bool.bne_true, Bool.not_true, Bool.not_false, op_sl_l, op_sl_r, op_sl_t, op_ix_t0, op_ix_t1, op_ix_t2, op_ix_l0, List.getElem?_cons_zero, List.getElem?_cons_succ, List.set_cons_zero, List.set_cons_succ, List.map_cons, List.map_nil, List.length_cons, List.length_nil, List.cons_append, List.nil_append, if_true, if_false, Bool.false_eq_true, decide_eq_true_eq, and_true, true_and, ite_true, ite_false, reduceCtorEq, rn_methM, rn_methM0, isTM_eq, rn_mk, rn_st, mk_own, st_own, ty_own, ex_app, ex_ext, ex_extT, ex_rev, ex_pop, rn_storeM, rn_lc, rn_lc2, rn_turn, rn_turn1, rn_frz, wipeE, Slot.frz]
        rfl
    · rw [List.nil_append, tF_eq, if_imms (imms_ints _) ho]
      have hw : ∀ w, w ∈ (c.pl.filterMap (undC c)).filterMap Cd.top ↔ w ∈ c.wk := fun w => by
        rw [wk_pl]
        simp only [List.mem_filterMap]
        constructor
        · rintro ⟨d, ⟨p, hp, e⟩, ht⟩; exact ⟨p, hp, d, e, ht⟩
        · rintro ⟨p, hp, d, e, ht⟩; exact ⟨d, ⟨p, hp, e⟩, ht⟩
      have hl2 : ((c.pl.filterMap (undC c)).filterMap Cd.top).length ≤ 625 := Nat.le_trans (List.length_filterMap_le _ _) hl
      refine sortset_rn (b := 5) (by omega) (fun x hx => ?_) (by decide) ?_
      · have h1 := wk_fit n c h x ((hw x).mp hx)
        have h2 := hm.len
        omega
      · simp -implicitDefEqProofs only [rn_bind, rn_pure, rn_no, rn_need, rn_opt1, rn_ite, rn_var, rn_put, rn_useD, rn_useN, rn_useO, rn_chkD, rn_chkN, rn_chkO, rn_call, rn_seq, rn_guard, rn_forIn, rn_for0, rn_setD, rn_setN, rn_setO, binM, binMO, unM, cmpT, testM, andT, orT, notT, ifM, asgM, retM, exprM, kM, consA, nilA, tupM, lstM, useAll, chkAll, slM, partM, DL.andM, DL.orM, DL.notM, negM, asgG, gN, gT, gsC, gsN, seqI, frzM, asgTM, dnewM, par2M, hold_d, hold_n, hold_o, d_d, d_n, d_o, out_d, out_n, out_o, fo_next, fo_ret, isBl_b, isInt_i, tr_i, tr_b, tr_n, tr_l, tr_t, it_l, it_r, it_t, li_l, li_r, op_add_i, op_add_l, op_add_t, op_sub_i, op_mul_i, op_mod_i, op_div_i, op_pow_i, op_lt_i, op_le_i, op_gt_i, op_ge_i, op_int_i, op_abs_i, op_len_l, op_len_t, op_len_r, op_tup_l, op_tup_t, op_lst_l, op_lst_t, op_max_i, op_eq_i, eq_go_go, eq_get_get, eq_go_get, eq_get_go, Bool.bne_false, Bool.bne_true, Bool.not_true, Bool.not_false, op_sl_l, op_sl_r, op_sl_t, op_ix_t0, op_ix_t1, op_ix_t2, op_ix_l0, List.getElem?_cons_zero, List.getElem?_cons_succ, List.set_cons_zero, List.set_cons_succ, List.map_cons, List.map_nil, List.length_cons, List.length_nil, List.cons_append, List.nil_append, if_true, if_false, Bool.false_eq_true, decide_eq_true_eq, and_true, true_and, ite_true, ite_false, reduceCtorEq, rn_methM, rn_methM0, isTM_eq, rn_mk, rn_st, mk_own, st_own, ty_own, ex_app, ex_ext, ex_extT, ex_rev, ex_pop, rn_storeM, rn_lc, rn_lc2, rn_turn, rn_turn1, rn_frz]
        rw [sortS_eq hw]
        exact q
end LW
end
section
set_option maxRecDepth 100000
namespace LW
open PySem L2 DL
/-! ## the law's own plain states -/
def rI (ns : List Int) : D := .rol (ns.map .int)
theorem cut_take {α : Type} (l : List α) (w : Nat) : cutD l none (some (w : Int)) = l.take w := by
  unfold cutD
  rw [HT.sIx_nat, HT.sIx_none, List.drop_zero, Nat.sub_zero]
  by_cases h : w ≤ l.length
  · rw [Nat.min_eq_left h]
  · rw [Nat.min_eq_right (by omega), List.take_of_length_le (Nat.le_refl _), List.take_of_length_le (by omega)]
theorem cut_drop {α : Type} (l : List α) (w : Nat) : cutD l (some (w : Int)) none = l.drop w := by
  unfold cutD
  rw [HT.sIx_nat, HT.sIx_none]
  by_cases h : w ≤ l.length
  · rw [Nat.min_eq_left h, List.take_of_length_le (by rw [List.length_drop]; exact Nat.le_refl _)]
  · rw [Nat.min_eq_right (by omega), List.drop_eq_nil_of_le (Nat.le_refl _), List.drop_eq_nil_of_le (show l.length ≤ w by omega)]
    simp
def repl (row : List Int) (w : Nat) (k : Int) : List Int := row.take w ++ [k] ++ row.drop (w + 1)
def stepP (lots : List (List Int)) (rows : List (List Int)) (w : Int) : List (List Int) := rows.flatMap fun row => ((lots[w.toNat]?).getD []).map fun k => repl row w.toNat k
def rowsP (lots : List (List Int)) (ws : List Int) : List (List Int) := ws.foldl (stepP lots) [lots.map fun l => (l[0]?).getD 0]
theorem rowsP_snoc (lots : List (List Int)) (ws : List Int) (w : Int) : rowsP lots (ws ++ [w]) = stepP lots (rowsP lots ws) w := by simp [rowsP]
theorem repl_get (row : List Int) (w : Nat) (k : Int) (h : w < row.length) (i : Nat) : (repl row w k)[i]? = if i = w then some k else row[i]? := by
  unfold repl
  rw [List.append_assoc]
  by_cases c : i < w
  · rw [if_neg (by omega), List.getElem?_append_left (by rw [List.length_take]; omega), List.getElem?_take_of_lt c]
  · rw [List.getElem?_append_right (by rw [List.length_take]; omega), List.length_take, Nat.min_eq_left (by omega)]
    by_cases c2 : i = w
    · subst c2; simp
    · rw [if_neg c2, List.singleton_append, show i - w = (i - w - 1) + 1 by omega, List.getElem?_cons_succ, List.getElem?_drop]
      congr 1; omega
theorem repl_len (row : List Int) (w : Nat) (k : Int) (h : w < row.length) : (repl row w k).length = row.length := by
  unfold repl
  simp only [List.length_append, List.length_take, List.length_cons, List.length_nil, List.length_drop]
  omega
/-- a row as it may be behind the workers ws -/
def Good (lots : List (List Int)) (ws : List Int) (t : List Int) : Prop := t.length = lots.length ∧ ∀ (i : Nat) (l : List Int), lots[i]? = some l → ∃ k, t[i]? = some k ∧ if (i : Int) ∈ ws then k ∈ l else l[0]? = some k
theorem rowsP_mem {many : List Int} {lots : List (List Int)} (f : LotsOk many lots) (ws : List Int) : ws.Nodup → (∀ w ∈ ws, 0 ≤ w ∧ w < (lots.length : Int)) → ∀ t, t ∈ rowsP lots ws ↔ Good lots ws t := by
  refine snoc_ind (P := fun ws => ws.Nodup → (∀ w ∈ ws, 0 ≤ w ∧ w < (lots.length : Int)) → ∀ t, t ∈ rowsP lots ws ↔ Good lots ws t) ?_ ?_ ws
  · intro _ _ t
    simp only [rowsP, List.foldl_nil, List.mem_singleton]
    constructor
    · rintro rfl
      refine ⟨by simp, fun i l hl => ?_⟩
      have hne := f.one l (List.mem_of_getElem? hl)
      cases l with
      | nil => exact absurd rfl hne
      | cons x r => exact ⟨x, by simp [hl], by simp⟩
    · rintro ⟨h1, h2⟩
      apply List.ext_getElem?
      intro i
      rw [List.getElem?_map]
      cases hl : lots[i]? with
      | none =>
        rw [List.getElem?_eq_none_iff] at hl
        rw [List.getElem?_eq_none (by omega)]; rfl
      | some l =>
        obtain ⟨k, e, hk⟩ := h2 i l hl
        rw [e]
        simp at hk
        simp [hk]
  · intro ws w ih nd hb t
    rw [List.nodup_append] at nd
    have nw : w ∉ ws := fun h => nd.2.2 w h w (by simp) rfl
    obtain ⟨w0, w1⟩ := hb w (by simp)
    obtain ⟨j, rfl⟩ := toNat_int w0
    have hj : j < lots.length := by omega
    have ih' := ih nd.1 fun x hx => hb x (List.mem_append_left _ hx)
    rw [rowsP_snoc]
    unfold stepP
    simp only [List.mem_flatMap, List.mem_map, Int.toNat_natCast, List.getElem?_eq_getElem hj, Option.getD_some]
    constructor
    · rintro ⟨row, hr, k, hk, rfl⟩
      obtain ⟨g1, g2⟩ := (ih' row).mp hr
      refine ⟨by rw [repl_len _ _ _ (by omega), g1], fun i l hl => ?_⟩
      rw [repl_get _ _ _ (by omega)]
      by_cases c : i = j
      · subst c
        rw [List.getElem?_eq_getElem hj] at hl
        cases hl
        exact ⟨k, by simp, by simp [hk]⟩
      · obtain ⟨k', e, hk'⟩ := g2 i l hl
        refine ⟨k', by rw [if_neg c]; exact e, ?_⟩
        have : ((i : Int) ∈ ws ++ [(j : Int)]) ↔ (i : Int) ∈ ws := by
          simp only [List.mem_append, List.mem_singleton]
          exact ⟨fun h => h.elim id fun e => absurd (by omega) c, .inl⟩
        simp only [this]
        exact hk'
    · rintro ⟨g1, g2⟩
      obtain ⟨k, e, hk⟩ := g2 j lots[j] (List.getElem?_eq_getElem hj)
      have hk : k ∈ lots[j] := by simpa using hk
      have hne := f.one _ (List.getElem_mem hj)
      obtain ⟨x, r, hx⟩ : ∃ x r, lots[j] = x :: r := by
        cases h : lots[j] with
        | nil => exact absurd h hne
        | cons x r => exact ⟨x, r, rfl⟩
      refine ⟨repl t j x, (ih' _).mpr ⟨by rw [repl_len _ _ _ (by omega), g1], fun i l hl => ?_⟩, k, hk, ?_⟩
      · rw [repl_get _ _ _ (by omega)]
        by_cases c : i = j
        · subst c
          rw [List.getElem?_eq_getElem hj, hx] at hl
          cases hl
          exact ⟨x, by simp, by simp [nw]⟩
        · obtain ⟨k', e', hk'⟩ := g2 i l hl
          refine ⟨k', by rw [if_neg c]; exact e', ?_⟩
          have : ((i : Int) ∈ ws ++ [(j : Int)]) ↔ (i : Int) ∈ ws := by
            simp only [List.mem_append, List.mem_singleton]
            exact ⟨fun h => h.elim id fun e => absurd (by omega) c, .inl⟩
          simp only [this] at hk'
          exact hk'
      · apply List.ext_getElem?
        intro i
        rw [repl_get _ _ _ (by rw [repl_len _ _ _ (by omega)]; omega), repl_get _ _ _ (by omega)]
        by_cases c : i = j
        · subst c; simp [e]
        · simp [c]
theorem rowsP_len {many : List Int} {lots : List (List Int)} (f : LotsOk many lots) (ws : List Int) : (rowsP lots ws).length ≤ 5 ^ ws.length := by
  refine snoc_ind (P := fun ws => (rowsP lots ws).length ≤ 5 ^ ws.length) ?_ ?_ ws
  · simp [rowsP]
  · intro ws w ih
    rw [rowsP_snoc, List.length_append, List.length_cons, List.length_nil, Nat.pow_succ]
    have h5 : ((lots[w.toNat]?).getD []).length ≤ 5 := by
      cases e : lots[w.toNat]? with
      | none => simp
      | some l => exact f.few l (List.mem_of_getElem? e)
    have : ∀ rows : List (List Int), (stepP lots rows w).length = rows.length * ((lots[w.toNat]?).getD []).length := by
      intro rows
      unfold stepP
      induction rows with
      | nil => simp
      | cons r rs ih => rw [List.flatMap_cons, List.length_append, ih, List.length_map, List.length_cons, Nat.succ_mul]; omega
    rw [this]
    exact Nat.mul_le_mul ih h5
/-- both ways of filling in the letters reach the same plain states -/
theorem same_plain {many : List Int} {lots : List (List Int)} (f : LotsOk many lots) {ws : List Int} (nd : ws.Nodup) (hb : ∀ w ∈ ws, 0 ≤ w ∧ w < (lots.length : Int)) (t : List Int) : t ∈ choN (rowsN ws 0 lots) ↔ t ∈ rowsP lots ws := by
  rw [rowsP_mem f ws nd hb, choN_mem, rows_len]
  unfold Good
  refine and_congr_right fun hl => ?_
  constructor
  · intro h i l hi
    obtain ⟨k, e, hk⟩ := h i _ (by rw [rows_get, hi]; rfl)
    refine ⟨k, e, ?_⟩
    rw [Nat.zero_add] at hk
    dsimp only at hk
    split
    · rename_i c; rw [if_pos c] at hk; exact hk
    · rename_i c
      rw [if_neg c] at hk
      cases l with
      | nil => simp at hk
      | cons x r => simp at hk; simp [hk]
  · intro h i r hr
    rw [rows_get] at hr
    obtain ⟨l, hi, rfl⟩ := Option.map_eq_some_iff.mp hr
    obtain ⟨k, e, hk⟩ := h i l hi
    refine ⟨k, e, ?_⟩
    rw [Nat.zero_add]
    split
    · rename_i c; rw [if_pos c] at hk; exact hk
    · rename_i c
      rw [if_neg c] at hk
      cases l with
      | nil => simp at hk
      | cons x r => simp at hk; simp [hk]
theorem mem_plains {n : Nat} {c : Cd} {ts : List (List Int)} {s : Int} : s ∈ plains n c ts ↔ ∃ t ∈ ts, plainN n t c = some s := by
  unfold plains
  simp [List.mem_filterMap]
theorem stepP_len (lots : List (List Int)) (w : Int) (rows : List (List Int)) : (stepP lots rows w).length = rows.length * ((lots[w.toNat]?).getD []).length := by
  unfold stepP
  induction rows with
  | nil => simp
  | cons r rs ih => rw [List.flatMap_cons, List.length_append, ih, List.length_map, List.length_cons, Nat.succ_mul]; omega
theorem stepP_snoc (lots : List (List Int)) (w : Int) (rows : List (List Int)) (t : List Int) : stepP lots (rows ++ [t]) w = stepP lots rows w ++ ((lots[w.toNat]?).getD []).map fun k => repl t w.toNat k := by
  simp [stepP]
theorem good_fits {many : List Int} {lots : List (List Int)} (f : LotsOk many lots) {ws t : List Int} (h : Good lots ws t) : Fits many t := by
  obtain ⟨h1, h2⟩ := h
  refine ⟨by rw [h1, f.len], fun i k m hk hm => ?_⟩
  have hl : i < lots.length := by rw [← h1]; exact (List.getElem?_eq_some_iff.mp hk).1
  obtain ⟨k', e, hk'⟩ := h2 i _ (List.getElem?_eq_getElem hl)
  rw [hk] at e
  cases e
  refine f.fit i lots[i] m (List.getElem?_eq_getElem hl) hm k ?_
  split at hk'
  · exact hk'
  · exact List.mem_of_getElem? hk'
def unR (d : D) : List Int := match d with
  | .rol ds => (D.ints? ds).getD []
  | _ => []
theorem unR_rI (ns : List Int) : unR (rI ns) = ns := by simp [unR, rI, ints?_map]
theorem imms_rI : ∀ ts : List (List Int), D.imms (ts.map rI) = true
  | [] => rfl
  | t :: r => by simp [D.imms, imms_rI r, rI, D.imm, imms_ints]
def gF (row : List Int) (w : Nat) (d : D) : Option D := match d with
  | .int k => some (rI (repl row w k))
  | _ => none
theorem gF_eq (row : List Int) (w : Nat) : ∀ l : List Int, (l.map D.int).filterMap (gF row w) = (l.map fun k => repl row w k).map rI
  | [] => rfl
  | k :: r => by
    rw [List.map_cons, List.filterMap_cons, gF]
    simp only
    rw [gF_eq row w r]
    rfl
def qF (n : Nat) (c : Cd) (d : D) : Option D := (plainN n (unR d) c).map .int
theorem qF_eq (n : Nat) (c : Cd) : ∀ ts : List (List Int), (ts.map rI).filterMap (qF n c) = (plains n c ts).map .int
  | [] => rfl
  | t :: r => by
    rw [List.map_cons, List.filterMap_cons, qF, unR_rI]
    unfold plains
    rw [List.filterMap_cons]
    cases plainN n t c with
    | none => exact qF_eq n c r
    | some s =>
      simp only [Option.map_some, List.map_cons]
      congr 1
      exact qF_eq n c r
def hF (d : D) : Option D := match d with
  | .tup (x :: _) => some x
  | _ => none
theorem hF_eq {lots : List (List Int)} (h : ∀ l ∈ lots, l ≠ []) : (lots.map tI).filterMap hF = (lots.map fun l => (l[0]?).getD 0).map .int := by
  induction lots with
  | nil => rfl
  | cons l r ih =>
    have h1 := h l List.mem_cons_self
    cases l with
    | nil => exact absurd rfl h1
    | cons x t =>
      rw [List.map_cons, List.filterMap_cons, show hF (tI (x :: t)) = some (.int x) from rfl]
      simp only
      rw [ih fun y hy => h y (List.mem_cons_of_mem _ hy)]
      rfl
theorem sl_take {xs : List Int} {w : Nat} {Q : Res → Sx → Prop} {S : Sx} : Rn (opSl (rI xs) none (some (w : Int))) S Q = Q (.new (.lst ((xs.take w).map .int))) S := by
  unfold rI
  rw [op_sl_r, cut_take, List.map_take]
theorem sl_drop {xs : List Int} {w : Nat} {Q : Res → Sx → Prop} {S : Sx} : Rn (opSl (rI xs) (some ((w : Int) + 1)) none) S Q = Q (.new (.lst ((xs.drop (w + 1)).map .int))) S := by
  unfold rI
  rw [op_sl_r, show ((w : Int) + 1) = ((w + 1 : Nat) : Int) by omega, cut_drop, List.map_drop]
/-- the law's plain states: the sorted ones -/
def flatN (lots : List (List Int)) (n : Nat) (c : Cd) : List Int := sortS (plains n c (rowsP lots (sortS c.wk)))
theorem wk_len {many : List Int} (hm : ManyOk many) {n : Nat} {c : Cd} (h : c.Ok many n) : (sortS c.wk).length ≤ 5 := by
  refine Nat.le_trans (up_len0 (sortS_up _) (b := many.length) fun x hx => ?_) hm.len
  exact wk_fit n c h x ((sortS_mem x _).mp hx)
theorem plain_fit {many : List Int} {t : List Int} : ∀ (n : Nat) (c : Cd) (s : Int), c.Ok many n → Fits many t → plainN n t c = some s → 0 ≤ s ∧ s < 4
  | 0, .go u, s, h, _, e => by cases e; exact h
  | 0, .get _ _, _, h, _, _ => h.elim
  | n + 1, .go u, s, h, _, e => by cases e; exact h
  | n + 1, .get w ds, s, h, f, e => by
    obtain ⟨k, c2, h0, e1, e2, h2⟩ := fits_step f h
    simp only [plainN, e1, Option.bind_some, Int.toNat_natCast, e2] at e
    exact plain_fit n c2 s h2 f e
theorem plain_all_ok {many : List Int} {lots : List (List Int)} (hm : ManyOk many) (f : LotsOk many lots) {n : Nat} {c : Cd} {o : List D} (ho : (o.all fun o => D.imms o.parts) = true) (h : c.Ok many n) (hn : n ≤ 4) {Q : Res → List D → Prop} (q : Q (.new (lI (flatN lots n c))) o) :
    Dr d__law_plain_all [c.toD, lotsD lots] o Q := by
  have ll : lots.length ≤ 5 := by rw [f.len]; exact hm.len
  have wl := wk_len hm h
  have wnd := up_nodup (sortS_up c.wk)
  have wb : ∀ w ∈ sortS c.wk, 0 ≤ w ∧ w < (lots.length : Int) := fun w hw => by rw [f.len]; exact wk_fit n c h w ((sortS_mem w _).mp hw)
  unfold d__law_plain_all b__law_plain_all
  rw [dr_run]
  generalize hB : exprM (methM "list" 4 _ opExtA) = B
  generalize hC : turnM (gN 5) (pure true) (callM 2 d__law_plain _) = C
  simp -implicitDefEqProofs only [rn_bind, rn_pure, rn_no, rn_need, rn_opt1, rn_ite, rn_var, rn_put, rn_useD, rn_useN, rn_useO, rn_chkD, rn_chkN, rn_chkO, rn_call, rn_seq, rn_guard, rn_forIn, rn_for0, rn_setD, rn_setN, rn_setO, binM, binMO, unM, cmpT, testM, andT, orT, notT, ifM, asgM, retM, exprM, kM, consA, nilA, tupM, lstM, useAll, chkAll, slM, partM, DL.andM, DL.orM, DL.notM, negM, asgG, gN, gT, gsC, gsN, seqI, frzM, asgTM, dnewM, par2M, hold_d, hold_n, hold_o, d_d, d_n, d_o, out_d, out_n, out_o, fo_next, fo_ret, isBl_b, isInt_i, tr_i, tr_b, tr_n, tr_l, tr_t, it_l, it_r, it_t, li_l, li_r, op_add_i, op_add_l, op_add_t, op_sub_i, op_mul_i, op_mod_i, op_div_i, op_pow_i, op_lt_i, op_le_i, op_gt_i, op_ge_i, op_int_i, op_abs_i, op_len_l, op_len_t, op_len_r, op_tup_l, op_tup_t, op_lst_l, op_lst_t, op_max_i, op_eq_i, eq_go_go, eq_get_get, eq_go_get, eq_get_go, Bool.bne_false, Bool.bne_true, Bool.not_true, Bool.not_false, op_sl_l, op_sl_r, op_sl_t, op_ix_t0, op_ix_t1, op_ix_t2, op_ix_l0, List.getElem?_cons_zero, List.getElem?_cons_succ, List.set_cons_zero, List.set_cons_succ, List.map_cons, List.map_nil, List.length_cons, List.length_nil, List.cons_append, List.nil_append, if_true, if_false, Bool.false_eq_true, decide_eq_true_eq, and_true, true_and, ite_true, ite_false, reduceCtorEq, rn_methM, rn_methM0, isTM_eq, rn_mk, rn_st, mk_own, st_own, ty_own, ex_app, ex_ext, ex_extT, ex_rev, ex_pop, rn_storeM, rn_lc, rn_lc2, rn_turn, rn_turn1, rn_frz, List.replicate, lotsD_items]
  refine cw_map (F := hF) (small_le (by simp; omega)) (fun d hd => ?_) ?_
  · obtain ⟨l, hl, rfl⟩ := List.mem_map.mp hd
    cases l with
    | nil => exact absurd rfl (f.one _ hl)
    | cons x r =>
      unfold tI
      simp -implicitDefEqProofs only [rn_bind, rn_pure, rn_no, rn_need, rn_opt1, rn_ite, rn_var, rn_put, rn_useD, rn_useN, rn_useO, rn_chkD, rn_chkN, rn_chkO, rn_call, rn_seq, rn_guard, rn_forIn, rn_for0, rn_setD, rn_setN, rn_setO, binM, binMO, unM, cmpT, testM, andT, orT, notT, ifM, asgM, retM, exprM, kM, consA, nilA, tupM, lstM, useAll, chkAll, slM, partM, DL.andM, DL.orM, DL.notM, negM, asgG, gN, gT, gsC, gsN, seqI, frzM, asgTM, dnewM, par2M, hold_d, hold_n, hold_o, d_d, d_n, d_o, out_d, out_n, out_o, fo_next, fo_ret, isBl_b, isInt_i, tr_i, tr_b, tr_n, tr_l, tr_t, it_l, it_r, it_t, li_l, li_r, op_add_i, op_add_l, op_add_t, op_sub_i, op_mul_i, op_mod_i, op_div_i, op_pow_i, op_lt_i, op_le_i, op_gt_i, op_ge_i, op_int_i, op_abs_i, op_len_l, op_len_t, op_len_r, op_tup_l, op_tup_t, op_lst_l, op_lst_t, op_max_i, op_eq_i, eq_go_go, eq_get_get, eq_go_get, eq_get_go, Bool.bne_false, Bool.bne_true, Bool.not_true, Bool.not_false, op_sl_l, op_sl_r, op_sl_t, op_ix_t0, op_ix_t1, op_ix_t2, op_ix_l0, List.getElem?_cons_zero, List.getElem?_cons_succ, List.set_cons_zero, List.set_cons_succ, List.map_cons, List.map_nil, List.length_cons, List.length_nil, List.cons_append, List.nil_append, if_true, if_false, Bool.false_eq_true, decide_eq_true_eq, and_true, true_and, ite_true, ite_false, reduceCtorEq, rn_methM, rn_methM0, isTM_eq, rn_mk, rn_st, mk_own, st_own, ty_own, ex_app, ex_ext, ex_extT, ex_rev, ex_pop, rn_storeM, rn_lc, rn_lc2, rn_turn, rn_turn1, rn_frz, wipeE, Slot.frz]
      rfl
  · rw [List.nil_append, hF_eq f.one, if_imms (imms_ints _) ho]
    refine ⟨small_le (by decide), ?_⟩
    refine whom_ok hm ho h hn ?_
    rw [if_safe (imms_lI _) ho]
    simp -implicitDefEqProofs only [rn_bind, rn_pure, rn_no, rn_need, rn_opt1, rn_ite, rn_var, rn_put, rn_useD, rn_useN, rn_useO, rn_chkD, rn_chkN, rn_chkO, rn_call, rn_seq, rn_guard, rn_forIn, rn_for0, rn_setD, rn_setN, rn_setO, binM, binMO, unM, cmpT, testM, andT, orT, notT, ifM, asgM, retM, exprM, kM, consA, nilA, tupM, lstM, useAll, chkAll, slM, partM, DL.andM, DL.orM, DL.notM, negM, asgG, gN, gT, gsC, gsN, seqI, frzM, asgTM, dnewM, par2M, hold_d, hold_n, hold_o, d_d, d_n, d_o, out_d, out_n, out_o, fo_next, fo_ret, isBl_b, isInt_i, tr_i, tr_b, tr_n, tr_l, tr_t, it_l, it_r, it_t, li_l, li_r, op_add_i, op_add_l, op_add_t, op_sub_i, op_mul_i, op_mod_i, op_div_i, op_pow_i, op_lt_i, op_le_i, op_gt_i, op_ge_i, op_int_i, op_abs_i, op_len_l, op_len_t, op_len_r, op_tup_l, op_tup_t, op_lst_l, op_lst_t, op_max_i, op_eq_i, eq_go_go, eq_get_get, eq_go_get, eq_get_go, Bool.bne_false, Bool.bne_true, Bool.not_true, Bool.not_false, op_sl_l, op_sl_r, op_sl_t, op_ix_t0, op_ix_t1, op_ix_t2, op_ix_l0, List.getElem?_cons_zero, List.getElem?_cons_succ, List.set_cons_zero, List.set_cons_succ, List.map_cons, List.map_nil, List.length_cons, List.length_nil, List.cons_append, List.nil_append, if_true, if_false, Bool.false_eq_true, decide_eq_true_eq, and_true, true_and, ite_true, ite_false, reduceCtorEq, rn_methM, rn_methM0, isTM_eq, rn_mk, rn_st, mk_own, st_own, ty_own, ex_app, ex_ext, ex_extT, ex_rev, ex_pop, rn_storeM, rn_lc, rn_lc2, rn_turn, rn_turn1, rn_frz, lI_items]
    refine for_inv (I := fun xs S => ∃ w1 w2 s2 s3 s4 s5, sortS c.wk = w1 ++ w2 ∧ xs = w2.map D.int ∧ (s2 = .own (.lst ((rowsP lots w1).map rI)) ∨ s2 = .dat (.lst ((rowsP lots w1).map rI))) ∧ S = ⟨[.dat c.toD, .dat (lotsD lots), s2, s3, s4, s5, .un, .un], o⟩) ⟨[], sortS c.wk, _, _, _, _, rfl, rfl, .inl rfl, rfl⟩ ?_ ?_
    · rintro x xs S ⟨w1, w2, s2, s3, s4, s5, e1, e2, e3, rfl⟩
      cases w2 with
      | nil => cases e2
      | cons w w2 =>
        rw [List.map_cons] at e2
        cases e2
        obtain ⟨w0, wlt⟩ := wb w (by rw [e1]; simp)
        obtain ⟨j, rfl⟩ := toNat_int w0
        have hj : j < lots.length := by omega
        have hlot : lots[((j : Int)).toNat]? = some lots[j] := by simp [List.getElem?_eq_getElem hj]
        have hw1 : w1.length + 1 ≤ 5 := by rw [e1] at wl; simp at wl; omega
        have r1 : (rowsP lots w1).length ≤ 625 := Nat.le_trans (rowsP_len f w1) (Nat.le_trans (Nat.pow_le_pow_right (by decide) (show w1.length ≤ 4 by omega)) (by decide))
        have l5 := f.few _ (List.getElem_mem hj)
        have main : Rn (DL.forM (gN 5) (exprM (methM "list" 4 (lcM (seqI (binM opIx (varM 1) (varM 3))) [7] (turnM (gN 7) (pure true) (frzM (binM opAdd (binM opAdd (slM (varM 5) (pure none) (partM (varM 3))) (lstM (consA (varM 7) nilA))) (slM (varM 5) (partM (binM opAdd (varM 3) (kM (.int 1)))) (pure none)))))) opExtA)) ((rowsP lots w1).map rI)) ⟨[.dat c.toD, .dat (lotsD lots), .dat (.lst ((rowsP lots w1).map rI)), .dat (.int j), .own (.lst []), s5, .un, .un], o⟩
            fun fl S' => fl = .next ∧ ∃ s5, S' = ⟨[.dat c.toD, .dat (lotsD lots), .dat (.lst ((rowsP lots w1).map rI)), .dat (.int j), .own (.lst ((rowsP lots (w1 ++ [(j : Int)])).map rI)), s5, .un, .un], o⟩ := by
          refine for_inv (I := fun xs S => ∃ t1 t2 s5, rowsP lots w1 = t1 ++ t2 ∧ xs = t2.map rI ∧ S = ⟨[.dat c.toD, .dat (lotsD lots), .dat (.lst ((rowsP lots w1).map rI)), .dat (.int j), .own (.lst ((stepP lots t1 j).map rI)), s5, .un, .un], o⟩) ⟨[], rowsP lots w1, _, rfl, rfl, rfl⟩ ?_ ?_
          · rintro x xs S ⟨t1, t2, s5, e4, e5, rfl⟩
            cases t2 with
            | nil => cases e5
            | cons t t2 =>
              rw [List.map_cons] at e5
              cases e5
              have gt := (rowsP_mem f w1 (by rw [e1] at wnd; exact (List.nodup_append.mp wnd).1) (fun w hw => wb w (by rw [e1]; exact List.mem_append_left _ hw)) t).mp (by rw [e4]; simp)
              simp -implicitDefEqProofs only [rn_bind, rn_pure, rn_no, rn_need, rn_opt1, rn_ite, rn_var, rn_put, rn_useD, rn_useN, rn_useO, rn_chkD, rn_chkN, rn_chkO, rn_call, rn_seq, rn_guard, rn_forIn, rn_for0, rn_setD, rn_setN, rn_setO, binM, binMO, unM, cmpT, testM, andT, orT, notT, ifM, asgM, retM, exprM, kM, consA, nilA, tupM, lstM, useAll, chkAll, slM, partM, DL.andM, DL.orM, DL.notM, negM, asgG, gN, gT, gsC, gsN, seqI, frzM, asgTM, dnewM, par2M, hold_d, hold_n, hold_o, d_d, d_n, d_o, out_d, out_n, out_o, fo_next, fo_ret, isBl_b, isInt_i, tr_i, tr_b, tr_n, tr_l, tr_t, it_l, it_r, it_t, li_l, li_r, op_add_i, op_add_l, op_add_t, op_sub_i, op_mul_i, op_mod_i, op_div_i, op_pow_i, op_lt_i, op_le_i, op_gt_i, op_ge_i, op_int_i, op_abs_i, op_len_l, op_len_t, op_len_r, op_tup_l, op_tup_t, op_lst_l, op_lst_t, op_max_i, op_eq_i, eq_go_go, eq_get_get, eq_go_get, eq_get_go, Bool.bne_false, Bool.bne_true, Bool.not_true, Bool.not_false, op_sl_l, op_sl_r, op_sl_t, op_ix_t0, op_ix_t1, op_ix_t2, op_ix_l0, List.getElem?_cons_zero, List.getElem?_cons_succ, List.set_cons_zero, List.set_cons_succ, List.map_cons, List.map_nil, List.length_cons, List.length_nil, List.cons_append, List.nil_append, if_true, if_false, Bool.false_eq_true, decide_eq_true_eq, and_true, true_and, ite_true, ite_false, reduceCtorEq, rn_methM, rn_methM0, isTM_eq, rn_mk, rn_st, mk_own, st_own, ty_own, ex_app, ex_ext, ex_extT, ex_rev, ex_pop, rn_storeM, rn_lc, rn_lc2, rn_turn, rn_turn1, rn_frz, lot_at w0 hlot, it_tI]
              refine cw_map (F := gF t j) (small_le (by simp; omega)) (fun d hd => ?_) ?_
              · obtain ⟨k, hk, rfl⟩ := List.mem_map.mp hd
                simp -implicitDefEqProofs only [rn_bind, rn_pure, rn_no, rn_need, rn_opt1, rn_ite, rn_var, rn_put, rn_useD, rn_useN, rn_useO, rn_chkD, rn_chkN, rn_chkO, rn_call, rn_seq, rn_guard, rn_forIn, rn_for0, rn_setD, rn_setN, rn_setO, binM, binMO, unM, cmpT, testM, andT, orT, notT, ifM, asgM, retM, exprM, kM, consA, nilA, tupM, lstM, useAll, chkAll, slM, partM, DL.andM, DL.orM, DL.notM, negM, asgG, gN, gT, gsC, gsN, seqI, frzM, asgTM, dnewM, par2M, hold_d, hold_n, hold_o, d_d, d_n, d_o, out_d, out_n, out_o, fo_next, fo_ret, isBl_b, isInt_i, tr_i, tr_b, tr_n, tr_l, tr_t, it_l, it_r, it_t, li_l, li_r, op_add_i, op_add_l, op_add_t, op_sub_i, op_mul_i, op_mod_i, op_div_i, op_pow_i, op_lt_i, op_le_i, op_gt_i, op_ge_i, op_int_i, op_abs_i, op_len_l, op_len_t, op_len_r, op_tup_l, op_tup_t, op_lst_l, op_lst_t, op_max_i, op_eq_i, eq_go_go, eq_get_get, eq_go_get, eq_get_go, Bool.bne_false, Bool.bne_true, Bool.not_true, Bool.not_false, op_sl_l, op_sl_r, op_sl_t, op_ix_t0, op_ix_t1, op_ix_t2, op_ix_l0, List.getElem?_cons_zero, List.getElem?_cons_succ, List.set_cons_zero, List.set_cons_succ, List.map_cons, List.map_nil, List.length_cons, List.length_nil, List.cons_append, List.nil_append, if_true, if_false, Bool.false_eq_true, decide_eq_true_eq, and_true, true_and, ite_true, ite_false, reduceCtorEq, rn_methM, rn_methM0, isTM_eq, rn_mk, rn_st, mk_own, st_own, ty_own, ex_app, ex_ext, ex_extT, ex_rev, ex_pop, rn_storeM, rn_lc, rn_lc2, rn_turn, rn_turn1, rn_frz, wipeE, Slot.frz, sl_take, sl_drop]
                have := gt.1
                refine ⟨small_le (by decide), small_le (by simp; omega), small_le (by simp; omega), ?_⟩
                simp [gF, rI, repl, rn_frz, rn_useD]
              · rw [List.nil_append, gF_eq, if_imms (imms_rI _) ho]
                have t1l : t1.length ≤ 625 := by rw [e4] at r1; simp at r1; omega
                have sl := stepP_len lots j t1
                rw [hlot, Option.getD_some] at sl
                have : t1.length * lots[j].length ≤ 625 * 5 := Nat.mul_le_mul t1l l5
                refine ⟨small_le (by simp only [List.length_map]; omega), t1 ++ [t], t2, .dat (rI t), by rw [e4]; simp, rfl, ?_⟩
                rw [stepP_snoc, hlot, List.map_append]
                rfl
          · rintro S ⟨t1, t2, s5, e4, e5, rfl⟩
            have : t2 = [] := by
              cases t2 with
              | nil => rfl
              | cons x r => cases e5
            subst this
            rw [List.append_nil] at e4
            exact ⟨rfl, _, by rw [rowsP_snoc, e4]⟩
        rw [hB] at main
        have go : ∀ S, S = (⟨[.dat c.toD, .dat (lotsD lots), .dat (.lst ((rowsP lots w1).map rI)), .dat (.int j), .own (.lst []), s5, .un, .un], o⟩ : Sx) → Rn (DL.forM (gN 5) B ((rowsP lots w1).map rI)) S fun fl S' => fl = .next ∧ ∃ s5, S' = ⟨[.dat c.toD, .dat (lotsD lots), .dat (.lst ((rowsP lots w1).map rI)), .dat (.int j), .own (.lst ((rowsP lots (w1 ++ [(j : Int)])).map rI)), s5, .un, .un], o⟩ := fun S hS => hS ▸ main
        rcases e3 with rfl | rfl
        · simp -implicitDefEqProofs only [rn_bind, rn_pure, rn_no, rn_need, rn_opt1, rn_ite, rn_var, rn_put, rn_useD, rn_useN, rn_useO, rn_chkD, rn_chkN, rn_chkO, rn_call, rn_seq, rn_guard, rn_forIn, rn_for0, rn_setD, rn_setN, rn_setO, binM, binMO, unM, cmpT, testM, andT, orT, notT, ifM, asgM, retM, exprM, kM, consA, nilA, tupM, lstM, useAll, chkAll, slM, partM, DL.andM, DL.orM, DL.notM, negM, asgG, gN, gT, gsC, gsN, seqI, frzM, asgTM, dnewM, par2M, hold_d, hold_n, hold_o, d_d, d_n, d_o, out_d, out_n, out_o, fo_next, fo_ret, isBl_b, isInt_i, tr_i, tr_b, tr_n, tr_l, tr_t, it_l, it_r, it_t, li_l, li_r, op_add_i, op_add_l, op_add_t, op_sub_i, op_mul_i, op_mod_i, op_div_i, op_pow_i, op_lt_i, op_le_i, op_gt_i, op_ge_i, op_int_i, op_abs_i, op_len_l, op_len_t, op_len_r, op_tup_l, op_tup_t, op_lst_l, op_lst_t, op_max_i, op_eq_i, eq_go_go, eq_get_get, eq_go_get, eq_get_go, Bool.bne_false, Bool.bne_true, Bool.not_true, Bool.not_false, op_sl_l, op_sl_r, op_sl_t, op_ix_t0, op_ix_t1, op_ix_t2, op_ix_l0, List.getElem?_cons_zero, List.getElem?_cons_succ, List.set_cons_zero, List.set_cons_succ, List.map_cons, List.map_nil, List.length_cons, List.length_nil, List.cons_append, List.nil_append, if_true, if_false, Bool.false_eq_true, decide_eq_true_eq, and_true, true_and, ite_true, ite_false, reduceCtorEq, rn_methM, rn_methM0, isTM_eq, rn_mk, rn_st, mk_own, st_own, ty_own, ex_app, ex_ext, ex_extT, ex_rev, ex_pop, rn_storeM, rn_lc, rn_lc2, rn_turn, rn_turn1, rn_frz]
          refine ⟨small_le (by decide), (go _ rfl).mono ?_⟩
          rintro fl S' ⟨rfl, s5', rfl⟩
          simp -implicitDefEqProofs only [rn_bind, rn_pure, rn_no, rn_need, rn_opt1, rn_ite, rn_var, rn_put, rn_useD, rn_useN, rn_useO, rn_chkD, rn_chkN, rn_chkO, rn_call, rn_seq, rn_guard, rn_forIn, rn_for0, rn_setD, rn_setN, rn_setO, binM, binMO, unM, cmpT, testM, andT, orT, notT, ifM, asgM, retM, exprM, kM, consA, nilA, tupM, lstM, useAll, chkAll, slM, partM, DL.andM, DL.orM, DL.notM, negM, asgG, gN, gT, gsC, gsN, seqI, frzM, asgTM, dnewM, par2M, hold_d, hold_n, hold_o, d_d, d_n, d_o, out_d, out_n, out_o, fo_next, fo_ret, isBl_b, isInt_i, tr_i, tr_b, tr_n, tr_l, tr_t, it_l, it_r, it_t, li_l, li_r, op_add_i, op_add_l, op_add_t, op_sub_i, op_mul_i, op_mod_i, op_div_i, op_pow_i, op_lt_i, op_le_i, op_gt_i, op_ge_i, op_int_i, op_abs_i, op_len_l, op_len_t, op_len_r, op_tup_l, op_tup_t, op_lst_l, op_lst_t, op_max_i, op_eq_i, eq_go_go, eq_get_get, eq_go_get, eq_get_go, Bool.bne_false, Bool.bne_true, Bool.not_true, Bool.not_false, op_sl_l, op_sl_r, op_sl_t, op_ix_t0, op_ix_t1, op_ix_t2, op_ix_l0, List.getElem?_cons_zero, List.getElem?_cons_succ, List.set_cons_zero, List.set_cons_succ, List.map_cons, List.map_nil, List.length_cons, List.length_nil, List.cons_append, List.nil_append, if_true, if_false, Bool.false_eq_true, decide_eq_true_eq, and_true, true_and, ite_true, ite_false, reduceCtorEq, rn_methM, rn_methM0, isTM_eq, rn_mk, rn_st, mk_own, st_own, ty_own, ex_app, ex_ext, ex_extT, ex_rev, ex_pop, rn_storeM, rn_lc, rn_lc2, rn_turn, rn_turn1, rn_frz]
          exact ⟨w1 ++ [(j : Int)], w2, _, _, _, _, by rw [e1]; simp, rfl, .inr rfl, rfl⟩
        · simp -implicitDefEqProofs only [rn_bind, rn_pure, rn_no, rn_need, rn_opt1, rn_ite, rn_var, rn_put, rn_useD, rn_useN, rn_useO, rn_chkD, rn_chkN, rn_chkO, rn_call, rn_seq, rn_guard, rn_forIn, rn_for0, rn_setD, rn_setN, rn_setO, binM, binMO, unM, cmpT, testM, andT, orT, notT, ifM, asgM, retM, exprM, kM, consA, nilA, tupM, lstM, useAll, chkAll, slM, partM, DL.andM, DL.orM, DL.notM, negM, asgG, gN, gT, gsC, gsN, seqI, frzM, asgTM, dnewM, par2M, hold_d, hold_n, hold_o, d_d, d_n, d_o, out_d, out_n, out_o, fo_next, fo_ret, isBl_b, isInt_i, tr_i, tr_b, tr_n, tr_l, tr_t, it_l, it_r, it_t, li_l, li_r, op_add_i, op_add_l, op_add_t, op_sub_i, op_mul_i, op_mod_i, op_div_i, op_pow_i, op_lt_i, op_le_i, op_gt_i, op_ge_i, op_int_i, op_abs_i, op_len_l, op_len_t, op_len_r, op_tup_l, op_tup_t, op_lst_l, op_lst_t, op_max_i, op_eq_i, eq_go_go, eq_get_get, eq_go_get, eq_get_go, Bool.bne_false, Bool.bne_true, Bool.not_true, Bool.not_false, op_sl_l, op_sl_r, op_sl_t, op_ix_t0, op_ix_t1, op_ix_t2, op_ix_l0, List.getElem?_cons_zero, List.getElem?_cons_succ, List.set_cons_zero, List.set_cons_succ, List.map_cons, List.map_nil, List.length_cons, List.length_nil, List.cons_append, List.nil_append, if_true, if_false, Bool.false_eq_true, decide_eq_true_eq, and_true, true_and, ite_true, ite_false, reduceCtorEq, rn_methM, rn_methM0, isTM_eq, rn_mk, rn_st, mk_own, st_own, ty_own, ex_app, ex_ext, ex_extT, ex_rev, ex_pop, rn_storeM, rn_lc, rn_lc2, rn_turn, rn_turn1, rn_frz]
          refine ⟨small_le (by decide), (go _ rfl).mono ?_⟩
          rintro fl S' ⟨rfl, s5', rfl⟩
          simp -implicitDefEqProofs only [rn_bind, rn_pure, rn_no, rn_need, rn_opt1, rn_ite, rn_var, rn_put, rn_useD, rn_useN, rn_useO, rn_chkD, rn_chkN, rn_chkO, rn_call, rn_seq, rn_guard, rn_forIn, rn_for0, rn_setD, rn_setN, rn_setO, binM, binMO, unM, cmpT, testM, andT, orT, notT, ifM, asgM, retM, exprM, kM, consA, nilA, tupM, lstM, useAll, chkAll, slM, partM, DL.andM, DL.orM, DL.notM, negM, asgG, gN, gT, gsC, gsN, seqI, frzM, asgTM, dnewM, par2M, hold_d, hold_n, hold_o, d_d, d_n, d_o, out_d, out_n, out_o, fo_next, fo_ret, isBl_b, isInt_i, tr_i, tr_b, tr_n, tr_l, tr_t, it_l, it_r, it_t, li_l, li_r, op_add_i, op_add_l, op_add_t, op_sub_i, op_mul_i, op_mod_i, op_div_i, op_pow_i, op_lt_i, op_le_i, op_gt_i, op_ge_i, op_int_i, op_abs_i, op_len_l, op_len_t, op_len_r, op_tup_l, op_tup_t, op_lst_l, op_lst_t, op_max_i, op_eq_i, eq_go_go, eq_get_get, eq_go_get, eq_get_go, Bool.bne_false, Bool.bne_true, Bool.not_true, Bool.not_false, op_sl_l, op_sl_r, op_sl_t, op_ix_t0, op_ix_t1, op_ix_t2, op_ix_l0, List.getElem?_cons_zero, List.getElem?_cons_succ, List.set_cons_zero, List.set_cons_succ, List.map_cons, List.map_nil, List.length_cons, List.length_nil, List.cons_append, List.nil_append, if_true, if_false, Bool.false_eq_true, decide_eq_true_eq, and_true, true_and, ite_true, ite_false, reduceCtorEq, rn_methM, rn_methM0, isTM_eq, rn_mk, rn_st, mk_own, st_own, ty_own, ex_app, ex_ext, ex_extT, ex_rev, ex_pop, rn_storeM, rn_lc, rn_lc2, rn_turn, rn_turn1, rn_frz]
          exact ⟨w1 ++ [(j : Int)], w2, _, _, _, _, by rw [e1]; simp, rfl, .inr rfl, rfl⟩
    · rintro S ⟨w1, w2, s2, s3, s4, s5, e1, e2, e3, rfl⟩
      have : w2 = [] := by
        cases w2 with
        | nil => rfl
        | cons x r => cases e2
      subst this
      rw [List.append_nil] at e1
      subst e1
      have rl := Nat.le_trans (rowsP_len f (sortS c.wk)) (Nat.pow_le_pow_right (by decide) wl)
      have key : ∀ (s2 s3 s4 s5 : Slot) (Q' : List D → List D → Prop), Q' ((plains n c (rowsP lots (sortS c.wk))).map .int) o → Cw (turnM (gN 5) (pure true) (callM 2 d__law_plain (consA (varM 0) (consA (varM 5) nilA)))) [.dat c.toD, .dat (lotsD lots), s2, s3, s4, s5, .un, .un] ((rowsP lots (sortS c.wk)).map rI) [] o Q' := by
        intro s2 s3 s4 s5 Q' q'
        refine cw_map (F := qF n c) (small_le (by simp; omega)) (fun d hd => ?_) (by rw [List.nil_append, qF_eq]; exact q')
        obtain ⟨t, ht, rfl⟩ := List.mem_map.mp hd
        have gt := good_fits f ((rowsP_mem f _ wnd wb t).mp ht)
        simp -implicitDefEqProofs only [rn_bind, rn_pure, rn_no, rn_need, rn_opt1, rn_ite, rn_var, rn_put, rn_useD, rn_useN, rn_useO, rn_chkD, rn_chkN, rn_chkO, rn_call, rn_seq, rn_guard, rn_forIn, rn_for0, rn_setD, rn_setN, rn_setO, binM, binMO, unM, cmpT, testM, andT, orT, notT, ifM, asgM, retM, exprM, kM, consA, nilA, tupM, lstM, useAll, chkAll, slM, partM, DL.andM, DL.orM, DL.notM, negM, asgG, gN, gT, gsC, gsN, seqI, frzM, asgTM, dnewM, par2M, hold_d, hold_n, hold_o, d_d, d_n, d_o, out_d, out_n, out_o, fo_next, fo_ret, isBl_b, isInt_i, tr_i, tr_b, tr_n, tr_l, tr_t, it_l, it_r, it_t, li_l, li_r, op_add_i, op_add_l, op_add_t, op_sub_i, op_mul_i, op_mod_i, op_div_i, op_pow_i, op_lt_i, op_le_i, op_gt_i, op_ge_i, op_int_i, op_abs_i, op_len_l, op_len_t, op_len_r, op_tup_l, op_tup_t, op_lst_l, op_lst_t, op_max_i, op_eq_i, eq_go_go, eq_get_get, eq_go_get, eq_get_go, Bool.bne_false, Bool.bne_true, Bool.not_true, Bool.not_false, op_sl_l, op_sl_r, op_sl_t, op_ix_t0, op_ix_t1, op_ix_t2, op_ix_l0, List.getElem?_cons_zero, List.getElem?_cons_succ, List.set_cons_zero, List.set_cons_succ, List.map_cons, List.map_nil, List.length_cons, List.length_nil, List.cons_append, List.nil_append, if_true, if_false, Bool.false_eq_true, decide_eq_true_eq, and_true, true_and, ite_true, ite_false, reduceCtorEq, rn_methM, rn_methM0, isTM_eq, rn_mk, rn_st, mk_own, st_own, ty_own, ex_app, ex_ext, ex_extT, ex_rev, ex_pop, rn_storeM, rn_lc, rn_lc2, rn_turn, rn_turn1, rn_frz]
        refine plain_ok (.inr rfl) gt h (by omega) fun s hs => ?_
        rw [if_safe rfl ho]
        simp [qF, unR_rI, hs, rn_useD]
      simp only [hC] at key
      have pl : (plains n c (rowsP lots (sortS c.wk))).length ≤ 3125 := by
        refine Nat.le_trans ?_ rl
        unfold plains
        exact List.length_filterMap_le _ _
      have fit : ∀ x ∈ plains n c (rowsP lots (sortS c.wk)), 0 ≤ x ∧ x < ((4 : Nat) : Int) := fun x hx => by
        obtain ⟨t, ht, e⟩ := mem_plains.mp hx
        exact plain_fit n c x h (good_fits f ((rowsP_mem f _ wnd wb t).mp ht)) e
      rcases e3 with rfl | rfl
      · simp -implicitDefEqProofs only [rn_bind, rn_pure, rn_no, rn_need, rn_opt1, rn_ite, rn_var, rn_put, rn_useD, rn_useN, rn_useO, rn_chkD, rn_chkN, rn_chkO, rn_call, rn_seq, rn_guard, rn_forIn, rn_for0, rn_setD, rn_setN, rn_setO, binM, binMO, unM, cmpT, testM, andT, orT, notT, ifM, asgM, retM, exprM, kM, consA, nilA, tupM, lstM, useAll, chkAll, slM, partM, DL.andM, DL.orM, DL.notM, negM, asgG, gN, gT, gsC, gsN, seqI, frzM, asgTM, dnewM, par2M, hold_d, hold_n, hold_o, d_d, d_n, d_o, out_d, out_n, out_o, fo_next, fo_ret, isBl_b, isInt_i, tr_i, tr_b, tr_n, tr_l, tr_t, it_l, it_r, it_t, li_l, li_r, op_add_i, op_add_l, op_add_t, op_sub_i, op_mul_i, op_mod_i, op_div_i, op_pow_i, op_lt_i, op_le_i, op_gt_i, op_ge_i, op_int_i, op_abs_i, op_len_l, op_len_t, op_len_r, op_tup_l, op_tup_t, op_lst_l, op_lst_t, op_max_i, op_eq_i, eq_go_go, eq_get_get, eq_go_get, eq_get_go, Bool.bne_false, Bool.bne_true, Bool.not_true, Bool.not_false, op_sl_l, op_sl_r, op_sl_t, op_ix_t0, op_ix_t1, op_ix_t2, op_ix_l0, List.getElem?_cons_zero, List.getElem?_cons_succ, List.set_cons_zero, List.set_cons_succ, List.map_cons, List.map_nil, List.length_cons, List.length_nil, List.cons_append, List.nil_append, if_true, if_false, Bool.false_eq_true, decide_eq_true_eq, and_true, true_and, ite_true, ite_false, reduceCtorEq, rn_methM, rn_methM0, isTM_eq, rn_mk, rn_st, mk_own, st_own, ty_own, ex_app, ex_ext, ex_extT, ex_rev, ex_pop, rn_storeM, rn_lc, rn_lc2, rn_turn, rn_turn1, rn_frz]
        refine key _ _ _ _ _ ?_
        rw [if_imms (imms_ints _) ho]
        refine sortset_rn (b := 4) (by omega) fit (by decide) ?_
        exact q
      · simp -implicitDefEqProofs only [rn_bind, rn_pure, rn_no, rn_need, rn_opt1, rn_ite, rn_var, rn_put, rn_useD, rn_useN, rn_useO, rn_chkD, rn_chkN, rn_chkO, rn_call, rn_seq, rn_guard, rn_forIn, rn_for0, rn_setD, rn_setN, rn_setO, binM, binMO, unM, cmpT, testM, andT, orT, notT, ifM, asgM, retM, exprM, kM, consA, nilA, tupM, lstM, useAll, chkAll, slM, partM, DL.andM, DL.orM, DL.notM, negM, asgG, gN, gT, gsC, gsN, seqI, frzM, asgTM, dnewM, par2M, hold_d, hold_n, hold_o, d_d, d_n, d_o, out_d, out_n, out_o, fo_next, fo_ret, isBl_b, isInt_i, tr_i, tr_b, tr_n, tr_l, tr_t, it_l, it_r, it_t, li_l, li_r, op_add_i, op_add_l, op_add_t, op_sub_i, op_mul_i, op_mod_i, op_div_i, op_pow_i, op_lt_i, op_le_i, op_gt_i, op_ge_i, op_int_i, op_abs_i, op_len_l, op_len_t, op_len_r, op_tup_l, op_tup_t, op_lst_l, op_lst_t, op_max_i, op_eq_i, eq_go_go, eq_get_get, eq_go_get, eq_get_go, Bool.bne_false, Bool.bne_true, Bool.not_true, Bool.not_false, op_sl_l, op_sl_r, op_sl_t, op_ix_t0, op_ix_t1, op_ix_t2, op_ix_l0, List.getElem?_cons_zero, List.getElem?_cons_succ, List.set_cons_zero, List.set_cons_succ, List.map_cons, List.map_nil, List.length_cons, List.length_nil, List.cons_append, List.nil_append, if_true, if_false, Bool.false_eq_true, decide_eq_true_eq, and_true, true_and, ite_true, ite_false, reduceCtorEq, rn_methM, rn_methM0, isTM_eq, rn_mk, rn_st, mk_own, st_own, ty_own, ex_app, ex_ext, ex_extT, ex_rev, ex_pop, rn_storeM, rn_lc, rn_lc2, rn_turn, rn_turn1, rn_frz]
        refine key _ _ _ _ _ ?_
        rw [if_imms (imms_ints _) ho]
        refine sortset_rn (b := 4) (by omega) fit (by decide) ?_
        exact q
end LW
end
section
set_option maxRecDepth 100000
namespace LW
open PySem L2 DL
/-! ## the law's own cases -/
theorem torn_due {many : List Int} {lots : List (List Int)} (hm : ManyOk many) (f : LotsOk many lots) {n : Nat} {c : Cd} (h : c.Ok many n) : tornN lots n c = (resN lots n c).filter fun s => decide (s ∉ flatN lots n c) := by
  unfold tornN
  refine List.filter_congr fun s _ => ?_
  have : s ∈ plains n c (choN (rowsN (sortS c.wk) 0 lots)) ↔ s ∈ flatN lots n c := by
    unfold flatN
    rw [sortS_mem, mem_plains, mem_plains]
    have wnd := up_nodup (sortS_up c.wk)
    have wb : ∀ w ∈ sortS c.wk, 0 ≤ w ∧ w < (lots.length : Int) := fun w hw => by rw [f.len]; exact wk_fit n c h w ((sortS_mem w _).mp hw)
    constructor
    · rintro ⟨t, ht, e⟩; exact ⟨t, (same_plain f wnd wb t).mp ht, e⟩
    · rintro ⟨t, ht, e⟩; exact ⟨t, (same_plain f wnd wb t).mpr ht, e⟩
  simp only [this]
theorem lt_call {x : Bag} {u : Int} {Q : Res → List D → Prop} (hx : BOk x) (hu : 0 < u) (hu2 : u < 1073741824) (h : ∀ (k : Int) (x' : Bag), 0 ≤ k → k < u → BOk x' → Q (.dat (.int k)) [bagD x']) : Dr d__law_take [.obj 0, .int u] [bagD x] Q :=
  take_call hx hu hu2 h
/-- a comprehension by an invariant that sees what is left -/
theorem cw_left {turn : D → M (Option D)} {env : List Slot} {P : List D → List D → Prop} {I : List D → List D → List D → Prop} : ∀ {ds acc o : List D}, acc.length + ds.length ≤ sizeLine → I ds acc o →
    (∀ d ds acc o, I (d :: ds) acc o → Rn (turn d) ⟨env, o⟩ fun x S' => match x with | some v => I ds (acc ++ [v]) S'.objs | none => I ds acc S'.objs) → (∀ acc o, I [] acc o → P acc o) → Cw turn env ds acc o P
  | [], acc, o, _, i, _, q => by rw [cw_nil]; exact q _ _ i
  | d :: ds, acc, o, hl, i, h, q => by
    rw [cw_cons]
    have hl' : acc.length + (ds.length + 1) ≤ sizeLine := by simpa using hl
    refine (h d ds acc o i).mono ?_
    intro x S' r
    cases x with
    | none => exact cw_left (by omega) r h q
    | some v => exact ⟨by omega, cw_left (by simp; omega) r h q⟩
def absF (d : D) : Option D := match d with
  | .int i => some (.int (if i < 0 then -i else i))
  | _ => none
theorem absF_eq : ∀ ns : List Int, (ns.map D.int).filterMap absF = (ns.map fun i => if i < 0 then -i else i).map .int
  | [] => rfl
  | k :: r => by
    rw [List.map_cons, List.filterMap_cons, absF]
    simp only
    rw [absF_eq r]
    rfl
theorem bag_ok {ns : List Int} (hl : ns.length ≤ 63) {Q : Res → List D → Prop} (q : ∀ x, BOk x → Q (.new (bagD x)) []) : Dr d__law_bag [.rol (ns.map .int)] [] Q := by
  unfold d__law_bag b__law_bag
  rw [dr_run]
  simp -implicitDefEqProofs only [rn_bind, rn_pure, rn_no, rn_need, rn_opt1, rn_ite, rn_var, rn_put, rn_useD, rn_useN, rn_useO, rn_chkD, rn_chkN, rn_chkO, rn_call, rn_seq, rn_guard, rn_forIn, rn_for0, rn_setD, rn_setN, rn_setO, binM, binMO, unM, cmpT, testM, andT, orT, notT, ifM, asgM, retM, exprM, kM, consA, nilA, tupM, lstM, useAll, chkAll, slM, partM, DL.andM, DL.orM, DL.notM, negM, asgG, gN, gT, gsC, gsN, seqI, frzM, asgTM, dnewM, par2M, hold_d, hold_n, hold_o, d_d, d_n, d_o, out_d, out_n, out_o, fo_next, fo_ret, isBl_b, isInt_i, tr_i, tr_b, tr_n, tr_l, tr_t, it_l, it_r, it_t, li_l, li_r, op_add_i, op_add_l, op_add_t, op_sub_i, op_mul_i, op_mod_i, op_div_i, op_pow_i, op_lt_i, op_le_i, op_gt_i, op_ge_i, op_int_i, op_abs_i, op_len_l, op_len_t, op_len_r, op_tup_l, op_tup_t, op_lst_l, op_lst_t, op_max_i, op_eq_i, eq_go_go, eq_get_get, eq_go_get, eq_get_go, Bool.bne_false, Bool.bne_true, Bool.not_true, Bool.not_false, op_sl_l, op_sl_r, op_sl_t, op_ix_t0, op_ix_t1, op_ix_t2, op_ix_l0, List.getElem?_cons_zero, List.getElem?_cons_succ, List.set_cons_zero, List.set_cons_succ, List.map_cons, List.map_nil, List.length_cons, List.length_nil, List.cons_append, List.nil_append, if_true, if_false, Bool.false_eq_true, decide_eq_true_eq, and_true, true_and, ite_true, ite_false, reduceCtorEq, rn_methM, rn_methM0, isTM_eq, rn_mk, rn_st, mk_own, st_own, ty_own, ex_app, ex_ext, ex_extT, ex_rev, ex_pop, rn_storeM, rn_lc, rn_lc2, rn_turn, rn_turn1, rn_frz, List.replicate, show (63 : Int) = ((63 : Nat) : Int) from rfl, cut_take]
  refine cw_map (F := absF) (small_le (by simp; omega)) (fun d hd => ?_) ?_
  · rw [← List.map_take] at hd
    obtain ⟨k, hk, rfl⟩ := List.mem_map.mp hd
    simp -implicitDefEqProofs only [rn_bind, rn_pure, rn_no, rn_need, rn_opt1, rn_ite, rn_var, rn_put, rn_useD, rn_useN, rn_useO, rn_chkD, rn_chkN, rn_chkO, rn_call, rn_seq, rn_guard, rn_forIn, rn_for0, rn_setD, rn_setN, rn_setO, binM, binMO, unM, cmpT, testM, andT, orT, notT, ifM, asgM, retM, exprM, kM, consA, nilA, tupM, lstM, useAll, chkAll, slM, partM, DL.andM, DL.orM, DL.notM, negM, asgG, gN, gT, gsC, gsN, seqI, frzM, asgTM, dnewM, par2M, hold_d, hold_n, hold_o, d_d, d_n, d_o, out_d, out_n, out_o, fo_next, fo_ret, isBl_b, isInt_i, tr_i, tr_b, tr_n, tr_l, tr_t, it_l, it_r, it_t, li_l, li_r, op_add_i, op_add_l, op_add_t, op_sub_i, op_mul_i, op_mod_i, op_div_i, op_pow_i, op_lt_i, op_le_i, op_gt_i, op_ge_i, op_int_i, op_abs_i, op_len_l, op_len_t, op_len_r, op_tup_l, op_tup_t, op_lst_l, op_lst_t, op_max_i, op_eq_i, eq_go_go, eq_get_get, eq_go_get, eq_get_go, Bool.bne_false, Bool.bne_true, Bool.not_true, Bool.not_false, op_sl_l, op_sl_r, op_sl_t, op_ix_t0, op_ix_t1, op_ix_t2, op_ix_l0, List.getElem?_cons_zero, List.getElem?_cons_succ, List.set_cons_zero, List.set_cons_succ, List.map_cons, List.map_nil, List.length_cons, List.length_nil, List.cons_append, List.nil_append, if_true, if_false, Bool.false_eq_true, decide_eq_true_eq, and_true, true_and, ite_true, ite_false, reduceCtorEq, rn_methM, rn_methM0, isTM_eq, rn_mk, rn_st, mk_own, st_own, ty_own, ex_app, ex_ext, ex_extT, ex_rev, ex_pop, rn_storeM, rn_lc, rn_lc2, rn_turn, rn_turn1, rn_frz, wipeE, Slot.frz]
    rfl
  · rw [List.nil_append, ← List.map_take, absF_eq, if_imms (imms_ints _) rfl]
    refine ⟨small_le (by decide), ?_⟩
    exact q ⟨0, 1234567891, 0, (ns.take 63).map fun i => if i < 0 then -i else i⟩ ⟨⟨Int.le_refl _, Int.le.intro_sub 1234567891 rfl, Int.le_refl _, fun v hv => by
      obtain ⟨i, _, rfl⟩ := List.mem_map.mp hv
      split <;> omega⟩, by simp; omega⟩
theorem some_ok {ms : List Int} {x : Bag} (hx : BOk x) (h0 : ms ≠ []) (hl : ms.length ≤ 63) {Q : Res → List D → Prop} (q : ∀ m ∈ ms, ∀ x', BOk x' → Q (.dat (.int m)) [bagD x']) : Dr d__law_some [.obj 0, lI ms] [bagD x] Q := by
  unfold d__law_some b__law_some
  rw [dr_run]
  unfold lI
  simp -implicitDefEqProofs only [rn_bind, rn_pure, rn_no, rn_need, rn_opt1, rn_ite, rn_var, rn_put, rn_useD, rn_useN, rn_useO, rn_chkD, rn_chkN, rn_chkO, rn_call, rn_seq, rn_guard, rn_forIn, rn_for0, rn_setD, rn_setN, rn_setO, binM, binMO, unM, cmpT, testM, andT, orT, notT, ifM, asgM, retM, exprM, kM, consA, nilA, tupM, lstM, useAll, chkAll, slM, partM, DL.andM, DL.orM, DL.notM, negM, asgG, gN, gT, gsC, gsN, seqI, frzM, asgTM, dnewM, par2M, hold_d, hold_n, hold_o, d_d, d_n, d_o, out_d, out_n, out_o, fo_next, fo_ret, isBl_b, isInt_i, tr_i, tr_b, tr_n, tr_l, tr_t, it_l, it_r, it_t, li_l, li_r, op_add_i, op_add_l, op_add_t, op_sub_i, op_mul_i, op_mod_i, op_div_i, op_pow_i, op_lt_i, op_le_i, op_gt_i, op_ge_i, op_int_i, op_abs_i, op_len_l, op_len_t, op_len_r, op_tup_l, op_tup_t, op_lst_l, op_lst_t, op_max_i, op_eq_i, eq_go_go, eq_get_get, eq_go_get, eq_get_go, Bool.bne_false, Bool.bne_true, Bool.not_true, Bool.not_false, op_sl_l, op_sl_r, op_sl_t, op_ix_t0, op_ix_t1, op_ix_t2, op_ix_l0, List.getElem?_cons_zero, List.getElem?_cons_succ, List.set_cons_zero, List.set_cons_succ, List.map_cons, List.map_nil, List.length_cons, List.length_nil, List.cons_append, List.nil_append, if_true, if_false, Bool.false_eq_true, decide_eq_true_eq, and_true, true_and, ite_true, ite_false, reduceCtorEq, rn_methM, rn_methM0, isTM_eq, rn_mk, rn_st, mk_own, st_own, ty_own, ex_app, ex_ext, ex_extT, ex_rev, ex_pop, rn_storeM, rn_lc, rn_lc2, rn_turn, rn_turn1, rn_frz, List.replicate]
  have : 0 < ms.length := List.length_pos_iff.mpr h0
  refine lt_call hx (by simp; omega) (by simp; omega) fun k x' k0 k1 hy => ?_
  rw [safe_b rfl]
  obtain ⟨j, rfl⟩ := toNat_int k0
  simp only [List.length_map] at k1
  have hj : j < ms.length := by omega
  simp -implicitDefEqProofs only [rn_bind, rn_pure, rn_no, rn_need, rn_opt1, rn_ite, rn_var, rn_put, rn_useD, rn_useN, rn_useO, rn_chkD, rn_chkN, rn_chkO, rn_call, rn_seq, rn_guard, rn_forIn, rn_for0, rn_setD, rn_setN, rn_setO, binM, binMO, unM, cmpT, testM, andT, orT, notT, ifM, asgM, retM, exprM, kM, consA, nilA, tupM, lstM, useAll, chkAll, slM, partM, DL.andM, DL.orM, DL.notM, negM, asgG, gN, gT, gsC, gsN, seqI, frzM, asgTM, dnewM, par2M, hold_d, hold_n, hold_o, d_d, d_n, d_o, out_d, out_n, out_o, fo_next, fo_ret, isBl_b, isInt_i, tr_i, tr_b, tr_n, tr_l, tr_t, it_l, it_r, it_t, li_l, li_r, op_add_i, op_add_l, op_add_t, op_sub_i, op_mul_i, op_mod_i, op_div_i, op_pow_i, op_lt_i, op_le_i, op_gt_i, op_ge_i, op_int_i, op_abs_i, op_len_l, op_len_t, op_len_r, op_tup_l, op_tup_t, op_lst_l, op_lst_t, op_max_i, op_eq_i, eq_go_go, eq_get_get, eq_go_get, eq_get_go, Bool.bne_false, Bool.bne_true, Bool.not_true, Bool.not_false, op_sl_l, op_sl_r, op_sl_t, op_ix_t0, op_ix_t1, op_ix_t2, op_ix_l0, List.getElem?_cons_zero, List.getElem?_cons_succ, List.set_cons_zero, List.set_cons_succ, List.map_cons, List.map_nil, List.length_cons, List.length_nil, List.cons_append, List.nil_append, if_true, if_false, Bool.false_eq_true, decide_eq_true_eq, and_true, true_and, ite_true, ite_false, reduceCtorEq, rn_methM, rn_methM0, isTM_eq, rn_mk, rn_st, mk_own, st_own, ty_own, ex_app, ex_ext, ex_extT, ex_rev, ex_pop, rn_storeM, rn_lc, rn_lc2, rn_turn, rn_turn1, rn_frz, op_ix_ln (show (ms.map D.int)[j]? = some (.int ms[j]) by simp [List.getElem?_eq_getElem hj])]
  exact q _ (List.getElem_mem hj) _ hy
/-- a lot -/
def lotF (first : Int) (d : D) : Option D := some d
theorem rng_up : ∀ (n : Nat) (lo : Int), ∀ d ∈ rangeD lo n, ∃ i : Int, d = .int i ∧ lo ≤ i ∧ i < lo + n
  | 0, lo, d, h => by cases h
  | n + 1, lo, d, h => by
    rcases List.mem_cons.mp h with rfl | h
    · exact ⟨lo, rfl, Int.le_refl _, by omega⟩
    · obtain ⟨i, rfl, h1, h2⟩ := rng_up n (lo + 1) d h
      exact ⟨i, rfl, by omega, by omega⟩
theorem lot_ok {m : Int} {x : Bag} (hx : BOk x) (h1 : 1 ≤ m) (h4 : m ≤ 4) {Q : Res → List D → Prop} (q : ∀ l : List Int, ∀ x', BOk x' → l ≠ [] → l.Pairwise (· < ·) → (∀ k ∈ l, 0 ≤ k ∧ k < m) → Q (.dat (tI l)) [bagD x']) : Dr d__law_lot [.obj 0, .int m] [bagD x] Q := by
  unfold d__law_lot b__law_lot
  rw [dr_run]
  simp -implicitDefEqProofs only [rn_bind, rn_pure, rn_no, rn_need, rn_opt1, rn_ite, rn_var, rn_put, rn_useD, rn_useN, rn_useO, rn_chkD, rn_chkN, rn_chkO, rn_call, rn_seq, rn_guard, rn_forIn, rn_for0, rn_setD, rn_setN, rn_setO, binM, binMO, unM, cmpT, testM, andT, orT, notT, ifM, asgM, retM, exprM, kM, consA, nilA, tupM, lstM, useAll, chkAll, slM, partM, DL.andM, DL.orM, DL.notM, negM, asgG, gN, gT, gsC, gsN, seqI, frzM, asgTM, dnewM, par2M, hold_d, hold_n, hold_o, d_d, d_n, d_o, out_d, out_n, out_o, fo_next, fo_ret, isBl_b, isInt_i, tr_i, tr_b, tr_n, tr_l, tr_t, it_l, it_r, it_t, li_l, li_r, op_add_i, op_add_l, op_add_t, op_sub_i, op_mul_i, op_mod_i, op_div_i, op_pow_i, op_lt_i, op_le_i, op_gt_i, op_ge_i, op_int_i, op_abs_i, op_len_l, op_len_t, op_len_r, op_tup_l, op_tup_t, op_lst_l, op_lst_t, op_max_i, op_eq_i, eq_go_go, eq_get_get, eq_go_get, eq_get_go, Bool.bne_false, Bool.bne_true, Bool.not_true, Bool.not_false, op_sl_l, op_sl_r, op_sl_t, op_ix_t0, op_ix_t1, op_ix_t2, op_ix_l0, List.getElem?_cons_zero, List.getElem?_cons_succ, List.set_cons_zero, List.set_cons_succ, List.map_cons, List.map_nil, List.length_cons, List.length_nil, List.cons_append, List.nil_append, if_true, if_false, Bool.false_eq_true, decide_eq_true_eq, and_true, true_and, ite_true, ite_false, reduceCtorEq, rn_methM, rn_methM0, isTM_eq, rn_mk, rn_st, mk_own, st_own, ty_own, ex_app, ex_ext, ex_extT, ex_rev, ex_pop, rn_storeM, rn_lc, rn_lc2, rn_turn, rn_turn1, rn_frz, List.replicate]
  refine lt_call hx (by omega) (by omega) fun first x' k0 k1 hy => ?_
  rw [safe_b rfl]
  simp -implicitDefEqProofs only [rn_bind, rn_pure, rn_no, rn_need, rn_opt1, rn_ite, rn_var, rn_put, rn_useD, rn_useN, rn_useO, rn_chkD, rn_chkN, rn_chkO, rn_call, rn_seq, rn_guard, rn_forIn, rn_for0, rn_setD, rn_setN, rn_setO, binM, binMO, unM, cmpT, testM, andT, orT, notT, ifM, asgM, retM, exprM, kM, consA, nilA, tupM, lstM, useAll, chkAll, slM, partM, DL.andM, DL.orM, DL.notM, negM, asgG, gN, gT, gsC, gsN, seqI, frzM, asgTM, dnewM, par2M, hold_d, hold_n, hold_o, d_d, d_n, d_o, out_d, out_n, out_o, fo_next, fo_ret, isBl_b, isInt_i, tr_i, tr_b, tr_n, tr_l, tr_t, it_l, it_r, it_t, li_l, li_r, op_add_i, op_add_l, op_add_t, op_sub_i, op_mul_i, op_mod_i, op_div_i, op_pow_i, op_lt_i, op_le_i, op_gt_i, op_ge_i, op_int_i, op_abs_i, op_len_l, op_len_t, op_len_r, op_tup_l, op_tup_t, op_lst_l, op_lst_t, op_max_i, op_eq_i, eq_go_go, eq_get_get, eq_go_get, eq_get_go, Bool.bne_false, Bool.bne_true, Bool.not_true, Bool.not_false, op_sl_l, op_sl_r, op_sl_t, op_ix_t0, op_ix_t1, op_ix_t2, op_ix_l0, List.getElem?_cons_zero, List.getElem?_cons_succ, List.set_cons_zero, List.set_cons_succ, List.map_cons, List.map_nil, List.length_cons, List.length_nil, List.cons_append, List.nil_append, if_true, if_false, Bool.false_eq_true, decide_eq_true_eq, and_true, true_and, ite_true, ite_false, reduceCtorEq, rn_methM, rn_methM0, isTM_eq, rn_mk, rn_st, mk_own, st_own, ty_own, ex_app, ex_ext, ex_extT, ex_rev, ex_pop, rn_storeM, rn_lc, rn_lc2, rn_turn, rn_turn1, rn_frz, rng1I]
  refine ⟨by unfold rngOk; exact decide_eq_true (by omega), ?_⟩
  refine cw_left (I := fun ds acc o => ∃ (j : Nat) (l : List Int) (y : Bag), (j : Int) ≤ m ∧ ds = rangeD j (m.toNat - j) ∧ acc = l.map .int ∧ o = [bagD y] ∧ BOk y ∧ l.Pairwise (· < ·) ∧ (∀ k ∈ l, 0 ≤ k ∧ k < (j : Int)) ∧ (first < (j : Int) → l ≠ [])) (small_le (by rw [rangeD_len]; simp; omega)) ⟨0, [], x', by omega, rfl, rfl, rfl, hy, .nil, by simp, fun h => by omega⟩ ?_ ?_
  · rintro d ds acc o ⟨j, l, y, hj, e1, rfl, rfl, hy, up, hb, hf⟩
    have hjm : j < m.toNat := by
      rcases Nat.lt_or_ge j m.toNat with h | h
      · exact h
      · rw [show m.toNat - j = 0 by omega] at e1
        cases e1
    rw [show m.toNat - j = (m.toNat - (j + 1)) + 1 by omega] at e1
    cases e1
    have keep : ∀ y', BOk y' → ∃ (j' : Nat) (l' : List Int) (y'' : Bag), (j' : Int) ≤ m ∧ rangeD ((j : Int) + 1) (m.toNat - (j + 1)) = rangeD j' (m.toNat - j') ∧ l.map D.int ++ [.int j] = l'.map D.int ∧ [bagD y'] = [bagD y''] ∧ BOk y'' ∧ l'.Pairwise (· < ·) ∧ (∀ k ∈ l', 0 ≤ k ∧ k < (j' : Int)) ∧ (first < (j' : Int) → l' ≠ []) := fun y' hy' =>
      ⟨j + 1, l ++ [(j : Int)], y', by omega, rfl, by simp, rfl, hy', by
        rw [List.pairwise_append]
        exact ⟨up, by simp, fun a ha b hb' => by simp at hb'; subst hb'; exact (hb a ha).2⟩, fun k hk => by
        rcases List.mem_append.mp hk with h | h
        · have := hb k h; omega
        · simp at h; omega, fun _ => by simp⟩
    simp -implicitDefEqProofs only [rn_bind, rn_pure, rn_no, rn_need, rn_opt1, rn_ite, rn_var, rn_put, rn_useD, rn_useN, rn_useO, rn_chkD, rn_chkN, rn_chkO, rn_call, rn_seq, rn_guard, rn_forIn, rn_for0, rn_setD, rn_setN, rn_setO, binM, binMO, unM, cmpT, testM, andT, orT, notT, ifM, asgM, retM, exprM, kM, consA, nilA, tupM, lstM, useAll, chkAll, slM, partM, DL.andM, DL.orM, DL.notM, negM, asgG, gN, gT, gsC, gsN, seqI, frzM, asgTM, dnewM, par2M, hold_d, hold_n, hold_o, d_d, d_n, d_o, out_d, out_n, out_o, fo_next, fo_ret, isBl_b, isInt_i, tr_i, tr_b, tr_n, tr_l, tr_t, it_l, it_r, it_t, li_l, li_r, op_add_i, op_add_l, op_add_t, op_sub_i, op_mul_i, op_mod_i, op_div_i, op_pow_i, op_lt_i, op_le_i, op_gt_i, op_ge_i, op_int_i, op_abs_i, op_len_l, op_len_t, op_len_r, op_tup_l, op_tup_t, op_lst_l, op_lst_t, op_max_i, op_eq_i, eq_go_go, eq_get_get, eq_go_get, eq_get_go, Bool.bne_false, Bool.bne_true, Bool.not_true, Bool.not_false, op_sl_l, op_sl_r, op_sl_t, op_ix_t0, op_ix_t1, op_ix_t2, op_ix_l0, List.getElem?_cons_zero, List.getElem?_cons_succ, List.set_cons_zero, List.set_cons_succ, List.map_cons, List.map_nil, List.length_cons, List.length_nil, List.cons_append, List.nil_append, if_true, if_false, Bool.false_eq_true, decide_eq_true_eq, and_true, true_and, ite_true, ite_false, reduceCtorEq, rn_methM, rn_methM0, isTM_eq, rn_mk, rn_st, mk_own, st_own, ty_own, ex_app, ex_ext, ex_extT, ex_rev, ex_pop, rn_storeM, rn_lc, rn_lc2, rn_turn, rn_turn1, rn_frz, wipeE, Slot.frz]
    by_cases c : (j : Int) = first
    · have c' : ((j : Int) == first) = true := by simp [c]
      simp only [c']
      simp -implicitDefEqProofs only [rn_bind, rn_pure, rn_no, rn_need, rn_opt1, rn_ite, rn_var, rn_put, rn_useD, rn_useN, rn_useO, rn_chkD, rn_chkN, rn_chkO, rn_call, rn_seq, rn_guard, rn_forIn, rn_for0, rn_setD, rn_setN, rn_setO, binM, binMO, unM, cmpT, testM, andT, orT, notT, ifM, asgM, retM, exprM, kM, consA, nilA, tupM, lstM, useAll, chkAll, slM, partM, DL.andM, DL.orM, DL.notM, negM, asgG, gN, gT, gsC, gsN, seqI, frzM, asgTM, dnewM, par2M, hold_d, hold_n, hold_o, d_d, d_n, d_o, out_d, out_n, out_o, fo_next, fo_ret, isBl_b, isInt_i, tr_i, tr_b, tr_n, tr_l, tr_t, it_l, it_r, it_t, li_l, li_r, op_add_i, op_add_l, op_add_t, op_sub_i, op_mul_i, op_mod_i, op_div_i, op_pow_i, op_lt_i, op_le_i, op_gt_i, op_ge_i, op_int_i, op_abs_i, op_len_l, op_len_t, op_len_r, op_tup_l, op_tup_t, op_lst_l, op_lst_t, op_max_i, op_eq_i, eq_go_go, eq_get_get, eq_go_get, eq_get_go, Bool.bne_false, Bool.bne_true, Bool.not_true, Bool.not_false, op_sl_l, op_sl_r, op_sl_t, op_ix_t0, op_ix_t1, op_ix_t2, op_ix_l0, List.getElem?_cons_zero, List.getElem?_cons_succ, List.set_cons_zero, List.set_cons_succ, List.map_cons, List.map_nil, List.length_cons, List.length_nil, List.cons_append, List.nil_append, if_true, if_false, Bool.false_eq_true, decide_eq_true_eq, and_true, true_and, ite_true, ite_false, reduceCtorEq, rn_methM, rn_methM0, isTM_eq, rn_mk, rn_st, mk_own, st_own, ty_own, ex_app, ex_ext, ex_extT, ex_rev, ex_pop, rn_storeM, rn_lc, rn_lc2, rn_turn, rn_turn1, rn_frz]
      exact keep _ hy
    · have c' : ((j : Int) == first) = false := by simp [c]
      simp only [c']
      simp -implicitDefEqProofs only [rn_bind, rn_pure, rn_no, rn_need, rn_opt1, rn_ite, rn_var, rn_put, rn_useD, rn_useN, rn_useO, rn_chkD, rn_chkN, rn_chkO, rn_call, rn_seq, rn_guard, rn_forIn, rn_for0, rn_setD, rn_setN, rn_setO, binM, binMO, unM, cmpT, testM, andT, orT, notT, ifM, asgM, retM, exprM, kM, consA, nilA, tupM, lstM, useAll, chkAll, slM, partM, DL.andM, DL.orM, DL.notM, negM, asgG, gN, gT, gsC, gsN, seqI, frzM, asgTM, dnewM, par2M, hold_d, hold_n, hold_o, d_d, d_n, d_o, out_d, out_n, out_o, fo_next, fo_ret, isBl_b, isInt_i, tr_i, tr_b, tr_n, tr_l, tr_t, it_l, it_r, it_t, li_l, li_r, op_add_i, op_add_l, op_add_t, op_sub_i, op_mul_i, op_mod_i, op_div_i, op_pow_i, op_lt_i, op_le_i, op_gt_i, op_ge_i, op_int_i, op_abs_i, op_len_l, op_len_t, op_len_r, op_tup_l, op_tup_t, op_lst_l, op_lst_t, op_max_i, op_eq_i, eq_go_go, eq_get_get, eq_go_get, eq_get_go, Bool.bne_false, Bool.bne_true, Bool.not_true, Bool.not_false, op_sl_l, op_sl_r, op_sl_t, op_ix_t0, op_ix_t1, op_ix_t2, op_ix_l0, List.getElem?_cons_zero, List.getElem?_cons_succ, List.set_cons_zero, List.set_cons_succ, List.map_cons, List.map_nil, List.length_cons, List.length_nil, List.cons_append, List.nil_append, if_true, if_false, Bool.false_eq_true, decide_eq_true_eq, and_true, true_and, ite_true, ite_false, reduceCtorEq, rn_methM, rn_methM0, isTM_eq, rn_mk, rn_st, mk_own, st_own, ty_own, ex_app, ex_ext, ex_extT, ex_rev, ex_pop, rn_storeM, rn_lc, rn_lc2, rn_turn, rn_turn1, rn_frz]
      refine lt_call hy (by omega) (by omega) fun k y' k0 k1 hy' => ?_
      rw [safe_b rfl]
      simp -implicitDefEqProofs only [rn_bind, rn_pure, rn_no, rn_need, rn_opt1, rn_ite, rn_var, rn_put, rn_useD, rn_useN, rn_useO, rn_chkD, rn_chkN, rn_chkO, rn_call, rn_seq, rn_guard, rn_forIn, rn_for0, rn_setD, rn_setN, rn_setO, binM, binMO, unM, cmpT, testM, andT, orT, notT, ifM, asgM, retM, exprM, kM, consA, nilA, tupM, lstM, useAll, chkAll, slM, partM, DL.andM, DL.orM, DL.notM, negM, asgG, gN, gT, gsC, gsN, seqI, frzM, asgTM, dnewM, par2M, hold_d, hold_n, hold_o, d_d, d_n, d_o, out_d, out_n, out_o, fo_next, fo_ret, isBl_b, isInt_i, tr_i, tr_b, tr_n, tr_l, tr_t, it_l, it_r, it_t, li_l, li_r, op_add_i, op_add_l, op_add_t, op_sub_i, op_mul_i, op_mod_i, op_div_i, op_pow_i, op_lt_i, op_le_i, op_gt_i, op_ge_i, op_int_i, op_abs_i, op_len_l, op_len_t, op_len_r, op_tup_l, op_tup_t, op_lst_l, op_lst_t, op_max_i, op_eq_i, eq_go_go, eq_get_get, eq_go_get, eq_get_go, Bool.bne_false, Bool.bne_true, Bool.not_true, Bool.not_false, op_sl_l, op_sl_r, op_sl_t, op_ix_t0, op_ix_t1, op_ix_t2, op_ix_l0, List.getElem?_cons_zero, List.getElem?_cons_succ, List.set_cons_zero, List.set_cons_succ, List.map_cons, List.map_nil, List.length_cons, List.length_nil, List.cons_append, List.nil_append, if_true, if_false, Bool.false_eq_true, decide_eq_true_eq, and_true, true_and, ite_true, ite_false, reduceCtorEq, rn_methM, rn_methM0, isTM_eq, rn_mk, rn_st, mk_own, st_own, ty_own, ex_app, ex_ext, ex_extT, ex_rev, ex_pop, rn_storeM, rn_lc, rn_lc2, rn_turn, rn_turn1, rn_frz]
      split
      · exact keep _ hy'
      · exact ⟨j + 1, l, y', by omega, rfl, rfl, rfl, hy', up, fun k hk => by have := hb k hk; omega, fun h => hf (by omega)⟩
  · rintro acc o ⟨j, l, y, hj, e1, rfl, rfl, hy, up, hb, hf⟩
    have hjm : j = m.toNat := by
      rcases Nat.lt_or_ge j m.toNat with h | h
      · rw [show m.toNat - j = (m.toNat - (j + 1)) + 1 by omega] at e1
        cases e1
      · omega
    rw [if_imms (imms_ints _) (bag_all y)]
    exact q l y hy (hf (by omega)) up fun k hk => by have := hb k hk; omega
theorem Ok_mono {many : List Int} : ∀ (n m : Nat) (c : Cd), n ≤ m → c.Ok many n → c.Ok many m := by
  intro n
  induction n with
  | zero =>
    intro m c _ h
    cases c with
    | go s => cases m <;> exact h
    | get _ _ => exact h.elim
  | succ n ih =>
    intro m c hl h
    cases c with
    | go s => cases m <;> exact h
    | get w ds =>
      cases m with
      | zero => omega
      | succ m =>
        obtain ⟨h0, h1, h2⟩ := h
        refine ⟨h0, h1, ?_⟩
        have : ∀ ds : List Cd, Cd.Oks many n ds → Cd.Oks many m ds := by
          intro ds
          induction ds with
          | nil => intro _; trivial
          | cons d r ihr => intro h; exact ⟨ih m d (by omega) h.1, ihr h.2⟩
        exact this ds h2
theorem Oks_snoc {many : List Int} {n : Nat} {c : Cd} : ∀ {ds : List Cd}, Cd.Oks many n ds → c.Ok many n → Cd.Oks many n (ds ++ [c])
  | [], _, h => ⟨h, trivial⟩
  | _ :: _, h, hc => ⟨h.1, Oks_snoc h.2 hc⟩
end LW
end
section
set_option maxRecDepth 100000
namespace LW
open PySem L2 DL
theorem max_tI {ns : List Int} (h : ns ≠ []) : ∃ k : Int, ∀ {Q : Res → Sx → Prop} {S : Sx}, Rn (opMaxA (tI ns)) S Q = Q (.dat (.int k)) S := by
  cases ns with
  | nil => exact absurd rfl h
  | cons n r =>
    refine ⟨r.foldl max n, fun {Q S} => ?_⟩
    unfold opMaxA
    rw [show (tI (n :: r)).tis.bind D.ints? = some (n :: r) from ints?_map (n :: r)]
    rfl
theorem rich_ok {many ms : List Int} (hm : ManyOk many) (hne : ms ≠ []) (h5 : ms.length ≤ 63) (hms : ∀ m ∈ ms, 0 ≤ m ∧ m < (many.length : Int)) {goals : Int} (g1 : 1 ≤ goals) (g4 : goals ≤ 4) : ∀ (fuel n : Nat), n < fuel → ∀ (x : Bag), BOk x →
    ∀ {Q : Res → List D → Prop}, (∀ (c : Cd) (x' : Bag), c.Ok many n → BOk x' → Q (.dat c.toD) [bagD x']) → Dr (d__law_rich fuel) [.obj 0, lI ms, .int goals, tI many, .int n] [bagD x] Q
  | 0, n, hn, _, _, _, _ => absurd hn (Nat.not_lt_zero _)
  | fuel + 1, n, hn, x, hx, Q, q => by
    unfold d__law_rich b__law_rich
    rw [dr_run]
    generalize hB : exprM (methM "list" 8 _ opAppend) = B
    simp -implicitDefEqProofs only [rn_bind, rn_pure, rn_no, rn_need, rn_opt1, rn_ite, rn_var, rn_put, rn_useD, rn_useN, rn_useO, rn_chkD, rn_chkN, rn_chkO, rn_call, rn_seq, rn_guard, rn_forIn, rn_for0, rn_setD, rn_setN, rn_setO, binM, binMO, unM, cmpT, testM, andT, orT, notT, ifM, asgM, retM, exprM, kM, consA, nilA, tupM, lstM, useAll, chkAll, slM, partM, DL.andM, DL.orM, DL.notM, negM, asgG, gN, gT, gsC, gsN, seqI, frzM, asgTM, dnewM, par2M, hold_d, hold_n, hold_o, d_d, d_n, d_o, out_d, out_n, out_o, fo_next, fo_ret, isBl_b, isInt_i, tr_i, tr_b, tr_n, tr_l, tr_t, it_l, it_r, it_t, li_l, li_r, op_add_i, op_add_l, op_add_t, op_sub_i, op_mul_i, op_mod_i, op_div_i, op_pow_i, op_lt_i, op_le_i, op_gt_i, op_ge_i, op_int_i, op_abs_i, op_len_l, op_len_t, op_len_r, op_tup_l, op_tup_t, op_lst_l, op_lst_t, op_max_i, op_eq_i, eq_go_go, eq_get_get, eq_go_get, eq_get_go, Bool.bne_false, Bool.bne_true, Bool.not_true, Bool.not_false, op_sl_l, op_sl_r, op_sl_t, op_ix_t0, op_ix_t1, op_ix_t2, op_ix_l0, List.getElem?_cons_zero, List.getElem?_cons_succ, List.set_cons_zero, List.set_cons_succ, List.map_cons, List.map_nil, List.length_cons, List.length_nil, List.cons_append, List.nil_append, if_true, if_false, Bool.false_eq_true, decide_eq_true_eq, and_true, true_and, ite_true, ite_false, reduceCtorEq, rn_methM, rn_methM0, isTM_eq, rn_mk, rn_st, mk_own, st_own, ty_own, ex_app, ex_ext, ex_extT, ex_rev, ex_pop, rn_storeM, rn_lc, rn_lc2, rn_turn, rn_turn1, rn_frz, List.replicate]
    have leaf : ∀ y, BOk y → ∀ {Q' : Res → List D → Prop}, (∀ (k : Int) (x' : Bag), 0 ≤ k → k < goals → BOk x' → Q' (.dat (.int k)) [bagD x']) → Dr d__law_take [.obj 0, .int goals] [bagD y] Q' := fun y hy Q' h => lt_call hy (by omega) (by omega) h
    by_cases n0 : n = 0
    · subst n0
      have e0 : (((0 : Nat) : Int) == 0) = true := rfl
      simp only [e0]
      simp -implicitDefEqProofs only [rn_bind, rn_pure, rn_no, rn_need, rn_opt1, rn_ite, rn_var, rn_put, rn_useD, rn_useN, rn_useO, rn_chkD, rn_chkN, rn_chkO, rn_call, rn_seq, rn_guard, rn_forIn, rn_for0, rn_setD, rn_setN, rn_setO, binM, binMO, unM, cmpT, testM, andT, orT, notT, ifM, asgM, retM, exprM, kM, consA, nilA, tupM, lstM, useAll, chkAll, slM, partM, DL.andM, DL.orM, DL.notM, negM, asgG, gN, gT, gsC, gsN, seqI, frzM, asgTM, dnewM, par2M, hold_d, hold_n, hold_o, d_d, d_n, d_o, out_d, out_n, out_o, fo_next, fo_ret, isBl_b, isInt_i, tr_i, tr_b, tr_n, tr_l, tr_t, it_l, it_r, it_t, li_l, li_r, op_add_i, op_add_l, op_add_t, op_sub_i, op_mul_i, op_mod_i, op_div_i, op_pow_i, op_lt_i, op_le_i, op_gt_i, op_ge_i, op_int_i, op_abs_i, op_len_l, op_len_t, op_len_r, op_tup_l, op_tup_t, op_lst_l, op_lst_t, op_max_i, op_eq_i, eq_go_go, eq_get_get, eq_go_get, eq_get_go, Bool.bne_false, Bool.bne_true, Bool.not_true, Bool.not_false, op_sl_l, op_sl_r, op_sl_t, op_ix_t0, op_ix_t1, op_ix_t2, op_ix_l0, List.getElem?_cons_zero, List.getElem?_cons_succ, List.set_cons_zero, List.set_cons_succ, List.map_cons, List.map_nil, List.length_cons, List.length_nil, List.cons_append, List.nil_append, if_true, if_false, Bool.false_eq_true, decide_eq_true_eq, and_true, true_and, ite_true, ite_false, reduceCtorEq, rn_methM, rn_methM0, isTM_eq, rn_mk, rn_st, mk_own, st_own, ty_own, ex_app, ex_ext, ex_extT, ex_rev, ex_pop, rn_storeM, rn_lc, rn_lc2, rn_turn, rn_turn1, rn_frz]
      refine leaf x hx fun k x' k0 k1 hy => ?_
      rw [safe_b rfl]
      simp -implicitDefEqProofs only [rn_bind, rn_pure, rn_no, rn_need, rn_opt1, rn_ite, rn_var, rn_put, rn_useD, rn_useN, rn_useO, rn_chkD, rn_chkN, rn_chkO, rn_call, rn_seq, rn_guard, rn_forIn, rn_for0, rn_setD, rn_setN, rn_setO, binM, binMO, unM, cmpT, testM, andT, orT, notT, ifM, asgM, retM, exprM, kM, consA, nilA, tupM, lstM, useAll, chkAll, slM, partM, DL.andM, DL.orM, DL.notM, negM, asgG, gN, gT, gsC, gsN, seqI, frzM, asgTM, dnewM, par2M, hold_d, hold_n, hold_o, d_d, d_n, d_o, out_d, out_n, out_o, fo_next, fo_ret, isBl_b, isInt_i, tr_i, tr_b, tr_n, tr_l, tr_t, it_l, it_r, it_t, li_l, li_r, op_add_i, op_add_l, op_add_t, op_sub_i, op_mul_i, op_mod_i, op_div_i, op_pow_i, op_lt_i, op_le_i, op_gt_i, op_ge_i, op_int_i, op_abs_i, op_len_l, op_len_t, op_len_r, op_tup_l, op_tup_t, op_lst_l, op_lst_t, op_max_i, op_eq_i, eq_go_go, eq_get_get, eq_go_get, eq_get_go, Bool.bne_false, Bool.bne_true, Bool.not_true, Bool.not_false, op_sl_l, op_sl_r, op_sl_t, op_ix_t0, op_ix_t1, op_ix_t2, op_ix_l0, List.getElem?_cons_zero, List.getElem?_cons_succ, List.set_cons_zero, List.set_cons_succ, List.map_cons, List.map_nil, List.length_cons, List.length_nil, List.cons_append, List.nil_append, if_true, if_false, Bool.false_eq_true, decide_eq_true_eq, and_true, true_and, ite_true, ite_false, reduceCtorEq, rn_methM, rn_methM0, isTM_eq, rn_mk, rn_st, mk_own, st_own, ty_own, ex_app, ex_ext, ex_extT, ex_rev, ex_pop, rn_storeM, rn_lc, rn_lc2, rn_turn, rn_turn1, rn_frz]
      exact ⟨small_le (by decide), q (.go k) x' ⟨k0, by omega⟩ hy⟩
    · have e0 : (((n : Nat) : Int) == 0) = false := by simp [n0]
      simp only [e0]
      simp -implicitDefEqProofs only [rn_bind, rn_pure, rn_no, rn_need, rn_opt1, rn_ite, rn_var, rn_put, rn_useD, rn_useN, rn_useO, rn_chkD, rn_chkN, rn_chkO, rn_call, rn_seq, rn_guard, rn_forIn, rn_for0, rn_setD, rn_setN, rn_setO, binM, binMO, unM, cmpT, testM, andT, orT, notT, ifM, asgM, retM, exprM, kM, consA, nilA, tupM, lstM, useAll, chkAll, slM, partM, DL.andM, DL.orM, DL.notM, negM, asgG, gN, gT, gsC, gsN, seqI, frzM, asgTM, dnewM, par2M, hold_d, hold_n, hold_o, d_d, d_n, d_o, out_d, out_n, out_o, fo_next, fo_ret, isBl_b, isInt_i, tr_i, tr_b, tr_n, tr_l, tr_t, it_l, it_r, it_t, li_l, li_r, op_add_i, op_add_l, op_add_t, op_sub_i, op_mul_i, op_mod_i, op_div_i, op_pow_i, op_lt_i, op_le_i, op_gt_i, op_ge_i, op_int_i, op_abs_i, op_len_l, op_len_t, op_len_r, op_tup_l, op_tup_t, op_lst_l, op_lst_t, op_max_i, op_eq_i, eq_go_go, eq_get_get, eq_go_get, eq_get_go, Bool.bne_false, Bool.bne_true, Bool.not_true, Bool.not_false, op_sl_l, op_sl_r, op_sl_t, op_ix_t0, op_ix_t1, op_ix_t2, op_ix_l0, List.getElem?_cons_zero, List.getElem?_cons_succ, List.set_cons_zero, List.set_cons_succ, List.map_cons, List.map_nil, List.length_cons, List.length_nil, List.cons_append, List.nil_append, if_true, if_false, Bool.false_eq_true, decide_eq_true_eq, and_true, true_and, ite_true, ite_false, reduceCtorEq, rn_methM, rn_methM0, isTM_eq, rn_mk, rn_st, mk_own, st_own, ty_own, ex_app, ex_ext, ex_extT, ex_rev, ex_pop, rn_storeM, rn_lc, rn_lc2, rn_turn, rn_turn1, rn_frz]
      refine lt_call hx (by decide) (by decide) fun k x' k0 k1 hy => ?_
      rw [safe_b rfl]
      simp -implicitDefEqProofs only [rn_bind, rn_pure, rn_no, rn_need, rn_opt1, rn_ite, rn_var, rn_put, rn_useD, rn_useN, rn_useO, rn_chkD, rn_chkN, rn_chkO, rn_call, rn_seq, rn_guard, rn_forIn, rn_for0, rn_setD, rn_setN, rn_setO, binM, binMO, unM, cmpT, testM, andT, orT, notT, ifM, asgM, retM, exprM, kM, consA, nilA, tupM, lstM, useAll, chkAll, slM, partM, DL.andM, DL.orM, DL.notM, negM, asgG, gN, gT, gsC, gsN, seqI, frzM, asgTM, dnewM, par2M, hold_d, hold_n, hold_o, d_d, d_n, d_o, out_d, out_n, out_o, fo_next, fo_ret, isBl_b, isInt_i, tr_i, tr_b, tr_n, tr_l, tr_t, it_l, it_r, it_t, li_l, li_r, op_add_i, op_add_l, op_add_t, op_sub_i, op_mul_i, op_mod_i, op_div_i, op_pow_i, op_lt_i, op_le_i, op_gt_i, op_ge_i, op_int_i, op_abs_i, op_len_l, op_len_t, op_len_r, op_tup_l, op_tup_t, op_lst_l, op_lst_t, op_max_i, op_eq_i, eq_go_go, eq_get_get, eq_go_get, eq_get_go, Bool.bne_false, Bool.bne_true, Bool.not_true, Bool.not_false, op_sl_l, op_sl_r, op_sl_t, op_ix_t0, op_ix_t1, op_ix_t2, op_ix_l0, List.getElem?_cons_zero, List.getElem?_cons_succ, List.set_cons_zero, List.set_cons_succ, List.map_cons, List.map_nil, List.length_cons, List.length_nil, List.cons_append, List.nil_append, if_true, if_false, Bool.false_eq_true, decide_eq_true_eq, and_true, true_and, ite_true, ite_false, reduceCtorEq, rn_methM, rn_methM0, isTM_eq, rn_mk, rn_st, mk_own, st_own, ty_own, ex_app, ex_ext, ex_extT, ex_rev, ex_pop, rn_storeM, rn_lc, rn_lc2, rn_turn, rn_turn1, rn_frz]
      split
      · refine leaf x' hy fun k x2 k0 k1 hy2 => ?_
        rw [safe_b rfl]
        simp -implicitDefEqProofs only [rn_bind, rn_pure, rn_no, rn_need, rn_opt1, rn_ite, rn_var, rn_put, rn_useD, rn_useN, rn_useO, rn_chkD, rn_chkN, rn_chkO, rn_call, rn_seq, rn_guard, rn_forIn, rn_for0, rn_setD, rn_setN, rn_setO, binM, binMO, unM, cmpT, testM, andT, orT, notT, ifM, asgM, retM, exprM, kM, consA, nilA, tupM, lstM, useAll, chkAll, slM, partM, DL.andM, DL.orM, DL.notM, negM, asgG, gN, gT, gsC, gsN, seqI, frzM, asgTM, dnewM, par2M, hold_d, hold_n, hold_o, d_d, d_n, d_o, out_d, out_n, out_o, fo_next, fo_ret, isBl_b, isInt_i, tr_i, tr_b, tr_n, tr_l, tr_t, it_l, it_r, it_t, li_l, li_r, op_add_i, op_add_l, op_add_t, op_sub_i, op_mul_i, op_mod_i, op_div_i, op_pow_i, op_lt_i, op_le_i, op_gt_i, op_ge_i, op_int_i, op_abs_i, op_len_l, op_len_t, op_len_r, op_tup_l, op_tup_t, op_lst_l, op_lst_t, op_max_i, op_eq_i, eq_go_go, eq_get_get, eq_go_get, eq_get_go, Bool.bne_false, Bool.bne_true, Bool.not_true, Bool.not_false, op_sl_l, op_sl_r, op_sl_t, op_ix_t0, op_ix_t1, op_ix_t2, op_ix_l0, List.getElem?_cons_zero, List.getElem?_cons_succ, List.set_cons_zero, List.set_cons_succ, List.map_cons, List.map_nil, List.length_cons, List.length_nil, List.cons_append, List.nil_append, if_true, if_false, Bool.false_eq_true, decide_eq_true_eq, and_true, true_and, ite_true, ite_false, reduceCtorEq, rn_methM, rn_methM0, isTM_eq, rn_mk, rn_st, mk_own, st_own, ty_own, ex_app, ex_ext, ex_extT, ex_rev, ex_pop, rn_storeM, rn_lc, rn_lc2, rn_turn, rn_turn1, rn_frz]
        refine ⟨small_le (by decide), q (.go k) x2 ?_ hy2⟩
        cases n <;> exact ⟨k0, by omega⟩
      · refine some_ok hy hne h5 fun w hw x2 hy2 => ?_
        rw [safe_b rfl]
        obtain ⟨w0, w1⟩ := hms w hw
        obtain ⟨j, rfl⟩ := toNat_int w0
        have hj : j < many.length := by omega
        have hmj : many[((j : Int)).toNat]? = some many[j] := by simp [List.getElem?_eq_getElem hj]
        have mj := hm.fit _ (List.getElem_mem hj)
        simp -implicitDefEqProofs only [rn_bind, rn_pure, rn_no, rn_need, rn_opt1, rn_ite, rn_var, rn_put, rn_useD, rn_useN, rn_useO, rn_chkD, rn_chkN, rn_chkO, rn_call, rn_seq, rn_guard, rn_forIn, rn_for0, rn_setD, rn_setN, rn_setO, binM, binMO, unM, cmpT, testM, andT, orT, notT, ifM, asgM, retM, exprM, kM, consA, nilA, tupM, lstM, useAll, chkAll, slM, partM, DL.andM, DL.orM, DL.notM, negM, asgG, gN, gT, gsC, gsN, seqI, frzM, asgTM, dnewM, par2M, hold_d, hold_n, hold_o, d_d, d_n, d_o, out_d, out_n, out_o, fo_next, fo_ret, isBl_b, isInt_i, tr_i, tr_b, tr_n, tr_l, tr_t, it_l, it_r, it_t, li_l, li_r, op_add_i, op_add_l, op_add_t, op_sub_i, op_mul_i, op_mod_i, op_div_i, op_pow_i, op_lt_i, op_le_i, op_gt_i, op_ge_i, op_int_i, op_abs_i, op_len_l, op_len_t, op_len_r, op_tup_l, op_tup_t, op_lst_l, op_lst_t, op_max_i, op_eq_i, eq_go_go, eq_get_get, eq_go_get, eq_get_go, Bool.bne_false, Bool.bne_true, Bool.not_true, Bool.not_false, op_sl_l, op_sl_r, op_sl_t, op_ix_t0, op_ix_t1, op_ix_t2, op_ix_l0, List.getElem?_cons_zero, List.getElem?_cons_succ, List.set_cons_zero, List.set_cons_succ, List.map_cons, List.map_nil, List.length_cons, List.length_nil, List.cons_append, List.nil_append, if_true, if_false, Bool.false_eq_true, decide_eq_true_eq, and_true, true_and, ite_true, ite_false, reduceCtorEq, rn_methM, rn_methM0, isTM_eq, rn_mk, rn_st, mk_own, st_own, ty_own, ex_app, ex_ext, ex_extT, ex_rev, ex_pop, rn_storeM, rn_lc, rn_lc2, rn_turn, rn_turn1, rn_frz, ix_tI w0 hmj]
        refine lt_call hy2 (by omega) (by omega) fun full x3 k0 k1 hy3 => ?_
        rw [safe_b rfl]
        simp -implicitDefEqProofs only [rn_bind, rn_pure, rn_no, rn_need, rn_opt1, rn_ite, rn_var, rn_put, rn_useD, rn_useN, rn_useO, rn_chkD, rn_chkN, rn_chkO, rn_call, rn_seq, rn_guard, rn_forIn, rn_for0, rn_setD, rn_setN, rn_setO, binM, binMO, unM, cmpT, testM, andT, orT, notT, ifM, asgM, retM, exprM, kM, consA, nilA, tupM, lstM, useAll, chkAll, slM, partM, DL.andM, DL.orM, DL.notM, negM, asgG, gN, gT, gsC, gsN, seqI, frzM, asgTM, dnewM, par2M, hold_d, hold_n, hold_o, d_d, d_n, d_o, out_d, out_n, out_o, fo_next, fo_ret, isBl_b, isInt_i, tr_i, tr_b, tr_n, tr_l, tr_t, it_l, it_r, it_t, li_l, li_r, op_add_i, op_add_l, op_add_t, op_sub_i, op_mul_i, op_mod_i, op_div_i, op_pow_i, op_lt_i, op_le_i, op_gt_i, op_ge_i, op_int_i, op_abs_i, op_len_l, op_len_t, op_len_r, op_tup_l, op_tup_t, op_lst_l, op_lst_t, op_max_i, op_eq_i, eq_go_go, eq_get_get, eq_go_get, eq_get_go, Bool.bne_false, Bool.bne_true, Bool.not_true, Bool.not_false, op_sl_l, op_sl_r, op_sl_t, op_ix_t0, op_ix_t1, op_ix_t2, op_ix_l0, List.getElem?_cons_zero, List.getElem?_cons_succ, List.set_cons_zero, List.set_cons_succ, List.map_cons, List.map_nil, List.length_cons, List.length_nil, List.cons_append, List.nil_append, if_true, if_false, Bool.false_eq_true, decide_eq_true_eq, and_true, true_and, ite_true, ite_false, reduceCtorEq, rn_methM, rn_methM0, isTM_eq, rn_mk, rn_st, mk_own, st_own, ty_own, ex_app, ex_ext, ex_extT, ex_rev, ex_pop, rn_storeM, rn_lc, rn_lc2, rn_turn, rn_turn1, rn_frz, parK, rng1I, ix_tI w0 hmj]
        refine ⟨small_le (by decide), by unfold rngOk; exact decide_eq_true (by omega), ?_⟩
        obtain ⟨p, rfl⟩ : ∃ p, n = p + 1 := ⟨n - 1, by omega⟩
        have step : ∀ (m : Nat) (y : Bag) (cs : List Cd) (s6 : Slot), m ≤ p → BOk y → cs.length ≤ 4 → Rn B ⟨[.dat (.obj 0), .dat (lI ms), .dat (.int goals), .dat (tI many), .dat (.int ((p + 1 : Nat) : Int)), .dat (.int j), s6, .dat (.int full), .own (.lst (cs.map Cd.toD)), .dat (.int m)], [bagD y]⟩
            fun fl S' => fl = .next ∧ ∃ c y', c.Ok many p ∧ BOk y' ∧ S' = ⟨[.dat (.obj 0), .dat (lI ms), .dat (.int goals), .dat (tI many), .dat (.int ((p + 1 : Nat) : Int)), .dat (.int j), s6, .dat (.int full), .own (.lst ((cs ++ [c]).map Cd.toD)), .dat (.int m)], [bagD y']⟩ := by
          intro m y cs s6 hmp hy hc
          rw [← hB]
          simp -implicitDefEqProofs only [rn_bind, rn_pure, rn_no, rn_need, rn_opt1, rn_ite, rn_var, rn_put, rn_useD, rn_useN, rn_useO, rn_chkD, rn_chkN, rn_chkO, rn_call, rn_seq, rn_guard, rn_forIn, rn_for0, rn_setD, rn_setN, rn_setO, binM, binMO, unM, cmpT, testM, andT, orT, notT, ifM, asgM, retM, exprM, kM, consA, nilA, tupM, lstM, useAll, chkAll, slM, partM, DL.andM, DL.orM, DL.notM, negM, asgG, gN, gT, gsC, gsN, seqI, frzM, asgTM, dnewM, par2M, hold_d, hold_n, hold_o, d_d, d_n, d_o, out_d, out_n, out_o, fo_next, fo_ret, isBl_b, isInt_i, tr_i, tr_b, tr_n, tr_l, tr_t, it_l, it_r, it_t, li_l, li_r, op_add_i, op_add_l, op_add_t, op_sub_i, op_mul_i, op_mod_i, op_div_i, op_pow_i, op_lt_i, op_le_i, op_gt_i, op_ge_i, op_int_i, op_abs_i, op_len_l, op_len_t, op_len_r, op_tup_l, op_tup_t, op_lst_l, op_lst_t, op_max_i, op_eq_i, eq_go_go, eq_get_get, eq_go_get, eq_get_go, Bool.bne_false, Bool.bne_true, Bool.not_true, Bool.not_false, op_sl_l, op_sl_r, op_sl_t, op_ix_t0, op_ix_t1, op_ix_t2, op_ix_l0, List.getElem?_cons_zero, List.getElem?_cons_succ, List.set_cons_zero, List.set_cons_succ, List.map_cons, List.map_nil, List.length_cons, List.length_nil, List.cons_append, List.nil_append, if_true, if_false, Bool.false_eq_true, decide_eq_true_eq, and_true, true_and, ite_true, ite_false, reduceCtorEq, rn_methM, rn_methM0, isTM_eq, rn_mk, rn_st, mk_own, st_own, ty_own, ex_app, ex_ext, ex_extT, ex_rev, ex_pop, rn_storeM, rn_lc, rn_lc2, rn_turn, rn_turn1, rn_frz]
          refine rich_ok hm hne h5 hms g1 g4 fuel m (by omega) y hy fun c y' hc' hy' => ?_
          rw [safe_b (Cd.imm c)]
          simp -implicitDefEqProofs only [rn_bind, rn_pure, rn_no, rn_need, rn_opt1, rn_ite, rn_var, rn_put, rn_useD, rn_useN, rn_useO, rn_chkD, rn_chkN, rn_chkO, rn_call, rn_seq, rn_guard, rn_forIn, rn_for0, rn_setD, rn_setN, rn_setO, binM, binMO, unM, cmpT, testM, andT, orT, notT, ifM, asgM, retM, exprM, kM, consA, nilA, tupM, lstM, useAll, chkAll, slM, partM, DL.andM, DL.orM, DL.notM, negM, asgG, gN, gT, gsC, gsN, seqI, frzM, asgTM, dnewM, par2M, hold_d, hold_n, hold_o, d_d, d_n, d_o, out_d, out_n, out_o, fo_next, fo_ret, isBl_b, isInt_i, tr_i, tr_b, tr_n, tr_l, tr_t, it_l, it_r, it_t, li_l, li_r, op_add_i, op_add_l, op_add_t, op_sub_i, op_mul_i, op_mod_i, op_div_i, op_pow_i, op_lt_i, op_le_i, op_gt_i, op_ge_i, op_int_i, op_abs_i, op_len_l, op_len_t, op_len_r, op_tup_l, op_tup_t, op_lst_l, op_lst_t, op_max_i, op_eq_i, eq_go_go, eq_get_get, eq_go_get, eq_get_go, Bool.bne_false, Bool.bne_true, Bool.not_true, Bool.not_false, op_sl_l, op_sl_r, op_sl_t, op_ix_t0, op_ix_t1, op_ix_t2, op_ix_l0, List.getElem?_cons_zero, List.getElem?_cons_succ, List.set_cons_zero, List.set_cons_succ, List.map_cons, List.map_nil, List.length_cons, List.length_nil, List.cons_append, List.nil_append, if_true, if_false, Bool.false_eq_true, decide_eq_true_eq, and_true, true_and, ite_true, ite_false, reduceCtorEq, rn_methM, rn_methM0, isTM_eq, rn_mk, rn_st, mk_own, st_own, ty_own, ex_app, ex_ext, ex_extT, ex_rev, ex_pop, rn_storeM, rn_lc, rn_lc2, rn_turn, rn_turn1, rn_frz]
          exact ⟨small_lt (by simp; omega), c, y', Ok_mono m p c hmp hc', hy', by simp⟩
        refine for_inv (I := fun xs S => ∃ (cs : List Cd) (y : Bag) (s6 s9 : Slot), cs.length + xs.length = many[j].toNat ∧ (∀ d ∈ xs, ∃ i : Int, d = .int i) ∧ Cd.Oks many p cs ∧ BOk y ∧ S = ⟨[.dat (.obj 0), .dat (lI ms), .dat (.int goals), .dat (tI many), .dat (.int ((p + 1 : Nat) : Int)), .dat (.int j), s6, .dat (.int full), .own (.lst (cs.map Cd.toD)), s9], [bagD y]⟩) ⟨[], x3, _, _, by rw [rangeD_len]; simp, fun d hd => ?_, trivial, hy3, rfl⟩ ?_ ?_
        · obtain ⟨i, e, _⟩ := rng_up _ _ d hd
          exact ⟨i, e⟩
        · rintro d xs S ⟨cs, y, s6, s9, hl, hd, ok, hy, rfl⟩
          obtain ⟨i, rfl⟩ := hd d List.mem_cons_self
          simp only [List.length_cons] at hl
          obtain ⟨mx, emx⟩ := max_tI (ns := many) (by intro h; rw [h] at hj; exact absurd hj (Nat.not_lt_zero _))
          have fin : ∀ (m : Nat), m ≤ p → Rn B ⟨[.dat (.obj 0), .dat (lI ms), .dat (.int goals), .dat (tI many), .dat (.int ((p + 1 : Nat) : Int)), .dat (.int j), .dat (.int i), .dat (.int full), .own (.lst (cs.map Cd.toD)), .dat (.int m)], [bagD y]⟩ fun fl S2 => match fl with
              | .next => ∃ (cs : List Cd) (y : Bag) (s6 s9 : Slot), cs.length + xs.length = many[j].toNat ∧ (∀ d ∈ xs, ∃ i : Int, d = .int i) ∧ Cd.Oks many p cs ∧ BOk y ∧ S2 = ⟨[.dat (.obj 0), .dat (lI ms), .dat (.int goals), .dat (tI many), .dat (.int ((p + 1 : Nat) : Int)), .dat (.int j), s6, .dat (.int full), .own (.lst (cs.map Cd.toD)), s9], [bagD y]⟩
              | _ => False := fun m hmp => (step m y cs _ hmp hy (by omega)).mono fun fl S2 ⟨e, c, y', hc, hy', e2⟩ => by
            subst e e2
            exact ⟨cs ++ [c], y', _, _, by simp; omega, fun d h => hd d (List.mem_cons_of_mem _ h), Oks_snoc ok hc, hy', rfl⟩
          simp -implicitDefEqProofs only [rn_bind, rn_pure, rn_no, rn_need, rn_opt1, rn_ite, rn_var, rn_put, rn_useD, rn_useN, rn_useO, rn_chkD, rn_chkN, rn_chkO, rn_call, rn_seq, rn_guard, rn_forIn, rn_for0, rn_setD, rn_setN, rn_setO, binM, binMO, unM, cmpT, testM, andT, orT, notT, ifM, asgM, retM, exprM, kM, consA, nilA, tupM, lstM, useAll, chkAll, slM, partM, DL.andM, DL.orM, DL.notM, negM, asgG, gN, gT, gsC, gsN, seqI, frzM, asgTM, dnewM, par2M, hold_d, hold_n, hold_o, d_d, d_n, d_o, out_d, out_n, out_o, fo_next, fo_ret, isBl_b, isInt_i, tr_i, tr_b, tr_n, tr_l, tr_t, it_l, it_r, it_t, li_l, li_r, op_add_i, op_add_l, op_add_t, op_sub_i, op_mul_i, op_mod_i, op_div_i, op_pow_i, op_lt_i, op_le_i, op_gt_i, op_ge_i, op_int_i, op_abs_i, op_len_l, op_len_t, op_len_r, op_tup_l, op_tup_t, op_lst_l, op_lst_t, op_max_i, op_eq_i, eq_go_go, eq_get_get, eq_go_get, eq_get_go, Bool.bne_false, Bool.bne_true, Bool.not_true, Bool.not_false, op_sl_l, op_sl_r, op_sl_t, op_ix_t0, op_ix_t1, op_ix_t2, op_ix_l0, List.getElem?_cons_zero, List.getElem?_cons_succ, List.set_cons_zero, List.set_cons_succ, List.map_cons, List.map_nil, List.length_cons, List.length_nil, List.cons_append, List.nil_append, if_true, if_false, Bool.false_eq_true, decide_eq_true_eq, and_true, true_and, ite_true, ite_false, reduceCtorEq, rn_methM, rn_methM0, isTM_eq, rn_mk, rn_st, mk_own, st_own, ty_own, ex_app, ex_ext, ex_extT, ex_rev, ex_pop, rn_storeM, rn_lc, rn_lc2, rn_turn, rn_turn1, rn_frz, emx]
          have c1 : ((p + 1 : Nat) : Int) - 1 = (p : Int) := by omega
          simp only [c1]
          split
          · rename_i e3
            have p2 : p = 2 := by simp at e3; omega
            split
            · split
              · exact (fin 1 (by omega)).mono fun fl S2 h => by cases fl <;> first | exact h | exact h.elim
              · exact (fin p (by omega)).mono fun fl S2 h => by cases fl <;> first | exact h | exact h.elim
            · exact (fin p (by omega)).mono fun fl S2 h => by cases fl <;> first | exact h | exact h.elim
          · exact (fin p (by omega)).mono fun fl S2 h => by cases fl <;> first | exact h | exact h.elim
        · rintro S ⟨cs, y, s6, s9, hl, hd, ok, hy, rfl⟩
          simp -implicitDefEqProofs only [rn_bind, rn_pure, rn_no, rn_need, rn_opt1, rn_ite, rn_var, rn_put, rn_useD, rn_useN, rn_useO, rn_chkD, rn_chkN, rn_chkO, rn_call, rn_seq, rn_guard, rn_forIn, rn_for0, rn_setD, rn_setN, rn_setO, binM, binMO, unM, cmpT, testM, andT, orT, notT, ifM, asgM, retM, exprM, kM, consA, nilA, tupM, lstM, useAll, chkAll, slM, partM, DL.andM, DL.orM, DL.notM, negM, asgG, gN, gT, gsC, gsN, seqI, frzM, asgTM, dnewM, par2M, hold_d, hold_n, hold_o, d_d, d_n, d_o, out_d, out_n, out_o, fo_next, fo_ret, isBl_b, isInt_i, tr_i, tr_b, tr_n, tr_l, tr_t, it_l, it_r, it_t, li_l, li_r, op_add_i, op_add_l, op_add_t, op_sub_i, op_mul_i, op_mod_i, op_div_i, op_pow_i, op_lt_i, op_le_i, op_gt_i, op_ge_i, op_int_i, op_abs_i, op_len_l, op_len_t, op_len_r, op_tup_l, op_tup_t, op_lst_l, op_lst_t, op_max_i, op_eq_i, eq_go_go, eq_get_get, eq_go_get, eq_get_go, Bool.bne_false, Bool.bne_true, Bool.not_true, Bool.not_false, op_sl_l, op_sl_r, op_sl_t, op_ix_t0, op_ix_t1, op_ix_t2, op_ix_l0, List.getElem?_cons_zero, List.getElem?_cons_succ, List.set_cons_zero, List.set_cons_succ, List.map_cons, List.map_nil, List.length_cons, List.length_nil, List.cons_append, List.nil_append, if_true, if_false, Bool.false_eq_true, decide_eq_true_eq, and_true, true_and, ite_true, ite_false, reduceCtorEq, rn_methM, rn_methM0, isTM_eq, rn_mk, rn_st, mk_own, st_own, ty_own, ex_app, ex_ext, ex_extT, ex_rev, ex_pop, rn_storeM, rn_lc, rn_lc2, rn_turn, rn_turn1, rn_frz]
          refine ⟨small_le (by decide), ?_⟩
          have e := q (.get j cs) y ⟨w0, by rw [hmj]; simp at hl; congr 1; omega, ok⟩ hy
          rw [← toDs_map]
          exact e
end LW
end
section
set_option maxRecDepth 100000
namespace LW
open PySem L2 DL
theorem rngN (n : Nat) : ∀ d ∈ rangeD 0 n, ∃ i : Int, d = .int i ∧ 0 ≤ i ∧ i < (n : Int) := fun d hd => by
  obtain ⟨i, e, h1, h2⟩ := rng_up n 0 d hd
  exact ⟨i, e, h1, by omega⟩
theorem rng_ints : ∀ (n : Nat) (lo : Int), ∃ ms : List Int, rangeD lo n = ms.map .int ∧ ms.length = n ∧ ∀ m ∈ ms, lo ≤ m ∧ m < lo + n
  | 0, lo => ⟨[], rfl, rfl, by simp⟩
  | n + 1, lo => by
    obtain ⟨ms, e, hl, h⟩ := rng_ints n (lo + 1)
    refine ⟨lo :: ms, by rw [rangeD, e]; rfl, by simp [hl], fun m hm => ?_⟩
    rcases List.mem_cons.mp hm with rfl | hm
    · omega
    · have := h m hm; omega
theorem tup_lI {ms : List Int} {Q : Res → Sx → Prop} {S : Sx} : Rn (opTuple (lI ms)) S Q = Q (.dat (tI ms)) S := rfl
theorem len_tI {ms : List Int} {Q : Res → Sx → Prop} {S : Sx} : Rn (opLen (tI ms)) S Q = Q (.dat (.int ms.length)) S := by
  show Q (.dat (.int ((ms.map D.int).length : Nat))) S = _
  rw [List.length_map]
theorem lstRg {n : Nat} (h : n ≤ 1000) {Q : Res → Sx → Prop} {S : Sx} : Rn (opLstRg (.int (n : Nat))) S Q = Q (.new (.lst (rangeD 0 n))) S := by
  show Rn (M.need _ _) S Q = _
  rw [rn_need, decide_eq_true_eq, Int.toNat_natCast]
  refine propext ⟨fun h => h.2, fun q => ⟨⟨by omega, by omega, Nat.le_trans h (by decide)⟩, q⟩⟩
theorem par_dd {i j : Nat} {d e : D} {env : List Slot} {o : List D} {Q : Fl → Sx → Prop} : Rn (parK i j (.dat d) (.dat e)) ⟨env, o⟩ Q = Q .next ⟨(env.set i (.dat d)).set j (.dat e), o⟩ := rfl
theorem rich5 {many ms : List Int} (hm : ManyOk many) (hne : ms ≠ []) (h5 : ms.length ≤ 63) (hms : ∀ m ∈ ms, 0 ≤ m ∧ m < (many.length : Int)) {goals : Int} (g1 : 1 ≤ goals) (g4 : goals ≤ 4) {x : Bag} (hx : BOk x) {Q : Res → List D → Prop} (q : ∀ (c : Cd) (x' : Bag), c.Ok many 3 → BOk x' → Q (.dat c.toD) [bagD x']) : Dr (d__law_rich 5) [.obj 0, .lst (ms.map .int), .int goals, .tup (many.map .int), .int 3] [bagD x] Q := by
  have := rich_ok hm hne h5 hms g1 g4 5 3 (by decide) x hx q
  exact this
def caseA : M Fl := (asgM 4 (unM opTuple (lcM (rng1I (binM opAdd (kM (.int 1)) (callM 2 d__law_take (consA (varM 0) (consA (varM 1) nilA))))) [9] (turnM (gN 9) (pure true) (binM opAdd (kM (.int 1)) (binM opMax2 (callM 2 d__law_take (consA (varM 0) (consA (varM 2) nilA))) (callM 2 d__law_take (consA (varM 0) (consA (varM 2) nilA)))))))))
def caseB : M Fl := (par2M 6 7 (binM opAdd (kM (.int 1)) (binM opMax2 (callM 2 d__law_take (consA (varM 0) (consA (kM (.int 4)) nilA))) (callM 2 d__law_take (consA (varM 0) (consA (kM (.int 4)) nilA))))) (callM 2 d__law_take (consA (varM 0) (consA (kM (.int 3)) nilA))))
def caseC : M Fl := (asgM 5 (unM opLstRg (unM opLen (varM 4))))
def caseD : M Fl := (ifM (cmpT opLt (varM 7) (kM (.int 2))) (seqM (asgM 8 (callM 2 d__law_take (consA (varM 0) (consA (unM opLen (varM 4)) nilA))))
  (asgM 5 (ifM (cmpT (opEq false) (varM 7) (kM (.int 0))) (lstM (consA (varM 8) nilA)) (lstM (consA (varM 8) (consA (callM 2 d__law_take (consA (varM 0) (consA (unM opLen (varM 4)) nilA))) nilA)))))) (pure .next))
def caseE : M Fl := (retM (tupM (consA (varM 4) (consA (varM 6) (consA (callM 5 (d__law_rich 5) (consA (varM 0) (consA (varM 5) (consA (varM 6) (consA (varM 4) (consA (varM 3) nilA)))))) nilA)))))
theorem case_eq : b__law_case = seqM caseA (seqM caseB (seqM caseC (seqM caseD caseE))) := rfl
theorem caseA_ok {x : Bag} (hx : BOk x) : Rn caseA ⟨[.dat (.obj 0), .dat (.int 5), .dat (.int 4), .dat (.int 3), .un, .un, .un, .un, .un, .un], [bagD x]⟩ fun fl S' => fl = .next ∧ ∃ (many : List Int) (y : Bag), ManyOk many ∧ many ≠ [] ∧ BOk y ∧ S' = ⟨[.dat (.obj 0), .dat (.int 5), .dat (.int 4), .dat (.int 3), .dat (tI many), .un, .un, .un, .un, .un], [bagD y]⟩ := by
  unfold caseA
  simp -implicitDefEqProofs only [rn_bind, rn_pure, rn_no, rn_need, rn_opt1, rn_ite, rn_var, rn_put, rn_useD, rn_useN, rn_useO, rn_chkD, rn_chkN, rn_chkO, rn_call, rn_seq, rn_guard, rn_forIn, rn_for0, rn_setD, rn_setN, rn_setO, binM, binMO, unM, cmpT, testM, andT, orT, notT, ifM, asgM, retM, exprM, kM, consA, nilA, tupM, lstM, useAll, chkAll, slM, partM, DL.andM, DL.orM, DL.notM, negM, asgG, gN, gT, gsC, gsN, seqI, frzM, asgTM, dnewM, par2M, hold_d, hold_n, hold_o, d_d, d_n, d_o, out_d, out_n, out_o, fo_next, fo_ret, isBl_b, isInt_i, tr_i, tr_b, tr_n, tr_l, tr_t, it_l, it_r, it_t, li_l, li_r, op_add_i, op_add_l, op_add_t, op_sub_i, op_mul_i, op_mod_i, op_div_i, op_pow_i, op_lt_i, op_le_i, op_gt_i, op_ge_i, op_int_i, op_abs_i, op_len_l, op_len_t, op_len_r, op_tup_l, op_tup_t, op_lst_l, op_lst_t, op_max_i, op_eq_i, eq_go_go, eq_get_get, eq_go_get, eq_get_go, Bool.bne_false, Bool.bne_true, Bool.not_true, Bool.not_false, op_sl_l, op_sl_r, op_sl_t, op_ix_t0, op_ix_t1, op_ix_t2, op_ix_l0, List.getElem?_cons_zero, List.getElem?_cons_succ, List.set_cons_zero, List.set_cons_succ, List.map_cons, List.map_nil, List.length_cons, List.length_nil, List.cons_append, List.nil_append, if_true, if_false, Bool.false_eq_true, decide_eq_true_eq, and_true, true_and, ite_true, ite_false, reduceCtorEq, rn_methM, rn_methM0, isTM_eq, rn_mk, rn_st, mk_own, st_own, ty_own, ex_app, ex_ext, ex_extT, ex_rev, ex_pop, rn_storeM, rn_lc, rn_lc2, rn_turn, rn_turn1, rn_frz, rng1I]
  refine lt_call hx (by decide) (by decide) fun k x1 k0 k1 hx1 => ?_
  rw [safe_b rfl]
  simp -implicitDefEqProofs only [rn_bind, rn_pure, rn_no, rn_need, rn_opt1, rn_ite, rn_var, rn_put, rn_useD, rn_useN, rn_useO, rn_chkD, rn_chkN, rn_chkO, rn_call, rn_seq, rn_guard, rn_forIn, rn_for0, rn_setD, rn_setN, rn_setO, binM, binMO, unM, cmpT, testM, andT, orT, notT, ifM, asgM, retM, exprM, kM, consA, nilA, tupM, lstM, useAll, chkAll, slM, partM, DL.andM, DL.orM, DL.notM, negM, asgG, gN, gT, gsC, gsN, seqI, frzM, asgTM, dnewM, par2M, hold_d, hold_n, hold_o, d_d, d_n, d_o, out_d, out_n, out_o, fo_next, fo_ret, isBl_b, isInt_i, tr_i, tr_b, tr_n, tr_l, tr_t, it_l, it_r, it_t, li_l, li_r, op_add_i, op_add_l, op_add_t, op_sub_i, op_mul_i, op_mod_i, op_div_i, op_pow_i, op_lt_i, op_le_i, op_gt_i, op_ge_i, op_int_i, op_abs_i, op_len_l, op_len_t, op_len_r, op_tup_l, op_tup_t, op_lst_l, op_lst_t, op_max_i, op_eq_i, eq_go_go, eq_get_get, eq_go_get, eq_get_go, Bool.bne_false, Bool.bne_true, Bool.not_true, Bool.not_false, op_sl_l, op_sl_r, op_sl_t, op_ix_t0, op_ix_t1, op_ix_t2, op_ix_l0, List.getElem?_cons_zero, List.getElem?_cons_succ, List.set_cons_zero, List.set_cons_succ, List.map_cons, List.map_nil, List.length_cons, List.length_nil, List.cons_append, List.nil_append, if_true, if_false, Bool.false_eq_true, decide_eq_true_eq, and_true, true_and, ite_true, ite_false, reduceCtorEq, rn_methM, rn_methM0, isTM_eq, rn_mk, rn_st, mk_own, st_own, ty_own, ex_app, ex_ext, ex_extT, ex_rev, ex_pop, rn_storeM, rn_lc, rn_lc2, rn_turn, rn_turn1, rn_frz]
  refine ⟨by unfold rngOk; exact decide_eq_true (by omega), ?_⟩
  refine cw_left (I := fun ds acc o => ∃ (many : List Int) (y : Bag), acc = many.map .int ∧ many.length + ds.length = (1 + k).toNat ∧ (∀ m ∈ many, 1 ≤ m ∧ m ≤ 4) ∧ o = [bagD y] ∧ BOk y) (small_le (by rw [rangeD_len]; simp; omega)) ⟨[], x1, rfl, by rw [rangeD_len]; simp, by simp, rfl, hx1⟩ ?_ ?_
  · rintro d ds acc o ⟨many, y, rfl, hl, hm, rfl, hy⟩
    simp -implicitDefEqProofs only [rn_bind, rn_pure, rn_no, rn_need, rn_opt1, rn_ite, rn_var, rn_put, rn_useD, rn_useN, rn_useO, rn_chkD, rn_chkN, rn_chkO, rn_call, rn_seq, rn_guard, rn_forIn, rn_for0, rn_setD, rn_setN, rn_setO, binM, binMO, unM, cmpT, testM, andT, orT, notT, ifM, asgM, retM, exprM, kM, consA, nilA, tupM, lstM, useAll, chkAll, slM, partM, DL.andM, DL.orM, DL.notM, negM, asgG, gN, gT, gsC, gsN, seqI, frzM, asgTM, dnewM, par2M, hold_d, hold_n, hold_o, d_d, d_n, d_o, out_d, out_n, out_o, fo_next, fo_ret, isBl_b, isInt_i, tr_i, tr_b, tr_n, tr_l, tr_t, it_l, it_r, it_t, li_l, li_r, op_add_i, op_add_l, op_add_t, op_sub_i, op_mul_i, op_mod_i, op_div_i, op_pow_i, op_lt_i, op_le_i, op_gt_i, op_ge_i, op_int_i, op_abs_i, op_len_l, op_len_t, op_len_r, op_tup_l, op_tup_t, op_lst_l, op_lst_t, op_max_i, op_eq_i, eq_go_go, eq_get_get, eq_go_get, eq_get_go, Bool.bne_false, Bool.bne_true, Bool.not_true, Bool.not_false, op_sl_l, op_sl_r, op_sl_t, op_ix_t0, op_ix_t1, op_ix_t2, op_ix_l0, List.getElem?_cons_zero, List.getElem?_cons_succ, List.set_cons_zero, List.set_cons_succ, List.map_cons, List.map_nil, List.length_cons, List.length_nil, List.cons_append, List.nil_append, if_true, if_false, Bool.false_eq_true, decide_eq_true_eq, and_true, true_and, ite_true, ite_false, reduceCtorEq, rn_methM, rn_methM0, isTM_eq, rn_mk, rn_st, mk_own, st_own, ty_own, ex_app, ex_ext, ex_extT, ex_rev, ex_pop, rn_storeM, rn_lc, rn_lc2, rn_turn, rn_turn1, rn_frz, wipeE, Slot.frz]
    refine lt_call hy (by decide) (by decide) fun a y1 a0 a1 hy1 => ?_
    rw [safe_b rfl]
    simp -implicitDefEqProofs only [rn_bind, rn_pure, rn_no, rn_need, rn_opt1, rn_ite, rn_var, rn_put, rn_useD, rn_useN, rn_useO, rn_chkD, rn_chkN, rn_chkO, rn_call, rn_seq, rn_guard, rn_forIn, rn_for0, rn_setD, rn_setN, rn_setO, binM, binMO, unM, cmpT, testM, andT, orT, notT, ifM, asgM, retM, exprM, kM, consA, nilA, tupM, lstM, useAll, chkAll, slM, partM, DL.andM, DL.orM, DL.notM, negM, asgG, gN, gT, gsC, gsN, seqI, frzM, asgTM, dnewM, par2M, hold_d, hold_n, hold_o, d_d, d_n, d_o, out_d, out_n, out_o, fo_next, fo_ret, isBl_b, isInt_i, tr_i, tr_b, tr_n, tr_l, tr_t, it_l, it_r, it_t, li_l, li_r, op_add_i, op_add_l, op_add_t, op_sub_i, op_mul_i, op_mod_i, op_div_i, op_pow_i, op_lt_i, op_le_i, op_gt_i, op_ge_i, op_int_i, op_abs_i, op_len_l, op_len_t, op_len_r, op_tup_l, op_tup_t, op_lst_l, op_lst_t, op_max_i, op_eq_i, eq_go_go, eq_get_get, eq_go_get, eq_get_go, Bool.bne_false, Bool.bne_true, Bool.not_true, Bool.not_false, op_sl_l, op_sl_r, op_sl_t, op_ix_t0, op_ix_t1, op_ix_t2, op_ix_l0, List.getElem?_cons_zero, List.getElem?_cons_succ, List.set_cons_zero, List.set_cons_succ, List.map_cons, List.map_nil, List.length_cons, List.length_nil, List.cons_append, List.nil_append, if_true, if_false, Bool.false_eq_true, decide_eq_true_eq, and_true, true_and, ite_true, ite_false, reduceCtorEq, rn_methM, rn_methM0, isTM_eq, rn_mk, rn_st, mk_own, st_own, ty_own, ex_app, ex_ext, ex_extT, ex_rev, ex_pop, rn_storeM, rn_lc, rn_lc2, rn_turn, rn_turn1, rn_frz]
    refine lt_call hy1 (by decide) (by decide) fun b y2 b0 b1 hy2 => ?_
    rw [safe_b rfl]
    simp -implicitDefEqProofs only [rn_bind, rn_pure, rn_no, rn_need, rn_opt1, rn_ite, rn_var, rn_put, rn_useD, rn_useN, rn_useO, rn_chkD, rn_chkN, rn_chkO, rn_call, rn_seq, rn_guard, rn_forIn, rn_for0, rn_setD, rn_setN, rn_setO, binM, binMO, unM, cmpT, testM, andT, orT, notT, ifM, asgM, retM, exprM, kM, consA, nilA, tupM, lstM, useAll, chkAll, slM, partM, DL.andM, DL.orM, DL.notM, negM, asgG, gN, gT, gsC, gsN, seqI, frzM, asgTM, dnewM, par2M, hold_d, hold_n, hold_o, d_d, d_n, d_o, out_d, out_n, out_o, fo_next, fo_ret, isBl_b, isInt_i, tr_i, tr_b, tr_n, tr_l, tr_t, it_l, it_r, it_t, li_l, li_r, op_add_i, op_add_l, op_add_t, op_sub_i, op_mul_i, op_mod_i, op_div_i, op_pow_i, op_lt_i, op_le_i, op_gt_i, op_ge_i, op_int_i, op_abs_i, op_len_l, op_len_t, op_len_r, op_tup_l, op_tup_t, op_lst_l, op_lst_t, op_max_i, op_eq_i, eq_go_go, eq_get_get, eq_go_get, eq_get_go, Bool.bne_false, Bool.bne_true, Bool.not_true, Bool.not_false, op_sl_l, op_sl_r, op_sl_t, op_ix_t0, op_ix_t1, op_ix_t2, op_ix_l0, List.getElem?_cons_zero, List.getElem?_cons_succ, List.set_cons_zero, List.set_cons_succ, List.map_cons, List.map_nil, List.length_cons, List.length_nil, List.cons_append, List.nil_append, if_true, if_false, Bool.false_eq_true, decide_eq_true_eq, and_true, true_and, ite_true, ite_false, reduceCtorEq, rn_methM, rn_methM0, isTM_eq, rn_mk, rn_st, mk_own, st_own, ty_own, ex_app, ex_ext, ex_extT, ex_rev, ex_pop, rn_storeM, rn_lc, rn_lc2, rn_turn, rn_turn1, rn_frz]
    refine ⟨many ++ [1 + if a < b then b else a], y2, by simp, by simp at hl ⊢; omega, fun m h => ?_, rfl, hy2⟩
    rcases List.mem_append.mp h with h | h
    · exact hm m h
    · simp at h; subst h; split <;> omega
  · rintro acc o ⟨many, y, rfl, hl, hm, rfl, hy⟩
    rw [if_imms (imms_ints _) (bag_all y)]
    simp only [List.length_nil] at hl
    have M : ManyOk many := ⟨by omega, hm⟩
    have ml : 1 ≤ many.length ∧ many.length ≤ 5 := by omega
    have mne : many ≠ [] := fun h => by rw [h] at ml; exact absurd ml.1 (by decide)
    exact ⟨many, y, M, mne, hy, rfl⟩
theorem caseB_ok {x : Bag} (hx : BOk x) (many : List Int) : Rn caseB ⟨[.dat (.obj 0), .dat (.int 5), .dat (.int 4), .dat (.int 3), .dat (tI many), .un, .un, .un, .un, .un], [bagD x]⟩ fun fl S' => fl = .next ∧ ∃ (g s : Int) (y : Bag), 1 ≤ g ∧ g ≤ 4 ∧ BOk y ∧ S' = ⟨[.dat (.obj 0), .dat (.int 5), .dat (.int 4), .dat (.int 3), .dat (tI many), .un, .dat (.int g), .dat (.int s), .un, .un], [bagD y]⟩ := by
  unfold caseB
  simp -implicitDefEqProofs only [rn_bind, rn_pure, rn_no, rn_need, rn_opt1, rn_ite, rn_var, rn_put, rn_useD, rn_useN, rn_useO, rn_chkD, rn_chkN, rn_chkO, rn_call, rn_seq, rn_guard, rn_forIn, rn_for0, rn_setD, rn_setN, rn_setO, binM, binMO, unM, cmpT, testM, andT, orT, notT, ifM, asgM, retM, exprM, kM, consA, nilA, tupM, lstM, useAll, chkAll, slM, partM, DL.andM, DL.orM, DL.notM, negM, asgG, gN, gT, gsC, gsN, seqI, frzM, asgTM, dnewM, par2M, hold_d, hold_n, hold_o, d_d, d_n, d_o, out_d, out_n, out_o, fo_next, fo_ret, isBl_b, isInt_i, tr_i, tr_b, tr_n, tr_l, tr_t, it_l, it_r, it_t, li_l, li_r, op_add_i, op_add_l, op_add_t, op_sub_i, op_mul_i, op_mod_i, op_div_i, op_pow_i, op_lt_i, op_le_i, op_gt_i, op_ge_i, op_int_i, op_abs_i, op_len_l, op_len_t, op_len_r, op_tup_l, op_tup_t, op_lst_l, op_lst_t, op_max_i, op_eq_i, eq_go_go, eq_get_get, eq_go_get, eq_get_go, Bool.bne_false, Bool.bne_true, Bool.not_true, Bool.not_false, op_sl_l, op_sl_r, op_sl_t, op_ix_t0, op_ix_t1, op_ix_t2, op_ix_l0, List.getElem?_cons_zero, List.getElem?_cons_succ, List.set_cons_zero, List.set_cons_succ, List.map_cons, List.map_nil, List.length_cons, List.length_nil, List.cons_append, List.nil_append, if_true, if_false, Bool.false_eq_true, decide_eq_true_eq, and_true, true_and, ite_true, ite_false, reduceCtorEq, rn_methM, rn_methM0, isTM_eq, rn_mk, rn_st, mk_own, st_own, ty_own, ex_app, ex_ext, ex_extT, ex_rev, ex_pop, rn_storeM, rn_lc, rn_lc2, rn_turn, rn_turn1, rn_frz]
  refine lt_call hx (by decide) (by decide) fun a y1 a0 a1 hy1 => ?_
  rw [safe_b rfl]
  simp -implicitDefEqProofs only [rn_bind, rn_pure, rn_no, rn_need, rn_opt1, rn_ite, rn_var, rn_put, rn_useD, rn_useN, rn_useO, rn_chkD, rn_chkN, rn_chkO, rn_call, rn_seq, rn_guard, rn_forIn, rn_for0, rn_setD, rn_setN, rn_setO, binM, binMO, unM, cmpT, testM, andT, orT, notT, ifM, asgM, retM, exprM, kM, consA, nilA, tupM, lstM, useAll, chkAll, slM, partM, DL.andM, DL.orM, DL.notM, negM, asgG, gN, gT, gsC, gsN, seqI, frzM, asgTM, dnewM, par2M, hold_d, hold_n, hold_o, d_d, d_n, d_o, out_d, out_n, out_o, fo_next, fo_ret, isBl_b, isInt_i, tr_i, tr_b, tr_n, tr_l, tr_t, it_l, it_r, it_t, li_l, li_r, op_add_i, op_add_l, op_add_t, op_sub_i, op_mul_i, op_mod_i, op_div_i, op_pow_i, op_lt_i, op_le_i, op_gt_i, op_ge_i, op_int_i, op_abs_i, op_len_l, op_len_t, op_len_r, op_tup_l, op_tup_t, op_lst_l, op_lst_t, op_max_i, op_eq_i, eq_go_go, eq_get_get, eq_go_get, eq_get_go, Bool.bne_false, Bool.bne_true, Bool.not_true, Bool.not_false, op_sl_l, op_sl_r, op_sl_t, op_ix_t0, op_ix_t1, op_ix_t2, op_ix_l0, List.getElem?_cons_zero, List.getElem?_cons_succ, List.set_cons_zero, List.set_cons_succ, List.map_cons, List.map_nil, List.length_cons, List.length_nil, List.cons_append, List.nil_append, if_true, if_false, Bool.false_eq_true, decide_eq_true_eq, and_true, true_and, ite_true, ite_false, reduceCtorEq, rn_methM, rn_methM0, isTM_eq, rn_mk, rn_st, mk_own, st_own, ty_own, ex_app, ex_ext, ex_extT, ex_rev, ex_pop, rn_storeM, rn_lc, rn_lc2, rn_turn, rn_turn1, rn_frz]
  refine lt_call hy1 (by decide) (by decide) fun b y2 b0 b1 hy2 => ?_
  rw [safe_b rfl]
  simp -implicitDefEqProofs only [rn_bind, rn_pure, rn_no, rn_need, rn_opt1, rn_ite, rn_var, rn_put, rn_useD, rn_useN, rn_useO, rn_chkD, rn_chkN, rn_chkO, rn_call, rn_seq, rn_guard, rn_forIn, rn_for0, rn_setD, rn_setN, rn_setO, binM, binMO, unM, cmpT, testM, andT, orT, notT, ifM, asgM, retM, exprM, kM, consA, nilA, tupM, lstM, useAll, chkAll, slM, partM, DL.andM, DL.orM, DL.notM, negM, asgG, gN, gT, gsC, gsN, seqI, frzM, asgTM, dnewM, par2M, hold_d, hold_n, hold_o, d_d, d_n, d_o, out_d, out_n, out_o, fo_next, fo_ret, isBl_b, isInt_i, tr_i, tr_b, tr_n, tr_l, tr_t, it_l, it_r, it_t, li_l, li_r, op_add_i, op_add_l, op_add_t, op_sub_i, op_mul_i, op_mod_i, op_div_i, op_pow_i, op_lt_i, op_le_i, op_gt_i, op_ge_i, op_int_i, op_abs_i, op_len_l, op_len_t, op_len_r, op_tup_l, op_tup_t, op_lst_l, op_lst_t, op_max_i, op_eq_i, eq_go_go, eq_get_get, eq_go_get, eq_get_go, Bool.bne_false, Bool.bne_true, Bool.not_true, Bool.not_false, op_sl_l, op_sl_r, op_sl_t, op_ix_t0, op_ix_t1, op_ix_t2, op_ix_l0, List.getElem?_cons_zero, List.getElem?_cons_succ, List.set_cons_zero, List.set_cons_succ, List.map_cons, List.map_nil, List.length_cons, List.length_nil, List.cons_append, List.nil_append, if_true, if_false, Bool.false_eq_true, decide_eq_true_eq, and_true, true_and, ite_true, ite_false, reduceCtorEq, rn_methM, rn_methM0, isTM_eq, rn_mk, rn_st, mk_own, st_own, ty_own, ex_app, ex_ext, ex_extT, ex_rev, ex_pop, rn_storeM, rn_lc, rn_lc2, rn_turn, rn_turn1, rn_frz]
  refine lt_call hy2 (by decide) (by decide) fun sort y3 s0 s1 hy3 => ?_
  rw [safe_b rfl]
  simp -implicitDefEqProofs only [rn_bind, rn_pure, rn_no, rn_need, rn_opt1, rn_ite, rn_var, rn_put, rn_useD, rn_useN, rn_useO, rn_chkD, rn_chkN, rn_chkO, rn_call, rn_seq, rn_guard, rn_forIn, rn_for0, rn_setD, rn_setN, rn_setO, binM, binMO, unM, cmpT, testM, andT, orT, notT, ifM, asgM, retM, exprM, kM, consA, nilA, tupM, lstM, useAll, chkAll, slM, partM, DL.andM, DL.orM, DL.notM, negM, asgG, gN, gT, gsC, gsN, seqI, frzM, asgTM, dnewM, par2M, hold_d, hold_n, hold_o, d_d, d_n, d_o, out_d, out_n, out_o, fo_next, fo_ret, isBl_b, isInt_i, tr_i, tr_b, tr_n, tr_l, tr_t, it_l, it_r, it_t, li_l, li_r, op_add_i, op_add_l, op_add_t, op_sub_i, op_mul_i, op_mod_i, op_div_i, op_pow_i, op_lt_i, op_le_i, op_gt_i, op_ge_i, op_int_i, op_abs_i, op_len_l, op_len_t, op_len_r, op_tup_l, op_tup_t, op_lst_l, op_lst_t, op_max_i, op_eq_i, eq_go_go, eq_get_get, eq_go_get, eq_get_go, Bool.bne_false, Bool.bne_true, Bool.not_true, Bool.not_false, op_sl_l, op_sl_r, op_sl_t, op_ix_t0, op_ix_t1, op_ix_t2, op_ix_l0, List.getElem?_cons_zero, List.getElem?_cons_succ, List.set_cons_zero, List.set_cons_succ, List.map_cons, List.map_nil, List.length_cons, List.length_nil, List.cons_append, List.nil_append, if_true, if_false, Bool.false_eq_true, decide_eq_true_eq, and_true, true_and, ite_true, ite_false, reduceCtorEq, rn_methM, rn_methM0, isTM_eq, rn_mk, rn_st, mk_own, st_own, ty_own, ex_app, ex_ext, ex_extT, ex_rev, ex_pop, rn_storeM, rn_lc, rn_lc2, rn_turn, rn_turn1, rn_frz, par_dd]
  have gl : 1 ≤ 1 + (if b > a then b else a) ∧ 1 + (if b > a then b else a) ≤ 4 := by split <;> omega
  exact ⟨_, _, y3, gl.1, gl.2, hy3, rfl⟩
theorem caseD_ok {x : Bag} (hx : BOk x) {many : List Int} (hm : ManyOk many) (hne : many ≠ []) (g s : Int) : Rn caseD ⟨[.dat (.obj 0), .dat (.int 5), .dat (.int 4), .dat (.int 3), .dat (tI many), .own (.lst (rangeD 0 many.length)), .dat (.int g), .dat (.int s), .un, .un], [bagD x]⟩ fun fl S' => fl = .next ∧ ∃ (ms : List Int) (y : Bag) (s8 : Slot), ms ≠ [] ∧ ms.length ≤ 63 ∧ (∀ m ∈ ms, 0 ≤ m ∧ m < (many.length : Int)) ∧ BOk y ∧ S' = ⟨[.dat (.obj 0), .dat (.int 5), .dat (.int 4), .dat (.int 3), .dat (tI many), .own (lI ms), .dat (.int g), .dat (.int s), s8, .un], [bagD y]⟩ := by
  have ml : 1 ≤ many.length := List.length_pos_iff.mpr hne
  have ml5 := hm.len
  have lc : ∀ y, BOk y → ∀ {Q' : Res → List D → Prop}, (∀ (k : Int) (x' : Bag), 0 ≤ k → k < (many.length : Int) → BOk x' → Q' (.dat (.int k)) [bagD x']) → Dr d__law_take [.obj 0, .int (many.length : Nat)] [bagD y] Q' := fun y hy Q' h => lt_call hy (by omega) (by omega) h
  unfold caseD
  simp -implicitDefEqProofs only [rn_bind, rn_pure, rn_no, rn_need, rn_opt1, rn_ite, rn_var, rn_put, rn_useD, rn_useN, rn_useO, rn_chkD, rn_chkN, rn_chkO, rn_call, rn_seq, rn_guard, rn_forIn, rn_for0, rn_setD, rn_setN, rn_setO, binM, binMO, unM, cmpT, testM, andT, orT, notT, ifM, asgM, retM, exprM, kM, consA, nilA, tupM, lstM, useAll, chkAll, slM, partM, DL.andM, DL.orM, DL.notM, negM, asgG, gN, gT, gsC, gsN, seqI, frzM, asgTM, dnewM, par2M, hold_d, hold_n, hold_o, d_d, d_n, d_o, out_d, out_n, out_o, fo_next, fo_ret, isBl_b, isInt_i, tr_i, tr_b, tr_n, tr_l, tr_t, it_l, it_r, it_t, li_l, li_r, op_add_i, op_add_l, op_add_t, op_sub_i, op_mul_i, op_mod_i, op_div_i, op_pow_i, op_lt_i, op_le_i, op_gt_i, op_ge_i, op_int_i, op_abs_i, op_len_l, op_len_t, op_len_r, op_tup_l, op_tup_t, op_lst_l, op_lst_t, op_max_i, op_eq_i, eq_go_go, eq_get_get, eq_go_get, eq_get_go, Bool.bne_false, Bool.bne_true, Bool.not_true, Bool.not_false, op_sl_l, op_sl_r, op_sl_t, op_ix_t0, op_ix_t1, op_ix_t2, op_ix_l0, List.getElem?_cons_zero, List.getElem?_cons_succ, List.set_cons_zero, List.set_cons_succ, List.map_cons, List.map_nil, List.length_cons, List.length_nil, List.cons_append, List.nil_append, if_true, if_false, Bool.false_eq_true, decide_eq_true_eq, and_true, true_and, ite_true, ite_false, reduceCtorEq, rn_methM, rn_methM0, isTM_eq, rn_mk, rn_st, mk_own, st_own, ty_own, ex_app, ex_ext, ex_extT, ex_rev, ex_pop, rn_storeM, rn_lc, rn_lc2, rn_turn, rn_turn1, rn_frz, len_tI]
  split
  · refine lc x hx fun f y4 f0 f1 hy4 => ?_
    rw [safe_b rfl]
    simp -implicitDefEqProofs only [rn_bind, rn_pure, rn_no, rn_need, rn_opt1, rn_ite, rn_var, rn_put, rn_useD, rn_useN, rn_useO, rn_chkD, rn_chkN, rn_chkO, rn_call, rn_seq, rn_guard, rn_forIn, rn_for0, rn_setD, rn_setN, rn_setO, binM, binMO, unM, cmpT, testM, andT, orT, notT, ifM, asgM, retM, exprM, kM, consA, nilA, tupM, lstM, useAll, chkAll, slM, partM, DL.andM, DL.orM, DL.notM, negM, asgG, gN, gT, gsC, gsN, seqI, frzM, asgTM, dnewM, par2M, hold_d, hold_n, hold_o, d_d, d_n, d_o, out_d, out_n, out_o, fo_next, fo_ret, isBl_b, isInt_i, tr_i, tr_b, tr_n, tr_l, tr_t, it_l, it_r, it_t, li_l, li_r, op_add_i, op_add_l, op_add_t, op_sub_i, op_mul_i, op_mod_i, op_div_i, op_pow_i, op_lt_i, op_le_i, op_gt_i, op_ge_i, op_int_i, op_abs_i, op_len_l, op_len_t, op_len_r, op_tup_l, op_tup_t, op_lst_l, op_lst_t, op_max_i, op_eq_i, eq_go_go, eq_get_get, eq_go_get, eq_get_go, Bool.bne_false, Bool.bne_true, Bool.not_true, Bool.not_false, op_sl_l, op_sl_r, op_sl_t, op_ix_t0, op_ix_t1, op_ix_t2, op_ix_l0, List.getElem?_cons_zero, List.getElem?_cons_succ, List.set_cons_zero, List.set_cons_succ, List.map_cons, List.map_nil, List.length_cons, List.length_nil, List.cons_append, List.nil_append, if_true, if_false, Bool.false_eq_true, decide_eq_true_eq, and_true, true_and, ite_true, ite_false, reduceCtorEq, rn_methM, rn_methM0, isTM_eq, rn_mk, rn_st, mk_own, st_own, ty_own, ex_app, ex_ext, ex_extT, ex_rev, ex_pop, rn_storeM, rn_lc, rn_lc2, rn_turn, rn_turn1, rn_frz]
    split
    · exact ⟨small_le (by decide), [f], y4, _, by simp, by simp, fun m h => by simp at h; subst h; exact ⟨f0, f1⟩, hy4, rfl⟩
    · simp -implicitDefEqProofs only [rn_bind, rn_pure, rn_no, rn_need, rn_opt1, rn_ite, rn_var, rn_put, rn_useD, rn_useN, rn_useO, rn_chkD, rn_chkN, rn_chkO, rn_call, rn_seq, rn_guard, rn_forIn, rn_for0, rn_setD, rn_setN, rn_setO, binM, binMO, unM, cmpT, testM, andT, orT, notT, ifM, asgM, retM, exprM, kM, consA, nilA, tupM, lstM, useAll, chkAll, slM, partM, DL.andM, DL.orM, DL.notM, negM, asgG, gN, gT, gsC, gsN, seqI, frzM, asgTM, dnewM, par2M, hold_d, hold_n, hold_o, d_d, d_n, d_o, out_d, out_n, out_o, fo_next, fo_ret, isBl_b, isInt_i, tr_i, tr_b, tr_n, tr_l, tr_t, it_l, it_r, it_t, li_l, li_r, op_add_i, op_add_l, op_add_t, op_sub_i, op_mul_i, op_mod_i, op_div_i, op_pow_i, op_lt_i, op_le_i, op_gt_i, op_ge_i, op_int_i, op_abs_i, op_len_l, op_len_t, op_len_r, op_tup_l, op_tup_t, op_lst_l, op_lst_t, op_max_i, op_eq_i, eq_go_go, eq_get_get, eq_go_get, eq_get_go, Bool.bne_false, Bool.bne_true, Bool.not_true, Bool.not_false, op_sl_l, op_sl_r, op_sl_t, op_ix_t0, op_ix_t1, op_ix_t2, op_ix_l0, List.getElem?_cons_zero, List.getElem?_cons_succ, List.set_cons_zero, List.set_cons_succ, List.map_cons, List.map_nil, List.length_cons, List.length_nil, List.cons_append, List.nil_append, if_true, if_false, Bool.false_eq_true, decide_eq_true_eq, and_true, true_and, ite_true, ite_false, reduceCtorEq, rn_methM, rn_methM0, isTM_eq, rn_mk, rn_st, mk_own, st_own, ty_own, ex_app, ex_ext, ex_extT, ex_rev, ex_pop, rn_storeM, rn_lc, rn_lc2, rn_turn, rn_turn1, rn_frz, len_tI]
      refine lc y4 hy4 fun f2 y5 f20 f21 hy5 => ?_
      rw [safe_b rfl]
      simp -implicitDefEqProofs only [rn_bind, rn_pure, rn_no, rn_need, rn_opt1, rn_ite, rn_var, rn_put, rn_useD, rn_useN, rn_useO, rn_chkD, rn_chkN, rn_chkO, rn_call, rn_seq, rn_guard, rn_forIn, rn_for0, rn_setD, rn_setN, rn_setO, binM, binMO, unM, cmpT, testM, andT, orT, notT, ifM, asgM, retM, exprM, kM, consA, nilA, tupM, lstM, useAll, chkAll, slM, partM, DL.andM, DL.orM, DL.notM, negM, asgG, gN, gT, gsC, gsN, seqI, frzM, asgTM, dnewM, par2M, hold_d, hold_n, hold_o, d_d, d_n, d_o, out_d, out_n, out_o, fo_next, fo_ret, isBl_b, isInt_i, tr_i, tr_b, tr_n, tr_l, tr_t, it_l, it_r, it_t, li_l, li_r, op_add_i, op_add_l, op_add_t, op_sub_i, op_mul_i, op_mod_i, op_div_i, op_pow_i, op_lt_i, op_le_i, op_gt_i, op_ge_i, op_int_i, op_abs_i, op_len_l, op_len_t, op_len_r, op_tup_l, op_tup_t, op_lst_l, op_lst_t, op_max_i, op_eq_i, eq_go_go, eq_get_get, eq_go_get, eq_get_go, Bool.bne_false, Bool.bne_true, Bool.not_true, Bool.not_false, op_sl_l, op_sl_r, op_sl_t, op_ix_t0, op_ix_t1, op_ix_t2, op_ix_l0, List.getElem?_cons_zero, List.getElem?_cons_succ, List.set_cons_zero, List.set_cons_succ, List.map_cons, List.map_nil, List.length_cons, List.length_nil, List.cons_append, List.nil_append, if_true, if_false, Bool.false_eq_true, decide_eq_true_eq, and_true, true_and, ite_true, ite_false, reduceCtorEq, rn_methM, rn_methM0, isTM_eq, rn_mk, rn_st, mk_own, st_own, ty_own, ex_app, ex_ext, ex_extT, ex_rev, ex_pop, rn_storeM, rn_lc, rn_lc2, rn_turn, rn_turn1, rn_frz]
      refine ⟨small_le (by decide), [f, f2], y5, _, by simp, by simp, fun m h => ?_, hy5, rfl⟩
      simp at h
      rcases h with rfl | rfl
      · exact ⟨f0, f1⟩
      · exact ⟨f20, f21⟩
  · obtain ⟨ms, e, el, hms⟩ := rng_ints many.length 0
    rw [e]
    exact ⟨ms, x, _, fun h => by rw [h] at el; simp at el; omega, by omega, fun m h => by have := hms m h; omega, hx, rfl⟩
theorem case_ok {x : Bag} (hx : BOk x) {Q : Res → List D → Prop} (q : ∀ (many : List Int) (g : Int) (c : Cd) (x' : Bag), ManyOk many → many ≠ [] → c.Ok many 3 → BOk x' → Q (.dat (.tup [tI many, .int g, c.toD])) [bagD x']) : Dr d__law_case [.obj 0, .int 5, .int 4, .int 3] [bagD x] Q := by
  unfold d__law_case
  rw [dr_run, case_eq, rn_seq]
  refine (caseA_ok hx).mono fun fl S' ⟨e1, many, x1, hm, hne, hx1, e2⟩ => ?_
  subst e1 e2
  have ml5 := hm.len
  show Rn (seqM caseB _) _ _
  rw [rn_seq]
  refine (caseB_ok hx1 many).mono fun fl S' ⟨e1, g, s, x2, g1, g4, hx2, e2⟩ => ?_
  subst e1 e2
  show Rn (seqM caseC _) _ _
  unfold caseC
  simp -implicitDefEqProofs only [rn_bind, rn_pure, rn_no, rn_need, rn_opt1, rn_ite, rn_var, rn_put, rn_useD, rn_useN, rn_useO, rn_chkD, rn_chkN, rn_chkO, rn_call, rn_seq, rn_guard, rn_forIn, rn_for0, rn_setD, rn_setN, rn_setO, binM, binMO, unM, cmpT, testM, andT, orT, notT, ifM, asgM, retM, exprM, kM, consA, nilA, tupM, lstM, useAll, chkAll, slM, partM, DL.andM, DL.orM, DL.notM, negM, asgG, gN, gT, gsC, gsN, seqI, frzM, asgTM, dnewM, par2M, hold_d, hold_n, hold_o, d_d, d_n, d_o, out_d, out_n, out_o, fo_next, fo_ret, isBl_b, isInt_i, tr_i, tr_b, tr_n, tr_l, tr_t, it_l, it_r, it_t, li_l, li_r, op_add_i, op_add_l, op_add_t, op_sub_i, op_mul_i, op_mod_i, op_div_i, op_pow_i, op_lt_i, op_le_i, op_gt_i, op_ge_i, op_int_i, op_abs_i, op_len_l, op_len_t, op_len_r, op_tup_l, op_tup_t, op_lst_l, op_lst_t, op_max_i, op_eq_i, eq_go_go, eq_get_get, eq_go_get, eq_get_go, Bool.bne_false, Bool.bne_true, Bool.not_true, Bool.not_false, op_sl_l, op_sl_r, op_sl_t, op_ix_t0, op_ix_t1, op_ix_t2, op_ix_l0, List.getElem?_cons_zero, List.getElem?_cons_succ, List.set_cons_zero, List.set_cons_succ, List.map_cons, List.map_nil, List.length_cons, List.length_nil, List.cons_append, List.nil_append, if_true, if_false, Bool.false_eq_true, decide_eq_true_eq, and_true, true_and, ite_true, ite_false, reduceCtorEq, rn_methM, rn_methM0, isTM_eq, rn_mk, rn_st, mk_own, st_own, ty_own, ex_app, ex_ext, ex_extT, ex_rev, ex_pop, rn_storeM, rn_lc, rn_lc2, rn_turn, rn_turn1, rn_frz, len_tI, lstRg (show many.length ≤ 1000 by omega)]
  refine (caseD_ok hx2 hm hne g s).mono fun fl S' ⟨e1, ms, x3, s8, n1, n2, n3, hx3, e2⟩ => ?_
  subst e1 e2
  show Rn caseE _ _
  unfold caseE lI
  simp -implicitDefEqProofs only [rn_bind, rn_pure, rn_no, rn_need, rn_opt1, rn_ite, rn_var, rn_put, rn_useD, rn_useN, rn_useO, rn_chkD, rn_chkN, rn_chkO, rn_call, rn_seq, rn_guard, rn_forIn, rn_for0, rn_setD, rn_setN, rn_setO, binM, binMO, unM, cmpT, testM, andT, orT, notT, ifM, asgM, retM, exprM, kM, consA, nilA, tupM, lstM, useAll, chkAll, slM, partM, DL.andM, DL.orM, DL.notM, negM, asgG, gN, gT, gsC, gsN, seqI, frzM, asgTM, dnewM, par2M, hold_d, hold_n, hold_o, d_d, d_n, d_o, out_d, out_n, out_o, fo_next, fo_ret, isBl_b, isInt_i, tr_i, tr_b, tr_n, tr_l, tr_t, it_l, it_r, it_t, li_l, li_r, op_add_i, op_add_l, op_add_t, op_sub_i, op_mul_i, op_mod_i, op_div_i, op_pow_i, op_lt_i, op_le_i, op_gt_i, op_ge_i, op_int_i, op_abs_i, op_len_l, op_len_t, op_len_r, op_tup_l, op_tup_t, op_lst_l, op_lst_t, op_max_i, op_eq_i, eq_go_go, eq_get_get, eq_go_get, eq_get_go, Bool.bne_false, Bool.bne_true, Bool.not_true, Bool.not_false, op_sl_l, op_sl_r, op_sl_t, op_ix_t0, op_ix_t1, op_ix_t2, op_ix_l0, List.getElem?_cons_zero, List.getElem?_cons_succ, List.set_cons_zero, List.set_cons_succ, List.map_cons, List.map_nil, List.length_cons, List.length_nil, List.cons_append, List.nil_append, if_true, if_false, Bool.false_eq_true, decide_eq_true_eq, and_true, true_and, ite_true, ite_false, reduceCtorEq, rn_methM, rn_methM0, isTM_eq, rn_mk, rn_st, mk_own, st_own, ty_own, ex_app, ex_ext, ex_extT, ex_rev, ex_pop, rn_storeM, rn_lc, rn_lc2, rn_turn, rn_turn1, rn_frz]
  refine rich5 hm n1 n2 n3 g1 g4 hx3 fun c y' hc hy' => ?_
  rw [safe_b (Cd.imm c)]
  simp -implicitDefEqProofs only [rn_bind, rn_pure, rn_no, rn_need, rn_opt1, rn_ite, rn_var, rn_put, rn_useD, rn_useN, rn_useO, rn_chkD, rn_chkN, rn_chkO, rn_call, rn_seq, rn_guard, rn_forIn, rn_for0, rn_setD, rn_setN, rn_setO, binM, binMO, unM, cmpT, testM, andT, orT, notT, ifM, asgM, retM, exprM, kM, consA, nilA, tupM, lstM, useAll, chkAll, slM, partM, DL.andM, DL.orM, DL.notM, negM, asgG, gN, gT, gsC, gsN, seqI, frzM, asgTM, dnewM, par2M, hold_d, hold_n, hold_o, d_d, d_n, d_o, out_d, out_n, out_o, fo_next, fo_ret, isBl_b, isInt_i, tr_i, tr_b, tr_n, tr_l, tr_t, it_l, it_r, it_t, li_l, li_r, op_add_i, op_add_l, op_add_t, op_sub_i, op_mul_i, op_mod_i, op_div_i, op_pow_i, op_lt_i, op_le_i, op_gt_i, op_ge_i, op_int_i, op_abs_i, op_len_l, op_len_t, op_len_r, op_tup_l, op_tup_t, op_lst_l, op_lst_t, op_max_i, op_eq_i, eq_go_go, eq_get_get, eq_go_get, eq_get_go, Bool.bne_false, Bool.bne_true, Bool.not_true, Bool.not_false, op_sl_l, op_sl_r, op_sl_t, op_ix_t0, op_ix_t1, op_ix_t2, op_ix_l0, List.getElem?_cons_zero, List.getElem?_cons_succ, List.set_cons_zero, List.set_cons_succ, List.map_cons, List.map_nil, List.length_cons, List.length_nil, List.cons_append, List.nil_append, if_true, if_false, Bool.false_eq_true, decide_eq_true_eq, and_true, true_and, ite_true, ite_false, reduceCtorEq, rn_methM, rn_methM0, isTM_eq, rn_mk, rn_st, mk_own, st_own, ty_own, ex_app, ex_ext, ex_extT, ex_rev, ex_pop, rn_storeM, rn_lc, rn_lc2, rn_turn, rn_turn1, rn_frz]
  exact ⟨small_le (by decide), q many g c y' hm hne hc hy'⟩
end LW
end
section
set_option maxRecDepth 100000
namespace LW
open PySem L2 DL
theorem isN_non {neg : Bool} {Q : Res → Sx → Prop} {S : Sx} : Rn (opIsN neg .non .non) S Q = Q (.dat (.bl (true != neg))) S := rfl
/-- the lots that the law draws -/
theorem any_ok {many : List Int} (hm : ManyOk many) {x : Bag} (hx : BOk x) {Q : Res → List D → Prop} (q : ∀ (lots : List (List Int)) (x' : Bag), LotsOk many lots → BOk x' → Q (.dat (lotsD lots)) [bagD x']) : Dr d__law_any_lots [.obj 0, tI many, .non] [bagD x] Q := by
  have ml := hm.len
  unfold d__law_any_lots b__law_any_lots
  rw [dr_run]
  simp -implicitDefEqProofs only [rn_bind, rn_pure, rn_no, rn_need, rn_opt1, rn_ite, rn_var, rn_put, rn_useD, rn_useN, rn_useO, rn_chkD, rn_chkN, rn_chkO, rn_call, rn_seq, rn_guard, rn_forIn, rn_for0, rn_setD, rn_setN, rn_setO, binM, binMO, unM, cmpT, testM, andT, orT, notT, ifM, asgM, retM, exprM, kM, consA, nilA, tupM, lstM, useAll, chkAll, slM, partM, DL.andM, DL.orM, DL.notM, negM, asgG, gN, gT, gsC, gsN, seqI, frzM, asgTM, dnewM, par2M, hold_d, hold_n, hold_o, d_d, d_n, d_o, out_d, out_n, out_o, fo_next, fo_ret, isBl_b, isInt_i, tr_i, tr_b, tr_n, tr_l, tr_t, it_l, it_r, it_t, li_l, li_r, op_add_i, op_add_l, op_add_t, op_sub_i, op_mul_i, op_mod_i, op_div_i, op_pow_i, op_lt_i, op_le_i, op_gt_i, op_ge_i, op_int_i, op_abs_i, op_len_l, op_len_t, op_len_r, op_tup_l, op_tup_t, op_lst_l, op_lst_t, op_max_i, op_eq_i, eq_go_go, eq_get_get, eq_go_get, eq_get_go, Bool.bne_false, Bool.bne_true, Bool.not_true, Bool.not_false, op_sl_l, op_sl_r, op_sl_t, op_ix_t0, op_ix_t1, op_ix_t2, op_ix_l0, List.getElem?_cons_zero, List.getElem?_cons_succ, List.set_cons_zero, List.set_cons_succ, List.map_cons, List.map_nil, List.length_cons, List.length_nil, List.cons_append, List.nil_append, if_true, if_false, Bool.false_eq_true, decide_eq_true_eq, and_true, true_and, ite_true, ite_false, reduceCtorEq, rn_methM, rn_methM0, isTM_eq, rn_mk, rn_st, mk_own, st_own, ty_own, ex_app, ex_ext, ex_extT, ex_rev, ex_pop, rn_storeM, rn_lc, rn_lc2, rn_turn, rn_turn1, rn_frz, List.replicate, rng1I, len_tI, Int.toNat_natCast]
  refine ⟨small_le (by decide), by unfold rngOk; exact decide_eq_true (by omega), ?_⟩
  refine for_inv (I := fun xs S => ∃ (lots : List (List Int)) (y : Bag) (s4 s5 : Slot), lots.length ≤ many.length ∧ xs = rangeD lots.length (many.length - lots.length) ∧ LotsOk (many.take lots.length) lots ∧ BOk y ∧ S = ⟨[.dat (.obj 0), .dat (tI many), .dat .non, .own (.lst (lots.map tI)), s4, s5], [bagD y]⟩) ⟨[], x, _, _, Nat.zero_le _, rfl, ⟨rfl, by simp, by simp, by simp, by simp⟩, hx, rfl⟩ ?_ ?_
  · rintro d xs S ⟨lots, y, s4, s5, hl, e1, f, hy, rfl⟩
    have hlt : lots.length < many.length := by
      rcases Nat.lt_or_ge lots.length many.length with h | h
      · exact h
      · rw [show many.length - lots.length = 0 by omega] at e1
        cases e1
    rw [show many.length - lots.length = (many.length - (lots.length + 1)) + 1 by omega] at e1
    cases e1
    have mj := hm.fit _ (List.getElem_mem hlt)
    simp -implicitDefEqProofs only [rn_bind, rn_pure, rn_no, rn_need, rn_opt1, rn_ite, rn_var, rn_put, rn_useD, rn_useN, rn_useO, rn_chkD, rn_chkN, rn_chkO, rn_call, rn_seq, rn_guard, rn_forIn, rn_for0, rn_setD, rn_setN, rn_setO, binM, binMO, unM, cmpT, testM, andT, orT, notT, ifM, asgM, retM, exprM, kM, consA, nilA, tupM, lstM, useAll, chkAll, slM, partM, DL.andM, DL.orM, DL.notM, negM, asgG, gN, gT, gsC, gsN, seqI, frzM, asgTM, dnewM, par2M, hold_d, hold_n, hold_o, d_d, d_n, d_o, out_d, out_n, out_o, fo_next, fo_ret, isBl_b, isInt_i, tr_i, tr_b, tr_n, tr_l, tr_t, it_l, it_r, it_t, li_l, li_r, op_add_i, op_add_l, op_add_t, op_sub_i, op_mul_i, op_mod_i, op_div_i, op_pow_i, op_lt_i, op_le_i, op_gt_i, op_ge_i, op_int_i, op_abs_i, op_len_l, op_len_t, op_len_r, op_tup_l, op_tup_t, op_lst_l, op_lst_t, op_max_i, op_eq_i, eq_go_go, eq_get_get, eq_go_get, eq_get_go, Bool.bne_false, Bool.bne_true, Bool.not_true, Bool.not_false, op_sl_l, op_sl_r, op_sl_t, op_ix_t0, op_ix_t1, op_ix_t2, op_ix_l0, List.getElem?_cons_zero, List.getElem?_cons_succ, List.set_cons_zero, List.set_cons_succ, List.map_cons, List.map_nil, List.length_cons, List.length_nil, List.cons_append, List.nil_append, if_true, if_false, Bool.false_eq_true, decide_eq_true_eq, and_true, true_and, ite_true, ite_false, reduceCtorEq, rn_methM, rn_methM0, isTM_eq, rn_mk, rn_st, mk_own, st_own, ty_own, ex_app, ex_ext, ex_extT, ex_rev, ex_pop, rn_storeM, rn_lc, rn_lc2, rn_turn, rn_turn1, rn_frz, ix_tI (xs := many) (w := (lots.length : Nat)) (k := many[lots.length]) (by omega) (by simp [List.getElem?_eq_getElem hlt])]
    refine lot_ok hy mj.1 mj.2 fun l y' hy' hne up hb => ?_
    rw [safe_b (show (tI l).imm = true by simp [tI, D.imm, imms_ints])]
    unfold tI
    simp -implicitDefEqProofs only [rn_bind, rn_pure, rn_no, rn_need, rn_opt1, rn_ite, rn_var, rn_put, rn_useD, rn_useN, rn_useO, rn_chkD, rn_chkN, rn_chkO, rn_call, rn_seq, rn_guard, rn_forIn, rn_for0, rn_setD, rn_setN, rn_setO, binM, binMO, unM, cmpT, testM, andT, orT, notT, ifM, asgM, retM, exprM, kM, consA, nilA, tupM, lstM, useAll, chkAll, slM, partM, DL.andM, DL.orM, DL.notM, negM, asgG, gN, gT, gsC, gsN, seqI, frzM, asgTM, dnewM, par2M, hold_d, hold_n, hold_o, d_d, d_n, d_o, out_d, out_n, out_o, fo_next, fo_ret, isBl_b, isInt_i, tr_i, tr_b, tr_n, tr_l, tr_t, it_l, it_r, it_t, li_l, li_r, op_add_i, op_add_l, op_add_t, op_sub_i, op_mul_i, op_mod_i, op_div_i, op_pow_i, op_lt_i, op_le_i, op_gt_i, op_ge_i, op_int_i, op_abs_i, op_len_l, op_len_t, op_len_r, op_tup_l, op_tup_t, op_lst_l, op_lst_t, op_max_i, op_eq_i, eq_go_go, eq_get_get, eq_go_get, eq_get_go, Bool.bne_false, Bool.bne_true, Bool.not_true, Bool.not_false, op_sl_l, op_sl_r, op_sl_t, op_ix_t0, op_ix_t1, op_ix_t2, op_ix_l0, List.getElem?_cons_zero, List.getElem?_cons_succ, List.set_cons_zero, List.set_cons_succ, List.map_cons, List.map_nil, List.length_cons, List.length_nil, List.cons_append, List.nil_append, if_true, if_false, Bool.false_eq_true, decide_eq_true_eq, and_true, true_and, ite_true, ite_false, reduceCtorEq, rn_methM, rn_methM0, isTM_eq, rn_mk, rn_st, mk_own, st_own, ty_own, ex_app, ex_ext, ex_extT, ex_rev, ex_pop, rn_storeM, rn_lc, rn_lc2, rn_turn, rn_turn1, rn_frz, isN_non]
    have hbs : ∀ k ∈ l, 0 ≤ k ∧ k < ((4 : Nat) : Int) := fun k hk => by have := hb k hk; omega
    have ll := up_len0 up hbs
    refine sortset_rn (b := 4) (by omega) hbs (by decide) ?_
    have su := up_len0 (sortS_up l) (b := 4) fun k hk => hbs k ((sortS_mem k l).mp hk)
    unfold lI
    simp -implicitDefEqProofs only [rn_bind, rn_pure, rn_no, rn_need, rn_opt1, rn_ite, rn_var, rn_put, rn_useD, rn_useN, rn_useO, rn_chkD, rn_chkN, rn_chkO, rn_call, rn_seq, rn_guard, rn_forIn, rn_for0, rn_setD, rn_setN, rn_setO, binM, binMO, unM, cmpT, testM, andT, orT, notT, ifM, asgM, retM, exprM, kM, consA, nilA, tupM, lstM, useAll, chkAll, slM, partM, DL.andM, DL.orM, DL.notM, negM, asgG, gN, gT, gsC, gsN, seqI, frzM, asgTM, dnewM, par2M, hold_d, hold_n, hold_o, d_d, d_n, d_o, out_d, out_n, out_o, fo_next, fo_ret, isBl_b, isInt_i, tr_i, tr_b, tr_n, tr_l, tr_t, it_l, it_r, it_t, li_l, li_r, op_add_i, op_add_l, op_add_t, op_sub_i, op_mul_i, op_mod_i, op_div_i, op_pow_i, op_lt_i, op_le_i, op_gt_i, op_ge_i, op_int_i, op_abs_i, op_len_l, op_len_t, op_len_r, op_tup_l, op_tup_t, op_lst_l, op_lst_t, op_max_i, op_eq_i, eq_go_go, eq_get_get, eq_go_get, eq_get_go, Bool.bne_false, Bool.bne_true, Bool.not_true, Bool.not_false, op_sl_l, op_sl_r, op_sl_t, op_ix_t0, op_ix_t1, op_ix_t2, op_ix_l0, List.getElem?_cons_zero, List.getElem?_cons_succ, List.set_cons_zero, List.set_cons_succ, List.map_cons, List.map_nil, List.length_cons, List.length_nil, List.cons_append, List.nil_append, if_true, if_false, Bool.false_eq_true, decide_eq_true_eq, and_true, true_and, ite_true, ite_false, reduceCtorEq, rn_methM, rn_methM0, isTM_eq, rn_mk, rn_st, mk_own, st_own, ty_own, ex_app, ex_ext, ex_extT, ex_rev, ex_pop, rn_storeM, rn_lc, rn_lc2, rn_turn, rn_turn1, rn_frz]
    refine ⟨small_lt (by simp; omega), lots ++ [sortS l], y', _, _, by simp; omega, by simp, ?_, hy', by rw [List.map_append]; rfl⟩
    have tk : many.take (lots ++ [sortS l]).length = many.take lots.length ++ [many[lots.length]] := by
      rw [List.length_append, List.length_singleton, List.take_add_one, List.getElem?_eq_getElem hlt]; rfl
    rw [tk]
    constructor
    · simp; omega
    · intro k hk
      rcases List.mem_append.mp hk with h | h
      · exact f.few k h
      · simp at h; subst h; omega
    · intro k hk
      rcases List.mem_append.mp hk with h | h
      · exact f.one k h
      · simp at h; subst h
        intro e
        cases l with
        | nil => exact hne rfl
        | cons a r =>
          have := (sortS_mem a (a :: r)).mpr List.mem_cons_self
          rw [e] at this
          cases this
    · intro i k m hk hm' a ha
      have tl : (many.take lots.length).length = lots.length := by simp; omega
      rcases Nat.lt_or_ge i lots.length with h | h
      · rw [List.getElem?_append_left h] at hk
        rw [List.getElem?_append_left (by omega)] at hm'
        exact f.fit i k m hk hm' a ha
      · rw [List.getElem?_append_right h] at hk
        rw [List.getElem?_append_right (by omega), tl] at hm'
        have h0 : i - lots.length = 0 := by
          have := (List.getElem?_eq_some_iff.mp hk).1
          simp at this
          omega
        rw [h0] at hk hm'
        simp at hk hm'
        subst hk hm'
        exact hb a ((sortS_mem a l).mp ha)
    · intro k hk
      rcases List.mem_append.mp hk with h | h
      · exact f.up k h
      · simp at h; subst h; exact sortS_up l
  · rintro S ⟨lots, y, s4, s5, hl, e1, f, hy, rfl⟩
    have hlt : lots.length = many.length := by
      rcases Nat.lt_or_ge lots.length many.length with h | h
      · rw [show many.length - lots.length = (many.length - (lots.length + 1)) + 1 by omega] at e1
        cases e1
      · omega
    rw [hlt, List.take_length] at f
    simp -implicitDefEqProofs only [rn_bind, rn_pure, rn_no, rn_need, rn_opt1, rn_ite, rn_var, rn_put, rn_useD, rn_useN, rn_useO, rn_chkD, rn_chkN, rn_chkO, rn_call, rn_seq, rn_guard, rn_forIn, rn_for0, rn_setD, rn_setN, rn_setO, binM, binMO, unM, cmpT, testM, andT, orT, notT, ifM, asgM, retM, exprM, kM, consA, nilA, tupM, lstM, useAll, chkAll, slM, partM, DL.andM, DL.orM, DL.notM, negM, asgG, gN, gT, gsC, gsN, seqI, frzM, asgTM, dnewM, par2M, hold_d, hold_n, hold_o, d_d, d_n, d_o, out_d, out_n, out_o, fo_next, fo_ret, isBl_b, isInt_i, tr_i, tr_b, tr_n, tr_l, tr_t, it_l, it_r, it_t, li_l, li_r, op_add_i, op_add_l, op_add_t, op_sub_i, op_mul_i, op_mod_i, op_div_i, op_pow_i, op_lt_i, op_le_i, op_gt_i, op_ge_i, op_int_i, op_abs_i, op_len_l, op_len_t, op_len_r, op_tup_l, op_tup_t, op_lst_l, op_lst_t, op_max_i, op_eq_i, eq_go_go, eq_get_get, eq_go_get, eq_get_go, Bool.bne_false, Bool.bne_true, Bool.not_true, Bool.not_false, op_sl_l, op_sl_r, op_sl_t, op_ix_t0, op_ix_t1, op_ix_t2, op_ix_l0, List.getElem?_cons_zero, List.getElem?_cons_succ, List.set_cons_zero, List.set_cons_succ, List.map_cons, List.map_nil, List.length_cons, List.length_nil, List.cons_append, List.nil_append, if_true, if_false, Bool.false_eq_true, decide_eq_true_eq, and_true, true_and, ite_true, ite_false, reduceCtorEq, rn_methM, rn_methM0, isTM_eq, rn_mk, rn_st, mk_own, st_own, ty_own, ex_app, ex_ext, ex_extT, ex_rev, ex_pop, rn_storeM, rn_lc, rn_lc2, rn_turn, rn_turn1, rn_frz]
    exact q lots y f hy
end LW
end
section
set_option maxRecDepth 100000
namespace LW
open PySem L2 DL
theorem trk_new {d : D} {env : List Slot} {o : List D} {Q : D → Sx → Prop} : Rn (trkM (.new d)) ⟨env, o⟩ Q = Q (.obj o.length) ⟨env, o ++ [d]⟩ := rfl
theorem nc_ints {ns : List Int} {b : Nat} (h : ∀ n ∈ ns, 0 ≤ n ∧ n < 1000) : Ncs (ns.map .int) b (ns.length * 21) := by
  have := ncs_all (ds := ns.map D.int) (b := b) (w := 20) fun d hd => by
    obtain ⟨n, hn, rfl⟩ := List.mem_map.mp hd
    have := h n hn
    exact nc_int (by omega)
  simpa using this
theorem alike_lI {ns : List Int} {o : List D} (h : ∀ n ∈ ns, 0 ≤ n ∧ n < 1000) (hl : ns.length ≤ 1000) {Q : Res → List D → Prop} (q : Q (.dat (.bl true)) o) : Dr d__law_alike [.lst (ns.map .int), .lst (ns.map .int)] o Q :=
  alike_self (nc_lst (nc_ints (b := 1) h)) (by decide) (by omega) q
theorem torn_fit {many : List Int} {lots : List (List Int)} (f : LotsOk many lots) {n : Nat} {c : Cd} (h : c.Ok many n) : (∀ s ∈ tornN lots n c, 0 ≤ s ∧ s < 4) ∧ (tornN lots n c).length ≤ 4 := by
  have r := up_len0 (sortS_up (stN lots n c)) (b := 4) (res_fit f h)
  refine ⟨fun s hs => res_fit f h s (List.mem_filter.mp hs).1, ?_⟩
  exact Nat.le_trans (List.length_filter_le _ _) r
def dueD (c : Cd) (l : List (List Int)) : D := .tup [lotsD l, lI (tornN l 3 c)]
def lawA : M Fl := (asgG (callM 4 d__law_case (consA (varM 1) (consA (kM (.int 5)) (consA (kM (.int 4)) (consA (kM (.int 3)) nilA))))) (gT 3 (gsC (gN 5) (gsC (gN 6) (gsC (gN 7) gsN)))))
def lawT1 : M Fl := (asgM 8 (callM 2 d__law_plain_all (consA (varM 7) (consA (varM 4) nilA))))
def lawT2 : M Fl := (asgM 9 (lcM (seqI (callM 2 d__law_results (consA (varM 7) (consA (varM 4) nilA)))) [11] (turnM (gN 11) (cmpT (opIn true) (varM 11) (varM 8)) (varM 11))))
def lawT3 : M Fl := (seqM (asgM 10 (callM 2 d_torn_states (consA (varM 7) (consA (varM 4) nilA))))
  (seqM (ifM (notT (testM (callM 2 d__law_alike (consA (varM 10) (consA (varM 9) nilA))))) (retM (kM (.bl false))) (pure .next))
  (seqM (exprM (methM "list" 10 (kM (.int 7)) opAppend))
  (seqM (exprM (methM0 "list" 10 opReverse))
  (exprM (methM "list" 3 (tupM (consA (varM 4) (consA (varM 9) nilA))) opAppend))))))
def lawT : M Fl := seqM lawT1 (seqM lawT2 lawT3)
def lawB1 : M (List D) := (seqI (tupM (consA (callM 3 d__law_any_lots (consA (varM 1) (consA (varM 5) (consA (kM .non) nilA)))) (consA (callM 3 d__law_any_lots (consA (varM 1) (consA (varM 5) (consA (kM .non) nilA)))) (consA (unM opTuple (lcM (seqI (varM 5)) [12] (turnM (gN 12) (pure true) (tupM (consA (kM (.int 0)) nilA))))) nilA)))))
def lawB : M Fl := forIn lawB1 (gN 4) lawT
def lawC : M Fl := (forIn (seqI (binM opAdd (unM opRevS (varM 3)) (varM 3))) (gT 2 (gsC (gN 4) (gsC (gN 9) gsN))) (ifM (notT (testM (callM 2 d__law_alike (consA (callM 2 d_torn_states (consA (varM 7) (consA (varM 4) nilA))) (consA (varM 9) nilA))))) (retM (kM (.bl false))) (pure .next)))
theorem law_eq : b_law = seqM (asgTM 1 (callM 1 d__law_bag (consA (varM 0) nilA))) (seqM (forIn (rng1I (kM (.int 3))) (gN 2) (seqM lawA (seqM (asgM 3 (lstM nilA)) (seqM lawB lawC)))) (retM (kM (.bl true)))) := rfl
theorem singles_ok {many : List Int} (hm : ManyOk many) : LotsOk many (many.map fun _ => [0]) where
  len := by simp
  few := fun l hl => by obtain ⟨_, _, rfl⟩ := List.mem_map.mp hl; simp
  one := fun l hl => by obtain ⟨_, _, rfl⟩ := List.mem_map.mp hl; simp
  fit := fun i l m hl hmi k hk => by
    simp [List.getElem?_map, hmi] at hl
    subst hl
    simp at hk
    have := hm.fit m (List.mem_of_getElem? hmi)
    omega
  up := fun l hl => by obtain ⟨_, _, rfl⟩ := List.mem_map.mp hl; simp
theorem lots_imm (l : List (List Int)) : (lotsD l).imm = true := by simp [lotsD, D.imm, imms_tI]
theorem lawT_ok {many : List Int} (hm : ManyOk many) {c : Cd} (h : c.Ok many 3) {l : List (List Int)} (f : LotsOk many l) {rows : List (List (List Int))} (hr : rows.length ≤ 3) {y : Bag} {s0 s2 s5 s6 s8 s9 s10 : Slot} : Rn lawT ⟨[s0, .dat (.obj 0), s2, .own (.lst (rows.map (dueD c))), .dat (lotsD l), s5, s6, .dat c.toD, s8, s9, s10, .un, .un], [bagD y]⟩ fun fl S' => fl = .next ∧ ∃ (s8 s9 s10 : Slot), S' = ⟨[s0, .dat (.obj 0), s2, .own (.lst ((rows ++ [l]).map (dueD c))), .dat (lotsD l), s5, s6, .dat c.toD, s8, s9, s10, .un, .un], [bagD y]⟩ := by
  have tf := torn_fit f h
  unfold lawT lawT1
  simp -implicitDefEqProofs only [rn_bind, rn_pure, rn_no, rn_need, rn_opt1, rn_ite, rn_var, rn_put, rn_useD, rn_useN, rn_useO, rn_chkD, rn_chkN, rn_chkO, rn_call, rn_seq, rn_guard, rn_forIn, rn_for0, rn_setD, rn_setN, rn_setO, binM, binMO, unM, cmpT, testM, andT, orT, notT, ifM, asgM, retM, exprM, kM, consA, nilA, tupM, lstM, useAll, chkAll, slM, partM, DL.andM, DL.orM, DL.notM, negM, asgG, gN, gT, gsC, gsN, seqI, frzM, asgTM, dnewM, par2M, hold_d, hold_n, hold_o, d_d, d_n, d_o, out_d, out_n, out_o, fo_next, fo_ret, isBl_b, isInt_i, tr_i, tr_b, tr_n, tr_l, tr_t, it_l, it_r, it_t, li_l, li_r, op_add_i, op_add_l, op_add_t, op_sub_i, op_mul_i, op_mod_i, op_div_i, op_pow_i, op_lt_i, op_le_i, op_gt_i, op_ge_i, op_int_i, op_abs_i, op_len_l, op_len_t, op_len_r, op_tup_l, op_tup_t, op_lst_l, op_lst_t, op_max_i, op_eq_i, eq_go_go, eq_get_get, eq_go_get, eq_get_go, Bool.bne_false, Bool.bne_true, Bool.not_true, Bool.not_false, op_sl_l, op_sl_r, op_sl_t, op_ix_t0, op_ix_t1, op_ix_t2, op_ix_l0, List.getElem?_cons_zero, List.getElem?_cons_succ, List.set_cons_zero, List.set_cons_succ, List.map_cons, List.map_nil, List.length_cons, List.length_nil, List.cons_append, List.nil_append, if_true, if_false, Bool.false_eq_true, decide_eq_true_eq, and_true, true_and, ite_true, ite_false, reduceCtorEq, rn_methM, rn_methM0, isTM_eq, rn_mk, rn_st, mk_own, st_own, ty_own, ex_app, ex_ext, ex_extT, ex_rev, ex_pop, rn_storeM, rn_lc, rn_lc2, rn_turn, rn_turn1, rn_frz]
  with_reducible refine plain_all_ok hm f (bag_all y) h (by decide) ?_
  rw [if_safe (imms_lI _) (bag_all y)]
  unfold lawT2
  simp -implicitDefEqProofs only [rn_bind, rn_pure, rn_no, rn_need, rn_opt1, rn_ite, rn_var, rn_put, rn_useD, rn_useN, rn_useO, rn_chkD, rn_chkN, rn_chkO, rn_call, rn_seq, rn_guard, rn_forIn, rn_for0, rn_setD, rn_setN, rn_setO, binM, binMO, unM, cmpT, testM, andT, orT, notT, ifM, asgM, retM, exprM, kM, consA, nilA, tupM, lstM, useAll, chkAll, slM, partM, DL.andM, DL.orM, DL.notM, negM, asgG, gN, gT, gsC, gsN, seqI, frzM, asgTM, dnewM, par2M, hold_d, hold_n, hold_o, d_d, d_n, d_o, out_d, out_n, out_o, fo_next, fo_ret, isBl_b, isInt_i, tr_i, tr_b, tr_n, tr_l, tr_t, it_l, it_r, it_t, li_l, li_r, op_add_i, op_add_l, op_add_t, op_sub_i, op_mul_i, op_mod_i, op_div_i, op_pow_i, op_lt_i, op_le_i, op_gt_i, op_ge_i, op_int_i, op_abs_i, op_len_l, op_len_t, op_len_r, op_tup_l, op_tup_t, op_lst_l, op_lst_t, op_max_i, op_eq_i, eq_go_go, eq_get_get, eq_go_get, eq_get_go, Bool.bne_false, Bool.bne_true, Bool.not_true, Bool.not_false, op_sl_l, op_sl_r, op_sl_t, op_ix_t0, op_ix_t1, op_ix_t2, op_ix_l0, List.getElem?_cons_zero, List.getElem?_cons_succ, List.set_cons_zero, List.set_cons_succ, List.map_cons, List.map_nil, List.length_cons, List.length_nil, List.cons_append, List.nil_append, if_true, if_false, Bool.false_eq_true, decide_eq_true_eq, and_true, true_and, ite_true, ite_false, reduceCtorEq, rn_methM, rn_methM0, isTM_eq, rn_mk, rn_st, mk_own, st_own, ty_own, ex_app, ex_ext, ex_extT, ex_rev, ex_pop, rn_storeM, rn_lc, rn_lc2, rn_turn, rn_turn1, rn_frz]
  with_reducible refine law_results_ok f (bag_all y) h (by decide) ?_
  rw [if_safe (imms_lI _) (bag_all y)]
  simp -implicitDefEqProofs only [rn_bind, rn_pure, rn_no, rn_need, rn_opt1, rn_ite, rn_var, rn_put, rn_useD, rn_useN, rn_useO, rn_chkD, rn_chkN, rn_chkO, rn_call, rn_seq, rn_guard, rn_forIn, rn_for0, rn_setD, rn_setN, rn_setO, binM, binMO, unM, cmpT, testM, andT, orT, notT, ifM, asgM, retM, exprM, kM, consA, nilA, tupM, lstM, useAll, chkAll, slM, partM, DL.andM, DL.orM, DL.notM, negM, asgG, gN, gT, gsC, gsN, seqI, frzM, asgTM, dnewM, par2M, hold_d, hold_n, hold_o, d_d, d_n, d_o, out_d, out_n, out_o, fo_next, fo_ret, isBl_b, isInt_i, tr_i, tr_b, tr_n, tr_l, tr_t, it_l, it_r, it_t, li_l, li_r, op_add_i, op_add_l, op_add_t, op_sub_i, op_mul_i, op_mod_i, op_div_i, op_pow_i, op_lt_i, op_le_i, op_gt_i, op_ge_i, op_int_i, op_abs_i, op_len_l, op_len_t, op_len_r, op_tup_l, op_tup_t, op_lst_l, op_lst_t, op_max_i, op_eq_i, eq_go_go, eq_get_get, eq_go_get, eq_get_go, Bool.bne_false, Bool.bne_true, Bool.not_true, Bool.not_false, op_sl_l, op_sl_r, op_sl_t, op_ix_t0, op_ix_t1, op_ix_t2, op_ix_l0, List.getElem?_cons_zero, List.getElem?_cons_succ, List.set_cons_zero, List.set_cons_succ, List.map_cons, List.map_nil, List.length_cons, List.length_nil, List.cons_append, List.nil_append, if_true, if_false, Bool.false_eq_true, decide_eq_true_eq, and_true, true_and, ite_true, ite_false, reduceCtorEq, rn_methM, rn_methM0, isTM_eq, rn_mk, rn_st, mk_own, st_own, ty_own, ex_app, ex_ext, ex_extT, ex_rev, ex_pop, rn_storeM, rn_lc, rn_lc2, rn_turn, rn_turn1, rn_frz, lI_items]
  refine cw_ofF (c := fun s => decide (s ∉ flatN l 3 c)) (g := D.int) (small_le ?_) (fun s hs => ?_) ?_
  · have := up_len0 (sortS_up (stN l 3 c)) (b := 4) (res_fit f h)
    unfold resN
    omega
  · simp -implicitDefEqProofs only [rn_bind, rn_pure, rn_no, rn_need, rn_opt1, rn_ite, rn_var, rn_put, rn_useD, rn_useN, rn_useO, rn_chkD, rn_chkN, rn_chkO, rn_call, rn_seq, rn_guard, rn_forIn, rn_for0, rn_setD, rn_setN, rn_setO, binM, binMO, unM, cmpT, testM, andT, orT, notT, ifM, asgM, retM, exprM, kM, consA, nilA, tupM, lstM, useAll, chkAll, slM, partM, DL.andM, DL.orM, DL.notM, negM, asgG, gN, gT, gsC, gsN, seqI, frzM, asgTM, dnewM, par2M, hold_d, hold_n, hold_o, d_d, d_n, d_o, out_d, out_n, out_o, fo_next, fo_ret, isBl_b, isInt_i, tr_i, tr_b, tr_n, tr_l, tr_t, it_l, it_r, it_t, li_l, li_r, op_add_i, op_add_l, op_add_t, op_sub_i, op_mul_i, op_mod_i, op_div_i, op_pow_i, op_lt_i, op_le_i, op_gt_i, op_ge_i, op_int_i, op_abs_i, op_len_l, op_len_t, op_len_r, op_tup_l, op_tup_t, op_lst_l, op_lst_t, op_max_i, op_eq_i, eq_go_go, eq_get_get, eq_go_get, eq_get_go, Bool.bne_false, Bool.bne_true, Bool.not_true, Bool.not_false, op_sl_l, op_sl_r, op_sl_t, op_ix_t0, op_ix_t1, op_ix_t2, op_ix_l0, List.getElem?_cons_zero, List.getElem?_cons_succ, List.set_cons_zero, List.set_cons_succ, List.map_cons, List.map_nil, List.length_cons, List.length_nil, List.cons_append, List.nil_append, if_true, if_false, Bool.false_eq_true, decide_eq_true_eq, and_true, true_and, ite_true, ite_false, reduceCtorEq, rn_methM, rn_methM0, isTM_eq, rn_mk, rn_st, mk_own, st_own, ty_own, ex_app, ex_ext, ex_extT, ex_rev, ex_pop, rn_storeM, rn_lc, rn_lc2, rn_turn, rn_turn1, rn_frz, wipeE, Slot.frz, lI, in_lst, List.map_cons]
    by_cases hp : s ∈ flatN l 3 c
    · simp [hp]
    · simp [hp]
  · rw [if_imms (imms_ints _) (bag_all y), ← torn_due hm f h]
    unfold lawT3
    simp -implicitDefEqProofs only [rn_bind, rn_pure, rn_no, rn_need, rn_opt1, rn_ite, rn_var, rn_put, rn_useD, rn_useN, rn_useO, rn_chkD, rn_chkN, rn_chkO, rn_call, rn_seq, rn_guard, rn_forIn, rn_for0, rn_setD, rn_setN, rn_setO, binM, binMO, unM, cmpT, testM, andT, orT, notT, ifM, asgM, retM, exprM, kM, consA, nilA, tupM, lstM, useAll, chkAll, slM, partM, DL.andM, DL.orM, DL.notM, negM, asgG, gN, gT, gsC, gsN, seqI, frzM, asgTM, dnewM, par2M, hold_d, hold_n, hold_o, d_d, d_n, d_o, out_d, out_n, out_o, fo_next, fo_ret, isBl_b, isInt_i, tr_i, tr_b, tr_n, tr_l, tr_t, it_l, it_r, it_t, li_l, li_r, op_add_i, op_add_l, op_add_t, op_sub_i, op_mul_i, op_mod_i, op_div_i, op_pow_i, op_lt_i, op_le_i, op_gt_i, op_ge_i, op_int_i, op_abs_i, op_len_l, op_len_t, op_len_r, op_tup_l, op_tup_t, op_lst_l, op_lst_t, op_max_i, op_eq_i, eq_go_go, eq_get_get, eq_go_get, eq_get_go, Bool.bne_false, Bool.bne_true, Bool.not_true, Bool.not_false, op_sl_l, op_sl_r, op_sl_t, op_ix_t0, op_ix_t1, op_ix_t2, op_ix_l0, List.getElem?_cons_zero, List.getElem?_cons_succ, List.set_cons_zero, List.set_cons_succ, List.map_cons, List.map_nil, List.length_cons, List.length_nil, List.cons_append, List.nil_append, if_true, if_false, Bool.false_eq_true, decide_eq_true_eq, and_true, true_and, ite_true, ite_false, reduceCtorEq, rn_methM, rn_methM0, isTM_eq, rn_mk, rn_st, mk_own, st_own, ty_own, ex_app, ex_ext, ex_extT, ex_rev, ex_pop, rn_storeM, rn_lc, rn_lc2, rn_turn, rn_turn1, rn_frz]
    with_reducible refine torn_ok hm f (bag_all y) h (by decide) ?_
    rw [if_safe (imms_lI _) (bag_all y)]
    unfold lI
    simp -implicitDefEqProofs only [rn_bind, rn_pure, rn_no, rn_need, rn_opt1, rn_ite, rn_var, rn_put, rn_useD, rn_useN, rn_useO, rn_chkD, rn_chkN, rn_chkO, rn_call, rn_seq, rn_guard, rn_forIn, rn_for0, rn_setD, rn_setN, rn_setO, binM, binMO, unM, cmpT, testM, andT, orT, notT, ifM, asgM, retM, exprM, kM, consA, nilA, tupM, lstM, useAll, chkAll, slM, partM, DL.andM, DL.orM, DL.notM, negM, asgG, gN, gT, gsC, gsN, seqI, frzM, asgTM, dnewM, par2M, hold_d, hold_n, hold_o, d_d, d_n, d_o, out_d, out_n, out_o, fo_next, fo_ret, isBl_b, isInt_i, tr_i, tr_b, tr_n, tr_l, tr_t, it_l, it_r, it_t, li_l, li_r, op_add_i, op_add_l, op_add_t, op_sub_i, op_mul_i, op_mod_i, op_div_i, op_pow_i, op_lt_i, op_le_i, op_gt_i, op_ge_i, op_int_i, op_abs_i, op_len_l, op_len_t, op_len_r, op_tup_l, op_tup_t, op_lst_l, op_lst_t, op_max_i, op_eq_i, eq_go_go, eq_get_get, eq_go_get, eq_get_go, Bool.bne_false, Bool.bne_true, Bool.not_true, Bool.not_false, op_sl_l, op_sl_r, op_sl_t, op_ix_t0, op_ix_t1, op_ix_t2, op_ix_l0, List.getElem?_cons_zero, List.getElem?_cons_succ, List.set_cons_zero, List.set_cons_succ, List.map_cons, List.map_nil, List.length_cons, List.length_nil, List.cons_append, List.nil_append, if_true, if_false, Bool.false_eq_true, decide_eq_true_eq, and_true, true_and, ite_true, ite_false, reduceCtorEq, rn_methM, rn_methM0, isTM_eq, rn_mk, rn_st, mk_own, st_own, ty_own, ex_app, ex_ext, ex_extT, ex_rev, ex_pop, rn_storeM, rn_lc, rn_lc2, rn_turn, rn_turn1, rn_frz]
    refine alike_lI (fun n hn => by have := tf.1 n hn; omega) (by omega) ?_
    rw [if_safe rfl (bag_all y)]
    simp -implicitDefEqProofs only [rn_bind, rn_pure, rn_no, rn_need, rn_opt1, rn_ite, rn_var, rn_put, rn_useD, rn_useN, rn_useO, rn_chkD, rn_chkN, rn_chkO, rn_call, rn_seq, rn_guard, rn_forIn, rn_for0, rn_setD, rn_setN, rn_setO, binM, binMO, unM, cmpT, testM, andT, orT, notT, ifM, asgM, retM, exprM, kM, consA, nilA, tupM, lstM, useAll, chkAll, slM, partM, DL.andM, DL.orM, DL.notM, negM, asgG, gN, gT, gsC, gsN, seqI, frzM, asgTM, dnewM, par2M, hold_d, hold_n, hold_o, d_d, d_n, d_o, out_d, out_n, out_o, fo_next, fo_ret, isBl_b, isInt_i, tr_i, tr_b, tr_n, tr_l, tr_t, it_l, it_r, it_t, li_l, li_r, op_add_i, op_add_l, op_add_t, op_sub_i, op_mul_i, op_mod_i, op_div_i, op_pow_i, op_lt_i, op_le_i, op_gt_i, op_ge_i, op_int_i, op_abs_i, op_len_l, op_len_t, op_len_r, op_tup_l, op_tup_t, op_lst_l, op_lst_t, op_max_i, op_eq_i, eq_go_go, eq_get_get, eq_go_get, eq_get_go, Bool.bne_false, Bool.bne_true, Bool.not_true, Bool.not_false, op_sl_l, op_sl_r, op_sl_t, op_ix_t0, op_ix_t1, op_ix_t2, op_ix_l0, List.getElem?_cons_zero, List.getElem?_cons_succ, List.set_cons_zero, List.set_cons_succ, List.map_cons, List.map_nil, List.length_cons, List.length_nil, List.cons_append, List.nil_append, if_true, if_false, Bool.false_eq_true, decide_eq_true_eq, and_true, true_and, ite_true, ite_false, reduceCtorEq, rn_methM, rn_methM0, isTM_eq, rn_mk, rn_st, mk_own, st_own, ty_own, ex_app, ex_ext, ex_extT, ex_rev, ex_pop, rn_storeM, rn_lc, rn_lc2, rn_turn, rn_turn1, rn_frz]
    exact ⟨small_lt (by simp; omega), small_le (by decide), small_lt (by simp; omega), _, _, _, by rw [List.map_append]; rfl⟩
theorem lawB1_ok {many : List Int} (hm : ManyOk many) {x : Bag} (hx : BOk x) {s0 s2 s3 s4 s6 s7 s8 s9 s10 : Slot} (h3 : s3 = .own (.lst [])) (h7 : ∃ d, s7 = .dat d) : Rn lawB1 ⟨[s0, .dat (.obj 0), s2, s3, s4, .dat (tI many), s6, s7, s8, s9, s10, .un, .un], [bagD x]⟩ fun ds S' => ∃ (rows : List (List (List Int))) (y : Bag), ds = rows.map lotsD ∧ (∀ l ∈ rows, LotsOk many l) ∧ rows.length ≤ 3 ∧ BOk y ∧ S' = ⟨[s0, .dat (.obj 0), s2, s3, s4, .dat (tI many), s6, s7, s8, s9, s10, .un, .un], [bagD y]⟩ := by
  unfold lawB1
  simp -implicitDefEqProofs only [rn_bind, rn_pure, rn_no, rn_need, rn_opt1, rn_ite, rn_var, rn_put, rn_useD, rn_useN, rn_useO, rn_chkD, rn_chkN, rn_chkO, rn_call, rn_seq, rn_guard, rn_forIn, rn_for0, rn_setD, rn_setN, rn_setO, binM, binMO, unM, cmpT, testM, andT, orT, notT, ifM, asgM, retM, exprM, kM, consA, nilA, tupM, lstM, useAll, chkAll, slM, partM, DL.andM, DL.orM, DL.notM, negM, asgG, gN, gT, gsC, gsN, seqI, frzM, asgTM, dnewM, par2M, hold_d, hold_n, hold_o, d_d, d_n, d_o, out_d, out_n, out_o, fo_next, fo_ret, isBl_b, isInt_i, tr_i, tr_b, tr_n, tr_l, tr_t, it_l, it_r, it_t, li_l, li_r, op_add_i, op_add_l, op_add_t, op_sub_i, op_mul_i, op_mod_i, op_div_i, op_pow_i, op_lt_i, op_le_i, op_gt_i, op_ge_i, op_int_i, op_abs_i, op_len_l, op_len_t, op_len_r, op_tup_l, op_tup_t, op_lst_l, op_lst_t, op_max_i, op_eq_i, eq_go_go, eq_get_get, eq_go_get, eq_get_go, Bool.bne_false, Bool.bne_true, Bool.not_true, Bool.not_false, op_sl_l, op_sl_r, op_sl_t, op_ix_t0, op_ix_t1, op_ix_t2, op_ix_l0, List.getElem?_cons_zero, List.getElem?_cons_succ, List.set_cons_zero, List.set_cons_succ, List.map_cons, List.map_nil, List.length_cons, List.length_nil, List.cons_append, List.nil_append, if_true, if_false, Bool.false_eq_true, decide_eq_true_eq, and_true, true_and, ite_true, ite_false, reduceCtorEq, rn_methM, rn_methM0, isTM_eq, rn_mk, rn_st, mk_own, st_own, ty_own, ex_app, ex_ext, ex_extT, ex_rev, ex_pop, rn_storeM, rn_lc, rn_lc2, rn_turn, rn_turn1, rn_frz]
  with_reducible refine any_ok hm hx fun l1 x1 f1 hx1 => ?_
  rw [safe_b (lots_imm l1)]
  with_reducible refine any_ok hm hx1 fun l2 x2 f2 hx2 => ?_
  rw [safe_b (lots_imm l2)]
  simp -implicitDefEqProofs only [rn_bind, rn_pure, rn_no, rn_need, rn_opt1, rn_ite, rn_var, rn_put, rn_useD, rn_useN, rn_useO, rn_chkD, rn_chkN, rn_chkO, rn_call, rn_seq, rn_guard, rn_forIn, rn_for0, rn_setD, rn_setN, rn_setO, binM, binMO, unM, cmpT, testM, andT, orT, notT, ifM, asgM, retM, exprM, kM, consA, nilA, tupM, lstM, useAll, chkAll, slM, partM, DL.andM, DL.orM, DL.notM, negM, asgG, gN, gT, gsC, gsN, seqI, frzM, asgTM, dnewM, par2M, hold_d, hold_n, hold_o, d_d, d_n, d_o, out_d, out_n, out_o, fo_next, fo_ret, isBl_b, isInt_i, tr_i, tr_b, tr_n, tr_l, tr_t, it_l, it_r, it_t, li_l, li_r, op_add_i, op_add_l, op_add_t, op_sub_i, op_mul_i, op_mod_i, op_div_i, op_pow_i, op_lt_i, op_le_i, op_gt_i, op_ge_i, op_int_i, op_abs_i, op_len_l, op_len_t, op_len_r, op_tup_l, op_tup_t, op_lst_l, op_lst_t, op_max_i, op_eq_i, eq_go_go, eq_get_get, eq_go_get, eq_get_go, Bool.bne_false, Bool.bne_true, Bool.not_true, Bool.not_false, op_sl_l, op_sl_r, op_sl_t, op_ix_t0, op_ix_t1, op_ix_t2, op_ix_l0, List.getElem?_cons_zero, List.getElem?_cons_succ, List.set_cons_zero, List.set_cons_succ, List.map_cons, List.map_nil, List.length_cons, List.length_nil, List.cons_append, List.nil_append, if_true, if_false, Bool.false_eq_true, decide_eq_true_eq, and_true, true_and, ite_true, ite_false, reduceCtorEq, rn_methM, rn_methM0, isTM_eq, rn_mk, rn_st, mk_own, st_own, ty_own, ex_app, ex_ext, ex_extT, ex_rev, ex_pop, rn_storeM, rn_lc, rn_lc2, rn_turn, rn_turn1, rn_frz, it_tI]
  refine cw_ofM (g := fun _ => tI [0]) (small_le (by have := hm.len; omega)) (fun k hk => ?_) ?_
  · simp -implicitDefEqProofs only [rn_bind, rn_pure, rn_no, rn_need, rn_opt1, rn_ite, rn_var, rn_put, rn_useD, rn_useN, rn_useO, rn_chkD, rn_chkN, rn_chkO, rn_call, rn_seq, rn_guard, rn_forIn, rn_for0, rn_setD, rn_setN, rn_setO, binM, binMO, unM, cmpT, testM, andT, orT, notT, ifM, asgM, retM, exprM, kM, consA, nilA, tupM, lstM, useAll, chkAll, slM, partM, DL.andM, DL.orM, DL.notM, negM, asgG, gN, gT, gsC, gsN, seqI, frzM, asgTM, dnewM, par2M, hold_d, hold_n, hold_o, d_d, d_n, d_o, out_d, out_n, out_o, fo_next, fo_ret, isBl_b, isInt_i, tr_i, tr_b, tr_n, tr_l, tr_t, it_l, it_r, it_t, li_l, li_r, op_add_i, op_add_l, op_add_t, op_sub_i, op_mul_i, op_mod_i, op_div_i, op_pow_i, op_lt_i, op_le_i, op_gt_i, op_ge_i, op_int_i, op_abs_i, op_len_l, op_len_t, op_len_r, op_tup_l, op_tup_t, op_lst_l, op_lst_t, op_max_i, op_eq_i, eq_go_go, eq_get_get, eq_go_get, eq_get_go, Bool.bne_false, Bool.bne_true, Bool.not_true, Bool.not_false, op_sl_l, op_sl_r, op_sl_t, op_ix_t0, op_ix_t1, op_ix_t2, op_ix_l0, List.getElem?_cons_zero, List.getElem?_cons_succ, List.set_cons_zero, List.set_cons_succ, List.map_cons, List.map_nil, List.length_cons, List.length_nil, List.cons_append, List.nil_append, if_true, if_false, Bool.false_eq_true, decide_eq_true_eq, and_true, true_and, ite_true, ite_false, reduceCtorEq, rn_methM, rn_methM0, isTM_eq, rn_mk, rn_st, mk_own, st_own, ty_own, ex_app, ex_ext, ex_extT, ex_rev, ex_pop, rn_storeM, rn_lc, rn_lc2, rn_turn, rn_turn1, rn_frz, wipeE, Slot.frz, List.map_cons]
    exact ⟨small_le (by decide), rfl⟩
  · rw [show (many.map fun _ => tI [0]) = (many.map fun _ => [(0 : Int)]).map tI by simp, if_imms (imms_tI _) (bag_all _)]
    have f3 := singles_ok hm
    generalize hl3 : (many.map fun _ => [(0 : Int)]) = l3
    rw [hl3] at f3
    refine ⟨small_le (by decide), [l1, l2, l3], x2, rfl, fun l hl => ?_, by simp, hx2, rfl⟩
    simp at hl
    rcases hl with rfl | rfl | rfl <;> assumption
theorem lawB_ok {many : List Int} (hm : ManyOk many) {c : Cd} (h : c.Ok many 3) {x : Bag} (hx : BOk x) {s0 s2 s4 s6 s8 s9 s10 : Slot} : Rn lawB ⟨[s0, .dat (.obj 0), s2, .own (.lst []), s4, .dat (tI many), s6, .dat c.toD, s8, s9, s10, .un, .un], [bagD x]⟩ fun fl S' => fl = .next ∧ ∃ (rows : List (List (List Int))) (y : Bag) (s4 s8 s9 s10 : Slot), (∀ l ∈ rows, LotsOk many l) ∧ rows.length ≤ 3 ∧ BOk y ∧ S' = ⟨[s0, .dat (.obj 0), s2, .own (.lst (rows.map (dueD c))), s4, .dat (tI many), s6, .dat c.toD, s8, s9, s10, .un, .un], [bagD y]⟩ := by
  unfold lawB
  rw [rn_forIn]
  with_reducible refine (lawB1_ok hm hx rfl ⟨_, rfl⟩).mono fun ds S' ⟨rows, y, e1, hf, hr, hy, e2⟩ => ?_
  subst e1 e2
  refine for_of (f := lotsD) (all := rows) (a := []) (r := rows) (I := fun a r S => ∃ (s4 s8 s9 s10 : Slot), S = ⟨[s0, .dat (.obj 0), s2, .own (.lst (a.map (dueD c))), s4, .dat (tI many), s6, .dat c.toD, s8, s9, s10, .un, .un], [bagD y]⟩) rfl ⟨_, _, _, _, rfl⟩ ?_ ?_
  · rintro a l r S e ⟨s4, s8, s9, s10, rfl⟩
    have fl : LotsOk many l := hf l (by rw [e]; simp)
    have ll : a.length ≤ 3 := by
      have := congrArg List.length e
      simp at this
      omega
    simp -implicitDefEqProofs only [rn_bind, rn_pure, rn_no, rn_need, rn_opt1, rn_ite, rn_var, rn_put, rn_useD, rn_useN, rn_useO, rn_chkD, rn_chkN, rn_chkO, rn_call, rn_seq, rn_guard, rn_forIn, rn_for0, rn_setD, rn_setN, rn_setO, binM, binMO, unM, cmpT, testM, andT, orT, notT, ifM, asgM, retM, exprM, kM, consA, nilA, tupM, lstM, useAll, chkAll, slM, partM, DL.andM, DL.orM, DL.notM, negM, asgG, gN, gT, gsC, gsN, seqI, frzM, asgTM, dnewM, par2M, hold_d, hold_n, hold_o, d_d, d_n, d_o, out_d, out_n, out_o, fo_next, fo_ret, isBl_b, isInt_i, tr_i, tr_b, tr_n, tr_l, tr_t, it_l, it_r, it_t, li_l, li_r, op_add_i, op_add_l, op_add_t, op_sub_i, op_mul_i, op_mod_i, op_div_i, op_pow_i, op_lt_i, op_le_i, op_gt_i, op_ge_i, op_int_i, op_abs_i, op_len_l, op_len_t, op_len_r, op_tup_l, op_tup_t, op_lst_l, op_lst_t, op_max_i, op_eq_i, eq_go_go, eq_get_get, eq_go_get, eq_get_go, Bool.bne_false, Bool.bne_true, Bool.not_true, Bool.not_false, op_sl_l, op_sl_r, op_sl_t, op_ix_t0, op_ix_t1, op_ix_t2, op_ix_l0, List.getElem?_cons_zero, List.getElem?_cons_succ, List.set_cons_zero, List.set_cons_succ, List.map_cons, List.map_nil, List.length_cons, List.length_nil, List.cons_append, List.nil_append, if_true, if_false, Bool.false_eq_true, decide_eq_true_eq, and_true, true_and, ite_true, ite_false, reduceCtorEq, rn_methM, rn_methM0, isTM_eq, rn_mk, rn_st, mk_own, st_own, ty_own, ex_app, ex_ext, ex_extT, ex_rev, ex_pop, rn_storeM, rn_lc, rn_lc2, rn_turn, rn_turn1, rn_frz]
    with_reducible refine (lawT_ok hm h fl ll).mono fun fl S' ⟨e1, s8, s9, s10, e2⟩ => ?_
    subst e1 e2
    exact ⟨_, _, _, _, rfl⟩
  · rintro S ⟨s4, s8, s9, s10, rfl⟩
    exact ⟨rfl, rows, y, s4, s8, s9, s10, hf, hr, hy, rfl⟩
theorem lawC_ok {many : List Int} (hm : ManyOk many) {c : Cd} (h : c.Ok many 3) {rows : List (List (List Int))} (hr : rows.length ≤ 3) (hf : ∀ l ∈ rows, LotsOk many l) {y : Bag} {s0 s2 s4 s5 s6 s8 s9 s10 : Slot} : Rn lawC ⟨[s0, .dat (.obj 0), s2, .own (.lst (rows.map (dueD c))), s4, s5, s6, .dat c.toD, s8, s9, s10, .un, .un], [bagD y]⟩ fun fl S' => fl = .next ∧ ∃ (s3 s4 s9 : Slot), S' = ⟨[s0, .dat (.obj 0), s2, s3, s4, s5, s6, .dat c.toD, s8, s9, s10, .un, .un], [bagD y]⟩ := by
  unfold lawC
  simp -implicitDefEqProofs only [rn_bind, rn_pure, rn_no, rn_need, rn_opt1, rn_ite, rn_var, rn_put, rn_useD, rn_useN, rn_useO, rn_chkD, rn_chkN, rn_chkO, rn_call, rn_seq, rn_guard, rn_forIn, rn_for0, rn_setD, rn_setN, rn_setO, binM, binMO, unM, cmpT, testM, andT, orT, notT, ifM, asgM, retM, exprM, kM, consA, nilA, tupM, lstM, useAll, chkAll, slM, partM, DL.andM, DL.orM, DL.notM, negM, asgG, gN, gT, gsC, gsN, seqI, frzM, asgTM, dnewM, par2M, hold_d, hold_n, hold_o, d_d, d_n, d_o, out_d, out_n, out_o, fo_next, fo_ret, isBl_b, isInt_i, tr_i, tr_b, tr_n, tr_l, tr_t, it_l, it_r, it_t, li_l, li_r, op_add_i, op_add_l, op_add_t, op_sub_i, op_mul_i, op_mod_i, op_div_i, op_pow_i, op_lt_i, op_le_i, op_gt_i, op_ge_i, op_int_i, op_abs_i, op_len_l, op_len_t, op_len_r, op_tup_l, op_tup_t, op_lst_l, op_lst_t, op_max_i, op_eq_i, eq_go_go, eq_get_get, eq_go_get, eq_get_go, Bool.bne_false, Bool.bne_true, Bool.not_true, Bool.not_false, op_sl_l, op_sl_r, op_sl_t, op_ix_t0, op_ix_t1, op_ix_t2, op_ix_l0, List.getElem?_cons_zero, List.getElem?_cons_succ, List.set_cons_zero, List.set_cons_succ, List.map_cons, List.map_nil, List.length_cons, List.length_nil, List.cons_append, List.nil_append, if_true, if_false, Bool.false_eq_true, decide_eq_true_eq, and_true, true_and, ite_true, ite_false, reduceCtorEq, rn_methM, rn_methM0, isTM_eq, rn_mk, rn_st, mk_own, st_own, ty_own, ex_app, ex_ext, ex_extT, ex_rev, ex_pop, rn_storeM, rn_lc, rn_lc2, rn_turn, rn_turn1, rn_frz, opRevS]
  rw [← List.map_reverse, ← List.map_append]
  refine ⟨small_le (by simp; omega), ?_⟩
  refine for_of (all := rows.reverse ++ rows) (a := []) (r := rows.reverse ++ rows) (I := fun a r S => ∃ (s3 s4 s9 : Slot), S = ⟨[s0, .dat (.obj 0), s2, s3, s4, s5, s6, .dat c.toD, s8, s9, s10, .un, .un], [bagD y]⟩) rfl ⟨_, _, _, rfl⟩ ?_ ?_
  · rintro a l r S e ⟨s3, s4, s9, rfl⟩
    have fl : LotsOk many l := by
      have : l ∈ rows.reverse ++ rows := by rw [e]; simp
      simp at this
      exact hf l this
    have tf := torn_fit fl h
    unfold dueD
    simp -implicitDefEqProofs only [rn_bind, rn_pure, rn_no, rn_need, rn_opt1, rn_ite, rn_var, rn_put, rn_useD, rn_useN, rn_useO, rn_chkD, rn_chkN, rn_chkO, rn_call, rn_seq, rn_guard, rn_forIn, rn_for0, rn_setD, rn_setN, rn_setO, binM, binMO, unM, cmpT, testM, andT, orT, notT, ifM, asgM, retM, exprM, kM, consA, nilA, tupM, lstM, useAll, chkAll, slM, partM, DL.andM, DL.orM, DL.notM, negM, asgG, gN, gT, gsC, gsN, seqI, frzM, asgTM, dnewM, par2M, hold_d, hold_n, hold_o, d_d, d_n, d_o, out_d, out_n, out_o, fo_next, fo_ret, isBl_b, isInt_i, tr_i, tr_b, tr_n, tr_l, tr_t, it_l, it_r, it_t, li_l, li_r, op_add_i, op_add_l, op_add_t, op_sub_i, op_mul_i, op_mod_i, op_div_i, op_pow_i, op_lt_i, op_le_i, op_gt_i, op_ge_i, op_int_i, op_abs_i, op_len_l, op_len_t, op_len_r, op_tup_l, op_tup_t, op_lst_l, op_lst_t, op_max_i, op_eq_i, eq_go_go, eq_get_get, eq_go_get, eq_get_go, Bool.bne_false, Bool.bne_true, Bool.not_true, Bool.not_false, op_sl_l, op_sl_r, op_sl_t, op_ix_t0, op_ix_t1, op_ix_t2, op_ix_l0, List.getElem?_cons_zero, List.getElem?_cons_succ, List.set_cons_zero, List.set_cons_succ, List.map_cons, List.map_nil, List.length_cons, List.length_nil, List.cons_append, List.nil_append, if_true, if_false, Bool.false_eq_true, decide_eq_true_eq, and_true, true_and, ite_true, ite_false, reduceCtorEq, rn_methM, rn_methM0, isTM_eq, rn_mk, rn_st, mk_own, st_own, ty_own, ex_app, ex_ext, ex_extT, ex_rev, ex_pop, rn_storeM, rn_lc, rn_lc2, rn_turn, rn_turn1, rn_frz]
    with_reducible refine torn_ok hm fl (bag_all y) h (by decide) ?_
    rw [if_safe (imms_lI _) (bag_all y)]
    unfold lI
    simp -implicitDefEqProofs only [rn_bind, rn_pure, rn_no, rn_need, rn_opt1, rn_ite, rn_var, rn_put, rn_useD, rn_useN, rn_useO, rn_chkD, rn_chkN, rn_chkO, rn_call, rn_seq, rn_guard, rn_forIn, rn_for0, rn_setD, rn_setN, rn_setO, binM, binMO, unM, cmpT, testM, andT, orT, notT, ifM, asgM, retM, exprM, kM, consA, nilA, tupM, lstM, useAll, chkAll, slM, partM, DL.andM, DL.orM, DL.notM, negM, asgG, gN, gT, gsC, gsN, seqI, frzM, asgTM, dnewM, par2M, hold_d, hold_n, hold_o, d_d, d_n, d_o, out_d, out_n, out_o, fo_next, fo_ret, isBl_b, isInt_i, tr_i, tr_b, tr_n, tr_l, tr_t, it_l, it_r, it_t, li_l, li_r, op_add_i, op_add_l, op_add_t, op_sub_i, op_mul_i, op_mod_i, op_div_i, op_pow_i, op_lt_i, op_le_i, op_gt_i, op_ge_i, op_int_i, op_abs_i, op_len_l, op_len_t, op_len_r, op_tup_l, op_tup_t, op_lst_l, op_lst_t, op_max_i, op_eq_i, eq_go_go, eq_get_get, eq_go_get, eq_get_go, Bool.bne_false, Bool.bne_true, Bool.not_true, Bool.not_false, op_sl_l, op_sl_r, op_sl_t, op_ix_t0, op_ix_t1, op_ix_t2, op_ix_l0, List.getElem?_cons_zero, List.getElem?_cons_succ, List.set_cons_zero, List.set_cons_succ, List.map_cons, List.map_nil, List.length_cons, List.length_nil, List.cons_append, List.nil_append, if_true, if_false, Bool.false_eq_true, decide_eq_true_eq, and_true, true_and, ite_true, ite_false, reduceCtorEq, rn_methM, rn_methM0, isTM_eq, rn_mk, rn_st, mk_own, st_own, ty_own, ex_app, ex_ext, ex_extT, ex_rev, ex_pop, rn_storeM, rn_lc, rn_lc2, rn_turn, rn_turn1, rn_frz]
    refine alike_lI (fun n hn => by have := tf.1 n hn; omega) (by omega) ?_
    rw [if_safe rfl (bag_all y)]
    simp -implicitDefEqProofs only [rn_bind, rn_pure, rn_no, rn_need, rn_opt1, rn_ite, rn_var, rn_put, rn_useD, rn_useN, rn_useO, rn_chkD, rn_chkN, rn_chkO, rn_call, rn_seq, rn_guard, rn_forIn, rn_for0, rn_setD, rn_setN, rn_setO, binM, binMO, unM, cmpT, testM, andT, orT, notT, ifM, asgM, retM, exprM, kM, consA, nilA, tupM, lstM, useAll, chkAll, slM, partM, DL.andM, DL.orM, DL.notM, negM, asgG, gN, gT, gsC, gsN, seqI, frzM, asgTM, dnewM, par2M, hold_d, hold_n, hold_o, d_d, d_n, d_o, out_d, out_n, out_o, fo_next, fo_ret, isBl_b, isInt_i, tr_i, tr_b, tr_n, tr_l, tr_t, it_l, it_r, it_t, li_l, li_r, op_add_i, op_add_l, op_add_t, op_sub_i, op_mul_i, op_mod_i, op_div_i, op_pow_i, op_lt_i, op_le_i, op_gt_i, op_ge_i, op_int_i, op_abs_i, op_len_l, op_len_t, op_len_r, op_tup_l, op_tup_t, op_lst_l, op_lst_t, op_max_i, op_eq_i, eq_go_go, eq_get_get, eq_go_get, eq_get_go, Bool.bne_false, Bool.bne_true, Bool.not_true, Bool.not_false, op_sl_l, op_sl_r, op_sl_t, op_ix_t0, op_ix_t1, op_ix_t2, op_ix_l0, List.getElem?_cons_zero, List.getElem?_cons_succ, List.set_cons_zero, List.set_cons_succ, List.map_cons, List.map_nil, List.length_cons, List.length_nil, List.cons_append, List.nil_append, if_true, if_false, Bool.false_eq_true, decide_eq_true_eq, and_true, true_and, ite_true, ite_false, reduceCtorEq, rn_methM, rn_methM0, isTM_eq, rn_mk, rn_st, mk_own, st_own, ty_own, ex_app, ex_ext, ex_extT, ex_rev, ex_pop, rn_storeM, rn_lc, rn_lc2, rn_turn, rn_turn1, rn_frz]
    exact ⟨_, _, _, rfl⟩
  · rintro S ⟨s3, s4, s9, rfl⟩
    exact ⟨rfl, _, _, _, rfl⟩
theorem law_true : ∀ ns : List Int, ns.length ≤ 63 → ∃ objs, d_law [.rol (ns.map .int)] [] = some (.ok (.dat (.bl true)), objs) := by
  intro ns hl
  have key : Dr d_law [.rol (ns.map .int)] [] fun r o => r = .dat (.bl true) := by
    unfold d_law
    rw [dr_run, law_eq]
    generalize hB : seqM lawA _ = B
    simp -implicitDefEqProofs only [rn_bind, rn_pure, rn_no, rn_need, rn_opt1, rn_ite, rn_var, rn_put, rn_useD, rn_useN, rn_useO, rn_chkD, rn_chkN, rn_chkO, rn_call, rn_seq, rn_guard, rn_forIn, rn_for0, rn_setD, rn_setN, rn_setO, binM, binMO, unM, cmpT, testM, andT, orT, notT, ifM, asgM, retM, exprM, kM, consA, nilA, tupM, lstM, useAll, chkAll, slM, partM, DL.andM, DL.orM, DL.notM, negM, asgG, gN, gT, gsC, gsN, seqI, frzM, asgTM, dnewM, par2M, hold_d, hold_n, hold_o, d_d, d_n, d_o, out_d, out_n, out_o, fo_next, fo_ret, isBl_b, isInt_i, tr_i, tr_b, tr_n, tr_l, tr_t, it_l, it_r, it_t, li_l, li_r, op_add_i, op_add_l, op_add_t, op_sub_i, op_mul_i, op_mod_i, op_div_i, op_pow_i, op_lt_i, op_le_i, op_gt_i, op_ge_i, op_int_i, op_abs_i, op_len_l, op_len_t, op_len_r, op_tup_l, op_tup_t, op_lst_l, op_lst_t, op_max_i, op_eq_i, eq_go_go, eq_get_get, eq_go_get, eq_get_go, Bool.bne_false, Bool.bne_true, Bool.not_true, Bool.not_false, op_sl_l, op_sl_r, op_sl_t, op_ix_t0, op_ix_t1, op_ix_t2, op_ix_l0, List.getElem?_cons_zero, List.getElem?_cons_succ, List.set_cons_zero, List.set_cons_succ, List.map_cons, List.map_nil, List.length_cons, List.length_nil, List.cons_append, List.nil_append, if_true, if_false, Bool.false_eq_true, decide_eq_true_eq, and_true, true_and, ite_true, ite_false, reduceCtorEq, rn_methM, rn_methM0, isTM_eq, rn_mk, rn_st, mk_own, st_own, ty_own, ex_app, ex_ext, ex_extT, ex_rev, ex_pop, rn_storeM, rn_lc, rn_lc2, rn_turn, rn_turn1, rn_frz, List.replicate]
    refine bag_ok hl fun x hx => ?_
    rw [if_safe (show (Res.new (bagD x)).safe = true from bag_imm x) rfl]
    simp -implicitDefEqProofs only [rn_bind, rn_pure, rn_no, rn_need, rn_opt1, rn_ite, rn_var, rn_put, rn_useD, rn_useN, rn_useO, rn_chkD, rn_chkN, rn_chkO, rn_call, rn_seq, rn_guard, rn_forIn, rn_for0, rn_setD, rn_setN, rn_setO, binM, binMO, unM, cmpT, testM, andT, orT, notT, ifM, asgM, retM, exprM, kM, consA, nilA, tupM, lstM, useAll, chkAll, slM, partM, DL.andM, DL.orM, DL.notM, negM, asgG, gN, gT, gsC, gsN, seqI, frzM, asgTM, dnewM, par2M, hold_d, hold_n, hold_o, d_d, d_n, d_o, out_d, out_n, out_o, fo_next, fo_ret, isBl_b, isInt_i, tr_i, tr_b, tr_n, tr_l, tr_t, it_l, it_r, it_t, li_l, li_r, op_add_i, op_add_l, op_add_t, op_sub_i, op_mul_i, op_mod_i, op_div_i, op_pow_i, op_lt_i, op_le_i, op_gt_i, op_ge_i, op_int_i, op_abs_i, op_len_l, op_len_t, op_len_r, op_tup_l, op_tup_t, op_lst_l, op_lst_t, op_max_i, op_eq_i, eq_go_go, eq_get_get, eq_go_get, eq_get_go, Bool.bne_false, Bool.bne_true, Bool.not_true, Bool.not_false, op_sl_l, op_sl_r, op_sl_t, op_ix_t0, op_ix_t1, op_ix_t2, op_ix_l0, List.getElem?_cons_zero, List.getElem?_cons_succ, List.set_cons_zero, List.set_cons_succ, List.map_cons, List.map_nil, List.length_cons, List.length_nil, List.cons_append, List.nil_append, if_true, if_false, Bool.false_eq_true, decide_eq_true_eq, and_true, true_and, ite_true, ite_false, reduceCtorEq, rn_methM, rn_methM0, isTM_eq, rn_mk, rn_st, mk_own, st_own, ty_own, ex_app, ex_ext, ex_extT, ex_rev, ex_pop, rn_storeM, rn_lc, rn_lc2, rn_turn, rn_turn1, rn_frz, rng1I, trk_new]
    refine ⟨by decide, ?_⟩
    refine for_inv (I := fun ds S => ∃ (y : Bag) (s0 s2 s3 s4 s5 s6 s7 s8 s9 s10 : Slot), BOk y ∧ S = ⟨[s0, .dat (.obj 0), s2, s3, s4, s5, s6, s7, s8, s9, s10, .un, .un], [bagD y]⟩) ⟨x, _, _, _, _, _, _, _, _, _, _, hx, rfl⟩ ?_ ?_
    · rintro d ds S ⟨y, s0, s2, s3, s4, s5, s6, s7, s8, s9, s10, hy, rfl⟩
      rw [← hB]
      unfold lawA
      simp -implicitDefEqProofs only [rn_bind, rn_pure, rn_no, rn_need, rn_opt1, rn_ite, rn_var, rn_put, rn_useD, rn_useN, rn_useO, rn_chkD, rn_chkN, rn_chkO, rn_call, rn_seq, rn_guard, rn_forIn, rn_for0, rn_setD, rn_setN, rn_setO, binM, binMO, unM, cmpT, testM, andT, orT, notT, ifM, asgM, retM, exprM, kM, consA, nilA, tupM, lstM, useAll, chkAll, slM, partM, DL.andM, DL.orM, DL.notM, negM, asgG, gN, gT, gsC, gsN, seqI, frzM, asgTM, dnewM, par2M, hold_d, hold_n, hold_o, d_d, d_n, d_o, out_d, out_n, out_o, fo_next, fo_ret, isBl_b, isInt_i, tr_i, tr_b, tr_n, tr_l, tr_t, it_l, it_r, it_t, li_l, li_r, op_add_i, op_add_l, op_add_t, op_sub_i, op_mul_i, op_mod_i, op_div_i, op_pow_i, op_lt_i, op_le_i, op_gt_i, op_ge_i, op_int_i, op_abs_i, op_len_l, op_len_t, op_len_r, op_tup_l, op_tup_t, op_lst_l, op_lst_t, op_max_i, op_eq_i, eq_go_go, eq_get_get, eq_go_get, eq_get_go, Bool.bne_false, Bool.bne_true, Bool.not_true, Bool.not_false, op_sl_l, op_sl_r, op_sl_t, op_ix_t0, op_ix_t1, op_ix_t2, op_ix_l0, List.getElem?_cons_zero, List.getElem?_cons_succ, List.set_cons_zero, List.set_cons_succ, List.map_cons, List.map_nil, List.length_cons, List.length_nil, List.cons_append, List.nil_append, if_true, if_false, Bool.false_eq_true, decide_eq_true_eq, and_true, true_and, ite_true, ite_false, reduceCtorEq, rn_methM, rn_methM0, isTM_eq, rn_mk, rn_st, mk_own, st_own, ty_own, ex_app, ex_ext, ex_extT, ex_rev, ex_pop, rn_storeM, rn_lc, rn_lc2, rn_turn, rn_turn1, rn_frz]
      with_reducible refine case_ok hy fun many g c y1 hm hne hc hy1 => ?_
      rw [safe_b (by simp [D.imm, D.imms, tI, imms_ints, Cd.imm])]
      simp -implicitDefEqProofs only [rn_bind, rn_pure, rn_no, rn_need, rn_opt1, rn_ite, rn_var, rn_put, rn_useD, rn_useN, rn_useO, rn_chkD, rn_chkN, rn_chkO, rn_call, rn_seq, rn_guard, rn_forIn, rn_for0, rn_setD, rn_setN, rn_setO, binM, binMO, unM, cmpT, testM, andT, orT, notT, ifM, asgM, retM, exprM, kM, consA, nilA, tupM, lstM, useAll, chkAll, slM, partM, DL.andM, DL.orM, DL.notM, negM, asgG, gN, gT, gsC, gsN, seqI, frzM, asgTM, dnewM, par2M, hold_d, hold_n, hold_o, d_d, d_n, d_o, out_d, out_n, out_o, fo_next, fo_ret, isBl_b, isInt_i, tr_i, tr_b, tr_n, tr_l, tr_t, it_l, it_r, it_t, li_l, li_r, op_add_i, op_add_l, op_add_t, op_sub_i, op_mul_i, op_mod_i, op_div_i, op_pow_i, op_lt_i, op_le_i, op_gt_i, op_ge_i, op_int_i, op_abs_i, op_len_l, op_len_t, op_len_r, op_tup_l, op_tup_t, op_lst_l, op_lst_t, op_max_i, op_eq_i, eq_go_go, eq_get_get, eq_go_get, eq_get_go, Bool.bne_false, Bool.bne_true, Bool.not_true, Bool.not_false, op_sl_l, op_sl_r, op_sl_t, op_ix_t0, op_ix_t1, op_ix_t2, op_ix_l0, List.getElem?_cons_zero, List.getElem?_cons_succ, List.set_cons_zero, List.set_cons_succ, List.map_cons, List.map_nil, List.length_cons, List.length_nil, List.cons_append, List.nil_append, if_true, if_false, Bool.false_eq_true, decide_eq_true_eq, and_true, true_and, ite_true, ite_false, reduceCtorEq, rn_methM, rn_methM0, isTM_eq, rn_mk, rn_st, mk_own, st_own, ty_own, ex_app, ex_ext, ex_extT, ex_rev, ex_pop, rn_storeM, rn_lc, rn_lc2, rn_turn, rn_turn1, rn_frz]
      refine ⟨small_le (by decide), ?_⟩
      with_reducible refine (lawB_ok hm hc hy1).mono fun fl S' ⟨e1, rows, y2, s4', s8', s9', s10', hf, hr, hy2, e2⟩ => ?_
      subst e1 e2
      with_reducible refine (lawC_ok hm hc hr hf).mono fun fl S' ⟨e1, s3', s4', s9', e2⟩ => ?_
      subst e1 e2
      exact ⟨y2, _, _, _, _, _, _, _, _, _, _, hy2, rfl⟩
    · rintro S ⟨y, s0, s2, s3, s4, s5, s6, s7, s8, s9, s10, hy, rfl⟩
      simp -implicitDefEqProofs only [rn_bind, rn_pure, rn_no, rn_need, rn_opt1, rn_ite, rn_var, rn_put, rn_useD, rn_useN, rn_useO, rn_chkD, rn_chkN, rn_chkO, rn_call, rn_seq, rn_guard, rn_forIn, rn_for0, rn_setD, rn_setN, rn_setO, binM, binMO, unM, cmpT, testM, andT, orT, notT, ifM, asgM, retM, exprM, kM, consA, nilA, tupM, lstM, useAll, chkAll, slM, partM, DL.andM, DL.orM, DL.notM, negM, asgG, gN, gT, gsC, gsN, seqI, frzM, asgTM, dnewM, par2M, hold_d, hold_n, hold_o, d_d, d_n, d_o, out_d, out_n, out_o, fo_next, fo_ret, isBl_b, isInt_i, tr_i, tr_b, tr_n, tr_l, tr_t, it_l, it_r, it_t, li_l, li_r, op_add_i, op_add_l, op_add_t, op_sub_i, op_mul_i, op_mod_i, op_div_i, op_pow_i, op_lt_i, op_le_i, op_gt_i, op_ge_i, op_int_i, op_abs_i, op_len_l, op_len_t, op_len_r, op_tup_l, op_tup_t, op_lst_l, op_lst_t, op_max_i, op_eq_i, eq_go_go, eq_get_get, eq_go_get, eq_get_go, Bool.bne_false, Bool.bne_true, Bool.not_true, Bool.not_false, op_sl_l, op_sl_r, op_sl_t, op_ix_t0, op_ix_t1, op_ix_t2, op_ix_l0, List.getElem?_cons_zero, List.getElem?_cons_succ, List.set_cons_zero, List.set_cons_succ, List.map_cons, List.map_nil, List.length_cons, List.length_nil, List.cons_append, List.nil_append, if_true, if_false, Bool.false_eq_true, decide_eq_true_eq, and_true, true_and, ite_true, ite_false, reduceCtorEq, rn_methM, rn_methM0, isTM_eq, rn_mk, rn_st, mk_own, st_own, ty_own, ex_app, ex_ext, ex_extT, ex_rev, ex_pop, rn_storeM, rn_lc, rn_lc2, rn_turn, rn_turn1, rn_frz]
  obtain ⟨r, o', e, rfl⟩ := key.ex
  exact ⟨o', e⟩
end LW
end
section
open PySem PySem.W PyProof.Rows
set_option maxRecDepth 100000 in
set_option maxHeartbeats 0 in
theorem PySem.Challenge.cw_oldletters_k23_torn_states_holds : PySem.Challenge.rw_oldletters_k23_torn_states.Holds := by
  w_on; o_law; k_head; (case hw => w_witness2)
  k_fill
  refine LW.walk rfl rfl (fun w h Y => PySem.W.kIn_of Y) ?T LW.law_true
  case T =>
    intro w mg h KX G
    constructor
    case f_steps_of =>
      refine' DL.fn0_mk KX G ?a ?l ?c ?k ?b
      (case a => k_is); (case l => k_is); (case c => k_is); (case k => k_is)
      (case b => exact fun F => F.binds fun _ _ _ _ _ _ us hl => match us, hl with | [_, _], _ => rfl)
    case f_results_of =>
      refine' DL.fn0_mk KX G ?a ?l ?c ?k ?b
      (case a => k_is); (case l => k_is); (case c => k_is); (case k => k_is)
      (case b => exact fun F => F.binds fun _ _ _ _ _ _ us hl => match us, hl with | [_, _], _ => rfl)
    case f_plain_state =>
      refine' DL.fn0_mk KX G ?a ?l ?c ?k ?b
      (case a => k_is); (case l => k_is); (case c => k_is); (case k => k_is)
      (case b => exact fun F => F.binds fun _ _ _ _ _ _ us hl => match us, hl with | [_, _], _ => rfl)
    case f_inner_codes =>
      refine' DL.fn0_mk KX G ?a ?l ?c ?k ?b
      (case a => k_is); (case l => k_is); (case c => k_is); (case k => k_is)
      (case b => exact fun F => F.binds fun _ _ _ _ _ _ us hl => match us, hl with | [_], _ => rfl)
    case f_asked_by =>
      refine' DL.fn0_mk KX G ?a ?l ?c ?k ?b
      (case a => k_is); (case l => k_is); (case c => k_is); (case k => k_is)
      (case b => exact fun F => F.binds fun _ _ _ _ _ _ us hl => match us, hl with | [_], _ => rfl)
    case f_all_choices =>
      refine' DL.fn0_mk KX G ?a ?l ?c ?k ?b
      (case a => k_is); (case l => k_is); (case c => k_is); (case k => k_is)
      (case b => exact fun F => F.binds fun _ _ _ _ _ _ us hl => match us, hl with | [_], _ => rfl)
    case f_torn_states =>
      refine' DL.fn0_mk KX G ?a ?l ?c ?k ?b
      (case a => k_is); (case l => k_is); (case c => k_is); (case k => k_is)
      (case b => exact fun F => F.binds fun _ _ _ _ _ _ us hl => match us, hl with | [_, _], _ => rfl)
    case f__law_bag =>
      refine' DL.fn0_mk KX G ?a ?l ?c ?k ?b
      (case a => k_is); (case l => k_is); (case c => k_is); (case k => k_is)
      (case b => exact fun F => F.binds fun _ _ _ _ _ _ us hl => match us, hl with | [_], _ => rfl)
    case f__law_take =>
      refine' DL.fn0_mk KX G ?a ?l ?c ?k ?b
      (case a => k_is); (case l => k_is); (case c => k_is); (case k => k_is)
      (case b => exact fun F => F.binds fun _ _ _ _ _ _ us hl => match us, hl with | [_, _], _ => rfl)
    case f__law_some =>
      refine' DL.fn0_mk KX G ?a ?l ?c ?k ?b
      (case a => k_is); (case l => k_is); (case c => k_is); (case k => k_is)
      (case b => exact fun F => F.binds fun _ _ _ _ _ _ us hl => match us, hl with | [_, _], _ => rfl)
    case f__law_alike =>
      refine' DL.fn0_mk KX G ?a ?l ?c ?k ?b
      (case a => k_is); (case l => k_is); (case c => k_is); (case k => k_is)
      (case b => exact fun F => F.binds fun _ _ _ _ _ _ us hl => match us, hl with | [_, _], _ => rfl)
    case f__law_lot =>
      refine' DL.fn0_mk KX G ?a ?l ?c ?k ?b
      (case a => k_is); (case l => k_is); (case c => k_is); (case k => k_is)
      (case b => exact fun F => F.binds fun _ _ _ _ _ _ us hl => match us, hl with | [_, _], _ => rfl)
    case f__law_steps =>
      refine' DL.fn0_mk KX G ?a ?l ?c ?k ?b
      (case a => k_is); (case l => k_is); (case c => k_is); (case k => k_is)
      (case b => exact fun F => F.binds fun _ _ _ _ _ _ us hl => match us, hl with | [_, _], _ => rfl)
    case f__law_results =>
      refine' DL.fn0_mk KX G ?a ?l ?c ?k ?b
      (case a => k_is); (case l => k_is); (case c => k_is); (case k => k_is)
      (case b => exact fun F => F.binds fun _ _ _ _ _ _ us hl => match us, hl with | [_, _], _ => rfl)
    case f__law_rich =>
      refine' DL.fn0_mk KX G ?a ?l ?c ?k ?b
      (case a => k_is); (case l => k_is); (case c => k_is); (case k => k_is)
      (case b => exact fun F => F.binds fun _ _ _ _ _ _ us hl => match us, hl with | [_, _, _, _, _], _ => rfl)
    case f__law_case =>
      refine' DL.fn0_mk KX G ?a ?l ?c ?k ?b
      (case a => k_is); (case l => k_is); (case c => k_is); (case k => k_is)
      (case b => exact fun F => F.binds fun _ _ _ _ _ _ us hl => match us, hl with | [_, _, _, _], _ => rfl)
    case f__law_places =>
      refine' DL.fn0_mk KX G ?a ?l ?c ?k ?b
      (case a => k_is); (case l => k_is); (case c => k_is); (case k => k_is)
      (case b => exact fun F => F.binds fun _ _ _ _ _ _ us hl => match us, hl with | [_], _ => rfl)
    case f__law_under =>
      refine' DL.fn0_mk KX G ?a ?l ?c ?k ?b
      (case a => k_is); (case l => k_is); (case c => k_is); (case k => k_is)
      (case b => exact fun F => F.binds fun _ _ _ _ _ _ us hl => match us, hl with | [_, _], _ => rfl)
    case f__law_plain =>
      refine' DL.fn0_mk KX G ?a ?l ?c ?k ?b
      (case a => k_is); (case l => k_is); (case c => k_is); (case k => k_is)
      (case b => exact fun F => F.binds fun _ _ _ _ _ _ us hl => match us, hl with | [_, _], _ => rfl)
    case f__law_plain_all =>
      refine' DL.fn0_mk KX G ?a ?l ?c ?k ?b
      (case a => k_is); (case l => k_is); (case c => k_is); (case k => k_is)
      (case b => exact fun F => F.binds fun _ _ _ _ _ _ us hl => match us, hl with | [_, _], _ => rfl)
    case f__law_any_lots =>
      refine' DL.fn0_mk KX G ?a ?l ?c ?k ?b
      (case a => k_is); (case l => k_is); (case c => k_is); (case k => k_is)
      (case b => exact fun F => F.binds fun _ _ _ _ _ _ us hl => match us, hl with | [_, _, _], _ => rfl)
    case f__law_whom =>
      refine' DL.fn0_mk KX G ?a ?l ?c ?k ?b
      (case a => k_is); (case l => k_is); (case c => k_is); (case k => k_is)
      (case b => exact fun F => F.binds fun _ _ _ _ _ _ us hl => match us, hl with | [_], _ => rfl)
    case f_law =>
      refine' DL.fn0_mk KX G ?a ?l ?c ?k ?b
      (case a => k_is); (case l => k_is); (case c => k_is); (case k => k_is)
      (case b => exact fun F => F.binds fun _ _ _ _ _ _ us hl => match us, hl with | [_], _ => rfl)
    case m_abs => exact PySem.W.mg_none_of KX G (by k_is)
    case m_enumerate => exact PySem.W.mg_none_of KX G (by k_is)
    case m_int => exact PySem.W.mg_none_of KX G (by k_is)
    case m_len => exact PySem.W.mg_none_of KX G (by k_is)
    case m_list => exact PySem.W.mg_none_of KX G (by k_is)
    case m_max => exact PySem.W.mg_none_of KX G (by k_is)
    case m_range => exact PySem.W.mg_none_of KX G (by k_is)
    case m_repr => exact PySem.W.mg_none_of KX G (by k_is)
    case m_set => exact PySem.W.mg_none_of KX G (by k_is)
    case m_sorted => exact PySem.W.mg_none_of KX G (by k_is)
    case m_tuple => exact PySem.W.mg_none_of KX G (by k_is)
end
