import PyProof.Rows.All
import HandS.ForMost
import HandS.Deep
import HandS.Conv
import HandS.Ends
import KE.KeyNested
import KE.KDictKeyed
import KE.SortData
import PyProof.ReprReads
import HandS.Style
import HandS.TupAny
import PyProof.DictRoadsH
import PyProof.DictMoreH
import PyProof.TupleOfSeq
import HandS.TupLen
import HandS.SortInts
import PyProof.ReprRoads
import HandS.Iter
import KE.KDictWalk
import HandS.Exc
import HandS.Flow
import HandS.Words
import HandS.Strs
import PySem.Challenge.RW_mustwait_k59_modes
section
set_option Elab.async false
set_option linter.all false
set_option maxRecDepth 100000
/-! Mw1: pure values, the abstract store of mutable objects, how a HandS heap bears it. -/
namespace Mw
open PySem PySem.Spec PyProof.Rows L2

/-- a pure value; ref i: the i-th mutable object of the abstract store; fl, fd, fs: a list, a dict, a set that nobody changes; scr: the script; st i: a def or a class of the text -/
inductive PV where
  | non | bl (b : Bool) | int (i : Int) | str (s : Str) | tup (xs : List PV) | ref (i : Nat)
  | fl (xs : List PV) | scr (xs : List PV) | fd (kvs : List (PV × PV)) | fs (xs : List PV) | st (i : Nat)
  deriving Inhabited

mutual
def PV.beq : PV → PV → Bool
  | .non, .non => true
  | .bl a, .bl b => a == b
  | .int a, .int b => decide (a = b)
  | .str a, .str b => decide (a = b)
  | .tup a, .tup b => PV.beqs a b
  | .ref a, .ref b => decide (a = b)
  | .st a, .st b => decide (a = b)
  | .fl a, .fl b => PV.beqs a b
  | .scr a, .scr b => PV.beqs a b
  | .fs a, .fs b => PV.beqs a b
  | .fd a, .fd b => PV.beqp a b
  | _, _ => false
def PV.beqp : List (PV × PV) → List (PV × PV) → Bool
  | [], [] => true
  | (a, c) :: as, (b, d) :: bs => (PV.beq a b && PV.beq c d) && PV.beqp as bs
  | _, _ => false
def PV.beqs : List PV → List PV → Bool
  | [], [] => true
  | a :: as, b :: bs => PV.beq a b && PV.beqs as bs
  | _, _ => false
end
mutual
theorem PV.beq_refl : ∀ a : PV, PV.beq a a = true
  | .non => rfl
  | .bl b => by simp [PV.beq]
  | .int _ => by simp [PV.beq]
  | .str _ => by simp [PV.beq]
  | .tup xs => by rw [PV.beq]; exact PV.beqs_refl xs
  | .ref _ => by simp [PV.beq]
  | .st _ => by simp [PV.beq]
  | .fl xs => by rw [PV.beq]; exact PV.beqs_refl xs
  | .scr xs => by rw [PV.beq]; exact PV.beqs_refl xs
  | .fs xs => by rw [PV.beq]; exact PV.beqs_refl xs
  | .fd xs => by rw [PV.beq]; exact PV.beqp_refl xs
theorem PV.beqp_refl : ∀ a : List (PV × PV), PV.beqp a a = true
  | [] => rfl
  | (a, b) :: as => by rw [PV.beqp, PV.beq_refl a, PV.beq_refl b, PV.beqp_refl as]; rfl
theorem PV.beqs_refl : ∀ a : List PV, PV.beqs a a = true
  | [] => rfl
  | a :: as => by rw [PV.beqs, PV.beq_refl a, PV.beqs_refl as]; rfl
end
mutual
theorem PV.eq_of : ∀ a b : PV, PV.beq a b = true → a = b
  | .non, b, h => by cases b <;> first | rfl | simp [PV.beq] at h
  | .bl _, b, h => by cases b <;> simp [PV.beq] at h ⊢; exact h
  | .int _, b, h => by cases b <;> simp [PV.beq] at h ⊢; exact h
  | .str _, b, h => by cases b <;> simp [PV.beq] at h ⊢; exact h
  | .tup xs, b, h => by
    cases b with
    | tup ys => rw [PV.beq] at h; rw [PV.eqs_of xs ys h]
    | _ => simp [PV.beq] at h
  | .ref _, b, h => by cases b <;> simp [PV.beq] at h ⊢; exact h
  | .st _, b, h => by cases b <;> simp [PV.beq] at h ⊢; exact h
  | .fl xs, b, h => by
    cases b with
    | fl ys => rw [PV.beq] at h; rw [PV.eqs_of xs ys h]
    | _ => simp [PV.beq] at h
  | .scr xs, b, h => by
    cases b with
    | scr ys => rw [PV.beq] at h; rw [PV.eqs_of xs ys h]
    | _ => simp [PV.beq] at h
  | .fs xs, b, h => by
    cases b with
    | fs ys => rw [PV.beq] at h; rw [PV.eqs_of xs ys h]
    | _ => simp [PV.beq] at h
  | .fd xs, b, h => by
    cases b with
    | fd ys => rw [PV.beq] at h; rw [PV.eqp_of xs ys h]
    | _ => simp [PV.beq] at h
theorem PV.eqp_of : ∀ a b : List (PV × PV), PV.beqp a b = true → a = b
  | [], b, h => by cases b <;> first | rfl | simp [PV.beqp] at h
  | (a, c) :: as, b, h => by
    cases b with
    | nil => simp [PV.beqp] at h
    | cons b bs =>
      obtain ⟨b, d⟩ := b
      rw [PV.beqp, Bool.and_eq_true, Bool.and_eq_true] at h
      rw [PV.eq_of a b h.1.1, PV.eq_of c d h.1.2, PV.eqp_of as bs h.2]
theorem PV.eqs_of : ∀ a b : List PV, PV.beqs a b = true → a = b
  | [], b, h => by cases b <;> first | rfl | simp [PV.beqs] at h
  | a :: as, b, h => by
    cases b with
    | nil => simp [PV.beqs] at h
    | cons b bs =>
      rw [PV.beqs, Bool.and_eq_true] at h
      rw [PV.eq_of a b h.1, PV.eqs_of as bs h.2]
end
instance : DecidableEq PV := fun a b =>
  if h : PV.beq a b = true then .isTrue (PV.eq_of a b h) else .isFalse fun e => h (e ▸ PV.beq_refl a)

/-- an object of the abstract store: a list, a dict (its pairs in order), a dict that is walked just now, an instance of the c-th class of the text -/
inductive AO where
  | lst (xs : List PV)
  | dct (kvs : List (PV × PV))
  | ldct (kvs : List (PV × PV))
  | ins (c : Nat) (fs : List (Str × PV))
  deriving Inhabited, DecidableEq
abbrev AH := List AO

/-- a dict's key that is an int or a text -/
def keyOf : PV → Option Key
  | .int i => some (.inl i)
  | .str x => some (.inr x)
  | _ => none
mutual
/-- a dict's key of any depth, without lists -/
def nkOf : PV → Option NestedKey
  | .non => some .none
  | .bl b => some (.num (if b then 1 else 0))
  | .int i => some (.num i)
  | .str x => some (.text x)
  | .tup xs => (nksOf xs).map .tup
  | _ => none
def nksOf : List PV → Option (List NestedKey)
  | [] => some []
  | p :: ps => (nkOf p).bind fun k => (nksOf ps).map (k :: ·)
end

section
variable (P : Program) (w : World)
/-- the raw pairs of a dict with tuple keys -/
def RowsDX (h : Heap) (a : Addr) (L : List (NestedKey × Addr × V)) : Prop :=
  L.length ≤ sizeLine ∧ (a == sysModules) = false ∧ ∃ xs : List (NestedKey × Addr × Value),
    Paired (fun (p : NestedKey × Addr × V) (q : NestedKey × Addr × Value) => p.1 = q.1 ∧ p.2.1 = q.2.1 ∧ RelV p.2.2 q.2.2) L xs ∧
    ∃ o es ep, h.get? a = some o ∧ o.ExactDict ∧ o.data = .dict es ep ∧ es.toList = xs.map (entryOfKey (nestedKind P w)) ∧ (xs.map (·.1)).Nodup
def DX (a : Addr) (L : List (NestedKey × Addr × V)) : HO := .ext fun h => RowsDX P w h a L
end

/-! ### how values are borne -/
/-- the fixed part: the program, the world, the written part, where the text's defs and classes stand -/
structure Fx where
  P : Program
  w : World
  K : PySem.W.Frag
  τ : Nat → Addr
/-- a tuple of the written part -/
def SqW (K : PySem.W.Frag) (a : Addr) (xs : List V) : Prop :=
  ∃ (o : Obj) (its : Array Value) (n : Nat), K.lookup a = some o ∧ o.cls = .type "tuple" ∧ o.data = .seq its n ∧ its.size ≤ sizeLine ∧ Vals xs its.toList
/-- a locked list, or one of the written part -/
def SqF (K : PySem.W.Frag) (H : Hp) (a : Addr) (xs : List V) : Prop :=
  (∃ o, H a = some (.frz o (.lst xs))) ∨
    ∃ (o : Obj) (its : Array Value) (n : Nat), K.lookup a = some o ∧ o.cls = .type "list" ∧ o.dict = none ∧ o.data = .seq its n ∧ its.size ≤ sizeLine ∧ Vals xs its.toList
theorem SqF.sql {K : PySem.W.Frag} {H : Hp} {a : Addr} {xs : List V} (h : SqF K H a xs) : SqL K H a xs := h.elim (fun ⟨o, e⟩ => .inl (.inr ⟨o, e⟩)) .inr
/-- the zone: where the store's objects stand; what is put by for the while (no value of ours stands there) -/
structure Zn where
  on : List Addr
  off : List Addr
def Zn.no (μ : Zn) (a : Addr) : Prop := a ∉ μ.on ∧ a ∉ μ.off
mutual
inductive Rep (F : Fx) (μ : Zn) (H : Hp) : PV → V → Prop
  | non : Rep F μ H .non .non
  | bl (b : Bool) : Rep F μ H (.bl b) (.bl b)
  | int (i : Int) : Rep F μ H (.int i) (.int i)
  | str (x : Str) : Rep F μ H (.str x) (.str x)
  | tup {a : Addr} {xs : List PV} {vs : List V} : H a = some (.tup vs) → RepL F μ H xs vs → Rep F μ H (.tup xs) (.ref a)
  | tupW {a : Addr} {xs : List PV} {vs : List V} : SqW F.K a vs → RepL F μ H xs vs → Rep F μ H (.tup xs) (.ref a)
  | ref {i : Nat} {a : Addr} : μ.on[i]? = some a → Rep F μ H (.ref i) (.ref a)
  | fl {a : Addr} {xs : List PV} {vs : List V} : μ.no a → H a = some (.lst vs) → RepL F μ H xs vs → Rep F μ H (.fl xs) (.ref a)
  | scr {a : Addr} {xs : List PV} {vs : List V} : SqF F.K H a vs → RepL F μ H xs vs → Rep F μ H (.scr xs) (.ref a)
  | fdK {a : Addr} {kvs : List (PV × PV)} {ks : List (Key × V)} : μ.no a → H a = some (.dK ks) → RepK F μ H kvs ks → Rep F μ H (.fd kvs) (.ref a)
  | fdX {a : Addr} {kvs : List (PV × PV)} {L : List (NestedKey × Addr × V)} : μ.no a → H a = some (DX F.P F.w a L) → RepX F μ H kvs L → Rep F μ H (.fd kvs) (.ref a)
  | st (i : Nat) : Rep F μ H (.st i) (.ref (F.τ i))
inductive RepL (F : Fx) (μ : Zn) (H : Hp) : List PV → List V → Prop
  | nil : RepL F μ H [] []
  | cons {p : PV} {v : V} {ps : List PV} {vs : List V} : Rep F μ H p v → RepL F μ H ps vs → RepL F μ H (p :: ps) (v :: vs)
/-- pairs with int and text keys -/
inductive RepK (F : Fx) (μ : Zn) (H : Hp) : List (PV × PV) → List (Key × V) → Prop
  | nil : RepK F μ H [] []
  | cons {k p : PV} {q : Key} {v : V} {ps : List (PV × PV)} {vs : List (Key × V)} : keyOf k = some q → Rep F μ H p v → RepK F μ H ps vs → RepK F μ H ((k, p) :: ps) ((q, v) :: vs)
/-- pairs with tuple keys -/
inductive RepX (F : Fx) (μ : Zn) (H : Hp) : List (PV × PV) → List (NestedKey × Addr × V) → Prop
  | nil : RepX F μ H [] []
  | cons {ks : List PV} {p : PV} {q : NestedKey} {b : Addr} {v : V} {ps : List (PV × PV)} {vs : List (NestedKey × Addr × V)} : nkOf (.tup ks) = some q → q.depth ≤ 8 → Rep F μ H (.tup ks) (.ref b) → Rep F μ H p v → RepX F μ H ps vs →
      RepX F μ H ((.tup ks, p) :: ps) ((q, b, v) :: vs)
end
/-- fields by name -/
inductive RepF (F : Fx) (μ : Zn) (H : Hp) : List (Str × PV) → List (Str × V) → Prop
  | nil : RepF F μ H [] []
  | cons {f : Str} {p : PV} {v : V} {ps : List (Str × PV)} {vs : List (Str × V)} : Rep F μ H p v → RepF F μ H ps vs → RepF F μ H ((f, p) :: ps) ((f, v) :: vs)

section
variable {F : Fx} {μ μ' : Zn} {H H' : Hp}
/-- what every value lives on: the objects' places, tuples, the script, and what is tracked, not of the store and not put by -/
structure Ext (F : Fx) (μ : Zn) (H : Hp) (μ' : Zn) (H' : Hp) : Prop where
  pre : ∃ t, μ'.on = μ.on ++ t
  tup : ∀ a vs, H a = some (.tup vs) → H' a = some (.tup vs)
  scr : ∀ a o vs, H a = some (.frz o (.lst vs)) → H' a = some (.frz o (.lst vs))
  no : ∀ a o, μ.no a → H a = some o → μ'.no a ∧ H' a = some o
theorem Ext.sqf (l : Ext F μ H μ' H') {a : Addr} {vs : List V} (h : SqF F.K H a vs) : SqF F.K H' a vs := h.elim (fun ⟨o, e⟩ => .inl ⟨o, l.scr a o vs e⟩) .inr
theorem Ext.at (l : Ext F μ H μ' H') {i : Nat} {a : Addr} (h : μ.on[i]? = some a) : μ'.on[i]? = some a := by
  obtain ⟨t, e⟩ := l.pre
  rw [e, List.getElem?_append_left (List.getElem?_eq_some_iff.mp h).1]
  exact h
mutual
theorem Rep.ext (l : Ext F μ H μ' H') : ∀ {p : PV} {v : V}, Rep F μ H p v → Rep F μ' H' p v
  | _, _, .non => .non
  | _, _, .bl b => .bl b
  | _, _, .int i => .int i
  | _, _, .str x => .str x
  | _, _, .tup h r => .tup (l.tup _ _ h) (RepL.ext l r)
  | _, _, .tupW h r => .tupW h (RepL.ext l r)
  | _, _, .ref h => .ref (l.at h)
  | _, _, .fl n h r => .fl (l.no _ _ n h).1 (l.no _ _ n h).2 (RepL.ext l r)
  | _, _, .scr h r => .scr (l.sqf h) (RepL.ext l r)
  | _, _, .fdK n h r => .fdK (l.no _ _ n h).1 (l.no _ _ n h).2 (RepK.ext l r)
  | _, _, .fdX n h r => .fdX (l.no _ _ n h).1 (l.no _ _ n h).2 (RepX.ext l r)
  | _, _, .st i => .st i
theorem RepL.ext (l : Ext F μ H μ' H') : ∀ {p : List PV} {v : List V}, RepL F μ H p v → RepL F μ' H' p v
  | _, _, .nil => .nil
  | _, _, .cons a b => .cons (Rep.ext l a) (RepL.ext l b)
theorem RepK.ext (l : Ext F μ H μ' H') : ∀ {p : List (PV × PV)} {v : List (Key × V)}, RepK F μ H p v → RepK F μ' H' p v
  | _, _, .nil => .nil
  | _, _, .cons e a b => .cons e (Rep.ext l a) (RepK.ext l b)
theorem RepX.ext (l : Ext F μ H μ' H') : ∀ {p : List (PV × PV)} {v : List (NestedKey × Addr × V)}, RepX F μ H p v → RepX F μ' H' p v
  | _, _, .nil => .nil
  | _, _, .cons e d k a b => .cons e d (Rep.ext l k) (Rep.ext l a) (RepX.ext l b)
end
theorem RepF.ext (l : Ext F μ H μ' H') : ∀ {p : List (Str × PV)} {v : List (Str × V)}, RepF F μ H p v → RepF F μ' H' p v
  | _, _, .nil => .nil
  | _, _, .cons a b => .cons (a.ext l) (RepF.ext l b)
/-- what every step keeps: that, and all that is tracked but not of the store; what is put by stays put by -/
structure Le (F : Fx) (μ : Zn) (H : Hp) (μ' : Zn) (H' : Hp) : Prop where
  ext : Ext F μ H μ' H'
  off : μ'.off = μ.off
  fr : ∀ a o, a ∉ μ.on → H a = some o → a ∉ μ'.on ∧ H' a = some o
  fz : ∀ a o u, H a = some (.frz o u) → H' a = some (.frz o u)
theorem Ext.refl (F : Fx) (μ : Zn) (H : Hp) : Ext F μ H μ H := ⟨⟨[], by simp⟩, fun _ _ h => h, fun _ _ _ h => h, fun _ _ h e => ⟨h, e⟩⟩
theorem Ext.trans {μ'' : Zn} {H'' : Hp} (a : Ext F μ H μ' H') (b : Ext F μ' H' μ'' H'') : Ext F μ H μ'' H'' := by
  obtain ⟨t, e⟩ := a.pre
  obtain ⟨u, f⟩ := b.pre
  refine ⟨⟨t ++ u, by rw [f, e, List.append_assoc]⟩, fun x vs h => b.tup x vs (a.tup x vs h), fun x o vs h => b.scr x o vs (a.scr x o vs h), fun x o h q => ?_⟩
  obtain ⟨h1, q1⟩ := a.no x o h q
  exact b.no x o h1 q1
theorem Le.refl (F : Fx) (μ : Zn) (H : Hp) : Le F μ H μ H := ⟨.refl F μ H, rfl, fun _ _ h e => ⟨h, e⟩, fun _ _ _ e => e⟩
theorem Le.trans {μ'' : Zn} {H'' : Hp} (a : Le F μ H μ' H') (b : Le F μ' H' μ'' H'') : Le F μ H μ'' H'' := by
  refine ⟨a.ext.trans b.ext, b.off.trans a.off, fun x o h q => ?_, fun x o u h => b.fz x o u (a.fz x o u h)⟩
  obtain ⟨h1, q1⟩ := a.fr x o h q
  exact b.fr x o h1 q1
theorem Rep.le (l : Le F μ H μ' H') {p : PV} {v : V} (r : Rep F μ H p v) : Rep F μ' H' p v := r.ext l.ext
theorem RepL.le (l : Le F μ H μ' H') {p : List PV} {v : List V} (r : RepL F μ H p v) : RepL F μ' H' p v := r.ext l.ext
theorem RepK.le (l : Le F μ H μ' H') {p : List (PV × PV)} {v : List (Key × V)} (r : RepK F μ H p v) : RepK F μ' H' p v := r.ext l.ext
theorem RepX.le (l : Le F μ H μ' H') {p : List (PV × PV)} {v : List (NestedKey × Addr × V)} (r : RepX F μ H p v) : RepX F μ' H' p v := r.ext l.ext
theorem RepF.le (l : Le F μ H μ' H') {p : List (Str × PV)} {v : List (Str × V)} (r : RepF F μ H p v) : RepF F μ' H' p v := r.ext l.ext
theorem no_join {on off : List Addr} {c a : Addr} (n : Zn.no ⟨on, c :: off⟩ a) : Zn.no ⟨on ++ [c], off⟩ a := by
  obtain ⟨h1, h2⟩ := n
  simp only [List.mem_cons, not_or] at h2
  refine ⟨?_, h2.2⟩
  show a ∉ on ++ [c]
  rw [List.mem_append, List.mem_singleton]
  rintro (h | h)
  · exact h1 h
  · exact h2.1 h
/-- fewer are put by -/
theorem Ext.fewer {on off off' : List Addr} (hs : ∀ a ∈ off', a ∈ off) : Ext F ⟨on, off⟩ H ⟨on, off'⟩ H :=
  ⟨⟨[], by simp⟩, fun _ _ h => h, fun _ _ _ h => h, fun _ _ n e => ⟨⟨n.1, fun m => n.2 (hs _ m)⟩, e⟩⟩
/-- what was put by joins the store -/
theorem Ext.join {on off : List Addr} {c : Addr} : Ext F ⟨on, c :: off⟩ H ⟨on ++ [c], off⟩ H :=
  ⟨⟨[c], rfl⟩, fun _ _ h => h, fun _ _ _ h => h, fun _ _ n e => ⟨no_join n, e⟩⟩
theorem RepL.length : ∀ {ps : List PV} {vs : List V}, RepL F μ H ps vs → ps.length = vs.length
  | _, _, .nil => rfl
  | _, _, .cons _ b => by simp [RepL.length b]
theorem RepL.get : ∀ {ps : List PV} {vs : List V} {i : Nat} {p : PV}, RepL F μ H ps vs → ps[i]? = some p → ∃ v, vs[i]? = some v ∧ Rep F μ H p v
  | _, _, _, _, .nil, h => by simp at h
  | _, _, 0, _, .cons a _, h => by simp at h; subst h; exact ⟨_, rfl, a⟩
  | _, _, i + 1, p, .cons _ b, h => by
    obtain ⟨v, h1, h2⟩ := RepL.get (i := i) b (by simpa using h)
    exact ⟨v, by simpa using h1, h2⟩
theorem RepL.append : ∀ {ps qs : List PV} {vs ws : List V}, RepL F μ H ps vs → RepL F μ H qs ws → RepL F μ H (ps ++ qs) (vs ++ ws)
  | _, _, _, _, .nil, s => s
  | _, _, _, _, .cons a b, s => .cons a (RepL.append b s)
theorem RepL.take : ∀ {ps : List PV} {vs : List V} (n : Nat), RepL F μ H ps vs → RepL F μ H (ps.take n) (vs.take n)
  | _, _, 0, _ => .nil
  | _, _, _ + 1, .nil => .nil
  | _, _, n + 1, .cons a b => .cons a (RepL.take n b)
theorem RepL.drop : ∀ {ps : List PV} {vs : List V} (n : Nat), RepL F μ H ps vs → RepL F μ H (ps.drop n) (vs.drop n)
  | _, _, 0, r => r
  | _, _, _ + 1, .nil => .nil
  | _, _, n + 1, .cons _ b => RepL.drop n b
theorem RepL.set {p : PV} {v : V} (r : Rep F μ H p v) : ∀ {ps : List PV} {vs : List V} (i : Nat), RepL F μ H ps vs → RepL F μ H (ps.set i p) (vs.set i v)
  | _, _, _, .nil => .nil
  | _, _, 0, .cons _ b => .cons r b
  | _, _, i + 1, .cons a b => .cons a (RepL.set r i b)
theorem RepL.erase : ∀ {ps : List PV} {vs : List V} (i : Nat), RepL F μ H ps vs → RepL F μ H (ps.eraseIdx i) (vs.eraseIdx i)
  | _, _, _, .nil => .nil
  | _, _, 0, .cons _ b => b
  | _, _, i + 1, .cons a b => .cons a (RepL.erase i b)
theorem RepL.reverse {ps : List PV} {vs : List V} (r : RepL F μ H ps vs) : RepL F μ H ps.reverse vs.reverse := by
  have go : ∀ {ps : List PV} {vs : List V}, RepL F μ H ps vs → RepL F μ H ps.reverse vs.reverse := by
    intro ps
    induction ps with
    | nil => intro vs r; cases r; exact .nil
    | cons p ps ih =>
      intro vs r
      cases r with
      | cons a b =>
        rw [List.reverse_cons, List.reverse_cons]
        exact (ih b).append (.cons a .nil)
  exact go r
theorem RepL.dropLast {ps : List PV} {vs : List V} (r : RepL F μ H ps vs) : RepL F μ H ps.dropLast vs.dropLast := by
  rw [List.dropLast_eq_take, List.dropLast_eq_take, r.length]
  exact r.take _
theorem RepL.rep {ps : List PV} {vs : List V} (r : RepL F μ H ps vs) : ∀ k : Nat, RepL F μ H (List.replicate k ps).flatten (List.replicate k vs).flatten
  | 0 => .nil
  | k + 1 => by
    rw [List.replicate_succ, List.replicate_succ, List.flatten_cons, List.flatten_cons]
    exact r.append (RepL.rep r k)

end

/-! ### the store -/
section
variable (F : Fx)
/-- how an object of the store is borne at a -/
def OR (μ : Zn) (H : Hp) (a : Addr) : AO → Prop
  | .lst xs => ∃ vs, H a = some (.lst vs) ∧ RepL F μ H xs vs
  | .dct kvs => (∃ ks, H a = some (.dK ks) ∧ RepK F μ H kvs ks) ∨ ∃ L, H a = some (DX F.P F.w a L) ∧ RepX F μ H kvs L
  | .ldct kvs => (∃ ob ks, H a = some (.frz ob (.dK ks)) ∧ RepK F μ H kvs ks) ∨ ∃ ob L, H a = some (.frz ob (DX F.P F.w a L)) ∧ RepX F μ H kvs L
  | .ins c fs => ∃ dx vs, H a = some (.ins (F.τ c) dx vs) ∧ H dx = some (.own a) ∧ RepF F μ H fs vs
structure Rel (μ : Zn) (α : AH) (H : Hp) : Prop where
  len : μ.on.length = α.length
  nd : μ.on.Nodup
  obj : ∀ (i : Nat) (a : Addr) (o : AO), μ.on[i]? = some a → α[i]? = some o → OR F μ H a o
  offs : ∀ b ∈ μ.off, b ∉ μ.on ∧ H b ≠ none
end

section
variable {F : Fx} {μ μ' : Zn} {H H' : Hp} {α α' : AH}
theorem Rel.place (r : Rel F μ α H) {i : Nat} {o : AO} (h : α[i]? = some o) : ∃ a, μ.on[i]? = some a ∧ OR F μ H a o := by
  have hi : i < μ.on.length := by rw [r.len]; exact (List.getElem?_eq_some_iff.mp h).1
  exact ⟨μ.on[i], List.getElem?_eq_getElem hi, r.obj i _ o (List.getElem?_eq_getElem hi) h⟩
theorem place_inj {l : List Addr} (nd : l.Nodup) {i j : Nat} {a : Addr} (h : l[i]? = some a) (h' : l[j]? = some a) : i = j :=
  (List.getElem?_inj (List.getElem?_eq_some_iff.mp h).1 nd).mp (h.trans h'.symm)
/-- an object of the store is no tuple, no locked thing, no instance's own dict -/
def Mv : HO → Prop
  | .lst _ => True
  | .dK _ => True
  | .ins _ _ _ => True
  | .ext _ => True
  | .frz _ (.dK _) => True
  | .frz _ (.ext _) => True
  | _ => False
theorem OR.mv {a : Addr} {o : AO} (h : OR F μ H a o) : ∃ x, H a = some x ∧ Mv x := by
  cases o with
  | lst xs => obtain ⟨vs, e, _⟩ := h; exact ⟨_, e, trivial⟩
  | dct kvs =>
    rcases h with ⟨ks, e, _⟩ | ⟨L, e, _⟩
    · exact ⟨_, e, trivial⟩
    · exact ⟨_, e, trivial⟩
  | ldct kvs =>
    rcases h with ⟨ob, ks, e, _⟩ | ⟨ob, L, e, _⟩
    · exact ⟨_, e, trivial⟩
    · exact ⟨_, e, trivial⟩
  | ins c fs => obtain ⟨dx, vs, e, _⟩ := h; exact ⟨_, e, trivial⟩
theorem Rel.mv (r : Rel F μ α H) {a : Addr} (h : a ∈ μ.on) : ∃ x, H a = some x ∧ Mv x := by
  obtain ⟨i, hi⟩ := List.mem_iff_getElem?.mp h
  have hl : i < α.length := by rw [← r.len]; exact (List.getElem?_eq_some_iff.mp hi).1
  exact (r.obj i a α[i] hi (List.getElem?_eq_getElem hl)).mv
theorem Rel.ntup (r : Rel F μ α H) {a : Addr} {vs : List V} (h : H a = some (.tup vs)) : a ∉ μ.on := fun hm => by
  obtain ⟨x, e, m⟩ := r.mv hm
  rw [h] at e; cases e; exact m
theorem Rel.nown (r : Rel F μ α H) {a b : Addr} (h : H a = some (.own b)) : a ∉ μ.on := fun hm => by
  obtain ⟨x, e, m⟩ := r.mv hm
  rw [h] at e; cases e; exact m
theorem Rel.nfrz (r : Rel F μ α H) {a : Addr} {o : Obj} {u : List V} (h : H a = some (.frz o (.lst u))) : a ∉ μ.on := fun hm => by
  obtain ⟨x, e, m⟩ := r.mv hm
  rw [h] at e; cases e; exact m
theorem Le.mk' (r : Rel F μ α H) (pre : ∃ t, μ'.on = μ.on ++ t) (off : μ'.off = μ.off) (fr : ∀ a o, a ∉ μ.on → H a = some o → a ∉ μ'.on ∧ H' a = some o) (fz : ∀ a o u, H a = some (.frz o u) → H' a = some (.frz o u)) : Le F μ H μ' H' :=
  ⟨⟨pre, fun a vs h => (fr a _ (r.ntup h) h).2, fun a o vs h => (fr a _ (r.nfrz h) h).2, fun a o n h => ⟨⟨(fr a o n.1 h).1, by rw [off]; exact n.2⟩, (fr a o n.1 h).2⟩⟩, off, fr, fz⟩
theorem OR.ext (l : Ext F μ H μ' H') {a : Addr} {o : AO} (h : OR F μ H a o) (k : H' a = H a) (hown : ∀ b x, H b = some (.own x) → H' b = some (.own x)) : OR F μ' H' a o := by
  cases o with
  | lst xs => obtain ⟨vs, e, q⟩ := h; exact ⟨vs, k.trans e, q.ext l⟩
  | dct kvs =>
    rcases h with ⟨ks, e, q⟩ | ⟨L, e, q⟩
    · exact .inl ⟨ks, k.trans e, q.ext l⟩
    · exact .inr ⟨L, k.trans e, q.ext l⟩
  | ldct kvs =>
    rcases h with ⟨ob, ks, e, q⟩ | ⟨ob, L, e, q⟩
    · exact .inl ⟨ob, ks, k.trans e, q.ext l⟩
    · exact .inr ⟨ob, L, k.trans e, q.ext l⟩
  | ins c fs => obtain ⟨dx, vs, e, e2, q⟩ := h; exact ⟨dx, vs, k.trans e, hown _ _ e2, q.ext l⟩
theorem OR.nf {a : Addr} {kvs : List (PV × PV)} (h : OR F μ H a (.dct kvs)) : ∀ o u, H a ≠ some (.frz o u) := fun o u e => by
  rcases h with ⟨ks, e1, _⟩ | ⟨L, e1, _⟩ <;> (rw [e1] at e; cases e)
theorem OR.le (l : Le F μ H μ' H') (r : Rel F μ α H) {a : Addr} {o : AO} (h : OR F μ H a o) (k : H' a = H a) : OR F μ' H' a o :=
  h.ext l.ext k fun b x e => (l.fr b _ (r.nown e) e).2
theorem Rel.fewer {on off off' : List Addr} (hs : ∀ a ∈ off', a ∈ off) (r : Rel F ⟨on, off⟩ α H) : Rel F ⟨on, off'⟩ α H :=
  ⟨r.len, r.nd, fun i a o h1 h2 => (r.obj i a o h1 h2).ext (.fewer hs) rfl fun _ _ e => e, fun b hb => r.offs b (hs b hb)⟩
end
end Mw
end
section
set_option Elab.async false
set_option linter.all false
set_option maxRecDepth 100000
set_option maxHeartbeats 1000000
/-! Mw2: results, what a reading says of a denotation, the first judgements. -/
namespace Mw
open PySem PySem.Spec PyProof.Rows L2

/-- what an evaluation comes to: a value; an error of the c-th class with its arguments; nothing that is spoken of -/
inductive Res (β : Type) where
  | ok (a : β) (h : AH)
  | err (c : Nat) (xs : List PV) (h : AH)
  | bad
namespace Res
def bind {β γ : Type} (r : Res β) (f : β → AH → Res γ) : Res γ := match r with
  | .ok a h => f a h
  | .err c xs h => .err c xs h
  | .bad => .bad
@[simp] theorem ok_bind {β γ : Type} (a : β) (h : AH) (f : β → AH → Res γ) : (Res.ok a h).bind f = f a h := rfl
@[simp] theorem err_bind {β γ : Type} (c : Nat) (xs : List PV) (h : AH) (f : β → AH → Res γ) : (Res.err c xs h).bind f = .err c xs h := rfl
@[simp] theorem bad_bind {β γ : Type} (f : β → AH → Res γ) : (Res.bad : Res β).bind f = .bad := rfl
end Res
/-- the locals by slot -/
abbrev Loc' := List (Option PV)

section
variable (F : Fx)
def EnvR (μ : Zn) (H : Hp) (ρ : Loc') (σ : L2.St) : Prop :=
  ρ.length = σ.length ∧ ∀ (i : Nat) (p : PV), ρ[i]? = some (some p) → ∃ v, σ[i]? = some (some v) ∧ Rep F μ H p v
def Post {β γ : Type} (μ : Zn) (H : Hp) (r : Res β) (R : Zn → Hp → β → γ → Prop) (Q : γ → Hp → Prop) : Prop :=
  match r with
  | .ok p α' => ∀ μ' H' v, Le F μ H μ' H' → Rel F μ' α' H' → R μ' H' p v → Q v H'
  | .err _ _ _ => False
  | .bad => False
def At {β γ : Type} (μ : Zn) (ρ : Loc') (σ : L2.St) (α : AH) (H : Hp) (r : Res β) (R : Zn → Hp → β → γ → Prop) (Q : γ → Hp → Prop) : Prop :=
  Rel F μ α H ∧ EnvR F μ H ρ σ ∧ Post F μ H r R Q
/-- a reading by a denotation -/
def tR {β γ : Type} (R : Zn → Hp → β → γ → Prop) (m : Loc' → AH → Res β)   : L2.St → Hp → (γ → Hp → Prop) → Prop :=
  fun σ H Q => ∃ μ ρ α, At F μ ρ σ α H (m ρ α) R Q
abbrev Den := Loc' → AH → Res PV
abbrev tE (m : Den) : TE := tR F (Rep F) m
abbrev tAs (m : Loc' → AH → Res (List PV)) : TA := tR F (RepL F) m
abbrev tB' (m : Loc' → AH → Res Bool) : TT := tR F (fun _ _ b c => b = c) m
end

section
variable {F : Fx} {μ μ' : Zn} {H H' : Hp} {α α' : AH} {ρ : Loc'} {σ : L2.St}
theorem EnvR.le (l : Le F μ H μ' H') (e : EnvR F μ H ρ σ) : EnvR F μ' H' ρ σ :=
  ⟨e.1, fun i p h => let ⟨v, h1, h2⟩ := e.2 i p h; ⟨v, h1, h2.le l⟩⟩
theorem EnvR.set {p : PV} {v : V} {i : Nat} (e : EnvR F μ H ρ σ) (r : Rep F μ H p v) : EnvR F μ H (ρ.set i (some p)) (σ.set i (some v)) := by
  refine ⟨by simp [e.1], fun j q h => ?_⟩
  by_cases hj : i = j
  · subst hj
    by_cases hl : i < ρ.length
    · rw [List.getElem?_set_self hl] at h
      cases h
      exact ⟨v, List.getElem?_set_self (by rw [← e.1]; exact hl), r⟩
    · rw [List.getElem?_eq_none (by simpa using hl)] at h; cases h
  · rw [List.getElem?_set_ne hj] at h ⊢
    exact e.2 j q h
theorem EnvR.wipe {vs : List Nat} (e : EnvR F μ H ρ σ) : ∀ {ρ' : Loc'}, ρ'.length = ρ.length → (∀ i p, ρ'[i]? = some (some p) → ρ[i]? = some (some p) ∧ i ∉ vs) → EnvR F μ H ρ' (L2.wipe σ vs) := by
  intro ρ' hl h
  refine ⟨by rw [hl, L2.wipe_length, e.1], fun i p hp => ?_⟩
  obtain ⟨h1, h2⟩ := h i p hp
  obtain ⟨v, h3, h4⟩ := e.2 i p h1
  refine ⟨v, ?_, h4⟩
  rw [L2.wipe_out h2]; exact h3

theorem Post.ok {β γ : Type} {R : Zn → Hp → β → γ → Prop} {Q : γ → Hp → Prop} {r : Res β} {p : β} (h : Post F μ H r R Q) (e : r = .ok p α') : ∀ μ' H' v, Le F μ H μ' H' → Rel F μ' α' H' → R μ' H' p v → Q v H' := by
  subst e; exact h
theorem Post.from {β γ : Type} {R : Zn → Hp → β → γ → Prop} {Q : γ → Hp → Prop} {r : Res β} (l : Le F μ H μ' H') (h : Post F μ H r R Q) : Post F μ' H' r R Q := by
  cases r with
  | ok p a => exact fun μ'' H'' v l' r' q => h μ'' H'' v (l.trans l') r' q
  | err c xs a => exact h
  | bad => exact h
theorem Post.imp {β γ : Type} {R : Zn → Hp → β → γ → Prop} {Q Q' : γ → Hp → Prop} {r : Res β} (h : Post F μ H r R Q) (hi : ∀ v H', Q v H' → Q' v H') : Post F μ H r R Q' := by
  cases r with
  | ok p a => exact fun μ'' H'' v l' r' q => hi _ _ (h μ'' H'' v l' r' q)
  | err c xs a => exact h
  | bad => exact h
/-- first m, then n -/
theorem At.bind {β γ δ ε : Type} {R1 : Zn → Hp → β → γ → Prop} {R2 : Zn → Hp → δ → ε → Prop} {r : Res β} {n : β → AH → Res δ} {Q : ε → Hp → Prop} (h : At F μ ρ σ α H (r.bind n) R2 Q) :
    At F μ ρ σ α H r R1 (fun v H1 => ∃ p μ1 α1, Le F μ H μ1 H1 ∧ R1 μ1 H1 p v ∧ At F μ1 ρ σ α1 H1 (n p α1) R2 Q) := by
  obtain ⟨rel, env, post⟩ := h
  refine ⟨rel, env, ?_⟩
  cases r with
  | ok p α1 => exact fun μ1 H1 v l r1 q => ⟨p, μ1, α1, l, q, r1, env.le l, Post.from l post⟩
  | err c xs a => exact post
  | bad => exact post

/-! ### weaker readings -/
variable {X : Cx} {e : Expr} {st : Stmt} {sts : List Stmt}
theorem pe_imp {t t' : TE} (h : PE X e t) (hi : ∀ σ H Q, t' σ H Q → t σ H Q) : PE X e t' := ⟨fun pins s σ H Q I q => h.run pins s σ H Q I (hi σ H Q q)⟩
theorem pt_imp {t t' : TT} (h : PT X e t) (hi : ∀ σ H Q, t' σ H Q → t σ H Q) : PT X e t' := ⟨fun pins s σ H Q I q => h.run pins s σ H Q I (hi σ H Q q)⟩
theorem pw_imp {t t' : TT} (h : PW X e t) (hi : ∀ σ H Q, t' σ H Q → t σ H Q) : PW X e t' := ⟨fun wh pins s σ H Q I q => h.run wh pins s σ H Q I (hi σ H Q q)⟩
theorem pa_imp {es : List Expr} {t t' : TA} (h : PA X es t) (hi : ∀ σ H Q, t' σ H Q → t σ H Q) : PA X es t' := ⟨fun pos pins s σ H Q I q => h.run pos pins s σ H Q I (hi σ H Q q)⟩
theorem ps_imp {t t' : TS} (h : PS X st t) (hi : ∀ D σ H, t' D σ H → t D σ H) : PS X st t' := ⟨fun pins s σ H D I q => h.run pins s σ H D I (hi D σ H q)⟩
theorem pss_imp {t t' : TS} (h : PSs X sts t) (hi : ∀ D σ H, t' D σ H → t D σ H) : PSs X sts t' := ⟨fun pins s σ H D I q => h.run pins s σ H D I (hi D σ H q)⟩
theorem op_imp {f : Value → Value → Sem Value} {r r' : R2} (h : OpR X f r) (hi : ∀ x y H Q, r' x y H Q → r x y H Q) : OpR X f r' :=
  fun pins s σ H x y v u Q I rx ry q => h pins s σ H x y v u Q I rx ry (hi x y H Q q)
theorem cr_imp {f : Value} {r r' : List V → Hp → VK → Prop} (h : CallR X f r) (hi : ∀ xs H Q, r' xs H Q → r xs H Q) : CallR X f r' :=
  fun pins s σ H vs us Q I rx q => h pins s σ H vs us Q I rx (hi vs H Q q)

/-! ### new things -/
theorem fresh_non (r : Rel F μ α H) {p : Addr} (hp : H p = none) : p ∉ μ.on := fun hm => by
  obtain ⟨x, e, _⟩ := r.mv hm
  rw [hp] at e; cases e
theorem upd_keep {p : Addr} {o : HO} (hp : H p = none) : ∀ a x, H a = some x → upd H p o a = some x := fun a x e => by
  rw [upd_ne (ne_of_none e hp)]; exact e
theorem upd_some {p b : Addr} {o : HO} (h : H b ≠ none) : upd H p o b ≠ none := by
  by_cases e : b = p
  · subst e; rw [upd_same]; simp
  · rw [upd_ne e]; exact h
/-- a new thing at p, not of the store -/
theorem new_step (r : Rel F μ α H) {p : Addr} {o : HO} (hp : H p = none) : Le F μ H μ (upd H p o) ∧ Rel F μ α (upd H p o) := by
  have hn := fresh_non r hp
  have l : Le F μ H μ (upd H p o) := Le.mk' r ⟨[], by simp⟩ rfl (fun a x n e => ⟨n, upd_keep hp a x e⟩) fun a o u e => upd_keep hp a _ e
  exact ⟨l, r.len, r.nd, fun i a ob h1 h2 => (r.obj i a ob h1 h2).le l r (upd_ne fun e => hn (e ▸ List.mem_of_getElem? h1)), fun b hb => ⟨(r.offs b hb).1, upd_some (r.offs b hb).2⟩⟩
/-- .. and put by -/
theorem by_step {on off : List Addr} (r : Rel F ⟨on, off⟩ α H) {p : Addr} {o : HO} (hp : H p = none) :
    Ext F ⟨on, off⟩ H ⟨on, p :: off⟩ (upd H p o) ∧ Rel F ⟨on, p :: off⟩ α (upd H p o) := by
  have hn := fresh_non r hp
  obtain ⟨l, _⟩ := new_step r hp
  have nx : ∀ a x, Zn.no ⟨on, off⟩ a → H a = some x → Zn.no ⟨on, p :: off⟩ a := fun a x n e => ⟨n.1, fun hm => by
    rcases List.mem_cons.mp hm with h | h
    · rw [h, hp] at e; cases e
    · exact n.2 h⟩
  have ex : Ext F ⟨on, off⟩ H ⟨on, p :: off⟩ (upd H p o) := by
    exact ⟨⟨[], by simp⟩, l.ext.tup, l.ext.scr, fun a x n e => ⟨nx a x n e, upd_keep hp a x e⟩⟩
  refine ⟨ex, r.len, r.nd, fun i a ob h1 h2 => (r.obj i a ob h1 h2).ext ex (upd_ne fun e => hn (e ▸ List.mem_of_getElem? h1)) fun b x e => upd_keep hp b _ e, fun b hb => ?_⟩
  rcases List.mem_cons.mp hb with e | hb
  · subst e; exact ⟨hn, by rw [upd_same]; simp⟩
  · exact ⟨(r.offs b hb).1, upd_some (r.offs b hb).2⟩
/-- what was put by joins the store -/
theorem join_step {H0 : Hp} {μ0 : Zn} {α0 : AH} {on off : List Addr} (r0 : Rel F μ0 α0 H0) {a : Addr} {ao : AO} (l : Le F μ0 H0 ⟨on, off⟩ H) (r : Rel F ⟨on, a :: off⟩ α H) (h0 : H0 a = none) (hn : a ∉ on) (hna : a ∉ off)
    (ho : OR F ⟨on, a :: off⟩ H a ao) : Le F μ0 H0 ⟨on ++ [a], off⟩ H ∧ Rel F ⟨on ++ [a], off⟩ (α ++ [ao]) H := by
  have rl : on.length = α.length := r.len
  have r' : Rel F ⟨on ++ [a], off⟩ (α ++ [ao]) H := by
    refine ⟨by simp [rl], ?_, fun i b o h1 h2 => ?_, fun b hb => ?_⟩
    · show (on ++ [a]).Nodup
      rw [List.nodup_append]
      exact ⟨r.nd, by simp, fun x hx y hy e => by simp at hy; subst hy; subst e; exact hn hx⟩
    · have h1 : (on ++ [a])[i]? = some b := h1
      by_cases hi : i < on.length
      · rw [List.getElem?_append_left hi] at h1
        rw [List.getElem?_append_left (by rw [← rl]; exact hi)] at h2
        exact (r.obj i b o h1 h2).ext .join rfl fun _ _ e => e
      · have hi' : i = on.length := by
          have := (List.getElem?_eq_some_iff.mp h1).1
          simp at this; omega
        subst hi'
        rw [List.getElem?_concat_length] at h1
        rw [rl, List.getElem?_concat_length] at h2
        cases h1; cases h2; exact ho.ext .join rfl fun _ _ e => e
    · have hb : b ∈ off := hb
      obtain ⟨h1, h2⟩ := r.offs b (List.mem_cons_of_mem _ hb)
      refine ⟨fun hm => ?_, h2⟩
      rcases List.mem_append.mp hm with hm | hm
      · exact h1 hm
      · simp at hm; subst hm; exact hna hb
  refine ⟨Le.mk' r0 ?_ l.off (fun b o n e => ?_) l.fz, r'⟩
  · obtain ⟨t, e⟩ := l.ext.pre
    exact ⟨t ++ [a], by show on ++ [a] = _; rw [show on = μ0.on ++ t from e, List.append_assoc]⟩
  · obtain ⟨h1, h2⟩ := l.fr b o n e
    refine ⟨fun hm => ?_, h2⟩
    rcases List.mem_append.mp hm with hm | hm
    · exact h1 hm
    · simp at hm; subst hm; rw [h0] at e; cases e
/-- an object of the store is changed -/
theorem put_step (r : Rel F μ α H) {i : Nat} {a : Addr} {o' : HO} {ao : AO} (hi : μ.on[i]? = some a) (hnf : ∀ o u, H a ≠ some (.frz o u))
    (ho : Le F μ H μ (upd H a o') → OR F μ (upd H a o') a ao) : Le F μ H μ (upd H a o') ∧ Rel F μ (α.set i ao) (upd H a o') := by
  have ham : a ∈ μ.on := List.mem_of_getElem? hi
  have l : Le F μ H μ (upd H a o') := Le.mk' r ⟨[], by simp⟩ rfl (fun b x n e => ⟨n, by rw [upd_ne (fun z => n (by rw [z]; exact ham))]; exact e⟩) fun b o u e => by rw [upd_ne (fun z => hnf o u (by rw [← z]; exact e))]; exact e
  refine ⟨l, by simp [r.len], r.nd, fun j b ob h1 h2 => ?_, fun b hb => ⟨(r.offs b hb).1, upd_some (r.offs b hb).2⟩⟩
  by_cases hj : j = i
  · subst hj
    rw [hi] at h1; cases h1
    have hl : j < α.length := by rw [← r.len]; exact (List.getElem?_eq_some_iff.mp hi).1
    rw [List.getElem?_set_self hl] at h2
    cases h2
    exact ho l
  · rw [List.getElem?_set_ne (fun e => hj e.symm)] at h2
    exact (r.obj j b ob h1 h2).le l r (upd_ne fun e => hj (place_inj r.nd (e ▸ h1) hi))
end
end Mw
end
section
set_option Elab.async false
set_option linter.all false
set_option maxRecDepth 100000
/-! Mw3: the operations on pure values, the small language, what its terms denote. -/
namespace Mw
open PySem PySem.Spec PyProof.Rows L2

/-! ### values as data -/
mutual
def toP : PV → Option PyData
  | .non => some .none
  | .bl b => some (.bool b)
  | .int i => some (.int i)
  | .str x => some (.str x)
  | .tup xs => (toPs xs).map .tuple
  | .fl xs => (toPs xs).map .list
  | .scr xs => (toPs xs).map .list
  | _ => none
def toPs : List PV → Option (List PyData)
  | [] => some []
  | p :: ps => (toP p).bind fun d => (toPs ps).map (d :: ·)
end
/-- .. a list of the store, too -/
def toA (α : AH) (p : PV) : Option PyData :=
  match p with
  | .ref k => match α[k]? with
    | some (.lst xs) => (toPs xs).map .list
    | _ => none
  | p => toP p
/-- data that may be compared -/
def toS (α : AH) (p : PV) : Option PyData := (toA α p).filter SeqAt.shaped
/-- a datum for sorting -/
def enc (p : PV) : PyData := (toP p).getD .none

/-- the items of a list that may be joined to others -/
def itemsL (α : AH) (p : PV) : Option (List PV) :=
  match p with
  | .fl xs => some xs
  | .ref k => match α[k]? with
    | some (.lst xs) => some xs
    | _ => none
  | _ => none
/-- the items of a list or a tuple that is read -/
def itemsS (α : AH) (p : PV) : Option (List PV) :=
  match p with
  | .tup xs => some xs
  | .scr xs => some xs
  | p => itemsL α p
/-- the pairs of a dict that is read -/
def pairsD (α : AH) (p : PV) : Option (List (PV × PV)) :=
  match p with
  | .fd kvs => some kvs
  | .ref k => match α[k]? with
    | some (.dct kvs) => some kvs
    | _ => none
  | _ => none

/-- a key's mode: false: an int or a text; true: a tuple -/
def kmode (k : PV) : Option Bool :=
  match k with
  | .int _ => some false
  | .str _ => some false
  | .tup xs => match nkOf (.tup xs) with
    | some q => if q.depth ≤ 8 then some true else none
    | none => none
  | _ => none
/-- the key may be asked of these pairs -/
def kok (kvs : List (PV × PV)) (k : PV) : Bool :=
  match kmode k with
  | none => false
  | some m => match kvs with
    | [] => true
    | e :: _ => kmode e.1 == some m
def dfind (kvs : List (PV × PV)) (k : PV) : Option PV := (kvs.find? fun e => decide (nkOf e.1 = nkOf k)).map (·.2)
def dput (kvs : List (PV × PV)) (k v : PV) : List (PV × PV) :=
  if (dfind kvs k).isSome then kvs.map fun e => if nkOf e.1 = nkOf k then (e.1, v) else e else kvs ++ [(k, v)]

def truth (p : PV) (α : AH) : Res Bool :=
  match p with
  | .bl b => .ok b α
  | _ => .bad
def ofO {β : Type} (o : Option β) (α : AH) : Res β :=
  match o with
  | some b => .ok b α
  | none => .bad
/-- go on where it holds -/
def need {β : Type} (c : Bool) (r : Res β) : Res β := match c with
  | true => r
  | false => .bad
@[simp] theorem need_true {β : Type} (r : Res β) : need true r = r := rfl
@[simp] theorem ofO_some {β : Type} (b : β) (α : AH) : ofO (some b) α = .ok b α := rfl

inductive Bop where | add | sub | mul | fdiv | mod | pow
  deriving DecidableEq
inductive Cop where | eq | ne | lt | le | gt | ge | isin | notin | isn | notn
  deriving DecidableEq
inductive B1 where | len | list | tuple | sorted | all | any | repr | str
  deriving DecidableEq
inductive B2 where | min | max
  deriving DecidableEq
/-- a method of a built-in type -/
inductive M where | pop | append | setdefault
  deriving DecidableEq

def cutP (xs : List PV) (lo hi : Option Int) : List PV := (xs.drop (HT.sIx xs.length 0 lo)).take (HT.sIx xs.length xs.length hi - HT.sIx xs.length 0 lo)
def lineOk (n : Nat) : Bool := decide (n ≤ sizeLine)

def addP (p q : PV) (α : AH) : Res PV :=
  match p, q with
  | .int i, .int j => .ok (.int (i + j)) α
  | .str x, .str y => need (lineOk (x.length + y.length)) (.ok (.str (x ++ y)) α)
  | .tup xs, .tup ys => need (lineOk (xs.length + ys.length)) (.ok (.tup (xs ++ ys)) α)
  | p, q => match itemsL α p, itemsL α q with
    | some xs, some ys => need (lineOk (xs.length + ys.length)) (.ok (.fl (xs ++ ys)) α)
    | _, _ => .bad
def mulP (p q : PV) (α : AH) : Res PV :=
  match p, q with
  | .int i, .int j => need (decide ((-(2 ^ 64) < i ∧ i < 2 ^ 64) ∨ (-(2 ^ 64) < j ∧ j < 2 ^ 64))) (.ok (.int (i * j)) α)
  | p, .int k => match itemsL α p with
    | some xs => need (decide (-(2 ^ 63) ≤ k ∧ k < 2 ^ 63) && lineOk (xs.length * k.toNat)) (.ok (.fl (List.replicate k.toNat xs).flatten) α)
    | none => .bad
  | _, _ => .bad
/-- two ints -/
def intsP (c : Int → Int → Bool) (f : Int → Int → Int) (p q : PV) (α : AH) : Res PV :=
  match p, q with
  | .int i, .int j => need (c i j) (.ok (.int (f i j)) α)
  | _, _ => .bad
def bop (o : Bop) (p q : PV) (α : AH) : Res PV :=
  match o with
  | .add => addP p q α
  | .sub => intsP (fun _ _ => true) (fun i j => i - j) p q α
  | .mul => mulP p q α
  | .fdiv => intsP (fun _ j => decide (0 < j ∧ j < 1073741824)) (fun i j => i / j) p q α
  | .mod => intsP (fun _ j => decide (0 < j)) (fun i j => i % j) p q α
  | .pow => intsP (fun i j => decide (0 ≤ j ∧ j ≤ 1000000 ∧ i.natAbs < 2 ^ 64)) (fun i j => i ^ j.toNat) p q α

def scalP : PV → PV → Bool
  | .non, .non => true | .non, .int _ => true | .int _, .non => true | .non, .bl _ => true | .bl _, .non => true | .non, .str _ => true | .str _, .non => true
  | .int _, .int _ => true | .bl _, .bl _ => true | .str _, .str _ => true | .int _, .str _ => true | .str _, .int _ => true | .bl _, .str _ => true | .str _, .bl _ => true
  | _, _ => false
def eqP (p q : PV) (α : AH) : Res Bool :=
  match scalP p q with
  | true => .ok (decide (p = q)) α
  | false => match toS α p, toS α q with
    | some d, some e => .ok (PyData.eqv d e) α
    | _, _ => .bad
/-- x in c -/
def inP (p c : PV) (α : AH) : Res Bool :=
  match pairsD α c with
  | some kvs => need (kok kvs p) (.ok (dfind kvs p).isSome α)
  | none => match c, p with
    | .str y, .str x => .ok (!(Builtin.Str.occurrences y x 0 y.length 1).isEmpty) α
    | c, p => match itemsS α c, toS α c, toS α p with
      | some _, some (.list ds), some d => .ok (ds.any fun z => PyData.eqv z d) α
      | some _, some (.tuple ds), some d => .ok (ds.any fun z => PyData.eqv z d) α
      | _, _, _ => .bad
/-- two ints compared -/
def cmpI (f : Int → Int → Bool) (p q : PV) (α : AH) : Res PV :=
  match p, q with
  | .int i, .int j => .ok (.bl (f i j)) α
  | _, _ => .bad
def cop (o : Cop) (p q : PV) (α : AH) : Res PV :=
  match o with
  | .eq => (eqP p q α).bind fun b α => .ok (.bl b) α
  | .ne => (eqP p q α).bind fun b α => .ok (.bl (!b)) α
  | .isin => (inP p q α).bind fun b α => .ok (.bl b) α
  | .notin => (inP p q α).bind fun b α => .ok (.bl (!b)) α
  | .isn => match q with
    | .non => .ok (.bl (decide (p = .non))) α
    | _ => .bad
  | .notn => match q with
    | .non => .ok (.bl (!decide (p = .non))) α
    | _ => .bad
  | .lt => cmpI (fun i j => decide (i < j)) p q α
  | .le => cmpI (fun i j => decide (i ≤ j)) p q α
  | .gt => cmpI (fun i j => decide (j < i)) p q α
  | .ge => cmpI (fun i j => decide (j ≤ i)) p q α

def ixP (p i : PV) (α : AH) : Res PV :=
  match pairsD α p with
  | some kvs => need (kok kvs i) (ofO (dfind kvs i) α)
  | none => match p, i with
    | .str x, .int j => need (lineOk x.length) (match atI x.cps.toList j with
      | some c => .ok (.str ⟨#[c]⟩) α
      | none => .bad)
    | p, .int j => match itemsS α p with
      | some xs => ofO (atI xs j) α
      | none => .bad
    | _, _ => .bad
def slP (p : PV) (lo hi : Option Int) (α : AH) : Res PV :=
  match p with
  | .tup xs => .ok (.tup (cutP xs lo hi)) α
  | p => match itemsS α p with
    | some xs => .ok (.fl (cutP xs lo hi)) α
    | none => .bad
def revP (p : PV) (α : AH) : Res PV :=
  match p with
  | .tup _ => .bad
  | p => match itemsS α p with
    | some xs => .ok (.fl xs.reverse) α
    | none => .bad
/-- bools -/
def blsOf : List PV → Option (List Bool)
  | [] => some []
  | .bl b :: ps => (blsOf ps).map (b :: ·)
  | _ :: _ => none
/-- they may be sorted -/
def sortOk (ps : List PV) : Bool :=
  (ps.all fun p => (toP p).isSome && decide ((enc p).depth ≤ 64)) && (ps.all fun p => ps.all fun q => PySem.W.alike (enc p) (enc q)) &&
    ((ps.all fun p => match p with | .tup (_ :: _) => true | _ => false) || (ps.all fun p => match p with | .non => false | .tup _ => false | _ => true)) && lineOk ps.length
def sortP (ps : List PV) : List PV := ps.mergeSort (PySem.W.dataLe false enc)
/-- its text may be asked for -/
def reprOk (d : PyData) : Bool := !d.hasDict && d.showable && decide (d.depth ≤ 64) && lineOk d.shown.length
def b1 (f : B1) (p : PV) (α : AH) : Res PV :=
  match f with
  | .len => match pairsD α p with
    | some kvs => .ok (.int kvs.length) α
    | none => match p with
      | .str x => need (lineOk x.length) (.ok (.int x.length) α)
      | p => match itemsS α p with
        | some xs => .ok (.int xs.length) α
        | none => .bad
  | .list => match itemsS α p with
    | some xs => .ok (.fl xs) α
    | none => .bad
  | .tuple => match itemsS α p with
    | some xs => .ok (.tup xs) α
    | none => .bad
  | .sorted => match itemsS α p with
    | some xs => need (sortOk xs) (.ok (.fl (sortP xs)) α)
    | none => .bad
  | .all => match p with
    | .tup _ => .bad
    | p => match (itemsS α p).bind blsOf with
      | some bs => .ok (.bl (bs.all id)) α
      | none => .bad
  | .any => match p with
    | .tup _ => .bad
    | p => match (itemsS α p).bind blsOf with
      | some bs => .ok (.bl (bs.any id)) α
      | none => .bad
  | .repr => match toA α p with
    | some d => need (reprOk d) (.ok (.str d.shown) α)
    | none => .bad
  | .str => match p with
    | .int i => need (decide (i.natAbs.log2 < 1920)) (.ok (.str (toString i)) α)
    | _ => .bad
def b2 (f : B2) (p q : PV) (α : AH) : Res PV :=
  match f with
  | .min => intsP (fun _ _ => true) (fun i j => if j < i then j else i) p q α
  | .max => intsP (fun _ _ => true) (fun i j => if j > i then j else i) p q α
/-- a list of the store -/
def lstAt (α : AH) (p : PV) : Option (Nat × List PV) :=
  match p with
  | .ref k => match α[k]? with
    | some (.lst xs) => some (k, xs)
    | _ => none
  | _ => none
def dctAt (α : AH) (p : PV) : Option (Nat × List (PV × PV)) :=
  match p with
  | .ref k => match α[k]? with
    | some (.dct xs) => some (k, xs)
    | _ => none
  | _ => none
def M.ty : M → String
  | .pop => "list"
  | .append => "list"
  | .setdefault => "dict"
/-- a value of a built-in type that has methods -/
def isTy (T : String) (p : PV) (α : AH) : Bool :=
  if T = "list" then (lstAt α p).isSome else if T = "dict" then (dctAt α p).isSome else false
/-- o.m(..) -/
def mP (m : M) (p : PV) (ps : List PV) (α : AH) : Res PV :=
  match m, ps with
  | .pop, [] => match lstAt α p with
    | some (k, xs) => match xs[xs.length - 1]? with
      | some y => .ok y (α.set k (.lst xs.dropLast))
      | none => .bad
    | none => .bad
  | .pop, [.int i] => match lstAt α p with
    | some (k, xs) => need (decide (-(2 ^ 63) ≤ i ∧ i < 2 ^ 63)) (match seqIndex? i xs.length with
      | some j => match xs[j]? with
        | some y => .ok y (α.set k (.lst (xs.eraseIdx j)))
        | none => .bad
      | none => .bad)
    | none => .bad
  | .append, [q] => match lstAt α p with
    | some (k, xs) => need (decide (xs.length < sizeLine)) (.ok .non (α.set k (.lst (xs ++ [q]))))
    | none => .bad
  | .setdefault, [q, r] => match dctAt α p with
    | some (k, kvs) => need (kok kvs q && decide (kmode q = some true) && decide (kvs.length < sizeLine)) (match dfind kvs q with
      | some v => .ok v α
      | none => .ok r (α.set k (.dct (kvs ++ [(q, r)]))))
    | none => .bad
  | _, _ => .bad
/-- o[i] = v -/
def setP (p i v : PV) (α : AH) : Res Unit :=
  match dctAt α p with
  | some (k, kvs) => need (kok kvs i && decide (kvs.length < sizeLine)) (.ok () (α.set k (.dct (dput kvs i v))))
  | none => match lstAt α p, i with
    | some (k, xs), .int j => match ixN xs.length j with
      | some n => .ok () (α.set k (.lst (xs.set n v)))
      | none => .bad
    | _, _ => .bad
/-- a new thing joins the store -/
def joinP (p : PV) (α : AH) : Res PV :=
  match p with
  | .fl xs => .ok (.ref α.length) (α ++ [.lst xs])
  | .fd kvs => .ok (.ref α.length) (α ++ [.dct kvs])
  | p => .ok p α

/-! ### the small language -/
mutual
inductive E where
  | var (i : Nat) | non | bl (b : Bool) | int (i : Int) | str (s : Str)
  | tup (es : Es) | lst (es : Es) | dct (ps : Ps)
  | bin (o : Bop) (a b : E) | cmp (o : Cop) (a b : E) | chain (o p : Cop) (a b c : E)
  | neg (a : E) | and (a b : E) | or (a b : E) | not (a : E) | ife (c a b : E)
  | ix (a i : E) | sl (a : E) (lo hi : OE) | rev (a : E)
  | b1 (f : B1) (a : E) | b2 (f : B2) (a b : E)
  | mth (m : M) (o : E) (es : Es)
  | call (f : Nat) (es : Es) | callK (f n : Nat) (ks : List Str) (perm : List Nat) (es kes : Es)
  | comp (t : T) (own : List Nat) (it : It) (cond : OE) (elt : E)
  | join (a : E)
inductive OE where
  | none | some (a : E)
inductive Es where
  | nil | cons (a : E) (es : Es)
inductive Ps where
  | nil | cons (k v : E) (ps : Ps)
inductive T where
  | var (i : Nat) | tup (ts : Ts) | sub (o i : E)
inductive Ts where
  | nil | cons (t : T) (ts : Ts)
inductive It where
  | val (e : E) | range1 (e : E) | range2 (a b : E) | values (e : E)
end
mutual
inductive S where
  | pass | brk | cont
  | expr (e : E) | asg (t : T) (e : E) | par (is : List Nat) (es : Es) | aug (i : Nat) (o : Bop) (e : E)
  | ret (e : E) | retN | ife (c : E) (a b : Ss) | whl (c : E) (b : Ss) | loop (t : T) (it : It) (b : Ss)
inductive Ss where
  | nil | cons (s : S) (ss : Ss)
end

/-! ### what the terms denote -/
/-- the source of a walk, and an object of the store that has to stay as it is (a dict is locked for the while) -/
structure Src where
  items : List PV
  src : Option (Nat × AO)
def Src.still (s : Src) (α : AH) : Bool := match s.src with
  | none => true
  | some (k, o) => decide (α[k]? = some o)
/-- at its beginning -/
def Src.lock (s : Src) (α : AH) : AH := match s.src with
  | some (k, .ldct kvs) => α.set k (.ldct kvs)
  | _ => α
/-- behind the walk -/
def Src.done {β : Type} (s : Src) (b : β) (α : AH) : Res β := match s.src with
  | some (k, .ldct kvs) => need (decide (α[k]? = some (.ldct kvs))) (.ok b (α.set k (.dct kvs)))
  | _ => .ok b α
def srcOf (p : PV) (α : AH) : Res Src :=
  match p with
  | .tup xs => .ok ⟨xs, none⟩ α
  | .fl xs => .ok ⟨xs, none⟩ α
  | .scr xs => .ok ⟨xs, none⟩ α
  | .ref k => match α[k]? with
    | some (.lst xs) => .ok ⟨xs, some (k, .lst xs)⟩ α
    | _ => .bad
  | _ => .bad
def srcVals (p : PV) (α : AH) : Res Src :=
  match dctAt α p with
  | some (k, kvs) => .ok ⟨kvs.map (·.2), some (k, .ldct kvs)⟩ α
  | none => .bad
def rangeP (a b : Int) : List PV := (List.range (b - a).toNat).map fun i => .int (a + (i : Nat))
def srcRange (a b : PV) (α : AH) : Res Src :=
  match a, b with
  | .int i, .int j => need (decide (-(2 ^ 62) ≤ i ∧ i < 2 ^ 62 ∧ -(2 ^ 62) ≤ j ∧ j < 2 ^ 62)) (.ok ⟨rangeP i j, none⟩ α)
  | _, _ => .bad
/-- a comprehension's turns -/
def turns (still : AH → Bool) (step : PV → AH → Res (Option PV)) : List PV → AH → Res (List PV)
  | [], α => need (still α) (.ok [] α)
  | x :: r, α => need (still α) ((step x α).bind fun o α1 => (turns still step r α1).bind fun ys α2 => .ok (match o with
    | some y => y :: ys
    | none => ys) α2)
/-- the slots of a comprehension's own names forgotten -/
def wipeP (ρ : Loc') : List Nat → Loc'
  | [] => ρ
  | v :: vs => (wipeP ρ vs).set v none

/-- the parameters' values among those of the keywords -/
def permP {β : Type} (perm : List Nat) (qs : List β) : List β := perm.filterMap fun i => qs[i]?
abbrev Fn := Nat → List PV → AH → Res PV
def partO (p : PV) (α : AH) : Res (Option Int) := match p with
  | .int i => .ok (some i) α
  | _ => .bad
mutual
def dE (F : Fn) : E → Loc' → AH → Res PV
  | .var i, ρ, α => match ρ[i]? with
    | some (some p) => .ok p α
    | _ => .bad
  | .non, _, α => .ok .non α
  | .bl b, _, α => .ok (.bl b) α
  | .int i, _, α => .ok (.int i) α
  | .str s, _, α => .ok (.str s) α
  | .tup es, ρ, α => (dEs F es ρ α).bind fun ps α => need (lineOk ps.length) (.ok (.tup ps) α)
  | .lst es, ρ, α => (dEs F es ρ α).bind fun ps α => need (lineOk ps.length) (.ok (.fl ps) α)
  | .dct ps, ρ, α => (dPs F ps ρ α).bind fun kvs α => need ((kvs.all fun e => kmode e.1 == some false) && decide (kvs.length ≤ 15)) (.ok (.fd (kvs.foldl (fun acc e => dput acc e.1 e.2) [])) α)
  | .bin o a b, ρ, α => (dE F a ρ α).bind fun p α => (dE F b ρ α).bind fun q α => bop o p q α
  | .cmp o a b, ρ, α => (dE F a ρ α).bind fun p α => (dE F b ρ α).bind fun q α => cop o p q α
  | .chain o o' a b c, ρ, α => (dE F a ρ α).bind fun p α => (dE F b ρ α).bind fun q α => (cop o p q α).bind fun z α => (truth z α).bind fun t α =>
      match t with
      | true => (dE F c ρ α).bind fun r α => cop o' q r α
      | false => .ok (.bl false) α
  | .neg a, ρ, α => (dE F a ρ α).bind fun p α => match p with
    | .int i => .ok (.int (-i)) α
    | _ => .bad
  | .and a b, ρ, α => (dE F a ρ α).bind fun p α => (truth p α).bind fun t α => match t with
    | true => dE F b ρ α
    | false => .ok (.bl false) α
  | .or a b, ρ, α => (dE F a ρ α).bind fun p α => (truth p α).bind fun t α => match t with
    | true => .ok (.bl true) α
    | false => dE F b ρ α
  | .not a, ρ, α => (dE F a ρ α).bind fun p α => (truth p α).bind fun t α => .ok (.bl (!t)) α
  | .ife c a b, ρ, α => (dE F c ρ α).bind fun p α => (truth p α).bind fun t α => match t with
    | true => dE F a ρ α
    | false => dE F b ρ α
  | .ix a i, ρ, α => (dE F a ρ α).bind fun p α => (dE F i ρ α).bind fun q α => ixP p q α
  | .sl a lo hi, ρ, α => (dE F a ρ α).bind fun p α => (dO F lo ρ α).bind fun l α => (dO F hi ρ α).bind fun h α => slP p l h α
  | .rev a, ρ, α => (dE F a ρ α).bind fun p α => revP p α
  | .b1 f a, ρ, α => (dE F a ρ α).bind fun p α => b1 f p α
  | .b2 f a b, ρ, α => (dE F a ρ α).bind fun p α => (dE F b ρ α).bind fun q α => b2 f p q α
  | .mth m o es, ρ, α => (dE F o ρ α).bind fun p α => need (isTy m.ty p α) ((dEs F es ρ α).bind fun ps α => mP m p ps α)
  | .call f es, ρ, α => (dEs F es ρ α).bind fun ps α => F f ps α
  | .callK f n ks perm es kes, ρ, α => (dEs F es ρ α).bind fun ps α => (dEs F kes ρ α).bind fun qs α => need (decide (ps.length = n ∧ qs.length = ks.length)) (F f (ps ++ permP perm qs) α)
  | .comp t own it cond elt, ρ, α => (dI F it ρ α).bind fun s α =>
      (turns s.still (fun x α => (dT F t x (wipeP ρ own) α).bind fun ρ' α => (dC F cond ρ' α).bind fun c α => match c with
        | true => (dE F elt ρ' α).bind fun y α => .ok (some y) α
        | false => .ok none α) s.items (s.lock α)).bind fun ys α => need (lineOk ys.length) (s.done (.fl ys) α)
  | .join a, ρ, α => (dE F a ρ α).bind fun p α => joinP p α
def dO (F : Fn) : OE → Loc' → AH → Res (Option Int)
  | .none, _, α => .ok none α
  | .some a, ρ, α => (dE F a ρ α).bind fun p α => partO p α
def dC (F : Fn) : OE → Loc' → AH → Res Bool
  | .none, _, α => .ok true α
  | .some a, ρ, α => (dE F a ρ α).bind fun p α => truth p α
def dEs (F : Fn) : Es → Loc' → AH → Res (List PV)
  | .nil, _, α => .ok [] α
  | .cons a es, ρ, α => (dE F a ρ α).bind fun p α => (dEs F es ρ α).bind fun ps α => .ok (p :: ps) α
def dPs (F : Fn) : Ps → Loc' → AH → Res (List (PV × PV))
  | .nil, _, α => .ok [] α
  | .cons k v ps, ρ, α => (dE F k ρ α).bind fun p α => (dE F v ρ α).bind fun q α => (dPs F ps ρ α).bind fun r α => .ok ((p, q) :: r) α
def dT (F : Fn) : T → PV → Loc' → AH → Res Loc'
  | .var i, x, ρ, α => .ok (ρ.set i (some x)) α
  | .tup ts, x, ρ, α => match x with
    | .tup xs => dTs F ts xs ρ α
    | _ => .bad
  | .sub o i, x, ρ, α => (dE F o ρ α).bind fun p α => (dE F i ρ α).bind fun q α => (setP p q x α).bind fun _ α => .ok ρ α
def dTs (F : Fn) : Ts → List PV → Loc' → AH → Res Loc'
  | .nil, [], ρ, α => .ok ρ α
  | .cons t ts, x :: xs, ρ, α => (dT F t x ρ α).bind fun ρ α => dTs F ts xs ρ α
  | _, _, _, _ => .bad
def dI (F : Fn) : It → Loc' → AH → Res Src
  | .val e, ρ, α => (dE F e ρ α).bind fun p α => srcOf p α
  | .range1 e, ρ, α => (dE F e ρ α).bind fun p α => srcRange (.int 0) p α
  | .range2 a b, ρ, α => (dE F a ρ α).bind fun p α => (dE F b ρ α).bind fun q α => srcRange p q α
  | .values e, ρ, α => (dE F e ρ α).bind fun p α => srcVals p α
end

/-- how a statement ends -/
inductive Fl where
  | nx (ρ : Loc') | rt (p : PV) | bk (ρ : Loc') | ct (ρ : Loc')
abbrev SRes := Res Fl
/-- a for's turns -/
def turnsF (still : AH → Bool) (step : PV → Loc' → AH → SRes) : List PV → Loc' → AH → SRes
  | [], ρ, α => need (still α) (.ok (.nx ρ) α)
  | x :: r, ρ, α => need (still α) ((step x ρ α).bind fun f α1 => match f with
    | .nx ρ1 => turnsF still step r ρ1 α1
    | .ct ρ1 => turnsF still step r ρ1 α1
    | .bk ρ1 => .ok (.nx ρ1) α1
    | .rt p => .ok (.rt p) α1)
/-- a while's turns, at most n -/
def turnsW (c : Loc' → AH → Res Bool) (b : Loc' → AH → SRes) : Nat → Loc' → AH → SRes
  | 0, _, _ => .bad
  | n + 1, ρ, α => (c ρ α).bind fun t α1 => match t with
    | false => .ok (.nx ρ) α1
    | true => (b ρ α1).bind fun f α2 => match f with
      | .nx ρ1 => turnsW c b n ρ1 α2
      | .ct ρ1 => turnsW c b n ρ1 α2
      | .bk ρ1 => .ok (.nx ρ1) α2
      | .rt p => .ok (.rt p) α2
open Classical in
/-- a while: by any number of turns that is enough -/
noncomputable def whileM (c : Loc' → AH → Res Bool) (b : Loc' → AH → SRes) (ρ : Loc') (α : AH) : SRes :=
  if h : ∃ n f α', turnsW c b n ρ α = .ok f α' then turnsW c b (Classical.choose h) ρ α else .bad
def setAll : List Nat → List PV → Loc' → Loc'
  | i :: is, p :: ps, ρ => setAll is ps (ρ.set i (some p))
  | _, _, ρ => ρ
mutual
noncomputable def dS (F : Fn) : S → Loc' → AH → SRes
  | .pass, ρ, α => .ok (.nx ρ) α
  | .brk, ρ, α => .ok (.bk ρ) α
  | .cont, ρ, α => .ok (.ct ρ) α
  | .expr e, ρ, α => (dE F e ρ α).bind fun _ α => .ok (.nx ρ) α
  | .asg t e, ρ, α => (dE F e ρ α).bind fun p α => (dT F t p ρ α).bind fun ρ α => .ok (.nx ρ) α
  | .par is es, ρ, α => (dEs F es ρ α).bind fun ps α => need (decide (ps.length = is.length)) (.ok (.nx (setAll is ps ρ)) α)
  | .aug i o e, ρ, α => match ρ[i]? with
    | some (some p) => (dE F e ρ α).bind fun q α => match p, q with
      | .int _, .int _ => (bop o p q α).bind fun r α => .ok (.nx (ρ.set i (some r))) α
      | _, _ => .bad
    | _ => .bad
  | .ret e, ρ, α => (dE F e ρ α).bind fun p α => .ok (.rt p) α
  | .retN, _, α => .ok (.rt .non) α
  | .ife c a b, ρ, α => (dE F c ρ α).bind fun p α => (truth p α).bind fun t α => match t with
    | true => dSs F a ρ α
    | false => dSs F b ρ α
  | .whl c b, ρ, α => whileM (fun ρ α => (dE F c ρ α).bind fun p α => truth p α) (fun ρ α => dSs F b ρ α) ρ α
  | .loop t it b, ρ, α => (dI F it ρ α).bind fun s α => (turnsF s.still (fun x ρ α => (dT F t x ρ α).bind fun ρ α => dSs F b ρ α) s.items ρ (s.lock α)).bind fun f α => s.done f α
noncomputable def dSs (F : Fn) : Ss → Loc' → AH → SRes
  | .nil, ρ, α => .ok (.nx ρ) α
  | .cons s ss, ρ, α => (dS F s ρ α).bind fun f α => match f with
    | .nx ρ => dSs F ss ρ α
    | f => .ok f α
end
/-- a def of the text: its name, qualified name, the names by slot, how many are parameters, its body -/
structure FD where
  name : Str
  qual : Str
  N : List Str
  np : Nat
  body : Ss
def startP (n : Nat) (ps : List PV) : Loc' := ps.map some ++ List.replicate (n - ps.length) none
noncomputable def runFn (F : Fn) (f : FD) (ps : List PV) (α : AH) : Res PV :=
  need (decide (ps.length = f.np)) ((dSs F f.body (startP f.N.length ps) α).bind fun r α => match r with
    | .rt p => .ok p α
    | .nx _ => .ok .non α
    | _ => .bad)
/-- calls, at most so many one within the other -/
noncomputable def callD (fs : List FD) : Nat → Fn
  | 0 => fun _ _ _ => .bad
  | d + 1 => fun j ps α => match fs[j]? with
    | some f => runFn (callD fs d) f ps α
    | none => .bad
end Mw
end
section
set_option Elab.async false
set_option linter.all false
set_option maxRecDepth 100000
set_option maxHeartbeats 2000000
/-! Mw4: the operations keep what they denote. -/
namespace Mw
open PySem PySem.Spec PyProof.Rows L2

section
variable {F : Fx} {μ μ' : Zn} {H H' H0 : Hp} {α α' : AH} {ρ : Loc'} {σ : L2.St} {Q : VK} {r : Res PV}

/-! ### results that may be new -/
/-- a new list or dict, not yet of the store; or any value -/
def NewR (F : Fx) (H0 : Hp) (α' : AH) (μ' : Zn) (H' : Hp) (p : PV) (v : V) : Prop :=
  match p with
  | .fl xs => ∃ a, v = .ref a ∧ H0 a = none ∧ a ∉ μ'.on ∧ a ∉ μ'.off ∧ Rel F ⟨μ'.on, a :: μ'.off⟩ α' H' ∧ OR F ⟨μ'.on, a :: μ'.off⟩ H' a (.lst xs)
  | .fd kvs => ∃ a, v = .ref a ∧ H0 a = none ∧ a ∉ μ'.on ∧ a ∉ μ'.off ∧ Rel F ⟨μ'.on, a :: μ'.off⟩ α' H' ∧ OR F ⟨μ'.on, a :: μ'.off⟩ H' a (.dct kvs)
  | p => Rep F μ' H' p v
theorem fewer1 {a : Addr} : Ext F ⟨μ.on, a :: μ.off⟩ H μ H := Ext.fewer (on := μ.on) (off := a :: μ.off) (off' := μ.off) fun _ h => List.mem_cons_of_mem _ h
theorem NewR.rep {p : PV} {v : V} (h : NewR F H0 α' μ' H' p v) : Rep F μ' H' p v := by
  unfold NewR at h
  split at h
  · obtain ⟨a, rfl, h0, h1, h2, _, vs, e, q⟩ := h
    exact .fl ⟨h1, h2⟩ e (q.ext fewer1)
  · obtain ⟨a, rfl, h0, h1, h2, _, ho⟩ := h
    rcases ho with ⟨ks, e, q⟩ | ⟨L, e, q⟩
    · exact .fdK ⟨h1, h2⟩ e (q.ext fewer1)
    · exact .fdX ⟨h1, h2⟩ e (q.ext fewer1)
  · exact h
def PostN (F : Fx) (μ : Zn) (H : Hp) (r : Res PV) (Q : VK) : Prop :=
  match r with
  | .ok p α' => ∀ μ' H' v, Le F μ H μ' H' → Rel F μ' α' H' → NewR F H α' μ' H' p v → Q v H'
  | .err _ _ _ => False
  | .bad => False
theorem Post.toN (h : Post F μ H r (Rep F) Q) : PostN F μ H r Q := by
  cases r with
  | ok p a => exact fun μ' H' v l r q => h μ' H' v l r q.rep
  | err c xs a => exact h
  | bad => exact h
theorem none_back (rel : Rel F μ' α' H') (l : Le F μ H μ' H') {a : Addr} (h : H' a = none) : H a = none := by
  cases e : H a with
  | none => rfl
  | some o =>
    by_cases ha : a ∈ μ.on
    · obtain ⟨t, et⟩ := l.ext.pre
      obtain ⟨x, ex, _⟩ := rel.mv (a := a) (by rw [et]; exact List.mem_append_left _ ha)
      rw [h] at ex; cases ex
    · have := (l.fr a o ha e).2
      rw [h] at this; cases this
theorem NewR.from {α1 : AH} (rel : Rel F μ α1 H) (l : Le F μ0 H0 μ H) {p : PV} {v : V} (h : NewR F H α' μ' H' p v) : NewR F H0 α' μ' H' p v := by
  unfold NewR at h ⊢
  split at h
  · obtain ⟨a, e, h0, r⟩ := h
    exact ⟨a, e, none_back rel l h0, r⟩
  · obtain ⟨a, e, h0, r⟩ := h
    exact ⟨a, e, none_back rel l h0, r⟩
  · exact h
theorem PostN.from {α1 : AH} (rel : Rel F μ' α1 H') (l : Le F μ H μ' H') (h : PostN F μ H r Q) : PostN F μ' H' r Q := by
  cases r with
  | ok p a => exact fun μ'' H'' v l' r' q => h μ'' H'' v (l.trans l') r' (q.from rel l)
  | err c xs a => exact h
  | bad => exact h
/-- a value that is there -/
theorem Post.here {p : PV} {v : V} (rel : Rel F μ α H) (h : Post F μ H (.ok p α) (Rep F) Q) (rp : Rep F μ H p v) : Q v H := h μ H v (.refl F μ H) rel rp
def plainV : PV → Bool
  | .fl _ => false
  | .fd _ => false
  | _ => true
theorem newR_plain {p : PV} {v : V} (hp : plainV p = true) (rp : Rep F μ' H' p v) : NewR F H0 α' μ' H' p v := by
  cases p <;> first | exact rp | cases hp
theorem PostN.here {p : PV} {v : V} (rel : Rel F μ α H) (h : PostN F μ H (.ok p α) Q) (rp : Rep F μ H p v) (hp : plainV p = true) : Q v H :=
  h μ H v (.refl F μ H) rel (newR_plain hp rp)
theorem fresh_noff (rel : Rel F μ α H) {p : Addr} (hp : H p = none) : p ∉ μ.off := fun hm => (rel.offs p hm).2 hp
theorem by1 (rel : Rel F μ α H) {p : Addr} {o : HO} (hp : H p = none) : Ext F μ H ⟨μ.on, p :: μ.off⟩ (upd H p o) ∧ Rel F ⟨μ.on, p :: μ.off⟩ α (upd H p o) :=
  by_step (on := μ.on) (off := μ.off) rel hp
/-- a new list -/
theorem PostN.newL {xs : List PV} {vs : List V} {p : Addr} (rel : Rel F μ α H) (h : PostN F μ H (.ok (.fl xs) α) Q) (hp : H p = none) (rl : RepL F μ H xs vs) : Q (.ref p) (upd H p (.lst vs)) := by
  obtain ⟨l, r'⟩ := new_step rel (o := .lst vs) hp
  obtain ⟨x, r2⟩ := by1 rel (o := .lst vs) hp
  exact h μ _ _ l r' ⟨p, rfl, hp, fresh_non rel hp, fresh_noff rel hp, r2, vs, upd_same, rl.ext x⟩
/-- a new tuple -/
theorem PostN.newT {xs : List PV} {vs : List V} {p : Addr} (rel : Rel F μ α H) (h : PostN F μ H (.ok (.tup xs) α) Q) (hp : H p = none) (rl : RepL F μ H xs vs) : Q (.ref p) (upd H p (.tup vs)) := by
  obtain ⟨l, r'⟩ := new_step rel (o := .tup vs) hp
  exact h μ _ _ l r' (.tup upd_same (rl.le l))

/-! ### what stands behind a value -/
theorem Rep.sqt {xs : List PV} {v : V} (h : Rep F μ H (.tup xs) v) : ∃ a vs, v = .ref a ∧ SqT F.K H a vs ∧ RepL F μ H xs vs := by
  cases h with
  | tup e q => exact ⟨_, _, rfl, .inl (.inl e), q⟩
  | tupW e q => exact ⟨_, _, rfl, .inr e, q⟩
theorem itemsL_at (rel : Rel F μ α H) {p : PV} {v : V} {xs : List PV} (h : itemsL α p = some xs) (rp : Rep F μ H p v) : ∃ a vs, v = .ref a ∧ H a = some (.lst vs) ∧ RepL F μ H xs vs := by
  cases rp with
  | fl n e q => cases h; exact ⟨_, _, rfl, e, q⟩
  | ref e =>
    rename_i i a
    unfold itemsL at h
    simp only at h
    split at h
    · rename_i ys hy
      cases h
      obtain ⟨vs, e1, q⟩ := rel.obj i a _ e hy
      exact ⟨a, vs, rfl, e1, q⟩
    · cases h
  | _ => simp [itemsL] at h
theorem itemsS_at (rel : Rel F μ α H) {p : PV} {v : V} {xs : List PV} (h : itemsS α p = some xs) (rp : Rep F μ H p v) : ∃ a vs, v = .ref a ∧ RepL F μ H xs vs ∧ ((p = .tup xs ∧ SqT F.K H a vs) ∨ SqL F.K H a vs) := by
  cases rp with
  | tup e q => cases h; exact ⟨_, _, rfl, q, .inl ⟨rfl, .inl (.inl e)⟩⟩
  | tupW e q => cases h; exact ⟨_, _, rfl, q, .inl ⟨rfl, .inr e⟩⟩
  | scr e q => cases h; exact ⟨_, _, rfl, q, .inr e.sql⟩
  | fl n e q =>
    obtain ⟨a, vs, e1, e2, e3⟩ := itemsL_at rel (by simpa [itemsS] using h) (.fl n e q)
    exact ⟨a, vs, e1, e3, .inr (.inl (.inl e2))⟩
  | ref e =>
    obtain ⟨a, vs, e1, e2, e3⟩ := itemsL_at rel (by simpa [itemsS] using h) (.ref e)
    exact ⟨a, vs, e1, e3, .inr (.inl (.inl e2))⟩
  | _ => simp [itemsS, itemsL] at h
mutual
theorem dp_of : ∀ {p : PV} {v : V} {d : PyData}, Rep F μ H p v → toP p = some d → Dp F.K H v d
  | _, _, _, .non, h => by simp [toP] at h; subst h; exact .non
  | _, _, _, .bl b, h => by simp [toP] at h; subst h; exact .bl b
  | _, _, _, .int i, h => by simp [toP] at h; subst h; exact .int i
  | _, _, _, .str x, h => by simp [toP] at h; subst h; exact .str x
  | _, _, _, .tup e q, h => by
    simp only [toP, Option.map_eq_some_iff] at h
    obtain ⟨ds, h, rfl⟩ := h
    exact .tup (.inl (.inl e)) (dps_of q h)
  | _, _, _, .tupW e q, h => by
    simp only [toP, Option.map_eq_some_iff] at h
    obtain ⟨ds, h, rfl⟩ := h
    exact .tup (.inr e) (dps_of q h)
  | _, _, _, .fl n e q, h => by
    simp only [toP, Option.map_eq_some_iff] at h
    obtain ⟨ds, h, rfl⟩ := h
    exact .lst (.inl (.inl e)) (dps_of q h)
  | _, _, _, .scr e q, h => by
    simp only [toP, Option.map_eq_some_iff] at h
    obtain ⟨ds, h, rfl⟩ := h
    exact .lst e.sql (dps_of q h)
  | _, _, _, .ref _, h => by simp [toP] at h
  | _, _, _, .fdK _ _ _, h => by simp [toP] at h
  | _, _, _, .fdX _ _ _, h => by simp [toP] at h
  | _, _, _, .st _, h => by simp [toP] at h
theorem dps_of : ∀ {p : List PV} {v : List V} {d : List PyData}, RepL F μ H p v → toPs p = some d → DpAll F.K H v d
  | _, _, _, .nil, h => by simp [toPs] at h; subst h; exact .nil
  | _, _, _, .cons a b, h => by
    simp only [toPs, Option.bind_eq_some_iff, Option.map_eq_some_iff] at h
    obtain ⟨d, h1, ds, h2, rfl⟩ := h
    exact .cons (dp_of a h1) (dps_of b h2)
end
theorem dpA_of (rel : Rel F μ α H) {p : PV} {v : V} {d : PyData} (rp : Rep F μ H p v) (h : toA α p = some d) : Dp F.K H v d := by
  unfold toA at h
  split at h
  · split at h
    · rename_i k xs hk
      simp only [Option.map_eq_some_iff] at h
      obtain ⟨ds, h, rfl⟩ := h
      obtain ⟨a, vs, rfl, e, q⟩ := itemsL_at rel (xs := xs) (by simp [itemsL, hk]) rp
      exact .lst (.inl (.inl e)) (dps_of q h)
    · cases h
  · exact dp_of rp h
theorem toS_at (rel : Rel F μ α H) {p : PV} {v : V} {d : PyData} (rp : Rep F μ H p v) (h : toS α p = some d) : Dp F.K H v d ∧ SeqAt.shaped d = true := by
  simp only [toS, Option.filter_eq_some_iff] at h
  exact ⟨dpA_of rel rp h.1, h.2⟩
theorem lstAt_at (rel : Rel F μ α H) {p : PV} {v : V} {k : Nat} {xs : List PV} (h : lstAt α p = some (k, xs)) (rp : Rep F μ H p v) : ∃ a vs, v = .ref a ∧ μ.on[k]? = some a ∧ α[k]? = some (.lst xs) ∧ H a = some (.lst vs) ∧ RepL F μ H xs vs := by
  unfold lstAt at h
  split at h
  · split at h
    · rename_i i ys hy
      cases h
      cases rp with
      | ref e =>
        obtain ⟨vs, e1, q⟩ := rel.obj _ _ _ e hy
        exact ⟨_, vs, rfl, e, hy, e1, q⟩
    · cases h
  · cases h
/-- a list of the store is changed -/
theorem put_list (rel : Rel F μ α H) {k : Nat} {a : Addr} {xs : List PV} {vs : List V} {ws : List V} (hk : μ.on[k]? = some a) (hH : H a = some (.lst ws)) (q : RepL F μ H xs vs) : Le F μ H μ (upd H a (.lst vs)) ∧ Rel F μ (α.set k (.lst xs)) (upd H a (.lst vs)) :=
  put_step rel hk (fun o u e => by rw [hH] at e; cases e) fun l => ⟨vs, upd_same, q.le l⟩
end

/-! ### where a def's body runs -/
structure Fit (F : Fx) (X : Cx) : Prop where
  P : X.prog = F.P
  w : X.w = F.w
  K : X.K = F.K
  calm : X.calm = true
  gd : X.A.guards = some []
  room : X.A.units + 200 < cLine
  nd : X.N.Nodup

def bopS : Bop → Operator
  | .add => .Add
  | .sub => .Sub
  | .mul => .Mult
  | .fdiv => .FloorDiv
  | .mod => .Mod
  | .pow => .Pow
def copS : Cop → CmpOp
  | .eq => .Eq
  | .ne => .NotEq
  | .lt => .Lt
  | .le => .LtE
  | .gt => .Gt
  | .ge => .GtE
  | .isin => .In
  | .notin => .NotIn
  | .isn => .Is
  | .notn => .IsNot

section
variable {F : Fx} {X : Cx}
/-- an operation of two values, which may hand back something new -/
def OpN (F : Fx) (X : Cx) (f : Value → Value → Sem Value) (pr : PV → PV → AH → Res PV) : Prop :=
  OpR X f (fun x y H Q => ∃ p q μ α, Rel F μ α H ∧ Rep F μ H p x ∧ Rep F μ H q y ∧ PostN F μ H (pr p q α) Q)
theorem need_ok {c : Bool} {r : Res PV} {μ : Zn} {H : Hp} {Q : VK} (h : PostN F μ H (need c r) Q) : c = true ∧ PostN F μ H r Q := by
  cases c with
  | true => exact ⟨rfl, h⟩
  | false => exact h.elim
theorem op_addP (ft : Fit F X) : OpN F X (binaryOp .Add) addP := by
  refine op_imp ((op_add (X := X)).or ((op_add_str (X := X)).or ((op_catA (X := X)).or (op_cat (X := X))))) fun x y H Q h => ?_
  obtain ⟨p, q, μ, α, rel, rp, rq, h⟩ := h
  unfold addP at h
  split at h
  · cases rp; cases rq
    exact .inl ⟨_, _, rfl, rfl, h.here rel (.int _) rfl⟩
  · cases rp; cases rq
    obtain ⟨hc, h⟩ := need_ok h
    exact .inr (.inl ⟨_, _, rfl, rfl, of_decide_eq_true hc, h.here rel (.str _) rfl⟩)
  · obtain ⟨hc, h⟩ := need_ok h
    obtain ⟨a, vs, rfl, e1, q1⟩ := rp.sqt
    obtain ⟨b, ws, rfl, e2, q2⟩ := rq.sqt
    have hz : _ ≤ _ := of_decide_eq_true hc
    rw [q1.length, q2.length] at hz
    refine .inr (.inr (.inl ⟨a, b, vs, ws, rfl, rfl, by rw [ft.K]; exact e1, by rw [ft.K]; exact e2, hz, fun e => ?_, fun _ e => ?_, fun _ _ c hc' => h.newT rel hc' (q1.append q2)⟩))
    · subst e
      have := q1.length
      simp only [List.length_nil, List.length_eq_zero_iff] at this
      subst this
      rw [List.nil_append] at h
      exact h.here rel rq rfl
    · subst e
      have := q2.length
      simp only [List.length_nil, List.length_eq_zero_iff] at this
      subst this
      rw [List.append_nil] at h
      exact h.here rel rp rfl
  · split at h
    · rename_i xs ys hx hy
      obtain ⟨hc, h⟩ := need_ok h
      obtain ⟨a, vs, rfl, e1, q1⟩ := itemsL_at rel hx rp
      obtain ⟨b, ws, rfl, e2, q2⟩ := itemsL_at rel hy rq
      have hz : _ ≤ _ := of_decide_eq_true hc
      rw [q1.length, q2.length] at hz
      exact .inr (.inr (.inr ⟨a, b, vs, ws, rfl, rfl, e1, e2, hz, fun c hc' => h.newL rel hc' (q1.append q2)⟩))
    · exact False.elim h
theorem op_mulP : OpN F X (binaryOp .Mult) mulP := by
  refine op_imp ((op_mul (X := X)).or (op_rep (X := X))) fun x y H Q h => ?_
  obtain ⟨p, q, μ, α, rel, rp, rq, h⟩ := h
  unfold mulP at h
  split at h
  · cases rp; cases rq
    obtain ⟨hc, h⟩ := need_ok h
    have hc' := of_decide_eq_true hc
    exact .inl ⟨_, _, rfl, rfl, hc', h.here rel (.int _) rfl⟩
  · split at h
    · rename_i xs hx
      obtain ⟨hc, h⟩ := need_ok h
      obtain ⟨a, vs, rfl, e1, q1⟩ := itemsL_at rel hx rp
      cases rq
      rw [Bool.and_eq_true] at hc
      have h1 := of_decide_eq_true hc.1
      have hz : _ ≤ _ := of_decide_eq_true hc.2
      rw [q1.length] at hz
      exact .inr ⟨a, _, vs, rfl, rfl, e1, h1.1, h1.2, hz, fun c hc' => h.newL rel hc' (q1.rep _)⟩
    · exact False.elim h
  · exact False.elim h
theorem op_intsP {f : Value → Value → Sem Value} {C : Int → Int → Prop} {c : Int → Int → Bool} {g : Int → Int → Int} (h : OpR X f (rI C fun i j => .int (g i j))) (hc : ∀ i j, c i j = true → C i j) : OpN F X f (intsP c g) := by
  refine op_imp h fun x y H Q h => ?_
  obtain ⟨p, q, μ, α, rel, rp, rq, h⟩ := h
  unfold intsP at h
  split at h
  · cases rp; cases rq
    obtain ⟨h1, h⟩ := need_ok h
    exact ⟨_, _, rfl, rfl, hc _ _ h1, h.here rel (.int _) rfl⟩
  · exact False.elim h
theorem op_bop (ft : Fit F X) : ∀ o, OpN F X (binaryOp (bopS o)) (bop o) := by
  intro o
  cases o with
  | add => exact op_addP ft
  | sub => exact op_intsP (C := fun _ _ => True) (op_imp (op_sub (X := X)) fun x y H Q ⟨i, j, e1, e2, _, q⟩ => ⟨i, j, e1, e2, q⟩) fun _ _ _ => trivial
  | mul => exact op_mulP
  | fdiv => exact op_intsP (op_fdiv (X := X)) fun _ _ h => by have h' := of_decide_eq_true h; exact h'
  | mod => exact op_intsP (op_mod (X := X)) fun _ _ h => by have h' := of_decide_eq_true h; exact h'
  | pow => exact op_intsP (op_pow (X := X)) fun _ _ h => by have h' := of_decide_eq_true h; exact h'
end
end Mw
end
section
set_option Elab.async false
set_option linter.all false
set_option maxRecDepth 100000
set_option maxHeartbeats 2000000
/-! Mw5: dicts. -/
namespace Mw
open PySem PySem.Spec PyProof.Rows L2

section
variable {F : Fx} {X : Cx} {μ : Zn} {H : Hp} {α : AH}

/-! ### keys -/
mutual
theorem nested_of {pins : List (Addr × Obj)} {σ : L2.St} {s : Shared} (ft : Fit F X) (I : Inv X pins σ H s) : ∀ {p : PV} {v : V} {q : NestedKey} {u : Value}, Rep F μ H p v → nkOf p = some q → RelV v u → NestedIs s.heap q u
  | _, _, _, _, .non, h, r => by simp only [nkOf, Option.some.injEq] at h; subst h; cases r; exact .none
  | _, _, _, _, .bl b, h, r => by simp only [nkOf, Option.some.injEq] at h; subst h; cases r; exact .bool rfl
  | _, _, _, _, .int i, h, r => by simp only [nkOf, Option.some.injEq] at h; subst h; obtain ⟨t, rfl⟩ := r; exact .int _ t
  | _, _, _, _, .str x, h, r => by simp only [nkOf, Option.some.injEq] at h; subst h; obtain ⟨t, rfl⟩ := r; exact .text _ t
  | _, _, _, _, .tup e q, h, r => by
    simp only [nkOf, Option.map_eq_some_iff] at h
    obtain ⟨ks, h, rfl⟩ := h
    cases r
    obtain ⟨its, rv, ⟨o, ho, hc, n, hd⟩, _⟩ := I.tuple (.inl (.inl e))
    exact .tup ho hc hd (nesteds_of ft I q h (by simpa using rv))
  | _, _, _, _, .tupW e q, h, r => by
    simp only [nkOf, Option.map_eq_some_iff] at h
    obtain ⟨ks, h, rfl⟩ := h
    cases r
    obtain ⟨its, rv, ⟨o, ho, hc, n, hd⟩, _⟩ := I.tuple (.inr (by rw [ft.K]; exact e))
    exact .tup ho hc hd (nesteds_of ft I q h (by simpa using rv))
  | _, _, _, _, .ref _, h, _ => by simp [nkOf] at h
  | _, _, _, _, .fl _ _ _, h, _ => by simp [nkOf] at h
  | _, _, _, _, .scr _ _, h, _ => by simp [nkOf] at h
  | _, _, _, _, .fdK _ _ _, h, _ => by simp [nkOf] at h
  | _, _, _, _, .fdX _ _ _, h, _ => by simp [nkOf] at h
  | _, _, _, _, .st _, h, _ => by simp [nkOf] at h
theorem nesteds_of {pins : List (Addr × Obj)} {σ : L2.St} {s : Shared} (ft : Fit F X) (I : Inv X pins σ H s) : ∀ {p : List PV} {v : List V} {q : List NestedKey} {u : List Value}, RepL F μ H p v → nksOf p = some q → Vals v u → NestedAll s.heap q u
  | _, _, _, _, .nil, h, r => by simp only [nksOf, Option.some.injEq] at h; subst h; cases r; exact .nil
  | _, _, _, _, .cons a b, h, r => by
    simp only [nksOf, Option.bind_eq_some_iff, Option.map_eq_some_iff] at h
    obtain ⟨d, h1, ds, h2, rfl⟩ := h
    cases r with
    | cons r1 r2 => exact .cons (nested_of ft I a h1 r1) (nesteds_of ft I b h2 r2)
end
def nkK : Key → NestedKey
  | .inl i => .num i
  | .inr x => .text x
theorem nkK_inj {a b : Key} (h : nkK a = nkK b) : a = b := by
  cases a <;> cases b <;> simp [nkK] at h <;> rw [h]
theorem nk_key {k : PV} {q : Key} (h : keyOf k = some q) : nkOf k = some (nkK q) := by
  cases k <;> simp [keyOf] at h <;> subst h <;> rfl
theorem rep_key {k : PV} {q : Key} {y : V} (h : keyOf k = some q) (r : Rep F μ H k y) : y = kV q := by
  cases r <;> simp [keyOf] at h <;> subst h <;> rfl
theorem kmode_false {k : PV} (h : kmode k = some false) : ∃ q, keyOf k = some q := by
  cases k <;> simp [kmode] at h
  · exact ⟨_, rfl⟩
  · exact ⟨_, rfl⟩
  · split at h
    · split at h <;> simp at h
    · simp at h
theorem kmode_true {k : PV} (h : kmode k = some true) : ∃ ks q, k = .tup ks ∧ nkOf (.tup ks) = some q ∧ q.depth ≤ 8 := by
  cases k <;> simp [kmode] at h
  · rename_i ks
    split at h
    · rename_i q hq
      split at h
      · rename_i hd
        exact ⟨ks, q, rfl, hq, hd⟩
      · simp at h
    · simp at h
theorem mode_key {k : PV} {q : Key} (h : keyOf k = some q) : kmode k = some false := by
  cases k <;> simp [keyOf] at h <;> rfl
theorem mode_tup {ks : List PV} {q : NestedKey} (h : nkOf (.tup ks) = some q) (hd : q.depth ≤ 8) : kmode (.tup ks) = some true := by
  simp [kmode, h, hd]

/-! ### pairs -/
theorem dfind_cons (e : PV × PV) (r : List (PV × PV)) (k : PV) : dfind (e :: r) k = if nkOf e.1 = nkOf k then some e.2 else dfind r k := by
  unfold dfind
  rw [List.find?_cons]
  by_cases h : nkOf e.1 = nkOf k
  · simp [h]
  · simp [h]
theorem find_K {k : PV} {q : Key} (hk : keyOf k = some q) : ∀ {kvs : List (PV × PV)} {ks : List (Key × V)}, RepK F μ H kvs ks → (∀ p, dfind kvs k = some p → ∃ v, valV ks q = some v ∧ Rep F μ H p v) ∧ (dfind kvs k = none → valV ks q = none)
  | _, _, .nil => ⟨fun p h => by simp [dfind] at h, fun _ => rfl⟩
  | _, _, .cons (k := k1) (p := p1) (q := q1) (v := v1) (ps := ps) (vs := vs) e a b => by
    obtain ⟨h1, h2⟩ := find_K hk b
    rw [dfind_cons, nk_key e, nk_key hk]
    by_cases hq : q1 = q
    · subst hq
      rw [if_pos rfl]
      exact ⟨fun p h => by cases h; exact ⟨v1, valV_pos rfl, a⟩, fun h => by cases h⟩
    · have : ¬ (some (nkK q1) = some (nkK q)) := fun z => hq (nkK_inj (Option.some.inj z))
      rw [if_neg this]
      refine ⟨fun p h => ?_, fun h => ?_⟩
      · obtain ⟨v, e1, e2⟩ := h1 p h
        exact ⟨v, by rw [valV_neg (by exact hq)]; exact e1, e2⟩
      · rw [valV_neg (by exact hq)]; exact h2 h
theorem isSome_K {k : PV} {q : Key} (hk : keyOf k = some q) {kvs : List (PV × PV)} {ks : List (Key × V)} (r : RepK F μ H kvs ks) : (dfind kvs k).isSome = (valV ks q).isSome := by
  obtain ⟨h1, h2⟩ := find_K hk r
  cases e : dfind kvs k with
  | none => rw [h2 e]; rfl
  | some p => obtain ⟨v, e1, _⟩ := h1 p e; rw [e1]; rfl
theorem map_K {k : PV} {q : Key} (hk : keyOf k = some q) {p : PV} {v : V} (rp : Rep F μ H p v) : ∀ {kvs : List (PV × PV)} {ks : List (Key × V)}, RepK F μ H kvs ks →
    RepK F μ H (kvs.map fun e => if nkOf e.1 = nkOf k then (e.1, p) else e) (ks.map fun kv => if kv.1 = q then (kv.1, v) else kv)
  | _, _, .nil => .nil
  | _, _, .cons (k := k1) (p := p1) (q := q1) (v := v1) (ps := ps) (vs := vs) e a b => by
    rw [List.map_cons, List.map_cons]
    simp only [nk_key e, nk_key hk]
    by_cases hq : q1 = q
    · subst hq
      rw [if_pos rfl, if_pos rfl]
      exact .cons e rp (by simpa only [nk_key hk] using map_K hk rp b)
    · have : ¬ (some (nkK q1) = some (nkK q)) := fun z => hq (nkK_inj (Option.some.inj z))
      rw [if_neg this, if_neg hq]
      exact .cons e a (by simpa only [nk_key hk] using map_K hk rp b)
theorem app_K {kvs ls : List (PV × PV)} {ks ms : List (Key × V)} (a : RepK F μ H kvs ks) (b : RepK F μ H ls ms) : RepK F μ H (kvs ++ ls) (ks ++ ms) := by
  have go : ∀ {kvs : List (PV × PV)} {ks : List (Key × V)}, RepK F μ H kvs ks → RepK F μ H (kvs ++ ls) (ks ++ ms) := by
    intro kvs
    induction kvs with
    | nil => intro ks a; cases a; exact b
    | cons x xs ih => intro ks a; cases a with | cons e p q => exact .cons e p (ih q)
  exact go a
theorem put_K {k : PV} {q : Key} (hk : keyOf k = some q) {p : PV} {v : V} (rp : Rep F μ H p v) {kvs : List (PV × PV)} {ks : List (Key × V)} (r : RepK F μ H kvs ks) : RepK F μ H (dput kvs k p) (putK ks q v) := by
  unfold dput putK
  have e := isSome_K hk r
  rw [valV_any, ← e]
  split
  · exact map_K hk rp r
  · exact app_K r (.cons hk rp .nil)
theorem len_K : ∀ {kvs : List (PV × PV)} {ks : List (Key × V)}, RepK F μ H kvs ks → kvs.length = ks.length
  | _, _, .nil => rfl
  | _, _, .cons _ _ b => by simp [len_K b]

/-- the raw pairs beside the abstract ones -/
abbrev PL : List (NestedKey × Addr × V) → List (NestedKey × Addr × Value) → Prop := Paired (fun (p : NestedKey × Addr × V) (q : NestedKey × Addr × Value) => p.1 = q.1 ∧ p.2.1 = q.2.1 ∧ RelV p.2.2 q.2.2)
theorem atKey_cons (x : NestedKey × Addr × Value) (r : List (NestedKey × Addr × Value)) (q : NestedKey) : atKey (x :: r) q = if x.1 = q then some x.2 else atKey r q := by
  unfold atKey
  rw [List.find?_cons]
  by_cases h : x.1 = q
  · simp [h]
  · simp [h]
theorem find_X {k : PV} {q : NestedKey} (hk : nkOf k = some q) : ∀ {kvs : List (PV × PV)} {L : List (NestedKey × Addr × V)} {xs : List (NestedKey × Addr × Value)}, RepX F μ H kvs L → PL L xs →
    (∀ p, dfind kvs k = some p → ∃ v b u, atKey xs q = some (b, u) ∧ RelV v u ∧ Rep F μ H p v) ∧ (dfind kvs k = none → atKey xs q = none)
  | _, _, _, .nil, .nil => ⟨fun p h => by simp [dfind] at h, fun _ => rfl⟩
  | _, _, _, .cons (q := q1) (v := v1) e d c a b, .cons (b := x) (l₂ := xs) r rr => by
    obtain ⟨h1, h2⟩ := find_X hk b rr
    obtain ⟨r1, r2, r3⟩ := r
    rw [dfind_cons, atKey_cons, ← r1]
    simp only [e, hk]
    by_cases hq : q1 = q
    · subst hq
      rw [if_pos rfl, if_pos rfl]
      exact ⟨fun p h => by cases h; exact ⟨v1, x.2.1, x.2.2, rfl, r3, a⟩, fun h => by cases h⟩
    · have : ¬ (some q1 = some q) := fun z => hq (Option.some.inj z)
      rw [if_neg this, if_neg hq]
      exact ⟨h1, h2⟩
theorem isSome_X {k : PV} {q : NestedKey} (hk : nkOf k = some q) {kvs : List (PV × PV)} {L : List (NestedKey × Addr × V)} {xs : List (NestedKey × Addr × Value)} (r : RepX F μ H kvs L) (p : PL L xs) : (dfind kvs k).isSome = (atKey xs q).isSome := by
  obtain ⟨h1, h2⟩ := find_X hk r p
  cases e : dfind kvs k with
  | none => rw [h2 e]; rfl
  | some p => obtain ⟨v, b, u, e1, _⟩ := h1 p e; rw [e1]; rfl
def putX (L : List (NestedKey × Addr × V)) (there : Bool) (q : NestedKey) (b : Addr) (v : V) : List (NestedKey × Addr × V) :=
  if there then L.map (fun x => if x.1 = q then (x.1, x.2.1, v) else x) else L ++ [(q, b, v)]
theorem map_X {k : PV} {q : NestedKey} (hk : nkOf k = some q) {p : PV} {v : V} (rp : Rep F μ H p v) : ∀ {kvs : List (PV × PV)} {L : List (NestedKey × Addr × V)}, RepX F μ H kvs L →
    RepX F μ H (kvs.map fun e => if nkOf e.1 = nkOf k then (e.1, p) else e) (L.map fun x => if x.1 = q then (x.1, x.2.1, v) else x)
  | _, _, .nil => .nil
  | _, _, .cons (q := q1) (v := v1) e d c a b => by
    rw [List.map_cons, List.map_cons]
    simp only [e, hk]
    by_cases hq : q1 = q
    · subst hq
      rw [if_pos rfl, if_pos rfl]
      exact .cons e d c rp (by simpa only [hk] using map_X hk rp b)
    · have : ¬ (some q1 = some q) := fun z => hq (Option.some.inj z)
      rw [if_neg this, if_neg hq]
      exact .cons e d c a (by simpa only [hk] using map_X hk rp b)
theorem app_X {kvs ls : List (PV × PV)} {ks ms : List (NestedKey × Addr × V)} (a : RepX F μ H kvs ks) (b : RepX F μ H ls ms) : RepX F μ H (kvs ++ ls) (ks ++ ms) := by
  have go : ∀ {kvs : List (PV × PV)} {ks : List (NestedKey × Addr × V)}, RepX F μ H kvs ks → RepX F μ H (kvs ++ ls) (ks ++ ms) := by
    intro kvs
    induction kvs with
    | nil => intro ks a; cases a; exact b
    | cons x xs ih => intro ks a; cases a with | cons e d c p q => exact .cons e d c p (ih q)
  exact go a
theorem put_X {ks : List PV} {q : NestedKey} (hk : nkOf (.tup ks) = some q) (hd : q.depth ≤ 8) {c : Addr} (rc : Rep F μ H (.tup ks) (.ref c)) {p : PV} {v : V} (rp : Rep F μ H p v) {kvs : List (PV × PV)} {L : List (NestedKey × Addr × V)} (r : RepX F μ H kvs L) :
    RepX F μ H (dput kvs (.tup ks) p) (putX L (dfind kvs (.tup ks)).isSome q c v) := by
  unfold dput putX
  split
  · exact map_X hk rp r
  · exact app_X r (.cons hk hd rc rp .nil)
theorem len_X : ∀ {kvs : List (PV × PV)} {L : List (NestedKey × Addr × V)}, RepX F μ H kvs L → kvs.length = L.length
  | _, _, .nil => rfl
  | _, _, .cons _ _ _ _ b => by simp [len_X b]
theorem pl_map {q : NestedKey} {v : V} {u : Value} (rv : RelV v u) : ∀ {L : List (NestedKey × Addr × V)} {xs : List (NestedKey × Addr × Value)}, PL L xs → PL (L.map fun x => if x.1 = q then (x.1, x.2.1, v) else x) (xs.map (putAt q u))
  | _, _, .nil => .nil
  | _, _, .cons (a := y) (b := x) r rr => by
    obtain ⟨r1, r2, r3⟩ := r
    refine .cons ?_ (pl_map rv rr)
    unfold putAt
    dsimp only
    by_cases h : y.1 = q
    · rw [if_pos h, if_pos (by rw [← r1]; exact h)]
      exact ⟨r1, r2, rv⟩
    · rw [if_neg h, if_neg (by rw [← r1]; exact h)]
      exact ⟨r1, r2, r3⟩
theorem pl_app {L M : List (NestedKey × Addr × V)} {xs ys : List (NestedKey × Addr × Value)} (a : PL L xs) (b : PL M ys) : PL (L ++ M) (xs ++ ys) := by
  induction a with
  | nil => exact b
  | cons r _ ih => exact .cons r ih
theorem pl_put {q : NestedKey} {c : Addr} {v : V} {u : Value} (rv : RelV v u) {L : List (NestedKey × Addr × V)} {xs : List (NestedKey × Addr × Value)} (r : PL L xs) : PL (putX L (atKey xs q).isSome q c v) (storedH xs q c u) := by
  unfold putX storedH
  split
  · exact pl_map rv r
  · exact pl_app r (.cons ⟨rfl, rfl, rv⟩ .nil)
theorem len_putX (L : List (NestedKey × Addr × V)) (t : Bool) (q : NestedKey) (c : Addr) (v : V) : (putX L t q c v).length ≤ L.length + 1 := by
  unfold putX
  split <;> simp

/-! ### the raw dict -/
variable {pins : List (Addr × Obj)} {σ : L2.St} {s : Shared} {a : Addr}
theorem dx_raw (ft : Fit F X) (I : Inv X pins σ H s) {kvs : List (PV × PV)} {L : List (NestedKey × Addr × V)} (e : H a = some (DX F.P F.w a L)) (r : RepX F μ H kvs L) :
    L.length ≤ sizeLine ∧ (a == sysModules) = false ∧ ∃ xs, PL L xs ∧ s.heap.DictOfH (nestedKind F.P F.w) a xs := by
  obtain ⟨⟨hz, hd, xs, pl, o, es, ep, h1, h2, h3, h4, h5⟩, _⟩ := I.hok a _ e
  refine ⟨hz, hd, xs, pl, o, es, ep, h1, h2, h3, h4, ?_, h5⟩
  have all : ∀ {kvs : List (PV × PV)} {L : List (NestedKey × Addr × V)} {xs : List (NestedKey × Addr × Value)}, RepX F μ H kvs L → PL L xs → ∀ x ∈ xs, (nestedKind F.P F.w).is s.heap x.1 x.2.1 := by
    intro kvs L xs r p
    induction p generalizing kvs with
    | nil => intro x hx; cases hx
    | cons hq _ ih =>
      intro x hx
      cases r with
      | cons e d c a b =>
        rcases List.mem_cons.mp hx with ex | hx
        · subst ex
          obtain ⟨r1, r2, r3⟩ := hq
          exact ⟨nested_of ft I c (by rw [e]; exact congrArg some r1) (by show Value.ref _ = Value.ref _; rw [← r2]), by rw [← r1]; exact d⟩
        · exact ih b x hx
  exact all r pl
theorem dx_ok (ft : Fit F X) {h' : Heap} {H' : Hp} {L : List (NestedKey × Addr × V)} {xs : List (NestedKey × Addr × Value)} (hz : L.length ≤ sizeLine) (hd : (a == sysModules) = false) (pl : PL L xs) (dd : h'.DictOfH (nestedKind F.P F.w) a xs) :
    ObjOk X.prog X.w H' h' a (DX F.P F.w a L) := by
  obtain ⟨o, es, ep, h1, h2, h3, h4, _, h5⟩ := dd
  refine ⟨⟨hz, hd, xs, pl, o, es, ep, h1, h2, h3, h4, h5⟩, ⟨o, h1⟩, ?_⟩
  rintro g1 g2 ⟨z1, z2, ys, p, o', es', ep', k1, k2, k3, k4, k5⟩ st
  exact ⟨z1, z2, ys, p, o', es', ep', st _ k1, k2, k3, k4, k5⟩
theorem dx_empty (ft : Fit F X) (I : Inv X pins σ H s) (e : H a = some (.dK [])) : Inv X pins σ (upd H a (DX F.P F.w a [])) s := by
  obtain ⟨z, hd, vs, rel, o, es, ep, h1, h2, h3, h4, h5, h6⟩ := dk_rd I.hok (.inl e)
  cases rel
  have hes : es.toList = [] := by
    cases q : es.toList with
    | nil => rfl
    | cons x xs => rw [q] at h5; cases h5
  have I' : Inv X pins σ (upd H a (DX F.P F.w a [])) { s with heap := s.heap, toks := s.toks } := I.write (by rw [e]; trivial) (.inl rfl) (fun _ _ _ q => q) ⟨o, h1⟩
    ⟨⟨Nat.zero_le _, hd, [], .nil, o, es, ep, h1, h2, h3, by rw [hes]; rfl, List.nodup_nil⟩, ⟨o, h1⟩, by
      rintro g1 g2 ⟨z1, z2, ys, p, o', es', ep', k1, k2, k3, k4, k5⟩ st
      exact ⟨z1, z2, ys, p, o', es', ep', st _ k1, k2, k3, k4, k5⟩⟩
  exact I'
theorem dk_back (ft : Fit F X) (I : Inv X pins σ H s) (e : H a = some (DX F.P F.w a [])) : Inv X pins σ (upd H a (.dK [])) s := by
  obtain ⟨⟨hz, hd, xs, pl, o, es, ep, h1, h2, h3, h4, h5⟩, _⟩ := I.hok a _ e
  cases pl
  have I' : Inv X pins σ (upd H a (.dK [])) { s with heap := s.heap, toks := s.toks } := I.write (by rw [e]; trivial) (.inl rfl) (fun _ _ _ q => q) ⟨o, h1⟩
    ⟨Nat.zero_le _, hd, [], Paired.nil, o, es, ep, h1, h2, h3, (fun x hx => by rw [← Array.mem_toList_iff, h4] at hx; cases hx), (by rw [h4]; exact .nil), List.nodup_nil⟩
  exact I'

/-- what a dict is, whichever keys it has -/
theorem dct_type (ft : Fit F X) (I : Inv X pins σ H s) {kvs : List (PV × PV)} (o : OR F μ H a (.dct kvs)) : s.TypeIs (.ref a) "dict" ∧ (∀ b, Value.ref a = .ref b → ∃ ob, s.heap.get? b = some ob ∧ ob.dict = none) ∧ (a == sysModules) = false := by
  rcases o with ⟨ks, e, r⟩ | ⟨L, e, r⟩
  · exact isD_at I (.inl ⟨ks, .inl e⟩)
  · obtain ⟨hz, hd, xs, pl, dd⟩ := dx_raw ft I e r
    refine ⟨dd.typeIs, fun b q => ?_, hd⟩
    cases q
    obtain ⟨ob, _, _, h1, h2, _⟩ := dd
    exact ⟨ob, h1, h2.2.1⟩
theorem kok_key {kvs : List (PV × PV)} {k : PV} (h : kok kvs k = true) : (∃ q, keyOf k = some q ∧ (∀ e r, kvs = e :: r → kmode e.1 = some false)) ∨
    ∃ ks q, k = .tup ks ∧ nkOf (.tup ks) = some q ∧ q.depth ≤ 8 ∧ (∀ e r, kvs = e :: r → kmode e.1 = some true) := by
  unfold kok at h
  split at h
  · cases h
  · rename_i m hm
    have hh : ∀ e r, kvs = e :: r → kmode e.1 = some m := fun e r he => by subst he; simpa using h
    cases m with
    | false => obtain ⟨q, hq⟩ := kmode_false hm; exact .inl ⟨q, hq, hh⟩
    | true => obtain ⟨ks, q, e1, e2, e3⟩ := kmode_true hm; exact .inr ⟨ks, q, e1, e2, e3, hh⟩
/-- the dict as one with int and text keys, or as one with tuple keys; an empty one as is wanted -/
theorem dct_as (ft : Fit F X) (I : Inv X pins σ H s) {kvs : List (PV × PV)} {k : PV} (hk : kok kvs k = true) (o : OR F μ H a (.dct kvs)) :
    (∃ q ks, keyOf k = some q ∧ RepK F μ H kvs ks ∧ (H a = some (.dK ks) ∨ (kvs = [] ∧ Inv X pins σ (upd H a (.dK ks)) s))) ∨
      ∃ ts q L, k = .tup ts ∧ nkOf (.tup ts) = some q ∧ q.depth ≤ 8 ∧ RepX F μ H kvs L ∧ (H a = some (DX F.P F.w a L) ∨ (kvs = [] ∧ Inv X pins σ (upd H a (DX F.P F.w a L)) s)) := by
  rcases kok_key hk with ⟨q, hq, hm⟩ | ⟨ts, q, e1, e2, e3, hm⟩
  · refine .inl ?_
    rcases o with ⟨ks, e, r⟩ | ⟨L, e, r⟩
    · exact ⟨q, ks, hq, r, .inl e⟩
    · cases r with
      | nil => exact ⟨q, [], hq, .nil, .inr ⟨rfl, dk_back ft I e⟩⟩
      | cons e1 d c p b => exact absurd (hm _ _ rfl) (by rw [mode_tup e1 d]; simp)
  · refine .inr ?_
    rcases o with ⟨ks, e, r⟩ | ⟨L, e, r⟩
    · cases r with
      | nil => exact ⟨ts, q, [], e1, e2, e3, .nil, .inr ⟨rfl, dx_empty ft I e⟩⟩
      | cons e4 p b => exact absurd (hm _ _ rfl) (by rw [mode_key e4]; simp)
    · exact ⟨ts, q, L, e1, e2, e3, r, .inl e⟩
end
end Mw
end
section
set_option Elab.async false
set_option linter.all false
set_option maxRecDepth 100000
set_option maxHeartbeats 2000000
/-! Mw6: dict rules by values; comparisons; subscripts; slices; built-ins; methods. -/
namespace Mw
open PySem PySem.Spec PyProof.Rows L2

section
variable {F : Fx} {X : Cx} {μ : Zn} {H : Hp} {α : AH} {pins : List (Addr × Obj)} {σ : L2.St} {s : Shared} {a : Addr}

theorem upd_eq {G : Hp} {b : Addr} {o : HO} (h : G b = some o) : upd G b o = G := by
  funext c
  by_cases e : c = b
  · subst e; rw [upd_same, h]
  · rw [upd_ne e]
/-- the dict as the key wants it, and back -/
theorem dct_see (ft : Fit F X) (I : Inv X pins σ H s) {kvs : List (PV × PV)} {k : PV} (hk : kok kvs k = true) (o : OR F μ H a (.dct kvs)) :
    ∃ H1, Inv X pins σ H1 s ∧ (∀ s', Inv X pins σ H1 s' → Inv X pins σ H s') ∧ (∀ o, upd H1 a o = upd H a o) ∧
      ((∃ q ks, keyOf k = some q ∧ RepK F μ H1 kvs ks ∧ RepK F μ H kvs ks ∧ H1 a = some (.dK ks)) ∨
        ∃ ts q L, k = .tup ts ∧ nkOf (.tup ts) = some q ∧ q.depth ≤ 8 ∧ RepX F μ H1 kvs L ∧ RepX F μ H kvs L ∧ H1 a = some (DX F.P F.w a L)) := by
  rcases kok_key hk with ⟨q, hq, hm⟩ | ⟨ts, q, e1, e2, e3, hm⟩
  · rcases o with ⟨ks, e, r⟩ | ⟨L, e, r⟩
    · exact ⟨H, I, fun _ h => h, fun _ => rfl, .inl ⟨q, ks, hq, r, r, e⟩⟩
    · cases r with
      | nil =>
        refine ⟨_, dk_back ft I e, fun s' I' => ?_, fun _ => upd_upd, .inl ⟨q, [], hq, .nil, .nil, upd_same⟩⟩
        have := dx_empty ft I' upd_same
        rw [upd_upd, upd_eq e] at this
        exact this
      | cons e1 d c p b => exact absurd (hm _ _ rfl) (by rw [mode_tup e1 d]; simp)
  · rcases o with ⟨ks, e, r⟩ | ⟨L, e, r⟩
    · cases r with
      | nil =>
        refine ⟨_, dx_empty ft I e, fun s' I' => ?_, fun _ => upd_upd, .inr ⟨ts, q, [], e1, e2, e3, .nil, .nil, upd_same⟩⟩
        have := dk_back ft I' upd_same
        rw [upd_upd, upd_eq e] at this
        exact this
      | cons e4 p b => exact absurd (hm _ _ rfl) (by rw [mode_key e4]; simp)
    · exact ⟨H, I, fun _ h => h, fun _ => rfl, .inr ⟨ts, q, L, e1, e2, e3, r, r, e⟩⟩
theorem rep_ref {ts : List PV} {y : V} (h : Rep F μ H (.tup ts) y) : ∃ b, y = .ref b := by
  cases h with
  | tup _ _ => exact ⟨_, rfl⟩
  | tupW _ _ => exact ⟨_, rfl⟩
theorem nroom {A : Around} (h : A.units + 200 < cLine) : (nestedKind F.P F.w).room A.in1 := by
  show A.units + 1 + 8 < cLine
  omega
variable {A : Around} {E : Value → Shared → Prop} {kvs : List (PV × PV)} {k : PV} {y : V} {u : Value}
/-- d[k], there -/
theorem dx_get (ft : Fit F X) (hu : A.units + 200 < cLine) (I : Inv X pins σ H s) {Q : Value → Shared → Prop} (hk : kok kvs k = true) (o : OR F μ H a (.dct kvs)) (rk : Rep F μ H k y) (ry : RelV y u) {p : PV} (hp : dfind kvs k = some p)
    (h : ∀ v w' s', Inv X pins σ H s' → RelV v w' → Rep F μ H p v → Q w' s') : wpAny (model X.prog X.w) A (getItem (.ref a) u) Q E s := by
  obtain ⟨H1, I1, back, _, c⟩ := dct_see ft I hk o
  rcases c with ⟨q, ks, hq, _, r, e⟩ | ⟨ts, q, L, rfl, hq, hd, r1, r, e⟩
  · obtain ⟨v, e1, e2⟩ := (find_K hq r).1 p hp
    rw [rep_key hq rk] at ry
    exact d_getItem (by omega) I1 (by rw [← e1]; exact DGet.k e) ry fun w' s' I' rw' => h v w' s' (back s' I') rw' e2
  · obtain ⟨b, rfl⟩ := rep_ref rk
    cases ry
    obtain ⟨hz, hs, xs, pl, dd⟩ := dx_raw ft I1 e r1
    obtain ⟨v, b', u', e1, e2, e3⟩ := (find_X hq r pl).1 p hp
    rw [ft.P, ft.w]
    exact wpAny_getItem_heap (nroom hu) ⟨nested_of ft I rk hq rfl, hd⟩ dd e1 (h v _ _ (back _ (I1.tok _)) e2 e3)
theorem dx_in (ft : Fit F X) (hu : A.units + 200 < cLine) (I : Inv X pins σ H s) {Q : Value → Shared → Prop} (hk : kok kvs k = true) (o : OR F μ H a (.dct kvs)) (rk : Rep F μ H k y) (ry : RelV y u)
    (h : ∀ s', Inv X pins σ H s' → Q (.bool (dfind kvs k).isSome) s') : wpAny (model X.prog X.w) A (compareOp .In u (.ref a)) Q E s := by
  obtain ⟨H1, I1, back, _, c⟩ := dct_see ft I hk o
  rcases c with ⟨q, ks, hq, _, r, e⟩ | ⟨ts, q, L, rfl, hq, hd, r1, r, e⟩
  · rw [rep_key hq rk] at ry
    rw [isSome_K hq r] at h
    exact d_in (by omega) I1 (DGet.k e) ry fun s' I' => h s' (back s' I')
  · obtain ⟨b, rfl⟩ := rep_ref rk
    cases ry
    obtain ⟨hz, hs, xs, pl, dd⟩ := dx_raw ft I1 e r1
    rw [isSome_X hq r pl] at h
    rw [ft.P, ft.w]
    exact wpAny_in_heap (nroom hu) ⟨nested_of ft I rk hq rfl, hd⟩ hs dd (h _ (back _ (I1.tok _)))
theorem dx_notIn (ft : Fit F X) (hu : A.units + 200 < cLine) (I : Inv X pins σ H s) {Q : Value → Shared → Prop} (hk : kok kvs k = true) (o : OR F μ H a (.dct kvs)) (rk : Rep F μ H k y) (ry : RelV y u)
    (h : ∀ s', Inv X pins σ H s' → Q (.bool (!(dfind kvs k).isSome)) s') : wpAny (model X.prog X.w) A (compareOp .NotIn u (.ref a)) Q E s := by
  obtain ⟨H1, I1, back, _, c⟩ := dct_see ft I hk o
  rcases c with ⟨q, ks, hq, _, r, e⟩ | ⟨ts, q, L, rfl, hq, hd, r1, r, e⟩
  · rw [rep_key hq rk] at ry
    rw [isSome_K hq r] at h
    exact d_notIn (by omega) I1 (DGet.k e) ry fun s' I' => h s' (back s' I')
  · obtain ⟨b, rfl⟩ := rep_ref rk
    cases ry
    obtain ⟨hz, hs, xs, pl, dd⟩ := dx_raw ft I1 e r1
    rw [isSome_X hq r pl] at h
    rw [ft.P, ft.w]
    exact wpAny_notIn_heap (nroom hu) ⟨nested_of ft I rk hq rfl, hd⟩ hs dd (h _ (back _ (I1.tok _)))
/-- d[k] = v, the dict of the store -/
theorem dx_set (ft : Fit F X) (hu : A.units + 200 < cLine) (I : Inv X pins σ H s) {Q : Unit → Shared → Prop} (rel : Rel F μ α H) {i : Nat} (hi : μ.on[i]? = some a) (ha : α[i]? = some (.dct kvs)) (hk : kok kvs k = true) (hl : kvs.length < sizeLine)
    (rk : Rep F μ H k y) (ry : RelV y u) {p : PV} {v : V} {w' : Value} (rp : Rep F μ H p v) (rv : RelV v w')
    (h : ∀ H' s', Inv X pins σ H' s' → Le F μ H μ H' → Rel F μ (α.set i (.dct (dput kvs k p))) H' → Q () s') : wpAny (model X.prog X.w) A (setItem (.ref a) u w') Q E s := by
  have o : OR F μ H a (.dct kvs) := rel.obj i a _ hi ha
  obtain ⟨H1, I1, back, hup, c⟩ := dct_see ft I hk o
  rcases c with ⟨q, ks, hq, _, r, e⟩ | ⟨ts, q, L, rfl, hq, hd, r1, r, e⟩
  · rw [rep_key hq rk] at ry
    rw [len_K r] at hl
    refine d_setItem (by omega) I1 (DPut.k e hl) ry rv fun s' I' => ?_
    rw [hup] at I'
    obtain ⟨l, rel'⟩ := put_step rel (o' := .dK (putK ks q v)) (ao := .dct (dput kvs k p)) hi o.nf fun l => .inl ⟨_, upd_same, (put_K hq rp r).le l⟩
    exact h _ s' I' l rel'
  · obtain ⟨b, rfl⟩ := rep_ref rk
    cases ry
    obtain ⟨hz, hs, xs, pl, dd⟩ := dx_raw ft I1 e r1
    rw [len_X r] at hl
    have hxs : xs.length ≤ sizeLine := by rw [← Paired.length pl]; exact hz
    have hL : (putX L (dfind kvs (.tup ts)).isSome q b v).length ≤ sizeLine := by have := len_putX L (dfind kvs (.tup ts)).isSome q b v; omega
    rw [ft.P, ft.w]
    refine wpAny_setItem_heap (hsz := hxs) (nroom hu) ⟨nested_of ft I rk hq rfl, hd⟩ dd fun h' dd' hsb => ?_
    have pl' := pl_put (q := q) (c := b) rv pl
    rw [← isSome_X hq r pl] at pl'
    have he : ∃ q, h'.get? a = some q := let ⟨q, _, _, hq, _⟩ := dd'; ⟨q, hq⟩
    have I' := d_write (t' := s.toks + (nestedKind F.P F.w).draws q) I1 (by rw [e]; exact True.intro) hsb he (dx_ok (H' := upd H1 a (DX F.P F.w a (putX L (dfind kvs (.tup ts)).isSome q b v))) ft hL hs pl' dd')
    rw [hup] at I'
    obtain ⟨l, rel'⟩ := put_step rel (o' := DX F.P F.w a (putX L (dfind kvs (.tup ts)).isSome q b v)) (ao := .dct (dput kvs (.tup ts) p)) hi o.nf fun l => .inr ⟨_, upd_same, (put_X hq hd rk rp r).le l⟩
    exact h _ _ I' l rel'
/-- d.setdefault(k, v), the dict of the store -/
theorem dx_setdefault (ft : Fit F X) (hu : A.units + 200 < cLine) (I : Inv X pins σ H s) {Q : Value → Shared → Prop} (rel : Rel F μ α H) {i : Nat} (hi : μ.on[i]? = some a) (ha : α[i]? = some (.dct kvs)) (hk : kok kvs k = true) (hl : kvs.length < sizeLine)
    (hkt : kmode k = some true) (rk : Rep F μ H k y) (ry : RelV y u) {p : PV} {v : V} {w' : Value} (rp : Rep F μ H p v) (rv : RelV v w')
    (h1 : ∀ x z r s', dfind kvs k = some x → Inv X pins σ H s' → RelV z r → Rep F μ H x z → Q r s')
    (h2 : dfind kvs k = none → ∀ H' s', Inv X pins σ H' s' → Le F μ H μ H' → Rel F μ (α.set i (.dct (kvs ++ [(k, p)]))) H' → Q w' s') : wpAny (model X.prog X.w) A (call (.builtin "dict.setdefault") [.ref a, u, w']) Q E s := by
  have o : OR F μ H a (.dct kvs) := rel.obj i a _ hi ha
  obtain ⟨H1, I1, back, hup, c⟩ := dct_see ft I hk o
  rcases c with ⟨q, ks, hq, _, r, e⟩ | ⟨ts, q, L, rfl, hq, hd, r1, r, e⟩
  · rw [mode_key hq] at hkt; cases hkt
  · obtain ⟨b, rfl⟩ := rep_ref rk
    cases ry
    obtain ⟨hz, hs, xs, pl, dd⟩ := dx_raw ft I1 e r1
    rw [len_X r] at hl
    have hxs : xs.length ≤ sizeLine := by rw [← Paired.length pl]; exact hz
    obtain ⟨f1, f2⟩ := find_X hq r pl
    rw [ft.P, ft.w]
    refine call_setdefault_heap (hsz := hxs) (nroom hu) ⟨nested_of ft I rk hq rfl, hd⟩ hs dd (fun pr hpr => ?_) fun hn h' dd' hsb => ?_
    · cases hx : dfind kvs (.tup ts) with
      | none => rw [f2 hx] at hpr; cases hpr
      | some x =>
        obtain ⟨z, b', u', e1, e2, e3⟩ := f1 x hx
        rw [e1] at hpr; cases hpr
        exact h1 x z _ _ hx (back _ (I1.tok _)) e2 e3
    · have hx : dfind kvs (.tup ts) = none := by
        cases hx : dfind kvs (.tup ts) with
        | none => rfl
        | some x => obtain ⟨z, b', u', e1, _⟩ := f1 x hx; rw [hn] at e1; cases e1
      have hL : (L ++ [(q, b, v)]).length ≤ sizeLine := by rw [List.length_append]; simp; omega
      have pl' : PL (L ++ [(q, b, v)]) (storedH xs q b w') := by rw [storedH_new hn]; exact pl_app pl (.cons ⟨rfl, rfl, rv⟩ .nil)
      have he : ∃ q, h'.get? a = some q := let ⟨q, _, _, hq, _⟩ := dd'; ⟨q, hq⟩
      have I' := d_write (t' := s.toks + (nestedKind F.P F.w).draws q) I1 (by rw [e]; exact True.intro) hsb he (dx_ok (H' := upd H1 a (DX F.P F.w a (L ++ [(q, b, v)]))) ft hL hs pl' dd')
      rw [hup] at I'
      obtain ⟨l, rel'⟩ := put_step rel (o' := DX F.P F.w a (L ++ [(q, b, v)])) (ao := .dct (kvs ++ [(.tup ts, p)])) hi o.nf fun l => .inr ⟨_, upd_same, (app_X r (.cons hq hd rk rp .nil)).le l⟩
      exact h2 hx _ _ I' l rel'
/-- a dict that is read: of the store or not -/
theorem pairsD_at (rel : Rel F μ α H) {p : PV} {v : V} {kvs : List (PV × PV)} (h : pairsD α p = some kvs) (rp : Rep F μ H p v) : ∃ a, v = .ref a ∧ OR F μ H a (.dct kvs) := by
  cases rp with
  | fdK n e q => cases h; exact ⟨_, rfl, .inl ⟨_, e, q⟩⟩
  | fdX n e q => cases h; exact ⟨_, rfl, .inr ⟨_, e, q⟩⟩
  | ref e =>
    unfold pairsD at h
    simp only at h
    split at h
    · rename_i ys hy
      cases h
      exact ⟨_, rfl, rel.obj _ _ _ e hy⟩
    · cases h
  | _ => simp [pairsD] at h
theorem dctAt_at (rel : Rel F μ α H) {p : PV} {v : V} {k : Nat} {kvs : List (PV × PV)} (h : dctAt α p = some (k, kvs)) (rp : Rep F μ H p v) : ∃ a, v = .ref a ∧ μ.on[k]? = some a ∧ α[k]? = some (.dct kvs) := by
  unfold dctAt at h
  split at h
  · split at h
    · rename_i i ys hy
      cases h
      cases rp with
      | ref e => exact ⟨_, rfl, e, hy⟩
    · cases h
  · cases h

/-! ### comparisons -/
theorem scalP_at {p q : PV} {x y : V} (h : scalP p q = true) (rp : Rep F μ H p x) (rq : Rep F μ H q y) : scal x y = true ∧ decide (x = y) = decide (p = q) := by
  cases p <;> cases q <;> simp only [scalP, Bool.false_eq_true] at h <;> (cases rp; cases rq; exact ⟨rfl, by simp⟩)
theorem eqP_at (rel : Rel F μ α H) {p q : PV} {x y : V} (rp : Rep F μ H p x) (rq : Rep F μ H q y) {Q : VK} {f : Bool → Bool} (h : PostN F μ H ((eqP p q α).bind fun b α => .ok (.bl (f b)) α) Q) :
    (scal x y = true ∧ Q (.bl (f (decide (x = y)))) H) ∨ ∃ d e, Dp F.K H x d ∧ Dp F.K H y e ∧ SeqAt.shaped d = true ∧ SeqAt.shaped e = true ∧ Q (.bl (f (PyData.eqv d e))) H := by
  unfold eqP at h
  cases hs : scalP p q with
  | true =>
    rw [hs] at h
    obtain ⟨h1, h2⟩ := scalP_at hs rp rq
    exact .inl ⟨h1, by rw [h2]; exact PostN.here rel h (.bl _) rfl⟩
  | false =>
    rw [hs] at h
    refine .inr ?_
    dsimp only at h
    split at h
    · rename_i d e hd he
      obtain ⟨d1, d2⟩ := toS_at rel rp hd
      obtain ⟨e1, e2⟩ := toS_at rel rq he
      exact ⟨d, e, d1, e1, d2, e2, PostN.here rel h (.bl _) rfl⟩
    · exact False.elim h
theorem ints_at {p q : PV} {x y : V} (rel : Rel F μ α H) (rp : Rep F μ H p x) (rq : Rep F μ H q y) {Q : VK} {f : Int → Int → Bool} (h : PostN F μ H (cmpI f p q α) Q) : ∃ i j, x = .int i ∧ y = .int j ∧ Q (.bl (f i j)) H := by
  unfold cmpI at h
  split at h
  · cases rp; cases rq
    exact ⟨_, _, rfl, rfl, PostN.here rel h (.bl _) rfl⟩
  · exact False.elim h
/-- x in c, by what c is -/
theorem in_core (ft : Fit F X) {op : CmpOp} {f : Bool → Bool} (hdct : ∀ {kvs : List (PV × PV)} {k : PV} {y : V} {u : Value} {H : Hp} {μ : Zn} {a : Addr} {pins : List (Addr × Obj)} {σ : L2.St} {s : Shared} {Q : Value → Shared → Prop}, Inv X pins σ H s → kok kvs k = true → OR F μ H a (.dct kvs) → Rep F μ H k y → RelV y u →
      (∀ s', Inv X pins σ H s' → Q (.bool (f (dfind kvs k).isSome)) s') → wpAny (model X.prog X.w) X.A (compareOp op u (.ref a)) Q X.xe s)
    (hstr : OpR X (compareOp op) (fun x y H Q => ∃ i j, x = .str i ∧ y = .str j ∧ Q (.bl (f (!(Builtin.Str.occurrences j i 0 j.length 1).isEmpty))) H))
    (hlst : OpR X (compareOp op) (fun x y H Q => ∃ d ds, Dp X.K H x d ∧ (Dp X.K H y (.list ds) ∨ Dp X.K H y (.tuple ds)) ∧ SeqAt.shaped d = true ∧ SeqAt.shaped (.list ds) = true ∧ Q (.bl (f (ds.any fun z => PyData.eqv z d))) H)) :
    OpN F X (compareOp op) (fun p q α => (inP p q α).bind fun b α => .ok (.bl (f b)) α) := by
  intro pins s σ H x y v u Q I rx ry h
  obtain ⟨p, q, μ, α, rel, rp, rq, h⟩ := h
  unfold inP at h
  dsimp only at h
  split at h
  · rename_i kvs hkv
    obtain ⟨a, rfl, o⟩ := pairsD_at rel hkv rq
    cases ry
    cases hk : kok kvs p with
    | false => rw [hk] at h; exact False.elim h
    | true =>
      rw [hk] at h
      exact hdct I hk o rp rx fun s' I' => ⟨.bl _, H, I', rfl, PostN.here rel h (.bl _) rfl⟩
  · split at h
    · cases rp; cases rq
      exact hstr pins s σ H _ _ v u Q I rx ry ⟨_, _, rfl, rfl, PostN.here rel h (.bl _) rfl⟩
    · split at h
      · rename_i xs ds d h1 h2 h3
        obtain ⟨e1, e2⟩ := toS_at rel rq h2
        obtain ⟨d1, d2⟩ := toS_at rel rp h3
        exact hlst pins s σ H x y v u Q I rx ry ⟨d, ds, by rw [ft.K]; exact d1, .inl (by rw [ft.K]; exact e1), d2, e2, PostN.here rel h (.bl _) rfl⟩
      · rename_i xs ds d h1 h2 h3
        obtain ⟨e1, e2⟩ := toS_at rel rq h2
        obtain ⟨d1, d2⟩ := toS_at rel rp h3
        have e2' : SeqAt.shaped (.list ds) = true := by
          unfold SeqAt.shaped at e2 ⊢
          simpa [PyData.canLay0, PyData.depth] using e2
        exact hlst pins s σ H x y v u Q I rx ry ⟨d, ds, by rw [ft.K]; exact d1, .inr (by rw [ft.K]; exact e1), d2, e2', PostN.here rel h (.bl _) rfl⟩
      · exact False.elim h
theorem op_inSeq (hu : X.A.units + 65 < cLine) : OpR X (compareOp .In) (fun x y H Q => ∃ d ds, Dp X.K H x d ∧ (Dp X.K H y (.list ds) ∨ Dp X.K H y (.tuple ds)) ∧ SeqAt.shaped d = true ∧ SeqAt.shaped (.list ds) = true ∧ Q (.bl (ds.any fun z => PyData.eqv z d)) H) := by
  intro pins s σ H x y v u Q I rx ry h
  obtain ⟨d, ds, hd, he, sd, se, q⟩ := h
  obtain ⟨as, r1⟩ := Dp.reads I d x v hd rx
  rcases he with he | he
  · obtain ⟨bs, r2⟩ := Dp.reads I _ y u he ry
    exact SeqAt.in_list_reads r2 r1 (SeqAt.canLay_of_shaped se) (SeqAt.canLay_of_shaped sd) (room_in_shaped sd hu) ⟨.bl _, H, I, rfl, q⟩
  · obtain ⟨bs, r2⟩ := Dp.reads I _ y u he ry
    exact SeqAt.in_tuple_reads r2 r1 (SeqAt.canLay_of_shaped se) (SeqAt.canLay_of_shaped sd) (room_in_shaped sd hu) ⟨.bl _, H, I, rfl, q⟩
theorem op_notInSeq (hu : X.A.units + 65 < cLine) : OpR X (compareOp .NotIn) (fun x y H Q => ∃ d ds, Dp X.K H x d ∧ (Dp X.K H y (.list ds) ∨ Dp X.K H y (.tuple ds)) ∧ SeqAt.shaped d = true ∧ SeqAt.shaped (.list ds) = true ∧ Q (.bl (!(ds.any fun z => PyData.eqv z d))) H) := by
  intro pins s σ H x y v u Q I rx ry h
  obtain ⟨d, ds, hd, he, sd, se, q⟩ := h
  obtain ⟨as, r1⟩ := Dp.reads I d x v hd rx
  rcases he with he | he
  · obtain ⟨bs, r2⟩ := Dp.reads I _ y u he ry
    exact SeqAt.notIn_list_reads r2 r1 (SeqAt.canLay_of_shaped se) (SeqAt.canLay_of_shaped sd) (room_in_shaped sd hu) ⟨.bl _, H, I, rfl, q⟩
  · obtain ⟨bs, r2⟩ := Dp.reads I _ y u he ry
    exact SeqAt.notIn_tuple_reads r2 r1 (SeqAt.canLay_of_shaped se) (SeqAt.canLay_of_shaped sd) (room_in_shaped sd hu) ⟨.bl _, H, I, rfl, q⟩
theorem op_cop (ft : Fit F X) : ∀ o, OpN F X (compareOp (copS o)) (cop o) := by
  have hr := ft.room
  intro o
  cases o with
  | eq =>
    refine op_imp ((op_eq (X := X)).or (op_eqD (X := X) (by omega))) fun x y H Q ⟨p, q, μ, α, rel, rp, rq, h⟩ => ?_
    rw [rEqD, ft.K]
    exact eqP_at (f := fun b => b) rel rp rq h
  | ne =>
    refine op_imp ((op_ne (X := X)).or (op_neD (X := X) (by omega))) fun x y H Q ⟨p, q, μ, α, rel, rp, rq, h⟩ => ?_
    rw [rNeD, ft.K]
    exact eqP_at (f := fun b => !b) rel rp rq h
  | lt => exact op_imp (op_lt (X := X)) fun x y H Q ⟨p, q, μ, α, rel, rp, rq, h⟩ => ints_at rel rp rq h
  | le => exact op_imp (op_le (X := X)) fun x y H Q ⟨p, q, μ, α, rel, rp, rq, h⟩ => ints_at rel rp rq h
  | gt => exact op_imp (op_gt (X := X)) fun x y H Q ⟨p, q, μ, α, rel, rp, rq, h⟩ => ints_at rel rp rq h
  | ge => exact op_imp (op_ge (X := X)) fun x y H Q ⟨p, q, μ, α, rel, rp, rq, h⟩ => ints_at rel rp rq h
  | isin =>
    exact in_core (op := .In) (f := fun b => b) ft (fun I hk o rk ry h => dx_in ft hr I hk o rk ry h) (op_in_str (X := X)) (op_inSeq (by omega))
  | notin =>
    exact in_core (op := .NotIn) (f := fun b => !b) ft (fun I hk o rk ry h => dx_notIn ft hr I hk o rk ry h) (op_notin_str (X := X)) (op_notInSeq (by omega))
  | isn =>
    refine op_imp (op_isN (X := X)) fun x y H Q ⟨p, q, μ, α, rel, rp, rq, h⟩ => ?_
    simp only [cop] at h
    split at h
    · cases rq
      refine ⟨rfl, ?_⟩
      have e : decide (p = PV.non) = decide (x = V.non) := by cases rp <;> simp
      rw [← e]
      exact PostN.here rel h (.bl _) rfl
    · exact False.elim h
  | notn =>
    refine op_imp (op_notN (X := X)) fun x y H Q ⟨p, q, μ, α, rel, rp, rq, h⟩ => ?_
    simp only [cop] at h
    split at h
    · cases rq
      refine ⟨rfl, ?_⟩
      have e : decide (p = PV.non) = decide (x = V.non) := by cases rp <;> simp
      rw [← e]
      exact PostN.here rel h (.bl _) rfl
    · exact False.elim h
end
end Mw
end
section
set_option Elab.async false
set_option linter.all false
set_option maxRecDepth 100000
set_option maxHeartbeats 2000000
/-! Mw7: subscripts, slices, stores, built-ins, methods. -/
namespace Mw
open PySem PySem.Spec PyProof.Rows L2

section
variable {F : Fx} {X : Cx} {μ : Zn} {H : Hp} {α : AH}

theorem need_okG {β : Type} {c : Bool} {r : Res β} {γ : Type} {R : Zn → Hp → β → γ → Prop} {Q : γ → Hp → Prop} (h : Post F μ H (need c r) R Q) : c = true ∧ Post F μ H r R Q := by
  cases c with
  | true => exact ⟨rfl, h⟩
  | false => exact h.elim
theorem rep_at : ∀ {ps : List PV} {vs : List V} {i : Int} {p : PV}, RepL F μ H ps vs → atI ps i = some p → ∃ v, atI vs i = some v ∧ Rep F μ H p v := by
  intro ps vs i p r h
  unfold atI at h ⊢
  rw [← r.length]
  cases e : ixN ps.length i with
  | none => rw [e] at h; cases h
  | some j =>
    rw [e] at h
    exact r.get h

/-! ### o[i] -/
theorem ix_all (ft : Fit F X) : IxR X (fun x y H Q => ∃ p q μ α, Rel F μ α H ∧ Rep F μ H p x ∧ Rep F μ H q y ∧ Post F μ H (ixP p q α) (Rep F) Q) := by
  intro value slice pins s σ H x y v u Q I rx ry h hs
  obtain ⟨p, q, μ, α, rel, rp, rq, h⟩ := h
  unfold ixP at h
  split at h
  · rename_i kvs hkv
    obtain ⟨a, rfl, o⟩ := pairsD_at rel hkv rp
    cases rx
    obtain ⟨hk, h⟩ := need_okG h
    cases hf : dfind kvs q with
    | none => rw [hf] at h; exact False.elim h
    | some z =>
      rw [hf] at h
      exact tail_any (ops := [.ref a, u]) (dct_type ft I o).1 PySem.F.slot_dict_getitem.lookup (dx_get ft ft.room I hk o rq ry hf fun zv w' s' I' rw' rz => ⟨zv, H, I', rw', Post.here rel h rz⟩) hs
  · split at h
    · rename_i str j
      cases rp; cases rq
      obtain ⟨hz, h⟩ := need_okG h
      split at h
      · rename_i c hc
        exact ix_str value slice pins s σ H _ _ v u Q I rx ry ⟨_, _, c, rfl, rfl, of_decide_eq_true hz, hc, Post.here rel h (.str _)⟩ hs
      · exact False.elim h
    · split at h
      · rename_i xs hx
        cases rq
        cases hp : atI xs _ with
        | none => rw [hp] at h; exact False.elim h
        | some z =>
          rw [hp] at h
          obtain ⟨a, vs, rfl, rl, c⟩ := itemsS_at rel hx rp
          obtain ⟨zv, e1, e2⟩ := rep_at rl hp
          rcases c with ⟨_, c⟩ | c
          · exact ix_tup value slice pins s σ H _ _ v u Q I rx ry ⟨a, vs, _, zv, rfl, rfl, by rw [ft.K]; exact c, e1, Post.here rel h e2⟩ hs
          · exact ix_list value slice pins s σ H _ _ v u Q I rx ry ⟨a, vs, _, zv, rfl, rfl, by rw [ft.K]; exact c, e1, Post.here rel h e2⟩ hs
      · exact False.elim h
    · exact False.elim h

/-! ### o[lo:hi], o[::-1] -/
theorem cut_rep {ps : List PV} {vs : List V} (r : RepL F μ H ps vs) (lo hi : Option Int) : RepL F μ H (cutP ps lo hi) (cutV vs lo hi) := by
  unfold cutP cutV
  rw [r.length]
  exact (r.drop _).take _
theorem sl_all (ft : Fit F X) : SlR X (fun x lo hi H Q => ∃ p μ α, Rel F μ α H ∧ Rep F μ H p x ∧ PostN F μ H (slP p lo hi α) Q) := by
  refine fun pins s σ H x v vl vu lo hi sl Q I rx hs pl pu h => ?_
  obtain ⟨p, μ, α, rel, rp, h⟩ := h
  unfold slP at h
  split at h
  · rename_i xs0
    obtain ⟨a, vs, rfl, e, q⟩ := rp.sqt
    refine sl_tupA pins s σ H _ v vl vu lo hi sl Q I rx hs pl pu ⟨a, vs, rfl, by rw [ft.K]; exact e, fun hw => ?_, fun _ c hc => h.newT rel hc (cut_rep q lo hi)⟩
    have : cutP xs0 lo hi = xs0 := by
      unfold cutP
      rw [q.length, hw.1, hw.2, List.drop_zero, Nat.sub_zero, ← q.length, List.take_length]
    rw [this] at h
    exact h.here rel rp rfl
  · rename_i hnt
    split at h
    · rename_i xs hx
      obtain ⟨a, vs, rfl, rl, c⟩ := itemsS_at rel hx rp
      rcases c with ⟨e, _⟩ | c
      · exact absurd e (hnt xs)
      · exact sl_list pins s σ H _ v vl vu lo hi sl Q I rx hs pl pu ⟨a, vs, rfl, by rw [ft.K]; exact c, fun c hc => h.newL rel hc (cut_rep rl lo hi)⟩
    · exact False.elim h
theorem rev_at (ft : Fit F X) {p : PV} {x : V} {Q : VK} (rel : Rel F μ α H) (rp : Rep F μ H p x) (h : PostN F μ H (revP p α) Q) : ∃ a xs, x = .ref a ∧ SqL X.K H a xs ∧ ∀ p, H p = none → Q (.ref p) (upd H p (.lst xs.reverse)) := by
  unfold revP at h
  split at h
  · exact False.elim h
  · rename_i hnt
    split at h
    · rename_i xs hx
      obtain ⟨a, vs, rfl, rl, c⟩ := itemsS_at rel hx rp
      rcases c with ⟨e, _⟩ | c
      · exact absurd e (hnt xs)
      · exact ⟨a, vs, rfl, by rw [ft.K]; exact c, fun c hc => h.newL rel hc rl.reverse⟩
    · exact False.elim h

/-! ### o[i] = v -/
theorem set_all (ft : Fit F X) : PSet X (fun o i v H Q => ∃ p q r μ α, Rel F μ α H ∧ Rep F μ H p o ∧ Rep F μ H q i ∧ Rep F μ H r v ∧ Post F μ H (setP p q r α) (fun _ _ _ (_ : Unit) => True) (fun _ H' => Q H')) := by
  intro pins s σ H o i v ov iv u Q I ro ri rv h
  obtain ⟨p, q, r, μ, α, rel, rp, rq, rr, h⟩ := h
  unfold setP at h
  split at h
  · rename_i k kvs hk
    obtain ⟨a, rfl, hi, ha⟩ := dctAt_at rel hk rp
    cases ro
    obtain ⟨hc, h⟩ := need_okG h
    rw [Bool.and_eq_true] at hc
    exact dx_set ft ft.room I rel hi ha hc.1 (of_decide_eq_true hc.2) rq ri rr rv fun H' s' I' l rel' => ⟨H', I', h _ _ () l rel' trivial⟩
  · split at h
    · rename_i k xs j hk
      obtain ⟨a, vs, rfl, hi, ha, hH, rl⟩ := lstAt_at rel hk rp
      cases rq
      split at h
      · rename_i n hn
        obtain ⟨l, rel'⟩ := put_list rel hi hH (rl.set rr n)
        exact set_list pins s σ H _ _ v ov iv u Q I ro ri rv ⟨a, vs, _, n, rfl, rfl, hH, by rw [← rl.length]; exact hn, h _ _ () l rel' trivial⟩
      · exact False.elim h
    · exact False.elim h

/-! ### built-ins -/
theorem bls_at : ∀ {ps : List PV} {vs : List V} {bs : List Bool}, RepL F μ H ps vs → blsOf ps = some bs → vs = bs.map V.bl
  | _, _, _, .nil, h => by simp only [blsOf, Option.some.injEq] at h; subst h; rfl
  | _, _, _, .cons a b, h => by
    cases a <;> simp only [blsOf, Option.map_eq_some_iff, reduceCtorEq] at h
    obtain ⟨ds, h, rfl⟩ := h
    rw [bls_at b h]
    rfl
def b1I : B1 → Value
  | .len => .builtin "len"
  | .list => .type "list"
  | .tuple => .type "tuple"
  | .sorted => .builtin "sorted"
  | .all => .builtin "all"
  | .any => .builtin "any"
  | .repr => .builtin "repr"
  | .str => .type "str"
def b2I : B2 → Value
  | .min => .builtin "min"
  | .max => .builtin "max"
/-- a built-in called with one value -/
def CrN (F : Fx) (X : Cx) (f : Value) (pr : PV → AH → Res PV) : Prop := CallR X f (fun xs H Q => ∃ x p μ α, xs = [x] ∧ Rel F μ α H ∧ Rep F μ H p x ∧ PostN F μ H (pr p α) Q)
theorem call_lenX (ft : Fit F X) : CrN F X (.builtin "len") (b1 .len) := by
  intro pins s σ H xs us Q I r h
  obtain ⟨x, p, μ, α, rfl, rel, rp, h⟩ := h
  simp only [b1] at h
  split at h
  · rename_i kvs hkv
    obtain ⟨a, rfl, o⟩ := pairsD_at rel hkv rp
    obtain ⟨u, rfl, r1⟩ := vals1 r
    cases r1
    rcases o with ⟨ks, e, q⟩ | ⟨L, e, q⟩
    · rw [len_K q] at h
      exact d_len I (.inl e) fun t s' I' => ⟨.int _, H, I', ⟨t, rfl⟩, h.here rel (.int _) rfl⟩
    · obtain ⟨hz, hd, xs, pl, dd⟩ := dx_raw ft I e q
      rw [len_X q, Paired.length pl] at h
      rw [ft.P, ft.w]
      refine call_len_dictH hd dd (by rw [← Paired.length pl]; rw [sizeLine_eq] at hz; omega) ?_
      exact ⟨.int _, H, I.tok _, ⟨_, rfl⟩, h.here rel (.int _) rfl⟩
  · split at h
    · cases rp
      obtain ⟨hz, h⟩ := need_ok h
      exact call_len pins s σ H _ us Q I r ⟨_, _, rfl, ⟨of_decide_eq_true hz, rfl⟩, h.here rel (.int _) rfl⟩
    · split at h
      · rename_i xs hx
        obtain ⟨a, vs, rfl, rl, c⟩ := itemsS_at rel hx rp
        rw [rl.length] at h
        refine call_len pins s σ H _ us Q I r ⟨_, vs.length, rfl, ?_, h.here rel (.int _) rfl⟩
        rw [ft.K]
        rcases c with ⟨_, c⟩ | c
        · exact .inr ⟨vs, c, rfl⟩
        · exact .inl ⟨vs, c, rfl⟩
      · exact False.elim h
theorem call_listX (ft : Fit F X) : CrN F X (.type "list") (b1 .list) := by
  refine cr_imp (call_list_of (X := X)) fun xs H Q h => ?_
  obtain ⟨x, p, μ, α, rfl, rel, rp, h⟩ := h
  simp only [b1] at h
  split at h
  · rename_i xs hx
    obtain ⟨a, vs, rfl, rl, c⟩ := itemsS_at rel hx rp
    exact ⟨a, vs, rfl, by rw [ft.K]; exact c.elim (fun c => .inr c.2) .inl, fun l hl => h.newL rel hl rl⟩
  · exact False.elim h
theorem call_tupleX (ft : Fit F X) : CrN F X (.type "tuple") (b1 .tuple) := by
  refine cr_imp (call_tuple_of (X := X)) fun xs H Q h => ?_
  obtain ⟨x, p, μ, α, rfl, rel, rp, h⟩ := h
  simp only [b1] at h
  split at h
  · rename_i xs hx
    obtain ⟨a, vs, rfl, rl, c⟩ := itemsS_at rel hx rp
    refine ⟨a, vs, rfl, ?_⟩
    rcases c with ⟨e, c⟩ | c
    · refine .inr ⟨by rw [ft.K]; exact c, ?_⟩
      subst e
      exact h.here rel rp rfl
    · exact .inl ⟨by rw [ft.K]; exact c, fun l hl => h.newT rel hl rl⟩
  · exact False.elim h
theorem bools_src (rel : Rel F μ α H) {p : PV} {x : V} {bs : List Bool} (hnt : ∀ xs, p ≠ .tup xs) (rp : Rep F μ H p x) (h : (itemsS α p).bind blsOf = some bs) : ∃ a, x = .ref a ∧ SqL F.K H a (bs.map V.bl) := by
  obtain ⟨xs, hx, hb⟩ := Option.bind_eq_some_iff.mp h
  obtain ⟨a, vs, rfl, rl, c⟩ := itemsS_at rel hx rp
  rcases c with ⟨e, _⟩ | c
  · exact absurd e (hnt xs)
  · rw [bls_at rl hb] at c
    exact ⟨a, rfl, c⟩
theorem call_allX (ft : Fit F X) : CrN F X (.builtin "all") (b1 .all) := by
  refine cr_imp (cr_all (X := X) ft.calm) fun xs H Q h => ?_
  obtain ⟨x, p, μ, α, rfl, rel, rp, h⟩ := h
  simp only [b1] at h
  split at h
  · exact False.elim h
  · rename_i hnt
    split at h
    · rename_i bs hb
      obtain ⟨a, rfl, c⟩ := bools_src rel (fun xs e => hnt xs e) rp hb
      exact ⟨a, bs, rfl, by rw [ft.K]; exact c, h.here rel (.bl _) rfl⟩
    · exact False.elim h
theorem call_anyX (ft : Fit F X) : CrN F X (.builtin "any") (b1 .any) := by
  refine cr_imp (cr_any (X := X) ft.calm) fun xs H Q h => ?_
  obtain ⟨x, p, μ, α, rfl, rel, rp, h⟩ := h
  simp only [b1] at h
  split at h
  · exact False.elim h
  · rename_i hnt
    split at h
    · rename_i bs hb
      obtain ⟨a, rfl, c⟩ := bools_src rel (fun xs e => hnt xs e) rp hb
      exact ⟨a, bs, rfl, by rw [ft.K]; exact c, h.here rel (.bl _) rfl⟩
    · exact False.elim h
theorem call_strX : CrN F X (.type "str") (b1 .str) := by
  refine cr_imp (call_str_int (X := X)) fun xs H Q h => ?_
  obtain ⟨x, p, μ, α, rfl, rel, rp, h⟩ := h
  simp only [b1] at h
  split at h
  · cases rp
    obtain ⟨hz, h⟩ := need_ok h
    exact ⟨_, rfl, of_decide_eq_true hz, h.here rel (.str _) rfl⟩
  · exact False.elim h
/-- a built-in called with two values -/
def CrN2 (F : Fx) (X : Cx) (f : Value) (pr : PV → PV → AH → Res PV) : Prop := CallR X f (fun xs H Q => ∃ x y p q μ α, xs = [x, y] ∧ Rel F μ α H ∧ Rep F μ H p x ∧ Rep F μ H q y ∧ PostN F μ H (pr p q α) Q)
theorem ints_two (rel : Rel F μ α H) {p q : PV} {x y : V} (rp : Rep F μ H p x) (rq : Rep F μ H q y) {Q : VK} {g : Int → Int → Int} (h : PostN F μ H (intsP (fun _ _ => true) g p q α) Q) : ∃ i j, [x, y] = [V.int i, V.int j] ∧ Q (.int (g i j)) H := by
  unfold intsP at h
  split at h
  · cases rp; cases rq
    exact ⟨_, _, rfl, PostN.here rel h (.int _) rfl⟩
  · exact False.elim h
theorem call_b2 (ft : Fit F X) : ∀ f, CrN2 F X (b2I f) (b2 f) := by
  intro f
  cases f with
  | min => exact cr_imp (call_min2 (X := X) ft.calm) fun xs H Q ⟨x, y, p, q, μ, α, e, rel, rp, rq, h⟩ => e ▸ ints_two rel rp rq h
  | max => exact cr_imp (call_max2 (X := X) ft.calm) fun xs H Q ⟨x, y, p, q, μ, α, e, rel, rp, rq, h⟩ => e ▸ ints_two rel rp rq h

/-! ### sorted -/
theorem sorted_src {P : Program} {w : World} {A : Around} {E : Value → Shared → Prop} {s : Shared} {u : Addr} {T : String} {o : Obj} {n : Nat} {vs : List Value} {bs : List PV} {en : PV → PyData} {R : Value → PV → Prop} {Q : Value → Shared → Prop}
    (hT : T = "list" ∨ T = "tuple") (ho : s.heap.get? u = some o) (hc : o.cls = .type T) (hd : o.data = .seq vs.toArray n) (hL : vs.length ≤ sizeLine)
    (e : PySem.W.EachIs R vs bs) (er : PySem.W.EachIs (fun v b => ∃ as, Reads s.heap v (en b) as) vs bs) (hal : PySem.W.AllAlike (bs.map en)) (hk : PySem.W.Sortable (bs.map en)) (hu : ∀ b, b ∈ bs → A.units + 2 + (en b).depth < cLine)
    (h : ∀ (h1 h' : Heap) (out : List Value), (∀ b x, s.heap.get? b = some x → h1.get? b = some x) → (∀ b x, h1.get? b = some x → h'.get? b = some x) → PySem.W.EachIs R out (bs.mergeSort (PySem.W.dataLe false en)) → (∃ k, h'.get? h1.objs.size = some { cls := .type "list", data := .seq out.toArray k }) → out.length = bs.length → Q (.ref h1.objs.size) { s with heap := h' }) :
    wpAny (model P w) A (call (.builtin "sorted") [.ref u]) Q E s := by
  refine PySem.Calls.call_function_entry PyProof.Rows.kind_sorted PyProof.Rows.plain_sorted PyProof.Rows.entry_sorted (PyProof.Rows.args_sorted1 _) ?_
  unfold Builtin.«sorted»
  refine wpAny_bind (m := checkCount "sorted" 1 1 _) (wpAny_pure ?_)
  refine wpAny_bind (wpAny_collect_seq u hT ho hc hd (fun h1 k1 => ?_) (by simpa using hL))
  rw [List.toList_toArray]
  refine wpAny_bind (wpAny_newList ?_ hL)
  have hD : (h1.push (seqObj "list" vs.toArray 0)).get? h1.objs.size = some (seqObj "list" vs.toArray 0) := Heap.get?_push_size _ rfl
  have hold : ∀ b x, s.heap.get? b = some x → b ≠ h1.objs.size ∧ (h1.push (seqObj "list" vs.toArray 0)).get? b = some x := fun b x q => ⟨Nat.ne_of_lt (Heap.lt_size (k1 b x q)), Heap.get?_push_of_some _ (k1 b x q)⟩
  show wpAny _ _ _ _ _ { s with heap := h1.push (seqObj "list" vs.toArray 0) }
  have hso : ∀ b x, s.heap.get? b = some x → (PySem.W.sortingHeap (h1.push (seqObj "list" vs.toArray 0)) h1.objs.size vs).get? b = some x := fun b x q => by
    unfold PySem.W.sortingHeap
    refine Heap.get?_push_of_some _ (Heap.get?_push_of_some _ ?_)
    rw [Heap.get?_update_ne _ _ _ _ (hold b x q).1]
    exact (hold b x q).2
  have er' : PySem.W.EachIs (fun v b => ∃ as, Reads (PySem.W.sortingHeap (h1.push (seqObj "list" vs.toArray 0)) h1.objs.size vs) v (en b) as) vs bs := er.mono fun _ _ ⟨as, r⟩ => ⟨as, PyProof.Rows.Reads.keeps hso r⟩
  refine wpAny_bind (wpAny_holding (wpAny_call_entry PyProof.Rows.slot_list_sort ⟨_, hD, rfl⟩ PyProof.Rows.entry_list_sort
    (PySem.W.list_sort_vals (s := { s with heap := h1.push (seqObj "list" vs.toArray 0) }) hD (PySem.W.SortsAt.data (s := { s with heap := PySem.W.sortingHeap (h1.push (seqObj "list" vs.toArray 0)) h1.objs.size vs }) (PySem.W.each_map (R := fun v d => ∃ as, Reads (PySem.W.sortingHeap (h1.push (seqObj "list" vs.toArray 0)) h1.objs.size vs) v d as) en er') hal hk (PySem.W.bound_map hu)) hL
      ⟨_, rfl, ?_⟩) (PyProof.Rows.args_list_sort _)))
  refine wpAny_pure ⟨_, rfl, ?_⟩
  have hs := PySem.W.sortVals_data (R := R) (enc := en) false e er' hal
  obtain ⟨k, hk'⟩ := PyProof.Rows.sortedHeap_at (vs := vs) (out := (PySem.W.sortVals (PySem.W.dataKind (PySem.W.sortingHeap (h1.push (seqObj "list" vs.toArray 0)) h1.objs.size vs) (bs.map en)) false vs vs).toArray) hD
  refine h h1 _ _ k1 (fun b x q => ?_) hs ⟨k, hk'⟩ ?_
  · have hb : b < h1.objs.size := Heap.lt_size q
    rw [PyProof.Rows.sortedHeap_old (Nat.ne_of_lt hb) (by rw [size_push']; exact Nat.lt_succ_of_lt hb)]
    exact Heap.get?_push_of_some _ q
  · rw [PySem.W.sortVals_length false rfl, e.length]

theorem enc_of {p : PV} {d : PyData} (h : toP p = some d) : enc p = d := by rw [enc, h]; rfl
theorem each_of {pins : List (Addr × Obj)} {σ : L2.St} {s : Shared} (I : Inv X pins σ H s) (ft : Fit F X) : ∀ {ps : List PV} {vs : List V} {us : List Value}, RepL F μ H ps vs → Vals vs us → (∀ p ∈ ps, (toP p).isSome = true) →
    PySem.W.EachIs (fun u p => ∃ v, RelV v u ∧ Rep F μ H p v) us ps ∧ PySem.W.EachIs (fun u p => ∃ as, Reads s.heap u (enc p) as) us ps
  | _, _, _, .nil, .nil, _ => ⟨.nil, .nil⟩
  | _, _, _, .cons (p := p) a b, .cons r rr, h => by
    obtain ⟨h1, h2⟩ := each_of I ft b rr fun q hq => h q (List.mem_cons_of_mem _ hq)
    obtain ⟨d, hd⟩ := Option.isSome_iff_exists.mp (h p List.mem_cons_self)
    refine ⟨.cons ⟨_, r, a⟩ h1, .cons ?_ h2⟩
    rw [enc_of hd]
    exact Dp.reads I d _ _ (by rw [ft.K]; exact dp_of a hd) r
theorem each_back : ∀ {ps : List PV} {us : List Value}, PySem.W.EachIs (fun u p => ∃ v, RelV v u ∧ Rep F μ H p v) us ps → ∃ vs, Vals vs us ∧ RepL F μ H ps vs
  | _, _, .nil => ⟨[], .nil, .nil⟩
  | _, _, .cons ⟨v, r, q⟩ t => by
    obtain ⟨vs, h1, h2⟩ := each_back t
    exact ⟨v :: vs, .cons r h1, .cons q h2⟩
theorem sortOk_at {ps : List PV} (h : sortOk ps = true) : (∀ p ∈ ps, (toP p).isSome = true ∧ (enc p).depth ≤ 64) ∧ PySem.W.AllAlike (ps.map enc) ∧ PySem.W.Sortable (ps.map enc) ∧ ps.length ≤ sizeLine := by
  unfold sortOk at h
  simp only [Bool.and_eq_true, Bool.or_eq_true, List.all_eq_true, decide_eq_true_eq] at h
  obtain ⟨⟨⟨h1, h2⟩, h3⟩, h4⟩ := h
  refine ⟨h1, ?_, ?_, of_decide_eq_true h4⟩
  · intro d hd d' hd'
    obtain ⟨p, hp, rfl⟩ := List.mem_map.mp hd
    obtain ⟨q, hq, rfl⟩ := List.mem_map.mp hd'
    exact h2 p hp q hq
  · rcases h3 with h3 | h3
    · refine .inl fun d hd => ?_
      obtain ⟨p, hp, rfl⟩ := List.mem_map.mp hd
      have q := h3 p hp
      obtain ⟨e, he⟩ := Option.isSome_iff_exists.mp (h1 p hp).1
      rw [enc_of he]
      split at q
      · simp only [toP, toPs, Option.map_eq_some_iff, Option.bind_eq_some_iff] at he
        obtain ⟨ds, ⟨d1, _, ds', _, rfl⟩, rfl⟩ := he
        exact ⟨_, _, rfl⟩
      · cases q
    · refine .inr fun d hd => ?_
      obtain ⟨p, hp, rfl⟩ := List.mem_map.mp hd
      have q := h3 p hp
      obtain ⟨e, he⟩ := Option.isSome_iff_exists.mp (h1 p hp).1
      rw [enc_of he]
      cases p <;> simp only [toP, Option.map_eq_some_iff, Option.some.injEq, reduceCtorEq] at he q
      · subst he; exact ⟨by simp, by simp⟩
      · subst he; exact ⟨by simp, by simp⟩
      · subst he; exact ⟨by simp, by simp⟩
      · obtain ⟨ds, _, rfl⟩ := he; exact ⟨by simp, by simp⟩
      · obtain ⟨ds, _, rfl⟩ := he; exact ⟨by simp, by simp⟩
theorem call_sortedX (ft : Fit F X) : CrN F X (.builtin "sorted") (b1 .sorted) := by
  intro pins s σ H xs us Q I r h
  obtain ⟨x, p, μ, α, rfl, rel, rp, h⟩ := h
  simp only [b1] at h
  split at h
  · rename_i ps hx
    obtain ⟨hs, h⟩ := need_ok h
    obtain ⟨h1, h2, h3, h4⟩ := sortOk_at hs
    obtain ⟨a, vs, rfl, rl, c⟩ := itemsS_at rel hx rp
    obtain ⟨u, rfl, r1⟩ := vals1 r
    cases r1
    obtain ⟨its, T, o, n, rv, hT, ho, hc, hd⟩ : ∃ (its : List Value) (T : String) (o : Obj) (n : Nat), Vals vs its ∧ (T = "list" ∨ T = "tuple") ∧ s.heap.get? a = some o ∧ o.cls = .type T ∧ o.data = .seq its.toArray n := by
      rcases c with ⟨_, c⟩ | c
      · obtain ⟨its, rv, ⟨o, ho, hc, n, hd⟩, _⟩ := I.tuple (by rw [ft.K]; exact c)
        exact ⟨its, "tuple", o, n, rv, .inr rfl, ho, hc, hd⟩
      · obtain ⟨its, rv, ⟨o, n, ho, hc, _, hd⟩, _⟩ := I.list (by rw [ft.K]; exact c)
        exact ⟨its, "list", o, n, rv, .inl rfl, ho, hc, hd⟩
    have hl : its.length = ps.length := by rw [← rv.length, rl.length]
    obtain ⟨e1, e2⟩ := each_of I ft rl rv fun p hp => (h1 p hp).1
    refine sorted_src (en := enc) hT ho hc hd (by rw [hl]; exact h4) e1 e2 h2 h3 (fun b hb => ?_) fun g1 g2 out k1 k2 eo hk ho' => ?_
    · have := (h1 b hb).2
      have := ft.room
      omega
    · obtain ⟨ws, rw', rl'⟩ := each_back eo
      have I1 : Inv X pins σ H { s with heap := g1 } := I.kept (t' := s.toks) k1
      have hf : H g1.objs.size = none := I1.hok.fresh (Nat.le_refl _)
      obtain ⟨k, hk⟩ := hk
      refine ⟨.ref g1.objs.size, upd H g1.objs.size (.lst ws), I1.laid (t' := s.toks) k2 (Nat.le_refl _) ⟨?_, out, k, rw', hk⟩, rfl, h.newL rel hf rl'⟩
      rw [← rl'.length]
      show (sortP ps).length ≤ _
      rw [sortP, (List.mergeSort_perm _ _).length_eq]
      exact h4
  · exact False.elim h
theorem call_reprX (ft : Fit F X) : CrN F X (.builtin "repr") (b1 .repr) := by
  intro pins s σ H xs us Q I r h
  obtain ⟨x, p, μ, α, rfl, rel, rp, h⟩ := h
  simp only [b1] at h
  split at h
  · rename_i d hd
    obtain ⟨hs, h⟩ := need_ok h
    unfold reprOk at hs
    simp only [Bool.and_eq_true, Bool.not_eq_true', decide_eq_true_eq] at hs
    obtain ⟨⟨⟨h1, h2⟩, h3⟩, h4⟩ := hs
    have h4 : d.shown.length ≤ sizeLine := of_decide_eq_true h4
    have hu := ft.room
    obtain ⟨u, rfl, r1⟩ := vals1 r
    have dp : Dp X.K H x d := by rw [ft.K]; exact dpA_of rel rp hd
    obtain ⟨as, rd⟩ := Dp.reads I d x u dp r1
    have fin : ∀ h' tk t, (∀ b o, s.heap.get? b = some o → h'.get? b = some o) → EP X pins σ Q (.str d.shown t) { s with heap := h', toks := tk } :=
      fun h' tk t hk => ⟨.str _, H, I.kept (t' := tk) hk, ⟨t, rfl⟩, h.here rel (.str _) rfl⟩
    cases dp with
    | non => cases r1; exact PySem.P.repr_of_none (fin _ _ _ fun _ _ e => e)
    | bl b =>
      cases r1
      refine PySem.P.repr_of_bool ?_
      have := fin s.heap s.toks.succ s.toks fun _ _ e => e
      simpa only [PyData.shown] using this
    | int i =>
      obtain ⟨t, rfl⟩ := r1
      exact PySem.P.repr_of_int (by simpa [PyData.showable] using h2) (fin _ _ _ fun _ _ e => e)
    | str y =>
      obtain ⟨t, rfl⟩ := r1
      exact PySem.P.repr_of_str (fin _ _ _ fun _ _ e => e) h4
    | tup e q =>
      cases r1
      exact repr_of_reads' rd h2 (PyData.noDict_hsm h1) ft.gd (by omega) (fun _ _ e => e) (fun h' u tk hk => fin h' tk u hk) h4
    | lst e q =>
      cases r1
      exact repr_of_reads' rd h2 (PyData.noDict_hsm h1) ft.gd (by omega) (fun _ _ e => e) (fun h' u tk hk => fin h' tk u hk) h4
  · exact False.elim h
theorem call_b1 (ft : Fit F X) : ∀ f, CrN F X (b1I f) (b1 f) := by
  intro f
  cases f with
  | len => exact call_lenX ft
  | list => exact call_listX ft
  | tuple => exact call_tupleX ft
  | sorted => exact call_sortedX ft
  | all => exact call_allX ft
  | any => exact call_anyX ft
  | str => exact call_strX
  | repr => exact call_reprX ft
end
end Mw
end
section
set_option Elab.async false
set_option linter.all false
set_option maxRecDepth 100000
set_option maxHeartbeats 2000000
/-! Mw8: the readings of expressions. -/
namespace Mw
open PySem PySem.Spec PyProof.Rows L2

section
variable {F : Fx} {X : Cx} {μ μ' : Zn} {H H' : Hp} {α α' : AH} {ρ : Loc'} {σ : L2.St} {Q : VK}

/-- a reading by a denotation whose value may be new -/
def tN (F : Fx) (m : Den) : TE := fun σ H Q => ∃ μ ρ α, Rel F μ α H ∧ EnvR F μ H ρ σ ∧ PostN F μ H (m ρ α) Q
theorem At.imp {β γ : Type} {R : Zn → Hp → β → γ → Prop} {Q Q' : γ → Hp → Prop} {r : Res β} (h : At F μ ρ σ α H r R Q) (hi : ∀ v H', Q v H' → Q' v H') : At F μ ρ σ α H r R Q' := ⟨h.1, h.2.1, h.2.2.imp hi⟩
/-- first m, then n, whose value may be new -/
theorem At.bindN {β γ : Type} {R1 : Zn → Hp → β → γ → Prop} {r : Res β} {n : β → AH → Res PV} (rel : Rel F μ α H) (env : EnvR F μ H ρ σ) (post : PostN F μ H (r.bind n) Q) :
    At F μ ρ σ α H r R1 (fun v H1 => ∃ p μ1 α1, Le F μ H μ1 H1 ∧ R1 μ1 H1 p v ∧ Rel F μ1 α1 H1 ∧ EnvR F μ1 H1 ρ σ ∧ PostN F μ1 H1 (n p α1) Q) := by
  refine ⟨rel, env, ?_⟩
  cases r with
  | ok p α1 => exact fun μ1 H1 v l r1 q => ⟨p, μ1, α1, l, q, r1, env.le l, PostN.from r1 l post⟩
  | err c xs a => exact post
  | bad => exact post
theorem tE_of_N {m : Den} {e : Expr} (h : PE X e (tN F m)) : PE X e (tE F m) :=
  pe_imp h fun σ H Q ⟨μ, ρ, α, r, e, p⟩ => ⟨μ, ρ, α, r, e, p.toN⟩

/-! ### argument lists -/
def noStar : Expr → Bool
  | .Starred _ _ => false
  | _ => true
theorem star_cons {e : Expr} {es : List Expr} {env : Env} (h : noStar e = true) : starEach (e :: es) env = (false, eval e env) :: starEach es env := by
  cases e <;> first | rfl | cases h
theorem star_any {pos : Pos} {env : Env} : ∀ {es : List Expr}, es.all noStar = true → (backTo pos (starEach es env)).any (·.1) = false
  | [], _ => rfl
  | e :: es, h => by
    rw [List.all_cons, Bool.and_eq_true] at h
    rw [star_cons h.1]
    show (false || (backTo pos (starEach es env)).any (·.1)) = false
    rw [star_any h.2]; rfl
theorem star_all {pos : Pos} {env : Env} : ∀ {es : List Expr}, es.all noStar = true → (backTo pos (starEach es env)).all (fun x => !x.1) = true
  | [], _ => rfl
  | e :: es, h => by
    rw [List.all_cons, Bool.and_eq_true] at h
    rw [star_cons h.1]
    show (true && (backTo pos (starEach es env)).all (fun x => !x.1)) = true
    rw [star_all h.2]; rfl
theorem a_nil : PA X [] (tAs F fun _ α => .ok [] α) := pa_imp pa_nil fun σ H Q ⟨μ, ρ, α, rel, env, h⟩ => h μ H [] (.refl F μ H) rel .nil
theorem a_cons {e : Expr} {es : List Expr} {m : Den} {ms : Loc' → AH → Res (List PV)} (ha : PE X e (tE F m)) (hr : PA X es (tAs F ms)) (hs : noStar e = true) :
    PA X (e :: es) (tAs F fun ρ α => (m ρ α).bind fun p α => (ms ρ α).bind fun ps α => .ok (p :: ps) α) := by
  refine pa_imp (pa_cons ha hr (star_cons hs)) fun σ H Q ⟨μ, ρ, α, h⟩ => ?_
  refine ⟨μ, ρ, α, h.bind.imp fun x H1 ⟨p, μ1, α1, l, rp, h1⟩ => ⟨μ1, ρ, α1, h1.bind.imp fun xs H2 ⟨ps, μ2, α2, l2, rs, h2⟩ => ?_⟩⟩
  exact h2.2.2 μ2 H2 _ (.refl F μ2 H2) h2.1 (.cons (rp.le l2) rs)
/-- several values, then one more step -/
theorem tA_bindN {ms : Loc' → AH → Res (List PV)} {n : List PV → AH → Res PV} (h : tN F (fun ρ α => (ms ρ α).bind n) σ H Q) :
    tAs F ms σ H fun xs H1 => ∃ ps μ α, RepL F μ H1 ps xs ∧ Rel F μ α H1 ∧ PostN F μ H1 (n ps α) Q := by
  obtain ⟨μ, ρ, α, rel, env, h⟩ := h
  exact ⟨μ, ρ, α, (At.bindN rel env h).imp fun xs H1 ⟨ps, μ1, α1, _, rs, rel1, _, h1⟩ => ⟨ps, μ1, α1, rs, rel1, h1⟩⟩
theorem tA_bind {ms : Loc' → AH → Res (List PV)} {n : List PV → AH → Res PV} (h : tE F (fun ρ α => (ms ρ α).bind n) σ H Q) :
    tAs F ms σ H fun xs H1 => ∃ ps μ α, RepL F μ H1 ps xs ∧ Rel F μ α H1 ∧ Post F μ H1 (n ps α) (Rep F) Q := by
  obtain ⟨μ, ρ, α, h⟩ := h
  exact ⟨μ, ρ, α, h.bind.imp fun xs H1 ⟨ps, μ1, α1, _, rs, h1⟩ => ⟨ps, μ1, α1, rs, h1.1, h1.2.2⟩⟩
theorem tE_bindN {m : Den} {n : PV → AH → Res PV} (h : tN F (fun ρ α => (m ρ α).bind n) σ H Q) :
    tE F m σ H fun x H1 => ∃ p μ α, Rep F μ H1 p x ∧ Rel F μ α H1 ∧ PostN F μ H1 (n p α) Q := by
  obtain ⟨μ, ρ, α, rel, env, h⟩ := h
  exact ⟨μ, ρ, α, (At.bindN rel env h).imp fun xs H1 ⟨ps, μ1, α1, _, rs, rel1, _, h1⟩ => ⟨ps, μ1, α1, rs, rel1, h1⟩⟩
theorem tE_bind {m : Den} {n : PV → AH → Res PV} (h : tE F (fun ρ α => (m ρ α).bind n) σ H Q) :
    tE F m σ H fun x H1 => ∃ p μ α, Rep F μ H1 p x ∧ Rel F μ α H1 ∧ Post F μ H1 (n p α) (Rep F) Q := by
  obtain ⟨μ, ρ, α, h⟩ := h
  exact ⟨μ, ρ, α, h.bind.imp fun xs H1 ⟨ps, μ1, α1, _, rs, h1⟩ => ⟨ps, μ1, α1, rs, h1.1, h1.2.2⟩⟩
/-- two values, then a step -/
theorem tE2_bindN {ma mb : Den} {n : PV → PV → AH → Res PV} (h : tN F (fun ρ α => (ma ρ α).bind fun p α => (mb ρ α).bind fun q α => n p q α) σ H Q) :
    tE F ma σ H fun x H1 => tE F mb σ H1 fun y H2 => ∃ p q μ α, Rel F μ α H2 ∧ Rep F μ H2 p x ∧ Rep F μ H2 q y ∧ PostN F μ H2 (n p q α) Q := by
  obtain ⟨μ, ρ, α, rel, env, h⟩ := h
  exact ⟨μ, ρ, α, (At.bindN rel env h).imp fun x H1 ⟨p, μ1, α1, l1, rp, rel1, env1, h1⟩ => ⟨μ1, ρ, α1, (At.bindN rel1 env1 h1).imp fun y H2 ⟨q, μ2, α2, l2, rq, rel2, _, h2⟩ =>
    ⟨p, q, μ2, α2, rel2, rp.le l2, rq, h2⟩⟩⟩
theorem tE2_bind {ma mb : Den} {n : PV → PV → AH → Res PV} (h : tE F (fun ρ α => (ma ρ α).bind fun p α => (mb ρ α).bind fun q α => n p q α) σ H Q) :
    tE F ma σ H fun x H1 => tE F mb σ H1 fun y H2 => ∃ p q μ α, Rel F μ α H2 ∧ Rep F μ H2 p x ∧ Rep F μ H2 q y ∧ Post F μ H2 (n p q α) (Rep F) Q := by
  obtain ⟨μ, ρ, α, h⟩ := h
  exact ⟨μ, ρ, α, h.bind.imp fun x H1 ⟨p, μ1, α1, l1, rp, h1⟩ => ⟨μ1, ρ, α1, h1.bind.imp fun y H2 ⟨q, μ2, α2, l2, rq, h2⟩ => ⟨p, q, μ2, α2, h2.1, rp.le l2, rq, h2.2.2⟩⟩⟩

/-! ### nodes -/
variable {a b c e : Expr} {es : List Expr} {ma mb mc m : Den} {ms : Loc' → AH → Res (List PV)} {pos : Pos}
theorem k_const {p : PV} {v : V} (h : PE X e (tC v)) (rp : ∀ μ H, Rep F μ H p v) : PE X e (tE F fun _ α => .ok p α) :=
  pe_imp h fun σ H Q ⟨μ, ρ, α, rel, _, h⟩ => Post.here rel h (rp μ H)
theorem k_var {i : Nat} {x : Str} (hN : X.N[i]? = some x) (hv : Vis X.env.scope x) (hd : (x == ("__debug__" : Str)) = false) (hcd : (x == ("__classdict__" : Str)) = false) :
    PE X (.Name x pos) (tE F fun ρ α => match ρ[i]? with
      | some (some p) => .ok p α
      | _ => .bad) := by
  refine pe_imp (pe_var hN hv hd hcd) fun σ H Q ⟨μ, ρ, α, rel, env, h⟩ => ?_
  dsimp only at h
  split at h
  · rename_i p hp
    obtain ⟨v, e1, rp⟩ := env.2 i p hp
    exact ⟨v, e1, Post.here rel h rp⟩
  · exact False.elim h
theorem k_tup {k : Nat} (h : PA X es (tAs F ms)) : PE X (.Tuple es k pos) (tN F fun ρ α => (ms ρ α).bind fun ps α => need (lineOk ps.length) (.ok (.tup ps) α)) := by
  refine pe_imp (pe_tup h) fun σ H Q hq => ?_
  obtain ⟨μ, ρ, α, hq⟩ := tA_bindN hq
  refine ⟨μ, ρ, α, hq.imp fun xs H1 ⟨ps, μ1, α1, rs, rel, h1⟩ => ?_⟩
  obtain ⟨hz, h1⟩ := need_ok h1
  have hz : ps.length ≤ sizeLine := of_decide_eq_true hz
  exact ⟨by rw [← rs.length]; exact hz, fun p hp => h1.newT rel hp rs⟩
theorem k_lst (h : PA X es (tAs F ms)) : PE X (.List es pos) (tN F fun ρ α => (ms ρ α).bind fun ps α => need (lineOk ps.length) (.ok (.fl ps) α)) := by
  refine pe_imp (pe_lst h) fun σ H Q hq => ?_
  obtain ⟨μ, ρ, α, hq⟩ := tA_bindN hq
  refine ⟨μ, ρ, α, hq.imp fun xs H1 ⟨ps, μ1, α1, rs, rel, h1⟩ => ?_⟩
  obtain ⟨hz, h1⟩ := need_ok h1
  have hz : ps.length ≤ sizeLine := of_decide_eq_true hz
  exact ⟨by rw [← rs.length]; exact hz, fun p hp => h1.newL rel hp rs⟩
theorem k_bin (ft : Fit F X) {o : Bop} (ha : PE X a (tE F ma)) (hb : PE X b (tE F mb)) : PE X (.BinOp a (bopS o) b pos) (tN F fun ρ α => (ma ρ α).bind fun p α => (mb ρ α).bind fun q α => bop o p q α) :=
  pe_imp (pe_op (op_bop ft o) ha hb) fun σ H Q h => tE2_bindN h
theorem k_cmp (ft : Fit F X) {o : Cop} (ha : PE X a (tE F ma)) (hb : PE X b (tE F mb)) (hm : behindInMarks (copS o) b = false) :
    PE X (.Compare a [copS o] [b] pos) (tN F fun ρ α => (ma ρ α).bind fun p α => (mb ρ α).bind fun q α => cop o p q α) :=
  pe_imp (pe_cmpR (op_cop ft o) ha hb hm) fun σ H Q h => tE2_bindN h
/-- a test of what a denotation comes to -/
def tst (m : Den) : Loc' → AH → Res Bool := fun ρ α => (m ρ α).bind fun p α => truth p α
theorem truth_at {p : PV} {v : V} {R : Bool → Hp → Prop} (rel : Rel F μ α H) (rp : Rep F μ H p v) (h : Post F μ H (truth p α) (fun _ _ b c => b = c) R) : ∃ k, v = .bl k ∧ R k H := by
  unfold truth at h
  split at h
  · cases rp
    exact ⟨_, rfl, h μ H _ (.refl F μ H) rel rfl⟩
  · exact False.elim h
theorem t_val (h : PE X e (tE F m)) (he : ∀ whole, isTrue e X.env whole = (do let v ← whole; standAt e.pos; holding [v] (truthy v))) : PT X e (tB' F (tst m)) := by
  refine pt_imp (pt_val h he) fun σ H Q ⟨μ, ρ, α, h⟩ => ?_
  exact ⟨μ, ρ, α, (At.bind (R1 := Rep F) h).imp fun x H1 ⟨p, μ1, α1, l, rp, h1⟩ => truth_at h1.1 rp h1.2.2⟩
theorem cop_bl {o : Cop} {p q r : PV} {α α' : AH} (h : cop o p q α = .ok r α') : ∃ k, r = .bl k ∧ α' = α := by
  have g : ∀ {f : Int → Int → Bool}, cmpI f p q α = .ok r α' → ∃ k, r = .bl k ∧ α' = α := by
    intro f h
    unfold cmpI at h
    split at h
    · cases h; exact ⟨_, rfl, rfl⟩
    · cases h
  have bb : ∀ {x : Res Bool} {f : Bool → Bool}, (∀ b a, x = .ok b a → a = α) → (x.bind fun b a => Res.ok (.bl (f b)) a) = .ok r α' → ∃ k, r = .bl k ∧ α' = α := by
    intro x f hx h
    cases x with
    | ok b a => cases h; exact ⟨_, rfl, hx _ _ rfl⟩
    | err c xs a => cases h
    | bad => cases h
  have he : ∀ b a, eqP p q α = .ok b a → a = α := by
    intro b a h
    unfold eqP at h
    cases hs : scalP p q with
    | true => rw [hs] at h; cases h; rfl
    | false =>
      rw [hs] at h
      dsimp only at h
      split at h
      · cases h; rfl
      · cases h
  have hi : ∀ b a, inP p q α = .ok b a → a = α := by
    intro b a h
    unfold inP at h
    split at h
    · cases hk : kok _ p with
      | true => rw [hk] at h; cases h; rfl
      | false => rw [hk] at h; cases h
    · split at h
      · cases h; rfl
      · split at h <;> cases h <;> rfl
  cases o <;> simp only [cop] at h
  · exact bb he h
  · exact bb he h
  · exact g h
  · exact g h
  · exact g h
  · exact g h
  · exact bb hi h
  · exact bb hi h
  · split at h
    · cases h; exact ⟨_, rfl, rfl⟩
    · cases h
  · split at h
    · cases h; exact ⟨_, rfl, rfl⟩
    · cases h
theorem tst_read {r : Res PV} {Q : Bool → Hp → Prop} (h : Post F μ H (r.bind fun p α => truth p α) (fun _ _ b c => b = c) Q) : PostN F μ H r (fun x H' => ∃ k, x = .bl k ∧ Q k H') := by
  cases r with
  | ok z α1 => exact fun μ1 H1 v l rel1 rz => truth_at (α := α1) rel1 rz.rep (Post.from l h)
  | err c xs a => exact h
  | bad => exact h
theorem t_cmp (ft : Fit F X) {o : Cop} (ha : PE X a (tE F ma)) (hb : PE X b (tE F mb)) (hm : behindInMarks (copS o) b = false) :
    PT X (.Compare a [copS o] [b] pos) (tB' F (tst fun ρ α => (ma ρ α).bind fun p α => (mb ρ α).bind fun q α => cop o p q α)) := by
  refine pt_imp (pt_cmpR (op_cop ft o) ha hb hm) fun σ H Q ⟨μ, ρ, α, h⟩ => ?_
  refine tE2_bindN (n := fun p q α => cop o p q α) (Q := fun x H' => ∃ k, x = .bl k ∧ Q k H') ⟨μ, ρ, α, h.1, h.2.1, ?_⟩
  exact tst_read h.2.2
/-- the two forms of a chain -/
def chainD (o o' : Cop) (ma mb mc : Den) : Den := fun ρ α => (ma ρ α).bind fun p α => (mb ρ α).bind fun q α => (cop o p q α).bind fun z α => (truth z α).bind fun t α =>
  match t with
  | true => (mc ρ α).bind fun r α => cop o' q r α
  | false => .ok (.bl false) α
theorem chain_read (o o' : Cop) (h : tN F (chainD o o' ma mb mc) σ H Q) :
    tChain (fun x y H Q => ∃ p q μ α, Rel F μ α H ∧ Rep F μ H p x ∧ Rep F μ H q y ∧ PostN F μ H (cop o p q α) Q) (fun x y H Q => ∃ p q μ α, Rel F μ α H ∧ Rep F μ H p x ∧ Rep F μ H q y ∧ PostN F μ H (cop o' p q α) Q) (tE F ma) (tE F mb) (tE F mc) σ H Q := by
  obtain ⟨μ, ρ, α, rel, env, h⟩ := h
  refine ⟨μ, ρ, α, (At.bindN rel env h).imp fun x H1 ⟨p, μ1, α1, l1, rp, rel1, env1, h1⟩ => ⟨μ1, ρ, α1, (At.bindN rel1 env1 h1).imp fun y H2 ⟨q, μ2, α2, l2, rq, rel2, env2, h2⟩ => ⟨p, q, μ2, α2, rel2, rp.le l2, rq, ?_⟩⟩⟩
  cases hc : cop o p q α2 with
  | ok z α3 =>
    rw [hc] at h2
    obtain ⟨k, rfl, rfl⟩ := cop_bl hc
    intro μ3 H3 v l3 rel3 rz
    have env3 := env2.le l3
    cases rz
    refine ⟨k, rfl, ?_⟩
    have h3 := PostN.from rel3 l3 h2
    simp only [Res.ok_bind, truth] at h3
    cases k with
    | true =>
      rw [if_pos rfl]
      exact ⟨μ3, ρ, α3, (At.bindN rel3 env3 h3).imp fun w H4 ⟨r, μ4, α4, l4, rr, rel4, _, h4⟩ => ⟨q, r, μ4, α4, rel4, (rq.le l3).le l4, rr, h4⟩⟩
    | false =>
      rw [if_neg Bool.false_ne_true]
      exact h3.here rel3 (.bl _) rfl
  | err c xs a => rw [hc] at h2; exact h2.elim
  | bad => rw [hc] at h2; exact h2.elim
theorem k_chain (ft : Fit F X) {o o' : Cop} (ha : PE X a (tE F ma)) (hb : PE X b (tE F mb)) (hc : PE X c (tE F mc)) (hm : lastMarks [copS o, copS o'] [b, c] = false) :
    PE X (.Compare a [copS o, copS o'] [b, c] pos) (tN F (chainD o o' ma mb mc)) :=
  pe_imp (pe_chain (op_cop ft o) (op_cop ft o') ha hb hc hm) fun σ H Q h => chain_read o o' h
theorem t_chain (ft : Fit F X) {o o' : Cop} (ha : PE X a (tE F ma)) (hb : PE X b (tE F mb)) (hc : PE X c (tE F mc)) (hm : lastMarks [copS o, copS o'] [b, c] = false) :
    PT X (.Compare a [copS o, copS o'] [b, c] pos) (tB' F (tst (chainD o o' ma mb mc))) := by
  refine pt_imp (pt_chain (op_cop ft o) (op_cop ft o') ha hb hc hm) fun σ H Q ⟨μ, ρ, α, h⟩ => ?_
  refine chain_read o o' (Q := fun x H' => ∃ k, x = .bl k ∧ Q k H') ⟨μ, ρ, α, h.1, h.2.1, ?_⟩
  exact tst_read h.2.2
theorem k_neg (ha : PE X a (tE F ma)) : PE X (.UnaryOp .USub a pos) (tN F fun ρ α => (ma ρ α).bind fun p α => match p with
    | .int i => .ok (.int (-i)) α
    | _ => .bad) := by
  refine pe_imp (pe_un un_neg ha) fun σ H Q h => ?_
  obtain ⟨μ, ρ, α, h⟩ := tE_bindN h
  refine ⟨μ, ρ, α, h.imp fun x H1 ⟨p, μ1, α1, rp, rel, h1⟩ => ?_⟩
  split at h1
  · cases rp
    exact ⟨_, rfl, h1.here rel (.int _) rfl⟩
  · exact False.elim h1
theorem k_and {rest : List Expr} (ha : PE X a (tE F ma)) (hb : PE X (.BoolOp .And (b :: rest) pos) (tE F mb)) : PE X (.BoolOp .And (a :: b :: rest) pos) (tE F fun ρ α => (ma ρ α).bind fun p α => (truth p α).bind fun t α => match t with
    | true => mb ρ α
    | false => .ok (.bl false) α) := by
  refine pe_imp (pe_and ha hb) fun σ H Q ⟨μ, ρ, α, h⟩ => ?_
  refine ⟨μ, ρ, α, h.bind.imp fun x H1 ⟨p, μ1, α1, l, rp, h1⟩ => ?_⟩
  obtain ⟨rel1, env1, h1⟩ := h1
  cases p with
  | bl k =>
    cases rp
    refine ⟨k, rfl, ?_⟩
    simp only [Res.ok_bind, truth] at h1
    cases k with
    | true => exact ⟨μ1, ρ, α1, rel1, env1, h1⟩
    | false => exact Post.here rel1 h1 (.bl _)
  | _ => exact False.elim h1
theorem k_or {rest : List Expr} (ha : PE X a (tE F ma)) (hb : PE X (.BoolOp .Or (b :: rest) pos) (tE F mb)) : PE X (.BoolOp .Or (a :: b :: rest) pos) (tE F fun ρ α => (ma ρ α).bind fun p α => (truth p α).bind fun t α => match t with
    | true => .ok (.bl true) α
    | false => mb ρ α) := by
  refine pe_imp (pe_or ha hb) fun σ H Q ⟨μ, ρ, α, h⟩ => ?_
  refine ⟨μ, ρ, α, h.bind.imp fun x H1 ⟨p, μ1, α1, l, rp, h1⟩ => ?_⟩
  obtain ⟨rel1, env1, h1⟩ := h1
  cases p with
  | bl k =>
    cases rp
    refine ⟨k, rfl, ?_⟩
    simp only [Res.ok_bind, truth] at h1
    cases k with
    | true => exact Post.here rel1 h1 (.bl _)
    | false => exact ⟨μ1, ρ, α1, rel1, env1, h1⟩
  | _ => exact False.elim h1
theorem k_not (ha : PE X a (tE F ma)) : PE X (.UnaryOp .Not a pos) (tN F fun ρ α => (ma ρ α).bind fun p α => (truth p α).bind fun t α => .ok (.bl (!t)) α) := by
  refine pe_imp (pe_not ha) fun σ H Q h => ?_
  obtain ⟨μ, ρ, α, h⟩ := tE_bindN h
  refine ⟨μ, ρ, α, h.imp fun x H1 ⟨p, μ1, α1, rp, rel1, h1⟩ => ?_⟩
  cases p with
  | bl k =>
    cases rp
    exact ⟨k, rfl, h1.here rel1 (.bl _) rfl⟩
  | _ => exact False.elim h1
/-- a test, then one of two -/
theorem test_bind {β γ : Type} {R2 : Zn → Hp → β → γ → Prop} {mt : Loc' → AH → Res Bool} {n : Bool → AH → Res β} {Q : γ → Hp → Prop} (h : At F μ ρ σ α H ((mt ρ α).bind n) R2 Q) :
    tB' F mt σ H fun k H1 => ∃ μ1 α1, Le F μ H μ1 H1 ∧ At F μ1 ρ σ α1 H1 (n k α1) R2 Q :=
  ⟨μ, ρ, α, h.bind.imp fun k H1 ⟨b, μ1, α1, l, e, h1⟩ => ⟨μ1, α1, l, e ▸ h1⟩⟩
theorem bind_assoc {β γ δ : Type} (r : Res β) (f : β → AH → Res γ) (g : γ → AH → Res δ) : (r.bind f).bind g = r.bind fun p α => (f p α).bind g := by cases r <;> rfl
theorem k_ife {mt : Loc' → AH → Res Bool} (hc : PT X c (tB' F mt)) (ha : PE X a (tE F ma)) (hb : PE X b (tE F mb)) : PE X (.IfExp c a b pos) (tE F fun ρ α => (mt ρ α).bind fun t α => match t with
    | true => ma ρ α
    | false => mb ρ α) := by
  refine pe_imp (pe_ifExp hc ha hb) fun σ H Q ⟨μ, ρ, α, h⟩ => ?_
  obtain ⟨μ', ρ', α', h'⟩ := test_bind h
  refine ⟨μ', ρ', α', h'.imp fun k H1 ⟨μ1, α1, l, h1⟩ => ?_⟩
  cases k with
  | true => exact ⟨μ1, ρ, α1, h1⟩
  | false => exact ⟨μ1, ρ, α1, h1⟩
theorem t_not {mt : Loc' → AH → Res Bool} (hc : PT X c (tB' F mt)) : PT X (.UnaryOp .Not c pos) (tB' F fun ρ α => (mt ρ α).bind fun t α => .ok (!t) α) := by
  refine pt_imp (pt_not hc) fun σ H Q ⟨μ, ρ, α, h⟩ => ?_
  obtain ⟨μ', ρ', α', h'⟩ := test_bind h
  exact ⟨μ', ρ', α', h'.imp fun k H1 ⟨μ1, α1, l, h1⟩ => h1.2.2 μ1 H1 _ (.refl F μ1 H1) h1.1 rfl⟩
theorem w_one {op : BoolOp} {mt : Loc' → AH → Res Bool} (hc : PT X c (tB' F mt)) : PW X (.BoolOp op [c] pos) (tB' F mt) := by
  cases op with
  | And => exact pw_and1 hc
  | Or => exact pw_or1 hc
theorem w_and {mt mu : Loc' → AH → Res Bool} {rest : List Expr} (hc : PT X c (tB' F mt)) (hb : PW X (.BoolOp .And (b :: rest) pos) (tB' F mu)) : PW X (.BoolOp .And (c :: b :: rest) pos) (tB' F fun ρ α => (mt ρ α).bind fun t α => match t with
    | true => mu ρ α
    | false => .ok false α) := by
  refine pw_imp (pw_and hc hb) fun σ H Q ⟨μ, ρ, α, h⟩ => ?_
  obtain ⟨μ', ρ', α', h'⟩ := test_bind h
  refine ⟨μ', ρ', α', h'.imp fun k H1 ⟨μ1, α1, l, h1⟩ => ?_⟩
  cases k with
  | true => exact ⟨μ1, ρ, α1, h1⟩
  | false => exact h1.2.2 μ1 H1 _ (.refl F μ1 H1) h1.1 rfl
theorem w_or {mt mu : Loc' → AH → Res Bool} {rest : List Expr} (hc : PT X c (tB' F mt)) (hb : PW X (.BoolOp .Or (b :: rest) pos) (tB' F mu)) : PW X (.BoolOp .Or (c :: b :: rest) pos) (tB' F fun ρ α => (mt ρ α).bind fun t α => match t with
    | true => .ok true α
    | false => mu ρ α) := by
  refine pw_imp (pw_or hc hb) fun σ H Q ⟨μ, ρ, α, h⟩ => ?_
  obtain ⟨μ', ρ', α', h'⟩ := test_bind h
  refine ⟨μ', ρ', α', h'.imp fun k H1 ⟨μ1, α1, l, h1⟩ => ?_⟩
  cases k with
  | true => exact h1.2.2 μ1 H1 _ (.refl F μ1 H1) h1.1 rfl
  | false => exact ⟨μ1, ρ, α1, h1⟩
theorem k_ix (ft : Fit F X) (ha : PE X a (tE F ma)) (hb : PE X b (tE F mb)) (hs : PlainIx b) : PE X (.Subscript a b pos) (tE F fun ρ α => (ma ρ α).bind fun p α => (mb ρ α).bind fun q α => ixP p q α) :=
  pe_imp (pe_ix (ix_all ft) ha hb hs) fun σ H Q h => tE2_bind h
theorem k_rev (ft : Fit F X) {k : Nat} {p1 p2 p3 : Pos} (ha : PE X a (tE F ma)) : PE X (.Subscript a (.Slice none none (some (.UnaryOp .USub (.Constant (.int 1) k p1) p2)) p3) pos) (tN F fun ρ α => (ma ρ α).bind fun p α => revP p α) := by
  refine pe_imp (pe_revL ha) fun σ H Q h => ?_
  obtain ⟨μ, ρ, α, h⟩ := tE_bindN h
  exact ⟨μ, ρ, α, h.imp fun x H1 ⟨p, μ1, α1, rp, rel1, h1⟩ => rev_at ft rel1 rp h1⟩
/-- a slice's part -/
abbrev tO (F : Fx) (m : Loc' → AH → Res (Option Int)) : TO := tR F (fun _ _ b c => b = c) m
theorem o_none : PO X none (tO F fun _ α => .ok none α) := by
  refine ⟨fun pins s σ H Q I ⟨μ, ρ, α, rel, env, h⟩ => ?_⟩
  exact po_none.run pins s σ H Q I (h μ H _ (.refl F μ H) rel rfl)
theorem o_some (ha : PE X a (tE F ma)) : PO X (some a) (tO F fun ρ α => (ma ρ α).bind fun p α => partO p α) := by
  refine ⟨fun pins s σ H Q I ⟨μ, ρ, α, h⟩ => ?_⟩
  refine (po_some ha).run pins s σ H Q I ⟨μ, ρ, α, (At.bind (R1 := Rep F) h).imp fun x H1 ⟨p, μ1, α1, l, rp, h1⟩ => ?_⟩
  obtain ⟨rel1, _, h1⟩ := h1
  cases p with
  | int i => cases rp; exact ⟨i, rfl, h1 μ1 H1 _ (.refl F μ1 H1) rel1 rfl⟩
  | _ => exact False.elim h1
theorem k_sl (ft : Fit F X) {lo hi : Option Expr} {p2 : Pos} {ml mh : Loc' → AH → Res (Option Int)} (ha : PE X a (tE F ma)) (hl : PO X lo (tO F ml)) (hh : PO X hi (tO F mh)) :
    PE X (.Subscript a (.Slice lo hi none p2) pos) (tN F fun ρ α => (ma ρ α).bind fun p α => (ml ρ α).bind fun l α => (mh ρ α).bind fun h α => slP p l h α) := by
  refine pe_imp (pe_slice (sl_all ft) ha hl hh) fun σ H Q ⟨μ, ρ, α, rel, env, h⟩ => ?_
  refine ⟨μ, ρ, α, (At.bindN rel env h).imp fun x H1 ⟨p, μ1, α1, l1, rp, rel1, env1, h1⟩ => ⟨μ1, ρ, α1, (At.bindN rel1 env1 h1).imp fun lo' H2 ⟨lo, μ2, α2, l2, e2, rel2, env2, h2⟩ => ⟨μ2, ρ, α2, (At.bindN rel2 env2 h2).imp fun hi' H3 ⟨hi, μ3, α3, l3, e3, rel3, _, h3⟩ => ?_⟩⟩⟩
  subst e2; subst e3
  exact ⟨p, μ3, α3, rel3, (rp.le l2).le l3, h3⟩
/-- a built-in by its name -/
structure Blt (X : Cx) (x : Str) (u : Value) : Prop where
  gl : Gl X x
  mg : X.mg x = none
  bt : bootBuiltins x = some u
  nn : x ≠ "__name__"
  nd : (x == ("__debug__" : Str)) = false
theorem k_callB {u : Value} {x : Str} {p : Pos} {r : List V → Hp → VK → Prop} (hu : (∃ id, u = .builtin id) ∨ ∃ T, u = .type T) (hb : Blt X x u) (hc : CallR X u r) {t : TA} (ha : PA X (a :: es) t) (hs : (a :: es).all noStar = true) :
    PE X (.Call (.Name x p) (a :: es) [] pos) (tCB r t) := by
  rw [List.all_cons, Bool.and_eq_true] at hs
  rcases hu with ⟨id, rfl⟩ | ⟨T, rfl⟩
  · exact pe_callB hc hb.gl hb.mg hb.bt ha hb.nn hb.nd (star_cons hs.1) (star_any hs.2)
  · exact pe_callTy hc hb.gl hb.mg hb.bt ha hb.nn hb.nd (star_cons hs.1) (star_any hs.2)
theorem b1I_kind (f : B1) : (∃ id, b1I f = .builtin id) ∨ ∃ T, b1I f = .type T := by cases f <;> first | exact .inl ⟨_, rfl⟩ | exact .inr ⟨_, rfl⟩
theorem b2I_kind (f : B2) : (∃ id, b2I f = .builtin id) ∨ ∃ T, b2I f = .type T := by cases f <;> first | exact .inl ⟨_, rfl⟩ | exact .inr ⟨_, rfl⟩
theorem k_b1 (ft : Fit F X) {f : B1} {x : Str} {p : Pos} (hb : Blt X x (b1I f)) (ha : PE X a (tE F ma)) (hs : noStar a = true) : PE X (.Call (.Name x p) [a] [] pos) (tN F fun ρ α => (ma ρ α).bind fun p α => b1 f p α) := by
  refine pe_imp (k_callB (b1I_kind f) hb (call_b1 ft f) (pa_cons ha pa_nil (star_cons hs)) (by simp [hs])) fun σ H Q h => ?_
  obtain ⟨μ, ρ, α, h⟩ := tE_bindN h
  exact ⟨μ, ρ, α, h.imp fun x H1 ⟨p, μ1, α1, rp, rel1, h1⟩ => ⟨x, p, μ1, α1, rfl, rel1, rp, h1⟩⟩
theorem k_b2 (ft : Fit F X) {f : B2} {x : Str} {p : Pos} (hb : Blt X x (b2I f)) (ha : PE X a (tE F ma)) (hc : PE X b (tE F mb)) (hs : noStar a = true) (hs2 : noStar b = true) :
    PE X (.Call (.Name x p) [a, b] [] pos) (tN F fun ρ α => (ma ρ α).bind fun p α => (mb ρ α).bind fun q α => b2 f p q α) := by
  refine pe_imp (k_callB (b2I_kind f) hb (call_b2 ft f) (pa_cons ha (pa_cons hc pa_nil (star_cons hs2)) (star_cons hs)) (by simp [hs, hs2])) fun σ H Q h => ?_
  obtain ⟨μ, ρ, α, h⟩ := tE2_bindN h
  exact ⟨μ, ρ, α, h.imp fun x H1 ⟨μ1, ρ1, α1, h1⟩ => ⟨μ1, ρ1, α1, h1.imp fun y H2 ⟨p, q, μ2, α2, rel2, rp, rq, h2⟩ => ⟨x, y, p, q, μ2, α2, rfl, rel2, rp, rq, h2⟩⟩⟩
/-- a new thing joins the store -/
theorem k_join (ha : PE X a (tN F ma)) : PE X a (tE F fun ρ α => (ma ρ α).bind fun p α => joinP p α) := by
  refine pe_imp ha fun σ H Q ⟨μ, ρ, α, rel, env, h⟩ => ⟨μ, ρ, α, rel, env, ?_⟩
  replace h : Post F μ H ((ma ρ α).bind fun p α => joinP p α) (Rep F) Q := h
  cases hr : ma ρ α with
  | ok p α1 =>
    rw [hr] at h
    intro μ1 H1 v l rel1 rn
    obtain ⟨on, off⟩ := μ1
    have fin : ∀ {x : Addr} {ao : AO}, H x = none → x ∉ on → x ∉ off → Rel F ⟨on, x :: off⟩ α1 H1 → OR F ⟨on, x :: off⟩ H1 x ao → Post F μ H (.ok (.ref α1.length) (α1 ++ [ao])) (Rep F) Q → Q (.ref x) H1 := by
      intro x ao h0 h1 h2 r3 o hp
      obtain ⟨l', r'⟩ := join_step rel l r3 h0 h1 h2 o
      refine hp _ H1 _ l' r' (.ref ?_)
      show (on ++ [x])[α1.length]? = some x
      have : on.length = α1.length := r3.len
      rw [← this, List.getElem?_concat_length]
    cases p with
    | fl xs => obtain ⟨x, rfl, h0, h1, h2, r3, o⟩ := rn; exact fin h0 h1 h2 r3 o h
    | fd kvs => obtain ⟨x, rfl, h0, h1, h2, r3, o⟩ := rn; exact fin h0 h1 h2 r3 o h
    | _ => exact h ⟨on, off⟩ H1 v l rel1 rn
  | err c xs a => rw [hr] at h; exact h
  | bad => rw [hr] at h; exact h
end
end Mw
end
section
set_option Elab.async false
set_option linter.all false
set_option maxRecDepth 100000
set_option maxHeartbeats 2000000
/-! Mw9: methods of built-in types. -/
namespace Mw
open PySem PySem.Spec PyProof.Rows L2

def M.name : M → Str
  | .pop => "pop"
  | .append => "append"
  | .setdefault => "setdefault"
def M.id : M → String
  | .pop => "list.pop"
  | .append => "list.append"
  | .setdefault => "dict.setdefault"
structure MthOk (m : M) : Prop where
  pa : PlainAttrs m.ty
  slot : Slot m.ty m.name m.id
  ty : typeOf (.builtin m.id) = pure (.type "method_descriptor")
theorem mth_ok : ∀ m, MthOk m := by
  intro m
  cases m with
  | pop => exact ⟨PySem.F.plainAttrs_list, PySem.F.slot_list_pop, PySem.F.type_list_pop⟩
  | append => exact ⟨PySem.F.plainAttrs_list, PySem.F.slot_list_append, PySem.F.type_list_append⟩
  | setdefault => exact ⟨PySem.F.plainAttrs_dict, PySem.F.slot_dict_setdefault, PySem.F.type_dict_setdefault⟩

section
variable {F : Fx} {X : Cx} {μ μ' : Zn} {H H' : Hp} {α α' : AH} {ρ : Loc'} {σ : L2.St} {Q : VK}
theorem isTy_at (ft : Fit F X) {pins : List (Addr × Obj)} {s : Shared} (I : Inv X pins σ H s) (rel : Rel F μ α H) {T : String} {p : PV} {x : V} {v : Value} (h : isTy T p α = true) (rp : Rep F μ H p x) (rx : RelV x v) :
    s.TypeIs v T ∧ ∀ a, v = .ref a → ∃ ob, s.heap.get? a = some ob ∧ ob.dict = none := by
  unfold isTy at h
  split at h
  · rename_i e
    subst e
    obtain ⟨⟨k, xs⟩, hk⟩ := Option.isSome_iff_exists.mp h
    obtain ⟨a, vs, rfl, _, _, hH, _⟩ := lstAt_at rel hk rp
    cases rx
    obtain ⟨z, its, n, r, hl, e⟩ := I.lstM hH
    exact ⟨⟨_, e, rfl⟩, fun b q => by cases q; exact ⟨_, e, rfl⟩⟩
  · split at h
    · rename_i e
      subst e
      obtain ⟨⟨k, xs⟩, hk⟩ := Option.isSome_iff_exists.mp h
      obtain ⟨a, rfl, hi, ha⟩ := dctAt_at rel hk rp
      cases rx
      obtain ⟨h1, h2, _⟩ := dct_type ft I (rel.obj _ _ _ hi ha)
      exact ⟨h1, h2⟩
    · cases h
theorem rep_erase : ∀ {ps : List PV} {vs : List V} (i : Nat), RepL F μ H ps vs → RepL F μ H (ps.eraseIdx i) (vs.eraseIdx i)
  | _, _, _, .nil => .nil
  | _, _, 0, .cons _ b => b
  | _, _, i + 1, .cons a b => .cons a (rep_erase i b)
theorem mP_run (ft : Fit F X) (m : M) : MtR X m.id (fun x xs H Q => ∃ p ps μ α, Rel F μ α H ∧ Rep F μ H p x ∧ RepL F μ H ps xs ∧ Post F μ H (mP m p ps α) (Rep F) Q) := by
  intro pins s σ H x xs v us Q I rx rv h
  obtain ⟨p, ps, μ, α, rel, rp, rs, h⟩ := h
  unfold mP at h
  split at h
  · cases rs
    split at h
    · rename_i k ys hk
      split at h
      · rename_i y hy
        obtain ⟨a, vs, rfl, hi, ha, hH, rl⟩ := lstAt_at rel hk rp
        obtain ⟨w, hw, rw'⟩ := rl.get hy
        obtain ⟨l, rel'⟩ := put_list rel hi hH (rl.dropLast)
        refine mt_pop pins s σ H _ _ v us Q I rx rv ⟨a, vs, w, rfl, rfl, hH, by rw [← rl.length]; exact hw, h _ _ _ l rel' (rw'.le l)⟩
      · exact False.elim h
    · exact False.elim h
  · cases rs with
    | cons r1 r2 =>
    cases r2; cases r1
    split at h
    · rename_i k ys hk
      obtain ⟨hc, h⟩ := need_okG h
      have hc := of_decide_eq_true hc
      split at h
      · rename_i j hj
        split at h
        · rename_i y hy
          obtain ⟨a, vs, rfl, hi, ha, hH, rl⟩ := lstAt_at rel hk rp
          obtain ⟨w, hw, rw'⟩ := rl.get hy
          obtain ⟨l, rel'⟩ := put_list rel hi hH (rep_erase j rl)
          refine mt_popAt pins s σ H _ _ v us Q I rx rv ⟨a, vs, _, j, w, rfl, rfl, hH, hc.1, hc.2, by rw [← rl.length]; exact hj, hw, h _ _ _ l rel' (rw'.le l)⟩
        · exact False.elim h
      · exact False.elim h
    · exact False.elim h
  · cases rs with
    | cons r1 r2 =>
    cases r2
    split at h
    · rename_i k ys hk
      obtain ⟨hc, h⟩ := need_okG h
      have hc := of_decide_eq_true hc
      obtain ⟨a, vs, rfl, hi, ha, hH, rl⟩ := lstAt_at rel hk rp
      obtain ⟨l, rel'⟩ := put_list rel hi hH (rl.append (.cons r1 .nil))
      refine mt_append pins s σ H _ _ v us Q I rx rv ⟨a, vs, _, rfl, rfl, hH, by rw [← rl.length]; exact hc, h _ _ _ l rel' .non⟩
    · exact False.elim h
  · cases rs with
    | cons r1 r2 =>
    cases r2 with
    | cons r2 r3 =>
    cases r3
    split at h
    · rename_i k kvs hk
      obtain ⟨hc, h⟩ := need_okG h
      simp only [Bool.and_eq_true, decide_eq_true_eq] at hc
      obtain ⟨⟨c1, c2⟩, c3⟩ := hc
      obtain ⟨a, rfl, hi, ha⟩ := dctAt_at rel hk rp
      cases rx
      cases rv with
      | cons v1 v2 =>
      cases v2 with
      | cons v2 v3 =>
      cases v3
      refine dx_setdefault ft ft.room I rel hi ha c1 c3 c2 r1 v1 r2 v2 (fun x z r s' hx I' rz rw' => ?_) fun hn H' s' I' l rel' => ?_
      · rw [hx] at h
        exact ⟨z, H, I', rz, Post.here rel h rw'⟩
      · rw [hn] at h
        exact ⟨_, H', I', v2, h _ _ _ l rel' (r2.le l)⟩
    · exact False.elim h
  · exact False.elim h

/-- o.m(..): o is no call without arguments by a name (of super) -/
def noCall : Expr → Bool
  | .Call (.Name _ _) [] [] _ => false
  | _ => true
theorem base_of {o : Expr} {f : Str} {env : Env} (h : noCall o = true) : attributeBase o f env (eval o env) = eval o env := by
  cases o <;> first | rfl | skip
  rename_i fn args kws pos
  cases fn <;> first | rfl | skip
  cases args <;> first | rfl | skip
  cases kws <;> first | rfl | cases h
variable {o e : Expr} {es : List Expr} {mo : Den} {ms : Loc' → AH → Res (List PV)} {apos cpos : Pos}
theorem mth_read {m : M} (h : tE F (fun ρ α => (mo ρ α).bind fun p α => need (isTy m.ty p α) ((ms ρ α).bind fun ps α => mP m p ps α)) σ H Q) :
    tE F mo σ H fun x H1 => (∃ p μ α, Rel F μ α H1 ∧ Rep F μ H1 p x ∧ isTy m.ty p α = true) ∧ tAs F ms σ H1 fun xs H2 => ∃ p ps μ α, Rel F μ α H2 ∧ Rep F μ H2 p x ∧ RepL F μ H2 ps xs ∧ Post F μ H2 (mP m p ps α) (Rep F) Q := by
  obtain ⟨μ, ρ, α, h⟩ := h
  refine ⟨μ, ρ, α, h.bind.imp fun x H1 ⟨p, μ1, α1, l1, rp, rel1, env1, h1⟩ => ?_⟩
  obtain ⟨ht, h1⟩ := need_okG h1
  refine ⟨⟨p, μ1, α1, rel1, rp, ht⟩, μ1, ρ, α1, (At.bind (R1 := RepL F) (n := fun ps α => mP m p ps α) ⟨rel1, env1, h1⟩).imp fun xs H2 ⟨ps, μ2, α2, l2, rs, h2⟩ => ⟨p, ps, μ2, α2, h2.1, rp.le l2, rs, h2.2.2⟩⟩
theorem k_mth0 (ft : Fit F X) (m : M) (ho : PE X o (tE F mo)) (hb : noCall o = true) (hline : (apos.endLine == cpos.line) = true) :
    PE X (.Call (.Attribute o m.name apos) [] [] cpos) (tE F fun ρ α => (mo ρ α).bind fun p α => need (isTy m.ty p α) ((Res.ok [] α).bind fun ps α => mP m p ps α)) := by
  refine ⟨fun pins s σ H Q I h => ?_⟩
  obtain ⟨μ0, ρ0, α0, h0⟩ := mth_read (ms := fun _ α => .ok [] α) h
  refine wpAny_Call_method0_late (base_of hb) hline (thn (ho.run pins s σ H _ I ⟨μ0, ρ0, α0, h0⟩) fun v s1 ⟨x, H1, I1, r1, ⟨p, μ, α, rel, rp, ht⟩, q1⟩ => ?_)
  obtain ⟨h1, h2⟩ := isTy_at ft I1 rel ht rp r1
  obtain ⟨μ, ρ, α, rel, env, q1⟩ := q1
  exact ⟨m.ty, m.id, (mth_ok m).pa, (mth_ok m).slot, (mth_ok m).ty, h1, h2, Calls.callWith_builtin rfl (PySem.evalArgs_none (mP_run ft m pins s1 σ H1 x [] v [] Q I1 r1 .nil (q1 μ H1 [] (.refl F μ H1) rel .nil)))⟩
theorem k_mth (ft : Fit F X) (m : M) (ho : PE X o (tE F mo)) (ha : PA X (e :: es) (tAs F ms)) (hb : noCall o = true) (hline : (apos.endLine == cpos.line) = true) (hs : (e :: es).all noStar = true) (hn : (e :: es).length < 30) :
    PE X (.Call (.Attribute o m.name apos) (e :: es) [] cpos) (tE F fun ρ α => (mo ρ α).bind fun p α => need (isTy m.ty p α) ((ms ρ α).bind fun ps α => mP m p ps α)) := by
  refine ⟨fun pins s σ H Q I h => ?_⟩
  obtain ⟨μ0, ρ0, α0, h0⟩ := mth_read h
  have hfew : ((backTo cpos (starEach (e :: es) X.env)).all (fun x => !x.1) && (backToKw cpos (keywordEach [] X.env)).all (fun x => x.1.isSome)
      && decide ((e :: es).length + ([] : List Keyword).length + (if ([] : List Keyword).isEmpty then 0 else 1) < 30)) = true := by
    rw [star_all hs, show backToKw cpos (keywordEach [] X.env) = [] from rfl]
    simpa using hn
  refine wpAny_Call_method_late (base_of hb) hfew hline rfl (thn (ho.run pins s σ H _ I ⟨μ0, ρ0, α0, h0⟩) fun v s1 ⟨x, H1, I1, r1, ⟨p, μ, α, rel, rp, ht⟩, q1⟩ => ?_)
  obtain ⟨h1, h2⟩ := isTy_at ft I1 rel ht rp r1
  refine ⟨m.ty, m.id, (mth_ok m).pa, (mth_ok m).slot, (mth_ok m).ty, h1, h2, ?_⟩
  have hA := ha.run cpos pins s1 σ H1 _ I1 q1
  have hs0 := hs
  rw [List.all_cons, Bool.and_eq_true] at hs
  rw [star_cons hs.1] at hA ⊢
  refine Calls.callWith_builtin (by show (false || (backTo cpos (starEach es X.env)).any (·.1)) = false; rw [star_any hs.2]; rfl) (Calls.evalArgs_plain ?_)
  exact thn hA fun us s2 ⟨vs, H2, I2, r2, q2⟩ => mP_run ft m pins s2 σ H2 x vs v us Q I2 r1 r2 q2
end
end Mw
end
section
set_option Elab.async false
set_option linter.all false
set_option maxRecDepth 100000
set_option maxHeartbeats 2000000
/-! Mw10: what is walked. -/
namespace Mw
open PySem PySem.Spec PyProof.Rows L2

section
variable {F : Fx} {X : Cx} {μ μ' : Zn} {H H' : Hp} {α α' : AH} {ρ : Loc'} {σ : L2.St} {Q : VK}
/-- locked things stay -/
def Kz (H H' : Hp) : Prop := ∀ a o u, H a = some (.frz o u) → H' a = some (.frz o u)
/-- an iterator yields the source's items, as long as the source stays -/
structure Walk (F : Fx) (μ : Zn) (H : Hp) (s : Src) (J : L2.It) : Prop where
  go : ∀ μ' H' α', Ext F μ H μ' H' → Kz H H' → Rel F μ' α' H' → s.still α' = true → ∀ i p, s.items[i]? = some p → J.go i H' ∧ ∀ x H'', J.yld i H' x H'' → ∃ μ'', Le F μ' H' μ'' H'' ∧ Rel F μ'' α' H'' ∧ Rep F μ'' H'' p x
  stop : ∀ μ' H' α', Ext F μ H μ' H' → Kz H H' → Rel F μ' α' H' → s.still α' = true → J.stop s.items.length H'
/-- never locked ahead of this body -/
def NoFz (X : Cx) (d : Addr) : Prop := ∀ o' u', X.H_0 d ≠ some (.frz o' u')
/-- an object that may be walked: the store's dict -/
def DctU (F : Fx) (μ : Zn) (H : Hp) (d : Addr) (kvs : List (PV × PV)) (u : HO) : Prop := (∃ ks, u = .dK ks ∧ RepK F μ H kvs ks) ∨ ∃ L, u = DX F.P F.w d L ∧ RepX F μ H kvs L
/-- the iterator, and the heap at its beginning: a dict is locked there -/
def SrcL (F : Fx) (X : Cx) (μ : Zn) (H : Hp) (s : Src) (JH : L2.It × Hp) : Prop :=
  ((∀ k kvs, s.src ≠ some (k, .ldct kvs)) ∧ JH.2 = H ∧ Walk F μ H s JH.1) ∨
    ∃ k kvs d u ob, s.src = some (k, .ldct kvs) ∧ μ.on[k]? = some d ∧ H d = some u ∧ DctU F μ H d kvs u ∧ JH.2 = upd H d (.frz ob u) ∧ NoFz X d ∧ Walk F μ JH.2 s JH.1
/-- a walk's reading -/
def tI (F : Fx) (X : Cx) (m : Loc' → AH → Res Src) : TI := fun σ H R => tR F (SrcL F X) m σ H fun JH _ => R JH.1 JH.2

theorem walk_list {items : List PV} {src : Option (Nat × AO)} {a : Addr}
    (h : ∀ μ' H' α', Ext F μ H μ' H' → Rel F μ' α' H' → Src.still ⟨items, src⟩ α' = true → ∃ vs, SqL F.K H' a vs ∧ RepL F μ' H' items vs) : Walk F μ H ⟨items, src⟩ (Itl F.K a) where
  go := fun μ' H' α' e _ r st i p hp => by
    obtain ⟨vs, hs, rl⟩ := h μ' H' α' e r st
    obtain ⟨v, hv, rv⟩ := rl.get hp
    refine ⟨⟨vs, v, hs, hv⟩, fun x H'' hy => ?_⟩
    obtain ⟨rfl, hy⟩ := hy
    have := hy vs hs
    rw [hv] at this; cases this
    exact ⟨μ', .refl F μ' H'', r, rv⟩
  stop := fun μ' H' α' e _ r st => by
    obtain ⟨vs, hs, rl⟩ := h μ' H' α' e r st
    exact ⟨vs, hs, Nat.le_of_eq rl.length.symm⟩
theorem walk_tup {items : List PV} {src : Option (Nat × AO)} {a : Addr}
    (h : ∀ μ' H' α', Ext F μ H μ' H' → Rel F μ' α' H' → Src.still ⟨items, src⟩ α' = true → ∃ vs, SqT F.K H' a vs ∧ RepL F μ' H' items vs) : Walk F μ H ⟨items, src⟩ (Itt F.K a) where
  go := fun μ' H' α' e _ r st i p hp => by
    obtain ⟨vs, hs, rl⟩ := h μ' H' α' e r st
    obtain ⟨v, hv, rv⟩ := rl.get hp
    refine ⟨⟨vs, v, hs, hv⟩, fun x H'' hy => ?_⟩
    obtain ⟨rfl, hy⟩ := hy
    have := hy vs hs
    rw [hv] at this; cases this
    exact ⟨μ', .refl F μ' H'', r, rv⟩
  stop := fun μ' H' α' e _ r st => by
    obtain ⟨vs, hs, rl⟩ := h μ' H' α' e r st
    exact ⟨vs, hs, Nat.le_of_eq rl.length.symm⟩
/-- what a list's or a tuple's walk needs -/
theorem src_at (rel : Rel F μ α H) {p : PV} {v : V} {s : Src} {α1 : AH} (h : srcOf p α = .ok s α1) (rp : Rep F μ H p v) :
    α1 = α ∧ (∀ k kvs, s.src ≠ some (k, .ldct kvs)) ∧ ∃ a, v = .ref a ∧ ((∃ xs, SqL F.K H a xs) ∧ Walk F μ H s (Itl F.K a) ∨ (∃ xs, SqT F.K H a xs) ∧ Walk F μ H s (Itt F.K a)) := by
  unfold srcOf at h
  cases rp with
  | tup e q => cases h; exact ⟨rfl, (fun _ _ e => by cases e), _, rfl, .inr ⟨⟨_, .inl (.inl e)⟩, walk_tup fun μ' H' α' x r _ => ⟨_, .inl (.inl (x.tup _ _ e)), q.ext x⟩⟩⟩
  | tupW e q => cases h; exact ⟨rfl, (fun _ _ e => by cases e), _, rfl, .inr ⟨⟨_, .inr e⟩, walk_tup fun μ' H' α' x r _ => ⟨_, .inr e, q.ext x⟩⟩⟩
  | fl n e q => cases h; exact ⟨rfl, (fun _ _ e => by cases e), _, rfl, .inl ⟨⟨_, .inl (.inl e)⟩, walk_list fun μ' H' α' x r _ => ⟨_, .inl (.inl (x.no _ _ n e).2), q.ext x⟩⟩⟩
  | scr e q => cases h; exact ⟨rfl, (fun _ _ e => by cases e), _, rfl, .inl ⟨⟨_, e.sql⟩, walk_list fun μ' H' α' x r _ => ⟨_, (x.sqf e).sql, q.ext x⟩⟩⟩
  | @ref i a e =>
    simp only at h
    split at h
    · rename_i xs hx
      cases h
      obtain ⟨vs, e1, q⟩ := rel.obj _ _ _ e hx
      refine ⟨rfl, (fun _ _ e => by cases e), _, rfl, .inl ⟨⟨_, .inl (.inl e1)⟩, walk_list fun μ' H' α' x r st => ?_⟩⟩
      have st : decide (α'[i]? = some (AO.lst xs)) = true := st
      obtain ⟨ws, e2, q2⟩ := r.obj i a _ (x.at e) (of_decide_eq_true st)
      exact ⟨ws, .inl (.inl e2), q2⟩
    · cases h
  | _ => cases h
/-- for x in e: e a list or a tuple -/
theorem pi_seq {tg l : Expr} {tl : TE} (hl : PE X l tl) : PI X tg l (fun σ H R => tl σ H fun x H1 => ∃ a, x = .ref a ∧ ((∃ xs, SqL X.K H1 a xs) ∧ R (Itl X.K a) H1 ∨ (∃ xs, SqT X.K H1 a xs) ∧ R (Itt X.K a) H1)) := by
  refine ⟨fun pins s σ H R I h => thn (hl.run pins s σ H _ I h) fun v s1 ⟨x, H1, I1, r1, a, ex, q⟩ => ?_⟩
  subst ex
  obtain rfl : v = Value.ref a := r1
  have nb : ∀ b, b ∈ [s1.heap.objs.size] → FpOk X pins H1 b := fun b hb => by
    obtain rfl : b = s1.heap.objs.size := by simpa using hb
    exact I1.fpOk (Nat.le_refl _) (I1.hok.fresh (Nat.le_refl _))
  have keepI : ∀ o : Obj, Inv X pins σ H1 { s1 with heap := s1.heap.push o } := fun o => I1.kept (t' := s1.toks) fun b ob e => Heap.get?_push_of_some _ e
  rcases q with ⟨⟨xs, hq⟩, q⟩ | ⟨⟨xs, hq⟩, q⟩
  · obtain ⟨its, rv, p, hz⟩ := I1.list hq
    exact wpAny_pyIter_list p.isList ⟨_, [s1.heap.objs.size], _, _, H1, rfl, keepI _, turn_list a _, ⟨_, Heap.get?_push_size _ rfl, rfl, rfl⟩, nb, q⟩
  · obtain ⟨its, rv, p, hz⟩ := I1.tuple hq
    exact wpAny_pyIter_tuple (show s1.heap.IsTuple a its.toArray from p) ⟨_, [s1.heap.objs.size], _, _, H1, rfl, keepI _, turn_tuple a _, ⟨_, Heap.get?_push_size _ rfl, rfl, rfl⟩, nb, q⟩
theorem i_val (ft : Fit F X) {tg e : Expr} {m : Den} (he : PE X e (tE F m)) : PI X tg e (tI F X fun ρ α => (m ρ α).bind fun p α => srcOf p α) := by
  refine ⟨fun pins s σ H R I ⟨μ, ρ, α, h⟩ => ?_⟩
  refine (pi_seq he).run pins s σ H R I ⟨μ, ρ, α, (At.bind (R1 := Rep F) h).imp fun x H1 ⟨p, μ1, α1, l, rp, rel1, env1, h1⟩ => ?_⟩
  cases hs : srcOf p α1 with
  | ok sr α2 =>
    rw [hs] at h1
    obtain ⟨rfl, nl, a, rfl, c⟩ := src_at rel1 hs rp
    refine ⟨a, rfl, ?_⟩
    rw [ft.K]
    rcases c with ⟨c, w⟩ | ⟨c, w⟩
    · exact .inl ⟨c, h1 μ1 H1 (_, _) (.refl F μ1 H1) rel1 (.inl ⟨nl, rfl, w⟩)⟩
    · exact .inr ⟨c, h1 μ1 H1 (_, _) (.refl F μ1 H1) rel1 (.inl ⟨nl, rfl, w⟩)⟩
  | err c xs a => rw [hs] at h1; exact h1.elim
  | bad => rw [hs] at h1; exact h1.elim

/-! ### ranges -/
theorem walk_range (lo hi : Int) : Walk F μ H ⟨rangeP lo hi, none⟩ (Itr lo (hi - lo).toNat) where
  go := fun μ' H' α' e _ r st i p hp => by
    have hp : (rangeP lo hi)[i]? = some p := hp
    unfold rangeP at hp
    rw [List.getElem?_map] at hp
    have hi' : i < (hi - lo).toNat := by
      rcases Nat.lt_or_ge i (hi - lo).toNat with h | h
      · exact h
      · rw [List.getElem?_eq_none (by simpa using h)] at hp; cases hp
    rw [List.getElem?_range hi'] at hp
    cases hp
    refine ⟨hi', fun x H'' hy => ?_⟩
    obtain ⟨rfl, rfl⟩ := hy
    exact ⟨μ', .refl F μ' H'', r, .int _⟩
  stop := fun μ' H' α' e _ r st => by
    show (hi - lo).toNat ≤ (rangeP lo hi).length
    simp [rangeP]
theorem range_at {p q : PV} {x y : V} {R : L2.It → Hp → Prop} (rel : Rel F μ α H) (rp : Rep F μ H p x) (rq : Rep F μ H q y) (h : Post F μ H (srcRange p q α) (SrcL F X) (fun JH _ => R JH.1 JH.2)) :
    ∃ i j : Int, x = .int i ∧ y = .int j ∧ (-(2 ^ 62) ≤ i ∧ i < 2 ^ 62 ∧ -(2 ^ 62) ≤ j ∧ j < 2 ^ 62) ∧ R (Itr i (j - i).toNat) H := by
  unfold srcRange at h
  split at h
  · cases rp; cases rq
    obtain ⟨hc, h⟩ := need_okG h
    have hc := of_decide_eq_true hc
    exact ⟨_, _, rfl, rfl, hc, h μ H (_, _) (.refl F μ H) rel (.inl ⟨(fun _ _ e => by cases e), rfl, walk_range _ _⟩)⟩
  · exact False.elim h
theorem i_range1 {tg a : Expr} {m : Den} {p pos : Pos} (hb : Blt X "range" (.type "range")) (ha : PE X a (tE F m)) (hs : noStar a = true) : PI X tg (.Call (.Name "range" p) [a] [] pos) (tI F X fun ρ α => (m ρ α).bind fun p α => srcRange (.int 0) p α) := by
  refine ⟨fun pins s σ H R I ⟨μ, ρ, α, h⟩ => ?_⟩
  refine (pi_range1 hb.gl hb.mg (pa_cons ha pa_nil (star_cons hs)) (star_cons hs)).run pins s σ H R I ⟨μ, ρ, α, (At.bind (R1 := Rep F) h).imp fun x H1 ⟨p, μ1, α1, l, rp, rel1, env1, h1⟩ => ?_⟩
  obtain ⟨i, j, e1, rfl, hc, q⟩ := range_at (x := .int 0) rel1 (.int 0) rp h1
  cases e1
  exact ⟨j, rfl, hc.2.2.1, hc.2.2.2, by simpa using q⟩
theorem i_range2 {tg a b : Expr} {ma mb : Den} {p pos : Pos} (hb : Blt X "range" (.type "range")) (ha : PE X a (tE F ma)) (hc : PE X b (tE F mb)) (hs : noStar a = true) (hs2 : noStar b = true) :
    PI X tg (.Call (.Name "range" p) [a, b] [] pos) (tI F X fun ρ α => (ma ρ α).bind fun p α => (mb ρ α).bind fun q α => srcRange p q α) := by
  refine ⟨fun pins s σ H R I ⟨μ, ρ, α, h⟩ => ?_⟩
  refine (pi_range2 hb.gl hb.mg (pa_cons ha (pa_cons hc pa_nil (star_cons hs2)) (star_cons hs)) (by rw [star_cons hs, star_cons hs2]; rfl) (star_cons hs2)).run pins s σ H R I ?_
  refine ⟨μ, ρ, α, (At.bind (R1 := Rep F) h).imp fun x H1 ⟨p, μ1, α1, l, rp, rel1, env1, h1⟩ => ⟨μ1, ρ, α1, (At.bind (R1 := Rep F) ⟨rel1, env1, h1⟩).imp fun y H2 ⟨q, μ2, α2, l2, rq, rel2, env2, h2⟩ => ?_⟩⟩
  obtain ⟨i, j, rfl, rfl, hc, q⟩ := range_at rel2 (rp.le l2) rq h2
  exact ⟨i, j, rfl, hc, q⟩

/-! ### a dict's values -/
/-- the dict's raw pairs: the values -/
structure Raw (d : Addr) (o : Obj) (es : Array DictEntry) (ep : Nat) (vs : List V) : Prop where
  ns : (d == sysModules) = false
  ex : o.ExactDict
  dat : o.data = .dict es ep
  len : vs.length = es.size
  val : ∀ (i : Nat) (e : DictEntry) (v : V), es[i]? = some e → vs[i]? = some v → RelV v e.val
theorem raw_K {pins : List (Addr × Obj)} {s : Shared} {P : Program} {w : World} {d : Addr} {ks : List (Key × V)} (hok : ObjOk P w H s.heap d (.dK ks)) :
    ∃ ob es ep, s.heap.get? d = some ob ∧ Raw d ob es ep (ks.map (·.2)) := by
  obtain ⟨z, hd, vs, rel, ob, es, ep, h1, h2, h3, h4, h5, h6⟩ := hok
  have e1 : ks.length = vs.length := Paired.length rel
  have e2 : es.toList.length = vs.length := h5.length
  rw [Array.length_toList] at e2
  refine ⟨ob, es, ep, h1, hd, h2, h3, by rw [List.length_map]; omega, fun i e v he hv => ?_⟩
  rw [List.getElem?_map] at hv
  cases hk : ks[i]? with
  | none => rw [hk] at hv; cases hv
  | some p =>
    rw [hk] at hv
    cases hv
    obtain ⟨u, hu, ru⟩ := kv_get (k := p.1) (v := p.2) rel hk
    obtain ⟨_, e3⟩ := h5.get? (by rw [Array.getElem?_toList]; exact he) hu
    rw [e3]; exact ru
theorem raw_X {s : Shared} {P : Program} {w : World} {d : Addr} {L : List (NestedKey × Addr × V)} (hok : ObjOk P w H s.heap d (DX P w d L)) :
    ∃ ob es ep, s.heap.get? d = some ob ∧ Raw d ob es ep (L.map (·.2.2)) := by
  obtain ⟨⟨hz, hd, xs, pl, ob, es, ep, h1, h2, h3, h4, h5⟩, _⟩ := hok
  have e1 : L.length = xs.length := Paired.length pl
  have e2 := congrArg List.length h4
  rw [Array.length_toList, List.length_map] at e2
  refine ⟨ob, es, ep, h1, hd, h2, h3, by rw [List.length_map]; omega, fun i e v he hv => ?_⟩
  rw [List.getElem?_map] at hv
  cases hk : L[i]? with
  | none => rw [hk] at hv; cases hv
  | some p =>
    rw [hk] at hv
    cases hv
    obtain ⟨b, hb, q1, q2, q3⟩ := L2.paired_get pl hk
    have e3 : es.toList[i]? = some e := by rw [Array.getElem?_toList]; exact he
    rw [h4, List.getElem?_map, hb] at e3
    cases e3
    exact q3
/-- the values of the locked dict at d -/
def Itq (d : Addr) (o : Obj) (u : HO) (vs : List V) : L2.It :=
  ⟨fun i H => H d = some (.frz o u) ∧ i < vs.length, fun i H x H' => H' = H ∧ vs[i]? = some x, fun i H => H d = some (.frz o u) ∧ vs.length ≤ i⟩
theorem turn_valsQ {P : Program} {w : World} {K : PySem.W.Frag} {tg : Expr} {d : Addr} {o : Obj} {u : HO} {es : Array DictEntry} {ep : Nat} {vs : List V} (it : Addr) (R : Raw d o es ep vs) :
    Turn P w K tg (Itq d o u vs) [it] it (fun i h => h.IsValIter it d i vs.length ep) where
  mem := by simp
  obj := fun i h st b hb => by
    obtain rfl : b = it := by simpa using hb
    obtain ⟨oi, e, c, dd⟩ := st
    exact ⟨oi, e, fun v z => by rw [dd] at z; cases z⟩
  keep := fun i h h' st k => st.at fun oi e => k it (by simp) oi e
  item := by
    intro X hP hw hK hc i pins s σ H E I hf st hg
    subst hP hw hK
    obtain ⟨hd, hi⟩ := hg
    obtain ⟨f0, f1, f2, f3, f4, f5⟩ := hf it (by simp)
    obtain ⟨ho, _⟩ := I.hok d _ hd
    have hl := R.len
    rw [hl] at st hi
    refine wpAny_pyNext_values_item_raw st ⟨o, ho, R.ex, R.dat⟩ hi fun h' st' sb => ?_
    have I1 : Inv X pins σ H { s with heap := h' } := I.turned (t' := s.toks) (fun b ob hb e => (sb.2 b hb).trans e) f0 f1 f3 f4 f5
    obtain ⟨oi, e, c, dd⟩ := id st'
    have hv : vs[i]? = some (vs[i]'(by omega)) := List.getElem?_eq_getElem (by omega)
    refine ⟨_, rfl, go_of (s := { s with heap := h' }) e c dd (by decide) ⟨vs[i]'(by omega), H, I1, R.val i _ _ (Array.getElem?_eq_getElem hi) hv, ⟨rfl, hv⟩, ?_, fun b hb => (hf b hb).1⟩⟩
    show h'.IsValIter it d (i + 1) vs.length _
    rw [hl]
    exact st'
  done := by
    intro X hP hw hK hc i pins s σ H E I hf st hg
    subst hP hw hK
    obtain ⟨hd, hi⟩ := hg
    obtain ⟨f0, f1, f2, f3, f4, f5⟩ := hf it (by simp)
    obtain ⟨ho, _⟩ := I.hok d _ hd
    rw [R.len] at st hi
    exact wpAny_pyNext_values_end_raw (I.ok.hd hc) st ⟨o, ho, R.ex, R.dat⟩ hi fun h' eb => ⟨rfl, I.turned (t' := s.toks) (fun b ob hb e => eb b ob hb e) f0 f1 f3 f4 f5⟩
  self := fun A i s Q E st h => wpAny_pyIter_valiter st h
theorem repK_vals : ∀ {kvs : List (PV × PV)} {ks : List (Key × V)}, RepK F μ H kvs ks → RepL F μ H (kvs.map (·.2)) (ks.map (·.2))
  | _, _, .nil => .nil
  | _, _, .cons _ a b => .cons a (repK_vals b)
theorem repX_vals : ∀ {kvs : List (PV × PV)} {ks : List (NestedKey × Addr × V)}, RepX F μ H kvs ks → RepL F μ H (kvs.map (·.2)) (ks.map (·.2.2))
  | _, _, .nil => .nil
  | _, _, .cons _ _ _ a b => .cons a (repX_vals b)
/-- e.values(), the dict locked from here on -/
theorem pi_valsQ (ft : Fit F X) {tg e : Expr} {te : TE} {apos cpos : Pos} (he : PE X e te) (hb : noCall e = true) (hline : (apos.endLine == cpos.line) = true) :
    PI X tg (.Call (.Attribute e "values" apos) [] [] cpos) (fun σ H R => te σ H fun x H1 => ∃ d u μ kvs, x = .ref d ∧ H1 d = some u ∧ DctU F μ H1 d kvs u ∧
      ∀ ob vs, NoFz X d → RepL F μ H1 (kvs.map (·.2)) vs → R (Itq d ob u vs) (upd H1 d (.frz ob u))) := by
  refine ⟨fun pins s σ H R I h => ?_⟩
  refine wpAny_Call_method (T := "dict") (id := "dict.values") (base_of hb) rfl hline PySem.F.plainAttrs_dict PySem.F.slot_dict_values PySem.F.type_dict_values (thn (he.run pins s σ H _ I h) fun v s1 ⟨x, H1, I1, rx, d, u, μ, kvs, ex, hd, du, q⟩ => ?_)
  subst ex
  obtain rfl : v = Value.ref d := rx
  obtain ⟨ob, es, ep, vs, mu, hob, raw, rl⟩ : ∃ ob es ep vs, Mut (some u) ∧ s1.heap.get? d = some ob ∧ Raw d ob es ep vs ∧ RepL F μ H1 (kvs.map (·.2)) vs := by
    rcases du with ⟨ks, rfl, r⟩ | ⟨L, rfl, r⟩
    · obtain ⟨ob, es, ep, h1, h2⟩ := raw_K (pins := pins) (I1.hok d _ hd)
      exact ⟨ob, es, ep, _, True.intro, h1, h2, repK_vals r⟩
    · obtain ⟨ob, es, ep, h1, h2⟩ := raw_X (P := X.prog) (w := X.w) (by have z := I1.hok d _ hd; rw [← ft.P, ← ft.w] at z; exact z)
      exact ⟨ob, es, ep, _, True.intro, h1, h2, repX_vals r⟩
  have hm : s1.heap.DictRaw d es ep := ⟨ob, hob, raw.ex, raw.dat⟩
  refine ⟨hm.typeIs, fun a e => by cases e; exact ⟨ob, hob, raw.ex.2.1⟩, ?_⟩
  obtain ⟨od, I2⟩ := I1.lock hd mu
  obtain rfl : od = ob := by
    obtain ⟨e1, _⟩ := I2.hok d _ upd_same
    rw [hob] at e1; cases e1; rfl
  have I3 : Inv X pins σ (upd H1 d (.frz od u)) { s1 with heap := s1.heap.push { cls := .type "dict_values", data := .fields #[.ref d] } } := I2.kept (t' := s1.toks) fun b ob q => Heap.get?_push_of_some _ q
  have fin : wpAny (model X.prog X.w) X.A (pyIter (.ref s1.heap.objs.size)) (PIE X pins σ tg R) X.xe { s1 with heap := s1.heap.push { cls := .type "dict_values", data := .fields #[.ref d] } } := by
    refine wpAny_pyIter_values_raw (d := d) ⟨_, Heap.get?_push_size _ rfl, rfl, rfl⟩ (hm.at fun o e => Heap.get?_push_of_some _ e) (pi_one (tk := s1.toks) I3 _ (turn_valsQ _ raw) ⟨_, Heap.get?_push_size _ rfl, rfl, ?_⟩ (q od vs (I1.nofrz hd mu) rl))
    rw [raw.len]; rfl
  show wpAny _ _ (callWith cpos (.builtin "dict.values") [.ref d] [] []) _ X.xe s1
  exact method_meetsIn PySem.F.slot_dict_values PySem.F.entry_dict_values rfl (PySem.evalArgs_none ⟨rfl, hm.typeIs, PySem.F.args_dict_values_1 _, _, meets_dict_values_raw d raw.ns, ⟨es, ep, hm⟩, fin⟩)
/-- the lock's walk -/
theorem walk_vals {d : Addr} {o : Obj} {u : HO} {vs : List V} {k : Nat} {kvs : List (PV × PV)} (hk : μ.on[k]? = some d) (hf : H d = some (.frz o u)) (du : DctU F μ H d kvs u) (rl : RepL F μ H (kvs.map (·.2)) vs) : Walk F μ H ⟨kvs.map (·.2), some (k, .ldct kvs)⟩ (Itq d o u vs) where
  go := fun μ' H' α' e z r st i p hp => by
    obtain ⟨v, hv, rv⟩ := (rl.ext e).get hp
    refine ⟨⟨z _ _ _ hf, (List.getElem?_eq_some_iff.mp hv).1⟩, fun x H'' hy => ?_⟩
    obtain ⟨rfl, hy⟩ := hy
    rw [hv] at hy; cases hy
    exact ⟨μ', .refl F μ' H'', r, rv⟩
  stop := fun μ' H' α' e z r st => ⟨z _ _ _ hf, Nat.le_of_eq rl.length.symm⟩
/-- e.values(): the store's dict, locked from here on -/
theorem i_vals (ft : Fit F X) {tg e : Expr} {m : Den} {apos cpos : Pos} (he : PE X e (tE F m)) (hb : noCall e = true) (hline : (apos.endLine == cpos.line) = true) :
    PI X tg (.Call (.Attribute e "values" apos) [] [] cpos) (tI F X fun ρ α => (m ρ α).bind fun p α => srcVals p α) := by
  refine ⟨fun pins s σ H R I ⟨μ, ρ, α, h⟩ => ?_⟩
  refine (pi_valsQ ft he hb hline).run pins s σ H R I ⟨μ, ρ, α, (At.bind (R1 := Rep F) h).imp fun x H1 ⟨p, μ1, α1, l, rp, rel1, env1, h1⟩ => ?_⟩
  unfold srcVals at h1
  split at h1
  · rename_i k kvs hk
    obtain ⟨d, rfl, hi, ha⟩ := dctAt_at rel1 hk rp
    have o : OR F μ1 H1 d (.dct kvs) := rel1.obj _ _ _ hi ha
    obtain ⟨u, hu, du⟩ : ∃ u, H1 d = some u ∧ DctU F μ1 H1 d kvs u := by
      rcases o with ⟨ks, e, r⟩ | ⟨L, e, r⟩
      · exact ⟨_, e, .inl ⟨ks, rfl, r⟩⟩
      · exact ⟨_, e, .inr ⟨L, rfl, r⟩⟩
    refine ⟨d, u, μ1, kvs, rfl, hu, du, fun ob vs nf rl => ?_⟩
    have hnf : ∀ o u', H1 d ≠ some (.frz o u') := o.nf
    have l : Le F μ1 H1 μ1 (upd H1 d (.frz ob u)) := Le.mk' rel1 ⟨[], by simp⟩ rfl (fun b x n e => ⟨n, by rw [upd_ne (fun z => n (by rw [z]; exact List.mem_of_getElem? hi))]; exact e⟩) fun b o u e => by rw [upd_ne (fun z => hnf o u (by rw [← z]; exact e))]; exact e
    have du' : DctU F μ1 (upd H1 d (.frz ob u)) d kvs u := by
      rcases du with ⟨ks, e, r⟩ | ⟨L, e, r⟩
      · exact .inl ⟨ks, e, r.le l⟩
      · exact .inr ⟨L, e, r.le l⟩
    exact h1 μ1 H1 (_, _) (.refl F μ1 H1) rel1 (.inr ⟨k, kvs, d, u, ob, rfl, hi, hu, du, rfl, nf, walk_vals hi upd_same du' (rl.le l)⟩)
  · exact h1.elim
end
end Mw
end
section
set_option Elab.async false
set_option linter.all false
set_option maxRecDepth 100000
set_option maxHeartbeats 2000000
/-! Mw11: targets and statements. -/
namespace Mw
open PySem PySem.Spec PyProof.Rows L2

section
variable {F : Fx} {X : Cx} {μ μ' : Zn} {H H' : Hp} {α α' : AH} {ρ : Loc'} {σ : L2.St} {Q : VK}
/-! ### targets -/
/-- only these slots have changed -/
def Same (vs : List Nat) (σ σ' : L2.St) : Prop := σ'.length = σ.length ∧ ∀ j, j ∉ vs → σ'[j]? = σ[j]?
theorem Same.refl (vs : List Nat) (σ : L2.St) : Same vs σ σ := ⟨rfl, fun _ _ => rfl⟩
theorem Same.trans {vs ws : List Nat} {σ σ1 σ2 : L2.St} (a : Same vs σ σ1) (b : Same ws σ1 σ2) : Same (vs ++ ws) σ σ2 :=
  ⟨b.1.trans a.1, fun j h => by
    rw [List.mem_append, not_or] at h
    rw [b.2 j h.2, a.2 j h.1]⟩
theorem Same.set (i : Nat) (o : Option V) (σ : L2.St) : Same [i] σ (σ.set i o) := ⟨by simp, fun j h => by
  rw [List.getElem?_set_ne (fun e => h (by simp [e]))]⟩
def PostG (F : Fx) (μ : Zn) (H : Hp) (r : Res Loc') (vs : List Nat) (σ : L2.St) (Q : L2.St → Hp → Prop) : Prop :=
  match r with
  | .ok ρ' α' => ∀ μ' H' σ', Le F μ H μ' H' → Rel F μ' α' H' → EnvR F μ' H' ρ' σ' → Same vs σ σ' → Q σ' H'
  | .err _ _ _ => False
  | .bad => False
theorem PostG.from {r : Res Loc'} {vs ws : List Nat} {σ1 : L2.St} {Q : L2.St → Hp → Prop} (l : Le F μ H μ' H') (sm : Same ws σ σ1) (h : PostG F μ H r (ws ++ vs) σ Q) : PostG F μ' H' r vs σ1 Q := by
  cases r with
  | ok p a => exact fun μ'' H'' σ' l' r' e s => h μ'' H'' σ' (l.trans l') r' e (sm.trans s)
  | err c xs a => exact h
  | bad => exact h
def tG (F : Fx) (mt : PV → Loc' → AH → Res Loc') (vs : List Nat) : TG := fun v σ H Q => ∃ μ ρ α p, Rel F μ α H ∧ EnvR F μ H ρ σ ∧ Rep F μ H p v ∧ PostG F μ H (mt p ρ α) vs σ Q
def tGs (F : Fx) (mt : List PV → Loc' → AH → Res Loc') (vs : List Nat) : TGs := fun xs σ H Q => ∃ μ ρ α ps, Rel F μ α H ∧ EnvR F μ H ρ σ ∧ RepL F μ H ps xs ∧ PostG F μ H (mt ps ρ α) vs σ Q
theorem pg_imp {tg : Expr} {t t' : TG} (h : PG X tg t) (hi : ∀ v σ H Q, t' v σ H Q → t v σ H Q) : PG X tg t' := ⟨fun pins s σ H v u Q I r q => h.run pins s σ H v u Q I r (hi v σ H Q q)⟩
theorem pgs_imp {tg : List Expr} {t t' : TGs} (h : PGs X tg t) (hi : ∀ v σ H Q, t' v σ H Q → t v σ H Q) : PGs X tg t' := ⟨fun pins s σ H v u Q I r q => h.run pins s σ H v u Q I r (hi v σ H Q q)⟩
theorem g_var {i : Nat} {x : Str} {pos : Pos} (hN : X.N.Nodup) (hi : X.N[i]? = some x) (hx : Loc X.env.scope x) (hf : X.fn x = true ∨ X.env.scope.names.lookup x = some .local) : PG X (.Name x pos) (tG F (fun p ρ α => .ok (ρ.set i (some p)) α) [i]) :=
  pg_imp (pg_name hN hi hx hf) fun v σ H Q ⟨μ, ρ, α, p, rel, env, rp, h⟩ => h μ H _ (.refl F μ H) rel (env.set rp) (Same.set i _ σ)
theorem gs_nil {f : List PV → Loc' → AH → Res Loc'} (hf : ∀ ps ρ α, f ps ρ α = match ps with
    | [] => .ok ρ α
    | _ => .bad) : PGs X [] (tGs F f []) := by
  refine pgs_imp pgs_nil fun v σ H Q ⟨μ, ρ, α, ps, rel, env, rp, h⟩ => ?_
  rw [hf] at h
  cases rp with
  | nil => exact ⟨rfl, h μ H _ (.refl F μ H) rel env (.refl _ σ)⟩
  | cons a b => exact False.elim h
theorem asg_cons {e : Expr} {es : List Expr} {env : Env} (h : noStar e = true) : assignEach (e :: es) env = (false, assign e env) :: assignEach es env := by
  cases e <;> first | rfl | cases h
theorem asg_len {env : Env} : ∀ {es : List Expr}, es.all noStar = true → (assignEach es env).length = es.length ∧ (assignEach es env).findIdx? (·.1) = none
  | [], _ => ⟨rfl, rfl⟩
  | e :: es, h => by
    rw [List.all_cons, Bool.and_eq_true] at h
    obtain ⟨h1, h2⟩ := asg_len (env := env) h.2
    rw [asg_cons h.1]
    exact ⟨by simp [h1], by rw [List.findIdx?_cons]; simp [h2]⟩
theorem gs_cons {e : Expr} {es : List Expr} {mt : PV → Loc' → AH → Res Loc'} {mts f : List PV → Loc' → AH → Res Loc'} {vs ws : List Nat} (h1 : PG X e (tG F mt vs)) (h2 : PGs X es (tGs F mts ws)) (hs : noStar e = true)
    (hf : ∀ ps ρ α, f ps ρ α = match ps with
      | p :: ps => (mt p ρ α).bind fun ρ α => mts ps ρ α
      | [] => .bad) : PGs X (e :: es) (tGs F f (vs ++ ws)) := by
  refine pgs_imp (pgs_cons h1 h2 (by rw [asg_cons hs]; rfl)) fun v σ H Q ⟨μ, ρ, α, ps, rel, env, rp, h⟩ => ?_
  rw [hf] at h
  cases rp with
  | nil => exact False.elim h
  | @cons p v ps vs' a b =>
    refine ⟨v, vs', rfl, μ, ρ, α, p, rel, env, a, ?_⟩
    dsimp only at h
    cases hm : mt p ρ α with
    | ok ρ1 α1 =>
      rw [hm] at h
      exact fun μ1 H1 σ1 l r1 e1 s1 => ⟨μ1, ρ1, α1, ps, r1, e1, b.le l, PostG.from l s1 h⟩
    | err c xs a => rw [hm] at h; exact h
    | bad => rw [hm] at h; exact h
theorem g_tup (ft : Fit F X) {es : List Expr} {k : Nat} {pos : Pos} {mts : List PV → Loc' → AH → Res Loc'} {f : PV → Loc' → AH → Res Loc'} {vs : List Nat} (h : PGs X es (tGs F mts vs)) (hs : es.all noStar = true)
    (hl : ∀ ps ρ α ρ' α', mts ps ρ α = .ok ρ' α' → ps.length = es.length) (hf : ∀ x ρ α, f x ρ α = match x with
      | .tup xs => mts xs ρ α
      | _ => .bad) : PG X (.Tuple es k pos) (tG F f vs) := by
  obtain ⟨h1, h2⟩ := asg_len (env := X.env) hs
  refine pg_imp (pg_tup ft.calm h h1 h2) fun v σ H Q ⟨μ, ρ, α, p, rel, env, rp, h⟩ => ?_
  rw [hf] at h
  cases p with
  | tup xs =>
    obtain ⟨a, ws, rfl, e, rl⟩ := rp.sqt
    dsimp only at h
    refine ⟨a, ws, rfl, by rw [ft.K]; exact e, ?_, μ, ρ, α, xs, rel, env, rl, h⟩
    cases hm : mts xs ρ α with
    | ok ρ1 α1 => rw [← rl.length]; exact hl _ _ _ _ _ hm
    | err c xs a => rw [hm] at h; exact h.elim
    | bad => rw [hm] at h; exact h.elim
  | _ => exact False.elim h
def noSlice : Expr → Bool
  | .Slice _ _ _ _ => false
  | _ => true
theorem plainIx {b : Expr} (h : noSlice b = true) : PlainIx b := by
  intro o i
  cases b <;> first | rfl | cases h
theorem asg_sub {o i : Expr} {pos : Pos} {env : Env} (h : noSlice i = true) : ∀ v, assign (.Subscript o i pos) env v = (do
      let ov ← holding [v] (eval o env)
      let iv ← holding [v, ov] (eval i env)
      standAt pos
      holding [v, ov, iv] (setItem ov iv v)
      release [v, ov, iv] []) := by
  intro v
  cases i <;> first | rfl | cases h
theorem g_sub (ft : Fit F X) {o i : Expr} {mo mi : Den} {pos : Pos} (ho : PE X o (tE F mo)) (hi : PE X i (tE F mi)) (hs : noSlice i = true) :
    PG X (.Subscript o i pos) (tG F (fun x ρ α => (mo ρ α).bind fun p α => (mi ρ α).bind fun q α => (setP p q x α).bind fun _ α => .ok ρ α) []) := by
  refine pg_imp (pg_sub ho hi (set_all ft) (asg_sub hs)) fun v σ H Q ⟨μ, ρ, α, x, rel, env, rx, h⟩ => ?_
  dsimp only at h
  refine ⟨μ, ρ, α, rel, env, ?_⟩
  cases h1 : mo ρ α with
  | ok p α1 =>
    rw [h1] at h
    intro μ1 H1 v1 l1 rel1 rp
    refine ⟨μ1, ρ, α1, rel1, env.le l1, ?_⟩
    simp only [Res.ok_bind] at h
    cases h2 : mi ρ α1 with
    | ok q α2 =>
      rw [h2] at h
      intro μ2 H2 v2 l2 rel2 rq
      refine ⟨p, q, x, μ2, α2, rel2, rp.le l2, rq, (rx.le l1).le l2, ?_⟩
      simp only [Res.ok_bind] at h
      cases h3 : setP p q x α2 with
      | ok u α3 =>
        rw [h3] at h
        exact fun μ3 H3 _ l3 rel3 _ => h μ3 H3 σ ((l1.trans l2).trans l3) rel3 (((env.le l1).le l2).le l3) (.refl _ σ)
      | err c xs a => rw [h3] at h; exact h
      | bad => rw [h3] at h; exact h
    | err c xs a => rw [h2] at h; exact h
    | bad => rw [h2] at h; exact h
  | err c xs a => rw [h1] at h; exact h
  | bad => rw [h1] at h; exact h
end
end Mw
end
section
set_option Elab.async false
set_option linter.all false
set_option maxRecDepth 100000
set_option maxHeartbeats 2000000
/-! Mw12: statements. -/
namespace Mw
open PySem PySem.Spec PyProof.Rows L2

/-- a def's body -/
structure FitS (F : Fx) (X : Cx) : Prop extends Fit F X where
  po : PassesOwn (model X.prog X.w) X.A X.env X.xe
  kd : X.env.scope.kind = .function

section
variable {F : Fx} {X : Cx} {μ μ' : Zn} {H H' : Hp} {α α' : AH} {ρ : Loc'} {σ : L2.St} {Q : VK} {D : Ends}
def PostS (F : Fx) (μ : Zn) (H : Hp) (r : SRes) (D : Ends) : Prop :=
  match r with
  | .ok (.nx ρ') α' => ∀ μ' H' σ', Le F μ H μ' H' → Rel F μ' α' H' → EnvR F μ' H' ρ' σ' → D.nx σ' H'
  | .ok (.bk ρ') α' => ∀ μ' H' σ', Le F μ H μ' H' → Rel F μ' α' H' → EnvR F μ' H' ρ' σ' → D.bk σ' H'
  | .ok (.ct ρ') α' => ∀ μ' H' σ', Le F μ H μ' H' → Rel F μ' α' H' → EnvR F μ' H' ρ' σ' → D.ct σ' H'
  | .ok (.rt p) α' => ∀ μ' H' v, Le F μ H μ' H' → Rel F μ' α' H' → Rep F μ' H' p v → D.rt v H'
  | .err _ _ _ => False
  | .bad => False
def tS (F : Fx) (m : Loc' → AH → SRes) : TS := fun D σ H => ∃ μ ρ α, Rel F μ α H ∧ EnvR F μ H ρ σ ∧ PostS F μ H (m ρ α) D
theorem PostS.from {r : SRes} (l : Le F μ H μ' H') (h : PostS F μ H r D) : PostS F μ' H' r D := by
  cases r with
  | ok f a => cases f <;> exact fun μ'' H'' σ' l' r' e => h μ'' H'' σ' (l.trans l') r' e
  | err c xs a => exact h
  | bad => exact h
/-- what a way out is to reach -/
def DF (D : Ends) (σ : L2.St) (v : V) (H : Hp) : Fl → Prop
  | .nx _ => D.nx σ H
  | .bk _ => D.bk σ H
  | .ct _ => D.ct σ H
  | .rt _ => D.rt v H
/-- first m, then a statement -/
theorem At.bindS {β γ : Type} {R1 : Zn → Hp → β → γ → Prop} {r : Res β} {n : β → AH → SRes} (rel : Rel F μ α H) (env : EnvR F μ H ρ σ) (post : PostS F μ H (r.bind n) D) :
    At F μ ρ σ α H r R1 (fun v H1 => ∃ p μ1 α1, Le F μ H μ1 H1 ∧ R1 μ1 H1 p v ∧ Rel F μ1 α1 H1 ∧ EnvR F μ1 H1 ρ σ ∧ PostS F μ1 H1 (n p α1) D) := by
  refine ⟨rel, env, ?_⟩
  cases r with
  | ok p α1 => exact fun μ1 H1 v l r1 q => ⟨p, μ1, α1, l, q, r1, env.le l, PostS.from l post⟩
  | err c xs a => exact post
  | bad => exact post
theorem tE_bindS {m : Den} {n : PV → Loc' → AH → SRes} (h : tS F (fun ρ α => (m ρ α).bind fun p α => n p ρ α) D σ H) :
    tE F m σ H fun x H1 => ∃ p μ ρ α, Rep F μ H1 p x ∧ Rel F μ α H1 ∧ EnvR F μ H1 ρ σ ∧ PostS F μ H1 (n p ρ α) D := by
  obtain ⟨μ, ρ, α, rel, env, h⟩ := h
  exact ⟨μ, ρ, α, (At.bindS rel env h).imp fun xs H1 ⟨ps, μ1, α1, _, rs, rel1, e1, h1⟩ => ⟨ps, μ1, ρ, α1, rs, rel1, e1, h1⟩⟩
variable {st : Stmt} {sts : List Stmt} {a b c e : Expr} {m ma mb : Den} {ms mu mv : Loc' → AH → SRes} {pos : Pos}
theorem here_nx {ρ' : Loc'} (h : PostS F μ H (.ok (.nx ρ') α) D) (rel : Rel F μ α H) (env : EnvR F μ H ρ' σ) : D.nx σ H := h μ H σ (.refl F μ H) rel env
theorem s_nil : PSs X [] (tS F fun ρ α => .ok (.nx ρ) α) := pss_imp pss_nil fun D σ H ⟨μ, ρ, α, rel, env, h⟩ => here_nx h rel env
/-- the next statement behind a way out -/
def seqF (mv : Loc' → AH → SRes) (f : Fl) (α : AH) : SRes := match f with
  | .nx ρ => mv ρ α
  | f => .ok f α
theorem seq_post {r : SRes} (h : PostS F μ H (r.bind (seqF mv)) D) : PostS F μ H r { D with nx := tS F mv D } := by
  cases r with
  | ok f α1 =>
    cases f with
    | nx ρ1 => exact fun μ1 H1 σ1 l r1 e1 => ⟨μ1, ρ1, α1, r1, e1, PostS.from l h⟩
    | bk ρ1 => exact h
    | ct ρ1 => exact h
    | rt p => exact h
  | err c xs a => exact h
  | bad => exact h
theorem s_cons (h1 : PS X st (tS F mu)) (h2 : PSs X sts (tS F mv)) : PSs X (st :: sts) (tS F fun ρ α => (mu ρ α).bind (seqF mv)) :=
  pss_imp (pss_cons h1 h2) fun D σ H ⟨μ, ρ, α, rel, env, h⟩ => ⟨μ, ρ, α, rel, env, seq_post h⟩
theorem s_pass : PS X (.Pass pos) (tS F fun ρ α => .ok (.nx ρ) α) := ps_imp ps_pass fun D σ H ⟨μ, ρ, α, rel, env, h⟩ => here_nx h rel env
theorem s_brk : PS X (.Break pos) (tS F fun ρ α => .ok (.bk ρ) α) := ps_imp ps_break fun D σ H ⟨μ, ρ, α, rel, env, h⟩ => h μ H σ (.refl F μ H) rel env
theorem s_cont : PS X (.Continue pos) (tS F fun ρ α => .ok (.ct ρ) α) := ps_imp ps_continue fun D σ H ⟨μ, ρ, α, rel, env, h⟩ => h μ H σ (.refl F μ H) rel env
def noComp : Expr → Bool
  | .ListComp _ _ _ _ => false
  | .SetComp _ _ _ _ => false
  | .DictComp _ _ _ _ _ => false
  | _ => true
theorem swaps_no {e : Expr} {t : Option Expr} {n : Nat} {env : Env} (h : noComp e = true) : swapsWith e t n env = pure false := by
  cases e <;> first | rfl | cases h
theorem s_expr (he : PE X e (tE F m)) (hn : noComp e = true) : PS X (.Expr e pos) (tS F fun ρ α => (m ρ α).bind fun _ α => .ok (.nx ρ) α) := by
  refine ps_imp (ps_expr he (swaps_no hn)) fun D σ H h => ?_
  obtain ⟨μ, ρ, α, h⟩ := tE_bindS (n := fun _ ρ α => .ok (.nx ρ) α) h
  exact ⟨μ, ρ, α, h.imp fun x H1 ⟨p, μ1, ρ1, α1, _, rel1, e1, h1⟩ => here_nx h1 rel1 e1⟩
theorem s_ret (he : PE X e (tE F m)) : PS X (.Return (some e) pos) (tS F fun ρ α => (m ρ α).bind fun p α => .ok (.rt p) α) := by
  refine ps_imp (ps_ret he) fun D σ H h => ?_
  obtain ⟨μ, ρ, α, h⟩ := tE_bindS (n := fun p ρ α => .ok (.rt p) α) h
  exact ⟨μ, ρ, α, h.imp fun x H1 ⟨p, μ1, ρ1, α1, rp, rel1, e1, h1⟩ => h1 μ1 H1 x (.refl F μ1 H1) rel1 rp⟩
theorem s_retN : PS X (.Return none pos) (tS F fun _ α => .ok (.rt .non) α) := ps_imp ps_retN fun D σ H ⟨μ, ρ, α, rel, env, h⟩ => h μ H _ (.refl F μ H) rel .non
/-- a value, stored to a target -/
theorem asg_read {mt : PV → Loc' → AH → Res Loc'} {vs : List Nat} {g : TG} {x : V} {D : Ends} {p : PV} (hg : ∀ v σ H Q, tG F mt vs v σ H Q → g v σ H Q) (rel : Rel F μ α H) (env : EnvR F μ H ρ σ) (rp : Rep F μ H p x)
    (h : PostS F μ H ((mt p ρ α).bind fun ρ α => .ok (.nx ρ) α) D) : g x σ H D.nx := by
  refine hg x σ H D.nx ⟨μ, ρ, α, p, rel, env, rp, ?_⟩
  cases hm : mt p ρ α with
  | ok ρ1 α1 => rw [hm] at h; exact fun μ1 H1 σ1 l r1 e1 _ => h μ1 H1 σ1 l r1 e1
  | err c xs a => rw [hm] at h; exact h
  | bad => rw [hm] at h; exact h
theorem s_asg {tg : Expr} {mt : PV → Loc' → AH → Res Loc'} {vs : List Nat} (he : PE X e (tE F m)) (hg : PG X tg (tG F mt vs)) (hs : swapsWith e (some tg) pos.line X.env = pure false) (hw : swappedStores [tg] e X.env = pure none) (hn : noStar tg = true) :
    PS X (.Assign [tg] e pos) (tS F fun ρ α => (m ρ α).bind fun p α => (mt p ρ α).bind fun ρ α => .ok (.nx ρ) α) := by
  refine ps_imp (ps_asg he hg hs hw (by rw [asg_cons hn]; rfl)) fun D σ H h => ?_
  obtain ⟨μ, ρ, α, h⟩ := tE_bindS (n := fun p ρ α => (mt p ρ α).bind fun ρ α => .ok (.nx ρ) α) h
  exact ⟨μ, ρ, α, h.imp fun x H1 ⟨p, μ1, ρ1, α1, rp, rel1, e1, h1⟩ => asg_read (fun _ _ _ _ h => h) rel1 e1 rp h1⟩
/-- the stores of a, b = x, y -/
theorem par_read {ms : Loc' → AH → Res (List PV)} {is : List Nat} {D : Ends} (h : tS F (fun ρ α => (ms ρ α).bind fun ps α => need (decide (ps.length = is.length)) (.ok (.nx (setAll is ps ρ)) α)) D σ H) :
    tAs F ms σ H fun xs H1 => xs.length = is.length ∧ ∃ ps μ ρ α, RepL F μ H1 ps xs ∧ Rel F μ α H1 ∧ EnvR F μ H1 ρ σ ∧ PostS F μ H1 (.ok (.nx (setAll is ps ρ)) α) D := by
  obtain ⟨μ, ρ, α, rel, env, h⟩ := h
  refine ⟨μ, ρ, α, (At.bindS rel env h).imp fun xs H1 ⟨ps, μ1, α1, _, rs, rel1, e1, h1⟩ => ?_⟩
  cases hc : decide (ps.length = is.length) with
  | true =>
    rw [hc] at h1
    exact ⟨by rw [← rs.length]; exact of_decide_eq_true hc, ps, μ1, ρ, α1, rs, rel1, e1, h1⟩
  | false => rw [hc] at h1; exact h1.elim
theorem s_par2 (fs : FitS F X) {i j : Nat} {x y : Str} {px py pt : Pos} {kt k2 : Nat} {pt2 : Pos} {ms : Loc' → AH → Res (List PV)} (hi : X.N[i]? = some x) (hj : X.N[j]? = some y) (hij : i ≠ j) (hx : X.env.scope.names.lookup x = some .local) (hy : X.env.scope.names.lookup y = some .local)
    (ha : PA X [a, b] (tAs F ms)) (hw : swappedStores [.Tuple [.Name x px, .Name y py] kt pt] (.Tuple [a, b] k2 pt2) X.env = pure (some [x, y])) :
    PS X (.Assign [.Tuple [.Name x px, .Name y py] kt pt] (.Tuple [a, b] k2 pt2) pos) (tS F fun ρ α => (ms ρ α).bind fun ps α => need (decide (ps.length = [i, j].length)) (.ok (.nx (setAll [i, j] ps ρ)) α)) := by
  refine ps_imp (ps_par fs.calm fs.nd hi hj hij hx hy ha hw) fun D σ H h => ?_
  obtain ⟨μ, ρ, α, h⟩ := par_read h
  refine ⟨μ, ρ, α, h.imp fun xs H1 ⟨hl, ps, μ1, ρ1, α1, rs, rel1, e1, h1⟩ => ?_⟩
  cases rs with
  | nil => cases hl
  | cons r1 rs =>
  cases rs with
  | nil => cases hl
  | cons r2 rs =>
  cases rs with
  | nil => exact ⟨_, _, rfl, here_nx h1 rel1 ((e1.set r1).set r2)⟩
  | cons r3 rs => simp at hl
theorem s_par3 (fs : FitS F X) {i j l : Nat} {x y z : Str} {px py pz pt : Pos} {kt k2 : Nat} {pt2 : Pos} {ms : Loc' → AH → Res (List PV)} (hi : X.N[i]? = some x) (hj : X.N[j]? = some y) (hl : X.N[l]? = some z) (hij : i ≠ j) (hil : i ≠ l) (hjl : j ≠ l)
    (hx : X.env.scope.names.lookup x = some .local) (hy : X.env.scope.names.lookup y = some .local) (hz : X.env.scope.names.lookup z = some .local)
    (ha : PA X [a, b, c] (tAs F ms)) (hw : swappedStores [.Tuple [.Name x px, .Name y py, .Name z pz] kt pt] (.Tuple [a, b, c] k2 pt2) X.env = pure (some [x, y, z])) :
    PS X (.Assign [.Tuple [.Name x px, .Name y py, .Name z pz] kt pt] (.Tuple [a, b, c] k2 pt2) pos) (tS F fun ρ α => (ms ρ α).bind fun ps α => need (decide (ps.length = [i, j, l].length)) (.ok (.nx (setAll [i, j, l] ps ρ)) α)) := by
  refine ps_imp (ps_par3 fs.calm fs.nd hi hj hl hij hil hjl hx hy hz ha hw) fun D σ H h => ?_
  obtain ⟨μ, ρ, α, h⟩ := par_read h
  refine ⟨μ, ρ, α, h.imp fun xs H1 ⟨hl, ps, μ1, ρ1, α1, rs, rel1, e1, h1⟩ => ?_⟩
  cases rs with
  | nil => cases hl
  | cons r1 rs =>
  cases rs with
  | nil => cases hl
  | cons r2 rs =>
  cases rs with
  | nil => cases hl
  | cons r3 rs =>
  cases rs with
  | nil => exact ⟨_, _, _, rfl, here_nx h1 rel1 (((e1.set r1).set r2).set r3)⟩
  | cons r4 rs => simp at hl
/-- a op= e at an int -/
def augP (o : Bop) (p q : PV) (α : AH) : Res PV := match p, q with
  | .int _, .int _ => bop o p q α
  | _, _ => .bad
theorem s_aug (fs : FitS F X) {i : Nat} {x : Str} {o : Bop} {op : Operator} {g : Int → Int → Int} {px : Pos} (ho : PIp X op (ipI g)) (hop : ∀ i j α, bop o (.int i) (.int j) α = .ok (.int (g i j)) α) (hi : X.N[i]? = some x) (hx : Loc X.env.scope x)
    (hf : X.fn x = true ∨ X.env.scope.names.lookup x = some .local) (he : PE X e (tE F m)) :
    PS X (.AugAssign (.Name x px) op e pos) (tS F fun ρ α => match ρ[i]? with
      | some (some p) => (m ρ α).bind fun q α => match p, q with
        | .int _, .int _ => (bop o p q α).bind fun r α => .ok (.nx (ρ.set i (some r))) α
        | _, _ => .bad
      | _ => .bad) := by
  refine ps_imp (ps_aug fs.nd hi hx he ho hf) fun D σ H ⟨μ, ρ, α, rel, env, h⟩ => ?_
  dsimp only at h
  split at h
  · rename_i p hp
    obtain ⟨v, e1, rp⟩ := env.2 i p hp
    refine ⟨v, e1, μ, ρ, α, (At.bindS rel env h).imp fun y H1 ⟨q, μ1, α1, l, rq, rel1, env1, h1⟩ => ?_⟩
    split at h1
    · cases rp; cases rq
      rw [hop] at h1
      exact ⟨_, _, rfl, rfl, here_nx h1 rel1 (env1.set (.int _))⟩
    · exact False.elim h1
  · exact False.elim h
theorem s_if {mt : Loc' → AH → Res Bool} {p q : List Stmt} (hc : PT X c (tB' F mt)) (ha : PSs X p (tS F mu)) (hb : PSs X q (tS F mv)) : PS X (.If c p q pos) (tS F fun ρ α => (mt ρ α).bind fun t α => match t with
    | true => mu ρ α
    | false => mv ρ α) := by
  refine ps_imp (ps_if hc ha hb) fun D σ H ⟨μ, ρ, α, rel, env, h⟩ => ?_
  refine ⟨μ, ρ, α, (At.bindS (R1 := fun _ _ b c => b = c) rel env h).imp fun k H1 ⟨t, μ1, α1, l, ht, rel1, env1, h1⟩ => ?_⟩
  subst ht
  cases t with
  | true => rw [if_pos rfl]; exact ⟨μ1, ρ, α1, rel1, env1, h1⟩
  | false => rw [if_neg Bool.false_ne_true]; exact ⟨μ1, ρ, α1, rel1, env1, h1⟩

/-! ### while -/
theorem whl_post {mt : Loc' → AH → Res Bool} {n : Nat} {r : SRes} (h : PostS F μ H (r.bind fun f α2 => match f with
      | .nx ρ1 => turnsW mt mu n ρ1 α2
      | .ct ρ1 => turnsW mt mu n ρ1 α2
      | .bk ρ1 => .ok (.nx ρ1) α2
      | .rt p => .ok (.rt p) α2) D) : PostS F μ H r { D with nx := tS F (turnsW mt mu n) D, ct := tS F (turnsW mt mu n) D, bk := D.nx } := by
  cases r with
  | ok f α1 =>
    cases f with
    | nx ρ1 => exact fun μ1 H1 σ1 l r1 e1 => ⟨μ1, ρ1, α1, r1, e1, PostS.from l h⟩
    | bk ρ1 => exact h
    | ct ρ1 => exact fun μ1 H1 σ1 l r1 e1 => ⟨μ1, ρ1, α1, r1, e1, PostS.from l h⟩
    | rt p => exact h
  | err c xs a => exact h
  | bad => exact h
theorem s_while (fs : FitS F X) {mt : Loc' → AH → Res Bool} {body : List Stmt} (hc : PT X c (tB' F mt)) (hb : PSs X body (tS F mu)) : PS X (.While c body [] pos) (tS F (whileM mt mu)) := by
  refine ps_imp (ps_while fs.po hc hb) fun D σ H ⟨μ, ρ, α, rel, env, h⟩ => ?_
  unfold whileM at h
  split at h
  · rename_i hx
    refine ⟨fun n σ H => tS F (turnsW mt mu n) D σ H, ⟨_, μ, ρ, α, rel, env, h⟩, fun n σ1 H1 ⟨μ1, ρ1, α1, rel1, env1, h1⟩ => ?_⟩
    cases n with
    | zero => exact False.elim h1
    | succ n =>
      unfold turnsW at h1
      refine ⟨μ1, ρ1, α1, (At.bindS (R1 := fun _ _ b c => b = c) rel1 env1 h1).imp fun k H2 ⟨t, μ2, α2, l, ht, rel2, env2, h2⟩ => ?_⟩
      subst ht
      cases t with
      | true =>
        rw [if_pos rfl]
        exact ⟨tS F (turnsW mt mu n) D, fun σ' H' hh => ⟨n, Nat.lt_succ_self n, hh⟩, μ2, ρ1, α2, rel2, env2, whl_post h2⟩
      | false =>
        rw [if_neg Bool.false_ne_true]
        exact here_nx h2 rel2 env2
  · exact False.elim h

/-! ### for -/
/-- the thing at d unlocked, if there is one locked -/
def Unl (X : Cx) (H : Hp) (P : Hp → Prop) : Prop := P H ∨ ∃ d od u, H d = some (.frz od u) ∧ NoFz X d ∧ P (upd H d u)
def unlD (X : Cx) (D : Ends) : Ends := ⟨fun σ H => Unl X H (D.nx σ), fun v H => Unl X H (D.rt v), fun σ H => Unl X H (D.bk σ), fun σ H => Unl X H (D.ct σ)⟩
theorem unl_ok {pins : List (Addr × Obj)} {s : Shared} {P : Hp → Prop} (I : Inv X pins σ H s) (h : Unl X H P) : ∃ H', Inv X pins σ H' s ∧ P H' := by
  rcases h with h | ⟨d, od, u, e, nf, h⟩
  · exact ⟨H, I, h⟩
  · exact ⟨_, I.unlock e nf, h⟩
theorem ps_unl {t : TS} (h : PS X st t) : PS X st (fun D σ H => t (unlD X D) σ H) := by
  refine ⟨fun pins s σ H D I q => thn (h.run pins s σ H (unlD X D) I q) fun f s1 q1 => ?_⟩
  cases f with
  | next => obtain ⟨σ1, H1, I1, q1⟩ := q1; obtain ⟨H2, I2, q2⟩ := unl_ok I1 q1; exact ⟨σ1, H2, I2, q2⟩
  | brk => obtain ⟨σ1, H1, I1, q1⟩ := q1; obtain ⟨H2, I2, q2⟩ := unl_ok I1 q1; exact ⟨σ1, H2, I2, q2⟩
  | cont => obtain ⟨σ1, H1, I1, q1⟩ := q1; obtain ⟨H2, I2, q2⟩ := unl_ok I1 q1; exact ⟨σ1, H2, I2, q2⟩
  | ret v => obtain ⟨x, σ1, H1, I1, r, q1⟩ := q1; obtain ⟨H2, I2, q2⟩ := unl_ok I1 q1; exact ⟨x, σ1, H2, I2, r, q2⟩
theorem pe_unl {t : TE} (h : PE X e t) : PE X e (fun σ H Q => t σ H fun v H' => Unl X H' (Q v)) := by
  refine ⟨fun pins s σ H Q I q => thn (h.run pins s σ H _ I q) fun v s1 ⟨x, H1, I1, r, q1⟩ => ?_⟩
  obtain ⟨H2, I2, q2⟩ := unl_ok I1 q1
  exact ⟨x, H2, I2, r, q2⟩
/-- a walk has begun: the base, the heap with what is locked -/
structure Begun (F : Fx) (X : Cx) (μ : Zn) (H : Hp) (α : AH) (s : Src) (J : L2.It) (H' : Hp) : Prop where
  le : Le F μ H μ H'
  rel : Rel F μ (s.lock α) H'
  walk : Walk F μ H' s J
  done : ∀ {β : Type} (b : β) μ2 off' H2 α2 r, Le F μ H μ2 H2 → Kz H' H2 → Rel F ⟨μ2.on, off'⟩ α2 H2 → s.done b α2 = r → r = .bad ∨ ∃ α3, r = .ok b α3 ∧
    ∀ P : Hp → Prop, (∀ H3, Le F μ H μ2 H3 → Rel F ⟨μ2.on, off'⟩ α3 H3 → Ext F ⟨μ2.on, off'⟩ H2 ⟨μ2.on, off'⟩ H3 → (∀ a, a ∉ μ2.on → H3 a = H2 a) → P H3) → Unl X H2 P
theorem dctU_nf {d : Addr} {kvs : List (PV × PV)} {u : HO} (du : DctU F μ H d kvs u) : (∀ o x, u ≠ .frz o x) ∧ (∀ vs, u ≠ .lst vs) ∧ (∀ vs, u ≠ .tup vs) ∧ (∀ b, u ≠ .own b) := by
  rcases du with ⟨ks, rfl, _⟩ | ⟨L, rfl, _⟩
  · exact ⟨fun _ _ e => (by cases e), fun _ e => (by cases e), fun _ e => (by cases e), fun _ e => (by cases e)⟩
  · exact ⟨fun _ _ e => (by cases e), fun _ e => (by cases e), fun _ e => (by cases e), fun _ e => (by cases e)⟩
theorem begun {s : Src} {JH : L2.It × Hp} (rel : Rel F μ α H) (h : SrcL F X μ H s JH) : Begun F X μ H α s JH.1 JH.2 := by
  rcases h with ⟨nl, e, w⟩ | ⟨k, kvs, d, u, ob, es, hk, hu, du, e, nf, w⟩
  · have hlock : ∀ α, s.lock α = α := fun α => by
      unfold Src.lock
      split
      · rename_i k kvs he; exact absurd he (nl k kvs)
      · rfl
    have hdone : ∀ {β : Type} (b : β) (α : AH), s.done b α = .ok b α := fun b α => by
      unfold Src.done
      split
      · rename_i k kvs he; exact absurd he (nl k kvs)
      · rfl
    refine ⟨by rw [e]; exact .refl F μ H, by rw [hlock, e]; exact rel, by rw [e]; exact w, fun b μ2 off' H2 α2 r l _ r2 hr => .inr ⟨α2, by rw [← hr, hdone], fun P hp => .inl (hp H2 l r2 (.refl F _ H2) fun _ _ => rfl)⟩⟩
  · obtain ⟨n1, n2, n3, n4⟩ := dctU_nf du
    have hdm : d ∈ μ.on := List.mem_of_getElem? hk
    have hnf : ∀ o x, H d ≠ some (.frz o x) := fun o x q => by rw [hu] at q; cases q; exact n1 _ _ rfl
    have mk : ∀ {H' : Hp}, Le F μ H μ H' → DctU F μ H' d kvs u := fun l => by
      rcases du with ⟨ks, rfl, r⟩ | ⟨L, rfl, r⟩
      · exact .inl ⟨ks, rfl, r.le l⟩
      · exact .inr ⟨L, rfl, r.le l⟩
    obtain ⟨l', rel'⟩ := put_step rel (o' := .frz ob u) (ao := .ldct kvs) hk hnf fun l => by
      rcases mk l with ⟨ks, rfl, r⟩ | ⟨L, rfl, r⟩
      · exact .inl ⟨ob, ks, upd_same, r⟩
      · exact .inr ⟨ob, L, upd_same, r⟩
    have hlock : s.lock α = α.set k (.ldct kvs) := by unfold Src.lock; rw [es]
    rw [e] at w ⊢
    refine ⟨l', by rw [hlock]; exact rel', w, fun {β} b μ2 off' H2 α2 r l2 kz r2 hr => ?_⟩
    unfold Src.done at hr
    rw [es] at hr
    dsimp only at hr
    cases hc : decide (α2[k]? = some (.ldct kvs)) with
    | false => rw [hc] at hr; exact .inl hr.symm
    | true =>
      rw [hc] at hr
      have hk2 : μ2.on[k]? = some d := l2.ext.at hk
      have hdm2 : d ∈ μ2.on := List.mem_of_getElem? hk2
      have hf2 : H2 d = some (.frz ob u) := kz d ob u upd_same
      have o2 : OR F ⟨μ2.on, off'⟩ H2 d (.ldct kvs) := r2.obj k d _ hk2 (of_decide_eq_true hc)
      have rlen : μ2.on.length = α2.length := r2.len
      refine .inr ⟨α2.set k (.dct kvs), hr.symm, fun P hp => .inr ⟨d, ob, u, hf2, nf, hp _ ?_ ?_ ?_ ?_⟩⟩
      all_goals
        have hx : ∀ off'', Ext F ⟨μ2.on, off''⟩ H2 ⟨μ2.on, off''⟩ (upd H2 d u) := fun off'' => ⟨⟨[], by simp⟩, fun a vs h => by rw [upd_ne (fun z => by rw [z, hf2] at h; cases h)]; exact h,
          fun a o vs h => by rw [upd_ne (fun z => by rw [z, hf2] at h; cases h; exact n2 _ rfl)]; exact h, fun a o n h => ⟨n, by rw [upd_ne (fun z => n.1 (by rw [z]; exact hdm2))]; exact h⟩⟩
      · refine ⟨l2.ext.trans (hx μ2.off), l2.off, fun a o n h => ?_, fun a o x h => ?_⟩
        · obtain ⟨q1, q2⟩ := l2.fr a o n h
          exact ⟨q1, by rw [upd_ne (fun z => q1 (by rw [z]; exact hdm2))]; exact q2⟩
        · rw [upd_ne (fun z => hnf o x (by rw [← z]; exact h))]; exact l2.fz a o x h
      · refine ⟨by simp [rlen], r2.nd, fun i a ob' h1 h2 => ?_, fun b hb => ⟨(r2.offs b hb).1, upd_some (r2.offs b hb).2⟩⟩
        have h1 : μ2.on[i]? = some a := h1
        by_cases hi : i = k
        · subst hi
          rw [hk2] at h1; cases h1
          have hl : i < α2.length := by rw [← rlen]; exact (List.getElem?_eq_some_iff.mp hk2).1
          rw [List.getElem?_set_self hl] at h2
          cases h2
          rcases o2 with ⟨ob2, ks, q, r⟩ | ⟨ob2, L, q, r⟩
          · rw [hf2] at q; cases q; exact .inl ⟨ks, upd_same, r.ext (hx _)⟩
          · rw [hf2] at q; cases q; exact .inr ⟨L, upd_same, r.ext (hx _)⟩
        · rw [List.getElem?_set_ne (fun e => hi e.symm)] at h2
          refine (r2.obj i a ob' h1 h2).ext (hx _) (upd_ne fun z => hi (place_inj r2.nd (by rw [← z]; exact h1) hk2)) fun b x q => ?_
          rw [upd_ne (fun z => by rw [z, hf2] at q; cases q)]; exact q
      · exact hx _
      · exact fun a ha => upd_ne fun z => ha (by rw [z]; exact hdm2)
theorem EnvR.ext (e : EnvR F μ H ρ σ) (l : Ext F μ H μ' H') : EnvR F μ' H' ρ σ := ⟨e.1, fun i p h => let ⟨v, h1, h2⟩ := e.2 i p h; ⟨v, h1, h2.ext l⟩⟩
theorem done_post {s : Src} {J : L2.It} {HJ : Hp} {f : Fl} {μ2 : Zn} {H2 : Hp} {α2 : AH} (B : Begun F X μ H α s J HJ) (l2 : Le F μ HJ μ2 H2) (h : PostS F μ H (s.done f α2) D) : PostS F μ2 H2 (.ok f α2) (unlD X D) := by
  have go : ∀ μ' H', Le F μ2 H2 μ' H' → Rel F μ' α2 H' → s.done f α2 = .bad ∨ ∃ α3, s.done f α2 = .ok f α3 ∧ ∀ P : Hp → Prop, (∀ H3, Le F μ H μ' H3 → Rel F μ' α3 H3 → Ext F μ' H' μ' H3 → P H3) → Unl X H' P := fun μ' H' l r => by
    have lt := l2.trans l
    rcases B.done f μ' μ'.off H' α2 _ (B.le.trans lt) lt.fz r rfl with q | ⟨α3, q, w⟩
    · exact .inl q
    · exact .inr ⟨α3, q, fun P hp => w P fun H3 a b c _ => hp H3 a b c⟩
  cases f with
  | nx ρ1 =>
    intro μ' H' σ' l r e
    rcases go μ' H' l r with q | ⟨α3, q, w⟩
    · rw [q] at h; exact h.elim
    · rw [q] at h; exact w (D.nx σ') fun H3 a b c => h μ' H3 σ' a b (e.ext c)
  | bk ρ1 =>
    intro μ' H' σ' l r e
    rcases go μ' H' l r with q | ⟨α3, q, w⟩
    · rw [q] at h; exact h.elim
    · rw [q] at h; exact w (D.bk σ') fun H3 a b c => h μ' H3 σ' a b (e.ext c)
  | ct ρ1 =>
    intro μ' H' σ' l r e
    rcases go μ' H' l r with q | ⟨α3, q, w⟩
    · rw [q] at h; exact h.elim
    · rw [q] at h; exact w (D.ct σ') fun H3 a b c => h μ' H3 σ' a b (e.ext c)
  | rt p =>
    intro μ' H' v l r e
    rcases go μ' H' l r with q | ⟨α3, q, w⟩
    · rw [q] at h; exact h.elim
    · rw [q] at h; exact w (D.rt v) fun H3 a b c => h μ' H3 v a b (e.ext c)
/-- the turns of a for -/
def forStep (still : AH → Bool) (step : PV → Loc' → AH → SRes) (r : List PV) (f : Fl) (α1 : AH) : SRes := match f with
    | .nx ρ1 => turnsF still step r ρ1 α1
    | .ct ρ1 => turnsF still step r ρ1 α1
    | .bk ρ1 => .ok (.nx ρ1) α1
    | .rt p => .ok (.rt p) α1
theorem turnsF_cons (still : AH → Bool) (step : PV → Loc' → AH → SRes) (x : PV) (r : List PV) (ρ : Loc') (α : AH) : turnsF still step (x :: r) ρ α = need (still α) ((step x ρ α).bind (forStep still step r)) := rfl
def noSet : Expr → Bool
  | .Set _ _ _ => false
  | _ => true
theorem folded_no {e : Expr} {env : Env} (h : noSet e = true) : ∀ x, foldedSetIterable e env x = pure x := by
  intro x
  cases e <;> first | rfl | cases h
def forD (mi : Loc' → AH → Res Src) (mt : PV → Loc' → AH → Res Loc') (mb : Loc' → AH → SRes) : Loc' → AH → SRes := fun ρ α => (mi ρ α).bind fun s α =>
  (turnsF s.still (fun x ρ α => (mt x ρ α).bind mb) s.items ρ (s.lock α)).bind fun f α => s.done f α
theorem need_S {β : Type} {c : Bool} {r : Res β} {n : β → AH → SRes} (h : PostS F μ H ((need c r).bind n) D) : c = true ∧ PostS F μ H (r.bind n) D := by
  cases c with
  | true => exact ⟨rfl, h⟩
  | false => exact h.elim
theorem s_for (fs : FitS F X) {tg iter : Expr} {body : List Stmt} {mi : Loc' → AH → Res Src} {mt : PV → Loc' → AH → Res Loc'} {vs : List Nat} {mb : Loc' → AH → SRes} (hi : PI X tg iter (tI F X mi)) (hg : PG X tg (tG F mt vs)) (hb : PSs X body (tS F mb))
    (hs : noSet iter = true) : PS X (.For tg iter body [] pos) (tS F (forD mi mt mb)) := by
  refine ps_imp (ps_unl (ps_for fs.po fs.calm hi hg hb (folded_no hs))) fun D σ H ⟨μ, ρ, α, rel, env, h⟩ => ?_
  refine ⟨μ, ρ, α, (At.bindS (R1 := SrcL F X) rel env h).imp fun JH H1 ⟨s, μ1, α1, l, sl, rel1, env1, h1⟩ => ?_⟩
  have B := begun rel1 sl
  obtain ⟨J, HJ⟩ := JH
  dsimp only at B ⊢
  let step : PV → Loc' → AH → SRes := fun x ρ α => (mt x ρ α).bind mb
  let W : Nat → Nat → L2.St → Hp → Prop := fun i m σ2 H2 => m = s.items.length - i ∧ i ≤ s.items.length ∧ ∃ μ2 ρ2 α2, Le F μ1 HJ μ2 H2 ∧ Rel F μ2 α2 H2 ∧ EnvR F μ2 H2 ρ2 σ2 ∧
    PostS F μ1 H1 ((turnsF s.still step (s.items.drop i) ρ2 α2).bind fun f α => s.done f α) D
  refine ⟨W, ⟨_, rfl, Nat.zero_le _, μ1, ρ, s.lock α1, .refl F μ1 HJ, B.rel, env1.le B.le, by simpa using h1⟩, ?_⟩
  rintro i m σ2 H2 ⟨hm, hil, μ2, ρ2, α2, l2, r2, e2, h2⟩
  rcases Nat.lt_or_ge i s.items.length with hlt | hge
  · have hd : s.items.drop i = s.items[i] :: s.items.drop (i + 1) := (List.getElem_cons_drop hlt).symm
    rw [hd, turnsF_cons] at h2
    obtain ⟨hst, h2⟩ := need_S h2
    obtain ⟨g1, g2⟩ := B.walk.go μ2 H2 α2 l2.ext l2.fz r2 hst i _ (List.getElem?_eq_getElem hlt)
    refine .inr ⟨g1, W (i + 1) (s.items.length - (i + 1)), fun σ' H' w => ⟨_, by omega, w⟩, fun x H3 hy => ?_⟩
    obtain ⟨μ3, l3, r3, rp⟩ := g2 x H3 hy
    refine ⟨μ3, ρ2, α2, _, r3, e2.le l3, rp, ?_⟩
    cases hm : mt s.items[i] ρ2 α2 with
    | err c xs a => simp only [step, hm, Res.err_bind] at h2; exact h2
    | bad => simp only [step, hm, Res.bad_bind] at h2; exact h2
    | ok ρ4 α4 =>
      simp only [step, hm, Res.ok_bind] at h2
      intro μ4 H4 σ4 l4 r4 e4 _
      refine ⟨μ4, ρ4, α4, r4, e4, ?_⟩
      have l24 := (l2.trans l3).trans l4
      have next : ∀ (ρ5 : Loc') (α5 : AH), PostS F μ1 H1 ((turnsF s.still step (s.items.drop (i + 1)) ρ5 α5).bind fun f α => s.done f α) D → ∀ μ5 H5 σ5, Le F μ4 H4 μ5 H5 → Rel F μ5 α5 H5 → EnvR F μ5 H5 ρ5 σ5 → W (i + 1) (s.items.length - (i + 1)) σ5 H5 :=
        fun ρ5 α5 h5 μ5 H5 σ5 l5 r5 e5 => ⟨rfl, hlt, μ5, ρ5, α5, l24.trans l5, r5, e5, h5⟩
      cases hb' : mb ρ4 α4 with
      | err c xs a => rw [hb'] at h2; exact h2
      | bad => rw [hb'] at h2; exact h2
      | ok f α5 =>
        rw [hb'] at h2
        cases f with
        | nx ρ5 => exact next ρ5 α5 h2
        | ct ρ5 => exact next ρ5 α5 h2
        | bk ρ5 => exact done_post (f := .nx ρ5) B l24 h2
        | rt p => exact done_post (f := .rt p) B l24 h2
  · have hi' : i = s.items.length := by omega
    subst hi'
    rw [List.drop_length] at h2
    obtain ⟨hst, h2⟩ := need_S (r := Res.ok (Fl.nx ρ2) α2) h2
    exact .inl ⟨B.walk.stop μ2 H2 α2 l2.ext l2.fz r2 hst, here_nx (done_post (f := .nx ρ2) B l2 h2) r2 e2⟩
end
end Mw
end
section
set_option Elab.async false
set_option linter.all false
set_option maxRecDepth 100000
set_option maxHeartbeats 2000000
/-! Mw13: list comprehensions, dict displays. -/
namespace Mw
open PySem PySem.Spec PyProof.Rows L2

section
variable {F : Fx} {X : Cx} {μ μ' : Zn} {H H' : Hp} {α α' : AH} {ρ : Loc'} {σ : L2.St} {Q : VK} {D : Addr}

/-! ### the slots of a block's own names -/
theorem wipe_get (σ : L2.St) (j : Nat) : ∀ vs : List Nat, (L2.wipe σ vs)[j]? = if j ∈ vs then (σ[j]?).map (fun _ => none) else σ[j]?
  | [] => by simp [L2.wipe]
  | v :: vs => by
    unfold L2.wipe
    by_cases h : v = j
    · subst h
      by_cases hl : v < σ.length
      · rw [List.getElem?_set_self (by rw [L2.wipe_length]; exact hl)]
        simp [hl]
      · rw [List.getElem?_eq_none (by rw [List.length_set, L2.wipe_length]; omega)]
        simp [List.getElem?_eq_none (Nat.le_of_not_lt hl)]
    · rw [List.getElem?_set_ne h, wipe_get σ j vs]
      have h' : ¬ j = v := fun e => h e.symm
      simp only [List.mem_cons, h', false_or]
theorem wipe_same {own : List Nat} {σ2 : L2.St} {vs : List Nat} (hs : ∀ j ∈ vs, j ∈ own) (sm : Same vs (L2.wipe σ own) σ2) : L2.wipe σ2 own = L2.wipe σ own := by
  refine List.ext_getElem? fun j => ?_
  rw [wipe_get, wipe_get]
  have hl : σ2.length = σ.length := by rw [sm.1, L2.wipe_length]
  by_cases hj : j ∈ own
  · rw [if_pos hj, if_pos hj]
    by_cases h : j < σ.length
    · rw [List.getElem?_eq_getElem h, List.getElem?_eq_getElem (by omega)]; rfl
    · rw [List.getElem?_eq_none (by omega), List.getElem?_eq_none (by omega)]
  · rw [if_neg hj, if_neg hj, sm.2 j (fun h => hj (hs j h)), wipe_get, if_neg hj]
theorem wipeP_length (ρ : Loc') : ∀ vs : List Nat, (wipeP ρ vs).length = ρ.length
  | [] => rfl
  | v :: vs => by unfold wipeP; rw [List.length_set, wipeP_length ρ vs]
theorem wipeP_some {i : Nat} {p : PV} : ∀ {vs : List Nat}, (wipeP ρ vs)[i]? = some (some p) → ρ[i]? = some (some p) ∧ i ∉ vs
  | [], h => ⟨h, by simp⟩
  | v :: vs, h => by
    unfold wipeP at h
    by_cases e : v = i
    · subst e
      by_cases hl : v < (wipeP ρ vs).length
      · rw [List.getElem?_set_self hl] at h; cases h
      · rw [List.getElem?_eq_none (by rw [List.length_set]; omega)] at h; cases h
    · rw [List.getElem?_set_ne e] at h
      obtain ⟨h1, h2⟩ := wipeP_some h
      exact ⟨h1, by simp [h2]; exact fun z => e z.symm⟩
theorem env_wipe (e : EnvR F μ H ρ σ) (vs : List Nat) : EnvR F μ H (wipeP ρ vs) (L2.wipe σ vs) := e.wipe (wipeP_length ρ vs) fun _ _ h => wipeP_some h

/-! ### what is put by -/
theorem Le.by (l : Le F μ H μ' H') (h : H D = none) {off : List Addr} (ho : μ'.off = off) : Ext F μ H ⟨μ'.on, D :: off⟩ H' := by
  refine ⟨l.ext.pre, l.ext.tup, l.ext.scr, fun a o n e => ?_⟩
  obtain ⟨n', e'⟩ := l.ext.no a o n e
  refine ⟨⟨n'.1, fun hm => ?_⟩, e'⟩
  rcases List.mem_cons.mp hm with z | z
  · rw [z, h] at e; cases e
  · exact n'.2 (by rw [ho]; exact z)
theorem le_unby {H0 : Hp} {μ0 ν ν' : Zn} {off : List Addr} (l : Le F μ0 H0 ⟨ν.on, off⟩ H) (l2 : Le F ν H ν' H') : Le F μ0 H0 ⟨ν'.on, off⟩ H' := by
  refine ⟨⟨?_, fun a vs h => l2.ext.tup a vs (l.ext.tup a vs h), fun a o vs h => l2.ext.scr a o vs (l.ext.scr a o vs h), fun a o n h => ?_⟩, l.off, fun a o n h => ?_, fun a o u h => l2.fz a o u (l.fz a o u h)⟩
  · obtain ⟨t, e⟩ := l.ext.pre
    obtain ⟨u, f⟩ := l2.ext.pre
    exact ⟨t ++ u, by show ν'.on = _; rw [f, show ν.on = μ0.on ++ t from e, List.append_assoc]⟩
  · obtain ⟨n', e'⟩ := l.ext.no a o n h
    obtain ⟨q1, q2⟩ := l2.fr a o n'.1 e'
    exact ⟨⟨q1, n'.2⟩, q2⟩
  · obtain ⟨q1, q2⟩ := l.fr a o n h
    exact l2.fr a o q1 q2
theorem le_new {H0 : Hp} {μ0 : Zn} {o : HO} (l : Le F μ0 H0 μ H) (h : H0 D = none) : Le F μ0 H0 μ (upd H D o) := by
  have k : ∀ {a x}, H0 a = some x → ∀ {y : Option HO}, H a = y → upd H D o a = y := fun {a x} e {y} e' => by rw [upd_ne (ne_of_none e h)]; exact e'
  exact ⟨⟨l.ext.pre, fun a vs e => k e (l.ext.tup a vs e), fun a ob vs e => k e (l.ext.scr a ob vs e), fun a ob n e => ⟨(l.ext.no a ob n e).1, k e (l.ext.no a ob n e).2⟩⟩, l.off,
    fun a ob n e => ⟨(l.fr a ob n e).1, k e (l.fr a ob n e).2⟩, fun a ob u e => k e (l.fz a ob u e)⟩
/-- what is put by is changed -/
theorem off_step {x0 x1 : HO} (r : Rel F μ α H) (hD : D ∈ μ.off) (hH : H D = some x0) (hm : Mv x0) : Ext F μ H μ (upd H D x1) ∧ Rel F μ α (upd H D x1) := by
  have k : ∀ {a : Addr} {x : HO}, H a = some x → ¬ Mv x → upd H D x1 a = some x := fun {a x} e n => by
    rw [upd_ne (fun z => by rw [z, hH] at e; cases e; exact n hm)]; exact e
  have x : Ext F μ H μ (upd H D x1) := ⟨⟨[], by simp⟩, fun a vs e => k e fun z => z, fun a o vs e => k e fun z => z, fun a o n e => ⟨n, by rw [upd_ne (fun z => n.2 (by rw [z]; exact hD))]; exact e⟩⟩
  refine ⟨x, r.len, r.nd, fun i a o h1 h2 => (r.obj i a o h1 h2).ext x (upd_ne fun z => (r.offs D hD).1 (by rw [← z]; exact List.mem_of_getElem? h1)) fun b y e => k e fun z => z, fun b hb => ⟨(r.offs b hb).1, upd_some (r.offs b hb).2⟩⟩
theorem RepL.ext' {ps : List PV} {vs : List V} (h : RepL F μ H ps vs) (x : Ext F μ H μ' H') : RepL F μ' H' ps vs := h.ext x

/-! ### [elt for .. in .. if ..] -/
def compStep (mt : PV → Loc' → AH → Res Loc') (mc : Loc' → AH → Res Bool) (me : Den) (ρw : Loc') (x : PV) (α : AH) : Res (Option PV) := (mt x ρw α).bind fun ρ' α => (mc ρ' α).bind fun c α => match c with
  | true => (me ρ' α).bind fun y α => .ok (some y) α
  | false => .ok none α
def compD (mi : Loc' → AH → Res Src) (mt : PV → Loc' → AH → Res Loc') (mc : Loc' → AH → Res Bool) (me : Den) (own : List Nat) : Den := fun ρ α => (mi ρ α).bind fun s α =>
  (turns s.still (compStep mt mc me (wipeP ρ own)) s.items (s.lock α)).bind fun ys α => need (lineOk ys.length) (s.done (.fl ys) α)
def consO (o : Option PV) (ys : List PV) : List PV := match o with
  | some y => y :: ys
  | none => ys
theorem turns_cons (still : AH → Bool) (step : PV → AH → Res (Option PV)) (x : PV) (r : List PV) (α : AH) : turns still step (x :: r) α = need (still α) ((step x α).bind fun o α1 => (turns still step r α1).bind fun ys α2 => .ok (consO o ys) α2) := by
  show need _ _ = _
  congr 2
theorem need_N {β : Type} {c : Bool} {r : Res β} {n : β → AH → Res PV} (h : PostN F μ H ((need c r).bind n) Q) : c = true ∧ PostN F μ H (r.bind n) Q := by
  cases c with
  | true => exact ⟨rfl, h⟩
  | false => exact h.elim
theorem comp_read {mi : Loc' → AH → Res Src} {mt : PV → Loc' → AH → Res Loc'} {mc : Loc' → AH → Res Bool} {me : Den} {own vs : List Nat} (hsub : ∀ j ∈ vs, j ∈ own) (h : tN F (compD mi mt mc me own) σ H Q) :
    tLc (tI F X mi) (tG F mt vs) (tB' F mc) (tE F me) own σ H (fun v H' => Unl X H' (Q v)) := by
  obtain ⟨μ, ρ, α, rel, env, h⟩ := h
  refine ⟨μ, ρ, α, (At.bindN (R1 := SrcL F X) rel env h).imp fun JH H1 ⟨s, μ1, α1, l, sl, rel1, env1, h1⟩ => ?_⟩
  have B := begun rel1 sl
  obtain ⟨J, HJ⟩ := JH
  dsimp only at B ⊢
  intro D hD
  have hD1 : H1 D = none := none_back B.rel B.le hD
  have hDoff : D ∉ μ1.off := fresh_noff B.rel hD
  let step : PV → AH → Res (Option PV) := compStep mt mc me (wipeP ρ own)
  let W : Nat → Nat → Hp → Prop := fun i m H2 => m = s.items.length - i ∧ i ≤ s.items.length ∧ ∃ (ν : Zn) (α2 : AH) (ys : List PV) (acc : List V), ν.off = D :: μ1.off ∧ Le F μ1 HJ ⟨ν.on, μ1.off⟩ H2 ∧ Rel F ν α2 H2 ∧ H2 D = some (.lst acc) ∧ RepL F ν H2 ys acc ∧
    EnvR F ν H2 (wipeP ρ own) (L2.wipe σ own) ∧ PostN F μ1 H1 ((turns s.still step (s.items.drop i) α2).bind fun zs α => need (lineOk (ys ++ zs).length) (s.done (.fl (ys ++ zs)) α)) Q
  obtain ⟨l0, _⟩ := new_step B.rel (o := .lst []) hD
  obtain ⟨x0, r0⟩ := by1 B.rel (o := .lst []) hD
  refine ⟨W, ⟨_, rfl, Nat.zero_le _, ⟨μ1.on, D :: μ1.off⟩, s.lock α1, [], [], rfl, l0, r0, upd_same, .nil, env_wipe ((env1.le B.le).ext x0) own, by simpa using h1⟩, ?_⟩
  rintro i m H2 ⟨hm, hil, ν, α2, ys, acc, hoff, l2, r2, hH, rl, e2, h2⟩
  obtain ⟨non, noff⟩ := ν
  dsimp only at hoff l2
  subst hoff
  have hDm : D ∈ (Zn.mk non (D :: μ1.off)).off := List.mem_cons_self
  have hDon : D ∉ non := (r2.offs D hDm).1
  have xJ : Ext F μ1 HJ ⟨non, D :: μ1.off⟩ H2 := l2.by hD rfl
  rcases Nat.lt_or_ge i s.items.length with hlt | hge
  · have hd : s.items.drop i = s.items[i] :: s.items.drop (i + 1) := (List.getElem_cons_drop hlt).symm
    rw [hd, turns_cons] at h2
    obtain ⟨hst, h2⟩ := need_N h2
    obtain ⟨g1, g2⟩ := B.walk.go _ H2 α2 xJ l2.fz r2 hst i _ (List.getElem?_eq_getElem hlt)
    refine .inr ⟨g1, W (i + 1) (s.items.length - (i + 1)), fun H' w => ⟨_, by omega, w⟩, fun x H3 hy => ?_⟩
    obtain ⟨μ3, l3, r3, rp⟩ := g2 x H3 hy
    refine ⟨μ3, wipeP ρ own, α2, _, r3, e2.le l3, rp, ?_⟩
    simp only [step, compStep, bind_assoc] at h2
    cases hm' : mt s.items[i] (wipeP ρ own) α2 with
    | err c xs a => rw [hm'] at h2; exact h2
    | bad => rw [hm'] at h2; exact h2
    | ok ρ4 α4 =>
      rw [hm'] at h2
      intro μ4 H4 σ4 l4 r4 e4 sm
      refine ⟨wipe_same hsub sm, μ4, ρ4, α4, r4, e4, ?_⟩
      simp only [Res.ok_bind] at h2
      have l24 := l3.trans l4
      -- the next turn
      have next : ∀ (o : Option PV) (α5 : AH) (μ5 : Zn) (H5 : Hp) (acc' : List V), PostN F μ1 H1 ((turns s.still step (s.items.drop (i + 1)) α5).bind fun zs α => need (lineOk ((ys ++ consO o []) ++ zs).length) (s.done (.fl ((ys ++ consO o []) ++ zs)) α)) Q →
          μ5.off = D :: μ1.off → Le F μ1 HJ ⟨μ5.on, μ1.off⟩ H5 → Rel F μ5 α5 H5 → H5 D = some (.lst acc') → RepL F μ5 H5 (ys ++ consO o []) acc' → EnvR F μ5 H5 (wipeP ρ own) (L2.wipe σ own) → W (i + 1) (s.items.length - (i + 1)) H5 :=
        fun o α5 μ5 H5 acc' h5 hoff5 l5 r5 hH5 rl5 e5 => ⟨rfl, hlt, μ5, α5, _, acc', hoff5, l5, r5, hH5, rl5, e5, h5⟩
      have keepD : ∀ {μ5 : Zn} {H5 : Hp}, Le F ⟨non, D :: μ1.off⟩ H2 μ5 H5 → H5 D = some (.lst acc) ∧ μ5.off = D :: μ1.off := fun l => ⟨(l.fr D _ hDon hH).2, l.off⟩
      cases hc : mc ρ4 α4 with
      | err c xs a => rw [hc] at h2; exact h2
      | bad => rw [hc] at h2; exact h2
      | ok k α5 =>
        rw [hc] at h2
        intro μ5 H5 k' l5 r5 ek
        subst ek
        simp only [Res.ok_bind] at h2
        have l25 := l24.trans l5
        obtain ⟨hH5, hoff5⟩ := keepD l25
        cases k with
        | false =>
          rw [if_neg Bool.false_ne_true]
          refine next none α5 μ5 H5 acc ?_ hoff5 (le_unby l2 l25) r5 hH5 (by simpa [consO] using rl.le l25) (e2.le l25)
          simpa [bind_assoc, consO, step] using h2
        | true =>
          rw [if_pos rfl]
          refine ⟨μ5, ρ4, α5, r5, (e4.le l5), ?_⟩
          cases he : me ρ4 α5 with
          | err c xs a => simp only [he, Res.err_bind] at h2; exact h2
          | bad => simp only [he, Res.bad_bind] at h2; exact h2
          | ok y α6 =>
            simp only [he, Res.ok_bind, bind_assoc] at h2
            intro μ6 H6 v l6 r6 ry
            have l26 := l25.trans l6
            obtain ⟨hH6, hoff6⟩ := keepD l26
            have hlen : acc.length < sizeLine := by
              rw [← rl.length]
              revert h2
              cases ht : turns s.still (compStep mt mc me (wipeP ρ own)) (s.items.drop (i + 1)) α6 with
              | err c xs a => exact fun h => h.elim
              | bad => exact fun h => h.elim
              | ok zs α7 =>
                intro h2
                simp only [Res.ok_bind, consO] at h2
                cases hz : lineOk (ys ++ y :: zs).length with
                | false => rw [hz] at h2; exact h2.elim
                | true =>
                  have := of_decide_eq_true hz
                  simp only [List.length_append, List.length_cons] at this
                  omega
            have hDm6 : D ∈ μ6.off := by rw [hoff6]; exact List.mem_cons_self
            obtain ⟨x7, r7⟩ := off_step (x1 := .lst (acc ++ [v])) r6 hDm6 hH6 trivial
            refine ⟨acc, hH6, hlen, next (some y) α6 μ6 _ (acc ++ [v]) ?_ hoff6 (le_new (le_unby l2 l26) hD) r7 upd_same (((rl.le l26).append (.cons ry .nil)).ext x7) ((e2.le l26).ext x7)⟩
            simpa [consO, step, List.append_assoc] using h2
  · have hi' : i = s.items.length := by omega
    subst hi'
    rw [List.drop_length] at h2
    obtain ⟨hst, h2⟩ := need_N (r := Res.ok ([] : List PV) α2) h2
    refine .inl ⟨B.walk.stop _ H2 α2 xJ l2.fz r2 hst, ?_⟩
    simp only [Res.ok_bind, List.append_nil] at h2
    cases hz : lineOk ys.length with
    | false => rw [hz] at h2; exact h2.elim
    | true =>
      rw [hz] at h2
      have h2 : PostN F μ1 H1 (s.done (.fl ys) α2) Q := h2
      have lt := B.le.trans l2
      rcases B.done (PV.fl ys) ⟨non, μ1.off⟩ (D :: μ1.off) H2 α2 _ lt l2.fz r2 rfl with q | ⟨α3, q, w⟩
      · rw [q] at h2; exact h2.elim
      · rw [q] at h2
        refine w (Q (.ref D)) fun H3 la ra xa ka => ?_
        have r3 : Rel F ⟨non, μ1.off⟩ α3 H3 := Rel.fewer (off := D :: μ1.off) (fun _ h => List.mem_cons_of_mem _ h) ra
        exact h2 ⟨non, μ1.off⟩ H3 (.ref D) la r3 ⟨D, rfl, hD1, hDon, hDoff, ra, acc, (ka D hDon).trans hH, rl.ext xa⟩

theorem k_comp (ft : Fit F X) {elt tg iter : Expr} {ifs : List Expr} {scope : Scope} {own : List (Str × Nat)} {pos : Pos} {mi : Loc' → AH → Res Src} {mt : PV → Loc' → AH → Res Loc'} {mc : Loc' → AH → Res Bool} {me : Den} {vs : List Nat}
    (hi : PI X tg iter (tI F X mi)) (ok : BlkOk X.N X.env.scope scope own)
    (hg : ∀ (s : Shared) (H : Hp) (C : Addr) (cl : List (Str × Addr)) (fp : List Addr), PG (X.blk s H scope (compEnvC scope cl C X.env) fp) tg (tG F mt vs)) (ht : ∀ (s : Shared) (H : Hp) (C : Addr) (cl : List (Str × Addr)) (fp : List Addr), PTs (X.blk s H scope (compEnvC scope cl C X.env) fp) ifs (tB' F mc))
    (he : ∀ (s : Shared) (H : Hp) (C : Addr) (cl : List (Str × Addr)) (fp : List Addr), PE (X.blk s H scope (compEnvC scope cl C X.env) fp) elt (tE F me)) (hs : noSet iter = true) (hsub : ∀ j ∈ vs, j ∈ own.map (·.2)) :
    PE X (.ListComp elt [⟨tg, iter, ifs, 0⟩] scope pos) (tN F (compD mi mt mc me (own.map (·.2)))) :=
  pe_imp (pe_unl (pe_lc ft.calm ft.nd hi ok hg ht he (folded_no hs))) fun σ H Q h => comp_read hsub h
theorem ts_nil : PTs X [] (tB' F fun _ α => .ok true α) := ⟨fun pins s σ H Q I ⟨μ, ρ, α, rel, env, h⟩ => pts_nil.run pins s σ H Q I (h μ H true (.refl F μ H) rel rfl)⟩
/-- a new thing joins the store -/
theorem join_new {α1 : AH} {p : PV} {v : V} {μ1 : Zn} {H1 : Hp} (l : Le F μ H μ1 H1) (rel1 : Rel F μ1 α1 H1) (rn : NewR F H α1 μ1 H1 p v) (rel : Rel F μ α H) : ∃ μ2 α2 q, joinP p α1 = .ok q α2 ∧ Le F μ H μ2 H1 ∧ Rel F μ2 α2 H1 ∧ Rep F μ2 H1 q v := by
  obtain ⟨on, off⟩ := μ1
  have fin : ∀ {x : Addr} {ao : AO}, H x = none → x ∉ on → x ∉ off → Rel F ⟨on, x :: off⟩ α1 H1 → OR F ⟨on, x :: off⟩ H1 x ao → ∃ μ2 : Zn, Le F μ H μ2 H1 ∧ Rel F μ2 (α1 ++ [ao]) H1 ∧ Rep F μ2 H1 (.ref α1.length) (.ref x) := by
    intro x ao h0 h1 h2 r3 o
    obtain ⟨l', r'⟩ := join_step rel l r3 h0 h1 h2 o
    refine ⟨_, l', r', .ref ?_⟩
    show (on ++ [x])[α1.length]? = some x
    have : on.length = α1.length := r3.len
    rw [← this, List.getElem?_concat_length]
  cases p with
  | fl xs => obtain ⟨x, rfl, h0, h1, h2, r3, o⟩ := rn; obtain ⟨μ2, a, b, c⟩ := fin h0 h1 h2 r3 o; exact ⟨μ2, _, _, rfl, a, b, c⟩
  | fd kvs => obtain ⟨x, rfl, h0, h1, h2, r3, o⟩ := rn; obtain ⟨μ2, a, b, c⟩ := fin h0 h1 h2 r3 o; exact ⟨μ2, _, _, rfl, a, b, c⟩
  | _ => exact ⟨⟨on, off⟩, α1, _, rfl, l, rel1, rn⟩
/-- name = [..] on one line; the list may join the store -/
theorem s_setLc (fs : FitS F X) {j : Bool} {i : Nat} {y : Str} {py : Pos} {elt tg iter : Expr} {ifs : List Expr} {scope : Scope} {own : List (Str × Nat)} {pos spos : Pos} {mi : Loc' → AH → Res Src} {mt : PV → Loc' → AH → Res Loc'} {mc : Loc' → AH → Res Bool} {me : Den} {vs : List Nat}
    (hy : X.N[i]? = some y) (hyl : X.env.scope.names.lookup y = some .local)
    (hsw : swapsWith (.ListComp elt [⟨tg, iter, ifs, 0⟩] scope pos) (some (.Name y py)) spos.line X.env = pure true) (hi : PI X tg iter (tI F X mi)) (ok : BlkOk X.N X.env.scope scope own)
    (hg : ∀ (s : Shared) (H : Hp) (C : Addr) (cl : List (Str × Addr)) (fp : List Addr), PG (X.blk s H scope (compEnvC scope cl C X.env) fp) tg (tG F mt vs)) (ht : ∀ (s : Shared) (H : Hp) (C : Addr) (cl : List (Str × Addr)) (fp : List Addr), PTs (X.blk s H scope (compEnvC scope cl C X.env) fp) ifs (tB' F mc))
    (he : ∀ (s : Shared) (H : Hp) (C : Addr) (cl : List (Str × Addr)) (fp : List Addr), PE (X.blk s H scope (compEnvC scope cl C X.env) fp) elt (tE F me)) (hs : noSet iter = true) (hsub : ∀ j ∈ vs, j ∈ own.map (·.2)) :
    PS X (.Assign [.Name y py] (.ListComp elt [⟨tg, iter, ifs, 0⟩] scope pos) spos) (tS F fun ρ α => (match j with
      | true => (compD mi mt mc me (own.map fun x : Str × Nat => x.2) ρ α).bind joinP
      | false => compD mi mt mc me (own.map fun x : Str × Nat => x.2) ρ α).bind fun p α => .ok (.nx (ρ.set i (some p))) α) := by
  refine ps_imp (ps_unl (ps_setLc fs.calm fs.nd hy hyl hsw hi ok hg ht he (folded_no hs))) fun D σ H ⟨μ, ρ, α, rel, env, h⟩ => ?_
  refine comp_read hsub ⟨μ, ρ, α, rel, env, ?_⟩
  cases hc : compD mi mt mc me (own.map (·.2)) ρ α with
  | err c xs a => cases j <;> (simp only [hc] at h; exact h)
  | bad => cases j <;> (simp only [hc] at h; exact h)
  | ok p α1 =>
    intro μ1 H1 v l rel1 rn
    cases j with
    | false => simp only [hc] at h; exact h μ1 H1 _ l rel1 ((env.le l).set rn.rep)
    | true =>
      simp only [hc, Res.ok_bind] at h
      obtain ⟨μ2, α2, q, e, l2, r2, rq⟩ := join_new l rel1 rn rel
      rw [e] at h
      exact h μ2 H1 _ l2 r2 ((env.le l2).set rq)

/-! ### {k: v, ..} -/
inductive RepPs (F : Fx) (μ : Zn) (H : Hp) : List (PV × PV) → List (V × V) → Prop
  | nil : RepPs F μ H [] []
  | cons {k p : PV} {x y : V} {ps : List (PV × PV)} {vs : List (V × V)} : Rep F μ H k x → Rep F μ H p y → RepPs F μ H ps vs → RepPs F μ H ((k, p) :: ps) ((x, y) :: vs)
structure KP (F : Fx) (X : Cx) (pos : Pos) (keys : List (Option Expr)) (values : List Expr) (mps : Loc' → AH → Res (List (PV × PV))) : Prop where
  run : ∃ trs, PPs X pos keys values trs ∧ ∀ σ H K, tR F (RepPs F) mps σ H K → tPairs trs σ H K
theorem RepPs.le {kvs : List (PV × PV)} {vs : List (V × V)} (l : Le F μ H μ' H') (h : RepPs F μ H kvs vs) : RepPs F μ' H' kvs vs := by
  induction h with
  | nil => exact .nil
  | cons a b _ ih => exact .cons (a.le l) (b.le l) ih
variable {pos : Pos}
theorem kp_nil : KP F X pos [] [] (fun _ α => .ok [] α) := ⟨[], pps_nil, fun σ H K ⟨μ, ρ, α, rel, env, h⟩ => h μ H [] (.refl F μ H) rel .nil⟩
theorem kp_cons {k v : Expr} {ks : List (Option Expr)} {vs : List Expr} {mk mv : Den} {mps : Loc' → AH → Res (List (PV × PV))} (hk : PE X k (tE F mk)) (hv : PE X v (tE F mv)) (hr : KP F X pos ks vs mps) :
    KP F X pos (some k :: ks) (v :: vs) (fun ρ α => (mk ρ α).bind fun p α => (mv ρ α).bind fun q α => (mps ρ α).bind fun r α => .ok ((p, q) :: r) α) := by
  obtain ⟨trs, h1, h2⟩ := hr.run
  refine ⟨_, pps_cons hk hv h1, fun σ H K ⟨μ, ρ, α, h⟩ => ?_⟩
  refine ⟨μ, ρ, α, (At.bind (R1 := Rep F) h).imp fun x H1 ⟨p, μ1, α1, l1, rp, h3⟩ => ⟨μ1, ρ, α1, (At.bind (R1 := Rep F) h3).imp fun y H2 ⟨q, μ2, α2, l2, rq, h4⟩ => h2 _ _ _ ⟨μ2, ρ, α2, (At.bind (R1 := RepPs F) h4).imp fun ps H3 ⟨r, μ3, α3, l3, rr, h5⟩ => ?_⟩⟩⟩
  exact h5.2.2 μ3 H3 _ (.refl F μ3 H3) h5.1 (.cons ((rp.le l2).le l3) (rq.le l3) rr)
theorem disp_keys : ∀ {kvs : List (PV × PV)} {ps : List (V × V)}, RepPs F μ H kvs ps → (kvs.all fun e => kmode e.1 == some false) = true → ∃ ks : List (Key × V), ps = ks.map (fun kv => (kV kv.1, kv.2)) ∧ RepK F μ H kvs ks
  | _, _, .nil, _ => ⟨[], rfl, .nil⟩
  | _, _, .cons (k := k) a b c, h => by
    rw [List.all_cons, Bool.and_eq_true] at h
    obtain ⟨ks, e, r⟩ := disp_keys c h.2
    obtain ⟨q, hq⟩ := kmode_false (by simpa using h.1)
    exact ⟨(q, _) :: ks, by rw [e, rep_key hq a]; rfl, .cons hq b r⟩
theorem merge_rep : ∀ {kvs : List (PV × PV)} {ks : List (Key × V)} {acc : List (PV × PV)} {ac : List (Key × V)}, RepK F μ H kvs ks → RepK F μ H acc ac → RepK F μ H (kvs.foldl (fun acc e => dput acc e.1 e.2) acc) (mergeK ac ks) := by
  intro kvs
  induction kvs with
  | nil => intro ks acc ac r h; cases r; exact h
  | cons x xs ih =>
    intro ks acc ac r h
    cases r with
    | cons e a b =>
      have := ih b (put_K e a h)
      exact this
theorem k_dnil : PE X (.Dict [] [] pos) (tN F fun _ α => .ok (.fd []) α) := by
  refine pe_imp pe_dnewK fun σ H Q ⟨μ, ρ, α, rel, env, h⟩ p hp => ?_
  obtain ⟨l, r'⟩ := new_step rel (o := .dK []) hp
  obtain ⟨x, r2⟩ := by1 rel (o := .dK []) hp
  exact h μ _ _ l r' ⟨p, rfl, hp, fresh_non rel hp, fresh_noff rel hp, r2, .inl ⟨[], upd_same, .nil⟩⟩
theorem k_disp {keys : List (Option Expr)} {values : List Expr} {mps : Loc' → AH → Res (List (PV × PV))} (h : KP F X pos keys values mps) (hall : keys.all (·.isSome) = true) (hl : keys.length = values.length) (h0 : keys ≠ []) (h15 : keys.length ≤ 15) :
    PE X (.Dict keys values pos) (tN F fun ρ α => (mps ρ α).bind fun kvs α => need ((kvs.all fun e => kmode e.1 == some false) && decide (kvs.length ≤ 15)) (.ok (.fd (kvs.foldl (fun acc e => dput acc e.1 e.2) [])) α)) := by
  obtain ⟨trs, h1, h2⟩ := h.run
  refine pe_imp (pe_disp h1 hall hl h0 h15) fun σ H Q ⟨μ, ρ, α, rel, env, h⟩ p hp => h2 _ _ _ ?_
  obtain ⟨l, r'⟩ := new_step rel (o := .dK []) hp
  obtain ⟨x, r2⟩ := by1 rel (o := .dK []) hp
  refine ⟨⟨μ.on, p :: μ.off⟩, ρ, α, r2, env.ext x, ?_⟩
  dsimp only at h
  cases hm : mps ρ α with
  | err c xs a => rw [hm] at h; exact h
  | bad => rw [hm] at h; exact h
  | ok kvs α1 =>
    rw [hm] at h
    intro μ1 H1 ps l1 r1 rp
    obtain ⟨hc, h⟩ := need_ok h
    rw [Bool.and_eq_true] at hc
    obtain ⟨ks, e, rk⟩ := disp_keys rp hc.1
    have hpon : p ∉ μ.on := fresh_non rel hp
    have hoff : μ1.off = p :: μ.off := l1.off
    obtain ⟨hH1, hpon1⟩ : H1 p = some (.dK []) ∧ p ∉ μ1.on := ⟨(l1.fr p _ hpon upd_same).2, (l1.fr p _ hpon upd_same).1⟩
    have hpm : p ∈ μ1.off := by rw [hoff]; exact List.mem_cons_self
    obtain ⟨x3, r3⟩ := off_step (x1 := .dK (mergeK [] ks)) r1 hpm hH1 trivial
    have rd := merge_rep (acc := []) (ac := []) rk .nil
    refine ⟨hH1, ks, e, by rw [← len_K rk]; exact of_decide_eq_true hc.2, ?_⟩
    have le : Le F μ H ⟨μ1.on, μ.off⟩ (upd H1 p (.dK (mergeK [] ks))) := le_new (le_unby (ν := ⟨μ.on, p :: μ.off⟩) l l1) hp
    obtain ⟨on1, off1⟩ := μ1
    dsimp only at hoff
    subst hoff
    exact h ⟨on1, μ.off⟩ _ (.ref p) le (Rel.fewer (off := p :: μ.off) (fun _ h => List.mem_cons_of_mem _ h) r3) ⟨p, rfl, hp, hpon1, fresh_noff rel hp, r3, .inl ⟨_, upd_same, rd.ext x3⟩⟩
end
end Mw
end
section
set_option Elab.async false
set_option linter.all false
set_option maxRecDepth 100000
set_option maxHeartbeats 2000000
/-! Mw14: defs that run where nothing is being shown (so that they may ask for texts of lists), and their calls. -/
namespace Mw
open PySem PySem.Spec PyProof.Rows L2

theorem deeper_gd (A : Around) (env : Env) : (A.deeper env).guards = A.guards := by
  cases A; rfl
/-- a def's promise, where no text of a thing is under way -/
structure FnG (P : Program) (w : World) (K : PySem.W.Frag) (mg : Str → Option Value) (base : Heap) (k : Nat) (f : Addr) (fd : FuncData) (ps : List Str) (sp : Sp) : Prop where
  len : ∀ vs H Q E, sp vs H Q E → vs.length = ps.length
  run : ∀ (A : Around) (outer : List Env) (s : Shared) (H : Hp) (args : Args) (us : List Value) (vs : List V) (Q : VK) (E : XK), Room k A → A.guards = some [] → Env0 P w K mg base A outer s H → BindsTo s fd args (ps.zip us) → Vals vs us →
    sp vs H Q E → codeAny (model P w) A (.call (.ref f) args) (CR CX0 outer P w H s Q E) s
section
variable {P : Program} {w : World} {K : PySem.W.Frag} {mg : Str → Option Value} {base : Heap}
theorem FnG.never {k : Nat} {f : Addr} {fd : FuncData} {ps : List Str} {sp : Sp} (h : ∀ vs H Q E, ¬ sp vs H Q E) : FnG P w K mg base k f fd ps sp :=
  ⟨fun vs H Q E q => (h vs H Q E q).elim, fun A outer s H args us vs Q E _ _ _ _ _ q => (h vs H Q E q).elim⟩
/-- by its body -/
theorem fn_ofG {x qual : Str} {st : Stmt} {f : Addr} {fd : FuncData} {N ps : List Str} {k : Nat} {sp : Sp} (Fu : Fun K x qual st f fd) (S : FnScope N ps (defScope st)) (len : ∀ vs H Q E, sp vs H Q E → vs.length = ps.length)
    (hbody : ∀ (cdv : Value) (A : Around) (outer : List Env) (s : Shared) (H : Hp) (vs : List V) (Q : VK) (E : XK), Room k (A.deeper (envOfC qual (defScope st) s.heap.objs.size f cdv)) → A.guards = some [] → sp vs H Q E →
      PSs (cxOf CX0 P w K mg base N qual (defScope st) f cdv A outer s H E).nox (defBody st) (fun D σ H' => sp vs H Q E ∧ D = { nx := fun _ H' => Q .non H', rt := Q } ∧ σ = start N vs ∧ H' = H)) : FnG P w K mg base (k + 1) f fd ps sp := by
  obtain ⟨oc, od, kV, doc, pm, an, cdv, ct, osl, rfl, lk, hcd⟩ := Fu.ex
  constructor
  · exact len
  · intro A outer s H args us vs Q E hr hg e0 hb r hsp
    have nl : vs.length = ps.length := len vs H Q E hsp
    have inK : K.In s.heap := e0.mod.kin.keeps fun b o q => (e0.bs b o q).1
    have hkind : ∀ y ∈ ps.zip us, (defScope st).names.lookup y.1 = some .local ∨ ((defScope st).names.lookup y.1 = some .cell ∧ ((cellsFrom (s.heap.objs.size + 1) (defScope st).names []).lookup y.1).isSome = true) := by
      rintro ⟨n, v⟩ hy
      have hp := S.par n (List.of_mem_zip hy).1
      exact hp.imp id fun q => ⟨q, PySem.W.cellsFrom_some _ _ _ (.inl q)⟩
    refine codeAny_call_function hr.depth (inK _ _ lk) rfl S.co S.gen rfl (PySem.W.codeRec_of inK hcd) (hb _ _ _ _ (wpAny_newFunctionEnv_cells S.kind hkind fun env he s1 xx => ?_))
    subst he
    refine ⟨(e0.mod.nolimit.keeps fun b o q => (e0.bs b o q).1).keeps xx.toInCall.keep, codeAny_func ?_⟩
    have I := inv_start (E := E) (CX := CX0) S hr.hd e0 nl r xx
    have hps := (hbody cdv A outer s H vs Q E (hr.deeper _) hg hsp).nox
    refine wpAny_mono (hps.run [] s1 (start N vs) H _ I ⟨hsp, rfl, rfl, rfl⟩) (fun fl s' hs => ?_) fun e s' hs => hs
    cases fl with
    | ret u =>
      obtain ⟨v, σ', H', J, rv, q⟩ := hs
      exact ⟨v, H', J.os, J.bare, J.base, J.hok, rv, q⟩
    | next =>
      obtain ⟨σ', H', J, q⟩ := hs
      exact ⟨V.non, H', J.os, J.bare, J.base, J.hok, rfl, q⟩
    | brk => obtain ⟨_, _, _, q⟩ := hs; exact q.elim
    | cont => obtain ⟨_, _, _, q⟩ := hs; exact q.elim
end

section
variable {F : Fx} {X : Cx} {μ μ' : Zn} {H H' : Hp} {α α' : AH} {ρ : Loc'} {σ : L2.St} {Q : VK}
/-- what a def of the text promises: by its denotation -/
def spD (F : Fx) (np : Nat) (m : List PV → AH → Res PV) : Sp := fun vs H Q _ => vs.length = np ∧ ∃ μ α ps, Rel F μ α H ∧ RepL F μ H ps vs ∧ Post F μ H (m ps α) (Rep F) Q
/-- a def of the text that may be called -/
structure CalG (F : Fx) (K : PySem.W.Frag) (mg : Str → Option Value) (base : Heap) (k : Nat) (x : Str) (np : Nat) (m : List PV → AH → Res PV) : Prop where
  ex : ∃ (f : Addr) (fd : FuncData) (ps : List Str), FnG F.P F.w K mg base k f fd ps (spD F np m) ∧ ps.length = np ∧ mg x = some (.ref f) ∧ PySem.W.keepIn K (.ref f) = true ∧ Binds K fd ps []
/-- .. with keywords: n positional values, names, and where each parameter's value stands among theirs -/
structure CalK (F : Fx) (K : PySem.W.Frag) (mg : Str → Option Value) (base : Heap) (k : Nat) (x : Str) (np : Nat) (m : List PV → AH → Res PV) (n : Nat) (ks : List Str) (perm : List Nat) : Prop where
  ex : ∃ (f : Addr) (fd : FuncData) (ps : List Str), FnG F.P F.w K mg base k f fd ps (spD F np m) ∧ ps.length = np ∧ mg x = some (.ref f) ∧ PySem.W.keepIn K (.ref f) = true ∧
    ∀ (s : Shared) (us ws : List Value), us.length = n → ws.length = ks.length → BindsTo s fd ⟨us, ks.zip ws⟩ (ps.zip (us ++ permP perm ws))
theorem run_G {k : Nat} {f : Addr} {fd : FuncData} {ps : List Str} {sp : Sp} {E : XK} {us0 : List Value} {kw : List (Str × Value)} {pins : List (Addr × Obj)} {s : Shared} {us : List Value} {vs : List V} (Fn : FnG X.prog X.w X.K X.mg X.base k f fd ps sp) (hr : Room k X.A) (hg : X.A.guards = some [])
    (hb : BindsTo s fd ⟨us0, kw⟩ (ps.zip us)) (I : Inv X pins σ H s) (r : Vals vs us) (h : sp vs H Q E) : wpAny (model X.prog X.w) X.A (call (.ref f) us0 kw) (EP X pins σ Q) X.xe s := by
  refine wpAny_call (codeAny_mono (Fn.run X.A X.stack s H ⟨us0, kw⟩ us vs Q E hr hg I.env0 hb r h) fun res s' hq => ?_)
  rcases res with e | fl
  · exact hq.elim
  · cases fl with
    | ret u => exact I.after hq
    | _ => exact hq.elim
variable {e : Expr} {es : List Expr} {ms : Loc' → AH → Res (List PV)} {x : Str} {p pos : Pos} {k np : Nat} {m : List PV → AH → Res PV}
theorem run_C (ft : Fit F X) (hr : Room k X.A) {f : Addr} {fd : FuncData} {ps : List Str} (Fn : FnG F.P F.w X.K X.mg X.base k f fd ps (spD F np m)) (hl : ps.length = np) {pins : List (Addr × Obj)} {us us' : List Value} {kw : List (Str × Value)} {vs : List V} {s1 : Shared} {H1 : Hp}
    (hb : us.length = ps.length → BindsTo s1 fd ⟨us', kw⟩ (ps.zip us)) (I1 : Inv X pins σ H1 s1) (r : Vals vs us) (h : ∃ qs μ α, RepL F μ H1 qs vs ∧ Rel F μ α H1 ∧ Post F μ H1 (need (decide (qs.length = np)) (m qs α)) (Rep F) Q) :
    wpAny (model X.prog X.w) X.A (call (.ref f) us' kw) (EP X pins σ Q) X.xe s1 := by
  obtain ⟨qs, μ, α, rq, rel, h1⟩ := h
  obtain ⟨hc, h1⟩ := need_okG h1
  have hc : qs.length = np := of_decide_eq_true hc
  have hv : vs.length = np := by rw [← rq.length]; exact hc
  refine run_G (E := E0) (sp := spD F np m) ?_ hr ft.gd (hb (by rw [← r.length, hv, hl])) I1 r ⟨hv, μ, α, qs, rel, rq, h1⟩
  rw [ft.P, ft.w]; exact Fn
theorem k_call0 (ft : Fit F X) (hr : Room k X.A) (hg : Gl X x) (hdb : (x == ("__debug__" : Str)) = false) (C : CalG F X.K X.mg X.base k x np m) :
    PE X (.Call (.Name x p) [] [] pos) (tE F fun ρ α => (Res.ok [] α).bind fun ps α => need (decide (ps.length = np)) (m ps α)) := by
  obtain ⟨f, fd, ps, Fn, hl, hm, hk, hb⟩ := C.ex
  refine ⟨fun pins s σ H Q I ⟨μ, ρ, α, rel, env, h⟩ => ?_⟩
  refine wpAny_Call_Name_kw (ld_glob I hg hm ?_ hdb)
  refine PySem.W.callWith_K0 I.kIn hk (run_C ft hr Fn hl (us := []) (vs := []) (fun hz => ?_) I .nil ⟨[], μ, α, .nil, rel, h⟩)
  have := hb s [] I.kIn (by simpa using hz)
  simpa using this
theorem k_call (ft : Fit F X) (hr : Room k X.A) (hg : Gl X x) (hdb : (x == ("__debug__" : Str)) = false) (C : CalG F X.K X.mg X.base k x np m) (ha : PA X (e :: es) (tAs F ms)) (hs : (e :: es).all noStar = true) :
    PE X (.Call (.Name x p) (e :: es) [] pos) (tE F fun ρ α => (ms ρ α).bind fun ps α => need (decide (ps.length = np)) (m ps α)) := by
  obtain ⟨f, fd, ps, Fn, hl, hm, hk, hb⟩ := C.ex
  rw [List.all_cons, Bool.and_eq_true] at hs
  refine ⟨fun pins s σ H Q I h => ?_⟩
  refine wpAny_Call_Name_kw (ld_glob I hg hm ?_ hdb)
  refine PySem.W.callWith_K (h₀ := X.base) I.ok.mod.kin hk (thn (ha.run pos pins s σ H _ I (tA_bind h)) fun us s1 ⟨vs, H1, I1, r, q⟩ => ⟨I1.kIn, run_C ft hr Fn hl (fun hz => ?_) I1 r q⟩) (star_cons hs.1) (star_any hs.2)
  have := hb s1 us I1.kIn (by simpa using hz)
  simpa using this
/-! ### keywords -/
abbrev tKs (F : Fx) (m : Loc' → AH → Res (List PV)) : TA := tR F (RepL F) m
theorem pk_imp {kws : List Keyword} {t t' : TA} (h : PK X kws t) (hi : ∀ σ H Q, t' σ H Q → t σ H Q) : PK X kws t' := ⟨fun pos pins s σ H Q I q => h.run pos pins s σ H Q I (hi σ H Q q)⟩
theorem kw_nil : PK X [] (tAs F fun _ α => .ok [] α) := pk_imp pk_nil fun σ H Q ⟨μ, ρ, α, rel, env, h⟩ => h μ H [] (.refl F μ H) rel .nil
theorem kw_cons {nm : Option Str} {kpos : Pos} {kws : List Keyword} {me : Den} {ms : Loc' → AH → Res (List PV)} (ha : PE X e (tE F me)) (hr : PK X kws (tAs F ms)) :
    PK X (⟨nm, e, kpos⟩ :: kws) (tAs F fun ρ α => (me ρ α).bind fun p α => (ms ρ α).bind fun ps α => .ok (p :: ps) α) := by
  refine pk_imp (pk_cons ha hr) fun σ H Q ⟨μ, ρ, α, h⟩ => ?_
  refine ⟨μ, ρ, α, h.bind.imp fun x H1 ⟨p, μ1, α1, l, rp, h1⟩ => ⟨μ1, ρ, α1, h1.bind.imp fun xs H2 ⟨ps, μ2, α2, l2, rs, h2⟩ => ?_⟩⟩
  exact h2.2.2 μ2 H2 _ (.refl F μ2 H2) h2.1 (.cons (rp.le l2) rs)
theorem kw_names {pos : Pos} {env : Env} : ∀ {kws : List Keyword} {ks : List Str}, kws.map (·.arg) = ks.map some → (backToKw pos (keywordEach kws env)).all (·.1.isSome) = true ∧ (backToKw pos (keywordEach kws env)).filterMap (·.1) = ks ∧
    (backToKw pos (keywordEach kws env)).any (·.1.isNone) = false
  | [], [], _ => ⟨rfl, rfl, rfl⟩
  | [], _ :: _, h => by simp at h
  | _ :: _, [], h => by simp at h
  | ⟨nm, e, kp⟩ :: kws, k :: ks, h => by
    rw [List.map_cons, List.map_cons, List.cons.injEq] at h
    obtain ⟨h1, h2, h3⟩ := kw_names (pos := pos) (env := env) h.2
    have hn : nm = some k := h.1
    subst hn
    refine ⟨?_, ?_, ?_⟩
    · show (true && (backToKw pos (keywordEach kws env)).all (·.1.isSome)) = true
      rw [h1]; rfl
    · show k :: (backToKw pos (keywordEach kws env)).filterMap (·.1) = k :: ks
      rw [h2]
    · show (false || (backToKw pos (keywordEach kws env)).any (·.1.isNone)) = false
      rw [h3]; rfl
theorem perm_rep {qs : List PV} {vs : List V} (r : RepL F μ H qs vs) : ∀ perm : List Nat, RepL F μ H (permP perm qs) (permP perm vs)
  | [] => .nil
  | i :: is => by
    have ih := perm_rep r is
    unfold permP at ih ⊢
    rw [List.filterMap_cons, List.filterMap_cons]
    cases h : qs[i]? with
    | none =>
      have : vs[i]? = none := by
        rw [List.getElem?_eq_none_iff] at h ⊢
        rw [← r.length]; exact h
      rw [this]
      exact ih
    | some q =>
      obtain ⟨v, hv, rv⟩ := r.get h
      rw [hv]
      exact .cons rv ih
theorem perm_vals {vs : List V} {us : List Value} (r : Vals vs us) : ∀ perm : List Nat, Vals (permP perm vs) (permP perm us)
  | [] => .nil
  | i :: is => by
    have ih := perm_vals r is
    unfold permP at ih ⊢
    rw [List.filterMap_cons, List.filterMap_cons]
    cases h : vs[i]? with
    | none =>
      have : us[i]? = none := by
        rw [List.getElem?_eq_none_iff] at h ⊢
        rw [← r.length]; exact h
      rw [this]
      exact ih
    | some q =>
      obtain ⟨v, hv, rv⟩ := r.get h
      rw [hv]
      exact .cons rv ih
def callKD (n : Nat) (ks : List Str) (perm : List Nat) (np : Nat) (m : List PV → AH → Res PV) (ms mk : Loc' → AH → Res (List PV)) : Den := fun ρ α => (ms ρ α).bind fun ps α => (mk ρ α).bind fun qs α =>
  need (decide (ps.length = n ∧ qs.length = ks.length)) (need (decide ((ps ++ permP perm qs).length = np)) (m (ps ++ permP perm qs) α))
theorem need2 {c : Bool} {r : Res PV} (h : Post F μ H (need c r) (Rep F) Q) : c = true ∧ Post F μ H r (Rep F) Q := need_okG h
theorem k_callK0 (ft : Fit F X) (hr : Room k X.A) (hg : Gl X x) (hdb : (x == ("__debug__" : Str)) = false) {ks : List Str} {perm : List Nat} {kws : List Keyword} {mk : Loc' → AH → Res (List PV)} (C : CalK F X.K X.mg X.base k x np m 0 ks perm)
    (hk : PK X kws (tAs F mk)) (hn : kws.map (·.arg) = ks.map some) : PE X (.Call (.Name x p) [] kws pos) (tE F (callKD 0 ks perm np m (fun _ α => .ok [] α) mk)) := by
  obtain ⟨f, fd, ps, Fn, hl, hm, hkk, hb⟩ := C.ex
  obtain ⟨h1, h2, h3⟩ := kw_names (pos := pos) (env := X.env) hn
  refine ⟨fun pins s σ H Q I h => ?_⟩
  refine wpAny_Call_Name_kw (ld_glob I hg hm ?_ hdb)
  have h' : tE F (fun ρ α => (mk ρ α).bind fun qs α => need (decide (qs.length = ks.length)) (need (decide ((permP perm qs).length = np)) (m (permP perm qs) α))) σ H Q := by
    obtain ⟨μ, ρ, α, rel, env, h⟩ := h
    refine ⟨μ, ρ, α, rel, env, ?_⟩
    simpa [callKD] using h
  refine PySem.W.callWith_KW0 (h₀ := X.base) I.ok.mod.kin hkk h1 (thn (hk.run pos pins s σ H _ I (tA_bind h')) fun ws s2 ⟨zs, H2, I2, rz, qs, μ, α, rq, rel, q⟩ => ⟨I2.kIn, ?_⟩) (by show (false || _) = false; rw [h3]; rfl)
  rw [h2]
  obtain ⟨c1, q⟩ := need2 q
  have c1 : qs.length = ks.length := of_decide_eq_true c1
  refine run_C ft hr Fn hl (us := permP perm ws) (fun hz => ?_) I2 (perm_vals rz perm) ⟨_, μ, α, perm_rep rq perm, rel, q⟩
  have := hb s2 [] ws rfl (by rw [← rz.length, ← rq.length]; exact c1)
  simpa using this
theorem k_callK (ft : Fit F X) (hr : Room k X.A) (hg : Gl X x) (hdb : (x == ("__debug__" : Str)) = false) {n : Nat} {ks : List Str} {perm : List Nat} {kws : List Keyword} {mk : Loc' → AH → Res (List PV)} (C : CalK F X.K X.mg X.base k x np m n ks perm)
    (ha : PA X (e :: es) (tAs F ms)) (hs : (e :: es).all noStar = true) (hk : PK X kws (tAs F mk)) (hn : kws.map (·.arg) = ks.map some) : PE X (.Call (.Name x p) (e :: es) kws pos) (tE F (callKD n ks perm np m ms mk)) := by
  obtain ⟨f, fd, ps, Fn, hl, hm, hkk, hb⟩ := C.ex
  obtain ⟨h1, h2, h3⟩ := kw_names (pos := pos) (env := X.env) hn
  refine ⟨fun pins s σ H Q I h => ?_⟩
  refine wpAny_Call_Name_kw (ld_glob I hg hm ?_ hdb)
  have hpl : ((backTo pos (starEach (e :: es) X.env)).any (·.1) || (backToKw pos (keywordEach kws X.env)).any (·.1.isNone)) = false := by rw [star_any hs, h3]; rfl
  have hs0 := hs
  rw [List.all_cons, Bool.and_eq_true] at hs0
  obtain ⟨μ, ρ, α, h⟩ := h
  refine PySem.W.callWith_KW (h₀ := X.base) I.ok.mod.kin hkk h1 (thn (ha.run pos pins s σ H _ I ⟨μ, ρ, α, (At.bind (R1 := RepL F) h)⟩) fun us s1 ⟨vs, H1, I1, r, qs, μ1, α1, l1, rq, h1'⟩ => ?_) hpl (star_cons hs0.1)
  refine thn (hk.run pos pins s1 σ H1 _ I1 ⟨μ1, ρ, α1, (At.bind (R1 := RepL F) h1')⟩) fun ws s2 ⟨zs, H2, I2, rz, ks', μ2, α2, l2, rk, rel2, env2, q⟩ => ⟨I2.kIn, ?_⟩
  rw [h2]
  obtain ⟨c1, q⟩ := need2 q
  have c1 := of_decide_eq_true c1
  refine run_C ft hr Fn hl (us := us ++ permP perm ws) (fun hz => ?_) I2 (r.append (perm_vals rz perm)) ⟨_, μ2, α2, (rq.le l2).append (perm_rep rk perm), rel2, q⟩
  exact hb s2 us ws (by rw [← r.length, ← rq.length]; exact c1.1) (by rw [← rz.length, ← rk.length]; exact c1.2)
end
end Mw
end
section
set_option Elab.async false
set_option linter.all false
set_option maxRecDepth 100000
set_option maxHeartbeats 2000000
/-! Mw15: the checker: a term of the small language against the program's text. -/
namespace Mw
open PySem PySem.Spec PyProof.Rows L2

/-- the tables: the defs; the calls with keywords (def, positional values, names, where the parameters stand) -/
structure Tab where
  fs : List FD
  kw : List (Nat × Nat × List Str × List Nat)
def isVis (sc : Scope) (x : Str) : Bool := match sc.names.lookup x with
  | some .local => true
  | some .cell => true
  | some .free => true
  | _ => false
def isLoc (sc : Scope) (x : Str) : Bool := match sc.names.lookup x with
  | some .local => true
  | some .cell => true
  | _ => false
def isGlb (sc : Scope) (x : Str) : Bool := match sc.names.lookup x with
  | some .globalImplicit => true
  | _ => false
def notDbg (x : Str) : Bool := !(x == ("__debug__" : Str)) && !(x == ("__classdict__" : Str))
def B1.nm : B1 → Str
  | .len => "len"
  | .list => "list"
  | .tuple => "tuple"
  | .sorted => "sorted"
  | .all => "all"
  | .any => "any"
  | .repr => "repr"
  | .str => "str"
def B2.nm : B2 → Str
  | .min => "min"
  | .max => "max"
def bltNames : List Str := ["len", "list", "tuple", "sorted", "all", "any", "repr", "str", "min", "max", "range"]
def isNew : E → Bool
  | .lst _ => true
  | .dct _ => true
  | .bin _ _ _ => true
  | .sl _ _ _ => true
  | .rev _ => true
  | .b1 _ _ => true
  | .comp _ _ _ _ _ => true
  | _ => false
mutual
def T.slots : T → List Nat
  | .var i => [i]
  | .tup ts => Ts.slots ts
  | .sub _ _ => []
def Ts.slots : Ts → List Nat
  | .nil => []
  | .cons t ts => T.slots t ++ Ts.slots ts
end
def ownOf (N : List Str) (own : List Nat) : List (Str × Nat) := own.filterMap fun i => (N[i]?).map fun x => (x, i)
mutual
def cE (B : Tab) (N : List Str) : E → Scope → Expr → Bool
  | .var i, sc, e => match e with
    | .Name x _ => decide (N[i]? = some x) && isVis sc x && notDbg x
    | _ => false
  | .non, _, e => match e with
    | .Constant c _ _ => match c with
      | .none => true
      | _ => false
    | _ => false
  | .bl b, _, e => match e with
    | .Constant c _ _ => match c with
      | .bool k => k == b
      | _ => false
    | _ => false
  | .int i, _, e => match e with
    | .Constant c _ _ => match c with
      | .int k => decide (k = i)
      | _ => false
    | _ => false
  | .str x, _, e => match e with
    | .Constant c _ _ => match c with
      | .str k => decide (k = x)
      | _ => false
    | _ => false
  | .tup es, sc, e => match e with
    | .Tuple es' _ _ => cEs B N es sc es'
    | _ => false
  | .lst es, sc, e => match e with
    | .List es' _ => cEs B N es sc es'
    | _ => false
  | .dct ps, sc, e => match e with
    | .Dict ks vs _ => cPs B N ps sc ks vs && decide (ks.length ≤ 15)
    | _ => false
  | .bin o a b, sc, e => match e with
    | .BinOp a' o' b' _ => decide (o' = bopS o) && cE B N a sc a' && cE B N b sc b'
    | _ => false
  | .cmp o a b, sc, e => match e with
    | .Compare a' [o'] [b'] _ => decide (o' = copS o) && !behindInMarks (copS o) b' && cE B N a sc a' && cE B N b sc b'
    | _ => false
  | .chain o p a b c, sc, e => match e with
    | .Compare a' [o', p'] [b', c'] _ => decide (o' = copS o) && decide (p' = copS p) && !lastMarks [copS o, copS p] [b', c'] && cE B N a sc a' && cE B N b sc b' && cE B N c sc c'
    | _ => false
  | .neg a, sc, e => match e with
    | .UnaryOp o a' _ => match o with
      | .USub => cE B N a sc a'
      | _ => false
    | _ => false
  | .and a b, sc, e => match e with
    | .BoolOp .And (a' :: b' :: rest) pos => cE B N a sc a' && (match rest with
      | [] => cE B N b sc b'
      | _ => cE B N b sc (.BoolOp .And (b' :: rest) pos))
    | _ => false
  | .or a b, sc, e => match e with
    | .BoolOp .Or (a' :: b' :: rest) pos => cE B N a sc a' && (match rest with
      | [] => cE B N b sc b'
      | _ => cE B N b sc (.BoolOp .Or (b' :: rest) pos))
    | _ => false
  | .not a, sc, e => match e with
    | .UnaryOp o a' _ => match o with
      | .Not => cE B N a sc a'
      | _ => false
    | _ => false
  | .ife c a b, sc, e => match e with
    | .IfExp c' a' b' _ => cE B N c sc c' && cE B N a sc a' && cE B N b sc b'
    | _ => false
  | .ix a i, sc, e => match e with
    | .Subscript a' i' _ => noSlice i' && cE B N a sc a' && cE B N i sc i'
    | _ => false
  | .sl a lo hi, sc, e => match e with
    | .Subscript a' (.Slice lo' hi' none _) _ => cE B N a sc a' && cO B N lo sc lo' && cO B N hi sc hi'
    | _ => false
  | .rev a, sc, e => match e with
    | .Subscript a' (.Slice none none (some (.UnaryOp .USub (.Constant (.int j) _ _) _)) _) _ => decide (j = 1) && cE B N a sc a'
    | _ => false
  | .b1 f a, sc, e => match e with
    | .Call (.Name x _) [a'] [] _ => decide (x = f.nm) && isGlb sc x && noStar a' && cE B N a sc a'
    | _ => false
  | .b2 f a b, sc, e => match e with
    | .Call (.Name x _) [a', b'] [] _ => decide (x = f.nm) && isGlb sc x && noStar a' && noStar b' && cE B N a sc a' && cE B N b sc b'
    | _ => false
  | .mth m o es, sc, e => match e with
    | .Call (.Attribute o' nm apos) es' [] cpos => decide (nm = m.name) && noCall o' && (apos.endLine == cpos.line) && decide (es'.length < 30) && cE B N o sc o' && cEs B N es sc es'
    | _ => false
  | .call f es, sc, e => match e with
    | .Call (.Name x _) es' [] _ => decide ((B.fs[f]?).map (·.name) = some x) && isGlb sc x && notDbg x && cEs B N es sc es'
    | _ => false
  | .callK f n ks perm es kes, sc, e => match e with
    | .Call (.Name x _) es' kws _ => decide ((B.fs[f]?).map (·.name) = some x) && isGlb sc x && notDbg x && decide ((f, n, ks, perm) ∈ B.kw) && decide (kws.map (·.arg) = ks.map some) && cEs B N es sc es' && cEs B N kes sc (kws.map (·.value)) &&
        (decide (n = 0) || !es'.isEmpty)
    | _ => false
  | .comp t own it cond elt, sc, e => match e with
    | .ListComp elt' [⟨tg, iter, ifs, asy⟩] scope _ => decide (asy = 0) && decide ((ownOf N own).map (·.2) = own) && blkC N sc scope (ownOf N own) && noSet iter && cI B N it sc iter && cT B N t scope tg && decide (∀ j ∈ t.slots, j ∈ own) &&
        cC B N cond scope ifs && cE B N elt scope elt'
    | _ => false
  | .join a, sc, e => isNew a && cE B N a sc e
def cO (B : Tab) (N : List Str) : OE → Scope → Option Expr → Bool
  | .none, _, e => match e with
    | none => true
    | _ => false
  | .some a, sc, e => match e with
    | some a' => cE B N a sc a'
    | _ => false
def cC (B : Tab) (N : List Str) : OE → Scope → List Expr → Bool
  | .none, _, e => match e with
    | [] => true
    | _ => false
  | .some a, sc, e => match e with
    | [a'] => cE B N a sc a'
    | _ => false
def cEs (B : Tab) (N : List Str) : Es → Scope → List Expr → Bool
  | .nil, _, es => match es with
    | [] => true
    | _ => false
  | .cons a r, sc, es => match es with
    | e :: es' => noStar e && cE B N a sc e && cEs B N r sc es'
    | _ => false
def cPs (B : Tab) (N : List Str) : Ps → Scope → List (Option Expr) → List Expr → Bool
  | .nil, _, ks, vs => match ks, vs with
    | [], [] => true
    | _, _ => false
  | .cons k v r, sc, ks, vs => match ks, vs with
    | some k' :: ks', v' :: vs' => cE B N k sc k' && cE B N v sc v' && cPs B N r sc ks' vs'
    | _, _ => false
def cT (B : Tab) (N : List Str) : T → Scope → Expr → Bool
  | .var i, sc, e => match e with
    | .Name x _ => decide (N[i]? = some x) && isLoc sc x
    | _ => false
  | .tup ts, sc, e => match e with
    | .Tuple es _ _ => cTs B N ts sc es
    | _ => false
  | .sub o i, sc, e => match e with
    | .Subscript o' i' _ => noSlice i' && cE B N o sc o' && cE B N i sc i'
    | _ => false
def cTs (B : Tab) (N : List Str) : Ts → Scope → List Expr → Bool
  | .nil, _, es => match es with
    | [] => true
    | _ => false
  | .cons t ts, sc, es => match es with
    | e :: es' => noStar e && cT B N t sc e && cTs B N ts sc es'
    | _ => false
def cI (B : Tab) (N : List Str) : It → Scope → Expr → Bool
  | .val a, sc, e => cE B N a sc e
  | .range1 a, sc, e => match e with
    | .Call (.Name x _) [a'] [] _ => decide (x = "range") && isGlb sc x && noStar a' && cE B N a sc a'
    | _ => false
  | .range2 a b, sc, e => match e with
    | .Call (.Name x _) [a', b'] [] _ => decide (x = "range") && isGlb sc x && noStar a' && noStar b' && cE B N a sc a' && cE B N b sc b'
    | _ => false
  | .values a, sc, e => match e with
    | .Call (.Attribute o nm apos) [] [] cpos => decide (nm = "values") && noCall o && (apos.endLine == cpos.line) && cE B N a sc o
    | _ => false
end
/-- no two names' stores are exchanged -/
def notLoc (sc : Scope) : Expr → Bool
  | .Name x _ => decide (sc.names.lookup x = some .cell)
  | .Subscript _ _ _ => true
  | .Attribute _ _ _ => true
  | _ => false
def swNone (sc : Scope) (tg e : Expr) : Bool := match tg with
  | .Tuple ts _ _ => match e with
    | .Tuple vs _ _ => !(ts.length == 2 || ts.length == 3) || vs.length != ts.length || vs.all (foldedForSure 8) || ts.any (notLoc sc)
    | _ => true
  | .List _ _ => false
  | _ => true
/-- the stores are exchanged, these names -/
def parOk (N : List Str) (sc : Scope) : List Nat → List Expr → Nat → Bool
  | [], [], _ => true
  | i :: is, .Name x p :: ts, line => decide (N[i]? = some x) && decide (sc.names.lookup x = some .local) && (p.line == line) && parOk N sc is ts line
  | _, _, _ => false
def lineOf (ts : List Expr) : Nat := (ts.head?.map (·.pos.line)).getD 0
mutual
def cS (B : Tab) (N : List Str) (sc : Scope) : S → Stmt → Bool
  | .pass, st => match st with
    | .Pass _ => true
    | _ => false
  | .brk, st => match st with
    | .Break _ => true
    | _ => false
  | .cont, st => match st with
    | .Continue _ => true
    | _ => false
  | .expr e, st => match st with
    | .Expr e' _ => noComp e' && cE B N e sc e'
    | _ => false
  | .asg t e, st => match st with
    | .Assign [tg] e' pos => noStar tg && cT B N t sc tg && cE B N e sc e' && swNone sc tg e' && (noComp e' || (match e' with
      | .ListComp _ _ scope vp => (match tg with
        | .Name y py => decide (sc.names.lookup y = some .cell) || (decide (sc.names.lookup y = some .local) && (py.line == vp.line) && !(scope.names.any fun (n, k) => n == y && (k == .local || k == .cell)) && (match e with
          | .comp _ _ _ _ _ => true
          | .join (.comp _ _ _ _ _) => true
          | _ => false))
        | .Subscript _ _ _ => true
        | _ => false)
      | _ => false))
    | _ => false
  | .par is es, st => match st with
    | .Assign [.Tuple ts _ _] (.Tuple es' _ _) _ => (is.length == 2 || is.length == 3) && (es'.length == is.length) && parOk N sc is ts (lineOf ts) && decide (is.Nodup) && !es'.all (foldedForSure 8) && !es'.all (constantsAlone 8) && cEs B N es sc es'
    | _ => false
  | .aug i o e, st => match st with
    | .AugAssign (.Name x _) o' e' _ => decide (N[i]? = some x) && isLoc sc x && ((decide (o = .add) && decide (o' = .Add)) || (decide (o = .sub) && decide (o' = .Sub))) && cE B N e sc e'
    | _ => false
  | .ret e, st => match st with
    | .Return (some e') _ => cE B N e sc e'
    | _ => false
  | .retN, st => match st with
    | .Return none _ => true
    | _ => false
  | .ife c a b, st => match st with
    | .If c' a' b' _ => cE B N c sc c' && cSs B N sc a a' && cSs B N sc b b'
    | _ => false
  | .whl c b, st => match st with
    | .While c' b' [] _ => cE B N c sc c' && cSs B N sc b b'
    | _ => false
  | .loop t it b, st => match st with
    | .For tg iter b' [] _ => noSet iter && cI B N it sc iter && cT B N t sc tg && cSs B N sc b b'
    | _ => false
def cSs (B : Tab) (N : List Str) (sc : Scope) : Ss → List Stmt → Bool
  | .nil, ss => match ss with
    | [] => true
    | _ => false
  | .cons s r, ss => match ss with
    | st :: ss' => cS B N sc s st && cSs B N sc r ss'
    | _ => false
end
end Mw
end
section
set_option Elab.async false
set_option linter.all false
set_option maxRecDepth 100000
set_option maxHeartbeats 4000000
/-! Mw16: what is checked keeps its denotation: expressions. -/
namespace Mw
open PySem PySem.Spec PyProof.Rows L2

/-- a scope of the text and the names of the frame -/
structure See (N : List Str) (sc : Scope) (X : Cx) : Prop where
  n : X.N = N
  loc : ∀ x, sc.names.lookup x = some .local → X.env.scope.names.lookup x = some .local
  cel : ∀ x, sc.names.lookup x = some .cell → X.env.scope.names.lookup x = some .cell ∧ X.fn x = true
  fre : ∀ x, sc.names.lookup x = some .free → X.env.scope.names.lookup x = some .cell ∨ X.env.scope.names.lookup x = some .free
  glb : ∀ x, sc.names.lookup x = some .globalImplicit → X.env.scope.names.lookup x = some .globalImplicit
/-- the defs that may be called, the built-ins -/
structure Wd (F : Fx) (B : Tab) (d : Nat) (X : Cx) : Prop where
  room : Room d X.A
  cal : ∀ (f : Nat) (fd : FD), B.fs[f]? = some fd → CalG F X.K X.mg X.base d fd.name fd.np (callD B.fs d f)
  kw : ∀ (f n : Nat) (ks : List Str) (perm : List Nat), (f, n, ks, perm) ∈ B.kw → ∀ fd, B.fs[f]? = some fd → CalK F X.K X.mg X.base d fd.name fd.np (callD B.fs d f) n ks perm
  bl : ∀ x ∈ bltNames, X.mg x = none
structure Good (F : Fx) (B : Tab) (d : Nat) (N : List Str) (sc : Scope) (X : Cx) : Prop where
  ft : Fit F X
  see : See N sc X
  wd : Wd F B d X

section
variable {F : Fx} {B : Tab} {d : Nat} {N : List Str} {sc : Scope} {X : Cx}
theorem vis_of (s : See N sc X) {x : Str} (h : isVis sc x = true) : Vis X.env.scope x := by
  unfold isVis at h
  split at h
  · exact .inl (s.loc x (by assumption))
  · exact .inr (.inl (s.cel x (by assumption)).1)
  · exact .inr (s.fre x (by assumption))
  · cases h
theorem loc_of (s : See N sc X) {x : Str} (h : isLoc sc x = true) : Loc X.env.scope x ∧ (X.fn x = true ∨ X.env.scope.names.lookup x = some .local) := by
  unfold isLoc at h
  split at h
  · exact ⟨.inl (s.loc x (by assumption)), .inr (s.loc x (by assumption))⟩
  · exact ⟨.inr (s.cel x (by assumption)).1, .inl (s.cel x (by assumption)).2⟩
  · cases h
theorem glb_of (s : See N sc X) {x : Str} (h : isGlb sc x = true) : Gl X x := by
  unfold isGlb at h
  split at h
  · exact s.glb x (by assumption)
  · cases h
theorem dbg_of {x : Str} (h : notDbg x = true) : (x == ("__debug__" : Str)) = false ∧ (x == ("__classdict__" : Str)) = false := by
  unfold notDbg at h
  simpa using h
theorem blt_b1 (g : Good F B d N sc X) (f : B1) (h : isGlb sc f.nm = true) : Blt X f.nm (b1I f) := by
  have hg := glb_of g.see h
  cases f with
  | len => exact ⟨hg, g.wd.bl _ (by decide), boot_len, by decide, by decide⟩
  | list => exact ⟨hg, g.wd.bl _ (by decide), by decide +kernel, by decide, by decide⟩
  | tuple => exact ⟨hg, g.wd.bl _ (by decide), by decide +kernel, by decide, by decide⟩
  | sorted => exact ⟨hg, g.wd.bl _ (by decide), boot_sorted, by decide, by decide⟩
  | all => exact ⟨hg, g.wd.bl _ (by decide), by decide +kernel, by decide, by decide⟩
  | any => exact ⟨hg, g.wd.bl _ (by decide), by decide +kernel, by decide, by decide⟩
  | repr => exact ⟨hg, g.wd.bl _ (by decide), by decide +kernel, by decide, by decide⟩
  | str => exact ⟨hg, g.wd.bl _ (by decide), by decide +kernel, by decide, by decide⟩
theorem blt_b2 (g : Good F B d N sc X) (f : B2) (h : isGlb sc f.nm = true) : Blt X f.nm (b2I f) := by
  have hg := glb_of g.see h
  cases f with
  | min => exact ⟨hg, g.wd.bl _ (by decide), by decide +kernel, by decide, by decide⟩
  | max => exact ⟨hg, g.wd.bl _ (by decide), by decide +kernel, by decide, by decide⟩
theorem blt_range (g : Good F B d N sc X) (h : isGlb sc "range" = true) : Blt X "range" (.type "range") :=
  ⟨glb_of g.see h, g.wd.bl _ (by decide), boot_range, by decide, by decide⟩
theorem callD_len (fs : List FD) (d f : Nat) (fd : FD) (h : fs[f]? = some fd) (ps : List PV) (α : AH) (hl : ¬ ps.length = fd.np) : callD fs d f ps α = .bad := by
  cases d with
  | zero => rfl
  | succ d =>
    show (match fs[f]? with
      | some f => runFn (callD fs d) f ps α
      | none => .bad) = _
    rw [h]
    show need _ _ = _
    rw [decide_eq_false hl]
    rfl
theorem callD_need (fs : List FD) (d f : Nat) (fd : FD) (h : fs[f]? = some fd) (ps : List PV) (α : AH) : need (decide (ps.length = fd.np)) (callD fs d f ps α) = callD fs d f ps α := by
  by_cases hl : ps.length = fd.np
  · rw [decide_eq_true hl]; rfl
  · rw [decide_eq_false hl, callD_len fs d f fd h ps α hl]; rfl

/-! ### blocks -/
theorem lookup_map {g : Str × NameKind → Str × NameKind} (hg : ∀ p, (g p).1 = p.1) : ∀ {l : List (Str × NameKind)} {x : Str} {k : NameKind}, l.lookup x = some k → ∃ n, n == x ∧ (l.map g).lookup x = some (g (n, k)).2
  | [], x, k, h => by simp at h
  | (n, j) :: r, x, k, h => by
    rw [List.map_cons]
    have e : g (n, j) = (n, (g (n, j)).2) := Prod.ext (hg (n, j)) rfl
    rw [List.lookup_cons] at h
    cases hx : x == n with
    | true =>
      rw [hx] at h
      cases h
      have : x = n := by simpa using hx
      subst this
      refine ⟨x, by simp, ?_⟩
      rw [e, List.lookup_cons]
      simp
    | false =>
      rw [hx] at h
      obtain ⟨n', h1, h2⟩ := lookup_map hg h
      refine ⟨n', h1, ?_⟩
      rw [e, List.lookup_cons, hx]
      exact h2
theorem see_blk (s : See N sc X) {scope : Scope} {st : Shared} {H : Hp} {C : Addr} {cl : List (Str × Addr)} {fp : List Addr} : See N scope (X.blk st H scope (compEnvC scope cl C X.env) fp) := by
  let g : Str × NameKind → Str × NameKind := fun (n, k) => if (k == .free && X.env.scope.kind == .function && X.env.kindOf n == some .cell) then (n, .cell) else (n, k)
  have hg : ∀ p, (g p).1 = p.1 := by
    rintro ⟨n, k⟩
    show (if _ then _ else _ : Str × NameKind).1 = n
    split <;> rfl
  have look : ∀ {x k}, scope.names.lookup x = some k → ∃ n, n == x ∧ (scope.names.map g).lookup x = some (g (n, k)).2 := fun h => lookup_map hg h
  have keep : ∀ {x k}, k ≠ .free → scope.names.lookup x = some k → (scope.names.map g).lookup x = some k := by
    intro x k hk h
    obtain ⟨n, _, e⟩ := look h
    rw [e]
    have : (k == NameKind.free) = false := by
      cases k <;> first | rfl | exact absurd rfl hk
    show some (if (k == .free && _ && _) then _ else _ : Str × NameKind).2 = _
    rw [this]; rfl
  refine ⟨s.n, fun x h => keep (by decide) h, fun x h => ⟨keep (by decide) h, ?_⟩, fun x h => ?_, fun x h => keep (by decide) h⟩
  · show (scope.names.lookup x == some .cell) = true
    rw [h]; rfl
  · obtain ⟨n, _, e⟩ := look h
    have e2 : (g (n, NameKind.free)).2 = .cell ∨ (g (n, NameKind.free)).2 = .free := by
      show (if _ then _ else _ : Str × NameKind).2 = _ ∨ (if _ then _ else _ : Str × NameKind).2 = _
      split
      · exact .inl rfl
      · exact .inr rfl
    show (scope.names.map g).lookup x = _ ∨ (scope.names.map g).lookup x = _
    rw [e]
    exact e2.imp (congrArg some) (congrArg some)
theorem fit_blk (ft : Fit F X) {scope : Scope} {st : Shared} {H : Hp} {ce : Env} {fp : List Addr} : Fit F (X.blk st H scope ce fp) := ⟨ft.P, ft.w, ft.K, ft.calm, ft.gd, ft.room, ft.nd⟩
theorem wd_blk (wd : Wd F B d X) {scope : Scope} {st : Shared} {H : Hp} {ce : Env} {fp : List Addr} : Wd F B d (X.blk st H scope ce fp) := ⟨wd.room, wd.cal, wd.kw, wd.bl⟩
theorem good_blk (g : Good F B d N sc X) {scope : Scope} {st : Shared} {H : Hp} {C : Addr} {cl : List (Str × Addr)} {fp : List Addr} : Good F B d N scope (X.blk st H scope (compEnvC scope cl C X.env) fp) := ⟨fit_blk g.ft, see_blk g.see, wd_blk g.wd⟩
theorem blk_ok (s : See N sc X) {scope : Scope} {own : List (Str × Nat)} (h : blkC N sc scope own = true) : BlkOk X.N X.env.scope scope own := by
  have b := blkOk_by h
  rw [s.n]
  exact ⟨b.kind, b.uniq, b.ix, fun y hy e => (b.free y hy e).elim (fun q => .inl (s.cel _ q).1) (fun q => s.fre _ q), b.own⟩

/-! ### one expression -/
/-- a checked expression keeps its denotation: as a value, as a new value, as a test -/
structure Snd (F : Fx) (X : Cx) (nw : Bool) (ex : Expr) (m : Den) : Prop where
  e : PE X ex (tE F m)
  n : nw = true → PE X ex (tN F m)
  t : PT X ex (tB' F (tst m))
def plainT : Expr → Bool
  | .UnaryOp .Not _ _ => false
  | .BoolOp _ _ _ => false
  | .IfExp _ _ _ _ => false
  | .Compare _ _ _ _ => false
  | _ => true
theorem plain_is {e : Expr} {env : Env} (h : plainT e = true) : ∀ whole, isTrue e env whole = (do let v ← whole; standAt e.pos; holding [v] (truthy v)) := by
  intro whole
  cases e <;> first | rfl | cases h | skip
  rename_i op x p
  cases op <;> first | rfl | cases h
theorem snd_e {nw : Bool} {e : Expr} {m : Den} (h : PE X e (tE F m)) (hn : nw = false) (hp : plainT e = true) : Snd F X nw e m := ⟨h, fun q => (by rw [hn] at q; cases q), t_val h (plain_is hp)⟩
theorem snd_n {nw : Bool} {e : Expr} {m : Den} (h : PE X e (tN F m)) (hp : plainT e = true) : Snd F X nw e m := ⟨tE_of_N h, fun _ => h, t_val (tE_of_N h) (plain_is hp)⟩
theorem tst_and {ma mb : Den} : tst (fun ρ α => (ma ρ α).bind fun p α => (truth p α).bind fun t α => match t with
    | true => mb ρ α
    | false => .ok (.bl false) α) = fun ρ α => (tst ma ρ α).bind fun t α => match t with
    | true => tst mb ρ α
    | false => .ok false α := by
  funext ρ α
  simp only [tst, bind_assoc]
  congr 1; funext p α1
  congr 1; funext t α2
  cases t <;> rfl
theorem tst_or {ma mb : Den} : tst (fun ρ α => (ma ρ α).bind fun p α => (truth p α).bind fun t α => match t with
    | true => .ok (.bl true) α
    | false => mb ρ α) = fun ρ α => (tst ma ρ α).bind fun t α => match t with
    | true => .ok true α
    | false => tst mb ρ α := by
  funext ρ α
  simp only [tst, bind_assoc]
  congr 1; funext p α1
  congr 1; funext t α2
  cases t <;> rfl
theorem tst_not {ma : Den} : tst (fun ρ α => (ma ρ α).bind fun p α => (truth p α).bind fun t α => .ok (.bl (!t)) α) = fun ρ α => (tst ma ρ α).bind fun t α => .ok (!t) α := by
  funext ρ α
  simp only [tst, bind_assoc]
  congr 1
theorem tst_ife {mc ma mb : Den} : tst (fun ρ α => (mc ρ α).bind fun p α => (truth p α).bind fun t α => match t with
    | true => ma ρ α
    | false => mb ρ α) = fun ρ α => (tst mc ρ α).bind fun t α => match t with
    | true => tst ma ρ α
    | false => tst mb ρ α := by
  funext ρ α
  simp only [tst, bind_assoc]
  congr 1; funext p α1
  congr 1; funext t α2
  cases t <;> rfl
theorem ife_tst {mc ma mb : Den} : (fun ρ α => (mc ρ α).bind fun p α => (truth p α).bind fun t α => match t with
    | true => ma ρ α
    | false => mb ρ α : Den) = fun ρ α => (tst mc ρ α).bind fun t α => match t with
    | true => ma ρ α
    | false => mb ρ α := by
  funext ρ α
  simp only [tst, bind_assoc]
theorem pw_bool {op : BoolOp} {vs : List Expr} {pos : Pos} {t : TT} (h : PT X (.BoolOp op vs pos) t) : PW X (.BoolOp op vs pos) t := ⟨fun wh pins s σ H Q I q => h.run pins s σ H Q I q⟩
theorem t_ife {c a b : Expr} {pos : Pos} {mt mu mv : Loc' → AH → Res Bool} (hc : PT X c (tB' F mt)) (ha : PT X a (tB' F mu)) (hb : PT X b (tB' F mv)) : PT X (.IfExp c a b pos) (tB' F fun ρ α => (mt ρ α).bind fun t α => match t with
    | true => mu ρ α
    | false => mv ρ α) := by
  refine ⟨fun pins s σ H Q I ⟨μ, ρ, α, h⟩ => ?_⟩
  show wpAny _ _ (isTrue c X.env (eval c X.env) >>= fun k => if k = true then isTrue a X.env (eval a X.env) else isTrue b X.env (eval b X.env)) _ _ s
  refine wpAny_bind (thn (hc.run pins s σ H _ I (test_bind h)) fun k s1 ⟨H1, I1, μ1, α1, l, h1⟩ => ?_)
  cases k with
  | true => exact ha.run pins s1 σ H1 Q I1 ⟨μ1, ρ, α1, h1⟩
  | false => exact hb.run pins s1 σ H1 Q I1 ⟨μ1, ρ, α1, h1⟩
example (fn : Fn) (o : Bop) (a b : E) : dE fn (.bin o a b) = fun ρ α => (dE fn a ρ α).bind fun p α => (dE fn b ρ α).bind fun q α => bop o p q α := rfl
example (fn : Fn) (t : T) (own : List Nat) (it : It) (c : OE) (b : E) : dE fn (.comp t own it c b) = compD (dI fn it) (dT fn t) (dC fn c) (dE fn b) own := rfl
end
end Mw
end
section
set_option Elab.async false
set_option linter.all false
set_option maxRecDepth 100000
set_option maxHeartbeats 4000000
/-! Mw17: what is checked keeps its denotation. -/
namespace Mw
open PySem PySem.Spec PyProof.Rows L2

section
variable {F : Fx} {B : Tab} {d : Nat} {N : List Str}
def OkE (F : Fx) (B : Tab) (d : Nat) (N : List Str) (ir : E) : Prop := ∀ sc X e, Good F B d N sc X → cE B N ir sc e = true → Snd F X (isNew ir) e (dE (callD B.fs d) ir)
def OkO (F : Fx) (B : Tab) (d : Nat) (N : List Str) (ir : OE) : Prop := ∀ sc X e, Good F B d N sc X → cO B N ir sc e = true → PO X e (tO F (dO (callD B.fs d) ir))
def OkC (F : Fx) (B : Tab) (d : Nat) (N : List Str) (ir : OE) : Prop := ∀ sc X e, Good F B d N sc X → cC B N ir sc e = true → PTs X e (tB' F (dC (callD B.fs d) ir))
def OkEs (F : Fx) (B : Tab) (d : Nat) (N : List Str) (ir : Es) : Prop := ∀ sc X, Good F B d N sc X → (∀ es, cEs B N ir sc es = true → PA X es (tAs F (dEs (callD B.fs d) ir)) ∧ es.all noStar = true) ∧
  ∀ kws : List Keyword, cEs B N ir sc (kws.map (·.value)) = true → PK X kws (tAs F (dEs (callD B.fs d) ir))
def OkPs (F : Fx) (B : Tab) (d : Nat) (N : List Str) (ir : Ps) : Prop := ∀ sc X pos ks vs, Good F B d N sc X → cPs B N ir sc ks vs = true → KP F X pos ks vs (dPs (callD B.fs d) ir) ∧ ks.all (·.isSome) = true ∧ ks.length = vs.length
def OkT (F : Fx) (B : Tab) (d : Nat) (N : List Str) (ir : T) : Prop := ∀ sc X e, Good F B d N sc X → cT B N ir sc e = true → PG X e (tG F (dT (callD B.fs d) ir) ir.slots)
def OkTs (F : Fx) (B : Tab) (d : Nat) (N : List Str) (ir : Ts) : Prop := ∀ sc X es, Good F B d N sc X → cTs B N ir sc es = true → PGs X es (tGs F (dTs (callD B.fs d) ir) ir.slots) ∧ es.all noStar = true ∧
  ∀ ps ρ α ρ' α', dTs (callD B.fs d) ir ps ρ α = .ok ρ' α' → ps.length = es.length
def OkI (F : Fx) (B : Tab) (d : Nat) (N : List Str) (ir : It) : Prop := ∀ sc X tg e, Good F B d N sc X → cI B N ir sc e = true → PI X tg e (tI F X (dI (callD B.fs d) ir))

theorem ok_var (i : Nat) : OkE F B d N (.var i) := by
  intro sc X e g h
  simp only [cE] at h
  split at h
  · simp only [Bool.and_eq_true, decide_eq_true_eq] at h
    obtain ⟨⟨h1, h2⟩, h3⟩ := h
    exact snd_e (k_var (by rw [g.see.n]; exact h1) (vis_of g.see h2) (dbg_of h3).1 (dbg_of h3).2) rfl rfl
  · cases h
theorem ok_non : OkE F B d N .non := by
  intro sc X e g h
  simp only [cE] at h
  split at h
  · split at h
    · exact snd_e (k_const pe_non fun _ _ => .non) rfl rfl
    · cases h
  · cases h
theorem ok_bl (b : Bool) : OkE F B d N (.bl b) := by
  intro sc X e g h
  simp only [cE] at h
  split at h
  · split at h
    · have e := eq_of_beq h
      subst e
      exact snd_e (k_const pe_bl fun _ _ => .bl _) rfl rfl
    · cases h
  · cases h
theorem ok_int (b : Int) : OkE F B d N (.int b) := by
  intro sc X e g h
  simp only [cE] at h
  split at h
  · split at h
    · have e := of_decide_eq_true h
      subst e
      exact snd_e (k_const pe_int fun _ _ => .int _) rfl rfl
    · cases h
  · cases h
theorem ok_str (b : Str) : OkE F B d N (.str b) := by
  intro sc X e g h
  simp only [cE] at h
  split at h
  · split at h
    · have e := of_decide_eq_true h
      subst e
      exact snd_e (k_const pe_str fun _ _ => .str _) rfl rfl
    · cases h
  · cases h
theorem ok_tup {es : Es} (ih : OkEs F B d N es) : OkE F B d N (.tup es) := by
  intro sc X e g h
  simp only [cE] at h
  split at h
  · exact snd_n (k_tup ((ih sc X g).1 _ h).1) rfl
  · cases h
theorem ok_lst {es : Es} (ih : OkEs F B d N es) : OkE F B d N (.lst es) := by
  intro sc X e g h
  simp only [cE] at h
  split at h
  · exact snd_n (k_lst ((ih sc X g).1 _ h).1) rfl
  · cases h
theorem ok_dct {ps : Ps} (ih : OkPs F B d N ps) : OkE F B d N (.dct ps) := by
  intro sc X e g h
  simp only [cE] at h
  split at h
  · rename_i ks vs pos
    simp only [Bool.and_eq_true, decide_eq_true_eq] at h
    obtain ⟨h1, h2⟩ := h
    cases ps with
    | nil =>
      simp only [cPs] at h1
      split at h1
      · exact snd_n k_dnil rfl
      · cases h1
    | cons k v r =>
      obtain ⟨kp, a1, a2⟩ := ih sc X pos ks vs g h1
      refine snd_n (k_disp kp a1 a2 (fun e => ?_) h2) rfl
      subst e
      simp [cPs] at h1
  · cases h
theorem ok_bin {o : Bop} {a b : E} (iha : OkE F B d N a) (ihb : OkE F B d N b) : OkE F B d N (.bin o a b) := by
  intro sc X e g h
  simp only [cE] at h
  split at h
  · simp only [Bool.and_eq_true, decide_eq_true_eq] at h
    obtain ⟨⟨rfl, h1⟩, h2⟩ := h
    exact snd_n (k_bin g.ft (iha sc X _ g h1).e (ihb sc X _ g h2).e) rfl
  · cases h
theorem ok_cmp {o : Cop} {a b : E} (iha : OkE F B d N a) (ihb : OkE F B d N b) : OkE F B d N (.cmp o a b) := by
  intro sc X e g h
  simp only [cE] at h
  split at h
  · simp only [Bool.and_eq_true, decide_eq_true_eq, Bool.not_eq_true'] at h
    obtain ⟨⟨⟨rfl, h1⟩, h2⟩, h3⟩ := h
    have k := k_cmp (pos := by assumption) g.ft (iha sc X _ g h2).e (ihb sc X _ g h3).e h1
    exact ⟨tE_of_N k, fun _ => k, t_cmp g.ft (iha sc X _ g h2).e (ihb sc X _ g h3).e h1⟩
  · cases h
theorem ok_chain {o o' : Cop} {a b c : E} (iha : OkE F B d N a) (ihb : OkE F B d N b) (ihc : OkE F B d N c) : OkE F B d N (.chain o o' a b c) := by
  intro sc X e g h
  simp only [cE] at h
  split at h
  · simp only [Bool.and_eq_true, decide_eq_true_eq, Bool.not_eq_true'] at h
    obtain ⟨⟨⟨⟨⟨rfl, rfl⟩, h1⟩, h2⟩, h3⟩, h4⟩ := h
    have k := k_chain (pos := by assumption) g.ft (iha sc X _ g h2).e (ihb sc X _ g h3).e (ihc sc X _ g h4).e h1
    exact ⟨tE_of_N k, fun _ => k, t_chain g.ft (iha sc X _ g h2).e (ihb sc X _ g h3).e (ihc sc X _ g h4).e h1⟩
  · cases h
theorem ok_neg {a : E} (iha : OkE F B d N a) : OkE F B d N (.neg a) := by
  intro sc X e g h
  simp only [cE] at h
  split at h
  · split at h
    · exact snd_n (k_neg (iha sc X _ g h).e) rfl
    · cases h
  · cases h
theorem ok_and {a b : E} (iha : OkE F B d N a) (ihb : OkE F B d N b) : OkE F B d N (.and a b) := by
  intro sc X e g h
  simp only [cE] at h
  split at h
  · rename_i a' b' rest pos
    rw [Bool.and_eq_true] at h
    obtain ⟨h1, h2⟩ := h
    have A := iha sc X _ g h1
    have Bd : PE X (.BoolOp .And (b' :: rest) pos) (tE F (dE (callD B.fs d) b)) ∧ PW X (.BoolOp .And (b' :: rest) pos) (tB' F (tst (dE (callD B.fs d) b))) := by
      split at h2
      · have b0 := ihb sc X _ g h2
        exact ⟨pe_one b0.e, w_one b0.t⟩
      · have b0 := ihb sc X _ g h2
        exact ⟨b0.e, pw_bool b0.t⟩
    refine ⟨k_and A.e Bd.1, fun q => (by cases q), ?_⟩
    have q : tst (dE (callD B.fs d) (.and a b)) = _ := tst_and (ma := dE (callD B.fs d) a) (mb := dE (callD B.fs d) b)
    rw [q]
    exact (w_and A.t Bd.2).pt
  · cases h
theorem ok_or {a b : E} (iha : OkE F B d N a) (ihb : OkE F B d N b) : OkE F B d N (.or a b) := by
  intro sc X e g h
  simp only [cE] at h
  split at h
  · rename_i a' b' rest pos
    rw [Bool.and_eq_true] at h
    obtain ⟨h1, h2⟩ := h
    have A := iha sc X _ g h1
    have Bd : PE X (.BoolOp .Or (b' :: rest) pos) (tE F (dE (callD B.fs d) b)) ∧ PW X (.BoolOp .Or (b' :: rest) pos) (tB' F (tst (dE (callD B.fs d) b))) := by
      split at h2
      · have b0 := ihb sc X _ g h2
        exact ⟨pe_one b0.e, w_one b0.t⟩
      · have b0 := ihb sc X _ g h2
        exact ⟨b0.e, pw_bool b0.t⟩
    refine ⟨k_or A.e Bd.1, fun q => (by cases q), ?_⟩
    have q : tst (dE (callD B.fs d) (.or a b)) = _ := tst_or (ma := dE (callD B.fs d) a) (mb := dE (callD B.fs d) b)
    rw [q]
    exact (w_or A.t Bd.2).pt
  · cases h
theorem ok_not {a : E} (iha : OkE F B d N a) : OkE F B d N (.not a) := by
  intro sc X e g h
  simp only [cE] at h
  split at h
  · split at h
    · have A := iha sc X _ g h
      have k := k_not (pos := by assumption) A.e
      refine ⟨tE_of_N k, fun _ => k, ?_⟩
      have q : tst (dE (callD B.fs d) (.not a)) = _ := tst_not (ma := dE (callD B.fs d) a)
      rw [q]
      exact t_not A.t
    · cases h
  · cases h
theorem ok_ife {c a b : E} (ihc : OkE F B d N c) (iha : OkE F B d N a) (ihb : OkE F B d N b) : OkE F B d N (.ife c a b) := by
  intro sc X e g h
  simp only [cE] at h
  split at h
  · simp only [Bool.and_eq_true] at h
    obtain ⟨⟨h1, h2⟩, h3⟩ := h
    have C := ihc sc X _ g h1
    have A := iha sc X _ g h2
    have Bd := ihb sc X _ g h3
    refine ⟨?_, fun q => (by cases q), ?_⟩
    · have q : dE (callD B.fs d) (.ife c a b) = _ := ife_tst (mc := dE (callD B.fs d) c) (ma := dE (callD B.fs d) a) (mb := dE (callD B.fs d) b)
      rw [q]
      exact k_ife C.t A.e Bd.e
    · have q : tst (dE (callD B.fs d) (.ife c a b)) = _ := tst_ife (mc := dE (callD B.fs d) c) (ma := dE (callD B.fs d) a) (mb := dE (callD B.fs d) b)
      rw [q]
      exact t_ife C.t A.t Bd.t
  · cases h
theorem ok_ix {a i : E} (iha : OkE F B d N a) (ihi : OkE F B d N i) : OkE F B d N (.ix a i) := by
  intro sc X e g h
  simp only [cE] at h
  split at h
  · simp only [Bool.and_eq_true] at h
    obtain ⟨⟨h1, h2⟩, h3⟩ := h
    exact snd_e (k_ix g.ft (iha sc X _ g h2).e (ihi sc X _ g h3).e (plainIx h1)) rfl rfl
  · cases h
theorem ok_sl {a : E} {lo hi : OE} (iha : OkE F B d N a) (ihl : OkO F B d N lo) (ihh : OkO F B d N hi) : OkE F B d N (.sl a lo hi) := by
  intro sc X e g h
  simp only [cE] at h
  split at h
  · simp only [Bool.and_eq_true] at h
    obtain ⟨⟨h1, h2⟩, h3⟩ := h
    exact snd_n (k_sl g.ft (iha sc X _ g h1).e (ihl sc X _ g h2) (ihh sc X _ g h3)) rfl
  · cases h
theorem ok_rev {a : E} (iha : OkE F B d N a) : OkE F B d N (.rev a) := by
  intro sc X e g h
  simp only [cE] at h
  split at h
  · simp only [Bool.and_eq_true, decide_eq_true_eq] at h
    obtain ⟨rfl, h1⟩ := h
    exact snd_n (k_rev g.ft (iha sc X _ g h1).e) rfl
  · cases h
theorem ok_b1 {f : B1} {a : E} (iha : OkE F B d N a) : OkE F B d N (.b1 f a) := by
  intro sc X e g h
  simp only [cE] at h
  split at h
  · simp only [Bool.and_eq_true, decide_eq_true_eq] at h
    obtain ⟨⟨⟨rfl, h1⟩, h2⟩, h3⟩ := h
    exact snd_n (k_b1 g.ft (blt_b1 g f h1) (iha sc X _ g h3).e h2) rfl
  · cases h
theorem ok_b2 {f : B2} {a b : E} (iha : OkE F B d N a) (ihb : OkE F B d N b) : OkE F B d N (.b2 f a b) := by
  intro sc X e g h
  simp only [cE] at h
  split at h
  · simp only [Bool.and_eq_true, decide_eq_true_eq] at h
    obtain ⟨⟨⟨⟨⟨rfl, h1⟩, h2⟩, h3⟩, h4⟩, h5⟩ := h
    exact snd_n (k_b2 g.ft (blt_b2 g f h1) (iha sc X _ g h4).e (ihb sc X _ g h5).e h2 h3) rfl
  · cases h
theorem ok_mth {m : M} {o : E} {es : Es} (iho : OkE F B d N o) (ihs : OkEs F B d N es) : OkE F B d N (.mth m o es) := by
  intro sc X e g h
  simp only [cE] at h
  split at h
  · rename_i o' nm apos es' cpos
    simp only [Bool.and_eq_true, decide_eq_true_eq] at h
    obtain ⟨⟨⟨⟨⟨rfl, h1⟩, h2⟩, h3⟩, h4⟩, h5⟩ := h
    have O := (iho sc X _ g h4).e
    obtain ⟨A, hs⟩ := (ihs sc X g).1 _ h5
    cases es' with
    | nil =>
      cases es with
      | nil => exact snd_e (k_mth0 g.ft m O h1 h2) rfl rfl
      | cons a r => simp [cEs] at h5
    | cons e1 es1 => exact snd_e (k_mth g.ft m O A h1 h2 hs h3) rfl rfl
  · cases h
theorem fs_at {f : Nat} {x : Str} (h : (B.fs[f]?).map (·.name) = some x) : ∃ fd, B.fs[f]? = some fd ∧ fd.name = x := by
  cases e : B.fs[f]? with
  | none => rw [e] at h; cases h
  | some fd => rw [e] at h; cases h; exact ⟨fd, rfl, rfl⟩
theorem ok_call {f : Nat} {es : Es} (ihs : OkEs F B d N es) : OkE F B d N (.call f es) := by
  intro sc X e g h
  simp only [cE] at h
  split at h
  · rename_i x p es' pos
    simp only [Bool.and_eq_true, decide_eq_true_eq] at h
    obtain ⟨⟨⟨h1, h2⟩, h3⟩, h4⟩ := h
    obtain ⟨fd, hf, rfl⟩ := fs_at h1
    obtain ⟨A, hs⟩ := (ihs sc X g).1 _ h4
    have eq : (fun ρ α => (dEs (callD B.fs d) es ρ α).bind fun ps α => need (decide (ps.length = fd.np)) (callD B.fs d f ps α)) = dE (callD B.fs d) (.call f es) := by
      funext ρ α
      show _ = (dEs (callD B.fs d) es ρ α).bind fun ps α => callD B.fs d f ps α
      congr 1
      funext ps α
      exact callD_need B.fs d f fd hf ps α
    have C := g.wd.cal f fd hf
    cases es' with
    | nil =>
      cases es with
      | nil =>
        refine snd_e (m := dE (callD B.fs d) (.call f .nil)) ?_ rfl rfl
        rw [← eq]
        exact k_call0 g.ft g.wd.room (glb_of g.see h2) (dbg_of h3).1 C
      | cons a r => simp [cEs] at h4
    | cons e1 es1 =>
      refine snd_e (m := dE (callD B.fs d) (.call f es)) ?_ rfl rfl
      rw [← eq]
      exact k_call g.ft g.wd.room (glb_of g.see h2) (dbg_of h3).1 C A hs
  · cases h
theorem ok_callK {f n : Nat} {ks : List Str} {perm : List Nat} {es kes : Es} (ihs : OkEs F B d N es) (ihk : OkEs F B d N kes) : OkE F B d N (.callK f n ks perm es kes) := by
  intro sc X e g h
  simp only [cE] at h
  split at h
  · rename_i x p es' kws pos
    simp only [Bool.and_eq_true, decide_eq_true_eq] at h
    obtain ⟨⟨⟨⟨⟨⟨⟨h1, h2⟩, h3⟩, h4⟩, h5⟩, h6⟩, h7⟩, h8⟩ := h
    obtain ⟨fd, hf, rfl⟩ := fs_at h1
    obtain ⟨A, hs⟩ := (ihs sc X g).1 _ h6
    have Kk := (ihk sc X g).2 _ h7
    have eq : callKD n ks perm fd.np (callD B.fs d f) (dEs (callD B.fs d) es) (dEs (callD B.fs d) kes) = dE (callD B.fs d) (.callK f n ks perm es kes) := by
      funext ρ α
      show _ = (dEs (callD B.fs d) es ρ α).bind fun ps α => (dEs (callD B.fs d) kes ρ α).bind fun qs α => need (decide (ps.length = n ∧ qs.length = ks.length)) (callD B.fs d f (ps ++ permP perm qs) α)
      unfold callKD
      congr 1
      funext ps α
      congr 1
      funext qs α
      rw [callD_need B.fs d f fd hf]
    have C := g.wd.kw f n ks perm h4 fd hf
    refine snd_e (m := dE (callD B.fs d) (.callK f n ks perm es kes)) ?_ rfl rfl
    rw [← eq]
    cases es' with
    | nil =>
      cases es with
      | nil =>
        have hn : n = 0 := by simpa using h8
        subst hn
        exact k_callK0 g.ft g.wd.room (glb_of g.see h2) (dbg_of h3).1 C Kk h5
      | cons a r => simp [cEs] at h6
    | cons e1 es1 => exact k_callK g.ft g.wd.room (glb_of g.see h2) (dbg_of h3).1 C A hs Kk h5
  · cases h
theorem ok_comp {t : T} {own : List Nat} {it : It} {cond : OE} {elt : E} (iht : OkT F B d N t) (ihi : OkI F B d N it) (ihc : OkC F B d N cond) (ihe : OkE F B d N elt) : OkE F B d N (.comp t own it cond elt) := by
  intro sc X e g h
  simp only [cE] at h
  split at h
  · rename_i elt' tg iter ifs asy scope pos
    simp only [Bool.and_eq_true, decide_eq_true_eq] at h
    obtain ⟨⟨⟨⟨⟨⟨⟨⟨rfl, h1⟩, h2⟩, h3⟩, h4⟩, h5⟩, h6⟩, h7⟩, h8⟩ := h
    have k := k_comp (elt := elt') (tg := tg) (iter := iter) (ifs := ifs) (scope := scope) (pos := pos) g.ft (ihi sc X tg iter g h4) (blk_ok g.see h2) (fun s H C cl fp => iht scope _ _ (good_blk g) h5) (fun s H C cl fp => ihc scope _ _ (good_blk g) h7)
      (fun s H C cl fp => (ihe scope _ _ (good_blk g) h8).e) h3 (by rw [h1]; exact h6)
    rw [h1] at k
    exact snd_n k rfl
  · cases h
theorem ok_join {a : E} (iha : OkE F B d N a) : OkE F B d N (.join a) := by
  intro sc X e g h
  simp only [cE, Bool.and_eq_true] at h
  obtain ⟨h1, h2⟩ := h
  have A := iha sc X e g h2
  have hp : plainT e = true := by
    cases a <;> simp only [isNew, Bool.false_eq_true] at h1 <;> (simp only [cE] at h2; (repeat' split at h2) <;> first | rfl | cases h2)
  exact snd_e (k_join (A.n h1)) rfl hp
theorem ok_O : ∀ {oe : OE}, (∀ a, oe = .some a → OkE F B d N a) → OkO F B d N oe := by
  intro oe ih sc X e g h
  cases oe with
  | none =>
    simp only [cO] at h
    split at h
    · exact o_none
    · cases h
  | some a =>
    simp only [cO] at h
    split at h
    · exact o_some (ih a rfl sc X _ g h).e
    · cases h
theorem ok_C : ∀ {oe : OE}, (∀ a, oe = .some a → OkE F B d N a) → OkC F B d N oe := by
  intro oe ih sc X e g h
  cases oe with
  | none =>
    simp only [cC] at h
    split at h
    · exact ts_nil
    · cases h
  | some a =>
    simp only [cC] at h
    split at h
    · exact pts_one (ih a rfl sc X _ g h).t
    · cases h
theorem ok_nil : OkEs F B d N .nil := by
  intro sc X g
  refine ⟨fun es h => ?_, fun kws h => ?_⟩
  · simp only [cEs] at h
    split at h
    · exact ⟨a_nil, rfl⟩
    · cases h
  · simp only [cEs] at h
    split at h
    · rename_i hk
      have : kws = [] := by simpa using hk
      subst this
      exact kw_nil
    · cases h
theorem ok_cons {a : E} {r : Es} (iha : OkE F B d N a) (ihr : OkEs F B d N r) : OkEs F B d N (.cons a r) := by
  intro sc X g
  refine ⟨fun es h => ?_, fun kws h => ?_⟩
  · simp only [cEs] at h
    split at h
    · simp only [Bool.and_eq_true] at h
      obtain ⟨⟨h1, h2⟩, h3⟩ := h
      obtain ⟨A, hs⟩ := (ihr sc X g).1 _ h3
      exact ⟨a_cons (iha sc X _ g h2).e A h1, by rw [List.all_cons, h1, hs]; rfl⟩
    · cases h
  · simp only [cEs] at h
    cases kws with
    | nil => cases h
    | cons k ks =>
      simp only [List.map_cons, Bool.and_eq_true] at h
      obtain ⟨⟨h1, h2⟩, h3⟩ := h
      obtain ⟨nm, e, kp⟩ := k
      exact kw_cons (iha sc X _ g h2).e ((ihr sc X g).2 _ h3)
theorem ok_pnil : OkPs F B d N .nil := by
  intro sc X pos ks vs g h
  simp only [cPs] at h
  split at h
  · exact ⟨kp_nil, rfl, rfl⟩
  · cases h
theorem ok_pcons {k v : E} {r : Ps} (ihk : OkE F B d N k) (ihv : OkE F B d N v) (ihr : OkPs F B d N r) : OkPs F B d N (.cons k v r) := by
  intro sc X pos ks vs g h
  simp only [cPs] at h
  split at h
  · simp only [Bool.and_eq_true] at h
    obtain ⟨⟨h1, h2⟩, h3⟩ := h
    obtain ⟨K, a1, a2⟩ := ihr sc X pos _ _ g h3
    exact ⟨kp_cons (ihk sc X _ g h1).e (ihv sc X _ g h2).e K, by rw [List.all_cons, a1]; rfl, by rw [List.length_cons, List.length_cons, a2]⟩
  · cases h
theorem ok_tvar (i : Nat) : OkT F B d N (.var i) := by
  intro sc X e g h
  simp only [cT] at h
  split at h
  · simp only [Bool.and_eq_true, decide_eq_true_eq] at h
    exact g_var g.ft.nd (by rw [g.see.n]; exact h.1) (loc_of g.see h.2).1 (loc_of g.see h.2).2
  · cases h
theorem ok_ttup {ts : Ts} (ih : OkTs F B d N ts) : OkT F B d N (.tup ts) := by
  intro sc X e g h
  simp only [cT] at h
  split at h
  · obtain ⟨G, h1, h2⟩ := ih sc X _ g h
    exact g_tup g.ft G h1 h2 fun x ρ α => by cases x <;> rfl
  · cases h
theorem ok_tsub {o i : E} (iho : OkE F B d N o) (ihi : OkE F B d N i) : OkT F B d N (.sub o i) := by
  intro sc X e g h
  simp only [cT] at h
  split at h
  · simp only [Bool.and_eq_true] at h
    obtain ⟨⟨h1, h2⟩, h3⟩ := h
    exact g_sub g.ft (iho sc X _ g h2).e (ihi sc X _ g h3).e h1
  · cases h
theorem ok_tnil : OkTs F B d N .nil := by
  intro sc X es g h
  simp only [cTs] at h
  split at h
  · refine ⟨gs_nil fun ps ρ α => by cases ps <;> rfl, rfl, fun ps ρ α ρ' α' h => ?_⟩
    cases ps with
    | nil => rfl
    | cons p ps => cases h
  · cases h
theorem ok_tcons {t : T} {ts : Ts} (iht : OkT F B d N t) (ihs : OkTs F B d N ts) : OkTs F B d N (.cons t ts) := by
  intro sc X es g h
  simp only [cTs] at h
  split at h
  · simp only [Bool.and_eq_true] at h
    obtain ⟨⟨h1, h2⟩, h3⟩ := h
    obtain ⟨G, a1, a2⟩ := ihs sc X _ g h3
    refine ⟨gs_cons (iht sc X _ g h2) G h1 fun ps ρ α => by cases ps <;> rfl, by rw [List.all_cons, h1, a1]; rfl, fun ps ρ α ρ' α' h => ?_⟩
    cases ps with
    | nil => cases h
    | cons p ps =>
      have h : (dT (callD B.fs d) t p ρ α).bind (fun ρ α => dTs (callD B.fs d) ts ps ρ α) = .ok ρ' α' := h
      cases hd : dT (callD B.fs d) t p ρ α with
      | ok ρ1 α1 => rw [hd] at h; rw [List.length_cons, List.length_cons, a2 _ _ _ _ _ h]
      | err c xs a => rw [hd] at h; cases h
      | bad => rw [hd] at h; cases h
  · cases h
theorem ok_ival {a : E} (iha : OkE F B d N a) : OkI F B d N (.val a) := by
  intro sc X tg e g h
  simp only [cI] at h
  exact i_val g.ft (iha sc X e g h).e
theorem ok_irange1 {a : E} (iha : OkE F B d N a) : OkI F B d N (.range1 a) := by
  intro sc X tg e g h
  simp only [cI] at h
  split at h
  · simp only [Bool.and_eq_true, decide_eq_true_eq] at h
    obtain ⟨⟨⟨rfl, h1⟩, h2⟩, h3⟩ := h
    exact i_range1 (blt_range g h1) (iha sc X _ g h3).e h2
  · cases h
theorem ok_irange2 {a b : E} (iha : OkE F B d N a) (ihb : OkE F B d N b) : OkI F B d N (.range2 a b) := by
  intro sc X tg e g h
  simp only [cI] at h
  split at h
  · simp only [Bool.and_eq_true, decide_eq_true_eq] at h
    obtain ⟨⟨⟨⟨⟨rfl, h1⟩, h2⟩, h3⟩, h4⟩, h5⟩ := h
    exact i_range2 (blt_range g h1) (iha sc X _ g h4).e (ihb sc X _ g h5).e h2 h3
  · cases h
theorem ok_ivals {a : E} (iha : OkE F B d N a) : OkI F B d N (.values a) := by
  intro sc X tg e g h
  simp only [cI] at h
  split at h
  · simp only [Bool.and_eq_true, decide_eq_true_eq] at h
    obtain ⟨⟨⟨rfl, h1⟩, h2⟩, h3⟩ := h
    exact i_vals g.ft (iha sc X _ g h3).e h1 h2
  · cases h
/-- THE RULE for expressions -/
theorem ok_all : (∀ ir : E, OkE F B d N ir) ∧ (∀ t : T, OkT F B d N t) ∧ (∀ it : It, OkI F B d N it) ∧ (∀ es : Es, OkEs F B d N es) := by
  have key : ∀ ir : E, OkE F B d N ir := by
    refine E.rec (motive_1 := fun ir => OkE F B d N ir) (motive_2 := fun oe => ∀ a, oe = .some a → OkE F B d N a) (motive_3 := fun es => OkEs F B d N es) (motive_4 := fun ps => OkPs F B d N ps) (motive_5 := fun t => OkT F B d N t)
      (motive_6 := fun ts => OkTs F B d N ts) (motive_7 := fun it => OkI F B d N it) ?_ ?_ ?_ ?_ ?_ ?_ ?_ ?_ ?_ ?_ ?_ ?_ ?_ ?_ ?_ ?_ ?_ ?_ ?_ ?_ ?_ ?_ ?_ ?_ ?_ ?_ ?_ ?_ ?_ ?_ ?_ ?_ ?_ ?_ ?_ ?_ ?_ ?_ ?_ ?_ ?_
    · exact fun i => ok_var i
    · exact ok_non
    · exact fun b => ok_bl b
    · exact fun b => ok_int b
    · exact fun b => ok_str b
    · exact fun es ih => ok_tup ih
    · exact fun es ih => ok_lst ih
    · exact fun es ih => ok_dct ih
    · exact fun o a b iha ihb => ok_bin iha ihb
    · exact fun o a b iha ihb => ok_cmp iha ihb
    · exact fun o o' a b c iha ihb ihc => ok_chain iha ihb ihc
    · exact fun a iha => ok_neg iha
    · exact fun a b iha ihb => ok_and iha ihb
    · exact fun a b iha ihb => ok_or iha ihb
    · exact fun a iha => ok_not iha
    · exact fun c a b ihc iha ihb => ok_ife ihc iha ihb
    · exact fun a i iha ihi => ok_ix iha ihi
    · exact fun a lo hi iha ihl ihh => ok_sl iha (ok_O ihl) (ok_O ihh)
    · exact fun a iha => ok_rev iha
    · exact fun f a iha => ok_b1 iha
    · exact fun f a b iha ihb => ok_b2 iha ihb
    · exact fun m o es iho ihs => ok_mth iho ihs
    · exact fun f es ihs => ok_call ihs
    · exact fun f n ks perm es kes ihs ihk => ok_callK ihs ihk
    · exact fun t own it cond elt iht ihi ihc ihe => ok_comp iht ihi (ok_C ihc) ihe
    · exact fun a iha => ok_join iha
    · exact fun a h => by cases h
    · exact fun a iha b h => by cases h; exact iha
    · exact ok_nil
    · exact fun a r iha ihr => ok_cons iha ihr
    · exact ok_pnil
    · exact fun k v r ihk ihv ihr => ok_pcons ihk ihv ihr
    · exact fun i => ok_tvar i
    · exact fun ts ih => ok_ttup ih
    · exact fun o i iho ihi => ok_tsub iho ihi
    · exact ok_tnil
    · exact fun t ts iht ihs => ok_tcons iht ihs
    · exact fun a iha => ok_ival iha
    · exact fun a iha => ok_irange1 iha
    · exact fun a b iha ihb => ok_irange2 iha ihb
    · exact fun a iha => ok_ivals iha
  have kEs : ∀ es : Es, OkEs F B d N es := fun es => Es.rec (motive_1 := fun _ => True) (motive_2 := fun _ => True) (motive_3 := fun es => OkEs F B d N es) (motive_4 := fun _ => True) (motive_5 := fun _ => True) (motive_6 := fun _ => True) (motive_7 := fun _ => True)
    (by intros; trivial) (by trivial) (by intros; trivial) (by intros; trivial) (by intros; trivial) (by intros; trivial) (by intros; trivial) (by intros; trivial) (by intros; trivial) (by intros; trivial) (by intros; trivial) (by intros; trivial) (by intros; trivial) (by intros; trivial) (by intros; trivial) (by intros; trivial) (by intros; trivial) (by intros; trivial) (by intros; trivial) (by intros; trivial) (by intros; trivial) (by intros; trivial) (by intros; trivial) (by intros; trivial) (by intros; trivial) (by intros; trivial)
    (by trivial) (by intros; trivial) ok_nil (fun a r _ ihr => ok_cons (key a) ihr) (by trivial) (by intros; trivial) (by intros; trivial) (by intros; trivial) (by intros; trivial) (by trivial) (by intros; trivial) (by intros; trivial) (by intros; trivial) (by intros; trivial) (by intros; trivial) es
  have kT : ∀ t : T, OkT F B d N t := fun t => T.rec (motive_1 := fun _ => True) (motive_2 := fun _ => True) (motive_3 := fun _ => True) (motive_4 := fun _ => True) (motive_5 := fun t => OkT F B d N t) (motive_6 := fun ts => OkTs F B d N ts) (motive_7 := fun _ => True)
    (by intros; trivial) (by trivial) (by intros; trivial) (by intros; trivial) (by intros; trivial) (by intros; trivial) (by intros; trivial) (by intros; trivial) (by intros; trivial) (by intros; trivial) (by intros; trivial) (by intros; trivial) (by intros; trivial) (by intros; trivial) (by intros; trivial) (by intros; trivial) (by intros; trivial) (by intros; trivial) (by intros; trivial) (by intros; trivial) (by intros; trivial) (by intros; trivial) (by intros; trivial) (by intros; trivial) (by intros; trivial) (by intros; trivial)
    (by trivial) (by intros; trivial) (by trivial) (by intros; trivial) (by trivial) (by intros; trivial) (fun i => ok_tvar i) (fun ts ih => ok_ttup ih) (fun o i _ _ => ok_tsub (key o) (key i)) ok_tnil (fun t ts iht ihs => ok_tcons iht ihs) (by intros; trivial) (by intros; trivial) (by intros; trivial) (by intros; trivial) t
  refine ⟨key, kT, fun it => ?_, kEs⟩
  cases it with
  | val a => exact ok_ival (key a)
  | range1 a => exact ok_irange1 (key a)
  | range2 a b => exact ok_irange2 (key a) (key b)
  | values a => exact ok_ivals (key a)
end
end Mw
end
section
set_option Elab.async false
set_option linter.all false
set_option maxRecDepth 100000
set_option maxHeartbeats 4000000
/-! Mw18: what is checked keeps its denotation: statements. -/
namespace Mw
open PySem PySem.Spec PyProof.Rows L2

theorem filt_len {α β : Type} (f : α → Option β) : ∀ l : List α, (List.filterMap f l).length ≤ l.length ∧ ((∃ x ∈ l, f x = none) → (List.filterMap f l).length < l.length)
  | [] => ⟨Nat.le_refl _, fun ⟨x, hx, _⟩ => by cases hx⟩
  | y :: l => by
    obtain ⟨h1, h2⟩ := filt_len f l
    cases hy : f y with
    | none =>
      rw [List.filterMap_cons_none hy]
      exact ⟨by rw [List.length_cons]; omega, fun _ => by rw [List.length_cons]; omega⟩
    | some z =>
      rw [List.filterMap_cons_some hy]
      refine ⟨by rw [List.length_cons, List.length_cons]; omega, ?_⟩
      rintro ⟨x, hx, hn⟩
      rcases List.mem_cons.mp hx with e | hx
      · rw [e, hy] at hn; cases hn
      · have := h2 ⟨x, hx, hn⟩
        rw [List.length_cons, List.length_cons]; omega
theorem sw_none {sc : Scope} {tg e : Expr} {env : Env} (hc : ∀ x, sc.names.lookup x = some .cell → env.scope.names.lookup x = some .cell) (h : swNone sc tg e = true) : swappedStores [tg] e env = pure none := by
  unfold swNone at h
  split at h
  · rename_i ts k p
    split at h
    · rename_i vs k2 p2
      unfold swappedStores
      dsimp only
      by_cases c1 : (!(ts.length == 2 || ts.length == 3) || vs.length != ts.length || env.blockKind != .function) = true
      · rw [if_pos c1]
      · rw [if_neg c1]
        simp only [Bool.or_eq_true, not_or] at c1
        simp only [Bool.or_eq_true] at h
        split
        · rfl
        · rename_i c2
          split
          · rfl
          · rename_i c3
            rcases h with (h | h) | h
            · exact absurd h (by simpa using c1.1)
            · first | rfl | rw [if_pos h]
            · exfalso
              apply c3
              rw [Bool.or_eq_true]
              refine .inl ?_
              rw [bne_iff_ne]
              refine Nat.ne_of_lt ((filt_len _ ts).2 ?_)
              obtain ⟨t, ht, hn⟩ := List.any_eq_true.mp h
              refine ⟨t, ht, ?_⟩
              cases t <;> first | (simp only [notLoc, Bool.false_eq_true] at hn; done) | rfl | skip
              rename_i x px
              have q : env.kindOf x = some .cell := hc x (of_decide_eq_true hn)
              simp [q]
    · rename_i hn
      cases e <;> first | rfl | exact absurd rfl (hn _ _ _)
  · cases h
  · rename_i h1 h2
    cases tg <;> first | rfl | (cases e <;> first | rfl | exact absurd rfl (h1 _ _ _) | exact absurd rfl (h2 _ _))

theorem names_two {x y : Str} {px py : Pos} {n : Nat} {env : Env} (kx : env.kindOf x = some .local) (ky : env.kindOf y = some .local) (h1 : px.line = n) (h2 : py.line = n) :
    (List.filterMap (fun | Expr.Name id pos => if env.kindOf id == some .local && pos.line == n then some id else none | _ => none) [Expr.Name x px, Expr.Name y py]) = [x, y] := by
  simp [List.filterMap, kx, ky, h1, h2]
theorem names_three {x y z : Str} {px py pz : Pos} {n : Nat} {env : Env} (kx : env.kindOf x = some .local) (ky : env.kindOf y = some .local) (kz : env.kindOf z = some .local) (h1 : px.line = n) (h2 : py.line = n) (h3 : pz.line = n) :
    (List.filterMap (fun | Expr.Name id pos => if env.kindOf id == some .local && pos.line == n then some id else none | _ => none) [Expr.Name x px, Expr.Name y py, Expr.Name z pz]) = [x, y, z] := by
  simp [List.filterMap, kx, ky, kz, h1, h2, h3]
theorem dups_two {x y : Str} (hne : x ≠ y) : [x, y].eraseDups = [x, y] := by
  have hyx : (y == x) = false := by simpa using fun e : y = x => hne e.symm
  simp [List.eraseDups, List.eraseDupsBy, List.eraseDupsBy.loop, hyx]
theorem dups_three {x y z : Str} (hne : x ≠ y) (hne2 : x ≠ z) (hne3 : y ≠ z) : [x, y, z].eraseDups = [x, y, z] := by
  have hyx : (y == x) = false := by simpa using fun e : y = x => hne e.symm
  have hzx : (z == x) = false := by simpa using fun e : z = x => hne2 e.symm
  have hzy : (z == y) = false := by simpa using fun e : z = y => hne3 e.symm
  simp [List.eraseDups, List.eraseDupsBy, List.eraseDupsBy.loop, hyx, hzx, hzy]
theorem sw_two {x y : Str} {px py pt : Pos} {kt k2 : Nat} {pt2 : Pos} {a b : Expr} {env : Env} (hk : env.scope.kind = .function) (hx : env.scope.names.lookup x = some .local) (hy : env.scope.names.lookup y = some .local) (hl : py.line = px.line) (hne : x ≠ y)
    (hs : [a, b].all noStar = true) (hf : [a, b].all (foldedForSure 8) = false) (hc : [a, b].all (constantsAlone 8) = false) :
    swappedStores [.Tuple [.Name x px, .Name y py] kt pt] (.Tuple [a, b] k2 pt2) env = pure (some [x, y]) := by
  have hbk : env.blockKind = .function := by unfold Env.blockKind; rw [hk]; rfl
  have nm := names_two (px := px) (py := py) (n := px.line) (show env.kindOf x = some .local from hx) (show env.kindOf y = some .local from hy) rfl hl
  unfold swappedStores
  dsimp only
  rw [if_neg (by rw [hbk]; simp), if_neg, if_neg]
  · rw [if_neg (by rw [hf]; decide), if_neg (by rw [hc]; decide)]
    exact congrArg (fun l => (pure (some l) : Sem (Option (List Str)))) nm
  · intro q
    have q2 : (([x, y].length != [Expr.Name x px, Expr.Name y py].length) || ([x, y].eraseDups.length != [x, y].length)) = true := nm ▸ q
    rw [dups_two hne] at q2
    simp at q2
  · intro q
    rw [List.any_eq_true] at q
    obtain ⟨e, he, hm⟩ := q
    have := List.all_eq_true.mp hs e he
    cases e <;> first | (simp only [noStar, Bool.false_eq_true] at this; done) | (simp at hm; done)
theorem sw_three {x y z : Str} {px py pz pt : Pos} {kt k2 : Nat} {pt2 : Pos} {a b c : Expr} {env : Env} (hk : env.scope.kind = .function) (hx : env.scope.names.lookup x = some .local) (hy : env.scope.names.lookup y = some .local) (hz : env.scope.names.lookup z = some .local)
    (hl : py.line = px.line) (hl2 : pz.line = px.line) (hne : x ≠ y) (hne2 : x ≠ z) (hne3 : y ≠ z)
    (hs : [a, b, c].all noStar = true) (hf : [a, b, c].all (foldedForSure 8) = false) (hc : [a, b, c].all (constantsAlone 8) = false) :
    swappedStores [.Tuple [.Name x px, .Name y py, .Name z pz] kt pt] (.Tuple [a, b, c] k2 pt2) env = pure (some [x, y, z]) := by
  have hbk : env.blockKind = .function := by unfold Env.blockKind; rw [hk]; rfl
  have nm := names_three (px := px) (py := py) (pz := pz) (n := px.line) (show env.kindOf x = some .local from hx) (show env.kindOf y = some .local from hy) (show env.kindOf z = some .local from hz) rfl hl hl2
  unfold swappedStores
  dsimp only
  rw [if_neg (by rw [hbk]; simp), if_neg, if_neg]
  · rw [if_neg (by rw [hf]; decide), if_neg (by rw [hc]; decide)]
    exact congrArg (fun l => (pure (some l) : Sem (Option (List Str)))) nm
  · intro q
    have q2 : (([x, y, z].length != [Expr.Name x px, Expr.Name y py, Expr.Name z pz].length) || ([x, y, z].eraseDups.length != [x, y, z].length)) = true := nm ▸ q
    rw [dups_three hne hne2 hne3] at q2
    simp at q2
  · intro q
    rw [List.any_eq_true] at q
    obtain ⟨e, he, hm⟩ := q
    have := List.all_eq_true.mp hs e he
    cases e <;> first | (simp only [noStar, Bool.false_eq_true] at this; done) | (simp at hm; done)

section
variable {F : Fx} {B : Tab} {d : Nat} {N : List Str} {sc : Scope}
structure GoodS (F : Fx) (B : Tab) (d : Nat) (N : List Str) (sc : Scope) (X : Cx) : Prop where
  fs : FitS F X
  see : See N sc X
  wd : Wd F B d X
theorem GoodS.good {X : Cx} (g : GoodS F B d N sc X) : Good F B d N sc X := ⟨g.fs.toFit, g.see, g.wd⟩
def OkS (F : Fx) (B : Tab) (d : Nat) (N : List Str) (sc : Scope) (ir : S) : Prop := ∀ X st, GoodS F B d N sc X → cS B N sc ir st = true → PS X st (tS F (dS (callD B.fs d) ir))
def OkSs (F : Fx) (B : Tab) (d : Nat) (N : List Str) (sc : Scope) (ir : Ss) : Prop := ∀ X st, GoodS F B d N sc X → cSs B N sc ir st = true → PSs X st (tS F (dSs (callD B.fs d) ir))
theorem oke (ir : E) : OkE F B d N ir := ok_all.1 ir
theorem okt (ir : T) : OkT F B d N ir := ok_all.2.1 ir
theorem oki (ir : It) : OkI F B d N ir := ok_all.2.2.1 ir
theorem okes (ir : Es) : OkEs F B d N ir := ok_all.2.2.2 ir
theorem swaps_yes {elt : Expr} {gens : List Comprehension} {scope : Scope} {vp py : Pos} {y : Str} {n : Nat} {env : Env} (hk : env.scope.kind = .function) (hy : env.scope.names.lookup y = some .local) (hl : py.line = vp.line)
    (hn : (scope.names.any fun (n, k) => n == y && (k == .local || k == .cell)) = false) : swapsWith (.ListComp elt gens scope vp) (some (.Name y py)) n env = pure true := by
  have hbk : env.blockKind = .function := by unfold Env.blockKind; rw [hk]; rfl
  have ky : env.kindOf y = some .local := hy
  unfold swapsWith
  show (pure (env.blockKind == .function && env.kindOf y == some .local && py.line == vp.line && !(scope.names.any fun (n, k) => n == y && (k == .local || k == .cell))) : Sem Bool) = _
  rw [hbk, ky, hl, hn]
  simp
theorem swaps_cell {elt : Expr} {gens : List Comprehension} {scope : Scope} {vp py : Pos} {y : Str} {n : Nat} {env : Env} (hy : env.scope.names.lookup y = some .cell) : swapsWith (.ListComp elt gens scope vp) (some (.Name y py)) n env = pure false := by
  have ky : env.kindOf y = some .cell := hy
  show (pure (env.blockKind == .function && env.kindOf y == some .local && py.line == vp.line && !(scope.names.any fun (n, k) => n == y && (k == .local || k == .cell))) : Sem Bool) = _
  rw [ky, show (some NameKind.cell == some NameKind.local) = false from rfl]
  simp only [Bool.and_false, Bool.false_and]
theorem ok_setLc {X : Cx} {j : Bool} {i : Nat} {y : Str} {py vp spos : Pos} {elt' : Expr} {gens : List Comprehension} {scope : Scope} {t : T} {own : List Nat} {it : It} {cond : OE} {elt : E} (g : GoodS F B d N sc X) (hi : N[i]? = some y) (hy : sc.names.lookup y = some .local) (hl : py.line = vp.line)
    (hn : (scope.names.any fun (n, k) => n == y && (k == .local || k == .cell)) = false) (h : cE B N (.comp t own it cond elt) sc (.ListComp elt' gens scope vp) = true) :
    PS X (.Assign [.Name y py] (.ListComp elt' gens scope vp) spos) (tS F fun ρ α => (match j with
      | true => (compD (dI (callD B.fs d) it) (dT (callD B.fs d) t) (dC (callD B.fs d) cond) (dE (callD B.fs d) elt) own ρ α).bind joinP
      | false => compD (dI (callD B.fs d) it) (dT (callD B.fs d) t) (dC (callD B.fs d) cond) (dE (callD B.fs d) elt) own ρ α).bind fun p α => .ok (.nx (ρ.set i (some p))) α) := by
  simp only [cE] at h
  split at h
  · rename_i e1 elt2 tg iter ifs asy scope2 pos he
    cases he
    simp only [Bool.and_eq_true, decide_eq_true_eq] at h
    obtain ⟨⟨⟨⟨⟨⟨⟨⟨rfl, h1⟩, h2⟩, h3⟩, h4⟩, h5⟩, h6⟩, h7⟩, h8⟩ := h
    have G := g.good
    have k := s_setLc (j := j) (spos := spos) g.fs (by rw [g.see.n]; exact hi) (g.see.loc y hy) (swaps_yes g.fs.kd (g.see.loc y hy) hl hn) (oki it sc X tg iter G h4) (blk_ok g.see h2) (fun s H C cl fp => okt t scope _ _ (good_blk G) h5)
      (fun s H C cl fp => ok_C (fun a _ => oke a) scope _ _ (good_blk G) h7) (fun s H C cl fp => (oke elt scope _ _ (good_blk G) h8).e) h3 (by rw [h1]; exact h6)
    have h1' : (ownOf N own).map (fun x : Str × Nat => x.2) = own := h1
    rw [h1'] at k
    exact k
  · cases h
theorem s_asgOk (t : T) (e : E) : OkS F B d N sc (.asg t e) := by
  intro X st g h
  simp only [cS] at h
  split at h
  · rename_i tg e' pos
    simp only [Bool.and_eq_true] at h
    obtain ⟨⟨⟨⟨h1, h2⟩, h3⟩, h4⟩, h5⟩ := h
    have G := g.good
    have plain : swapsWith e' (some tg) pos.line X.env = pure false → PS X (.Assign [tg] e' pos) (tS F (dS (callD B.fs d) (.asg t e))) := fun hs =>
      s_asg (oke e sc X _ G h3).e (okt t sc X _ G h2) hs (sw_none (fun x q => (g.see.cel x q).1) h4) h1
    rw [Bool.or_eq_true] at h5
    rcases h5 with h5 | h5
    · exact plain (swaps_no h5)
    · split at h5
      · rename_i elt' gens scope vp
        split at h5
        · rename_i y py
          simp only [Bool.or_eq_true, Bool.and_eq_true, decide_eq_true_eq, Bool.not_eq_true'] at h5
          rcases h5 with h5 | h5
          · exact plain (swaps_cell (g.see.cel y h5).1)
          obtain ⟨⟨⟨h6, h7⟩, h8⟩, h9⟩ := h5
          have h7 : py.line = vp.line := by simpa using h7
          cases t with
          | var i =>
            simp only [cT, Bool.and_eq_true, decide_eq_true_eq] at h2
            split at h9
            · exact ok_setLc (j := false) g h2.1 h6 h7 h8 h3
            · simp only [cE, Bool.and_eq_true] at h3
              exact ok_setLc (j := true) g h2.1 h6 h7 h8 (by simpa only [cE] using h3.2)
            · cases h9
          | tup ts => simp [cT] at h2
          | sub o i => simp [cT] at h2
        · exact plain rfl
        · cases h5
      · cases h5
  · cases h
theorem parOk_cons {i : Nat} {is : List Nat} {ts : List Expr} {line : Nat} (h : parOk N sc (i :: is) ts line = true) : ∃ x p r, ts = .Name x p :: r ∧ N[i]? = some x ∧ sc.names.lookup x = some .local ∧ p.line = line ∧ parOk N sc is r line = true := by
  cases ts with
  | nil => simp [parOk] at h
  | cons e r =>
    cases e <;> simp only [parOk, Bool.and_eq_true, decide_eq_true_eq, Bool.false_eq_true] at h
    obtain ⟨⟨⟨a1, a2⟩, a3⟩, h⟩ := h
    exact ⟨_, _, r, rfl, a1, a2, by simpa using a3, h⟩
theorem parOk_nil {ts : List Expr} {line : Nat} (h : parOk N sc [] ts line = true) : ts = [] := by
  cases ts with
  | nil => rfl
  | cons e r => simp [parOk] at h
theorem ne_names {X : Cx} (nd : X.N.Nodup) {i j : Nat} {x y : Str} (hi : X.N[i]? = some x) (hj : X.N[j]? = some y) (hij : i ≠ j) : x ≠ y := fun e => hij (by
  subst e
  exact (List.getElem?_inj (List.getElem?_eq_some_iff.mp hi).1 nd).mp (hi.trans hj.symm))
theorem s_parOk (is : List Nat) (es : Es) : OkS F B d N sc (.par is es) := by
  intro X st g h
  simp only [cS] at h
  split at h
  · rename_i ts kt pt es' k2 pt2 pos
    simp only [Bool.and_eq_true, decide_eq_true_eq, Bool.not_eq_true', Bool.or_eq_true, beq_iff_eq] at h
    obtain ⟨⟨⟨⟨⟨⟨h1, h2⟩, h3⟩, h4⟩, h5⟩, h6⟩, h7⟩ := h
    have G := g.good
    obtain ⟨A, hs⟩ := (okes es sc X G).1 _ h7
    rcases h1 with h1 | h1
    · obtain ⟨i, j, rfl⟩ : ∃ i j, is = [i, j] := by
        match is, h1 with | [i, j], _ => exact ⟨i, j, rfl⟩
      obtain ⟨a, b, rfl⟩ : ∃ a b, es' = [a, b] := by
        match es', h2 with | [a, b], _ => exact ⟨a, b, rfl⟩
      obtain ⟨x, px, r, rfl, a1, a2, a3, h3⟩ := parOk_cons h3
      obtain ⟨y, py, r, rfl, b1, b2, b3, h3⟩ := parOk_cons h3
      have := parOk_nil h3
      subst this
      have hij : i ≠ j := by simpa using h4
      have hi : X.N[i]? = some x := by rw [g.see.n]; exact a1
      have hj : X.N[j]? = some y := by rw [g.see.n]; exact b1
      exact s_par2 g.fs hi hj hij (g.see.loc _ a2) (g.see.loc _ b2) A (sw_two g.fs.kd (g.see.loc _ a2) (g.see.loc _ b2) b3 (ne_names g.fs.nd hi hj hij) hs h5 h6)
    · obtain ⟨i, j, l, rfl⟩ : ∃ i j l, is = [i, j, l] := by
        match is, h1 with | [i, j, l], _ => exact ⟨i, j, l, rfl⟩
      obtain ⟨a, b, c, rfl⟩ : ∃ a b c, es' = [a, b, c] := by
        match es', h2 with | [a, b, c], _ => exact ⟨a, b, c, rfl⟩
      obtain ⟨x, px, r, rfl, a1, a2, a3, h3⟩ := parOk_cons h3
      obtain ⟨y, py, r, rfl, b1, b2, b3, h3⟩ := parOk_cons h3
      obtain ⟨z, pz, r, rfl, c1, c2, c3, h3⟩ := parOk_cons h3
      have := parOk_nil h3
      subst this
      simp only [List.nodup_cons, List.mem_cons, List.not_mem_nil, or_false, not_or, not_false_eq_true, and_true, List.nodup_nil] at h4
      obtain ⟨⟨hij, hil⟩, hjl⟩ := h4
      have hi : X.N[i]? = some x := by rw [g.see.n]; exact a1
      have hj : X.N[j]? = some y := by rw [g.see.n]; exact b1
      have hl : X.N[l]? = some z := by rw [g.see.n]; exact c1
      exact s_par3 g.fs hi hj hl hij hil hjl (g.see.loc _ a2) (g.see.loc _ b2) (g.see.loc _ c2) A
        (sw_three g.fs.kd (g.see.loc _ a2) (g.see.loc _ b2) (g.see.loc _ c2) b3 c3 (ne_names g.fs.nd hi hj hij) (ne_names g.fs.nd hi hl hil) (ne_names g.fs.nd hj hl hjl) hs h5 h6)
  · cases h
theorem s_augOk (i : Nat) (o : Bop) (e : E) : OkS F B d N sc (.aug i o e) := by
  intro X st g h
  simp only [cS] at h
  split at h
  · simp only [Bool.and_eq_true, decide_eq_true_eq, Bool.or_eq_true] at h
    obtain ⟨⟨⟨h1, h2⟩, h3⟩, h4⟩ := h
    have G := g.good
    have L := loc_of g.see h2
    rcases h3 with ⟨rfl, rfl⟩ | ⟨rfl, rfl⟩
    · exact s_aug g.fs ip_add (fun _ _ _ => rfl) (by rw [g.see.n]; exact h1) L.1 L.2 (oke e sc X _ G h4).e
    · exact s_aug g.fs ip_sub (fun _ _ _ => rfl) (by rw [g.see.n]; exact h1) L.1 L.2 (oke e sc X _ G h4).e
  · cases h
/-- THE RULE for statements -/
theorem ok_stmts : ∀ ss : Ss, OkSs F B d N sc ss := by
  refine Ss.rec (motive_1 := fun s => OkS F B d N sc s) (motive_2 := fun ss => OkSs F B d N sc ss) ?_ ?_ ?_ ?_ ?_ ?_ ?_ ?_ ?_ ?_ ?_ ?_ ?_ ?_
  · intro X st g h
    simp only [cS] at h
    split at h
    · exact s_pass
    · cases h
  · intro X st g h
    simp only [cS] at h
    split at h
    · exact s_brk
    · cases h
  · intro X st g h
    simp only [cS] at h
    split at h
    · exact s_cont
    · cases h
  · intro e X st g h
    simp only [cS] at h
    split at h
    · rw [Bool.and_eq_true] at h
      exact s_expr (oke e sc X _ g.good h.2).e h.1
    · cases h
  · exact fun t e => s_asgOk t e
  · exact fun is es => s_parOk is es
  · exact fun i o e => s_augOk i o e
  · intro e X st g h
    simp only [cS] at h
    split at h
    · exact s_ret (oke e sc X _ g.good h).e
    · cases h
  · intro X st g h
    simp only [cS] at h
    split at h
    · exact s_retN
    · cases h
  · intro c a b iha ihb X st g h
    simp only [cS] at h
    split at h
    · simp only [Bool.and_eq_true] at h
      obtain ⟨⟨h1, h2⟩, h3⟩ := h
      have k := s_if (pos := by assumption) (oke c sc X _ g.good h1).t (iha X _ g h2) (ihb X _ g h3)
      have q : dS (callD B.fs d) (.ife c a b) = fun ρ α => (tst (dE (callD B.fs d) c) ρ α).bind fun t α => match t with
          | true => dSs (callD B.fs d) a ρ α
          | false => dSs (callD B.fs d) b ρ α := by
        funext ρ α
        simp only [tst, bind_assoc]
        rfl
      rw [q]
      exact k
    · cases h
  · intro c b ihb X st g h
    simp only [cS] at h
    split at h
    · simp only [Bool.and_eq_true] at h
      exact s_while g.fs (oke c sc X _ g.good h.1).t (ihb X _ g h.2)
    · cases h
  · intro t it b ihb X st g h
    simp only [cS] at h
    split at h
    · simp only [Bool.and_eq_true] at h
      obtain ⟨⟨⟨h1, h2⟩, h3⟩, h4⟩ := h
      exact s_for g.fs (oki it sc X _ _ g.good h2) (okt t sc X _ g.good h3) (ihb X _ g h4) h1
    · cases h
  · intro X st g h
    simp only [cSs] at h
    split at h
    · exact s_nil
    · cases h
  · intro s r ihs ihr X st g h
    simp only [cSs] at h
    split at h
    · rw [Bool.and_eq_true] at h
      exact s_cons (ihs X _ g h.1) (ihr X _ g h.2)
    · cases h
end
end Mw
end
section
set_option Elab.async false
set_option linter.all false
set_option maxRecDepth 100000
set_option maxHeartbeats 4000000
/-! Mw19: a text's defs, all together; the law's end. -/
namespace Mw
open PySem PySem.Spec PyProof.Rows L2

/-- a def of the text, as it stands behind the top -/
structure DefAt (K : PySem.W.Frag) (mg : Str → Option Value) (B : Tab) (j : Nat) (fd : FD) (st : Stmt) (f : Addr) (fdt : FuncData) : Prop where
  fu : Fun K fd.name fd.qual st f fdt
  mg : mg fd.name = some (.ref f)
  bi : Binds K fdt (fd.N.take fd.np) []
  kw : ∀ n ks perm, (j, n, ks, perm) ∈ B.kw → ∀ (s : Shared) (us ws : List Value), us.length = n → ws.length = ks.length → BindsTo s fdt ⟨us, ks.zip ws⟩ ((fd.N.take fd.np).zip (us ++ permP perm ws))
/-- what is seen of a def's text -/
structure DefOk (B : Tab) (fd : FD) (st : Stmt) : Prop where
  S : FnScope fd.N (fd.N.take fd.np) (defScope st)
  np : fd.np ≤ fd.N.length
  chk : cSs B fd.N (defScope st) fd.body (defBody st) = true
structure Txt (F : Fx) (B : Tab) (mg : Str → Option Value) : Prop where
  fn : ∀ j fd, B.fs[j]? = some fd → ∃ st f fdt, DefAt F.K mg B j fd st f fdt ∧ DefOk B fd st
  bl : ∀ x ∈ bltNames, mg x = none

section
variable {F : Fx} {B : Tab} {mg : Str → Option Value} {μ : Zn} {H : Hp} {α : AH} {Q : VK}
theorem start_env {n : Nat} {N : List Str} {ps : List PV} {vs : List V} (hn : N.length = n) (r : RepL F μ H ps vs) (hl : ps.length ≤ n) : EnvR F μ H (startP n ps) (L2.start N vs) := by
  have e := r.length
  refine ⟨?_, fun i p h => ?_⟩
  · unfold startP L2.start
    rw [List.length_append, List.length_append, List.length_map, List.length_map, List.length_replicate, List.length_replicate, hn, e]
  · unfold startP at h
    by_cases hi : i < ps.length
    · rw [List.getElem?_append_left (by simpa using hi), List.getElem?_map] at h
      cases hp : ps[i]? with
      | none => rw [hp] at h; cases h
      | some q =>
        rw [hp] at h; cases h
        obtain ⟨v, hv, rv⟩ := r.get hp
        refine ⟨v, ?_, rv⟩
        unfold L2.start
        rw [List.getElem?_append_left (by simpa [← e] using hi), List.getElem?_map, hv]
        rfl
    · rw [List.getElem?_append_right (by simpa using hi), List.getElem?_replicate] at h
      split at h <;> cases h
theorem body_post {r : SRes} (h : Post F μ H (r.bind fun r α => match r with
    | .rt p => .ok p α
    | .nx _ => .ok .non α
    | _ => .bad) (Rep F) Q) : PostS F μ H r { nx := fun _ H' => Q .non H', rt := Q } := by
  cases r with
  | ok f α1 =>
    cases f with
    | nx ρ1 => exact fun μ' H' σ' l r' _ => h μ' H' _ l r' .non
    | rt p => exact fun μ' H' v l r' rp => h μ' H' v l r' rp
    | bk ρ1 => exact h.elim
    | ct ρ1 => exact h.elim
  | err c xs a => exact h
  | bad => exact h
/-- all defs, at every depth -/
theorem all_cal (tx : Txt F B mg) (base : Heap) : ∀ (d j : Nat) (fd : FD), B.fs[j]? = some fd → ∀ st f fdt, DefAt F.K mg B j fd st f fdt → DefOk B fd st →
    FnG F.P F.w F.K mg base d f fdt (fd.N.take fd.np) (spD F fd.np (callD B.fs d j)) ∧ (fd.N.take fd.np).length = fd.np := by
  intro d
  induction d with
  | zero =>
    intro j fd hj st f fdt D ok
    refine ⟨.never fun vs H Q E q => ?_, by rw [List.length_take]; have := ok.np; omega⟩
    obtain ⟨_, μ, α, ps, _, _, h⟩ := q
    exact h
  | succ d ih =>
    intro j fd hj st f fdt D ok
    have hlen : (fd.N.take fd.np).length = fd.np := by rw [List.length_take]; have := ok.np; omega
    refine ⟨fn_ofG D.fu ok.S (fun vs H Q E q => by rw [hlen]; exact q.1) fun cdv A outer s H vs Q E hr hg hsp => ?_, hlen⟩
    have wd : Wd F B d (cxOf CX0 F.P F.w F.K mg base fd.N fd.qual (defScope st) f cdv A outer s H E).nox := by
      refine ⟨hr, fun i fd' hi => ?_, fun i n ks perm hmem fd' hi => ?_, tx.bl⟩
      · obtain ⟨st', f', fdt', a, b⟩ := tx.fn i fd' hi
        obtain ⟨h1, h2⟩ := ih i fd' hi st' f' fdt' a b
        exact ⟨f', fdt', _, h1, h2, a.mg, a.fu.kp, a.bi⟩
      · obtain ⟨st', f', fdt', a, b⟩ := tx.fn i fd' hi
        obtain ⟨h1, h2⟩ := ih i fd' hi st' f' fdt' a b
        exact ⟨f', fdt', _, h1, h2, a.mg, a.fu.kp, fun s us ws e1 e2 => a.kw n ks perm hmem s us ws e1 e2⟩
    have fs : FitS F (cxOf CX0 F.P F.w F.K mg base fd.N fd.qual (defScope st) f cdv A outer s H E).nox := by
      refine { P := rfl, w := rfl, K := rfl, calm := rfl, gd := ?_, room := ?_, nd := ok.S.nd, po := PassesOwn.never, kd := ok.S.kind }
      · show (A.deeper _).guards = _
        rw [deeper_gd]; exact hg
      · have := hr.un
        show (A.deeper _).units + 200 < _
        omega
    have see : See fd.N (defScope st) (cxOf CX0 F.P F.w F.K mg base fd.N fd.qual (defScope st) f cdv A outer s H E).nox :=
      ⟨rfl, fun x h => h, fun x h => ⟨h, rfl⟩, fun x h => .inr h, fun x h => h⟩
    have ps := ok_stmts fd.body _ _ ⟨fs, see, wd⟩ ok.chk
    refine pss_imp ps fun D σ H' q => ?_
    obtain ⟨⟨hl, μ, α, qs, rel, rq, post⟩, rfl, rfl, rfl⟩ := q
    have post : Post F μ H' (runFn (callD B.fs d) fd qs α) (Rep F) Q := by
      have e : callD B.fs (d + 1) j qs α = runFn (callD B.fs d) fd qs α := by
        show (match B.fs[j]? with
          | some f => runFn (callD B.fs d) f qs α
          | none => .bad) = _
        rw [hj]
      rw [← e]; exact post
    unfold runFn at post
    obtain ⟨hc, post⟩ := need_okG post
    have hc : qs.length = fd.np := of_decide_eq_true hc
    exact ⟨μ, _, α, rel, start_env rfl rq (by rw [hc]; exact ok.np), body_post post⟩

/-! ### the end -/
theorem law_callG {P : Program} {w : World} {K : PySem.W.Frag} {mg mb : Str → Option Value} {k : Nat} {fa a : Addr} {fd : FuncData} {x : Str} {sp : Sp} {s₁ : Shared} {vs : List Value} {ns : List Int}
    (kin : K.In s₁.heap) (gns : s₁.heap.Ns mainGlobals mg) (bns : s₁.heap.Ns builtinsNs mb) (bbt : ∀ x : Str, x ≠ "__name__" → mb x = bootBuiltins x) (lim : s₁.heap.NoLimit) (gen : s₁.gens = #[])
    (ha : s₁.heap.get? a = some { cls := .type "list", data := .seq vs.toArray }) (hi : IntsAre vs ns) (hl : ns.length ≤ sizeLine) (room : Room k callerA)
    (Fn : ∀ base : Heap, K.In base → base.Ns mainGlobals mg → FnG P w K mg base k fa fd [x] sp) (bind1 : ∀ (s : Shared) (u : Value), BindsTo s fd ⟨[u], []⟩ [(x, u)])
    (hsp : ∀ H : Hp, Only H → SqL K H a (ns.map V.int) → sp [.ref a] H (fun v _ => v = .bl true) fun _ _ _ => False) :
    codeAny (model P w) callerA (.call (.ref fa) ⟨[.ref a], []⟩) (fun r s' => r = .ok (.ret (.bool true)) ∧ OldK s₁.heap s'.heap ∧ s'.os = s₁.os ∧ AllBare s'.gens) s₁ := by
  have nums : Vals (ns.map V.int) vs := vals_ints hi
  have core : ∀ G : Hp, Only G → SqL K G a (ns.map V.int) → HOk P w G s₁.heap → (∀ b, G b ≠ none → b = a) → (G a ≠ none → K.lookup a = none) →
      codeAny (model P w) callerA (.call (.ref fa) ⟨[.ref a], []⟩) (fun r s' => r = .ok (.ret (.bool true)) ∧ OldK s₁.heap s'.heap ∧ s'.os = s₁.os ∧ AllBare s'.gens) s₁ := by
    intro G only seqa hok onlyA notK
    -- what is there at the beginning, but for the script
    have vis : ∀ {b : Addr} {o : Obj}, s₁.heap.get? b = some o → (b = a → G b = none) → (hidT s₁.heap G).get? b = some o := by
      intro b o e n
      refine hidT_get e ?_
      cases q : G b with
      | none => rfl
      | some u =>
        have eb : b = a := onlyA b (by simp [q])
        rw [n eb] at q; cases q
    have dctG : ∀ {b : Addr} {o : Obj} {es : Array DictEntry} {ep : Nat}, s₁.heap.get? b = some o → o.data = .dict es ep → b = a → G b = none := by
      intro b o es ep e dd eb
      subst eb
      rw [ha] at e
      cases e
      cases (show Data.seq vs.toArray _ = Data.dict es ep from dd)
    have nsG : ∀ {b : Addr} {m : Str → Option Value}, s₁.heap.Ns b m → (hidT s₁.heap G).Ns b m := by
      rintro b m ⟨o, es, ep, e, dd, r⟩
      exact ⟨o, es, ep, vis e (dctG e dd), dd, r⟩
    have kinG : K.In (hidT s₁.heap G) := by
      intro b o e
      refine vis (kin b o e) fun eb => ?_
      cases q : G b with
      | none => rfl
      | some u =>
        subst eb
        rw [notK (by simp [q])] at e; cases e
    have limG : (hidT s₁.heap G).NoLimit := by
      obtain ⟨mc, q1, q2⟩ := lim
      exact ⟨mc, nsG q1, q2⟩
    have env0 : Env0 P w K mg (hidT s₁.heap G) callerA [] s₁ G := by
      refine ⟨rfl, ⟨kinG, nsG gns, ⟨mb, nsG bns, bbt⟩, limG⟩, ?_, Nat.le_of_eq (hidT_size _ _), trivial, ?_, hok, .of_eq gen⟩
      · exact fun b o e => of_hidT e
      · intro b hb; cases hb
    have go := (Fn _ kinG (nsG gns)).run callerA [] s₁ G ⟨[.ref a], []⟩ [.ref a] [.ref a] (fun v _ => v = .bl true) (fun _ _ _ => False) room rfl env0 (bind1 s₁ (.ref a)) (.cons rfl .nil) (hsp G only seqa)
    refine codeAny_mono go fun r s' h => ?_
    rcases r with e | fl
    · exact h.elim
    · cases fl with
      | ret u =>
        obtain ⟨v, G', os, bare, un, hok', rv, hv⟩ := h
        have hv : v = .bl true := hv
        subst hv
        have hu : u = Value.bool true := rv
        subst hu
        refine ⟨rfl, OldK.of_keep fun b o e => ?_, os, bare⟩
        cases q : G b with
        | none => exact un.keep b o e q (fun z => by cases z) (by simp)
        | some t =>
          rcases only b with z | ⟨ob, xs, z⟩
          · rw [q] at z; cases z
          · have z' := un.frzs b ob _ z
            have q1 := (hok b _ z).1
            have q2 := (hok' b _ z').1
            rw [e] at q1
            cases q1
            exact q2
      | _ => exact h.elim
  by_cases hk : K.lookup a = none
  · let T : Hp := fun b => if b = a then some (.frz { cls := .type "list", data := .seq vs.toArray } (.lst (ns.map V.int))) else none
    have ta : T a = some (.frz { cls := .type "list", data := .seq vs.toArray } (.lst (ns.map V.int))) := if_pos rfl
    have tn : ∀ {b}, b ≠ a → T b = none := fun n => if_neg n
    refine core T (fun b => ?_) (.inl (.inr ⟨_, ta⟩)) (fun b u e => ?_) (fun b n => ?_) fun _ => hk
    · by_cases eb : b = a
      · subst eb; exact .inr ⟨_, _, ta⟩
      · exact .inl (tn eb)
    · by_cases eb : b = a
      · subst eb
        rw [ta] at e
        cases e
        exact ⟨ha, by simpa using hl, vs, _, nums, ha⟩
      · rw [tn eb] at e; cases e
    · by_cases eb : b = a
      · exact eb
      · exact absurd (tn eb) n
  · obtain ⟨o, ho⟩ := Option.ne_none_iff_exists'.mp hk
    have e := kin a o ho
    rw [ha] at e
    cases e
    refine core (fun _ => none) (fun _ => .inl rfl) (.inr ⟨_, vs.toArray, _, ho, rfl, rfl, rfl, ?_, by simpa using nums⟩) (fun b u z => by cases z) (fun b z => absurd rfl z) fun z => absurd rfl z
    rw [List.size_toArray, hi.length]
    exact hl
/-- the script as a value -/
theorem law_sp {np : Nat} {m : List PV → AH → Res PV} {a : Addr} {ns : List Int} (hnp : np = 1) (hO : Only H) (hS : SqL F.K H a (ns.map V.int)) (h : ∃ α', m [.scr (ns.map PV.int)] [] = .ok (.bl true) α') :
    spD F np m [.ref a] H (fun v _ => v = .bl true) fun _ _ _ => False := by
  have rl : RepL F ⟨[], []⟩ H (ns.map PV.int) (ns.map V.int) := by
    clear hS h
    induction ns with
    | nil => exact .nil
    | cons n ns ih => exact .cons (.int n) ih
  have sq : SqF F.K H a (ns.map V.int) := by
    rcases hS with (q | q) | q
    · rcases hO a with z | ⟨o, xs, z⟩
      · rw [q] at z; cases z
      · rw [q] at z; cases z
    · exact .inl q
    · exact .inr q
  obtain ⟨α', e⟩ := h
  refine ⟨hnp.symm, ⟨[], []⟩, [], _, ⟨rfl, List.nodup_nil, fun i a o q => by simp at q, fun b q => by cases q⟩, .cons (.scr sq rl) .nil, ?_⟩
  rw [e]
  intro μ' H' v l r rv
  cases rv
  rfl
/-- the goal that k_head leaves, from the law's denotation -/
theorem walk_ofG {l : PySem.W.OpenLaw} {n k : Nat} {q : Program} {loose : List Str} {XP : (Str → Option Value) → Heap → Prop} {YP : World → Heap → Prop} {dr : DefRec} {K : Params → PySem.W.Frag} {m : List PV → AH → Res PV} {x : Str}
    (most : l.most = some n) (small : n ≤ sizeLine) (nodef : dr.params.defaults = []) (room : Room k callerA)
    (inK : ∀ (w : World) (h : Heap), YP w h → (K w.params).In h)
    (Fn : ∀ (w : World) (mg : Str → Option Value) (fa : Addr) (h : Heap), (K w.params).In h → h.Ns mainGlobals mg → mg dr.name = some (.ref fa) →
      ∃ fd : FuncData, (∀ (s : Shared) (u : Value), BindsTo s fd ⟨[u], []⟩ [(x, u)]) ∧
        ∀ base : Heap, (K w.params).In base → base.Ns mainGlobals mg → FnG l.prog w (K w.params) mg base k fa fd [x] (spD ⟨l.prog, w, K w.params, fun _ => 0⟩ 1 m))
    (plain : ∀ ns : List Int, ns.length ≤ n → ∃ α', m [.scr (ns.map PV.int)] [] = .ok (.bl true) α') :
    PySem.W.WalkO q loose XP YP l.row.toRowW dr [] (fun f vs => PySem.call f vs) := by
  refine Att.attach_call most nodef fun w s₀ s₁ mg mb fa o pm cd doc a vs ns G Y ho hd hcd hmg hobj hints hlen hg => ?_
  obtain ⟨fd, hb, hF⟩ := Fn w mg fa _ (inK w _ Y) G.T.g hmg
  exact law_callG (inK w _ Y) G.T.g G.T.b G.T.builtins G.T.nolimit hg hobj hints (Nat.le_trans hlen small) room hF hb fun H hO hS => law_sp (F := ⟨l.prog, w, K w.params, fun _ => 0⟩) rfl hO hS (plain ns hlen)
end
end Mw
end
section
set_option Elab.async false
set_option linter.all false
set_option maxRecDepth 100000
set_option maxHeartbeats 4000000
/-! Mw20: what a denotation comes to, step by step. -/
namespace Mw
open PySem

/-- it comes to a value that is so -/
abbrev Tag {β : Type} (P : β → AH → Prop) : Type := Unit
/-- (u stands there so that simp leaves P alone until it is P's turn) -/
def Go {β : Type} (r : Res β) (P : β → AH → Prop) (u : Tag P := Unit.unit) : Prop := match r with
  | .ok b α => P b α
  | _ => False
theorem Go.ex {β : Type} {r : Res β} {P : β → AH → Prop} (h : Go r P) : ∃ b α, r = .ok b α ∧ P b α := by
  cases r with
  | ok b α => exact ⟨b, α, rfl, h⟩
  | err c xs a => exact h.elim
  | bad => exact h.elim
theorem Go.imp {β : Type} {r : Res β} {P P' : β → AH → Prop} (h : Go r P) (hi : ∀ b α, P b α → P' b α) : Go r P' := by
  cases r with
  | ok b α => exact hi _ _ h
  | err c xs a => exact h
  | bad => exact h
theorem go_of {β : Type} {r : Res β} {b : β} {α : AH} {P : β → AH → Prop} (e : r = .ok b α) (h : P b α) : Go r P := by rw [e]; exact h
theorem go_ext {β : Type} {r : Res β} {P P' : β → AH → Prop} (h : ∀ b α, P b α = P' b α) : Go r P = Go r P' := by
  have e : P = P' := funext fun b => funext fun α => h b α
  rw [e]
section
variable {β γ : Type} {P : β → AH → Prop} {α : AH} {ρ : Loc'} {F : Fn} {Q : PV → AH → Prop}
@[simp] theorem go_ok (b : β) : Go (.ok b α) P = P b α := rfl
@[simp] theorem go_bad : Go (.bad : Res β) P = False := rfl
@[simp] theorem go_bind (r : Res γ) (f : γ → AH → Res β) : Go (r.bind f) P = Go r (fun c α => Go (f c α) P) := by cases r <;> rfl
@[simp] theorem go_need (c : Bool) (r : Res β) : Go (need c r) P = (c = true ∧ Go r P) := by cases c <;> simp [need]
@[simp] theorem go_ofO_some (b : β) : Go (ofO (some b) α) P = P b α := rfl
@[simp] theorem go_truth (b : Bool) {P : Bool → AH → Prop} : Go (truth (.bl b) α) P = P b α := rfl
/-! expressions -/
@[simp] theorem go_var (i : Nat) : Go (dE F (.var i) ρ α) Q = (match ρ[i]? with
    | some (some p) => Q p α
    | _ => False) := by
  show Go (match ρ[i]? with
    | some (some p) => .ok p α
    | _ => .bad) Q = _
  split <;> rfl
@[simp] theorem go_non : Go (dE F .non ρ α) Q = Q .non α := rfl
@[simp] theorem go_bl (b : Bool) : Go (dE F (.bl b) ρ α) Q = Q (.bl b) α := rfl
@[simp] theorem go_int (b : Int) : Go (dE F (.int b) ρ α) Q = Q (.int b) α := rfl
@[simp] theorem go_str (b : Str) : Go (dE F (.str b) ρ α) Q = Q (.str b) α := rfl
@[simp] theorem go_tup (es : Es) : Go (dE F (.tup es) ρ α) Q = Go (dEs F es ρ α) (fun ps α => lineOk ps.length = true ∧ Q (.tup ps) α) := by
  show Go (Res.bind _ _) _ = _
  repeat (first | rfl | rw [go_bind] | rw [go_need, decide_eq_true_eq] | rw [go_need] | refine go_ext fun _ _ => ?_)
@[simp] theorem go_lst (es : Es) : Go (dE F (.lst es) ρ α) Q = Go (dEs F es ρ α) (fun ps α => lineOk ps.length = true ∧ Q (.fl ps) α) := by
  show Go (Res.bind _ _) _ = _
  repeat (first | rfl | rw [go_bind] | rw [go_need, decide_eq_true_eq] | rw [go_need] | refine go_ext fun _ _ => ?_)
@[simp] theorem go_dct (ps : Ps) : Go (dE F (.dct ps) ρ α) Q = Go (dPs F ps ρ α) (fun kvs α => ((kvs.all fun e => kmode e.1 == some false) && decide (kvs.length ≤ 15)) = true ∧ Q (.fd (kvs.foldl (fun acc e => dput acc e.1 e.2) [])) α) := by
  show Go (Res.bind _ _) _ = _
  repeat (first | rfl | rw [go_bind] | rw [go_need, decide_eq_true_eq] | rw [go_need] | refine go_ext fun _ _ => ?_)
@[simp] theorem go_bin (o : Bop) (a b : E) : Go (dE F (.bin o a b) ρ α) Q = Go (dE F a ρ α) (fun p α => Go (dE F b ρ α) fun q α => Go (bop o p q α) Q) := by
  show Go (Res.bind _ _) _ = _
  repeat (first | rfl | rw [go_bind] | rw [go_need, decide_eq_true_eq] | rw [go_need] | refine go_ext fun _ _ => ?_)
@[simp] theorem go_cmp (o : Cop) (a b : E) : Go (dE F (.cmp o a b) ρ α) Q = Go (dE F a ρ α) (fun p α => Go (dE F b ρ α) fun q α => Go (cop o p q α) Q) := by
  show Go (Res.bind _ _) _ = _
  repeat (first | rfl | rw [go_bind] | rw [go_need, decide_eq_true_eq] | rw [go_need] | refine go_ext fun _ _ => ?_)
@[simp] theorem go_neg (a : E) : Go (dE F (.neg a) ρ α) Q = Go (dE F a ρ α) (fun p α => match p with
    | .int i => Q (.int (-i)) α
    | _ => False) := by
  show Go (Res.bind _ _) _ = _
  rw [go_bind]
  exact go_ext fun p α => by cases p <;> rfl
@[simp] theorem go_not (a : E) : Go (dE F (.not a) ρ α) Q = Go (dE F a ρ α) (fun p α => Go (truth p α) fun t α => Q (.bl (!t)) α) := by
  show Go (Res.bind _ _) _ = _
  repeat (first | rfl | rw [go_bind] | rw [go_need, decide_eq_true_eq] | rw [go_need] | refine go_ext fun _ _ => ?_)
@[simp] theorem go_ix (a i : E) : Go (dE F (.ix a i) ρ α) Q = Go (dE F a ρ α) (fun p α => Go (dE F i ρ α) fun q α => Go (ixP p q α) Q) := by
  show Go (Res.bind _ _) _ = _
  repeat (first | rfl | rw [go_bind] | rw [go_need, decide_eq_true_eq] | rw [go_need] | refine go_ext fun _ _ => ?_)
@[simp] theorem go_sl (a : E) (lo hi : OE) : Go (dE F (.sl a lo hi) ρ α) Q = Go (dE F a ρ α) (fun p α => Go (dO F lo ρ α) fun l α => Go (dO F hi ρ α) fun h α => Go (slP p l h α) Q) := by
  show Go (Res.bind _ _) _ = _
  repeat (first | rfl | rw [go_bind] | rw [go_need, decide_eq_true_eq] | rw [go_need] | refine go_ext fun _ _ => ?_)
@[simp] theorem go_Onone {P : Option Int → AH → Prop} : Go (dO F .none ρ α) P = P none α := rfl
@[simp] theorem go_Osome (a : E) {P : Option Int → AH → Prop} : Go (dO F (.some a) ρ α) P = Go (dE F a ρ α) fun p α => Go (partO p α) P := by
  show Go (Res.bind _ _) _ = _
  repeat (first | rfl | rw [go_bind] | rw [go_need, decide_eq_true_eq] | rw [go_need] | refine go_ext fun _ _ => ?_)
@[simp] theorem go_rev (a : E) : Go (dE F (.rev a) ρ α) Q = Go (dE F a ρ α) (fun p α => Go (revP p α) Q) := by
  show Go (Res.bind _ _) _ = _
  repeat (first | rfl | rw [go_bind] | rw [go_need, decide_eq_true_eq] | rw [go_need] | refine go_ext fun _ _ => ?_)
@[simp] theorem go_b1 (f : B1) (a : E) : Go (dE F (.b1 f a) ρ α) Q = Go (dE F a ρ α) (fun p α => Go (b1 f p α) Q) := by
  show Go (Res.bind _ _) _ = _
  repeat (first | rfl | rw [go_bind] | rw [go_need, decide_eq_true_eq] | rw [go_need] | refine go_ext fun _ _ => ?_)
@[simp] theorem go_b2 (f : B2) (a b : E) : Go (dE F (.b2 f a b) ρ α) Q = Go (dE F a ρ α) (fun p α => Go (dE F b ρ α) fun q α => Go (b2 f p q α) Q) := by
  show Go (Res.bind _ _) _ = _
  repeat (first | rfl | rw [go_bind] | rw [go_need, decide_eq_true_eq] | rw [go_need] | refine go_ext fun _ _ => ?_)
@[simp] theorem go_mth (m : M) (o : E) (es : Es) : Go (dE F (.mth m o es) ρ α) Q = Go (dE F o ρ α) (fun p α => isTy m.ty p α = true ∧ Go (dEs F es ρ α) fun ps α => Go (mP m p ps α) Q) := by
  show Go (Res.bind _ _) _ = _
  repeat (first | rfl | rw [go_bind] | rw [go_need, decide_eq_true_eq] | rw [go_need] | refine go_ext fun _ _ => ?_)
@[simp] theorem go_call (f : Nat) (es : Es) : Go (dE F (.call f es) ρ α) Q = Go (dEs F es ρ α) (fun ps α => Go (F f ps α) Q) := by
  show Go (Res.bind _ _) _ = _
  repeat (first | rfl | rw [go_bind] | rw [go_need, decide_eq_true_eq] | rw [go_need] | refine go_ext fun _ _ => ?_)
@[simp] theorem go_callK (f n : Nat) (ks : List Str) (perm : List Nat) (es kes : Es) : Go (dE F (.callK f n ks perm es kes) ρ α) Q = Go (dEs F es ρ α) (fun ps α => Go (dEs F kes ρ α) fun qs α => (ps.length = n ∧ qs.length = ks.length) ∧ Go (F f (ps ++ permP perm qs) α) Q) := by
  show Go (Res.bind _ _) _ = _
  repeat (first | rfl | rw [go_bind] | rw [go_need, decide_eq_true_eq] | rw [go_need] | refine go_ext fun _ _ => ?_)
@[simp] theorem go_join (a : E) : Go (dE F (.join a) ρ α) Q = Go (dE F a ρ α) (fun p α => Go (joinP p α) Q) := by
  show Go (Res.bind _ _) _ = _
  repeat (first | rfl | rw [go_bind] | rw [go_need, decide_eq_true_eq] | rw [go_need] | refine go_ext fun _ _ => ?_)
@[simp] theorem go_Enil {P : List PV → AH → Prop} : Go (dEs F .nil ρ α) P = P [] α := rfl
@[simp] theorem go_Econs (a : E) (r : Es) {P : List PV → AH → Prop} : Go (dEs F (.cons a r) ρ α) P = Go (dE F a ρ α) fun p α => Go (dEs F r ρ α) fun ps α => P (p :: ps) α := by
  show Go (Res.bind _ _) _ = _
  repeat (first | rfl | rw [go_bind] | rw [go_need, decide_eq_true_eq] | rw [go_need] | refine go_ext fun _ _ => ?_)
@[simp] theorem go_Pnil {P : List (PV × PV) → AH → Prop} : Go (dPs F .nil ρ α) P = P [] α := rfl
@[simp] theorem go_Pcons (k v : E) (r : Ps) {P : List (PV × PV) → AH → Prop} : Go (dPs F (.cons k v r) ρ α) P = Go (dE F k ρ α) fun p α => Go (dE F v ρ α) fun q α => Go (dPs F r ρ α) fun ps α => P ((p, q) :: ps) α := by
  show Go (Res.bind _ _) _ = _
  repeat (first | rfl | rw [go_bind] | rw [go_need, decide_eq_true_eq] | rw [go_need] | refine go_ext fun _ _ => ?_)
@[simp] theorem go_comp (t : T) (own : List Nat) (it : It) (c : OE) (e : E) : Go (dE F (.comp t own it c e) ρ α) Q = Go (dI F it ρ α) (fun s α =>
    Go (turns s.still (compStep (dT F t) (dC F c) (dE F e) (wipeP ρ own)) s.items (s.lock α)) fun ys α => lineOk ys.length = true ∧ Go (s.done (.fl ys) α) Q) := by
  show Go (Res.bind _ _) _ = _
  repeat (first | rfl | rw [go_bind] | rw [go_need, decide_eq_true_eq] | rw [go_need] | refine go_ext fun _ _ => ?_)
@[simp] theorem go_Ival (e : E) {P : Src → AH → Prop} : Go (dI F (.val e) ρ α) P = Go (dE F e ρ α) fun p α => Go (srcOf p α) P := by
  show Go (Res.bind _ _) _ = _
  repeat (first | rfl | rw [go_bind] | rw [go_need, decide_eq_true_eq] | rw [go_need] | refine go_ext fun _ _ => ?_)
@[simp] theorem go_Ir1 (e : E) {P : Src → AH → Prop} : Go (dI F (.range1 e) ρ α) P = Go (dE F e ρ α) fun p α => Go (srcRange (.int 0) p α) P := by
  show Go (Res.bind _ _) _ = _
  repeat (first | rfl | rw [go_bind] | rw [go_need, decide_eq_true_eq] | rw [go_need] | refine go_ext fun _ _ => ?_)
@[simp] theorem go_Ir2 (a b : E) {P : Src → AH → Prop} : Go (dI F (.range2 a b) ρ α) P = Go (dE F a ρ α) fun p α => Go (dE F b ρ α) fun q α => Go (srcRange p q α) P := by
  show Go (Res.bind _ _) _ = _
  repeat (first | rfl | rw [go_bind] | rw [go_need, decide_eq_true_eq] | rw [go_need] | refine go_ext fun _ _ => ?_)
@[simp] theorem go_Ivals (e : E) {P : Src → AH → Prop} : Go (dI F (.values e) ρ α) P = Go (dE F e ρ α) fun p α => Go (srcVals p α) P := by
  show Go (Res.bind _ _) _ = _
  repeat (first | rfl | rw [go_bind] | rw [go_need, decide_eq_true_eq] | rw [go_need] | refine go_ext fun _ _ => ?_)
@[simp] theorem go_Cnone {P : Bool → AH → Prop} : Go (dC F .none ρ α) P = P true α := rfl
@[simp] theorem go_Csome (a : E) {P : Bool → AH → Prop} : Go (dC F (.some a) ρ α) P = Go (dE F a ρ α) fun p α => Go (truth p α) P := by
  show Go (Res.bind _ _) _ = _
  repeat (first | rfl | rw [go_bind] | rw [go_need, decide_eq_true_eq] | rw [go_need] | refine go_ext fun _ _ => ?_)
/-! ints -/
theorem go_addI (i j : Int) : Go (bop .add (.int i) (.int j) α) Q = Q (.int (i + j)) α := rfl
theorem go_subI (i j : Int) : Go (bop .sub (.int i) (.int j) α) Q = Q (.int (i - j)) α := rfl
theorem go_mulI (i j : Int) : Go (bop .mul (.int i) (.int j) α) Q = (((-(2 ^ 64) < i ∧ i < 2 ^ 64) ∨ (-(2 ^ 64) < j ∧ j < 2 ^ 64)) ∧ Q (.int (i * j)) α) := by
  show Go (need _ _) _ = _
  rw [go_need, decide_eq_true_eq]; rfl
theorem go_modI (i j : Int) : Go (bop .mod (.int i) (.int j) α) Q = (0 < j ∧ Q (.int (i % j)) α) := by
  show Go (need _ _) _ = _
  rw [go_need, decide_eq_true_eq]; rfl
theorem go_fdivI (i j : Int) : Go (bop .fdiv (.int i) (.int j) α) Q = ((0 < j ∧ j < 1073741824) ∧ Q (.int (i / j)) α) := by
  show Go (need _ _) _ = _
  rw [go_need, decide_eq_true_eq]; rfl
theorem go_powI (i j : Int) : Go (bop .pow (.int i) (.int j) α) Q = ((0 ≤ j ∧ j ≤ 1000000 ∧ i.natAbs < 2 ^ 64) ∧ Q (.int (i ^ j.toNat)) α) := by
  show Go (need _ _) _ = _
  rw [go_need, decide_eq_true_eq]; rfl
theorem go_geI (i j : Int) : Go (cop .ge (.int i) (.int j) α) Q = Q (.bl (decide (j ≤ i))) α := rfl
theorem go_ltI (i j : Int) : Go (cop .lt (.int i) (.int j) α) Q = Q (.bl (decide (i < j))) α := rfl
theorem go_gtI (i j : Int) : Go (cop .gt (.int i) (.int j) α) Q = Q (.bl (decide (j < i))) α := rfl
theorem go_leI (i j : Int) : Go (cop .le (.int i) (.int j) α) Q = Q (.bl (decide (i ≤ j))) α := rfl
/-! targets -/
@[simp] theorem go_Tvar (i : Nat) (x : PV) {P : Loc' → AH → Prop} : Go (dT F (.var i) x ρ α) P = P (ρ.set i (some x)) α := rfl
@[simp] theorem go_Ttup (ts : Ts) (xs : List PV) {P : Loc' → AH → Prop} : Go (dT F (.tup ts) (.tup xs) ρ α) P = Go (dTs F ts xs ρ α) P := rfl
@[simp] theorem go_Tsub (o i : E) (x : PV) {P : Loc' → AH → Prop} : Go (dT F (.sub o i) x ρ α) P = Go (dE F o ρ α) fun p α => Go (dE F i ρ α) fun q α => Go (setP p q x α) fun _ α => P ρ α := by
  show Go (Res.bind _ _) _ = _
  repeat (first | rfl | rw [go_bind] | rw [go_need, decide_eq_true_eq] | rw [go_need] | refine go_ext fun _ _ => ?_)
@[simp] theorem go_Tnil {P : Loc' → AH → Prop} : Go (dTs F .nil [] ρ α) P = P ρ α := rfl
@[simp] theorem go_Tcons (t : T) (ts : Ts) (x : PV) (xs : List PV) {P : Loc' → AH → Prop} : Go (dTs F (.cons t ts) (x :: xs) ρ α) P = Go (dT F t x ρ α) fun ρ α => Go (dTs F ts xs ρ α) P := by
  show Go (Res.bind _ _) _ = _
  repeat (first | rfl | rw [go_bind] | rw [go_need, decide_eq_true_eq] | rw [go_need] | refine go_ext fun _ _ => ?_)
/-! statements -/
variable {R : Fl → AH → Prop}
@[simp] theorem go_Snil : Go (dSs F .nil ρ α) R = R (.nx ρ) α := rfl
@[simp] theorem go_Scons (s : S) (ss : Ss) : Go (dSs F (.cons s ss) ρ α) R = Go (dS F s ρ α) (fun f α => match f with
    | .nx ρ => Go (dSs F ss ρ α) R
    | f => R f α) := by
  show Go (Res.bind _ _) _ = _
  rw [go_bind]
  exact go_ext fun f α => by cases f <;> rfl
@[simp] theorem go_Sexpr (e : E) : Go (dS F (.expr e) ρ α) R = Go (dE F e ρ α) fun _ α => R (.nx ρ) α := by
  show Go (Res.bind _ _) _ = _
  repeat (first | rfl | rw [go_bind] | rw [go_need, decide_eq_true_eq] | rw [go_need] | refine go_ext fun _ _ => ?_)
@[simp] theorem go_Sasg (t : T) (e : E) : Go (dS F (.asg t e) ρ α) R = Go (dE F e ρ α) fun p α => Go (dT F t p ρ α) fun ρ α => R (.nx ρ) α := by
  show Go (Res.bind _ _) _ = _
  repeat (first | rfl | rw [go_bind] | rw [go_need, decide_eq_true_eq] | rw [go_need] | refine go_ext fun _ _ => ?_)
@[simp] theorem go_Spar (is : List Nat) (es : Es) : Go (dS F (.par is es) ρ α) R = Go (dEs F es ρ α) fun ps α => ps.length = is.length ∧ R (.nx (setAll is ps ρ)) α := by
  show Go (Res.bind _ _) _ = _
  repeat (first | rfl | rw [go_bind] | rw [go_need, decide_eq_true_eq] | rw [go_need] | refine go_ext fun _ _ => ?_)
@[simp] theorem go_Sret (e : E) : Go (dS F (.ret e) ρ α) R = Go (dE F e ρ α) fun p α => R (.rt p) α := by
  show Go (Res.bind _ _) _ = _
  repeat (first | rfl | rw [go_bind] | rw [go_need, decide_eq_true_eq] | rw [go_need] | refine go_ext fun _ _ => ?_)
@[simp] theorem go_Sif (c : E) (a b : Ss) : Go (dS F (.ife c a b) ρ α) R = Go (dE F c ρ α) fun p α => Go (truth p α) fun t α => Go (match t with
    | true => dSs F a ρ α
    | false => dSs F b ρ α) R := by
  show Go (Res.bind _ _) _ = _
  repeat (first | rfl | rw [go_bind] | rw [go_need, decide_eq_true_eq] | rw [go_need] | refine go_ext fun _ _ => ?_)
@[simp] theorem go_Sloop (t : T) (it : It) (b : Ss) : Go (dS F (.loop t it b) ρ α) R = Go (dI F it ρ α) fun s α => Go (turnsF s.still (fun x ρ α => (dT F t x ρ α).bind fun ρ α => dSs F b ρ α) s.items ρ (s.lock α)) fun f α => Go (s.done f α) R := by
  show Go (Res.bind _ _) _ = _
  repeat (first | rfl | rw [go_bind] | rw [go_need, decide_eq_true_eq] | rw [go_need] | refine go_ext fun _ _ => ?_)
theorem go_run {fs : List FD} {d j : Nat} {fd : FD} {ps : List PV} (h : fs[j]? = some fd) : Go (callD fs (d + 1) j ps α) Q = (ps.length = fd.np ∧ Go (dSs (callD fs d) fd.body (startP fd.N.length ps) α) (fun r α => match r with
    | .rt p => Q p α
    | .nx _ => Q .non α
    | _ => False)) := by
  have e : callD fs (d + 1) j ps α = runFn (callD fs d) fd ps α := by
    show (match fs[j]? with
      | some f => runFn (callD fs d) f ps α
      | none => .bad) = _
    rw [h]
  rw [e]
  unfold runFn
  rw [go_need, go_bind, decide_eq_true_eq]
  exact congrArg _ (go_ext fun r α => by cases r <;> rfl)
/-! loops -/
theorem turnsF_inv {still : AH → Bool} {step : PV → Loc' → AH → SRes} {I : List PV → Loc' → AH → Prop}
    (hs : ∀ x r ρ α, I (x :: r) ρ α → still α = true ∧ Go (step x ρ α) (fun f α' => match f with
      | .nx ρ' => I r ρ' α'
      | .ct ρ' => I r ρ' α'
      | .bk ρ' => R (.nx ρ') α'
      | .rt p => R (.rt p) α'))
    (he : ∀ ρ α, I [] ρ α → still α = true ∧ R (.nx ρ) α) : ∀ xs ρ α, I xs ρ α → Go (turnsF still step xs ρ α) R := by
  intro xs
  induction xs with
  | nil =>
    intro ρ α h
    obtain ⟨h1, h2⟩ := he ρ α h
    show Go (need _ _) _
    rw [go_need]
    exact ⟨h1, h2⟩
  | cons x r ih =>
    intro ρ α h
    obtain ⟨h1, h2⟩ := hs x r ρ α h
    rw [turnsF_cons, go_need, go_bind]
    refine ⟨h1, h2.imp fun f α' h => ?_⟩
    cases f with
    | nx ρ' => exact ih ρ' α' h
    | ct ρ' => exact ih ρ' α' h
    | bk ρ' => exact h
    | rt p => exact h
theorem turns_inv {still : AH → Bool} {step : PV → AH → Res (Option PV)} {P : List PV → AH → Prop} {I : List PV → List PV → AH → Prop}
    (hs : ∀ x r ys α, I (x :: r) ys α → still α = true ∧ Go (step x α) (fun o α' => I r (ys ++ consO o []) α'))
    (he : ∀ ys α, I [] ys α → still α = true ∧ P ys α) : ∀ xs ys α, I xs ys α → Go (turns still step xs α) (fun zs α => P (ys ++ zs) α) := by
  intro xs
  induction xs with
  | nil =>
    intro ys α h
    obtain ⟨h1, h2⟩ := he ys α h
    show Go (need _ _) _
    rw [go_need, go_ok, List.append_nil]
    exact ⟨h1, h2⟩
  | cons x r ih =>
    intro ys α h
    obtain ⟨h1, h2⟩ := hs x r ys α h
    rw [turns_cons, go_need, go_bind]
    refine ⟨h1, h2.imp fun o α' h => ?_⟩
    rw [go_bind]
    refine (ih _ α' h).imp fun zs α2 q => ?_
    rw [go_ok]
    cases o with
    | none => simpa [consO] using q
    | some y => simpa [consO, List.append_assoc] using q
/-- a comprehension that changes nothing -/
theorem turns_pure {still : AH → Bool} {step : PV → AH → Res (Option PV)} {g : PV → Option PV} {α : AH} (hst : still α = true) : ∀ xs, (∀ x ∈ xs, step x α = .ok (g x) α) → turns still step xs α = .ok (xs.filterMap g) α
  | [], _ => by
    show need _ _ = _
    rw [hst]; rfl
  | x :: r, h => by
    rw [turns_cons, hst, h x List.mem_cons_self, need_true, Res.ok_bind, turns_pure hst r (fun y hy => h y (List.mem_cons_of_mem _ hy)), Res.ok_bind]
    cases hg : g x with
    | none => rw [List.filterMap_cons_none hg]; rfl
    | some y => rw [List.filterMap_cons_some hg]; rfl
theorem whl_inv {c : Loc' → AH → Res Bool} {b : Loc' → AH → SRes} {I : Nat → Loc' → AH → Prop}
    (h : ∀ n ρ α, I n ρ α → Go (c ρ α) fun t α1 => match t with
      | false => R (.nx ρ) α1
      | true => Go (b ρ α1) fun f α2 => match f with
        | .nx ρ1 => ∃ n', n' < n ∧ I n' ρ1 α2
        | .ct ρ1 => ∃ n', n' < n ∧ I n' ρ1 α2
        | .bk ρ1 => R (.nx ρ1) α2
        | .rt p => R (.rt p) α2) : ∀ n ρ α, I n ρ α → Go (whileM c b ρ α) R := by
  have fuel : ∀ n ρ α, I n ρ α → ∃ k f α', turnsW c b k ρ α = .ok f α' ∧ R f α' := by
    intro n
    induction n using Nat.strongRecOn with
    | ind n ih =>
      intro ρ α hI
      obtain ⟨t, α1, e1, q⟩ := (h n ρ α hI).ex
      cases t with
      | false => exact ⟨1, .nx ρ, α1, by simp [turnsW, e1], q⟩
      | true =>
        obtain ⟨f, α2, e2, q⟩ := Go.ex q
        cases f with
        | nx ρ1 =>
          obtain ⟨n', hn, hI'⟩ := q
          obtain ⟨k, f, α', e3, hR⟩ := ih n' hn ρ1 α2 hI'
          exact ⟨k + 1, f, α', by simp [turnsW, e1, e2, e3], hR⟩
        | ct ρ1 =>
          obtain ⟨n', hn, hI'⟩ := q
          obtain ⟨k, f, α', e3, hR⟩ := ih n' hn ρ1 α2 hI'
          exact ⟨k + 1, f, α', by simp [turnsW, e1, e2, e3], hR⟩
        | bk ρ1 => exact ⟨1, .nx ρ1, α2, by simp [turnsW, e1, e2], q⟩
        | rt p => exact ⟨1, .rt p, α2, by simp [turnsW, e1, e2], q⟩
  -- any two numbers of turns that are enough tell the same
  have det : ∀ k ρ α f α', turnsW c b k ρ α = .ok f α' → ∀ k' f' α'', turnsW c b k' ρ α = .ok f' α'' → f = f' ∧ α' = α'' := by
    intro k
    induction k with
    | zero => intro ρ α f α' e; cases e
    | succ k ih =>
      intro ρ α f α' e k' f' α'' e'
      cases k' with
      | zero => cases e'
      | succ k' =>
        unfold turnsW at e e'
        cases hc : c ρ α with
        | err x y z => rw [hc] at e; cases e
        | bad => rw [hc] at e; cases e
        | ok t α1 =>
          rw [hc] at e e'
          simp only [Res.ok_bind] at e e'
          cases t with
          | false => cases e; cases e'; exact ⟨rfl, rfl⟩
          | true =>
            simp only at e e'
            cases hb : b ρ α1 with
            | err x y z => rw [hb] at e; cases e
            | bad => rw [hb] at e; cases e
            | ok g α2 =>
              rw [hb] at e e'
              simp only [Res.ok_bind] at e e'
              cases g with
              | nx ρ1 => exact ih ρ1 α2 f α' e k' f' α'' e'
              | ct ρ1 => exact ih ρ1 α2 f α' e k' f' α'' e'
              | bk ρ1 => cases e; cases e'; exact ⟨rfl, rfl⟩
              | rt p => cases e; cases e'; exact ⟨rfl, rfl⟩
  intro n ρ α hI
  obtain ⟨k, f, α', e, hR⟩ := fuel n ρ α hI
  unfold whileM
  have hx : ∃ n f α', turnsW c b n ρ α = .ok f α' := ⟨k, f, α', e⟩
  rw [dif_pos hx]
  obtain ⟨f', α'', e'⟩ := Classical.choose_spec hx
  rw [e']
  obtain ⟨rfl, rfl⟩ := det k ρ α f α' e _ f' α'' e'
  exact hR
end
end Mw
end
section
set_option Elab.async false
set_option linter.all false
set_option maxRecDepth 100000
set_option maxHeartbeats 4000000
namespace K59
open PySem PySem.Spec PyProof.Rows L2 Mw
def topS (i : Nat) : Stmt := PySem.Challenge.pw_mustwait_k59_modes.main.body.getD i (.Pass ⟨0, 0, 0, 0⟩)
def b_modes : Ss := (.cons (.asg (.var 2) (.join (.dct .nil)))
  (.cons (.loop (.var 3) (.val (.b1 .sorted (.var 1))) (.cons (.asg (.var 4) (.b1 .tuple (.comp (.var 6) [6] (.val (.var 1)) .none (.cmp .isin (.tup (.cons (.var 3) (.cons (.var 6) .nil))) (.var 0)))))
  (.cons (.asg (.var 5) (.b1 .tuple (.comp (.var 6) [6] (.val (.var 1)) .none (.cmp .isin (.tup (.cons (.var 6) (.cons (.var 3) .nil))) (.var 0)))))
  (.cons (.expr (.mth .append (.mth .setdefault (.var 2) (.cons (.tup (.cons (.var 4) (.cons (.var 5) .nil))) (.cons (.join (.lst .nil)) .nil))) (.cons (.var 3) .nil)))
  .nil))))
  (.cons (.ret (.b1 .tuple (.b1 .sorted (.comp (.var 7) [7] (.values (.var 2)) .none (.b1 .tuple (.var 7))))))
  .nil)))
def f_modes : FD := ⟨"modes", "modes", ["table", "events", "found", "event", "row", "column", "other", "some"], 2, b_modes⟩
def b_law_deck : Ss := (.cons (.par [2, 3] (.cons (.b1 .list (.sl (.var 0) .none (.some (.int 63)))) (.cons (.int 82059) .nil)))
  (.cons (.loop (.var 1) (.val (.var 2)) (.cons (.asg (.var 3) (.bin .mod (.bin .add (.bin .add (.bin .mul (.var 3) (.int 48271)) (.bin .mod (.var 1) (.int 2147483629))) (.int 79)) (.int 2147483587)))
  .nil))
  (.cons (.ret (.join (.dct (.cons (.str "cells") (.join (.rev (.var 2))) (.cons (.str "total") (.var 3) (.cons (.str "draws") (.int 0) .nil))))))
  .nil)))
def f_law_deck : FD := ⟨"_law_deck", "_law_deck", ["_law_script", "_law_chunk", "_law_cells", "_law_total"], 1, b_law_deck⟩
def b_law_draw : Ss := (.cons (.par [3, 4] (.cons (.bin .add (.ix (.var 0) (.str "draws")) (.int 1)) (.cons (.ix (.var 0) (.str "total")) .nil)))
  (.cons (.asg (.sub (.var 0) (.str "draws")) (.var 3))
  (.cons (.ife (.cmp .ne (.ix (.var 0) (.str "cells")) (.lst .nil)) (.cons (.asg (.var 4) (.mth .pop (.ix (.var 0) (.str "cells")) .nil))
  (.cons (.ife (.cmp .ge (.var 4) (.bin .pow (.int 10) (.int 18))) (.cons (.expr (.mth .append (.ix (.var 0) (.str "cells")) (.cons (.bin .fdiv (.var 4) (.var 1)) .nil)))
  (.cons (.ret (.bin .mod (.var 4) (.var 1)))
  .nil)) .nil)
  (.cons (.asg (.var 4) (.bin .add (.var 4) (.ix (.var 0) (.str "total"))))
  .nil))) .nil)
  (.cons (.asg (.var 2) (.bin .mod (.bin .mul (.bin .add (.bin .add (.bin .mod (.var 4) (.int 2147483629)) (.bin .mul (.bin .mul (.int 61379) (.var 3)) (.var 3))) (.int 83)) (.int 40692)) (.int 2147483647)))
  (.cons (.asg (.var 2) (.bin .mod (.bin .add (.bin .add (.bin .mul (.var 2) (.var 2)) (.bin .mul (.int 69941) (.var 3))) (.int 41)) (.int 2147483587)))
  (.cons (.ret (.bin .mod (.bin .fdiv (.bin .mod (.bin .mul (.var 2) (.int 39373)) (.int 2147483563)) (.int 64)) (.var 1)))
  .nil))))))
def f_law_draw : FD := ⟨"_law_draw", "_law_draw", ["_law_deck_here", "_law_many", "_law_mixed", "_law_turn", "_law_chunk"], 2, b_law_draw⟩
def b_law_pick : Ss := (.cons (.ret (.ix (.var 1) (.call 2 (.cons (.var 0) (.cons (.b1 .len (.var 1)) .nil)))))
  .nil)
def f_law_pick : FD := ⟨"_law_pick", "_law_pick", ["_law_deck_here", "_law_some"], 2, b_law_pick⟩
def b_law_menu : Ss := (.cons (.asg (.var 1) (.lst (.cons (.tup (.cons (.str "add") (.cons (.str "ok") .nil))) (.cons (.tup (.cons (.str "add") (.cons (.str "ok1") .nil))) (.cons (.tup (.cons (.str "get") (.cons (.str "a") .nil))) (.cons (.tup (.cons (.str "get") (.cons (.str "b") .nil))) (.cons (.tup (.cons (.str "put1") (.cons (.str "full") .nil))) (.cons (.tup (.cons (.str "put1") (.cons (.str "ok") .nil))) .nil))))))))
  (.cons (.asg (.var 1) (.bin .add (.var 1) (.lst (.cons (.tup (.cons (.str "put10") (.cons (.str "ok") .nil))) (.cons (.tup (.cons (.str "read") (.cons (.str "0") .nil))) .nil)))))
  (.cons (.ret (.comp (.var 2) [2] (.val (.var 1)) (.some (.cmp .gt (.call 2 (.cons (.var 0) (.cons (.int 4) .nil))) (.int 0))) (.var 2)))
  .nil)))
def f_law_menu : FD := ⟨"_law_menu", "_law_menu", ["_law_deck_here", "_law_some", "_law_one"], 1, b_law_menu⟩
def b_law_drawn : Ss := (.cons (.par [5, 6, 7] (.cons (.bin .add (.int 1) (.call 2 (.cons (.var 0) (.cons (.int 4) .nil)))) (.cons (.join (.dct .nil)) (.cons (.join (.lst .nil)) .nil))))
  (.cons (.loop (.var 2) (.val (.var 1)) (.cons (.asg (.sub (.var 6) (.var 2)) (.call 3 (.cons (.var 0) (.cons (.lst (.cons (.var 2) (.cons (.var 2) (.cons (.ix (.var 1) (.int 0)) .nil)))) .nil))))
  .nil))
  (.cons (.asg (.var 3) (.join (.dct .nil)))
  (.cons (.loop (.var 4) (.val (.var 1)) (.cons (.loop (.var 8) (.val (.var 1)) (.cons (.asg (.sub (.var 3) (.tup (.cons (.var 4) (.cons (.var 8) .nil)))) (.cmp .lt (.call 2 (.cons (.var 0) (.cons (.int 5) .nil))) (.var 5)))
  .nil))
  .nil))
  (.cons (.loop (.var 4) (.val (.var 1)) (.cons (.loop (.var 8) (.val (.var 1)) (.cons (.ife (.ix (.var 3) (.tup (.cons (.ix (.var 6) (.var 4)) (.cons (.ix (.var 6) (.var 8)) .nil)))) (.cons (.expr (.mth .append (.var 7) (.cons (.tup (.cons (.var 4) (.cons (.var 8) .nil))) .nil)))
  .nil) .nil)
  .nil))
  .nil))
  (.cons (.ret (.b1 .tuple (.var 7)))
  .nil))))))
def f_law_drawn : FD := ⟨"_law_drawn", "_law_drawn", ["_law_deck_here", "_law_menu_here", "_law_one", "_law_barred", "_law_first", "_law_share", "_law_twin", "_law_found", "_law_second"], 2, b_law_drawn⟩
def b_law_turned : Ss := (.cons (.par [4, 5] (.cons (.join (.b1 .list (.var 1))) (.cons (.join (.lst .nil)) .nil)))
  (.cons (.loop (.var 3) (.range1 (.b2 .min (.var 2) (.b1 .len (.var 4)))) (.cons (.expr (.mth .append (.var 5) (.cons (.mth .pop (.var 4) (.cons (.call 2 (.cons (.var 0) (.cons (.b1 .len (.var 4)) .nil))) .nil)) .nil)))
  .nil))
  (.cons (.ret (.var 5))
  .nil)))
def f_law_turned : FD := ⟨"_law_turned", "_law_turned", ["_law_deck_here", "_law_some", "_law_many", "_law_k", "_law_left", "_law_found"], 3, b_law_turned⟩
def b_law_are_alike : Ss := (.cons (.asg (.var 4) (.comp (.var 5) [5] (.val (.var 1)) (.some (.cmp .ne (.cmp .isin (.tup (.cons (.var 2) (.cons (.var 5) .nil))) (.var 0)) (.cmp .isin (.tup (.cons (.var 3) (.cons (.var 5) .nil))) (.var 0)))) (.var 5)))
  (.cons (.ret (.cmp .eq (.bin .add (.var 4) (.comp (.var 5) [5] (.val (.var 1)) (.some (.cmp .ne (.cmp .isin (.tup (.cons (.var 5) (.cons (.var 2) .nil))) (.var 0)) (.cmp .isin (.tup (.cons (.var 5) (.cons (.var 3) .nil))) (.var 0)))) (.var 5))) (.lst .nil)))
  .nil))
def f_law_are_alike : FD := ⟨"_law_are_alike", "_law_are_alike", ["_law_drawn_here", "_law_some", "_law_one", "_law_other", "_law_rows", "_law_x"], 4, b_law_are_alike⟩
def b_law_due : Ss := (.cons (.asg (.tup (.cons (.var 2) (.cons (.var 3) .nil))) (.tup (.cons (.join (.lst .nil)) (.cons (.b1 .sorted (.var 1)) .nil))))
  (.cons (.whl (.cmp .ne (.var 3) (.lst .nil)) (.cons (.asg (.var 4) (.comp (.var 5) [5] (.val (.var 3)) (.some (.call 7 (.cons (.var 0) (.cons (.var 1) (.cons (.ix (.var 3) (.int 0)) (.cons (.var 5) .nil)))))) (.var 5)))
  (.cons (.expr (.mth .append (.var 2) (.cons (.b1 .tuple (.var 4)) .nil)))
  (.cons (.asg (.var 3) (.comp (.var 5) [5] (.val (.var 3)) (.some (.cmp .notin (.var 5) (.var 4))) (.var 5)))
  .nil))))
  (.cons (.ret (.b1 .tuple (.var 2)))
  .nil)))
def f_law_due : FD := ⟨"_law_due", "_law_due", ["_law_drawn_here", "_law_some", "_law_found", "_law_left", "_law_mine", "_law_one"], 2, b_law_due⟩
def b_law : Ss := (.cons (.asg (.var 1) (.call 1 (.cons (.var 0) .nil)))
  (.cons (.loop (.var 2) (.range1 (.int 8)) (.cons (.asg (.var 3) (.call 4 (.cons (.var 1) .nil)))
  (.cons (.asg (.var 4) (.lst (.cons (.call 5 (.cons (.var 1) (.cons (.var 3) .nil))) (.cons (.tup .nil) .nil))))
  (.cons (.asg (.var 5) (.lst .nil))
  (.cons (.loop (.var 6) (.val (.var 3)) (.cons (.asg (.var 5) (.bin .add (.var 5) (.comp (.var 11) [11] (.val (.var 3)) .none (.tup (.cons (.var 6) (.cons (.var 11) .nil))))))
  .nil))
  (.cons (.loop (.var 7) (.val (.bin .add (.var 4) (.lst (.cons (.b1 .tuple (.var 5)) .nil)))) (.cons (.asg (.var 8) (.call 6 (.cons (.var 1) (.cons (.var 3) (.cons (.call 2 (.cons (.var 1) (.cons (.int 9) .nil))) .nil)))))
  (.cons (.asg (.var 9) (.call 8 (.cons (.var 7) (.cons (.var 8) .nil))))
  (.cons (.asg (.var 10) (.lst (.cons (.call 0 (.cons (.var 7) (.cons (.b1 .tuple (.var 8)) .nil))) (.cons (.callK 0 0 ["events", "table"] [1, 0] .nil (.cons (.b1 .tuple (.rev (.var 8))) (.cons (.var 7) .nil))) (.cons (.call 0 (.cons (.var 7) (.cons (.b1 .tuple (.var 8)) .nil))) .nil)))))
  (.cons (.ife (.cmp .ne (.b1 .repr (.var 10)) (.b1 .repr (.bin .mul (.lst (.cons (.var 9) .nil)) (.int 3)))) (.cons (.ret (.bl false))
  .nil) .nil)
  .nil)))))
  .nil))))))
  (.cons (.ret (.bl true))
  .nil)))
def f_law : FD := ⟨"law", "law", ["_law_script", "_law_deck_here", "_law_turn", "_law_menu_here", "_law_tables", "_law_every", "_law_one", "_law_drawn_here", "_law_some", "_law_due_here", "_law_told", "_law_other"], 1, b_law⟩
def fs : List FD := [f_modes, f_law_deck, f_law_draw, f_law_pick, f_law_menu, f_law_drawn, f_law_turned, f_law_are_alike, f_law_due, f_law]
def tab : Tab := ⟨fs, [(0, 0, ["events", "table"], [1, 0])]⟩
theorem ok_modes : DefOk tab f_modes (topS 1) := ⟨⟨rfl, rfl, rfl, by decide +kernel, rfl, by decide +kernel, by decide +kernel⟩, by decide, by decide +kernel⟩
theorem ok_law_deck : DefOk tab f_law_deck (topS 3) := ⟨⟨rfl, rfl, rfl, by decide +kernel, rfl, by decide +kernel, by decide +kernel⟩, by decide, by decide +kernel⟩
theorem ok_law_draw : DefOk tab f_law_draw (topS 4) := ⟨⟨rfl, rfl, rfl, by decide +kernel, rfl, by decide +kernel, by decide +kernel⟩, by decide, by decide +kernel⟩
theorem ok_law_pick : DefOk tab f_law_pick (topS 5) := ⟨⟨rfl, rfl, rfl, by decide +kernel, rfl, by decide +kernel, by decide +kernel⟩, by decide, by decide +kernel⟩
theorem ok_law_menu : DefOk tab f_law_menu (topS 6) := ⟨⟨rfl, rfl, rfl, by decide +kernel, rfl, by decide +kernel, by decide +kernel⟩, by decide, by decide +kernel⟩
theorem ok_law_drawn : DefOk tab f_law_drawn (topS 7) := ⟨⟨rfl, rfl, rfl, by decide +kernel, rfl, by decide +kernel, by decide +kernel⟩, by decide, by decide +kernel⟩
theorem ok_law_turned : DefOk tab f_law_turned (topS 8) := ⟨⟨rfl, rfl, rfl, by decide +kernel, rfl, by decide +kernel, by decide +kernel⟩, by decide, by decide +kernel⟩
theorem ok_law_are_alike : DefOk tab f_law_are_alike (topS 9) := ⟨⟨rfl, rfl, rfl, by decide +kernel, rfl, by decide +kernel, by decide +kernel⟩, by decide, by decide +kernel⟩
theorem ok_law_due : DefOk tab f_law_due (topS 10) := ⟨⟨rfl, rfl, rfl, by decide +kernel, rfl, by decide +kernel, by decide +kernel⟩, by decide, by decide +kernel⟩
theorem ok_law : DefOk tab f_law (topS 11) := ⟨⟨rfl, rfl, rfl, by decide +kernel, rfl, by decide +kernel, by decide +kernel⟩, by decide, by decide +kernel⟩
open PySem.W in
theorem all_mk {l : OpenLaw} {w : World} {K : Frag} {h : Heap} {mg : Str → Option Value} {fa : Addr} (kin : K.In h) (gns : h.Ns mainGlobals mg) (hfa : mg "law" = some (.ref fa))
    {f0 f1 f2 f3 f4 f5 f6 f7 f8 f9 : Addr} {od0 an0 od1 an1 od2 an2 od3 an3 od4 an4 od5 an5 od6 an6 od7 an7 od8 an8 od9 an9 : Option Addr} {sl0 sl1 sl2 sl3 sl4 sl5 sl6 sl7 sl8 sl9 : Array (Option Value)}
    {oc0 kV0 dc0 pm0 cd0 ct0 oc1 kV1 dc1 pm1 cd1 ct1 oc2 kV2 dc2 pm2 cd2 ct2 oc3 kV3 dc3 pm3 cd3 ct3 oc4 kV4 dc4 pm4 cd4 ct4 oc5 kV5 dc5 pm5 cd5 ct5 oc6 kV6 dc6 pm6 cd6 ct6 oc7 kV7 dc7 pm7 cd7 ct7 oc8 kV8 dc8 pm8 cd8 ct8 oc9 kV9 dc9 pm9 cd9 ct9 : Value}
    (a0 : nsIn K mainGlobals "modes" = some (some (.ref f0))) (l0 : K.lookup f0 = some ⟨oc0, od0, .func (fnOf "modes" "modes" (defArgs (topS 1)) (defBody (topS 1)) (defScope (topS 1)) .none kV0 dc0 pm0 an0 cd0 ct0), sl0⟩) (c0 : codeIn K cd0 "modes" = true) (k0 : keepIn K (.ref f0) = true)
    (a1 : nsIn K mainGlobals "_law_deck" = some (some (.ref f1))) (l1 : K.lookup f1 = some ⟨oc1, od1, .func (fnOf "_law_deck" "_law_deck" (defArgs (topS 3)) (defBody (topS 3)) (defScope (topS 3)) .none kV1 dc1 pm1 an1 cd1 ct1), sl1⟩) (c1 : codeIn K cd1 "_law_deck" = true) (k1 : keepIn K (.ref f1) = true)
    (a2 : nsIn K mainGlobals "_law_draw" = some (some (.ref f2))) (l2 : K.lookup f2 = some ⟨oc2, od2, .func (fnOf "_law_draw" "_law_draw" (defArgs (topS 4)) (defBody (topS 4)) (defScope (topS 4)) .none kV2 dc2 pm2 an2 cd2 ct2), sl2⟩) (c2 : codeIn K cd2 "_law_draw" = true) (k2 : keepIn K (.ref f2) = true)
    (a3 : nsIn K mainGlobals "_law_pick" = some (some (.ref f3))) (l3 : K.lookup f3 = some ⟨oc3, od3, .func (fnOf "_law_pick" "_law_pick" (defArgs (topS 5)) (defBody (topS 5)) (defScope (topS 5)) .none kV3 dc3 pm3 an3 cd3 ct3), sl3⟩) (c3 : codeIn K cd3 "_law_pick" = true) (k3 : keepIn K (.ref f3) = true)
    (a4 : nsIn K mainGlobals "_law_menu" = some (some (.ref f4))) (l4 : K.lookup f4 = some ⟨oc4, od4, .func (fnOf "_law_menu" "_law_menu" (defArgs (topS 6)) (defBody (topS 6)) (defScope (topS 6)) .none kV4 dc4 pm4 an4 cd4 ct4), sl4⟩) (c4 : codeIn K cd4 "_law_menu" = true) (k4 : keepIn K (.ref f4) = true)
    (a5 : nsIn K mainGlobals "_law_drawn" = some (some (.ref f5))) (l5 : K.lookup f5 = some ⟨oc5, od5, .func (fnOf "_law_drawn" "_law_drawn" (defArgs (topS 7)) (defBody (topS 7)) (defScope (topS 7)) .none kV5 dc5 pm5 an5 cd5 ct5), sl5⟩) (c5 : codeIn K cd5 "_law_drawn" = true) (k5 : keepIn K (.ref f5) = true)
    (a6 : nsIn K mainGlobals "_law_turned" = some (some (.ref f6))) (l6 : K.lookup f6 = some ⟨oc6, od6, .func (fnOf "_law_turned" "_law_turned" (defArgs (topS 8)) (defBody (topS 8)) (defScope (topS 8)) .none kV6 dc6 pm6 an6 cd6 ct6), sl6⟩) (c6 : codeIn K cd6 "_law_turned" = true) (k6 : keepIn K (.ref f6) = true)
    (a7 : nsIn K mainGlobals "_law_are_alike" = some (some (.ref f7))) (l7 : K.lookup f7 = some ⟨oc7, od7, .func (fnOf "_law_are_alike" "_law_are_alike" (defArgs (topS 9)) (defBody (topS 9)) (defScope (topS 9)) .none kV7 dc7 pm7 an7 cd7 ct7), sl7⟩) (c7 : codeIn K cd7 "_law_are_alike" = true) (k7 : keepIn K (.ref f7) = true)
    (a8 : nsIn K mainGlobals "_law_due" = some (some (.ref f8))) (l8 : K.lookup f8 = some ⟨oc8, od8, .func (fnOf "_law_due" "_law_due" (defArgs (topS 10)) (defBody (topS 10)) (defScope (topS 10)) .none kV8 dc8 pm8 an8 cd8 ct8), sl8⟩) (c8 : codeIn K cd8 "_law_due" = true) (k8 : keepIn K (.ref f8) = true)
    (a9 : nsIn K mainGlobals "law" = some (some (.ref f9))) (l9 : K.lookup f9 = some ⟨oc9, od9, .func (fnOf "law" "law" (defArgs (topS 11)) (defBody (topS 11)) (defScope (topS 11)) .none kV9 dc9 pm9 an9 cd9 ct9), sl9⟩) (c9 : codeIn K cd9 "law" = true) (k9 : keepIn K (.ref f9) = true)
    (z0 : nsIn K mainGlobals "len" = some none) (z1 : nsIn K mainGlobals "list" = some none) (z2 : nsIn K mainGlobals "tuple" = some none) (z3 : nsIn K mainGlobals "sorted" = some none) (z4 : nsIn K mainGlobals "all" = some none) (z5 : nsIn K mainGlobals "any" = some none) (z6 : nsIn K mainGlobals "repr" = some none) (z7 : nsIn K mainGlobals "str" = some none) (z8 : nsIn K mainGlobals "min" = some none) (z9 : nsIn K mainGlobals "max" = some none) (z10 : nsIn K mainGlobals "range" = some none) (dep : Nat) :
    ∃ fd : FuncData, (∀ (s : Shared) (v : Value), BindsTo s fd ⟨[v], []⟩ [("_law_script", v)]) ∧ ∀ base : Heap, K.In base → base.Ns mainGlobals mg → FnG l.prog w K mg base dep fa fd ["_law_script"] (spD ⟨l.prog, w, K, fun _ => 0⟩ 1 (callD fs dep 9)) := by
  have F0 := fun_mk (st := topS 1) l0 c0 k0
  have b0 := F0.binds (ps := ["table", "events"]) fun _ _ _ _ _ _ us hl => match us, hl with | [_, _], _ => rfl
  have D0 : DefAt K mg tab 0 f_modes (topS 1) f0 _ := ⟨F0, mg_of kin gns a0, b0, fun n ks perm hm s us ws h1 h2 => by
    simp only [tab, List.mem_singleton, Prod.mk.injEq, true_and] at hm
    obtain ⟨rfl, rfl, rfl⟩ := hm
    exact match us, ws, h1, h2 with | [], [_, _], _, _ => .of_eq rfl⟩
  have F1 := fun_mk (st := topS 3) l1 c1 k1
  have b1 := F1.binds (ps := ["_law_script"]) fun _ _ _ _ _ _ us hl => match us, hl with | [_], _ => rfl
  have D1 : DefAt K mg tab 1 f_law_deck (topS 3) f1 _ := ⟨F1, mg_of kin gns a1, b1, fun n ks perm hm => by simp [tab] at hm⟩
  have F2 := fun_mk (st := topS 4) l2 c2 k2
  have b2 := F2.binds (ps := ["_law_deck_here", "_law_many"]) fun _ _ _ _ _ _ us hl => match us, hl with | [_, _], _ => rfl
  have D2 : DefAt K mg tab 2 f_law_draw (topS 4) f2 _ := ⟨F2, mg_of kin gns a2, b2, fun n ks perm hm => by simp [tab] at hm⟩
  have F3 := fun_mk (st := topS 5) l3 c3 k3
  have b3 := F3.binds (ps := ["_law_deck_here", "_law_some"]) fun _ _ _ _ _ _ us hl => match us, hl with | [_, _], _ => rfl
  have D3 : DefAt K mg tab 3 f_law_pick (topS 5) f3 _ := ⟨F3, mg_of kin gns a3, b3, fun n ks perm hm => by simp [tab] at hm⟩
  have F4 := fun_mk (st := topS 6) l4 c4 k4
  have b4 := F4.binds (ps := ["_law_deck_here"]) fun _ _ _ _ _ _ us hl => match us, hl with | [_], _ => rfl
  have D4 : DefAt K mg tab 4 f_law_menu (topS 6) f4 _ := ⟨F4, mg_of kin gns a4, b4, fun n ks perm hm => by simp [tab] at hm⟩
  have F5 := fun_mk (st := topS 7) l5 c5 k5
  have b5 := F5.binds (ps := ["_law_deck_here", "_law_menu_here"]) fun _ _ _ _ _ _ us hl => match us, hl with | [_, _], _ => rfl
  have D5 : DefAt K mg tab 5 f_law_drawn (topS 7) f5 _ := ⟨F5, mg_of kin gns a5, b5, fun n ks perm hm => by simp [tab] at hm⟩
  have F6 := fun_mk (st := topS 8) l6 c6 k6
  have b6 := F6.binds (ps := ["_law_deck_here", "_law_some", "_law_many"]) fun _ _ _ _ _ _ us hl => match us, hl with | [_, _, _], _ => rfl
  have D6 : DefAt K mg tab 6 f_law_turned (topS 8) f6 _ := ⟨F6, mg_of kin gns a6, b6, fun n ks perm hm => by simp [tab] at hm⟩
  have F7 := fun_mk (st := topS 9) l7 c7 k7
  have b7 := F7.binds (ps := ["_law_drawn_here", "_law_some", "_law_one", "_law_other"]) fun _ _ _ _ _ _ us hl => match us, hl with | [_, _, _, _], _ => rfl
  have D7 : DefAt K mg tab 7 f_law_are_alike (topS 9) f7 _ := ⟨F7, mg_of kin gns a7, b7, fun n ks perm hm => by simp [tab] at hm⟩
  have F8 := fun_mk (st := topS 10) l8 c8 k8
  have b8 := F8.binds (ps := ["_law_drawn_here", "_law_some"]) fun _ _ _ _ _ _ us hl => match us, hl with | [_, _], _ => rfl
  have D8 : DefAt K mg tab 8 f_law_due (topS 10) f8 _ := ⟨F8, mg_of kin gns a8, b8, fun n ks perm hm => by simp [tab] at hm⟩
  have F9 := fun_mk (st := topS 11) l9 c9 k9
  have b9 := F9.binds (ps := ["_law_script"]) fun _ _ _ _ _ _ us hl => match us, hl with | [_], _ => rfl
  have D9 : DefAt K mg tab 9 f_law (topS 11) f9 _ := ⟨F9, mg_of kin gns a9, b9, fun n ks perm hm => by simp [tab] at hm⟩
  have T : Txt ⟨l.prog, w, K, fun _ => 0⟩ tab mg := by
    constructor
    · intro j fd h
      match j, h with
      | 0, h => have h : some f_modes = some fd := h; cases h; exact ⟨_, _, _, D0, ok_modes⟩
      | 1, h => have h : some f_law_deck = some fd := h; cases h; exact ⟨_, _, _, D1, ok_law_deck⟩
      | 2, h => have h : some f_law_draw = some fd := h; cases h; exact ⟨_, _, _, D2, ok_law_draw⟩
      | 3, h => have h : some f_law_pick = some fd := h; cases h; exact ⟨_, _, _, D3, ok_law_pick⟩
      | 4, h => have h : some f_law_menu = some fd := h; cases h; exact ⟨_, _, _, D4, ok_law_menu⟩
      | 5, h => have h : some f_law_drawn = some fd := h; cases h; exact ⟨_, _, _, D5, ok_law_drawn⟩
      | 6, h => have h : some f_law_turned = some fd := h; cases h; exact ⟨_, _, _, D6, ok_law_turned⟩
      | 7, h => have h : some f_law_are_alike = some fd := h; cases h; exact ⟨_, _, _, D7, ok_law_are_alike⟩
      | 8, h => have h : some f_law_due = some fd := h; cases h; exact ⟨_, _, _, D8, ok_law_due⟩
      | 9, h => have h : some f_law = some fd := h; cases h; exact ⟨_, _, _, D9, ok_law⟩
      | _ + 10, h => cases h
    · intro x hx
      simp only [bltNames, List.mem_cons, List.not_mem_nil, or_false] at hx
      rcases hx with rfl | rfl | rfl | rfl | rfl | rfl | rfl | rfl | rfl | rfl | rfl
      · exact mg_none_of kin gns z0
      · exact mg_none_of kin gns z1
      · exact mg_none_of kin gns z2
      · exact mg_none_of kin gns z3
      · exact mg_none_of kin gns z4
      · exact mg_none_of kin gns z5
      · exact mg_none_of kin gns z6
      · exact mg_none_of kin gns z7
      · exact mg_none_of kin gns z8
      · exact mg_none_of kin gns z9
      · exact mg_none_of kin gns z10
  refine ⟨fnOf "law" "law" (defArgs (topS 11)) (defBody (topS 11)) (defScope (topS 11)) .none kV9 dc9 pm9 an9 cd9 ct9, fun s v => .of_eq rfl, fun base _ _ => ?_⟩
  have e : f9 = fa := by have q := D9.mg.symm.trans hfa; cases q; rfl
  subst e
  exact (all_cal T base dep 9 f_law rfl _ _ _ D9 ok_law).1
end K59
end
section
set_option Elab.async false
set_option linter.all false
set_option maxRecDepth 100000
set_option maxHeartbeats 4000000
namespace K59
open Mw PySem
/-! ### the deck -/
/-- the deck: its cells, its total, how often it was drawn -/
def dk (cs : List Int) (t n : Int) (rest : AH) : AH := .lst (cs.map .int) :: .dct [(.str "cells", .ref 0), (.str "total", .int t), (.str "draws", .int n)] :: rest
section
variable {cs : List Int} {t n : Int} {rest : AH} {x : PV}
theorem dk_cells : ixP (.ref 1) (.str "cells") (dk cs t n rest) = .ok (.ref 0) (dk cs t n rest) := by rfl
theorem dk_total : ixP (.ref 1) (.str "total") (dk cs t n rest) = .ok (.int t) (dk cs t n rest) := by rfl
theorem dk_draws : ixP (.ref 1) (.str "draws") (dk cs t n rest) = .ok (.int n) (dk cs t n rest) := by rfl
theorem dk_set {m : Int} : setP (.ref 1) (.str "draws") (.int m) (dk cs t n rest) = .ok () (dk cs t m rest) := by rfl
theorem ints_toPs : ∀ cs : List Int, toPs (cs.map PV.int) = some (cs.map PyData.int)
  | [] => rfl
  | c :: cs => by simp [toPs, toP, ints_toPs cs]
theorem ints_lay : ∀ cs : List Int, PyData.canLayAll0 (cs.map PyData.int) = true ∧ PyData.depthAll (cs.map PyData.int) = 0
  | [] => ⟨rfl, rfl⟩
  | c :: cs => by
    obtain ⟨h1, h2⟩ := ints_lay cs
    exact ⟨by simp [PyData.canLayAll0, PyData.canLay0, h1], by simp [PyData.depthAll, PyData.depth, h2]⟩
theorem dk_ne : cop .ne (.ref 0) (.fl []) (dk cs t n rest) = .ok (.bl (!cs.isEmpty)) (dk cs t n rest) := by
  obtain ⟨h1, h2⟩ := ints_lay cs
  have e : toS (dk cs t n rest) (.ref 0) = some (.list (cs.map PyData.int)) := by
    simp [toS, toA, dk, ints_toPs, SeqAt.shaped, PyData.canLay0, PyData.depth, h1, h2]
  have e2 : toS (dk cs t n rest) (.fl []) = some (.list []) := by rfl
  have e3 : eqP (.ref 0) (.fl []) (dk cs t n rest) = .ok cs.isEmpty (dk cs t n rest) := by
    show (match toS (dk cs t n rest) (.ref 0), toS (dk cs t n rest) (.fl []) with
      | some d, some e => Res.ok (PyData.eqv d e) (dk cs t n rest)
      | _, _ => .bad) = _
    rw [e, e2]
    cases cs <;> simp [PyData.eqv, PyData.eqvAll]
  show ((eqP (.ref 0) (.fl []) (dk cs t n rest)).bind fun b α => Res.ok (PV.bl (!b)) α) = _
  rw [e3]
  rfl
theorem dk_isTy : isTy "list" (.ref 0) (dk cs t n rest) = true := by rfl
theorem dk_pop {c : Int} : mP .pop (.ref 0) [] (dk (cs ++ [c]) t n rest) = .ok (.int c) (dk cs t n rest) := by
  simp [mP, lstAt, dk]
theorem dk_append {c : Int} (h : cs.length < sizeLine) : mP .append (.ref 0) [.int c] (dk cs t n rest) = .ok .non (dk (cs ++ [c]) t n rest) := by
  simp [mP, lstAt, dk, h]
theorem dk_draw1 : M.ty .pop = "list" := rfl
theorem dk_draw2 : M.ty .append = "list" := rfl
theorem draw_ok (d : Nat) (cs : List Int) (t n m : Int) (rest : AH) (hm : 0 < m) (hm2 : m < 1073741824) (hn : 0 ≤ n) (hn2 : n < 2 ^ 60) (hc : cs.length ≤ 63) {P : PV → AH → Prop}
    (h : ∀ r cs', 0 ≤ r → r < m → cs'.length ≤ 63 → P (.int r) (dk cs' t (n + 1) rest)) : Go (callD fs (d + 1) 2 [.ref 1, .int m] (dk cs t n rest)) P := by
  rw [go_run (fd := f_law_draw) rfl]
  refine ⟨rfl, ?_⟩
  show Go (dSs _ b_law_draw _ _) _
  unfold b_law_draw
  obtain ⟨T0, hT⟩ : ∃ T0 : Ss, T0 = (.cons (.asg (.var 2) (.bin .mod (.bin .mul (.bin .add (.bin .add (.bin .mod (.var 4) (.int 2147483629)) (.bin .mul (.bin .mul (.int 61379) (.var 3)) (.var 3))) (.int 83)) (.int 40692)) (.int 2147483647)))
      (.cons (.asg (.var 2) (.bin .mod (.bin .add (.bin .add (.bin .mul (.var 2) (.var 2)) (.bin .mul (.int 69941) (.var 3))) (.int 41)) (.int 2147483587)))
      (.cons (.ret (.bin .mod (.bin .fdiv (.bin .mod (.bin .mul (.var 2) (.int 39373)) (.int 2147483563)) (.int 64)) (.var 1)))
      .nil))) := ⟨_, rfl⟩
  rw [← hT]
  simp [startP, f_law_draw, dk_cells, dk_total, dk_draws, bop, addP, setAll, dk_set, dk_ne, lineOk]
  have tail : ∀ (F : Fn) (α : AH) (R : Fl → AH → Prop) (v : Int), (∀ r, 0 ≤ r → r < m → R (.rt (.int r)) α) → Go (dSs F T0 [some (.ref 1), some (.int m), none, some (.int (n + 1)), some (.int v)] α) R := by
    intro F α R v h
    subst hT
    simp only [go_Scons, go_Sasg, go_bin, go_var, go_int, List.getElem?_cons_zero, List.getElem?_cons_succ, go_modI, go_addI, go_mulI, go_Tvar, List.set_cons_succ, List.set_cons_zero]
    refine ⟨by decide, .inl (by decide), .inr (by omega), .inr (by decide), by decide, ?_⟩
    generalize hx : (v % 2147483629 + 61379 * (n + 1) * (n + 1) + 83) * 40692 % 2147483647 = x
    have hx1 : 0 ≤ x := by rw [← hx]; exact Int.emod_nonneg _ (by decide)
    have hx2 : x < 2147483647 := by rw [← hx]; exact Int.emod_lt_of_pos _ (by decide)
    refine ⟨.inl (by omega), .inl (by decide), by decide, ?_⟩
    simp only [go_Sret, go_bin, go_var, go_int, List.getElem?_cons_zero, List.getElem?_cons_succ, go_modI, go_addI, go_mulI, go_fdivI]
    exact ⟨.inr (by decide), by decide, ⟨by decide, by decide⟩, hm, h _ (Int.emod_nonneg _ (by omega)) (Int.emod_lt_of_pos _ hm)⟩
  rcases List.eq_nil_or_concat cs with rfl | ⟨cs', c, rfl⟩
  · simp only [List.isEmpty_nil, Bool.not_true, go_Snil]
    exact tail _ _ _ _ fun r h1 h2 => h r _ h1 h2 (by simp)
  · simp only [List.length_append, List.length_singleton, List.concat_eq_append] at hc
    have e : (!(cs' ++ [c]).isEmpty) = true := by simp
    rw [List.concat_eq_append] at *
    rw [e]
    simp only [go_Scons, go_Sasg, go_mth, go_ix, go_var, go_str, List.getElem?_cons_zero, List.getElem?_cons_succ, dk_cells, go_ok, dk_draw1, dk_isTy, go_Enil, dk_pop, go_Tvar, List.set_cons_succ, List.set_cons_zero, true_and, go_Sif, go_cmp, go_int, go_bin, go_powI, go_geI, go_truth]
    refine ⟨⟨by decide, by decide, by decide⟩, ?_⟩
    by_cases hbig : (10 : Int) ^ (Int.toNat 18) ≤ c
    · rw [decide_eq_true hbig]
      simp only [go_Scons, go_Sexpr, go_mth, go_ix, go_var, go_str, List.getElem?_cons_zero, List.getElem?_cons_succ, dk_cells, go_ok, dk_draw2, dk_isTy, go_Enil, go_Econs, go_bin, go_fdivI, true_and, go_Sret, go_modI]
      refine ⟨⟨hm, hm2⟩, ?_⟩
      rw [dk_append (by rw [PySem.sizeLine_eq]; omega)]
      simp only [go_ok, go_Scons, go_Sret, go_bin, go_var, List.getElem?_cons_zero, List.getElem?_cons_succ, go_modI]
      exact ⟨hm, h _ _ (Int.emod_nonneg _ (by omega)) (Int.emod_lt_of_pos _ hm) (by simp; omega)⟩
    · rw [decide_eq_false hbig]
      simp only [go_Snil, go_Scons, go_Sasg, go_bin, go_ix, go_var, go_str, List.getElem?_cons_zero, List.getElem?_cons_succ, dk_total, go_ok, go_addI, go_Tvar, List.set_cons_succ, List.set_cons_zero]
      refine tail _ _ _ _ ?_
      intro r h1 h2
      exact h r cs' h1 h2 (by omega)

/-- xs[i], a place that is there -/
theorem ix_at {xs : List PV} {r : Int} {α : AH} {p : PV} (h1 : 0 ≤ r) (h2 : r < xs.length) (hp : itemsS α p = some xs) (hd : pairsD α p = none) (hs : ∀ z, p ≠ .str z) : ∃ x, xs[r.toNat]? = some x ∧ ixP p (.int r) α = .ok x α := by
  obtain ⟨k, rfl⟩ := Int.eq_ofNat_of_zero_le h1
  have hk : k < xs.length := by omega
  refine ⟨xs[k], by simp [hk], ?_⟩
  have e : L2.atI xs ((k : Nat) : Int) = some xs[k] := L2.atI_nat (by simp [hk])
  unfold ixP
  rw [hd]
  dsimp only
  cases p <;> first | exact absurd rfl (hs _) | (simp only [hp, e, ofO_some])
theorem pick_ok (d : Nat) (cs : List Int) (t n : Int) (rest : AH) (xs : List PV) (hx : xs ≠ []) (hx2 : xs.length < 1000) (hn : 0 ≤ n) (hn2 : n < 2 ^ 60) (hc : cs.length ≤ 63) {P : PV → AH → Prop}
    (h : ∀ x cs', x ∈ xs → cs'.length ≤ 63 → P x (dk cs' t (n + 1) rest)) : Go (callD fs (d + 2) 3 [.ref 1, .fl xs] (dk cs t n rest)) P := by
  rw [go_run (fd := f_law_pick) rfl]
  refine ⟨rfl, ?_⟩
  show Go (dSs _ b_law_pick _ _) _
  unfold b_law_pick
  have hlen : 0 < xs.length := List.length_pos_iff.mpr hx
  have el : ∀ α, b1 .len (.fl xs) α = .ok (.int xs.length) α := fun α => rfl
  simp only [startP, f_law_pick, List.map_cons, List.map_nil, List.length_cons, List.length_nil, List.cons_append, List.nil_append, go_Scons, go_Sret, go_ix, go_var, List.getElem?_cons_zero, List.getElem?_cons_succ, go_call, go_Econs, go_b1, go_Enil, el, go_ok]
  refine draw_ok (d + 0) cs t n xs.length rest (by omega) (by omega) hn hn2 hc fun r cs' h1 h2 h3 => ?_
  obtain ⟨x, hx1, hx2⟩ := ix_at (α := dk cs' t (n + 1) rest) (p := .fl xs) h1 h2 rfl rfl (fun z e => by cases e)
  rw [hx2]
  exact h x cs' (List.mem_of_getElem? hx1) h3
end
end K59
end
section
set_option Elab.async false
set_option linter.all false
set_option maxRecDepth 100000
set_option maxHeartbeats 4000000
namespace K59
open Mw PySem
/-! ### the events -/
def evT : List (Str × Str) := [("add", "ok"), ("add", "ok1"), ("get", "a"), ("get", "b"), ("put1", "full"), ("put1", "ok"), ("put10", "ok"), ("read", "0")]
def evP (i : Fin 8) : Str × Str := evT[i.val]'(by have := i.isLt; show i.val < 8; omega)
def ev (i : Fin 8) : PV := .tup [.str (evP i).1, .str (evP i).2]
def evD (i : Fin 8) : PyData := .tuple [.str (evP i).1, .str (evP i).2]
def allE : List (Fin 8) := [0, 1, 2, 3, 4, 5, 6, 7]
theorem ev_toP (i : Fin 8) : toP (ev i) = some (evD i) := rfl
theorem ev_enc (i : Fin 8) : enc (ev i) = evD i := rfl
theorem ev_eqv : ∀ i j : Fin 8, PyData.eqv (evD i) (evD j) = decide (i = j) := by decide +kernel
theorem ev_lt : ∀ i j : Fin 8, PySem.W.dataLt (evD i) (evD j) = decide (i < j) := by decide +kernel
theorem ev_alike : ∀ i j : Fin 8, PySem.W.alike (evD i) (evD j) = true := by decide +kernel
theorem ev_lay : ∀ i : Fin 8, (evD i).canLay0 = true ∧ (evD i).depth = 1 := by decide +kernel
theorem ev_le (i j : Fin 8) : PySem.W.dataLe false enc (ev i) (ev j) = decide (i ≤ j) := by
  rw [PySem.W.dataLe_eq]
  show (!PySem.W.dataLt (enc (ev j)) (enc (ev i))) = _
  rw [ev_enc, ev_enc, ev_lt]
  rw [Bool.eq_iff_iff]
  simp [Fin.not_lt]
theorem ev_inj {i j : Fin 8} (h : ev i = ev j) : i = j := by
  have e := congrArg enc h
  rw [ev_enc, ev_enc] at e
  have := ev_eqv i j
  rw [e, ev_eqv j j] at this
  simpa using this
theorem evs_toPs : ∀ l : List (Fin 8), toPs (l.map ev) = some (l.map evD)
  | [] => rfl
  | i :: l => by simp only [List.map_cons, toPs, ev_toP, evs_toPs l]; rfl
theorem evs_lay : ∀ l : List (Fin 8), PyData.canLayAll0 (l.map evD) = true ∧ PyData.depthAll (l.map evD) ≤ 1
  | [] => ⟨rfl, Nat.zero_le _⟩
  | i :: l => by
    obtain ⟨h1, h2⟩ := evs_lay l
    obtain ⟨h3, h4⟩ := ev_lay i
    exact ⟨by simp [PyData.canLayAll0, h1, h3], by simp [PyData.depthAll, h4, h2]⟩
theorem ev_shaped (i : Fin 8) : SeqAt.shaped (evD i) = true := by
  obtain ⟨h3, h4⟩ := ev_lay i
  simp [SeqAt.shaped, h3, h4]
theorem ev_toS (i : Fin 8) (α : AH) : toS α (ev i) = some (evD i) := by
  show (Option.filter SeqAt.shaped (some (evD i))) = _
  simp [ev_shaped]

/-! ### the menu -/
theorem menu_ok (d : Nat) (cs : List Int) (t n : Int) (rest : AH) (hn : 0 ≤ n) (hn2 : n < 2 ^ 59) (hc : cs.length ≤ 63) {P : PV → AH → Prop}
    (h : ∀ (m : List (Fin 8)) cs' n', m.Nodup → m.length ≤ 8 → cs'.length ≤ 63 → 0 ≤ n' → n' ≤ n + 8 → P (.fl (m.map ev)) (dk cs' t n' rest)) : Go (callD fs (d + 2) 4 [.ref 1] (dk cs t n rest)) P := by
  rw [go_run (fd := f_law_menu) rfl]
  refine ⟨rfl, ?_⟩
  show Go (dSs _ b_law_menu _ _) _
  unfold b_law_menu
  simp only [startP, f_law_menu, List.map_cons, List.map_nil, List.length_cons, List.length_nil, List.cons_append, List.nil_append, go_Scons, go_Sasg, go_lst, go_Econs, go_tup, go_str, go_Enil, go_Tvar, go_Sret, go_bin, go_var, List.getElem?_cons_zero, List.getElem?_cons_succ,
    List.replicate, List.set_cons_zero, List.set_cons_succ, go_comp, go_Ival]
  have l2 : lineOk 2 = true := by decide +kernel
  have l6 : lineOk 6 = true := by decide +kernel
  have l8 : lineOk 8 = true := by decide +kernel
  refine ⟨l2, l2, l2, l2, l2, l2, l6, l2, l2, l2, ?_⟩
  show Go (need (lineOk 8) (Res.ok (PV.fl (allE.map ev)) (dk cs t n rest))) _
  rw [l8, need_true, go_ok]
  simp only [go_Scons, go_Sret, go_comp, go_Ival, go_var, List.getElem?_cons_zero, List.getElem?_cons_succ, srcOf, go_ok]
  refine Go.imp (turns_inv (P := fun ys α => ∃ (m : List (Fin 8)) (cs' : List Int) (n' : Int), ys = m.map ev ∧ α = dk cs' t n' rest ∧ m.Sublist allE ∧ cs'.length ≤ 63 ∧ 0 ≤ n' ∧ n' ≤ n + 8)
    (I := fun r ys α => ∃ (pre suf m : List (Fin 8)) (cs' : List Int) (n' : Int), allE = pre ++ suf ∧ r = suf.map ev ∧ ys = m.map ev ∧ α = dk cs' t n' rest ∧ m.Sublist pre ∧ cs'.length ≤ 63 ∧ 0 ≤ n' ∧ n' ≤ n + pre.length)
    ?_ ?_ _ [] _ ⟨[], allE, [], cs, n, rfl, rfl, rfl, rfl, .slnil, hc, hn, by simp⟩) ?_
  · rintro x r ys α ⟨pre, suf, m, cs', n', h1, h2, h3, h4, h5, h6, h7, h8⟩
    cases suf with
    | nil => cases h2
    | cons i suf =>
      rw [List.map_cons, List.cons.injEq] at h2
      obtain ⟨rfl, rfl⟩ := h2
      subst h3; subst h4
      have hpl : pre.length ≤ 8 := by
        have := congrArg List.length h1
        rw [List.length_append] at this
        have e : allE.length = 8 := rfl
        omega
      have w : wipeP [some (PV.ref 1), some (PV.fl (List.map ev allE)), none] [2] = [some (PV.ref 1), some (PV.fl (List.map ev allE)), none] := rfl
      refine ⟨rfl, ?_⟩
      rw [w]
      unfold compStep
      simp only [go_bind, go_Tvar, List.set_cons_zero, List.set_cons_succ, go_Csome, go_cmp, go_call, go_Econs, go_var, go_int, go_Enil, List.getElem?_cons_zero, List.getElem?_cons_succ]
      refine draw_ok (d + 0) cs' t n' 4 rest (by decide) (by decide) h7 (by omega) h6 fun r' cs2 a1 a2 a3 => ?_
      rw [go_gtI]
      simp only [go_truth]
      cases hb : decide ((0 : Int) < r') with
      | true =>
        simp only [go_bind, go_var, List.getElem?_cons_zero, List.getElem?_cons_succ, go_ok]
        exact ⟨pre ++ [i], suf, m ++ [i], cs2, n' + 1, by rw [h1]; simp, rfl, by simp [consO], rfl, h5.append (List.Sublist.refl _), a3, by omega, by rw [List.length_append]; simp; omega⟩
      | false =>
        simp only [go_ok]
        exact ⟨pre ++ [i], suf, m, cs2, n' + 1, by rw [h1]; simp, rfl, by simp [consO], rfl, h5.trans (List.sublist_append_left _ _), a3, by omega, by rw [List.length_append]; simp; omega⟩
  · rintro ys α ⟨pre, suf, m, cs', n', h1, h2, h3, h4, h5, h6, h7, h8⟩
    have : suf = [] := by simpa using h2.symm
    subst this
    rw [List.append_nil] at h1
    subst h1
    exact ⟨rfl, m, cs', n', h3, h4, h5, h6, h7, h8⟩
  · rintro ys α ⟨m, cs', n', h1, h2, h3, h4, h5, h6⟩
    rw [List.nil_append] at h1
    subst h1; subst h2
    have hl : m.length ≤ 8 := h3.length_le
    have nd : m.Nodup := h3.nodup (by decide)
    refine ⟨?_, ?_⟩
    · show decide _ = true
      rw [List.length_map, PySem.sizeLine_eq]
      exact decide_eq_true (by omega)
    · exact h m cs' n' nd hl h4 h5 h6
end K59
end
section
set_option Elab.async false
set_option linter.all false
set_option maxRecDepth 100000
set_option maxHeartbeats 4000000
namespace K59
open Mw PySem
/-! ### dicts -/
theorem dfind_map (k v k' : PV) : ∀ kvs : List (PV × PV), dfind (kvs.map fun e => if nkOf e.1 = nkOf k then (e.1, v) else e) k' = if nkOf k = nkOf k' then (if (dfind kvs k).isSome then some v else none) else dfind kvs k'
  | [] => by simp [dfind]
  | e :: r => by
    rw [List.map_cons, dfind_cons, dfind_map k v k' r, dfind_cons, dfind_cons]
    by_cases h1 : nkOf e.1 = nkOf k
    · simp only [h1, if_pos, Option.isSome_some]
      by_cases h2 : nkOf k = nkOf k'
      · simp [h2]
      · simp [h2]
    · rw [if_neg h1]
      by_cases h2 : nkOf k = nkOf k'
      · have h3 : ¬ nkOf e.1 = nkOf k' := fun z => h1 (z.trans h2.symm)
        simp [h2, h3]
      · simp [h2]
theorem dfind_app (kvs : List (PV × PV)) (k v k' : PV) : dfind (kvs ++ [(k, v)]) k' = match dfind kvs k' with
    | some x => some x
    | none => if nkOf k = nkOf k' then some v else none := by
  induction kvs with
  | nil => simp [dfind_cons]; rfl
  | cons e r ih =>
    rw [List.cons_append, dfind_cons, dfind_cons, ih]
    by_cases h : nkOf e.1 = nkOf k' <;> simp [h]
theorem dfind_cong (kvs : List (PV × PV)) {k k' : PV} (h : nkOf k = nkOf k') : dfind kvs k = dfind kvs k' := by
  unfold dfind; rw [h]
theorem dfind_dput (kvs : List (PV × PV)) (k v k' : PV) : dfind (dput kvs k v) k' = if nkOf k = nkOf k' then some v else dfind kvs k' := by
  unfold dput
  cases h : dfind kvs k with
  | some x =>
    simp only [Option.isSome_some, if_true]
    rw [dfind_map, h]
    rfl
  | none =>
    rw [if_neg (by simp), dfind_app]
    by_cases h2 : nkOf k = nkOf k'
    · rw [← dfind_cong kvs h2, h]
    · rw [if_neg h2]
      cases dfind kvs k' <;> simp [h2]
theorem dput_len (kvs : List (PV × PV)) (k v : PV) : (dput kvs k v).length ≤ kvs.length + 1 := by
  unfold dput
  split <;> simp
theorem dput_mode {kvs : List (PV × PV)} {k v : PV} (hk : kmode k = some true) (h : ∀ e ∈ kvs, kmode e.1 = some true) : ∀ e ∈ dput kvs k v, kmode e.1 = some true := by
  intro e he
  unfold dput at he
  split at he
  · obtain ⟨x, hx, rfl⟩ := List.mem_map.mp he
    split
    · exact h x hx
    · exact h x hx
  · rcases List.mem_append.mp he with he | he
    · exact h e he
    · simp at he; subst he; exact hk
theorem kok_of {kvs : List (PV × PV)} {k : PV} (hk : kmode k = some true) (h : ∀ e ∈ kvs, kmode e.1 = some true) : kok kvs k = true := by
  unfold kok
  rw [hk]
  cases kvs with
  | nil => rfl
  | cons e r => simp [h e List.mem_cons_self]
theorem ev_mode (i : Fin 8) : kmode (ev i) = some true := by rfl
theorem ev_key : ∀ i j : Fin 8, (nkOf (ev i) = nkOf (ev j)) ↔ i = j := by
  intro i j
  refine ⟨fun h => ?_, fun h => by rw [h]⟩
  revert i j
  decide +kernel
/-- a pair of events -/
def pk (p : Fin 8 × Fin 8) : PV := .tup [ev p.1, ev p.2]
theorem pk_mode (p : Fin 8 × Fin 8) : kmode (pk p) = some true := by rfl
theorem pk_key (p q : Fin 8 × Fin 8) : (nkOf (pk p) = nkOf (pk q)) ↔ p = q := by
  refine ⟨fun h => ?_, fun h => by rw [h]⟩
  have h1 : nkOf (ev p.1) = nkOf (ev q.1) ∧ nkOf (ev p.2) = nkOf (ev q.2) := by
    have e : ∀ p : Fin 8 × Fin 8, nkOf (pk p) = some (.tup [.tup [.text (evP p.1).1, .text (evP p.1).2], .tup [.text (evP p.2).1, .text (evP p.2).2]]) := fun _ => rfl
    have e2 : ∀ i : Fin 8, nkOf (ev i) = some (.tup [.text (evP i).1, .text (evP i).2]) := fun _ => rfl
    rw [e, e] at h
    rw [e2, e2, e2, e2]
    simp only [Option.some.injEq, NestedKey.tup.injEq, List.cons.injEq, NestedKey.text.injEq, and_true] at h ⊢
    exact h
  exact Prod.ext ((ev_key _ _).mp h1.1) ((ev_key _ _).mp h1.2)

/-! ### the store behind the deck -/
section
variable {cs : List Int} {t n : Int} {rest tl : AH} {A B C X : AO}
theorem dk_len : (dk cs t n rest).length = rest.length + 2 := rfl
theorem dk_joinD {kvs : List (PV × PV)} : joinP (.fd kvs) (dk cs t n rest) = .ok (.ref (rest.length + 2)) (dk cs t n (rest ++ [.dct kvs])) := rfl
theorem dk_joinL {xs : List PV} : joinP (.fl xs) (dk cs t n rest) = .ok (.ref (rest.length + 2)) (dk cs t n (rest ++ [.lst xs])) := rfl
theorem dk_get0 : (dk cs t n (rest ++ A :: tl))[rest.length + 2]? = some A := by simp [dk]
theorem dk_get1 : (dk cs t n (rest ++ A :: B :: tl))[rest.length + 3]? = some B := by simp [dk]
theorem dk_get2 : (dk cs t n (rest ++ A :: B :: C :: tl))[rest.length + 4]? = some C := by simp [dk]
theorem dk_put0 : (dk cs t n (rest ++ A :: tl)).set (rest.length + 2) X = dk cs t n (rest ++ X :: tl) := by simp [dk]
theorem dk_put1 : (dk cs t n (rest ++ A :: B :: tl)).set (rest.length + 3) X = dk cs t n (rest ++ A :: X :: tl) := by simp [dk]
theorem dk_put2 : (dk cs t n (rest ++ A :: B :: C :: tl)).set (rest.length + 4) X = dk cs t n (rest ++ A :: B :: X :: tl) := by simp [dk]
theorem setD {α : AH} {k : Nat} {kvs : List (PV × PV)} {i v : PV} (h : α[k]? = some (.dct kvs)) (hk : kok kvs i = true) (hl : kvs.length < sizeLine) : setP (.ref k) i v α = .ok () (α.set k (.dct (dput kvs i v))) := by
  have e : dctAt α (.ref k) = some (k, kvs) := by simp [dctAt, h]
  unfold setP
  rw [e]
  simp [hk, hl]
theorem ixD {α : AH} {k : Nat} {kvs : List (PV × PV)} {i v : PV} (h : α[k]? = some (.dct kvs)) (hk : kok kvs i = true) (hv : dfind kvs i = some v) : ixP (.ref k) i α = .ok v α := by
  have e : pairsD α (.ref k) = some kvs := by simp [pairsD, h]
  unfold ixP
  rw [e]
  simp [hk, hv]
theorem appL {α : AH} {k : Nat} {xs : List PV} {x : PV} (h : α[k]? = some (.lst xs)) (hl : xs.length < sizeLine) : isTy "list" (.ref k) α = true ∧ mP .append (.ref k) [x] α = .ok .non (α.set k (.lst (xs ++ [x]))) := by
  have e : lstAt α (.ref k) = some (k, xs) := by simp [lstAt, h]
  refine ⟨by simp [isTy, e], ?_⟩
  unfold mP
  simp [e, hl]
theorem tupL {α : AH} {k : Nat} {xs : List PV} (h : α[k]? = some (.lst xs)) : b1 .tuple (.ref k) α = .ok (.tup xs) α := by
  simp [b1, itemsS, itemsL, h]
theorem ix_fl {xs : List PV} {i : Nat} {x : PV} {α : AH} (h : xs[i]? = some x) : ixP (.fl xs) (.int i) α = .ok x α := by
  have e : L2.atI xs ((i : Nat) : Int) = some x := L2.atI_nat h
  simp [ixP, pairsD, itemsS, itemsL, e]
end
end K59
end
section
set_option Elab.async false
set_option linter.all false
set_option maxRecDepth 100000
set_option maxHeartbeats 4000000
namespace K59
open Mw PySem
theorem small {k : Nat} (h : k < 1000) : k < sizeLine := by rw [PySem.sizeLine_eq]; omega
structure TwOk (m : List (Fin 8)) (S : List (Fin 8)) (kvs : List (PV × PV)) : Prop where
  md : ∀ e ∈ kvs, kmode e.1 = some true
  ln : kvs.length ≤ S.length
  ev : ∀ i ∈ S, ∃ j ∈ m, dfind kvs (ev i) = some (ev j)
structure BaOk (S : List (Fin 8 × Fin 8)) (kvs : List (PV × PV)) : Prop where
  md : ∀ e ∈ kvs, kmode e.1 = some true
  ln : kvs.length ≤ S.length
  ev : ∀ p ∈ S, ∃ b, dfind kvs (pk p) = some (.bl b)
theorem TwOk.put {m S : List (Fin 8)} {kvs : List (PV × PV)} (h : TwOk m S kvs) (i j : Fin 8) (hj : j ∈ m) : TwOk m (S ++ [i]) (dput kvs (K59.ev i) (K59.ev j)) := by
  refine ⟨dput_mode (ev_mode i) h.md, ?_, fun a ha => ?_⟩
  · have := dput_len kvs (K59.ev i) (K59.ev j)
    have := h.ln
    rw [List.length_append, List.length_singleton]; omega
  · rw [dfind_dput]
    by_cases e : i = a
    · subst e; rw [if_pos rfl]; exact ⟨j, hj, rfl⟩
    · rw [if_neg (fun z => e ((ev_key i a).mp z))]
      rcases List.mem_append.mp ha with ha | ha
      · exact h.ev a ha
      · simp at ha; exact absurd ha.symm e
theorem BaOk.put {S : List (Fin 8 × Fin 8)} {kvs : List (PV × PV)} (h : BaOk S kvs) (i : Fin 8 × Fin 8) (b : Bool) : BaOk (S ++ [i]) (dput kvs (pk i) (.bl b)) := by
  refine ⟨dput_mode (pk_mode i) h.md, ?_, fun a ha => ?_⟩
  · have := dput_len kvs (pk i) (.bl b)
    have := h.ln
    rw [List.length_append, List.length_singleton]; omega
  · rw [dfind_dput]
    by_cases e : i = a
    · subst e; rw [if_pos rfl]; exact ⟨b, rfl⟩
    · rw [if_neg (fun z => e ((pk_key i a).mp z))]
      rcases List.mem_append.mp ha with ha | ha
      · exact h.ev a ha
      · simp at ha; exact absurd ha.symm e
theorem l2 : lineOk 2 = true := by decide +kernel
theorem l3 : lineOk 3 = true := by decide +kernel
theorem l0 : lineOk 0 = true := by decide +kernel
theorem l1 : lineOk 1 = true := by decide +kernel
/-- all pairs so far -/
def prs (pre m : List (Fin 8)) : List (Fin 8 × Fin 8) := pre.flatMap fun i => m.map fun j => (i, j)
theorem prs_snoc (pre m : List (Fin 8)) (i : Fin 8) : prs (pre ++ [i]) m = prs pre m ++ m.map fun j => (i, j) := by simp [prs]
theorem prs_len (pre m : List (Fin 8)) : (prs pre m).length = pre.length * m.length := by
  induction pre with
  | nil => simp [prs]
  | cons i r ih =>
    have : prs (i :: r) m = (m.map fun j => (i, j)) ++ prs r m := by simp [prs]
    rw [this, List.length_append, List.length_map, ih, List.length_cons, Nat.succ_mul]; omega
theorem prs_mem {pre m : List (Fin 8)} {i j : Fin 8} (hi : i ∈ pre) (hj : j ∈ m) : (i, j) ∈ prs pre m := by
  simp [prs, hi, hj]
def dT2 : Ss := (.cons (.loop (.var 4) (.val (.var 1)) (.cons (.loop (.var 8) (.val (.var 1)) (.cons (.ife (.ix (.var 3) (.tup (.cons (.ix (.var 6) (.var 4)) (.cons (.ix (.var 6) (.var 8)) .nil)))) (.cons (.expr (.mth .append (.var 7) (.cons (.tup (.cons (.var 4) (.cons (.var 8) .nil))) .nil)))
  .nil) .nil)
  .nil))
  .nil))
  (.cons (.ret (.b1 .tuple (.var 7)))
  .nil))
def dT1 : Ss := (.cons (.asg (.var 3) (.join (.dct .nil)))
  (.cons (.loop (.var 4) (.val (.var 1)) (.cons (.loop (.var 8) (.val (.var 1)) (.cons (.asg (.sub (.var 3) (.tup (.cons (.var 4) (.cons (.var 8) .nil)))) (.cmp .lt (.call 2 (.cons (.var 0) (.cons (.int 5) .nil))) (.var 5)))
  .nil))
  .nil))
  dT2))
theorem snoc_split {α : Type} {m pre suf : List α} {i : α} (h : m = pre ++ i :: suf) : m = (pre ++ [i]) ++ suf := by rw [h]; simp
theorem t2_ok (F : Fn) (m : List (Fin 8)) (hm : m.length ≤ 8) (y z : Option PV) (s : Int) (rest : AH) (tw ba : List (PV × PV)) (cs : List Int) (t n : Int) (htw : TwOk m m tw) (hba : BaOk (prs m m) ba) {R : Fl → AH → Prop}
    (h : ∀ L : List (Fin 8 × Fin 8), L.length ≤ 64 → R (.rt (.tup (L.map pk))) (dk cs t n (rest ++ [.dct tw, .lst (L.map pk), .dct ba]))) (x : Option PV) :
    Go (dSs F dT2 [some (.ref 1), some (.fl (m.map ev)), x, some (.ref (rest.length + 4)), y, some (.int s), some (.ref (rest.length + 2)), some (.ref (rest.length + 3)), z] (dk cs t n (rest ++ [.dct tw, .lst [], .dct ba]))) R := by
  unfold dT2
  simp only [go_Scons, go_Sloop, go_Ival, go_var, List.getElem?_cons_zero, List.getElem?_cons_succ, srcOf, go_ok]
  refine turnsF_inv (I := fun r ρ α => ∃ (pre suf : List (Fin 8)) (y z : Option PV) (L : List (Fin 8 × Fin 8)), m = pre ++ suf ∧ r = suf.map ev ∧ ρ = [some (.ref 1), some (.fl (m.map ev)), x, some (.ref (rest.length + 4)), y, some (.int s), some (.ref (rest.length + 2)), some (.ref (rest.length + 3)), z] ∧
    α = dk cs t n (rest ++ [.dct tw, .lst (L.map pk), .dct ba]) ∧ L.length ≤ pre.length * 8) ?_ ?_ _ _ _ ⟨[], m, y, z, [], rfl, rfl, rfl, rfl, by simp⟩
  · rintro v r ρ α ⟨pre, suf, y, z, L, e1, e2, rfl, rfl, e3⟩
    cases suf with
    | nil => cases e2
    | cons i suf =>
      rw [List.map_cons, List.cons.injEq] at e2
      obtain ⟨rfl, rfl⟩ := e2
      have hpl : pre.length ≤ 7 := by
        have := congrArg List.length e1
        rw [List.length_append, List.length_cons] at this
        omega
      have hi : i ∈ m := by rw [e1]; simp
      obtain ⟨i', hi', ei⟩ := htw.ev i hi
      refine ⟨rfl, ?_⟩
      simp only [go_bind, go_Tvar, go_Scons, go_Sloop, go_Ival, go_var, List.set_cons_succ, List.set_cons_zero, List.getElem?_cons_zero, List.getElem?_cons_succ, srcOf, go_ok]
      refine turnsF_inv (I := fun r ρ α => ∃ (p2 s2 : List (Fin 8)) (z : Option PV) (L : List (Fin 8 × Fin 8)), m = p2 ++ s2 ∧ r = s2.map ev ∧ ρ = [some (.ref 1), some (.fl (m.map ev)), x, some (.ref (rest.length + 4)), some (ev i), some (.int s), some (.ref (rest.length + 2)), some (.ref (rest.length + 3)), z] ∧
        α = dk cs t n (rest ++ [.dct tw, .lst (L.map pk), .dct ba]) ∧ L.length ≤ pre.length * 8 + p2.length) ?_ ?_ _ _ _ ⟨[], m, z, L, rfl, rfl, rfl, rfl, by simpa using e3⟩
      · rintro v r ρ α ⟨p2, s2, z, L, f1, f2, rfl, rfl, f3⟩
        cases s2 with
        | nil => cases f2
        | cons j s2 =>
          rw [List.map_cons, List.cons.injEq] at f2
          obtain ⟨rfl, rfl⟩ := f2
          have hp2 : p2.length ≤ 7 := by
            have := congrArg List.length f1
            rw [List.length_append, List.length_cons] at this
            omega
          have hj : j ∈ m := by rw [f1]; simp
          obtain ⟨j', hj', ej⟩ := htw.ev j hj
          obtain ⟨b, hb⟩ := hba.ev (i', j') (prs_mem hi' hj')
          refine ⟨rfl, ?_⟩
          simp only [go_bind, go_Tvar, go_Scons, go_Sif, go_ix, go_tup, go_Econs, go_Enil, go_var, List.set_cons_succ, List.set_cons_zero, List.getElem?_cons_zero, List.getElem?_cons_succ]
          rw [ixD dk_get0 (kok_of (ev_mode i) htw.md) ei, go_ok]
          simp only [go_ix, go_Econs, go_Enil, go_var, List.getElem?_cons_zero, List.getElem?_cons_succ]
          rw [ixD dk_get0 (kok_of (ev_mode j) htw.md) ej, go_ok]
          refine ⟨l2, ?_⟩
          rw [show PV.tup [ev i', ev j'] = pk (i', j') from rfl, ixD dk_get2 (kok_of (pk_mode _) hba.md) hb, go_ok, go_truth]
          cases b with
          | false =>
            simp only [go_Snil]
            exact ⟨p2 ++ [j], s2, _, L, snoc_split f1, rfl, rfl, rfl, by rw [List.length_append, List.length_singleton]; omega⟩
          | true =>
            simp only [go_Scons, go_Sexpr, go_mth, go_Econs, go_tup, go_Enil, go_var, List.getElem?_cons_zero, List.getElem?_cons_succ]
            obtain ⟨q1, q2⟩ := appL (x := PV.tup [ev i, ev j]) (dk_get1 (cs := cs) (t := t) (n := n) (rest := rest) (A := .dct tw) (B := .lst (L.map pk)) (tl := [.dct ba])) (small (by rw [List.length_map]; omega))
            refine ⟨q1, l2, ?_⟩
            rw [q2, go_ok, dk_put1]
            simp only [go_Snil]
            exact ⟨p2 ++ [j], s2, _, L ++ [(i, j)], snoc_split f1, rfl, rfl, by rw [List.map_append]; rfl, by rw [List.length_append, List.length_append, List.length_singleton, List.length_singleton]; omega⟩
      · rintro ρ α ⟨p2, s2, z, L, f1, f2, rfl, rfl, f3⟩
        have : s2 = [] := by simpa using f2.symm
        subst this
        rw [List.append_nil] at f1
        refine ⟨rfl, ?_⟩
        show Go (dSs F .nil _ _) _
        rw [go_Snil]
        refine ⟨pre ++ [i], suf, _, _, L, snoc_split e1, rfl, rfl, rfl, ?_⟩
        rw [← f1] at f3
        rw [List.length_append, List.length_singleton]; omega
  · rintro ρ α ⟨pre, suf, y, z, L, e1, e2, rfl, rfl, e3⟩
    have : suf = [] := by simpa using e2.symm
    subst this
    rw [List.append_nil] at e1
    subst e1
    refine ⟨rfl, ?_⟩
    show Go (dSs F (.cons (.ret (.b1 .tuple (.var 7))) .nil) _ _) _
    simp only [go_Scons, go_Sret, go_b1, go_var, List.getElem?_cons_zero, List.getElem?_cons_succ]
    rw [tupL dk_get1, go_ok]
    exact h L (by omega)
theorem t1_ok (d : Nat) (m : List (Fin 8)) (hm : m.length ≤ 8) (x y z : Option PV) (s : Int) (rest : AH) (tw : List (PV × PV)) (cs : List Int) (t n : Int) (htw : TwOk m m tw) (hn : 0 ≤ n) (hn2 : n < 2 ^ 59 + 9) (hc : cs.length ≤ 63) {R : Fl → AH → Prop}
    (h : ∀ (L : List (Fin 8 × Fin 8)) cs' n' g, L.length ≤ 64 → cs'.length ≤ 63 → 0 ≤ n' → n' ≤ n + 64 → R (.rt (.tup (L.map pk))) (dk cs' t n' (rest ++ g))) :
    Go (dSs (callD fs (d + 1)) dT1 [some (.ref 1), some (.fl (m.map ev)), x, none, y, some (.int s), some (.ref (rest.length + 2)), some (.ref (rest.length + 3)), z] (dk cs t n (rest ++ [.dct tw, .lst []]))) R := by
  unfold dT1
  have dapp : ∀ cs t n rest (l : AH), dk cs t n rest ++ l = dk cs t n (rest ++ l) := fun _ _ _ _ _ => rfl
  rw [go_Scons, go_Sasg, go_join, go_dct, go_Pnil]
  refine ⟨rfl, ?_⟩
  rw [List.foldl_nil, dk_joinD, go_ok, go_Tvar]
  simp only [List.append_assoc, List.cons_append, List.nil_append, List.length_append, List.length_cons, List.length_nil, List.set_cons_succ, List.set_cons_zero, go_Scons, go_Sloop, go_Ival, go_var, List.getElem?_cons_zero, List.getElem?_cons_succ, srcOf, go_ok]
  refine turnsF_inv (I := fun r ρ α => ∃ (pre suf : List (Fin 8)) (y z : Option PV) (ba : List (PV × PV)) (cs' : List Int) (n' : Int), m = pre ++ suf ∧ r = suf.map ev ∧ ρ = [some (.ref 1), some (.fl (m.map ev)), x, some (.ref (rest.length + 4)), y, some (.int s), some (.ref (rest.length + 2)), some (.ref (rest.length + 3)), z] ∧
    α = dk cs' t n' (rest ++ [.dct tw, .lst [], .dct ba]) ∧ BaOk (prs pre m) ba ∧ cs'.length ≤ 63 ∧ 0 ≤ n' ∧ n' ≤ n + pre.length * 8) ?_ ?_ _ _ _ ⟨[], m, y, z, [], cs, n, rfl, rfl, rfl, rfl, ⟨by simp, by simp, by simp [prs]⟩, hc, hn, by simp⟩
  · rintro v r ρ α ⟨pre, suf, y, z, ba, cs', n', e1, e2, rfl, rfl, hba, b1, b2, b3⟩
    cases suf with
    | nil => cases e2
    | cons i suf =>
      rw [List.map_cons, List.cons.injEq] at e2
      obtain ⟨rfl, rfl⟩ := e2
      have hpl : pre.length ≤ 7 := by
        have := congrArg List.length e1
        rw [List.length_append, List.length_cons] at this
        omega
      refine ⟨rfl, ?_⟩
      simp only [go_bind, go_Tvar, go_Scons, go_Sloop, go_Ival, go_var, List.set_cons_succ, List.set_cons_zero, List.getElem?_cons_zero, List.getElem?_cons_succ, srcOf, go_ok]
      refine turnsF_inv (I := fun r ρ α => ∃ (p2 s2 : List (Fin 8)) (z : Option PV) (ba : List (PV × PV)) (cs' : List Int) (n' : Int), m = p2 ++ s2 ∧ r = s2.map ev ∧ ρ = [some (.ref 1), some (.fl (m.map ev)), x, some (.ref (rest.length + 4)), some (ev i), some (.int s), some (.ref (rest.length + 2)), some (.ref (rest.length + 3)), z] ∧
        α = dk cs' t n' (rest ++ [.dct tw, .lst [], .dct ba]) ∧ BaOk (prs pre m ++ p2.map fun j => (i, j)) ba ∧ cs'.length ≤ 63 ∧ 0 ≤ n' ∧ n' ≤ n + pre.length * 8 + p2.length) ?_ ?_ _ _ _ ⟨[], m, z, ba, cs', n', rfl, rfl, rfl, rfl, by simpa using hba, b1, b2, by simpa using b3⟩
      · rintro v r ρ α ⟨p2, s2, z, ba, cs', n', f1, f2, rfl, rfl, hba, b1, b2, b3⟩
        cases s2 with
        | nil => cases f2
        | cons j s2 =>
          rw [List.map_cons, List.cons.injEq] at f2
          obtain ⟨rfl, rfl⟩ := f2
          have hp2 : p2.length ≤ 7 := by
            have := congrArg List.length f1
            rw [List.length_append, List.length_cons] at this
            omega
          refine ⟨rfl, ?_⟩
          simp only [go_bind, go_Tvar, go_Scons, go_Sasg, go_cmp, go_call, go_Econs, go_Enil, go_int, go_var, List.set_cons_succ, List.set_cons_zero, List.getElem?_cons_zero, List.getElem?_cons_succ]
          refine draw_ok d cs' t n' 5 _ (by decide) (by decide) b2 (by omega) b1 fun r' cs2 c1 c2 c3 => ?_
          simp only [go_var, List.getElem?_cons_zero, List.getElem?_cons_succ]
          rw [go_ltI]
          simp only [go_Tsub, go_tup, go_Econs, go_Enil, go_var, List.getElem?_cons_zero, List.getElem?_cons_succ]
          refine ⟨l2, ?_⟩
          have hl : ba.length ≤ 100 := by
            have q1 := hba.ln
            have q2 := prs_len pre m
            have q3 : pre.length * m.length ≤ 7 * 8 := Nat.mul_le_mul hpl hm
            rw [List.length_append, List.length_map, q2] at q1
            omega
          rw [show PV.tup [ev i, ev j] = pk (i, j) from rfl, setD dk_get2 (kok_of (pk_mode _) hba.md) (small (by omega)), go_ok, dk_put2]
          simp only [go_Snil]
          refine ⟨p2 ++ [j], s2, _, _, cs2, n' + 1, snoc_split f1, rfl, rfl, rfl, ?_, c3, by omega, by rw [List.length_append, List.length_singleton]; omega⟩
          have := hba.put (i, j) (decide (r' < s))
          rwa [List.map_append, ← List.append_assoc]
      · rintro ρ α ⟨p2, s2, z, ba, cs', n', f1, f2, rfl, rfl, hba, b1, b2, b3⟩
        have : s2 = [] := by simpa using f2.symm
        subst this
        rw [List.append_nil] at f1
        subst f1
        refine ⟨rfl, ?_⟩
        show Go (dSs (callD fs (d + 1)) .nil _ _) _
        rw [go_Snil]
        exact ⟨pre ++ [i], suf, _, _, ba, cs', n', snoc_split e1, rfl, rfl, rfl, by rw [prs_snoc]; exact hba, b1, b2, by rw [List.length_append, List.length_singleton]; omega⟩
  · rintro ρ α ⟨pre, suf, y, z, ba, cs', n', e1, e2, rfl, rfl, hba, b1, b2, b3⟩
    have : suf = [] := by simpa using e2.symm
    subst this
    rw [List.append_nil] at e1
    subst e1
    refine ⟨rfl, ?_⟩
    show Go (dSs (callD fs (d + 1)) dT2 _ _) _
    exact t2_ok (callD fs (d + 1)) m hm y z s rest tw ba cs' t n' htw hba (fun L hL => h L cs' n' _ hL b1 b2 (by omega)) x
theorem drawn_ok (d : Nat) (cs : List Int) (t n : Int) (rest : AH) (m : List (Fin 8)) (hm : m.length ≤ 8) (hn : 0 ≤ n) (hn2 : n < 2 ^ 59) (hc : cs.length ≤ 63) {P : PV → AH → Prop}
    (h : ∀ (L : List (Fin 8 × Fin 8)) cs' n' g, L.length ≤ 64 → cs'.length ≤ 63 → 0 ≤ n' → n' ≤ n + 73 → P (.tup (L.map pk)) (dk cs' t n' (rest ++ g))) : Go (callD fs (d + 3) 5 [.ref 1, .fl (m.map ev)] (dk cs t n rest)) P := by
  rw [go_run (fd := f_law_drawn) rfl]
  refine ⟨rfl, ?_⟩
  show Go (dSs _ b_law_drawn _ _) _
  unfold b_law_drawn
  simp only [startP, f_law_drawn, List.map_cons, List.map_nil, List.length_cons, List.length_nil, List.cons_append, List.nil_append, List.replicate, go_Scons, go_Spar, go_Econs, go_bin, go_int, go_call, go_var, go_Enil, List.getElem?_cons_zero, List.getElem?_cons_succ]
  refine draw_ok (d + 1) cs t n 4 rest (by decide) (by decide) hn (by omega) hc fun r0 cs1 a1 a2 a3 => ?_
  simp only [go_addI, go_join, go_dct, go_Pnil, go_lst, go_Enil, List.length_nil, List.all_nil, List.foldl_nil]
  refine ⟨rfl, ?_⟩
  have dapp : ∀ cs t n rest (l : AH), dk cs t n rest ++ l = dk cs t n (rest ++ l) := fun _ _ _ _ _ => rfl
  simp only [setAll, List.set_cons_succ, List.set_cons_zero, List.foldl_nil, dapp, dk_len, List.append_assoc, List.cons_append, List.nil_append, List.length_append, List.length_cons, List.length_nil]
  -- the first loop: a twin for each
  obtain ⟨T1, hT1⟩ : ∃ T1 : Ss, T1 = dT1 := ⟨_, rfl⟩
  unfold dT1 dT2 at hT1
  rw [← hT1]
  simp only [go_Scons, go_Sloop, go_Ival, go_var, List.getElem?_cons_zero, List.getElem?_cons_succ, srcOf, go_ok]
  refine turnsF_inv (I := fun r ρ α => ∃ (pre suf : List (Fin 8)) (x : Option PV) (kvs : List (PV × PV)) (cs' : List Int) (n' : Int), m = pre ++ suf ∧ r = suf.map ev ∧ ρ = [some (.ref 1), some (.fl (m.map ev)), x, none, none, some (.int (1 + r0)), some (.ref (rest.length + 2)), some (.ref (rest.length + 3)), none] ∧
    α = dk cs' t n' (rest ++ [.dct kvs, .lst []]) ∧ TwOk m pre kvs ∧ cs'.length ≤ 63 ∧ 0 ≤ n' ∧ n' ≤ n + 1 + pre.length) ?_ ?_ _ _ _ ⟨[], m, none, [], cs1, n + 1, rfl, rfl, rfl, rfl, ⟨by simp, by simp, by simp⟩, a3, by omega, by simp⟩
  · rintro x r ρ α ⟨pre, suf, y, kvs, cs', n', e1, e2, rfl, rfl, tw, b1, b2, b3⟩
    cases suf with
    | nil => cases e2
    | cons i suf =>
      rw [List.map_cons, List.cons.injEq] at e2
      obtain ⟨rfl, rfl⟩ := e2
      have hpl : pre.length ≤ 8 := by
        have := congrArg List.length e1
        rw [List.length_append] at this
        omega
      have hmem : i ∈ m := by rw [e1]; simp
      refine ⟨rfl, ?_⟩
      have hm0 : ∃ j, (m.map ev)[0]? = some (ev j) ∧ j ∈ m := by
        cases m with
        | nil => simp at hmem
        | cons j r => exact ⟨j, rfl, by simp⟩
      obtain ⟨j0, hj0, hj0m⟩ := hm0
      simp only [go_bind, go_Tvar, go_Scons, go_Sasg, go_call, go_Econs, go_lst, go_var, go_int, go_ix, go_Enil, List.set_cons_succ, List.set_cons_zero, List.getElem?_cons_zero, List.getElem?_cons_succ]
      rw [show (PV.int 0) = PV.int ((0 : Nat) : Int) from rfl, ix_fl hj0, go_ok]
      refine ⟨l3, ?_⟩
      refine pick_ok d cs' t n' _ [ev i, ev i, ev j0] (by simp) (by simp) b2 (by omega) b1 fun z cs2 hz c1 => ?_
      obtain ⟨k, rfl, hk⟩ : ∃ k, z = ev k ∧ k ∈ m := by
        simp only [List.mem_cons, List.not_mem_nil, or_false] at hz
        rcases hz with rfl | rfl | rfl
        · exact ⟨i, rfl, hmem⟩
        · exact ⟨i, rfl, hmem⟩
        · exact ⟨j0, rfl, hj0m⟩
      simp only [go_Tsub, go_var, List.getElem?_cons_zero, List.getElem?_cons_succ]
      rw [setD dk_get0 (kok_of (ev_mode i) tw.md) (small (by have := tw.ln; omega)), go_ok, dk_put0]
      simp only [go_Snil]
      exact ⟨pre ++ [i], suf, _, _, cs2, n' + 1, by rw [e1]; simp, rfl, rfl, rfl, tw.put i k hk, c1, by omega, by rw [List.length_append]; simp; omega⟩
  · rintro ρ α ⟨pre, suf, y, kvs, cs', n', e1, e2, rfl, rfl, tw, b1, b2, b3⟩
    have : suf = [] := by simpa using e2.symm
    subst this
    rw [List.append_nil] at e1
    subst e1
    refine ⟨rfl, ?_⟩
    have e : T1 = dT1 := hT1
    show Go (dSs (callD fs (d + 2)) T1 _ _) _
    rw [e]
    exact t1_ok (d + 1) m hm _ none none (1 + r0) rest kvs cs' t n' tw b2 (by omega) b1 fun L cs2 n2 g c1 c2 c3 c4 => h L cs2 n2 g c1 c2 c3 (by omega)
end K59
end
section
set_option Elab.async false
set_option linter.all false
set_option maxRecDepth 100000
set_option maxHeartbeats 4000000
namespace K59
open Mw PySem
theorem erase_map {α β : Type} (f : α → β) : ∀ (l : List α) (i : Nat), (l.map f).eraseIdx i = (l.eraseIdx i).map f
  | [], _ => rfl
  | _ :: _, 0 => rfl
  | x :: l, i + 1 => by simp [erase_map f l i]
theorem erase_perm {α : Type} : ∀ (l : List α) (i : Nat) (x : α), l[i]? = some x → (x :: l.eraseIdx i).Perm l
  | [], _, _, h => by simp at h
  | y :: l, 0, x, h => by simp at h; subst h; exact List.Perm.refl _
  | y :: l, i + 1, x, h => by
    have ih := erase_perm l i x (by simpa using h)
    rw [List.eraseIdx_cons_succ]
    exact (List.Perm.swap y x _).trans (ih.cons y)
theorem lenL {α : AH} {k : Nat} {xs : List PV} (h : α[k]? = some (.lst xs)) : b1 .len (.ref k) α = .ok (.int xs.length) α := by
  simp [b1, pairsD, itemsS, itemsL, h]
theorem tyL {α : AH} {k : Nat} {xs : List PV} (h : α[k]? = some (.lst xs)) : isTy "list" (.ref k) α = true := by
  have e : lstAt α (.ref k) = some (k, xs) := by simp [lstAt, h]
  simp [isTy, e]
theorem popL {α : AH} {k : Nat} {xs : List PV} {r : Int} (h : α[k]? = some (.lst xs)) (h1 : 0 ≤ r) (h2 : r < xs.length) (h3 : xs.length < 1000) : ∃ x, xs[r.toNat]? = some x ∧ mP .pop (.ref k) [.int r] α = .ok x (α.set k (.lst (xs.eraseIdx r.toNat))) := by
  have e : lstAt α (.ref k) = some (k, xs) := by simp [lstAt, h]
  obtain ⟨j, rfl⟩ := Int.eq_ofNat_of_zero_le h1
  have hj : j < xs.length := by omega
  refine ⟨xs[j], by simp [hj], ?_⟩
  have e2 : seqIndex? (j : Int) xs.length = some j := by
    unfold seqIndex?
    simp [hj]
    omega
  unfold mP
  simp only [e, e2]
  have hb : decide (-(2 ^ 63) ≤ (j : Int) ∧ (j : Int) < 2 ^ 63) = true := decide_eq_true (by omega)
  rw [hb, need_true]
  simp [hj]
theorem turned_ok (d : Nat) (cs : List Int) (t n k : Int) (rest : AH) (m : List (Fin 8)) (hm : m.length ≤ 8) (hk : 0 ≤ k) (hk2 : k < 1000) (hn : 0 ≤ n) (hn2 : n < 2 ^ 59) (hc : cs.length ≤ 63) {P : PV → AH → Prop}
    (h : ∀ (E A : List (Fin 8)) cs' n', (E ++ A).Perm m → cs'.length ≤ 63 → 0 ≤ n' → n' ≤ n + 8 → P (.ref (rest.length + 3)) (dk cs' t n' (rest ++ [.lst (A.map ev), .lst (E.map ev)]))) : Go (callD fs (d + 2) 6 [.ref 1, .fl (m.map ev), .int k] (dk cs t n rest)) P := by
  rw [go_run (fd := f_law_turned) rfl]
  refine ⟨rfl, ?_⟩
  show Go (dSs (callD fs (d + 1)) b_law_turned _ _) _
  unfold b_law_turned
  have dapp : ∀ cs t n rest (l : AH), dk cs t n rest ++ l = dk cs t n (rest ++ l) := fun _ _ _ _ _ => rfl
  have el : ∀ α, b1 .list (.fl (m.map ev)) α = .ok (.fl (m.map ev)) α := fun α => rfl
  simp only [startP, f_law_turned, List.map_cons, List.map_nil, List.length_cons, List.length_nil, List.cons_append, List.nil_append, List.replicate, go_Scons, go_Spar, go_Econs, go_join, go_b1, go_lst, go_var, go_Enil, List.getElem?_cons_zero, List.getElem?_cons_succ, el, go_ok, dk_joinL]
  refine ⟨l0, trivial, ?_⟩
  simp only [dapp, dk_len, setAll, List.set_cons_succ, List.set_cons_zero, List.append_assoc, List.cons_append, List.nil_append, List.length_append, List.length_cons, List.length_nil, go_Sloop, go_Ir1, go_b2, go_b1, go_var, List.getElem?_cons_zero, List.getElem?_cons_succ]
  rw [lenL dk_get0, go_ok]
  have hK : b2 .min (.int k) (.int (m.map ev).length) (dk cs t n (rest ++ [.lst (m.map ev), .lst []])) = .ok (.int (if ((m.map ev).length : Int) < k then ((m.map ev).length : Int) else k)) (dk cs t n (rest ++ [.lst (m.map ev), .lst []])) := rfl
  rw [hK, go_ok]
  generalize hKK : (if ((m.map ev).length : Int) < k then ((m.map ev).length : Int) else k) = K
  have hK1 : 0 ≤ K ∧ K ≤ m.length := by
    rw [← hKK, List.length_map]
    split <;> omega
  have hsr : srcRange (.int 0) (.int K) (dk cs t n (rest ++ [.lst (m.map ev), .lst []])) = .ok ⟨rangeP 0 K, none⟩ (dk cs t n (rest ++ [.lst (m.map ev), .lst []])) := by
    show need (decide _) _ = _
    rw [decide_eq_true (by omega)]
    rfl
  rw [hsr, go_ok]
  have hrl : (rangeP 0 K).length ≤ m.length := by
    unfold rangeP
    rw [List.length_map, List.length_range]
    omega
  refine turnsF_inv (I := fun r ρ α => ∃ (A E : List (Fin 8)) (y : Option PV) (cs' : List Int) (n' : Int), r.length ≤ A.length ∧ (E ++ A).Perm m ∧ ρ = [some (.ref 1), some (.fl (m.map ev)), some (.int k), y, some (.ref (rest.length + 2)), some (.ref (rest.length + 3))] ∧
    α = dk cs' t n' (rest ++ [.lst (A.map ev), .lst (E.map ev)]) ∧ cs'.length ≤ 63 ∧ 0 ≤ n' ∧ n' ≤ n + E.length) ?_ ?_ _ _ _ ⟨m, [], none, cs, n, hrl, List.Perm.refl _, rfl, rfl, hc, hn, by simp⟩
  · rintro x r ρ α ⟨A, E, y, cs', n', e1, e2, rfl, rfl, b1, b2, b3⟩
    have hlen : E.length + A.length ≤ 8 := by
      have := e2.length_eq
      rw [List.length_append] at this
      omega
    rw [List.length_cons] at e1
    refine ⟨rfl, ?_⟩
    simp only [go_bind, go_Tvar, go_Scons, go_Sexpr, go_mth, go_call, go_Econs, go_Enil, go_var, go_b1, List.set_cons_succ, List.set_cons_zero, List.getElem?_cons_zero, List.getElem?_cons_succ]
    refine ⟨tyL dk_get1, tyL dk_get0, ?_⟩
    rw [lenL dk_get0, go_ok]
    refine draw_ok d cs' t n' _ _ (by rw [List.length_map]; omega) (by rw [List.length_map]; omega) b2 (by omega) b1 fun r' cs2 c1 c2 c3 => ?_
    obtain ⟨z, q1, q2⟩ := popL (dk_get0 (cs := cs2) (t := t) (n := n' + 1) (rest := rest) (A := .lst (A.map ev)) (tl := [.lst (E.map ev)])) c1 c2 (by rw [List.length_map]; omega)
    rw [q2, go_ok, dk_put0]
    rw [List.getElem?_map] at q1
    cases hz : A[r'.toNat]? with
    | none => rw [hz] at q1; cases q1
    | some i =>
      rw [hz] at q1
      cases q1
      obtain ⟨p1, p2⟩ := appL (x := ev i) (dk_get1 (cs := cs2) (t := t) (n := n' + 1) (rest := rest) (A := .lst ((A.map ev).eraseIdx r'.toNat)) (B := .lst (E.map ev)) (tl := [])) (small (by rw [List.length_map]; omega))
      rw [p2, go_ok, dk_put1, erase_map]
      simp only [go_Snil]
      have pm := erase_perm A _ i hz
      have hel : (A.eraseIdx r'.toNat).length + 1 = A.length := by
        have := pm.length_eq
        simpa using this
      refine ⟨A.eraseIdx r'.toNat, E ++ [i], _, cs2, n' + 1, by omega, ?_, rfl, by rw [List.map_append]; rfl, c3, by omega, by rw [List.length_append, List.length_singleton]; omega⟩
      rw [List.append_assoc]
      exact (pm.append_left E).trans e2
  · rintro ρ α ⟨A, E, y, cs', n', e1, e2, rfl, rfl, b1, b2, b3⟩
    refine ⟨rfl, ?_⟩
    simp only [Src.done, go_ok, go_Scons, go_Sret, go_var, List.getElem?_cons_zero, List.getElem?_cons_succ]
    have hlen : E.length + A.length ≤ 8 := by
      have := e2.length_eq
      rw [List.length_append] at this
      omega
    exact h E A cs' n' e2 b1 b2 (by omega)
end K59
end
section
set_option Elab.async false
set_option linter.all false
set_option maxRecDepth 100000
set_option maxHeartbeats 4000000
namespace K59
open Mw PySem
theorem eq_of_go {β : Type} {r : Res β} {b : β} {α : AH} (h : Go r (fun x a => x = b ∧ a = α)) : r = .ok b α := by
  obtain ⟨x, a, e, rfl, rfl⟩ := h.ex
  exact e
/-! ### tables -/
abbrev Tb := List (Fin 8 × Fin 8)
def tb (L : Tb) : PV := .tup (L.map pk)
def pkD (p : Fin 8 × Fin 8) : PyData := .tuple [evD p.1, evD p.2]
theorem pk_toP (p : Fin 8 × Fin 8) : toP (pk p) = some (pkD p) := rfl
theorem pks_toPs : ∀ L : Tb, toPs (L.map pk) = some (L.map pkD)
  | [] => rfl
  | p :: L => by simp only [List.map_cons, toPs, pk_toP, pks_toPs L]; rfl
theorem pk_lay (p : Fin 8 × Fin 8) : (pkD p).canLay0 = true ∧ (pkD p).depth ≤ 2 := by
  obtain ⟨h1, h2⟩ := ev_lay p.1
  obtain ⟨h3, h4⟩ := ev_lay p.2
  refine ⟨?_, ?_⟩
  · simp [pkD, PyData.canLay0, PyData.canLayAll0, h1, h3]
  · simp [pkD, PyData.depth, PyData.depthAll, h2, h4]
theorem pks_lay : ∀ L : Tb, PyData.canLayAll0 (L.map pkD) = true ∧ PyData.depthAll (L.map pkD) ≤ 2
  | [] => ⟨rfl, Nat.zero_le _⟩
  | p :: L => by
    obtain ⟨h1, h2⟩ := pks_lay L
    obtain ⟨h3, h4⟩ := pk_lay p
    exact ⟨by simp [PyData.canLayAll0, h1, h3], by simp only [List.map_cons, PyData.depthAll]; omega⟩
theorem pk_eqv (p q : Fin 8 × Fin 8) : PyData.eqv (pkD p) (pkD q) = decide (p = q) := by
  simp only [pkD, PyData.eqv, PyData.eqvAll, ev_eqv, Bool.and_true]
  rw [Bool.eq_iff_iff]
  simp [Prod.ext_iff]
theorem tb_toS (L : Tb) (α : AH) : toS α (tb L) = some (.tuple (L.map pkD)) := by
  obtain ⟨h1, h2⟩ := pks_lay L
  have e : toA α (tb L) = some (.tuple (L.map pkD)) := by simp [toA, tb, toP, pks_toPs]
  unfold toS
  rw [e]
  have : SeqAt.shaped (.tuple (L.map pkD)) = true := by
    show (PyData.canLayAll0 (L.map pkD) && decide (PyData.depthAll (L.map pkD) + 1 ≤ 64)) = true
    rw [h1]
    exact decide_eq_true (by omega)
  simp [this]
theorem pk_toS (p : Fin 8 × Fin 8) (α : AH) : toS α (pk p) = some (pkD p) := by
  obtain ⟨h1, h2⟩ := pk_lay p
  show (Option.filter SeqAt.shaped (some (pkD p))) = _
  have : SeqAt.shaped (pkD p) = true := by
    unfold SeqAt.shaped
    rw [h1, Bool.true_and, decide_eq_true_eq]
    omega
  simp [this]
theorem in_tb (L : Tb) (p : Fin 8 × Fin 8) (α : AH) : inP (pk p) (tb L) α = .ok (L.contains p) α := by
  have e : inP (pk p) (tb L) α = (match itemsS α (tb L), toS α (tb L), toS α (pk p) with
      | some _, some (.list ds), some d => Res.ok (ds.any fun z => PyData.eqv z d) α
      | some _, some (.tuple ds), some d => Res.ok (ds.any fun z => PyData.eqv z d) α
      | _, _, _ => .bad) := rfl
  rw [e, tb_toS, pk_toS]
  show Res.ok _ _ = _
  congr 1
  rw [List.any_map]
  clear e
  induction L with
  | nil => rfl
  | cons q L ih =>
    rw [List.any_cons, List.contains_cons, ih]
    simp only [Function.comp_apply, pk_eqv]
    congr 1
    rw [Bool.eq_iff_iff, decide_eq_true_eq, beq_iff_eq]
    exact eq_comm
theorem evs_toS (l : List (Fin 8)) (α : AH) : toS α (.fl (l.map ev)) = some (.list (l.map evD)) := by
  obtain ⟨h1, h2⟩ := evs_lay l
  have e : toA α (.fl (l.map ev)) = some (.list (l.map evD)) := by simp [toA, toP, evs_toPs]
  unfold toS
  rw [e]
  have : SeqAt.shaped (.list (l.map evD)) = true := by
    show (PyData.canLayAll0 (l.map evD) && decide (PyData.depthAll (l.map evD) + 1 ≤ 64)) = true
    rw [h1]
    exact decide_eq_true (by omega)
  simp [this]
theorem in_fl (l : List (Fin 8)) (i : Fin 8) (α : AH) : inP (ev i) (.fl (l.map ev)) α = .ok (l.contains i) α := by
  have e : inP (ev i) (.fl (l.map ev)) α = (match itemsS α (.fl (l.map ev)), toS α (.fl (l.map ev)), toS α (ev i) with
      | some _, some (.list ds), some d => Res.ok (ds.any fun z => PyData.eqv z d) α
      | some _, some (.tuple ds), some d => Res.ok (ds.any fun z => PyData.eqv z d) α
      | _, _, _ => .bad) := rfl
  rw [e, evs_toS, ev_toS]
  show Res.ok _ _ = _
  congr 1
  rw [List.any_map]
  clear e
  induction l with
  | nil => rfl
  | cons q L ih =>
    rw [List.any_cons, List.contains_cons, ih]
    simp only [Function.comp_apply, ev_eqv]
    congr 1
    rw [Bool.eq_iff_iff, decide_eq_true_eq, beq_iff_eq]
    exact eq_comm
theorem nil_fl (l : List (Fin 8)) (α : AH) : eqP (.fl (l.map ev)) (.fl []) α = .ok l.isEmpty α := by
  have e : eqP (.fl (l.map ev)) (.fl []) α = (match toS α (.fl (l.map ev)), toS α (.fl []) with
    | some d, some e => Res.ok (PyData.eqv d e) α
    | _, _ => .bad) := rfl
  rw [e, evs_toS, show toS α (.fl []) = some (.list []) from rfl]
  cases l <;> rfl
theorem add_fl {xs ys : List PV} {α : AH} (h : xs.length + ys.length < 1000) : bop .add (.fl xs) (.fl ys) α = .ok (.fl (xs ++ ys)) α := by
  show need (lineOk _) _ = _
  have : lineOk (xs.length + ys.length) = true := decide_eq_true (Nat.le_of_lt (small h))
  rw [this]; rfl
/-! ### what is alike -/
def r (L : Tb) (i j : Fin 8) : Bool := L.contains (i, j)
def al (L : Tb) (E : List (Fin 8)) (i j : Fin 8) : Bool := E.all fun o => r L i o == r L j o && r L o i == r L o j
theorem filt_pure {f : Fin 8 → Bool} {g : PV → Option PV} (hg : ∀ i, g (ev i) = if f i = true then some (ev i) else none) : ∀ l : List (Fin 8), (l.map ev).filterMap g = (l.filter f).map ev
  | [] => rfl
  | i :: l => by
    rw [List.map_cons]
    cases h : f i with
    | true => rw [List.filterMap_cons_some (by rw [hg, h]; rfl), List.filter_cons_of_pos h, List.map_cons, filt_pure hg l]
    | false => rw [List.filterMap_cons_none (by rw [hg, h]; rfl), List.filter_cons_of_neg (by rw [h]; exact Bool.false_ne_true), filt_pure hg l]
def gOf (f : Fin 8 → Bool) (p : PV) : Option PV := if (allE.any fun i => decide (p = ev i) && f i) = true then some p else none
theorem gOf_ev (f : Fin 8 → Bool) (i : Fin 8) : gOf f (ev i) = if f i = true then some (ev i) else none := by
  unfold gOf
  have e : (allE.any fun j => decide (ev i = ev j) && f j) = f i := by
    rw [Bool.eq_iff_iff, List.any_eq_true]
    constructor
    · rintro ⟨j, _, h⟩
      rw [Bool.and_eq_true, decide_eq_true_eq] at h
      rw [ev_inj h.1]; exact h.2
    · intro h
      exact ⟨i, (by decide : ∀ i : Fin 8, i ∈ allE) i, by rw [h]; simp⟩
  rw [e]
theorem bne_cop (a b : Bool) (α : AH) : cop .ne (.bl a) (.bl b) α = .ok (.bl (a != b)) α := by
  cases a <;> cases b <;> rfl
theorem in_cop (L : Tb) (i j : Fin 8) (α : AH) : cop .isin (.tup [ev i, ev j]) (tb L) α = .ok (.bl (r L i j)) α := by
  show (inP (pk (i, j)) (tb L) α).bind _ = _
  rw [in_tb]; rfl
theorem alike_ok (d : Nat) (L : Tb) (E : List (Fin 8)) (hE : E.length ≤ 8) (i j : Fin 8) (k : Nat) (α : AH) (hk : α[k]? = some (.lst (E.map ev))) : callD fs (d + 1) 7 [tb L, .ref k, ev i, ev j] α = .ok (.bl (al L E i j)) α := by
  refine eq_of_go ?_
  rw [go_run (fd := f_law_are_alike) rfl]
  refine ⟨rfl, ?_⟩
  show Go (dSs (callD fs d) b_law_are_alike _ _) _
  unfold b_law_are_alike
  have hsrc : srcOf (.ref k) α = .ok ⟨E.map ev, some (k, .lst (E.map ev))⟩ α := by
    unfold srcOf
    simp [hk]
  have hst : Src.still ⟨E.map ev, some (k, .lst (E.map ev))⟩ α = true := by
    show decide _ = true
    rw [hk]; simp
  have hlk : Src.lock ⟨E.map ev, some (k, .lst (E.map ev))⟩ α = α := rfl
  simp only [startP, f_law_are_alike, List.map_cons, List.map_nil, List.length_cons, List.length_nil, List.cons_append, List.nil_append, List.replicate, go_Scons, go_Sasg, go_comp, go_Ival, go_var, List.getElem?_cons_zero, List.getElem?_cons_succ, hsrc, go_ok, hlk]
  rw [turns_pure (g := gOf fun x => r L i x != r L j x) hst _ (fun x hx => by
    obtain ⟨a, _, rfl⟩ := List.mem_map.mp hx
    rw [gOf_ev]
    refine eq_of_go ?_
    unfold compStep
    simp only [wipeP, go_bind, go_Tvar, go_Csome, go_cmp, go_tup, go_Econs, go_Enil, go_var, List.set_cons_succ, List.set_cons_zero, List.getElem?_cons_zero, List.getElem?_cons_succ]
    refine ⟨l2, ?_⟩
    rw [in_cop, go_ok]
    simp only [go_cmp, go_tup, go_Econs, go_Enil, go_var, List.getElem?_cons_zero, List.getElem?_cons_succ]
    refine ⟨l2, ?_⟩
    rw [in_cop, go_ok, bne_cop, go_ok, go_truth]
    cases (r L i a != r L j a) <;> simp)]
  rw [filt_pure (gOf_ev _), go_ok]
  have lo : ∀ f : Fin 8 → Bool, lineOk ((E.filter f).map ev).length = true := fun f => decide_eq_true (Nat.le_of_lt (small (by rw [List.length_map]; have := List.length_filter_le f E; omega)))
  refine ⟨lo _, ?_⟩
  simp only [Src.done, go_ok, go_Tvar, List.set_cons_succ, List.set_cons_zero, go_Scons, go_Sret, go_cmp, go_bin, go_comp, go_Ival, go_var, List.getElem?_cons_zero, List.getElem?_cons_succ, hsrc, hlk]
  rw [turns_pure (g := gOf fun x => r L x i != r L x j) hst _ (fun x hx => by
    obtain ⟨a, _, rfl⟩ := List.mem_map.mp hx
    rw [gOf_ev]
    refine eq_of_go ?_
    unfold compStep
    simp only [wipeP, go_bind, go_Tvar, go_Csome, go_cmp, go_tup, go_Econs, go_Enil, go_var, List.set_cons_succ, List.set_cons_zero, List.getElem?_cons_zero, List.getElem?_cons_succ]
    refine ⟨l2, ?_⟩
    rw [in_cop, go_ok]
    simp only [go_cmp, go_tup, go_Econs, go_Enil, go_var, List.getElem?_cons_zero, List.getElem?_cons_succ]
    refine ⟨l2, ?_⟩
    rw [in_cop, go_ok, bne_cop, go_ok, go_truth]
    cases (r L a i != r L a j) <;> simp)]
  rw [filt_pure (gOf_ev _), go_ok]
  refine ⟨lo _, ?_⟩
  rw [add_fl (by rw [List.length_map, List.length_map]; have := List.length_filter_le (fun x => r L i x != r L j x) E; have := List.length_filter_le (fun x => r L x i != r L x j) E; omega), go_ok]
  simp only [go_lst, go_Enil]
  refine ⟨l0, ?_⟩
  rw [← List.map_append]
  show Go ((eqP _ _ _).bind _) _
  rw [nil_fl]
  refine ⟨?_, rfl⟩
  congr 1
  rw [Bool.eq_iff_iff]
  unfold al
  rw [List.isEmpty_iff, List.append_eq_nil_iff, List.filter_eq_nil_iff, List.filter_eq_nil_iff, List.all_eq_true]
  constructor
  · rintro ⟨h1, h2⟩ o ho
    have a := h1 o ho
    have b := h2 o ho
    simp only [bne_iff_ne, ne_eq, Decidable.not_not] at a b
    rw [a, b]; simp
  · intro h
    refine ⟨fun o ho => ?_, fun o ho => ?_⟩
    · have := h o ho
      rw [Bool.and_eq_true] at this
      simpa using this.1
    · have := h o ho
      rw [Bool.and_eq_true] at this
      simpa using this.2
end K59
end
section
set_option Elab.async false
set_option linter.all false
set_option maxRecDepth 100000
set_option maxHeartbeats 4000000
namespace K59
open Mw PySem
/-! ### sorting -/
def srt (E : List (Fin 8)) : List (Fin 8) := E.mergeSort fun i j => decide (i ≤ j)
theorem srt_ev (E : List (Fin 8)) : sortP (E.map ev) = (srt E).map ev := by
  unfold sortP srt
  exact (List.map_mergeSort fun a _ b _ => (ev_le a b).symm).symm
theorem ok_ev (E : List (Fin 8)) (hE : E.length ≤ 8) : sortOk (E.map ev) = true := by
  unfold sortOk
  simp only [Bool.and_eq_true, Bool.or_eq_true, List.all_eq_true, decide_eq_true_eq, List.mem_map, forall_exists_index, and_imp, forall_apply_eq_imp_iff₂]
  refine ⟨⟨⟨fun i _ => ⟨rfl, ?_⟩, fun i _ j _ => ?_⟩, .inl fun i _ => rfl⟩, ?_⟩
  · rw [ev_enc, (ev_lay i).2]; decide
  · rw [ev_enc, ev_enc]; exact ev_alike i j
  · exact decide_eq_true (Nat.le_of_lt (small (by rw [List.length_map]; omega)))
theorem sorted_ev {E : List (Fin 8)} {p : PV} {α : AH} (hp : itemsS α p = some (E.map ev)) (hE : E.length ≤ 8) : b1 .sorted p α = .ok (.fl ((srt E).map ev)) α := by
  unfold b1
  simp only [hp]
  rw [ok_ev E hE, need_true, srt_ev]
theorem srt_perm (E : List (Fin 8)) : (srt E).Perm E := List.mergeSort_perm _ _
theorem srt_sorted (E : List (Fin 8)) : (srt E).Pairwise (fun i j => i ≤ j) := by
  have := List.pairwise_mergeSort (le := fun i j : Fin 8 => decide (i ≤ j)) (fun a b c h1 h2 => by
    rw [decide_eq_true_eq] at *; exact Fin.le_trans h1 h2) (fun a b => by
    rw [Bool.or_eq_true, decide_eq_true_eq, decide_eq_true_eq]; exact Fin.le_total a b) E
  exact this.imp fun h => of_decide_eq_true h
theorem srt_eq {E E' : List (Fin 8)} (h : E.Perm E') : srt E = srt E' := by
  refine List.Perm.eq_of_pairwise (le := fun i j => i ≤ j) (fun a b _ _ h1 h2 => Fin.le_antisymm h1 h2) (srt_sorted E) (srt_sorted E') ?_
  exact ((srt_perm E).trans h).trans (srt_perm E').symm
/-! ### classes -/
section
variable (q : Fin 8 → Fin 8 → Bool)
def cls : Nat → List (Fin 8) → List (List (Fin 8))
  | 0, _ => []
  | _ + 1, [] => []
  | n + 1, x :: l => ((x :: l).filter (q x)) :: cls n ((x :: l).filter fun y => !q x y)
def updG (i : Fin 8) : List (List (Fin 8)) → List (List (Fin 8))
  | [] => [[i]]
  | g :: gs => if (match g with
    | h :: _ => q h i
    | [] => false) = true then (g ++ [i]) :: gs else g :: updG i gs
variable {q}
theorem cls_snoc (rf : ∀ i, q i i = true) (sy : ∀ i j, q i j = true → q j i = true) (tr : ∀ i j k, q i j = true → q j k = true → q i k = true) (i : Fin 8) : ∀ (n : Nat) (pre : List (Fin 8)), pre.length < n → cls q n (pre ++ [i]) = updG q i (cls q n pre)
  | 0, _, h => absurd h (Nat.not_lt_zero _)
  | n + 1, [], _ => by
    cases n with
    | zero => simp [cls, updG, rf]
    | succ n => simp [cls, updG, rf]
  | n + 1, x :: l, h => by
    have hl : ((x :: l).filter fun y => !q x y).length < n := by
      rw [List.filter_cons_of_neg (by simp [rf])]
      have := List.length_filter_le (fun y => !q x y) l
      rw [List.length_cons] at h
      omega
    have ih := cls_snoc rf sy tr i n _ hl
    have e1 : (x :: l).filter (q x) = x :: l.filter (q x) := by rw [List.filter_cons_of_pos (rf x)]
    rw [List.cons_append]
    show ((x :: (l ++ [i])).filter (q x)) :: cls q n ((x :: (l ++ [i])).filter fun y => !q x y) = updG q i (((x :: l).filter (q x)) :: cls q n ((x :: l).filter fun y => !q x y))
    rw [← List.cons_append, List.filter_append, List.filter_append]
    unfold updG
    rw [e1]
    cases hq : q x i with
    | true =>
      simp [hq]
    | false =>
      simp only [hq]
      rw [show [i].filter (q x) = [] by simp [hq], List.append_nil, show [i].filter (fun y => !q x y) = [i] by simp [hq], ih]
      rfl
theorem cls_mem (rf : ∀ i, q i i = true) : ∀ (n : Nat) (l g : List (Fin 8)), g ∈ cls q n l → ∃ x r, g = x :: r ∧ ∀ y ∈ g, y ∈ l
  | 0, _, _, h => by simp [cls] at h
  | _ + 1, [], _, h => by simp [cls] at h
  | n + 1, x :: l, g, h => by
    unfold cls at h
    rcases List.mem_cons.mp h with rfl | h
    · refine ⟨x, l.filter (q x), by rw [List.filter_cons_of_pos (rf x)], fun y hy => (List.mem_filter.mp hy).1⟩
    · obtain ⟨y, r, e, hm⟩ := cls_mem rf n _ g h
      exact ⟨y, r, e, fun z hz => (List.mem_filter.mp (hm z hz)).1⟩
theorem cls_len : ∀ (n : Nat) (l : List (Fin 8)), (cls q n l).length ≤ n
  | 0, _ => by simp [cls]
  | _ + 1, [] => by simp [cls]
  | n + 1, x :: l => by
    have := cls_len n ((x :: l).filter fun y => !q x y)
    unfold cls
    rw [List.length_cons]; omega
end
theorem al_refl (L : Tb) (E : List (Fin 8)) (i : Fin 8) : al L E i i = true := by simp [al]
theorem al_iff (L : Tb) (E : List (Fin 8)) (i j : Fin 8) : al L E i j = true ↔ ∀ o ∈ E, r L i o = r L j o ∧ r L o i = r L o j := by
  unfold al
  rw [List.all_eq_true]
  simp
theorem al_symm (L : Tb) (E : List (Fin 8)) (i j : Fin 8) (h : al L E i j = true) : al L E j i = true := by
  rw [al_iff] at *
  exact fun o ho => ⟨(h o ho).1.symm, (h o ho).2.symm⟩
theorem al_trans (L : Tb) (E : List (Fin 8)) (i j k : Fin 8) (h : al L E i j = true) (h2 : al L E j k = true) : al L E i k = true := by
  rw [al_iff] at *
  exact fun o ho => ⟨(h o ho).1.trans (h2 o ho).1, (h o ho).2.trans (h2 o ho).2⟩
/-- a class as a value -/
def tg (g : List (Fin 8)) : PV := .tup (g.map ev)
/-- what both come to -/
def res (L : Tb) (E : List (Fin 8)) : List (List (Fin 8)) := cls (al L E) 9 (srt E)
/-! ### the law's own classes -/
theorem due_ok (d : Nat) (L : Tb) (E : List (Fin 8)) (hE : E.length ≤ 8) (k : Nat) (α : AH) (hk : α[k]? = some (.lst (E.map ev))) : ∃ g, callD fs (d + 2) 8 [tb L, .ref k] α = .ok (.tup ((res L E).map tg)) (α ++ g) := by
  suffices h : Go (callD fs (d + 2) 8 [tb L, .ref k] α) (fun b a => b = .tup ((res L E).map tg) ∧ ∃ g, a = α ++ g) by
    obtain ⟨b, a, e, rfl, g, rfl⟩ := h.ex
    exact ⟨g, e⟩
  rw [go_run (fd := f_law_due) rfl]
  refine ⟨rfl, ?_⟩
  show Go (dSs (callD fs (d + 1)) b_law_due _ _) _
  unfold b_law_due
  have hlt : k < α.length := (List.getElem?_eq_some_iff.mp hk).1
  have hk2 : ∀ g : AH, (α ++ g)[k]? = some (.lst (E.map ev)) := fun g => by rw [List.getElem?_append_left hlt]; exact hk
  have hso : b1 .sorted (.ref k) (α ++ [.lst []]) = .ok (.fl ((srt E).map ev)) (α ++ [.lst []]) := sorted_ev (by simp [itemsS, itemsL, hk2]) hE
  simp only [startP, f_law_due, List.map_cons, List.map_nil, List.length_cons, List.length_nil, List.cons_append, List.nil_append, List.replicate, go_Scons, go_Sasg, go_tup, go_Econs, go_Enil, go_join, go_lst, go_b1, go_var, List.getElem?_cons_zero, List.getElem?_cons_succ]
  refine ⟨l0, ?_⟩
  rw [show joinP (.fl []) α = .ok (.ref α.length) (α ++ [.lst []]) from rfl]
  simp only [go_ok, go_Econs, go_Enil, go_b1, go_var, List.getElem?_cons_zero, List.getElem?_cons_succ]
  rw [hso]
  simp only [go_ok]
  refine ⟨l2, ?_⟩
  simp only [go_Ttup, go_Tcons, go_Tvar, go_Tnil, List.set_cons_succ, List.set_cons_zero]
  rw [go_Scons]
  show Go (whileM (fun ρ α => (dE (callD fs (d + 1)) _ ρ α).bind fun p α => truth p α) (fun ρ α => dSs (callD fs (d + 1)) _ ρ α) _ _) _
  have hsl : (srt E).length = E.length := (srt_perm E).length_eq
  refine whl_inv (I := fun n ρ α' => ∃ (left : List (Fin 8)) (gs : List (List (Fin 8))) (y z : Option PV), left.length ≤ n ∧ n ≤ 8 ∧ gs.length + n ≤ 8 ∧ gs ++ cls (al L E) (n + 1) left = res L E ∧
    ρ = [some (tb L), some (.ref k), some (.ref α.length), some (.fl (left.map ev)), y, z] ∧ α' = α ++ [.lst (gs.map tg)]) ?_ 8 _ _ ⟨srt E, [], none, none, by omega, by omega, by simp, rfl, rfl, rfl⟩
  rintro n ρ α' ⟨left, gs, y, z, h1, h2, h3, h4, rfl, rfl⟩
  simp only [go_bind, go_cmp, go_lst, go_Enil, go_var, List.getElem?_cons_zero, List.getElem?_cons_succ]
  refine ⟨l0, ?_⟩
  have hne : cop .ne (.fl (left.map ev)) (.fl []) (α ++ [.lst (gs.map tg)]) = .ok (.bl (!left.isEmpty)) (α ++ [.lst (gs.map tg)]) := by
    show (eqP _ _ _).bind _ = _
    rw [nil_fl]; rfl
  rw [hne, go_ok, go_truth]
  cases left with
  | nil =>
    show Go (dSs (callD fs (d + 1)) _ _ _) _
    simp only [go_Scons, go_Sret, go_b1, go_var, List.getElem?_cons_zero, List.getElem?_cons_succ]
    rw [tupL (xs := gs.map tg) (by simp), go_ok]
    have : gs = res L E := by rw [← h4]; simp [cls]
    rw [this]
    exact ⟨rfl, _, rfl⟩
  | cons x l =>
    simp only [List.isEmpty_cons, Bool.not_false]
    rw [List.length_cons] at h1
    cases n with
    | zero => omega
    | succ n =>
    have lo : ∀ f : Fin 8 → Bool, lineOk (((x :: l).filter f).map ev).length = true := fun f => decide_eq_true (Nat.le_of_lt (small (by rw [List.length_map]; have := List.length_filter_le f (x :: l); rw [List.length_cons] at this; omega)))
    simp only [go_Scons, go_Sasg, go_comp, go_Ival, go_var, List.getElem?_cons_zero, List.getElem?_cons_succ]
    show Go (turns (Src.still ⟨(x :: l).map ev, none⟩) _ ((x :: l).map ev) (α ++ [AO.lst _])) _
    rw [turns_pure (g := gOf (al L E x)) rfl _ (fun w hw => by
      obtain ⟨a, _, rfl⟩ := List.mem_map.mp hw
      rw [gOf_ev]
      refine eq_of_go ?_
      unfold compStep
      simp only [wipeP, go_bind, go_Tvar, go_Csome, go_call, go_Econs, go_Enil, go_ix, go_int, go_var, List.set_cons_succ, List.set_cons_zero, List.getElem?_cons_zero, List.getElem?_cons_succ]
      rw [show PV.int 0 = .int ((0 : Nat) : Int) from rfl, ix_fl (i := 0) (x := ev x) (by simp), go_ok]
      simp only [go_Econs, go_Enil, go_var, List.getElem?_cons_zero, List.getElem?_cons_succ]
      rw [alike_ok d L E hE x a k _ (hk2 _), go_ok, go_truth]
      cases (al L E x a) <;> simp), filt_pure (gOf_ev _), go_ok]
    refine ⟨lo _, ?_⟩
    obtain ⟨p1, p2⟩ := appL (α := α ++ [.lst (gs.map tg)]) (k := α.length) (xs := gs.map tg) (x := tg ((x :: l).filter (al L E x))) (by simp) (small (by rw [List.length_map]; omega))
    simp only [Src.done, go_ok, go_Tvar, List.set_cons_succ, List.set_cons_zero, go_Scons, go_Sexpr, go_mth, go_Econs, go_Enil, go_b1, go_var, List.getElem?_cons_zero, List.getElem?_cons_succ]
    refine ⟨p1, ?_⟩
    rw [show b1 .tuple (.fl (((x :: l).filter (al L E x)).map ev)) (α ++ [.lst (gs.map tg)]) = .ok (tg ((x :: l).filter (al L E x))) (α ++ [.lst (gs.map tg)]) from rfl, go_ok, p2, go_ok]
    have e1 : (α ++ [AO.lst (gs.map tg)]).set α.length (.lst (gs.map tg ++ [tg ((x :: l).filter (al L E x))])) = α ++ [.lst ((gs ++ [(x :: l).filter (al L E x)]).map tg)] := by
      rw [List.set_append_right _ _ (Nat.le_refl _)]; simp
    rw [e1]
    simp only [go_Scons, go_Sasg, go_comp, go_Ival, go_var, List.getElem?_cons_zero, List.getElem?_cons_succ]
    show Go (turns (Src.still ⟨(x :: l).map ev, none⟩) _ ((x :: l).map ev) (α ++ [AO.lst _])) _
    rw [turns_pure (g := gOf fun j => !((x :: l).filter (al L E x)).contains j) rfl _ (fun w hw => by
      obtain ⟨a, _, rfl⟩ := List.mem_map.mp hw
      rw [gOf_ev]
      refine eq_of_go ?_
      unfold compStep
      simp only [wipeP, go_bind, go_Tvar, go_Csome, go_cmp, go_var, List.set_cons_succ, List.set_cons_zero, List.getElem?_cons_zero, List.getElem?_cons_succ]
      show Go ((inP _ _ _).bind _) _
      rw [in_fl, Res.ok_bind, go_ok, go_truth]
      cases (((x :: l).filter (al L E x)).contains a) <;> simp), filt_pure (gOf_ev _), go_ok]
    refine ⟨lo _, ?_⟩
    simp only [Src.done, go_ok, go_Tvar, List.set_cons_succ, List.set_cons_zero, go_Snil]
    have e2 : (x :: l).filter (fun j => !((x :: l).filter (al L E x)).contains j) = (x :: l).filter fun j => !al L E x j := by
      refine List.filter_congr fun j hj => ?_
      congr 1
      rw [Bool.eq_iff_iff, List.contains_iff_mem, List.mem_filter]
      exact ⟨fun h => h.2, fun h => ⟨hj, h⟩⟩
    rw [e2]
    refine ⟨n, by omega, (x :: l).filter fun j => !al L E x j, gs ++ [(x :: l).filter (al L E x)], _, _, ?_, by omega, by rw [List.length_append, List.length_singleton]; omega, ?_, rfl, rfl⟩
    · rw [List.filter_cons_of_neg (by simp [al_refl])]
      have := List.length_filter_le (fun j => !al L E x j) l
      omega
    · rw [← h4, List.append_assoc]; rfl
end K59
end
section
set_option Elab.async false
set_option linter.all false
set_option maxRecDepth 100000
set_option maxHeartbeats 4000000
namespace K59
open Mw PySem
/-! ### classes as data -/
def tgD (g : List (Fin 8)) : PyData := .tuple (g.map evD)
theorem tg_toP (g : List (Fin 8)) : toP (tg g) = some (tgD g) := by
  show (toPs (g.map ev)).map _ = _
  rw [evs_toPs]; rfl
theorem tg_enc (g : List (Fin 8)) : enc (tg g) = tgD g := enc_of (tg_toP g)
theorem evs_alike : ∀ g g' : List (Fin 8), PySem.W.alikeAll (g.map evD) (g'.map evD) = true
  | [], _ => by simp [PySem.W.alikeAll]
  | _ :: _, [] => by simp [PySem.W.alikeAll]
  | i :: g, j :: g' => by simp [PySem.W.alikeAll, ev_alike, evs_alike g g']
theorem tg_alike (g g' : List (Fin 8)) : PySem.W.alike (tgD g) (tgD g') = true := by
  simp [tgD, PySem.W.alike, evs_alike]
theorem tg_depth (g : List (Fin 8)) : (tgD g).depth ≤ 2 := by
  have := (evs_lay g).2
  simp only [tgD, PyData.depth]; omega
/-- one begins before the other -/
def hdLt (g g' : List (Fin 8)) : Prop := ∃ x r y s, g = x :: r ∧ g' = y :: s ∧ x < y
theorem tg_le {g g' : List (Fin 8)} (h : hdLt g g') : PySem.W.dataLe false enc (tg g) (tg g') = true := by
  obtain ⟨x, r, y, s, rfl, rfl, h⟩ := h
  rw [PySem.W.dataLe_eq]
  show (!PySem.W.dataLt (enc (tg (y :: s))) (enc (tg (x :: r)))) = true
  rw [tg_enc, tg_enc]
  unfold tgD
  rw [PySem.W.dataLt_tuple, List.map_cons, List.map_cons, PySem.W.dataLt_all_no (ev_alike _ _) (by rw [ev_eqv]; exact decide_eq_false fun e => by rw [e] at h; exact absurd h (by simp)), ev_lt]
  simp only [Bool.not_eq_true', decide_eq_false_iff_not]
  omega
theorem cls_asc {q : Fin 8 → Fin 8 → Bool} (rf : ∀ i, q i i = true) : ∀ (n : Nat) (l : List (Fin 8)), l.Pairwise (fun i j => i ≤ j) → (cls q n l).Pairwise hdLt
  | 0, _, _ => by simp [cls]
  | _ + 1, [], _ => by simp [cls]
  | n + 1, x :: l, h => by
    unfold cls
    rw [List.pairwise_cons]
    refine ⟨fun g hg => ?_, cls_asc rf n _ (h.filter _)⟩
    obtain ⟨y, s, rfl, hm⟩ := cls_mem rf n _ g hg
    have hy := List.mem_filter.mp (hm y List.mem_cons_self)
    refine ⟨x, l.filter (q x), y, s, by rw [List.filter_cons_of_pos (rf x)], rfl, ?_⟩
    have hne : y ≠ x := fun e => by rw [e, rf x] at hy; simp at hy
    rcases List.mem_cons.mp hy.1 with e | hy2
    · exact absurd e hne
    · have := (List.pairwise_cons.mp h).1 y hy2
      omega
theorem tgs_sorted {α : AH} {gs : List (List (Fin 8))} (h : gs.Pairwise hdLt) (hn : ∀ g ∈ gs, g ≠ []) (hl : gs.length < 1000) : b1 .sorted (.fl (gs.map tg)) α = .ok (.fl (gs.map tg)) α := by
  have e : b1 .sorted (.fl (gs.map tg)) α = need (sortOk (gs.map tg)) (.ok (.fl (sortP (gs.map tg))) α) := rfl
  rw [e]
  have ok : sortOk (gs.map tg) = true := by
    unfold sortOk
    simp only [Bool.and_eq_true, Bool.or_eq_true, List.all_eq_true, decide_eq_true_eq, List.mem_map, forall_exists_index, and_imp, forall_apply_eq_imp_iff₂]
    refine ⟨⟨⟨fun g _ => ⟨by rw [tg_toP]; rfl, ?_⟩, fun g _ g' _ => ?_⟩, .inl fun g hg => ?_⟩, ?_⟩
    · rw [tg_enc]; have := tg_depth g; omega
    · rw [tg_enc, tg_enc]; exact tg_alike g g'
    · cases g with
      | nil => exact absurd rfl (hn _ hg)
      | cons x r => rfl
    · exact decide_eq_true (Nat.le_of_lt (small (by rw [List.length_map]; omega)))
  rw [ok, need_true]
  congr 2
  unfold sortP
  refine List.mergeSort_of_pairwise ?_
  rw [List.pairwise_map]
  exact h.imp fun h => tg_le h
/-! ### the keys -/
def rwP (L : Tb) (E : List (Fin 8)) (i : Fin 8) : PV := .tup (E.map fun o => .bl (r L i o))
def clP (L : Tb) (E : List (Fin 8)) (i : Fin 8) : PV := .tup (E.map fun o => .bl (r L o i))
def keyP (L : Tb) (E : List (Fin 8)) (i : Fin 8) : PV := .tup [rwP L E i, clP L E i]
def nb (b : Bool) : NestedKey := .num (if b then 1 else 0)
theorem bls_nks (f : Fin 8 → Bool) : ∀ E : List (Fin 8), nksOf (E.map fun o => PV.bl (f o)) = some (E.map fun o => nb (f o))
  | [] => rfl
  | o :: E => by simp only [List.map_cons, nksOf, bls_nks f E]; rfl
theorem bls_depth (f : Fin 8 → Bool) : ∀ E : List (Fin 8), NestedKey.depthAll (E.map fun o => nb (f o)) = 0
  | [] => rfl
  | o :: E => by simp only [List.map_cons, NestedKey.depthAll, bls_depth f E]; rfl
theorem key_nk (L : Tb) (E : List (Fin 8)) (i : Fin 8) : nkOf (keyP L E i) = some (.tup [.tup (E.map fun o => nb (r L i o)), .tup (E.map fun o => nb (r L o i))]) := by
  have e1 : nkOf (rwP L E i) = some (.tup (E.map fun o => nb (r L i o))) := by
    show (nksOf _).map _ = _
    rw [bls_nks]; rfl
  have e2 : nkOf (clP L E i) = some (.tup (E.map fun o => nb (r L o i))) := by
    show (nksOf _).map _ = _
    rw [bls_nks]; rfl
  show (nksOf [rwP L E i, clP L E i]).map _ = _
  simp only [nksOf, e1, e2]
  rfl
theorem key_mode (L : Tb) (E : List (Fin 8)) (i : Fin 8) : kmode (keyP L E i) = some true := by
  have e : kmode (keyP L E i) = (match nkOf (keyP L E i) with
    | some q => if q.depth ≤ 8 then some true else none
    | none => none) := rfl
  rw [e, key_nk]
  simp [NestedKey.depth, NestedKey.depthAll, bls_depth]
theorem nb_inj {a b : Bool} : nb a = nb b ↔ a = b := by
  cases a <;> cases b <;> simp [nb]
theorem key_eq (L : Tb) (E : List (Fin 8)) (i j : Fin 8) : (nkOf (keyP L E i) = nkOf (keyP L E j)) ↔ al L E i j = true := by
  rw [key_nk, key_nk, al_iff]
  simp only [Option.some.injEq, NestedKey.tup.injEq, List.cons.injEq, and_true, List.map_inj_left, nb_inj]
  exact ⟨fun h o ho => ⟨h.1 o ho, h.2 o ho⟩, fun h => ⟨fun o ho => (h o ho).1, fun o ho => (h o ho).2⟩⟩
/-! ### the dict of classes -/
section
variable {L : Tb} {E : List (Fin 8)} {n : Nat}
/-- the dict keeps the classes, each in a list of its own -/
def Mt (L : Tb) (E : List (Fin 8)) (n : Nat) (ls : AH) : List (PV × PV) → List (List (Fin 8)) → Prop
  | [], [] => True
  | e :: kvs, g :: gs => (∃ i s a, g = i :: s ∧ e = (keyP L E i, .ref (n + a)) ∧ ls[a]? = some (.lst (g.map ev))) ∧ (∀ e' ∈ kvs, e'.2 ≠ e.2) ∧ Mt L E n ls kvs gs
  | _, _ => False
theorem Mt.len {ls : AH} : ∀ {kvs : List (PV × PV)} {gs : List (List (Fin 8))}, Mt L E n ls kvs gs → kvs.length = gs.length
  | [], [], _ => rfl
  | _ :: _, _ :: _, h => by rw [List.length_cons, List.length_cons, Mt.len h.2.2]
  | [], _ :: _, h => h.elim
  | _ :: _, [], h => h.elim
theorem Mt.mode {ls : AH} : ∀ {kvs : List (PV × PV)} {gs : List (List (Fin 8))}, Mt L E n ls kvs gs → ∀ e ∈ kvs, kmode e.1 = some true
  | [], [], _ => fun _ h => by cases h
  | _ :: _, _ :: _, h => fun e he => by
    obtain ⟨i, s, a, _, rfl, _⟩ := h.1
    rcases List.mem_cons.mp he with rfl | he
    · exact key_mode L E i
    · exact Mt.mode h.2.2 e he
  | [], _ :: _, h => h.elim
  | _ :: _, [], h => h.elim
theorem Mt.refs {ls : AH} : ∀ {kvs : List (PV × PV)} {gs : List (List (Fin 8))}, Mt L E n ls kvs gs → ∀ e ∈ kvs, ∃ a, e.2 = .ref (n + a) ∧ a < ls.length
  | [], [], _ => fun _ h => by cases h
  | _ :: _, _ :: _, h => fun e he => by
    obtain ⟨i, s, a, _, rfl, q⟩ := h.1
    rcases List.mem_cons.mp he with rfl | he
    · exact ⟨a, rfl, (List.getElem?_eq_some_iff.mp q).1⟩
    · exact Mt.refs h.2.2 e he
  | [], _ :: _, h => h.elim
  | _ :: _, [], h => h.elim
/-- the lists of the dict stand as they stood -/
theorem Mt.keep {ls ls' : AH} : ∀ {kvs : List (PV × PV)} {gs : List (List (Fin 8))}, Mt L E n ls kvs gs → (∀ e ∈ kvs, ∀ a, e.2 = .ref (n + a) → ls'[a]? = ls[a]?) → Mt L E n ls' kvs gs
  | [], [], _, _ => trivial
  | _ :: _, _ :: _, h, hk => by
    obtain ⟨i, s, a, e1, e2, q⟩ := h.1
    refine ⟨⟨i, s, a, e1, e2, ?_⟩, h.2.1, Mt.keep h.2.2 fun e he => hk e (List.mem_cons_of_mem _ he)⟩
    rw [hk _ List.mem_cons_self a (by rw [e2]), q]
  | [], _ :: _, h, _ => h.elim
  | _ :: _, [], h, _ => h.elim
theorem Mt.hit {ls : AH} {i : Fin 8} {v : PV} : ∀ {kvs : List (PV × PV)} {gs : List (List (Fin 8))}, Mt L E n ls kvs gs → dfind kvs (keyP L E i) = some v →
    (∃ e ∈ kvs, e.2 = v) ∧ ∃ a xs, v = .ref (n + a) ∧ ls[a]? = some (AO.lst xs) ∧ xs.length ≤ (gs.map List.length).sum ∧ Mt L E n ((ls ++ [AO.lst []]).set a (AO.lst (xs ++ [ev i]))) kvs (updG (al L E) i gs)
  | [], [], _, hf => by cases hf
  | e :: kvs, g :: gs, h, hf => by
    obtain ⟨j, s, a, rfl, rfl, q⟩ := h.1
    have hlt := (List.getElem?_eq_some_iff.mp q).1
    rw [dfind_cons] at hf
    cases ha : al L E j i with
    | true =>
      rw [if_pos ((key_eq L E j i).mpr ha)] at hf
      cases hf
      refine ⟨⟨_, List.mem_cons_self, rfl⟩, a, _, rfl, q, by simp, ?_⟩
      unfold updG
      simp only [ha, if_true]
      refine ⟨⟨j, s ++ [i], a, rfl, rfl, ?_⟩, h.2.1, h.2.2.keep fun e he b hb => ?_⟩
      · rw [List.getElem?_set_self (by rw [List.length_append]; omega)]; simp
      · have hne : a ≠ b := fun e' => by
          have := h.2.1 e he
          rw [hb, e'] at this
          exact this rfl
        obtain ⟨b', hb', hlt'⟩ := h.2.2.refs e he
        rw [hb, PV.ref.injEq] at hb'
        have hlt2 : b < ls.length := by omega
        rw [List.getElem?_set_ne hne, List.getElem?_append_left hlt2]
    | false =>
      rw [if_neg (fun z => by rw [(key_eq L E j i).mp z] at ha; cases ha)] at hf
      obtain ⟨⟨e, he, rfl⟩, b, xs, h1, h2, h3, h4⟩ := Mt.hit h.2.2 hf
      refine ⟨⟨e, List.mem_cons_of_mem _ he, rfl⟩, b, xs, h1, h2, by rw [List.map_cons, List.sum_cons]; omega, ?_⟩
      unfold updG
      simp only [ha]
      have hne : b ≠ a := fun e' => by
        have := h.2.1 e he
        rw [h1, e'] at this
        exact this rfl
      refine ⟨⟨j, s, a, rfl, rfl, ?_⟩, h.2.1, h4⟩
      rw [List.getElem?_set_ne hne, List.getElem?_append_left hlt, q]
  | [], _ :: _, h, _ => h.elim
  | _ :: _, [], h, _ => h.elim
theorem Mt.miss {ls : AH} {i : Fin 8} : ∀ {kvs : List (PV × PV)} {gs : List (List (Fin 8))}, Mt L E n ls kvs gs → dfind kvs (keyP L E i) = none →
    Mt L E n (ls ++ [.lst [ev i]]) (kvs ++ [(keyP L E i, .ref (n + ls.length))]) (updG (al L E) i gs)
  | [], [], _, _ => ⟨⟨i, [], ls.length, rfl, rfl, by simp⟩, fun _ h => (List.not_mem_nil h).elim, trivial⟩
  | e :: kvs, g :: gs, h, hf => by
    obtain ⟨j, s, a, rfl, rfl, q⟩ := h.1
    have hlt := (List.getElem?_eq_some_iff.mp q).1
    rw [dfind_cons] at hf
    cases ha : al L E j i with
    | true =>
      rw [if_pos ((key_eq L E j i).mpr ha)] at hf
      cases hf
    | false =>
      rw [if_neg (fun z => by rw [(key_eq L E j i).mp z] at ha; cases ha)] at hf
      unfold updG
      simp only [ha]
      refine ⟨⟨j, s, a, rfl, rfl, ?_⟩, fun e he => ?_, Mt.miss h.2.2 hf⟩
      · rw [List.getElem?_append_left hlt, q]
      · rcases List.mem_append.mp he with he | he
        · exact h.2.1 e he
        · rw [List.mem_singleton] at he
          subst he
          intro z
          rw [PV.ref.injEq] at z
          omega
  | [], _ :: _, h, _ => h.elim
  | _ :: _, [], h, _ => h.elim
/-- what a place holds, as a tuple -/
def tupAt (α : AH) (p : PV) : Option PV := match p with
  | .ref k => match α[k]? with
    | some (.lst xs) => some (.tup xs)
    | _ => none
  | _ => none
theorem Mt.read {ls α : AH} : ∀ {kvs : List (PV × PV)} {gs : List (List (Fin 8))}, Mt L E n ls kvs gs → (∀ a, α[n + a]? = ls[a]?) →
    (kvs.map (·.2)).filterMap (tupAt α) = gs.map tg ∧ ∀ p ∈ kvs.map (·.2), ∃ k xs, p = .ref k ∧ α[k]? = some (.lst xs)
  | [], [], _, _ => ⟨rfl, fun _ h => by cases h⟩
  | e :: kvs, g :: gs, h, hα => by
    obtain ⟨j, s, a, rfl, rfl, q⟩ := h.1
    obtain ⟨h1, h2⟩ := Mt.read h.2.2 hα
    have e1 : α[n + a]? = some (.lst ((j :: s).map ev)) := by rw [hα, q]
    constructor
    · rw [List.map_cons, List.filterMap_cons_some (b := tg (j :: s)) (by simp only [tupAt, e1]; rfl), h1, List.map_cons]
    · intro p hp
      rw [List.map_cons] at hp
      rcases List.mem_cons.mp hp with rfl | hp
      · exact ⟨_, _, rfl, e1⟩
      · exact h2 p hp
  | [], _ :: _, h, _ => h.elim
  | _ :: _, [], h, _ => h.elim
end
theorem updG_sum (q : Fin 8 → Fin 8 → Bool) (i : Fin 8) : ∀ gs : List (List (Fin 8)), ((updG q i gs).map List.length).sum = (gs.map List.length).sum + 1 ∧ (updG q i gs).length ≤ gs.length + 1
  | [] => by simp [updG]
  | g :: gs => by
    obtain ⟨h1, h2⟩ := updG_sum q i gs
    cases hb : (match g with
    | h :: _ => q h i
    | [] => false) with
    | true =>
      have e : updG q i (g :: gs) = (g ++ [i]) :: gs := if_pos hb
      rw [e]
      simp; omega
    | false =>
      have e : updG q i (g :: gs) = g :: updG q i gs := if_neg (fun z => Bool.false_ne_true (hb.symm.trans z))
      rw [e]
      simp only [List.map_cons, List.sum_cons, List.length_cons, h1]
      omega
end K59
end
section
set_option Elab.async false
set_option linter.all false
set_option maxRecDepth 100000
set_option maxHeartbeats 4000000
namespace K59
open Mw PySem
def gMap (f : Fin 8 → Bool) (p : PV) : Option PV := some (.bl (allE.any fun i => decide (p = ev i) && f i))
theorem gMap_ev (f : Fin 8 → Bool) (i : Fin 8) : gMap f (ev i) = some (.bl (f i)) := by
  unfold gMap
  have e : (allE.any fun j => decide (ev i = ev j) && f j) = f i := by
    rw [Bool.eq_iff_iff, List.any_eq_true]
    constructor
    · rintro ⟨j, _, h⟩
      rw [Bool.and_eq_true, decide_eq_true_eq] at h
      rw [ev_inj h.1]; exact h.2
    · intro h
      exact ⟨i, (by decide : ∀ i : Fin 8, i ∈ allE) i, by rw [h]; simp⟩
  rw [e]
theorem map_pure {f : Fin 8 → Bool} : ∀ l : List (Fin 8), (l.map ev).filterMap (gMap f) = l.map fun o => PV.bl (f o)
  | [] => rfl
  | i :: l => by rw [List.map_cons, List.filterMap_cons_some (gMap_ev f i), map_pure l, List.map_cons]
section
variable {α ls : AH} {A B : AO} {a : Nat}
theorem st_get : (α ++ A :: ls)[α.length]? = some A := by simp
theorem st_getn : (α ++ A :: ls)[α.length + 1 + a]? = ls[a]? := by
  rw [List.getElem?_append_right (by omega), show α.length + 1 + a - α.length = a + 1 by omega, List.getElem?_cons_succ]
theorem st_set : (α ++ A :: ls).set α.length B = α ++ B :: ls := by
  rw [List.set_append_right _ _ (Nat.le_refl _), Nat.sub_self, List.set_cons_zero]
theorem st_setn : (α ++ A :: ls).set (α.length + 1 + a) B = α ++ A :: ls.set a B := by
  rw [List.set_append_right _ _ (by omega), show α.length + 1 + a - α.length = a + 1 by omega, List.set_cons_succ]
theorem st_join : joinP (.fl []) (α ++ A :: ls) = .ok (.ref (α.length + 1 + ls.length)) (α ++ A :: (ls ++ [.lst []])) := by
  show Res.ok (PV.ref (α ++ A :: ls).length) ((α ++ A :: ls) ++ [.lst []]) = _
  rw [List.append_assoc, List.cons_append, List.length_append, List.length_cons, show α.length + (ls.length + 1) = α.length + 1 + ls.length by omega]
theorem tyD {k : Nat} {kvs : List (PV × PV)} (h : α[k]? = some (.dct kvs)) : isTy "dict" (.ref k) α = true := by
  have e : dctAt α (.ref k) = some (k, kvs) := by simp [dctAt, h]
  show (if "dict" = "list" then _ else if "dict" = "dict" then (dctAt α (.ref k)).isSome else false) = true
  rw [e]; rfl
theorem sdD {k : Nat} {kvs : List (PV × PV)} {q r : PV} (h : α[k]? = some (.dct kvs)) (hk : kok kvs q = true) (hm : kmode q = some true) (hl : kvs.length < sizeLine) : mP .setdefault (.ref k) [q, r] α = match dfind kvs q with
    | some v => .ok v α
    | none => .ok r (α.set k (.dct (kvs ++ [(q, r)]))) := by
  have e : dctAt α (.ref k) = some (k, kvs) := by simp [dctAt, h]
  have e2 : mP .setdefault (.ref k) [q, r] α = (match dctAt α (.ref k) with
    | some (k, kvs) => need (kok kvs q && decide (kmode q = some true) && decide (kvs.length < sizeLine)) (match dfind kvs q with
      | some v => .ok v α
      | none => .ok r (α.set k (.dct (kvs ++ [(q, r)]))))
    | none => .bad) := rfl
  rw [e2, e]
  simp only [hk, hm, hl, decide_true, Bool.and_self, need_true]
end
theorem modes_ok (d : Nat) (L : Tb) (E Ev : List (Fin 8)) (hE : E.length ≤ 8) (hp : Ev.Perm E) (α : AH) : ∃ g, callD fs (d + 1) 0 [tb L, .tup (Ev.map ev)] α = .ok (.tup ((res L E).map tg)) (α ++ g) := by
  have hEv : Ev.length ≤ 8 := by rw [hp.length_eq]; exact hE
  have hres : res L E = cls (al L Ev) 9 (srt Ev) := by
    unfold res
    rw [srt_eq hp, show al L E = al L Ev from funext fun i => funext fun j => by
      rw [Bool.eq_iff_iff, al_iff, al_iff]
      exact ⟨fun h o ho => h o (hp.mem_iff.mp ho), fun h o ho => h o (hp.mem_iff.mpr ho)⟩]
  suffices h : Go (callD fs (d + 1) 0 [tb L, .tup (Ev.map ev)] α) (fun b a => b = .tup ((res L E).map tg) ∧ ∃ g, a = α ++ g) by
    obtain ⟨b, a, e, rfl, g, rfl⟩ := h.ex
    exact ⟨g, e⟩
  rw [go_run (fd := f_modes) rfl]
  refine ⟨rfl, ?_⟩
  show Go (dSs (callD fs d) b_modes _ _) _
  unfold b_modes
  have hso : b1 .sorted (.tup (Ev.map ev)) (α ++ [.dct []]) = .ok (.fl ((srt Ev).map ev)) (α ++ [.dct []]) := sorted_ev rfl hEv
  have hsl : (srt Ev).length = Ev.length := (srt_perm Ev).length_eq
  have lo : ∀ f : Fin 8 → PV, lineOk (Ev.map f).length = true := fun f => decide_eq_true (Nat.le_of_lt (small (by rw [List.length_map]; omega)))
  simp only [startP, f_modes, List.map_cons, List.map_nil, List.length_cons, List.length_nil, List.cons_append, List.nil_append, List.replicate, go_Scons, go_Sasg, go_join, go_dct, go_Pnil]
  refine ⟨by decide, ?_⟩
  show Go (Res.ok (PV.ref α.length) (α ++ [.dct []])) _
  simp only [go_ok, go_Tvar, List.set_cons_succ, List.set_cons_zero, go_Scons, go_Sloop, go_Ival, go_b1, go_var, List.getElem?_cons_zero, List.getElem?_cons_succ]
  rw [hso, go_ok]
  show Go (turnsF (Src.still ⟨(srt Ev).map ev, none⟩) _ ((srt Ev).map ev) _ (α ++ [.dct []])) _
  refine turnsF_inv (I := fun rr ρ α' => ∃ (pre suf : List (Fin 8)) (ls : AH) (kvs : List (PV × PV)) (y3 y4 y5 : Option PV), pre ++ suf = srt Ev ∧ rr = suf.map ev ∧
    ρ = [some (tb L), some (.tup (Ev.map ev)), some (.ref α.length), y3, y4, y5, none, none] ∧ α' = α ++ .dct kvs :: ls ∧ Mt L Ev (α.length + 1) ls kvs (cls (al L Ev) 9 pre) ∧
    ((cls (al L Ev) 9 pre).map List.length).sum = pre.length) ?_ ?_ _ _ _ ⟨[], srt Ev, [], [], none, none, none, rfl, rfl, rfl, rfl, trivial, rfl⟩
  · rintro x rr ρ α' ⟨pre, suf, ls, kvs, y3, y4, y5, e1, e2, rfl, rfl, hM, hS⟩
    cases suf with
    | nil => cases e2
    | cons i suf =>
    rw [List.map_cons] at e2
    obtain ⟨rfl, rfl⟩ := List.cons.inj e2
    have hpl : pre.length + (suf.length + 1) ≤ 8 := by
      rw [← hsl, ← e1, List.length_append, List.length_cons] at hEv
      exact hEv
    have hgl := cls_len (q := al L Ev) 9 pre
    refine ⟨rfl, ?_⟩
    simp only [go_bind, go_Tvar, go_Scons, go_Sasg, go_b1, go_comp, go_Ival, go_var, List.set_cons_succ, List.set_cons_zero, List.getElem?_cons_zero, List.getElem?_cons_succ]
    show Go (turns (Src.still ⟨Ev.map ev, none⟩) _ (Ev.map ev) (α ++ AO.dct kvs :: ls)) _
    rw [turns_pure (g := gMap fun o => r L i o) rfl _ (fun w hw => by
      obtain ⟨o, _, rfl⟩ := List.mem_map.mp hw
      rw [gMap_ev]
      refine eq_of_go ?_
      unfold compStep
      simp only [wipeP, go_bind, go_Tvar, go_Cnone, go_cmp, go_tup, go_Econs, go_Enil, go_var, List.set_cons_succ, List.set_cons_zero, List.getElem?_cons_zero, List.getElem?_cons_succ]
      refine ⟨l2, ?_⟩
      rw [in_cop, go_ok, go_ok]
      exact ⟨rfl, rfl⟩), map_pure, go_ok]
    refine ⟨lo _, ?_⟩
    rw [show Src.done ⟨Ev.map ev, none⟩ (PV.fl (Ev.map fun o => PV.bl (r L i o))) (α ++ AO.dct kvs :: ls) = .ok (PV.fl (Ev.map fun o => PV.bl (r L i o))) (α ++ AO.dct kvs :: ls) from rfl, go_ok]
    rw [show b1 .tuple (PV.fl (Ev.map fun o => PV.bl (r L i o))) (α ++ AO.dct kvs :: ls) = .ok (rwP L Ev i) (α ++ AO.dct kvs :: ls) from rfl, go_ok]
    simp only [go_bind, go_Tvar, go_Scons, go_Sasg, go_b1, go_comp, go_Ival, go_var, List.set_cons_succ, List.set_cons_zero, List.getElem?_cons_zero, List.getElem?_cons_succ]
    show Go (turns (Src.still ⟨Ev.map ev, none⟩) _ (Ev.map ev) (α ++ AO.dct kvs :: ls)) _
    rw [turns_pure (g := gMap fun o => r L o i) rfl _ (fun w hw => by
      obtain ⟨o, _, rfl⟩ := List.mem_map.mp hw
      rw [gMap_ev]
      refine eq_of_go ?_
      unfold compStep
      simp only [wipeP, go_bind, go_Tvar, go_Cnone, go_cmp, go_tup, go_Econs, go_Enil, go_var, List.set_cons_succ, List.set_cons_zero, List.getElem?_cons_zero, List.getElem?_cons_succ]
      refine ⟨l2, ?_⟩
      rw [in_cop, go_ok, go_ok]
      exact ⟨rfl, rfl⟩), map_pure, go_ok]
    refine ⟨lo _, ?_⟩
    rw [show Src.done ⟨Ev.map ev, none⟩ (PV.fl (Ev.map fun o => PV.bl (r L o i))) (α ++ AO.dct kvs :: ls) = .ok (PV.fl (Ev.map fun o => PV.bl (r L o i))) (α ++ AO.dct kvs :: ls) from rfl, go_ok]
    rw [show b1 .tuple (PV.fl (Ev.map fun o => PV.bl (r L o i))) (α ++ AO.dct kvs :: ls) = .ok (clP L Ev i) (α ++ AO.dct kvs :: ls) from rfl, go_ok]
    simp only [go_bind, go_ok, go_Tvar, go_Scons, go_Sexpr, go_mth, go_Econs, go_Enil, go_tup, go_join, go_lst, go_var, List.set_cons_succ, List.set_cons_zero, List.getElem?_cons_zero, List.getElem?_cons_succ]
    refine ⟨tyD st_get, l2, l0, ?_⟩
    rw [st_join, go_ok]
    have hk : kok kvs (keyP L Ev i) = true := kok_of (key_mode L Ev i) hM.mode
    rw [show PV.tup [rwP L Ev i, clP L Ev i] = keyP L Ev i from rfl, sdD st_get hk (key_mode L Ev i) (small (by rw [hM.len]; omega))]
    have hcls : cls (al L Ev) 9 (pre ++ [i]) = updG (al L Ev) i (cls (al L Ev) 9 pre) := cls_snoc (al_refl L Ev) (al_symm L Ev) (al_trans L Ev) i 9 pre (by omega)
    have hsum : ((cls (al L Ev) 9 (pre ++ [i])).map List.length).sum = (pre ++ [i]).length := by
      rw [hcls, (updG_sum _ _ _).1, hS, List.length_append, List.length_singleton]
    cases hf : dfind kvs (keyP L Ev i) with
    | some v =>
      obtain ⟨_, a, xs, rfl, h2, h3, h4⟩ := hM.hit hf
      have hlt := (List.getElem?_eq_some_iff.mp h2).1
      obtain ⟨p1, p2⟩ := appL (α := α ++ .dct kvs :: (ls ++ [.lst []])) (k := α.length + 1 + a) (xs := xs) (x := ev i) (by rw [st_getn, List.getElem?_append_left hlt, h2]) (small (by omega))
      rw [go_ok]
      refine ⟨p1, ?_⟩
      simp only [go_Econs, go_Enil, go_var, List.getElem?_cons_zero, List.getElem?_cons_succ]
      rw [p2, go_ok, st_setn]
      simp only [go_Snil]
      exact ⟨pre ++ [i], suf, _, kvs, _, _, _, by rw [List.append_assoc]; exact e1, rfl, rfl, rfl, by rw [hcls]; exact h4, hsum⟩
    | none =>
      have h4 := hM.miss hf
      rw [go_ok, st_set]
      obtain ⟨p1, p2⟩ := appL (α := α ++ .dct (kvs ++ [(keyP L Ev i, .ref (α.length + 1 + ls.length))]) :: (ls ++ [.lst []])) (k := α.length + 1 + ls.length) (xs := []) (x := ev i) (by rw [st_getn]; simp) (small (by simp))
      refine ⟨p1, ?_⟩
      simp only [go_Econs, go_Enil, go_var, List.getElem?_cons_zero, List.getElem?_cons_succ]
      rw [p2, go_ok, st_setn]
      simp only [go_Snil]
      refine ⟨pre ++ [i], suf, _, _, _, _, _, by rw [List.append_assoc]; exact e1, rfl, rfl, rfl, ?_, hsum⟩
      rw [hcls, List.set_append_right _ _ (Nat.le_refl _), Nat.sub_self]
      exact h4
  · rintro ρ α' ⟨pre, suf, ls, kvs, y3, y4, y5, e1, e2, rfl, rfl, hM, hS⟩
    refine ⟨rfl, ?_⟩
    cases suf with
    | cons i suf => cases e2
    | nil =>
    rw [List.append_nil] at e1
    subst e1
    rw [show Src.done ⟨(srt Ev).map ev, none⟩ (Fl.nx [some (tb L), some (.tup (Ev.map ev)), some (.ref α.length), y3, y4, y5, none, none]) (α ++ .dct kvs :: ls) = .ok (Fl.nx [some (tb L), some (.tup (Ev.map ev)), some (.ref α.length), y3, y4, y5, none, none]) (α ++ .dct kvs :: ls) from rfl, go_ok]
    simp only [go_Scons, go_Sret, go_b1, go_comp, go_Ivals, go_var, List.getElem?_cons_zero, List.getElem?_cons_succ]
    have hsv : srcVals (.ref α.length) (α ++ .dct kvs :: ls) = .ok ⟨kvs.map (·.2), some (α.length, .ldct kvs)⟩ (α ++ .dct kvs :: ls) := by
      have e : dctAt (α ++ .dct kvs :: ls) (.ref α.length) = some (α.length, kvs) := by simp [dctAt]
      unfold srcVals
      rw [e]
    have hlk : Src.lock ⟨kvs.map (·.2), some (α.length, .ldct kvs)⟩ (α ++ .dct kvs :: ls) = α ++ .ldct kvs :: ls := by
      show (α ++ AO.dct kvs :: ls).set α.length (.ldct kvs) = _
      rw [st_set]
    rw [hsv, go_ok, hlk]
    obtain ⟨r1, r2⟩ := hM.read (α := α ++ .ldct kvs :: ls) (fun a => st_getn)
    have hst : Src.still ⟨kvs.map (·.2), some (α.length, .ldct kvs)⟩ (α ++ .ldct kvs :: ls) = true := by
      show decide _ = true
      rw [st_get]; simp
    rw [turns_pure (g := tupAt (α ++ .ldct kvs :: ls)) hst _ (fun w hw => by
      obtain ⟨k, xs, rfl, hk⟩ := r2 w hw
      have e : tupAt (α ++ .ldct kvs :: ls) (.ref k) = some (.tup xs) := by simp only [tupAt, hk]
      rw [e]
      refine eq_of_go ?_
      unfold compStep
      simp only [wipeP, go_bind, go_Tvar, go_Cnone, go_b1, go_var, List.set_cons_succ, List.set_cons_zero, List.getElem?_cons_zero, List.getElem?_cons_succ]
      rw [tupL hk, go_ok, go_ok]
      exact ⟨rfl, rfl⟩), r1, go_ok]
    have hgl := cls_len (q := al L Ev) 9 (srt Ev)
    refine ⟨decide_eq_true (Nat.le_of_lt (small (by rw [List.length_map]; omega))), ?_⟩
    have hdn : Src.done ⟨kvs.map (·.2), some (α.length, .ldct kvs)⟩ (PV.fl ((cls (al L Ev) 9 (srt Ev)).map tg)) (α ++ .ldct kvs :: ls) = .ok (PV.fl ((cls (al L Ev) 9 (srt Ev)).map tg)) (α ++ .dct kvs :: ls) := by
      show need (decide _) (.ok _ ((α ++ AO.ldct kvs :: ls).set α.length (.dct kvs))) = _
      rw [st_get, st_set]
      simp [need]
    rw [hdn, go_ok, tgs_sorted (cls_asc (al_refl L Ev) 9 _ (srt_sorted Ev)) (fun g hg => by
      obtain ⟨x, r, rfl, _⟩ := cls_mem (al_refl L Ev) 9 _ g hg
      exact List.cons_ne_nil _ _) (by omega), go_ok]
    rw [hres]
    exact ⟨rfl, _, rfl⟩
end K59
end
section
set_option Elab.async false
set_option linter.all false
set_option maxRecDepth 100000
set_option maxHeartbeats 4000000
namespace K59
open Mw PySem
/-! ### the deck -/
theorem deck_ok (d : Nat) (ns : List Int) (hn : ns.length ≤ 63) : ∃ t, callD fs (d + 1) 1 [.scr (ns.map .int)] [] = .ok (.ref 1) (dk ns.reverse t 0 []) := by
  suffices h : Go (callD fs (d + 1) 1 [.scr (ns.map .int)] []) (fun b a => b = .ref 1 ∧ ∃ t, a = dk ns.reverse t 0 []) by
    obtain ⟨b, a, e, rfl, t, rfl⟩ := h.ex
    exact ⟨t, e⟩
  rw [go_run (fd := f_law_deck) rfl]
  refine ⟨rfl, ?_⟩
  show Go (dSs (callD fs d) b_law_deck _ _) _
  unfold b_law_deck
  have hsl : slP (.scr (ns.map .int)) none (some 63) [] = .ok (.fl (ns.map .int)) [] := by
    show Res.ok (PV.fl (cutP (ns.map .int) none (some 63))) [] = _
    congr 2
    unfold cutP
    rw [HT.sIx_none, show (63 : Int) = ((63 : Nat) : Int) from rfl, HT.sIx_nat, List.drop_zero, Nat.sub_zero]
    exact List.take_of_length_le (by rw [List.length_map]; omega)
  simp only [startP, f_law_deck, List.map_cons, List.map_nil, List.length_cons, List.length_nil, List.cons_append, List.nil_append, List.replicate, go_Scons, go_Spar, go_Econs, go_Enil, go_b1, go_sl, go_Onone, go_Osome, go_int, partO, go_ok, go_var, List.getElem?_cons_zero, List.getElem?_cons_succ, hsl]
  show Go (Res.ok (PV.fl (ns.map .int)) []) _
  rw [go_ok]
  refine ⟨rfl, ?_⟩
  simp only [setAll, List.set_cons_succ, List.set_cons_zero, go_Scons, go_Sloop, go_Ival, go_var, List.getElem?_cons_zero, List.getElem?_cons_succ]
  show Go (turnsF (Src.still ⟨ns.map .int, none⟩) _ (ns.map .int) _ []) _
  refine turnsF_inv (I := fun rr ρ α => ∃ (y : Option PV) (t : Int) (suf : List Int), rr = suf.map .int ∧ 0 ≤ t ∧ t < 2147483587 ∧ ρ = [some (.scr (ns.map .int)), y, some (.fl (ns.map .int)), some (.int t)] ∧ α = []) ?_ ?_ _ _ _ ⟨none, 82059, ns, rfl, by decide, by decide, rfl, rfl⟩
  · rintro x rr ρ α ⟨y, t, suf, e1, h1, h2, rfl, rfl⟩
    cases suf with
    | nil => cases e1
    | cons c suf =>
    rw [List.map_cons] at e1
    obtain ⟨rfl, rfl⟩ := List.cons.inj e1
    refine ⟨rfl, ?_⟩
    simp only [go_bind, go_Tvar, go_Scons, go_Sasg, go_bin, go_var, go_int, List.set_cons_succ, List.set_cons_zero, List.getElem?_cons_zero, List.getElem?_cons_succ, go_modI, go_addI, go_mulI, go_Snil]
    exact ⟨.inr (by decide), by decide, by decide, _, _, suf, rfl, Int.emod_nonneg _ (by decide), Int.emod_lt_of_pos _ (by decide), rfl, trivial⟩
  · rintro ρ α ⟨y, t, suf, e1, h1, h2, rfl, rfl⟩
    refine ⟨rfl, ?_⟩
    rw [show Src.done ⟨ns.map .int, none⟩ (Fl.nx [some (.scr (ns.map .int)), y, some (.fl (ns.map .int)), some (.int t)]) [] = .ok (Fl.nx [some (.scr (ns.map .int)), y, some (.fl (ns.map .int)), some (.int t)]) [] from rfl, go_ok]
    simp only [go_Scons, go_Sret, go_join, go_dct, go_Pcons, go_Pnil, go_str, go_int, go_rev, go_var, List.getElem?_cons_zero, List.getElem?_cons_succ]
    rw [show revP (.fl (ns.map .int)) [] = .ok (.fl (ns.map .int).reverse) [] from rfl, go_ok]
    show Go (Res.ok (PV.ref 0) [.lst (ns.map .int).reverse]) _
    rw [go_ok]
    refine ⟨rfl, ?_⟩
    rw [← List.map_reverse]
    exact ⟨rfl, t, rfl⟩
end K59
end
section
set_option Elab.async false
set_option linter.all false
set_option maxRecDepth 100000
set_option maxHeartbeats 4000000
namespace K59
open Mw PySem
/-! ### the text of what is told -/
section
variable {β : Type} {f : β → PyData}
theorem showAll_map (h : ∀ x, (f x).showable = true) : ∀ l : List β, PyData.showableAll (l.map f) = true
  | [] => rfl
  | x :: l => by simp [PyData.showableAll, h x, showAll_map h l]
theorem dictAll_map (h : ∀ x, (f x).hasDict = false) : ∀ l : List β, PyData.hasDictAll (l.map f) = false
  | [] => rfl
  | x :: l => by simp [PyData.hasDictAll, h x, dictAll_map h l]
theorem leavesAll_map (h : ∀ x, (f x).leavesShort 8 = true) : ∀ l : List β, PyData.leavesShortAll 8 (l.map f) = true
  | [] => rfl
  | x :: l => by simp [PyData.leavesShortAll, h x, leavesAll_map h l]
theorem depthAll_map {k : Nat} (h : ∀ x, (f x).depth ≤ k) : ∀ l : List β, PyData.depthAll (l.map f) ≤ k
  | [] => Nat.zero_le _
  | x :: l => by
    have h1 := h x
    have h2 := depthAll_map h l
    simp only [List.map_cons, PyData.depthAll]; omega
theorem weightAll_map {k : Nat} : ∀ l : List β, (∀ x ∈ l, (f x).weight ≤ k) → PyData.weightAll (l.map f) ≤ l.length * (k + 1)
  | [], _ => Nat.zero_le _
  | x :: l, h => by
    have h1 := h x List.mem_cons_self
    have h2 := weightAll_map l fun y hy => h y (List.mem_cons_of_mem _ hy)
    simp only [List.map_cons, PyData.weightAll, List.length_cons, Nat.add_mul]; omega
end
theorem ev_show : ∀ i : Fin 8, (evD i).showable = true ∧ (evD i).hasDict = false ∧ (evD i).leavesShort 8 = true ∧ (evD i).weight ≤ 30 := by decide +kernel
theorem cls_glen {q : Fin 8 → Fin 8 → Bool} : ∀ (n : Nat) (l g : List (Fin 8)), g ∈ cls q n l → g.length ≤ l.length
  | 0, _, _, h => by simp [cls] at h
  | _ + 1, [], _, h => by simp [cls] at h
  | n + 1, x :: l, g, h => by
    unfold cls at h
    rcases List.mem_cons.mp h with rfl | h
    · exact List.length_filter_le _ _
    · exact Nat.le_trans (cls_glen n _ g h) (List.length_filter_le _ _)
def rsD (gs : List (List (Fin 8))) : PyData := .tuple (gs.map tgD)
theorem tgs_toPs : ∀ gs : List (List (Fin 8)), toPs (gs.map tg) = some (gs.map tgD)
  | [] => rfl
  | g :: gs => by simp only [List.map_cons, toPs, tg_toP, tgs_toPs gs]; rfl
theorem told_ok (gs : List (List (Fin 8))) (h1 : gs.length ≤ 9) (h2 : ∀ g ∈ gs, g.length ≤ 8) (α : AH) : ∃ s, b1 .repr (.fl [.tup (gs.map tg), .tup (gs.map tg), .tup (gs.map tg)]) α = .ok (.str s) α := by
  have e : toA α (.fl [.tup (gs.map tg), .tup (gs.map tg), .tup (gs.map tg)]) = some (.list [rsD gs, rsD gs, rsD gs]) := by
    simp [toA, toP, toPs, tgs_toPs, rsD]
  have e2 : b1 .repr (.fl [.tup (gs.map tg), .tup (gs.map tg), .tup (gs.map tg)]) α = (match toA α (.fl [.tup (gs.map tg), .tup (gs.map tg), .tup (gs.map tg)]) with
    | some d => need (reprOk d) (.ok (.str d.shown) α)
    | none => .bad) := rfl
  rw [e2, e]
  have s1 : ∀ g, (tgD g).showable = true := fun g => showAll_map (fun i => (ev_show i).1) g
  have s2 : ∀ g, (tgD g).hasDict = false := fun g => dictAll_map (fun i => (ev_show i).2.1) g
  have s3 : ∀ g, (tgD g).leavesShort 8 = true := fun g => leavesAll_map (fun i => (ev_show i).2.2.1) g
  have s4 : ∀ g ∈ gs, (tgD g).weight ≤ 248 := fun g hg => by
    have := weightAll_map (f := evD) (k := 30) g fun i _ => (ev_show i).2.2.2
    have h := h2 g hg
    show PyData.weightAll _ ≤ _
    omega
  have r1 : (rsD gs).showable = true := showAll_map s1 gs
  have r2 : (rsD gs).hasDict = false := dictAll_map s2 gs
  have r3 : (rsD gs).leavesShort 8 = true := leavesAll_map s3 gs
  have r4 : (rsD gs).weight ≤ 2241 := by
    have := weightAll_map (f := tgD) (k := 248) gs s4
    show PyData.weightAll _ ≤ _
    omega
  have r5 : (rsD gs).depth ≤ 3 := by
    have := depthAll_map (f := tgD) (k := 2) tg_depth gs
    simp only [rsD, PyData.depth]; omega
  have ok : reprOk (.list [rsD gs, rsD gs, rsD gs]) = true := by
    unfold reprOk
    simp only [Bool.and_eq_true, decide_eq_true_eq, Bool.not_eq_true']
    refine ⟨⟨⟨?_, ?_⟩, ?_⟩, ?_⟩
    · simp [PyData.hasDict, PyData.hasDictAll, r2]
    · simp [PyData.showable, PyData.showableAll, r1]
    · simp only [PyData.depth, PyData.depthAll]; omega
    · refine decide_eq_true (PyData.shown_fits (B := 8) (by decide) (by decide) ?_ ?_)
      · simp [PyData.leavesShort, PyData.leavesShortAll, r3]
      · simp only [PyData.weight, PyData.weightAll]; omega
  show ∃ s, need (reprOk (.list [rsD gs, rsD gs, rsD gs])) (Res.ok (PV.str (PyData.list [rsD gs, rsD gs, rsD gs]).shown) α) = Res.ok (PV.str s) α
  rw [ok]
  exact ⟨_, rfl⟩
/-! ### one table -/
theorem dk_app {cs : List Int} {t n : Int} {rest g : AH} : dk cs t n rest ++ g = dk cs t n (rest ++ g) := rfl
def bT : Ss := (.cons (.asg (.var 8) (.call 6 (.cons (.var 1) (.cons (.var 3) (.cons (.call 2 (.cons (.var 1) (.cons (.int 9) .nil))) .nil)))))
  (.cons (.asg (.var 9) (.call 8 (.cons (.var 7) (.cons (.var 8) .nil))))
  (.cons (.asg (.var 10) (.lst (.cons (.call 0 (.cons (.var 7) (.cons (.b1 .tuple (.var 8)) .nil))) (.cons (.callK 0 0 ["events", "table"] [1, 0] .nil (.cons (.b1 .tuple (.rev (.var 8))) (.cons (.var 7) .nil))) (.cons (.call 0 (.cons (.var 7) (.cons (.b1 .tuple (.var 8)) .nil))) .nil)))))
  (.cons (.ife (.cmp .ne (.b1 .repr (.var 10)) (.b1 .repr (.bin .mul (.lst (.cons (.var 9) .nil)) (.int 3)))) (.cons (.ret (.bl false))
  .nil) .nil)
  .nil))))
theorem tab_ok (s : PV) (m : List (Fin 8)) (hm : m.length ≤ 8) (L : Tb) (y2 y4 y5 y6 y8 y9 y10 : Option PV) (cs : List Int) (t n : Int) (rest : AH) (hn : 0 ≤ n) (hn2 : n < 2 ^ 58) (hc : cs.length ≤ 63) {R : Fl → AH → Prop}
    (h : ∀ y8 y9 y10 cs' n' rest', cs'.length ≤ 63 → 0 ≤ n' → n' ≤ n + 9 → R (.nx [some s, some (.ref 1), y2, some (.fl (m.map ev)), y4, y5, y6, some (tb L), y8, y9, y10, none]) (dk cs' t n' rest')) :
    Go (dSs (callD fs 5) bT [some s, some (.ref 1), y2, some (.fl (m.map ev)), y4, y5, y6, some (tb L), y8, y9, y10, none] (dk cs t n rest)) R := by
  unfold bT
  simp only [go_Scons, go_Sasg, go_call, go_Econs, go_Enil, go_var, go_int, List.getElem?_cons_zero, List.getElem?_cons_succ]
  refine draw_ok 4 cs t n 9 rest (by decide) (by decide) hn (by omega) hc fun k cs1 k1 k2 hc1 => ?_
  refine turned_ok 3 cs1 t (n + 1) k rest m hm k1 (by omega) (by omega) (by omega) hc1 fun E A cs2 n2 hp hc2 hn3 hn4 => ?_
  have hE : E.length ≤ 8 := by
    have := hp.length_eq
    rw [List.length_append] at this
    omega
  have hk : ∀ g : AH, (dk cs2 t n2 (rest ++ [.lst (A.map ev), .lst (E.map ev)]) ++ g)[rest.length + 3]? = some (.lst (E.map ev)) := fun g => by
    rw [List.getElem?_append_left (by simp [dk])]
    exact dk_get1
  have hk0 : (dk cs2 t n2 (rest ++ [.lst (A.map ev), .lst (E.map ev)]))[rest.length + 3]? = some (.lst (E.map ev)) := dk_get1
  obtain ⟨α0, hα0⟩ : ∃ α0, α0 = dk cs2 t n2 (rest ++ [.lst (A.map ev), .lst (E.map ev)]) := ⟨_, rfl⟩
  rw [← hα0] at hk hk0 ⊢
  obtain ⟨g1, d1⟩ := due_ok 3 L E hE (rest.length + 3) α0 hk0
  simp only [go_Tvar, List.set_cons_succ, List.set_cons_zero, go_Scons, go_Sasg, go_call, go_Econs, go_Enil, go_var, List.getElem?_cons_zero, List.getElem?_cons_succ]
  rw [d1, go_ok]
  obtain ⟨g2, d2⟩ := modes_ok 4 L E E hE (List.Perm.refl _) (α0 ++ g1)
  obtain ⟨g3, d3⟩ := modes_ok 4 L E E.reverse hE E.reverse_perm ((α0 ++ g1) ++ g2)
  obtain ⟨g4, d4⟩ := modes_ok 4 L E E hE (List.Perm.refl _) (((α0 ++ g1) ++ g2) ++ g3)
  have hk1 := hk g1
  have hk2 : ((α0 ++ g1) ++ g2)[rest.length + 3]? = some (.lst (E.map ev)) := by rw [List.append_assoc]; exact hk _
  have hk3 : (((α0 ++ g1) ++ g2) ++ g3)[rest.length + 3]? = some (.lst (E.map ev)) := by rw [List.append_assoc, List.append_assoc]; exact hk _
  simp only [go_Tvar, List.set_cons_succ, List.set_cons_zero, go_Scons, go_Sasg, go_lst, go_call, go_callK, go_b1, go_rev, go_Econs, go_Enil, go_var, List.getElem?_cons_zero, List.getElem?_cons_succ]
  rw [tupL hk1, go_ok]
  rw [d2, go_ok]
  try simp only [go_lst, go_call, go_callK, go_b1, go_rev, go_Econs, go_Enil, go_var, List.getElem?_cons_zero, List.getElem?_cons_succ]
  have hrv : revP (.ref (rest.length + 3)) ((α0 ++ g1) ++ g2) = .ok (.fl (E.reverse.map ev)) ((α0 ++ g1) ++ g2) := by
    have e : itemsS ((α0 ++ g1) ++ g2) (.ref (rest.length + 3)) = some (E.map ev) := by simp only [itemsS, itemsL, hk2]
    unfold revP
    simp only [e]
    rw [List.map_reverse]
  rw [hrv, go_ok]
  rw [show b1 .tuple (.fl (E.reverse.map ev)) ((α0 ++ g1) ++ g2) = .ok (.tup (E.reverse.map ev)) ((α0 ++ g1) ++ g2) from rfl, go_ok]
  try simp only [go_lst, go_call, go_callK, go_b1, go_rev, go_Econs, go_Enil, go_var, List.getElem?_cons_zero, List.getElem?_cons_succ]
  refine ⟨⟨rfl, rfl⟩, ?_⟩
  show Go (callD fs 5 0 [tb L, .tup (E.reverse.map ev)] ((α0 ++ g1) ++ g2)) _
  rw [d3, go_ok]
  try simp only [go_lst, go_call, go_callK, go_b1, go_rev, go_Econs, go_Enil, go_var, List.getElem?_cons_zero, List.getElem?_cons_succ]
  rw [tupL hk3, go_ok]
  try simp only [go_lst, go_call, go_callK, go_b1, go_rev, go_Econs, go_Enil, go_var, List.getElem?_cons_zero, List.getElem?_cons_succ]
  rw [d4, go_ok]
  try simp only [go_Econs, go_Enil]
  refine ⟨l3, ?_⟩
  have hlen : (res L E).length ≤ 9 := cls_len 9 _
  obtain ⟨tx, ht⟩ := told_ok (res L E) hlen (fun g hg => by
    have := cls_glen 9 _ g hg
    rw [(srt_perm E).length_eq] at this
    omega) ((((α0 ++ g1) ++ g2) ++ g3) ++ g4)
  simp only [go_Tvar, List.set_cons_succ, List.set_cons_zero, go_Scons, go_Sif, go_cmp, go_b1, go_bin, go_lst, go_int, go_Econs, go_Enil, go_var, List.getElem?_cons_zero, List.getElem?_cons_succ]
  rw [ht, go_ok]
  try simp only [go_b1, go_bin, go_lst, go_int, go_Econs, go_Enil, go_var, List.getElem?_cons_zero, List.getElem?_cons_succ]
  refine ⟨l1, ?_⟩
  rw [show bop .mul (.fl [.tup ((res L E).map tg)]) (.int 3) ((((α0 ++ g1) ++ g2) ++ g3) ++ g4) = .ok (.fl [.tup ((res L E).map tg), .tup ((res L E).map tg), .tup ((res L E).map tg)]) ((((α0 ++ g1) ++ g2) ++ g3) ++ g4) from rfl, go_ok, ht, go_ok]
  have hne : cop .ne (.str tx) (.str tx) ((((α0 ++ g1) ++ g2) ++ g3) ++ g4) = .ok (.bl false) ((((α0 ++ g1) ++ g2) ++ g3) ++ g4) := by
    unfold cop eqP
    simp [scalP]
  rw [hne, go_ok, go_truth]
  simp only [go_Snil]
  subst hα0
  rw [dk_app, dk_app, dk_app, dk_app]
  exact h _ _ _ cs2 n2 _ hc2 hn3 (by omega)
end K59
end
section
set_option Elab.async false
set_option linter.all false
set_option maxRecDepth 100000
set_option maxHeartbeats 4000000
namespace K59
open Mw PySem
/-! ### the law -/
def bEv : Ss := (.cons (.asg (.var 5) (.bin .add (.var 5) (.comp (.var 11) [11] (.val (.var 3)) .none (.tup (.cons (.var 6) (.cons (.var 11) .nil))))))
  .nil)
def gPk (i : Fin 8) (p : PV) : Option PV := some (.tup [ev i, p])
theorem pks_pure (i : Fin 8) : ∀ m : List (Fin 8), (m.map ev).filterMap (gPk i) = (m.map fun j => (i, j)).map pk
  | [] => rfl
  | j :: m => by rw [List.map_cons, List.filterMap_cons_some (f := gPk i) (b := pk (i, j)) rfl, pks_pure i m]; rfl
theorem every_ok (F : Fn) (m : List (Fin 8)) (hm : m.length ≤ 8) (s y2 y4 y6 y7 y8 y9 y10 : Option PV) (α : AH) {R : Fl → AH → Prop}
    (h : ∀ y6, R (.nx [s, some (.ref 1), y2, some (.fl (m.map ev)), y4, some (.fl ((prs m m).map pk)), y6, y7, y8, y9, y10, none]) α) :
    Go (dS F (.loop (.var 6) (.val (.var 3)) bEv) [s, some (.ref 1), y2, some (.fl (m.map ev)), y4, some (.fl []), y6, y7, y8, y9, y10, none] α) R := by
  simp only [go_Sloop, go_Ival, go_var, List.getElem?_cons_zero, List.getElem?_cons_succ]
  show Go (turnsF (Src.still ⟨m.map ev, none⟩) _ (m.map ev) _ α) _
  refine turnsF_inv (I := fun rr ρ α' => ∃ (pre suf : List (Fin 8)) (y6 : Option PV), pre ++ suf = m ∧ rr = suf.map ev ∧
    ρ = [s, some (.ref 1), y2, some (.fl (m.map ev)), y4, some (.fl ((prs pre m).map pk)), y6, y7, y8, y9, y10, none] ∧ α' = α) ?_ ?_ _ _ _ ⟨[], m, y6, rfl, rfl, rfl, rfl⟩
  · rintro x rr ρ α' ⟨pre, suf, y6, e1, e2, rfl, rfl⟩
    cases suf with
    | nil => cases e2
    | cons i suf =>
    rw [List.map_cons] at e2
    obtain ⟨rfl, rfl⟩ := List.cons.inj e2
    have hpl : pre.length ≤ 8 := by
      rw [← e1, List.length_append] at hm
      omega
    refine ⟨rfl, ?_⟩
    rw [go_bind, go_Tvar]
    unfold bEv
    simp only [go_Scons, go_Sasg, go_bin, go_comp, go_Ival, go_var, List.set_cons_succ, List.set_cons_zero, List.getElem?_cons_zero, List.getElem?_cons_succ]
    show Go (turns (Src.still ⟨m.map ev, none⟩) _ (m.map ev) α') _
    rw [turns_pure (g := gPk i) rfl _ (fun w hw => by
      obtain ⟨o, _, rfl⟩ := List.mem_map.mp hw
      refine eq_of_go ?_
      unfold compStep
      simp only [wipeP, go_bind, go_Tvar, go_Cnone, go_tup, go_Econs, go_Enil, go_var, List.set_cons_succ, List.set_cons_zero, List.getElem?_cons_zero, List.getElem?_cons_succ]
      refine ⟨l2, ?_⟩
      rw [go_ok]
      exact ⟨rfl, rfl⟩), pks_pure, go_ok]
    refine ⟨decide_eq_true (Nat.le_of_lt (small (by rw [List.length_map, List.length_map]; omega))), ?_⟩
    show Go (bop .add (.fl ((prs pre m).map pk)) (.fl ((m.map fun j => (i, j)).map pk)) α') _
    have hpm : pre.length * m.length ≤ 64 := Nat.mul_le_mul hpl hm
    rw [add_fl (by rw [List.length_map, List.length_map, List.length_map, prs_len]; omega), go_ok]
    simp only [go_Tvar, List.set_cons_succ, List.set_cons_zero, go_Snil]
    exact ⟨pre ++ [i], suf, _, by rw [List.append_assoc]; exact e1, rfl, by rw [prs_snoc, List.map_append], trivial⟩
  · rintro ρ α' ⟨pre, suf, y6, e1, e2, rfl, rfl⟩
    refine ⟨rfl, ?_⟩
    have : suf = [] := by simpa using e2.symm
    subst this
    rw [List.append_nil] at e1
    subst e1
    exact h _
theorem tabs_ok (m : List (Fin 8)) (hm : m.length ≤ 8) (Ls : List Tb) (s : PV) (y2 y4 y5 y6 y7 y8 y9 y10 : Option PV) (cs : List Int) (t n : Int) (rest : AH) (hn : 0 ≤ n) (hl : Ls.length ≤ 3) (hn2 : n < 2 ^ 57) (hc : cs.length ≤ 63) {it : It} {R : Fl → AH → Prop}
    (hit : dI (callD fs 5) it [some s, some (.ref 1), y2, some (.fl (m.map ev)), y4, y5, y6, y7, y8, y9, y10, none] (dk cs t n rest) = .ok ⟨Ls.map tb, none⟩ (dk cs t n rest))
    (h : ∀ y7 y8 y9 y10 cs' n' rest', cs'.length ≤ 63 → 0 ≤ n' → n' ≤ n + 27 → R (.nx [some s, some (.ref 1), y2, some (.fl (m.map ev)), y4, y5, y6, y7, y8, y9, y10, none]) (dk cs' t n' rest')) :
    Go (dS (callD fs 5) (.loop (.var 7) it bT) [some s, some (.ref 1), y2, some (.fl (m.map ev)), y4, y5, y6, y7, y8, y9, y10, none] (dk cs t n rest)) R := by
  rw [go_Sloop, hit, go_ok]
  show Go (turnsF (Src.still ⟨Ls.map tb, none⟩) _ (Ls.map tb) _ (dk cs t n rest)) _
  refine turnsF_inv (I := fun rr ρ α' => ∃ (suf : List Tb) (y7 y8 y9 y10 : Option PV) (cs' : List Int) (n' : Int) (rest' : AH), rr = suf.map tb ∧ cs'.length ≤ 63 ∧ 0 ≤ n' ∧ n' + 9 * (suf.length : Int) ≤ n + 27 ∧
    ρ = [some s, some (.ref 1), y2, some (.fl (m.map ev)), y4, y5, y6, y7, y8, y9, y10, none] ∧ α' = dk cs' t n' rest') ?_ ?_ _ _ _ ⟨Ls, y7, y8, y9, y10, cs, n, rest, rfl, hc, hn, by omega, rfl, rfl⟩
  · rintro x rr ρ α' ⟨suf, y7, y8, y9, y10, cs', n', rest', e2, h1, h2, h3, rfl, rfl⟩
    cases suf with
    | nil => cases e2
    | cons L suf =>
    rw [List.map_cons] at e2
    obtain ⟨rfl, rfl⟩ := List.cons.inj e2
    rw [List.length_cons] at h3
    refine ⟨rfl, ?_⟩
    rw [go_bind, go_Tvar]
    show Go (dSs (callD fs 5) bT [some s, some (.ref 1), y2, some (.fl (m.map ev)), y4, y5, y6, some (tb L), y8, y9, y10, none] (dk cs' t n' rest')) _
    refine tab_ok s m hm L y2 y4 y5 y6 y8 y9 y10 cs' t n' rest' h2 (by omega) h1 fun z8 z9 z10 cs2 n2 rest2 a1 a2 a3 => ?_
    exact ⟨suf, _, _, _, _, cs2, n2, rest2, rfl, a1, a2, by omega, rfl, rfl⟩
  · rintro ρ α' ⟨suf, y7, y8, y9, y10, cs', n', rest', e2, h1, h2, h3, rfl, rfl⟩
    refine ⟨rfl, ?_⟩
    exact h _ _ _ _ cs' n' rest' h1 h2 (by omega)
theorem plain : ∀ ns : List Int, ns.length ≤ 63 → ∃ α', callD fs 6 9 [.scr (ns.map PV.int)] [] = .ok (.bl true) α' := by
  intro ns hns
  suffices h : Go (callD fs 6 9 [.scr (ns.map PV.int)] []) (fun b _ => b = .bl true) by
    obtain ⟨b, a, e, rfl⟩ := h.ex
    exact ⟨a, e⟩
  rw [go_run (fd := f_law) rfl]
  refine ⟨rfl, ?_⟩
  show Go (dSs (callD fs 5) b_law _ _) _
  unfold b_law
  obtain ⟨t, hd⟩ := deck_ok 4 ns hns
  obtain ⟨sc, hsc⟩ : ∃ sc : PV, sc = .scr (ns.map .int) := ⟨_, rfl⟩
  rw [← hsc] at hd ⊢
  simp only [startP, f_law, List.map_cons, List.map_nil, List.length_cons, List.length_nil, List.cons_append, List.nil_append, List.replicate, go_Scons, go_Sasg, go_call, go_Econs, go_Enil, go_var, List.getElem?_cons_zero, List.getElem?_cons_succ]
  rw [hd, go_ok]
  simp only [go_Tvar, List.set_cons_succ, List.set_cons_zero, go_Scons, go_Sloop, go_Ir1, go_int]
  rw [show srcRange (.int 0) (.int 8) (dk ns.reverse t 0 []) = .ok ⟨rangeP 0 8, none⟩ (dk ns.reverse t 0 []) from rfl, go_ok]
  show Go (turnsF (Src.still ⟨rangeP 0 8, none⟩) _ (rangeP 0 8) _ (dk ns.reverse t 0 [])) _
  refine turnsF_inv (I := fun rr ρ α' => ∃ (y2 y3 y4 y5 y6 y7 y8 y9 y10 : Option PV) (cs : List Int) (n : Int) (rest : AH), ρ = [some sc, some (.ref 1), y2, y3, y4, y5, y6, y7, y8, y9, y10, none] ∧ α' = dk cs t n rest ∧ cs.length ≤ 63 ∧ 0 ≤ n ∧ n + 200 * (rr.length : Int) ≤ 1600) ?_ ?_ _ _ _
    ⟨none, none, none, none, none, none, none, none, none, ns.reverse, 0, [], rfl, rfl, by rw [List.length_reverse]; exact hns, by decide, by decide⟩
  · rintro x rr ρ α' ⟨y2, y3, y4, y5, y6, y7, y8, y9, y10, cs, n, rest, rfl, rfl, h1, h2, h3⟩
    rw [List.length_cons] at h3
    refine ⟨rfl, ?_⟩
    rw [go_bind, go_Tvar]
    simp only [List.set_cons_succ, List.set_cons_zero, go_Scons, go_Sasg, go_call, go_Econs, go_Enil, go_var, List.getElem?_cons_zero, List.getElem?_cons_succ]
    refine menu_ok 3 cs t n rest h2 (by omega) h1 fun m cs1 n1 hnd hm a1 a2 a3 => ?_
    simp only [go_Tvar, List.set_cons_succ, List.set_cons_zero, go_Scons, go_Sasg, go_lst, go_tup, go_call, go_Econs, go_Enil, go_var, List.getElem?_cons_zero, List.getElem?_cons_succ]
    refine drawn_ok 2 cs1 t n1 rest m hm a2 (by omega) a1 fun L cs2 n2 g hL b1 b2 b3 => ?_
    simp only [go_Tvar, List.set_cons_succ, List.set_cons_zero, go_Scons, go_Sasg, go_lst, go_tup, go_Econs, go_Enil]
    refine ⟨l0, l2, l0, ?_⟩
    refine every_ok (callD fs 5) m hm (some sc) (some x) _ y6 y7 y8 y9 y10 _ fun y6 => ?_
    show Go (dSs (callD fs 5) _ _ _) _
    rw [go_Scons]
    refine tabs_ok m hm [L, [], prs m m] sc (some x) _ _ y6 y7 y8 y9 y10 cs2 t n2 _ b2 (Nat.le_refl 3) (by omega) b1 ?_ fun z7 z8 z9 z10 cs3 n3 rest3 c1 c2 c3 => ?_
    · refine eq_of_go ?_
      simp only [go_Ival, go_bin, go_lst, go_b1, go_Econs, go_Enil, go_var, List.getElem?_cons_zero, List.getElem?_cons_succ]
      show Go (Res.ok (tb (prs m m)) (dk cs2 t n2 (rest ++ g))) _
      rw [go_ok]
      refine ⟨l1, ?_⟩
      show Go (need (lineOk 3) (Res.ok (PV.fl [tb L, tb [], tb (prs m m)]) (dk cs2 t n2 (rest ++ g)))) _
      rw [l3, need_true, go_ok]
      exact ⟨rfl, rfl⟩
    · show Go (dSs (callD fs 5) _ _ _) _
      rw [go_Snil]
      exact ⟨_, _, _, _, _, _, _, _, _, cs3, n3, rest3, rfl, rfl, c1, c2, by omega⟩
  · rintro ρ α' ⟨y2, y3, y4, y5, y6, y7, y8, y9, y10, cs, n, rest, rfl, rfl, h1, h2, h3⟩
    refine ⟨rfl, ?_⟩
    simp only [Src.done, go_ok, go_Scons, go_Sret, go_bl]
end K59
end
section
set_option Elab.async false
set_option linter.all false
set_option maxRecDepth 100000
open PySem PySem.W PyProof.Rows
set_option maxHeartbeats 0 in
theorem PySem.Challenge.cw_mustwait_k59_modes_holds : PySem.Challenge.rw_mustwait_k59_modes.Holds := by
  w_on; o_law; k_head; (case hw => w_witness2)
  k_fill
  refine Mw.walk_ofG (l := PySem.Challenge.rw_mustwait_k59_modes) (n := 63) (k := 6) (x := "_law_script") (m := Mw.callD K59.fs 6 9) rfl (by decide) rfl ⟨rfl, by decide, by decide⟩ (fun w h Y => kIn_of Y) ?F K59.plain
  case F =>
    intro w mg fa h KX G hmg
    refine' K59.all_mk KX G hmg ?a0 ?l0 ?c0 ?k0 ?a1 ?l1 ?c1 ?k1 ?a2 ?l2 ?c2 ?k2 ?a3 ?l3 ?c3 ?k3 ?a4 ?l4 ?c4 ?k4 ?a5 ?l5 ?c5 ?k5 ?a6 ?l6 ?c6 ?k6 ?a7 ?l7 ?c7 ?k7 ?a8 ?l8 ?c8 ?k8 ?a9 ?l9 ?c9 ?k9 ?z0 ?z1 ?z2 ?z3 ?z4 ?z5 ?z6 ?z7 ?z8 ?z9 ?z10 6
    (case a0 => k_is); (case l0 => k_is); (case c0 => k_is); (case k0 => k_is); (case a1 => k_is); (case l1 => k_is); (case c1 => k_is); (case k1 => k_is); (case a2 => k_is); (case l2 => k_is); (case c2 => k_is); (case k2 => k_is); (case a3 => k_is); (case l3 => k_is); (case c3 => k_is); (case k3 => k_is); (case a4 => k_is); (case l4 => k_is); (case c4 => k_is); (case k4 => k_is); (case a5 => k_is); (case l5 => k_is); (case c5 => k_is); (case k5 => k_is); (case a6 => k_is); (case l6 => k_is); (case c6 => k_is); (case k6 => k_is); (case a7 => k_is); (case l7 => k_is); (case c7 => k_is); (case k7 => k_is); (case a8 => k_is); (case l8 => k_is); (case c8 => k_is); (case k8 => k_is); (case a9 => k_is); (case l9 => k_is); (case c9 => k_is); (case k9 => k_is); (case z0 => k_is); (case z1 => k_is); (case z2 => k_is); (case z3 => k_is); (case z4 => k_is); (case z5 => k_is); (case z6 => k_is); (case z7 => k_is); (case z8 => k_is); (case z9 => k_is); (case z10 => k_is)
end
