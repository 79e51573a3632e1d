import PyProof.Rows.All
import Wide.All
import OpenK.AllK
import Wide.FinOn
import PySem.Challenge.RW_nu0124_01
open PySem PySem.W PyProof.Rows PySem.Calls
set_option Elab.async false
set_option maxRecDepth 100000
set_option maxHeartbeats 2000000
namespace Mine

/-! ## abstract values and objects -/
inductive PV where
  | none
  | bool (b : Bool)
  | int (n : Int)
  | bytes (ks : List Int)
  | str (x : PySem.Str)
  | ref (i : Nat)
inductive PO where
  | il (ns : List Int)
  | pl (xs : List PV)
  | tu (xs : List PV)
  | ins (d : Nat)
  | di (fs : List (PySem.Str × PV))
  | sc (o : Obj) (ns : List Int)

noncomputable def segC : Addr := 162

noncomputable def PV.Is (ρ : List Addr) : PV → Value → Prop
  | .none, v => v = .none
  | .bool b, v => v = .bool b
  | .int n, v => ∃ t, v = .int n t
  | .bytes ks, v => ∃ b t, v = .bytes b t ∧ KBw.bInts b = ks
  | .str x, v => ∃ t, v = .str x t
  | .ref i, v => ∃ a, ρ[i]? = some a ∧ v = .ref a

noncomputable def All2 {α β : Type} (R : α → β → Prop) : List α → List β → Prop
  | [], [] => True
  | a :: as, b :: bs => R a b ∧ All2 R as bs
  | _, _ => False

noncomputable def FieldIs (ρ : List Addr) (f : PySem.Str × PV) (e : DictEntry) : Prop := (∃ t, e.key = .str f.1 t) ∧ f.2.Is ρ e.val

noncomputable def PO.Is (ρ : List Addr) : PO → Obj → Prop
  | .il ns, o => ∃ vs n, o = W.listOf (List.toArray vs) n ∧ IntsAre vs ns
  | .pl xs, o => ∃ vs n, o = W.listOf (List.toArray vs) n ∧ All2 (PV.Is ρ) xs vs
  | .tu xs, o => ∃ vs n, o = { cls := .type "tuple", data := .seq (List.toArray vs) n } ∧ All2 (PV.Is ρ) xs vs
  | .ins d, o => ∃ dx, ρ[d]? = some dx ∧ o = instObj segC dx
  | .di fs, o => ∃ es n, o = dictOf es n ∧ All2 (FieldIs ρ) fs es
  | .sc x ns, o => o = x ∧ x.cls = .type "list" ∧ ∃ vs n, x.data = .seq (List.toArray vs) n ∧ IntsAre vs ns

theorem get_pre {ρ ρ' : List Addr} (h : ρ <+: ρ') {i : Nat} {a : Addr} (e : ρ[i]? = some a) : ρ'[i]? = some a := by
  obtain ⟨t, rfl⟩ := h
  have hi : i < ρ.length := by
    rcases Nat.lt_or_ge i ρ.length with q | q
    · exact q
    · rw [List.getElem?_eq_none q] at e; cases e
  rw [List.getElem?_append_left hi]; exact e
theorem PV.Is.mono {ρ ρ' : List Addr} (h : ρ <+: ρ') {v : PV} {u : Value} (x : v.Is ρ u) : v.Is ρ' u := by
  cases v with
  | ref i => obtain ⟨a, e, r⟩ := x; exact ⟨a, get_pre h e, r⟩
  | _ => exact x
theorem All2.imp {α β : Type} {R S : α → β → Prop} (k : ∀ a b, R a b → S a b) : ∀ {as : List α} {bs : List β}, All2 R as bs → All2 S as bs
  | [], [], _ => trivial
  | _ :: _, _ :: _, h => ⟨k _ _ h.1, h.2.imp k⟩
  | [], _ :: _, h => h.elim
  | _ :: _, [], h => h.elim
theorem All2.length {α β : Type} {R : α → β → Prop} : ∀ {as : List α} {bs : List β}, All2 R as bs → as.length = bs.length
  | [], [], _ => rfl
  | _ :: _, _ :: _, h => congrArg (· + 1) h.2.length
  | [], _ :: _, h => h.elim
  | _ :: _, [], h => h.elim
theorem All2.append {α β : Type} {R : α → β → Prop} : ∀ {as as' : List α} {bs bs' : List β}, All2 R as bs → All2 R as' bs' → All2 R (as ++ as') (bs ++ bs')
  | [], _, [], _, _, h => h
  | _ :: _, _, _ :: _, _, h, h' => ⟨h.1, h.2.append h'⟩
  | [], _, _ :: _, _, h, _ => h.elim
  | _ :: _, _, [], _, h, _ => h.elim
theorem All2.get {α β : Type} {R : α → β → Prop} : ∀ {as : List α} {bs : List β} {i : Nat} {a : α}, All2 R as bs → as[i]? = some a → ∃ b, bs[i]? = some b ∧ R a b
  | a :: _, b :: _, 0, _, h, e => by cases e; exact ⟨b, rfl, h.1⟩
  | _ :: _, _ :: _, i + 1, _, h, e => by simpa using h.2.get (i := i) (by simpa using e)
  | [], _, _, _, _, e => by simp at e
  | _ :: _, [], _, _, h, _ => h.elim
theorem All2.set {α β : Type} {R : α → β → Prop} : ∀ {as : List α} {bs : List β} {i : Nat} {a : α} {b : β}, All2 R as bs → R a b → All2 R (as.set i a) (bs.set i b)
  | [], [], _, _, _, _, _ => trivial
  | _ :: _, _ :: _, 0, _, _, h, r => ⟨r, h.2⟩
  | _ :: _, _ :: _, _ + 1, _, _, h, r => ⟨h.1, h.2.set r⟩
  | [], _ :: _, _, _, _, h, _ => h.elim
  | _ :: _, [], _, _, _, h, _ => h.elim
theorem PO.Is.mono {ρ ρ' : List Addr} (h : ρ <+: ρ') {p : PO} {o : Obj} (x : p.Is ρ o) : p.Is ρ' o := by
  cases p with
  | il ns => exact x
  | pl xs => obtain ⟨vs, n, e, r⟩ := x; exact ⟨vs, n, e, r.imp fun _ _ q => q.mono h⟩
  | tu xs => obtain ⟨vs, n, e, r⟩ := x; exact ⟨vs, n, e, r.imp fun _ _ q => q.mono h⟩
  | ins d => obtain ⟨dx, e, r⟩ := x; exact ⟨dx, get_pre h e, r⟩
  | di fs => obtain ⟨es, n, e, r⟩ := x; exact ⟨es, n, e, r.imp fun _ _ q => ⟨q.1, q.2.mono h⟩⟩
  | sc y ns => exact x
theorem intsAre_all {ρ : List Addr} : ∀ {vs : List Value} {ns : List Int}, IntsAre vs ns → All2 (PV.Is ρ) (ns.map PV.int) vs
  | _, _, .nil => trivial
  | _, _, .cons _ t r => ⟨⟨t, rfl⟩, intsAre_all r⟩
theorem all_intsAre {ρ : List Addr} : ∀ {ns : List Int} {vs : List Value}, All2 (PV.Is ρ) (ns.map PV.int) vs → IntsAre vs ns
  | [], [], _ => .nil
  | n :: _, v :: _, h => by
    obtain ⟨⟨t, rfl⟩, r⟩ := h
    exact .cons n t (all_intsAre r)
  | [], _ :: _, h => h.elim
  | _ :: _, [], h => h.elim

/-! ## the state of a frame -/
noncomputable def cellKey : PySem.Str := PySem.Str.ofString "*cell"
/-- the locals; the one cell of a frame (at L + 1) is told under a name that no text can write -/
noncomputable def LocOk (L : Addr) (rest : List (Addr × Obj)) (ρ : List Addr) (ls : List (PySem.Str × PV)) (m : PySem.Str → Option Value) : Prop :=
  ∀ x v, ls.lookup x = some v → ∃ u, v.Is ρ u ∧ ((x ≠ cellKey ∧ m x = some u) ∨ (x = cellKey ∧ ∃ o, (L + 1, o) ∈ rest ∧ o.data = .cell (some u)))

structure SX (h₀ : Heap) (L : Addr) (rest : List (Addr × Obj)) (ls : List (PySem.Str × PV)) (ph : List PO) (ρ : List Addr) (h : Heap) (m : PySem.Str → Option Value) (conc : List Obj) : Prop where
  F : Fr h₀ L h m
  l : LocOk L rest ρ ls m
  c : All2 (PO.Is ρ) ph conc
  n : ρ.length = conc.length
  N : News h₀ L h (ρ.zip conc ++ rest)
  d : ρ.Nodup
  r : ∀ q ∈ rest, q.1 ∉ ρ
noncomputable def ST (h₀ : Heap) (L : Addr) (rest : List (Addr × Obj)) (ls : List (PySem.Str × PV)) (ph : List PO) (ρ : List Addr) (h : Heap) : Prop := ∃ m conc, SX h₀ L rest ls ph ρ h m conc

section
variable {h₀ h h' : Heap} {L a : Addr} {rest : List (Addr × Obj)} {ls : List (PySem.Str × PV)} {ph : List PO} {ρ : List Addr} {m m' : PySem.Str → Option Value} {conc : List Obj} {o : Obj} {po : PO}

theorem SX.keep (S : SX h₀ L rest ls ph ρ h m conc) (F : Fr h₀ L h' m) (N : News h₀ L h' (ρ.zip conc ++ rest)) : SX h₀ L rest ls ph ρ h' m conc := { S with F := F, N := N }
theorem SX.st (S : SX h₀ L rest ls ph ρ h m conc) : ST h₀ L rest ls ph ρ h := ⟨m, conc, S⟩
theorem SX.len (S : SX h₀ L rest ls ph ρ h m conc) : ph.length = ρ.length := by rw [S.n]; exact S.c.length
theorem pre_add (ρ : List Addr) (a : Addr) : ρ <+: ρ ++ [a] := ⟨[a], rfl⟩
theorem SX.alloc (S : SX h₀ L rest ls ph ρ h m conc) (F : Fr h₀ L h' m) (N : News h₀ L h' ((a, o) :: (ρ.zip conc ++ rest))) (lt : ∀ p ∈ ρ.zip conc ++ rest, p.1 < a) (q : po.Is (ρ ++ [a]) o) :
    SX h₀ L rest ls (ph ++ [po]) (ρ ++ [a]) h' m (conc ++ [o]) where
  F := F
  l := fun x v e => let ⟨u, e1, e2⟩ := S.l x v e; ⟨u, e1.mono (pre_add ρ a), e2⟩
  c := (S.c.imp fun _ _ q => q.mono (pre_add ρ a)).append ⟨q, trivial⟩
  n := by simp [S.n]
  N := by
    rw [List.zip_append S.n]
    intro p hp
    refine N p ?_
    rcases List.mem_append.mp hp with hp | hp
    · rcases List.mem_append.mp hp with hp | hp
      · exact .tail _ (List.mem_append.mpr (.inl hp))
      · rw [List.mem_singleton.mp hp]; exact .head _
    · exact .tail _ (List.mem_append.mpr (.inr hp))
  d := by
    refine List.nodup_append.mpr ⟨S.d, by simp, fun x hx y hy => ?_⟩
    rw [List.mem_singleton.mp hy]
    intro e
    subst e
    obtain ⟨i, hi, e⟩ := List.getElem_of_mem hx
    have hz : (ρ.zip conc)[i]'(by simp [← S.n]; exact hi) = (ρ[i], conc[i]'(by rw [← S.n]; exact hi)) := List.getElem_zip
    have := lt (ρ[i], conc[i]'(by rw [← S.n]; exact hi)) (List.mem_append.mpr (.inl (hz ▸ List.getElem_mem _)))
    rw [e] at this
    exact Nat.lt_irrefl _ this
  r := fun q hq hm => by
    rcases List.mem_append.mp hm with hm | hm
    · exact S.r q hq hm
    · have := lt q (List.mem_append.mpr (.inr hq))
      rw [List.mem_singleton.mp hm] at this
      exact Nat.lt_irrefl _ this
/-- the object of a number -/
theorem SX.obj (S : SX h₀ L rest ls ph ρ h m conc) {i : Nat} (e : ph[i]? = some po) : ∃ a o, ρ[i]? = some a ∧ conc[i]? = some o ∧ (a, o) ∈ ρ.zip conc ++ rest ∧ po.Is ρ o := by
  obtain ⟨o, e1, e2⟩ := S.c.get e
  have hi : i < conc.length := by
    rcases Nat.lt_or_ge i conc.length with q | q
    · exact q
    · rw [List.getElem?_eq_none q] at e1; cases e1
  have hj : i < ρ.length := by rw [S.n]; exact hi
  refine ⟨ρ[i], o, List.getElem?_eq_getElem hj, e1, ?_, e2⟩
  have ho : conc[i] = o := by rw [List.getElem?_eq_getElem hi] at e1; exact Option.some.inj e1
  have hz : (ρ.zip conc)[i]'(by simp; omega) = (ρ[i], conc[i]) := List.getElem_zip
  rw [ho] at hz
  exact List.mem_append.mpr (.inl (hz ▸ List.getElem_mem _))
theorem SX.intsAt (S : SX h₀ L rest ls ph ρ h m conc) {i : Nat} {ns : List Int} (e : ph[i]? = some (.il ns)) : ∃ a vs, ρ[i]? = some a ∧ h.IsList a (List.toArray vs) ∧ IntsAre vs ns := by
  obtain ⟨a, o, e1, _, hm, vs, n, rfl, hi⟩ := S.obj e
  exact ⟨a, vs, e1, ⟨_, (S.N _ hm).1, rfl, n, rfl⟩, hi⟩
theorem SX.scAt (S : SX h₀ L rest ls ph ρ h m conc) {i : Nat} {x : Obj} {ns : List Int} (e : ph[i]? = some (.sc x ns)) : ∃ a vs, ρ[i]? = some a ∧ h.IsList a (List.toArray vs) ∧ IntsAre vs ns := by
  obtain ⟨a, o, e1, _, hm, rfl, hc, vs, n, hd, hi⟩ := S.obj e
  exact ⟨a, vs, e1, ⟨_, (S.N _ hm).1, hc, n, hd⟩, hi⟩
theorem SX.listAt (S : SX h₀ L rest ls ph ρ h m conc) {i : Nat} {xs : List PV} (e : ph[i]? = some (.pl xs)) : ∃ a vs, ρ[i]? = some a ∧ h.IsList a (List.toArray vs) ∧ All2 (PV.Is ρ) xs vs := by
  obtain ⟨a, o, e1, _, hm, vs, n, rfl, hi⟩ := S.obj e
  exact ⟨a, vs, e1, ⟨_, (S.N _ hm).1, rfl, n, rfl⟩, hi⟩
theorem SX.tupAt (S : SX h₀ L rest ls ph ρ h m conc) {i : Nat} {xs : List PV} (e : ph[i]? = some (.tu xs)) : ∃ a vs, ρ[i]? = some a ∧ IsTup h a (List.toArray vs) ∧ All2 (PV.Is ρ) xs vs := by
  obtain ⟨a, o, e1, _, hm, vs, n, rfl, hi⟩ := S.obj e
  exact ⟨a, vs, e1, ⟨_, (S.N _ hm).1, rfl, n, rfl⟩, hi⟩
/-- one object turned -/
theorem upd_zip {a : Addr} {o o' : Obj} : ∀ {ρ : List Addr} {conc : List Obj} {i : Nat} {rest : List (Addr × Obj)}, ρ.Nodup → (∀ q ∈ rest, q.1 ∉ ρ) → ρ[i]? = some a → conc[i]? = some o →
    Upd a o o' (ρ.zip conc ++ rest) (ρ.zip (conc.set i o') ++ rest)
  | b :: ρ, c :: conc, 0, rest, hd, hr, e1, e2 => by
    cases e1; cases e2
    rw [List.nodup_cons] at hd
    refine Upd.head fun p hp q => ?_
    rcases List.mem_append.mp hp with hp | hp
    · exact hd.1 (q ▸ (List.of_mem_zip hp).1)
    · exact hr p hp (q ▸ .head _)
  | b :: ρ, c :: conc, i + 1, rest, hd, hr, e1, e2 => by
    rw [List.nodup_cons] at hd
    refine Upd.tail (fun q => ?_) (upd_zip (i := i) hd.2 (fun p hp x => hr p hp (.tail _ x)) (by simpa using e1) (by simpa using e2))
    have : a ∈ ρ := List.mem_of_getElem? (by simpa using e1 : ρ[i]? = some a)
    exact hd.1 ((show b = a from q) ▸ this)
  | [], _, _, _, _, _, e1, _ => by simp at e1
  | _ :: _, [], _, _, _, _, _, e2 => by simp at e2
theorem SX.upd (S : SX h₀ L rest ls ph ρ h m conc) {i : Nat} {o' : Obj} (F : Fr h₀ L h' m) (N : News h₀ L h' (ρ.zip (conc.set i o') ++ rest)) (q : po.Is ρ o') : SX h₀ L rest ls (ph.set i po) ρ h' m (conc.set i o') where
  F := F
  l := S.l
  c := S.c.set q
  n := by rw [List.length_set]; exact S.n
  N := N
  d := S.d
  r := S.r
end
end Mine
set_option maxHeartbeats 2000000
namespace Mine

noncomputable abbrev KV := PV → List PO → Prop
noncomputable abbrev Sp := List PV → List PO → (PV → List PO → Prop) → (Nat → List PO → Prop) → Prop
inductive Bi where
  | len | bytes | int | list | tuple | max | range
structure Gm where
  val : List (PySem.Str × PV)
  fn : List (PySem.Str × Sp)
  me : List (PySem.Str × Sp)

/-- a look at the text: it goes by evaluation -/
noncomputable def ifB (b : Bool) (p : Prop) : Prop := match b with
  | true => p
  | false => False
theorem ifB_iff {b : Bool} {p : Prop} (h : ifB b p) : b = true ∧ p := by cases b <;> first | exact ⟨rfl, h⟩ | exact h.elim
/-- a branch -/
noncomputable def ifC (c : Bool) (p q : Prop) : Prop := match c with
  | true => p
  | false => q
theorem ifC_mk {c : Bool} {p q : Prop} (h1 : c = true → p) (h2 : c = false → q) : ifC c p q := by cases c <;> first | exact h1 rfl | exact h2 rfl
noncomputable def isLoc : Option NameKind → Bool
  | some .local => true
  | _ => false
noncomputable def isGlob : Option NameKind → Bool
  | some .globalImplicit => true
  | _ => false
theorem isLoc_eq {o : Option NameKind} (h : isLoc o = true) : o = some .local := by unfold isLoc at h; split at h <;> first | rfl | cases h
theorem isGlob_eq {o : Option NameKind} (h : isGlob o = true) : o = some .globalImplicit := by unfold isGlob at h; split at h <;> first | rfl | cases h
theorem not_eq {b : Bool} (h : (!b) = true) : b = false := by cases b <;> first | rfl | cases h

noncomputable def biOf (x : PySem.Str) : Option Bi :=
  if x == PySem.Str.ofString "len" then some .len else if x == PySem.Str.ofString "bytes" then some .bytes else if x == PySem.Str.ofString "int" then some .int
  else if x == PySem.Str.ofString "list" then some .list else if x == PySem.Str.ofString "tuple" then some .tuple else if x == PySem.Str.ofString "max" then some .max else if x == PySem.Str.ofString "range" then some .range else none

noncomputable def intsOf : List PV → Option (List Int)
  | [] => some []
  | .int n :: r => (intsOf r).map (n :: ·)
  | _ :: _ => none
noncomputable def mkList (xs : List PV) : PO := match intsOf xs with
  | some ns => .il ns
  | none => .pl xs
noncomputable def eqV : PV → PV → Bool
  | .int a, .int b => decide (a = b)
  | .bytes a, .bytes b => decide (a = b)
  | _, _ => false
noncomputable def tupEq : List PV → List PV → Option Bool
  | [], [] => some true
  | .int a :: r, .int b :: q => (tupEq r q).map (decide (a = b) && ·)
  | .bytes a :: r, .bytes b :: q => (tupEq r q).map (decide (a = b) && ·)
  | _, _ => none

noncomputable def vcBin (op : Operator) (a b : PV) (ph : List PO) (k : PV → List PO → Prop) : Prop :=
  match op, a, b with
  | .Add, .int x, .int y => k (.int (x + y)) ph
  | .Sub, .int x, .int y => k (.int (x - y)) ph
  | .Mult, .int x, .int y => IntMulOk x y ∧ k (.int (x * y)) ph
  | .FloorDiv, .int x, .int y => (0 < y ∧ y < 2 ^ 64) ∧ k (.int (x / y)) ph
  | .Mod, .int x, .int y => 0 < y ∧ k (.int (x % y)) ph
  | .Pow, .int x, .int y => (0 ≤ y ∧ y ≤ 1000 ∧ x.natAbs < 2 ^ 64) ∧ k (.int (x ^ y.toNat)) ph
  | .LShift, .int x, .int y => (0 ≤ y ∧ y ≤ 1000 ∧ x.natAbs < 2 ^ 64) ∧ k (.int (x * 2 ^ y.toNat)) ph
  | .RShift, .int x, .int y => 0 ≤ y ∧ k (.int (x / 2 ^ y.toNat)) ph
  | .BitAnd, .int x, .int y => k (.int (Builtin.bitAnd x y)) ph
  | .BitOr, .int x, .int y => k (.int (Builtin.bitOr x y)) ph
  | .BitXor, .int x, .int y => k (.int (Builtin.bitXor x y)) ph
  | .Add, .bytes x, .bytes y => x.length + y.length ≤ 16777216 ∧ k (.bytes (x ++ y)) ph
  | .Add, .ref i, .ref j => (match ph[i]?, ph[j]? with
    | some (.il x), some (.il y) => x.length + y.length ≤ 16777216 ∧ k (.ref ph.length) (ph ++ [.il (x ++ y)])
    | some (.tu x), some (.tu y) => (x.length ≠ 0 ∧ y.length ≠ 0 ∧ x.length + y.length ≤ 16000) ∧ k (.ref ph.length) (ph ++ [.tu (x ++ y)])
    | _, _ => False)
  | .Mult, .ref i, .int n => (match ph[i]? with
    | some (.il [c]) => (0 ≤ n ∧ n ≤ 1000) ∧ k (.ref ph.length) (ph ++ [.il (List.replicate n.toNat c)])
    | _ => False)
  | _, _, _ => False

noncomputable def cmpB (op : CmpOp) (a b : PV) (ph : List PO) : Option Bool :=
  match op, a, b with
  | .Lt, .int x, .int y => some (decide (x < y))
  | .Gt, .int x, .int y => some (decide (y < x))
  | .LtE, .int x, .int y => some (decide (x ≤ y))
  | .GtE, .int x, .int y => some (decide (y ≤ x))
  | .Eq, .int x, .int y => some (x == y)
  | .NotEq, .int x, .int y => some (x != y)
  | .NotEq, .bytes x, .bytes y => some (!decide (x = y))
  | .NotEq, .none, .none => some false
  | .Is, .none, .none => some true
  | .Is, .int _, .none => some false
  | .Is, .ref _, .none => some false
  | .NotEq, .ref i, .ref j => (match ph[i]?, ph[j]? with
    | some (.il x), some (.il y) => some (!decide (x = y))
    | some (.tu x), some (.tu y) => (tupEq x y).map (!·)
    | _, _ => none)
  | _, _, _ => none

noncomputable def vcBi (f : Bi) (vs : List PV) (ph : List PO) (k : PV → List PO → Prop) : Prop :=
  match f, vs with
  | .len, [.bytes x] => x.length ≤ 16777216 ∧ k (.int x.length) ph
  | .len, [.ref i] => (match ph[i]? with
    | some (.il x) => x.length ≤ 1000000 ∧ k (.int x.length) ph
    | some (.pl x) => x.length ≤ 1000000 ∧ k (.int x.length) ph
    | some (.sc _ x) => x.length ≤ 1000000 ∧ k (.int x.length) ph
    | _ => False)
  | .bytes, [.ref i] => (match ph[i]? with
    | some (.il x) => (KBa.In x ∧ x.length ≤ 16777216) ∧ k (.bytes x) ph
    | _ => False)
  | .bytes, [.int n] => (0 ≤ n ∧ n ≤ 1000) ∧ k (.bytes (List.replicate n.toNat 0)) ph
  | .bytes, [.bytes x] => k (.bytes x) ph
  | .int, [.int n] => k (.int n) ph
  | .int, [.bool b] => k (.int (if b = true then 1 else 0)) ph
  | .list, [.bytes x] => x.length ≤ 1000000 ∧ k (.ref ph.length) (ph ++ [.il x])
  | .tuple, [.ref i] => (match ph[i]? with
    | some (.il x) => (x.length ≠ 0 ∧ x.length ≤ 16000) ∧ k (.ref ph.length) (ph ++ [.tu (x.map .int)])
    | _ => False)
  | .max, [.int a, .int b] => k (.int (if b > a then b else a)) ph
  | _, _ => False

noncomputable def vcItem (o i : PV) (ph : List PO) (k : PV → List PO → Prop) : Prop :=
  match o, i with
  | .bytes x, .int j => (x.length ≤ 16777216 ∧ 0 ≤ j ∧ j < x.length) ∧ (0 ≤ x.getD j.toNat 0 → x.getD j.toNat 0 < 256 → k (.int (x.getD j.toNat 0)) ph)
  | .ref a, .int j => (match ph[a]? with
    | some (.il x) => (0 ≤ j ∧ j < x.length ∧ x.length ≤ 1000000) ∧ k (.int (x.getD j.toNat 0)) ph
    | some (.pl x) => (0 ≤ j ∧ j < x.length ∧ x.length ≤ 1000000) ∧ k (x.getD j.toNat .none) ph
    | some (.tu x) => (0 ≤ j ∧ j < x.length ∧ x.length ≤ 1000000) ∧ k (x.getD j.toNat .none) ph
    | some (.sc _ x) => (0 ≤ j ∧ j < x.length ∧ x.length ≤ 1000000) ∧ k (.int (x.getD j.toNat 0)) ph
    | _ => False)
  | _, _ => False

noncomputable def partOf : PV → Option (Option Int)
  | .none => some none
  | .int n => some (some n)
  | _ => none
noncomputable def vcSlice (o l u : PV) (ph : List PO) (k : PV → List PO → Prop) : Prop :=
  match o, partOf l, partOf u with
  | .bytes x, some lo, some hi => x.length ≤ 16777216 ∧ k (.bytes (List.take (hi.elim x.length (clipAt x.length) - lo.elim 0 (clipAt x.length)) (List.drop (lo.elim 0 (clipAt x.length)) x))) ph
  | _, _, _ => False

noncomputable def segNames : List PySem.Str := ["source_port", "target_port", "seq", "ack", "flags", "window", "urgent", "options", "payload"].map PySem.Str.ofString

noncomputable def vcAttr (o : PV) (name : PySem.Str) (ph : List PO) (k : PV → List PO → Prop) : Prop :=
  match o with
  | .ref a => (match ph[a]? with
    | some (.ins d) => (match ph[d]? with
      | some (.di fs) => (match fs.lookup name with
        | some v => ifB (segNames.contains name) (k v ph)
        | none => False)
      | _ => False)
    | _ => False)
  | _ => False

noncomputable def vcSelf (m : PySem.Str) (self : PV) (ph : List PO) : Bool :=
  match self with
  | .ref i => (match ph[i]? with
    | some (.ins d) => (match ph[d]? with
      | some (.di fs) => (fs.lookup m).isNone
      | _ => false)
    | _ => false)
  | _ => false

noncomputable def vcL (f : Expr → List PO → (PV → List PO → Prop) → Prop) : List Expr → List PO → (List PV → List PO → Prop) → Prop
  | [], ph, k => k [] ph
  | .Starred _ _ :: _, _, _ => False
  | e :: es, ph, k => f e ph (fun v ph1 => vcL f es ph1 (fun vs ph2 => k (v :: vs) ph2))

noncomputable def noStar : List Expr → Bool
  | [] => true
  | .Starred _ _ :: _ => false
  | _ :: r => noStar r
noncomputable def plainBase : Expr → Bool
  | .Name _ _ => true
  | .Call (.Name _ _) (_ :: _) [] _ => true
  | _ => false
noncomputable def truthB : PV → Option Bool
  | .bool b => some b
  | _ => none

noncomputable def vcPart (f : Expr → List PO → (PV → List PO → Prop) → Prop) : Option Expr → List PO → (PV → List PO → Prop) → Prop
  | none, ph, k => k .none ph
  | some e, ph, k => f e ph k

noncomputable def sliceOf : Expr → Option (Option Expr × Option Expr)
  | .Slice lo hi none _ => some (lo, hi)
  | _ => none
theorem sliceOf_some {i : Expr} {lo hi : Option Expr} (h : sliceOf i = some (lo, hi)) : ∃ q, i = .Slice lo hi none q := by
  cases i with
  | Slice l u st q => cases st with
    | none => cases h; exact ⟨q, rfl⟩
    | some _ => cases h
  | _ => cases h
noncomputable def stepE (G : Gm) (cs : Scope) (ls : List (PySem.Str × PV)) (ke : Nat → List PO → Prop) (f : Expr → List PO → (PV → List PO → Prop) → Prop) (g : Expr → List PO → (Bool → List PO → Prop) → Prop)
    (e : Expr) (ph : List PO) (k : PV → List PO → Prop) : Prop :=
  match e with
  | .Constant (.int i) _ _ => k (.int i) ph
  | .Constant .none _ _ => k .none ph
  | .Constant (.bool b) _ _ => k (.bool b) ph
  | .Constant (.bytes b) _ _ => k (.bytes (b.map fun c => (c.toNat : Int))) ph
  | .Name x _ => ifB (!(x == PySem.Str.ofString "__debug__")) (match cs.names.lookup x with
    | some .local => ifB (!(x == cellKey)) (match ls.lookup x with
      | some v => k v ph
      | none => False)
    | some .cell => (match ls.lookup cellKey with
      | some v => k v ph
      | none => False)
    | some .globalImplicit => (match G.val.lookup x with
      | some v => k v ph
      | none => False)
    | _ => False)
  | .BinOp l op r _ => f l ph fun a ph1 => f r ph1 fun b ph2 => vcBin op a b ph2 k
  | .UnaryOp .USub x _ => f x ph fun a ph1 => (match a with
    | .int n => k (.int (-n)) ph1
    | _ => False)
  | .UnaryOp .Not x _ => f x ph fun a ph1 => (match truthB a with
    | some b => k (.bool (!b)) ph1
    | none => False)
  | .Compare l [op] [r] _ => ifB (!behindInMarks op r) (f l ph fun a ph1 => f r ph1 fun b ph2 => (match cmpB op a b ph2 with
    | some c => k (.bool c) ph2
    | none => False))
  | .IfExp t a b _ => g t ph fun c ph1 => ifC c (f a ph1 k) (f b ph1 k)
  | .Subscript (.Name x p) i _ => f (.Name x p) ph fun o ph1 => (match sliceOf i with
    | some (lo, hi) => vcPart f lo ph1 fun l ph2 => vcPart f hi ph2 fun u ph3 => vcSlice o l u ph3 k
    | none => f i ph1 fun j ph2 => vcItem o j ph2 k)
  | .Attribute (.Name x p) name _ => f (.Name x p) ph fun o ph1 => vcAttr o name ph1 k
  | .List es _ => vcL f es ph fun vs ph1 => ifB (Nat.ble vs.length 1000) (k (.ref ph1.length) (ph1 ++ [mkList vs]))
  | .Tuple es _ _ => vcL f es ph fun vs ph1 => ifB (Nat.ble vs.length 1000) (k (.ref ph1.length) (ph1 ++ [.tu vs]))
  | .Call (.Name x _) args [] _ => ifB (!(x == PySem.Str.ofString "__debug__") && (isGlob (cs.names.lookup x) && noStar args)) (match G.fn.lookup x with
    | some S => vcL f args ph fun vs ph1 => S vs ph1 k ke
    | none => (match biOf x with
      | some b => vcL f args ph fun vs ph1 => vcBi b vs ph1 k
      | none => False))
  | .Call (.Attribute o m ap) args [] p => ifB (plainBase o && ((ap.endLine == p.line) && (noStar args && Nat.blt args.length 30))) (match G.me.lookup m with
    | some S => f o ph fun self ph1 => ifB (vcSelf m self ph1) (vcL f args ph1 fun vs ph2 => S (self :: vs) ph2 k ke)
    | none => False)
  | _ => False

noncomputable def stepT (f : Expr → List PO → (PV → List PO → Prop) → Prop) (g : Expr → List PO → (Bool → List PO → Prop) → Prop)
    (e : Expr) (ph : List PO) (k : Bool → List PO → Prop) : Prop :=
  match e with
  | .UnaryOp .Not x _ => g x ph fun c ph1 => k (!c) ph1
  | .BoolOp .And [] _ => k true ph
  | .BoolOp .Or [] _ => k false ph
  | .BoolOp .And (x :: r) p => g x ph fun c ph1 => ifC c (g (.BoolOp .And r p) ph1 k) (k false ph1)
  | .BoolOp .Or (x :: r) p => g x ph fun c ph1 => ifC c (k true ph1) (g (.BoolOp .Or r p) ph1 k)
  | .Compare l [op] [r] _ => ifB (!behindInMarks op r) (f l ph fun a ph1 => f r ph1 fun b ph2 => (match cmpB op a b ph2 with
    | some c => k c ph2
    | none => False))
  | .Name x p => f (.Name x p) ph fun a ph1 => (match truthB a with
    | some b => k b ph1
    | none => False)
  | .Call fn as ks p => f (.Call fn as ks p) ph fun a ph1 => (match truthB a with
    | some b => k b ph1
    | none => False)
  | _ => False

noncomputable def vcET (G : Gm) (cs : Scope) (ls : List (PySem.Str × PV)) (ke : Nat → List PO → Prop) : Nat → (Expr → List PO → (PV → List PO → Prop) → Prop) × (Expr → List PO → (Bool → List PO → Prop) → Prop)
  | 0 => (fun _ _ _ => False, fun _ _ _ => False)
  | n + 1 => (stepE G cs ls ke (vcET G cs ls ke n).1 (vcET G cs ls ke n).2, stepT (vcET G cs ls ke n).1 (vcET G cs ls ke n).2)

section test
open PySem
example : (PySem.Str.ofString "source_port" == PySem.Str.ofString "target_port") = false := by rfl
example : biOf (PySem.Str.ofString "bytes") = some .bytes := by rfl
end test
end Mine
set_option maxHeartbeats 2000000
namespace Mine

noncomputable def VP (h₀ : Heap) (L : Addr) (rest : List (Addr × Obj)) (ls : List (PySem.Str × PV)) (ρ : List Addr) (k : PV → List PO → Prop) (Q : Value → Shared → Prop) (s : Shared) : Prop :=
  ∀ v u ph' ρ' h' tk, k v ph' → ρ <+: ρ' → v.Is ρ' u → ST h₀ L rest ls ph' ρ' h' → Q u { s with heap := h', toks := tk }

section
variable {prog : Program} {w : World} {A : Around} {E : Value → Shared → Prop} {s : Shared} {h₀ : Heap} {L : Addr} {rest : List (Addr × Obj)} {ls : List (PySem.Str × PV)} {ph : List PO} {ρ : List Addr}
  {m : PySem.Str → Option Value} {conc : List Obj} {k : PV → List PO → Prop} {Q : Value → Shared → Prop}

theorem VP.pure (V : VP h₀ L rest ls ρ k Q s) (S : SX h₀ L rest ls ph ρ s.heap m conc) {v : PV} {u : Value} {tk : Nat} (hk : k v ph) (hu : v.Is ρ u) : Q u { s with toks := tk } :=
  V v u ph ρ s.heap tk hk List.prefix_rfl hu S.st
theorem VP.new (V : VP h₀ L rest ls ρ k Q s) (S : SX h₀ L rest ls ph ρ s.heap m conc) {po : PO} {o : Obj} {a : Addr} {h' : Heap} {tk : Nat} (hk : k (.ref ph.length) (ph ++ [po])) (F : Fr h₀ L h' m)
    (N : News h₀ L h' ((a, o) :: (ρ.zip conc ++ rest))) (lt : ∀ p ∈ ρ.zip conc ++ rest, p.1 < a) (q : po.Is (ρ ++ [a]) o) : Q (.ref a) { s with heap := h', toks := tk } :=
  V _ _ _ _ h' tk hk (pre_add ρ a) ⟨a, by rw [S.len]; simp, rfl⟩ (S.alloc F N lt q).st

theorem fdiv_pos (x : Int) {y : Int} (h : 0 < y) : x.fdiv y = x / y := Int.fdiv_eq_ediv_of_nonneg _ (Int.le_of_lt h)
theorem fmod_pos (x : Int) {y : Int} (h : 0 < y) : x.fmod y = x % y := Int.fmod_eq_emod_of_nonneg _ (Int.le_of_lt h)
theorem log_small {y : Int} (h0 : 0 < y) (h : y < 2 ^ 64) : y.natAbs.log2 < 9000 := by
  have : y.natAbs < 2 ^ 64 := by omega
  exact Nat.lt_trans ((Nat.log2_lt (by omega)).mpr this) (by decide)
theorem isRef {ρ : List Addr} {i : Nat} {u : Value} {a : Addr} (h : PV.Is ρ (.ref i) u) (e : ρ[i]? = some a) : u = .ref a := by
  obtain ⟨b, e', r⟩ := h
  rw [e] at e'
  cases e'
  exact r

theorem vcBin_sound {op : Operator} {a b : PV} {u v : Value} (S : SX h₀ L rest ls ph ρ s.heap m conc) (ha : a.Is ρ u) (hb : b.Is ρ v) (h : vcBin op a b ph k) (V : VP h₀ L rest ls ρ k Q s) :
    wpAny (model prog w) A (binaryOp op u v) Q E s := by
  cases op with
  | Add => cases a with
    | int x => cases b with
      | int y =>
        obtain ⟨t, rfl⟩ := ha; obtain ⟨t', rfl⟩ := hb
        exact add_int (V.pure S h ⟨_, rfl⟩)
      | _ => exact h.elim
    | bytes x => cases b with
      | bytes y =>
        obtain ⟨b1, t, rfl, e1⟩ := ha; obtain ⟨b2, t', rfl, e2⟩ := hb
        exact KBa.add_K e1 e2 h.1 fun t' tk e => V.pure S h.2 ⟨_, _, rfl, e⟩
      | _ => exact h.elim
    | ref i => cases b with
      | ref j =>
        unfold vcBin at h
        dsimp only at h
        split at h
        · rename_i x y hi hj
          obtain ⟨a1, vs, r1, l1, i1⟩ := S.intsAt hi
          obtain ⟨a2, ws, r2, l2, i2⟩ := S.intsAt hj
          rw [isRef ha r1, isRef hb r2]
          exact kmk_add_ints S.F S.N l1 l2 i1 i2 (fun D us h' F' N' lt hk => V.new S h.2 F' N' lt ⟨us, 0, rfl, hk⟩) (by rw [sizeLine_eq]; exact h.1)
        · rename_i x y hi hj
          obtain ⟨a1, vs, r1, l1, i1⟩ := S.tupAt hi
          obtain ⟨a2, ws, r2, l2, i2⟩ := S.tupAt hj
          rw [isRef ha r1, isRef hb r2]
          obtain ⟨⟨n1, n2, n3⟩, h⟩ := h
          have e1 := i1.length
          have e2 := i2.length
          refine kde_addT S.F S.N l1 l2 (fun q => n1 ?_) (fun q => n2 ?_) ?_ rfl fun D h' F' N' lt => V.new S h F' N' lt ⟨_, 0, rfl, ?_⟩
          · rw [e1]; simpa using congrArg List.length q
          · rw [e2]; simpa using congrArg List.length q
          · simp only [List.toList_toArray]; omega
          · exact (i1.append i2).imp fun _ _ q => q.mono (pre_add ρ D)
        · exact h.elim
      | _ => exact h.elim
    | _ => exact h.elim
  | Sub => cases a with
    | int x => cases b with
      | int y =>
        obtain ⟨t, rfl⟩ := ha; obtain ⟨t', rfl⟩ := hb
        exact sub_int (V.pure S h ⟨_, rfl⟩)
      | _ => exact h.elim
    | _ => exact h.elim
  | Mult => cases a with
    | int x => cases b with
      | int y =>
        obtain ⟨t, rfl⟩ := ha; obtain ⟨t', rfl⟩ := hb
        exact mul_int (V.pure S h.2 ⟨_, rfl⟩) h.1
      | _ => exact h.elim
    | ref i => cases b with
      | int n =>
        unfold vcBin at h
        dsimp only at h
        split at h
        · rename_i c hi
          obtain ⟨t, rfl⟩ := hb
          obtain ⟨a1, o, r1, _, hm, vs, ep, rfl, i1⟩ := S.obj hi
          rw [isRef ha r1]
          obtain ⟨⟨n0, n1⟩, h⟩ := h
          cases i1 with
          | cons _ tc i1 =>
            cases i1
            refine mul_list S.F S.N (S.N _ hm).1 (by omega) (by omega) (by simp; omega) fun h' F' N' => ?_
            refine V.new S h F' N' (fun p hp => Heap.lt_size (S.N p hp).1) ⟨List.replicate n.toNat (.int c tc), 0, ?_, ?_⟩
            · congr 2
              simp only [List.isEmpty_toArray, List.isEmpty_cons, Bool.false_eq_true, if_false]
              generalize n.toNat = q
              have key : ∀ (q : Nat) (acc : Array Value), List.foldl (fun x1 x2 => x1 ++ x2) acc (List.replicate q #[Value.int c tc]) = acc ++ (List.replicate q (Value.int c tc)).toArray := by
                intro q
                induction q with
                | zero => intro acc; simp
                | succ q ih =>
                  intro acc
                  rw [List.replicate_succ, List.foldl_cons, ih, List.replicate_succ]
                  apply Array.toList_inj.mp
                  simp
              rw [key]
              simp
            · generalize n.toNat = q
              induction q with
              | zero => exact .nil
              | succ q ih => exact .cons _ _ ih
        · exact h.elim
      | _ => exact h.elim
    | _ => exact h.elim
  | FloorDiv => cases a with
    | int x => cases b with
      | int y =>
        obtain ⟨t, rfl⟩ := ha; obtain ⟨t', rfl⟩ := hb
        obtain ⟨⟨h0, h1⟩, h⟩ := h
        rw [← fdiv_pos _ h0] at h
        exact floordiv_int (Int.ne_of_gt h0) (V.pure S h ⟨_, rfl⟩) (.inl (PyProof.noPylong_of_log2 (log_small h0 h1)))
      | _ => exact h.elim
    | _ => exact h.elim
  | Mod => cases a with
    | int x => cases b with
      | int y =>
        obtain ⟨t, rfl⟩ := ha; obtain ⟨t', rfl⟩ := hb
        obtain ⟨h0, h⟩ := h
        rw [← fmod_pos _ h0] at h
        exact mod_int' (Int.ne_of_gt h0) (V.pure S h ⟨_, rfl⟩)
      | _ => exact h.elim
    | _ => exact h.elim
  | Pow => cases a with
    | int x => cases b with
      | int y =>
        obtain ⟨t, rfl⟩ := ha; obtain ⟨t', rfl⟩ := hb
        obtain ⟨⟨h0, h1, h2⟩, h⟩ := h
        exact pow_int_small h0 (by omega) h2 (V.pure S h ⟨_, rfl⟩)
      | _ => exact h.elim
    | _ => exact h.elim
  | LShift => cases a with
    | int x => cases b with
      | int y =>
        obtain ⟨t, rfl⟩ := ha; obtain ⟨t', rfl⟩ := hb
        obtain ⟨⟨h0, h1, h2⟩, h⟩ := h
        exact lshift_int_small h0 (by omega) h2 (V.pure S h ⟨_, rfl⟩)
      | _ => exact h.elim
    | _ => exact h.elim
  | RShift => cases a with
    | int x => cases b with
      | int y =>
        obtain ⟨t, rfl⟩ := ha; obtain ⟨t', rfl⟩ := hb
        obtain ⟨h0, h⟩ := h
        rw [← fdiv_pos _ (kbt_pos _)] at h
        exact rshift_int h0 (V.pure S h ⟨_, rfl⟩)
      | _ => exact h.elim
    | _ => exact h.elim
  | BitAnd => cases a with
    | int x => cases b with
      | int y =>
        obtain ⟨t, rfl⟩ := ha; obtain ⟨t', rfl⟩ := hb
        exact and_int (V.pure S h ⟨_, rfl⟩)
      | _ => exact h.elim
    | _ => exact h.elim
  | BitOr => cases a with
    | int x => cases b with
      | int y =>
        obtain ⟨t, rfl⟩ := ha; obtain ⟨t', rfl⟩ := hb
        exact or_int (V.pure S h ⟨_, rfl⟩)
      | _ => exact h.elim
    | _ => exact h.elim
  | BitXor => cases a with
    | int x => cases b with
      | int y =>
        obtain ⟨t, rfl⟩ := ha; obtain ⟨t', rfl⟩ := hb
        exact xor_int (V.pure S h ⟨_, rfl⟩)
      | _ => exact h.elim
    | _ => exact h.elim
  | _ => exact h.elim

theorem eqBool_bytes {b c : Array UInt8} {t u : Tok} {Q : Bool → Shared → Prop} (h : Q (b.toList == c.toList) s) : wpAny (model prog w) A (eqBool (.bytes b t) (.bytes c u)) Q E s := by
  unfold eqBool
  show wpAny _ _ (if (Value.bytes b t == Value.bytes c u) = true then _ else _) Q E s
  by_cases hab : (Value.bytes b t == Value.bytes c u) = true
  · rw [if_pos hab]
    have e : b = c := by have := eq_of_beq hab; injection this
    subst e
    exact wpAny_bind (wpAny_rule (wpAny_pure (by simpa using h)))
  · rw [if_neg hab]
    exact wpAny_bind (W.eq_bytes (wpAny_truthy_bool h))

theorem ints_eq {b c : Array UInt8} {x y : List Int} (hb : KBw.bInts b = x) (hc : KBw.bInts c = y) : (b.toList == c.toList) = decide (x = y) := by
  subst hb hc
  have inj : ∀ {l r : List UInt8}, (l.map fun c => (c.toNat : Int)) = (r.map fun c => (c.toNat : Int)) → l = r := by
    intro l
    induction l with
    | nil => intro r e; cases r with | nil => rfl | cons _ _ => cases e
    | cons a l ih =>
      intro r e
      cases r with
      | nil => cases e
      | cons d r =>
        simp only [List.map_cons, List.cons.injEq] at e
        rw [ih e.2, UInt8.toNat_inj.mp (Int.ofNat.inj e.1)]
  by_cases e : b.toList = c.toList
  · have : KBw.bInts b = KBw.bInts c := by unfold KBw.bInts; rw [e]
    simp [e, this]
  · have : KBw.bInts b ≠ KBw.bInts c := fun q => e (inj q)
    rw [decide_eq_false this]
    exact beq_eq_false_iff_ne.mpr e

noncomputable def eqAtV (xs ys : List PV) (j : Nat) : Bool := match xs[j]?, ys[j]? with
  | some a, some b => eqV a b
  | _, _ => true
theorem tupEq_spec : ∀ {xs ys : List PV} {r : Bool}, tupEq xs ys = some r → xs.length = ys.length ∧ r = (List.range xs.length).all (eqAtV xs ys) ∧
    ∀ (j : Nat) (a b : PV), xs[j]? = some a → ys[j]? = some b → (∃ m n, a = PV.int m ∧ b = PV.int n) ∨ (∃ m n, a = PV.bytes m ∧ b = PV.bytes n)
  | [], [], _, h => by cases h; exact ⟨rfl, rfl, fun j a b e => by simp at e⟩
  | .int a :: r, .int b :: q, c, h => by
    unfold tupEq at h
    obtain ⟨d, e, rfl⟩ := Option.map_eq_some_iff.mp h
    obtain ⟨h1, rfl, h3⟩ := tupEq_spec e
    refine ⟨congrArg (· + 1) h1, ?_, fun j x y ex ey => ?_⟩
    · rw [List.length_cons, List.range_succ_eq_map, List.all_cons, List.all_map]; rfl
    · cases j with
      | zero => cases ex; cases ey; exact .inl ⟨_, _, rfl, rfl⟩
      | succ j => exact h3 j x y (by simpa using ex) (by simpa using ey)
  | .bytes a :: r, .bytes b :: q, c, h => by
    unfold tupEq at h
    obtain ⟨d, e, rfl⟩ := Option.map_eq_some_iff.mp h
    obtain ⟨h1, rfl, h3⟩ := tupEq_spec e
    refine ⟨congrArg (· + 1) h1, ?_, fun j x y ex ey => ?_⟩
    · rw [List.length_cons, List.range_succ_eq_map, List.all_cons, List.all_map]; rfl
    · cases j with
      | zero => cases ex; cases ey; exact .inr ⟨_, _, rfl, rfl⟩
      | succ j => exact h3 j x y (by simpa using ex) (by simpa using ey)

theorem all2_at {α β : Type} {R : α → β → Prop} {as : List α} {bs : List β} (h : All2 R as bs) {j : Nat} (hj : j < bs.length) : ∃ a, as[j]? = some a ∧ R a bs[j] := by
  have hj' : j < as.length := by rw [h.length]; exact hj
  obtain ⟨b, e, r⟩ := h.get (List.getElem?_eq_getElem hj')
  rw [List.getElem?_eq_getElem hj] at e
  cases e
  exact ⟨_, List.getElem?_eq_getElem hj', r⟩

theorem cmpB_sound {op : CmpOp} {a b : PV} {u v : Value} {c : Bool} (hu : A.units + 64 < cLine) (S : SX h₀ L rest ls ph ρ s.heap m conc) (ha : a.Is ρ u) (hb : b.Is ρ v) (h : cmpB op a b ph = some c) (V0 : Q (.bool c) s) :
    wpAny (model prog w) A (compareOp op u v) Q E s := by
  cases op with
  | Lt => cases a with
    | int x => cases b with
      | int y => obtain ⟨t, rfl⟩ := ha; obtain ⟨t', rfl⟩ := hb; cases h; exact lt_int V0
      | _ => cases h
    | _ => cases h
  | Gt => cases a with
    | int x => cases b with
      | int y => obtain ⟨t, rfl⟩ := ha; obtain ⟨t', rfl⟩ := hb; cases h; exact gt_int V0
      | _ => cases h
    | _ => cases h
  | LtE => cases a with
    | int x => cases b with
      | int y => obtain ⟨t, rfl⟩ := ha; obtain ⟨t', rfl⟩ := hb; cases h; exact le_int V0
      | _ => cases h
    | _ => cases h
  | GtE => cases a with
    | int x => cases b with
      | int y => obtain ⟨t, rfl⟩ := ha; obtain ⟨t', rfl⟩ := hb; cases h; exact ge_int V0
      | _ => cases h
    | _ => cases h
  | Eq => cases a with
    | int x => cases b with
      | int y => obtain ⟨t, rfl⟩ := ha; obtain ⟨t', rfl⟩ := hb; cases h; exact eq_int V0
      | _ => cases h
    | _ => cases h
  | NotEq => cases a with
    | int x => cases b with
      | int y => obtain ⟨t, rfl⟩ := ha; obtain ⟨t', rfl⟩ := hb; cases h; exact ne_int V0
      | _ => cases h
    | bytes x => cases b with
      | bytes y =>
        obtain ⟨b1, t, rfl, e1⟩ := ha; obtain ⟨b2, t', rfl, e2⟩ := hb
        cases h
        refine W.ne_bytes ?_
        show Q (.bool (!(b1.toList == b2.toList))) s
        rw [ints_eq e1 e2]
        exact V0
      | _ => cases h
    | none => cases b with
      | none => cases ha; cases hb; cases h; exact EqNone.ne_none_none V0
      | _ => cases h
    | ref i => cases b with
      | ref j =>
        unfold cmpB at h
        dsimp only at h
        split at h
        · rename_i x y hi hj
          obtain ⟨a1, vs, r1, l1, i1⟩ := S.intsAt hi
          obtain ⟨a2, ws, r2, l2, i2⟩ := S.intsAt hj
          rw [isRef ha r1, isRef hb r2]
          cases h
          exact ne_intsK l1 i1 l2 i2 hu V0
        · rename_i x y hi hj
          obtain ⟨a1, vs, r1, l1, i1⟩ := S.tupAt hi
          obtain ⟨a2, ws, r2, l2, i2⟩ := S.tupAt hj
          rw [isRef ha r1, isRef hb r2]
          obtain ⟨d, e, rfl⟩ := Option.map_eq_some_iff.mp h
          obtain ⟨h1, h2, h3⟩ := tupEq_spec e
          have n1 : vs.length = x.length := i1.length.symm
          have n2 : ws.length = x.length := i2.length.symm.trans h1.symm
          refine cmp_ofNotEq (SeqAt.RcNeAt.tuples (e := eqAtV x y) l1 l2 (by omega) (fun j j1 j2 => ?_) prog w E Q ?_)
          · obtain ⟨p, ep, rp⟩ := all2_at i1 (j := j) (by simpa using j1)
            obtain ⟨q, eq, rq⟩ := all2_at i2 (j := j) (by simpa using j2)
            have ee : eqAtV x y j = eqV p q := by unfold eqAtV; rw [ep, eq]
            rw [ee]
            simp only [List.getElem_toArray]
            rcases h3 j p q ep eq with ⟨m, n, rfl, rfl⟩ | ⟨m, n, rfl, rfl⟩
            · obtain ⟨t, rt⟩ := rp
              obtain ⟨t', rt'⟩ := rq
              rw [rt, rt']
              exact SeqAt.EqAt.int_int m t n t'
            · obtain ⟨b1, t, rt, e1⟩ := rp
              obtain ⟨b2, t', rt', e2⟩ := rq
              rw [rt, rt']
              intro prog w E Q hq
              refine eqBool_bytes ?_
              rw [ints_eq e1 e2]
              exact hq
          · have : (!((List.range (min (List.toArray vs).size (List.toArray ws).size)).all (eqAtV x y) && (List.toArray vs).size == (List.toArray ws).size)) = !d := by
              rw [h2]
              simp [n1, n2]
            rw [this]
            exact V0
        · cases h
      | _ => cases h
    | _ => cases h
  | Is => cases a with
    | none => cases b with
      | none => cases ha; cases hb; cases h; exact is_none_none V0
      | _ => cases h
    | int x => cases b with
      | none => obtain ⟨t, rfl⟩ := ha; cases hb; cases h; exact is_int_none V0
      | _ => cases h
    | ref i => cases b with
      | none => obtain ⟨t, _, rfl⟩ := ha; cases hb; cases h; exact is_ref_none V0
      | _ => cases h
    | _ => cases h
  | _ => cases h
end
end Mine
set_option maxHeartbeats 2000000
namespace Mine
theorem bl_bytes : typeLookup (.type "bytes") "__bytes__" = pure (some (.builtin "bytes.__bytes__")) := by rw [typeLookup_type, builtinLookup_eq_fast]; kernel_rfl
theorem bl_int : typeLookup (.type "int") "__bytes__" = pure none := by rw [typeLookup_type, builtinLookup_eq_fast]; kernel_rfl
section
variable {prog : Program} {w : World} {A : Around} {E : Value → Shared → Prop} {s : Shared}
theorem bytes_call {x : Value} {Q : Value → Shared → Prop}
    (h : codeAny (model prog w) A.in1 (.call (.builtin "bytes.__new__") ⟨[.type "bytes", x], []⟩) (wants (fun obj s₁ => s₁.TypeIs obj "bytes" ∧ Q obj s₁) E) s) : wpAny (model prog w) A (call (.type "bytes") [x]) Q E s :=
  callType_codes (Q₁ := fun obj s₁ => s₁.TypeIs obj "bytes" ∧ Q obj s₁) F.bm_called (F.bm_typeCall _) F.entry_object_init h fun obj s₁ h₁ =>
    ⟨h₁.1, F.args_object_init_2 obj _, object_init_meets F.bm_called.init.lookup F.bm_called.made (by decide) prog w A.in1 _ s₁ ⟨h₁.1, rfl, h₁.2⟩⟩
theorem bytes_bytes {b : Array UInt8} {t : Tok} {Q : Value → Shared → Prop} (h : Q (.bytes b t) s) : wpAny (model prog w) A (call (.type "bytes") [.bytes b t]) Q E s := by
  refine bytes_call (codeAny_of_tree ?_)
  show wpAny _ A.in1.in1 (do checkBuiltinCall "bytes.__new__" ⟨[.type "bytes", .bytes b t], []⟩; again (.builtin "bytes.__new__" ⟨[.type "bytes", .bytes b t], []⟩)) _ _ s
  refine wpAny_bind (wpAny_of_eq (F.bm_newCall _) (wpAny_pure ⟨plainId_quiet F.bm_plain _, codeAny_builtin F.bm_entry ?_⟩))
  rw [Around.under_plainId F.bm_plain _]
  unfold Builtin.«bytes.__new__»
  refine wpAny_bind (wpAny_of_eq (a := true) rfl ?_)
  refine bm_if_false rfl ?_
  refine wpAny_bind (wpAny_of_eq F.bm_sub ?_)
  refine bm_if_false rfl ?_
  refine wpAny_bind (wpAny_of_eq (F.bm_bind _) ?_)
  refine wpAny_bind (wpAny_of_eq (a := ()) rfl ?_)
  refine wpAny_bind (wpAny_of_eq (a := ()) rfl ?_)
  refine bm_if_false rfl ?_
  refine wpAny_bind (wpAny_specialOf (typeIs_bytes _ _ _) bl_bytes ?_)
  refine wpAny_bind (wpAny_rule (wpAny_bind (wpAny_typeOf (typeIs_bytes _ _ _) ?_)))
  refine bm_if_true (by decide) ?_
  show wpAny _ _ (if (Value.type "bytes" == Value.type "bytes") = true then _ else _) _ _ _
  refine bm_if_true (by decide) ?_
  first
    | exact wpAny_pure ⟨typeIs_bytes _ _ _, h⟩
    | exact wpAny_bind (wpAny_pure (wpAny_pure ⟨typeIs_bytes _ _ _, h⟩))
theorem bytes_int {n : Int} {t : Tok} {Q : Value → Shared → Prop} (h0 : 0 ≤ n) (h1 : n ≤ 1000) (h : ∀ t' tk, Q (.bytes (Array.replicate n.toNat 0) t') { s with toks := tk }) : wpAny (model prog w) A (call (.type "bytes") [.int n t]) Q E s := by
  refine bytes_call (codeAny_of_tree ?_)
  show wpAny _ A.in1.in1 (do checkBuiltinCall "bytes.__new__" ⟨[.type "bytes", .int n t], []⟩; again (.builtin "bytes.__new__" ⟨[.type "bytes", .int n t], []⟩)) _ _ s
  refine wpAny_bind (wpAny_of_eq (F.bm_newCall _) (wpAny_pure ⟨plainId_quiet F.bm_plain _, codeAny_builtin F.bm_entry ?_⟩))
  rw [Around.under_plainId F.bm_plain _]
  unfold Builtin.«bytes.__new__»
  refine wpAny_bind (wpAny_of_eq (a := true) rfl ?_)
  refine bm_if_false rfl ?_
  refine wpAny_bind (wpAny_of_eq F.bm_sub ?_)
  refine bm_if_false rfl ?_
  refine wpAny_bind (wpAny_of_eq (F.bm_bind _) ?_)
  refine wpAny_bind (wpAny_of_eq (a := ()) rfl ?_)
  refine wpAny_bind (wpAny_of_eq (a := ()) rfl ?_)
  refine bm_if_false rfl ?_
  refine wpAny_bind (wpAny_specialOf (typeIs_int _ _ _) bl_int ?_)
  refine wpAny_bind (wpAny_of_eq (a := false) rfl ?_)
  refine bm_if_false rfl ?_
  refine wpAny_bind (wpAny_specialOf (typeIs_int _ _ _) F.slot_int_index.lookup ?_)
  refine bm_if_false rfl ?_
  refine wpAny_bind (wpAny_attempt (wpAny_of_eq (rfl : asIndex (.int n t) = pure n) ?_))
  refine bm_if_false (by simp only [Builtin.Bytes.fitsIndex, Bool.not_eq_false', Bool.and_eq_true, decide_eq_true_eq]; omega) ?_
  refine wpAny_ite (KBy.ite_no (by omega) ?_)
  refine wpAny_ite (KBy.ite_no (by omega) ?_)
  refine bm_if_false (by unfold Builtin.Bytes.tooLong; rw [sizeLine_eq]; exact decide_eq_false (by omega)) ?_
  refine wpAny_bind (wpAny_rule (wpAny_bind (wpAny_mkBytes ?_ (by rw [sizeLine_eq]; simp; omega))))
  show wpAny _ _ (if (Value.type "bytes" == Value.type "bytes") = true then _ else _) _ _ _
  refine bm_if_true (by decide) ?_
  first
    | exact wpAny_pure ⟨typeIs_bytes _ _ _, h _ _⟩
    | exact wpAny_bind (wpAny_pure (wpAny_pure ⟨typeIs_bytes _ _ _, h _ _⟩))

theorem ext_bytes {R : Result → Shared → Prop} (hh : A.handled = none) (b : Array UInt8) (t : Tok) (S : Addr) (res : Value) (c₀ : Nat) (hS : s.heap.get? S = some { cls := .type "list", data := .seq #[] c₀ })
    (hR : ∀ h' tk acc' c', (∀ b o, b ≠ S → s.heap.get? b = some o → h'.get? b = some o) → h'.get? S = some { cls := .type "list", dict := none, data := .seq acc' c', slots := #[] } →
      ItemsOf (fun i v => ∃ c u, b[i]? = some c ∧ v = .int (c.toNat : Int) u) acc' b.size → R (.ok (.ret res)) { s with heap := h', toks := tk }) (hn : b.size ≤ sizeLine) :
    wpAny (model prog w) A.in1 (Builtin.List.listExtendWith (.ref S) (.bytes b t) res)
      (fun fin s' => match fin with | .done f => R (.ok f) s' | .again c' => c'.quiet = true ∧ codeAny (model prog w) A c' R s') (fun e s' => R (.error e) s') s := by
  have hSI : S ≠ s.heap.objs.size := Nat.ne_of_lt (Heap.lt_size hS)
  have hSf : S ∉ [s.heap.objs.size] := fun hm => hSI (List.mem_singleton.mp hm)
  unfold Builtin.List.listExtendWith
  refine wpAny_bind (wpAny_typeOf (typeIs_bytes _ _ _) ?_)
  have h1 : Builtin.List.listSameRef (.ref S) (.bytes b t) = false := rfl
  have h2 : (Value.type "bytes" == Value.type "list") = false := by decide
  have h3 : (Value.type "bytes" == Value.type "tuple") = false := by decide
  simp only [h1, h2, h3, Bool.or_false, Bool.false_eq_true, if_false]
  refine wpAny_bind (KBw.pyIter_bytes ?_)
  refine wpAny_bind (wpAny_holding ?_)
  unfold Builtin.List.listLengthHint
  refine wpAny_bind (wpAny_specialOf (typeIs_bytes _ _ _) FB.slot_bytes_len.lookup ?_)
  wp_delta
  refine wpAny_bind (wpAny_isInstance (b := true) (typeIs_bytes _ _ _) (by rw [isSubtype_type]; kernel_rfl) ?_)
  show wpAny _ _ (typeOf (Value.bytes b t) >>= _) _ _ _
  refine wpAny_bind (wpAny_typeOf (typeIs_bytes _ _ _) ?_)
  refine wpAny_pure ?_
  rw [if_neg (by decide)]
  refine wpAny_pure ⟨plainId_quiet F.plain_extend_loop _, codeAny_extend_loopS (KBw.walks (A := A.in1) hh s.heap.objs.size b t).toS hn _ hSf _ b.size 0 _ _ _ rfl (Nat.zero_le _) ⟨_, Heap.get?_push_size _ rfl, rfl, rfl⟩ (Heap.get?_push_of_some _ hS) (ItemsOf.nil _) fun s' acc' c' hm hS' hacc => ?_⟩
  rw [Moved.eq_with hm]
  refine hR s'.heap s'.toks acc' c' (fun b ob hb e => hm.heap b ob (fun hmem => ?_) (Heap.get?_push_of_some _ e)) hS' hacc
  rcases List.mem_cons.mp hmem with e' | hmem
  · exact hb e'
  · exact absurd (Heap.lt_size e) (by rw [List.mem_singleton.mp hmem]; exact Nat.lt_irrefl _)

theorem init_bytes {R : Result → Shared → Prop} (hh : A.handled = none) (b : Array UInt8) (t : Tok) (S : Addr) (hS : s.heap.get? S = some { cls := .type "list", data := .seq #[] })
    (hR : ∀ h' tk acc' c', (∀ b o, b ≠ S → s.heap.get? b = some o → h'.get? b = some o) → h'.get? S = some { cls := .type "list", dict := none, data := .seq acc' c', slots := #[] } →
      ItemsOf (fun i v => ∃ c u, b[i]? = some c ∧ v = .int (c.toNat : Int) u) acc' b.size → R (.ok (.ret .none)) { s with heap := h', toks := tk }) (hn : b.size ≤ sizeLine) :
    wpAny (model prog w) A.in1 (Builtin.«list.__init__» ⟨[.ref S, .bytes b t], []⟩)
      (fun fin s' => match fin with | .done f => R (.ok f) s' | .again c' => c'.quiet = true ∧ codeAny (model prog w) A c' R s') (fun e s' => R (.error e) s') s := by
  show wpAny _ _ (do let old ← Builtin.List.listItems (.ref S); Builtin.List.listUpdate (.ref S) (fun _ => #[]); letGo old.toList.reverse; Builtin.List.listExtendWith (.ref S) (.bytes b t) .none) _ _ s
  refine wpAny_bind ?_
  unfold Builtin.List.listItems
  refine wpAny_bind (wpAny_seqItems hS rfl (wpAny_pure ?_))
  show wpAny _ _ (updateSeq S (fun _ => #[]) >>= fun _ => letGo (#[] : Array Value).toList.reverse >>= fun _ => Builtin.List.listExtendWith (.ref S) (.bytes b t) .none) _ _ s
  refine wpAny_bind (wpAny_updateSeq hS rfl ?_)
  have hS₂ := Heap.get?_update_self (Obj.mapSeq (fun _ => (#[] : Array Value))) hS rfl
  have oth : ∀ b o, b ≠ S → s.heap.get? b = some o → (s.heap.update S (Obj.mapSeq (fun _ => (#[] : Array Value)))).get? b = some o :=
    fun b o hb e => (Heap.get?_update_other _ _ (Ne.symm hb)).trans e
  refine wpAny_bind (wpAny_letGo ?_)
  refine ext_bytes hh b t S .none _ hS₂ (fun h' tk acc' c' hk hS' hacc => ?_) hn
  exact hR h' tk acc' c' (fun b o hb e => hk b o hb (oth b o hb e)) hS' hacc

theorem items_ints : ∀ {vs : List Value} {l : List UInt8}, (∀ (i : Nat) (v : Value), vs[i]? = some v → ∃ (c : UInt8) (u : Tok), l[i]? = some c ∧ v = Value.int (c.toNat : Int) u) → vs.length = l.length → IntsAre vs (l.map fun c => (c.toNat : Int))
  | [], [], _, _ => .nil
  | v :: vs, c :: l, h, e => by
    obtain ⟨c', u, e1, rfl⟩ := h 0 v rfl
    cases e1
    exact .cons _ _ (items_ints (fun i v e => by simpa using h (i + 1) v (by simpa using e)) (by simpa using e))
  | [], _ :: _, _, e => by cases e
  | _ :: _, [], _, e => by cases e

theorem list_bytes {b : Array UInt8} {t : Tok} {h₀ : Heap} {L : Addr} {m : PySem.Str → Option Value} {news : List (Addr × Obj)} {ks : List Int} {Q : Value → Shared → Prop} (hh : A.handled = none) (Fm : Fr h₀ L s.heap m) (N : News h₀ L s.heap news) (hk : KBw.bInts b = ks) (hn : ks.length ≤ 16777216)
    (h : ∀ D vs c h' tk, Fr h₀ L h' m → News h₀ L h' ((D, W.listOf (List.toArray vs) c) :: news) → (∀ p ∈ news, p.1 < D) → IntsAre vs ks → Q (.ref D) { s with heap := h', toks := tk }) :
    wpAny (model prog w) A (call (.type "list") [.bytes b t]) Q E s := by
  have hz : b.size ≤ sizeLine := by rw [sizeLine_eq, ← KBw.ints_length b, hk]; exact hn
  refine callType_codes (Q₁ := fun obj s₁ => obj = .ref s.heap.objs.size ∧ s₁ = { s with heap := s.heap.push { cls := .type "list", data := .seq #[] } }) F.called_list (F.typeCall_list_1 _) F.entry_list_init
    (code_list_new _ ⟨rfl, rfl⟩) fun obj s₁ h₁ => ?_
  obtain ⟨rfl, rfl⟩ := h₁
  have hS : (s.heap.push { cls := .type "list", data := .seq #[] }).get? s.heap.objs.size = some { cls := .type "list", data := .seq #[] } := Heap.get?_push_size _ rfl
  refine ⟨⟨_, hS, rfl⟩, F.args_list_init_2 _ _, init_bytes (A := A.in1) hh b t _ hS (fun h' tk acc' c' hk' hS' hacc => ?_) hz⟩
  have keep : ∀ b o, s.heap.get? b = some o → h'.get? b = some o := fun b o e => hk' b o (Nat.ne_of_lt (Heap.lt_size e)) (Heap.get?_push_of_some _ e)
  refine ⟨rfl, h _ acc'.toList c' h' tk (Fm.keeps keep) ?_ (fun p hp => Heap.lt_size (N p hp).1) ?_⟩
  · rw [Array.toArray_toList]
    exact news_pushed Fm N keep hS' rfl
  · subst hk
    refine items_ints (fun i v e => ?_) ?_
    · obtain ⟨c, u, e1, e2⟩ := hacc.2 i v (by simpa using e)
      exact ⟨c, u, by simpa using e1, e2⟩
    · simpa using hacc.1
end
end Mine
set_option maxHeartbeats 2000000
namespace Mine

section
variable {prog : Program} {w : World} {A : Around} {E : Value → Shared → Prop} {s : Shared} {h₀ : Heap} {L : Addr} {rest : List (Addr × Obj)} {ls : List (PySem.Str × PV)} {ph : List PO} {ρ : List Addr}
  {m : PySem.Str → Option Value} {conc : List Obj} {k : PV → List PO → Prop} {Q : Value → Shared → Prop}

noncomputable def biVal : Bi → Value
  | .len => .builtin "len"
  | .bytes => .type "bytes"
  | .int => .type "int"
  | .list => .type "list"
  | .tuple => .type "tuple"
  | .max => .builtin "max"
  | .range => .type "range"

theorem arr_len {vs : List Value} {ns : List Int} (h : IntsAre vs ns) : (List.toArray vs).size = ns.length := by rw [List.size_toArray]; exact h.length

theorem vcBi_sound {f : Bi} {vs : List PV} {us : List Value} (hh : A.handled = none) (S : SX h₀ L rest ls ph ρ s.heap m conc) (ha : All2 (PV.Is ρ) vs us) (h : vcBi f vs ph k) (V : VP h₀ L rest ls ρ k Q s) :
    wpAny (model prog w) A (call (biVal f) us) Q E s := by
  cases vs with
  | nil => cases f <;> exact h.elim
  | cons p vs => cases us with
    | nil => exact ha.elim
    | cons u us => cases vs with
      | cons p2 vs => cases us with
        | nil => exact ha.2.elim
        | cons v us => cases f with
          | max => cases p with
            | int a => cases p2 with
              | int b => cases vs with
                | nil => cases us with
                  | cons _ _ => exact ha.2.2.elim
                  | nil =>
                    obtain ⟨⟨t, rfl⟩, ⟨t', rfl⟩, _⟩ := ha
                    exact max_two_N hh S.F S.N fun h' tk F' N' => V _ _ _ _ h' tk h List.prefix_rfl ⟨_, rfl⟩ (S.keep F' N').st
                | cons _ _ => exact h.elim
              | _ => exact h.elim
            | _ => exact h.elim
          | _ => cases p <;> exact h.elim
      | nil => cases us with
        | cons _ _ => exact ha.2.elim
        | nil => cases f with
          | len => cases p with
            | bytes x =>
              obtain ⟨⟨b, t, rfl, e⟩, _⟩ := ha
              exact KBw.len_K e (by have := h.1; omega) (V.pure S h.2 ⟨_, rfl⟩)
            | ref i =>
              unfold vcBi at h
              dsimp only at h
              split at h
              · rename_i x hi
                obtain ⟨a1, vs, r1, l1, i1⟩ := S.intsAt hi
                rw [isRef ha.1 r1]
                have e := arr_len i1
                refine call_len_list l1 (by omega) ?_
                rw [e]
                exact V.pure S h.2 ⟨_, rfl⟩
              · rename_i x hi
                obtain ⟨a1, vs, r1, l1, i1⟩ := S.listAt hi
                rw [isRef ha.1 r1]
                have e : (List.toArray vs).size = x.length := by rw [List.size_toArray]; exact i1.length.symm
                refine call_len_list l1 (by omega) ?_
                rw [e]
                exact V.pure S h.2 ⟨_, rfl⟩
              · rename_i x hi
                obtain ⟨a1, vs, r1, l1, i1⟩ := S.scAt hi
                rw [isRef ha.1 r1]
                have e := arr_len i1
                refine call_len_list l1 (by omega) ?_
                rw [e]
                exact V.pure S h.2 ⟨_, rfl⟩
              · exact h.elim
            | _ => exact h.elim
          | bytes => cases p with
            | ref i =>
              unfold vcBi at h
              dsimp only at h
              split at h
              · rename_i x hi
                obtain ⟨a1, vs, r1, l1, i1⟩ := S.intsAt hi
                rw [isRef ha.1 r1]
                exact KBa.make_K S.F S.N hh l1 i1 h.1.1 h.1.2 fun h' t' tk F' N' hin => V _ _ _ _ h' tk h.2 List.prefix_rfl ⟨_, t', rfl, KBa.ints_make hin⟩ (S.keep F' N').st
              · exact h.elim
            | int n =>
              obtain ⟨⟨t, rfl⟩, _⟩ := ha
              exact bytes_int h.1.1 h.1.2 fun t' tk => V.pure S h.2 ⟨_, t', rfl, by simp [KBw.bInts]⟩
            | bytes x =>
              obtain ⟨⟨b, t, rfl, e⟩, _⟩ := ha
              exact bytes_bytes (V.pure S (tk := s.toks) h ⟨_, t, rfl, e⟩)
            | _ => exact h.elim
          | int => cases p with
            | int n =>
              obtain ⟨⟨t, rfl⟩, _⟩ := ha
              exact call_int_int (V.pure S (tk := s.toks) h ⟨t, rfl⟩)
            | bool b =>
              obtain ⟨rfl, _⟩ := ha
              exact call_int_bool (V.pure S h ⟨_, rfl⟩)
            | _ => exact h.elim
          | list => cases p with
            | bytes x =>
              obtain ⟨⟨b, t, rfl, e⟩, _⟩ := ha
              exact list_bytes hh S.F S.N e (by have := h.1; omega) fun D vs c h' tk F' N' lt hi => V.new S h.2 F' N' lt ⟨vs, c, rfl, hi⟩
            | _ => exact h.elim
          | tuple => cases p with
            | ref i =>
              unfold vcBi at h
              dsimp only at h
              split at h
              · rename_i x hi
                obtain ⟨a1, vs, r1, l1, i1⟩ := S.intsAt hi
                rw [isRef ha.1 r1]
                have e := arr_len i1
                refine kde_tupleOf S.F S.N l1 (by omega) rfl fun D h' F' N' lt => V.new S h.2 F' N' lt ⟨vs, 0, rfl, intsAre_all i1⟩
              · exact h.elim
            | _ => exact h.elim
          | max => cases p <;> exact h.elim
          | range => exact h.elim

theorem plain_slice {slice : Expr} {o i : Value} (h : ∀ l u p, slice ≠ .Slice l u none p) : subscripted slice false o i = operate [o, i] (getItem o i) := by
  cases slice with
  | Slice l u st p => cases st with
    | none => exact absurd rfl (h l u p)
    | some e => rfl
  | _ => rfl

theorem vcItem_sound {o i : PV} {u v : Value} {x : PySem.Str} {p : Pos} {slice : Expr} (hs : ∀ l u p, slice ≠ .Slice l u none p) (S : SX h₀ L rest ls ph ρ s.heap m conc) (ho : o.Is ρ u) (hi : i.Is ρ v) (h : vcItem o i ph k) (V : VP h₀ L rest ls ρ k Q s) :
    wpAny (model prog w) A (subscriptTail (.Name x p) slice u v) Q E s := by
  unfold vcItem at h
  split at h
  · obtain ⟨b, t, rfl, e⟩ := ho
    obtain ⟨t', rfl⟩ := hi
    exact KBw.item_K e (by omega) h.1.2.1 h.1.2.2 (fun t' tk h0 h1 => V.pure S (h.2 h0 h1) ⟨t', rfl⟩) (plain_slice hs) (fun _ => rfl)
  · rename_i a j
    obtain ⟨t', rfl⟩ := hi
    split at h
    · rename_i x hx
      obtain ⟨a1, vs, r1, l1, i1⟩ := S.intsAt hx
      rw [isRef ho r1]
      obtain ⟨⟨h0, h1, h2⟩, h⟩ := h
      have hl := i1.length
      obtain ⟨y, hy⟩ : ∃ y, vs[j.toNat]? = some y := ⟨vs[j.toNat]'(by omega), List.getElem?_eq_getElem (by omega)⟩
      obtain ⟨n, t, rfl, hn⟩ := IntsAre.at i1 _ y hy
      have e : x.getD j.toNat 0 = n := by rw [List.getD_eq_getElem?_getD, hn]; rfl
      rw [e] at h
      exact tail_any l1.typeIs slot_list_getitem.lookup (wpAny_getItem_list l1 h0 (by omega) (by simpa using hy) (V.pure S (tk := s.toks) h ⟨t, rfl⟩)) (plain_slice hs)
    · rename_i x hx
      obtain ⟨a1, vs, r1, l1, i1⟩ := S.listAt hx
      rw [isRef ho r1]
      obtain ⟨⟨h0, h1, h2⟩, h⟩ := h
      have hl := i1.length
      obtain ⟨y, hy⟩ : ∃ y, x[j.toNat]? = some y := ⟨x[j.toNat]'(by omega), List.getElem?_eq_getElem (by omega)⟩
      obtain ⟨n, e1, e2⟩ := i1.get hy
      have e : x.getD j.toNat .none = y := by rw [List.getD_eq_getElem?_getD, hy]; rfl
      rw [e] at h
      exact tail_any l1.typeIs slot_list_getitem.lookup (wpAny_getItem_list l1 h0 (by omega) (by simpa using e1) (V.pure S (tk := s.toks) h e2)) (plain_slice hs)
    · rename_i x hx
      obtain ⟨a1, vs, r1, l1, i1⟩ := S.tupAt hx
      rw [isRef ho r1]
      obtain ⟨⟨h0, h1, h2⟩, h⟩ := h
      have hl := i1.length
      obtain ⟨y, hy⟩ : ∃ y, x[j.toNat]? = some y := ⟨x[j.toNat]'(by omega), List.getElem?_eq_getElem (by omega)⟩
      obtain ⟨n, e1, e2⟩ := i1.get hy
      have e : x.getD j.toNat .none = y := by rw [List.getD_eq_getElem?_getD, hy]; rfl
      rw [e] at h
      have q : seqIndex? j vs.length = some j.toNat := by
        have hn : ¬ j < 0 := by omega
        have h3 : j < (vs.length : Int) := by omega
        simp [seqIndex?, hn, h0, h3]
      exact item_tupleT l1 (by omega) (by omega) q e1 (V.pure S (tk := s.toks) h e2) (plain_slice hs)
    · rename_i x hx
      obtain ⟨a1, vs, r1, l1, i1⟩ := S.scAt hx
      rw [isRef ho r1]
      obtain ⟨⟨h0, h1, h2⟩, h⟩ := h
      have hl := i1.length
      obtain ⟨y, hy⟩ : ∃ y, vs[j.toNat]? = some y := ⟨vs[j.toNat]'(by omega), List.getElem?_eq_getElem (by omega)⟩
      obtain ⟨n, t, rfl, hn⟩ := IntsAre.at i1 _ y hy
      have e : x.getD j.toNat 0 = n := by rw [List.getD_eq_getElem?_getD, hn]; rfl
      rw [e] at h
      exact tail_any l1.typeIs slot_list_getitem.lookup (wpAny_getItem_list l1 h0 (by omega) (by simpa using hy) (V.pure S (tk := s.toks) h ⟨t, rfl⟩)) (plain_slice hs)
    · exact h.elim
  · exact h.elim

theorem partOf_is {v : PV} {u : Value} {o : Option Int} (h : v.Is ρ u) (e : partOf v = some o) : IsPart u o := by
  unfold partOf at e
  split at e
  · cases e; cases h; exact .none
  · cases e; obtain ⟨t, rfl⟩ := h; exact .int _ _
  · cases e
theorem vcSlice_sound {o l r : PV} {u v z : Value} {x : PySem.Str} {p q : Pos} {lo hi : Option Expr} (S : SX h₀ L rest ls ph ρ s.heap m conc) (ho : o.Is ρ u) (hl : l.Is ρ v) (hr : r.Is ρ z) (h : vcSlice o l r ph k) (V : VP h₀ L rest ls ρ k Q s) :
    wpAny (model prog w) A (subscriptTail (.Name x p) (.Slice lo hi none q) u (.ref s.heap.objs.size)) Q E { s with heap := s.heap.push { cls := .type "slice", data := .fields #[v, z, .none] } } := by
  unfold vcSlice at h
  split at h
  · rename_i x lo' hi' e1 e2
    obtain ⟨b, t, rfl, e⟩ := ho
    exact KBc.slice_K S.F S.N e (partOf_is hl e1) (partOf_is hr e2) h.1 (fun h' t' tk F' N' e' => V _ _ _ _ h' tk h.2 List.prefix_rfl ⟨_, t', rfl, e'⟩ (S.keep F' N').st) rfl (fun _ => rfl)
  · exact h.elim
end
end Mine
set_option maxHeartbeats 2000000
namespace Mine

noncomputable def clsA : Nat → Addr
  | 0 => 44
  | _ => 56
/-- an exception that a called def has let through -/
noncomputable def XC (base : Heap) (env : Env) (outer : List Env) (h₀ : Heap) (L : Addr) (rest : List (Addr × Obj)) (c : Nat) (ph : List PO) (ρ : List Addr) (e : Addr) (h' : Heap) : Prop :=
  ∃ t vs conc g₂ m, RaisedK base (env :: outer) e (.ref (clsA c)) t vs (ρ.zip conc ++ rest) h' ∧ Fr h₀ L g₂ m ∧ g₂.UpToSlots h' ∧ All2 (PO.Is ρ) ph conc ∧ ρ.length = conc.length ∧ ρ.Nodup ∧ ∀ q ∈ rest, q.1 ∉ ρ

structure Frm (hT : Heap) (A : Around) (env : Env) (outer : List Env) (base h₀ : Heap) (L : Addr) (lv : Nat) : Prop where
  fr : A.frames = some (env :: outer)
  hl : env.frame = some L
  hk : env.scope.kind = .function
  hh : A.handled = none
  hd : A.depth + 2 * lv + 8 < recursionLimit
  hu : A.units + 8 * lv + 200 < cLine
  bl : ∃ A₀, Below A₀ base outer h₀
  st : hT.StaysIn h₀
  tpb : 100 ≤ lv → h₀ = base
theorem Frm.less {hT : Heap} {A : Around} {ev env : Env} {outer : List Env} {base h₀ : Heap} {L : Addr} {lv lv' : Nat} (F : Frm hT A env outer base h₀ L lv) (h : lv' ≤ lv) : Frm hT A env outer base h₀ L lv' :=
  { F with hd := by have := F.hd; omega, hu := by have := F.hu; omega, tpb := fun q => F.tpb (Nat.le_trans q h) }

/-- the environment in which an expression is evaluated: the frame's own, or that of a comprehension in it -/
structure EvEnv (ev : Env) (cs : Scope) (L : Addr) : Prop where
  kd : ∀ x k, cs.names.lookup x = some k → ev.kindOf x = some k
  hk : ev.scope.kind = .function
  gl : ev.globals = mainGlobals
  bu : ev.builtins = builtinsNs
  lo : ∀ x, cs.names.lookup x = some .local → ev.locals = L
  ce : ∀ x, cs.names.lookup x = some .cell → ev.cells.lookup x = some (L + 1)

/-- the same, where a local may be read only if 'ls' tells it -/
structure EvW (ev : Env) (cs : Scope) (L : Addr) (ls : List (PySem.Str × PV)) : Prop where
  kd : ∀ x k, cs.names.lookup x = some k → ev.kindOf x = some k
  hk : ev.scope.kind = .function
  gl : ev.globals = mainGlobals
  bu : ev.builtins = builtinsNs
  lo : ∀ x v, cs.names.lookup x = some .local → ls.lookup x = some v → x ≠ cellKey → ev.locals = L
  ce : ∀ x, cs.names.lookup x = some .cell → ev.cells.lookup x = some (L + 1)
theorem EvEnv.w {ev : Env} {cs : Scope} {L : Addr} (E : EvEnv ev cs L) (ls : List (PySem.Str × PV)) : EvW ev cs L ls := ⟨E.kd, E.hk, E.gl, E.bu, fun x _ h _ _ => E.lo x h, E.ce⟩

noncomputable def EP (base : Heap) (env : Env) (outer : List Env) (h₀ : Heap) (L : Addr) (rest : List (Addr × Obj)) (ρ : List Addr) (ke : Nat → List PO → Prop) (E : Value → Shared → Prop) (s : Shared) : Prop :=
  ∀ c ph' ρ' e h' tk, ke c ph' → ρ <+: ρ' → XC base env outer h₀ L rest c ph' ρ' e h' → E (.ref e) { s with heap := h', toks := tk }
theorem EP.from {base : Heap} {env : Env} {outer : List Env} {h₀ : Heap} {L : Addr} {rest : List (Addr × Obj)} {ρ ρ₁ : List Addr} {ke : Nat → List PO → Prop} {E : Value → Shared → Prop} {s : Shared} {h' : Heap} {tk : Nat}
    (H : EP base env outer h₀ L rest ρ ke E s) (p : ρ <+: ρ₁) : EP base env outer h₀ L rest ρ₁ ke E { s with heap := h', toks := tk } := fun c ph' ρ' e h' tk hk p' hx => H c ph' ρ' e h' tk hk (p.trans p') hx

noncomputable def CallOk (prog : Program) (w : World) (hT : Heap) (a : Addr) (S : Sp) (lv : Nat) : Prop :=
  ∀ (A : Around) (env : Env) (outer : List Env) (base h₀ : Heap) (L : Addr), Frm hT A env outer base h₀ L lv → ∀ rest ls ph ρ s vs us k ke Q E, S vs ph k ke → All2 (PV.Is ρ) vs us → ST h₀ L rest ls ph ρ s.heap →
    VP h₀ L rest ls ρ k Q s → EP base env outer h₀ L rest ρ ke E s →
    codeAny (model prog w) A (.call (.ref a) ⟨us, []⟩) (fun r s' => match r with | .ok (.ret v) => Q v s' | .ok _ => False | .error e => E e s') s

structure GOk (prog : Program) (w : World) (mg mb : PySem.Str → Option Value) (hT : Heap) (K : Frag) (G : Gm) (lv : Nat) : Prop where
  g : hT.Ns mainGlobals mg
  b : hT.Ns builtinsNs mb
  X : K.In hT
  val : ∀ x v, G.val.lookup x = some v → ∃ u, mg x = some u ∧ v.Is [] u
  bi : ∀ x b, biOf x = some b → mg x = none ∧ mb x = some (biVal b)
  fn : ∀ x S, G.fn.lookup x = some S → ∃ a, mg x = some (.ref a) ∧ (∃ k, (k = Keeper.frame ∨ k = Keeper.machine ∨ k = Keeper.boundFrame) ∧ Looks (model prog w) hT (keeperOf (.ref a)) k) ∧ CallOk prog w hT a S lv
  me : ∀ x S, G.me.lookup x = some S → ∃ f, findIn K (.ref segC) x = some (some (.ref f)) ∧ isFn K (.ref f) = true ∧ segNames.contains x = false ∧ (∃ k, (k = Keeper.frame ∨ k = Keeper.machine ∨ k = Keeper.boundFrame) ∧ Looks (model prog w) hT (keeperOf (.ref f)) k) ∧ CallOk prog w hT f S lv
  sg : plainGet K segC "" = true ∧ hasDictIn K segC = true
  sn : ∀ x, segNames.contains x = true → findIn K (.ref segC) x = some none

section
variable {prog : Program} {w : World} {mg mb : PySem.Str → Option Value} {hT : Heap} {K : Frag} {G : Gm} {lv : Nat} {A : Around} {ev env : Env} {outer : List Env} {base h₀ : Heap} {L : Addr} {E : Value → Shared → Prop} {s : Shared}
  {rest : List (Addr × Obj)} {ls : List (PySem.Str × PV)} {ph : List PO} {ρ : List Addr} {ke : Nat → List PO → Prop} {m : PySem.Str → Option Value} {conc : List Obj} {k : PV → List PO → Prop} {Q : Value → Shared → Prop}

variable (prog w A ev env outer base h₀ L rest ls ke) in
noncomputable def EvOk (f : Expr → List PO → (PV → List PO → Prop) → Prop) : Prop :=
  ∀ e ph k, f e ph k → ∀ ρ s Q E, ST h₀ L rest ls ph ρ s.heap → VP h₀ L rest ls ρ k Q s → EP base env outer h₀ L rest ρ ke E s → wpAny (model prog w) A (eval e ev) Q E s
noncomputable def TP (h₀ : Heap) (L : Addr) (rest : List (Addr × Obj)) (ls : List (PySem.Str × PV)) (ρ : List Addr) (k : Bool → List PO → Prop) (Q : Bool → Shared → Prop) (s : Shared) : Prop :=
  ∀ c ph' ρ' h' tk, k c ph' → ρ <+: ρ' → ST h₀ L rest ls ph' ρ' h' → Q c { s with heap := h', toks := tk }
variable (prog w A ev env outer base h₀ L rest ls ke) in
noncomputable def TeOk (g : Expr → List PO → (Bool → List PO → Prop) → Prop) : Prop :=
  ∀ e ph k, g e ph k → ∀ ρ s Q E, ST h₀ L rest ls ph ρ s.heap → TP h₀ L rest ls ρ k Q s → EP base env outer h₀ L rest ρ ke E s → wpAny (model prog w) A (isTrue e ev (eval e ev)) Q E s
noncomputable def LP (h₀ : Heap) (L : Addr) (rest : List (Addr × Obj)) (ls : List (PySem.Str × PV)) (ρ : List Addr) (k : List PV → List PO → Prop) (Q : List Value → Shared → Prop) (s : Shared) : Prop :=
  ∀ vs us ph' ρ' h' tk, k vs ph' → ρ <+: ρ' → All2 (PV.Is ρ') vs us → ST h₀ L rest ls ph' ρ' h' → Q us { s with heap := h', toks := tk }

theorem star_cons {e : Expr} {es : List Expr} (h : ∀ x p, e ≠ .Starred x p) : starEach (e :: es) env = (false, eval e env) :: starEach es env := by
  cases e <;> first | rfl | exact absurd rfl (h _ _)

theorem vcL_sound {f : Expr → List PO → (PV → List PO → Prop) → Prop} (Hf : EvOk prog w A ev env outer base h₀ L rest ls ke f) {pos : Pos} : ∀ {es : List Expr} {ph : List PO} {k : List PV → List PO → Prop}, vcL f es ph k → ∀ {ρ s Q E}, ST h₀ L rest ls ph ρ s.heap →
    LP h₀ L rest ls ρ k Q s → EP base env outer h₀ L rest ρ ke E s → wpAny (model prog w) A (spliced (backTo pos (starEach es ev))) Q E s
  | [], ph, k, h, ρ, s, Q, E, S, V, _ => Calls.spliced_nil (V [] [] ph ρ s.heap s.toks h List.prefix_rfl trivial S)
  | e :: es, ph, k, h, ρ, s, Q, E, S, V, HE => by
    unfold vcL at h
    split at h
    · rename_i hnil; cases hnil
    · exact h.elim
    · rename_i hne heq
      cases heq
      refine spliced_more ?_ (star_cons fun x p q => hne x p q)
      refine Hf _ _ _ h ρ s _ E S (fun v u ph1 ρ1 h1 tk1 hk p1 hu S1 => ?_) HE
      refine vcL_sound Hf hk S1 (fun vs us ph2 ρ2 h2 tk2 hk2 p2 hus S2 => ?_) (HE.from p1)
      exact V (v :: vs) (u :: us) ph2 ρ2 h2 tk2 hk2 (p1.trans p2) ⟨hu.mono p2, hus⟩ S2

theorem noStar_any {pos : Pos} : ∀ {es : List Expr}, noStar es = true → (backTo pos (starEach es env)).any (·.1) = false
  | [], _ => rfl
  | e :: es, h => by
    have h2 : noStar es = true ∧ ∀ x p, e ≠ .Starred x p := by
      cases e <;> first | exact ⟨h, fun _ _ q => by cases q⟩ | cases h
    rw [star_cons h2.2]
    have := noStar_any (pos := pos) h2.1
    simp only [backTo, List.map_cons, List.any_cons, Bool.false_or] at this ⊢
    exact this
theorem noStar_all {pos : Pos} : ∀ {es : List Expr}, noStar es = true → (backTo pos (starEach es env)).all (fun x => !x.1) = true
  | [], _ => rfl
  | e :: es, h => by
    have h2 : noStar es = true ∧ ∀ x p, e ≠ .Starred x p := by
      cases e <;> first | exact ⟨h, fun _ _ q => by cases q⟩ | cases h
    rw [star_cons h2.2]
    have := noStar_all (pos := pos) h2.1
    simp only [backTo, List.map_cons, List.all_cons, Bool.not_false, Bool.true_and] at this ⊢
    exact this
theorem args_plain {M : Model} {f : Value} {pos : Pos} {es : List Expr} {Q : Args → Shared → Prop} (hn : noStar es = true) (h : wpAny M A (spliced (backTo pos (starEach es env))) (fun vs s' => Q ⟨vs, []⟩ s') E s) :
    wpAny M A (evalArgs f true (backTo pos (starEach es env)) []) Q E s := by
  have key : ∀ {l : List (Bool × Sem Value)}, (l = [] ∨ ∃ x r, l = (false, x) :: r) → wpAny M A (spliced l) (fun vs s' => Q ⟨vs, []⟩ s') E s → wpAny M A (evalArgs f true l []) Q E s := by
    intro l hl h
    rcases hl with rfl | ⟨x, r, rfl⟩
    · unfold evalArgs
      show wpAny M A (spliced [] >>= _) Q E s
      refine wpAny_bind (wpAny_mono h (fun vs s' h' => wpAny_bind (wpAny_pure ?_)) fun _ _ x => x)
      refine wpAny_holding ?_
      exact wpAny_bind (wpAny_pure (wpAny_bind (wpAny_pure (wpAny_pure h'))))
    · exact Calls.evalArgs_plain h
  refine key ?_ h
  cases es with
  | nil => exact .inl rfl
  | cons e es =>
    have h2 : ∀ x p, e ≠ .Starred x p := fun x p q => by subst q; exact absurd hn Bool.false_ne_true
    rw [star_cons h2]
    exact .inr ⟨_, _, rfl⟩

theorem lookGet {ρ : List Addr} {x : PySem.Str} {v : PV} : ∀ {fs : List (PySem.Str × PV)} {es : List DictEntry}, All2 (FieldIs ρ) fs es → fs.lookup x = some v → ∃ u, getL x es = some (some u) ∧ v.Is ρ u
  | [], [], _, h => by cases h
  | (n, p) :: fs, e :: es, hr, h => by
    obtain ⟨⟨⟨t, ek⟩, hv⟩, hr⟩ := hr
    have hb : e.key.isStr x = (n == x) := by rw [ek]; rfl
    rw [List.lookup_cons] at h
    unfold getL
    rw [List.find?_cons, hb]
    by_cases q : (x == n) = true
    · have q' : (n == x) = true := by rw [beq_iff_eq] at q ⊢; exact q.symm
      rw [q] at h
      rw [q']
      cases h
      exact ⟨_, rfl, hv⟩
    · have q0 : (x == n) = false := by simpa using q
      have q' : (n == x) = false := by
        rw [beq_eq_false_iff_ne] at q0 ⊢
        exact fun z => q0 z.symm
      rw [q0] at h
      rw [q']
      obtain ⟨u, h1, h2⟩ := lookGet hr h
      refine ⟨u, ?_, h2⟩
      unfold getL at h1
      revert h1
      cases List.find? (fun x_1 => x_1.key.isStr x) es with
      | some e => exact fun z => z
      | none =>
        dsimp only
        intro z
        split at z <;> cases z
  | [], _ :: _, h, _ => h.elim
  | _ :: _, [], h, _ => h.elim

theorem Frm.kp {lv : Nat} (F : Frm hT A env outer base h₀ L lv) (S : SX h₀ L rest ls ph ρ s.heap m conc) : ∀ b o, hT.get? b = some o → s.heap.get? b = some o := fun b o e => S.F.keep b o (F.st b o e)

theorem instAt_of (S : SX h₀ L rest ls ph ρ s.heap m conc) {a d : Nat} {fs : List (PySem.Str × PV)} (h1 : ph[a]? = some (.ins d)) (h2 : ph[d]? = some (.di fs)) :
    ∃ x dx es n, ρ[a]? = some x ∧ ρ[d]? = some dx ∧ conc[d]? = some (dictOf es n) ∧ All2 (FieldIs ρ) fs es ∧ InstAt s.heap x (instObj segC dx) segC (some (dictOf es n)) := by
  obtain ⟨x, o, e1, _, m1, dx, ed, rfl⟩ := S.obj h1
  obtain ⟨dx', o', e2, c2, m2, es, n, rfl, hr⟩ := S.obj h2
  rw [ed] at e2
  cases e2
  exact ⟨x, dx, es, n, e1, ed, c2, hr, (S.N _ m1).1, rfl, rfl, (S.N _ m2).1⟩

theorem vcAttr_sound {lv : Nat} (GK : GOk prog w mg mb hT K G lv) (F : Frm hT A env outer base h₀ L lv) {o : PV} {u : Value} {name : PySem.Str} (S : SX h₀ L rest ls ph ρ s.heap m conc) (ho : o.Is ρ u) (h : vcAttr o name ph k) (V : VP h₀ L rest ls ρ k Q s) :
    wpAny (model prog w) A (getAttr u name true) Q E s := by
  unfold vcAttr at h
  split at h
  · rename_i a
    split at h
    · rename_i d hd
      split at h
      · rename_i fs hf
        split at h
        · rename_i v hv
          replace h := ifB_iff h
          obtain ⟨x, dx, es, n, e1, e2, _, hr, I⟩ := instAt_of S hd hf
          rw [isRef ho e1]
          obtain ⟨z, g1, g2⟩ := lookGet hr hv
          refine get_own S.F (GK.X.keeps F.st) I GK.sg.1 GK.sg.2 (GK.sn name h.1) rfl g1 ?_ (V.pure S h.2 g2)
          cases v <;> first | (obtain ⟨t, rfl⟩ := g2; rfl) | (cases g2; rfl) | (obtain ⟨b, t, rfl, _⟩ := g2; rfl) | (obtain ⟨t, _, rfl⟩ := g2; rfl)
        · exact h.elim
      · exact h.elim
    · exact h.elim
  · exact h.elim
end
end Mine
set_option maxHeartbeats 2000000
namespace Mine
theorem intsOf_spec {ρ : List Addr} : ∀ {vs : List PV} {ns : List Int} {us : List Value}, intsOf vs = some ns → All2 (PV.Is ρ) vs us → IntsAre us ns
  | [], ns, [], h, _ => by cases h; exact .nil
  | .int n :: r, ns, u :: us, h, a => by
    unfold intsOf at h
    obtain ⟨q, e, rfl⟩ := Option.map_eq_some_iff.mp h
    obtain ⟨⟨t, rfl⟩, a⟩ := a
    exact .cons _ _ (intsOf_spec e a)
  | _ :: _, _, [], _, a => a.elim
  | [], _, _ :: _, _, a => a.elim
theorem mkList_is {ρ : List Addr} {vs : List PV} {us : List Value} (a : All2 (PV.Is ρ) vs us) : (mkList vs).Is ρ (W.listOf (List.toArray us) 0) := by
  unfold mkList
  split
  · rename_i ns e
    exact ⟨us, 0, rfl, intsOf_spec e a⟩
  · exact ⟨us, 0, rfl, a⟩

theorem lookNone {ρ : List Addr} {x : PySem.Str} : ∀ {fs : List (PySem.Str × PV)} {es : List DictEntry}, All2 (FieldIs ρ) fs es → fs.lookup x = none → getL x es = some none
  | [], [], _, _ => rfl
  | (n, p) :: fs, e :: es, hr, h => by
    obtain ⟨⟨⟨t, ek⟩, hv⟩, hr⟩ := hr
    have hb : e.key.isStr x = (n == x) := by rw [ek]; rfl
    rw [List.lookup_cons] at h
    have q0 : (x == n) = false := by
      cases q : x == n with
      | false => rfl
      | true => rw [q] at h; cases h
    rw [q0] at h
    have ih := lookNone hr h
    have q' : (n == x) = false := by
      rw [beq_eq_false_iff_ne] at q0 ⊢
      exact fun z => q0 z.symm
    unfold getL at ih ⊢
    have hk : e.refKey = false := by
      show (match e.key with | .ref _ => true | _ => false) = false
      rw [ek]
    rw [List.find?_cons, hb, q', List.any_cons, hk]
    exact ih
  | [], _ :: _, h, _ => h.elim
  | _ :: _, [], h, _ => h.elim

theorem methCall {prog : Program} {w : World} {A : Around} {env : Env} {E : Value → Shared → Prop} {s : Shared} {o : Expr} {m : PySem.Str} {ap p : Pos} {args : List Expr} {Q : Value → Shared → Prop} (hb : plainBase o = true) (hl : (ap.endLine == p.line) = true) (hn : noStar args = true) (hz : args.length < 30)
    (h : ∀ pl, wpAny (model prog w) A (eval o env) (fun ov s₁ => wpAny (model prog w) A (getMethod ov m pl) (fun fx s₂ => wpAny (model prog w) A (callWith p fx.1 fx.2 (backTo p (starEach args env)) []) Q E s₂) E s₁) E s) :
    wpAny (model prog w) A (eval (.Call (.Attribute o m ap) args [] p) env) Q E s := by
  have hbase : attributeBase o m env (eval o env) = eval o env := by
    cases o with
    | Name x q => rfl
    | Call f as ks q => cases f with
      | Name y r => cases as with
        | nil => cases hb
        | cons a as => cases ks with
          | nil => rfl
          | cons _ _ => cases hb
      | _ => cases hb
    | _ => cases hb
  have hform : methodCallForm args.length (backTo p (starEach args env)) [] = true := by
    unfold methodCallForm
    rw [noStar_all hn]
    simp [hz]
  have hlen : (args.length + ([] : List Keyword).length) = args.length := rfl
  show wpAny _ _ (do
    let ov ← attributeBase o m env (eval o env)
    standAt ap.atName
    methodCall o m ap p env ov (args.length + ([] : List Keyword).length) (backTo p (starEach args env)) (backToKw p (keywordEach [] env))) Q E s
  rw [hbase, hlen]
  refine wpAny_bind (wpAny_mono (h (do return (← importBound o env).getD true)) (fun ov s₁ h₁ => wpAny_bind (wpAny_standAt ?_)) fun _ _ x => x)
  unfold methodCall
  show wpAny _ _ (holding [ov] (calleeOf (methodCallForm args.length (backTo p (starEach args env)) []) o env ov m) >>= fun x => methodCallPos (methodCallForm args.length (backTo p (starEach args env)) []) o env ap p >>= fun callPos => callWith callPos x.1 x.2 (backTo p (starEach args env)) []) Q E s₁
  rw [hform]
  refine wpAny_bind (wpAny_holding (wpAny_mono h₁ (fun fx s₂ h₂ => ?_) fun _ _ x => x))
  unfold methodCallPos
  simp only [hl, Bool.or_true, if_true]
  exact wpAny_bind (wpAny_pure h₂)

section
variable {prog : Program} {w : World} {mg mb : PySem.Str → Option Value} {hT : Heap} {K : Frag} {G : Gm} {lv : Nat} {A : Around} {ev env : Env} {outer : List Env} {base h₀ : Heap} {L : Addr} {E : Value → Shared → Prop} {s : Shared}
  {rest : List (Addr × Obj)} {ls : List (PySem.Str × PV)} {ph : List PO} {ρ : List Addr} {ke : Nat → List PO → Prop} {m : PySem.Str → Option Value} {conc : List Obj} {k : PV → List PO → Prop} {Q : Value → Shared → Prop}
  {f : Expr → List PO → (PV → List PO → Prop) → Prop} {g : Expr → List PO → (Bool → List PO → Prop) → Prop}

theorem VP.from {s : Shared} {k k' : PV → List PO → Prop} {ρ ρ' : List Addr} {h' : Heap} {tk : Nat} (V : VP h₀ L rest ls ρ k Q s) (p : ρ <+: ρ') (h : ∀ v ph, k' v ph → k v ph) : VP h₀ L rest ls ρ' k' Q { s with heap := h', toks := tk } :=
  fun v u ph'' ρ'' h'' tk'' hk p' hu S => V v u ph'' ρ'' h'' tk'' (h _ _ hk) (p.trans p') hu S

theorem part_sound (hf : EvOk prog w A ev env outer base h₀ L rest ls ke f) {o : Option Expr} {k : PV → List PO → Prop} (h : vcPart f o ph k) (S : ST h₀ L rest ls ph ρ s.heap) (V : VP h₀ L rest ls ρ k Q s) (HE : EP base env outer h₀ L rest ρ ke E s) : wpAny (model prog w) A (evalPart o ev) Q E s := by
  cases o with
  | none =>
    exact evalPart_none_step (V .none .none ph ρ s.heap s.toks h List.prefix_rfl rfl S)
  | some e => exact evalPart_some_step (hf _ _ _ h ρ s Q E S V HE)

theorem callNamed {cs : Scope} (hT' : GOk prog w mg mb hT K G lv) (F : Frm hT A env outer base h₀ L lv) (Ev : EvW ev cs L ls) {x : PySem.Str} {v : Value} {pos : Pos} (S : SX h₀ L rest ls ph ρ s.heap m conc) (hx : ev.kindOf x = some .globalImplicit) (hd : (x == ("__debug__" : PySem.Str)) = false)
    (hv : mg x = some v ∨ (mg x = none ∧ mb x = some v)) (h : Q v s) : wpAny (model prog w) A (eval (.Name x pos) ev) Q E s := by
  refine Name_function_global Ev.hk hx ?_ hd
  rcases hv with hv | ⟨hv, hb⟩
  · exact loadGlobal_global (Ev.gl ▸ hT'.g.keeps (F.kp S)) hv h
  · exact loadGlobal_builtin (Ev.gl ▸ hT'.g.keeps (F.kp S)) hv (Ev.bu ▸ hT'.b.keeps (F.kp S)) hb h

theorem stepE_sound (GK : GOk prog w mg mb hT K G lv) (F : Frm hT A env outer base h₀ L lv) {cs : Scope} (Ev : EvW ev cs L ls)
    (hf : EvOk prog w A ev env outer base h₀ L rest ls ke f) (hg : TeOk prog w A ev env outer base h₀ L rest ls ke g) : EvOk prog w A ev env outer base h₀ L rest ls ke (stepE G cs ls ke f g) := by
  intro e ph k h ρ s Q E S V HE
  obtain ⟨m, conc, S⟩ := S
  cases e with
  | Constant c n p => cases c with
    | int i =>
      exact wpAny_Constant_int (V.pure S h ⟨_, rfl⟩)
    | none =>
      exact Constant_none (V.pure S (tk := s.toks) h rfl)
    | bool b =>
      exact Constant_bool (V.pure S (tk := s.toks) h rfl)
    | bytes b =>
      exact W.Constant_bytes (V.pure S h ⟨_, _, rfl, rfl⟩)
    | _ => exact h.elim
  | Name x p =>
    unfold stepE at h
    dsimp only at h
    -- a name
    obtain ⟨hd, h⟩ := ifB_iff h
    replace hd := not_eq hd
    split at h
    · rename_i hx
      obtain ⟨hck, h⟩ := ifB_iff h
      replace hck := beq_eq_false_iff_ne.mp (not_eq hck)
      split at h
      · rename_i v hv
        obtain ⟨u, e2, e1⟩ := S.l x v hv
        rcases e1 with ⟨_, e1⟩ | ⟨e1, _⟩
        · exact wpAny_Name (wpAny_loadName_local Ev.hk (Ev.kd x _ hx) (Ev.lo x v hx hv hck ▸ S.F.ns) e1 (V.pure S (tk := s.toks) h e2)) hd
        · exact absurd e1 hck
      · exact h.elim
    · rename_i hx
      split at h
      · rename_i v hv
        obtain ⟨u, e2, e1⟩ := S.l _ v hv
        rcases e1 with ⟨e1, _⟩ | ⟨_, o, ho, hod⟩
        · exact absurd rfl e1
        · exact wpAny_Name (wpAny_loadName_cell Ev.hk (Ev.kd x _ hx) (Ev.ce x hx) ⟨o, S.N.get (List.mem_append.mpr (.inr ho)), hod⟩ (V.pure S (tk := s.toks) h e2)) hd
      · exact h.elim
    · rename_i hx
      split at h
      · rename_i v hv
        obtain ⟨u, e1, e2⟩ := GK.val x v hv
        exact callNamed GK F Ev S (Ev.kd x _ hx) hd (.inl e1) (V.pure S (tk := s.toks) h (e2.mono List.nil_prefix))
      · exact h.elim
    · exact h.elim
  | BinOp l op r p =>
    refine wpAny_BinOp (hf _ _ _ h ρ s _ E S.st (fun a u ph1 ρ1 h1 tk1 hk p1 hu S1 => hf _ _ _ hk ρ1 _ _ E S1 (fun b v ph2 ρ2 h2 tk2 hk2 p2 hv S2 => ?_) (HE.from p1)) HE)
    obtain ⟨m2, conc2, S2⟩ := S2
    exact vcBin_sound S2 (hu.mono p2) hv hk2 (V.from (p1.trans p2) fun _ _ q => q)
  | UnaryOp op x p => cases op with
    | USub =>
      refine UnaryOp_ (hf _ _ _ h ρ s _ E S.st (fun a u ph1 ρ1 h1 tk1 hk p1 hu S1 => ?_) HE)
      obtain ⟨m1, conc1, S1⟩ := S1
      dsimp only at hk
      split at hk
      · obtain ⟨t, rfl⟩ := hu
        exact neg_int (V _ _ _ _ h1 _ hk p1 ⟨_, rfl⟩ S1.st)
      · exact hk.elim
    | Not =>
      refine UnaryOp_ (hf _ _ _ h ρ s _ E S.st (fun a u ph1 ρ1 h1 tk1 hk p1 hu S1 => ?_) HE)
      dsimp only at hk
      split at hk
      · rename_i b hb
        cases a with
        | bool c =>
          cases hb
          cases hu
          exact not_of (wpAny_truthy_bool (V _ _ _ _ h1 _ hk p1 rfl S1))
        | _ => cases hb
      · exact hk.elim
    | _ => exact h.elim
  | Compare l ops rs p => cases ops with
    | nil => exact h.elim
    | cons op ops => cases ops with
      | cons _ _ => exact h.elim
      | nil => cases rs with
        | nil => exact h.elim
        | cons r rs => cases rs with
          | cons _ _ => exact h.elim
          | nil =>
            obtain ⟨hm, h⟩ := ifB_iff h
            replace hm := not_eq hm
            refine wpAny_Compare1 (hf _ _ _ h ρ s _ E S.st (fun a u ph1 ρ1 h1 tk1 hk p1 hu S1 => hf _ _ _ hk ρ1 _ _ E S1 (fun b v ph2 ρ2 h2 tk2 hk2 p2 hv S2 => ?_) (HE.from p1)) HE) hm
            obtain ⟨m2, conc2, S2⟩ := S2
            dsimp only at hk2
            split at hk2
            · rename_i c hc
              exact cmpB_sound (by have := F.hu; omega) S2 (hu.mono p2) hv hc (V _ _ _ _ h2 _ hk2 (p1.trans p2) rfl S2.st)
            · exact hk2.elim
  | IfExp t a b p =>
    refine IfExp_ (hg _ _ _ h ρ s _ E S.st (fun c ph1 ρ1 h1 tk1 hk p1 S1 => ?_) HE)
    cases c with
    | true => exact hf _ _ _ hk ρ1 _ _ E S1 (V.from p1 fun _ _ q => q) (HE.from p1)
    | false => exact hf _ _ _ hk ρ1 _ _ E S1 (V.from p1 fun _ _ q => q) (HE.from p1)
  | Subscript o i q => cases o with
    | Name x p =>
      refine Subscript_ (hf _ _ _ h ρ s _ E S.st (fun o u ph1 ρ1 h1 tk1 hk p1 hu S1 => ?_) HE)
      dsimp only at hk
      split at hk
      · rename_i lo hi hs
        obtain ⟨sp, rfl⟩ := sliceOf_some hs
        refine wpAny_Slice (part_sound hf hk S1 (fun l v ph2 ρ2 h2 tk2 hk2 p2 hv S2 => part_sound hf hk2 S2 (fun r z ph3 ρ3 h3 tk3 hk3 p3 hz S3 => evalPart_none_step ?_) (HE.from (p1.trans p2))) (HE.from p1))
        obtain ⟨m3, conc3, S3⟩ := S3
        exact vcSlice_sound S3 ((hu.mono p2).mono p3) (hv.mono p3) hz hk3 (V.from ((p1.trans p2).trans p3) fun _ _ q => q)
      · rename_i hs
        refine hf _ _ _ hk ρ1 _ _ E S1 (fun j v ph2 ρ2 h2 tk2 hk2 p2 hv S2 => ?_) (HE.from p1)
        obtain ⟨m2, conc2, S2⟩ := S2
        exact vcItem_sound (fun l u q e => by subst e; cases hs) S2 (hu.mono p2) hv hk2 (V.from (p1.trans p2) fun _ _ q => q)
    | _ => exact h.elim
  | Attribute o name q => cases o with
    | Name x p =>
      refine Attribute_Name_ (hf _ _ _ h ρ s _ E S.st (fun o u ph1 ρ1 h1 tk1 hk p1 hu S1 => ?_) HE)
      obtain ⟨m1, conc1, S1⟩ := S1
      exact vcAttr_sound GK F S1 hu hk (V.from p1 fun _ _ q => q)
    | _ => exact h.elim
  | List es p =>
    refine List_ (vcL_sound hf h S.st (fun vs us ph1 ρ1 h1 tk1 hk p1 hu S1 => ?_) HE)
    obtain ⟨m1, conc1, S1⟩ := S1
    refine newList_K S1.F S1.N (fun l h' F' N' lt => ?_) (by rw [sizeLine_eq, ← hu.length]; have := Nat.le_of_ble_eq_true (ifB_iff hk).1; omega)
    exact (V.from (h' := h1) (tk := tk1) p1 fun _ _ q => q).new S1 (ifB_iff hk).2 F' N' lt (mkList_is (hu.imp fun _ _ q => q.mono (pre_add ρ1 l)))
  | Tuple es c p =>
    refine Tuple_ (vcL_sound hf h S.st (fun vs us ph1 ρ1 h1 tk1 hk p1 hu S1 => ?_) HE)
    obtain ⟨m1, conc1, S1⟩ := S1
    refine kup_newTuple S1.F S1.N (fun l h' F' N' lt => ?_) (by rw [sizeLine_eq, ← hu.length]; have := Nat.le_of_ble_eq_true (ifB_iff hk).1; omega)
    exact (V.from (h' := h1) (tk := tk1) p1 fun _ _ q => q).new S1 (ifB_iff hk).2 F' N' lt ⟨us, 0, rfl, hu.imp fun _ _ q => q.mono (pre_add ρ1 l)⟩
  | Call fn args kws pos => cases fn with
    | Name x p => cases kws with
      | cons _ _ => exact h.elim
      | nil =>
        unfold stepE at h
        dsimp only at h
        -- a call by name
        obtain ⟨hg, h⟩ := ifB_iff h
        obtain ⟨hd, hg⟩ := Bool.and_eq_true_iff.mp hg
        obtain ⟨hx, hn⟩ := Bool.and_eq_true_iff.mp hg
        replace hd := not_eq hd
        replace hx := isGlob_eq hx
        split at h
        · rename_i Sp hS
          obtain ⟨a, e1, ⟨kk, hkk, hL⟩, hC⟩ := GK.fn x Sp hS
          refine wpAny_Call_NameR (callNamed GK F Ev S (Ev.kd x _ hx) hd (.inl e1) ?_)
          refine callWith_of (P := fun h => hT.StaysIn h) (by rw [noStar_any hn]; rfl) (fun h hh => ⟨kk, hkk, hL.keeps hh⟩) (args_plain hn ?_)
          refine vcL_sound hf h S.st (fun vs us ph1 ρ1 h1 tk1 hk p1 hu S1 => ?_) HE
          obtain ⟨m1, conc1, S1⟩ := S1
          exact ⟨F.kp (s := { s with heap := h1, toks := tk1 }) S1, wpAny_call (hC A env outer base h₀ L F rest ls ph1 ρ1 _ vs us k ke Q E hk hu S1.st (V.from p1 fun _ _ q => q) (HE.from p1))⟩
        · split at h
          · rename_i b hb
            have e1 := GK.bi x b hb
            refine wpAny_Call_NameR (callNamed GK F Ev S (Ev.kd x _ hx) hd (.inr e1) ?_)
            have fin : wpAny (model prog w) A (spliced (backTo pos (starEach args ev))) (fun us s' => wpAny (model prog w) A (call (biVal b) us) Q E s') E s := by
              refine vcL_sound hf h S.st (fun vs us ph1 ρ1 h1 tk1 hk p1 hu S1 => ?_) HE
              obtain ⟨m1, conc1, S1⟩ := S1
              exact vcBi_sound F.hh S1 hu hk (V.from p1 fun _ _ q => q)
            have hp := noStar_any (env := ev) (pos := pos) hn
            cases b <;> first | exact PyProof.Rows.callWith_type hp (args_plain hn fin) | exact Calls.callWith_builtin hp (args_plain hn fin)
          · exact h.elim
    | Attribute o mm ap => cases kws with
      | cons _ _ => exact h.elim
      | nil =>
        unfold stepE at h
        dsimp only at h
        -- a method
        obtain ⟨hg, h⟩ := ifB_iff h
        obtain ⟨hb, hg⟩ := Bool.and_eq_true_iff.mp hg
        obtain ⟨hl, hg⟩ := Bool.and_eq_true_iff.mp hg
        obtain ⟨hn, hz⟩ := Bool.and_eq_true_iff.mp hg
        replace hz : args.length < 30 := Nat.le_of_ble_eq_true hz
        split at h
        · rename_i Sp hS
          obtain ⟨a, e1, e2, e3, ⟨kk, hkk, hL⟩, hC⟩ := GK.me mm Sp hS
          refine methCall hb hl hn hz fun pl => hf _ _ _ h ρ s _ E S.st (fun o u ph1 ρ1 h1 tk1 hk p1 hu S1 => ?_) HE
          have hk2 := ifB_iff hk
          clear hk
          obtain ⟨hself, hk⟩ := hk2
          obtain ⟨m1, conc1, S1⟩ := S1
          unfold vcSelf at hself
          split at hself
          · rename_i i
            split at hself
            · rename_i d hd
              split at hself
              · rename_i fs hfs
                obtain ⟨x, dx, es, n, r1, r2, _, hr, I⟩ := instAt_of (s := { s with heap := h1, toks := tk1 }) S1 hd hfs
                rw [isRef hu r1]
                refine method_inst S1.F (GK.X.keeps F.st) I GK.sg.1 e1 e2 (lookNone hr (by simpa using hself)) ?_
                refine callWith_of (P := fun h => hT.StaysIn h) (by rw [noStar_any hn]; rfl) (fun h hh => ⟨kk, hkk, hL.keeps hh⟩) (args_plain hn ?_)
                refine vcL_sound hf hk S1.st (fun vs us ph2 ρ2 h2 tk2 hk2 p2 hus S2 => ?_) (HE.from p1)
                obtain ⟨m2, conc2, S2⟩ := S2
                have hx : PV.Is ρ2 (.ref i) (.ref x) := ⟨x, get_pre p2 r1, rfl⟩
                exact ⟨F.kp (s := { s with heap := h2, toks := tk2 }) S2, wpAny_call (hC A env outer base h₀ L F rest ls ph2 ρ2 _ (.ref i :: vs) (.ref x :: us) k ke Q E hk2 ⟨hx, hus⟩ S2.st (V.from (p1.trans p2) fun _ _ q => q) (HE.from (p1.trans p2)))⟩
              · cases hself
            · cases hself
          · cases hself
        · exact h.elim
    | _ => exact h.elim
  | _ => exact h.elim

theorem truthB_is {v : PV} {u : Value} {b : Bool} (h : truthB v = some b) (hu : v.Is ρ u) : u = .bool b := by
  cases v with
  | bool c => cases h; exact hu
  | _ => cases h

theorem stepT_sound (F : Frm hT A env outer base h₀ L lv) (hf : EvOk prog w A ev env outer base h₀ L rest ls ke f) (hg : TeOk prog w A ev env outer base h₀ L rest ls ke g) : TeOk prog w A ev env outer base h₀ L rest ls ke (stepT f g) := by
  intro e ph k h ρ s Q E S V HE
  have more : ∀ {ρ' : List Addr} {h' : Heap} {tk : Nat}, ρ <+: ρ' → TP h₀ L rest ls ρ' k Q { s with heap := h', toks := tk } := fun p c ph2 ρ2 h2 tk2 hk p2 S2 => V c ph2 ρ2 h2 tk2 hk (p.trans p2) S2
  cases e with
  | UnaryOp op x p => cases op with
    | Not =>
      refine isTrue_not (hg _ _ _ h ρ s _ E S (fun c ph1 ρ1 h1 tk1 hk p1 S1 => ?_) HE)
      exact V _ _ _ _ _ hk p1 S1
    | _ => exact h.elim
  | BoolOp op vs p => cases op with
    | And => cases vs with
      | nil =>
        exact isTrue_and_nil (V _ _ _ s.heap s.toks h List.prefix_rfl S)
      | cons x r =>
        refine isTrue_and (hg _ _ _ h ρ s _ E S (fun c ph1 ρ1 h1 tk1 hk p1 S1 => ?_) HE)
        cases c with
        | true => exact hg _ _ _ hk ρ1 _ _ E S1 (more p1) (HE.from p1)
        | false => exact V _ _ _ _ _ hk p1 S1
    | Or => cases vs with
      | nil =>
        exact isTrue_or_nil (V _ _ _ s.heap s.toks h List.prefix_rfl S)
      | cons x r =>
        refine isTrue_or (hg _ _ _ h ρ s _ E S (fun c ph1 ρ1 h1 tk1 hk p1 S1 => ?_) HE)
        cases c with
        | true => exact V _ _ _ _ _ hk p1 S1
        | false => exact hg _ _ _ hk ρ1 _ _ E S1 (more p1) (HE.from p1)
  | Compare l ops rs p => cases ops with
    | nil => exact h.elim
    | cons op ops => cases ops with
      | cons _ _ => exact h.elim
      | nil => cases rs with
        | nil => exact h.elim
        | cons r rs => cases rs with
          | cons _ _ => exact h.elim
          | nil =>
            obtain ⟨hm, h⟩ := ifB_iff h
            replace hm := not_eq hm
            refine wpAny_isTrue_Compare1 (hf _ _ _ h ρ s _ E S (fun a u ph1 ρ1 h1 tk1 hk p1 hu S1 => hf _ _ _ hk ρ1 _ _ E S1 (fun b v ph2 ρ2 h2 tk2 hk2 p2 hv S2 => ?_) (HE.from p1)) HE) hm
            obtain ⟨m2, conc2, S2⟩ := S2
            dsimp only at hk2
            split at hk2
            · rename_i c hc
              exact cmpB_sound (by have := F.hu; omega) S2 (hu.mono p2) hv hc (wpAny_truthy_bool (V _ _ _ h2 _ hk2 (p1.trans p2) S2.st))
            · exact hk2.elim
  | Name x p =>
    refine isTrue_plain (hf _ _ _ h ρ s _ E S (fun a u ph1 ρ1 h1 tk1 hk p1 hu S1 => ?_) HE)
    dsimp only at hk
    split at hk
    · rename_i b hb
      rw [truthB_is hb hu]
      exact wpAny_truthy_bool (V _ _ _ h1 _ hk p1 S1)
    · exact hk.elim
  | Call fn as ks p =>
    refine isTrue_plain (hf _ _ _ h ρ s _ E S (fun a u ph1 ρ1 h1 tk1 hk p1 hu S1 => ?_) HE)
    dsimp only at hk
    split at hk
    · rename_i b hb
      rw [truthB_is hb hu]
      exact wpAny_truthy_bool (V _ _ _ h1 _ hk p1 S1)
    · exact hk.elim
  | _ => exact h.elim

theorem vcET_sound (GK : GOk prog w mg mb hT K G lv) (F : Frm hT A env outer base h₀ L lv) {cs : Scope} (Ev : EvW ev cs L ls) :
    ∀ n, EvOk prog w A ev env outer base h₀ L rest ls ke (vcET G cs ls ke n).1 ∧ TeOk prog w A ev env outer base h₀ L rest ls ke (vcET G cs ls ke n).2
  | 0 => ⟨fun _ _ _ h => h.elim, fun _ _ _ h => h.elim⟩
  | n + 1 => let ⟨a, b⟩ := vcET_sound GK F Ev n; ⟨stepE_sound GK F Ev a b, stepT_sound F a b⟩
end
end Mine
set_option maxHeartbeats 2000000
namespace Mine

/-! ## which objects a value names; the cutting of the ledger's end -/
noncomputable def PV.Lt (n : Nat) : PV → Prop
  | .ref i => i < n
  | _ => True
noncomputable def PO.Lt (n : Nat) : PO → Prop
  | .il _ => True
  | .pl xs => ∀ x ∈ xs, x.Lt n
  | .tu xs => ∀ x ∈ xs, x.Lt n
  | .ins d => d < n
  | .di fs => ∀ f ∈ fs, f.2.Lt n
  | .sc _ _ => True

theorem get_lt {ρ : List Addr} {i : Nat} {a : Addr} (e : ρ[i]? = some a) : i < ρ.length := by
  rcases Nat.lt_or_ge i ρ.length with q | q
  · exact q
  · rw [List.getElem?_eq_none q] at e; cases e
theorem PV.Is.lt {ρ : List Addr} {v : PV} {u : Value} (h : v.Is ρ u) : v.Lt ρ.length := by
  cases v with
  | ref i => obtain ⟨a, e, _⟩ := h; exact get_lt e
  | _ => exact trivial
theorem All2.mem {α β : Type} {R : α → β → Prop} : ∀ {as : List α} {bs : List β} {a : α}, All2 R as bs → a ∈ as → ∃ b, R a b
  | _ :: _, b :: _, _, h, .head _ => ⟨b, h.1⟩
  | _ :: _, _ :: _, _, h, .tail _ m => All2.mem h.2 m
  | _ :: _, [], _, h, _ => h.elim
theorem PO.Is.lt {ρ : List Addr} {p : PO} {o : Obj} (h : p.Is ρ o) : p.Lt ρ.length := by
  cases p with
  | il ns => exact trivial
  | pl xs => obtain ⟨vs, n, e, r⟩ := h; intro x hx; obtain ⟨u, q⟩ := r.mem hx; exact q.lt
  | tu xs => obtain ⟨vs, n, e, r⟩ := h; intro x hx; obtain ⟨u, q⟩ := r.mem hx; exact q.lt
  | ins d => obtain ⟨dx, e, _⟩ := h; exact get_lt e
  | di fs => obtain ⟨es, n, e, r⟩ := h; intro x hx; obtain ⟨u, q⟩ := r.mem hx; exact q.2.lt
  | sc y ns => exact trivial
theorem PV.Is.cut {ρ : List Addr} {n : Nat} {v : PV} {u : Value} (h : v.Is ρ u) (l : v.Lt n) : v.Is (ρ.take n) u := by
  cases v with
  | ref i => obtain ⟨a, e, r⟩ := h; exact ⟨a, by rw [List.getElem?_take_of_lt l]; exact e, r⟩
  | _ => exact h
theorem All2.impM {α β : Type} {R S : α → β → Prop} : ∀ {as : List α} {bs : List β}, (∀ a ∈ as, ∀ b, R a b → S a b) → All2 R as bs → All2 S as bs
  | [], [], _, _ => trivial
  | _ :: _, _ :: _, k, h => ⟨k _ (.head _) _ h.1, h.2.impM fun a ha => k a (.tail _ ha)⟩
  | [], _ :: _, _, h => h.elim
  | _ :: _, [], _, h => h.elim
theorem PO.Is.cut {ρ : List Addr} {n : Nat} {p : PO} {o : Obj} (h : p.Is ρ o) (l : p.Lt n) : p.Is (ρ.take n) o := by
  cases p with
  | il ns => exact h
  | pl xs => obtain ⟨vs, c, e, r⟩ := h; exact ⟨vs, c, e, r.impM fun a ha b q => q.cut (l a ha)⟩
  | tu xs => obtain ⟨vs, c, e, r⟩ := h; exact ⟨vs, c, e, r.impM fun a ha b q => q.cut (l a ha)⟩
  | ins d => obtain ⟨dx, e, r⟩ := h; exact ⟨dx, by rw [List.getElem?_take_of_lt l]; exact e, r⟩
  | di fs => obtain ⟨es, c, e, r⟩ := h; exact ⟨es, c, e, r.impM fun a ha b q => ⟨q.1, q.2.cut (l a ha)⟩⟩
  | sc y ns => exact h

/-- 'ph' is what is kept of 'ph2' (its beginning), where 'ph0' stood before -/
noncomputable def Cut (ph0 : List PO) (P : Nat → Prop) (ph ph2 : List PO) : Prop :=
  ∃ junk, ph2 = ph ++ junk ∧ ph0.length ≤ ph.length ∧ (junk = [] ∨ (P ph.length ∧ ∀ p ∈ ph, p ∈ ph0 ∨ p.Lt ph.length))
theorem Cut.refl {ph0 ph : List PO} {P : Nat → Prop} (h : ph0.length ≤ ph.length) : Cut ph0 P ph ph := ⟨[], by simp, h, .inl rfl⟩
noncomputable def LsLt (ls : List (PySem.Str × PV)) (n : Nat) : Prop := ∀ q ∈ ls, q.2.Lt n

section
variable {h₀ h h' : Heap} {L a : Addr} {rest rest' : List (Addr × Obj)} {ls : List (PySem.Str × PV)} {ph ph0 ph2 : List PO} {ρ ρ0 : List Addr} {m m' : PySem.Str → Option Value} {conc : List Obj} {o o' : Obj} {po : PO}

theorem zip_take_mem {α β : Type} {q : α × β} : ∀ {n k : Nat} {as : List α} {bs : List β}, q ∈ (as.take n).zip (bs.take k) → q ∈ as.zip bs
  | 0, _, _, _, hm => by simp at hm
  | _ + 1, 0, _, _, hm => by simp at hm
  | _ + 1, _ + 1, [], _, hm => by simp at hm
  | _ + 1, _ + 1, _ :: _, [], hm => by simp at hm
  | n + 1, k + 1, a :: as, b :: bs, hm => by
    rw [List.take_succ_cons, List.take_succ_cons, List.zip_cons_cons] at hm
    rw [List.zip_cons_cons]
    rcases List.mem_cons.mp hm with e | hm
    · exact e ▸ .head _
    · exact .tail _ (zip_take_mem hm)
theorem mem_of_lookup {α : Type} {x : PySem.Str} {v : α} : ∀ {l : List (PySem.Str × α)}, l.lookup x = some v → (x, v) ∈ l
  | (y, w) :: r, e => by
    rw [List.lookup_cons] at e
    cases q : x == y with
    | true => rw [q] at e; cases e; rw [beq_iff_eq.mp q]; exact .head _
    | false => rw [q] at e; exact .tail _ (mem_of_lookup e)
  | [], e => by cases e
theorem SX.cut (S : SX h₀ L rest ls ph2 ρ h m conc) (h0 : ∀ p ∈ ph0, p.Lt ρ0.length) (l0 : ph0.length = ρ0.length) (pre : ρ0 <+: ρ) {P : Nat → Prop} (C : Cut ph0 P ph ph2) (hl : P ph.length → LsLt ls ph.length) :
    ∃ ρ' conc', ρ' <+: ρ ∧ ρ0 <+: ρ' ∧ ρ'.length = ph.length ∧ SX h₀ L rest ls ph ρ' h m conc' := by
  obtain ⟨junk, rfl, hn, C⟩ := C
  rcases C with rfl | ⟨hP, C⟩
  · rw [List.append_nil] at S
    exact ⟨ρ, conc, List.prefix_rfl, pre, S.len.symm, S⟩
  · have hle : ph.length ≤ ρ.length := by have := S.len; rw [List.length_append] at this; omega
    have hpl : (ρ.take ph.length).length = ph.length := by rw [List.length_take]; omega
    have hcl : (conc.take ph.length).length = ph.length := by rw [List.length_take, ← S.n]; omega
    have pre' : ρ0 <+: ρ.take ph.length := by
      obtain ⟨t, rfl⟩ := pre
      exact ⟨t.take (ph.length - ρ0.length), by rw [List.take_append, List.take_of_length_le (l := ρ0) (by omega)]⟩
    refine ⟨ρ.take ph.length, conc.take ph.length, List.take_prefix _ _, pre', hpl, ⟨S.F, fun x v e => ?_, ?_, by rw [hpl, hcl], fun p hp => S.N p ?_, S.d.sublist (List.take_sublist _ _), fun q hq hm => S.r q hq (List.mem_of_mem_take hm)⟩⟩
    · obtain ⟨u, e1, e2⟩ := S.l x v e
      exact ⟨u, e1.cut (hl hP _ (mem_of_lookup e)), e2⟩
    · have c := S.c
      have key : ∀ {as bs : List PO} {cs : List Obj}, All2 (PO.Is ρ) (as ++ bs) cs → (∀ p ∈ as, p ∈ ph0 ∨ p.Lt ph.length) → All2 (PO.Is (ρ.take ph.length)) as (cs.take as.length) := by
        intro as
        induction as with
        | nil => intro bs cs _ _; exact trivial
        | cons a as ih =>
          intro bs cs h k
          cases cs with
          | nil => exact h.elim
          | cons c cs =>
            refine ⟨h.1.cut ?_, ih h.2 fun p hp => k p (.tail _ hp)⟩
            rcases k a (.head _) with q | q
            · have := h0 a q
              cases a with
              | il ns => exact trivial
              | pl xs => exact fun x hx => by have := this x hx; cases x <;> first | exact trivial | exact Nat.lt_of_lt_of_le this (l0 ▸ hn)
              | tu xs => exact fun x hx => by have := this x hx; cases x <;> first | exact trivial | exact Nat.lt_of_lt_of_le this (l0 ▸ hn)
              | ins d => exact Nat.lt_of_lt_of_le this (l0 ▸ hn)
              | di fs => exact fun x hx => by have := this x hx; obtain ⟨x1, x⟩ := x; cases x <;> first | exact trivial | exact Nat.lt_of_lt_of_le this (l0 ▸ hn)
              | sc y ns => exact trivial
            · exact q
      exact key c C
    · rcases List.mem_append.mp hp with hp | hp
      · refine List.mem_append.mpr (.inl ?_)
        exact zip_take_mem hp
      · exact List.mem_append.mpr (.inr hp)
theorem SX.phLt (S : SX h₀ L rest ls ph ρ h m conc) : ∀ p ∈ ph, p.Lt ρ.length := fun p hp => let ⟨_, q⟩ := S.c.mem hp; q.lt

/-- a new object that the ledger hides -/
theorem SX.hide (S : SX h₀ L rest ls ph ρ h m conc) (F : Fr h₀ L h' m) (N : News h₀ L h' ((a, o) :: (ρ.zip conc ++ rest))) (lt : ∀ p ∈ ρ.zip conc ++ rest, p.1 < a) : SX h₀ L ((a, o) :: rest) ls ph ρ h' m conc where
  F := F
  l := fun x v e => let ⟨u, e1, e2⟩ := S.l x v e; ⟨u, e1, e2.imp id fun ⟨q, o, ho, hd⟩ => ⟨q, o, .tail _ ho, hd⟩⟩
  c := S.c
  n := S.n
  N := fun p hp => N p (by
    rcases List.mem_append.mp hp with hp | hp
    · exact .tail _ (List.mem_append.mpr (.inl hp))
    · rcases List.mem_cons.mp hp with rfl | hp
      · exact .head _
      · exact .tail _ (List.mem_append.mpr (.inr hp)))
  d := S.d
  r := fun q hq hm => by
    rcases List.mem_cons.mp hq with rfl | hq
    · obtain ⟨i, hi, e⟩ := List.getElem_of_mem hm
      have hz : (ρ.zip conc)[i]'(by simp [← S.n]; exact hi) = (ρ[i], conc[i]'(by rw [← S.n]; exact hi)) := List.getElem_zip
      have := lt (ρ[i], conc[i]'(by rw [← S.n]; exact hi)) (List.mem_append.mpr (.inl (hz ▸ List.getElem_mem _)))
      rw [e] at this
      exact Nat.lt_irrefl _ this
    · exact S.r q hq hm
/-- a hidden object turned -/
theorem SX.turnHidden (S : SX h₀ L ((a, o) :: rest) ls ph ρ h m conc) (hs : Heap.SameBut a h h') (ho : h'.get? a = some o') (hne : ∀ p ∈ rest, p.1 ≠ a) (hc : ∀ u, o.data ≠ .cell u) : SX h₀ L ((a, o') :: rest) ls ph ρ h' m conc where
  F := S.F.update S.N (List.mem_append.mpr (.inr (.head _))) hs
  l := fun x v e => let ⟨u, e1, e2⟩ := S.l x v e; ⟨u, e1, e2.imp id fun ⟨q, ob, hob, hd⟩ => ⟨q, ob, by
    rcases List.mem_cons.mp hob with e | hob
    · exact absurd ((congrArg (fun q : Addr × Obj => q.2.data) e).symm.trans hd) (hc _)
    · exact .tail _ hob, hd⟩⟩
  c := S.c
  n := S.n
  N := fun p hp => by
    have old : ∀ q ∈ ρ.zip conc ++ rest, h'.get? q.1 = some q.2 ∧ q.1 ≠ L ∧ h₀.get? q.1 = none := fun q hq => by
      have hqa : q.1 ≠ a := by
        rcases List.mem_append.mp hq with hq | hq
        · exact fun e => S.r (a, o) (.head _) (e ▸ (List.of_mem_zip hq).1)
        · exact hne q hq
      have N := S.N q (by
        rcases List.mem_append.mp hq with hq | hq
        · exact List.mem_append.mpr (.inl hq)
        · exact List.mem_append.mpr (.inr (.tail _ hq)))
      exact ⟨(hs.2 _ hqa).trans N.1, N.2⟩
    rcases List.mem_append.mp hp with hp | hp
    · exact old p (List.mem_append.mpr (.inl hp))
    · rcases List.mem_cons.mp hp with rfl | hp
      · exact ⟨ho, (S.N (a, o) (List.mem_append.mpr (.inr (.head _)))).2⟩
      · exact old p (List.mem_append.mpr (.inr hp))
  d := S.d
  r := fun q hq => by
    rcases List.mem_cons.mp hq with rfl | hq
    · exact S.r (a, o) (.head _)
    · exact S.r q (.tail _ hq)
/-- the hidden object let go -/
theorem SX.unhide (S : SX h₀ L ((a, o) :: rest) ls ph ρ h m conc) (hc : ∀ u, o.data ≠ .cell u) : SX h₀ L rest ls ph ρ h m conc where
  F := S.F
  l := fun x v e => let ⟨u, e1, e2⟩ := S.l x v e; ⟨u, e1, e2.imp id fun ⟨q, ob, hob, hd⟩ => ⟨q, ob, by
    rcases List.mem_cons.mp hob with e | hob
    · exact absurd ((congrArg (fun q : Addr × Obj => q.2.data) e).symm.trans hd) (hc _)
    · exact hob, hd⟩⟩
  c := S.c
  n := S.n
  N := fun p hp => S.N p (by
    rcases List.mem_append.mp hp with hp | hp
    · exact List.mem_append.mpr (.inl hp)
    · exact List.mem_append.mpr (.inr (.tail _ hp)))
  d := S.d
  r := fun q hq => S.r q (.tail _ hq)
/-- fewer locals -/
theorem SX.fewer {ls' : List (PySem.Str × PV)} (S : SX h₀ L rest ls ph ρ h m conc) (hl : ∀ x v, ls'.lookup x = some v → ls.lookup x = some v) : SX h₀ L rest ls' ph ρ h m conc := { S with l := fun x v e => S.l x v (hl x v e) }
end
end Mine
set_option maxHeartbeats 2000000
namespace Mine

noncomputable abbrev Ls := List (PySem.Str × PV)
noncomputable def setL (x : PySem.Str) (v : PV) : Ls → Ls
  | [] => [(x, v)]
  | (y, w) :: r => if (x == y) = true then (y, v) :: r else (y, w) :: setL x v r
theorem lookup_setL (x : PySem.Str) (v : PV) (y : PySem.Str) : ∀ ls : Ls, (setL x v ls).lookup y = if (y == x) = true then some v else ls.lookup y
  | [] => by
    show List.lookup y [(x, v)] = _
    rw [List.lookup_cons]
    cases y == x <;> rfl
  | (z, w) :: r => by
    unfold setL
    by_cases h : (x == z) = true
    · rw [if_pos h, List.lookup_cons, List.lookup_cons, beq_iff_eq.mp h]
      cases y == z <;> rfl
    · rw [if_neg h, List.lookup_cons, List.lookup_cons, lookup_setL x v y r]
      cases e : y == z with
      | false => rfl
      | true =>
        have : (y == x) = false := by
          rw [beq_eq_false_iff_ne]; rintro rfl; exact h e
        rw [this]; rfl

noncomputable def plainVal : Expr → Bool
  | .ListComp _ _ _ _ => false
  | .SetComp _ _ _ _ => false
  | .DictComp _ _ _ _ _ => false
  | _ => true
theorem swaps_plain {e : Expr} {t : Option Expr} {l : Nat} {env : Env} (h : plainVal e = true) : swapsWith e t l env = pure false := by
  cases e <;> first | rfl | cases h

noncomputable def clsOf (x : PySem.Str) : Option Nat := if x == PySem.Str.ofString "FormError" then some 0 else if x == PySem.Str.ofString "SizeError" then some 1 else none
noncomputable def isRange (x : PySem.Str) : Bool := x == PySem.Str.ofString "range"
noncomputable def tupNames : List Expr → Option (List PySem.Str)
  | [] => some []
  | .Name x _ :: r => (tupNames r).map (x :: ·)
  | _ :: _ => none
noncomputable def bindAll (cs : Scope) : List PySem.Str → List PV → Ls → Option Ls
  | [], [], ls => some ls
  | x :: r, v :: vs, ls => if cs.names.lookup x = some .local ∧ (x == cellKey) = false then bindAll cs r vs (setL x v ls) else none
  | _, _, _ => none
noncomputable def itemsOf (ph : List PO) : PV → Option (List PV)
  | .ref a => (match ph[a]? with
    | some (.il ns) => some (ns.map .int)
    | some (.pl xs) => some xs
    | some (.tu xs) => some xs
    | _ => none)
  | _ => none
noncomputable def rangeOf : List PV → Option (Int × Int × Int)
  | [.int b] => some (0, b, 1)
  | [.int a, .int b] => some (a, b, 1)
  | [.int a, .int b, .int c] => some (a, b, c)
  | _ => none
noncomputable def turns (r : Int × Int × Int) : Nat := (Builtin.Range.rangeSize r.1 r.2.1 r.2.2).toNat

noncomputable def vcSetItem (o i v : PV) (ph : List PO) (k : List PO → Prop) : Prop :=
  match o with
  | .ref a => (match ph[a]? with
    | some (.il xs) => (match i with
      | .int j => (match v with
        | .int n => (0 ≤ j ∧ j < xs.length ∧ xs.length ≤ 1000000) ∧ k (ph.set a (.il (xs.set j.toNat n)))
        | _ => False)
      | _ => False)
    | _ => False)
  | _ => False
noncomputable def vcSetAttr (o v : PV) (name : PySem.Str) (ph : List PO) (k : List PO → Prop) : Prop :=
  match o with
  | .ref a => (match ph[a]? with
    | some (.ins d) => (match ph[d]? with
      | some (.di fs) => ifB (segNames.contains name && Nat.ble fs.length 500) (k (ph.set d (.di (setL name v fs))))
      | _ => False)
    | _ => False)
  | _ => False

noncomputable abbrev VB := List Stmt → Ls → List PO → (Ls → List PO → Prop) → (PV → List PO → Prop) → (Nat → List PO → Prop) → Prop
noncomputable abbrev VE := Expr → List PO → (PV → List PO → Prop) → Prop
noncomputable abbrev VT := Expr → List PO → (Bool → List PO → Prop) → Prop

noncomputable def stepS (cs : Scope) (vE : (Nat → List PO → Prop) → Ls → VE) (vT : (Nat → List PO → Prop) → Ls → VT) (vS : VB) (st : Stmt) (ls : Ls) (ph : List PO) (kn : Ls → List PO → Prop) (kr : PV → List PO → Prop) (ke : Nat → List PO → Prop) : Prop :=
  match st with
  | .Assign [.Name x _] value _ => ifB (plainVal value && (isLoc (cs.names.lookup x) && !(x == cellKey))) (vE ke ls value ph fun v ph1 => kn (setL x v ls) ph1)
  | .Assign [.Subscript o i _] value _ => ifB (plainVal value) (vE ke ls value ph fun v ph1 => vE ke ls o ph1 fun a ph2 => vE ke ls i ph2 fun j ph3 => vcSetItem a j v ph3 fun ph4 => kn ls ph4)
  | .Assign [.Attribute o name _] value _ => ifB (plainVal value) (vE ke ls value ph fun v ph1 => vE ke ls o ph1 fun a ph2 => vcSetAttr a v name ph2 fun ph3 => kn ls ph3)
  | .Assign [.Tuple es c tp] value _ => ifB (plainVal value) (∃ o nm, (∀ env : Env, env.scope = cs → swappedStores [.Tuple es c tp] value env = pure o) ∧ tupNames es = some nm ∧ vE ke ls value ph fun v ph1 =>
      ∃ vs, itemsOf ph1 v = some vs ∧ (match o with
        | none => vs.length = nm.length ∧ ∃ ls1, bindAll cs nm vs ls = some ls1 ∧ kn ls1 ph1
        | some names => vs.length = names.length ∧ ∃ ls1, bindAll cs names.reverse vs.reverse ls = some ls1 ∧ kn ls1 ph1))
  | .AugAssign (.Name x _) .Add value _ => ifB (isLoc (cs.names.lookup x) && !(x == cellKey)) (match ls.lookup x with
      | some (.int a) => vE ke ls value ph fun v ph1 => (match v with
        | .int b => kn (setL x (.int (a + b)) ls) ph1
        | _ => False)
      | _ => False)
  | .If t a b _ => vT ke ls t ph fun c ph1 => ifC c (vS a ls ph1 kn kr ke) (vS b ls ph1 kn kr ke)
  | .While t body [] _ => ∃ I : Nat → Ls → List PO → Prop, (∃ n, I n ls ph) ∧ ∀ n ls1 ph1, ph1.length = ph.length → I n ls1 ph1 → vT ke ls1 t ph1 fun c ph2 =>
      ifC c (vS body ls1 ph2 (fun ls2 ph3 => ∃ m ph4, m < n ∧ ph4.length = ph.length ∧ Cut ph (LsLt ls2) ph4 ph3 ∧ I m ls2 ph4) kr ke) (kn ls1 ph2)
  | .For (.Name x _) (.Call (.Name r _) args [] _) body [] _ => ifB (isRange r && (isGlob (cs.names.lookup r) && (noStar args && (isLoc (cs.names.lookup x) && !(x == cellKey))))) <|
      vcL (vE ke ls) args ph fun vs ph1 => ∃ a b c, rangeOf vs = some (a, b, c) ∧ (0 ≤ a ∧ a ≤ 2 ^ 60 ∧ -1 ≤ b ∧ b ≤ 2 ^ 60 ∧ 0 < c ∧ c ≤ 2 ^ 60) ∧ ∃ I : Nat → Ls → List PO → Prop, I 0 ls ph1 ∧
        (∀ i ls1 ph2, i < turns (a, b, c) → ph2.length = ph1.length → I i ls1 ph2 → vS body (setL x (.int (a + i * c)) ls1) ph2 (fun ls2 ph3 => ∃ ph4, ph4.length = ph1.length ∧ Cut ph1 (LsLt ls2) ph4 ph3 ∧ I (i + 1) ls2 ph4) kr ke) ∧
        (∀ ls1 ph2, ph2.length = ph1.length → I (turns (a, b, c)) ls1 ph2 → kn ls1 ph2)
  | .For (.Name x _) (.Tuple es _ _) body [] _ => ifB (isLoc (cs.names.lookup x) && !(x == cellKey)) <|
      vcL (vE ke ls) es ph fun vs ph1 => ifB (Nat.ble vs.length 1000) <| ∃ I : Nat → Ls → List PO → Prop, I 0 ls ph1 ∧
        (∀ i ls1 ph2 v, vs[i]? = some v → ph2.length = ph1.length → I i ls1 ph2 → vS body (setL x v ls1) ph2 (fun ls2 ph3 => ∃ ph4, ph4.length = ph1.length ∧ Cut ph1 (LsLt ls2) ph4 ph3 ∧ I (i + 1) ls2 ph4) kr ke) ∧
        (∀ ls1 ph2, ph2.length = ph1.length → I vs.length ls1 ph2 → kn ls1 ph2)
  | .Return (some e) _ => vE ke ls e ph fun v ph1 => kr v ph1
  | .Expr e _ => ifB (plainVal e) (vE ke ls e ph fun _ ph1 => kn ls ph1)
  | .Raise (some (.Call (.Name x _) [.Constant (.str _) _ _] [] _)) none _ => ifB (isGlob (cs.names.lookup x)) (match clsOf x with
      | some c => ke c ph
      | none => False)
  | _ => False

noncomputable def vcB (G : Gm) (cs : Scope) (F : Nat) : Nat → VB
  | 0, _, _, _, _, _, _ => False
  | _ + 1, [], ls, ph, kn, _, _ => kn ls ph
  | n + 1, st :: r, ls, ph, kn, kr, ke => stepS cs (fun ke ls => (vcET G cs ls ke F).1) (fun ke ls => (vcET G cs ls ke F).2) (vcB G cs F n) st ls ph (fun ls1 ph1 => vcB G cs F n r ls1 ph1 kn kr ke) kr ke
end Mine
set_option maxHeartbeats 2000000
namespace Mine

noncomputable def NP (h₀ : Heap) (L : Addr) (rest : List (Addr × Obj)) (ρ : List Addr) (kn : Ls → List PO → Prop) (Q : Flow → Shared → Prop) (s : Shared) : Prop :=
  ∀ ls' ph' ρ' h' tk, kn ls' ph' → ρ <+: ρ' → ST h₀ L rest ls' ph' ρ' h' → Q .next { s with heap := h', toks := tk }
noncomputable def RP (h₀ : Heap) (L : Addr) (rest : List (Addr × Obj)) (ρ : List Addr) (kr : PV → List PO → Prop) (Q : Flow → Shared → Prop) (s : Shared) : Prop :=
  ∀ v u ph' ρ' h' tk, kr v ph' → ρ <+: ρ' → v.Is ρ' u → ST h₀ L rest [] ph' ρ' h' → Q (.ret u) { s with heap := h', toks := tk }
/-- an exception that was just made in this frame -/
noncomputable def XR (h₀ : Heap) (L : Addr) (rest : List (Addr × Obj)) (c : Nat) (ph : List PO) (ρ : List Addr) (e : Addr) (h' : Heap) : Prop :=
  ∃ m conc h oe vs t ws, SX h₀ L rest [] ph ρ h m conc ∧ (∀ b o, h.get? b = some o → h'.get? b = some o) ∧ h.get? e = none ∧ h.get? t = none ∧ h'.get? e = some oe ∧ oe.cls = .ref (clsA c) ∧ oe.data = .fields vs ∧
    vs[1]? = some .none ∧ vs[0]? = some (.ref t) ∧ h'.TupAt t ws
noncomputable def ER (h₀ : Heap) (L : Addr) (rest : List (Addr × Obj)) (ρ : List Addr) (ke : Nat → List PO → Prop) (E : Value → Shared → Prop) (s : Shared) : Prop :=
  ∀ c ph' ρ' e h' tk, ke c ph' → ρ <+: ρ' → XR h₀ L rest c ph' ρ' e h' → E (.ref e) { s with heap := h', toks := tk }

section
variable {h₀ h : Heap} {L a : Addr} {rest : List (Addr × Obj)} {ρ ρ₁ : List Addr} {ke : Nat → List PO → Prop} {kn : Ls → List PO → Prop} {kr : PV → List PO → Prop} {Q : Flow → Shared → Prop} {E : Value → Shared → Prop} {s : Shared} {h' : Heap} {tk : Nat}
  {base : Heap} {env : Env} {outer : List Env} {o : Obj} {c : Nat} {ph : List PO} {e : Addr}
theorem NP.from (H : NP h₀ L rest ρ kn Q s) (p : ρ <+: ρ₁) : NP h₀ L rest ρ₁ kn Q { s with heap := h', toks := tk } := fun ls' ph' ρ' h' tk hk p' S => H ls' ph' ρ' h' tk hk (p.trans p') S
theorem RP.from (H : RP h₀ L rest ρ kr Q s) (p : ρ <+: ρ₁) : RP h₀ L rest ρ₁ kr Q { s with heap := h', toks := tk } := fun v u ph' ρ' h' tk hk p' hu S => H v u ph' ρ' h' tk hk (p.trans p') hu S
theorem ER.from (H : ER h₀ L rest ρ ke E s) (p : ρ <+: ρ₁) : ER h₀ L rest ρ₁ ke E { s with heap := h', toks := tk } := fun c ph' ρ' e h' tk hk p' hx => H c ph' ρ' e h' tk hk (p.trans p') hx
theorem XC.unhide (H : XC base env outer h₀ L ((a, o) :: rest) c ph ρ e h') : XC base env outer h₀ L rest c ph ρ e h' := by
  obtain ⟨t, vs, conc, g₂, m, ⟨⟨B, b1, b2, b3⟩, b4⟩, x2, x3, x4, x5, x6, x7⟩ := H
  exact ⟨t, vs, conc, g₂, m, ⟨⟨B, b1, fun q hq => b2 q (by
    rcases List.mem_append.mp hq with hq | hq
    · exact List.mem_append.mpr (.inl hq)
    · exact List.mem_append.mpr (.inr (.tail _ hq))), b3⟩, b4⟩, x2, x3, x4, x5, x6, fun q hq => x7 q (.tail _ hq)⟩
theorem XR.unhide (hc : ∀ u, o.data ≠ .cell u) (H : XR h₀ L ((a, o) :: rest) c ph ρ e h') : XR h₀ L rest c ph ρ e h' := by
  obtain ⟨m, conc, h, oe, vs, t, ws, S, r⟩ := H
  exact ⟨m, conc, h, oe, vs, t, ws, S.unhide hc, r⟩
theorem EP.hide (H : EP base env outer h₀ L rest ρ ke E s) : EP base env outer h₀ L ((a, o) :: rest) ρ ke E s := fun c ph' ρ' e h' tk hk p' hx => H c ph' ρ' e h' tk hk p' hx.unhide
theorem ER.hide (hc : ∀ u, o.data ≠ .cell u) (H : ER h₀ L rest ρ ke E s) : ER h₀ L ((a, o) :: rest) ρ ke E s := fun c ph' ρ' e h' tk hk p' hx => H c ph' ρ' e h' tk hk p' (hx.unhide hc)
end

section
variable (prog : Program) (w : World) (A : Around) (env : Env) (outer : List Env) (base h₀ : Heap) (L : Addr) (cs : Scope)
noncomputable def RaiseOk : Prop := ∀ {rest ls ph ρ m conc s E Q x np y k1 k2 cp pos c}, SX h₀ L rest ls ph ρ s.heap m conc → cs.names.lookup x = some .globalImplicit → clsOf x = some c →
  (∀ e h' tk, XR h₀ L rest c ph ρ e h' → E (.ref e) { s with heap := h', toks := tk }) → wpAny (model prog w) A (exec (.Raise (some (.Call (.Name x np) [.Constant (.str y) k1 k2] [] cp)) none pos) env) Q E s
noncomputable def SOk (f : VB) : Prop := ∀ sts ls ph kn kr ke, f sts ls ph kn kr ke → ∀ rest ρ s Q E, ST h₀ L rest ls ph ρ s.heap → NP h₀ L rest ρ kn Q s → RP h₀ L rest ρ kr Q s → EP base env outer h₀ L rest ρ ke E s → ER h₀ L rest ρ ke E s →
  PassesOwn (model prog w) A env E → wpAny (model prog w) A (execs sts env) Q E s
end

section
variable {prog : Program} {w : World} {mg mb : PySem.Str → Option Value} {hT : Heap} {K : Frag} {G : Gm} {lv : Nat} {A : Around} {env : Env} {outer : List Env} {base h₀ : Heap} {L : Addr} {E : Value → Shared → Prop} {s : Shared}
  {rest : List (Addr × Obj)} {ls : Ls} {ph : List PO} {ρ : List Addr} {ke : Nat → List PO → Prop} {m : PySem.Str → Option Value} {conc : List Obj} {k : PV → List PO → Prop} {cs : Scope}

theorem store_local (F : Frm hT A env outer base h₀ L lv) (Ev : EvEnv env cs L) (S : SX h₀ L rest ls ph ρ s.heap m conc) {x : PySem.Str} {v : PV} {u : Value} {Q : Unit → Shared → Prop} (hx : cs.names.lookup x = some .local) (hc : (x == cellKey) = false)
    (hv : v.Is ρ u) (h : ∀ h' m', SX h₀ L rest (setL x v ls) ph ρ h' m' conc → Q () { s with heap := h', toks := s.toks + 1 }) : wpAny (model prog w) A (storeName env x u) Q E s := by
  have hl := Ev.lo x hx
  refine wpAny_storeName_local (Ev.kd x _ hx) (hl ▸ S.F.ns) (fun h' hn hs => h h' (fun y => if y = x then some u else m y) ⟨S.F.set (hl ▸ hn) (hl ▸ hs), fun y p e => ?_, S.c, S.n, S.N.set (hl ▸ hs), S.d, S.r⟩) (by rw [F.hk]; rfl)
  rw [lookup_setL] at e
  by_cases q : (y == x) = true
  · rw [if_pos q] at e
    cases e
    rw [beq_iff_eq.mp q]
    exact ⟨u, hv, .inl ⟨beq_eq_false_iff_ne.mp hc, if_pos rfl⟩⟩
  · rw [if_neg q] at e
    obtain ⟨z, e1, e2⟩ := S.l y p e
    refine ⟨z, e1, e2.imp (fun ⟨a, b⟩ => ⟨a, ?_⟩) id⟩
    show (if y = x then some u else m y) = some z
    rw [if_neg fun r => q (beq_iff_eq.mpr r)]
    exact b

theorem bind_all (F : Frm hT A env outer base h₀ L lv) (Ev : EvEnv env cs L) {Q : Unit → Shared → Prop} : ∀ {nm : List PySem.Str} {vs : List PV} {us : List Value} {ts : List (Value → Sem Unit)} {ls ls1 : Ls} {s : Shared} {m}, SX h₀ L rest ls ph ρ s.heap m conc → bindAll cs nm vs ls = some ls1 →
    All2 (PV.Is ρ) vs us → All2 (fun n t => ∀ v Q s, wpAny (model prog w) A (storeName env n v) Q E s → wpAny (model prog w) A (t v) Q E s) nm ts →
    (∀ h' m' tk, SX h₀ L rest ls1 ph ρ h' m' conc → Q () { s with heap := h', toks := tk }) → wpAny (model prog w) A (assignInOrder ts us) Q E s
  | [], [], [], [], ls, ls1, s, m, S, e, _, _, h => by cases e; exact assignInOrder_nil (h _ m s.toks S)
  | x :: nm, v :: vs, u :: us, t :: ts, ls, ls1, s, m, S, e, hv, ht, h => by
    unfold bindAll at e
    split at e
    · rename_i hx
      refine assignInOrder_cons (ht.1 u _ _ (store_local F Ev S hx.1 hx.2 hv.1 fun h' m' S' => ?_))
      exact bind_all F Ev (s := { s with heap := h', toks := s.toks + 1 }) S' e hv.2 ht.2 fun h'' m'' tk S'' => h h'' m'' tk S''
    · cases e
  | [], _ :: _, _, _, _, _, _, _, _, e, _, _, _ => by cases e
  | _ :: _, [], _, _, _, _, _, _, _, e, _, _, _ => by cases e
  | [], [], _ :: _, _, _, _, _, _, _, _, hv, _, _ => hv.elim
  | _ :: _, _ :: _, [], _, _, _, _, _, _, _, hv, _, _ => hv.elim
  | [], [], [], _ :: _, _, _, _, _, _, _, _, ht, _ => ht.elim
  | _ :: _, _ :: _, _ :: _, [], _, _, _, _, _, _, _, ht, _ => ht.elim

theorem vcSetItem_sound {o i v : PV} {uo ui uv : Value} {kp : List PO → Prop} {Q : Unit → Shared → Prop} (S : SX h₀ L rest ls ph ρ s.heap m conc) (ho : o.Is ρ uo) (hi : i.Is ρ ui) (hv : v.Is ρ uv) (h : vcSetItem o i v ph kp)
    (V : ∀ ph' h', kp ph' → ST h₀ L rest ls ph' ρ h' → Q () { s with heap := h' }) : wpAny (model prog w) A (setItem uo ui uv) Q E s := by
  cases o with
  | ref a =>
    unfold vcSetItem at h
    dsimp only at h
    cases hp : ph[a]? with
    | none => rw [hp] at h; exact h.elim
    | some p =>
      rw [hp] at h
      cases p with
      | il xs =>
        cases i with
        | int j => cases v with
          | int n =>
            obtain ⟨⟨h0, h1, h2⟩, h⟩ := h
            obtain ⟨x, ob, e1, e2, hm, vs, c, rfl, hin⟩ := S.obj hp
            obtain ⟨t, rfl⟩ := hi
            obtain ⟨t', rfl⟩ := hv
            rw [isRef ho e1]
            have hlen := hin.length
            refine ksa_set S.F S.N (upd_zip S.d S.r e1 e2) hin h0 (by omega) (by omega) fun h' F' N' hi' _ _ => V _ h' h ⟨m, _, S.upd F' N' ⟨_, c, rfl, hi'⟩⟩
          | _ => exact h.elim
        | _ => exact h.elim
      | _ => exact h.elim
  | _ => exact h.elim

theorem set_fields {ρ : List Addr} {x : PySem.Str} {v : PV} {u : Value} {hsh : Int} {t : Tok} (hv : v.Is ρ u) : ∀ {fs : Ls} {es : List DictEntry}, All2 (FieldIs ρ) fs es → All2 (FieldIs ρ) (setL x v fs) (putL x hsh (.str x t) u es)
  | [], [], _ => ⟨⟨⟨t, rfl⟩, hv⟩, trivial⟩
  | (n, p) :: fs, e :: es, hr => by
    obtain ⟨⟨⟨t', ek⟩, hp⟩, hr⟩ := hr
    have hb : e.key.isStr x = (n == x) := by rw [ek]; rfl
    unfold setL putL
    rw [hb]
    by_cases q : (x == n) = true
    · rw [if_pos q, if_pos (by rw [beq_iff_eq] at q ⊢; exact q.symm)]
      exact ⟨⟨⟨t', ek⟩, hv⟩, hr⟩
    · rw [if_neg q, if_neg (by intro z; apply q; rw [beq_iff_eq] at z ⊢; exact z.symm)]
      exact ⟨⟨⟨t', ek⟩, hp⟩, set_fields hv hr⟩
  | [], _ :: _, h => h.elim
  | _ :: _, [], h => h.elim
theorem getSome {ρ : List Addr} {x : PySem.Str} {fs : Ls} {es : List DictEntry} (hr : All2 (FieldIs ρ) fs es) : (getL x es).isSome = true := by
  cases e : fs.lookup x with
  | none => rw [lookNone hr e]; rfl
  | some v => obtain ⟨u, h, _⟩ := lookGet hr e; rw [h]; rfl

/-- what the class of segments must show for its attributes to be set -/
structure SegOk (K : Frag) : Prop where
  st : findIn K (.ref segC) "__setattr__" = some (some (.builtin "object.__setattr__"))
  po : plainOver K segC = true
  tk : ∀ x, segNames.contains x = true → takerIn K segC x = some none

theorem vcSetAttr_sound (GK : GOk prog w mg mb hT K G lv) (SG : SegOk K) (F : Frm hT A env outer base h₀ L lv) {o v : PV} {uo uv : Value} {name : PySem.Str} {kp : List PO → Prop} {Q : Unit → Shared → Prop} (S : SX h₀ L rest ls ph ρ s.heap m conc) (ho : o.Is ρ uo) (hv : v.Is ρ uv)
    (h : vcSetAttr o v name ph kp) (V : ∀ ph' h' tk, kp ph' → ST h₀ L rest ls ph' ρ h' → Q () { s with heap := h', toks := tk }) : wpAny (model prog w) A (setAttr uo name uv) Q E s := by
  cases o with
  | ref a =>
    unfold vcSetAttr at h
    dsimp only at h
    cases hp : ph[a]? with
    | none => rw [hp] at h; exact h.elim
    | some p =>
      rw [hp] at h
      cases p with
      | ins d =>
        dsimp only at h
        cases hd : ph[d]? with
        | none => rw [hd] at h; exact h.elim
        | some p =>
          rw [hd] at h
          cases p with
          | di fs =>
            have hh2 := ifB_iff h
            clear h
            obtain ⟨hg, h⟩ := hh2
            obtain ⟨hn, hz⟩ := Bool.and_eq_true_iff.mp hg
            replace hz := Nat.le_of_ble_eq_true hz
            obtain ⟨x, dx, es, n, e1, e2, c2, hr, I⟩ := instAt_of (s := s) S hp hd
            rw [isRef ho e1]
            have hlen : (putL name (PyData.keyHash w.params name) (.str name (s.toks + 1)) uv es).length ≤ 1000 := by
              have h1 := (set_fields (x := name) (hsh := PyData.keyHash w.params name) (t := s.toks + 1) hv hr).length
              have h2 : (setL name v fs).length ≤ fs.length + 1 := by
                clear h hg hr hd hz h1
                induction fs with
                | nil => exact Nat.le_refl _
                | cons f fs ih =>
                  obtain ⟨y, q⟩ := f
                  unfold setL
                  split
                  · exact Nat.le_succ _
                  · exact Nat.succ_le_succ ih
              omega
            exact set_dict S.F (GK.X.keeps F.st) S.N I rfl SG.st SG.po (SG.tk name hn) GK.sg.2 (getSome hr) rfl (upd_zip S.d S.r e2 c2) hlen fun h' F' N' =>
              V _ h' _ h ⟨m, _, S.upd F' N' ⟨_, _, rfl, set_fields hv hr⟩⟩
          | _ => exact h.elim
      | _ => exact h.elim
  | _ => exact h.elim
end
end Mine
set_option maxHeartbeats 2000000
namespace Mine

section
variable {prog : Program} {w : World} {mg mb : PySem.Str → Option Value} {hT : Heap} {K : Frag} {G : Gm} {lv : Nat} {A : Around} {env : Env} {outer : List Env} {base h₀ : Heap} {L : Addr} {E : Value → Shared → Prop} {s : Shared}
  {rest : List (Addr × Obj)} {ls : Ls} {ph : List PO} {ρ : List Addr} {ke : Nat → List PO → Prop} {kn : Ls → List PO → Prop} {kr : PV → List PO → Prop} {m : PySem.Str → Option Value} {conc : List Obj} {k : PV → List PO → Prop} {cs : Scope} {Q : Flow → Shared → Prop}

theorem turns_le {q : Int × Int × Int} (h : 0 ≤ q.1 ∧ q.1 ≤ 2 ^ 60 ∧ -1 ≤ q.2.1 ∧ q.2.1 ≤ 2 ^ 60 ∧ 0 < q.2.2 ∧ q.2.2 ≤ 2 ^ 60) : 0 ≤ Builtin.Range.rangeSize q.1 q.2.1 q.2.2 ∧ Builtin.Range.small q.1 q.2.1 q.2.2 = true := by
  obtain ⟨a, b, c⟩ := q
  obtain ⟨h1, h2, h3, h4, h5, h6⟩ := h
  dsimp only at *
  have hr : 0 ≤ Builtin.Range.rangeSize a b c ∧ Builtin.Range.rangeSize a b c ≤ 2 ^ 60 + 1 := by
    unfold Builtin.Range.rangeSize
    rw [if_pos (by omega : c > 0)]
    split
    · have e1 : 0 ≤ (b - a - 1) / c := Int.ediv_nonneg (by omega) (by omega)
      have e2 : (b - a - 1) / c ≤ b - a - 1 := Int.ediv_le_self _ (by omega)
      omega
    · omega
  refine ⟨hr.1, ?_⟩
  unfold Builtin.Range.small Builtin.Range.rangeFitsLong
  simp only [Bool.and_eq_true, Bool.or_eq_true, decide_eq_true_eq]
  refine ⟨⟨⟨⟨?_, ?_⟩, ?_⟩, ?_⟩, .inr ?_⟩
  · omega
  · omega
  · omega
  · omega
  · rw [if_pos (by omega : c > 0)]
    simp only [Bool.and_eq_true, decide_eq_true_eq]
    omega

/-- the loop over hidden iterator objects -/
theorem for_sound (F : Frm hT A env outer base h₀ L lv) (Ev : EvEnv env cs L) {f : VB} (HS : SOk prog w A env outer base h₀ L f) {x : PySem.Str} {px : Pos} {body : List Stmt} (hx : cs.names.lookup x = some .local) (hck : (x == cellKey) = false)
    {I : Nat → Ls → List PO → Prop} {n : Nat} {val : Nat → PV} {it : Addr} {Ob : Nat → Obj → Prop} {rest' : List (Addr × Obj)} (hob : ∀ i o u, Ob i o → o.data ≠ .cell u) (hne : ∀ p ∈ rest', p.1 ≠ it)
    (hrest : ∀ {h' ph' ρ' ls'}, ST h₀ L rest' ls' ph' ρ' h' → ST h₀ L rest ls' ph' ρ' h')
    (HE : EP base env outer h₀ L rest' ρ ke E s) (HR : ER h₀ L rest' ρ ke E s) (HP : PassesOwn (model prog w) A env E)
    (next : ∀ i (s : Shared) (Q : Option Value → Shared → Prop) (E : Value → Shared → Prop), (∃ o, Ob i o ∧ s.heap.get? it = some o) → (∀ p ∈ rest', s.heap.get? p.1 = some p.2) → i < n →
      (∀ h' u tk, (∃ o, Ob (i + 1) o ∧ h'.get? it = some o) → Heap.SameBut it s.heap h' → (∀ ρ', ρ <+: ρ' → (val i).Is ρ' u) → Q (some u) { s with heap := h', toks := tk }) → wpAny (model prog w) A (pyNext (.ref it)) Q E s)
    (done : ∀ (s : Shared) (Q : Option Value → Shared → Prop) (E : Value → Shared → Prop), (∃ o, Ob n o ∧ s.heap.get? it = some o) → (∀ p ∈ rest', s.heap.get? p.1 = some p.2) → (∀ h', Heap.ExtBut it s.heap h' → Q none { s with heap := h' }) → wpAny (model prog w) A (pyNext (.ref it)) Q E s)
    (turn : ∀ i ls1 ph2, i < n → ph2.length = ph.length → I i ls1 ph2 → f body (setL x (val i) ls1) ph2 (fun ls2 ph3 => ∃ ph4, ph4.length = ph.length ∧ Cut ph (LsLt ls2) ph4 ph3 ∧ I (i + 1) ls2 ph4) kr ke)
    (fin : ∀ ls1 ph2, ph2.length = ph.length → I n ls1 ph2 → kn ls1 ph2) (V : NP h₀ L rest ρ kn Q s) (VR : RP h₀ L rest ρ kr Q s) (h0 : I 0 ls ph) (hlen : ph.length = ρ.length) (hlt : ∀ p ∈ ph, p.Lt ρ.length) {h' : Heap} {tk : Nat} {o₀ : Obj} (ho₀ : Ob 0 o₀)
    (S : ST h₀ L ((it, o₀) :: rest') ls ph ρ h') :
    codeAny (model prog w) A (.forLoop (.Name x px) (.ref it) body [] env) (fun r s' => match r with | .ok f => Q f s' | .error e => cameBackBy (model prog w) A env E e s') { s with heap := h', toks := tk } := by
  refine codeAny_forLoop (fun j s' => ∃ i ls1 ph2 ρ2 h2 tk2 o, i + j = n ∧ I i ls1 ph2 ∧ ph2.length = ph.length ∧ ρ <+: ρ2 ∧ Ob i o ∧ ST h₀ L ((it, o) :: rest') ls1 ph2 ρ2 h2 ∧ s' = { s with heap := h2, toks := tk2 }) (fun j s' hI => ?_) n
    ⟨0, ls, ph, ρ, h', tk, o₀, by omega, h0, rfl, List.prefix_rfl, ho₀, S, rfl⟩
  obtain ⟨i, ls1, ph2, ρ2, h2, tk2, o2, hij, hI, hl2, p2, ho2, ⟨m2, conc2, S2⟩, rfl⟩ := hI
  have hit : ∃ o, Ob i o ∧ h2.get? it = some o := ⟨o2, ho2, (S2.N (it, o2) (List.mem_append.mpr (.inr (.head _)))).1⟩
  have hrs : ∀ p ∈ rest', h2.get? p.1 = some p.2 := fun p hp => (S2.N p (List.mem_append.mpr (.inr (.tail _ hp)))).1
  rcases Nat.lt_or_ge i n with hin | hin
  · refine next i { s with heap := h2, toks := tk2 } _ _ hit hrs hin fun h3 u tk3 ⟨o3, hb3, ho3⟩ hs3 hu => ?_
    have S3 := S2.turnHidden hs3 ho3 hne (fun u => hob i o2 u ho2)
    refine assign_Name (store_local (s := { s with heap := h3, toks := tk3 }) F Ev S3 hx hck (hu ρ2 p2) fun h4 m4 S4 => ?_)
    refine wpAny_passesOwn HP ?_
    refine HS _ _ _ _ _ _ (turn i ls1 ph2 hin hl2 hI) ((it, o3) :: rest') ρ2 _ _ E ⟨_, _, S4⟩ ?_ ?_ (HE.hide.from p2) ((HR.hide (fun u => hob _ o3 u hb3)).from p2) HP
    · intro ls5 ph5 ρ5 h5 tk5 ⟨ph6, hl6, hcut, hI6⟩ p5 ⟨m5, conc5, S5⟩
      obtain ⟨ρ6, conc6, q1, q2, q3, S6⟩ := S5.cut (P := LsLt ls5) hlt hlen (p2.trans p5) hcut (fun z => z)
      exact ⟨j - 1, by omega, i + 1, ls5, ph6, ρ6, h5, tk5, o3, by omega, hI6, hl6, q2, hb3, ⟨_, _, S6⟩, rfl⟩
    · intro v5 u5 ph5 ρ5 h5 tk5 hk p5 hu5 ⟨m5, conc5, S5⟩
      exact VR v5 u5 ph5 ρ5 h5 tk5 hk (p2.trans p5) hu5 (hrest ⟨_, _, S5.unhide (fun u => hob _ o3 u hb3)⟩)
  · obtain rfl : i = n := by omega
    refine done { s with heap := h2, toks := tk2 } _ _ hit hrs fun h3 he => ?_
    refine wpAny_execs_nil ?_
    refine V ls1 ph2 ρ2 h3 tk2 (fin ls1 ph2 hl2 hI) p2 ?_
    have S3 := S2.unhide (fun u => hob i o2 u ho2)
    have hks : ∀ b o, b ≠ it → h2.get? b = some o → h3.get? b = some o := fun b o hb e => he b o hb e
    refine hrest ⟨m2, conc2, S3.keep ?_ fun p hp => ⟨hks _ _ ?_ (S3.N p hp).1, (S3.N p hp).2⟩⟩
    · have hn := S2.N (it, o2) (List.mem_append.mpr (.inr (.head _)))
      obtain ⟨oL, es, ep, g1, g2, g3, g4⟩ := S2.F.ns
      exact ⟨⟨oL, es, ep, hks _ _ (Ne.symm hn.2.1) g1, g2, g3, g4⟩, fun b o e => hks _ _ (fun q => by have := hn.2.2; rw [← q] at this; rw [this] at e; cases e) (S2.F.keep b o e), S2.F.above⟩
    · rcases List.mem_append.mp hp with hp | hp
      · exact fun q => S2.r (it, o2) (.head _) (q ▸ (List.of_mem_zip hp).1)
      · exact hne p hp
end
end Mine
set_option maxHeartbeats 2000000
namespace Mine

section
variable {prog : Program} {w : World} {mg mb : PySem.Str → Option Value} {hT : Heap} {K : Frag} {G : Gm} {lv : Nat} {A : Around} {env : Env} {outer : List Env} {base h₀ : Heap} {L : Addr} {E : Value → Shared → Prop} {s : Shared}
  {rest : List (Addr × Obj)} {ls : Ls} {ph : List PO} {ρ : List Addr} {ke : Nat → List PO → Prop} {kn : Ls → List PO → Prop} {kr : PV → List PO → Prop} {m : PySem.Str → Option Value} {conc : List Obj} {k : PV → List PO → Prop} {cs : Scope} {Q : Flow → Shared → Prop}

theorem ST.none (S : ST h₀ L rest ls ph ρ s.heap) : ST h₀ L rest [] ph ρ s.heap := let ⟨m, c, S⟩ := S; ⟨m, c, S.fewer fun _ _ e => by cases e⟩

theorem range_call (F : Frm hT A env outer base h₀ L lv) {vs : List PV} {us : List Value} {q : Int × Int × Int} (hr : rangeOf vs = some q) (hv : All2 (PV.Is ρ) vs us)
    (hb : 0 ≤ q.1 ∧ q.1 ≤ 2 ^ 60 ∧ -1 ≤ q.2.1 ∧ q.2.1 ≤ 2 ^ 60 ∧ 0 < q.2.2 ∧ q.2.2 ≤ 2 ^ 60) {Q : Value → Shared → Prop}
    (h : ∀ tk t u v, Q (.ref s.heap.objs.size) { s with heap := s.heap.push { cls := .type "range", data := .fields #[.int q.1 t, .int q.2.1 u, .int q.2.2 v] }, toks := tk }) : wpAny (model prog w) A (call (.type "range") us) Q E s := by
  have one : ∀ {b : Int}, rangeOf [.int b] = some q → ∀ t, wpAny (model prog w) A (call (.type "range") [.int b t]) Q E s := fun e t => by
    cases e; exact call_range_1 (h _ _ _ _)
  match vs, us, hr, hv with
  | [.int b], [u], hr, hv => obtain ⟨⟨t, rfl⟩, _⟩ := hv; exact one hr t
  | [.int a, .int b], [u, v], hr, hv => obtain ⟨⟨t, rfl⟩, ⟨t', rfl⟩, _⟩ := hv; cases hr; exact call_range_2 (h _ _ _ _)
  | [.int a, .int b, .int c], [u, v, x], hr, hv =>
    obtain ⟨⟨t, rfl⟩, ⟨t', rfl⟩, ⟨t'', rfl⟩, _⟩ := hv
    cases hr
    exact call_range_3 (Int.ne_of_gt hb.2.2.2.2.1) (h _ _ _ _) (.inl (PyProof.noPylong_of_log2 (log_small hb.2.2.2.2.1 (by have := hb.2.2.2.2.2; dsimp only at this; omega))))
  | [.int _], [], _, hv => exact hv.elim
  | [.int _], _ :: _ :: _, _, hv => exact hv.2.elim
  | [.int _, .int _], [], _, hv => exact hv.elim
  | [.int _, .int _], [_], _, hv => exact hv.2.elim
  | [.int _, .int _], _ :: _ :: _ :: _, _, hv => exact hv.2.2.elim
  | [.int _, .int _, .int _], [], _, hv => exact hv.elim
  | [.int _, .int _, .int _], [_], _, hv => exact hv.2.elim
  | [.int _, .int _, .int _], [_, _], _, hv => exact hv.2.2.elim
  | [.int _, .int _, .int _], _ :: _ :: _ :: _ :: _, _, hv => exact hv.2.2.2.elim

/-- a range walked: its iterator is hidden in the ledger -/
theorem range_iter (S : SX h₀ L rest ls ph ρ s.heap m conc) {a b c : Int} {t u v : Tok} {Q : Value → Shared → Prop} (hs : Builtin.Range.small a b c = true)
    (h : ∀ it h', SX h₀ L ((it, { cls := .type "range_iterator", data := .fields #[rawInt a, rawInt (Builtin.Range.rangeSize a b c), rawInt c] }) :: rest) ls ph ρ h' m conc → (∀ p ∈ rest, p.1 ≠ it) → Q (.ref it) { s with heap := h' }) :
    wpAny (model prog w) A (pyIter (.ref s.heap.objs.size)) Q E { s with heap := s.heap.push { cls := .type "range", data := .fields #[.int a t, .int b u, .int c v] } } := by
  refine wpAny_pyIter_range (IsRange.new s.heap a b c t u v) hs ?_
  have k1 : ∀ x o, s.heap.get? x = some o → (s.heap.push { cls := .type "range", data := .fields #[.int a t, .int b u, .int c v] }).get? x = some o := fun x o e => Heap.get?_push_of_some _ e
  have F1 := S.F.keeps k1
  have N1 := S.N.grown k1
  have k2 := fun x o (e : (s.heap.push { cls := .type "range", data := .fields #[.int a t, .int b u, .int c v] }).get? x = some o) =>
    Heap.get?_push_of_some { cls := .type "range_iterator", data := .fields #[rawInt a, rawInt (Builtin.Range.rangeSize a b c), rawInt c] } e
  have lt := fun p (hp : p ∈ ρ.zip conc ++ rest) => Heap.lt_size (N1 p hp).1
  exact h _ _ (S.hide (F1.keeps k2) (news_pushed (s := { s with heap := s.heap.push { cls := .type "range", data := .fields #[.int a t, .int b u, .int c v] } }) F1 N1 k2 (Heap.get?_push_size _ rfl) rfl) lt) fun p hp =>
    Nat.ne_of_lt (lt p (List.mem_append.mpr (.inr hp)))

theorem turns_size {q : Int × Int × Int} (h : 0 ≤ Builtin.Range.rangeSize q.1 q.2.1 q.2.2) : ((turns q : Nat) : Int) = Builtin.Range.rangeSize q.1 q.2.1 q.2.2 := by unfold turns; omega

theorem not_interactive (F : Frm hT A env outer base h₀ L lv) : interactive env = false := by unfold interactive; rw [F.hk]; rfl

theorem names_assign {prog : Program} {w : World} {A : Around} {E : Value → Shared → Prop} {env : Env} {es : List Expr} : ∀ {nm : List PySem.Str}, tupNames es = some nm → (assignEach es env).length = nm.length ∧ (assignEach es env).findIdx? (·.1) = none ∧
    All2 (fun n t => ∀ v Q s, wpAny (model prog w) A (storeName env n v) Q E s → wpAny (model prog w) A (t v) Q E s) nm ((assignEach es env).map (·.2)) := by
  induction es with
  | nil => intro nm e; cases e; exact ⟨rfl, rfl, trivial⟩
  | cons e0 r ih =>
    intro nm e
    cases e0 with
    | Name x p =>
      unfold tupNames at e
      obtain ⟨q, e', rfl⟩ := Option.map_eq_some_iff.mp e
      obtain ⟨h1, h2, h3⟩ := ih e'
      refine ⟨congrArg (· + 1) h1, ?_, fun v Q s h => assign_Name h, h3⟩
      show List.findIdx? _ ((false, assign (.Name x p) env) :: assignEach r env) = none
      rw [List.findIdx?_cons, if_neg Bool.false_ne_true, h2]; rfl
    | _ => cases e
theorem names_bind {prog : Program} {w : World} {A : Around} {E : Value → Shared → Prop} {env : Env} : ∀ {nm : List PySem.Str}, All2 (fun n t => ∀ v Q s, wpAny (model prog w) A (storeName env n v) Q E s → wpAny (model prog w) A (t v) Q E s) nm (nm.map fun n => bindName env n)
  | [] => trivial
  | _ :: _ => ⟨fun _ _ _ h => bindName_ h, names_bind⟩
theorem All2.reverse {α β : Type} {R : α → β → Prop} : ∀ {as : List α} {bs : List β}, All2 R as bs → All2 R as.reverse bs.reverse
  | [], [], _ => trivial
  | _ :: _, _ :: _, h => by rw [List.reverse_cons, List.reverse_cons]; exact All2.append (All2.reverse h.2) ⟨h.1, trivial⟩
  | [], _ :: _, h => h.elim
  | _ :: _, [], h => h.elim

/-- a list or a tuple taken apart -/
theorem items_unpack (hh : A.handled = none) {v : PV} {u : Value} {vs : List PV} {n : Nat} {Q : List Value → Shared → Prop} (S : SX h₀ L rest ls ph ρ s.heap m conc) (hv : v.Is ρ u) (hi : itemsOf ph v = some vs) (hn : vs.length = n)
    (h : ∀ h' us, SX h₀ L rest ls ph ρ h' m conc → All2 (PV.Is ρ) vs us → Q us { s with heap := h' }) : wpAny (model prog w) A (unpackItems u n none) Q E s := by
  cases v with
  | ref a =>
    unfold itemsOf at hi
    dsimp only at hi
    cases hp : ph[a]? with
    | none => rw [hp] at hi; cases hi
    | some p =>
      rw [hp] at hi
      cases p with
      | il ns =>
        cases hi
        obtain ⟨x, us, r, hl, hin⟩ := S.intsAt hp
        rw [isRef hv r]
        exact kun_items S.F S.N hl hh (by rw [← hn, List.size_toArray, List.length_map]; exact hin.length.symm) fun h' F' N' => h h' _ (S.keep F' N') (by exact intsAre_all hin)
      | pl xs =>
        cases hi
        obtain ⟨x, us, r, hl, hin⟩ := S.listAt hp
        rw [isRef hv r]
        exact kun_items S.F S.N hl hh (by rw [← hn, List.size_toArray]; exact hin.length) fun h' F' N' => h h' _ (S.keep F' N') hin
      | tu xs =>
        cases hi
        obtain ⟨x, us, r, hl, hin⟩ := S.tupAt hp
        rw [isRef hv r]
        exact unpackItemsN_ S.F S.N hl hh (by rw [← hn, List.size_toArray]; exact hin.length) fun h' F' N' => h h' _ (S.keep F' N') hin
      | _ => cases hi
  | _ => cases hi
end
end Mine
set_option maxHeartbeats 2000000
namespace Mine

section
variable {prog : Program} {w : World} {mg mb : PySem.Str → Option Value} {hT : Heap} {K : Frag} {G : Gm} {lv : Nat} {A : Around} {env : Env} {outer : List Env} {base h₀ : Heap} {L : Addr} {E : Value → Shared → Prop} {s : Shared}
  {rest : List (Addr × Obj)} {ls : Ls} {ph : List PO} {ρ : List Addr} {ke : Nat → List PO → Prop} {kn : Ls → List PO → Prop} {kr : PV → List PO → Prop} {m : PySem.Str → Option Value} {conc : List Obj} {k : PV → List PO → Prop} {cs : Scope} {Q : Flow → Shared → Prop}

theorem swaps_sole {e t : Expr} {l : Nat} {env : Env} (h : plainVal e = true) : swapsWithSole [t] e l env = pure false := swaps_plain h
/-- all that a frame's statements lean on -/
structure Cx (prog : Program) (w : World) (mg mb : PySem.Str → Option Value) (hT : Heap) (K : Frag) (G : Gm) (lv : Nat) (A : Around) (env : Env) (outer : List Env) (base h₀ : Heap) (L : Addr) (cs : Scope) : Prop where
  GK : GOk prog w mg mb hT K G lv
  SG : SegOk K
  F : Frm hT A env outer base h₀ L lv
  Ev : EvEnv env cs L
  sc : env.scope = cs
  RO : RaiseOk prog w A env h₀ L cs

theorem Cx.ev (X : Cx prog w mg mb hT K G lv A env outer base h₀ L cs) (F : Nat) {e : Expr} (h : (vcET G cs ls ke F).1 e ph k) {Q : Value → Shared → Prop} (S : ST h₀ L rest ls ph ρ s.heap) (V : VP h₀ L rest ls ρ k Q s) (HE : EP base env outer h₀ L rest ρ ke E s) :
    wpAny (model prog w) A (eval e env) Q E s := (vcET_sound X.GK X.F (X.Ev.w ls) F).1 e ph k h ρ s Q E S V HE
theorem Cx.te (X : Cx prog w mg mb hT K G lv A env outer base h₀ L cs) (F : Nat) {e : Expr} {kb : Bool → List PO → Prop} (h : (vcET G cs ls ke F).2 e ph kb) {Q : Bool → Shared → Prop} (S : ST h₀ L rest ls ph ρ s.heap) (V : TP h₀ L rest ls ρ kb Q s)
    (HE : EP base env outer h₀ L rest ρ ke E s) : wpAny (model prog w) A (isTrue e env (eval e env)) Q E s := (vcET_sound X.GK X.F (X.Ev.w ls) F).2 e ph kb h ρ s Q E S V HE
theorem Cx.evL (X : Cx prog w mg mb hT K G lv A env outer base h₀ L cs) (F : Nat) {es : List Expr} {kl : List PV → List PO → Prop} (h : vcL (vcET G cs ls ke F).1 es ph kl) {pos : Pos} {Q : List Value → Shared → Prop} (S : ST h₀ L rest ls ph ρ s.heap) (V : LP h₀ L rest ls ρ kl Q s)
    (HE : EP base env outer h₀ L rest ρ ke E s) : wpAny (model prog w) A (spliced (backTo pos (starEach es env))) Q E s := vcL_sound (vcET_sound X.GK X.F (X.Ev.w ls) F).1 h S V HE

variable {vS : VB} {F : Nat}
noncomputable abbrev vEF (G : Gm) (cs : Scope) (F : Nat) : (Nat → List PO → Prop) → Ls → VE := fun ke ls => (vcET G cs ls ke F).1
noncomputable abbrev vTF (G : Gm) (cs : Scope) (F : Nat) : (Nat → List PO → Prop) → Ls → VT := fun ke ls => (vcET G cs ls ke F).2

theorem while_sound (X : Cx prog w mg mb hT K G lv A env outer base h₀ L cs) (HS : SOk prog w A env outer base h₀ L vS) {t : Expr} {body : List Stmt} {pos : Pos} {I : Nat → Ls → List PO → Prop} {n : Nat} (h0 : I n ls ph)
    (hI : ∀ n ls1 ph1, ph1.length = ph.length → I n ls1 ph1 → vTF G cs F ke ls1 t ph1 fun c ph2 =>
      ifC c (vS body ls1 ph2 (fun ls2 ph3 => ∃ m ph4, m < n ∧ ph4.length = ph.length ∧ Cut ph (LsLt ls2) ph4 ph3 ∧ I m ls2 ph4) kr ke) (kn ls1 ph2))
    (S : ST h₀ L rest ls ph ρ s.heap) (hlen : ph.length = ρ.length) (hlt : ∀ p ∈ ph, p.Lt ρ.length) (V : NP h₀ L rest ρ kn Q s) (VR : RP h₀ L rest ρ kr Q s) (HE : EP base env outer h₀ L rest ρ ke E s) (HR : ER h₀ L rest ρ ke E s) (HP : PassesOwn (model prog w) A env E) :
    wpAny (model prog w) A (exec (.While t body [] pos) env) Q E s := by
  refine wpAny_While ?_
  refine codeAny_whileLoop (fun j s' => ∃ ls1 ph2 ρ2 h2 tk2, I j ls1 ph2 ∧ ph2.length = ph.length ∧ ρ <+: ρ2 ∧ ST h₀ L rest ls1 ph2 ρ2 h2 ∧ s' = { s with heap := h2, toks := tk2 }) (fun j s' hJ => ?_) n
    ⟨ls, ph, ρ, s.heap, s.toks, h0, rfl, List.prefix_rfl, S, rfl⟩
  obtain ⟨ls1, ph2, ρ2, h2, tk2, hJ, hl2, p2, S2, rfl⟩ := hJ
  refine wpAny_passesOwn HP (X.te F (hI j ls1 ph2 hl2 hJ) S2 (fun c ph3 ρ3 h3 tk3 hk p3 S3 => ?_) (HE.from p2))
  cases c with
  | true =>
    dsimp only
    rw [if_pos rfl]
    refine wpAny_passesOwn HP (HS _ _ _ _ _ _ hk rest ρ3 _ _ E S3 ?_ ?_ (HE.from (p2.trans p3)) (HR.from (p2.trans p3)) HP)
    · intro ls5 ph5 ρ5 h5 tk5 ⟨j', ph6, hj, hl6, hcut, hI6⟩ p5 ⟨m5, conc5, S5⟩
      obtain ⟨ρ6, conc6, q1, q2, q3, S6⟩ := S5.cut (P := LsLt ls5) hlt hlen ((p2.trans p3).trans p5) hcut (fun z => z)
      exact ⟨j', hj, ls5, ph6, ρ6, h5, tk5, hI6, hl6, q2, ⟨_, _, S6⟩, rfl⟩
    · exact fun v5 u5 ph5 ρ5 h5 tk5 hk p5 hu5 S5 => VR v5 u5 ph5 ρ5 h5 tk5 hk ((p2.trans p3).trans p5) hu5 S5
  | false =>
    dsimp only
    rw [if_neg Bool.false_ne_true]
    exact wpAny_execs_nil (V ls1 ph3 ρ3 h3 tk3 hk (p2.trans p3) S3)

theorem stepS_sound (X : Cx prog w mg mb hT K G lv A env outer base h₀ L cs) (HS : SOk prog w A env outer base h₀ L vS) {st : Stmt} (h : stepS cs (vEF G cs F) (vTF G cs F) vS st ls ph kn kr ke)
    (S : ST h₀ L rest ls ph ρ s.heap) (V : NP h₀ L rest ρ kn Q s) (VR : RP h₀ L rest ρ kr Q s) (HE : EP base env outer h₀ L rest ρ ke E s) (HR : ER h₀ L rest ρ ke E s) (HP : PassesOwn (model prog w) A env E) :
    wpAny (model prog w) A (exec st env) Q E s := by
  have hlen : ph.length = ρ.length := let ⟨_, _, S⟩ := S; S.len
  have hlt : ∀ p ∈ ph, p.Lt ρ.length := let ⟨_, _, S⟩ := S; S.phLt
  cases st with
  | Assign ts value spos => cases ts with
    | nil => exact h.elim
    | cons t ts => cases t with
      | Name x p => cases ts with
        | cons _ _ => exact h.elim
        | nil =>
          -- x = e
          obtain ⟨hg, h⟩ := ifB_iff h
          obtain ⟨hv, hg⟩ := Bool.and_eq_true_iff.mp hg
          obtain ⟨hx, hc⟩ := Bool.and_eq_true_iff.mp hg
          replace hx := isLoc_eq hx
          replace hc := not_eq hc
          refine wpAny_Assign_Name (X.ev F h S (fun v u ph1 ρ1 h1 tk1 hk p1 hu S1 => ?_) HE) (swaps_plain hv)
          obtain ⟨m1, conc1, S1⟩ := S1
          exact store_local (s := { s with heap := h1, toks := tk1 }) X.F X.Ev S1 hx hc hu fun h' m' S' => V _ _ _ h' _ hk p1 ⟨_, _, S'⟩
      | Subscript o i p => cases ts with
        | cons _ _ => exact h.elim
        | nil =>
          -- o[i] = e
          obtain ⟨hv, h⟩ := ifB_iff h
          refine wpAny_Assign_Subscript (X.ev F h S (fun v u ph1 ρ1 h1 tk1 hk p1 hu S1 => X.ev F hk S1 (fun a ua ph2 ρ2 h2 tk2 hk2 p2 hua S2 => X.ev F hk2 S2 (fun j uj ph3 ρ3 h3 tk3 hk3 p3 huj S3 => ?_) (HE.from (p1.trans p2))) (HE.from p1)) HE) (swaps_plain hv)
          obtain ⟨m3, conc3, S3⟩ := S3
          exact vcSetItem_sound (s := { s with heap := h3, toks := tk3 }) S3 (hua.mono p3) huj (hu.mono (p2.trans p3)) hk3 fun ph' h' hk' S' => V _ _ _ h' tk3 hk' ((p1.trans p2).trans p3) S'
      | Attribute o name p => cases ts with
        | cons _ _ => exact h.elim
        | nil =>
          -- o.a = e
          obtain ⟨hv, h⟩ := ifB_iff h
          refine plainObj_wpAny_Assign_Attribute (X.ev F h S (fun v u ph1 ρ1 h1 tk1 hk p1 hu S1 => X.ev F hk S1 (fun a ua ph2 ρ2 h2 tk2 hk2 p2 hua S2 => ?_) (HE.from p1)) HE) (swaps_plain hv)
          obtain ⟨m2, conc2, S2⟩ := S2
          exact vcSetAttr_sound (s := { s with heap := h2, toks := tk2 }) X.GK X.SG X.F S2 hua (hu.mono p2) hk2 fun ph' h' tk' hk' S' => V _ _ _ h' tk' hk' (p1.trans p2) S'
      | Tuple es c tp => cases ts with
        | cons _ _ => exact h.elim
        | nil =>
          -- a, b = e
          obtain ⟨hv, o, nm, hw, hnm, h⟩ := ifB_iff h
          have ha := names_assign (prog := prog) (w := w) (A := A) (E := E) (env := env) hnm
          cases o with
          | none =>
            refine Assign_Tuple (X.ev F h S (fun v u ph1 ρ1 h1 tk1 hk p1 hu S1 => ?_) HE) (swaps_sole hv) (hw env X.sc)
            obtain ⟨vs, hi, hl, ls1, hb, hk⟩ := hk
            obtain ⟨m1, conc1, S1⟩ := S1
            rw [assign_Tuple]
            refine wpAny_bind (wpAny_standAt ?_)
            unfold unpack
            rw [ha.2.1, ha.1]
            refine wpAny_bind (wpAny_holding (items_unpack (s := { s with heap := h1, toks := tk1 }) X.F.hh S1 hu hi hl fun h' us S' hus => ?_))
            exact bind_all (s := { s with heap := h', toks := tk1 }) X.F X.Ev S' hb hus ha.2.2 fun h'' m'' tk'' S'' => V _ _ _ h'' tk'' hk p1 ⟨_, _, S''⟩
          | some names =>
            refine Assign_Tuple_swapped (X.ev F h S (fun v u ph1 ρ1 h1 tk1 hk p1 hu S1 => ?_) HE) (swaps_sole hv) (hw env X.sc)
            obtain ⟨vs, hi, hl, ls1, hb, hk⟩ := hk
            obtain ⟨m1, conc1, S1⟩ := S1
            refine items_unpack (s := { s with heap := h1, toks := tk1 }) X.F.hh S1 hu hi hl fun h' us S' hus => ?_
            exact bind_all (s := { s with heap := h', toks := tk1 }) X.F X.Ev S' hb hus.reverse names_bind fun h'' m'' tk'' S'' => V _ _ _ h'' tk'' hk p1 ⟨_, _, S''⟩
      | _ => exact h.elim
  | AugAssign t op value spos => cases t with
    | Name x p => cases op with
      | Add =>
        unfold stepS at h
        dsimp only at h
        -- x += e
        obtain ⟨hg, h⟩ := ifB_iff h
        obtain ⟨hx, hc⟩ := Bool.and_eq_true_iff.mp hg
        replace hx := isLoc_eq hx
        replace hc := not_eq hc
        split at h
        · rename_i a ha
          obtain ⟨m0, conc0, S0⟩ := S
          obtain ⟨u, hu, e1⟩ := S0.l _ _ ha
          rcases e1 with ⟨_, e1⟩ | ⟨e1, _⟩
          · obtain ⟨t, rfl⟩ := hu
            refine wpAny_AugAssign_Name (wpAny_loadName_local X.Ev.hk (X.Ev.kd _ _ hx) (X.Ev.lo _ hx ▸ S0.F.ns) e1 (X.ev F h S0.st (fun v u ph1 ρ1 h1 tk1 hk p1 hu S1 => ?_) HE))
            cases v with
            | int b =>
              obtain ⟨t', rfl⟩ := hu
              obtain ⟨m1, conc1, S1⟩ := S1
              refine PySem.AutoIntOps.iadd_0 ?_
              exact store_local (s := { s with heap := h1, toks := tk1 + 1 }) X.F X.Ev S1 hx hc (v := .int (a + b)) ⟨_, rfl⟩ fun h' m' S' => V _ _ _ h' _ hk p1 ⟨_, _, S'⟩
            | _ => exact hk.elim
          · exact absurd e1 (beq_eq_false_iff_ne.mp hc)
        · exact h.elim
      | _ => exact h.elim
    | _ => exact h.elim
  | If t a b p =>
    -- if
    refine wpAny_If (X.te F h S (fun c ph1 ρ1 h1 tk1 hk p1 S1 => ?_) HE)
    cases c with
    | true => exact HS _ _ _ _ _ _ hk rest ρ1 _ Q E S1 (V.from p1) (VR.from p1) (HE.from p1) (HR.from p1) HP
    | false => exact HS _ _ _ _ _ _ hk rest ρ1 _ Q E S1 (V.from p1) (VR.from p1) (HE.from p1) (HR.from p1) HP
  | While t body els p => cases els with
    | cons _ _ => exact h.elim
    | nil =>
      -- while
      obtain ⟨I, ⟨n, h0⟩, hI⟩ := h
      exact while_sound X HS h0 hI S hlen hlt V VR HE HR HP
  | For t it body els p => cases t with
    | Name x np => cases it with
      | Call fn args kws cp => cases fn with
        | Name r rp => cases kws with
          | cons _ _ => exact h.elim
          | nil => cases els with
            | cons _ _ => exact h.elim
            | nil =>
              -- for in range
              have hh2 := ifB_iff h
              clear h
              obtain ⟨hg, h⟩ := hh2
              obtain ⟨hr, hg⟩ := Bool.and_eq_true_iff.mp hg
              obtain ⟨hrl, hg⟩ := Bool.and_eq_true_iff.mp hg
              obtain ⟨hn, hg⟩ := Bool.and_eq_true_iff.mp hg
              obtain ⟨hx, hc⟩ := Bool.and_eq_true_iff.mp hg
              replace hrl := isGlob_eq hrl
              replace hx := isLoc_eq hx
              replace hc := not_eq hc
              obtain rfl := beq_iff_eq.mp hr
              refine wpAny_For (wpAny_Call_NameR ?_)
              obtain ⟨m0, conc0, S0⟩ := S
              have e1 := X.GK.bi (PySem.Str.ofString "range") .range rfl
              refine callNamed X.GK X.F (X.Ev.w ls) S0 (X.Ev.kd _ _ hrl) rfl (.inr e1) ?_
              refine PyProof.Rows.callWith_type (noStar_any (env := env) hn) (args_plain hn (X.evL F h S0.st (fun vs us ph1 ρ1 h1 tk1 hk p1 hu S1 => ?_) HE))
              obtain ⟨qa, qb, qc, hq, hb, I, h0, hI, hfin⟩ := hk
              obtain ⟨q, eq⟩ : ∃ q : Int × Int × Int, q = (qa, qb, qc) := ⟨_, rfl⟩
              replace hq : rangeOf vs = some q := by rw [eq]; exact hq
              replace hb : 0 ≤ q.1 ∧ q.1 ≤ 2 ^ 60 ∧ -1 ≤ q.2.1 ∧ q.2.1 ≤ 2 ^ 60 ∧ 0 < q.2.2 ∧ q.2.2 ≤ 2 ^ 60 := by rw [eq]; exact hb
              rw [← eq] at hI hfin
              obtain rfl : qa = q.1 := by rw [eq]
              obtain rfl : qb = q.2.1 := by rw [eq]
              obtain rfl : qc = q.2.2 := by rw [eq]
              obtain ⟨hsz, hsm⟩ := turns_le hb
              obtain ⟨m1, conc1, S1⟩ := S1
              refine range_call (s := { s with heap := h1, toks := tk1 }) X.F hq hu hb fun tk t u v => ?_
              refine range_iter (s := { s with heap := h1, toks := tk }) S1 hsm fun it h' S' hne => ?_
              have hts := turns_size hsz
              refine for_sound (s := { s with heap := h', toks := tk }) X.F X.Ev HS hx hc (I := I) (n := turns q) (val := fun i => .int (q.1 + i * q.2.2)) (it := it) (rest' := rest) (ρ := ρ1) (ph := ph1)
                (Ob := fun i o => o = { cls := .type "range_iterator", data := .fields #[rawInt (q.1 + i * q.2.2), rawInt (Builtin.Range.rangeSize q.1 q.2.1 q.2.2 - i), rawInt q.2.2] }) (fun i o u e q => by subst e; cases q) hne (fun z => z) (HE.from p1) (HR.from p1) HP
                (fun i s Q E ho _ hi hQ => by
                  obtain ⟨o, rfl, ho⟩ := ho
                  refine wpAny_pyNext_range_item ho (by omega) fun h' hit hs => hQ h' _ _ ⟨_, rfl, ?_⟩ hs fun ρ' _ => ⟨_, rfl⟩
                  have e1 : q.1 + (i : Int) * q.2.2 + q.2.2 = q.1 + ((i + 1 : Nat) : Int) * q.2.2 := by rw [Int.add_assoc, Int.natCast_add, Int.add_mul]; simp
                  have e2 : Builtin.Range.rangeSize q.1 q.2.1 q.2.2 - (i : Int) - 1 = Builtin.Range.rangeSize q.1 q.2.1 q.2.2 - ((i + 1 : Nat) : Int) := by omega
                  rw [← e1, ← e2]
                  exact hit)
                (fun s Q E ho _ hQ => by
                  obtain ⟨o, rfl, ho⟩ := ho
                  exact wpAny_pyNext_range_end X.F.hh ho (by omega) hQ)
                hI hfin (V.from p1) (VR.from p1) h0 S'.len S'.phLt (by simp) ⟨_, _, S'⟩
        | _ => exact h.elim
      | Tuple es c tp => cases els with
        | cons _ _ => exact h.elim
        | nil =>
          -- for in a tuple display
          obtain ⟨hg, h⟩ := ifB_iff h
          obtain ⟨hx, hc⟩ := Bool.and_eq_true_iff.mp hg
          replace hx := isLoc_eq hx
          replace hc := not_eq hc
          refine wpAny_For (Tuple_ (X.evL F h S (fun vs us ph1 ρ1 h1 tk1 hk p1 hu S1 => ?_) HE))
          obtain ⟨hz, I, h0, hI, hfin⟩ := ifB_iff hk
          replace hz := Nat.le_of_ble_eq_true hz
          obtain ⟨m1, conc1, S1⟩ := S1
          have hul : us.length = vs.length := hu.length.symm
          refine kup_newTuple (s := { s with heap := h1, toks := tk1 }) S1.F S1.N (fun D h2 F2 N2 lt2 => ?_) (by rw [sizeLine_eq, hul]; omega)
          have S2 := S1.hide F2 N2 lt2
          have hD : IsTup h2 D us.toArray := ⟨_, (N2 _ (.head _)).1, rfl, _, rfl⟩
          refine iter_tuple (s := { s with heap := h2, toks := tk1 }) hD ?_
          have k2 := fun x o (e : h2.get? x = some o) => Heap.get?_push_of_some { cls := .type "tuple_iterator", data := .fields #[.ref D, .int 0 0] } e
          have S3 := S2.hide (S2.F.keeps k2) (news_pushed (s := { s with heap := h2, toks := tk1 }) S2.F S2.N k2 (Heap.get?_push_size _ rfl) rfl) fun p hp => Heap.lt_size (S2.N p hp).1
          refine for_sound (s := { s with heap := h2.push { cls := .type "tuple_iterator", data := .fields #[.ref D, .int 0 0] }, toks := tk1 }) X.F X.Ev HS hx hc (I := I) (n := vs.length) (val := fun i => vs.getD i .none) (rest' := (D, _) :: rest) (ρ := ρ1) (ph := ph1)
            (Ob := fun i o => o.cls = .type "tuple_iterator" ∧ o.data = .fields #[.ref D, .int i 0]) (fun i o u e q => by rw [e.2] at q; cases q) (fun p hp => Nat.ne_of_lt (Heap.lt_size (S2.N p (List.mem_append.mpr (.inr hp))).1))
            (fun z => let ⟨_, _, z⟩ := z; ⟨_, _, z.unhide fun u q => by cases q⟩) (HE.hide.from p1) ((HR.hide fun u q => by cases q).from p1) HP
            (fun i s Q E ho hr hi hQ => by
              obtain ⟨o, ⟨oc, od⟩, ho⟩ := ho
              have hD' : IsTup s.heap D us.toArray := ⟨_, hr (D, _) (.head _), rfl, _, rfl⟩
              obtain ⟨u, e1, e2⟩ := hu.get (i := i) (a := vs.getD i .none) (by rw [List.getD_eq_getElem?_getD, List.getElem?_eq_getElem hi]; rfl)
              refine next_tuple_item ⟨o, ho, oc, od⟩ hD' (x := u) (by simpa using e1) fun h' hit hs => ?_
              obtain ⟨o', ho', oc', od'⟩ := hit
              exact hQ h' u _ ⟨o', ⟨oc', od'⟩, ho'⟩ hs fun ρ' p' => e2.mono p')
            (fun s Q E ho hr hQ => by
              obtain ⟨o, ⟨oc, od⟩, ho⟩ := ho
              have hD' : IsTup s.heap D us.toArray := ⟨_, hr (D, _) (.head _), rfl, _, rfl⟩
              exact next_tuple_end X.F.hh ⟨o, ho, oc, od⟩ hD' (by simp [hul]) hQ)
            (fun i ls1 ph2 hi hl hI1 => hI i ls1 ph2 _ (by rw [List.getD_eq_getElem?_getD, List.getElem?_eq_getElem hi]; rfl) hl hI1) hfin (V.from p1) (VR.from p1) h0 S1.len S1.phLt ⟨rfl, rfl⟩ ⟨_, _, S3⟩
      | _ => exact h.elim
    | _ => exact h.elim
  | Return e p => cases e with
    | none => exact h.elim
    | some e =>
      -- return
      refine wpAny_Return_some (X.ev F h S (fun v u ph1 ρ1 h1 tk1 hk p1 hu S1 => VR v u ph1 ρ1 h1 tk1 hk p1 hu ?_) HE)
      obtain ⟨m1, conc1, S1⟩ := S1
      exact ⟨_, _, S1.fewer fun _ _ e => by cases e⟩
  | Expr e p =>
    -- an expression
    obtain ⟨hv, h⟩ := ifB_iff h
    exact wpAny_Expr_any (X.ev F h S (fun v u ph1 ρ1 h1 tk1 hk p1 hu S1 => V _ _ _ h1 tk1 hk p1 S1) HE) (not_interactive X.F) (swaps_plain hv)
  | Raise e c p => cases e with
    | none => exact h.elim
    | some e => cases e with
      | Call fn args kws cp => cases fn with
        | Name x np => cases args with
          | nil => exact h.elim
          | cons a args => cases a with
            | Constant v k1 k2 => cases v with
              | str y => cases args with
                | cons _ _ => exact h.elim
                | nil => cases kws with
                  | cons _ _ => exact h.elim
                  | nil => cases c with
                    | some _ => exact h.elim
                    | none =>
                      unfold stepS at h
                      dsimp only at h
                      -- raise
                      obtain ⟨hx, h⟩ := ifB_iff h
                      replace hx := isGlob_eq hx
                      split at h
                      · rename_i c hc
                        obtain ⟨m0, conc0, S0⟩ := S
                        exact X.RO S0 hx hc fun e h' tk hx => HR c ph ρ e h' tk h List.prefix_rfl hx
                      · exact h.elim
              | _ => exact h.elim
            | _ => exact h.elim
        | _ => exact h.elim
      | _ => exact h.elim
  | _ => exact h.elim

theorem vcB_sound (X : Cx prog w mg mb hT K G lv A env outer base h₀ L cs) : ∀ n, SOk prog w A env outer base h₀ L (vcB G cs F n)
  | 0 => fun _ _ _ _ _ _ h => h.elim
  | n + 1 => fun sts ls ph kn kr ke h rest ρ s Q E S V VR HE HR HP => by
    cases sts with
    | nil => exact wpAny_execs_nil (V ls ph ρ s.heap s.toks h List.prefix_rfl S)
    | cons st r =>
      refine wpAny_execs_cons (stepS_sound X (vcB_sound X n) h S (fun ls' ph' ρ' h' tk hk p' S' => ?_) (fun v u ph' ρ' h' tk hk p' hu S' => VR v u ph' ρ' h' tk hk p' hu S') HE HR HP)
      exact vcB_sound X n _ _ _ _ _ _ hk rest ρ' _ Q E S' (V.from p') (VR.from p') (HE.from p') (HR.from p') HP
end
end Mine
set_option maxHeartbeats 2000000
namespace Mine

section
variable {M : Model} {A : Around} {s' : Shared} {base g : Heap} {outer : List Env} {L a e : Addr} {name : PySem.Str} {scope : Scope} {cd : Value} {Q : Unit → Shared → Prop} {E : Value → Shared → Prop} {rest : List (Addr × Obj)} {ph : List PO} {ρ : List Addr} {c : Nat}
/-- an exception made in a frame leaves it -/
theorem leave_first (K : Below A base outer g) (hx : XR g L rest c ph ρ e s'.heap)
    (hQ : ∀ h' t vs conc, RaisedK base outer e (.ref (clsA c)) t vs (ρ.zip conc ++ rest) h' → g.UpToSlots h' → All2 (PO.Is ρ) ph conc → ρ.length = conc.length → ρ.Nodup → (∀ q ∈ rest, q.1 ∉ ρ) → Q () { s' with heap := h' }) (hk : scope.kind = .function) :
    wpAny M (A.deeper (envOf name scope L a cd)) (leaving (envOf name scope L a cd) (.ref e)) Q E s' := by
  obtain ⟨m, conc, h, oe, vs, t, ws, S, kp, en, tn, ho, hc, hd, h1, h0, ht⟩ := hx
  have F := S.F
  have N := S.N
  have K' := K.push (name := name) (a := a) (cd := cd) F hk
  have hin : ∀ env ∈ (envOf name scope L a cd :: outer), ∀ b, env.frame = some b → b ∈ (envOf name scope L a cd :: outer).filterMap (·.frame) := fun env he b hb => List.mem_filterMap.mpr ⟨env, he, hb⟩
  have st : base.StaysIn (hideAll h ((envOf name scope L a cd :: outer).filterMap (·.frame))) := fun b o q => hideAll_get _ (K'.stays b o q) fun hm => by
    rw [(K'.frames.mem hm).1] at q; cases q
  have hl : ∀ q ∈ ρ.zip conc ++ rest, (hideAll h ((envOf name scope L a cd :: outer).filterMap (·.frame))).get? q.1 = some q.2 ∧ base.get? q.1 = none := fun q hq => by
    refine ⟨hideAll_get _ (N q hq).1 fun hm => ?_, fresh_of_stays K.stays (N q hq).2.2⟩
    obtain ⟨env, he, hf⟩ := List.mem_filterMap.mp hm
    rcases List.mem_cons.mp he with rfl | he
    · exact (N q hq).2.1 (Option.some.inj hf).symm
    · obtain ⟨o, ho, _⟩ := (K.frames.mem (List.mem_filterMap.mpr ⟨env, he, hf⟩)).2
      rw [(N q hq).2.2] at ho; cases ho
  have fr : ∀ b, h.get? b = none → (hideAll h ((envOf name scope L a cd :: outer).filterMap (·.frame))).get? b = none := fun b hb => by
    cases q : (hideAll h ((envOf name scope L a cd :: outer).filterMap (·.frame))).get? b with
    | none => rfl
    | some o => have := of_hideAll _ q; rw [hb] at this; cases this
  have hfun := (funFrames_hide K'.frames hin).of_keeps fun b o q _ => ⟨o, kp b o q, rfl⟩
  refine wpAny_leaving_firstW (a0 := .ref t) K'.stack hfun rfl ho (fun b o q => kp b o (of_hideAll _ q)) (fr e en) hd h1 h0 fun h' hL => ?_
  obtain ⟨k1, ⟨_, _, k2⟩, k3, k4⟩ := hL
  rw [hc] at k3
  exact hQ h' t ws conc ⟨⟨_, st, hl, ⟨k1, fr e en, k2, k3⟩, fr t tn⟩, ht.of_slots k4⟩ (((Heap.UpToSlots.of_keeps F.keep).trans (Heap.UpToSlots.of_keeps kp)).trans k4) S.c S.n S.d S.r
end

/-- a plain def as it stands in the heap -/
structure FnAt (hT : Heap) (a : Addr) (name qual : PySem.Str) (params : Arguments) (body : List Stmt) (scope : Scope) (dV kV doc pm : Value) (an : Option Addr) (cdv ct : Value) : Prop where
  get : ∃ fo, hT.get? a = some fo ∧ fo.data = .func (fnX name qual params body scope [] dV kV doc pm an cdv ct)
  cd : hT.CodeRec cdv qual

section
variable {prog : Program} {w : World} {mg mb : PySem.Str → Option Value} {hT : Heap} {K : Frag} {G : Gm} {lv : Nat} {S : Sp} {a : Addr} {name qual : PySem.Str} {params : Arguments} {body : List Stmt} {scope : Scope} {dV kV doc pm : Value} {an : Option Addr} {cdv ct : Value}
  {names : List PySem.Str}

theorem zip_look {ρ : List Addr} {x : PySem.Str} {v : PV} : ∀ {names : List PySem.Str} {vs : List PV} {us : List Value}, names.Nodup → All2 (PV.Is ρ) vs us → vs.length = names.length → (names.zip vs).lookup x = some v → ∃ u, v.Is ρ u ∧ (x, u) ∈ names.zip us
  | [], _, _, _, _, _, e => by simp at e
  | n :: names, v' :: vs, u :: us, hd, h, hl, e => by
    rw [List.zip_cons_cons, List.lookup_cons] at e
    cases q : x == n with
    | true => rw [q] at e; cases e; rw [beq_iff_eq.mp q]; exact ⟨u, h.1, .head _⟩
    | false =>
      rw [q] at e
      obtain ⟨z, h1, h2⟩ := zip_look (List.nodup_cons.mp hd).2 h.2 (Nat.succ.inj hl) e
      exact ⟨z, h1, .tail _ h2⟩
  | _ :: _, [], _, _, _, hl, _ => by cases hl
  | _ :: _, _ :: _, [], _, h, _, _ => h.elim
theorem lookup_of_mem_nd {x : PySem.Str} {u : Value} : ∀ {l : List (PySem.Str × Value)}, (l.map (·.1)).Nodup → (x, u) ∈ l → l.lookup x = some u
  | (y, w) :: r, hd, hm => by
    rw [List.map_cons, List.nodup_cons] at hd
    rw [List.lookup_cons]
    rcases List.mem_cons.mp hm with e | hm2
    · cases e; simp
    · have : (x == y) = false := by
        rw [beq_eq_false_iff_ne]
        intro q
        exact hd.1 (List.mem_map.mpr ⟨_, hm2, q⟩)
      rw [this]; exact lookup_of_mem_nd hd.2 hm2
  | [], _, hm => by cases hm
theorem map_zip {α β : Type} : ∀ {as : List α} {bs : List β}, bs.length = as.length → (as.zip bs).map (·.1) = as
  | [], _, _ => by simp
  | a :: as, b :: bs, h => by rw [List.zip_cons_cons, List.map_cons, map_zip (Nat.succ.inj h)]
  | _ :: _, [], h => by cases h

noncomputable def retOf (ph : List PO) (k : PV → List PO → Prop) (v : PV) (ph2 : List PO) : Prop := ∃ ph', Cut ph (fun n => v.Lt n) ph' ph2 ∧ k v ph'

theorem SX.cutV {h₀ h : Heap} {L : Addr} {rest : List (Addr × Obj)} {ph ph0 ph2 : List PO} {ρ ρ0 : List Addr} {m : PySem.Str → Option Value} {conc : List Obj} {v : PV} {u : Value} (S : SX h₀ L rest [] ph2 ρ h m conc) (h0 : ∀ p ∈ ph0, p.Lt ρ0.length) (l0 : ph0.length = ρ0.length) (pre : ρ0 <+: ρ)
    (C : Cut ph0 (fun n => v.Lt n) ph ph2) (hv : v.Is ρ u) : ∃ ρ' conc', ρ0 <+: ρ' ∧ v.Is ρ' u ∧ SX h₀ L rest [] ph ρ' h m conc' := by
  obtain ⟨ρ', conc', q1, q2, q3, S'⟩ := S.cut h0 l0 pre C (fun _ _ hq => by cases hq)
  refine ⟨ρ', conc', q2, ?_, S'⟩
  obtain ⟨junk, e, hn, C⟩ := C
  rcases C with rfl | ⟨hP, _⟩
  · have : ρ' = ρ := q1.eq_of_length (by rw [q3, ← S.len, e, List.append_nil])
    rw [this]; exact hv
  · obtain ⟨t, rfl⟩ := q1
    have := hv.cut hP
    rwa [← q3, List.take_left] at this

theorem callOk_of (hfn : FnAt hT a name qual params body scope dV kV doc pm an cdv ct) (hlim : hT.NoLimit)
    (pad : List PV → List PV) (hb : ∀ vs us ρ s, (pad vs).length = names.length → All2 (PV.Is ρ) vs us → hT.StaysIn s.heap → ∃ us', All2 (PV.Is ρ) (pad vs) us' ∧ BindsTo s (fnX name qual params body scope [] dV kV doc pm an cdv ct) ⟨us, []⟩ (names.zip us')) (hnd : names.Nodup)
    (hloc : ∀ n ∈ names, scope.names.lookup n = some .local) (hck : ∀ n ∈ names, n ≠ cellKey) (hcell : ∀ x ∈ scope.names, x.2 ≠ .cell) (hcl : ∀ x, scope.names.lookup x ≠ some .cell)
    (hco : scope.isCoroutine = false) (hgen : scope.isGenerator = false) (hk : scope.kind = .function) (hlv : lv < 100) (GK : GOk prog w mg mb hT K G lv) (SG : SegOk K)
    (RO : ∀ {A env outer base h₀ L cs}, Frm hT A env outer base h₀ L lv → EvEnv env cs L → RaiseOk prog w A env h₀ L cs)
    (F1 F2 : Nat) (hS : ∀ vs ph k ke, S vs ph k ke → (pad vs).length = names.length ∧ vcB G scope F1 F2 body (names.zip (pad vs)) ph (fun _ ph2 => retOf ph k .none ph2) (retOf ph k) ke) :
    CallOk prog w hT a S (lv + 1) := by
  intro A env outer base h₀ L F rest ls ph ρ s vs us k ke Q E hSp hv hST V HE
  obtain ⟨m, conc, S0⟩ := hST
  obtain ⟨A₀, B⟩ := F.bl
  obtain ⟨⟨fo, ho, hd⟩, hcd⟩ := hfn
  obtain ⟨hvl, hbody⟩ := hS vs ph k ke hSp
  have kpT := F.kp S0
  obtain ⟨us', hv', hbind⟩ := hb vs us ρ s hvl hv kpT
  have hul : us'.length = names.length := by rw [← hv'.length]; exact hvl
  refine (callX_plain (binds := names.zip us') B S0.F S0.N (hlim.keeps F.st) F.fr F.hl F.hk (kpT _ _ ho) hd (hcd.keeps kpT) (by have := F.hd; omega) hbind (fun y hy => ?_) ?_ hcell hco hgen hk)
  · obtain ⟨n, hn⟩ := y
    exact hloc n (List.of_mem_zip hy).1
  · intro g L' h₁ Fg FL NL BG stg ltL
    have F' : Frm hT (A.deeper (envX qual scope L' a cdv [])) (envX qual scope L' a cdv []) (env :: outer) base g L' lv :=
      { fr := Around.frames_deeper F.fr, hl := rfl, hk := hk, hh := F.hh, hd := (by have := F.hd; show A.depth + 1 + 2 * lv + 8 < _; omega), hu := (by have := F.hu; show A.units + 3 + 8 * lv + 200 < _; omega), bl := ⟨A, BG⟩, st := fun b o e => stg b o (F.st b o e), tpb := fun q => absurd q (by omega) }
    have Ev' : EvEnv (envX qual scope L' a cdv []) scope L' := { kd := fun x k e => e, hk := hk, gl := rfl, bu := rfl, lo := fun _ _ => rfl, ce := fun x e => absurd e (hcl x) }
    have X : Cx prog w mg mb hT K G lv (A.deeper (envX qual scope L' a cdv [])) (envX qual scope L' a cdv []) (env :: outer) base g L' scope := ⟨GK, SG, F', Ev', rfl, RO F' Ev'⟩
    have S1 : SX g L' rest (names.zip (pad vs)) ph ρ h₁ (fun y => (names.zip us').reverse.lookup y) conc := by
      refine ⟨FL, fun x v e => ?_, S0.c, S0.n, NL, S0.d, S0.r⟩
      obtain ⟨u, e1, e2⟩ := zip_look hnd hv' hvl e
      refine ⟨u, e1, .inl ⟨fun q => hck x (List.of_mem_zip e2).1 q, ?_⟩⟩
      refine lookup_of_mem_nd ?_ (List.mem_reverse.mpr e2)
      rw [List.map_reverse, map_zip hul]
      exact (List.reverse_perm names).nodup_iff.mpr hnd
    have hlt := S0.phLt
    have fin : ∀ v u ph' ρ' h' tk, retOf ph k v ph' → ρ <+: ρ' → v.Is ρ' u → ST g L' rest [] ph' ρ' h' → LeaveK h₀ L m g (fun r s' => match r with | .ok (.ret v) => Q v s' | .ok _ => False | .error e => E e s') u { s with heap := h', toks := tk } := by
      intro v u ph' ρ' h' tk ⟨ph3, hcut, hk⟩ p' hu ⟨m', conc', S'⟩
      obtain ⟨ρ3, conc3, p3, hu3, S3⟩ := S'.cutV hlt S0.len p' hcut hu
      refine leaveK_ S'.F S3.N fun FC NC => V v u ph3 ρ3 h' tk hk p3 hu3 ⟨m, conc3, FC, fun x v e => ?_, S3.c, S3.n, NC, S3.d, S3.r⟩
      obtain ⟨z, e1, e2⟩ := S0.l x v e
      exact ⟨z, e1.mono p3, e2⟩
    refine vcB_sound X F2 _ _ _ _ _ _ hbody rest ρ _ _ _ ⟨_, _, S1⟩ ?_ ?_ ?_ ?_ PassesOwn.leaving
    · exact fun ls' ph' ρ' h' tk hk p' S' => fin .none .none ph' ρ' h' tk hk p' rfl (by obtain ⟨_, _, S'⟩ := S'; exact ⟨_, _, S'.fewer fun _ _ e => by cases e⟩)
    · exact fun v u ph' ρ' h' tk hk p' hu S' => fin v u ph' ρ' h' tk hk p' hu S'
    · intro c ph' ρ' e h' tk hke p' hX
      obtain ⟨t, vs', conc', g₂, m', R, Fg₂, hsm, x4, x5, x6, x7⟩ := hX
      exact leave_onK (s' := { s with heap := h', toks := tk }) BG Fg₂ R hsm fun h'' R' hsm' => HE c ph' ρ' e h'' tk hke p' ⟨t, vs', conc', g, m, R', Fg, hsm', x4, x5, x6, x7⟩
    · intro c ph' ρ' e h' tk hke p' hX
      exact leave_first (s' := { s with heap := h', toks := tk }) BG hX (fun h'' t vs conc' R' hsm' x4 x5 x6 x7 => HE c ph' ρ' e h'' tk hke p' ⟨t, vs, conc', g, m, R', Fg, hsm', x4, x5, x6, x7⟩) hk
end
end Mine
set_option maxHeartbeats 2000000
namespace Mine

noncomputable abbrev excMro (C : Addr) : List Value := [.ref C, .ref 31, .type "Exception", .type "BaseException", .type "object"]
noncomputable abbrev bmE : List Value := [.ref 31, .type "Exception", .type "BaseException", .type "object"]
noncomputable def initE : Addr := 28
/-- what is seen of an exception class of the program -/
structure ExcOk (K : Frag) (C : Addr) : Prop where
  ec : excIn K C bmE "Exception.__new__" = true
  mro : (clsIn K C).map (·.mro) = some (excMro C)
  hd : hasDictIn K C = true
  ini : findIn K (.ref C) "__init__" = some (some (.ref initE))
  sa : findIn K (.ref C) "__setattr__" = some (some (.builtin "object.__setattr__"))
  tk : findIn K (.ref C) "message" = some none

section
variable {K : Frag} {C : Addr}
theorem exc_obj {h : Heap} (X : K.In h) (q : excIn K C bmE "Exception.__new__" = true) : ∃ nm qn N bs hd sn sub ab col dd k0 k1 k2 k3 k5 bm, h.get? C = some (excClassObj nm qn C N bs bm hd sn sub ab col dd k0 k1 k2 k3 k5 "Exception.__new__") ∧ OwnTail h bmE bm := by
  unfold excIn at q
  split at q
  · rename_i dd cd sl ho
    split at q
    · rename_i C' bm k0 k1 k2 k3 n k5 hm hs
      simp only [Bool.and_eq_true, beq_iff_eq, Bool.not_eq_true'] at q
      obtain ⟨⟨⟨⟨⟨rfl, rfl⟩, hdel⟩, ht⟩, hok⟩, hni⟩ := q
      obtain ⟨nm, bs, mro, ns, qn, hd, sn, sub, ab, col, del⟩ := cd
      dsimp only at hm hdel
      subst hm hdel
      have hsl : sl = #[k0, k1, k2, k3, some (.builtin "Exception.__new__"), k5] := by
        obtain ⟨l⟩ := sl
        simp only at hs
        rw [hs]
      subst hsl
      exact ⟨nm, qn, ns, bs, hd, sn, sub, ab, col, dd, k0, k1, k2, k3, k5, bm, X _ _ ho, tail_of_in X ht⟩
    · cases q
  · cases q

section
variable {prog : Program} {w : World} {A : Around} {E : Value → Shared → Prop} {h : Heap} {g : Array GenState} {d : Drawn} {t : Nat} {os : OsState}

/-- the object that is made; its own '__init__' is called -/
theorem exc_call {rest : List Value} {Q : Value → Shared → Prop} (X : K.In h) (O : ExcOk K C) (hf : typeIn K (.ref initE) = some (.type "function")) (hrest : rest.length ≤ sizeLine)
    (hq : ∀ h' e, Heap.MadeExcOf h h' e (.ref C) rest → wpAny (model prog w) (A.under (.builtin "type.__call__" ⟨.ref C :: rest, []⟩)) (call (.ref initE) (.ref e :: rest)) (fun r s' => r = .none ∧ Q (.ref e) s') E ⟨h', g, d, t, os⟩) :
    wpAny (model prog w) A (call (.ref C) rest) Q E ⟨h, g, d, t, os⟩ := by
  obtain ⟨nm, q, N, bs, hdct, sn, sub, ab, col, dd, k0, k1, k2, k3, k5, bm, hC, T⟩ := exc_obj X O.ec
  have F := PySem.F.excBase_Exception
  have hB : (Value.ref C :: bm).contains (.type "Exception") = true := by rw [List.contains_cons, T.hasType (b := true) (by decide), Bool.or_true]
  have hA : (Value.ref C :: bm).contains (.type "AttributeError") = false := by rw [List.contains_cons, T.hasType (b := false) (by decide)]; rfl
  have hN : (Value.ref C :: bm).contains (.type "NameError") = false := by rw [List.contains_cons, T.hasType (b := false) (by decide)]; rfl
  have f1 := tc_lookup
  have f2 := tc_bind (.ref C)
  have hT : (⟨h, g, d, t, os⟩ : Shared).TypeIs (.ref C) "type" := ⟨_, hC, rfl⟩
  refine wpAny_call (codeAny_of_tree ?_)
  show wpAny _ _ (callAny (.ref C) _) _ _ _
  repeat (any_goals (first | assumption | with_reducible refine wpAny_loadPart_at hC ?_ | wp_step))
  refine ⟨rfl, ?_⟩
  refine codeAny_call_builtin_at (Code.quiet_builtin _ (by decide +kernel)) entry_typeCall (wpAny_check_type_call_sub hC ?_)
  repeat (first | with_reducible refine wpAny_loadPart_at hC ?_ | with_reducible refine wpAny_madeBy_exc hC ?_ | wp_step)
  refine codeAny_call_builtin_code (Code.quiet_builtin _ F.quiet) ?_
  have hstar := F.noStar
  simp only [checkBuiltinCall, F.newKind, F.newSplit, F.newRow]
  repeat (first | refine wpAny_loadPart_at hC ?_ | (refine wpAny_isSubtype_exc hC ?_; rw [hB]) | refine wpAny_staticBase_exc hC ?_ | refine wpAny_madeBy_exc hC ?_ | simp only [bne_self_eq_false, Bool.false_eq_true, if_false] | wp_step)
  have hends := F.ends
  refine codeAny_builtinAt F.entry ?_
  unfold Builtin.«BaseException.__new__»
  refine PySem.wpAt_bind ?_
  show PySem.wpAt _ _ _ (stack >>= _) _ _ _
  refine PySem.wpAt_bind (PySem.wpAt_stack fun p below => PySem.wpAt_of_wpAny ?_)
  wp_walk
  refine PySem.wpAt_of_wpAny ?_
  rw [F.owner]
  repeat (first | with_reducible refine wpAny_madeHere_exc F.canon hC ?_ | with_reducible refine wpAny_loadPart_at hC ?_ | (with_reducible refine wpAny_isSubtype_exc hC ?_; first | rw [hB] | rw [hA] | rw [hN]) | wp_step)
  show wpAny _ _ _ _ _ _
  rw [Heap.size_push]
  have kp : ∀ b o, h.get? b = some o → ((h.push { cls := .type "tuple", data := .seq rest.toArray }).push { cls := .ref C, data := .fields #[.ref h.objs.size, .none, .none, .none, .bool false, .none] }).get? b = some o :=
    fun b o e => Heap.get?_push_of_some _ (Heap.get?_push_of_some _ e)
  have hC₁ := kp _ _ hC
  have X₁ : K.In _ := X.keeps kp
  have hget : ((h.push { cls := .type "tuple", data := .seq rest.toArray }).push
      { cls := .ref C, data := .fields #[.ref h.objs.size, .none, .none, .none, .bool false, .none] }).get? (h.objs.size + 1) = some
      { cls := .ref C, data := .fields #[.ref h.objs.size, .none, .none, .none, .bool false, .none] } := by heap_get
  have hcC : (Value.ref C :: bm).contains (.ref C) = true := by simp
  show wpAny _ _ (isSubtype (.ref C) (.ref C)) _ _ ⟨(h.push { cls := .type "tuple", data := .seq rest.toArray }).push { cls := .ref C, data := .fields #[.ref h.objs.size, .none, .none, .none, .bool false, .none] }, g, d, t, os⟩
  refine wpAny_isSubtype_exc hC₁ ?_
  rw [hcC]
  repeat (first | with_reducible refine wpAny_loadPart_at hget ?_ | wp_step)
  show wpAny _ _ (typeLookup (.ref C) _) _ _ _
  refine looks_findIn X₁ O.ini _ _ _ _ (fun _ _ e => e) ?_
  refine wpAny_holding (wpAny_bind (bind_fn X₁ _ hf _ _ _ _ (fun _ _ e => e) ?_))
  refine wpAny_bind (wpAny_mono (hq _ (h.objs.size + 1) ⟨kp, Heap.get?_none_of_le (Nat.le_succ _), h.objs.size, hget, Heap.get?_none_of_le (Nat.le_refl _), ?_⟩) (fun r s' hr => ?_) fun _ _ x => x)
  · exact Heap.get?_push_of_some _ (Heap.get?_push_at rfl rfl)
  · obtain ⟨rfl, hQ⟩ := hr
    wp_walk
    exact hQ
end
end
end Mine
set_option maxHeartbeats 2000000
open PySem.Builtin PySem.Builtin.ObjectAttr
namespace Mine

noncomputable abbrev excObj (C : Addr) (od : Option Addr) (t : Addr) : Obj := { cls := .ref C, dict := od, data := .fields #[.ref t, .none, .none, .none, .bool false, .none] }

section
variable {K : Frag} {C : Addr} {prog : Program} {w : World} {A : Around} {E : Value → Shared → Prop} {s : Shared}
theorem refuse_exc (self : Value) (C : Addr) : refuseLoop self "__setattr__" (excMro C) = pure () := by
  rw [refuseLoop_ref, refuseLoop_ref]; exact PySem.F.store_Exception.passes self

/-- the attribute of a fresh exception set -/
theorem set_exc {e t : Addr} {v : Value} {Q : Unit → Shared → Prop} (X : K.In s.heap) (O : ExcOk K C) (he : s.heap.get? e = some (excObj C none t))
    (h : ∀ h' tk d, (∀ b o, b ≠ e → s.heap.get? b = some o → h'.get? b = some o) → h'.get? e = some (excObj C (some d) t) → Q () { s with heap := h', toks := tk }) :
    wpAny (model prog w) A (setAttr (.ref e) "message" v) Q E s := by
  obtain ⟨hp, g, d, tk, os⟩ := s
  dsimp only at X he h
  have I : InstAt hp e (excObj C none t) C none := ⟨he, rfl, rfl, trivial⟩
  refine set_plain X I O.sa ?_
  have SF := PySem.F.store_object
  obtain ⟨cd, hc, hmro⟩ := Option.map_eq_some_iff.mp O.mro
  have sub : Looks (model prog w) hp (isInstance (.ref e) (.type "object")) true := I.type.andThen (looks_mroIn X (by unfold mroIn; rw [hc, Option.bind_some, hmro]; rfl))
  refine codeAny_call_builtin SF.slot.plain SF.entry (@check_slot (model prog w) _ _ ⟨hp, g, d, tk + 1, os⟩ "object.__setattr__" "object" "__setattr__" (.ref e) [.str "message" tk, v] [] _ SF.kind SF.split sub (SF.args (.ref e) (.str "message" tk) v) ?_)
  have hm : Looks (model prog w) hp (mroOf (.ref C)) cd.mro := (looks_clsIn X hc).andThen .now
  rw [osa_eq, refuse_eq]
  refine wpAny_bind (wpAny_bind (I.type.here (wpAny_bind (hm.here ?_))))
  rw [hmro, refuse_exc]
  refine wpAny_pure (wpAny_bind (I.type.here (wpAny_bind ((looks_findIn X O.tk).here (wpAny_bind (wpAny_pure ?_))))))
  obtain ⟨cd', hc', hd'⟩ := any_some O.hd
  show wpAny _ _ (storeInOwnDict (.ref e) (.ref C) (.str "message" tk) "message" v false) _ _ _
  refine wpAny_bind (wpAny_pure (wpAny_bind (wpAny_bind (wpAny_loadPart he (wpAny_bind ((looks_clsIn X hc').here ?_))))))
  rw [hd']
  have hxs : e ≠ hp.objs.size := Nat.ne_of_lt (Heap.lt_size he)
  have he₁ : (hp.push { cls := .type "dict", data := .dict #[] }).get? e = some (excObj C none t) := Heap.get?_push_of_some _ he
  show wpAny _ _ (alloc { cls := .type "dict", data := .dict #[] } >>= fun d => update e (fun o => { o with dict := some d }) >>= fun _ => dictMade (.ref C) e d) _ _ _
  refine wpAny_bind (wpAny_alloc (wpAny_bind (wpAny_update he₁ (wpAny_pure ?_))))
  have hgd : ((hp.push { cls := .type "dict", data := .dict #[] }).update e fun o => { o with dict := some hp.objs.size }).get? hp.objs.size = some { cls := .type "dict", data := .dict #[] } :=
    (Heap.get?_update_ne _ _ _ _ hxs.symm).trans (Heap.get?_push_at rfl rfl)
  have hnd : ((hp.push { cls := .type "dict", data := .dict #[] }).update e fun o => { o with dict := some hp.objs.size }).Ns hp.objs.size (fun _ => none) :=
    ⟨_, #[], _, hgd, rfl, fun e he => absurd he (by simp), fun _ => rfl⟩
  show wpAny _ _ (storeInDict hp.objs.size (.str "message" tk) "message" v) _ _ ⟨(hp.push { cls := .type "dict", data := .dict #[] }).update e (fun o => { o with dict := some hp.objs.size }), g, d, tk + 1, os⟩
  unfold storeInDict newKeyGuard
  refine wpAny_bind (wpAny_pure (wpAny_bind (wpAny_nsSet1 (Heap.Ns1.of_empty hnd) fun h' hn' hs => ?_)))
  obtain ⟨oD, esD, epD, hoD, hdD, hcD⟩ := hn'.count (Within.cons ("message" : PySem.Str) v Within.nil)
  refine wpAny_bind (wpAny_lookBehind hoD (by rw [hdD]; exact pastItsLine_dict (Nat.le_trans hcD (by rw [List.length_cons, List.length_nil, sizeLine_eq]; omega))) ?_)
  wp_walk
  refine h h' _ hp.objs.size (fun b o hb e' => ?_) ?_
  · exact (hs.2 b (Nat.ne_of_lt (Heap.lt_size e'))).trans ((Heap.get?_update_ne _ _ _ _ hb).trans (Heap.get?_push_of_some _ e'))
  · exact (hs.2 e hxs).trans (Heap.get?_update_self _ he₁ rfl)
end
end Mine
set_option maxHeartbeats 2000000
namespace Mine

/-- the '__init__' of the program's exceptions -/
noncomputable def InitOk (hT : Heap) : Prop := ∃ params scope dV kV doc pm an cdv ct p1 p2 p3 p4 pos,
  FnAt hT initE "__init__" "StackError.__init__" params [.Assign [.Attribute (.Name "self" p1) "message" p2] (.Name "message" p3) p4] scope dV kV doc pm an cdv ct ∧ pos = (0 : Nat) ∧
  (∀ s a b, BindsTo s (fnX "__init__" "StackError.__init__" params [.Assign [.Attribute (.Name "self" p1) "message" p2] (.Name "message" p3) p4] scope [] dV kV doc pm an cdv ct) ⟨[a, b], []⟩ [("self", a), ("message", b)]) ∧
  scope.names.lookup (PySem.Str.ofString "self") = some .local ∧ scope.names.lookup (PySem.Str.ofString "message") = some .local ∧ (∀ x ∈ scope.names, x.2 ≠ .cell) ∧ scope.isCoroutine = false ∧ scope.isGenerator = false ∧ scope.kind = .function

section
variable {prog : Program} {w : World} {hT : Heap} {K : Frag} {lv : Nat} {A : Around} {env : Env} {outer : List Env} {base h₀ : Heap} {L : Addr} {E : Value → Shared → Prop} {s : Shared}
  {rest : List (Addr × Obj)} {ls : Ls} {ph : List PO} {ρ : List Addr} {m : PySem.Str → Option Value} {conc : List Obj} {c : Nat}

theorem xr_make {h' : Heap} {e t : Addr} {od : Option Addr} {ws : List Value} {n : Nat} (S : SX h₀ L rest [] ph ρ h' m conc) (he : h'.get? e = some (excObj (clsA c) od t)) (ht : h'.get? t = some { cls := .type "tuple", data := .seq ws.toArray n })
    (fe : h₀.get? e = none ∧ e ≠ L ∧ ∀ p ∈ ρ.zip conc ++ rest, p.1 ≠ e) (ft : h₀.get? t = none ∧ t ≠ L ∧ ∀ p ∈ ρ.zip conc ++ rest, p.1 ≠ t) : XR h₀ L rest c ph ρ e h' := by
  have nin : ∀ b, b ≠ e → b ≠ t → b ∉ [e, t] := fun b h1 h2 hm => by
    rcases List.mem_cons.mp hm with q | hm
    · exact h1 q
    · exact h2 (List.mem_singleton.mp hm)
  have old : ∀ b o, h'.get? b = some o → b ≠ e → b ≠ t → (hideAll h' [e, t]).get? b = some o := fun b o q h1 h2 => hideAll_get _ q (nin b h1 h2)
  refine ⟨m, conc, hideAll h' [e, t], _, _, t, ws, ⟨⟨?_, fun b o q => ?_, S.F.above⟩, fun _ _ e => (by cases e), S.c, S.n, fun p hp => ⟨old _ _ (S.N p hp).1 (fe.2.2 p hp) (ft.2.2 p hp), (S.N p hp).2⟩, S.d, S.r⟩,
    fun b o q => of_hideAll _ q, hideAll_none _ (.head _), hideAll_none _ (.tail _ (.head _)), he, rfl, rfl, rfl, rfl, ⟨_, _, ht, rfl, rfl⟩⟩
  · obtain ⟨oL, es, ep, g1, g2, g3, g4⟩ := S.F.ns
    exact ⟨oL, es, ep, old _ _ g1 (Ne.symm fe.2.1) (Ne.symm ft.2.1), g2, g3, g4⟩
  · exact old _ _ (S.F.keep b o q) (fun z => by rw [z, fe.1] at q; cases q) (fun z => by rw [z, ft.1] at q; cases q)

theorem room_under {C : Addr} {l : List Value} (F : Frm hT A env outer base h₀ L lv) : (A.under (.builtin "type.__call__" ⟨.ref C :: l, []⟩)).depth < recursionLimit := by
  have := F.hd
  have e : (Code.builtin "type.__call__" ⟨.ref C :: l, []⟩).weight = 1 := rfl
  show A.depth + _ < _
  rw [e]
  omega
theorem init_call (X : K.In hT) (O : ExcOk K (clsA c)) (I : InitOk hT) (hlim : hT.NoLimit) (F : Frm hT A env outer base h₀ L lv) (S : SX h₀ L rest ls ph ρ s.heap m conc) {h1 : Heap} {e : Addr} {u : Value} {Q : Value → Shared → Prop} (hm : Heap.MadeExcOf s.heap h1 e (.ref (clsA c)) [u])
    (hQ : ∀ h' tk d t, XR h₀ L rest c ph ρ e h' → h'.get? e = some (excObj (clsA c) (some d) t) → hT.StaysIn h' → Q (.ref e) { s with heap := h', toks := tk }) :
    wpAny (model prog w) (A.under (.builtin "type.__call__" ⟨.ref (clsA c) :: [u], []⟩)) (call (.ref initE) (.ref e :: [u])) (fun r s' => r = .none ∧ Q (.ref e) s') E { s with heap := h1 } := by
  obtain ⟨params, scope, dV, kV, doc, pm, an, cdv, ct, p1, p2, p3, p4, pos, ⟨⟨fo, ho, hd⟩, hcd⟩, _, hb, l1, l2, hcell, hco, hgen, hk⟩ := I
  obtain ⟨A₀, B⟩ := F.bl
  obtain ⟨t, he, htn, ht⟩ := hm.there
  have kpT := F.kp S
  have kp1 : ∀ b o, hT.get? b = some o → h1.get? b = some o := fun b o q => hm.keeps b o (kpT b o q)
  have F1 := S.F.keeps hm.keeps
  have new0 : ∀ b, s.heap.get? b = none → h₀.get? b = none ∧ b ≠ L ∧ ∀ p ∈ ρ.zip conc ++ rest, p.1 ≠ b := fun b hb => by
    refine ⟨?_, ?_, fun p hp q => ?_⟩
    · cases q : h₀.get? b with
      | none => rfl
      | some o => have := S.F.keep b o q; rw [hb] at this; cases this
    · rintro rfl
      obtain ⟨oL, _, _, g1, _⟩ := S.F.ns
      rw [hb] at g1; cases g1
    · have := (S.N p hp).1; rw [q, hb] at this; cases this
  have fe := new0 e hm.new
  have ft := new0 t htn
  have hte : t ≠ e := fun q => by rw [q, he] at ht; cases ht
  have N1 : News h₀ L h1 ((e, excObj (clsA c) none t) :: (t, { cls := .type "tuple", data := .seq [u].toArray }) :: (ρ.zip conc ++ rest)) := fun p hp => by
    rcases List.mem_cons.mp hp with rfl | hp
    · exact ⟨he, fe.2.1, fe.1⟩
    · rcases List.mem_cons.mp hp with rfl | hp
      · exact ⟨ht, ft.2.1, ft.1⟩
      · exact ⟨hm.keeps _ _ (S.N p hp).1, (S.N p hp).2⟩
  refine wpAny_call (callX_plain (s := { s with heap := h1 }) (cl := []) (binds := [("self", .ref e), ("message", u)]) B F1 N1 (hlim.keeps F.st) F.fr F.hl F.hk (kp1 _ _ ho) hd (hcd.keeps kp1) (room_under F) (hb _ _ _) (fun y hy => ?_) ?_ hcell hco hgen hk)
  · rcases List.mem_cons.mp hy with rfl | hy
    · exact l1
    · rw [List.mem_singleton.mp hy]; exact l2
  · intro g L' h₁ Fg FL NL BG stg ltL
    have kg : hT.StaysIn g := fun b o q => stg b o (F.st b o q)
    have X₁ : K.In h₁ := X.keeps fun b o q => FL.keep b o (kg b o q)
    refine wpAny_execs_cons (plainObj_wpAny_Assign_Attribute ?_)
    refine wpAny_Name (wpAny_loadName_local hk l2 FL.ns (v := u) rfl ?_) (by decide)
    refine wpAny_Name (wpAny_loadName_local hk l1 FL.ns (v := .ref e) rfl ?_) (by decide)
    refine set_exc (s := { s with heap := h₁, toks := _ }) X₁ O (NL _ (.head _)).1 fun h' tk d k1 k2 => ?_
    refine wpAny_execs_nil ?_
    have ne : ∀ b o, g.get? b = some o → b ≠ e := fun b o q z => by have := (NL _ (.head _)).2.2; rw [z, this] at q; cases q
    have FL' : Fr g L' h' _ := ⟨let ⟨oL, es, ep, g1, g2, g3, g4⟩ := FL.ns; ⟨oL, es, ep, k1 _ _ (fun z => (NL (e, _) (.head _)).2.1 z.symm) g1, g2, g3, g4⟩, fun b o q => k1 b o (ne b o q) (FL.keep b o q), FL.above⟩
    have NL' : News g L' h' ((e, excObj (clsA c) (some d) t) :: (t, { cls := .type "tuple", data := .seq [u].toArray }) :: (ρ.zip conc ++ rest)) := fun p hp => by
      rcases List.mem_cons.mp hp with rfl | hp
      · exact ⟨k2, (NL (e, excObj (clsA c) none t) (.head _)).2⟩
      · rcases List.mem_cons.mp hp with rfl | hp
        · exact ⟨k1 _ _ hte (NL _ (.tail _ (.head _))).1, (NL (t, _) (.tail _ (.head _))).2⟩
        · exact ⟨k1 _ _ (fe.2.2 p hp) (NL _ (.tail _ (.tail _ hp))).1, (NL _ (.tail _ (.tail _ hp))).2⟩
    refine leaveK_ FL' NL' fun FC NC => ⟨rfl, hQ h' tk d t (xr_make (od := some d) (ws := [u]) ⟨FC, fun _ _ e => (by cases e), S.c, S.n, fun p hp => NC p (.tail _ (.tail _ hp)), S.d, S.r⟩ k2 (NC _ (.tail _ (.head _))).1 fe ft) k2 fun b o q => FC.keep b o (F.st b o q)⟩

theorem raise_stmt {C : Addr} {M : Model} {x : Sem Value} {Q : Flow → Shared → Prop} (hh : A.handled = none) (O : ExcOk K C)
    (h : wpAny M A x (fun v s₁ => ∃ e t od, v = .ref e ∧ K.In s₁.heap ∧ s₁.heap.get? e = some (excObj C od t) ∧ E (.ref e) s₁) E s) : wpAny M A (raiseStmt env (some x) none) Q E s := by
  unfold raiseStmt
  refine wpAny_bind (wpAny_mono h (fun v s₁ h₁ => ?_) fun _ _ x => x)
  obtain ⟨e, t, od, rfl, X, he, hE⟩ := h₁
  obtain ⟨nm, q, N, bs, hdct, sn, sub, ab, col, dd, k0, k1, k2, k3, k5, bm, hC, T⟩ := exc_obj X O.ec
  have hcB : (Value.ref C :: bm).contains (.type "BaseException") = true := by rw [List.contains_cons, T.hasType (b := true) (by decide), Bool.or_true]
  obtain ⟨hp, g, d, tk, os⟩ := s₁
  repeat (first | with_reducible refine wpAny_loadPart_at he ?_ | with_reducible refine wpAny_loadPart_at hC ?_ | (with_reducible refine wpAny_isSubtype_exc hC ?_; rw [hcB]) | wp_step)
  exact wpAny_raiseNew_none hh hE
end
end Mine
set_option maxHeartbeats 2000000
namespace Mine

/-- all that is seen of the program's exceptions -/
structure ExcEnv (hT : Heap) (mg : PySem.Str → Option Value) (K : Frag) : Prop where
  nm : ∀ x c, clsOf x = some c → mg x = some (.ref (clsA c))
  ok : ∀ c, ExcOk K (clsA c)
  kp : ∀ c, keepIn K (.ref (clsA c)) = true
  fi : typeIn K (.ref initE) = some (.type "function")
  ini : InitOk hT
  lim : hT.NoLimit

theorem clsOf_debug {x : PySem.Str} {c : Nat} (h : clsOf x = some c) : (x == PySem.Str.ofString "__debug__") = false := by
  unfold clsOf at h
  split at h
  · rename_i q; rw [beq_iff_eq.mp q]; rfl
  · split at h
    · rename_i q; rw [beq_iff_eq.mp q]; rfl
    · cases h

section
variable {prog : Program} {w : World} {mg mb : PySem.Str → Option Value} {hT : Heap} {K : Frag} {G : Gm} {lv : Nat} {A : Around} {env : Env} {outer : List Env} {base h₀ : Heap} {L : Addr} {cs : Scope}

theorem raise_ok (GK : GOk prog w mg mb hT K G lv) (XE : ExcEnv hT mg K) (F : Frm hT A env outer base h₀ L lv) (Ev : EvEnv env cs L) : RaiseOk prog w A env h₀ L cs := by
  intro rest ls ph ρ m conc s E Q x np y k1 k2 cp pos c S hx hc hE
  rw [arm_exec_Raise]
  refine wpAny_bind (wpAny_standAt (raise_stmt F.hh (XE.ok c) ?_))
  refine wpAny_bind (wpAny_mono (Q := fun v s₁ => ∃ e t od, v = .ref e ∧ K.In s₁.heap ∧ s₁.heap.get? e = some (excObj (clsA c) od t) ∧ E (.ref e) s₁) (E := E) ?_ (fun v s₁ h => wpAny_bind (wpAny_standAt (wpAny_pure h))) fun _ _ h => h)
  show wpAny _ _ (eval (.Call (.Name x np) [.Constant (.str y) k1 k2] [] cp) env) _ _ s
  refine wpAny_Call_NameR (callNamed GK F (Ev.w ls) S (Ev.kd _ _ hx) (clsOf_debug hc) (.inl (XE.nm x c hc)) ?_)
  refine callWith_of (P := fun h => hT.StaysIn h) rfl (fun h hh => keeps_K (XE.kp c) h (GK.X.keeps hh)) (args_plain rfl ?_)
  refine spliced_more ?_ (star_cons fun x p q => by cases q)
  refine Calls.Constant_str (Calls.spliced_nil ⟨F.kp S, ?_⟩)
  show wpAny _ _ (call (.ref (clsA c)) [.str y s.toks]) _ _ _
  refine exc_call (GK.X.keeps (F.kp S)) (XE.ok c) XE.fi (by rw [sizeLine_eq]; show 1 ≤ _; omega) fun h1 e hm => ?_
  refine init_call (s := { s with toks := s.toks + 1 }) (Q := fun v s₁ => ∃ e t od, v = .ref e ∧ K.In s₁.heap ∧ s₁.heap.get? e = some (excObj (clsA c) od t) ∧ E (.ref e) s₁) GK.X (XE.ok c) XE.ini XE.lim F S hm fun h' tk d t hX he hs => ?_
  exact ⟨e, t, some d, rfl, GK.X.keeps hs, he, hE e h' tk hX⟩
end
end Mine
set_option maxHeartbeats 2000000
namespace Mine

section
variable {prog : Program} {w : World} {mg mb : PySem.Str → Option Value} {hT : Heap} {K : Frag} {G : Gm} {lv : Nat} {S : Sp} {a : Addr} {name qual : PySem.Str} {params : Arguments} {scope : Scope} {dV kV doc pm : Value} {an : Option Addr} {cdv ct : Value}
  {names : List PySem.Str} {e : Expr} {x : PySem.Str} {c : Nat} {ep np k2 rp hp tp k4 rp' : Pos} {k1 k3 : Nat}

/-- a def whose one 'try' calls what must raise: run straight from the bottom frame -/
theorem tryOk_of (hfn : FnAt hT a name qual params [.Try [.Expr e ep] [.ExceptHandler (some (.Name x np)) none [.Return (some (.Constant (.bool true) k1 k2)) rp] hp] [] [] tp, .Return (some (.Constant (.bool false) k3 k4)) rp'] scope dV kV doc pm an cdv ct)
    (XE : ExcEnv hT mg K)
    (hb : ∀ us s, us.length = names.length → hT.StaysIn s.heap → BindsTo s (fnX name qual params [.Try [.Expr e ep] [.ExceptHandler (some (.Name x np)) none [.Return (some (.Constant (.bool true) k1 k2)) rp] hp] [] [] tp, .Return (some (.Constant (.bool false) k3 k4)) rp'] scope [] dV kV doc pm an cdv ct) ⟨us, []⟩ (names.zip us)) (hnd : names.Nodup)
    (hloc : ∀ n ∈ names, scope.names.lookup n = some .local) (hck : ∀ n ∈ names, n ≠ cellKey) (hcell : ∀ x ∈ scope.names, x.2 ≠ .cell) (hcl : ∀ x, scope.names.lookup x ≠ some .cell)
    (hco : scope.isCoroutine = false) (hgen : scope.isGenerator = false) (hk : scope.kind = .function) (hlv : lv < 100) (GK : GOk prog w mg mb hT K G lv)
    (hx : scope.names.lookup x = some .globalImplicit) (hc : clsOf x = some c) (hv : plainVal e = true) (F1 : Nat)
    (hS : ∀ vs ph k ke, S vs ph k ke → vs.length = names.length ∧ (vcET G scope (names.zip vs) (fun c' ph1 => c' = c ∧ k (.bool true) ph1) F1).1 e ph (fun _ _ => False)) :
    CallOk prog w hT a S 100 := by
  intro A env outer base h₀ L F rest ls ph ρ s vs us k ke Q E hSp hv' hST V HE
  obtain ⟨m, conc, S0⟩ := hST
  have hbase := F.tpb (Nat.le_refl _)
  subst hbase
  obtain ⟨A₀, B⟩ := F.bl
  obtain ⟨⟨fo, ho, hd⟩, hcd⟩ := hfn
  obtain ⟨hvl, hbody⟩ := hS vs ph k ke hSp
  have kpT := F.kp S0
  have hul : us.length = names.length := by rw [← hv'.length]; exact hvl
  obtain ⟨FG, BG, stg, lvk⟩ := groundX (R := fun r s' => match r with | .ok (.ret v) => Q v s' | .ok _ => False | .error e => E e s') B S0.F S0.N F.fr F.hl F.hk
  refine codeAny_call_def (fd := fnX name qual params _ scope [] dV kV doc pm an cdv ct) (binds := names.zip us) (by have := F.hd; omega) (kpT _ _ ho) hd ((XE.lim.keeps F.st).keeps S0.F.keep) (hcd.keeps kpT) rfl (hb us s hul kpT) hcell (fun y hy => ?_) (fun h₁ hns hk₁ => ?_) hco hgen hk
  · obtain ⟨n, hn⟩ := y
    exact hloc n (List.of_mem_zip hy).1
  · have FL : Fr (hideAll s.heap ((ρ.zip conc ++ rest).map (·.1))) s.heap.objs.size h₁ (fun y => (names.zip us).reverse.lookup y) := ⟨hns, fun b o e => hk₁ b o (of_hideAll _ e), Nat.le_of_eq (hideAll_size _ _)⟩
    have NL : News (hideAll s.heap ((ρ.zip conc ++ rest).map (·.1))) s.heap.objs.size h₁ (ρ.zip conc ++ rest) := fun p hp => ⟨hk₁ _ _ (S0.N p hp).1, Nat.ne_of_lt (Heap.lt_size (S0.N p hp).1), hideAll_none _ (List.mem_map_of_mem hp)⟩
    revert FL NL FG BG stg
    generalize hideAll s.heap ((ρ.zip conc ++ rest).map (·.1)) = g
    generalize s.heap.objs.size = L'
    intro FG BG stg FL NL
    clear hns hk₁ lvk hb
    have F' : Frm hT (A.deeper (envX qual scope L' a cdv [])) (envX qual scope L' a cdv []) (env :: outer) h₀ g L' lv :=
      { fr := Around.frames_deeper F.fr, hl := rfl, hk := hk, hh := F.hh, hd := (by have := F.hd; show A.depth + 1 + 2 * lv + 8 < _; omega), hu := (by have := F.hu; show A.units + 3 + 8 * lv + 200 < _; omega), bl := ⟨A, BG⟩, st := fun b o e => stg b o (F.st b o e), tpb := fun q => absurd q (by omega) }
    have Ev' : EvEnv (envX qual scope L' a cdv []) scope L' := { kd := fun x k e => e, hk := hk, gl := rfl, bu := rfl, lo := fun _ _ => rfl, ce := fun x e => absurd e (hcl x) }
    have S1 : SX g L' rest (names.zip vs) ph ρ h₁ (fun y => (names.zip us).reverse.lookup y) conc := by
      refine ⟨FL, fun x v e => ?_, S0.c, S0.n, NL, S0.d, S0.r⟩
      obtain ⟨u, e1, e2⟩ := zip_look hnd hv' hvl e
      refine ⟨u, e1, .inl ⟨fun q => hck x (List.of_mem_zip e2).1 q, ?_⟩⟩
      refine lookup_of_mem_nd ?_ (List.mem_reverse.mpr e2)
      rw [List.map_reverse, map_zip hul]
      exact (List.reverse_perm names).nodup_iff.mpr hnd
    refine wpAny_execs_cons (wpAny_Try_except (wpAny_execs_cons (wpAny_Expr_any ((vcET_sound GK F' (Ev'.w _) F1).1 _ _ _ hbody ρ _ _ _ ⟨_, _, S1⟩ (fun _ _ _ _ _ _ h => h.elim) ?_) (not_interactive F') (swaps_plain hv))))
    intro c' ph' ρ' e h' tk ⟨hc', hk'⟩ p' hX
    subst hc'
    obtain ⟨t, ws, conc', g₂, m₂, ⟨⟨Bq, hB, hl, hfl, hnew⟩, htup⟩, Fg₂, hsm, x4, x5, x6, x7⟩ := hX
    have hLn : Bq.get? L = none := by
      obtain ⟨_, _, _, ⟨L₁, _, hf, hn', _⟩, _⟩ := hfl.2.2.1
      obtain rfl : L = L₁ := Option.some.inj (F.hl.symm.trans hf)
      exact hn'
    refine wpAny_looks_onW (s := { s with heap := h', toks := tk }) F'.fr F'.hl hfl fun h₄ hheld₄ hsm₄ => ?_
    refine wpAny_landsW hheld₄ fun h₅ hheld hsm₅ => ?_
    have hbase5 : ∀ b o, h₀.get? b = some o → h₅.get? b = some o := fun b o q => hheld.1 b o (hB b o q)
    have hT5 : hT.StaysIn h₅ := fun b o q => hbase5 b o (F.st b o q)
    obtain ⟨ob, hob, hobc⟩ := hheld.there
    refine wpAny_handleBy_cons (codeAny_handlers_test (Name_function_global (env := envX qual scope L' a cdv []) hk hx (loadGlobal_global (GK.g.keeps hT5) (XE.nm x c' hc) ?_) (clsOf_debug hc))) (by intro q; cases q)
    obtain ⟨nm, qn, N, bs, hdct, sn, sub, ab, col, dd, q0, q1, q2, q3, q5, bm, hC, TL⟩ := exc_obj (GK.X.keeps hT5) (XE.ok c').ec
    refine wpAny_excMatches_sub_self hC hob hobc (TL.hasType (b := true) (by decide)) (codeAny_handlers_suite ?_)
    refine lands_againW hheld fun h₆ hfl₆ hsm₆ => ?_
    refine wpAny_execs_cons (wpAny_Return_some (Constant_bool ?_))
    refine V (.bool true) (.bool true) ph' ρ' h₆ tk hk' p' rfl ⟨m, conc', ?_⟩
    have up : g.UpToSlots h₆ := ((((Heap.UpToSlots.of_keeps Fg₂.keep).trans hsm).trans hsm₄).trans hsm₅).trans hsm₆
    refine ⟨⟨up.ns FG.ns, fun b o q => hfl₆.1 b o (hB b o q), FG.above⟩, fun y v q => ?_, x4, x5, fun p hp => ⟨hfl₆.1 _ _ (hl p hp).1, fun z => ?_, (hl p hp).2⟩, x6, x7⟩
    · obtain ⟨z, e1, e2⟩ := S0.l y v q
      exact ⟨z, e1.mono p', e2⟩
    · have := (hl p hp).1; rw [z, hLn] at this; cases this
end
end Mine
set_option maxHeartbeats 2000000
namespace Mine

noncomputable def segInit : Addr := 138
section
variable {prog : Program} {w : World} {hT : Heap} {K : Frag} {lv : Nat} {Si S : Sp}

/-- an instance of the program's class made -/
theorem segOk (X : K.In hT) (hm : makesIn K segC = true) (hi : findIn K (.ref segC) "__init__" = some (some (.ref segInit))) (hf : typeIn K (.ref segInit) = some (.type "function")) (hI : CallOk prog w hT segInit Si lv)
    (hS : ∀ vs ph k ke, S vs ph k ke → Si (.ref (ph.length + 1) :: vs) (ph ++ [.di []] ++ [.ins ph.length]) (fun v ph' => v = .none ∧ k (.ref (ph.length + 1)) ph') ke) : CallOk prog w hT segC S (lv + 1) := by
  intro A env outer base h₀ L F rest ls ph ρ s vs us k ke Q E hSp hv hST V HE
  obtain ⟨m, conc, S0⟩ := hST
  have kpT := F.kp S0
  refine make_K S0.F S0.N (X.keeps kpT) hm hi hf fun x dx h' F' N' lt1 lt2 => ?_
  have S1 : SX h₀ L rest ls (ph ++ [.di []]) (ρ ++ [dx]) h' m (conc ++ [emptyDict]) := S0.alloc F' (fun p hp => N' p (.tail _ hp)) lt1 ⟨[], 0, rfl, trivial⟩
  have hd : (ρ ++ [dx])[ph.length]? = some dx := by rw [S0.len]; simp
  have S2 : SX h₀ L rest ls (ph ++ [.di []] ++ [.ins ph.length]) (ρ ++ [dx] ++ [x]) h' m (conc ++ [emptyDict] ++ [instObj segC dx]) := S1.alloc F' (fun p hp => by
    rcases List.mem_cons.mp hp with rfl | hp
    · exact N' _ (.head _)
    · exact S1.N p hp) (fun p hp => by
    rcases List.mem_append.mp hp with hp | hp
    · rw [List.zip_append S0.n] at hp
      rcases List.mem_append.mp hp with hp | hp
      · exact Nat.lt_trans (lt1 p (List.mem_append.mpr (.inl hp))) lt2
      · rw [List.mem_singleton.mp hp]; exact lt2
    · exact Nat.lt_trans (lt1 p (List.mem_append.mpr (.inr hp))) lt2) ⟨dx, get_pre ⟨[x], rfl⟩ hd, rfl⟩
  have pre : ρ <+: ρ ++ [dx] ++ [x] := ⟨[dx, x], by simp⟩
  have hx : PV.Is (ρ ++ [dx] ++ [x]) (.ref (ph.length + 1)) (.ref x) := ⟨x, by rw [S0.len]; simp, rfl⟩
  have Fu : Frm hT (A.under (.builtin "type.__call__" ⟨.ref segC :: us, []⟩)) env outer base h₀ L lv :=
    { F.less (ev := env) (Nat.le_succ lv) with
      fr := F.fr
      hd := by
        have := F.hd
        have e : (Code.builtin "type.__call__" ⟨.ref segC :: us, []⟩).weight = 1 := rfl
        show A.depth + _ + 2 * lv + 8 < _
        rw [e]; omega
      hu := by
        have := F.hu
        have e : (Code.builtin "type.__call__" ⟨.ref segC :: us, []⟩).cUnits ≤ 8 := Nat.le_of_ble_eq_true (by kernel_rfl)
        show A.units + _ + 8 * lv + 200 < _
        omega }
  refine codeAny_mono (hI _ env outer base h₀ L Fu rest ls _ _ { s with heap := h' } (.ref (ph.length + 1) :: vs) (.ref x :: us) _ ke (fun v s' => v = .none ∧ Q (.ref x) s') E (hS vs ph k ke hSp) ⟨hx, hv.imp fun _ _ q => q.mono pre⟩ ⟨_, _, S2⟩ ?_ (HE.from pre)) fun r s' hr => ?_
  · intro v u ph' ρ' h'' tk hk p' hu S'
    obtain ⟨rfl, hk⟩ := hk
    exact ⟨hu, V _ _ ph' ρ' h'' tk hk (pre.trans p') (hx.mono p') S'⟩
  · rcases r with e | (v | _ | _ | _) <;> first | exact hr | exact hr.elim
end
end Mine
set_option maxHeartbeats 2000000
namespace Mine

noncomputable def relabelS (sc cs : Scope) : Scope := { sc with names := sc.names.map fun (n, k) => if (k == .free && cs.kind == .function && cs.names.lookup n == some .cell) then (n, .cell) else (n, k) }
theorem relabel_eq (sc : Scope) (env : Env) : relabel sc env = relabelS sc env.scope := rfl

section
variable {h₀ h h' : Heap} {L a : Addr} {rest rest' : List (Addr × Obj)} {ls : Ls} {ph : List PO} {ρ : List Addr} {m : PySem.Str → Option Value} {conc : List Obj} {o : Obj} {po : PO}
/-- the hidden objects told anew -/
theorem SX.retell (S : SX h₀ L rest ls ph ρ h m conc) (F : Fr h₀ L h' m) (N : News h₀ L h' (ρ.zip conc ++ rest')) (hc : ∀ ob u, (L + 1, ob) ∈ rest → ob.data = .cell (some u) → ∃ ob', (L + 1, ob') ∈ rest' ∧ ob'.data = .cell (some u)) (r : ∀ q ∈ rest', q.1 ∉ ρ) :
    SX h₀ L rest' ls ph ρ h' m conc :=
  ⟨F, fun x v e => let ⟨u, e1, e2⟩ := S.l x v e; ⟨u, e1, e2.imp id fun ⟨q, ob, hob, hd⟩ => ⟨q, let ⟨ob', h1, h2⟩ := hc ob u hob hd; ⟨ob', h1, h2⟩⟩⟩, S.c, S.n, N, S.d, r⟩
/-- a hidden object shown -/
theorem SX.show_ (S : SX h₀ L rest ls ph ρ h m conc) (ha : (a, o) ∈ rest) (sub : ∀ q ∈ rest', q ∈ rest) (hne : ∀ q ∈ rest', q.1 ≠ a) (hc : ∀ ob u, (L + 1, ob) ∈ rest → ob.data = .cell (some u) → (L + 1, ob) ∈ rest') (q : po.Is (ρ ++ [a]) o) :
    SX h₀ L rest' ls (ph ++ [po]) (ρ ++ [a]) h m (conc ++ [o]) where
  F := S.F
  l := fun x v e => let ⟨u, e1, e2⟩ := S.l x v e; ⟨u, e1.mono (pre_add ρ a), e2.imp id fun ⟨q, ob, hob, hd⟩ => ⟨q, ob, hc ob u hob hd, hd⟩⟩
  c := (S.c.imp fun _ _ q => q.mono (pre_add ρ a)).append ⟨q, trivial⟩
  n := by simp [S.n]
  N := by
    rw [List.zip_append S.n]
    intro p hp
    rcases List.mem_append.mp hp with hp | hp
    · rcases List.mem_append.mp hp with hp | hp
      · exact S.N p (List.mem_append.mpr (.inl hp))
      · rw [List.mem_singleton.mp hp]; exact S.N _ (List.mem_append.mpr (.inr ha))
    · exact S.N p (List.mem_append.mpr (.inr (sub p hp)))
  d := List.nodup_append.mpr ⟨S.d, by simp, fun x hx y hy => by rw [List.mem_singleton.mp hy]; rintro rfl; exact S.r _ ha hx⟩
  r := fun p hp hm => by
    rcases List.mem_append.mp hm with hm | hm
    · exact S.r p (sub p hp) hm
    · exact hne p hp (List.mem_singleton.mp hm)
end

section
variable {prog : Program} {w : World} {mg mb : PySem.Str → Option Value} {hT : Heap} {K : Frag} {G : Gm} {lv : Nat} {A : Around} {env : Env} {outer : List Env} {base h₀ : Heap} {L : Addr} {E : Value → Shared → Prop} {s : Shared}
  {rest : List (Addr × Obj)} {ls : Ls} {ph : List PO} {ρ : List Addr} {m : PySem.Str → Option Value} {conc : List Obj} {cs : Scope} {Fu : Nat}
  {elt iter : Expr} {x : PySem.Str} {px pos : Pos} {sc : Scope} {cl : List (PySem.Str × Addr)} {I : Nat → List Int → List PO → Prop}

noncomputable abbrev itObj (q : Int × Int × Int) (i : Nat) : Obj := { cls := .type "range_iterator", data := .fields #[rawInt (q.1 + i * q.2.2), rawInt (Builtin.Range.rangeSize q.1 q.2.1 q.2.2 - i), rawInt q.2.2] }
/-- the three hidden objects of a comprehension -/
noncomputable abbrev hid3 (C It D : Addr) (oC : Obj) (q : Int × Int × Int) (i : Nat) (vs : List Value) (c : Nat) (rest : List (Addr × Obj)) : List (Addr × Obj) := (C, oC) :: (It, itObj q i) :: (D, W.listOf (List.toArray vs) c) :: rest

structure CompSt (h₀ : Heap) (L : Addr) (rest : List (Addr × Obj)) (ls : Ls) (ρ : List Addr) (n : Nat) (I : Nat → List Int → List PO → Prop) (q : Int × Int × Int) (C It D : Addr) (i : Nat) (h : Heap) : Prop where
  ex : ∃ acc ph2 ρ2 m conc oC mC vs c, I i acc ph2 ∧ ph2.length = n ∧ ρ <+: ρ2 ∧ IntsAre vs acc ∧ acc.length = i ∧ h.Ns C mC ∧ SX h₀ L (hid3 C It D oC q i vs c rest) ls ph2 ρ2 h m conc

theorem ints_snoc {z : Int} {t : Tok} : ∀ {vs : List Value} {ns : List Int}, IntsAre vs ns → IntsAre (vs ++ [.int z t]) (ns ++ [z])
  | _, _, .nil => .cons z t .nil
  | _, _, .cons a b h => .cons a b (ints_snoc h)
theorem list_ne_cell {its : Array Value} {n : Nat} {u : Option Value} : (W.listOf its n).data ≠ .cell u := by intro q; cases q

theorem comp_loop (GK : GOk prog w mg mb hT K G lv) (F : Frm hT A env outer base h₀ L lv) (Ec : ∀ C, EvW (compEnvC sc cl C env) (relabelS sc env.scope) L ls) (hx : sc.names.lookup x = some .local) (hkind : sc.kind = .function)
    {q : Int × Int × Int} (hsz : 0 ≤ Builtin.Range.rangeSize q.1 q.2.1 q.2.2) (hn : turns q ≤ 1000)
    (turn : ∀ i acc ph2, i < turns q → ph2.length = ph.length → I i acc ph2 → (vcET G (relabelS sc env.scope) ls (fun _ _ => False) Fu).1 elt ph2 (fun v ph3 => ∃ z ph4, v = .int z ∧ ph4.length = ph.length ∧ Cut ph (LsLt ls) ph4 ph3 ∧ I (i + 1) (acc ++ [z]) ph4))
    (hlen : ph.length = ρ.length) (hlt : ∀ p ∈ ph, p.Lt ρ.length) {C It D : Addr} (hCI : C ≠ It) (hCD : C ≠ D) (hID : It ≠ D) (hr : ∀ p ∈ rest, p.1 ≠ C ∧ p.1 ≠ It ∧ p.1 ≠ D) (hCL : C ≠ L) {R : Result → Shared → Prop}
    (fin : ∀ h' tk acc ph2 ρ2 m conc oC mC vs c, I (turns q) acc ph2 → ph2.length = ph.length → ρ <+: ρ2 → IntsAre vs acc → h'.Ns C mC → SX h₀ L ((C, oC) :: (D, W.listOf (List.toArray vs) c) :: rest) ls ph2 ρ2 h' m conc → R (.ok .next) { s with heap := h', toks := tk }) {h' : Heap} {tk : Nat} (S : CompSt h₀ L rest ls ρ ph.length I q C It D 0 h') :
    codeAny (model prog w) A (.compLoop (.ListComp elt [⟨.Name x px, iter, [], 0⟩] sc pos) 0 (.ref It) (.ref D) (compEnvC sc cl C env)) R { s with heap := h', toks := tk } := by
  have hts := turns_size hsz
  have cellrest : ∀ {oC : Obj} {mC : PySem.Str → Option Value} {hh : Heap} {i : Nat} {vs : List Value} {c : Nat} {ρ2 : List Addr} {conc2 : List Obj} {m2} {ph2}, hh.Ns C mC → SX h₀ L (hid3 C It D oC q i vs c rest) ls ph2 ρ2 hh m2 conc2 →
      ∀ ob u, (L + 1, ob) ∈ hid3 C It D oC q i vs c rest → ob.data = .cell (some u) → (L + 1, ob) ∈ rest := by
    intro oC mC hh i vs c ρ2 conc2 m2 ph2 hns S2 ob u hob hd
    rcases List.mem_cons.mp hob with e | hob
    · obtain ⟨oL, es, ep, g1, g2, _⟩ := hns
      have e1 : C = L + 1 := (congrArg Prod.fst e).symm
      have e2 : ob = oC := congrArg Prod.snd e
      have := (S2.N (C, oC) (List.mem_append.mpr (.inr (.head _)))).1
      rw [g1] at this
      have e3 : oL = oC := Option.some.inj this
      rw [e2, ← e3, g2] at hd; cases hd
    · rcases List.mem_cons.mp hob with e | hob
      · have e2 : ob = itObj q i := congrArg Prod.snd e
        rw [e2] at hd; cases hd
      · rcases List.mem_cons.mp hob with e | hob
        · have e2 : ob = W.listOf (List.toArray vs) c := congrArg Prod.snd e
          rw [e2] at hd; cases hd
        · exact hob
  refine codeAny_compLoop_list (fun j s' => ∃ i h2 tk2, i + j = turns q ∧ CompSt h₀ L rest ls ρ ph.length I q C It D i h2 ∧ s' = { s with heap := h2, toks := tk2 }) (fun j s' hJ => ?_) (turns q) ⟨0, h', tk, by omega, S, rfl⟩
  obtain ⟨i, h2, tk2, hij, ⟨acc, ph2, ρ2, m2, conc2, oC, mC, vs, c, hI, hl2, p2, hia, hal, hns, S2⟩, rfl⟩ := hJ
  have memC : (C, oC) ∈ ρ2.zip conc2 ++ hid3 C It D oC q i vs c rest := List.mem_append.mpr (.inr (.head _))
  have memI : (It, itObj q i) ∈ ρ2.zip conc2 ++ hid3 C It D oC q i vs c rest := List.mem_append.mpr (.inr (.tail _ (.head _)))
  have memD : (D, W.listOf (List.toArray vs) c) ∈ ρ2.zip conc2 ++ hid3 C It D oC q i vs c rest := List.mem_append.mpr (.inr (.tail _ (.tail _ (.head _))))
  have hit : h2.get? It = some (itObj q i) := (S2.N _ memI).1
  rcases Nat.lt_or_ge i (turns q) with hin | hin
  · refine wpAny_pyNext_range_item (s := { s with heap := h2, toks := tk2 }) hit (by omega) fun h3 hit3 hs3 => ?_
    have e1 : q.1 + (i : Int) * q.2.2 + q.2.2 = q.1 + ((i + 1 : Nat) : Int) * q.2.2 := by rw [Int.add_assoc, Int.natCast_add, Int.add_mul]; simp
    have e2 : Builtin.Range.rangeSize q.1 q.2.1 q.2.2 - (i : Int) - 1 = Builtin.Range.rangeSize q.1 q.2.1 q.2.2 - ((i + 1 : Nat) : Int) := by omega
    rw [e1, e2] at hit3
    have notIn : ∀ {b o}, (b, o) ∈ hid3 C It D oC q i vs c rest → b ∉ ρ2 := fun hb => S2.r _ hb
    have zipne : ∀ {b}, b ∉ ρ2 → ∀ p ∈ ρ2.zip conc2, p.1 ≠ b := fun hb p hp e => hb (e ▸ (List.of_mem_zip hp).1)
    -- the iterator turned
    have S3 : SX h₀ L (hid3 C It D oC q (i + 1) vs c rest) ls ph2 ρ2 h3 m2 conc2 := by
      refine S2.retell (S2.F.update S2.N memI hs3) (fun p hp => ?_) (fun ob u hob hd => ⟨ob, .tail _ (.tail _ (.tail _ (cellrest hns S2 ob u hob hd))), hd⟩) (fun p hp => ?_)
      · have old : ∀ p ∈ ρ2.zip conc2 ++ hid3 C It D oC q i vs c rest, p.1 ≠ It → h3.get? p.1 = some p.2 ∧ p.1 ≠ L ∧ h₀.get? p.1 = none := fun p hp hne => ⟨(hs3.2 _ hne).trans (S2.N p hp).1, (S2.N p hp).2⟩
        rcases List.mem_append.mp hp with hp | hp
        · exact old p (List.mem_append.mpr (.inl hp)) (zipne (notIn (.tail _ (.head _))) p hp)
        · rcases List.mem_cons.mp hp with rfl | hp
          · exact old _ memC hCI
          · rcases List.mem_cons.mp hp with rfl | hp
            · exact ⟨hit3, (S2.N _ memI).2⟩
            · rcases List.mem_cons.mp hp with rfl | hp
              · exact old _ memD hID.symm
              · exact old p (List.mem_append.mpr (.inr (.tail _ (.tail _ (.tail _ hp))))) (hr p hp).2.1
      · rcases List.mem_cons.mp hp with rfl | hp
        · exact S2.r _ (.head _)
        · rcases List.mem_cons.mp hp with rfl | hp
          · exact notIn (.tail _ (.head _))
          · exact S2.r p (.tail _ (.tail _ hp))
    have hns3 : h3.Ns C mC := by
      obtain ⟨oL, es, ep, g1, g2, g3, g4⟩ := hns
      exact ⟨oL, es, ep, (hs3.2 _ hCI).trans g1, g2, g3, g4⟩
    -- the variable stored
    refine assign_Name (wpAny_storeName_local (env := compEnvC sc cl C env) (lookup_relabel_local hx) hns3 (fun h4 hns4 hs4 => ?_) (by show (sc.kind == .class || (sc.kind == .module && _)) = false; rw [hkind]; rfl))
    obtain ⟨oC4, es4, ep4, g1, g2, g3, g4⟩ := id hns4
    have memC3 : (C, oC) ∈ ρ2.zip conc2 ++ hid3 C It D oC q (i + 1) vs c rest := List.mem_append.mpr (.inr (.head _))
    have S4 : SX h₀ L (hid3 C It D oC4 q (i + 1) vs c rest) ls ph2 ρ2 h4 m2 conc2 := by
      refine S3.retell (S3.F.update S3.N memC3 hs4) (fun p hp => ?_) (fun ob u hob hd => ⟨ob, .tail _ (.tail _ (.tail _ (cellrest hns3 S3 ob u hob hd))), hd⟩) (fun p hp => ?_)
      · have old : ∀ p ∈ ρ2.zip conc2 ++ hid3 C It D oC q (i + 1) vs c rest, p.1 ≠ C → h4.get? p.1 = some p.2 ∧ p.1 ≠ L ∧ h₀.get? p.1 = none := fun p hp hne => ⟨(hs4.2 _ hne).trans (S3.N p hp).1, (S3.N p hp).2⟩
        rcases List.mem_append.mp hp with hp | hp
        · exact old p (List.mem_append.mpr (.inl hp)) (zipne (S3.r _ (.head _)) p hp)
        · rcases List.mem_cons.mp hp with rfl | hp
          · exact ⟨g1, (S3.N _ memC3).2⟩
          · refine old p (List.mem_append.mpr (.inr (.tail _ hp))) ?_
            rcases List.mem_cons.mp hp with rfl | hp
            · exact hCI.symm
            · rcases List.mem_cons.mp hp with rfl | hp
              · exact hCD.symm
              · exact (hr p hp).1
      · rcases List.mem_cons.mp hp with rfl | hp
        · exact S3.r (C, oC) (.head _)
        · exact S3.r p (.tail _ hp)
    -- the element
    refine (vcET_sound GK F (Ec C) Fu).1 _ _ _ (turn i acc ph2 hin hl2 hI) ρ2 _ _ _ ⟨_, _, S4⟩ (fun v u ph5 ρ5 h5 tk5 hk p5 hu S5 => ?_) (fun _ _ _ _ _ _ h => h.elim)
    obtain ⟨z, ph6, rfl, hl6, hcut, hI6⟩ := hk
    obtain ⟨t, rfl⟩ := hu
    obtain ⟨m5, conc5, S5⟩ := S5
    obtain ⟨ρ6, conc6, q1, q2, q3, S6⟩ := S5.cut (P := LsLt ls) hlt hlen (p2.trans p5) hcut (fun z => z)
    -- the accumulator
    have hvl : vs.length = i := by rw [hia.length, hal]
    have nD6 : ∀ p ∈ ρ6.zip conc6, p.1 ≠ D := fun p hp e => S6.r (D, W.listOf (List.toArray vs) c) (.tail _ (.tail _ (.head _))) (e ▸ (List.of_mem_zip hp).1)
    have U : Upd D (W.listOf (List.toArray vs) c) (W.listOf ((List.toArray vs).push (.int z t)) (c + 1)) (ρ6.zip conc6 ++ hid3 C It D oC4 q (i + 1) vs c rest) (ρ6.zip conc6 ++ ((C, oC4) :: (It, itObj q (i + 1)) :: (D, W.listOf ((List.toArray vs).push (.int z t)) (c + 1)) :: rest)) := by
      have tl : ∀ {l l' : List (Addr × Obj)} {pre : List (Addr × Obj)}, (∀ p ∈ pre, p.1 ≠ D) → Upd D (W.listOf (List.toArray vs) c) (W.listOf ((List.toArray vs).push (.int z t)) (c + 1)) l l' → Upd D (W.listOf (List.toArray vs) c) (W.listOf ((List.toArray vs).push (.int z t)) (c + 1)) (pre ++ l) (pre ++ l') := by
        intro l l' pre
        induction pre with
        | nil => exact fun _ h => h
        | cons p pre ih => exact fun hp h => .tail (hp p (.head _)) (ih (fun q hq => hp q (.tail _ hq)) h)
      exact tl nD6 (.tail hCD (.tail hID (.head fun p hp => (hr p hp).2.2)))
    refine append_K (s := { s with heap := h5, toks := tk5 }) S6.F S6.N U (fun h7 F7 N7 => ?_) (by simp only [List.size_toArray]; rw [sizeLine_eq, hvl]; omega)
    have hns7 : ∃ mC7, h7.Ns C mC7 := by
      have : h7.get? C = some oC4 := (N7 (C, oC4) (List.mem_append.mpr (.inr (.head _)))).1
      exact ⟨_, oC4, es4, ep4, this, g2, g3, g4⟩
    obtain ⟨mC7, hns7⟩ := hns7
    refine ⟨j - 1, by omega, i + 1, h7, tk5, by omega, ⟨acc ++ [z], ph6, ρ6, m5, conc6, oC4, mC7, vs ++ [.int z t], c + 1, hI6, hl6, q2, ?_, by simp [hal], hns7, ?_⟩, rfl⟩
    · exact ints_snoc hia
    · have hpush : (List.toArray vs).push (.int z t) = List.toArray (vs ++ [.int z t]) := by simp
      rw [hpush] at N7
      refine S6.retell F7 N7 (fun ob u hob hd => ⟨ob, .tail _ (.tail _ (.tail _ ?_)), hd⟩) (fun p hp => ?_)
      · exact cellrest (⟨oC4, es4, ep4, (S6.N (C, oC4) (List.mem_append.mpr (.inr (.head _)))).1, g2, g3, g4⟩ : h5.Ns C _) S6 ob u hob hd
      · rcases List.mem_cons.mp hp with rfl | hp
        · exact S6.r (C, oC4) (.head _)
        · rcases List.mem_cons.mp hp with rfl | hp
          · exact S6.r (It, itObj q (i + 1)) (.tail _ (.head _))
          · rcases List.mem_cons.mp hp with rfl | hp
            · exact S6.r (D, W.listOf (List.toArray vs) c) (.tail _ (.tail _ (.head _)))
            · exact S6.r p (.tail _ (.tail _ (.tail _ hp)))
  · obtain rfl : i = turns q := by omega
    refine wpAny_pyNext_range_end (s := { s with heap := h2, toks := tk2 }) F.hh hit (by omega) fun h3 he => ?_
    have ks : ∀ b o, b ≠ It → h2.get? b = some o → h3.get? b = some o := fun b o hb e => he b o hb e
    have hns3 : h3.Ns C mC := by
      obtain ⟨oL, es, ep, g1, g2, g3, g4⟩ := hns
      exact ⟨oL, es, ep, ks _ _ hCI g1, g2, g3, g4⟩
    refine fin h3 tk2 acc ph2 ρ2 m2 conc2 oC mC vs c hI hl2 p2 hia hns3 (S2.retell ?_ (fun p hp => ?_) (fun ob u hob hd => ⟨ob, .tail _ (.tail _ (cellrest hns S2 ob u hob hd)), hd⟩) (fun p hp => ?_))
    · have hn := S2.N _ memI
      obtain ⟨oL, es, ep, g1, g2, g3, g4⟩ := S2.F.ns
      exact ⟨⟨oL, es, ep, ks _ _ (Ne.symm hn.2.1) g1, g2, g3, g4⟩, fun b o e => ks _ _ (fun q => by have := hn.2.2; rw [← q] at this; rw [this] at e; cases e) (S2.F.keep b o e), S2.F.above⟩
    · have old : ∀ p ∈ ρ2.zip conc2 ++ hid3 C It D oC q (turns q) vs c rest, p.1 ≠ It → h3.get? p.1 = some p.2 ∧ p.1 ≠ L ∧ h₀.get? p.1 = none := fun p hp hne => ⟨ks _ _ hne (S2.N p hp).1, (S2.N p hp).2⟩
      rcases List.mem_append.mp hp with hp | hp
      · exact old p (List.mem_append.mpr (.inl hp)) (fun e => S2.r (It, itObj q (turns q)) (.tail _ (.head _)) (e ▸ (List.of_mem_zip hp).1))
      · rcases List.mem_cons.mp hp with rfl | hp
        · exact old _ memC hCI
        · rcases List.mem_cons.mp hp with rfl | hp
          · exact old _ memD hID.symm
          · exact old p (List.mem_append.mpr (.inr (.tail _ (.tail _ (.tail _ hp))))) (hr p hp).2.1
    · rcases List.mem_cons.mp hp with rfl | hp
      · exact S2.r (C, oC) (.head _)
      · rcases List.mem_cons.mp hp with rfl | hp
        · exact S2.r (D, W.listOf (List.toArray vs) c) (.tail _ (.tail _ (.head _)))
        · exact S2.r p (.tail _ (.tail _ (.tail _ hp)))
end
end Mine
set_option maxHeartbeats 2000000
namespace Mine

section
variable {prog : Program} {w : World} {mg mb : PySem.Str → Option Value} {hT : Heap} {K : Frag} {G : Gm} {lv : Nat} {A : Around} {env : Env} {outer : List Env} {base h₀ : Heap} {L : Addr} {E : Value → Shared → Prop} {s : Shared}
  {rest : List (Addr × Obj)} {ls : Ls} {ph : List PO} {ρ : List Addr} {m : PySem.Str → Option Value} {conc : List Obj} {cs : Scope} {Fu : Nat}
  {elt iter : Expr} {x : PySem.Str} {px pos : Pos} {sc : Scope} {cl : List (PySem.Str × Addr)} {I : Nat → List Int → List PO → Prop}

theorem SX.ltS (S : SX h₀ L rest ls ph ρ s.heap m conc) : ∀ p ∈ ρ.zip conc ++ rest, p.1 < s.heap.objs.size := fun p hp => Heap.lt_size (S.N p hp).1

theorem comp_core (GK : GOk prog w mg mb hT K G lv) (F : Frm hT A env outer base h₀ L lv) (Ec : ∀ C, EvW (compEnvC sc cl C env) (relabelS sc env.scope) L ls) (hx : sc.names.lookup x = some .local) (hcell : ∀ y ∈ sc.names, y.2 ≠ .cell) (hkind : sc.kind = .function)
    {q : Int × Int × Int} (hb : 0 ≤ q.1 ∧ q.1 ≤ 2 ^ 60 ∧ -1 ≤ q.2.1 ∧ q.2.1 ≤ 2 ^ 60 ∧ 0 < q.2.2 ∧ q.2.2 ≤ 2 ^ 60) (hn : turns q ≤ 1000)
    (turn : ∀ i acc ph2, i < turns q → ph2.length = ph.length → I i acc ph2 → (vcET G (relabelS sc env.scope) ls (fun _ _ => False) Fu).1 elt ph2 (fun v ph3 => ∃ z ph4, v = .int z ∧ ph4.length = ph.length ∧ Cut ph (LsLt ls) ph4 ph3 ∧ I (i + 1) (acc ++ [z]) ph4))
    (h0 : I 0 [] ph) (S : SX h₀ L rest ls ph ρ s.heap m conc) {RR : Value → Addr → Result → Shared → Prop}
    (fin : ∀ D C h' tk acc ph2 ρ2 m conc oC mC, I (turns q) acc ph2 → ph2.length = ph.length → ρ <+: ρ2 → h'.Ns C mC → SX h₀ L ((C, oC) :: rest) ls (ph2 ++ [.il acc]) (ρ2 ++ [D]) h' m conc → h'.get? C = some oC →
      (∀ u, oC.data ≠ .cell u) → (∀ p ∈ rest, p.1 ≠ C) → RR (.ref D) C (.ok .next) { s with heap := h', toks := tk }) {t u v : Tok} {tk : Nat} :
    wpAny (model prog w) A (pyIter (.ref s.heap.objs.size)) (fun it s₂ => wpAny (model prog w) A (newList []) (fun acc s₃ => wpAny (model prog w) A (newFunctionEnv sc env.globals cl [] env.qual none .none (some env)) (fun cenv s₄ =>
      codeAny (model prog w) A (.compStart (.ListComp elt [⟨.Name x px, iter, [], 0⟩] sc pos) 0 it acc { cenv with scope := relabel sc env }) (RR acc cenv.locals) s₄) E s₃) E s₂) E
      { s with heap := s.heap.push { cls := .type "range", data := .fields #[.int q.1 t, .int q.2.1 u, .int q.2.2 v] }, toks := tk } := by
  obtain ⟨hsz, hsm⟩ := turns_le hb
  refine range_iter (s := { s with toks := tk }) S hsm fun It h1 S1 hne => ?_
  have eI : ({ cls := .type "range_iterator", data := .fields #[rawInt q.1, rawInt (Builtin.Range.rangeSize q.1 q.2.1 q.2.2), rawInt q.2.2] } : Obj) = itObj q 0 := by simp [itObj]
  rw [eI] at S1
  have kp1 : ∀ b o, h1.get? b = some o → (h1.push { cls := .type "list", dict := none, data := .seq ([] : List Value).toArray }).get? b = some o := fun b o e => Heap.get?_push_of_some _ e
  refine wpAny_newObj_type (wpAny_newFunctionEnv hcell (by intro y hy; simp at hy) (fun h₃ hns₃ hsb₃ => ?_) hkind)
  dsimp only at hns₃ hsb₃ ⊢
  have S2 : SX h₀ L ((h1.objs.size, W.listOf (List.toArray []) 0) :: (It, itObj q 0) :: rest) ls ph ρ (h1.push { cls := .type "list", dict := none, data := .seq ([] : List Value).toArray }) m conc :=
    S1.hide (S1.F.keeps kp1) (news_pushed (s := { s with heap := h1 }) S1.F S1.N kp1 (Heap.get?_push_size _ rfl) rfl) (SX.ltS (s := { s with heap := h1 }) S1)
  generalize hH2 : h1.push { cls := .type "list", dict := none, data := .seq ([] : List Value).toArray } = H2 at *
  have kp3 : ∀ b o, H2.get? b = some o → h₃.get? b = some o := fun b o e => (hsb₃.2 b (Nat.ne_of_lt (Heap.lt_size e))).trans (Heap.get?_push_of_some _ e)
  obtain ⟨oC, esC, epC, g1, g2, g3, g4⟩ := id hns₃
  have S3 : SX h₀ L ((H2.objs.size, oC) :: (h1.objs.size, W.listOf (List.toArray []) 0) :: (It, itObj q 0) :: rest) ls ph ρ h₃ m conc :=
    S2.hide (S2.F.keeps kp3) (news_pushed (s := { s with heap := H2 }) S2.F S2.N kp3 g1 rfl) (SX.ltS (s := { s with heap := H2 }) S2)
  have lt1 := SX.ltS (s := { s with heap := h1 }) S1
  have lt2 := SX.ltS (s := { s with heap := H2 }) S2
  have hID : It ≠ h1.objs.size := Nat.ne_of_lt (lt1 (It, itObj q 0) (List.mem_append.mpr (.inr (.head _))))
  have hCI : H2.objs.size ≠ It := Nat.ne_of_gt (lt2 (It, itObj q 0) (List.mem_append.mpr (.inr (.tail _ (.head _)))))
  have hCD : H2.objs.size ≠ h1.objs.size := Nat.ne_of_gt (lt2 (h1.objs.size, W.listOf (List.toArray []) 0) (List.mem_append.mpr (.inr (.head _))))
  have hCL : H2.objs.size ≠ L := (S3.N (H2.objs.size, oC) (List.mem_append.mpr (.inr (.head _)))).2.1
  have hr : ∀ p ∈ rest, p.1 ≠ H2.objs.size ∧ p.1 ≠ It ∧ p.1 ≠ h1.objs.size := fun p hp =>
    ⟨Nat.ne_of_lt (lt2 p (List.mem_append.mpr (.inr (.tail _ (.tail _ hp))))), hne p hp, Nat.ne_of_lt (lt1 p (List.mem_append.mpr (.inr (.tail _ hp))))⟩
  have notcell : ∀ u, oC.data ≠ .cell u := fun u e => by rw [g2] at e; cases e
  have start : CompSt h₀ L rest ls ρ ph.length I q H2.objs.size It h1.objs.size 0 h₃ := by
    refine ⟨[], ph, ρ, m, conc, oC, _, [], 0, h0, rfl, List.prefix_rfl, .nil, rfl, hns₃, S3.retell S3.F (fun p hp => S3.N p ?_) (fun ob u hob hd => ⟨ob, ?_, hd⟩) (fun p hp => S3.r p ?_)⟩
    · rcases List.mem_append.mp hp with hp | hp
      · exact List.mem_append.mpr (.inl hp)
      · refine List.mem_append.mpr (.inr ?_)
        rcases List.mem_cons.mp hp with rfl | hp
        · exact .head _
        · rcases List.mem_cons.mp hp with rfl | hp
          · exact .tail _ (.tail _ (.head _))
          · rcases List.mem_cons.mp hp with rfl | hp
            · exact .tail _ (.head _)
            · exact .tail _ (.tail _ (.tail _ hp))
    · rcases List.mem_cons.mp hob with e | hob
      · rw [e]; exact .head _
      · rcases List.mem_cons.mp hob with e | hob
        · rw [e]; exact .tail _ (.tail _ (.head _))
        · rcases List.mem_cons.mp hob with e | hob
          · rw [e]; exact .tail _ (.head _)
          · exact .tail _ (.tail _ (.tail _ hob))
    · rcases List.mem_cons.mp hp with rfl | hp
      · exact .head _
      · rcases List.mem_cons.mp hp with rfl | hp
        · exact .tail _ (.tail _ (.head _))
        · rcases List.mem_cons.mp hp with rfl | hp
          · exact .tail _ (.head _)
          · exact .tail _ (.tail _ (.tail _ hp))
  have hlen := S.len
  have hlt := S.phLt
  have loop : codeAny (model prog w) A (.compLoop (.ListComp elt [⟨.Name x px, iter, [], 0⟩] sc pos) 0 (.ref It) (.ref h1.objs.size) (compEnvC sc cl H2.objs.size env)) (RR (.ref h1.objs.size) H2.objs.size) { s with heap := h₃, toks := tk } := by
    refine comp_loop (s := s) GK F Ec hx hkind hsz hn turn hlen hlt hCI hCD hID hr hCL (fun h' tk' acc ph2 ρ2 m2 conc2 oC2 mC vs c hI hl2 p2 hia hns S' => ?_) start
    have gC : h'.get? H2.objs.size = some oC2 := (S'.N (H2.objs.size, oC2) (List.mem_append.mpr (.inr (.head _)))).1
    have nc : ∀ u, oC2.data ≠ .cell u := fun u e => by
      obtain ⟨oL, es, ep, q1, q2, _⟩ := hns
      rw [gC] at q1; cases q1
      rw [q2] at e; cases e
    refine fin h1.objs.size H2.objs.size h' tk' acc ph2 ρ2 m2 _ oC2 mC hI hl2 p2 hns (S'.show_ (rest' := (H2.objs.size, oC2) :: rest) (.tail _ (.head _)) (fun p hp => ?_) (fun p hp => ?_) (fun ob u hob hd => ?_) ⟨vs, c, rfl, hia⟩) gC nc fun p hp => (hr p hp).1
    · rcases List.mem_cons.mp hp with rfl | hp
      · exact .head _
      · exact .tail _ (.tail _ hp)
    · rcases List.mem_cons.mp hp with rfl | hp
      · exact hCD
      · exact (hr p hp).2.2
    · rcases List.mem_cons.mp hob with e | hob
      · rw [e]; exact .head _
      · rcases List.mem_cons.mp hob with e | hob
        · have e2 : ob = W.listOf (List.toArray vs) c := congrArg Prod.snd e
          rw [e2] at hd; cases hd
        · exact .tail _ hob
  exact codeAny_compStart_list loop (wpAny_pyIter_rangeiter (x := q.1 + ((0 : Nat) : Int) * q.2.2) (left := Builtin.Range.rangeSize q.1 q.2.1 q.2.2 - ((0 : Nat) : Int)) (step := q.2.2) (S3.N (It, itObj q 0) (List.mem_append.mpr (.inr (.tail _ (.tail _ (.head _)))))).1 loop)
end
end Mine
set_option maxHeartbeats 2000000
namespace Mine

noncomputable def vcComp (G : Gm) (cs : Scope) (Fu : Nat) (elt : Expr) (sc : Scope) (args : List Expr) (ke : Nat → List PO → Prop) (ls : Ls) (ph : List PO) (k : PV → List PO → Prop) : Prop :=
  vcL (vcET G cs ls ke Fu).1 args ph fun vs ph1 => ∃ a b c, rangeOf vs = some (a, b, c) ∧ (0 ≤ a ∧ a ≤ 2 ^ 60 ∧ -1 ≤ b ∧ b ≤ 2 ^ 60 ∧ 0 < c ∧ c ≤ 2 ^ 60) ∧ turns (a, b, c) ≤ 1000 ∧ ∃ I : Nat → List Int → List PO → Prop, I 0 [] ph1 ∧
    (∀ i acc ph2, i < turns (a, b, c) → ph2.length = ph1.length → I i acc ph2 → (vcET G (relabelS sc cs) ls (fun _ _ => False) Fu).1 elt ph2 (fun v ph3 => ∃ z ph4, v = .int z ∧ ph4.length = ph1.length ∧ Cut ph1 (LsLt ls) ph4 ph3 ∧ I (i + 1) (acc ++ [z]) ph4)) ∧
    (∀ acc ph2, ph2.length = ph1.length → I (turns (a, b, c)) acc ph2 → k (.ref ph2.length) (ph2 ++ [.il acc]))

/-- what a comprehension's scope must show in a frame -/
structure CompFr (env : Env) (sc : Scope) (L : Addr) (x : PySem.Str) : Prop where
  ex : ∃ cl, closureFor sc env = pure cl ∧ ∀ y, (relabelS sc env.scope).names.lookup y = some .cell → cl.lookup y = some (L + 1)
  hcell : ∀ y ∈ sc.names, y.2 ≠ .cell
  hkind : sc.kind = .function
  hx : sc.names.lookup x = some .local
  hnames : ∀ y ∈ sc.names, y.2 = .local → sc.names.lookup y.1 = some .local

section
variable {prog : Program} {w : World} {mg mb : PySem.Str → Option Value} {hT : Heap} {K : Frag} {G : Gm} {lv : Nat} {A : Around} {env : Env} {outer : List Env} {base h₀ : Heap} {L : Addr} {E : Value → Shared → Prop} {s : Shared}
  {rest : List (Addr × Obj)} {ls : Ls} {ph : List PO} {ρ : List Addr} {ke : Nat → List PO → Prop} {m : PySem.Str → Option Value} {conc : List Obj} {cs : Scope} {Fu : Nat}
  {elt : Expr} {args : List Expr} {x r : PySem.Str} {px pos rp cp : Pos} {sc : Scope}

/-- the ledger after the comprehension's own names are gone -/
theorem SX.dropped {h h' : Heap} {C : Addr} {oC : Obj} (S : SX h₀ L ((C, oC) :: rest) ls ph ρ h m conc) (hs : Heap.SameBut C h h') (hr : ∀ p ∈ rest, p.1 ≠ C) (nc : ∀ u, oC.data ≠ .cell u) : SX h₀ L rest ls ph ρ h' m conc := by
  have S' := S.unhide nc
  have hn := S.N (C, oC) (List.mem_append.mpr (.inr (.head _)))
  refine S'.keep ?_ fun p hp => ⟨(hs.2 _ ?_).trans (S'.N p hp).1, (S'.N p hp).2⟩
  · exact S.F.update S.N (List.mem_append.mpr (.inr (.head _))) hs
  · rcases List.mem_append.mp hp with hp | hp
    · exact fun e => S.r (C, oC) (.head _) (e ▸ (List.of_mem_zip hp).1)
    · exact hr p hp

theorem comp_first (X : Cx prog w mg mb hT K G lv A env outer base h₀ L cs) {k : PV → List PO → Prop} (h : vcComp G cs Fu elt sc args ke ls ph k) (hr : isRange r = true) (hrl : cs.names.lookup r = some .globalImplicit) (hn : noStar args = true)
    (hlsc : ∀ y, (relabelS sc cs).names.lookup y = some .local → ls.lookup y = none) {cl : List (PySem.Str × Addr)} (hcl : ∀ y, (relabelS sc cs).names.lookup y = some .cell → cl.lookup y = some (L + 1)) (C : CompFr env sc L x)
    (S : ST h₀ L rest ls ph ρ s.heap) (HE : EP base env outer h₀ L rest ρ ke E s) {RR : Value → Addr → Result → Shared → Prop}
    (fin : ∀ D C h' tk v ph2 ρ2 m conc oC mC, k v ph2 → ρ <+: ρ2 → v.Is ρ2 (.ref D) → h'.Ns C mC → SX h₀ L ((C, oC) :: rest) ls ph2 ρ2 h' m conc → h'.get? C = some oC → (∀ u, oC.data ≠ .cell u) → (∀ p ∈ rest, p.1 ≠ C) → RR (.ref D) C (.ok .next) { s with heap := h', toks := tk }) :
    wpAny (model prog w) A (eval (.Call (.Name r rp) args [] cp) env) (fun xv s₁ => wpAny (model prog w) A (pyIter xv) (fun it s₂ => wpAny (model prog w) A (newList []) (fun acc s₃ => wpAny (model prog w) A (newFunctionEnv sc env.globals cl [] env.qual none .none (some env)) (fun cenv s₄ =>
      codeAny (model prog w) A (.compStart (.ListComp elt [⟨.Name x px, .Call (.Name r rp) args [] cp, [], 0⟩] sc pos) 0 it acc { cenv with scope := relabel sc env }) (RR acc cenv.locals) s₄) E s₃) E s₂) E s₁) E s := by
  obtain rfl := beq_iff_eq.mp hr
  obtain ⟨m0, conc0, S0⟩ := S
  have e1 := X.GK.bi (PySem.Str.ofString "range") .range rfl
  refine wpAny_Call_NameR (callNamed X.GK X.F (X.Ev.w ls) S0 (X.Ev.kd _ _ hrl) rfl (.inr e1) ?_)
  refine PyProof.Rows.callWith_type (noStar_any (env := env) hn) (args_plain hn (X.evL Fu h S0.st (fun vs us ph1 ρ1 h1 tk1 hk p1 hu S1 => ?_) HE))
  obtain ⟨qa, qb, qc, hq, hb, ht, I, h0, hI, hfin⟩ := hk
  obtain ⟨m1, conc1, S1⟩ := S1
  refine range_call (s := { s with heap := h1, toks := tk1 }) X.F (q := (qa, qb, qc)) hq hu hb fun tk t u v => ?_
  have hsc := X.sc
  subst hsc
  refine comp_core (s := { s with heap := h1, toks := tk1 }) X.GK X.F (fun C' => ⟨fun _ _ e => e, C.hkind, X.Ev.gl, X.Ev.bu, fun y v hy hl _ => ?_, fun y hy => hcl y hy⟩) C.hx C.hcell C.hkind (q := (qa, qb, qc)) hb ht hI h0 S1 fun D C' h' tk' acc ph2 ρ2 m2 conc2 oC mC hI2 hl2 p2 hns S2 hg nc hrn => ?_
  · rw [hlsc y hy] at hl; cases hl
  · have hD : PV.Is (ρ2 ++ [D]) (.ref ph2.length) (.ref D) := ⟨D, by
      have := S2.len
      rw [List.length_append, List.length_append] at this
      have e : ρ2.length = ph2.length := by simpa using this.symm
      rw [← e]; simp, rfl⟩
    refine fin D C' h' tk' _ _ _ m2 conc2 oC mC (hfin acc ph2 hl2 hI2) ((p1.trans p2).trans (pre_add ρ2 D)) hD hns S2 hg nc hrn

theorem compAssign_sound (X : Cx prog w mg mb hT K G lv A env outer base h₀ L cs) {y : PySem.Str} {py pos spos : Pos} {kn : Ls → List PO → Prop} {Q : Flow → Shared → Prop} (h : vcComp G cs Fu elt sc args ke ls ph (fun v ph1 => kn (setL y v ls) ph1)) (hr : isRange r = true) (hrl : cs.names.lookup r = some .globalImplicit)
    (hn : noStar args = true) (hlsc : ∀ y, (relabelS sc cs).names.lookup y = some .local → ls.lookup y = none) (C : CompFr env sc L x) (hy : cs.names.lookup y = some .local) (hck : (y == cellKey) = false)
    (hsw : swapsWith (.ListComp elt [⟨.Name x px, .Call (.Name r rp) args [] cp, [], 0⟩] sc pos) (some (.Name y py)) spos.line env = pure true)
    (S : ST h₀ L rest ls ph ρ s.heap) (HE : EP base env outer h₀ L rest ρ ke E s) (V : NP h₀ L rest ρ kn Q s) :
    wpAny (model prog w) A (exec (.Assign [.Name y py] (.ListComp elt [⟨.Name x px, .Call (.Name r rp) args [] cp, [], 0⟩] sc pos) spos) env) Q E s := by
  obtain ⟨cl, hclos, hcl⟩ := C.ex
  rw [exec_Assign_Name_used _ _ _ _ hsw]
  refine wpAny_bind (wpAny_standAt (wpAny_bind ?_))
  show wpAny _ A (do let _ ← comprehension (.ListComp elt [⟨.Name x px, .Call (.Name r rp) args [] cp, [], 0⟩] sc pos) sc env _ (newList []) false (eval (.Call (.Name r rp) args [] cp) env) (some (assign (.Name y py) env))) _ _ s
  refine wpAny_bind (wpAny_mono (wpAny_comprehension_free (use := some (assign (.Name y py) env)) (Q := fun _ s' => Q .next s') rfl (by intro _; rfl) hclos C.hkind C.hnames
    (comp_first (RR := fun acc C' => compPost (model prog w) A E (some (assign (.Name y py) env)) (fun _ s' => Q .next s') acc C') X h hr hrl hn hlsc (by have := X.sc; subst this; exact hcl) C S HE fun D C' h' tk v ph2 ρ2 m2 conc2 oC mC hk p2 hv hns S2 hg nc hrn => ?_)) (fun _ s' hq => wpAny_pure (wpAny_pure hq)) fun _ _ e => e)
  show wpAny _ A (assign (.Name y py) env (.ref D)) _ _ _
  refine assign_Name (store_local (s := { s with heap := h', toks := tk }) X.F X.Ev S2 hy hck hv fun h3 m3 S3 => ?_)
  obtain ⟨oL, es, ep, g1, g2, g3, g4⟩ := hns
  rw [hg] at g1
  cases g1
  refine ⟨mC, ⟨oC, es, ep, (S3.N (C', oC) (List.mem_append.mpr (.inr (.head _)))).1, g2, g3, g4⟩, fun h4 hs4 => ?_⟩
  exact V _ ph2 ρ2 h4 _ hk p2 ⟨_, _, S3.dropped hs4 hrn nc⟩

theorem compBytes_sound (X : Cx prog w mg mb hT K G lv A env outer base h₀ L cs) {y b : PySem.Str} {py bp bpos pos spos : Pos} {kn : Ls → List PO → Prop} {Q : Flow → Shared → Prop}
    (h : vcComp G cs Fu elt sc args ke ls ph (fun v ph1 => vcBi .bytes [v] ph1 fun z ph2 => kn (setL y z ls) ph2)) (hb : biOf b = some .bytes) (hbd : (b == PySem.Str.ofString "__debug__") = false) (hbl : cs.names.lookup b = some .globalImplicit) (hr : isRange r = true) (hrl : cs.names.lookup r = some .globalImplicit)
    (hn : noStar args = true) (hlsc : ∀ y, (relabelS sc cs).names.lookup y = some .local → ls.lookup y = none) (C : CompFr env sc L x) (hy : cs.names.lookup y = some .local) (hck : (y == cellKey) = false)
    (S : ST h₀ L rest ls ph ρ s.heap) (HE : EP base env outer h₀ L rest ρ ke E s) (V : NP h₀ L rest ρ kn Q s) :
    wpAny (model prog w) A (exec (.Assign [.Name y py] (.Call (.Name b bp) [.ListComp elt [⟨.Name x px, .Call (.Name r rp) args [] cp, [], 0⟩] sc pos] [] bpos) spos) env) Q E s := by
  obtain ⟨cl, hclos, hcl⟩ := C.ex
  obtain ⟨m0, conc0, S0⟩ := id S
  refine wpAny_Assign_Name (wpAny_Call_NameR (callNamed X.GK X.F (X.Ev.w ls) S0 (X.Ev.kd _ _ hbl) hbd (.inr (X.GK.bi b .bytes hb)) (PyProof.Rows.callWith_type rfl (args_plain rfl (spliced_more ?_ (star_cons fun x p q => by cases q)))))) (swaps_plain rfl)
  rw [eval_ListComp]
  refine wpAny_comprehension_free (use := none) rfl (by intro _; rfl) hclos C.hkind C.hnames
    (comp_first (RR := fun acc C' => compPost (model prog w) A E none _ acc C') X h hr hrl hn hlsc (by have := X.sc; subst this; exact hcl) C S HE fun D C' h' tk v ph2 ρ2 m2 conc2 oC mC hk p2 hv hns S2 hg nc hrn => ?_)
  refine ⟨mC, hns, fun h4 hs4 => Calls.spliced_nil ?_⟩
  have S4 := S2.dropped hs4 hrn nc
  refine vcBi_sound (s := { s with heap := h4, toks := tk }) (f := .bytes) (vs := [v]) (us := [.ref D]) X.F.hh S4 (show All2 _ _ _ from ⟨hv, trivial⟩) hk (fun z u ph5 ρ5 h5 tk5 hk5 p5 hu S5 => ?_)
  obtain ⟨m5, conc5, S5⟩ := S5
  exact store_local (s := { s with heap := h5, toks := tk5 }) X.F X.Ev S5 hy hck hu fun h6 m6 S6 => V _ ph5 ρ5 h6 _ hk5 (p2.trans p5) ⟨_, _, S6⟩
end
end Mine
set_option maxHeartbeats 2000000
namespace Mine

/-! ## the program's parts by their places -/
noncomputable abbrev P : Program := PySem.Challenge.pw_nu0124_01
noncomputable def stAt (i : Nat) : Option Stmt := P.main.body[i]?
noncomputable def bodyS : Option Stmt → List Stmt
  | some (.FunctionDef _ _ b _ _ _ _ _ _ _) => b
  | some (.ClassDef _ _ _ b _ _ _ _ _ _ _) => b
  | _ => []
noncomputable def parS : Option Stmt → Arguments
  | some (.FunctionDef _ a _ _ _ _ _ _ _ _) => a
  | _ => default
noncomputable def scoS : Option Stmt → Scope
  | some (.FunctionDef _ _ _ _ _ _ s _ _ _) => s
  | _ => default
noncomputable def methAt (i : Nat) : Option Stmt := (bodyS (stAt 28))[i]?

/-! ## what the functions compute -/
noncomputable def put16 (n : Int) : List Int := [n / 256 % 256, n % 256]
noncomputable def put32 (n : Int) : List Int := put16 (n / 65536) ++ put16 n
noncomputable def getW (xs : List Int) (at_ : Int) : Int := xs.getD at_.toNat 0 * 256 + xs.getD (at_ + 1).toNat 0
/-- the sum of the words -/
noncomputable def W : List Int → Int
  | [] => 0
  | [a] => a * 256
  | a :: b :: r => a * 256 + b + W r
noncomputable def pad4 (xs : List Int) : List Int := xs ++ List.replicate ((-(xs.length : Int)) % 4).toNat 0

/-- a sum folded -/
noncomputable def Folds (total r : Int) : Prop := 0 ≤ r ∧ r ≤ 65535 ∧ r % 65535 = total % 65535 ∧ (0 < total → 0 < r)

noncomputable def sPut16 : Sp := fun vs ph k _ => match vs with
  | [.int n] => 0 ≤ n ∧ k (.bytes (put16 n)) ph
  | _ => False
noncomputable def sPut32 : Sp := fun vs ph k _ => match vs with
  | [.int n] => 0 ≤ n ∧ k (.bytes (put32 n)) ph
  | _ => False
noncomputable def sNeed : Sp := fun vs ph k _ => match vs with
  | [.bytes xs, .int a, .int z] => (0 ≤ a ∧ a + z ≤ xs.length ∧ xs.length ≤ 1000) ∧ k .none ph
  | _ => False
noncomputable def sGet16 : Sp := fun vs ph k _ => match vs with
  | [.bytes xs, .int a] => (0 ≤ a ∧ a + 2 ≤ xs.length ∧ xs.length ≤ 1000) ∧ (0 ≤ getW xs a → getW xs a < 65536 → k (.int (getW xs a)) ph)
  | _ => False
noncomputable def sGet32 : Sp := fun vs ph k _ => match vs with
  | [.bytes xs, .int a] => (0 ≤ a ∧ a + 4 ≤ xs.length ∧ xs.length ≤ 1000) ∧ k (.int (getW xs a * 65536 + getW xs (a + 2))) ph
  | _ => False
noncomputable def sFold : Sp := fun vs ph k _ => match vs with
  | [.int t] => (0 ≤ t ∧ t ≤ 2 ^ 62) ∧ ∀ r, Folds t r → k (.int r) ph
  | _ => False
noncomputable def sOnes : Sp := fun vs ph k _ => match vs with
  | [.bytes xs, .int b] => (KBa.In xs ∧ xs.length ≤ 1000 ∧ 0 ≤ b ∧ b ≤ 2 ^ 40) ∧ ∀ r, Folds (b + W xs) r → k (.int r) ph
  | _ => False
noncomputable def sChecksum : Sp := fun vs ph k _ => match vs with
  | [.bytes xs, .int b] => (KBa.In xs ∧ xs.length ≤ 1000 ∧ 0 ≤ b ∧ b ≤ 2 ^ 40) ∧ ∀ r, Folds (b + W xs) r → k (.int (65535 - r)) ph
  | _ => False
noncomputable def sPseudo : Sp := fun vs ph k _ => match vs with
  | [.int s, .int t, .int p, .int z] => (0 ≤ s ∧ s ≤ 2 ^ 40 ∧ 0 ≤ t ∧ t ≤ 2 ^ 40 ∧ 0 ≤ p ∧ p ≤ 1000 ∧ 0 ≤ z ∧ z ≤ 2 ^ 40) ∧ ∀ r, 0 ≤ r → r ≤ 65535 → r % 65535 = (s + t + p + z) % 65535 → (0 < p → 0 < r) → k (.int r) ph
  | _ => False
noncomputable def fits (n : Int) (b : Nat) : Prop := 0 ≤ n ∧ n < 2 ^ b
noncomputable def sCheck : Sp := fun vs ph k ke => match vs with
  | [.int n, .int b] => (0 ≤ b ∧ b ≤ 64) ∧ (fits n b.toNat → k .none ph) ∧ (¬ fits n b.toNat → ∀ ph', ke 1 ph')
  | _ => False
noncomputable def sPadded : Sp := fun vs ph k _ => match vs with
  | [.bytes xs] => xs.length ≤ 36 ∧ k (.bytes (pad4 xs)) ph
  | _ => False
noncomputable def sMssOption : Sp := fun vs ph k _ => match vs with
  | [.int n] => fits n 16 ∧ k (.bytes ([2, 4] ++ put16 n)) ph
  | _ => False
noncomputable def sWords : Sp := fun vs ph k _ => match vs with
  | [.bytes xs] => (KBa.In xs ∧ xs.length ≤ 1000) ∧ k (.int (W xs)) ph
  | _ => False
noncomputable def sTwo : Sp := fun vs ph k _ => match vs with
  | [.int n] => k (.ref ph.length) (ph ++ [.il (put16 n)])
  | _ => False
noncomputable def sFour : Sp := fun vs ph k _ => match vs with
  | [.int n] => k (.ref (ph.length + 2)) (ph ++ [.il (put16 (n / 65536)), .il (put16 n), .il (put32 n)])
  | _ => False
/-- the state of a source of draws -/
noncomputable def SrcOk (x y : Int) : Prop := 0 ≤ x ∧ 0 ≤ y ∧ y < 2147483647
noncomputable def sPool : Sp := fun vs ph k _ => match vs with
  | [.ref a] => ∃ o ns, ph[a]? = some (.sc o ns) ∧ ns.length ≤ 1000000 ∧ ∀ x y, SrcOk x y → k (.ref ph.length) (ph ++ [.il [x, y]])
  | _ => False
noncomputable def sTake : Sp := fun vs ph k _ => match vs with
  | [.ref a, .int top] => ∃ x y, ph[a]? = some (.il [x, y]) ∧ SrcOk x y ∧ (0 < top ∧ top ≤ 2 ^ 31) ∧ ∀ d x' y', 0 ≤ d → d < top → SrcOk x' y' → k (.int d) (ph.set a (.il [x', y']))
  | _ => False
noncomputable def itemsL (ph : List PO) (b : Nat) : Option (List PV) := match ph[b]? with
  | some (.il ns) => some (ns.map .int)
  | some (.pl xs) => some xs
  | _ => none
noncomputable def sOne : Sp := fun vs ph k _ => match vs with
  | [.ref a, .ref b] => ∃ x y xs, ph[a]? = some (.il [x, y]) ∧ SrcOk x y ∧ a ≠ b ∧ itemsL ph b = some xs ∧ (0 < xs.length ∧ xs.length ≤ 1000) ∧ ∀ v x' y', v ∈ xs → SrcOk x' y' → k v (ph.set a (.il [x', y']))
  | _ => False
noncomputable def sAddress : Sp := fun vs ph k _ => match vs with
  | [.ref a] => ∃ x y, ph[a]? = some (.il [x, y]) ∧ SrcOk x y ∧ ∀ d x' y', fits d 32 → SrcOk x' y' → k (.int d) (ph.set a (.il [x', y']))
  | _ => False
end Mine
set_option maxHeartbeats 2000000
namespace Mine
noncomputable abbrev nm (x : String) : PySem.Str := PySem.Str.ofString x
noncomputable def gvals : List (PySem.Str × PV) := [(nm "ALL_ONES", .int 65535), (nm "FIN", .int 1), (nm "SYN", .int 2), (nm "ALL_FLAGS", .int 63), (nm "PROTOCOL", .int 6), (nm "HEAD_SIZE", .int 20), (nm "MOST_HEAD", .int 60), (nm "SUM_AT", .int 16),
  (nm "OPTIONS_END", .int 0), (nm "OPTION_NOTHING", .int 1), (nm "OPTION_MSS", .int 2), (nm "MSS_SIZE", .int 4)]
noncomputable def G0 : Gm := ⟨gvals, [], []⟩
/-- the form of a function's condition -/
noncomputable abbrev VC (G : Gm) (st : Option Stmt) (names : List PySem.Str) (S : Sp) : Prop :=
  ∀ vs ph k ke, S vs ph k ke → vs.length = names.length ∧ vcB G (scoS st) 30 40 (bodyS st) (names.zip vs) ph (fun _ ph2 => retOf ph k .none ph2) (retOf ph k) ke
theorem ret_same {ph : List PO} {k : PV → List PO → Prop} {v : PV} (h : k v ph) : retOf ph k v ph := ⟨ph, Cut.refl (Nat.le_refl _), h⟩
theorem ret_more {ph ph' : List PO} {k : PV → List PO → Prop} {v : PV} (h : k v ph') (hl : ph.length ≤ ph'.length) : retOf ph k v ph' := ⟨ph', Cut.refl hl, h⟩
theorem ret_cut {ph ph' junk : List PO} {k : PV → List PO → Prop} {v : PV} (h : k v ph') (hl : ph'.length = ph.length) (hv : v.Lt ph.length) (hp : ∀ p ∈ ph', p ∈ ph ∨ p.Lt ph.length) : retOf ph k v (ph' ++ junk) :=
  ⟨ph', ⟨junk, rfl, Nat.le_of_eq hl.symm, .inr ⟨by rw [hl]; exact hv, by rw [hl]; exact hp⟩⟩, h⟩
theorem ret_junk {ph junk : List PO} {k : PV → List PO → Prop} {v : PV} (h : k v ph) (hv : v.Lt ph.length) : retOf ph k v (ph ++ junk) := ret_cut h rfl hv fun _ hp => .inl hp

theorem get_lt' {α : Type} {l : List α} {i : Nat} {a : α} (e : l[i]? = some a) : i < l.length := by
  rcases Nat.lt_or_ge i l.length with q | q
  · exact q
  · rw [List.getElem?_eq_none q] at e; cases e
theorem in_put16 (n : Int) : KBa.In (put16 n) := by
  intro x hx
  unfold put16 at hx
  rcases List.mem_cons.mp hx with rfl | hx
  · omega
  · rw [List.mem_singleton.mp hx]; omega
theorem bitOr_low {a b : Int} (k : Nat) (ha : 0 ≤ a) (hb : 0 ≤ b) (hb' : b < 2 ^ k) : Builtin.bitOr (a * 2 ^ k) b = a * 2 ^ k + b := by
  obtain ⟨a, rfl⟩ := Int.eq_ofNat_of_zero_le ha
  obtain ⟨b, rfl⟩ := Int.eq_ofNat_of_zero_le hb
  have e : ((a : Int) * 2 ^ k) = ((a * 2 ^ k : Nat) : Int) := by simp
  rw [e]
  have h2 : b < 2 ^ k := by exact_mod_cast hb'
  rw [bitOr_and, bitAnd_pp (Int.natCast_nonneg _) (Int.natCast_nonneg _)]
  have : (a * 2 ^ k) &&& b = 0 := by
    apply Nat.eq_of_testBit_eq
    intro i
    rw [Nat.testBit_and, Nat.testBit_mul_two_pow, Nat.zero_testBit]
    by_cases hi : k ≤ i
    · have : b.testBit i = false := Nat.testBit_lt_two_pow (Nat.lt_of_lt_of_le h2 (Nat.pow_le_pow_right (by decide) hi))
      simp [this]
    · simp [hi]
  simp only [Int.toNat_natCast, this]
  simp

theorem put16_vc : VC G0 (stAt 5) [nm "n"] sPut16 := by
  intro vs ph k ke h
  unfold sPut16 at h
  split at h
  · rename_i n
    refine ⟨rfl, ?_⟩
    conv => whnf
    refine ⟨by decide, ?_⟩
    conv => whnf
    rw [List.getElem?_concat_length]
    conv => whnf
    have e1 : Builtin.bitAnd (n / 2 ^ Int.toNat 8) 255 = n / 256 % 256 := bitAnd_m8 _
    have e2 : Builtin.bitAnd n 255 = n % 256 := bitAnd_m8 _
    rw [e1, e2]
    refine ⟨⟨in_put16 n, ?_⟩, ret_junk h.2 trivial⟩
    show 2 ≤ _
    omega
  · exact h.elim

theorem need_vc : VC G0 (stAt 7) [nm "octets", nm "at", nm "size"] sNeed := by
  intro vs ph k ke h
  unfold sNeed at h
  split at h
  · rename_i xs a z
    obtain ⟨⟨h0, h1, h2⟩, h⟩ := h
    refine ⟨rfl, ?_⟩
    conv => whnf
    refine ifC_mk (fun e => absurd (of_decide_eq_true e) (by omega)) fun _ => ?_
    conv => whnf
    refine ⟨by omega, ?_⟩
    conv => whnf
    refine ifC_mk (fun e => absurd (of_decide_eq_true e) (by omega)) fun _ => ?_
    conv => whnf
    exact ret_same h
  · exact h.elim

theorem check_vc : VC G0 (stAt 29) [nm "number", nm "bits"] sCheck := by
  intro vs ph k ke h
  unfold sCheck at h
  split at h
  · rename_i n b
    obtain ⟨⟨h0, h1⟩, h2, h3⟩ := h
    refine ⟨rfl, ?_⟩
    conv => whnf
    refine ifC_mk (fun e => ?_) fun e => ?_
    · conv => whnf
      exact h3 (fun hf => by have := of_decide_eq_true e; have := hf.1; omega) ph
    · conv => whnf
      refine ⟨h0, ?_⟩
      conv => whnf
      have hn : 0 ≤ n := by have := of_decide_eq_false e; omega
      have hp : (0 : Int) < 2 ^ b.toNat := Int.pow_pos (by decide)
      refine ifC_mk (fun e => ?_) fun e => ?_
      · conv => whnf
        refine h3 (fun hf => ?_) ph
        rw [Int.ediv_eq_zero_of_lt hf.1 hf.2] at e
        cases e
      · conv => whnf
        refine ret_same (h2 ⟨hn, ?_⟩)
        have e' : n / 2 ^ b.toNat = 0 := by simpa using e
        rcases Int.lt_or_le n (2 ^ b.toNat) with q | q
        · exact q
        · have := Int.ediv_le_ediv hp q
          rw [Int.ediv_self (Int.ne_of_gt hp), e'] at this
          omega
  · exact h.elim

theorem padded_vc : VC G0 (stAt 30) [nm "options"] sPadded := by
  intro vs ph k ke h
  unfold sPadded at h
  split at h
  · rename_i xs
    obtain ⟨h0, h⟩ := h
    refine ⟨rfl, ?_⟩
    conv => whnf
    refine ⟨by omega, ?_⟩
    conv => whnf
    refine ⟨by decide, ?_⟩
    conv => whnf
    refine ⟨by omega, ?_⟩
    conv => whnf
    have hl : (pad4 xs).length ≤ 40 := by unfold pad4; rw [List.length_append, List.length_replicate]; omega
    have hl2 : xs.length + (List.replicate (-(xs.length : Int) % 4).toNat (0 : Int)).length ≤ 16777216 := by rw [List.length_replicate]; omega
    refine ⟨hl2, ?_⟩
    conv => whnf
    change (pad4 xs).length ≤ 16777216 ∧ _
    refine ⟨by omega, ?_⟩
    conv => whnf
    refine ifC_mk (fun e => absurd (of_decide_eq_true e) ?_) fun _ => ?_
    · change ¬ (60 < 20 + ((pad4 xs).length : Int))
      omega
    · conv => whnf
      exact ret_same h
  · exact h.elim

theorem two_vc : VC G0 (stAt 43) [nm "number"] sTwo := by
  intro vs ph k ke h
  unfold sTwo at h
  split at h
  · rename_i n
    refine ⟨rfl, ?_⟩
    conv => whnf
    refine ⟨by decide, ?_⟩
    conv => whnf
    refine ⟨by decide, ?_⟩
    conv => whnf
    refine ⟨by decide, ?_⟩
    conv => whnf
    exact ret_more h (by rw [List.length_append]; exact Nat.le_add_right _ _)
  · exact h.elim

theorem fold_vc : VC G0 (stAt 12) [nm "total"] sFold := by
  intro vs ph k ke h
  unfold sFold at h
  split at h
  · rename_i n
    obtain ⟨⟨h0, h1⟩, h⟩ := h
    refine ⟨rfl, ?_⟩
    conv => whnf
    refine ⟨fun j ls ph' => ph' = ph ∧ ∃ t, ls = [(nm "total", .int t)] ∧ 0 ≤ t ∧ t.toNat = j ∧ t % 65535 = n % 65535 ∧ (0 < n → 0 < t), ⟨n.toNat, rfl, n, rfl, h0, rfl, rfl, id⟩, fun j ls1 ph1 hl ⟨e1, t, e2, t0, tj, tm, tp⟩ => ?_⟩
    subst e1 e2
    conv => whnf
    refine ifC_mk (fun e => ?_) fun e => ?_
    · have e := of_decide_eq_true e
      conv => whnf
      refine ⟨by decide, ?_⟩
      conv => whnf
      have e1 : Builtin.bitAnd t 65535 = t % 65536 := bitAnd_m16 t
      rw [e1]
      have e2 : t / 2 ^ Int.toNat 16 = t / 65536 := rfl
      rw [e2]
      refine ⟨(t % 65536 + t / 65536).toNat, ph1, by omega, rfl, Cut.refl (Nat.le_refl _), rfl, _, rfl, by omega, rfl, by omega, fun _ => by omega⟩
    · have e := of_decide_eq_false e
      conv => whnf
      exact ret_same (h t ⟨t0, by omega, tm, tp⟩)
  · exact h.elim

theorem W_step : ∀ {xs : List Int} {i : Nat}, 2 * i < xs.length → W (xs.take (2 * (i + 1))) = W (xs.take (2 * i)) + 256 * xs.getD (2 * i) 0 + xs.getD (2 * i + 1) 0
  | [], _, h => by simp at h
  | [a], 0, _ => by simp [W, Int.mul_comm]
  | [a], i + 1, h => absurd h (by simp only [List.length_cons, List.length_nil]; omega)
  | a :: b :: r, 0, _ => by simp [W, Int.mul_comm]
  | a :: b :: r, i + 1, h => by
    have h' : 2 * i < r.length := by simp only [List.length_cons] at h; omega
    have := W_step h'
    rw [show 2 * (i + 1 + 1) = 2 * (i + 1) + 1 + 1 by omega, show 2 * (i + 1) = 2 * i + 1 + 1 by omega]
    simp only [List.take_succ_cons, W, List.getD_cons_succ]
    rw [show 2 * i + 1 + 1 = 2 * (i + 1) by omega, this]
    omega
theorem getD_none {xs : List Int} {j : Nat} (h : xs.length ≤ j) : xs.getD j 0 = 0 := by
  rw [List.getD_eq_getElem?_getD, List.getElem?_eq_none h]; rfl
theorem turns_two (n : Nat) : turns (0, (n : Int), 2) = (n + 1) / 2 := by
  unfold turns Builtin.Range.rangeSize
  simp only
  rw [if_pos (by omega)]
  split <;> omega

theorem words_vc : VC G0 (stAt 42) [nm "octets"] sWords := by
  intro vs ph k ke h
  unfold sWords at h
  split at h
  · rename_i xs
    obtain ⟨⟨hin, hz⟩, h⟩ := h
    refine ⟨rfl, ?_⟩
    conv => whnf
    refine ⟨by omega, ?_⟩
    conv => whnf
    refine ⟨_, _, _, rfl, ⟨by decide, by decide, by omega, by omega, by decide, by decide⟩, fun i ls ph' => ph' = ph ∧ (ls = [(nm "octets", .bytes xs), (nm "total", .int (W (xs.take (2 * i))))] ∨
      ∃ a l, ls = [(nm "octets", .bytes xs), (nm "total", .int (W (xs.take (2 * i)))), (nm "at", a), (nm "low", l)]), ⟨rfl, .inl rfl⟩, fun i ls1 ph1 hi hl ⟨e1, e2⟩ => ?_, fun ls1 ph1 hl ⟨e1, e2⟩ => ?_⟩
    · rw [turns_two] at hi
      have hlt : 2 * i < xs.length := by omega
      have ha : (0 + (i : Int) * 2).toNat = 2 * i := by omega
      have ha1 : (0 + (i : Int) * 2 + 1).toNat = 2 * i + 1 := by omega
      have step := W_step hlt
      subst e1
      rcases e2 with e2 | ⟨a, l, e2⟩ <;> subst e2
      all_goals
        conv => whnf
        refine ⟨by omega, ?_⟩
        conv => whnf
        refine ifC_mk (fun e => ?_) fun e => ?_
        · have e := of_decide_eq_true e
          conv => whnf
          refine ⟨⟨by omega, by omega, by omega⟩, fun _ _ => ?_⟩
          conv => whnf
          refine ⟨⟨by omega, by omega, by omega⟩, fun _ _ => ?_⟩
          conv => whnf
          refine ⟨.of_left (by decide), ?_⟩
          conv => whnf
          have e3 : W (List.take (2 * i) xs) + 256 * xs.getD (0 + (i : Int) * 2).toNat 0 + xs.getD (0 + (i : Int) * 2 + 1).toNat 0 = W (List.take (2 * (i + 1)) xs) := by rw [ha, ha1, step]
          rw [e3]
          exact ⟨ph1, rfl, Cut.refl (Nat.le_refl _), rfl, .inr ⟨.int (0 + (i : Int) * 2), .int (xs.getD (0 + (i : Int) * 2 + 1).toNat 0), rfl⟩⟩
        · have e := of_decide_eq_false e
          conv => whnf
          refine ⟨⟨by omega, by omega, by omega⟩, fun _ _ => ?_⟩
          conv => whnf
          refine ⟨.of_left (by decide), ?_⟩
          conv => whnf
          have e3 : W (List.take (2 * i) xs) + 256 * xs.getD (0 + (i : Int) * 2).toNat 0 + 0 = W (List.take (2 * (i + 1)) xs) := by rw [ha, step, getD_none (xs := xs) (j := 2 * i + 1) (by omega)]
          rw [e3]
          exact ⟨ph1, rfl, Cut.refl (Nat.le_refl _), rfl, .inr ⟨.int (0 + (i : Int) * 2), .int 0, rfl⟩⟩
    · have ht : xs.take (2 * turns (0, (xs.length : Int), 2)) = xs := by rw [turns_two]; exact List.take_of_length_le (by omega)
      subst e1
      have e3 : W (List.take (2 * turns (0, (xs.length : Int), 2)) xs) = W xs := by rw [ht]
      rcases e2 with e2 | ⟨a, l, e2⟩ <;> rw [e2]
      all_goals
        conv => whnf
        refine ret_same ?_
        show k (.int (W (List.take (2 * turns (0, (xs.length : Int), 2)) xs))) ph1
        rw [e3]
        exact h
  · exact h.elim

theorem two0 (x y : Int) : (0 : Int) ≤ 0 ∧ (0 : Int) < ([x, y].length : Nat) ∧ [x, y].length ≤ 1000000 := ⟨by decide, by show (0 : Int) < 2; decide, by show 2 ≤ _; omega⟩
theorem two1 (x y : Int) : (0 : Int) ≤ 1 ∧ (1 : Int) < ([x, y].length : Nat) ∧ [x, y].length ≤ 1000000 := ⟨by decide, by show (1 : Int) < 2; decide, by show 2 ≤ _; omega⟩
theorem take_vc : VC G0 (stAt 38) [nm "source", nm "top"] sTake := by
  intro vs ph k ke h
  unfold sTake at h
  split at h
  · rename_i a top
    obtain ⟨x, y, hp, ⟨hx, hy, hy'⟩, ⟨ht, ht'⟩, h⟩ := h
    have hl : a < ph.length := get_lt' hp
    refine ⟨rfl, ?_⟩
    conv => whnf
    rw [hp]
    conv => whnf
    refine ⟨by first | exact two0 _ _ | exact two1 _ _, ?_⟩
    conv => whnf
    refine ifC_mk (fun e => ?_) fun e => ?_
    · conv => whnf
      rw [hp]
      conv => whnf
      refine ⟨by first | exact two0 _ _ | exact two1 _ _, ?_⟩
      conv => whnf
      refine ⟨ht, ?_⟩
      conv => whnf
      rw [hp]
      conv => whnf
      refine ⟨by first | exact two0 _ _ | exact two1 _ _, ?_⟩
      conv => whnf
      refine ⟨⟨ht, by omega⟩, ?_⟩
      conv => whnf
      rw [hp]
      conv => whnf
      refine ⟨by first | exact two0 _ _ | exact two1 _ _, ?_⟩
      conv => whnf
      exact ret_more (h _ _ _ (Int.emod_nonneg _ (by omega)) (Int.emod_lt_of_pos _ ht) ⟨Int.ediv_nonneg hx (by omega), hy, hy'⟩) (by simp)
    · conv => whnf
      rw [hp]
      conv => whnf
      refine ⟨by first | exact two0 _ _ | exact two1 _ _, ?_⟩
      conv => whnf
      refine ⟨.of_right (by decide), ?_⟩
      conv => whnf
      refine ⟨by decide, ?_⟩
      conv => whnf
      rw [hp]
      conv => whnf
      refine ⟨by first | exact two0 _ _ | exact two1 _ _, ?_⟩
      conv => whnf
      rw [List.getElem?_set_self hl]
      conv => whnf
      refine ⟨by first | exact two0 _ _ | exact two1 _ _, ?_⟩
      conv => whnf
      refine ⟨by decide, ?_⟩
      conv => whnf
      refine ⟨ht, ?_⟩
      conv => whnf
      exact ret_more (h _ _ _ (Int.emod_nonneg _ (by omega)) (Int.emod_lt_of_pos _ ht) ⟨hx, Int.emod_nonneg _ (by decide), Int.emod_lt_of_pos _ (by decide)⟩) (by simp)
  · exact h.elim
theorem pool_vc : VC G0 (stAt 37) [nm "script"] sPool := by
  intro vs ph k ke h
  unfold sPool at h
  split at h
  · rename_i a
    obtain ⟨o, ns, hp, hz, h⟩ := h
    refine ⟨rfl, ?_⟩
    conv => whnf
    rw [hp]
    conv => whnf
    refine ⟨hz, ?_⟩
    conv => whnf
    have hbit : ∀ c : Bool, Builtin.Int.intBits (if c = true then (1 : Int) else 0) ≤ 64 := by intro c; cases c <;> decide +kernel
    have hnn : ∀ (B : Int) (c : Bool), 0 ≤ B → 0 ≤ B * (if c = true then (1 : Int) else 0) := by intro B c hB; cases c <;> simp [hB]
    refine ifC_mk (fun e => ?_) fun e => ?_
    · have e := of_decide_eq_true e
      conv => whnf
      rw [hp]
      conv => whnf
      refine ⟨⟨by decide, by omega, hz⟩, ?_⟩
      conv => whnf
      refine ⟨by decide, ?_⟩
      have hB : 0 ≤ (if -1 - ns.getD (Int.toNat 0) 0 > ns.getD (Int.toNat 0) 0 then -1 - ns.getD (Int.toNat 0) 0 else ns.getD (Int.toNat 0) 0) := by split <;> omega
      generalize (if -1 - ns.getD (Int.toNat 0) 0 > ns.getD (Int.toNat 0) 0 then -1 - ns.getD (Int.toNat 0) 0 else ns.getD (Int.toNat 0) 0) = B at *
      conv => whnf
      refine ⟨.of_right (hbit _), ?_⟩
      conv => whnf
      refine ⟨by decide, ?_⟩
      conv => whnf
      refine ⟨.of_right (by decide +kernel), ?_⟩
      conv => whnf
      refine ⟨by decide, ?_⟩
      conv => whnf
      exact ret_more (h _ _ ⟨hnn B _ hB, Int.emod_nonneg _ (by decide), Int.emod_lt_of_pos _ (by decide)⟩) (by rw [List.length_append]; exact Nat.le_add_right _ _)
    · conv => whnf
      refine ⟨by decide, ?_⟩
      conv => whnf
      refine ⟨.of_right (hbit _), ?_⟩
      conv => whnf
      refine ⟨by decide, ?_⟩
      conv => whnf
      refine ⟨.of_right (by decide +kernel), ?_⟩
      conv => whnf
      refine ⟨by decide, ?_⟩
      conv => whnf
      exact ret_more (h _ _ ⟨hnn _ _ (by decide), Int.emod_nonneg _ (by decide), Int.emod_lt_of_pos _ (by decide)⟩) (by rw [List.length_append]; exact Nat.le_add_right _ _)
  · exact h.elim
end Mine
set_option maxHeartbeats 4000000
namespace Mine

noncomputable def segDi (a b c d e f g h i : PV) : Ls := [(nm "source_port", a), (nm "target_port", b), (nm "seq", c), (nm "ack", d), (nm "flags", e), (nm "window", f), (nm "urgent", g), (nm "options", h), (nm "payload", i)]
noncomputable def padI : List PV → List PV
  | [s, a, b, c, d, e, f] => [s, a, b, c, d, e, f, .int 0, .bytes [], .bytes []]
  | l => l
noncomputable def sInit : Sp := fun vs ph k _ => match padI vs with
  | [.ref x, a, b, c, d, e, f, g, h, i] => ∃ dd, ph[x]? = some (.ins dd) ∧ ph[dd]? = some (.di []) ∧ k .none (ph.set dd (.di (segDi a b c d e f g h i)))
  | _ => False
noncomputable def sSeg : Sp := fun vs ph k _ => match vs with
  | [a, b, c, d, e, f, g, h, i] => k (.ref (ph.length + 1)) (ph ++ [.di (segDi a b c d e f g h i), .ins ph.length])
  | [a, b, c, d, e, f] => k (.ref (ph.length + 1)) (ph ++ [.di (segDi a b c d e f (.int 0) (.bytes []) (.bytes [])), .ins ph.length])
  | _ => False
noncomputable def sHas : Sp := fun vs ph k _ => match vs with
  | [.ref x, .int n] => ∃ dd fs fl, ph[x]? = some (.ins dd) ∧ ph[dd]? = some (.di fs) ∧ fs.lookup (nm "flags") = some (.int fl) ∧ k (.bool (Builtin.bitAnd fl n != 0)) ph
  | _ => False
noncomputable def sRow : Sp := fun vs ph k _ => match vs with
  | [.ref x] => ∃ dd a b c d e f g h i, ph[x]? = some (.ins dd) ∧ ph[dd]? = some (.di (segDi (.int a) (.int b) (.int c) (.int d) (.int e) (.int f) (.int g) (.bytes h) (.bytes i))) ∧
      k (.ref (ph.length + 2)) (ph ++ [.tu [.int a, .int b, .int c, .int d, .int e, .int f, .int g], .tu [.bytes h, .bytes i], .tu [.int a, .int b, .int c, .int d, .int e, .int f, .int g, .bytes h, .bytes i]])
  | _ => False

noncomputable def initNames : List PySem.Str := [nm "self", nm "source_port", nm "target_port", nm "seq", nm "ack", nm "flags", nm "window", nm "urgent", nm "options", nm "payload"]
theorem init_vc : ∀ vs ph k ke, sInit vs ph k ke → (padI vs).length = initNames.length ∧ vcB G0 (scoS (methAt 0)) 30 40 (bodyS (methAt 0)) (initNames.zip (padI vs)) ph (fun _ ph2 => retOf ph k .none ph2) (retOf ph k) ke := by
  intro vs ph k ke h
  unfold sInit at h
  split at h
  · rename_i x a b c d e f g hh i hpad
    obtain ⟨dd, h1, h2, h⟩ := h
    rw [hpad]
    have hl : dd < ph.length := get_lt' h2
    have hne : dd ≠ x := fun q => by rw [q, h1] at h2; cases h2
    refine ⟨rfl, ?_⟩
    conv => whnf
    rw [h1]
    conv => whnf
    rw [h2]
    conv => whnf
    iterate 8
      rw [List.getElem?_set_ne hne, h1]
      conv => whnf
      rw [List.getElem?_set_self hl]
      conv => whnf
      rw [List.set_set]
    exact ret_more h (by simp)
  · exact h.elim

theorem has_vc : VC G0 (methAt 1) [nm "self", nm "flag"] sHas := by
  intro vs ph k ke h
  unfold sHas at h
  split at h
  · obtain ⟨dd, fs, fl, h1, h2, h3, h⟩ := h
    refine ⟨rfl, ?_⟩
    conv => whnf
    rw [h1]
    conv => whnf
    rw [h2]
    conv => whnf
    rw [h3]
    conv => whnf
    exact ret_same h
  · exact h.elim

theorem at_one {α : Type} (ph : List α) (A B : α) : (ph ++ [A] ++ [B])[ph.length]? = some A := by
  rw [List.getElem?_append_left (by simp), List.getElem?_concat_length]
theorem len_two {α : Type} (ph : List α) (A B : α) : (ph ++ [A] ++ [B]).length = ph.length + 2 := by simp
theorem app_three {α : Type} (ph : List α) (A B C : α) : ph ++ [A] ++ [B] ++ [C] = ph ++ [A, B, C] := by simp
theorem row_vc : VC G0 (methAt 3) [nm "self"] sRow := by
  intro vs ph k ke h
  unfold sRow at h
  split at h
  · obtain ⟨dd, a, b, c, d, e, f, g, hh, i, h1, h2, h⟩ := h
    refine ⟨rfl, ?_⟩
    conv => whnf
    iterate 7
      rw [h1]
      conv => whnf
      rw [h2]
      conv => whnf
    have lx := get_lt' h1
    have ld := get_lt' h2
    rw [List.getElem?_append_left lx, h1]
    conv => whnf
    rw [List.getElem?_append_left ld, h2]
    conv => whnf
    rw [List.getElem?_append_left lx, h1]
    conv => whnf
    rw [List.getElem?_append_left ld, h2]
    conv => whnf
    generalize hA : PO.tu [.int a, .int b, .int c, .int d, .int e, .int f, .int g] = A at *
    generalize hB : PO.tu [.bytes hh, .bytes i] = B at *
    have q1 : (ph ++ [A] ++ [B])[ph.length]? = some A := at_one ph A B
    have q2 : (ph ++ [A] ++ [B])[(ph ++ [A]).length]? = some B := List.getElem?_concat_length
    rw [q1, q2, ← hA, ← hB]
    conv => whnf
    refine ⟨⟨by show (7 : Nat) ≠ 0; omega, by show (2 : Nat) ≠ 0; omega, by show (7 : Nat) + 2 ≤ _; omega⟩, ?_⟩
    conv => whnf
    refine ret_more (ph' := ph ++ [_] ++ [_] ++ [_]) ?_ (by simp only [List.length_append]; omega)
    rw [len_two, app_three]
    rw [← hA, ← hB] at h
    exact h
  · exact h.elim

noncomputable def fns0 : List (PySem.Str × Sp) := [(nm "put16", sPut16), (nm "need", sNeed), (nm "fold", sFold), (nm "check_number", sCheck), (nm "padded_options", sPadded), (nm "_law_pool", sPool), (nm "_law_take", sTake), (nm "_law_words", sWords), (nm "_law_two", sTwo), (nm "Segment", sSeg)]
noncomputable def G1 : Gm := ⟨gvals, fns0, [(nm "has", sHas), (nm "row", sRow)]⟩

theorem put32_vc : VC G1 (stAt 6) [nm "n"] sPut32 := by
  intro vs ph k ke h
  unfold sPut32 at h
  split at h
  · rename_i n
    refine ⟨rfl, ?_⟩
    conv => whnf
    refine ⟨by decide, ?_⟩
    conv => whnf
    refine ⟨Int.ediv_nonneg h.1 (by decide), ?_⟩
    conv => whnf
    refine ⟨h.1, ?_⟩
    conv => whnf
    refine ⟨by show 2 + 2 ≤ _; omega, ?_⟩
    conv => whnf
    exact ret_same h.2
  · exact h.elim

theorem get16_vc : VC G1 (stAt 8) [nm "octets", nm "at"] sGet16 := by
  intro vs ph k ke h
  unfold sGet16 at h
  split at h
  · rename_i xs a
    obtain ⟨⟨h0, h1, h2⟩, h⟩ := h
    refine ⟨rfl, ?_⟩
    conv => whnf
    refine ⟨⟨h0, h1, h2⟩, ?_⟩
    conv => whnf
    refine ⟨⟨by omega, by omega, by omega⟩, fun q1 q2 => ?_⟩
    conv => whnf
    refine ⟨⟨by decide, by decide, by omega⟩, ?_⟩
    conv => whnf
    refine ⟨⟨by omega, by omega, by omega⟩, fun q3 q4 => ?_⟩
    conv => whnf
    have e : Builtin.bitOr (xs.getD a.toNat 0 * 2 ^ Int.toNat 8) (xs.getD (a + 1).toNat 0) = getW xs a := by
      rw [bitOr_low _ q1 q3 (by exact q4)]
      rfl
    rw [e]
    exact ret_same (h (by unfold getW; omega) (by unfold getW; omega))
  · exact h.elim

theorem W_even : ∀ {xs : List Int} {i : Nat}, 2 * i + 1 < xs.length → W (xs.take (2 * (i + 1))) = W (xs.take (2 * i)) + (xs.getD (2 * i) 0 * 2 ^ 8 + xs.getD (2 * i + 1) 0) := by
  intro xs i h
  rw [W_step (by omega)]
  omega
theorem turns_even (n : Nat) : turns (0, (n : Int) - (n : Int) % 2, 2) = n / 2 := by
  unfold turns Builtin.Range.rangeSize
  simp only
  rw [if_pos (by omega)]
  split <;> omega
theorem W_bound : ∀ {xs : List Int}, KBa.In xs → 0 ≤ W xs ∧ W xs ≤ 65536 * xs.length
  | [], _ => by simp [W]
  | [a], h => by have := h a (.head _); simp only [W, List.length_cons, List.length_nil]; omega
  | a :: b :: r, h => by
    have h1 := h a (.head _)
    have h2 := h b (.tail _ (.head _))
    have := W_bound (xs := r) fun n hn => h n (.tail _ (.tail _ hn))
    simp only [W, List.length_cons]
    omega

theorem ones_vc : VC G1 (stAt 13) [nm "octets", nm "begin"] sOnes := by
  intro vs ph k ke h
  unfold sOnes at h
  split at h
  · rename_i xs b
    obtain ⟨⟨hin, hz, hb0, hb1⟩, h⟩ := h
    have hW := W_bound hin
    refine ⟨rfl, ?_⟩
    conv => whnf
    refine ⟨by omega, ?_⟩
    conv => whnf
    refine ⟨by omega, ?_⟩
    conv => whnf
    refine ⟨by decide, ?_⟩
    conv => whnf
    refine ⟨_, _, _, rfl, ⟨by decide, by decide, by omega, by omega, by decide, by decide⟩, fun i ls ph' => ph' = ph ∧ (ls = [(nm "octets", .bytes xs), (nm "begin", .int b), (nm "total", .int (b + W (xs.take (2 * i)))), (nm "even", .int ((xs.length : Int) - (xs.length : Int) % 2))] ∨
      ∃ a, ls = [(nm "octets", .bytes xs), (nm "begin", .int b), (nm "total", .int (b + W (xs.take (2 * i)))), (nm "even", .int ((xs.length : Int) - (xs.length : Int) % 2)), (nm "at", a)]), ⟨rfl, .inl ?_⟩, fun i ls1 ph1 hi hl ⟨e1, e2⟩ => ?_, fun ls1 ph1 hl ⟨e1, e2⟩ => ?_⟩
    · show [_, _, _, _] = [_, _, _, _]
      simp [W]
    · rw [turns_even] at hi
      have hlt : 2 * i + 1 < xs.length := by omega
      have ha : (0 + (i : Int) * 2).toNat = 2 * i := by omega
      have ha1 : (0 + (i : Int) * 2 + 1).toNat = 2 * i + 1 := by omega
      have step := W_even hlt
      subst e1
      rcases e2 with e2 | ⟨a, e2⟩ <;> subst e2
      all_goals
        conv => whnf
        refine ⟨⟨by omega, by omega, by omega⟩, fun q1 q2 => ?_⟩
        conv => whnf
        refine ⟨⟨by decide, by decide, by omega⟩, ?_⟩
        conv => whnf
        refine ⟨⟨by omega, by omega, by omega⟩, fun q3 q4 => ?_⟩
        conv => whnf
        have e3 : b + W (List.take (2 * i) xs) + Builtin.bitOr (xs.getD (0 + (i : Int) * 2).toNat 0 * 2 ^ Int.toNat 8) (xs.getD (0 + (i : Int) * 2 + 1).toNat 0) = b + W (List.take (2 * (i + 1)) xs) := by
          rw [bitOr_low _ q1 q3 (by exact q4), ha, ha1, step]
          show _ + (_ * 2 ^ 8 + _) = _
          omega
        rw [e3]
        exact ⟨ph1, rfl, Cut.refl (Nat.le_refl _), rfl, .inr ⟨.int (0 + (i : Int) * 2), rfl⟩⟩
    · rw [turns_even] at e2
      subst e1
      rcases e2 with e2 | ⟨a, e2⟩ <;> subst e2
      all_goals
        conv => whnf
        refine ⟨by omega, ?_⟩
        conv => whnf
        refine ifC_mk (fun e => ?_) fun e => ?_
        · have e := of_decide_eq_true e
          conv => whnf
          refine ⟨⟨by omega, by omega, by omega⟩, fun q1 q2 => ?_⟩
          conv => whnf
          refine ⟨⟨by decide, by decide, by omega⟩, ?_⟩
          conv => whnf
          have hx : xs.take (2 * (xs.length / 2 + 1)) = xs := List.take_of_length_le (by omega)
          have e3 : b + W (List.take (2 * (xs.length / 2)) xs) + xs.getD ((xs.length : Int) - (xs.length : Int) % 2).toNat 0 * 2 ^ Int.toNat 8 = b + W xs := by
            have := W_step (xs := xs) (i := xs.length / 2) (by omega)
            rw [hx, getD_none (xs := xs) (j := 2 * (xs.length / 2) + 1) (by omega)] at this
            rw [show ((xs.length : Int) - (xs.length : Int) % 2).toNat = 2 * (xs.length / 2) by omega, this]
            show _ + _ * 2 ^ 8 = _
            omega
          rw [e3]
          refine ⟨⟨by omega, by omega⟩, fun r hr => ?_⟩
          conv => whnf
          exact ret_same (h r hr)
        · have e := of_decide_eq_false e
          conv => whnf
          have hx : xs.take (2 * (xs.length / 2)) = xs := List.take_of_length_le (by omega)
          rw [hx]
          refine ⟨⟨by omega, by omega⟩, fun r hr => ?_⟩
          conv => whnf
          exact ret_same (h r hr)
  · exact h.elim
end Mine
set_option maxHeartbeats 4000000
namespace Mine

theorem pseudo_vc : VC G1 (stAt 15) [nm "source", nm "target", nm "protocol", nm "size"] sPseudo := by
  intro vs ph k ke h
  unfold sPseudo at h
  split at h
  · rename_i s t p z
    obtain ⟨⟨s0, s1, t0, t1, p0, p1, z0, z1⟩, h⟩ := h
    refine ⟨rfl, ?_⟩
    conv => whnf
    refine ⟨by decide, ?_⟩
    conv => whnf
    refine ⟨by decide, ?_⟩
    conv => whnf
    refine ⟨by decide, ?_⟩
    conv => whnf
    have e1 : ∀ x : Int, Builtin.bitAnd x 65535 = x % 65536 := bitAnd_m16
    have e2 : ∀ x : Int, x / 2 ^ Int.toNat 16 = x / 65536 := fun _ => rfl
    rw [e1, e1, e1, e2, e2, e2]
    refine ⟨⟨by omega, by omega⟩, fun r hr => ?_⟩
    conv => whnf
    obtain ⟨r0, r1, rm, rp⟩ := hr
    exact ret_same (h r r0 r1 (by omega) fun hp => rp (by omega))
  · exact h.elim

theorem mssOption_vc : VC G1 (stAt 34) [nm "n"] sMssOption := by
  intro vs ph k ke h
  unfold sMssOption at h
  split at h
  · rename_i n
    obtain ⟨hf, h⟩ := h
    refine ⟨rfl, ?_⟩
    conv => whnf
    refine ⟨by decide, fun _ => ?_, fun hn => absurd hf hn⟩
    conv => whnf
    rw [List.getElem?_concat_length]
    conv => whnf
    refine ⟨⟨?_, by show 2 ≤ _; omega⟩, ?_⟩
    · intro x hx
      rcases List.mem_cons.mp hx with rfl | hx
      · decide
      · rw [List.mem_singleton.mp hx]; decide
    conv => whnf
    refine ⟨hf.1, ?_⟩
    conv => whnf
    refine ⟨by show 2 + 2 ≤ _; omega, ?_⟩
    conv => whnf
    exact ret_junk h trivial
  · exact h.elim

theorem getD_mem {α : Type} {xs : List α} {d : Int} {z : α} (h0 : 0 ≤ d) (h1 : d < xs.length) : xs.getD d.toNat z ∈ xs := by
  have hj : d.toNat < xs.length := by omega
  rw [List.getD_eq_getElem?_getD, List.getElem?_eq_getElem hj]
  exact List.getElem_mem hj
theorem one_vc : VC G1 (stAt 39) [nm "source", nm "things"] sOne := by
  intro vs ph k ke h
  unfold sOne at h
  split at h
  · rename_i a b
    obtain ⟨x, y, xs, h1, hs, hne, h2, ⟨hz, hz'⟩, h⟩ := h
    have hset : ∀ q : PO, (ph.set a q)[b]? = ph[b]? := fun q => List.getElem?_set_ne hne
    refine ⟨rfl, ?_⟩
    unfold itemsL at h2
    conv => whnf
    cases hb : ph[b]? with
    | none => rw [hb] at h2; cases h2
    | some p =>
      rw [hb] at h2
      have h3 : ∀ x' y', (ph.set a (.il [x', y']))[b]? = some p := fun x' y' => (hset _).trans hb
      cases p with
      | il ns =>
        cases h2
        rw [List.length_map] at hz hz'
        conv => whnf
        refine ⟨by omega, ?_⟩
        conv => whnf
        refine ⟨x, y, h1, hs, ⟨by omega, by omega⟩, fun d x' y' d0 d1 hs' => ?_⟩
        conv => whnf
        rw [h3]
        conv => whnf
        refine ⟨⟨d0, d1, by omega⟩, ?_⟩
        conv => whnf
        exact ret_more (h _ _ _ (List.mem_map.mpr ⟨_, getD_mem d0 d1, rfl⟩) hs') (by simp)
      | pl ps =>
        cases h2
        conv => whnf
        refine ⟨by omega, ?_⟩
        conv => whnf
        refine ⟨x, y, h1, hs, ⟨by omega, by omega⟩, fun d x' y' d0 d1 hs' => ?_⟩
        conv => whnf
        rw [h3]
        conv => whnf
        refine ⟨⟨d0, d1, by omega⟩, ?_⟩
        conv => whnf
        exact ret_more (h _ _ _ (getD_mem d0 d1) hs') (by simp)
      | _ => cases h2
  · exact h.elim

theorem four_vc : VC G1 (stAt 44) [nm "number"] sFour := by
  intro vs ph k ke h
  unfold sFour at h
  split at h
  · rename_i n
    refine ⟨rfl, ?_⟩
    conv => whnf
    refine ⟨by decide, ?_⟩
    conv => whnf
    have e : n / 65536 = n / 65536 := rfl
    rw [at_one, List.getElem?_concat_length]
    conv => whnf
    refine ⟨by show 2 + 2 ≤ _; omega, ?_⟩
    conv => whnf
    refine ret_more (ph' := ph ++ [_] ++ [_] ++ [_]) ?_ (by simp only [List.length_append]; omega)
    rw [len_two, app_three]
    exact h
  · exact h.elim

noncomputable def sLength : Sp := fun vs ph k _ => match vs with
  | [.ref x] => ∃ dd a b c d e f g h i, ph[x]? = some (.ins dd) ∧ ph[dd]? = some (.di (segDi a b c d (.int e) f g h (.bytes i))) ∧ i.length ≤ 1000 ∧ (0 ≤ e ∧ e < 64) ∧ k (.int ((i.length : Int) + e % 2 + e / 2 % 2)) ph
  | _ => False
theorem flag_bits {e : Int} (h0 : 0 ≤ e) (h1 : e < 64) : (Builtin.bitAnd e 2 != 0) = decide (e / 2 % 2 = 1) ∧ (Builtin.bitAnd e 1 != 0) = decide (e % 2 = 1) := by
  obtain ⟨n, rfl⟩ := Int.eq_ofNat_of_zero_le h0
  have hn : n < 64 := by omega
  have key : ∀ m < 64, ((Builtin.bitAnd (m : Nat) 2 != 0) = decide (((m : Nat) : Int) / 2 % 2 = 1)) ∧ ((Builtin.bitAnd (m : Nat) 1 != 0) = decide (((m : Nat) : Int) % 2 = 1)) := by decide +kernel
  exact key n hn
theorem length_vc : VC G1 (methAt 2) [nm "self"] sLength := by
  intro vs ph k ke h
  unfold sLength at h
  split at h
  · rename_i x
    obtain ⟨dd, a, b, c, d, e, f, g, hh, i, h1, h2, hi, ⟨e0, e1⟩, h⟩ := h
    obtain ⟨b2, b1⟩ := flag_bits e0 e1
    refine ⟨rfl, ?_⟩
    conv => whnf
    rw [h1]
    conv => whnf
    rw [h2]
    conv => whnf
    refine ⟨by omega, ?_⟩
    conv => whnf
    have hself : vcSelf (nm "has") (.ref x) ph = true := by unfold vcSelf; simp only [h1, h2]; rfl
    rw [hself]
    conv => whnf
    refine ⟨dd, _, e, h1, h2, rfl, ?_⟩
    conv => whnf
    refine ifC_mk (fun q => ?_) fun q => ?_ <;> rw [b2] at q
    · have q := of_decide_eq_true q
      conv => whnf
      rw [hself]
      conv => whnf
      refine ⟨dd, _, e, h1, h2, rfl, ?_⟩
      conv => whnf
      refine ifC_mk (fun q' => ?_) fun q' => ?_ <;> rw [b1] at q'
      · have q' := of_decide_eq_true q'
        conv => whnf
        have e3 : (i.length : Int) + 1 + 1 = (i.length : Int) + e % 2 + e / 2 % 2 := by omega
        rw [e3]
        exact ret_same h
      · have q' := of_decide_eq_false q'
        conv => whnf
        have e3 : (i.length : Int) + 1 = (i.length : Int) + e % 2 + e / 2 % 2 := by omega
        rw [e3]
        exact ret_same h
    · have q := of_decide_eq_false q
      conv => whnf
      rw [hself]
      conv => whnf
      refine ⟨dd, _, e, h1, h2, rfl, ?_⟩
      conv => whnf
      refine ifC_mk (fun q' => ?_) fun q' => ?_ <;> rw [b1] at q'
      · have q' := of_decide_eq_true q'
        conv => whnf
        have e3 : (i.length : Int) + 1 = (i.length : Int) + e % 2 + e / 2 % 2 := by omega
        rw [e3]
        exact ret_same h
      · have q' := of_decide_eq_false q'
        conv => whnf
        have e3 : (i.length : Int) = (i.length : Int) + e % 2 + e / 2 % 2 := by omega
        rw [e3]
        exact ret_same h
  · exact h.elim
end Mine
set_option maxHeartbeats 4000000
namespace Mine

noncomputable def fns1 : List (PySem.Str × Sp) := [(nm "put32", sPut32), (nm "get16", sGet16), (nm "ones_sum", sOnes), (nm "pseudo_sum", sPseudo), (nm "mss_option", sMssOption), (nm "_law_one", sOne), (nm "_law_four", sFour)] ++ fns0
noncomputable def me2 : List (PySem.Str × Sp) := [(nm "has", sHas), (nm "row", sRow), (nm "length", sLength)]
noncomputable def G2 : Gm := ⟨gvals, fns1, me2⟩

theorem get32_vc : VC G2 (stAt 9) [nm "octets", nm "at"] sGet32 := by
  intro vs ph k ke h
  unfold sGet32 at h
  split at h
  · rename_i xs a
    obtain ⟨⟨h0, h1, h2⟩, h⟩ := h
    refine ⟨rfl, ?_⟩
    conv => whnf
    refine ⟨⟨h0, h1, h2⟩, ?_⟩
    conv => whnf
    refine ⟨⟨h0, by omega, h2⟩, fun q1 q2 => ?_⟩
    conv => whnf
    refine ⟨⟨by decide, by decide, by omega⟩, ?_⟩
    conv => whnf
    refine ⟨⟨by omega, by omega, h2⟩, fun q3 q4 => ?_⟩
    conv => whnf
    have e : Builtin.bitOr (getW xs a * 2 ^ Int.toNat 16) (getW xs (a + 2)) = getW xs a * 65536 + getW xs (a + 2) := bitOr_low 16 q1 q3 (by exact q4)
    rw [e]
    exact ret_same h
  · exact h.elim

theorem checksum_vc : VC G2 (stAt 14) [nm "octets", nm "begin"] sChecksum := by
  intro vs ph k ke h
  unfold sChecksum at h
  split at h
  · obtain ⟨h0, h⟩ := h
    refine ⟨rfl, ?_⟩
    conv => whnf
    refine ⟨h0, fun r hr => ?_⟩
    conv => whnf
    exact ret_same (h r hr)
  · exact h.elim

/-- what the options tell, in the forms that the law writes -/
inductive MssI : List Int → PV → Prop
  | nil : MssI [] .none
  | stop {r} : MssI (0 :: r) .none
  | nop {r v} : MssI r v → MssI (1 :: r) v
  | mss {a b r} : MssI (2 :: 4 :: a :: b :: r) (.int (a * 256 + b))
  | skip {r v} : MssI r v → MssI (3 :: 3 :: 7 :: r) v
noncomputable def sMssOf : Sp := fun vs ph k _ => match vs with
  | [.bytes xs] => xs.length ≤ 1000 ∧ ∃ v, MssI xs v ∧ k v ph
  | _ => False

theorem drop_getD {xs r : List Int} {a : Nat} (h : xs.drop a = r) (j : Nat) : xs.getD (a + j) 0 = r.getD j 0 := by
  subst h
  rw [List.getD_eq_getElem?_getD, List.getD_eq_getElem?_getD, List.getElem?_drop]
theorem drop_len {xs r : List Int} {a : Nat} (h : xs.drop a = r) (ha : a ≤ xs.length) : xs.length = a + r.length := by
  subst h; rw [List.length_drop]; omega
theorem drop_more {xs r : List Int} {a : Nat} (h : xs.drop a = r) (j : Nat) : xs.drop (a + j) = r.drop j := by
  subst h; rw [List.drop_drop]

theorem mssOf_vc : VC G2 (stAt 35) [nm "options"] sMssOf := by
  intro vs ph k ke h
  unfold sMssOf at h
  split at h
  · rename_i xs
    obtain ⟨hz, v, hm, h⟩ := h
    refine ⟨rfl, ?_⟩
    conv => whnf
    refine ⟨fun n ls ph' => ph' = ph ∧ ∃ (a : Nat), a ≤ xs.length ∧ n = xs.length - a ∧ MssI (xs.drop a) v ∧ (ls = [(nm "options", .bytes xs), (nm "at", .int a)] ∨ (∃ q, ls = [(nm "options", .bytes xs), (nm "at", .int a), (nm "kind", q)]) ∨
      (∃ q q', ls = [(nm "options", .bytes xs), (nm "at", .int a), (nm "kind", q), (nm "size", q')])), ⟨xs.length, rfl, 0, Nat.zero_le _, rfl, hm, .inl rfl⟩, fun n ls1 ph1 hl ⟨e1, a, ha, hn, hm, e2⟩ => ?_⟩
    subst e1
    have nxt : ∀ (j : Nat) (r : List Int), xs.drop a = r → 0 < j → j ≤ r.length → MssI (r.drop j) v → a + j ≤ xs.length ∧ xs.length - (a + j) < n ∧ MssI (xs.drop (a + j)) v := fun j r hr h0 h1 h2 => by
      have := drop_len hr ha
      exact ⟨by omega, by omega, by rw [drop_more hr]; exact h2⟩
    have t0 : (a : Int).toNat = a := Int.toNat_natCast a
    have t1 : ((a : Int) + 1).toNat = a + 1 := by omega
    generalize hr : xs.drop a = r at hm
    have hlen := drop_len hr ha
    have g0 : xs.getD (a : Int).toNat 0 = r.getD 0 0 := by rw [t0]; exact drop_getD hr 0
    have g1 : xs.getD ((a : Int) + 1).toNat 0 = r.getD 1 0 := by rw [t1]; exact drop_getD hr 1
    have gw : getW xs ((a : Int) + 2) = r.getD 2 0 * 256 + r.getD 3 0 := by
      unfold getW
      rw [show ((a : Int) + 2).toNat = a + 2 by omega, show ((a : Int) + 2 + 1).toNat = a + 3 by omega, drop_getD hr 2, drop_getD hr 3]
    have z16 : xs.length ≤ 16777216 := Nat.le_trans hz (by decide)
    have i0 : 0 < r.length → xs.length ≤ 16777216 ∧ (0 : Int) ≤ a ∧ (a : Int) < xs.length := fun q => ⟨z16, by omega, by omega⟩
    have i1 : 1 < r.length → xs.length ≤ 16777216 ∧ (0 : Int) ≤ (a : Int) + 1 ∧ (a : Int) + 1 < xs.length := fun q => ⟨z16, by omega, by omega⟩
    have c2 : 2 ≤ r.length → ¬ ((a : Int) + 2 > xs.length) := fun q => by omega
    have c3 : 3 ≤ r.length → ¬ ((a : Int) + 3 > xs.length) := fun q => by omega
    have c4 : 4 ≤ r.length → ¬ ((a : Int) + 4 > xs.length) := fun q => by omega
    have d4 : 4 ≤ r.length → (0 : Int) ≤ (a : Int) + 2 ∧ (a : Int) + 2 + 2 ≤ xs.length ∧ xs.length ≤ 1000 := fun q => ⟨by omega, by omega, hz⟩
    have n0 : r.length = 0 → ¬ ((a : Int) < xs.length) := fun q => by omega
    have p1 : ∀ {n : Nat}, 0 < n + 1 := Nat.succ_pos _
    have p2 : ∀ {n : Nat}, 1 < n + 1 + 1 := Nat.succ_lt_succ (Nat.succ_pos _)
    have p3 : ∀ {n : Nat}, 3 ≤ n + 1 + 1 + 1 := Nat.le_add_left 3 _
    have p4 : ∀ {n : Nat}, 4 ≤ n + 1 + 1 + 1 + 1 := Nat.le_add_left 4 _
    clear hlen t0 t1 hn hl
    rcases e2 with e2 | ⟨q, e2⟩ | ⟨q, q', e2⟩ <;> subst e2
    all_goals
      conv => whnf
      refine ⟨z16, ?_⟩
      conv => whnf
      cases hm with
      | nil =>
        refine ifC_mk (fun e => absurd (of_decide_eq_true e) (n0 rfl)) fun _ => ?_
        conv => whnf
        exact ret_same h
      | stop =>
        refine ifC_mk (fun _ => ?_) fun e => absurd (i0 p1).2.2 (of_decide_eq_false e)
        conv => whnf
        refine ⟨i0 p1, fun _ _ => ?_⟩
        rw [g0]
        conv => whnf
        exact ret_same h
      | nop hm =>
        refine ifC_mk (fun _ => ?_) fun e => absurd (i0 p1).2.2 (of_decide_eq_false e)
        conv => whnf
        refine ⟨i0 p1, fun _ _ => ?_⟩
        rw [g0]
        conv => whnf
        obtain ⟨n1, n2, n3⟩ := nxt 1 _ hr (by decide) p1 hm
        refine ⟨_, ph1, n2, rfl, Cut.refl (Nat.le_refl _), rfl, a + 1, n1, rfl, n3, ?_⟩
        first
          | exact .inr (.inl ⟨_, rfl⟩)
          | exact .inr (.inr ⟨_, _, rfl⟩)
      | @mss b c r' =>
        refine ifC_mk (fun _ => ?_) fun e => absurd (i0 p1).2.2 (of_decide_eq_false e)
        conv => whnf
        refine ⟨i0 p1, fun _ _ => ?_⟩
        rw [g0]
        conv => whnf
        refine ⟨z16, ?_⟩
        conv => whnf
        refine ifC_mk (fun e => absurd (of_decide_eq_true e) (c2 p2)) fun _ => ?_
        conv => whnf
        refine ⟨i1 p2, fun _ _ => ?_⟩
        rw [g1]
        conv => whnf
        refine ⟨z16, ?_⟩
        conv => whnf
        refine ifC_mk (fun e => absurd (of_decide_eq_true e) (c4 p4)) fun _ => ?_
        conv => whnf
        refine ⟨d4 p4, fun _ _ => ?_⟩
        rw [gw]
        conv => whnf
        exact ret_same h
      | skip hm =>
        refine ifC_mk (fun _ => ?_) fun e => absurd (i0 p1).2.2 (of_decide_eq_false e)
        conv => whnf
        refine ⟨i0 p1, fun _ _ => ?_⟩
        rw [g0]
        conv => whnf
        refine ⟨z16, ?_⟩
        conv => whnf
        refine ifC_mk (fun e => absurd (of_decide_eq_true e) (c2 p2)) fun _ => ?_
        conv => whnf
        refine ⟨i1 p2, fun _ _ => ?_⟩
        rw [g1]
        conv => whnf
        refine ⟨z16, ?_⟩
        conv => whnf
        refine ifC_mk (fun e => absurd (of_decide_eq_true e) (c3 p3)) fun _ => ?_
        conv => whnf
        obtain ⟨n1, n2, n3⟩ := nxt 3 _ hr (by decide) p3 hm
        refine ⟨_, ph1, n2, rfl, Cut.refl (Nat.le_refl _), rfl, a + 3, n1, rfl, n3, ?_⟩
        exact .inr (.inr ⟨_, _, rfl⟩)
  · exact h.elim

theorem address_vc : VC G2 (stAt 40) [nm "source"] sAddress := by
  intro vs ph k ke h
  unfold sAddress at h
  split at h
  · rename_i a
    obtain ⟨x, y, h1, hs, h⟩ := h
    have ha := get_lt' h1
    refine ⟨rfl, ?_⟩
    conv => whnf
    refine ⟨by decide, ?_⟩
    conv => whnf
    refine ⟨x, y, h1, hs, by decide, fun d x' y' d0 d1 hs' => ?_⟩
    conv => whnf
    have hl : (ph.set a (PO.il [x', y'])).length = ph.length := List.length_set ..
    refine ⟨x', y', [.int 0, .int 1, .int (2 ^ 32 - 1), .int 3232235777, .int (167772161 + d)], ?_, hs', by omega, ?_, ⟨by show 0 < 5; omega, by show 5 ≤ 1000; omega⟩, fun v x2 y2 hv hs2 => ?_⟩
    · rw [List.getElem?_append_left (by rw [hl]; exact ha)]; exact List.getElem?_set_self ha
    · unfold itemsL
      rw [List.getElem?_concat_length]
      rfl
    · conv => whnf
      have hv' : ∃ z, v = .int z ∧ fits z 32 := by
        unfold fits
        rcases List.mem_cons.mp hv with rfl | hv
        · exact ⟨_, rfl, by decide⟩
        · rcases List.mem_cons.mp hv with rfl | hv
          · exact ⟨_, rfl, by decide⟩
          · rcases List.mem_cons.mp hv with rfl | hv
            · exact ⟨_, rfl, by decide⟩
            · rcases List.mem_cons.mp hv with rfl | hv
              · exact ⟨_, rfl, by decide⟩
              · rw [List.mem_singleton.mp hv]
                exact ⟨_, rfl, by omega, by omega⟩
      obtain ⟨z, rfl, hz⟩ := hv'
      rw [List.set_append_left _ _ (by rw [hl]; exact ha), List.set_set]
      refine ret_cut (h z x2 y2 hz hs2) (by simp) trivial fun p hp => ?_
      rcases List.mem_or_eq_of_mem_set hp with hp | rfl
      · exact .inl hp
      · exact .inr trivial
  · exact h.elim
end Mine
set_option maxHeartbeats 4000000
namespace Mine

noncomputable def FitsAll (a b c d e f g : Int) : Prop := (fits a 16 ∧ fits b 16 ∧ fits f 16 ∧ fits g 16) ∧ fits c 32 ∧ fits d 32 ∧ fits e 6
noncomputable def headB (a b c d e f g : Int) (op : List Int) : List Int :=
  put16 a ++ put16 b ++ put32 c ++ put32 d ++ put16 ((20 + (op.length : Int)) / 4 * 4096 + e) ++ put16 f ++ put16 0 ++ put16 g ++ op
noncomputable def sHead : Sp := fun vs ph k ke => match vs with
  | [.ref x, .bytes op] => ∃ dd a b c d e f g h i, ph[x]? = some (.ins dd) ∧ ph[dd]? = some (.di (segDi (.int a) (.int b) (.int c) (.int d) (.int e) (.int f) (.int g) h i)) ∧ op.length ≤ 40 ∧
      (FitsAll a b c d e f g → k (.bytes (headB a b c d e f g op)) ph) ∧ (¬ FitsAll a b c d e f g → ∀ ph', ke 1 ph')
  | _ => False
theorem headOctets_vc : VC G2 (stAt 31) [nm "segment", nm "options"] sHead := by
  intro vs ph k ke h
  unfold sHead at h
  split at h
  · rename_i x op
    obtain ⟨dd, a, b, c, d, e, f, g, hh, i, h1, h2, hz, h3, h4⟩ := h
    refine ⟨rfl, ?_⟩
    have q16 : Int.toNat 16 = 16 := rfl
    have q32 : Int.toNat 32 = 32 := rfl
    have q6 : Int.toNat 6 = 6 := rfl
    conv => whnf
    iterate 4
      rw [h1]
      conv => whnf
      rw [h2]
      conv => whnf
    let V : List Int := [a, b, f, g]
    refine ⟨fun j ls ph' => ph' = ph ∧ j ≤ 4 ∧ (0 < j → fits a 16) ∧ (1 < j → fits b 16) ∧ (2 < j → fits f 16) ∧ (3 < j → fits g 16) ∧ (ls = [(nm "segment", .ref x), (nm "options", .bytes op)] ∨ ∃ v, ls = [(nm "segment", .ref x), (nm "options", .bytes op), (nm "number", v)]),
      ⟨rfl, by omega, by omega, by omega, by omega, by omega, .inl rfl⟩, fun j ls1 ph2 v hv hl ⟨e1, hj, j0, j1, j2, j3, e2⟩ => ?_, fun ls1 ph2 hl ⟨e1, hj, j0, j1, j2, j3, e2⟩ => ?_⟩
    · subst e1
      have hv' : (j = 0 ∧ v = .int a) ∨ (j = 1 ∧ v = .int b) ∨ (j = 2 ∧ v = .int f) ∨ (j = 3 ∧ v = .int g) := by
        match j, hv with
        | 0, hv => cases hv; exact .inl ⟨rfl, rfl⟩
        | 1, hv => cases hv; exact .inr (.inl ⟨rfl, rfl⟩)
        | 2, hv => cases hv; exact .inr (.inr (.inl ⟨rfl, rfl⟩))
        | 3, hv => cases hv; exact .inr (.inr (.inr ⟨rfl, rfl⟩))
        | j + 4, hv => simp at hv
      rcases e2 with e2 | ⟨v', e2⟩ <;> subst e2
      all_goals
        rcases hv' with ⟨rfl, rfl⟩ | ⟨rfl, rfl⟩ | ⟨rfl, rfl⟩ | ⟨rfl, rfl⟩
        all_goals
          conv => whnf
          rw [q16]
          refine ⟨by decide, fun hf => ?_, fun hn => h4 fun hq => hn ?_⟩
          · conv => whnf
            refine ⟨ph2, rfl, Cut.refl (Nat.le_refl _), rfl, by omega, ?_, ?_, ?_, ?_, .inr ⟨_, rfl⟩⟩ <;> first | exact fun _ => hf | exact fun z => absurd z (by omega) | exact fun z => j0 (by omega) | exact fun z => j1 (by omega) | exact fun z => j2 (by omega) | exact fun z => j3 (by omega)
          · obtain ⟨⟨z1, z2, z3, z4⟩, z5, z6, z7⟩ := hq
            assumption
    · subst e1
      have fa := j0 (by show 0 < 4; omega)
      have fb := j1 (by show 1 < 4; omega)
      have ff := j2 (by show 2 < 4; omega)
      have fg := j3 (by show 3 < 4; omega)
      rcases e2 with e2 | ⟨v', e2⟩ <;> subst e2
      all_goals
        conv => whnf
        rw [h1]
        conv => whnf
        rw [h2]
        conv => whnf
        rw [q32]
        refine ⟨by decide, fun fc => ?_, fun hn => h4 fun hq => hn hq.2.1⟩
        conv => whnf
        rw [h1]
        conv => whnf
        rw [h2]
        conv => whnf
        rw [q32]
        refine ⟨by decide, fun fd => ?_, fun hn => h4 fun hq => hn hq.2.2.1⟩
        conv => whnf
        rw [h1]
        conv => whnf
        rw [h2]
        conv => whnf
        rw [q6]
        refine ⟨by decide, fun fe => ?_, fun hn => h4 fun hq => hn hq.2.2.2⟩
        conv => whnf
        refine ⟨by omega, ?_⟩
        conv => whnf
        refine ⟨by decide, ?_⟩
        conv => whnf
        rw [h1]
        conv => whnf
        rw [h2]
        conv => whnf
        refine ⟨fa.1, ?_⟩
        conv => whnf
        rw [h1]
        conv => whnf
        rw [h2]
        conv => whnf
        refine ⟨fb.1, ?_⟩
        conv => whnf
        refine ⟨by show 2 + 2 ≤ _; omega, ?_⟩
        conv => whnf
        rw [h1]
        conv => whnf
        rw [h2]
        conv => whnf
        refine ⟨fc.1, ?_⟩
        conv => whnf
        refine ⟨by show 4 + 4 ≤ _; omega, ?_⟩
        conv => whnf
        rw [h1]
        conv => whnf
        rw [h2]
        conv => whnf
        refine ⟨fd.1, ?_⟩
        conv => whnf
        refine ⟨by show 8 + 4 ≤ _; omega, ?_⟩
        conv => whnf
        refine ⟨⟨by decide, by decide, by omega⟩, ?_⟩
        conv => whnf
        rw [h1]
        conv => whnf
        rw [h2]
        conv => whnf
        have ew : Builtin.bitOr ((20 + (op.length : Int)) / 4 * 2 ^ Int.toNat 12) e = (20 + (op.length : Int)) / 4 * 4096 + e :=
          bitOr_low 12 (by omega) fe.1 (Int.lt_of_lt_of_le fe.2 (by decide))
        rw [ew]
        have fe' := fe.1
        refine ⟨by omega, ?_⟩
        conv => whnf
        refine ⟨by show 12 + 2 ≤ _; omega, ?_⟩
        conv => whnf
        rw [h1]
        conv => whnf
        rw [h2]
        conv => whnf
        refine ⟨ff.1, ?_⟩
        conv => whnf
        refine ⟨by show 14 + 2 ≤ _; omega, ?_⟩
        conv => whnf
        refine ⟨by decide, ?_⟩
        conv => whnf
        refine ⟨by show 16 + 2 ≤ _; omega, ?_⟩
        conv => whnf
        rw [h1]
        conv => whnf
        rw [h2]
        conv => whnf
        refine ⟨fg.1, ?_⟩
        conv => whnf
        refine ⟨by show 18 + 2 ≤ _; omega, ?_⟩
        conv => whnf
        refine ⟨by show 20 + op.length ≤ _; omega, ?_⟩
        conv => whnf
        exact ret_same (h3 ⟨⟨fa, fb, ff, fg⟩, fc, fd, fe⟩)
  · exact h.elim
end Mine
set_option maxHeartbeats 4000000
namespace Mine

noncomputable def sOptions : Sp := fun vs ph k _ => match vs with
  | [.ref a] => ∃ x y, ph[a]? = some (.il [x, y]) ∧ SrcOk x y ∧ ∀ os told x' y', os.length ≤ 12 → KBa.In os → MssI os told → (told = .none ∨ ∃ t, told = .int t) → SrcOk x' y' → k (.ref ph.length) (ph.set a (.il [x', y']) ++ [.pl [.bytes os, told]])
  | _ => False

/-- how the options written so far go on -/
noncomputable def OptI (os : List Int) (told : PV) (over : Bool) : Prop :=
  ((over = true ∨ told ≠ .none) ∧ ∀ s, MssI (os ++ s) told) ∨ (over = false ∧ told = .none ∧ ∀ s v, MssI s v → MssI (os ++ s) v)
theorem OptI.plain {os t : List Int} {told : PV} {over : Bool} (h : OptI os told over) (ht : ∀ s v, MssI s v → MssI (t ++ s) v) : OptI (os ++ t) told over := by
  rcases h with ⟨h1, h2⟩ | ⟨h1, h2, h3⟩
  · exact .inl ⟨h1, fun s => by rw [List.append_assoc]; exact h2 _⟩
  · exact .inr ⟨h1, h2, fun s v hv => by rw [List.append_assoc]; exact h3 _ _ (ht s v hv)⟩
theorem OptI.stop {os : List Int} {told : PV} {over : Bool} (h : OptI os told over) : OptI (os ++ [0]) told true := by
  rcases h with ⟨h1, h2⟩ | ⟨h1, h2, h3⟩
  · exact .inl ⟨.inl rfl, fun s => by rw [List.append_assoc]; exact h2 _⟩
  · subst h2
    exact .inl ⟨.inl rfl, fun s => by rw [List.append_assoc]; exact h3 _ _ .stop⟩
theorem OptI.mssNew {os : List Int} {z : Int} (h : OptI os .none false) (h0 : 0 ≤ z) (h1 : z < 65536) : OptI (os ++ ([2, 4] ++ put16 z)) (.int z) false := by
  rcases h with ⟨h1, h2⟩ | ⟨_, _, h3⟩
  · rcases h1 with h1 | h1
    · cases h1
    · exact absurd rfl h1
  · refine .inl ⟨.inr (by intro q; cases q), fun s => ?_⟩
    rw [List.append_assoc]
    refine h3 _ _ ?_
    have e : z / 256 % 256 * 256 + z % 256 = z := by omega
    have := @MssI.mss (z / 256 % 256) (z % 256) s
    rw [e] at this
    exact this
theorem OptI.mssOld {os : List Int} {told : PV} {over : Bool} {z : Int} (h : OptI os told over) (hn : over = true ∨ told ≠ .none) : OptI (os ++ ([2, 4] ++ put16 z)) told over := by
  rcases h with ⟨h1, h2⟩ | ⟨h1, h2, h3⟩
  · exact .inl ⟨h1, fun s => by rw [List.append_assoc]; exact h2 _⟩
  · rcases hn with hn | hn
    · rw [h1] at hn; cases hn
    · exact absurd h2 hn
theorem OptI.done {os : List Int} {told : PV} {over : Bool} (h : OptI os told over) : MssI os told := by
  rcases h with ⟨_, h2⟩ | ⟨_, h2, h3⟩
  · have := h2 []; rwa [List.append_nil] at this
  · subst h2; have := h3 [] _ .nil; rwa [List.append_nil] at this
theorem in_app {a b : List Int} (ha : KBa.In a) (hb : KBa.In b) : KBa.In (a ++ b) := fun n hn => (List.mem_append.mp hn).elim (ha n) (hb n)
theorem in_cons {a : Int} {b : List Int} (ha : 0 ≤ a ∧ a < 256) (hb : KBa.In b) : KBa.In (a :: b) := fun n hn => by
  rcases List.mem_cons.mp hn with rfl | hn
  · exact ha
  · exact hb n hn
theorem in_nil : KBa.In [] := fun _ hn => by cases hn

theorem mem_set2 {α : Type} {l : List α} {a : Nat} {q q' p : α} (h : p ∈ l.set a q) : p ∈ l.set a q' ∨ p = q := by
  obtain ⟨j, hj, rfl⟩ := List.getElem_of_mem h
  have hj' : j < (l.set a q').length := by rw [List.length_set] at hj ⊢; exact hj
  by_cases e : a = j
  · subst e; right; exact List.getElem_set_self ..
  · left
    have e1 : (l.set a q)[j] = (l.set a q')[j] := by rw [List.getElem_set_ne e, List.getElem_set_ne e]
    rw [e1]; exact List.getElem_mem hj'
noncomputable def optB (a : Nat) (os : List Int) (told : PV) (over : Bool) : Ls := [(nm "source", .ref a), (nm "octets", .bytes os), (nm "told", told), (nm "is_over", .bool over)]
noncomputable def OptInv (ph : List PO) (a i : Nat) (ls : Ls) (ph' : List PO) : Prop := ∃ x2 y2 os told over, ph' = ph.set a (.il [x2, y2]) ∧ SrcOk x2 y2 ∧ os.length ≤ 4 * i ∧ KBa.In os ∧ OptI os told over ∧ (told = .none ∨ ∃ t, told = .int t) ∧
  (ls = optB a os told over ∨ (∃ q1 q2 : Int, ls = optB a os told over ++ [(nm "turn", .int q1), (nm "way", .int q2)]) ∨ ∃ q1 q2 q3 : Int, ls = optB a os told over ++ [(nm "turn", .int q1), (nm "way", .int q2), (nm "size", .int q3)])
theorem OptInv.fin {ph junk : List PO} {a i : Nat} {ls : Ls} {x1 y1 x2 y2 : Int} {os : List Int} {told : PV} {over : Bool} (ha : a < ph.length) (hs : SrcOk x2 y2) (hz : os.length ≤ 4 * (i + 1)) (hin : KBa.In os) (ho : OptI os told over) (ht : told = .none ∨ ∃ t, told = .int t)
    (hl : (∃ q1 q2 : Int, ls = optB a os told over ++ [(nm "turn", .int q1), (nm "way", .int q2)]) ∨ ∃ q1 q2 q3 : Int, ls = optB a os told over ++ [(nm "turn", .int q1), (nm "way", .int q2), (nm "size", .int q3)]) :
    ∃ ph4, ph4.length = (ph.set a (.il [x1, y1])).length ∧ Cut (ph.set a (.il [x1, y1])) (LsLt ls) ph4 (ph.set a (.il [x2, y2]) ++ junk) ∧ OptInv ph a (i + 1) ls ph4 := by
  have hlen : ∀ q : PO, (ph.set a q).length = ph.length := fun q => List.length_set ..
  refine ⟨ph.set a (.il [x2, y2]), by rw [hlen, hlen], ⟨junk, rfl, by rw [hlen, hlen]; exact Nat.le_refl _, .inr ⟨?_, fun p hp => ?_⟩⟩, x2, y2, os, told, over, rfl, hs, hz, hin, ho, ht, .inr hl⟩
  · rw [hlen]
    have base : ∀ q ∈ optB a os told over, q.2.Lt ph.length := fun q hq => by
      rcases List.mem_cons.mp hq with rfl | hq
      · exact ha
      · rcases List.mem_cons.mp hq with rfl | hq
        · exact trivial
        · rcases List.mem_cons.mp hq with rfl | hq
          · rcases ht with rfl | ⟨t, rfl⟩ <;> exact trivial
          · rw [List.mem_singleton.mp hq]; exact trivial
    rcases hl with ⟨q1, q2, rfl⟩ | ⟨q1, q2, q3, rfl⟩ <;> intro q hq <;> rcases List.mem_append.mp hq with hq | hq
    · exact base q hq
    · rcases List.mem_cons.mp hq with rfl | hq
      · exact trivial
      · rw [List.mem_singleton.mp hq]; exact trivial
    · exact base q hq
    · rcases List.mem_cons.mp hq with rfl | hq
      · exact trivial
      · rcases List.mem_cons.mp hq with rfl | hq
        · exact trivial
        · rw [List.mem_singleton.mp hq]; exact trivial
  · rw [hlen]
    rcases mem_set2 (q' := .il [x1, y1]) hp with hp | rfl
    · exact .inl hp
    · exact .inr trivial

theorem one_of5 {v : PV} {a b c d e : Int} {P : Int → Prop} (h : v ∈ [PV.int a, .int b, .int c, .int d, .int e]) (ha : P a) (hb : P b) (hc : P c) (hd : P d) (he : P e) : ∃ z, v = .int z ∧ P z := by
  rcases List.mem_cons.mp h with rfl | h
  · exact ⟨_, rfl, ha⟩
  · rcases List.mem_cons.mp h with rfl | h
    · exact ⟨_, rfl, hb⟩
    · rcases List.mem_cons.mp h with rfl | h
      · exact ⟨_, rfl, hc⟩
      · rcases List.mem_cons.mp h with rfl | h
        · exact ⟨_, rfl, hd⟩
        · rw [List.mem_singleton.mp h]; exact ⟨_, rfl, he⟩

theorem options_vc : VC G2 (stAt 41) [nm "source"] sOptions := by
  intro vs ph k ke h
  unfold sOptions at h
  split at h
  · rename_i a
    obtain ⟨x, y, h1, hs, h⟩ := h
    have ha := get_lt' h1
    refine ⟨rfl, ?_⟩
    conv => whnf
    refine ⟨x, y, h1, hs, by decide, fun d x1 y1 d0 d1 hs1 => ?_⟩
    conv => whnf
    refine ⟨_, _, _, rfl, ⟨by decide, by decide, by omega, by omega, by decide, by decide⟩, OptInv ph a,
      ⟨x1, y1, [], .none, false, rfl, hs1, Nat.le_refl _, in_nil, .inr ⟨rfl, rfl, fun s v hv => hv⟩, .inl rfl, .inl rfl⟩, fun i ls1 ph1 hi hl ⟨x2, y2, os, told, over, e1, hs2, hz, hin, ho, ht, e2⟩ => ?_, fun ls1 ph1 hl ⟨x2, y2, os, told, over, e1, hs2, hz, hin, ho, ht, e2⟩ => ?_⟩
    · have hi3 : i < 3 := by
        have : turns (0, d, 1) = d.toNat := by
          unfold turns Builtin.Range.rangeSize
          simp only
          rw [if_pos (by omega)]
          split <;> omega
        rw [this] at hi
        omega
      have hset : ∀ q : PO, (ph.set a q)[a]? = some q := fun q => List.getElem?_set_self ha
      have hset' : ∀ q q' : PO, (ph.set a q).set a q' = ph.set a q' := fun q q' => List.set_set ..
      have hlen : ∀ q : PO, (ph.set a q).length = ph.length := fun q => List.length_set ..
      subst e1
      clear hl
      rcases e2 with e2 | ⟨q1, q2, e2⟩ | ⟨q1, q2, q3, e2⟩ <;> subst e2
      all_goals
        conv => whnf
        refine ⟨x2, y2, hset _, hs2, by decide, fun w x3 y3 w0 w1 hs3 => ?_⟩
        rw [hset']
        conv => whnf
        refine ifC_mk (fun e => ?_) fun e => ?_
        · conv => whnf
          rw [List.getElem?_concat_length]
          conv => whnf
          refine ⟨⟨in_cons (by decide) in_nil, by show 1 ≤ _; omega⟩, ?_⟩
          conv => whnf
          refine ⟨by show os.length + 1 ≤ _; omega, ?_⟩
          conv => whnf
          refine OptInv.fin ha hs3 (by rw [List.length_append]; show os.length + 1 ≤ _; omega) (in_app hin (in_cons (by decide) in_nil)) (ho.plain fun s v hv => .nop hv) ht ?_
          first | exact .inl ⟨_, _, rfl⟩ | exact .inr ⟨_, _, _, rfl⟩
        · conv => whnf
          refine ifC_mk (fun e => ?_) fun e => ?_
          · conv => whnf
            rw [List.getElem?_concat_length]
            conv => whnf
            refine ⟨⟨in_cons (by decide) (in_cons (by decide) (in_cons (by decide) in_nil)), by show 3 ≤ _; omega⟩, ?_⟩
            conv => whnf
            refine ⟨by show os.length + 3 ≤ _; omega, ?_⟩
            conv => whnf
            refine OptInv.fin ha hs3 (by rw [List.length_append]; show os.length + 3 ≤ _; omega) (in_app hin (in_cons (by decide) (in_cons (by decide) (in_cons (by decide) in_nil)))) (ho.plain fun s v hv => .skip hv) ht ?_
            first | exact .inl ⟨_, _, rfl⟩ | exact .inr ⟨_, _, _, rfl⟩
          · conv => whnf
            refine ifC_mk (fun e => ?_) fun e => ?_
            · conv => whnf
              refine ⟨x3, y3, [.int 0, .int 1, .int 536, .int 1460, .int 65535], ?_, hs3, by rw [hlen]; omega, ?_, ⟨by show 0 < 5; omega, by show 5 ≤ 1000; omega⟩, fun v x4 y4 hv hs4 => ?_⟩
              · rw [List.getElem?_append_left (by rw [hlen]; exact ha)]; exact hset _
              · unfold itemsL
                rw [List.getElem?_concat_length]
                rfl
              obtain ⟨z, rfl, hz0, hz1⟩ := one_of5 (P := fun z => 0 ≤ z ∧ z < 65536) hv (by decide) (by decide) (by decide) (by decide) (by decide)
              rw [List.set_append_left _ _ (by rw [hlen]; exact ha), hset']
              conv => whnf
              refine ⟨⟨hz0, hz1⟩, ?_⟩
              conv => whnf
              refine ⟨by decide, ?_⟩
              conv => whnf
              refine ⟨by decide, ?_⟩
              conv => whnf
              rw [List.getElem?_concat_length]
              conv => whnf
              refine ⟨⟨in_cons (by decide) (in_cons (by decide) (in_cons (by omega) (in_cons (by omega) in_nil))), by show 4 ≤ _; omega⟩, ?_⟩
              conv => whnf
              have eq4 : ([2, 4] ++ put16 z) = [2, 4, z / 256, z % 256] := by
                unfold put16
                rw [show z / 256 % 256 = z / 256 by omega]
                rfl
              refine ifC_mk (fun e => absurd e ?_) fun _ => ?_
              · rw [Bool.not_eq_true, Bool.not_eq_false']
                exact decide_eq_true eq4
              conv => whnf
              refine ⟨⟨hz0, hz1⟩, ?_⟩
              conv => whnf
              refine ⟨by show os.length + 4 ≤ _; omega, ?_⟩
              have hin4 : KBa.In (os ++ ([2, 4] ++ put16 z)) := in_app hin (in_cons (by decide) (in_cons (by decide) (in_put16 z)))
              have hz4 : (os ++ ([2, 4] ++ put16 z)).length ≤ 4 * (i + 1) := by rw [List.length_append]; show os.length + 4 ≤ _; omega
              rcases ht with rfl | ⟨t, rfl⟩
              · cases over with
                | false =>
                  conv => whnf
                  rw [List.append_assoc]
                  refine OptInv.fin ha hs4 hz4 hin4 (ho.mssNew hz0 hz1) (.inr ⟨z, rfl⟩) ?_
                  exact .inr ⟨_, _, _, rfl⟩
                | true =>
                  conv => whnf
                  rw [List.append_assoc]
                  refine OptInv.fin ha hs4 hz4 hin4 (ho.mssOld (.inl rfl)) (.inl rfl) ?_
                  exact .inr ⟨_, _, _, rfl⟩
              · conv => whnf
                rw [List.append_assoc]
                refine OptInv.fin ha hs4 hz4 hin4 (ho.mssOld (.inr (by intro q; cases q))) (.inr ⟨t, rfl⟩) ?_
                exact .inr ⟨_, _, _, rfl⟩
            · conv => whnf
              rw [List.getElem?_concat_length]
              conv => whnf
              refine ⟨⟨in_cons (by decide) in_nil, by show 1 ≤ _; omega⟩, ?_⟩
              conv => whnf
              refine ⟨by show os.length + 1 ≤ _; omega, ?_⟩
              conv => whnf
              refine OptInv.fin ha hs3 (by rw [List.length_append]; show os.length + 1 ≤ _; omega) (in_app hin (in_cons (by decide) in_nil)) ho.stop ht ?_
              first | exact .inl ⟨_, _, rfl⟩ | exact .inr ⟨_, _, _, rfl⟩
    · have hd : turns (0, d, 1) ≤ 3 := by
        have : turns (0, d, 1) = d.toNat := by
          unfold turns Builtin.Range.rangeSize
          simp only
          rw [if_pos (by omega)]
          split <;> omega
        rw [this]
        omega
      subst e1
      have fin := h os told x2 y2 (by omega) hin ho.done ht hs2
      have hlen : (ph.set a (.il [x2, y2])).length = ph.length := List.length_set ..
      rw [← hlen] at fin
      rcases e2 with e2 | ⟨q1, q2, e2⟩ | ⟨q1, q2, q3, e2⟩ <;> subst e2
      all_goals
        rcases ht with rfl | ⟨t, rfl⟩
        all_goals
          conv => whnf
          exact ret_more fin (by rw [List.length_append, hlen]; exact Nat.le_add_right _ _)
  · exact h.elim
end Mine
set_option maxHeartbeats 4000000
namespace Mine

noncomputable def headW (a b c d e f : Int) (op : List Int) : List Int := put16 a ++ put16 b ++ put32 c ++ put32 d ++ [16 * (5 + ((pad4 op).length : Int) / 4), e] ++ put16 f
noncomputable def sWritten : Sp := fun vs ph k _ => match vs with
  | [.ref q, .bytes op, .bytes pl] => ∃ a b c d e f g, ph[q]? = some (.il [a, b, c, d, e, f, g]) ∧ op.length ≤ 36 ∧ pl.length ≤ 1000 ∧ ∀ objs, objs.length = 24 → objs[3]? = some (.il (pad4 op)) → objs[18]? = some (.il (headW a b c d e f op)) →
      objs[22]? = some (.il (put16 g ++ pad4 op ++ pl)) → objs[23]? = some (.pl [.ref (ph.length + 18), .ref (ph.length + 22), .ref (ph.length + 3)]) → k (.ref (ph.length + 23)) (ph ++ objs)
  | _ => False

theorem pad_eq (xs : List Int) : xs ++ List.replicate (3 - ((xs.length : Int) + 3) % 4).toNat 0 = pad4 xs := by
  unfold pad4
  rw [show (3 - ((xs.length : Int) + 3) % 4) = (-(xs.length : Int)) % 4 by omega]
theorem app_at {α : Type} (ph l : List α) (j : Nat) : (ph ++ l)[ph.length + j]? = l[j]? := by
  rw [List.getElem?_append_right (Nat.le_add_right _ _), Nat.add_sub_cancel_left]

theorem app_at0 {α : Type} (ph l : List α) : (ph ++ l)[ph.length]? = l[0]? := app_at ph l 0
theorem mk2 (x y : Int) : mkList [.int x, .int y] = .il [x, y] := rfl
local macro_rules | `(tactic| walk_at "vc nrm") => `(tactic| simp only [List.append_assoc, List.cons_append, List.nil_append, List.length_append, List.length_cons, List.length_nil, Nat.add_assoc, Nat.reduceAdd, app_at, app_at0, mk2])
theorem written_vc : VC G2 (stAt 45) [nm "numbers", nm "options", nm "payload"] sWritten := by
  intro vs ph k ke h
  unfold sWritten at h
  split at h
  · rename_i q op pl
    obtain ⟨a, b, c, d, e, f, g, h1, hz, hp, h⟩ := h
    have hq := get_lt' h1
    refine ⟨rfl, ?_⟩
    conv => whnf
    refine ⟨none, _, fun _ _ => rfl, rfl, ?_⟩
    conv => whnf
    have itm : itemsOf ph (.ref q) = some [.int a, .int b, .int c, .int d, .int e, .int f, .int g] := by unfold itemsOf; dsimp only; rw [h1]; rfl
    refine ⟨_, itm, rfl, _, rfl, ?_⟩
    conv => whnf
    refine ⟨by omega, ?_⟩
    conv => whnf
    refine ⟨by omega, ?_⟩
    conv => whnf
    refine ⟨by decide, ?_⟩
    conv => whnf
    rw [List.getElem?_concat_length]
    conv => whnf
    refine ⟨by omega, ?_⟩
    conv => whnf
    walk_at "vc nrm"
    conv => whnf
    refine ⟨by rw [List.length_replicate]; omega, ?_⟩
    rw [pad_eq]
    have hpad : (pad4 op).length ≤ 40 := by unfold pad4; rw [List.length_append, List.length_replicate]; omega
    conv => whnf
    walk_at "vc nrm"
    conv => whnf
    refine ⟨by show 2 + 2 ≤ _; omega, ?_⟩
    conv => whnf
    walk_at "vc nrm"
    conv => whnf
    refine ⟨by show 4 + 4 ≤ _; omega, ?_⟩
    conv => whnf
    walk_at "vc nrm"
    conv => whnf
    refine ⟨by show 8 + 4 ≤ _; omega, ?_⟩
    conv => whnf
    walk_at "vc nrm"
    conv => whnf
    refine ⟨by omega, ?_⟩
    conv => whnf
    refine ⟨by decide, ?_⟩
    conv => whnf
    refine ⟨.of_left (by decide +kernel), ?_⟩
    conv => whnf
    walk_at "vc nrm"
    conv => whnf
    refine ⟨by show 12 + 2 ≤ _; omega, ?_⟩
    conv => whnf
    walk_at "vc nrm"
    conv => whnf
    refine ⟨by show 14 + 2 ≤ _; omega, ?_⟩
    conv => whnf
    walk_at "vc nrm"
    conv => whnf
    refine ⟨by show 2 + (pad4 op).length ≤ _; omega, ?_⟩
    conv => whnf
    walk_at "vc nrm"
    conv => whnf
    refine ⟨by omega, ?_⟩
    conv => whnf
    walk_at "vc nrm"
    conv => whnf
    refine ⟨by rw [List.length_append]; show 2 + (pad4 op).length + _ ≤ _; omega, ?_⟩
    conv => whnf
    walk_at "vc nrm"
    refine ⟨_, Cut.refl (by rw [List.length_append]; exact Nat.le_add_right _ _), ?_⟩
    refine h _ rfl rfl ?_ rfl rfl
    show some _ = some _
    unfold headW
    walk_at "vc nrm"
  · exact h.elim
end Mine
set_option maxHeartbeats 4000000
namespace Mine

noncomputable def fns2 : List (PySem.Str × Sp) := [(nm "get32", sGet32), (nm "checksum", sChecksum), (nm "mss_of", sMssOf), (nm "_law_address", sAddress), (nm "head_octets", sHead), (nm "_law_options", sOptions), (nm "_law_written", sWritten)] ++ fns1
noncomputable def G3 : Gm := ⟨gvals, fns2, me2⟩

/-- the octets ahead of the sum -/
noncomputable def rawB (a b c d e f g : Int) (op pl : List Int) : List Int := headB a b c d e f g (pad4 op) ++ pl
noncomputable def packB (xs : List Int) (r : Int) : List Int := xs.take 16 ++ put16 (65535 - r) ++ xs.drop 18
noncomputable def sPack : Sp := fun vs ph k ke => match vs with
  | [.int s, .int t, .ref x] => ∃ dd a b c d e f g op pl, ph[x]? = some (.ins dd) ∧ ph[dd]? = some (.di (segDi (.int a) (.int b) (.int c) (.int d) (.int e) (.int f) (.int g) (.bytes op) (.bytes pl))) ∧
      (op.length ≤ 36 ∧ pl.length ≤ 100 ∧ KBa.In op ∧ KBa.In pl ∧ 0 ≤ s ∧ s ≤ 2 ^ 40 ∧ 0 ≤ t ∧ t ≤ 2 ^ 40) ∧
      (FitsAll a b c d e f g → ∀ r, 0 < r → r ≤ 65535 → r % 65535 = (s + t + 6 + ((rawB a b c d e f g op pl).length : Int) + W (rawB a b c d e f g op pl)) % 65535 → k (.bytes (packB (rawB a b c d e f g op pl) r)) ph) ∧
      (¬ FitsAll a b c d e f g → ∀ ph', ke 1 ph')
  | _ => False
theorem in_append {a b : List Int} (h : KBa.In a) (h' : KBa.In b) : KBa.In (a ++ b) := by
  intro x hx
  rcases List.mem_append.mp hx with q | q
  · exact h _ q
  · exact h' _ q
theorem in_pad4 {a : List Int} (h : KBa.In a) : KBa.In (pad4 a) := by
  refine in_append h fun x hx => ?_
  rw [(List.mem_replicate.mp hx).2]; omega
theorem in_rawB (a b c d e f g : Int) {op pl : List Int} (h : KBa.In op) (h' : KBa.In pl) : KBa.In (rawB a b c d e f g op pl) := by
  unfold rawB headB put32
  repeat (first | exact h' | exact in_pad4 h | exact in_put16 _ | refine in_append ?_ ?_)
theorem W_nonneg : ∀ {xs : List Int}, KBa.In xs → 0 ≤ W xs
  | [], _ => Int.le_refl 0
  | [a], h => by have := h a (by simp); show 0 ≤ a * 256; omega
  | a :: b :: r, h => by
    have h1 := h a (by simp); have h2 := h b (by simp)
    have := W_nonneg (xs := r) fun x hx => h x (by simp [hx])
    show 0 ≤ a * 256 + b + W r
    omega
theorem pad4_len (op : List Int) (h : op.length ≤ 36) : (pad4 op).length ≤ 36 ∧ (pad4 op).length % 4 = 0 := by
  unfold pad4; rw [List.length_append, List.length_replicate]; omega
theorem rawB_len (a b c d e f g : Int) (op pl : List Int) : (rawB a b c d e f g op pl).length = 20 + (pad4 op).length + pl.length := by
  unfold rawB headB put32 put16
  simp only [List.length_append, List.length_cons, List.length_nil]
theorem clip_at {n : Nat} (a : Nat) (h : a ≤ n) : clipAt n (a : Int) = a := by
  unfold clipAt
  split <;> omega
theorem pack_vc : VC G3 (stAt 32) [nm "source", nm "target", nm "segment"] sPack := by
  intro vs ph k ke h
  unfold sPack at h
  split at h
  · rename_i s t x
    obtain ⟨dd, a, b, c, d, e, f, g, op, pl, h1, h2, ⟨z1, z2, z3, z4, z5, z6, z7, z8⟩, h3, h4⟩ := h
    have hp := pad4_len op z1
    refine ⟨rfl, ?_⟩
    conv => whnf
    rw [h1]
    conv => whnf
    rw [h2]
    conv => whnf
    refine ⟨z1, ?_⟩
    conv => whnf
    refine ⟨dd, a, b, c, d, e, f, g, _, _, h1, h2, by omega, fun hF => ?_, h4⟩
    conv => whnf
    rw [h1]
    conv => whnf
    rw [h2]
    conv => whnf
    have hl : (headB a b c d e f g (pad4 op)).length + pl.length = 20 + (pad4 op).length + pl.length := by rw [← rawB_len a b c d e f g op pl]; unfold rawB; rw [List.length_append]
    have hl' := rawB_len a b c d e f g op pl
    have hI := in_rawB a b c d e f g z3 z4
    have hW := W_nonneg hI
    refine ⟨by omega, ?_⟩
    change vcB G3 _ _ _ _ (setL _ (.bytes (rawB a b c d e f g op pl)) _) _ _ _ _
    generalize hR : rawB a b c d e f g op pl = R at *
    conv => whnf
    refine ⟨by omega, ?_⟩
    conv => whnf
    refine ⟨⟨z5, z6, z7, z8, by decide, by decide, by omega, by omega⟩, fun p p1 p2 p3 p4 => ?_⟩
    have p4 := p4 (by decide)
    conv => whnf
    refine ⟨by omega, ?_⟩
    conv => whnf
    refine ⟨⟨hI, by omega, p1, by omega⟩, fun r hr => ?_⟩
    obtain ⟨r1, r2, r3, r4⟩ := hr
    have r4 := r4 (by omega)
    conv => whnf
    refine ⟨by omega, ?_⟩
    conv => whnf
    have e16 : clipAt R.length 16 = 16 := clip_at 16 (by omega)
    have e18 : clipAt R.length 18 = 18 := clip_at 18 (by omega)
    have e16' : R.take 16 = List.take ((some 16).elim R.length (clipAt R.length) - none.elim 0 (clipAt R.length)) (List.drop (none.elim 0 (clipAt R.length)) R) := by
      show _ = List.take (clipAt R.length 16 - 0) (List.drop 0 R)
      rw [e16]; rfl
    rw [← e16']
    have lT : (R.take 16).length = 16 := by rw [List.length_take]; omega
    refine ⟨by rw [lT]; show 16 + 2 ≤ _; omega, ?_⟩
    conv => whnf
    refine ⟨by omega, ?_⟩
    conv => whnf
    have e18' : R.drop 18 = List.take (none.elim R.length (clipAt R.length) - (some ((16 : Int) + 2)).elim 0 (clipAt R.length)) (List.drop ((some ((16 : Int) + 2)).elim 0 (clipAt R.length)) R) := by
      show _ = List.take (R.length - clipAt R.length 18) (List.drop (clipAt R.length 18) R)
      rw [e18, List.take_of_length_le (by rw [List.length_drop]; exact Nat.le_refl _)]
    rw [← e18']
    have lD : (R.drop 18).length = R.length - 18 := List.length_drop
    refine ⟨by rw [List.length_append, lT, lD]; show 16 + 2 + _ ≤ _; omega, ?_⟩
    conv => whnf
    exact ret_same (h3 hF r r4 r2 (by rw [r3]; omega))
  · exact h.elim
end Mine
set_option maxHeartbeats 4000000
namespace Mine
noncomputable def sizeB (xs : List Int) : Int := 4 * (getW xs 12 / 4096)
noncomputable def readDi (xs : List Int) : Ls := segDi (.int (getW xs 0)) (.int (getW xs 2)) (.int (getW xs 4 * 65536 + getW xs 6)) (.int (getW xs 8 * 65536 + getW xs 10)) (.int (getW xs 12 % 64)) (.int (getW xs 14)) (.int (getW xs 18))
  (.bytes ((xs.drop 20).take ((sizeB xs).toNat - 20))) (.bytes (xs.drop (sizeB xs).toNat))
noncomputable def sUnpack : Sp := fun vs ph k ke => match vs with
  | [.int s, .int t, .bytes xs] => (KBa.In xs ∧ xs.length ≤ 1000 ∧ 0 ≤ s ∧ s ≤ 2 ^ 40 ∧ 0 ≤ t ∧ t ≤ 2 ^ 40) ∧
      (xs.length < 20 → ∀ ph', ke 0 ph') ∧
      (20 ≤ xs.length → (s + t + 6 + (xs.length : Int) + W xs) % 65535 ≠ 0 → ∀ ph', ke 0 ph') ∧
      (20 ≤ xs.length → (s + t + 6 + (xs.length : Int) + W xs) % 65535 = 0 → (20 ≤ sizeB xs ∧ sizeB xs ≤ xs.length) ∧ k (.ref (ph.length + 1)) (ph ++ [.di (readDi xs), .ins ph.length]))
  | _ => False
theorem set_app0 {α : Type} (ph l : List α) (a c : α) : (ph ++ a :: l).set ph.length c = ph ++ c :: l := by
  rw [List.set_append_right _ _ (Nat.le_refl _), Nat.sub_self]; rfl
local macro_rules | `(tactic| walk_at "vc nrm") => `(tactic| simp only [app_at, app_at0, List.getElem?_cons_succ, List.getElem?_cons_zero, set_app0])
theorem unpack_vc : VC G3 (stAt 33) [nm "source", nm "target", nm "octets"] sUnpack := by
  intro vs ph k ke h
  unfold sUnpack at h
  split at h
  · rename_i s t xs
    obtain ⟨⟨z1, z2, z3, z4, z5, z6⟩, h1, h2, h3⟩ := h
    have hW := W_nonneg z1
    refine ⟨rfl, ?_⟩
    conv => whnf
    refine ⟨by omega, ?_⟩
    conv => whnf
    refine ifC_mk (fun q => ?_) fun q => ?_
    · conv => whnf
      exact h1 (by have := of_decide_eq_true q; omega) _
    · have q : 20 ≤ xs.length := by have := of_decide_eq_false q; omega
      conv => whnf
      refine ⟨by omega, ?_⟩
      conv => whnf
      refine ⟨⟨z3, z4, z5, z6, by decide, by decide, by omega, by omega⟩, fun p p1 p2 p3 p4 => ?_⟩
      have p4 := p4 (by decide)
      conv => whnf
      refine ⟨⟨z1, z2, p1, by omega⟩, fun r ⟨r1, r2, r3, r4⟩ => ?_⟩
      have r4 := r4 (by omega)
      conv => whnf
      refine ifC_mk (fun q2 => ?_) fun q2 => ?_
      · conv => whnf
        exact h2 q (by have := bne_iff_ne.mp q2; omega) _
      · have q2 : r = 65535 := by rcases Decidable.em (r = 65535) with e | e; exact e; rw [bne_iff_ne.mpr e] at q2; cases q2
        obtain ⟨⟨g1, g2⟩, h3⟩ := h3 q (by omega)
        have g2' : (sizeB xs).toNat ≤ xs.length := by omega
        have eS : sizeB xs = 4 * (getW xs 12 / 4096) := rfl
        conv => whnf
        refine ⟨⟨by decide, by omega, z2⟩, fun w1 w2 => ?_⟩
        conv => whnf
        refine ⟨by decide, ?_⟩
        conv => whnf
        refine ⟨.of_left (by decide +kernel), ?_⟩
        have e12 : (2 : Int) ^ Int.toNat 12 = 4096 := rfl
        rw [e12, ← eS]
        conv => whnf
        rw [decide_eq_false (show ¬ sizeB xs < 20 by omega)]
        conv => whnf
        refine ⟨by omega, ?_⟩
        conv => whnf
        rw [decide_eq_false (show ¬ (sizeB xs > (xs.length : Int)) by omega)]
        conv => whnf
        refine ⟨⟨by decide, by omega, z2⟩, fun u1 u2 => ?_⟩
        conv => whnf
        refine ⟨⟨by decide, by omega, z2⟩, fun u3 u4 => ?_⟩
        conv => whnf
        refine ⟨⟨by decide, by omega, z2⟩, ?_⟩
        conv => whnf
        refine ⟨⟨by decide, by omega, z2⟩, ?_⟩
        conv => whnf
        refine ⟨⟨by decide, by omega, z2⟩, fun u5 u6 => ?_⟩
        conv => whnf
        refine ⟨⟨by decide, by omega, z2⟩, fun u7 u8 => ?_⟩
        conv => whnf
        walk_at "vc nrm"
        conv => whnf
        walk_at "vc nrm"
        conv => whnf
        refine ⟨by omega, ?_⟩
        conv => whnf
        walk_at "vc nrm"
        conv => whnf
        walk_at "vc nrm"
        conv => whnf
        refine ⟨by omega, ?_⟩
        conv => whnf
        walk_at "vc nrm"
        conv => whnf
        refine ⟨_, Cut.refl (by rw [List.length_append]; exact Nat.le_add_right _ _), ?_⟩
        have e : ∀ X, X = readDi xs → k (.ref (ph.length + 1)) (ph ++ [.di X, .ins ph.length]) := by intro X e; rw [e]; exact h3
        refine e _ ?_
        show segDi (.int (getW xs 0)) (.int (getW xs 2)) (.int (getW xs 4 * 65536 + getW xs 6)) (.int (getW xs 8 * 65536 + getW xs 10)) (.int (Builtin.bitAnd (getW xs 12) 63)) (.int (getW xs 14)) (.int (getW xs 18))
          (.bytes (List.take (clipAt xs.length (sizeB xs) - clipAt xs.length 20) (List.drop (clipAt xs.length 20) xs))) (.bytes (List.take (xs.length - clipAt xs.length (sizeB xs)) (List.drop (clipAt xs.length (sizeB xs)) xs))) = readDi xs
        have e20 : clipAt xs.length 20 = 20 := clip_at 20 q
        have eSz : clipAt xs.length (sizeB xs) = (sizeB xs).toNat := by
          rw [show clipAt xs.length (sizeB xs) = clipAt xs.length ((sizeB xs).toNat : Int) by rw [Int.toNat_of_nonneg (by omega)]]
          exact clip_at _ g2'
        rw [e20, eSz, bitAnd_m6, List.take_of_length_le (l := List.drop (sizeB xs).toNat xs) (by rw [List.length_drop]; exact Nat.le_refl _)]
        rfl
  · exact h.elim
end Mine
set_option maxHeartbeats 4000000
namespace Mine
noncomputable def fns3 : List (PySem.Str × Sp) := [(nm "pack_segment", sPack), (nm "unpack_segment", sUnpack)] ++ fns2
noncomputable def G4 : Gm := ⟨gvals, fns3, me2⟩
noncomputable def tryE : Option Stmt → Expr
  | some (.FunctionDef _ _ [.Try [.Expr e _] _ _ _ _, _] _ _ _ _ _ _ _) => e
  | _ => .Constant .none 0 default

noncomputable def BadSum (s t : Int) (xs : List Int) : Prop := xs.length < 20 ∨ (s + t + 6 + (xs.length : Int) + W xs) % 65535 ≠ 0
noncomputable def sRefused : Sp := fun vs _ k _ => match vs with
  | [.int s, .int t, .bytes xs] => (KBa.In xs ∧ xs.length ≤ 1000 ∧ 0 ≤ s ∧ s ≤ 2 ^ 40 ∧ 0 ≤ t ∧ t ≤ 2 ^ 40) ∧ BadSum s t xs ∧ ∀ ph', k (.bool true) ph'
  | _ => False
noncomputable def sUnfit : Sp := fun vs ph k _ => match vs with
  | [.ref x] => ∃ a b c d, ph[x]? = some (.tu [.int a, .int b, .int c, .int d]) ∧ ¬ FitsAll a b c 0 0 d 0 ∧ ∀ ph', k (.bool true) ph'
  | _ => False
noncomputable abbrev VTr (G : Gm) (st : Option Stmt) (names : List PySem.Str) (c : Nat) (S : Sp) : Prop :=
  ∀ vs ph k ke, S vs ph k ke → vs.length = names.length ∧ (vcET G (scoS st) (names.zip vs) (fun c' ph1 => c' = c ∧ k (.bool true) ph1) 30).1 (tryE st) ph (fun _ _ => False)
local macro_rules | `(tactic| walk_at "vc nrm") => `(tactic| simp only [app_at, app_at0, List.getElem?_cons_succ, List.getElem?_cons_zero])
theorem refused_vc : VTr G4 (stAt 46) [nm "source", nm "target", nm "octets"] 0 sRefused := by
  intro vs ph k ke h
  unfold sRefused at h
  split at h
  · rename_i s t xs
    obtain ⟨hz, hB, h⟩ := h
    refine ⟨rfl, ?_⟩
    conv => whnf
    refine ⟨hz, fun _ ph' => ⟨rfl, h ph'⟩, fun _ _ ph' => ⟨rfl, h ph'⟩, fun h1 h2 => ?_⟩
    rcases hB with q | q
    · omega
    · exact absurd h2 q
  · exact h.elim
theorem unfit_vc : VTr G4 (stAt 47) [nm "numbers"] 1 sUnfit := by
  intro vs ph k ke h
  unfold sUnfit at h
  split at h
  · rename_i x
    obtain ⟨a, b, c, d, h1, hn, h⟩ := h
    refine ⟨rfl, ?_⟩
    conv => whnf
    iterate 4
      rw [h1]
      conv => whnf
      refine ⟨⟨by decide, by show _ < ((4 : Nat) : Int); decide, by show 4 ≤ _; decide⟩, ?_⟩
      conv => whnf
    have hin : KBa.In [] := fun _ q => absurd q (List.not_mem_nil)
    exact ⟨ph.length, a, b, c, 0, 0, d, 0, [], [], by walk_at "vc nrm", by walk_at "vc nrm"; rfl, ⟨by decide, by decide, hin, hin, by decide, by decide, by decide, by decide⟩, fun hF => absurd hF hn, fun _ ph' => ⟨rfl, h ph'⟩⟩
  · exact h.elim
end Mine
set_option maxHeartbeats 4000000
namespace Mine
noncomputable def fns4 : List (PySem.Str × Sp) := [(nm "_law_is_refused", sRefused), (nm "_law_does_not_fit", sUnfit)] ++ fns3
noncomputable def G5 : Gm := ⟨gvals, fns4, me2⟩
noncomputable def lawS : Scope := scoS (stAt 48)
noncomputable def lawAt (i : Nat) : Stmt := (bodyS (stAt 48)).getD i (.Pass default)
noncomputable abbrev vB : VB := vcB G5 lawS 30 40
noncomputable abbrev vS (i : Nat) := stepS lawS (vEF G5 lawS 30) (vTF G5 lawS 30) vB (lawAt i)
noncomputable def ls0 : Ls := [(cellKey, .ref 0)]
theorem mem_fits {xs : List Int} {b : Nat} {v : PV} (h : xs.all (fun p => decide (0 ≤ p) && decide (p < 2 ^ b)) = true) (hv : v ∈ xs.map PV.int) : ∃ p, v = .int p ∧ fits p b := by
  obtain ⟨p, hp, rfl⟩ := List.mem_map.mp hv
  have := List.all_eq_true.mp h p hp
  rw [Bool.and_eq_true] at this
  exact ⟨p, rfl, of_decide_eq_true this.1, of_decide_eq_true this.2⟩
theorem law1 {x y : Int} {kn kr ke} (hs : SrcOk x y) (h : ∀ a b x y, fits a 32 → fits b 32 → SrcOk x y → kn (ls0 ++ [(nm "other", .int b), (nm "one", .int a)]) [.il [x, y], .tu [.int a, .int b]]) :
    vS 1 ls0 [.il [x, y]] kn kr ke := by
  conv => whnf
  refine ⟨some [nm "one", nm "other"], _, fun env e => by cases env; cases e; rfl, rfl, ?_⟩
  conv => whnf
  refine ⟨x, y, rfl, hs, fun a x1 y1 ha hs1 => ?_⟩
  conv => whnf
  refine ⟨x1, y1, rfl, hs1, fun b x2 y2 hb hs2 => ?_⟩
  conv => whnf
  refine ⟨_, rfl, rfl, _, rfl, ?_⟩
  exact h a b x2 y2 ha hb hs2
noncomputable def ls1 (a b : Int) : Ls := ls0 ++ [(nm "other", .int b), (nm "one", .int a)]
theorem law2 {x y a b : Int} {T : List PV} {kn kr ke} (hs : SrcOk x y) (h : ∀ p q x y L1 L2, fits p 16 → fits q 16 → SrcOk x y → kn (ls1 a b ++ [(nm "ports", .ref 4)]) [.il [x, y], .tu T, .il L1, .il L2, .il [p, q]]) :
    vS 2 (ls1 a b) [.il [x, y], .tu T] kn kr ke := by
  conv => whnf
  refine ⟨x, y, [.int 0, .int 80, .int 65535], rfl, hs, by show 0 ≠ 2; decide, rfl, ⟨by decide, by decide⟩, fun v x1 y1 hv hs1 => ?_⟩
  obtain ⟨p, rfl, hp⟩ := mem_fits (xs := [0, 80, 65535]) (b := 16) (by decide) hv
  conv => whnf
  refine ⟨x1, y1, [.int 1, .int 49152], rfl, hs1, by show 0 ≠ 3; decide, rfl, ⟨by decide, by decide⟩, fun v x2 y2 hv hs2 => ?_⟩
  obtain ⟨q, rfl, hq⟩ := mem_fits (xs := [1, 49152]) (b := 16) (by decide) hv
  exact h p q x2 y2 _ _ hp hq hs2
noncomputable def ls2 (a b : Int) : Ls := ls1 a b ++ [(nm "ports", .ref 4)]
noncomputable def ls3 (a b : Int) : Ls := ls2 a b ++ [(nm "places", .ref 5)]
noncomputable def ls4 (a b f w u : Int) : Ls := ls3 a b ++ [(nm "urgent", .int u), (nm "window", .int w), (nm "flags", .int f)]
theorem law4 {L1 L2 L3 L4 : List Int} {x y a b : Int} {T : List PV} {kn kr ke} (hs : SrcOk x y) (h : ∀ f w u x y L5 L6 T2, fits f 6 → fits w 16 → fits u 16 → SrcOk x y → kn (ls4 a b f w u) [.il [x, y], .tu T, .il L1, .il L2, .il L3, .il L4, .il L5, .il L6, .tu T2]) :
    vS 4 (ls3 a b) [.il [x, y], .tu T, .il L1, .il L2, .il L3, .il L4] kn kr ke := by
  conv => whnf
  refine ⟨some [nm "flags", nm "window", nm "urgent"], _, fun env e => by cases env; cases e; rfl, rfl, ?_⟩
  conv => whnf
  refine ⟨x, y, rfl, hs, by decide, fun f x1 y1 hf1 hf2 hs1 => ?_⟩
  conv => whnf
  refine ⟨x1, y1, [.int 0, .int 1, .int 65535], rfl, hs1, by show 0 ≠ 6; decide, rfl, ⟨by decide, by decide⟩, fun v x2 y2 hv hs2 => ?_⟩
  obtain ⟨w, rfl, hw⟩ := mem_fits (xs := [0, 1, 65535]) (b := 16) (by decide) hv
  conv => whnf
  refine ⟨x2, y2, [.int 0, .int 0, .int 3], rfl, hs2, by show 0 ≠ 7; decide, rfl, ⟨by decide, by decide⟩, fun v x3 y3 hv hs3 => ?_⟩
  obtain ⟨u, rfl, hu⟩ := mem_fits (xs := [0, 0, 3]) (b := 16) (by decide) hv
  conv => whnf
  refine ⟨_, rfl, rfl, _, rfl, ?_⟩
  exact h f w u x3 y3 _ _ _ ⟨hf1, hf2⟩ hw hu hs3
noncomputable def ls5 (a b f w u : Int) : Ls := ls4 a b f w u ++ [(nm "drawn", .ref 9)]
theorem law5 {L1 L2 L3 L4 L5 L6 : List Int} {x y a b f w u : Int} {T T2 : List PV} {kn kr ke} (hs : SrcOk x y) (h : ∀ x y os told, os.length ≤ 12 → KBa.In os → MssI os told → (told = .none ∨ ∃ t, told = .int t) → SrcOk x y → kn (ls5 a b f w u) [.il [x, y], .tu T, .il L1, .il L2, .il L3, .il L4, .il L5, .il L6, .tu T2, .pl [.bytes os, told]]) :
    vS 5 (ls4 a b f w u) [.il [x, y], .tu T, .il L1, .il L2, .il L3, .il L4, .il L5, .il L6, .tu T2] kn kr ke := by
  conv => whnf
  exact ⟨x, y, rfl, hs, fun os told x1 y1 h1 h2 h3 h4 h5 => h x1 y1 os told h1 h2 h3 h4 h5⟩
theorem law6 {L1 L2 L3 L4 L5 L6 os : List Int} {x y a b f w u : Int} {T T2 : List PV} {told : PV} {kn kr ke} (h1 : os.length ≤ 12) (h3 : MssI os told) (h4 : told = .none ∨ ∃ t, told = .int t) (h : kn (ls5 a b f w u) [.il [x, y], .tu T, .il L1, .il L2, .il L3, .il L4, .il L5, .il L6, .tu T2, .pl [.bytes os, told]]) :
    vS 6 (ls5 a b f w u) [.il [x, y], .tu T, .il L1, .il L2, .il L3, .il L4, .il L5, .il L6, .tu T2, .pl [.bytes os, told]] kn kr ke := by
  rcases h4 with rfl | ⟨t, rfl⟩
  all_goals
    conv => whnf
    refine ⟨⟨by decide, by show (0 : Int) < ((2 : Nat) : Int); decide, by show 2 ≤ _; decide⟩, ?_⟩
    conv => whnf
    refine ⟨by omega, _, h3, ?_⟩
    conv => whnf
    refine ⟨⟨by decide, by show (1 : Int) < ((2 : Nat) : Int); decide, by show 2 ≤ _; decide⟩, ?_⟩
    conv => whnf
  · exact h
  · rw [show (t != t) = false by simp]
    conv => whnf
    exact h
end Mine
set_option maxHeartbeats 4000000
namespace Mine
noncomputable def compOf : Stmt → Expr
  | .Assign _ (.Call _ [e] _ _) _ => e
  | .Assign _ e _ => e
  | _ => .Constant .none 0 default
noncomputable def cElt : Expr → Expr
  | .ListComp e _ _ _ => e
  | e => e
noncomputable def cSc : Expr → Scope
  | .ListComp _ _ s _ => s
  | _ => default
noncomputable def cArgs : Expr → List Expr
  | .ListComp _ [⟨_, .Call _ args _ _, _, _⟩] _ _ => args
  | _ => []
noncomputable abbrev vC (i : Nat) := vcComp G5 lawS 30 (cElt (compOf (lawAt i))) (cSc (compOf (lawAt i))) (cArgs (compOf (lawAt i)))
theorem turns_one {d : Int} (h : 0 ≤ d) : turns (0, d, 1) = d.toNat := by
  unfold turns Builtin.Range.rangeSize
  dsimp only
  split
  · split <;> omega
  · omega
noncomputable def ltB (n : Nat) : PV → Bool
  | .ref i => decide (i < n)
  | _ => true
theorem lsLt_of {ls : Ls} {n : Nat} (h : ls.all (fun q => ltB n q.2) = true) : LsLt ls n := fun q hq => by
  have := List.all_eq_true.mp h q hq
  cases e : q.2 with
  | ref i => rw [e] at this; exact (of_decide_eq_true this : i < n)
  | _ => trivial
theorem law3 {L1 L2 L3 : List Int} {x y a b : Int} {T : List PV} {kn : Ls → List PO → Prop} {ke} (hs : SrcOk x y) (h : ∀ p q x y, fits p 32 → fits q 32 → SrcOk x y → kn (ls3 a b) [.il [x, y], .tu T, .il L1, .il L2, .il L3, .il [p, q]]) :
    vC 3 ke (ls2 a b) [.il [x, y], .tu T, .il L1, .il L2, .il L3] (fun v ph1 => kn (setL (nm "places") v (ls2 a b)) ph1) := by
  unfold vC vcComp
  conv => whnf
  refine ⟨0, 2, 1, rfl, by decide, by decide, fun i acc ph2 => ∃ x y, SrcOk x y ∧ ph2 = [.il [x, y], .tu T, .il L1, .il L2, .il L3] ∧ acc.length = i ∧ (∀ p ∈ acc, fits p 32), ⟨x, y, hs, rfl, rfl, fun _ q => by cases q⟩, fun i acc ph2 hi hl ⟨x1, y1, hs1, e1, hz, hf⟩ => ?_, fun acc ph2 hl ⟨x1, y1, hs1, e1, hz, hf⟩ => ?_⟩
  · subst e1
    conv => whnf
    refine ⟨⟨by decide, by decide, by decide⟩, ?_⟩
    conv => whnf
    refine ⟨x1, y1, [.int 0, .int 1, .int 255, .int 65536, .int 4294967295], rfl, hs1, by show 0 ≠ 5; decide, rfl, ⟨by decide, by decide⟩, fun v x2 y2 hv hs2 => ?_⟩
    obtain ⟨p, rfl, hp⟩ := mem_fits (xs := [0, 1, 255, 65536, 4294967295]) (b := 32) (by decide) hv
    refine ⟨p, [.il [x2, y2], .tu T, .il L1, .il L2, .il L3], rfl, rfl, ?_, x2, y2, hs2, rfl, by rw [List.length_append, hz]; rfl, fun r hr => ?_⟩
    · refine ⟨[_], rfl, Nat.le_refl _, .inr ⟨lsLt_of rfl, fun q hq => ?_⟩⟩
      simp only [List.mem_cons, List.not_mem_nil, or_false] at hq
      rcases hq with rfl | rfl | rfl | rfl | rfl
      all_goals first | exact .inr trivial | exact .inl (by simp)
    · rcases List.mem_append.mp hr with hr | hr
      · exact hf r hr
      · rw [List.mem_singleton.mp hr]; exact hp
  · subst e1
    match acc, hz with
    | [p, q], _ => exact h p q x1 y1 (hf p (by simp)) (hf q (by simp)) hs1
noncomputable def ls6 (a b f w u : Int) : Ls := ls5 a b f w u ++ [(nm "payload", .bytes [])]
theorem law7 {L1 L2 L3 L4 L5 L6 os : List Int} {x y a b f w u : Int} {T T2 : List PV} {told : PV} {kn : Ls → List PO → Prop} {ke} (hs : SrcOk x y) (h : ∀ pl x y, pl.length < 10 → KBa.In pl → SrcOk x y → kn (ls5 a b f w u ++ [(nm "payload", .bytes pl)]) [.il [x, y], .tu T, .il L1, .il L2, .il L3, .il L4, .il L5, .il L6, .tu T2, .pl [.bytes os, told], .il pl]) :
    vC 7 ke (ls5 a b f w u) [.il [x, y], .tu T, .il L1, .il L2, .il L3, .il L4, .il L5, .il L6, .tu T2, .pl [.bytes os, told]] (fun v ph1 => vcBi .bytes [v] ph1 fun z ph2 => kn (setL (nm "payload") z (ls5 a b f w u)) ph2) := by
  unfold vC vcComp
  conv => whnf
  refine ⟨x, y, rfl, hs, by decide, fun n x1 y1 hn1 hn2 hs1 => ?_⟩
  conv => whnf
  refine ⟨0, n, 1, rfl, by omega, ?_, fun i acc ph2 => ∃ x y, SrcOk x y ∧ ph2 = [.il [x, y], .tu T, .il L1, .il L2, .il L3, .il L4, .il L5, .il L6, .tu T2, .pl [.bytes os, told]] ∧ acc.length = i ∧ KBa.In acc, ⟨x1, y1, hs1, rfl, rfl, in_nil⟩, fun i acc ph2 hi hl ⟨x2, y2, hs2, e1, hz, hf⟩ => ?_, fun acc ph2 hl ⟨x2, y2, hs2, e1, hz, hf⟩ => ?_⟩
  · rw [turns_one hn1]; omega
  · subst e1
    conv => whnf
    refine ⟨x2, y2, [.int 0, .int 255, .int 97, .int 7], rfl, hs2, by show 0 ≠ 10; decide, rfl, ⟨by decide, by decide⟩, fun v x3 y3 hv hs3 => ?_⟩
    obtain ⟨p, rfl, hp⟩ := mem_fits (xs := [0, 255, 97, 7]) (b := 8) (by decide) hv
    refine ⟨p, [.il [x3, y3], .tu T, .il L1, .il L2, .il L3, .il L4, .il L5, .il L6, .tu T2, .pl [.bytes os, told]], rfl, rfl, ?_, x3, y3, hs3, rfl, by rw [List.length_append, hz]; rfl, in_append hf (in_cons ⟨hp.1, hp.2⟩ in_nil)⟩
    refine ⟨[_], rfl, Nat.le_refl _, .inr ⟨lsLt_of rfl, fun q hq => ?_⟩⟩
    simp only [List.mem_cons, List.not_mem_nil, or_false] at hq
    rcases hq with rfl | rfl | rfl | rfl | rfl | rfl | rfl | rfl | rfl | rfl
    all_goals first | exact .inr trivial | exact .inl (by simp)
  · subst e1
    rw [turns_one hn1] at hz
    conv => whnf
    exact ⟨⟨hf, by omega⟩, h acc x2 y2 (by omega) hf hs2⟩
end Mine
set_option maxHeartbeats 4000000
namespace Mine
/-! ## sums of words -/
theorem W_dropLast : ∀ xs : List Int, xs ≠ [] → ∃ v ∈ xs, W xs = W xs.dropLast + v ∨ W xs = W xs.dropLast + v * 256
  | [], h => absurd rfl h
  | [a], _ => ⟨a, by simp, .inr (by show a * 256 = 0 + a * 256; omega)⟩
  | [a, b], _ => ⟨b, by simp, .inl (by show a * 256 + b + 0 = a * 256 + b; omega)⟩
  | a :: b :: c :: r, _ => by
    obtain ⟨v, hv, h⟩ := W_dropLast (c :: r) (by simp)
    refine ⟨v, List.mem_cons_of_mem _ (List.mem_cons_of_mem _ hv), ?_⟩
    have e : W (a :: b :: c :: r).dropLast = a * 256 + b + W (c :: r).dropLast := rfl
    have e' : W (a :: b :: c :: r) = a * 256 + b + W (c :: r) := rfl
    rw [e, e']
    rcases h with h | h <;> rw [h]
    · exact .inl (by omega)
    · exact .inr (by omega)
theorem W_set : ∀ (xs : List Int) (i : Nat) (v : Int), i < xs.length → W (xs.set i v) = W xs + (v - xs.getD i 0) ∨ W (xs.set i v) = W xs + (v - xs.getD i 0) * 256
  | [], i, v, h => absurd h (Nat.not_lt_zero _)
  | [a], 0, v, _ => .inr (by show v * 256 = a * 256 + (v - a) * 256; omega)
  | [a], i + 1, v, h => by simp at h
  | a :: b :: r, 0, v, _ => .inr (by show v * 256 + b + W r = a * 256 + b + W r + (v - a) * 256; omega)
  | a :: b :: r, 1, v, _ => .inl (by show a * 256 + v + W r = a * 256 + b + W r + (v - b); omega)
  | a :: b :: r, i + 2, v, h => by
    have h' : i < r.length := by simpa using h
    have e : W ((a :: b :: r).set (i + 2) v) = a * 256 + b + W (r.set i v) := rfl
    have e' : W (a :: b :: r) = a * 256 + b + W r := rfl
    have e2 : (a :: b :: r).getD (i + 2) 0 = r.getD i 0 := rfl
    rw [e, e', e2]
    rcases W_set r i v h' with h | h <;> rw [h]
    · exact .inl (by omega)
    · exact .inr (by omega)

/-! ## the octets of a segment -/
theorem put16_sum {n : Int} (h : fits n 16) : n / 256 % 256 * 256 + n % 256 = n := by
  obtain ⟨h0, h1⟩ := h
  have : n < 65536 := h1
  omega
theorem rawB_cons (a b c d e f g : Int) (op pl : List Int) : rawB a b c d e f g op pl = (put16 a ++ put16 b ++ put32 c ++ put32 d ++ put16 ((20 + ((pad4 op).length : Int)) / 4 * 4096 + e) ++ put16 f) ++ (0 :: 0 :: (put16 g ++ pad4 op ++ pl)) := rfl
theorem packB_cons (a b c d e f g r : Int) (op pl : List Int) : packB (rawB a b c d e f g op pl) r = (put16 a ++ put16 b ++ put32 c ++ put32 d ++ put16 ((20 + ((pad4 op).length : Int)) / 4 * 4096 + e) ++ put16 f) ++ (put16 (65535 - r) ++ (put16 g ++ pad4 op ++ pl)) := rfl
theorem pack_W {a b c d e f g r : Int} {op pl : List Int} (h0 : 0 ≤ r) (h1 : r ≤ 65535) : W (packB (rawB a b c d e f g op pl) r) = W (rawB a b c d e f g op pl) + (65535 - r) := by
  have hq : (65535 - r) / 256 % 256 * 256 + (65535 - r) % 256 = 65535 - r := put16_sum ⟨by omega, by show _ < (65536 : Int); omega⟩
  have key : ∀ (A : List Int), A.length = 16 → ∀ p q B, W (A ++ (p :: q :: B)) = W (A ++ (0 :: 0 :: B)) + (p * 256 + q) := by
    intro A hA p q B
    match A, hA with
    | [_, _, _, _, _, _, _, _, _, _, _, _, _, _, _, _], _ =>
      simp only [List.cons_append, List.nil_append, W]
      omega
  rw [packB_cons, rawB_cons]
  refine (key _ rfl _ _ _).trans ?_
  rw [hq]
  rfl
theorem pack_len (a b c d e f g r : Int) (op pl : List Int) : (packB (rawB a b c d e f g op pl) r).length = 20 + (pad4 op).length + pl.length := by
  rw [packB_cons]
  unfold put16 put32 put16
  simp only [List.length_append, List.length_cons, List.length_nil]
  omega
theorem in_pack (a b c d e f g r : Int) {op pl : List Int} (h : KBa.In op) (h' : KBa.In pl) : KBa.In (packB (rawB a b c d e f g op pl) r) := by
  rw [packB_cons]
  unfold put32
  repeat (first | exact h' | exact in_pad4 h | exact in_put16 _ | refine in_append ?_ ?_)
theorem word12 {n e : Int} (hn : 0 ≤ n) (hn' : n ≤ 36) (h4 : n % 4 = 0) (he : fits e 6) : put16 ((20 + n) / 4 * 4096 + e) = [16 * (5 + n / 4), e] := by
  obtain ⟨h0, h1⟩ := he
  have h1 : e < 64 := h1
  unfold put16
  rw [show ((20 + n) / 4 * 4096 + e) / 256 % 256 = 16 * (5 + n / 4) by omega, show ((20 + n) / 4 * 4096 + e) % 256 = e by omega]
theorem pack_head {a b c d e f g r : Int} {op pl : List Int} (hz : op.length ≤ 36) (he : fits e 6) : (packB (rawB a b c d e f g op pl) r).take 16 = headW a b c d e f op := by
  have := pad4_len op hz
  have e1 := word12 (n := ((pad4 op).length : Int)) (by omega) (by omega) (by omega) he
  rw [packB_cons, e1]
  rfl
theorem pack_rest (a b c d e f g r : Int) (op pl : List Int) : (packB (rawB a b c d e f g op pl) r).drop 18 = put16 g ++ pad4 op ++ pl := by
  rw [packB_cons]; rfl
/-! ## a bit turned -/
theorem and_bit (n k : Nat) : n &&& 2 ^ k = if n.testBit k then 2 ^ k else 0 := by
  apply Nat.eq_of_testBit_eq
  intro i
  rw [Nat.testBit_and, Nat.testBit_two_pow]
  by_cases hi : k = i
  · subst hi
    cases q : n.testBit k <;> simp [q]
  · cases q : n.testBit k <;> simp [hi, Nat.testBit_two_pow]
theorem xor_bit {x : Int} (k : Nat) (hx : 0 ≤ x) : (Builtin.bitXor x (2 ^ k) = x + 2 ^ k) ∨ (Builtin.bitXor x (2 ^ k) = x - 2 ^ k ∧ 2 ^ k ≤ x) := by
  obtain ⟨n, rfl⟩ := Int.eq_ofNat_of_zero_le hx
  have e : ((2 : Int) ^ k) = ((2 ^ k : Nat) : Int) := by simp
  rw [bitXor_and, e, bitAnd_pp (Int.natCast_nonneg _) (Int.natCast_nonneg _)]
  simp only [Int.toNat_natCast]
  rw [and_bit]
  cases q : n.testBit k with
  | false => exact .inl (by simp)
  | true =>
    refine .inr ⟨by rw [if_pos rfl]; omega, ?_⟩
    exact_mod_cast Nat.ge_two_pow_of_testBit q
theorem xor_byte {x : Int} {k : Nat} (h0 : 0 ≤ x) (h1 : x < 256) (hk : k < 8) : 0 ≤ Builtin.bitXor x (2 ^ k) ∧ Builtin.bitXor x (2 ^ k) < 256 := by
  obtain ⟨n, rfl⟩ := Int.eq_ofNat_of_zero_le h0
  have key : ∀ n < 256, ∀ k < 8, 0 ≤ Builtin.bitXor ((n : Nat) : Int) (2 ^ k) ∧ Builtin.bitXor ((n : Nat) : Int) (2 ^ k) < 256 := by decide +kernel
  exact key n (by omega) k hk
/-! ## what is refused -/
theorem bad_last {s t : Int} {xs : List Int} (hi : KBa.In xs) (h : (s + t + 6 + (xs.length : Int) + W xs) % 65535 = 0) (hl : 20 ≤ xs.length) : BadSum s t xs.dropLast := by
  have hne : xs ≠ [] := fun q => by rw [q] at hl; simp at hl
  obtain ⟨v, hv, hw⟩ := W_dropLast xs hne
  have hb := hi v hv
  unfold BadSum
  rw [List.length_dropLast]
  refine .inr ?_
  rw [show ((xs.length - 1 : Nat) : Int) = (xs.length : Int) - 1 by omega]
  rcases hw with hw | hw <;> omega
theorem sum_off {t d : Int} (h : t % 65535 = 0) (h1 : 0 < d % 65535) : (t + d) % 65535 ≠ 0 ∧ (t - d) % 65535 ≠ 0 := by omega
theorem bad_address {s t : Int} {xs : List Int} {k : Nat} (hs : 0 ≤ s) (hk : k < 8) (h : (s + t + 6 + (xs.length : Int) + W xs) % 65535 = 0) : BadSum (Builtin.bitXor s (2 ^ (4 * k))) t xs := by
  refine .inr ?_
  have key : ∀ k < 8, 0 < (2 : Int) ^ (4 * k) % 65535 := by decide
  have o := sum_off h (key k hk)
  rcases xor_bit (4 * k) hs with q | ⟨q, _⟩ <;> rw [q] <;> clear key q hs hk <;> generalize (2 : Int) ^ (4 * k) = p at o
  · rw [show s + p + t + 6 + (xs.length : Int) + W xs = s + t + 6 + (xs.length : Int) + W xs + p by omega]; exact o.1
  · rw [show s - p + t + 6 + (xs.length : Int) + W xs = s + t + 6 + (xs.length : Int) + W xs - p by omega]; exact o.2
theorem bad_bit {s t : Int} {xs : List Int} {i k : Nat} (hi : KBa.In xs) (h : (s + t + 6 + (xs.length : Int) + W xs) % 65535 = 0) (hl : i < xs.length) (hk : k < 8) : BadSum s t (xs.set i (Builtin.bitXor (xs.getD i 0) (2 ^ k))) := by
  refine .inr ?_
  have hb : 0 ≤ xs.getD i 0 := by
    rw [List.getD_eq_getElem?_getD, List.getElem?_eq_getElem hl]
    exact (hi _ (List.getElem_mem hl)).1
  rw [List.length_set]
  have key : ∀ k < 8, 0 < (2 : Int) ^ k % 65535 ∧ 0 < (2 : Int) ^ k * 256 % 65535 := by decide
  have o1 := sum_off h (key k hk).1
  have o2 := sum_off h (key k hk).2
  have hw := W_set xs i (Builtin.bitXor (xs.getD i 0) (2 ^ k)) hl
  generalize s + t + 6 + (xs.length : Int) = n at *
  rcases xor_bit k hb with q | ⟨q, _⟩ <;> rw [q] at hw ⊢ <;> clear key q hb hi hk hl <;> generalize xs.getD i 0 = v at hw ⊢ <;> generalize (2 : Int) ^ k = p at o1 o2 hw ⊢
  · rcases hw with hw | hw <;> rw [hw]
    · rw [show n + (W xs + (v + p - v)) = n + W xs + p by omega]; exact o1.1
    · rw [show n + (W xs + (v + p - v) * 256) = n + W xs + p * 256 by omega]; exact o2.1
  · rcases hw with hw | hw <;> rw [hw]
    · rw [show n + (W xs + (v - p - v)) = n + W xs - p by omega]; exact o1.2
    · rw [show n + (W xs + (v - p - v) * 256) = n + W xs - p * 256 by omega]; exact o2.2
theorem in_set {xs : List Int} {i : Nat} {v : Int} (h : KBa.In xs) (h0 : 0 ≤ v ∧ v < 256) : KBa.In (xs.set i v) := fun x hx => by
  rcases List.mem_or_eq_of_mem_set hx with q | rfl
  · exact h x q
  · exact h0
theorem in_dropLast {xs : List Int} (h : KBa.In xs) : KBa.In xs.dropLast := fun x hx => h x (List.dropLast_subset _ hx)
end Mine
set_option maxHeartbeats 4000000
namespace Mine
theorem put16_sum' (n : Int) : n / 256 % 256 * 256 + n % 256 = n % 65536 := by omega
theorem pack_read {a b c d e f g r : Int} {op pl : List Int} (hz : op.length ≤ 36) (hF : FitsAll a b c d e f g) :
    sizeB (packB (rawB a b c d e f g op pl) r) = 20 + ((pad4 op).length : Int) ∧ readDi (packB (rawB a b c d e f g op pl) r) = segDi (.int a) (.int b) (.int c) (.int d) (.int e) (.int f) (.int g) (.bytes (pad4 op)) (.bytes pl) := by
  obtain ⟨⟨ha, hb, hf, hg⟩, hc, hd, he⟩ := hF
  have hp := pad4_len op hz
  have hc1 : c < 4294967296 := hc.2
  have hd1 : d < 4294967296 := hd.2
  have he1 : e < 64 := he.2
  have hc0 := hc.1
  have hd0 := hd.1
  have he0 := he.1
  rw [packB_cons]
  generalize hpd : pad4 op = P at *
  generalize hO : (put16 a ++ put16 b ++ put32 c ++ put32 d ++ put16 ((20 + (P.length : Int)) / 4 * 4096 + e) ++ put16 f) ++ (put16 (65535 - r) ++ (put16 g ++ P ++ pl)) = O
  have g0 : getW O 0 = a := by rw [← hO]; exact put16_sum ha
  have g2 : getW O 2 = b := by rw [← hO]; exact put16_sum hb
  have g4 : getW O 4 = c / 65536 := by rw [← hO]; exact put16_sum ⟨by omega, by show _ < (65536 : Int); omega⟩
  have g6 : getW O 6 = c % 65536 := by rw [← hO]; exact put16_sum' c
  have g8 : getW O 8 = d / 65536 := by rw [← hO]; exact put16_sum ⟨by omega, by show _ < (65536 : Int); omega⟩
  have g10 : getW O 10 = d % 65536 := by rw [← hO]; exact put16_sum' d
  have g12 : getW O 12 = (20 + (P.length : Int)) / 4 * 4096 + e := by rw [← hO]; exact put16_sum ⟨by omega, by show _ < (65536 : Int); omega⟩
  have g14 : getW O 14 = f := by rw [← hO]; exact put16_sum hf
  have g18 : getW O 18 = g := by rw [← hO]; exact put16_sum hg
  have hS : sizeB O = 20 + (P.length : Int) := by unfold sizeB; rw [g12]; omega
  have hd20 : O.drop 20 = P ++ pl := by rw [← hO]; rfl
  have hdS : O.drop (20 + P.length) = pl := by
    rw [← List.drop_drop, hd20, List.drop_left]
  refine ⟨hS, ?_⟩
  unfold readDi
  rw [hS, g0, g2, g4, g6, g8, g10, g12, g14, g18, hd20]
  rw [show (20 + (P.length : Int)).toNat = 20 + P.length by omega, hdS, show 20 + P.length - 20 = P.length by omega, List.take_left]
  rw [show c / 65536 * 65536 + c % 65536 = c by omega, show d / 65536 * 65536 + d % 65536 = d by omega, show ((20 + (P.length : Int)) / 4 * 4096 + e) % 64 = e by omega]
theorem pack_total {a b c d e f g r s t : Int} {op pl : List Int} (h0 : 0 < r) (h1 : r ≤ 65535) (h : r % 65535 = (s + t + 6 + ((rawB a b c d e f g op pl).length : Int) + W (rawB a b c d e f g op pl)) % 65535) :
    (s + t + 6 + ((packB (rawB a b c d e f g op pl) r).length : Int) + W (packB (rawB a b c d e f g op pl) r)) % 65535 = 0 := by
  rw [pack_W (Int.le_of_lt h0) h1, pack_len]
  rw [rawB_len] at h
  omega
/-- the law's own sum of the addresses -/
theorem W_four (s t : Int) : W (put32 s ++ put32 t) = s / 65536 % 65536 + s % 65536 + (t / 65536 % 65536 + t % 65536) := by
  have h : W (put32 s ++ put32 t) = (s / 65536) / 256 % 256 * 256 + (s / 65536) % 256 + (s / 256 % 256 * 256 + s % 256 + ((t / 65536) / 256 % 256 * 256 + (t / 65536) % 256 + (t / 256 % 256 * 256 + t % 256 + 0))) := rfl
  rw [h]
  omega
theorem pseudo_zero {s t n w : Int} (hs : fits s 32) (ht : fits t 32) (h : (s + t + 6 + n + w) % 65535 = 0) : (W (put32 s ++ put32 t) + 6 + n + w) % 65535 = 0 := by
  obtain ⟨h0, h1⟩ := hs
  obtain ⟨h2, h3⟩ := ht
  have h1 : s < 4294967296 := h1
  have h3 : t < 4294967296 := h3
  rw [W_four]
  have e1 : s / 65536 % 65536 = s / 65536 := by omega
  have e2 : t / 65536 % 65536 = t / 65536 := by omega
  have e3 : s = 65536 * (s / 65536) + s % 65536 := by omega
  have e4 : t = 65536 * (t / 65536) + t % 65536 := by omega
  rw [e1, e2]
  generalize s / 65536 = q1 at *
  generalize s % 65536 = r1 at *
  generalize t / 65536 = q2 at *
  generalize t % 65536 = r2 at *
  have e5 : s + t + 6 + n + w = 65535 * (q1 + q2) + (q1 + r1 + (q2 + r2) + 6 + n + w) := by omega
  rw [e5] at h
  omega
theorem in_four (s t : Int) : KBa.In (put32 s ++ put32 t) := by
  unfold put32
  repeat (first | exact in_put16 _ | refine in_append ?_ ?_)
end Mine
set_option maxHeartbeats 8000000
namespace Mine
noncomputable def lsP (a b f w u : Int) (pl : List Int) : Ls := ls5 a b f w u ++ [(nm "payload", .bytes pl)]
local macro_rules | `(tactic| walk_at "vc nrm") => `(tactic| simp only [app_at, app_at0, List.getElem?_cons_succ, List.getElem?_cons_zero, set_app0])
theorem five {α : Type} (ph : List α) (A B C D M : α) : ph ++ [A] ++ [B] ++ [C] ++ [D] ++ [M] = ph ++ [A, B, C, D, M] := by simp
theorem len_one {α : Type} (ph : List α) (A : α) : (ph ++ [A]).length = ph.length + 1 := by simp
theorem len_three {α : Type} (ph : List α) (A B C : α) : (ph ++ [A] ++ [B] ++ [C]).length = ph.length + 3 := by simp
theorem len_four {α : Type} (ph : List α) (A B C D : α) : (ph ++ [A] ++ [B] ++ [C] ++ [D]).length = ph.length + 4 := by simp
noncomputable def lsQ (a b f w u : Int) (pl O : List Int) : Ls := lsP a b f w u pl ++ [(nm "numbers", .ref 13), (nm "segment", .ref 15), (nm "octets", .bytes O), (nm "head", .ref 34), (nm "rest", .ref 38), (nm "filled", .ref 19)]
noncomputable def restC : List Stmt := (bodyS (stAt 48)).drop 12
noncomputable def restD : List Stmt := (bodyS (stAt 48)).drop 17
noncomputable def lsR (a b f w u : Int) (pl O : List Int) : Ls := lsQ a b f w u pl O ++ [(nm "pseudo", .int (W (put32 a ++ put32 b) + 6 + (O.length : Int)))]
theorem law10 {pl O : List Int} {x y a b f w u : Int} {kn : Ls → List PO → Prop} {ke} {ph : List PO} (hs : SrcOk x y) (ha : fits a 32) (hb : fits b 32) (hL : 20 ≤ O.length) (hL' : O.length ≤ 1000) (hI : KBa.In O)
    (hT : (a + b + 6 + (O.length : Int) + W O) % 65535 = 0) (hph : ph[0]? = some (.il [x, y])) :
    vcB G5 lawS 30 31 restD (lsR a b f w u pl O) ph kn (fun v _ => v = .bool true) ke := by
  have ha1 : a < 4294967296 := ha.2
  have hb1 : b < 4294967296 := hb.2
  have ha0 := ha.1
  have hb0 := hb.1
  have hl1 := get_lt' hph
  conv => whnf
  refine ⟨some [nm "way", nm "bit"], _, fun env e => by cases env; cases e; rfl, rfl, ?_⟩
  conv => whnf
  refine ⟨x, y, hph, hs, by decide, fun v x1 y1 v0 v1 hs1 => ?_⟩
  conv => whnf
  refine ⟨x1, y1, List.getElem?_set_self hl1, hs1, by decide, fun k x2 y2 k0 k1 hs2 => ?_⟩
  rw [List.set_set]
  conv => whnf
  have itm : itemsOf (ph.set 0 (.il [x2, y2]) ++ [.tu [.int v, .int k]]) (.ref (ph.set 0 (.il [x2, y2])).length) = some [.int v, .int k] := by unfold itemsOf; dsimp only; rw [List.getElem?_concat_length]
  refine ⟨_, itm, rfl, _, rfl, ?_⟩
  have hq : (ph.set 0 (.il [x2, y2]) ++ [.tu [.int v, .int k]])[0]? = some (.il [x2, y2]) := by rw [List.getElem?_append_left (by rw [List.length_set]; exact hl1), List.getElem?_set_self hl1]
  generalize ph.set 0 (.il [x2, y2]) ++ [.tu [.int v, .int k]] = ph2 at hq ⊢
  have hl2 := get_lt' hq
  conv => whnf
  refine ifC_mk (fun q => ?_) fun q => ?_
  · conv => whnf
    refine ⟨by omega, ?_⟩
    conv => whnf
    have e : List.take ((some (-1 : Int)).elim O.length (clipAt O.length) - none.elim 0 (clipAt O.length)) (List.drop (none.elim 0 (clipAt O.length)) O) = O.dropLast := by
      show List.take (clipAt O.length (-1) - 0) (List.drop 0 O) = _
      rw [show clipAt O.length (-1) = O.length - 1 by unfold clipAt; split <;> omega, List.dropLast_eq_take]
      rfl
    rw [e]
    exact ⟨⟨in_dropLast hI, by rw [List.length_dropLast]; omega, ha0, by omega, hb0, by omega⟩, bad_last hI hT hL, fun _ => rfl⟩
  conv => whnf
  refine ifC_mk (fun q2 => ?_) fun q2 => ?_
  · conv => whnf
    refine ⟨.of_left (by decide +kernel), ?_⟩
    conv => whnf
    refine ⟨⟨by omega, by omega, by decide⟩, ?_⟩
    conv => whnf
    have e : (4 * k).toNat = 4 * k.toNat := by omega
    rw [e]
    have hx : 0 ≤ Builtin.bitXor a (2 ^ (4 * k.toNat)) ∧ Builtin.bitXor a (2 ^ (4 * k.toNat)) ≤ 2 ^ 40 := by
      have hk : ((2 : Int) ^ (4 * k.toNat)) ≤ 2 ^ 28 := by
        have : ((2 : Int) ^ (4 * k.toNat)) = ((2 ^ (4 * k.toNat) : Nat) : Int) := by simp
        rw [this]
        exact_mod_cast Nat.pow_le_pow_right (by decide) (show 4 * k.toNat ≤ 28 by omega)
      have hk0 : (0 : Int) ≤ 2 ^ (4 * k.toNat) := Int.le_of_lt (Int.pow_pos (by decide))
      rcases xor_bit (4 * k.toNat) ha0 with q | ⟨q, q'⟩ <;> rw [q] <;> omega
    exact ⟨⟨hI, hL', hx.1, hx.2, hb0, by omega⟩, bad_address ha0 (by omega) hT, fun _ => rfl⟩
  conv => whnf
  refine ifC_mk (fun q3 => ?_) fun q3 => ?_
  · conv => whnf
    refine ⟨⟨by decide, by decide, by decide⟩, ?_⟩
    conv => whnf
    rw [five]
    rw [len_four, len_three, len_two, len_one]
    refine ⟨x2, y2, [.ref ph2.length, .ref (ph2.length + 1), .ref (ph2.length + 2), .ref (ph2.length + 3)], ?_, hs2, by omega, ?_, ⟨by show 0 < 4; decide, by show 4 ≤ 1000; decide⟩, fun v' x3 y3 hv hs3 => ?_⟩
    · rw [List.getElem?_append_left hl2]; exact hq
    · unfold itemsL
      rw [app_at]
      rfl
    · rw [List.set_append_left _ _ hl2]
      have e0 : ph2.length = (ph2.set 0 (PO.il [x3, y3])).length := (List.length_set ..).symm
      simp only [List.mem_cons, List.not_mem_nil, or_false] at hv
      rcases hv with rfl | rfl | rfl | rfl
      all_goals conv => whnf
      · exact ⟨_, _, _, _, by rw [e0, app_at0]; rfl, fun hF => absurd hF.1.1.2 (by decide), fun _ => rfl⟩
      · exact ⟨_, _, _, _, by rw [e0, app_at]; rfl, fun hF => absurd hF.1.2.1.1 (by decide), fun _ => rfl⟩
      · exact ⟨_, _, _, _, by rw [e0, app_at]; rfl, fun hF => absurd hF.2.1.2 (by decide), fun _ => rfl⟩
      · exact ⟨_, _, _, _, by rw [e0, app_at]; rfl, fun hF => absurd hF.1.2.2.1.2 (by decide), fun _ => rfl⟩
  conv => whnf
  refine ⟨by omega, ?_⟩
  conv => whnf
  refine ⟨x2, y2, hq, hs2, by omega, fun d x3 y3 d0 d1 hs3 => ?_⟩
  conv => whnf
  refine ⟨by omega, ?_⟩
  generalize ph2.set 0 (.il [x3, y3]) = ph3
  conv => whnf
  rw [List.getElem?_concat_length]
  conv => whnf
  refine ⟨⟨d0, d1, by omega⟩, ?_⟩
  conv => whnf
  refine ⟨⟨k0, by omega, by decide⟩, ?_⟩
  conv => whnf
  rw [List.getElem?_concat_length]
  conv => whnf
  refine ⟨⟨d0, d1, by omega⟩, ?_⟩
  rw [List.set_append_right _ _ (Nat.le_refl _), Nat.sub_self]
  conv => whnf
  have e1 : (ph3 ++ [PO.il O].set 0 (PO.il (O.set d.toNat (Builtin.bitXor (O.getD d.toNat 0) (2 ^ k.toNat)))))[ph3.length]? = some (.il (O.set d.toNat (Builtin.bitXor (O.getD d.toNat 0) (2 ^ k.toNat)))) := app_at0 _ _
  rw [e1]
  have hd : d.toNat < O.length := by omega
  have hb0 : 0 ≤ O.getD d.toNat 0 ∧ O.getD d.toNat 0 < 256 := by
    rw [List.getD_eq_getElem?_getD, List.getElem?_eq_getElem hd]
    exact hI _ (List.getElem_mem hd)
  have hO : KBa.In (O.set d.toNat (Builtin.bitXor (O.getD d.toNat 0) (2 ^ k.toNat))) := in_set hI (xor_byte hb0.1 hb0.2 (by omega))
  conv => whnf
  refine ⟨⟨hO, by rw [List.length_set]; omega⟩, ?_⟩
  conv => whnf
  exact ⟨⟨hO, by rw [List.length_set]; exact hL', ha0, by omega, hb.1, by omega⟩, bad_bit hI hT hd (by omega), fun _ => rfl⟩
end Mine
set_option maxHeartbeats 8000000
namespace Mine
local macro_rules | `(tactic| walk_at "vc nrm") => `(tactic| simp only [app_at, app_at0, List.getElem?_cons_succ, List.getElem?_cons_zero, set_app0])
theorem law9 {L1 L2 L5 L6 os pl O : List Int} {x y a b f w u p q s k : Int} {T T2 : List PV} {told : PV} {kn : Ls → List PO → Prop} {ke} {o13 o12 o0 o1 o2 o4 o5 o6 o7 o8 o9 o10 o11 n12 n13 o14 o15 o16 o17 o19 o20 o21 : PO} (hs : SrcOk x y)
    (ha : fits a 32) (hb : fits b 32) (hF : FitsAll p q s k f w u) (hz : os.length ≤ 12) (hi : KBa.In os) (hz' : pl.length < 10) (hi' : KBa.In pl)
    (hT : (a + b + 6 + (O.length : Int) + W O) % 65535 = 0) (hL : O.length = 20 + (pad4 os).length + pl.length) (hI : KBa.In O)
    (hRd : sizeB O = 20 + ((pad4 os).length : Int) ∧ readDi O = segDi (.int p) (.int q) (.int s) (.int k) (.int f) (.int w) (.int u) (.bytes (pad4 os)) (.bytes pl))
    (hH : O.take 16 = headW p q s k f w os) (hR : O.drop 18 = put16 u ++ pad4 os ++ pl) :
    vcB G5 lawS 30 36 restC (lsQ a b f w u pl O) [.il [x, y], .tu T, .il L1, .il L2, .il [p, q], .il [s, k], .il L5, .il L6, .tu T2, .pl [.bytes os, told], .il pl,
      n12, n13, .il [p, q, s, k, f, w, u], .di (segDi (.int p) (.int q) (.int s) (.int k) (.int f) (.int w) (.int u) (.bytes os) (.bytes pl)), .ins 14,
      o0, o1, o2, .il (pad4 os), o4, o5, o6, o7, o8, o9, o10, o11, o12, o13, o14, o15, o16, o17, .il (headW p q s k f w os), o19, o20, o21, .il (put16 u ++ pad4 os ++ pl), .pl [.ref 34, .ref 38, .ref 19]] kn (fun v _ => v = .bool true) ke := by
  have ha1 : a < 4294967296 := ha.2
  have hb1 : b < 4294967296 := hb.2
  have ha0 := ha.1
  have hb0 := hb.1
  have hpz := pad4_len os (by omega)
  conv => whnf
  refine ⟨by omega, ?_⟩
  have e16 : List.take ((some (16 : Int)).elim O.length (clipAt O.length) - none.elim 0 (clipAt O.length)) (List.drop (none.elim 0 (clipAt O.length)) O) = headW p q s k f w os := by
    show List.take (clipAt O.length 16 - 0) (List.drop 0 O) = _
    rw [show clipAt O.length 16 = 16 from clip_at 16 (by omega), ← hH]
    rfl
  have e18 : List.take (none.elim O.length (clipAt O.length) - (some (18 : Int)).elim 0 (clipAt O.length)) (List.drop ((some (18 : Int)).elim 0 (clipAt O.length)) O) = put16 u ++ pad4 os ++ pl := by
    show List.take (O.length - clipAt O.length 18) (List.drop (clipAt O.length 18) O) = _
    rw [show clipAt O.length 18 = 18 from clip_at 18 (by omega), List.take_of_length_le (by rw [List.length_drop]; exact Nat.le_refl _), ← hR]
  conv => whnf
  rw [e16]
  refine ⟨by show 16 ≤ _; decide, ?_⟩
  conv => whnf
  rw [decide_eq_true (show headW p q s k f w os = headW p q s k f w os from rfl)]
  conv => whnf
  refine ⟨by omega, ?_⟩
  conv => whnf
  rw [e18]
  have lr : (put16 u ++ pad4 os ++ pl).length = 2 + (pad4 os).length + pl.length := by rw [List.length_append, List.length_append]; rfl
  refine ⟨by rw [lr]; omega, ?_⟩
  conv => whnf
  rw [decide_eq_true (show put16 u ++ pad4 os ++ pl = put16 u ++ pad4 os ++ pl from rfl)]
  conv => whnf
  refine ⟨by show 4 + 4 ≤ _; decide, ?_⟩
  conv => whnf
  refine ⟨⟨in_four a b, by show 8 ≤ _; decide⟩, ?_⟩
  conv => whnf
  refine ⟨⟨in_four a b, by show 8 ≤ _; decide⟩, ?_⟩
  conv => whnf
  refine ⟨by omega, ?_⟩
  conv => whnf
  refine ⟨⟨hI, by omega⟩, ?_⟩
  conv => whnf
  refine ⟨by decide, ?_⟩
  conv => whnf
  have hz0 := pseudo_zero (n := (O.length : Int)) (w := W O) ha hb hT
  rw [hz0]
  conv => whnf
  refine ⟨⟨hI, by omega, ha0, by omega, hb0, by omega⟩, fun q => absurd q (by omega), fun _ q => absurd hT q, fun _ _ => ⟨⟨by omega, by omega⟩, ?_⟩⟩
  rw [hRd.2]
  conv => whnf
  refine ⟨_, p, q, s, k, f, w, u, pad4 os, pl, rfl, rfl, ?_⟩
  conv => whnf
  refine ⟨⟨by show 7 ≠ 0; decide, by show 7 ≤ _; decide⟩, ?_⟩
  conv => whnf
  refine ⟨⟨in_pad4 hi, by omega⟩, ?_⟩
  conv => whnf
  refine ⟨⟨by show 7 ≠ 0; decide, by show 2 ≠ 0; decide, by show 7 + 2 ≤ _; decide⟩, ?_⟩
  conv => whnf
  rw [decide_eq_true (show p = p from rfl), decide_eq_true (show q = q from rfl), decide_eq_true (show s = s from rfl), decide_eq_true (show k = k from rfl), decide_eq_true (show f = f from rfl), decide_eq_true (show w = w from rfl), decide_eq_true (show u = u from rfl), decide_eq_true (show pad4 os = pad4 os from rfl), decide_eq_true (show pl = pl from rfl)]
  conv => whnf
  refine ⟨14, _, _, _, _, _, _, _, _, _, rfl, rfl, by omega, ⟨hF.2.2.2.1, hF.2.2.2.2⟩, ?_⟩
  conv => whnf
  refine ⟨by omega, ?_⟩
  conv => whnf
  refine ⟨by decide, ?_⟩
  conv => whnf
  refine ⟨by decide, ?_⟩
  conv => whnf
  refine ⟨by decide, ?_⟩
  conv => whnf
  rw [show ((pl.length : Int) + f % 2 + f / 2 % 2 != (pl.length : Int) + f % 2 + f / 2 % 2) = false by simp]
  conv => whnf
  exact law10 hs ha hb (by omega) (by omega) hI hT rfl
end Mine
set_option maxHeartbeats 8000000
namespace Mine
theorem range_getD {α : Type} (x : α) {l : List α} {n : Nat} (h : l.length = n) : l = (List.range n).map fun i => l.getD i x := by
  subst h
  refine List.ext_getElem (by simp) fun i h1 h2 => ?_
  simp [List.getD_eq_getElem?_getD, List.getElem?_eq_getElem h1]
theorem rangeF {α : Type} (x : α) {l : List α} {n : Nat} (h : l.length = n) : ∃ f : Nat → α, l = (List.range n).map f := ⟨_, range_getD x h⟩
theorem getD_of {α : Type} {x a : α} {l : List α} {i : Nat} (h : l[i]? = some a) : l.getD i x = a := by rw [List.getD_eq_getElem?_getD, h]; rfl
theorem list24 {l : List PO} {a b c d : PO} (h : l.length = 24) (e3 : l[3]? = some a) (e18 : l[18]? = some b) (e22 : l[22]? = some c) (e23 : l[23]? = some d) : ∃ f : Nat → PO, l = [f 0, f 1, f 2, a, f 4, f 5, f 6, f 7, f 8, f 9, f 10, f 11, f 12, f 13, f 14, f 15, f 16, f 17, b, f 19, f 20, f 21, c, d] := by
  refine ⟨fun i => l.getD i (.il []), ?_⟩
  rw [← getD_of (x := .il []) e3, ← getD_of (x := .il []) e18, ← getD_of (x := .il []) e22, ← getD_of (x := .il []) e23]
  exact range_getD (.il []) h
noncomputable def restB : List Stmt := (bodyS (stAt 48)).drop 8
theorem law8 {L1 L2 L5 L6 os pl : List Int} {x y a b f w u p q s k : Int} {T T2 : List PV} {told : PV} {kn : Ls → List PO → Prop} {ke} (hs : SrcOk x y)
    (ha : fits a 32) (hb : fits b 32) (hp : fits p 16) (hq : fits q 16) (hs' : fits s 32) (hk : fits k 32) (hf : fits f 6) (hw : fits w 16) (hu : fits u 16) (hz : os.length ≤ 12) (hi : KBa.In os) (hz' : pl.length < 10) (hi' : KBa.In pl) :
    vcB G5 lawS 30 40 restB (lsP a b f w u pl) [.il [x, y], .tu T, .il L1, .il L2, .il [p, q], .il [s, k], .il L5, .il L6, .tu T2, .pl [.bytes os, told], .il pl] kn (fun v _ => v = .bool true) ke := by
  have hF : FitsAll p q s k f w u := ⟨⟨hp, hq, hw, hu⟩, hs', hk, hf⟩
  have ha1 : a < 4294967296 := ha.2
  have hb1 : b < 4294967296 := hb.2
  have ha0 := ha.1
  have hb0 := hb.1
  have ix : ∀ {n : Nat} (i : Nat), i < n → n ≤ 1000000 → (0 : Int) ≤ (i : Int) ∧ (i : Int) < (n : Int) ∧ n ≤ 1000000 := fun i h h' => ⟨by omega, by omega, h'⟩
  conv => whnf
  refine ⟨by show 2 + 2 ≤ _; decide, ?_⟩
  conv => whnf
  refine ⟨by show 4 + 3 ≤ _; decide, ?_⟩
  conv => whnf
  refine ⟨ix (n := 2) 0 (by decide) (by decide), ?_⟩
  conv => whnf
  refine ⟨ix (n := 2) 1 (by decide) (by decide), ?_⟩
  conv => whnf
  refine ⟨ix (n := 2) 0 (by decide) (by decide), ?_⟩
  conv => whnf
  refine ⟨ix (n := 2) 1 (by decide) (by decide), ?_⟩
  conv => whnf
  refine ⟨ix (n := 2) 0 (by decide) (by decide), ?_⟩
  conv => whnf
  refine ⟨14, p, q, s, k, f, w, u, os, pl, rfl, rfl, ⟨by omega, by omega, hi, hi', ha0, by omega, hb0, by omega⟩, fun _ r hr0 hr1 hr => ?_, fun hn => absurd hF hn⟩
  have hT := pack_total hr0 hr1 hr
  have hL := pack_len p q s k f w u r os pl
  have hI := in_pack p q s k f w u r hi hi'
  have hRd := pack_read (op := os) (r := r) (pl := pl) (by omega) hF
  have hH := pack_head (a := p) (b := q) (c := s) (d := k) (f := w) (g := u) (r := r) (pl := pl) (show os.length ≤ 36 by omega) hf
  have hR := pack_rest p q s k f w u r os pl
  have hpz := pad4_len os (by omega)
  generalize packB (rawB p q s k f w u os pl) r = O at *
  conv => whnf
  refine ⟨none, _, fun _ _ => rfl, rfl, ?_⟩
  conv => whnf
  refine ⟨ix (n := 2) 0 (by decide) (by decide), ?_⟩
  conv => whnf
  refine ⟨p, q, s, k, f, w, u, rfl, by omega, by omega, fun objs l0 e3 e18 e22 e23 => ?_⟩
  obtain ⟨fo, rfl⟩ := list24 l0 e3 e18 e22 e23
  refine ⟨_, rfl, rfl, _, rfl, ?_⟩
  exact law9 hs ha hb hF hz hi hz' hi' hT hL hI hRd hH hR
end Mine
set_option maxHeartbeats 2000000
namespace Mine
/-! ## what is seen of the heap that the top leaves -/
noncomputable def fragOf (h : Heap) : List Addr → Frag
  | [] => []
  | a :: r => match h.get? a with
    | some o => (a, o) :: fragOf h r
    | none => fragOf h r
theorem fragOf_in (h : Heap) : ∀ as, (fragOf h as).In h
  | [], _, _, e => by cases e
  | a :: r, b, o, e => by
    unfold fragOf at e
    cases q : h.get? a with
    | none => rw [q] at e; exact fragOf_in h r b o e
    | some o' =>
      rw [q] at e
      rw [List.lookup_cons] at e
      cases z : b == a with
      | true => rw [z] at e; cases e; rw [beq_iff_eq.mp z]; exact q
      | false => rw [z] at e; exact fragOf_in h r b o e
structure Row where
  name : PySem.Str
  qual : PySem.Str
  addr : Addr
  st : Option Stmt
noncomputable def rowG (x : String) (a : Addr) (i : Nat) : Row := ⟨nm x, nm x, a, stAt i⟩
noncomputable def rowM (x y : String) (a : Addr) (i : Nat) : Row := ⟨nm x, nm y, a, methAt i⟩
noncomputable def rowsG : List Row := [rowG "put16" 65 5, rowG "put32" 72 6, rowG "need" 79 7, rowG "get16" 86 8, rowG "get32" 93 9, rowG "fold" 100 12, rowG "pseudo_sum" 123 15, rowG "check_number" 173 29, rowG "padded_options" 180 30,
  rowG "head_octets" 187 31, rowG "pack_segment" 194 32, rowG "unpack_segment" 201 33, rowG "mss_option" 208 34, rowG "mss_of" 215 35, rowG "_law_pool" 222 37, rowG "_law_take" 229 38, rowG "_law_one" 236 39, rowG "_law_address" 243 40,
  rowG "_law_options" 250 41, rowG "_law_words" 257 42, rowG "_law_two" 264 43, rowG "_law_four" 271 44, rowG "_law_written" 278 45, rowG "_law_is_refused" 285 46, rowG "_law_does_not_fit" 292 47]
noncomputable def rowsD : List Row := [rowG "ones_sum" 108 13, rowG "checksum" 116 14]
noncomputable def rowsM : List Row := [rowM "has" "Segment.has" 145 1, rowM "length" "Segment.length" 152 2, rowM "row" "Segment.row" 159 3]
noncomputable def rowI : Row := rowM "__init__" "Segment.__init__" 138 0
noncomputable def rowE : Row := ⟨nm "__init__", nm "StackError.__init__", 28, (bodyS (stAt 1))[0]?⟩
noncomputable def rowsAll : List Row := rowI :: rowE :: (rowsG ++ rowsD ++ rowsM)
noncomputable def asK : List Addr := [162, 161, 44, 43, 56, 55, 31, 30, 3] ++ rowsAll.map (·.addr) ++ rowsAll.map (·.addr - 1) ++ [101, 109, 131, 163]

noncomputable abbrev FView := Option (PySem.Str × PySem.Str × Arguments × FuncBody × Scope)
noncomputable def fview (K : Frag) (a : Addr) : FView := match K.lookup a with
  | some ⟨_, _, .func fd, _⟩ => some (fd.name, fd.qualname, fd.params, fd.body, fd.scope)
  | _ => none
noncomputable def fwant (r : Row) : FView := some (r.name, r.qual, parS r.st, .stmts (bodyS r.st), scoS r.st)
noncomputable def frest (K : Frag) (a : Addr) : Bool := match K.lookup a with
  | some ⟨_, _, .func fd, _⟩ => fd.globals == mainGlobals && fd.closure.isEmpty && fd.builtins == builtinsNs && codeIn K fd.code fd.qualname
  | _ => false
noncomputable def dfltIn (K : Frag) (a : Addr) : Option Value := match K.lookup a with
  | some ⟨_, _, .func fd, _⟩ => some fd.defaults
  | _ => none
noncomputable def isNoneV : Option Value → Bool
  | some .none => true
  | _ => false
noncomputable def seqIn (K : Frag) : Option Value → Option (List Value)
  | some (.ref T) => (match K.lookup T with
    | some ⟨_, _, .seq vs _, _⟩ => some vs.toList
    | _ => none)
  | _ => none
noncomputable def oneD : Option (List Value) → Bool
  | some [_] => true
  | _ => false
noncomputable def threeD : Option (List Value) → Bool
  | some [.int n _, .bytes b _, .bytes c _] => n == 0 && (KBw.bInts b).isEmpty && (KBw.bInts c).isEmpty
  | _ => false
noncomputable def intIs (n : Int) : Option (Option Value) → Bool
  | some (some (.int m _)) => m == n
  | _ => false
noncomputable def intOf : PV → Int
  | .int n => n
  | _ => 0
noncomputable def excFacts (K : Frag) (C : Addr) : Bool :=
  excIn K C bmE "Exception.__new__" && (clsIn K C).map (·.mro) == some (excMro C) && hasDictIn K C && findIn K (.ref C) "__init__" == some (some (.ref initE)) &&
  findIn K (.ref C) "__setattr__" == some (some (.builtin "object.__setattr__")) && findIn K (.ref C) "message" == some none && keepIn K (.ref C)
noncomputable def biNames : List PySem.Str := [nm "len", nm "bytes", nm "int", nm "list", nm "tuple", nm "max", nm "range"]
noncomputable def factsA (K : Frag) : Bool := rowsAll.all (fun r => frest K r.addr) && (rowI :: rowE :: rowsG ++ rowsD ++ rowsM).all (fun r => keepIn K (.ref r.addr))
noncomputable def factsB (K : Frag) : Bool := (rowE :: (rowsG ++ rowsM)).all (fun r => isNoneV (dfltIn K r.addr)) && rowsD.all (fun r => oneD (seqIn K (dfltIn K r.addr))) && threeD (seqIn K (dfltIn K rowI.addr))
noncomputable def factsC (K : Frag) : Bool := (rowsG ++ rowsD).all (fun r => nsIn K mainGlobals r.name == some (some (.ref r.addr))) && gvals.all (fun p => intIs (intOf p.2) (nsIn K mainGlobals p.1)) && biNames.all (fun x => nsIn K mainGlobals x == some none) &&
  nsIn K mainGlobals (nm "Segment") == some (some (.ref segC)) && nsIn K mainGlobals (nm "FormError") == some (some (.ref 44)) && nsIn K mainGlobals (nm "SizeError") == some (some (.ref 56))
noncomputable def factsD (K : Frag) : Bool := rowsM.all (fun r => findIn K (.ref segC) r.name == some (some (.ref r.addr)) && isFn K (.ref r.addr)) && plainGet K segC "" && hasDictIn K segC && segNames.all (fun x => findIn K (.ref segC) x == some none) &&
  findIn K (.ref segC) "__setattr__" == some (some (.builtin "object.__setattr__")) && plainOver K segC && segNames.all (fun x => takerIn K segC x == some none) && makesIn K segC && findIn K (.ref segC) "__init__" == some (some (.ref segInit)) &&
  typeIn K (.ref segInit) == some (.type "function") && keepIn K (.ref segC)
noncomputable def factsE (K : Frag) : Bool := excFacts K 44 && excFacts K 56 && typeIn K (.ref initE) == some (.type "function")
noncomputable def noList (K : Frag) : Bool := K.all fun p => match p.2.cls with | .type n => !(n == "list") | _ => true
noncomputable def facts (K : Frag) : Bool := noList K && (factsA K && factsB K && factsC K && factsD K && factsE K)
noncomputable abbrev Seen := Bool × List FView
noncomputable def seenOf (s : Shared) : Seen := (facts (fragOf s.heap asK), rowsAll.map fun r => fview (fragOf s.heap asK) r.addr)
noncomputable def seenWant : Seen := (true, rowsAll.map fwant)
end Mine
set_option maxHeartbeats 2000000
namespace Mine
theorem all_mem {α : Type} {p : α → Bool} {l : List α} {a : α} (h : l.all p = true) (ha : a ∈ l) : p a = true := List.all_eq_true.mp h a ha
/-- the ground of the calls: the heap that the law is called in -/
structure Bed (w : World) (mg mb : PySem.Str → Option Value) (hT : Heap) (K : Frag) : Prop where
  g : hT.Ns mainGlobals mg
  b : hT.Ns builtinsNs mb
  X : K.In hT
  lim : hT.NoLimit
  bu : ∀ x : PySem.Str, x ≠ "__name__" → mb x = bootBuiltins x
  F : facts K = true
  V : rowsAll.map (fun r => fview K r.addr) = rowsAll.map fwant

section
variable {w : World} {mg mb : PySem.Str → Option Value} {hT : Heap} {K : Frag} {lv lv' : Nat} {S : Sp} {a : Addr}

theorem CallOk.mono (H : CallOk P w hT a S lv) (h : lv ≤ lv') : CallOk P w hT a S lv' := fun A env outer base h₀ L F => H A env outer base h₀ L (F.less (ev := env) h)
theorem Bed.facts5 (B : Bed w mg mb hT K) : factsA K = true ∧ factsB K = true ∧ factsC K = true ∧ factsD K = true ∧ factsE K = true := by
  have h := B.F
  unfold facts at h
  simp only [Bool.and_eq_true] at h
  exact ⟨h.2.1.1.1.1, h.2.1.1.1.2, h.2.1.1.2, h.2.1.2, h.2.2⟩
theorem Bed.view (B : Bed w mg mb hT K) {r : Row} (hr : r ∈ rowsAll) : fview K r.addr = fwant r := List.map_inj_left.mp B.V r hr

theorem Bed.fnAt (B : Bed w mg mb hT K) {r : Row} (hr : r ∈ rowsAll) : ∃ dV kV doc pm an cdv ct, FnAt hT r.addr r.name r.qual (parS r.st) (bodyS r.st) (scoS r.st) dV kV doc pm an cdv ct ∧ dfltIn K r.addr = some dV := by
  have hv := B.view hr
  have hf := all_mem (Bool.and_eq_true_iff.mp B.facts5.1).1 hr
  unfold fview at hv
  unfold frest at hf
  unfold dfltIn
  cases hk : K.lookup r.addr with
  | none => rw [hk] at hv; cases hv
  | some o =>
    rw [hk] at hv hf
    obtain ⟨c, d, dat, sl⟩ := o
    cases dat with
    | func fd =>
      dsimp only at hv hf ⊢
      obtain ⟨n, q, p, bo, sc, gl, clo, dV, kV, doc, pm, an, cd, ct, bu⟩ := fd
      dsimp only at hv hf ⊢
      simp only [Bool.and_eq_true, beq_iff_eq, List.isEmpty_iff] at hf
      obtain ⟨⟨⟨rfl, rfl⟩, rfl⟩, hcd⟩ := hf
      unfold fwant at hv
      simp only [Option.some.injEq, Prod.mk.injEq] at hv
      obtain ⟨rfl, rfl, rfl, rfl, rfl⟩ := hv
      exact ⟨dV, kV, doc, pm, an, cd, ct, ⟨⟨_, B.X _ _ hk, rfl⟩, codeRec_of B.X hcd⟩, rfl⟩
    | _ => cases hv

theorem Bed.keep (B : Bed w mg mb hT K) {r : Row} (hr : r ∈ rowI :: rowE :: rowsG ++ rowsD ++ rowsM) : keepIn K (.ref r.addr) = true := all_mem (p := fun r => keepIn K (.ref r.addr)) (Bool.and_eq_true_iff.mp B.facts5.1).2 hr

noncomputable def scopeOk (sc : Scope) (names : List PySem.Str) : Bool :=
  decide names.Nodup && names.all (fun n => isLoc (sc.names.lookup n) && !(n == cellKey)) && sc.names.all (fun p => match p.2 with | .cell => false | _ => true) && !sc.isCoroutine && !sc.isGenerator && (match sc.kind with | .function => true | _ => false)
structure ScopeOk (sc : Scope) (names : List PySem.Str) : Prop where
  nd : names.Nodup
  loc : ∀ n ∈ names, sc.names.lookup n = some .local
  ck : ∀ n ∈ names, n ≠ cellKey
  cell : ∀ x ∈ sc.names, x.2 ≠ .cell
  cl : ∀ x, sc.names.lookup x ≠ some .cell
  co : sc.isCoroutine = false
  gen : sc.isGenerator = false
  kind : sc.kind = .function
theorem ScopeOk.of {sc : Scope} {names : List PySem.Str} (h : scopeOk sc names = true) : ScopeOk sc names := by
  unfold scopeOk at h
  simp only [Bool.and_eq_true, Bool.not_eq_true', decide_eq_true_eq] at h
  obtain ⟨⟨⟨⟨⟨h1, h2⟩, h3⟩, h4⟩, h5⟩, h6⟩ := h
  have hc : ∀ x ∈ sc.names, x.2 ≠ .cell := fun x hx e => by have := all_mem h3 hx; rw [e] at this; cases this
  have h2' : ∀ n ∈ names, isLoc (sc.names.lookup n) = true ∧ (!(n == cellKey)) = true := fun n hn => by have := all_mem h2 hn; exact Bool.and_eq_true_iff.mp this
  refine ⟨h1, fun n hn => isLoc_eq (h2' n hn).1, fun n hn => beq_eq_false_iff_ne.mp (not_eq (h2' n hn).2), hc, fun x e => hc _ (mem_of_lookup e) rfl, h4, h5, ?_⟩
  cases e : sc.kind with
  | function => rfl
  | _ => rw [e] at h6; cases h6

/-- what binds the arguments of a def without defaults -/
noncomputable abbrev Binds0 (r : Row) (names : List PySem.Str) : Prop := ∀ (kV doc pm cdv ct : Value) (an : Option Addr) (us : List Value), us.length = names.length →
  bindArgs (fnX r.name r.qual (parS r.st) (bodyS r.st) (scoS r.st) [] .none kV doc pm an cdv ct) ⟨us, []⟩ = pure (names.zip us)

theorem Bed.noDflt (B : Bed w mg mb hT K) {r : Row} (hr : r ∈ rowE :: (rowsG ++ rowsM)) {dV : Value} (e : dfltIn K r.addr = some dV) : dV = .none := by
  have h := all_mem (Bool.and_eq_true_iff.mp (Bool.and_eq_true_iff.mp B.facts5.2.1).1).1 hr
  rw [e] at h
  cases dV <;> first | rfl | cases h

theorem Bed.exc (B : Bed w mg mb hT K) {c : Nat} : excFacts K (clsA c) = true := by
  have h := B.facts5.2.2.2.2
  unfold factsE at h
  simp only [Bool.and_eq_true] at h
  cases c with
  | zero => exact h.1.1
  | succ n => exact h.1.2

theorem memE : rowE ∈ rowsAll := .tail _ (.head _)
theorem memI : rowI ∈ rowsAll := .head _
theorem Bed.excEnv (B : Bed w mg mb hT K) : ExcEnv hT mg K := by
  have hC := B.facts5.2.2.1
  unfold factsC at hC
  simp only [Bool.and_eq_true, beq_iff_eq] at hC
  refine ⟨fun x c e => ?_, fun c => ?_, fun c => ?_, ?_, ?_, B.lim⟩
  · unfold clsOf at e
    split at e
    · rename_i q; cases e; rw [beq_iff_eq.mp q]; exact mg_of B.X B.g hC.1.2
    · split at e
      · rename_i q; cases e; rw [beq_iff_eq.mp q]; exact mg_of B.X B.g hC.2
      · cases e
  · have h := B.exc (c := c)
    unfold excFacts at h
    simp only [Bool.and_eq_true, beq_iff_eq] at h
    obtain ⟨⟨⟨⟨⟨⟨h1, h2⟩, h3⟩, h4⟩, h5⟩, h6⟩, h7⟩ := h
    exact ⟨h1, h2, h3, h4, h5, h6⟩
  · have h := B.exc (c := c)
    unfold excFacts at h
    simp only [Bool.and_eq_true] at h
    exact h.2
  · have h := B.facts5.2.2.2.2
    unfold factsE at h
    simp only [Bool.and_eq_true, beq_iff_eq] at h
    exact h.2
  · obtain ⟨dV, kV, doc, pm, an, cdv, ct, hf, hd⟩ := B.fnAt memE
    obtain rfl := B.noDflt (.head _) hd
    have hs : ScopeOk (scoS rowE.st) [nm "self", nm "message"] := .of (by kernel_rfl)
    exact ⟨parS rowE.st, scoS rowE.st, .none, kV, doc, pm, an, cdv, ct, _, _, _, _, 0, hf, rfl, fun s a b => .of_eq (by kernel_rfl), hs.loc _ (.head _), hs.loc _ (.tail _ (.head _)), hs.cell, hs.co, hs.gen, hs.kind⟩
theorem Bed.segFacts (B : Bed w mg mb hT K) : SegOk K := by
  have h := B.facts5.2.2.2.1
  unfold factsD at h
  simp only [Bool.and_eq_true, beq_iff_eq] at h
  obtain ⟨⟨⟨⟨⟨⟨⟨⟨⟨⟨h0, h1⟩, h2⟩, h3⟩, h4⟩, h5⟩, h6⟩, h7⟩, h8⟩, h9⟩, h10⟩ := h
  exact ⟨h4, h5, fun x hx => by have := all_mem h6 (List.contains_iff_mem.mp hx); exact beq_iff_eq.mp this⟩

theorem Bed.call (B : Bed w mg mb hT K) {G : Gm} {r : Row} {names : List PySem.Str} (GK : GOk P w mg mb hT K G lv) (hr : r ∈ rowsG ++ rowsM) (hs : scopeOk (scoS r.st) names = true) (hb : Binds0 r names) (hlv : lv < 100)
    (vc : VC G r.st names S) : CallOk P w hT r.addr S (lv + 1) := by
  have hra : r ∈ rowsAll := by
    refine .tail _ (.tail _ ?_)
    rcases List.mem_append.mp hr with q | q
    · exact List.mem_append.mpr (.inl (List.mem_append.mpr (.inl q)))
    · exact List.mem_append.mpr (.inr q)
  obtain ⟨dV, kV, doc, pm, an, cdv, ct, hf, hd⟩ := B.fnAt hra
  obtain rfl := B.noDflt (.tail _ hr) hd
  have Z := ScopeOk.of hs
  exact callOk_of hf B.lim id (fun vs us ρ s hl hv _ => ⟨us, hv, .of_eq (hb _ _ _ _ _ _ us (by rw [← hv.length]; exact hl))⟩) Z.nd Z.loc Z.ck Z.cell Z.cl Z.co Z.gen Z.kind hlv GK B.segFacts
    (fun F Ev => raise_ok GK B.excEnv F Ev) 30 40 vc
end
end Mine
set_option maxHeartbeats 2000000
namespace Mine
section
variable {w : World} {mg mb : PySem.Str → Option Value} {hT : Heap} {K : Frag} {lv lv' : Nat} {S : Sp} {a : Addr}
theorem c_put16 (B : Bed w mg mb hT K) (GK : GOk P w mg mb hT K G0 0) : CallOk P w hT 65 sPut16 1 := B.call (r := rowG "put16" 65 5) GK (List.mem_of_getElem? (i := 0) rfl) (by kernel_rfl) (fun kV doc pm cdv ct an us hl => by obtain ⟨f, rfl⟩ := rangeF Value.none hl; kernel_rfl) (by decide) put16_vc
theorem c_need (B : Bed w mg mb hT K) (GK : GOk P w mg mb hT K G0 0) : CallOk P w hT 79 sNeed 1 := B.call (r := rowG "need" 79 7) GK (List.mem_of_getElem? (i := 2) rfl) (by kernel_rfl) (fun kV doc pm cdv ct an us hl => by obtain ⟨f, rfl⟩ := rangeF Value.none hl; kernel_rfl) (by decide) need_vc
theorem c_fold (B : Bed w mg mb hT K) (GK : GOk P w mg mb hT K G0 0) : CallOk P w hT 100 sFold 1 := B.call (r := rowG "fold" 100 12) GK (List.mem_of_getElem? (i := 5) rfl) (by kernel_rfl) (fun kV doc pm cdv ct an us hl => by obtain ⟨f, rfl⟩ := rangeF Value.none hl; kernel_rfl) (by decide) fold_vc
theorem c_check_number (B : Bed w mg mb hT K) (GK : GOk P w mg mb hT K G0 0) : CallOk P w hT 173 sCheck 1 := B.call (r := rowG "check_number" 173 29) GK (List.mem_of_getElem? (i := 7) rfl) (by kernel_rfl) (fun kV doc pm cdv ct an us hl => by obtain ⟨f, rfl⟩ := rangeF Value.none hl; kernel_rfl) (by decide) check_vc
theorem c_padded_options (B : Bed w mg mb hT K) (GK : GOk P w mg mb hT K G0 0) : CallOk P w hT 180 sPadded 1 := B.call (r := rowG "padded_options" 180 30) GK (List.mem_of_getElem? (i := 8) rfl) (by kernel_rfl) (fun kV doc pm cdv ct an us hl => by obtain ⟨f, rfl⟩ := rangeF Value.none hl; kernel_rfl) (by decide) padded_vc
theorem c__law_pool (B : Bed w mg mb hT K) (GK : GOk P w mg mb hT K G0 0) : CallOk P w hT 222 sPool 1 := B.call (r := rowG "_law_pool" 222 37) GK (List.mem_of_getElem? (i := 14) rfl) (by kernel_rfl) (fun kV doc pm cdv ct an us hl => by obtain ⟨f, rfl⟩ := rangeF Value.none hl; kernel_rfl) (by decide) pool_vc
theorem c__law_take (B : Bed w mg mb hT K) (GK : GOk P w mg mb hT K G0 0) : CallOk P w hT 229 sTake 1 := B.call (r := rowG "_law_take" 229 38) GK (List.mem_of_getElem? (i := 15) rfl) (by kernel_rfl) (fun kV doc pm cdv ct an us hl => by obtain ⟨f, rfl⟩ := rangeF Value.none hl; kernel_rfl) (by decide) take_vc
theorem c__law_words (B : Bed w mg mb hT K) (GK : GOk P w mg mb hT K G0 0) : CallOk P w hT 257 sWords 1 := B.call (r := rowG "_law_words" 257 42) GK (List.mem_of_getElem? (i := 19) rfl) (by kernel_rfl) (fun kV doc pm cdv ct an us hl => by obtain ⟨f, rfl⟩ := rangeF Value.none hl; kernel_rfl) (by decide) words_vc
theorem c__law_two (B : Bed w mg mb hT K) (GK : GOk P w mg mb hT K G0 0) : CallOk P w hT 264 sTwo 1 := B.call (r := rowG "_law_two" 264 43) GK (List.mem_of_getElem? (i := 20) rfl) (by kernel_rfl) (fun kV doc pm cdv ct an us hl => by obtain ⟨f, rfl⟩ := rangeF Value.none hl; kernel_rfl) (by decide) two_vc
theorem c_has (B : Bed w mg mb hT K) (GK : GOk P w mg mb hT K G0 0) : CallOk P w hT 145 sHas 1 := B.call (r := rowM "has" "Segment.has" 145 1) GK (List.mem_of_getElem? (i := 25) rfl) (by kernel_rfl) (fun kV doc pm cdv ct an us hl => by obtain ⟨f, rfl⟩ := rangeF Value.none hl; kernel_rfl) (by decide) has_vc
theorem c_row (B : Bed w mg mb hT K) (GK : GOk P w mg mb hT K G0 0) : CallOk P w hT 159 sRow 1 := B.call (r := rowM "row" "Segment.row" 159 3) GK (List.mem_of_getElem? (i := 27) rfl) (by kernel_rfl) (fun kV doc pm cdv ct an us hl => by obtain ⟨f, rfl⟩ := rangeF Value.none hl; kernel_rfl) (by decide) row_vc
theorem c_put32 (B : Bed w mg mb hT K) (GK : GOk P w mg mb hT K G1 2) : CallOk P w hT 72 sPut32 3 := B.call (r := rowG "put32" 72 6) GK (List.mem_of_getElem? (i := 1) rfl) (by kernel_rfl) (fun kV doc pm cdv ct an us hl => by obtain ⟨f, rfl⟩ := rangeF Value.none hl; kernel_rfl) (by decide) put32_vc
theorem c_get16 (B : Bed w mg mb hT K) (GK : GOk P w mg mb hT K G1 2) : CallOk P w hT 86 sGet16 3 := B.call (r := rowG "get16" 86 8) GK (List.mem_of_getElem? (i := 3) rfl) (by kernel_rfl) (fun kV doc pm cdv ct an us hl => by obtain ⟨f, rfl⟩ := rangeF Value.none hl; kernel_rfl) (by decide) get16_vc
theorem c_pseudo_sum (B : Bed w mg mb hT K) (GK : GOk P w mg mb hT K G1 2) : CallOk P w hT 123 sPseudo 3 := B.call (r := rowG "pseudo_sum" 123 15) GK (List.mem_of_getElem? (i := 6) rfl) (by kernel_rfl) (fun kV doc pm cdv ct an us hl => by obtain ⟨f, rfl⟩ := rangeF Value.none hl; kernel_rfl) (by decide) pseudo_vc
theorem c_mss_option (B : Bed w mg mb hT K) (GK : GOk P w mg mb hT K G1 2) : CallOk P w hT 208 sMssOption 3 := B.call (r := rowG "mss_option" 208 34) GK (List.mem_of_getElem? (i := 12) rfl) (by kernel_rfl) (fun kV doc pm cdv ct an us hl => by obtain ⟨f, rfl⟩ := rangeF Value.none hl; kernel_rfl) (by decide) mssOption_vc
theorem c__law_one (B : Bed w mg mb hT K) (GK : GOk P w mg mb hT K G1 2) : CallOk P w hT 236 sOne 3 := B.call (r := rowG "_law_one" 236 39) GK (List.mem_of_getElem? (i := 16) rfl) (by kernel_rfl) (fun kV doc pm cdv ct an us hl => by obtain ⟨f, rfl⟩ := rangeF Value.none hl; kernel_rfl) (by decide) one_vc
theorem c__law_four (B : Bed w mg mb hT K) (GK : GOk P w mg mb hT K G1 2) : CallOk P w hT 271 sFour 3 := B.call (r := rowG "_law_four" 271 44) GK (List.mem_of_getElem? (i := 21) rfl) (by kernel_rfl) (fun kV doc pm cdv ct an us hl => by obtain ⟨f, rfl⟩ := rangeF Value.none hl; kernel_rfl) (by decide) four_vc
theorem c_length (B : Bed w mg mb hT K) (GK : GOk P w mg mb hT K G1 2) : CallOk P w hT 152 sLength 3 := B.call (r := rowM "length" "Segment.length" 152 2) GK (List.mem_of_getElem? (i := 26) rfl) (by kernel_rfl) (fun kV doc pm cdv ct an us hl => by obtain ⟨f, rfl⟩ := rangeF Value.none hl; kernel_rfl) (by decide) length_vc
theorem c_get32 (B : Bed w mg mb hT K) (GK : GOk P w mg mb hT K G2 3) : CallOk P w hT 93 sGet32 4 := B.call (r := rowG "get32" 93 9) GK (List.mem_of_getElem? (i := 4) rfl) (by kernel_rfl) (fun kV doc pm cdv ct an us hl => by obtain ⟨f, rfl⟩ := rangeF Value.none hl; kernel_rfl) (by decide) get32_vc
theorem c_mss_of (B : Bed w mg mb hT K) (GK : GOk P w mg mb hT K G2 3) : CallOk P w hT 215 sMssOf 4 := B.call (r := rowG "mss_of" 215 35) GK (List.mem_of_getElem? (i := 13) rfl) (by kernel_rfl) (fun kV doc pm cdv ct an us hl => by obtain ⟨f, rfl⟩ := rangeF Value.none hl; kernel_rfl) (by decide) mssOf_vc
theorem c__law_address (B : Bed w mg mb hT K) (GK : GOk P w mg mb hT K G2 3) : CallOk P w hT 243 sAddress 4 := B.call (r := rowG "_law_address" 243 40) GK (List.mem_of_getElem? (i := 17) rfl) (by kernel_rfl) (fun kV doc pm cdv ct an us hl => by obtain ⟨f, rfl⟩ := rangeF Value.none hl; kernel_rfl) (by decide) address_vc
theorem c_head_octets (B : Bed w mg mb hT K) (GK : GOk P w mg mb hT K G2 3) : CallOk P w hT 187 sHead 4 := B.call (r := rowG "head_octets" 187 31) GK (List.mem_of_getElem? (i := 9) rfl) (by kernel_rfl) (fun kV doc pm cdv ct an us hl => by obtain ⟨f, rfl⟩ := rangeF Value.none hl; kernel_rfl) (by decide) headOctets_vc
theorem c__law_options (B : Bed w mg mb hT K) (GK : GOk P w mg mb hT K G2 3) : CallOk P w hT 250 sOptions 4 := B.call (r := rowG "_law_options" 250 41) GK (List.mem_of_getElem? (i := 18) rfl) (by kernel_rfl) (fun kV doc pm cdv ct an us hl => by obtain ⟨f, rfl⟩ := rangeF Value.none hl; kernel_rfl) (by decide) options_vc
theorem c__law_written (B : Bed w mg mb hT K) (GK : GOk P w mg mb hT K G2 3) : CallOk P w hT 278 sWritten 4 := B.call (r := rowG "_law_written" 278 45) GK (List.mem_of_getElem? (i := 22) rfl) (by kernel_rfl) (fun kV doc pm cdv ct an us hl => by obtain ⟨f, rfl⟩ := rangeF Value.none hl; kernel_rfl) (by decide) written_vc
theorem c_pack_segment (B : Bed w mg mb hT K) (GK : GOk P w mg mb hT K G3 4) : CallOk P w hT 194 sPack 5 := B.call (r := rowG "pack_segment" 194 32) GK (List.mem_of_getElem? (i := 10) rfl) (by kernel_rfl) (fun kV doc pm cdv ct an us hl => by obtain ⟨f, rfl⟩ := rangeF Value.none hl; kernel_rfl) (by decide) pack_vc
theorem c_unpack_segment (B : Bed w mg mb hT K) (GK : GOk P w mg mb hT K G3 4) : CallOk P w hT 201 sUnpack 5 := B.call (r := rowG "unpack_segment" 201 33) GK (List.mem_of_getElem? (i := 11) rfl) (by kernel_rfl) (fun kV doc pm cdv ct an us hl => by obtain ⟨f, rfl⟩ := rangeF Value.none hl; kernel_rfl) (by decide) unpack_vc
end
end Mine
set_option maxHeartbeats 2000000
namespace Mine
section
variable {w : World} {mg mb : PySem.Str → Option Value} {hT : Heap} {K : Frag} {lv lv' : Nat} {S : Sp} {a : Addr}
theorem seq_of {v : Value} {vs : List Value} (X : K.In hT) (e : seqIn K (some v) = some vs) : ∃ T o n, v = .ref T ∧ hT.get? T = some o ∧ o.data = .seq vs.toArray n := by
  unfold seqIn at e
  cases v with
  | ref T =>
    dsimp only at e
    cases hk : K.lookup T with
    | none => rw [hk] at e; cases e
    | some o =>
      rw [hk] at e
      obtain ⟨c, d, dat, sl⟩ := o
      cases dat with
      | seq arr n => cases e; exact ⟨T, _, n, rfl, X _ _ hk, rfl⟩
      | _ => cases e
  | _ => cases e
theorem Bed.callD (B : Bed w mg mb hT K) {G : Gm} {r : Row} {x y : PySem.Str} (GK : GOk P w mg mb hT K G lv) (hr : r ∈ rowsD) (hs : scopeOk (scoS r.st) [x, y] = true)
    (hb : ∀ (T : Addr) (kV doc pm cdv ct d u v : Value) (an : Option Addr), ∃ k, bindArgs (fnX r.name r.qual (parS r.st) (bodyS r.st) (scoS r.st) [] (.ref T) kV doc pm an cdv ct) ⟨[u, v], []⟩ = seqItems? (.ref T) >>= k ∧ k (some #[d]) = pure [(x, u), (y, v)]) (hlv : lv < 100)
    (vc : VC G r.st [x, y] S) : CallOk P w hT r.addr S (lv + 1) := by
  have hra : r ∈ rowsAll := .tail _ (.tail _ (List.mem_append.mpr (.inl (List.mem_append.mpr (.inr hr)))))
  obtain ⟨dV, kV, doc, pm, an, cdv, ct, hf, hd⟩ := B.fnAt hra
  have h1 := all_mem (Bool.and_eq_true_iff.mp (Bool.and_eq_true_iff.mp B.facts5.2.1).1).2 hr
  rw [hd] at h1
  unfold oneD at h1
  split at h1
  · rename_i d hq
    obtain ⟨T, o, n, rfl, hT1, hT2⟩ := seq_of B.X hq
    have Z := ScopeOk.of hs
    refine callOk_of hf B.lim id (fun vs us ρ s hl hv st => ⟨us, hv, ?_⟩) Z.nd Z.loc Z.ck Z.cell Z.cl Z.co Z.gen Z.kind hlv GK B.segFacts (fun F Ev => raise_ok GK B.excEnv F Ev) 30 40 vc
    have hl' : us.length = 2 := by rw [← hv.length]; exact hl
    obtain ⟨f, rfl⟩ := rangeF Value.none hl'
    obtain ⟨k, e1, e2⟩ := hb T kV doc pm cdv ct d (f 0) (f 1) an
    exact BindsTo.of_defaults rfl (st _ _ hT1) hT2 e1 e2
  · cases h1
theorem c_ones_sum (B : Bed w mg mb hT K) (GK : GOk P w mg mb hT K G1 2) : CallOk P w hT 108 sOnes 3 := B.callD (r := rowG "ones_sum" 108 13) GK (.head _) (by kernel_rfl) (fun T kV doc pm cdv ct d u v an => ⟨_, rfl, by kernel_rfl⟩) (by decide) ones_vc
theorem c_checksum (B : Bed w mg mb hT K) (GK : GOk P w mg mb hT K G2 3) : CallOk P w hT 116 sChecksum 4 := B.callD (r := rowG "checksum" 116 14) GK (.tail _ (.head _)) (by kernel_rfl) (fun T kV doc pm cdv ct d u v an => ⟨_, rfl, by kernel_rfl⟩) (by decide) checksum_vc

theorem c_init (B : Bed w mg mb hT K) (GK : GOk P w mg mb hT K G0 0) : CallOk P w hT segInit sInit 1 := by
  obtain ⟨dV, kV, doc, pm, an, cdv, ct, hf, hd⟩ := B.fnAt memI
  have h1 := (Bool.and_eq_true_iff.mp B.facts5.2.1).2
  rw [hd] at h1
  unfold threeD at h1
  split at h1
  · rename_i n t b t2 c t3 hq
    obtain ⟨T, o, m, rfl, hT1, hT2⟩ := seq_of B.X hq
    simp only [Bool.and_eq_true, beq_iff_eq, List.isEmpty_iff] at h1
    obtain ⟨⟨rfl, hb0⟩, hc0⟩ := h1
    have Z : ScopeOk (scoS rowI.st) initNames := .of (by kernel_rfl)
    refine callOk_of hf B.lim padI (fun vs us ρ s hl hv st => ?_) Z.nd Z.loc Z.ck Z.cell Z.cl Z.co Z.gen Z.kind (by decide) GK B.segFacts (fun F Ev => raise_ok GK B.excEnv F Ev) 30 40 init_vc
    by_cases h7 : vs.length = 7
    · have hu7 : us.length = 7 := by rw [← hv.length]; exact h7
      obtain ⟨g, rfl⟩ := rangeF PV.none h7
      obtain ⟨f, rfl⟩ := rangeF Value.none hu7
      obtain ⟨k0, k1, k2, k3, k4, k5, k6, _⟩ := hv
      refine ⟨[f 0, f 1, f 2, f 3, f 4, f 5, f 6, .int 0 t, .bytes b t2, .bytes c t3], ⟨k0, k1, k2, k3, k4, k5, k6, ⟨t, rfl⟩, ⟨b, t2, rfl, hb0⟩, ⟨c, t3, rfl, hc0⟩, trivial⟩, ?_⟩
      exact BindsTo.of_defaults rfl (st _ _ hT1) hT2 rfl (by kernel_rfl)
    · have hp : padI vs = vs := by
        unfold padI
        split
        · exact absurd rfl h7
        · rfl
      rw [hp] at hl ⊢
      refine ⟨us, hv, ?_⟩
      have hl' : us.length = 10 := by rw [← hv.length]; exact hl
      obtain ⟨f, rfl⟩ := rangeF Value.none hl'
      exact BindsTo.of_defaults rfl (st _ _ hT1) hT2 rfl (by kernel_rfl)
  · cases h1
end
end Mine
set_option maxHeartbeats 2000000
namespace Mine
noncomputable def AllOk {α : Type} (p : α → Prop) : List α → Prop
  | [] => True
  | a :: r => p a ∧ AllOk p r
theorem AllOk.mem {α : Type} {p : α → Prop} : ∀ {l : List α} {a : α}, AllOk p l → a ∈ l → p a
  | _ :: _, _, h, .head _ => h.1
  | _ :: _, _, h, .tail _ m => AllOk.mem h.2 m
noncomputable def FnOk (w : World) (mg : PySem.Str → Option Value) (hT : Heap) (lv : Nat) (x : PySem.Str) (S : Sp) : Prop :=
  ∃ a, mg x = some (.ref a) ∧ (∃ k, (k = Keeper.frame ∨ k = Keeper.machine ∨ k = Keeper.boundFrame) ∧ Looks (model P w) hT (keeperOf (.ref a)) k) ∧ CallOk P w hT a S lv
noncomputable def MeOk (w : World) (hT : Heap) (K : Frag) (lv : Nat) (x : PySem.Str) (S : Sp) : Prop :=
  ∃ f, findIn K (.ref segC) x = some (some (.ref f)) ∧ isFn K (.ref f) = true ∧ segNames.contains x = false ∧ (∃ k, (k = Keeper.frame ∨ k = Keeper.machine ∨ k = Keeper.boundFrame) ∧ Looks (model P w) hT (keeperOf (.ref f)) k) ∧ CallOk P w hT f S lv
section
variable {w : World} {mg mb : PySem.Str → Option Value} {hT : Heap} {K : Frag} {lv lv' : Nat} {S : Sp} {a : Addr}
theorem Bed.gok (B : Bed w mg mb hT K) {fns me : List (PySem.Str × Sp)} (hf : AllOk (fun p => FnOk w mg hT lv p.1 p.2) fns) (hm : AllOk (fun p => MeOk w hT K lv p.1 p.2) me) : GOk P w mg mb hT K ⟨gvals, fns, me⟩ lv := by
  have hC := B.facts5.2.2.1
  unfold factsC at hC
  simp only [Bool.and_eq_true, beq_iff_eq] at hC
  obtain ⟨⟨⟨⟨⟨_, hv⟩, hbi⟩, _⟩, _⟩, _⟩ := hC
  have hD := B.facts5.2.2.2.1
  unfold factsD at hD
  simp only [Bool.and_eq_true, beq_iff_eq] at hD
  obtain ⟨⟨⟨⟨⟨⟨⟨⟨⟨⟨h0, h1⟩, h2⟩, h3⟩, h4⟩, h5⟩, h6⟩, h7⟩, h8⟩, h9⟩, h10⟩ := hD
  have bi1 : ∀ x ∈ biNames, mg x = none := fun x hx => mg_none_of B.X B.g (by have := all_mem hbi hx; exact beq_iff_eq.mp this)
  have bi2 : ∀ (x : PySem.Str) v, (x == ("__name__" : PySem.Str)) = false → bootBuiltins x = some v → mb x = some v := fun x v hn e => (B.bu x (beq_eq_false_iff_ne.mp hn)).trans e
  have gi : gvals.all (fun p => match p.2 with | .int _ => true | _ => false) = true := by kernel_rfl
  refine ⟨B.g, B.b, B.X, fun x v e => ?_, fun x b e => ?_, fun x S e => hf.mem (mem_of_lookup e), fun x S e => hm.mem (mem_of_lookup e), ⟨h1, h2⟩, fun x hx => ?_⟩
  · have hmem := mem_of_lookup e
    have hi := all_mem hv hmem
    have hg := all_mem gi hmem
    dsimp only at hi hg
    cases v with
    | int n =>
      unfold intIs at hi
      split at hi
      · rename_i m t hq
        refine ⟨_, mg_of B.X B.g hq, t, ?_⟩
        rw [beq_iff_eq.mp hi]; rfl
      · cases hi
    | _ => cases hg
  · unfold biOf at e
    have go : ∀ (y : PySem.Str), y ∈ biNames → (y == ("__name__" : PySem.Str)) = false → bootBuiltins y = some (biVal b) → x = y → mg x = none ∧ mb x = some (biVal b) := fun y h1 h2 h3 h4 => by
      subst h4; exact ⟨bi1 _ h1, bi2 _ _ h2 h3⟩
    split at e
    · rename_i q; cases e; exact go _ (.head _) (by kernel_rfl) (by kernel_rfl) (beq_iff_eq.mp q)
    · split at e
      · rename_i q; cases e; exact go _ (.tail _ (.head _)) (by kernel_rfl) (by kernel_rfl) (beq_iff_eq.mp q)
      · split at e
        · rename_i q; cases e; exact go _ (.tail _ (.tail _ (.head _))) (by kernel_rfl) (by kernel_rfl) (beq_iff_eq.mp q)
        · split at e
          · rename_i q; cases e; exact go _ (.tail _ (.tail _ (.tail _ (.head _)))) (by kernel_rfl) (by kernel_rfl) (beq_iff_eq.mp q)
          · split at e
            · rename_i q; cases e; exact go _ (.tail _ (.tail _ (.tail _ (.tail _ (.head _))))) (by kernel_rfl) (by kernel_rfl) (beq_iff_eq.mp q)
            · split at e
              · rename_i q; cases e; exact go _ (.tail _ (.tail _ (.tail _ (.tail _ (.tail _ (.head _)))))) (by kernel_rfl) (by kernel_rfl) (beq_iff_eq.mp q)
              · split at e
                · rename_i q; cases e; exact go _ (.tail _ (.tail _ (.tail _ (.tail _ (.tail _ (.tail _ (.head _))))))) (by kernel_rfl) (by kernel_rfl) (beq_iff_eq.mp q)
                · cases e
  · have := all_mem h3 (List.contains_iff_mem.mp hx)
    exact beq_iff_eq.mp this
theorem Bed.fn (B : Bed w mg mb hT K) {i : Nat} {r : Row} (hr : (rowsG ++ rowsD)[i]? = some r) (hc : CallOk P w hT r.addr S lv) : FnOk w mg hT lv r.name S := by
  have hm := List.mem_of_getElem? hr
  have hC := B.facts5.2.2.1
  unfold factsC at hC
  simp only [Bool.and_eq_true, beq_iff_eq] at hC
  obtain ⟨⟨⟨⟨⟨hn, _⟩, _⟩, _⟩, _⟩, _⟩ := hC
  refine ⟨r.addr, mg_of B.X B.g (by have := all_mem hn hm; exact beq_iff_eq.mp this), keeps_K (B.keep (.tail _ (.tail _ ?_))) hT B.X, hc⟩
  exact List.mem_append.mpr (.inl hm)
theorem Bed.me (B : Bed w mg mb hT K) {i : Nat} {r : Row} (hr : rowsM[i]? = some r) (hs : segNames.contains r.name = false) (hc : CallOk P w hT r.addr S lv) : MeOk w hT K lv r.name S := by
  have hm := List.mem_of_getElem? hr
  have hD := B.facts5.2.2.2.1
  unfold factsD at hD
  simp only [Bool.and_eq_true, beq_iff_eq] at hD
  obtain ⟨⟨⟨⟨⟨⟨⟨⟨⟨⟨h0, h1⟩, h2⟩, h3⟩, h4⟩, h5⟩, h6⟩, h7⟩, h8⟩, h9⟩, h10⟩ := hD
  have h := all_mem h0 hm
  simp only [Bool.and_eq_true, beq_iff_eq] at h
  exact ⟨r.addr, h.1, h.2, hs, keeps_K (B.keep (.tail _ (.tail _ (List.mem_append.mpr (.inr hm))))) hT B.X, hc⟩
theorem Bed.fnS (B : Bed w mg mb hT K) (hc : CallOk P w hT segC S lv) : FnOk w mg hT lv (nm "Segment") S := by
  have hC := B.facts5.2.2.1
  unfold factsC at hC
  simp only [Bool.and_eq_true, beq_iff_eq] at hC
  have hD := B.facts5.2.2.2.1
  unfold factsD at hD
  simp only [Bool.and_eq_true, beq_iff_eq] at hD
  exact ⟨segC, mg_of B.X B.g hC.1.1.2, keeps_K hD.2 hT B.X, hc⟩
theorem seg_vc (vs : List PV) (ph : List PO) (k : PV → List PO → Prop) (ke : Nat → List PO → Prop) (h : sSeg vs ph k ke) : sInit (.ref (ph.length + 1) :: vs) (ph ++ [.di []] ++ [.ins ph.length]) (fun v ph' => v = .none ∧ k (.ref (ph.length + 1)) ph') ke := by
  have g1 : (ph ++ [PO.di []] ++ [PO.ins ph.length])[ph.length + 1]? = some (.ins ph.length) := by rw [List.append_assoc]; exact app_at ph _ 1
  have g0 : (ph ++ [PO.di []] ++ [PO.ins ph.length])[ph.length]? = some (.di []) := by rw [List.append_assoc]; exact app_at0 ph _
  have gs : ∀ X, (ph ++ [PO.di []] ++ [PO.ins ph.length]).set ph.length X = ph ++ [X, .ins ph.length] := fun X => by rw [List.append_assoc]; exact set_app0 ph _ _ X
  unfold sSeg at h
  split at h
  · exact ⟨ph.length, g1, g0, rfl, by rw [gs]; exact h⟩
  · exact ⟨ph.length, g1, g0, rfl, by rw [gs]; exact h⟩
  · exact h.elim
theorem c_seg (B : Bed w mg mb hT K) (GK : GOk P w mg mb hT K G0 0) : CallOk P w hT segC sSeg 2 := by
  have hD := B.facts5.2.2.2.1
  unfold factsD at hD
  simp only [Bool.and_eq_true, beq_iff_eq] at hD
  obtain ⟨⟨⟨⟨⟨⟨⟨⟨⟨⟨h0, h1⟩, h2⟩, h3⟩, h4⟩, h5⟩, h6⟩, h7⟩, h8⟩, h9⟩, h10⟩ := hD
  exact segOk B.X h7 h8 h9 (c_init B GK) seg_vc
theorem Bed.callTry (B : Bed w mg mb hT K) {G : Gm} {r : Row} {names : List PySem.Str} {e : Expr} {x : PySem.Str} {c : Nat} {ep np k2 rp hp tp k4 rp' : Pos} {k1 k3 : Nat} (GK : GOk P w mg mb hT K G lv) (hr : r ∈ rowsG)
    (hbody : bodyS r.st = [.Try [.Expr e ep] [.ExceptHandler (some (.Name x np)) none [.Return (some (.Constant (.bool true) k1 k2)) rp] hp] [] [] tp, .Return (some (.Constant (.bool false) k3 k4)) rp'])
    (hs : scopeOk (scoS r.st) names = true) (hb : Binds0 r names) (hlv : lv < 100) (hx : (scoS r.st).names.lookup x = some .globalImplicit) (hc : clsOf x = some c) (hv : plainVal e = true)
    (vc : ∀ vs ph k ke, S vs ph k ke → vs.length = names.length ∧ (vcET G (scoS r.st) (names.zip vs) (fun c' ph1 => c' = c ∧ k (.bool true) ph1) 30).1 e ph (fun _ _ => False)) : CallOk P w hT r.addr S 100 := by
  have hra : r ∈ rowsAll := .tail _ (.tail _ (List.mem_append.mpr (.inl (List.mem_append.mpr (.inl hr)))))
  obtain ⟨dV, kV, doc, pm, an, cdv, ct, hf, hd⟩ := B.fnAt hra
  obtain rfl := B.noDflt (.tail _ (List.mem_append.mpr (.inl hr))) hd
  have Z := ScopeOk.of hs
  unfold Binds0 at hb
  rw [hbody] at hf hb
  exact tryOk_of hf B.excEnv (fun us s hl _ => .of_eq (hb _ _ _ _ _ _ us hl)) Z.nd Z.loc Z.ck Z.cell Z.cl Z.co Z.gen Z.kind hlv GK hx hc hv 30 vc
theorem c__law_is_refused (B : Bed w mg mb hT K) (GK : GOk P w mg mb hT K G4 5) : CallOk P w hT 285 sRefused 100 := B.callTry (r := rowG "_law_is_refused" 285 46) (x := nm "FormError") (c := 0) GK (List.mem_of_getElem? (i := 23) rfl) rfl (by kernel_rfl)
  (fun kV doc pm cdv ct an us hl => by obtain ⟨f, rfl⟩ := rangeF Value.none hl; kernel_rfl) (by decide) rfl rfl rfl refused_vc
theorem c__law_does_not_fit (B : Bed w mg mb hT K) (GK : GOk P w mg mb hT K G4 5) : CallOk P w hT 292 sUnfit 100 := B.callTry (r := rowG "_law_does_not_fit" 292 47) (x := nm "SizeError") (c := 1) GK (List.mem_of_getElem? (i := 24) rfl) rfl (by kernel_rfl)
  (fun kV doc pm cdv ct an us hl => by obtain ⟨f, rfl⟩ := rangeF Value.none hl; kernel_rfl) (by decide) rfl rfl rfl unfit_vc
theorem Bed.f0 (B : Bed w mg mb hT K) (GK : GOk P w mg mb hT K G0 0) (h : 2 ≤ lv) : AllOk (fun p => FnOk w mg hT lv p.1 p.2) fns0 :=
  have h2 := h; have h : 1 ≤ lv := Nat.le_of_succ_le h
  ⟨B.fn (i := 0) rfl ((c_put16 B GK).mono h), B.fn (i := 2) rfl ((c_need B GK).mono h), B.fn (i := 5) rfl ((c_fold B GK).mono h), B.fn (i := 7) rfl ((c_check_number B GK).mono h), B.fn (i := 8) rfl ((c_padded_options B GK).mono h), B.fn (i := 14) rfl ((c__law_pool B GK).mono h), B.fn (i := 15) rfl ((c__law_take B GK).mono h), B.fn (i := 19) rfl ((c__law_words B GK).mono h), B.fn (i := 20) rfl ((c__law_two B GK).mono h), B.fnS ((c_seg B GK).mono (h2)), trivial⟩
theorem Bed.f1 (B : Bed w mg mb hT K) (GK : GOk P w mg mb hT K G1 2) (h : 3 ≤ lv) (r : AllOk (fun p => FnOk w mg hT lv p.1 p.2) fns0) : AllOk (fun p => FnOk w mg hT lv p.1 p.2) fns1 :=
  ⟨B.fn (i := 1) rfl ((c_put32 B GK).mono h), B.fn (i := 3) rfl ((c_get16 B GK).mono h), B.fn (i := 25) rfl ((c_ones_sum B GK).mono h), B.fn (i := 6) rfl ((c_pseudo_sum B GK).mono h), B.fn (i := 12) rfl ((c_mss_option B GK).mono h), B.fn (i := 16) rfl ((c__law_one B GK).mono h), B.fn (i := 21) rfl ((c__law_four B GK).mono h), r⟩
theorem Bed.f2 (B : Bed w mg mb hT K) (GK : GOk P w mg mb hT K G2 3) (h : 4 ≤ lv) (r : AllOk (fun p => FnOk w mg hT lv p.1 p.2) fns1) : AllOk (fun p => FnOk w mg hT lv p.1 p.2) fns2 :=
  ⟨B.fn (i := 4) rfl ((c_get32 B GK).mono h), B.fn (i := 26) rfl ((c_checksum B GK).mono h), B.fn (i := 13) rfl ((c_mss_of B GK).mono h), B.fn (i := 17) rfl ((c__law_address B GK).mono h), B.fn (i := 9) rfl ((c_head_octets B GK).mono h), B.fn (i := 18) rfl ((c__law_options B GK).mono h), B.fn (i := 22) rfl ((c__law_written B GK).mono h), r⟩
theorem Bed.f3 (B : Bed w mg mb hT K) (GK : GOk P w mg mb hT K G3 4) (h : 5 ≤ lv) (r : AllOk (fun p => FnOk w mg hT lv p.1 p.2) fns2) : AllOk (fun p => FnOk w mg hT lv p.1 p.2) fns3 :=
  ⟨B.fn (i := 10) rfl ((c_pack_segment B GK).mono h), B.fn (i := 11) rfl ((c_unpack_segment B GK).mono h), r⟩
theorem Bed.g5 (B : Bed w mg mb hT K) : GOk P w mg mb hT K G5 100 := by
  have g0 : GOk P w mg mb hT K G0 0 := B.gok trivial trivial
  have me1 : ∀ {lv}, 1 ≤ lv → MeOk w hT K lv (nm "has") sHas ∧ MeOk w hT K lv (nm "row") sRow := fun h => ⟨B.me (i := 0) rfl (by kernel_rfl) ((c_has B g0).mono h), B.me (i := 2) rfl (by kernel_rfl) ((c_row B g0).mono h)⟩
  have g1 : GOk P w mg mb hT K G1 2 := B.gok (B.f0 g0 (by decide)) ⟨(me1 (by decide)).1, (me1 (by decide)).2, trivial⟩
  have me2 : ∀ {lv}, 3 ≤ lv → AllOk (fun p => MeOk w hT K lv p.1 p.2) me2 := fun h => ⟨(me1 (by omega)).1, (me1 (by omega)).2, B.me (i := 1) rfl (by kernel_rfl) ((c_length B g1).mono h), trivial⟩
  have F1 : ∀ {lv}, 3 ≤ lv → AllOk (fun p => FnOk w mg hT lv p.1 p.2) fns1 := fun h => B.f1 g1 h (B.f0 g0 (by omega))
  have g2 : GOk P w mg mb hT K G2 3 := B.gok (F1 (by decide)) (me2 (by decide))
  have F2 : ∀ {lv}, 4 ≤ lv → AllOk (fun p => FnOk w mg hT lv p.1 p.2) fns2 := fun h => B.f2 g2 h (F1 (by omega))
  have g3 : GOk P w mg mb hT K G3 4 := B.gok (F2 (by decide)) (me2 (by decide))
  have F3 : ∀ {lv}, 5 ≤ lv → AllOk (fun p => FnOk w mg hT lv p.1 p.2) fns3 := fun h => B.f3 g3 h (F2 (by omega))
  have g4 : GOk P w mg mb hT K G4 5 := B.gok (F3 (by decide)) (me2 (by decide))
  exact B.gok ⟨B.fn (i := 23) rfl (c__law_is_refused B g4), B.fn (i := 24) rfl (c__law_does_not_fit B g4), F3 (by decide)⟩ (me2 (by decide))
end
end Mine
set_option maxHeartbeats 4000000
namespace Mine
/-! ## the law's own frame -/
noncomputable abbrev lawEnv (L a : Addr) (cd : Value) : Env := envOfC (nm "law") lawS L a cd
theorem law_cells (L : Addr) : cellsFrom (L + 1) lawS.names [] = [(nm "source", L + 1)] := by kernel_rfl
theorem cell_only {x : PySem.Str} (h : lawS.names.lookup x = some .cell) : x = nm "source" := by
  have hm := mem_of_lookup h
  have g : lawS.names.all (fun p => (match p.2 with | .cell => false | _ => true) || p.1 == nm "source") = true := by kernel_rfl
  have := all_mem g hm
  simpa using this
theorem law_ev (L a : Addr) (cd : Value) : EvEnv (lawEnv L a cd) lawS L :=
  { kd := fun x k e => e, hk := rfl, gl := rfl, bu := rfl, lo := fun _ _ => rfl, ce := fun x e => by rw [cell_only e]; show (cellsFrom (L + 1) lawS.names []).lookup _ = _; rw [law_cells]; rfl }
theorem law_frm {H : Heap} {a : Addr} {cd : Value} {L : Addr} : Frm H (callerA.deeper (lawEnv L a cd)) (lawEnv L a cd) [] H H L 100 :=
  { fr := rfl, hl := rfl, hk := rfl, hh := rfl, hd := (by decide : 301 + 1 + 2 * 100 + 8 < 1000), hu := (by decide : 4 + 3 + 8 * 100 + 200 < 9900), bl := ⟨_, below_caller H⟩, st := fun _ _ e => e, tpb := fun _ => rfl }

section
variable {w : World} {mg mb : PySem.Str → Option Value} {H : Heap} {K : Frag} {a L : Addr} {cd : Value} {s : Shared} {rest : List (Addr × Obj)} {ls : Ls} {ph : List PO} {ρ : List Addr} {Q : Flow → Shared → Prop}
theorem law_cx (B : Bed w mg mb H K) : Cx P w mg mb H K G5 100 (callerA.deeper (lawEnv L a cd)) (lawEnv L a cd) [] H H L lawS :=
  ⟨B.g5, B.segFacts, law_frm, law_ev L a cd, rfl, raise_ok B.g5 B.excEnv law_frm (law_ev L a cd)⟩
noncomputable abbrev E0 : Value → Shared → Prop := fun _ _ => False
noncomputable abbrev krT : PV → List PO → Prop := fun v _ => v = .bool true
noncomputable abbrev keF : Nat → List PO → Prop := fun _ _ => False
theorem ep0 {base : Heap} {env : Env} {outer : List Env} : EP base env outer H L rest ρ keF E0 s := fun _ _ _ _ _ _ h => h.elim
theorem er0 : ER H L rest ρ keF E0 s := fun _ _ _ _ _ _ h => h.elim

/-- what is left to be run -/
noncomputable def Next (w : World) (H : Heap) (L a : Addr) (cd : Value) (rest : List (Addr × Obj)) (Q : Flow → Shared → Prop) (s : Shared) (sts : List Stmt) (ls : Ls) (ph : List PO) : Prop :=
  ∀ ρ h tk, ST H L rest ls ph ρ h → wpAny (model P w) (callerA.deeper (lawEnv L a cd)) (execs sts (lawEnv L a cd)) Q E0 { s with heap := h, toks := tk }
noncomputable def Done (H : Heap) (L : Addr) (rest : List (Addr × Obj)) (Q : Flow → Shared → Prop) (s : Shared) : Prop := ∀ h tk, (∃ ph ρ, ST H L rest [] ph ρ h) → Q (.ret (.bool true)) { s with heap := h, toks := tk }
theorem Done.rp (D : Done H L rest Q s) {h : Heap} {tk : Nat} : RP H L rest ρ krT Q { s with heap := h, toks := tk } := fun v u ph' ρ' h' tk' hk _ hu S => by
  subst hk
  cases hu
  exact D h' tk' ⟨ph', ρ', S⟩
theorem law_stmt (B : Bed w mg mb H K) (D : Done H L rest Q s) {st : Stmt} {sts : List Stmt} (h : stepS lawS (vEF G5 lawS 30) (vTF G5 lawS 30) vB st ls ph (Next w H L a cd rest Q s sts) krT keF) : Next w H L a cd rest Q s (st :: sts) ls ph := fun ρ hp tk S => by
  refine wpAny_execs_cons (stepS_sound (law_cx B) (vcB_sound (law_cx B) 40) h S (fun ls' ph' ρ' h' tk' hk _ S' => hk ρ' h' tk' S') ?_ ep0 er0 PassesOwn.never)
  exact fun v u ph' ρ' h' tk' hk p hu S' => D.rp v u ph' ρ' h' tk' hk p hu S'
theorem law_rest (B : Bed w mg mb H K) (D : Done H L rest Q s) {sts : List Stmt} (h : vcB G5 lawS 30 40 sts ls ph (fun _ _ => False) krT keF) : Next w H L a cd rest Q s sts ls ph := fun ρ hp tk S =>
  vcB_sound (law_cx B) 40 _ _ _ _ _ _ h rest ρ _ Q E0 S (fun _ _ _ _ _ hk => hk.elim) D.rp ep0 er0 PassesOwn.never
end
end Mine
set_option maxHeartbeats 4000000
namespace Mine
noncomputable def onlySource (l : List (PySem.Str × NameKind)) : Bool := l.all (fun p => (match p.2 with | .cell => false | _ => true) || p.1 == nm "source")
theorem only_source {l : List (PySem.Str × NameKind)} (g : onlySource l = true) {x : PySem.Str} (h : l.lookup x = some .cell) : x = nm "source" := by
  have := all_mem g (mem_of_lookup h)
  simpa using this
noncomputable def isLocK : NameKind → Bool
  | .local => true
  | _ => false
theorem isLocK_eq {k : NameKind} (h : isLocK k = true) : k = .local := by cases k <;> first | rfl | cases h
noncomputable def compOk (sc : Scope) (x : PySem.Str) : Bool :=
  onlySource (relabelS sc lawS).names && sc.names.all (fun p => match p.2 with | .cell => false | _ => true) && (match sc.kind with | .function => true | _ => false) && isLoc (sc.names.lookup x) && sc.names.all (fun p => !(isLocK p.2) || isLoc (sc.names.lookup p.1))
theorem law_comp {sc : Scope} {x : PySem.Str} {L a : Addr} {cd : Value} (hc : compOk sc x = true) (he : closureFor sc (lawEnv L a cd) = pure [(nm "source", L + 1)]) : CompFr (lawEnv L a cd) sc L x := by
  unfold compOk at hc
  simp only [Bool.and_eq_true] at hc
  obtain ⟨⟨⟨⟨h1, h2⟩, h3⟩, h4⟩, h5⟩ := hc
  refine ⟨⟨_, he, fun y hy => ?_⟩, fun y hy e => ?_, ?_, isLoc_eq h4, fun y hy e => ?_⟩
  · rw [only_source h1 hy]; rfl
  · have := all_mem h2 hy; rw [e] at this; cases this
  · cases e : sc.kind with
    | function => rfl
    | _ => rw [e] at h3; cases h3
  · have := all_mem h5 hy
    rw [e] at this
    exact isLoc_eq (by simpa [isLocK] using this)
noncomputable def noLoc (sc : Scope) (ls : Ls) : Bool := (relabelS sc lawS).names.all (fun p => !(isLocK p.2) || (ls.lookup p.1).isNone)
theorem no_loc {sc : Scope} {ls : Ls} (h : noLoc sc ls = true) (y : PySem.Str) (hy : (relabelS sc lawS).names.lookup y = some .local) : ls.lookup y = none := by
  have := all_mem h (mem_of_lookup hy)
  simpa [isLocK] using this
section
variable {w : World} {mg mb : PySem.Str → Option Value} {H : Heap} {K : Frag} {a L : Addr} {cd : Value} {s : Shared} {rest : List (Addr × Obj)} {ls : Ls} {ph : List PO} {ρ : List Addr} {Q : Flow → Shared → Prop} {sts : List Stmt}
theorem law_c3 (B : Bed w mg mb H K) (D : Done H L rest Q s) {p q : Int} (h : vC 3 keF (ls2 p q) ph (fun v ph1 => Next w H L a cd rest Q s sts (setL (nm "places") v (ls2 p q)) ph1)) : Next w H L a cd rest Q s (lawAt 3 :: sts) (ls2 p q) ph := fun ρ hp tk S => by
  refine wpAny_execs_cons ?_
  show wpAny _ _ (exec (.Assign [.Name (nm "places") _] (.ListComp _ [⟨.Name (nm "turn") _, .Call (.Name (nm "range") _) _ [] _, [], 0⟩] _ _) _) _) _ _ _
  exact compAssign_sound (law_cx B) h rfl rfl rfl (no_loc (by kernel_rfl)) (law_comp (by kernel_rfl) (by kernel_rfl)) rfl rfl (by kernel_rfl) S ep0 (fun ls' ph' ρ' h' tk' hk _ S' => hk ρ' h' tk' S')
theorem law_c7 (B : Bed w mg mb H K) (D : Done H L rest Q s) {p q f g u : Int} (h : vC 7 keF (ls5 p q f g u) ph (fun v ph1 => vcBi .bytes [v] ph1 fun z ph2 => Next w H L a cd rest Q s sts (setL (nm "payload") z (ls5 p q f g u)) ph2)) : Next w H L a cd rest Q s (lawAt 7 :: sts) (ls5 p q f g u) ph := fun ρ hp tk S => by
  refine wpAny_execs_cons ?_
  show wpAny _ _ (exec (.Assign [.Name (nm "payload") _] (.Call (.Name (nm "bytes") _) [.ListComp _ [⟨.Name (nm "turn") _, .Call (.Name (nm "range") _) _ [] _, [], 0⟩] _ _] [] _) _) _) _ _ _
  exact compBytes_sound (law_cx B) h rfl rfl rfl rfl rfl rfl (no_loc (by kernel_rfl)) (law_comp (by kernel_rfl) (by kernel_rfl)) rfl rfl S ep0 (fun ls' ph' ρ' h' tk' hk _ S' => hk ρ' h' tk' S')
end
end Mine
set_option maxHeartbeats 4000000
namespace Mine
noncomputable def valOf : Stmt → Expr
  | .Assign _ e _ => e
  | _ => .Constant .none 0 default
section
variable {w : World} {mg mb : PySem.Str → Option Value} {H : Heap} {K : Frag} {a L : Addr} {cd : Value} {s : Shared} {Q : Flow → Shared → Prop} {sts : List Stmt}
theorem pool_call {o : Obj} {ns : List Int} (hz : ns.length ≤ 1000000) : (vcET G5 lawS [(nm "script", .ref 0)] keF 30).1 (valOf (lawAt 0)) [.sc o ns] (fun v ph1 => v = .ref 1 ∧ ∃ p q, SrcOk p q ∧ ph1 = [.sc o ns, .il [p, q]]) := by
  conv => whnf
  exact ⟨o, ns, rfl, hz, fun x y h => ⟨rfl, x, y, h, rfl⟩⟩
theorem law_c0 (B : Bed w mg mb H K) {x : Addr} {o oc : Obj} {ns : List Int} {h₁ : Heap} {tk : Nat} {m : PySem.Str → Option Value} (hz : ns.length ≤ 1000000) (S : SX H L [(L + 1, oc)] [(nm "script", .ref 0)] [.sc o ns] [x] h₁ m [o]) (hoc : oc.data = .cell none)
    (hN : ∀ oc' p q, SrcOk p q → Next w H L a cd [(L + 1, oc'), (x, o)] Q s sts ls0 [.il [p, q]]) :
    wpAny (model P w) (callerA.deeper (lawEnv L a cd)) (execs (lawAt 0 :: sts) (lawEnv L a cd)) Q E0 { s with heap := h₁, toks := tk } := by
  refine wpAny_execs_cons ?_
  show wpAny _ _ (exec (.Assign [.Name (nm "source") _] (valOf (lawAt 0)) _) _) _ _ _
  refine wpAny_Assign_Name ((law_cx B).ev 30 (pool_call hz) S.st (fun v u ph1 ρ1 h1 tk1 hk p1 hu S1 => ?_) ep0) (swaps_plain (by kernel_rfl))
  obtain ⟨rfl, p, q, hs, rfl⟩ := hk
  obtain ⟨m1, conc1, S1⟩ := S1
  have hl := S1.len
  obtain ⟨t, rfl⟩ := p1
  have ht : t.length = 1 := by rw [List.length_append] at hl; exact Nat.succ.inj ((Nat.add_comm _ _).trans hl.symm)
  obtain ⟨pp, r, rfl, hr⟩ : ∃ pp r, t = pp :: r ∧ r.length = 0 := by
    cases t with
    | nil => cases ht
    | cons b r => exact ⟨b, r, rfl, Nat.succ.inj ht⟩
  obtain rfl := List.eq_nil_of_length_eq_zero hr
  have hc := S1.c
  have hd := S1.d
  have hrr := S1.r
  have hNw := S1.N
  obtain ⟨o1, o2, rfl⟩ : ∃ o1 o2, conc1 = [o1, o2] := by
    have hn := S1.n
    cases conc1 with
    | nil => cases hn
    | cons o1 c => cases c with
      | nil => cases hn
      | cons o2 c => cases c with
        | nil => exact ⟨o1, o2, rfl⟩
        | cons _ _ => cases hn
  obtain ⟨⟨rfl, _⟩, h2, _⟩ := hc
  obtain ⟨b, hb, rfl⟩ := hu
  obtain rfl : pp = b := Option.some.inj hb
  have N3 : ∀ z ∈ [(x, o1), (pp, o2), (L + 1, oc)], h1.get? z.1 = some z.2 ∧ z.1 ≠ L ∧ H.get? z.1 = none := hNw
  have nx : L + 1 ≠ x ∧ L + 1 ≠ pp := by
    have := hrr (L + 1, oc) (.head _)
    exact ⟨fun e => this (by rw [e]; exact .head _), fun e => this (by rw [e]; exact .tail _ (.head _))⟩
  have npx : x ≠ pp := by
    have := (List.nodup_cons.mp hd).1
    exact fun e => this (by rw [e]; exact .head _)
  refine wpAny_storeName_cell (c := L + 1) (v₀ := none) rfl rfl ((law_ev L a cd).ce _ rfl) ⟨oc, (N3 _ (.tail _ (.tail _ (.head _)))).1, hoc⟩ fun h' hv hsb => ?_
  obtain ⟨oc', g1, g2⟩ := hv
  refine hN oc' p q hs [pp] h' tk1 ⟨m1, [o2], ?_, ?_, ⟨h2, trivial⟩, rfl, ?_, by simp, ?_⟩
  · exact S1.F.update hNw (List.mem_append.mpr (.inr (.head _))) hsb
  · intro y v e
    cases q : y == cellKey with
    | false => unfold ls0 at e; rw [List.lookup_cons, q] at e; cases e
    | true =>
      unfold ls0 at e
      rw [List.lookup_cons, q] at e
      cases e
      exact ⟨.ref pp, ⟨pp, rfl, rfl⟩, .inr ⟨beq_iff_eq.mp q, oc', .head _, g2⟩⟩
  · intro z hz
    rcases List.mem_cons.mp hz with rfl | hz
    · have n := N3 (pp, o2) (.tail _ (.head _))
      exact ⟨(hsb.2 _ nx.2.symm).trans n.1, n.2⟩
    · rcases List.mem_cons.mp hz with rfl | hz
      · exact ⟨g1, (N3 (L + 1, oc) (.tail _ (.tail _ (.head _)))).2⟩
      · rw [List.mem_singleton.mp hz]
        have n := N3 (x, o1) (.head _)
        exact ⟨(hsb.2 _ nx.1.symm).trans n.1, n.2⟩
  · intro z hz hm
    rw [List.mem_singleton] at hm
    rcases List.mem_cons.mp hz with rfl | hz
    · exact nx.2 hm
    · rw [List.mem_singleton.mp hz] at hm
      exact npx hm
end
end Mine
set_option maxHeartbeats 4000000
namespace Mine
section
variable {w : World} {mg mb : PySem.Str → Option Value} {H : Heap} {K : Frag} {a L : Addr} {cd : Value} {s : Shared} {Q : Flow → Shared → Prop} {rest : List (Addr × Obj)}
theorem law_run (B : Bed w mg mb H K) (D : Done H L rest Q s) {p q : Int} (hs : SrcOk p q) : Next w H L a cd rest Q s (lawAt 1 :: lawAt 2 :: lawAt 3 :: lawAt 4 :: lawAt 5 :: lawAt 6 :: lawAt 7 :: restB) ls0 [.il [p, q]] :=
  law_stmt B D (law1 hs fun a b x y ha hb hs => law_stmt B D (law2 hs fun p q x y L1 L2 hp hq hs => law_c3 B D (law3 hs fun s k x y hs' hk hs => law_stmt B D (law4 hs fun f w u x y L5 L6 T2 hf hw hu hs =>
    law_stmt B D (law5 hs fun x y os told hz hi hm ht hs => law_stmt B D (law6 hz hm ht (law_c7 B D (law7 hs fun pl x y hz' hi' hs => law_rest B D (law8 hs ha hb hp hq hs' hk hf hw hu hz hi hz' hi')))))))))

theorem mem_look {α β : Type} [BEq α] [LawfulBEq α] {x : α} {v : β} : ∀ {l : List (α × β)}, l.lookup x = some v → (x, v) ∈ l
  | (y, w) :: r, e => by
    rw [List.lookup_cons] at e
    cases q : x == y with
    | true => rw [q] at e; cases e; rw [beq_iff_eq.mp q]; exact .head _
    | false => rw [q] at e; exact .tail _ (mem_look e)
  | [], e => by cases e
theorem ns_hide {h : Heap} {x y : Addr} {vs : Array Value} {m : PySem.Str → Option Value} (hL : h.IsList x vs) (g : h.Ns y m) : (hideAll h [x]).Ns y m := by
  obtain ⟨o, es, ep, h1, h2, h3⟩ := g
  obtain ⟨o', g1, _, n, g2⟩ := hL
  refine ⟨o, es, ep, hideAll_get _ h1 fun hm => ?_, h2, h3⟩
  rw [List.mem_singleton.mp hm, g1] at h1
  cases h1
  rw [g2] at h2
  cases h2
theorem Bed.hide {h : Heap} {x : Addr} {vs : Array Value} (B : Bed w mg mb h K) (hL : h.IsList x vs) : Bed w mg mb (hideAll h [x]) K := by
  refine ⟨ns_hide hL B.g, ns_hide hL B.b, fun b o e => hideAll_get _ (B.X b o e) fun hm => ?_, let ⟨mc, l1, l2⟩ := B.lim; ⟨mc, ns_hide hL l1, l2⟩, B.bu, B.F, B.V⟩
  obtain ⟨o', g1, g2, _⟩ := hL
  have e2 := B.X b o e
  rw [List.mem_singleton.mp hm, g1] at e2
  cases e2
  have hF := B.F
  unfold facts at hF
  have hn := all_mem (Bool.and_eq_true_iff.mp hF).1 (mem_look e)
  dsimp only at hn
  rw [g2] at hn
  cases hn
theorem law_call (B : Bed w mg mb s.heap K) {o : Obj} {pm doc : Value} (ho : s.heap.get? a = some o) (hd : o.data = .func (docDef (nm "law") (parS (stAt 48)) (bodyS (stAt 48)) lawS pm cd doc)) (hcd : s.heap.CodeRec cd (nm "law"))
    {x : Addr} {vs : List Value} {ns : List Int} (hL : s.heap.IsList x vs.toArray) (hI : IntsAre vs ns) (hz : ns.length ≤ 1000000) {R : Result → Shared → Prop}
    (hR : ∀ h tk, (∀ b o, s.heap.get? b = some o → h.get? b = some o) → R (.ok (.ret (.bool true))) { s with heap := h, toks := tk }) : codeAny (model P w) callerA (.call (.ref a) ⟨[.ref x], []⟩) R s := by
  refine call_cells_ret (binds := [(nm "script", .ref x)]) (by decide : 301 < 1000) ho hd B.lim hcd (by kernel_rfl) (fun y hy => .inl ?_) (fun h₁ tk F X => ?_) rfl rfl rfl
  · rw [List.mem_singleton.mp hy]; rfl
  · have B' := B.hide hL
    have hx : x < s.heap.objs.size := let ⟨_, h, _⟩ := hL; Heap.lt_size h
    obtain ⟨ob, g1, g2, n, g3⟩ := hL
    obtain ⟨oc, c1, c2⟩ := X.cell (nm "source") (s.heap.objs.size + 1) (by rw [law_cells]; rfl)
    have hxn : (hideAll s.heap [x]).get? x = none := hideAll_none _ (.head _)
    have hcn : (hideAll s.heap [x]).get? (s.heap.objs.size + 1) = none := by
      cases q : (hideAll s.heap [x]).get? (s.heap.objs.size + 1) with
      | none => rfl
      | some o => exact absurd (Heap.lt_size (of_hideAll _ q)) (Nat.not_lt.mpr (Nat.le_succ _))
    show wpAny _ _ (execs (lawAt 0 :: lawAt 1 :: lawAt 2 :: lawAt 3 :: lawAt 4 :: lawAt 5 :: lawAt 6 :: lawAt 7 :: restB) (lawEnv s.heap.objs.size a cd)) _ E0 _
    refine law_c0 (s := s) (o := ob) (oc := oc) (ns := ns) (x := x) B' hz ⟨⟨F.ns, fun b o e => F.keep b o (of_hideAll _ e), by rw [hideAll_size]; exact Nat.le_refl _⟩, fun y v e => ?_, ⟨⟨rfl, g2, vs, n, g3, hI⟩, trivial⟩, rfl, fun z hzm => ?_, by simp, fun z hzm hm => ?_⟩ c2 fun oc' p q hs => law_run B' (fun h' tk' ⟨ph, ρ, m, conc, S⟩ => hR h' tk' fun b o' e => ?_) hs
    · rw [List.lookup_cons] at e
      cases q : y == nm "script" with
      | false => rw [q] at e; cases e
      | true =>
        rw [q] at e
        cases e
        rw [beq_iff_eq.mp q]
        exact ⟨.ref x, ⟨x, rfl, rfl⟩, .inl ⟨beq_eq_false_iff_ne.mp (by kernel_rfl), by kernel_rfl⟩⟩
    · rcases List.mem_cons.mp hzm with rfl | hzm
      · exact ⟨F.keep _ _ g1, Nat.ne_of_lt hx, hxn⟩
      · rw [List.mem_singleton.mp hzm]
        exact ⟨c1, Nat.succ_ne_self _, hcn⟩
    · rw [List.mem_singleton.mp hzm] at hm
      have e : s.heap.objs.size + 1 = x := List.mem_singleton.mp hm
      exact absurd hx (Nat.not_lt.mpr (e ▸ Nat.le_succ _))
    · by_cases hb : b = x
      · subst hb
        rw [g1] at e
        cases e
        exact (S.N (b, ob) (List.mem_append.mpr (.inr (.tail _ (.head _))))).1
      · exact S.F.keep b o' (hideAll_get _ e fun hm => hb (List.mem_singleton.mp hm))
end
end Mine
set_option maxHeartbeats 0
namespace Mine
/-! ## the head -/
noncomputable def q : Program := view P [48]
noncomputable def loose : List PySem.Str := P.boundNames.filter (· != ("law" : PySem.Str))
theorem left : LeftO P q loose (fun s => xlAt q [] s && recOk [] s) seenOf (fun _ => seenWant) 4160 := fun w => by
  unfold openEnds fencedOpening topFrom
  rw [PySem.W.Fast.te10274390034422433532, PySem.W.Fast.te1435165496053646825, PySem.W.Fast.te14289696077712309145, PySem.W.Fast.te14082659384304107361, PySem.W.Fast.te14364793385576792824, PySem.W.Fast.te4187177175401517315, PySem.W.Fast.te5923862056798008813]
  kernel_rfl
noncomputable def SeenIn (_ : World) (h : Heap) : Prop := ∃ s : Shared, seenOf s = seenWant ∧ ∀ b o, s.heap.get? b = some o → h.get? b = some o
noncomputable def posS : Option Stmt → Pos
  | some (.FunctionDef _ _ _ _ _ _ _ _ _ p) => p
  | _ => default
noncomputable def lawD : DefRec := ⟨nm "law", parS (stAt 48), bodyS (stAt 48), lawS, posS (stAt 48)⟩
theorem bed_of {w : World} {mg mb : PySem.Str → Option Value} {h : Heap} {mean : ExcName → Option Value} (T : Top q (looseW q loose) mean mg mb h) (Y : SeenIn w h) : ∃ K, Bed w mg mb h K := by
  obtain ⟨s, e, k⟩ := Y
  exact ⟨fragOf s.heap asK, T.g, T.b, fun a o z => k _ _ (fragOf_in _ _ a o z), T.nolimit, T.builtins, congrArg Prod.fst e, congrArg Prod.snd e⟩
theorem law_walk : WalkO q loose (XL q []) SeenIn PySem.Challenge.rw_nu0124_01.row.toRowW lawD [] (fun f vs => PySem.call f vs) := by
  intro w s₀ s₁ mg mb G Y a o pm cd doc dV kV ho hd hcd hD hmg hg args vals as hpre hlay hrd hwl hlo
  obtain ⟨K, B⟩ := bed_of G.T Y
  have hdV : dV = .none := by
    rcases hD.pos with q | q
    · exact q.2
    · exact absurd rfl q.1
  have hkV : kV = .none := by
    rcases hD.kw with q | q
    · exact q.2
    · exact absurd rfl q.1
  subst hdV hkV
  wrow_args hpre hlay hrd hwl hlo
  refine enter_call ?_
  rename_i ns _ _ _ _ _ _ _ x vs _ hL _ _ _ hI _ hc _
  refine law_call (ns := ns) B ho hd hcd hL hI (by omega) fun h tk hk => GoodW.toG ⟨.inl ⟨.bool true, .bool true, [], rfl, raisesW_false (by wrow_none_raised), .bool true, by wrow_post, unshared_nil⟩, hk, rfl, hg⟩
end Mine
set_option maxHeartbeats 0
namespace Mine
/-! ## the looks at the text, part by part -/
theorem look1 : sreFenced P.main = true := by kernel_rfl
theorem look2 : ((moduleNames P.main.body).isEmpty || lookedIntoSs (moduleNames P.main.body) P.main.body) = true := by kernel_rfl
theorem look3 : namesResolve P = true := by kernel_rfl
theorem look4 : P.boundNames.all (fun n => !worldNames.contains n) = true := by kernel_rfl
theorem look5 : noRoadLSs { strict := !(importedModules P.main.body).all cThrough.contains, foot := none, bare := (["vars", "dir", "locals"] : List PySem.Str).filter (readsOut P P.main.body) } P.main.body = true := by kernel_rfl
theorem look6 : (namesMeet P P.main.body fun _ n => attrL n) = true := by kernel_rfl
theorem look_open : looksOpen P = true := look_both (look_both (look_both (look_both (look_both look1 look2) look3) look4) look5) look6
theorem look_row : PySem.Challenge.rw_nu0124_01.row.wellSaid = true := by
  unfold OpenRow.wellSaid OpenRow.partSaid
  refine look_both (look_both ?_ (by kernel_rfl)) (by kernel_rfl)
  iterate 13 (refine look_both ?_ (by kernel_rfl))
  exact look_open
theorem look_law : PySem.Challenge.rw_nu0124_01.wellSaid = true := by
  unfold OpenLaw.wellSaid
  iterate 18 (refine look_both ?_ (by kernel_rfl))
  exact look_row
theorem look_bare : PySem.Challenge.rw_nu0124_01.row.prog.bare := ⟨rfl, rfl, rfl, rfl, rfl, by decide +kernel⟩
end Mine
set_option maxHeartbeats 0
theorem PySem.Challenge.cw_nu0124_01_holds : PySem.Challenge.rw_nu0124_01.Holds := by
  w_on
  refine holds_law Mine.look_law fun said => ?_
  refine holds_open (q := Mine.q) (loose := Mine.loose) (Xt := fun s => xlAt Mine.q [] s && recOk [] s) (XP := XL Mine.q []) (Yf := Mine.seenOf) (Ya := fun _ => Mine.seenWant) (YP := Mine.SeenIn) (d := Mine.lawD) (kwd := []) (N := 4160) Mine.left
    (fun _ s e => ⟨s, e, fun _ _ z => z⟩) (fun _ _ _ ⟨s, e, k⟩ k' => ⟨s, e, fun b o z => k' b o (k b o z)⟩) (fun s e => xl_of s (Bool.and_eq_true_iff.mp e).1) XL.keeps (by kernel_rfl) (by kernel_rfl) (by kernel_rfl)
    (fun s e => recFacts_of (Bool.and_eq_true_iff.mp e).2) rfl Mine.look_row (by decide +kernel) Mine.look_bare ?hw Mine.law_walk
  case hw => w_witness2
