import PyProof.Rows.All
import Wide.All
import OpenK.AllK
import Wide.FinOn
import PySem.Challenge.RW_pq1207_01
open PySem PySem.W PyProof.Rows
set_option Elab.async false
set_option linter.unusedSimpArgs false
set_option linter.unusedVariables false
set_option linter.defProp false
set_option maxRecDepth 100000
namespace Mine
-- part R1
theorem in1 {A : Type} {a a' : A} (e : some a = some a') : a = a' := Option.some.inj e
theorem in2 {A B : Type} {a a' : A} {b b' : B} (e : some (a, b) = some (a', b')) : a = a' ∧ b = b' := by cases e ; exact ⟨rfl, rfl⟩
theorem in3 {A B D : Type} {a a' : A} {b b' : B} {c c' : D} (e : some (a, b, c) = some (a', b', c')) : a = a' ∧ b = b' ∧ c = c' := by cases e ; exact ⟨rfl, rfl, rfl⟩
theorem jn1 {A : Type} {a a' : A} (e : some a = some a') : a' = a := (in1 e).symm
theorem jn2 {A B : Type} {a a' : A} {b b' : B} (e : some (a, b) = some (a', b')) : a' = a ∧ b' = b := by cases e ; exact ⟨rfl, rfl⟩
theorem jn3 {A B D : Type} {a a' : A} {b b' : B} {c c' : D} (e : some (a, b, c) = some (a', b', c')) : a' = a ∧ b' = b ∧ c' = c := by cases e ; exact ⟨rfl, rfl, rfl⟩
theorem no1 {A : Type} {a : A} {p : Prop} (e : none = some a) : p := nomatch e
theorem len_one {A : Type} : ∀ {xs : List A}, xs.length = 1 → ∃ x, xs = [x]
  | [x], _ => ⟨x, rfl⟩

/-- abstract values -/
inductive AV where
  | none
  | bool (b : Bool)
  | int (i : Int)
  | bytes (b : List UInt8)
  | ref (i : Nat)
  | con (v : Value)

/-- abstract objects -/
inductive AObj where
  | list (xs : List AV)
  | tup (xs : List AV)
  | inst (C : Addr) (d : Nat)
  | flds (es : List (Str × AV))
  | idict (es : List (Int × Int))
  | cell (v : Option AV)
  | range (a b c : Int)

abbrev AH := List AObj

structure Loc where
  v : Str → Option AV
  c : Str → Option Nat

structure Stc where
  prog : Program
  w : World
  K : Frag
  p : Program
  loose : List Str
  mg : Str → Option Value
  mb : Str → Option Value

structure Cx where
  st : Stc
  A : Around
  A₀ : Around
  base : Heap
  h₀ : Heap
  outer : List Env
  fenv : Env
  L : Addr
  env : Env
  comp : Option (Addr × (Str → Option Value))

structure Cx.Ok (C : Cx) (rm : Nat) : Prop where
  fr : C.A.frames = some (C.fenv :: C.outer)
  hd : C.A.handled = none
  B : Below C.A₀ C.base C.outer C.h₀
  X : C.st.K.In C.h₀
  T : TopRead C.st.p C.st.loose C.st.mg C.st.mb C.h₀
  ff : C.fenv.frame = some C.L
  fk : C.fenv.scope.kind = .function
  ek : C.env.scope.kind = .function
  eg : C.env.globals = mainGlobals
  eb : C.env.builtins = builtinsNs
  room : C.A.depth + 4 * rm < recursionLimit
  units : C.A.units + 40 * rm < cLine

noncomputable def VR (ι : List Addr) : AV → Value → Prop
  | .none, v => v = .none
  | .bool b, v => v = .bool b
  | .int i, v => ∃ t, v = .int i t
  | .bytes b, v => ∃ t, v = .bytes b.toArray t
  | .ref i, v => ∃ a, ι[i]? = some a ∧ v = .ref a
  | .con c, v => v = c

noncomputable def VRs (ι : List Addr) : List AV → List Value → Prop
  | [], [] => True
  | a :: as, v :: vs => VR ι a v ∧ VRs ι as vs
  | _, _ => False

noncomputable def FRs (ι : List Addr) : List (Str × AV) → List DictEntry → Prop
  | [], [] => True
  | a :: as, e :: es => (∃ t, e.key = .str a.1 t) ∧ VR ι a.2 e.val ∧ FRs ι as es
  | _, _ => False

noncomputable def ORel (S : Stc) (ι : List Addr) : AObj → Obj → Prop
  | .list xs, o => ∃ vs n, o = W.listOf (List.toArray vs) n ∧ VRs ι xs vs
  | .tup xs, o => o.cls = .type "tuple" ∧ ∃ vs n, o.data = .seq (List.toArray vs) n ∧ VRs ι xs vs
  | .inst C d, o => ∃ dx, ι[d]? = some dx ∧ o = instObj C dx
  | .flds es, o => ∃ ds n, o = dictOf ds n ∧ FRs ι es ds
  | .idict es, o => ∃ kvs, Obj.IsDictOf (intKind S.prog S.w) o kvs ∧ PyProof.V.FlatPairs PyData.int kvs (es.map fun p => (PyData.int p.1, PyData.int p.2))
  | .cell av, o => ∃ v, o.data = .cell v ∧ match av, v with | none, none => True | some a, some b => VR ι a b | _, _ => False
  | .range a b c, o => ∃ t u v, o = { cls := .type "range", dict := none, data := .fields #[.int a t, .int b u, .int c v], slots := #[] }

noncomputable def LedR (S : Stc) (ι : List Addr) (H : AH) (led : List (Addr × Obj)) : Prop :=
  H.length = led.length ∧ ∀ (i : Nat) (ao : AObj) (p : Addr × Obj), H[i]? = some ao → led[i]? = some p → ORel S ι ao p.2 ∧ ∀ es, ao = .idict es → p.1 ≠ sysModules

noncomputable def VarsR (C : Cx) (hid : List (Addr × Obj)) (m : Str → Option Value) (ι : List Addr) (lm : Loc) : Prop :=
  (∃ mv, (match C.comp with
      | none => mv = m ∧ C.env.locals = C.L
      | some (V, m0) => m = m0 ∧ C.env.locals = V ∧ ∃ oC, (V, oC) ∈ hid ∧ ∀ h : Heap, h.get? V = some oC → h.Ns V mv) ∧
    ∀ x av, lm.v x = some av → ∃ v, mv x = some v ∧ VR ι av v) ∧
  ∀ x i, lm.c x = some i → ∃ c, C.env.cells.lookup x = some c ∧ ι[i]? = some c

inductive StRel (C : Cx) (hid : List (Addr × Obj)) (lm : Loc) (H : AH) (ι : List Addr) (h : Heap) : Prop where
  | mk (m : Str → Option Value) (led : List (Addr × Obj)) (el : led.map (·.1) = ι) (F : Fr C.h₀ C.L h m) (N : News C.h₀ C.L h (led ++ hid)) (nd : ((led ++ hid).map (·.1)).Nodup) (LR : LedR C.st ι H led) (V : VarsR C hid m ι lm)

theorem StRel.toA {C : Cx} {hid : List (Addr × Obj)} {lm : Loc} {H : AH} {ι : List Addr} {h : Heap} (S : StRel C hid lm H ι h) (A' : Around) : StRel { C with A := A' } hid lm H ι h := by
  obtain ⟨m, led, el, F, N, nd, LR, V⟩ := S
  exact ⟨m, led, el, F, N, nd, LR, V⟩
theorem StRel.ofA {C : Cx} {hid : List (Addr × Obj)} {lm : Loc} {H : AH} {ι : List Addr} {h : Heap} {A' : Around} (S : StRel { C with A := A' } hid lm H ι h) : StRel C hid lm H ι h := by
  obtain ⟨m, led, el, F, N, nd, LR, V⟩ := S
  exact ⟨m, led, el, F, N, nd, LR, V⟩
theorem pre_get {α : Type} {l l' : List α} (h : l <+: l') {i : Nat} {a : α} (e : l[i]? = some a) : l'[i]? = some a := by
  obtain ⟨t, rfl⟩ := h
  have hl := (List.getElem?_eq_some_iff.mp e).1
  rw [List.getElem?_append_left hl]; exact e

theorem VR.mono {ι ι' : List Addr} (h : ι <+: ι') : ∀ {a : AV} {v : Value}, VR ι a v → VR ι' a v
  | .none, _, e => e
  | .bool _, _, e => e
  | .int _, _, e => e
  | .bytes _, _, e => e
  | .ref _, _, ⟨a, e, r⟩ => ⟨a, pre_get h e, r⟩
  | .con _, _, e => e
theorem VRs.mono {ι ι' : List Addr} (h : ι <+: ι') : ∀ {as : List AV} {vs : List Value}, VRs ι as vs → VRs ι' as vs
  | [], [], _ => trivial
  | _ :: _, _ :: _, ⟨a, b⟩ => ⟨a.mono h, b.mono h⟩
  | [], _ :: _, e => e.elim
  | _ :: _, [], e => e.elim
theorem FRs.mono {ι ι' : List Addr} (h : ι <+: ι') : ∀ {as : List (Str × AV)} {vs : List DictEntry}, FRs ι as vs → FRs ι' as vs
  | [], [], _ => trivial
  | _ :: _, _ :: _, ⟨a, b, c⟩ => ⟨a, b.mono h, c.mono h⟩
  | [], _ :: _, e => e.elim
  | _ :: _, [], e => e.elim
theorem ORel.mono {S : Stc} {ι ι' : List Addr} (h : ι <+: ι') : ∀ {a : AObj} {o : Obj}, ORel S ι a o → ORel S ι' a o
  | .list _, _, ⟨vs, n, e, r⟩ => ⟨vs, n, e, r.mono h⟩
  | .tup _, _, ⟨c, vs, n, e, r⟩ => ⟨c, vs, n, e, r.mono h⟩
  | .inst _ _, _, ⟨dx, e, r⟩ => ⟨dx, pre_get h e, r⟩
  | .flds _, _, ⟨ds, n, e, r⟩ => ⟨ds, n, e, r.mono h⟩
  | .idict _, _, e => e
  | .cell none, _, ⟨none, e, _⟩ => ⟨none, e, trivial⟩
  | .cell (some _), _, ⟨some v, e, r⟩ => ⟨some v, e, VR.mono h r⟩
  | .cell none, _, ⟨some _, _, r⟩ => r.elim
  | .cell (some _), _, ⟨none, _, r⟩ => r.elim
  | .range _ _ _, _, e => e
theorem VarsR.mono {C : Cx} {hid : List (Addr × Obj)} {m : Str → Option Value} {ι ι' : List Addr} {lm : Loc} (h : ι <+: ι') (x : VarsR C hid m ι lm) : VarsR C hid m ι' lm := by
  obtain ⟨⟨mv, h1, h2⟩, h3⟩ := x
  refine ⟨⟨mv, h1, fun y av e => ?_⟩, fun y i e => ?_⟩
  · obtain ⟨v, a, b⟩ := h2 y av e
    exact ⟨v, a, b.mono h⟩
  · obtain ⟨c, a, b⟩ := h3 y i e
    exact ⟨c, a, pre_get h b⟩

theorem VRs.length {ι : List Addr} : ∀ {as : List AV} {vs : List Value}, VRs ι as vs → as.length = vs.length
  | [], [], _ => rfl
  | _ :: _, _ :: _, ⟨_, b⟩ => congrArg (· + 1) b.length
  | [], _ :: _, e => e.elim
  | _ :: _, [], e => e.elim
theorem VRs.get {ι : List Addr} : ∀ {as : List AV} {vs : List Value}, VRs ι as vs → ∀ {i : Nat} {a : AV}, as[i]? = some a → ∃ v, vs[i]? = some v ∧ VR ι a v
  | [], [], _, _, _, e => by (first | exact no1 e | obtain ⟨rfl, rfl, rfl⟩ := jn3 e | obtain ⟨rfl, rfl⟩ := jn2 e | obtain rfl := jn1 e | cases e)
  | _ :: _, _ :: _, ⟨x, _⟩, 0, _, e => by (first | exact no1 e | obtain ⟨rfl, rfl, rfl⟩ := jn3 e | obtain ⟨rfl, rfl⟩ := jn2 e | obtain rfl := jn1 e | cases e); exact ⟨_, rfl, x⟩
  | _ :: _, _ :: _, ⟨_, y⟩, i + 1, _, e => y.get (i := i) e
  | [], _ :: _, e, _, _, _ => e.elim
  | _ :: _, [], e, _, _, _ => e.elim
theorem VRs.append {ι : List Addr} : ∀ {as as' : List AV} {vs vs' : List Value}, VRs ι as vs → VRs ι as' vs' → VRs ι (as ++ as') (vs ++ vs')
  | [], _, [], _, _, h => h
  | _ :: _, _, _ :: _, _, ⟨x, y⟩, h => ⟨x, y.append h⟩
  | [], _, _ :: _, _, e, _ => e.elim
  | _ :: _, _, [], _, e, _ => e.elim
theorem VRs.set {ι : List Addr} {a : AV} {v : Value} (x : VR ι a v) : ∀ {as : List AV} {vs : List Value}, VRs ι as vs → ∀ i, VRs ι (as.set i a) (vs.set i v)
  | [], [], _, _ => trivial
  | _ :: _, _ :: _, ⟨_, y⟩, 0 => ⟨x, y⟩
  | _ :: _, _ :: _, ⟨z, y⟩, i + 1 => ⟨z, y.set x i⟩
  | [], _ :: _, e, _ => e.elim
  | _ :: _, [], e, _ => e.elim

section
variable {C : Cx} {hid : List (Addr × Obj)} {lm : Loc} {H : AH} {ι : List Addr} {h h' : Heap}

theorem StRel.ns (R : StRel C hid lm H ι h) : ∃ mv, h.Ns C.env.locals mv ∧ ∀ x av, lm.v x = some av → ∃ v, mv x = some v ∧ VR ι av v := by
  obtain ⟨m, led, e, F, N, nd, LR, ⟨⟨mv, h1, h2⟩, h3⟩⟩ := R
  refine ⟨mv, ?_, h2⟩
  split at h1
  · obtain ⟨rfl, e2⟩ := h1
    rw [e2]; exact F.ns
  · obtain ⟨_, e2, oC, hm, hn⟩ := h1
    rw [e2]; exact hn h (N _ (List.mem_append_right _ hm)).1

theorem StRel.keeps (R : StRel C hid lm H ι h) (hk : ∀ b o, h.get? b = some o → h'.get? b = some o) : StRel C hid lm H ι h' := by
  obtain ⟨m, led, e, F, N, nd, LR, V⟩ := R
  exact ⟨m, led, e, F.keeps hk, fun p hp => ⟨hk _ _ (N p hp).1, (N p hp).2⟩, nd, LR, V⟩

/-- the object at an abstract address -/
theorem StRel.get (R : StRel C hid lm H ι h) {i : Nat} {ao : AObj} (e : H[i]? = some ao) : ∃ a o, ι[i]? = some a ∧ h.get? a = some o ∧ ORel C.st ι ao o := by
  obtain ⟨m, led, el, F, N, nd, LR, V⟩ := R
  have hl := (List.getElem?_eq_some_iff.mp e).1
  rw [LR.1] at hl
  have e2 : led[i]? = some led[i] := List.getElem?_eq_getElem hl
  refine ⟨led[i].1, led[i].2, ?_, (N _ (List.mem_append_left _ (List.mem_of_getElem? e2))).1, (LR.2 i ao _ e e2).1⟩
  rw [← el, List.getElem?_map, e2]; rfl

theorem getElem?_set_cases {α : Type} {l : List α} {i j : Nat} {a b : α} (e : (l.set i a)[j]? = some b) : (i = j ∧ b = a) ∨ (i ≠ j ∧ l[j]? = some b) := by
  by_cases q : i = j
  · subst q
    rw [List.getElem?_set_self'] at e
    obtain ⟨x, hx, rfl⟩ := Option.map_eq_some_iff.mp e
    exact .inl ⟨rfl, rfl⟩
  · rw [List.getElem?_set_ne q] at e
    exact .inr ⟨q, e⟩

/-- a new object, abstractly at the end -/
theorem StRel.alloc {m : Str → Option Value} {led : List (Addr × Obj)} (el : led.map (·.1) = ι) (nd : ((led ++ hid).map (·.1)).Nodup) (LR : LedR C.st ι H led) (V : VarsR C hid m ι lm)
    {a : Addr} {o : Obj} {ao : AObj} (F' : Fr C.h₀ C.L h' m) (N' : News C.h₀ C.L h' ((a, o) :: (led ++ hid))) (hf : ∀ p ∈ led ++ hid, p.1 ≠ a) (ho : ORel C.st (ι ++ [a]) ao o) (hm : ∀ es, ao = .idict es → a ≠ sysModules := by intro _ h; cases h) :
    StRel C hid lm (H ++ [ao]) (ι ++ [a]) h' := by
  have pre : ι <+: ι ++ [a] := List.prefix_append _ _
  refine ⟨m, led ++ [(a, o)], by rw [List.map_append, el]; rfl, F', fun p hp => N' p ?_, ?_, ⟨by rw [List.length_append, List.length_append, LR.1]; rfl, ?_⟩, V.mono pre⟩
  · rw [List.append_assoc] at hp
    rcases List.mem_append.mp hp with q | q
    · exact .tail _ (List.mem_append_left _ q)
    · rcases List.mem_append.mp q with q | q
      · rw [List.mem_singleton.mp q]; exact .head _
      · exact .tail _ (List.mem_append_right _ q)
  · have nd2 : (((a, o) :: (led ++ hid)).map (·.1)).Nodup := by
      rw [List.map_cons]
      refine List.nodup_cons.mpr ⟨fun q => ?_, nd⟩
      obtain ⟨p, hp, e⟩ := List.mem_map.mp q
      exact hf p hp e
    refine (List.Perm.nodup_iff ?_).mp nd2
    refine List.Perm.map _ ?_
    rw [List.append_assoc]
    exact List.perm_middle.symm
  · intro i x p e1 e2
    by_cases q : i < H.length
    · rw [List.getElem?_append_left q] at e1
      rw [List.getElem?_append_left (LR.1 ▸ q)] at e2
      exact ⟨(LR.2 i x p e1 e2).1.mono pre, (LR.2 i x p e1 e2).2⟩
    · have q' : H.length ≤ i := Nat.le_of_not_lt q
      rw [List.getElem?_append_right q'] at e1
      rw [List.getElem?_append_right (LR.1 ▸ q')] at e2
      have hi : i - H.length = 0 := by
        have := (List.getElem?_eq_some_iff.mp e1).1
        simp at this; lia
      rw [hi] at e1
      rw [← LR.1, hi] at e2
      (first | exact no1 e1 | obtain ⟨rfl, rfl, rfl⟩ := jn3 e1 | obtain ⟨rfl, rfl⟩ := jn2 e1 | obtain rfl := jn1 e1 | cases e1); (first | exact no1 e2 | obtain ⟨rfl, rfl, rfl⟩ := jn3 e2 | obtain ⟨rfl, rfl⟩ := jn2 e2 | obtain rfl := jn1 e2 | cases e2)
      exact ⟨ho, hm⟩

theorem upd_of : ∀ {led : List (Addr × Obj)} {i : Nat} {a : Addr} {o o' : Obj} {hid : List (Addr × Obj)}, led[i]? = some (a, o) → ((led ++ hid).map (·.1)).Nodup → Upd a o o' (led ++ hid) (led.set i (a, o') ++ hid)
  | [], _, _, _, _, _, e, _ => by (first | exact no1 e | obtain ⟨rfl, rfl, rfl⟩ := jn3 e | obtain ⟨rfl, rfl⟩ := jn2 e | obtain rfl := jn1 e | cases e)
  | p :: r, 0, a, o, o', hid, e, nd => by
    (first | exact no1 e | obtain ⟨rfl, rfl, rfl⟩ := jn3 e | obtain ⟨rfl, rfl⟩ := jn2 e | obtain rfl := jn1 e | cases e)
    refine .head fun q hq z => ?_
    have := (List.nodup_cons.mp nd).1
    exact this (List.mem_map.mpr ⟨q, hq, z⟩)
  | p :: r, i + 1, a, o, o', hid, e, nd => by
    have nd' := List.nodup_cons.mp nd
    refine .tail (fun z => nd'.1 ?_) (upd_of (led := r) (i := i) e nd'.2)
    have : (a, o) ∈ r ++ hid := List.mem_append_left _ (List.mem_of_getElem? e)
    exact List.mem_map.mpr ⟨_, this, z.symm⟩

/-- an object changed -/
theorem StRel.set {m : Str → Option Value} {led : List (Addr × Obj)} (el : led.map (·.1) = ι) (nd : ((led ++ hid).map (·.1)).Nodup) (LR : LedR C.st ι H led) (V : VarsR C hid m ι lm)
    {i : Nat} {a : Addr} {o o' : Obj} {ao : AObj} (e : led[i]? = some (a, o)) (F' : Fr C.h₀ C.L h' m) (N' : News C.h₀ C.L h' (led.set i (a, o') ++ hid)) (ho : ORel C.st ι ao o') (hm : ∀ es, ao = .idict es → a ≠ sysModules := by intro _ h; cases h) :
    StRel C hid lm (H.set i ao) ι h' := by
  have em : (led.set i (a, o')).map (·.1) = led.map (·.1) := by
    rw [List.map_set]
    have : (led.map (·.1))[i]? = some a := by rw [List.getElem?_map, e]; rfl
    apply List.ext_getElem?
    intro j
    by_cases q : i = j
    · subst q
      rw [List.getElem?_set_self', this]; rfl
    · rw [List.getElem?_set_ne q]
  refine ⟨m, led.set i (a, o'), em.trans el, F', N', ?_, ⟨by rw [List.length_set, List.length_set, LR.1], ?_⟩, V⟩
  · rw [List.map_append, em, ← List.map_append]; exact nd
  · intro j x p e1 e2
    rcases getElem?_set_cases e1 with ⟨rfl, rfl⟩ | ⟨q, e1'⟩
    · rcases getElem?_set_cases e2 with ⟨_, rfl⟩ | ⟨z, _⟩
      · exact ⟨ho, hm⟩
      · exact absurd rfl z
    · rw [List.getElem?_set_ne q] at e2
      exact LR.2 j x p e1' e2

/-- one object changed in place -/
theorem StRel.change (R : StRel C hid lm H ι h) {i : Nat} {a : Addr} {o' : Obj} {ao : AObj} (hl : i < H.length) (ha : ι[i]? = some a) (hs : Heap.SameBut a h h') (hg : h'.get? a = some o') (ho : ORel C.st ι ao o') (hm : ∀ es, ao = .idict es → a ≠ sysModules := by intro _ h; cases h) :
    StRel C hid lm (H.set i ao) ι h' := by
  obtain ⟨m, led, el, F, N, nd, LR, V⟩ := R
  have hl' : i < led.length := LR.1 ▸ hl
  have e2 : led[i]? = some led[i] := List.getElem?_eq_getElem hl'
  have ea : led[i].1 = a := by
    rw [← el, List.getElem?_map, e2] at ha
    exact Option.some.inj ha
  have e3 : led[i]? = some (a, led[i].2) := by rw [e2, ← ea]
  have n0 := N _ (List.mem_append_left _ (List.mem_of_getElem? e3))
  refine StRel.set el nd LR V e3 (F.change hs n0.2.1 n0.2.2) (fun p hp => ?_) ho hm
  obtain ⟨pre, post, h1, h2, h3, h4⟩ := (upd_of (o' := o') e3 nd).split
  rw [h2] at hp
  have off : ∀ q ∈ led ++ hid, q.1 ≠ a → News C.h₀ C.L h' [q] := fun q hq ne r hr => by
    rw [List.mem_singleton.mp hr]
    exact ⟨(hs.2 _ ne).trans (N q hq).1, (N q hq).2⟩
  rcases List.mem_append.mp hp with q | q
  · exact off p (by rw [h1]; exact List.mem_append_left _ q) (h3 p q) p (.head _)
  · rcases List.mem_cons.mp q with rfl | q
    · exact ⟨hg, n0.2⟩
    · exact off p (by rw [h1]; exact List.mem_append_right _ (.tail _ q)) (h4 p q) p (.head _)

theorem StRel.getD (R : StRel C hid lm H ι h) {i : Nat} {es : List (Int × Int)} (e : H[i]? = some (.idict es)) : ∃ a o, ι[i]? = some a ∧ h.get? a = some o ∧ ORel C.st ι (.idict es) o ∧ a ≠ sysModules := by
  obtain ⟨m, led, el, F, N, nd, LR, V⟩ := R
  have hl := (List.getElem?_eq_some_iff.mp e).1
  rw [LR.1] at hl
  have e2 : led[i]? = some led[i] := List.getElem?_eq_getElem hl
  refine ⟨led[i].1, led[i].2, ?_, (N _ (List.mem_append_left _ (List.mem_of_getElem? e2))).1, (LR.2 i _ _ e e2).1, (LR.2 i _ _ e e2).2 es rfl⟩
  rw [← el, List.getElem?_map, e2]; rfl

theorem StRel.lt (R : StRel C hid lm H ι h) : ∃ m led, led.map (·.1) = ι ∧ Fr C.h₀ C.L h m ∧ News C.h₀ C.L h (led ++ hid) ∧ (∀ p ∈ led ++ hid, p.1 < h.objs.size) := by
  obtain ⟨m, led, el, F, N, nd, LR, V⟩ := R
  exact ⟨m, led, el, F, N, fun p hp => Heap.lt_size (N p hp).1⟩

/-- an object pushed -/
theorem StRel.push (R : StRel C hid lm H ι h) {o : Obj} {ao : AObj} (hf : o.isFreed = false) (ho : ORel C.st (ι ++ [h.objs.size]) ao o) (hm : ∀ es, ao = .idict es → h.objs.size ≠ sysModules := by intro _ h; cases h) :
    StRel C hid lm (H ++ [ao]) (ι ++ [h.objs.size]) (h.push o) := by
  obtain ⟨m, led, el, F, N, nd, LR, V⟩ := R
  exact StRel.alloc el nd LR V (F.push o) (News.push F N o hf) (fun p hp => Nat.ne_of_lt (Heap.lt_size (N p hp).1)) ho hm
end

/-- what holds behind a step -/
noncomputable def WPost {α : Type} (C : Cx) (hid : List (Addr × Obj)) (s : Shared) (lm' : Loc) (H' : AH) (ι : List Addr) (R : List Addr → α → Prop) (Q : α → Shared → Prop) : Prop :=
  ∀ a h' tk' ι', StRel C hid lm' H' ι' h' → ι <+: ι' → R ι' a → Q a { s with heap := h', toks := tk' }

abbrev M (β : Type) := Loc → AH → Option (β × AH)
noncomputable def M.pure {β : Type} (b : β) : M β := fun _ H => some (b, H)
noncomputable def M.bind {β γ : Type} (p : M β) (f : β → M γ) : M γ := fun l H => (p l H).bind fun r => f r.1 l r.2
noncomputable def M.fail {β : Type} : M β := fun _ _ => none

/-- a tree that computes what p says -/
noncomputable def TT {α β : Type} (C : Cx) (Γ : List Addr → Prop) (t : Sem α) (R : List Addr → β → α → Prop) (P : M β) : Prop :=
  ∀ hid s ι lm H b H', StRel C hid lm H ι s.heap → Γ ι → P lm H = some (b, H') → ∀ Q, WPost C hid s lm H' ι (fun ι' a => R ι' b a) Q → wpAny (model C.st.prog C.st.w) C.A t Q (fun _ _ => False) s
noncomputable def SE (C : Cx) (e : Expr) (P : M AV) : Prop := TT C (fun _ => True) (eval e C.env) VR P
noncomputable def SB (C : Cx) (e : Expr) (P : M Bool) : Prop := TT C (fun _ => True) (isTrue e C.env (eval e C.env)) (fun _ b a => a = b) P
noncomputable def SEs (C : Cx) (es : List Expr) (P : M (List AV)) : Prop := TT C (fun _ => True) (spliced (starEach es C.env)) VRs P

theorem shared_eta (s : Shared) : { s with heap := s.heap, toks := s.toks } = s := rfl

noncomputable def GMono (Γ : List Addr → Prop) : Prop := ∀ ι ι', ι <+: ι' → Γ ι → Γ ι'

theorem TT.bind {α β α' β' : Type} {C : Cx} {Γ : List Addr → Prop} {t : Sem α} {R : List Addr → β → α → Prop} {P : M β} {k : α → Sem α'} {R' : List Addr → β' → α' → Prop} {P' : β → M β'} (hΓ : GMono Γ)
    (h1 : TT C Γ t R P) (h2 : ∀ a b, TT C (fun ι => Γ ι ∧ R ι b a) (k a) R' (P' b)) : TT C Γ (t >>= k) R' (M.bind P P') := by
  intro hid s ι lm H b H' S g e Q hq
  unfold M.bind at e
  obtain ⟨⟨b1, H1⟩, e1, e2⟩ := Option.bind_eq_some_iff.mp e
  refine wpAny_bind (h1 hid s ι lm H b1 H1 S g e1 _ fun a h' tk' ι' S' pre r => ?_)
  refine h2 a b1 hid { s with heap := h', toks := tk' } ι' lm H1 b H' S' ⟨hΓ _ _ pre g, r⟩ e2 _ fun a2 h2 tk2 ι2 S2 pre2 r2 => ?_
  exact hq a2 h2 tk2 ι2 S2 (pre.trans pre2) r2

theorem TT.pure {α β : Type} {C : Cx} {Γ : List Addr → Prop} {R : List Addr → β → α → Prop} {a : α} {b : β} (h : ∀ ι, Γ ι → R ι b a) : TT C Γ (pure a) R (M.pure b) := by
  intro hid s ι lm H b' H' S g e Q hq
  (first | exact no1 e | obtain ⟨rfl, rfl, rfl⟩ := jn3 e | obtain ⟨rfl, rfl⟩ := jn2 e | obtain rfl := jn1 e | cases e)
  exact wpAny_pure (hq a s.heap s.toks ι S (List.prefix_refl _) (h ι g))

theorem TT.holding {α β : Type} {C : Cx} {Γ : List Addr → Prop} {t : Sem α} {R : List Addr → β → α → Prop} {P : M β} {vs : List Value} (h : TT C Γ t R P) : TT C Γ (holding vs t) R P :=
  fun hid s ι lm H b H' S g e Q hq => wpAny_holding (h hid s ι lm H b H' S g e Q hq)
theorem TT.standAt {α β : Type} {C : Cx} {Γ : List Addr → Prop} {k : Unit → Sem α} {R : List Addr → β → α → Prop} {P : M β} {p : Pos} (h : TT C Γ (k ()) R P) : TT C Γ (standAt p >>= k) R P :=
  fun hid s ι lm H b H' S g e Q hq => wpAny_bind (wpAny_standAt (h hid s ι lm H b H' S g e Q hq))
-- part R2

section
variable {C : Cx} {rm : Nat}

/-- a step whose end lies where it began -/
theorem TT.here {α β : Type} {Γ : List Addr → Prop} {t : Sem α} {R : List Addr → β → α → Prop} {P : M β}
    (h : ∀ (s : Shared) hid ι lm H b H', StRel C hid lm H ι s.heap → Γ ι → P lm H = some (b, H') → H' = H ∧
      ∀ Q : α → Shared → Prop, (∀ a tk, R ι b a → Q a { s with toks := tk }) → wpAny (model C.st.prog C.st.w) C.A t Q (fun _ _ => False) s) : TT C Γ t R P := by
  intro hid s ι lm H b H' S g e Q hq
  obtain ⟨rfl, k⟩ := h s hid ι lm H b H' S g e
  exact k Q fun a tk r => hq a s.heap tk ι S (List.prefix_refl _) r

-- constants
noncomputable def constM (a : AV) : M AV := M.pure a
theorem se_int {i : Int} {k : Nat} {pos : Pos} : SE C (.Constant (.int i) k pos) (constM (.int i)) :=
  TT.here fun s hid ι lm H b H' S g e => by
    (first | exact no1 e | obtain ⟨rfl, rfl, rfl⟩ := jn3 e | obtain ⟨rfl, rfl⟩ := jn2 e | obtain rfl := jn1 e | cases e)
    exact ⟨rfl, fun Q hq => wpAny_Constant_int (hq _ _ ⟨_, rfl⟩)⟩
theorem se_none {k : Nat} {pos : Pos} : SE C (.Constant .none k pos) (constM .none) :=
  TT.here fun s hid ι lm H b H' S g e => by
    (first | exact no1 e | obtain ⟨rfl, rfl, rfl⟩ := jn3 e | obtain ⟨rfl, rfl⟩ := jn2 e | obtain rfl := jn1 e | cases e)
    exact ⟨rfl, fun Q hq => wpAny_Constant_none (hq _ s.toks rfl)⟩
theorem se_bool {c : Bool} {k : Nat} {pos : Pos} : SE C (.Constant (.bool c) k pos) (constM (.bool c)) :=
  TT.here fun s hid ι lm H b H' S g e => by
    (first | exact no1 e | obtain ⟨rfl, rfl, rfl⟩ := jn3 e | obtain ⟨rfl, rfl⟩ := jn2 e | obtain rfl := jn1 e | cases e)
    exact ⟨rfl, fun Q hq => wpAny_Constant_bool (hq _ s.toks rfl)⟩

-- names
noncomputable def ldV (x : Str) : M AV := fun l H => (l.v x).map fun a => (a, H)
noncomputable def ldC (x : Str) : M AV := fun l H => (l.c x).bind fun i => match H[i]? with
  | some (.cell (some a)) => some (a, H)
  | _ => none
theorem se_local (hC : C.Ok rm) {x : Str} {pos : Pos} (hx : C.env.kindOf x = some .local) (hd : (x == ("__debug__" : Str)) = false) : SE C (.Name x pos) (ldV x) :=
  TT.here fun s hid ι lm H b H' S g e => by
    obtain ⟨a, ea, e'⟩ := Option.map_eq_some_iff.mp e
    (first | exact no1 e' | obtain ⟨rfl, rfl, rfl⟩ := jn3 e' | obtain ⟨rfl, rfl⟩ := jn2 e' | obtain rfl := jn1 e' | cases e')
    obtain ⟨mv, hn, hv⟩ := S.ns
    obtain ⟨v, ev, r⟩ := hv x _ ea
    exact ⟨rfl, fun Q hq => wpAny_Name (wpAny_loadName_local hC.ek hx hn ev (hq _ s.toks r)) hd⟩
theorem ldC_cell {hid : List (Addr × Obj)} {ι : List Addr} {lm : Loc} {H H' : AH} {h : Heap} {b : AV} {x : Str} (S : StRel C hid lm H ι h) (e : ldC x lm H = some (b, H')) :
    H' = H ∧ ∃ c v, C.env.cells.lookup x = some c ∧ h.IsCell c (some v) ∧ VR ι b v := by
  unfold ldC at e
  obtain ⟨i, ei, e2⟩ := Option.bind_eq_some_iff.mp e
  split at e2
  · rename_i a q
    (first | exact no1 e2 | obtain ⟨rfl, rfl, rfl⟩ := jn3 e2 | obtain ⟨rfl, rfl⟩ := jn2 e2 | obtain rfl := jn1 e2 | cases e2)
    obtain ⟨c, o, hc, ho, v, hd, r⟩ := S.get q
    obtain ⟨m, led, el, F, N, nd, LR, V⟩ := S
    obtain ⟨c', h1, h2⟩ := V.2 x i ei
    rw [hc] at h2
    (first | exact no1 h2 | obtain ⟨rfl, rfl, rfl⟩ := in3 h2 | obtain ⟨rfl, rfl⟩ := in2 h2 | obtain rfl := in1 h2 | cases h2)
    cases v with
    | none => exact r.elim
    | some v => exact ⟨rfl, c, v, h1, ⟨o, ho, hd⟩, r⟩
  · (first | exact no1 e2 | obtain ⟨rfl, rfl, rfl⟩ := jn3 e2 | obtain ⟨rfl, rfl⟩ := jn2 e2 | obtain rfl := jn1 e2 | cases e2)
theorem se_cell (hC : C.Ok rm) {x : Str} {pos : Pos} (hx : C.env.kindOf x = some .cell) (hd : (x == ("__debug__" : Str)) = false) : SE C (.Name x pos) (ldC x) :=
  TT.here fun s hid ι lm H b H' S g e => by
    obtain ⟨rfl, c, v, h1, h2, r⟩ := ldC_cell S e
    exact ⟨rfl, fun Q hq => wpAny_Name (wpAny_loadName_cell hC.ek hx h1 h2 (hq _ s.toks r)) hd⟩
theorem StRel.keepX {hid : List (Addr × Obj)} {ι : List Addr} {lm : Loc} {H : AH} {h : Heap} (S : StRel C hid lm H ι h) (hC : C.Ok rm) : C.st.K.In h := by
  obtain ⟨m, led, el, F, N, nd, LR, V⟩ := S
  exact hC.X.keeps F.keep
theorem StRel.keepT {hid : List (Addr × Obj)} {ι : List Addr} {lm : Loc} {H : AH} {h : Heap} (S : StRel C hid lm H ι h) (hC : C.Ok rm) : TopRead C.st.p C.st.loose C.st.mg C.st.mb h := by
  obtain ⟨m, led, el, F, N, nd, LR, V⟩ := S
  exact hC.T.keeps F.keep
theorem se_glob (hC : C.Ok rm) {x : Str} {pos : Pos} {v : Value} {av : AV} (hx : C.env.kindOf x = some .globalImplicit) (hd : (x == ("__debug__" : Str)) = false)
    (e : nsIn C.st.K mainGlobals x = some (some v)) (hv : VR [] av v) : SE C (.Name x pos) (constM av) :=
  TT.here fun s hid ι lm H b H' S g e' => by
    (first | exact no1 e' | obtain ⟨rfl, rfl, rfl⟩ := jn3 e' | obtain ⟨rfl, rfl⟩ := jn2 e' | obtain rfl := jn1 e' | cases e')
    have T := S.keepT hC
    refine ⟨rfl, fun Q hq => PySem.Calls.Name_function_global hC.ek hx (PySem.Calls.loadGlobal_global (env := C.env) (by rw [hC.eg]; exact T.g) (mg_of (S.keepX hC) T.g e) (hq _ s.toks (hv.mono List.nil_prefix))) hd⟩
theorem se_builtin (hC : C.Ok rm) {x : Str} {pos : Pos} {v : Value} (hx : C.env.kindOf x = some .globalImplicit) (hd : (x == ("__debug__" : Str)) = false)
    (e : nsIn C.st.K mainGlobals x = some none) (hb : bootBuiltins x = some v) (hn : x ≠ "__name__") : SE C (.Name x pos) (constM (.con v)) :=
  TT.here fun s hid ι lm H b H' S g e' => by
    (first | exact no1 e' | obtain ⟨rfl, rfl, rfl⟩ := jn3 e' | obtain ⟨rfl, rfl⟩ := jn2 e' | obtain rfl := jn1 e' | cases e')
    have T := S.keepT hC
    refine ⟨rfl, fun Q hq => PySem.Calls.Name_function_global hC.ek hx (PySem.Calls.loadGlobal_builtin (env := C.env) (by rw [hC.eg]; exact T.g) (mg_none_of (S.keepX hC) T.g e) (by rw [hC.eb]; exact T.b) ((T.builtins x hn).trans hb) (hq _ s.toks rfl)) hd⟩

-- two values, an operation
theorem se_binop {l r : Expr} {op : Operator} {pos : Pos} {P1 P2 : M AV} {F : AV → AV → M AV} (h1 : SE C l P1) (h2 : SE C r P2)
    (h : ∀ a b va vb, TT C (fun ι => VR ι a va ∧ VR ι b vb) (binaryOp op va vb) VR (F a b)) : SE C (.BinOp l op r pos) (M.bind P1 fun a => M.bind P2 fun b => F a b) := by
  intro hid s ι lm H v H' S _ e Q hq
  obtain ⟨⟨a, H1⟩, e1, e⟩ := Option.bind_eq_some_iff.mp e
  obtain ⟨⟨b, H2⟩, e2, e⟩ := Option.bind_eq_some_iff.mp e
  refine wpAny_BinOp (h1 hid s ι lm H a H1 S trivial e1 _ fun va h' tk' ι' S' p' ra => ?_)
  refine h2 hid _ ι' lm H1 b H2 S' trivial e2 _ fun vb h'' tk'' ι'' S'' p'' rb => ?_
  refine h a b va vb hid _ ι'' lm H2 v H' S'' ⟨ra.mono p'', rb⟩ e _ fun vr h3 tk3 ι3 S3 p3 r3 => ?_
  exact hq vr h3 tk3 ι3 S3 ((p'.trans p'').trans p3) r3
theorem se_cmp {l r : Expr} {op : CmpOp} {pos : Pos} {P1 P2 : M AV} {F : AV → AV → M AV} (h1 : SE C l P1) (h2 : SE C r P2)
    (h : ∀ a b va vb, TT C (fun ι => VR ι a va ∧ VR ι b vb) (compareOp op va vb) VR (F a b)) (hm : behindInMarks op r = false) : SE C (.Compare l [op] [r] pos) (M.bind P1 fun a => M.bind P2 fun b => F a b) := by
  intro hid s ι lm H v H' S _ e Q hq
  obtain ⟨⟨a, H1⟩, e1, e⟩ := Option.bind_eq_some_iff.mp e
  obtain ⟨⟨b, H2⟩, e2, e⟩ := Option.bind_eq_some_iff.mp e
  refine wpAny_Compare1 (h1 hid s ι lm H a H1 S trivial e1 _ fun va h' tk' ι' S' p' ra => ?_) hm
  refine h2 hid _ ι' lm H1 b H2 S' trivial e2 _ fun vb h'' tk'' ι'' S'' p'' rb => ?_
  refine h a b va vb hid _ ι'' lm H2 v H' S'' ⟨ra.mono p'', rb⟩ e _ fun vr h3 tk3 ι3 S3 p3 r3 => ?_
  exact hq vr h3 tk3 ι3 S3 ((p'.trans p'').trans p3) r3

/-- truth of a value -/
noncomputable def truM : AV → M Bool
  | .bool b => M.pure b
  | .none => M.pure false
  | .int i => M.pure (i != 0)
  | _ => M.fail
theorem tru_sound {a : AV} {v : Value} : TT C (fun ι => VR ι a v) (truthy v) (fun _ b c => c = b) (truM a) :=
  TT.here fun s hid ι lm H b H' S g e => by
    cases a with
    | bool c => (first | exact no1 g | obtain ⟨rfl, rfl, rfl⟩ := jn3 g | obtain ⟨rfl, rfl⟩ := jn2 g | obtain rfl := jn1 g | cases g); (first | exact no1 e | obtain ⟨rfl, rfl, rfl⟩ := jn3 e | obtain ⟨rfl, rfl⟩ := jn2 e | obtain rfl := jn1 e | cases e); exact ⟨rfl, fun Q hq => wpAny_truthy_bool (hq _ s.toks rfl)⟩
    | none => (first | exact no1 g | obtain ⟨rfl, rfl, rfl⟩ := jn3 g | obtain ⟨rfl, rfl⟩ := jn2 g | obtain rfl := jn1 g | cases g); (first | exact no1 e | obtain ⟨rfl, rfl, rfl⟩ := jn3 e | obtain ⟨rfl, rfl⟩ := jn2 e | obtain rfl := jn1 e | cases e); exact ⟨rfl, fun Q hq => truthy_none (hq _ s.toks rfl)⟩
    | int i => obtain ⟨t, rfl⟩ := g; (first | exact no1 e | obtain ⟨rfl, rfl, rfl⟩ := jn3 e | obtain ⟨rfl, rfl⟩ := jn2 e | obtain rfl := jn1 e | cases e); exact ⟨rfl, fun Q hq => truthy_int (hq _ s.toks rfl)⟩
    | _ => (first | exact no1 e | obtain ⟨rfl, rfl, rfl⟩ := jn3 e | obtain ⟨rfl, rfl⟩ := jn2 e | obtain rfl := jn1 e | cases e)
theorem sb_cmp {l r : Expr} {op : CmpOp} {pos : Pos} {P1 P2 : M AV} {F : AV → AV → M AV} (h1 : SE C l P1) (h2 : SE C r P2)
    (h : ∀ a b va vb, TT C (fun ι => VR ι a va ∧ VR ι b vb) (compareOp op va vb) VR (F a b)) (hm : behindInMarks op r = false) :
    SB C (.Compare l [op] [r] pos) (M.bind P1 fun a => M.bind P2 fun b => M.bind (F a b) truM) := by
  intro hid s ι lm H v H' S _ e Q hq
  obtain ⟨⟨a, H1⟩, e1, e⟩ := Option.bind_eq_some_iff.mp e
  obtain ⟨⟨b, H2⟩, e2, e⟩ := Option.bind_eq_some_iff.mp e
  obtain ⟨⟨c, H3⟩, e3, e⟩ := Option.bind_eq_some_iff.mp e
  refine wpAny_isTrue_Compare1 (h1 hid s ι lm H a H1 S trivial e1 _ fun va h' tk' ι' S' p' ra => ?_) hm
  refine h2 hid _ ι' lm H1 b H2 S' trivial e2 _ fun vb h'' tk'' ι'' S'' p'' rb => ?_
  refine h a b va vb hid _ ι'' lm H2 c H3 S'' ⟨ra.mono p'', rb⟩ e3 _ fun vr h3 tk3 ι3 S3 p3 r3 => ?_
  refine tru_sound hid _ ι3 lm H3 v H' S3 r3 e _ fun vt h4 tk4 ι4 S4 p4 r4 => ?_
  exact hq vt h4 tk4 ι4 S4 (((p'.trans p'').trans p3).trans p4) r4
theorem sb_value {e : Expr} {P : M AV} (h : SE C e P) (he : isTrue e C.env (eval e C.env) = (do let v ← eval e C.env; standAt e.pos; holding [v] (truthy v))) : SB C e (M.bind P truM) := by
  intro hid s ι lm H v H' S _ e' Q hq
  obtain ⟨⟨a, H1⟩, e1, e'⟩ := Option.bind_eq_some_iff.mp e'
  refine wpAny_isTrue_value (h hid s ι lm H a H1 S trivial e1 _ fun va h' tk' ι' S' p' ra => ?_) he
  refine tru_sound hid _ ι' lm H1 v H' S' ra e' _ fun vt h4 tk4 ι4 S4 p4 r4 => ?_
  exact hq vt h4 tk4 ι4 S4 (p'.trans p4) r4
noncomputable def notM (P : M Bool) : M Bool := M.bind P fun b => M.pure (!b)
theorem sb_not {e : Expr} {pos : Pos} {P : M Bool} (h : SB C e P) : SB C (.UnaryOp .Not e pos) (notM P) := by
  intro hid s ι lm H v H' S _ e' Q hq
  obtain ⟨⟨a, H1⟩, e1, e'⟩ := Option.bind_eq_some_iff.mp e'
  (first | exact no1 e' | obtain ⟨rfl, rfl, rfl⟩ := in3 e' | obtain ⟨rfl, rfl⟩ := in2 e' | obtain rfl := in1 e' | cases e')
  refine wpAny_isTrue_Not (h hid s ι lm H a H1 S trivial e1 _ fun va h' tk' ι' S' p' ra => ?_)
  (first | exact no1 ra | obtain ⟨rfl, rfl, rfl⟩ := jn3 ra | obtain ⟨rfl, rfl⟩ := jn2 ra | obtain rfl := jn1 ra | cases ra)
  exact hq _ h' tk' ι' S' p' rfl
noncomputable def andM (P Q : M Bool) : M Bool := M.bind P fun b => if b = true then Q else M.pure false
noncomputable def orM (P Q : M Bool) : M Bool := M.bind P fun b => if b = true then M.pure true else Q
noncomputable def SAll (C : Cx) (op : BoolOp) (es : List Expr) (P : M Bool) : Prop := TT C (fun _ => True) (allTrue op es C.env) (fun _ b a => a = b) P
theorem sall_and_nil : SAll C .And [] (M.pure true) := TT.pure fun _ _ => rfl
theorem sall_or_nil : SAll C .Or [] (M.pure false) := TT.pure fun _ _ => rfl
theorem sall_and {x : Expr} {rest : List Expr} {P Q : M Bool} (h1 : SB C x P) (h2 : SAll C .And rest Q) : SAll C .And (x :: rest) (andM P Q) := by
  intro hid s ι lm H v H' S _ e' R hq
  obtain ⟨⟨a, H1⟩, e1, e'⟩ := Option.bind_eq_some_iff.mp e'
  refine wpAny_allTrue_And_cons (h1 hid s ι lm H a H1 S trivial e1 _ fun va h' tk' ι' S' p' ra => ?_)
  (first | exact no1 ra | obtain ⟨rfl, rfl, rfl⟩ := jn3 ra | obtain ⟨rfl, rfl⟩ := jn2 ra | obtain rfl := jn1 ra | cases ra)
  cases a with
  | true =>
    refine h2 hid _ ι' lm H1 v H' S' trivial e' _ fun vt h4 tk4 ι4 S4 p4 r4 => ?_
    exact hq vt h4 tk4 ι4 S4 (p'.trans p4) r4
  | false => (first | exact no1 e' | obtain ⟨rfl, rfl, rfl⟩ := jn3 e' | obtain ⟨rfl, rfl⟩ := jn2 e' | obtain rfl := jn1 e' | cases e'); exact hq _ h' tk' ι' S' p' rfl
theorem wpAny_allTrue_Or_cons' {M' : Model} {A : Around} {E : Value → Shared → Prop} {s : Shared} {env : Env} {x : Expr} {rest : List Expr} {Q : Bool → Shared → Prop}
    (h : wpAny M' A (isTrue x env (eval x env)) (fun b s₁ => if b then Q true s₁ else wpAny M' A (allTrue .Or rest env) Q E s₁) E s) : wpAny M' A (allTrue .Or (x :: rest) env) Q E s := by
  show wpAny M' A (do match BoolOp.Or, ← isTrue x env (eval x env) with | .And, false => pure false | .Or, true => pure true | _, _ => allTrue .Or rest env) Q E s
  refine wpAny_bind (wpAny_mono h (fun b s₁ h₁ => ?_) fun _ _ x => x)
  (first | exact no1 b | obtain ⟨rfl, rfl, rfl⟩ := jn3 b | obtain ⟨rfl, rfl⟩ := jn2 b | obtain rfl := jn1 b | cases b)
  · exact h₁
  · exact wpAny_pure h₁
theorem sall_or {x : Expr} {rest : List Expr} {P Q : M Bool} (h1 : SB C x P) (h2 : SAll C .Or rest Q) : SAll C .Or (x :: rest) (orM P Q) := by
  intro hid s ι lm H v H' S _ e' R hq
  obtain ⟨⟨a, H1⟩, e1, e'⟩ := Option.bind_eq_some_iff.mp e'
  refine wpAny_allTrue_Or_cons' (h1 hid s ι lm H a H1 S trivial e1 _ fun va h' tk' ι' S' p' ra => ?_)
  (first | exact no1 ra | obtain ⟨rfl, rfl, rfl⟩ := jn3 ra | obtain ⟨rfl, rfl⟩ := jn2 ra | obtain rfl := jn1 ra | cases ra)
  cases a with
  | false =>
    refine h2 hid _ ι' lm H1 v H' S' trivial e' _ fun vt h4 tk4 ι4 S4 p4 r4 => ?_
    exact hq vt h4 tk4 ι4 S4 (p'.trans p4) r4
  | true => (first | exact no1 e' | obtain ⟨rfl, rfl, rfl⟩ := jn3 e' | obtain ⟨rfl, rfl⟩ := jn2 e' | obtain rfl := jn1 e' | cases e'); exact hq _ h' tk' ι' S' p' rfl
theorem sb_boolop {op : BoolOp} {es : List Expr} {pos : Pos} {P : M Bool} (h : SAll C op es P) : SB C (.BoolOp op es pos) P :=
  fun hid s ι lm H v H' S g e' R hq => wpAny_isTrue_BoolOp (h hid s ι lm H v H' S g e' R hq)
theorem se_ifexp {test body orelse : Expr} {pos : Pos} {P : M Bool} {P1 P2 : M AV} (h : SB C test P) (h1 : SE C body P1) (h2 : SE C orelse P2) :
    SE C (.IfExp test body orelse pos) (M.bind P fun b => if b = true then P1 else P2) := by
  intro hid s ι lm H v H' S _ e' R hq
  obtain ⟨⟨a, H1⟩, e1, e'⟩ := Option.bind_eq_some_iff.mp e'
  refine wpAny_IfExp (h hid s ι lm H a H1 S trivial e1 _ fun va h' tk' ι' S' p' ra => ?_)
  (first | exact no1 ra | obtain ⟨rfl, rfl, rfl⟩ := jn3 ra | obtain ⟨rfl, rfl⟩ := jn2 ra | obtain rfl := jn1 ra | cases ra)
  cases a with
  | false =>
    refine h2 hid _ ι' lm H1 v H' S' trivial e' _ fun vt h4 tk4 ι4 S4 p4 r4 => ?_
    exact hq vt h4 tk4 ι4 S4 (p'.trans p4) r4
  | true =>
    refine h1 hid _ ι' lm H1 v H' S' trivial e' _ fun vt h4 tk4 ι4 S4 p4 r4 => ?_
    exact hq vt h4 tk4 ι4 S4 (p'.trans p4) r4
/-- a BoolOp of two as a value -/
theorem se_and2 {x y : Expr} {pos : Pos} {P Q : M AV} (h1 : SE C x P) (h2 : SE C y Q) : SE C (.BoolOp .And [x, y] pos) (M.bind P fun a => M.bind (truM a) fun b => if b = true then Q else M.pure a) := by
  intro hid s ι lm H v H' S _ e' R hq
  obtain ⟨⟨a, H1⟩, e1, e'⟩ := Option.bind_eq_some_iff.mp e'
  obtain ⟨⟨b, H2⟩, e2, e'⟩ := Option.bind_eq_some_iff.mp e'
  refine wpAny_And2 (h1 hid s ι lm H a H1 S trivial e1 _ fun va h' tk' ι' S' p' ra => ?_)
  refine tru_sound hid _ ι' lm H1 b H2 S' ra e2 _ fun vt h4 tk4 ι4 S4 p4 r4 => ?_
  (first | exact no1 r4 | obtain ⟨rfl, rfl, rfl⟩ := jn3 r4 | obtain ⟨rfl, rfl⟩ := jn2 r4 | obtain rfl := jn1 r4 | cases r4)
  cases b with
  | true =>
    refine h2 hid _ ι4 lm H2 v H' S4 trivial e' _ fun vt h5 tk5 ι5 S5 p5 r5 => ?_
    exact hq vt h5 tk5 ι5 S5 ((p'.trans p4).trans p5) r5
  | false => (first | exact no1 e' | obtain ⟨rfl, rfl, rfl⟩ := jn3 e' | obtain ⟨rfl, rfl⟩ := jn2 e' | obtain rfl := jn1 e' | cases e'); exact hq _ h4 tk4 ι4 S4 (p'.trans p4) (ra.mono p4)

-- the operations on ints
noncomputable def addM : AV → AV → M AV
  | .int a, .int b => M.pure (.int (a + b))
  | _, _ => M.fail
noncomputable def subM : AV → AV → M AV
  | .int a, .int b => M.pure (.int (a - b))
  | _, _ => M.fail
noncomputable def mulM : AV → AV → M AV
  | .int a, .int b => if -(2 ^ 64) < a ∧ a < 2 ^ 64 then M.pure (.int (a * b)) else M.fail
  | _, _ => M.fail
noncomputable def modM : AV → AV → M AV
  | .int a, .int b => if b ≠ 0 then M.pure (.int (a.fmod b)) else M.fail
  | _, _ => M.fail
noncomputable def shrM : AV → AV → M AV
  | .int a, .int b => if 0 ≤ b then M.pure (.int (a.fdiv (2 ^ b.toNat))) else M.fail
  | _, _ => M.fail
noncomputable def bandM : AV → AV → M AV
  | .int a, .int b => M.pure (.int (Builtin.bitAnd a b))
  | _, _ => M.fail
theorem add_sound (a b : AV) (va vb : Value) : TT C (fun ι => VR ι a va ∧ VR ι b vb) (binaryOp .Add va vb) VR (addM a b) :=
  TT.here fun s hid ι lm H r H' S g e => by
    cases a <;> cases b <;> first | ((first | exact no1 e | obtain ⟨rfl, rfl, rfl⟩ := jn3 e | obtain ⟨rfl, rfl⟩ := jn2 e | obtain rfl := jn1 e | cases e); done) | skip
    obtain ⟨⟨t, rfl⟩, ⟨u, rfl⟩⟩ := g
    (first | exact no1 e | obtain ⟨rfl, rfl, rfl⟩ := jn3 e | obtain ⟨rfl, rfl⟩ := jn2 e | obtain rfl := jn1 e | cases e)
    exact ⟨rfl, fun Q hq => add_int (hq _ _ ⟨_, rfl⟩)⟩
theorem sub_sound (a b : AV) (va vb : Value) : TT C (fun ι => VR ι a va ∧ VR ι b vb) (binaryOp .Sub va vb) VR (subM a b) :=
  TT.here fun s hid ι lm H r H' S g e => by
    cases a <;> cases b <;> first | ((first | exact no1 e | obtain ⟨rfl, rfl, rfl⟩ := jn3 e | obtain ⟨rfl, rfl⟩ := jn2 e | obtain rfl := jn1 e | cases e); done) | skip
    obtain ⟨⟨t, rfl⟩, ⟨u, rfl⟩⟩ := g
    (first | exact no1 e | obtain ⟨rfl, rfl, rfl⟩ := jn3 e | obtain ⟨rfl, rfl⟩ := jn2 e | obtain rfl := jn1 e | cases e)
    exact ⟨rfl, fun Q hq => sub_int (hq _ _ ⟨_, rfl⟩)⟩
theorem mul_sound (a b : AV) (va vb : Value) : TT C (fun ι => VR ι a va ∧ VR ι b vb) (binaryOp .Mult va vb) VR (mulM a b) :=
  TT.here fun s hid ι lm H r H' S g e => by
    cases a <;> cases b <;> first | ((first | exact no1 e | obtain ⟨rfl, rfl, rfl⟩ := jn3 e | obtain ⟨rfl, rfl⟩ := jn2 e | obtain rfl := jn1 e | cases e); done) | skip
    obtain ⟨⟨t, rfl⟩, ⟨u, rfl⟩⟩ := g
    rename_i a b
    have e' : (if -(2 ^ 64) < a ∧ a < 2 ^ 64 then (M.pure (.int (a * b)) : M AV) else M.fail) lm H = some (r, H') := e
    by_cases q : -(2 ^ 64) < a ∧ a < 2 ^ 64
    · rw [if_pos q] at e'
      (first | exact no1 e' | obtain ⟨rfl, rfl, rfl⟩ := jn3 e' | obtain ⟨rfl, rfl⟩ := jn2 e' | obtain rfl := jn1 e' | cases e')
      exact ⟨rfl, fun Q hq => mul_int (hq _ _ ⟨_, rfl⟩) (IntMulOk.of_left (intBits_le_64 q.1 q.2))⟩
    · rw [if_neg q] at e'; (first | exact no1 e' | obtain ⟨rfl, rfl, rfl⟩ := jn3 e' | obtain ⟨rfl, rfl⟩ := jn2 e' | obtain rfl := jn1 e' | cases e')
theorem mod_sound (a b : AV) (va vb : Value) : TT C (fun ι => VR ι a va ∧ VR ι b vb) (binaryOp .Mod va vb) VR (modM a b) :=
  TT.here fun s hid ι lm H r H' S g e => by
    cases a <;> cases b <;> first | ((first | exact no1 e | obtain ⟨rfl, rfl, rfl⟩ := jn3 e | obtain ⟨rfl, rfl⟩ := jn2 e | obtain rfl := jn1 e | cases e); done) | skip
    obtain ⟨⟨t, rfl⟩, ⟨u, rfl⟩⟩ := g
    rename_i a b
    have e' : (if b ≠ 0 then (M.pure (.int (a.fmod b)) : M AV) else M.fail) lm H = some (r, H') := e
    by_cases q : b ≠ 0
    · rw [if_pos q] at e'
      (first | exact no1 e' | obtain ⟨rfl, rfl, rfl⟩ := jn3 e' | obtain ⟨rfl, rfl⟩ := jn2 e' | obtain rfl := jn1 e' | cases e')
      exact ⟨rfl, fun Q hq => mod_int' q (hq _ _ ⟨_, rfl⟩)⟩
    · rw [if_neg q] at e'; (first | exact no1 e' | obtain ⟨rfl, rfl, rfl⟩ := jn3 e' | obtain ⟨rfl, rfl⟩ := jn2 e' | obtain rfl := jn1 e' | cases e')
theorem shr_sound (a b : AV) (va vb : Value) : TT C (fun ι => VR ι a va ∧ VR ι b vb) (binaryOp .RShift va vb) VR (shrM a b) :=
  TT.here fun s hid ι lm H r H' S g e => by
    cases a <;> cases b <;> first | ((first | exact no1 e | obtain ⟨rfl, rfl, rfl⟩ := jn3 e | obtain ⟨rfl, rfl⟩ := jn2 e | obtain rfl := jn1 e | cases e); done) | skip
    obtain ⟨⟨t, rfl⟩, ⟨u, rfl⟩⟩ := g
    rename_i a b
    have e' : (if 0 ≤ b then (M.pure (.int (a.fdiv (2 ^ b.toNat))) : M AV) else M.fail) lm H = some (r, H') := e
    by_cases q : 0 ≤ b
    · rw [if_pos q] at e'
      (first | exact no1 e' | obtain ⟨rfl, rfl, rfl⟩ := jn3 e' | obtain ⟨rfl, rfl⟩ := jn2 e' | obtain rfl := jn1 e' | cases e')
      exact ⟨rfl, fun Q hq => rshift_int q (hq _ _ ⟨_, rfl⟩)⟩
    · rw [if_neg q] at e'; (first | exact no1 e' | obtain ⟨rfl, rfl, rfl⟩ := jn3 e' | obtain ⟨rfl, rfl⟩ := jn2 e' | obtain rfl := jn1 e' | cases e')
theorem band_sound (a b : AV) (va vb : Value) : TT C (fun ι => VR ι a va ∧ VR ι b vb) (binaryOp .BitAnd va vb) VR (bandM a b) :=
  TT.here fun s hid ι lm H r H' S g e => by
    cases a <;> cases b <;> first | ((first | exact no1 e | obtain ⟨rfl, rfl, rfl⟩ := jn3 e | obtain ⟨rfl, rfl⟩ := jn2 e | obtain rfl := jn1 e | cases e); done) | skip
    obtain ⟨⟨t, rfl⟩, ⟨u, rfl⟩⟩ := g
    (first | exact no1 e | obtain ⟨rfl, rfl, rfl⟩ := jn3 e | obtain ⟨rfl, rfl⟩ := jn2 e | obtain rfl := jn1 e | cases e)
    exact ⟨rfl, fun Q hq => and_int (hq _ _ ⟨_, rfl⟩)⟩
noncomputable def cmpI (op : CmpOp) (a b : Int) : Option Bool := match op with
  | .Eq => some (a == b)
  | .NotEq => some (a != b)
  | .Lt => some (decide (a < b))
  | .LtE => some (decide (a ≤ b))
  | .Gt => some (decide (b < a))
  | .GtE => some (decide (b ≤ a))
  | _ => none
noncomputable def cmpM (op : CmpOp) : AV → AV → M AV
  | .int a, .int b => match cmpI op a b with
    | some r => M.pure (.bool r)
    | none => M.fail
  | _, _ => M.fail
theorem cmp_sound {op : CmpOp} (a b : AV) (va vb : Value) : TT C (fun ι => VR ι a va ∧ VR ι b vb) (compareOp op va vb) VR (cmpM op a b) :=
  TT.here fun s hid ι lm H r H' S g e => by
    cases a <;> cases b <;> first | ((first | exact no1 e | obtain ⟨rfl, rfl, rfl⟩ := jn3 e | obtain ⟨rfl, rfl⟩ := jn2 e | obtain rfl := jn1 e | cases e); done) | skip
    obtain ⟨⟨t, rfl⟩, ⟨u, rfl⟩⟩ := g
    cases op <;> first | ((first | exact no1 e | obtain ⟨rfl, rfl, rfl⟩ := jn3 e | obtain ⟨rfl, rfl⟩ := jn2 e | obtain rfl := jn1 e | cases e); done) | skip
    · (first | exact no1 e | obtain ⟨rfl, rfl, rfl⟩ := jn3 e | obtain ⟨rfl, rfl⟩ := jn2 e | obtain rfl := jn1 e | cases e); exact ⟨rfl, fun Q hq => eq_int (hq _ s.toks rfl)⟩
    · (first | exact no1 e | obtain ⟨rfl, rfl, rfl⟩ := jn3 e | obtain ⟨rfl, rfl⟩ := jn2 e | obtain rfl := jn1 e | cases e); exact ⟨rfl, fun Q hq => ne_int (hq _ s.toks rfl)⟩
    · (first | exact no1 e | obtain ⟨rfl, rfl, rfl⟩ := jn3 e | obtain ⟨rfl, rfl⟩ := jn2 e | obtain rfl := jn1 e | cases e); exact ⟨rfl, fun Q hq => lt_int (hq _ s.toks rfl)⟩
    · (first | exact no1 e | obtain ⟨rfl, rfl, rfl⟩ := jn3 e | obtain ⟨rfl, rfl⟩ := jn2 e | obtain rfl := jn1 e | cases e); exact ⟨rfl, fun Q hq => le_int (hq _ s.toks rfl)⟩
    · (first | exact no1 e | obtain ⟨rfl, rfl, rfl⟩ := jn3 e | obtain ⟨rfl, rfl⟩ := jn2 e | obtain rfl := jn1 e | cases e); exact ⟨rfl, fun Q hq => gt_int (hq _ s.toks rfl)⟩
    · (first | exact no1 e | obtain ⟨rfl, rfl, rfl⟩ := jn3 e | obtain ⟨rfl, rfl⟩ := jn2 e | obtain rfl := jn1 e | cases e); exact ⟨rfl, fun Q hq => ge_int (hq _ s.toks rfl)⟩
noncomputable def isNoneM (y : Bool) : AV → AV → M AV
  | .none, .none => M.pure (.bool y)
  | .int _, .none => M.pure (.bool !y)
  | .bool _, .none => M.pure (.bool !y)
  | .ref _, .none => M.pure (.bool !y)
  | _, _ => M.fail
theorem is_sound (a b : AV) (va vb : Value) : TT C (fun ι => VR ι a va ∧ VR ι b vb) (compareOp .Is va vb) VR (isNoneM true a b) :=
  TT.here fun s hid ι lm H r H' S g e => by
    cases b <;> first | (cases a <;> (first | exact no1 e | obtain ⟨rfl, rfl, rfl⟩ := jn3 e | obtain ⟨rfl, rfl⟩ := jn2 e | obtain rfl := jn1 e | cases e); done) | skip
    cases a <;> first | ((first | exact no1 e | obtain ⟨rfl, rfl, rfl⟩ := jn3 e | obtain ⟨rfl, rfl⟩ := jn2 e | obtain rfl := jn1 e | cases e); done) | skip
    all_goals
      obtain ⟨g1, rfl⟩ := g
      (first | exact no1 e | obtain ⟨rfl, rfl, rfl⟩ := jn3 e | obtain ⟨rfl, rfl⟩ := jn2 e | obtain rfl := jn1 e | cases e)
    · (first | exact no1 g1 | obtain ⟨rfl, rfl, rfl⟩ := jn3 g1 | obtain ⟨rfl, rfl⟩ := jn2 g1 | obtain rfl := jn1 g1 | cases g1); exact ⟨rfl, fun Q hq => is_none (hq _ s.toks rfl)⟩
    · (first | exact no1 g1 | obtain ⟨rfl, rfl, rfl⟩ := jn3 g1 | obtain ⟨rfl, rfl⟩ := jn2 g1 | obtain rfl := jn1 g1 | cases g1); exact ⟨rfl, fun Q hq => is_none (hq _ s.toks rfl)⟩
    · obtain ⟨t, rfl⟩ := g1; exact ⟨rfl, fun Q hq => is_none (hq _ s.toks rfl)⟩
    · obtain ⟨t, _, rfl⟩ := g1; exact ⟨rfl, fun Q hq => is_none (hq _ s.toks rfl)⟩
theorem isNot_sound (a b : AV) (va vb : Value) : TT C (fun ι => VR ι a va ∧ VR ι b vb) (compareOp .IsNot va vb) VR (isNoneM false a b) :=
  TT.here fun s hid ι lm H r H' S g e => by
    cases b <;> first | (cases a <;> (first | exact no1 e | obtain ⟨rfl, rfl, rfl⟩ := jn3 e | obtain ⟨rfl, rfl⟩ := jn2 e | obtain rfl := jn1 e | cases e); done) | skip
    cases a <;> first | ((first | exact no1 e | obtain ⟨rfl, rfl, rfl⟩ := jn3 e | obtain ⟨rfl, rfl⟩ := jn2 e | obtain rfl := jn1 e | cases e); done) | skip
    all_goals
      obtain ⟨g1, rfl⟩ := g
      (first | exact no1 e | obtain ⟨rfl, rfl, rfl⟩ := jn3 e | obtain ⟨rfl, rfl⟩ := jn2 e | obtain rfl := jn1 e | cases e)
    · (first | exact no1 g1 | obtain ⟨rfl, rfl, rfl⟩ := jn3 g1 | obtain ⟨rfl, rfl⟩ := jn2 g1 | obtain rfl := jn1 g1 | cases g1); exact ⟨rfl, fun Q hq => isNot_none (hq _ s.toks rfl)⟩
    · (first | exact no1 g1 | obtain ⟨rfl, rfl, rfl⟩ := jn3 g1 | obtain ⟨rfl, rfl⟩ := jn2 g1 | obtain rfl := jn1 g1 | cases g1); exact ⟨rfl, fun Q hq => isNot_none (hq _ s.toks rfl)⟩
    · obtain ⟨t, rfl⟩ := g1; exact ⟨rfl, fun Q hq => isNot_none (hq _ s.toks rfl)⟩
    · obtain ⟨t, _, rfl⟩ := g1; exact ⟨rfl, fun Q hq => isNot_none (hq _ s.toks rfl)⟩
noncomputable def negM : AV → M AV
  | .int a => M.pure (.int (-a))
  | _ => M.fail
theorem se_neg {e : Expr} {pos : Pos} {P : M AV} (h : SE C e P) : SE C (.UnaryOp .USub e pos) (M.bind P negM) := by
  intro hid s ι lm H v H' S _ e' R hq
  obtain ⟨⟨a, H1⟩, e1, e'⟩ := Option.bind_eq_some_iff.mp e'
  refine wpAny_UnaryOp (h hid s ι lm H a H1 S trivial e1 _ fun va h' tk' ι' S' p' ra => ?_)
  cases a <;> first | ((first | exact no1 e' | obtain ⟨rfl, rfl, rfl⟩ := jn3 e' | obtain ⟨rfl, rfl⟩ := jn2 e' | obtain rfl := jn1 e' | cases e'); done) | skip
  obtain ⟨t, rfl⟩ := ra
  (first | exact no1 e' | obtain ⟨rfl, rfl, rfl⟩ := jn3 e' | obtain ⟨rfl, rfl⟩ := jn2 e' | obtain rfl := jn1 e' | cases e')
  exact neg_int (hq _ h' _ ι' S' p' ⟨_, rfl⟩)
end
-- part R3

/-- the attributes of the text's own objects, by class -/
noncomputable def okTab : List (Nat × List String) :=
  [(119, ["finder", "shortest", "known"]), (154, ["size", "costs", "steps"]), (212, ["of_literal", "of_match", "of_bit"]),
   (254, ["octets", "size", "last", "before"]), (388, ["octets", "least", "window", "chain", "ahead", "row"])]
noncomputable def okA (c : Addr) (x : Str) : Bool := okTab.any fun p => p.1 == c && p.2.any fun n => Str.ofString n == x

structure AttrOk (K : Frag) (c : Addr) (x : Str) : Prop where
  get : plainGet K c x = true
  dict : hasDictIn K c = true
  cls : ∃ a, findIn K (.ref c) x = some a ∧ noGet K a = true
  set : findIn K (.ref c) "__setattr__" = some (some (.builtin "object.__setattr__"))
  over : plainOver K c = true
  taker : takerIn K c x = some none
noncomputable def Attrs (K : Frag) : Prop := ∀ c x, okA c x = true → AttrOk K c x

noncomputable def lookF (x : Str) : List (Str × AV) → Option AV
  | [] => none
  | p :: r => if p.1 = x then some p.2 else lookF x r
noncomputable def putF (x : Str) (v : AV) : List (Str × AV) → List (Str × AV)
  | [] => [(x, v)]
  | p :: r => if p.1 = x then (p.1, v) :: r else p :: putF x v r
noncomputable def AV.plain : AV → Bool
  | .con _ => false
  | _ => true

theorem isStr_iff {t : Tok} {a x : Str} : Value.isStr (.str a t) x = decide (a = x) := by
  show (a == x) = _
  by_cases h : a = x
  · simp [h]
  · simp [h]

section
variable {ι : List Addr}
theorem FRs.noRef : ∀ {es : List (Str × AV)} {ds : List DictEntry}, FRs ι es ds → ds.any (·.refKey) = false
  | [], [], _ => rfl
  | _ :: _, e :: ds, ⟨⟨t, h⟩, _, r⟩ => by
    rw [List.any_cons, r.noRef, Bool.or_false]
    simp [DictEntry.refKey, h]
  | [], _ :: _, h => h.elim
  | _ :: _, [], h => h.elim
theorem FRs.find (x : Str) : ∀ {es : List (Str × AV)} {ds : List DictEntry}, FRs ι es ds →
    (∀ av, lookF x es = some av → ∃ e, ds.find? (fun d => d.key.isStr x) = some e ∧ VR ι av e.val) ∧ (lookF x es = none → ds.find? (fun d => d.key.isStr x) = none)
  | [], [], _ => ⟨fun _ h => (nomatch h), fun _ => rfl⟩
  | p :: es, e :: ds, ⟨⟨t, h⟩, v, r⟩ => by
    have ih := r.find x
    by_cases q : p.1 = x
    · refine ⟨fun av h' => ⟨e, ?_, ?_⟩, fun h' => ?_⟩
      · rw [List.find?_cons, h, isStr_iff, decide_eq_true q]
      · simp only [lookF, if_pos q] at h'; (first | exact no1 h' | obtain ⟨rfl, rfl, rfl⟩ := jn3 h' | obtain ⟨rfl, rfl⟩ := jn2 h' | obtain rfl := jn1 h' | cases h'); exact v
      · simp only [lookF, if_pos q] at h'; (first | exact no1 h' | obtain ⟨rfl, rfl, rfl⟩ := jn3 h' | obtain ⟨rfl, rfl⟩ := jn2 h' | obtain rfl := jn1 h' | cases h')
    · refine ⟨fun av h' => ?_, fun h' => ?_⟩
      · simp only [lookF, if_neg q] at h'
        obtain ⟨e', h1, h2⟩ := ih.1 av h'
        exact ⟨e', by rw [List.find?_cons, h, isStr_iff, decide_eq_false q]; exact h1, h2⟩
      · simp only [lookF, if_neg q] at h'
        rw [List.find?_cons, h, isStr_iff, decide_eq_false q]; exact ih.2 h'
  | [], _ :: _, h => h.elim
  | _ :: _, [], h => h.elim
theorem FRs.getL {x : Str} {es : List (Str × AV)} {ds : List DictEntry} (h : FRs ι es ds) :
    (∀ av, lookF x es = some av → ∃ v, W.getL x ds = some (some v) ∧ VR ι av v) ∧ (lookF x es = none → W.getL x ds = some none) := by
  have f := h.find x
  refine ⟨fun av e => ?_, fun e => ?_⟩
  · obtain ⟨d, h1, h2⟩ := f.1 av e
    exact ⟨d.val, by unfold W.getL; rw [h1], h2⟩
  · unfold W.getL
    rw [f.2 e, h.noRef]; rfl
theorem FRs.putL {x : Str} {k : Int} {t : Tok} {av : AV} {v : Value} (r : VR ι av v) : ∀ {es : List (Str × AV)} {ds : List DictEntry}, FRs ι es ds → FRs ι (putF x av es) (W.putL x k (.str x t) v ds)
  | [], [], _ => ⟨⟨t, rfl⟩, r, trivial⟩
  | p :: es, e :: ds, ⟨⟨t', h⟩, w, r'⟩ => by
    have ih := r'.putL (x := x) (k := k) (t := t) r
    unfold putF W.putL
    rw [h, isStr_iff]
    by_cases q : p.1 = x
    · rw [if_pos q, if_pos (decide_eq_true q)]
      exact ⟨⟨t', rfl⟩, r, r'⟩
    · rw [if_neg q, if_neg (by simpa using q)]
      exact ⟨⟨t', h⟩, w, ih⟩
  | [], _ :: _, h => h.elim
  | _ :: _, [], h => h.elim
theorem FRs.length : ∀ {es : List (Str × AV)} {ds : List DictEntry}, FRs ι es ds → es.length = ds.length
  | [], [], _ => rfl
  | _ :: _, _ :: _, ⟨_, _, r⟩ => congrArg (· + 1) r.length
  | [], _ :: _, h => h.elim
  | _ :: _, [], h => h.elim
theorem putF_length (x : Str) (v : AV) : ∀ es : List (Str × AV), (putF x v es).length ≤ es.length + 1
  | [] => Nat.le_refl _
  | p :: es => by
    unfold putF
    split
    · simp
    · have := putF_length x v es
      simp only [List.length_cons]; lia
end

/-- a made object and its fields -/
noncomputable def instF (v : AV) : M (Addr × Nat × List (Str × AV)) := fun _ H => match v with
  | .ref i => match H[i]? with
    | some (.inst c d) => match H[d]? with
      | some (.flds es) => some ((c, d, es), H)
      | _ => none
    | _ => none
  | _ => none
theorem instF_some {v : AV} {l : Loc} {H H' : AH} {r : Addr × Nat × List (Str × AV)} (e : instF v l H = some (r, H')) :
    H' = H ∧ ∃ i, v = .ref i ∧ H[i]? = some (.inst r.1 r.2.1) ∧ H[r.2.1]? = some (.flds r.2.2) := by
  unfold instF at e
  split at e
  · split at e
    · split at e
      · (first | exact no1 e | obtain ⟨rfl, rfl, rfl⟩ := jn3 e | obtain ⟨rfl, rfl⟩ := jn2 e | obtain rfl := jn1 e | cases e); exact ⟨rfl, _, rfl, by assumption, by assumption⟩
      · (first | exact no1 e | obtain ⟨rfl, rfl, rfl⟩ := jn3 e | obtain ⟨rfl, rfl⟩ := jn2 e | obtain rfl := jn1 e | cases e)
    · (first | exact no1 e | obtain ⟨rfl, rfl, rfl⟩ := jn3 e | obtain ⟨rfl, rfl⟩ := jn2 e | obtain rfl := jn1 e | cases e)
  · (first | exact no1 e | obtain ⟨rfl, rfl, rfl⟩ := jn3 e | obtain ⟨rfl, rfl⟩ := jn2 e | obtain rfl := jn1 e | cases e)

noncomputable def getA (x : Str) (v : AV) : M AV := M.bind (instF v) fun r => if okA r.1 x = true then (match lookF x r.2.2 with
  | some a => if a.plain = true then M.pure a else M.fail
  | none => M.fail) else M.fail
noncomputable def setA (x : Str) (o v : AV) : M Unit := M.bind (instF o) fun r => if okA r.1 x = true ∧ r.2.2.length < 900 then (fun _ H => some ((), H.set r.2.1 (.flds (putF x v r.2.2)))) else M.fail

section
variable {C : Cx} {rm : Nat} {hid : List (Addr × Obj)} {ι : List Addr} {lm : Loc} {H : AH} {h : Heap}
theorem StRel.inst (S : StRel C hid lm H ι h) {i d : Nat} {c : Addr} {es : List (Str × AV)} (h1 : H[i]? = some (.inst c d)) (h2 : H[d]? = some (.flds es)) :
    ∃ a dx ds n, ι[i]? = some a ∧ ι[d]? = some dx ∧ W.InstAt h a (instObj c dx) c (some (dictOf ds n)) ∧ FRs ι es ds ∧ h.get? dx = some (dictOf ds n) := by
  obtain ⟨a, o, ha, ho, dx, hd, rfl⟩ := S.get h1
  obtain ⟨dx', o', hd', ho', ds, n, rfl, fr⟩ := S.get h2
  rw [hd] at hd'
  (first | exact no1 hd' | obtain ⟨rfl, rfl, rfl⟩ := in3 hd' | obtain ⟨rfl, rfl⟩ := in2 hd' | obtain rfl := in1 hd' | cases hd')
  exact ⟨a, dx, ds, n, ha, hd, ⟨ho, rfl, rfl, ho'⟩, fr, ho'⟩
theorem handed_of {av : AV} {v : Value} (hp : av.plain = true) (r : VR ι av v) : handedIn v = true := by
  cases av with
  | none => (first | exact no1 r | obtain ⟨rfl, rfl, rfl⟩ := jn3 r | obtain ⟨rfl, rfl⟩ := jn2 r | obtain rfl := jn1 r | cases r); rfl
  | bool b => (first | exact no1 r | obtain ⟨rfl, rfl, rfl⟩ := jn3 r | obtain ⟨rfl, rfl⟩ := jn2 r | obtain rfl := jn1 r | cases r); rfl
  | int i => obtain ⟨t, rfl⟩ := r; rfl
  | bytes b => obtain ⟨t, rfl⟩ := r; rfl
  | ref i => obtain ⟨a, _, rfl⟩ := r; rfl
  | con c => (first | exact no1 hp | obtain ⟨rfl, rfl, rfl⟩ := jn3 hp | obtain ⟨rfl, rfl⟩ := jn2 hp | obtain rfl := jn1 hp | cases hp)
theorem getA_sound (hC : C.Ok rm) (hA : Attrs C.st.K) {x : Str} {expr : Bool} {a : AV} {v : Value} : TT C (fun ι => VR ι a v) (getAttr v x expr) VR (getA x a) :=
  TT.here fun s hid ι lm H b H' S g e => by
    obtain ⟨⟨⟨c, d, es⟩, H1⟩, e1, e9⟩ := Option.bind_eq_some_iff.mp e
    obtain ⟨rfl, i, rfl, h1, h2⟩ := instF_some e1
    dsimp only at e9 h1 h2
    by_cases hok : okA c x = true
    · rw [if_pos hok] at e9
      cases hl : lookF x es with
      | none => rw [hl] at e9; (first | exact no1 e9 | obtain ⟨rfl, rfl, rfl⟩ := jn3 e9 | obtain ⟨rfl, rfl⟩ := jn2 e9 | obtain rfl := jn1 e9 | cases e9)
      | some av' =>
        rw [hl] at e9
        dsimp only at e9
        by_cases hp : av'.plain = true
        · rw [if_pos hp] at e9
          (first | exact no1 e9 | obtain ⟨rfl, rfl, rfl⟩ := jn3 e9 | obtain ⟨rfl, rfl⟩ := jn2 e9 | obtain rfl := jn1 e9 | cases e9)
          obtain ⟨a, dx, ds, n, ha, hd, I, fr, ho⟩ := S.inst h1 h2
          obtain ⟨a', ha', rfl⟩ := g
          rw [ha] at ha'
          (first | exact no1 ha' | obtain ⟨rfl, rfl, rfl⟩ := jn3 ha' | obtain ⟨rfl, rfl⟩ := jn2 ha' | obtain rfl := jn1 ha' | cases ha')
          obtain ⟨v', hv, r⟩ := fr.getL.1 _ hl
          have O := hA c x hok
          obtain ⟨at', hat, hn⟩ := O.cls
          have S' := S
          obtain ⟨m, led, el, F, N, nd, LR, V⟩ := S'
          exact ⟨rfl, fun Q hq => get_own F hC.X I O.get O.dict hat hn hv (handed_of hp r) (hq _ _ r)⟩
        · rw [if_neg hp] at e9; (first | exact no1 e9 | obtain ⟨rfl, rfl, rfl⟩ := jn3 e9 | obtain ⟨rfl, rfl⟩ := jn2 e9 | obtain rfl := jn1 e9 | cases e9)
    · rw [if_neg hok] at e9; (first | exact no1 e9 | obtain ⟨rfl, rfl, rfl⟩ := jn3 e9 | obtain ⟨rfl, rfl⟩ := jn2 e9 | obtain rfl := jn1 e9 | cases e9)
theorem setA_sound (hC : C.Ok rm) (hA : Attrs C.st.K) {x : Str} {o a : AV} {vo va : Value} : TT C (fun ι => VR ι o vo ∧ VR ι a va) (setAttr vo x va) (fun _ _ _ => True) (setA x o a) := by
  intro hid s ι lm H b H' S g e Q hq
  obtain ⟨⟨⟨c, d, es⟩, H1⟩, e1, e9⟩ := Option.bind_eq_some_iff.mp e
  obtain ⟨rfl, i, rfl, h1, h2⟩ := instF_some e1
  dsimp only at e9 h1 h2
  by_cases hok : okA c x = true ∧ es.length < 900
  · rw [if_pos hok] at e9
    (first | exact no1 e9 | obtain ⟨rfl, rfl, rfl⟩ := jn3 e9 | obtain ⟨rfl, rfl⟩ := jn2 e9 | obtain rfl := jn1 e9 | cases e9)
    obtain ⟨a', dx, ds, n, ha, hd, I, fr, ho⟩ := S.inst h1 h2
    obtain ⟨⟨a2, ha2, rfl⟩, ra⟩ := g
    rw [ha] at ha2
    (first | exact no1 ha2 | obtain ⟨rfl, rfl, rfl⟩ := jn3 ha2 | obtain ⟨rfl, rfl⟩ := jn2 ha2 | obtain rfl := jn1 ha2 | cases ha2)
    have O := hA c x hok.1
    have hs : (W.getL x ds).isSome = true := by
      cases q : lookF x es with
      | none => rw [fr.getL.2 q]; rfl
      | some av => obtain ⟨v, hv, _⟩ := fr.getL.1 av q; rw [hv]; rfl
    have S' := S
    obtain ⟨m, led, el, F, N, nd, LR, V⟩ := S'
    have hdl : led[d]? = some (dx, dictOf ds n) := by
      have hl := (List.getElem?_eq_some_iff.mp h2).1
      rw [LR.1] at hl
      have e2 : led[d]? = some led[d] := List.getElem?_eq_getElem hl
      have q : led[d].1 = dx := by rw [← el, List.getElem?_map, e2] at hd; exact Option.some.inj hd
      have q2 := (N _ (List.mem_append_left _ (List.mem_of_getElem? e2))).1
      rw [q, ho] at q2
      rw [e2]
      congr 1
      exact Prod.ext q (Option.some.inj q2).symm
    refine set_dict F hC.X N I rfl O.set O.over O.taker O.dict hs rfl (upd_of hdl nd) ?_ fun h' F' N' => ?_
    · have := fr.length
      have hl := (fr.putL (x := x) (k := PyData.keyHash C.st.w.params x) (t := s.toks + 1) ra).length
      have := putF_length x a es
      lia
    · exact hq () h' _ ι (StRel.set el nd LR V hdl F' N' ⟨_, _, rfl, fr.putL ra⟩) (List.prefix_refl _) trivial
  · rw [if_neg hok] at e9; (first | exact no1 e9 | obtain ⟨rfl, rfl, rfl⟩ := jn3 e9 | obtain ⟨rfl, rfl⟩ := jn2 e9 | obtain rfl := jn1 e9 | cases e9)

theorem se_attr (hC : C.Ok rm) (hA : Attrs C.st.K) {e : Expr} {x : Str} {pos : Pos} {P : M AV} (h : SE C e P)
    (he : eval (.Attribute e x pos) C.env = (do
          let o ← eval e C.env
          standAt pos.atName
          let r ← holding [o] (getAttr o x true)
          letTemporaryGo e o r
          pure r)) : SE C (.Attribute e x pos) (M.bind P (getA x)) := by
  intro hid s ι lm H v H' S _ e' Q hq
  obtain ⟨⟨a, H1⟩, e1, e'⟩ := Option.bind_eq_some_iff.mp e'
  refine Attribute_any_ (h hid s ι lm H a H1 S trivial e1 _ fun va h' tk' ι' S' p' ra => ?_) he
  refine getA_sound hC hA hid _ ι' lm H1 v H' S' ra e' _ fun vt h4 tk4 ι4 S4 p4 r4 => ?_
  exact hq vt h4 tk4 ι4 S4 (p'.trans p4) r4

-- items
noncomputable def seqOf (v : AV) : M (List AV) := fun _ H => match v with
  | .ref i => match H[i]? with
    | some (.list xs) => some (xs, H)
    | some (.tup xs) => some (xs, H)
    | _ => none
  | _ => none
noncomputable def getI (o i : AV) : M AV := match i with
  | .int k => match o with
    | .bytes b => if 0 ≤ k ∧ k < b.length ∧ b.length ≤ 1099511627776 then M.pure (.int ((b.getD k.toNat 0).toNat : Nat)) else M.fail
    | o => M.bind (seqOf o) fun xs => if 0 ≤ k ∧ k < 2 ^ 63 then (match xs[k.toNat]? with
      | some a => M.pure a
      | none => M.fail) else M.fail
  | _ => M.fail
theorem seqIdx {k : Int} {n : Nat} (h0 : 0 ≤ k) (hn : k < n) : seqIndex? k n = some k.toNat := seqIndex_of h0 hn
theorem getI_sound {value slice : Expr} {o i : AV} {vo vi : Value} (hs : ∀ o i, subscripted slice false o i = operate [o, i] (getItem o i)) :
    TT C (fun ι => VR ι o vo ∧ VR ι i vi) (subscriptTail value slice vo vi) VR (getI o i) :=
  TT.here fun s hid ι lm H b H' S g e => by
    obtain ⟨go, gi⟩ := g
    cases i <;> first | ((first | exact no1 e | obtain ⟨rfl, rfl, rfl⟩ := jn3 e | obtain ⟨rfl, rfl⟩ := jn2 e | obtain rfl := jn1 e | cases e); done) | skip
    rename_i k
    obtain ⟨t, rfl⟩ := gi
    have seqs : ∀ o, VR ι o vo → (M.bind (seqOf o) fun xs => if 0 ≤ k ∧ k < 2 ^ 63 then (match xs[k.toNat]? with | some a => M.pure a | none => M.fail) else M.fail) lm H = some (b, H') →
        H' = H ∧ ∀ Q : Value → Shared → Prop, (∀ a tk, VR ι b a → Q a { s with toks := tk }) → wpAny (model C.st.prog C.st.w) C.A (subscriptTail value slice vo (.int k t)) Q (fun _ _ => False) s := by
      intro o go e
      obtain ⟨⟨xs, H1⟩, e1, e⟩ := Option.bind_eq_some_iff.mp e
      dsimp only at e
      by_cases hk : 0 ≤ k ∧ k < 2 ^ 63
      · rw [if_pos hk] at e
        cases hx : xs[k.toNat]? with
        | none => rw [hx] at e; (first | exact no1 e | obtain ⟨rfl, rfl, rfl⟩ := jn3 e | obtain ⟨rfl, rfl⟩ := jn2 e | obtain rfl := jn1 e | cases e)
        | some a =>
          rw [hx] at e
          (first | exact no1 e | obtain ⟨rfl, rfl, rfl⟩ := jn3 e | obtain ⟨rfl, rfl⟩ := jn2 e | obtain rfl := jn1 e | cases e)
          unfold seqOf at e1
          split at e1
          · rename_i j
            obtain ⟨ad, had, rfl⟩ := go
            split at e1
            · rename_i q
              (first | exact no1 e1 | obtain ⟨rfl, rfl, rfl⟩ := jn3 e1 | obtain ⟨rfl, rfl⟩ := jn2 e1 | obtain rfl := jn1 e1 | cases e1)
              obtain ⟨a', o, ha, ho, vs, n, rfl, r⟩ := S.get q
              rw [had] at ha; (first | exact no1 ha | obtain ⟨rfl, rfl, rfl⟩ := in3 ha | obtain ⟨rfl, rfl⟩ := in2 ha | obtain rfl := in1 ha | cases ha)
              obtain ⟨v, hv, rv⟩ := r.get hx
              have hL : s.heap.IsList ad vs.toArray := ⟨_, ho, rfl, n, rfl⟩
              exact ⟨rfl, fun Q hq => tail_any hL.typeIs slot_list_getitem.lookup (wpAny_getItem_list hL hk.1 hk.2 (by simpa using hv) (hq _ s.toks rv)) (hs _ _)⟩
            · rename_i q
              (first | exact no1 e1 | obtain ⟨rfl, rfl, rfl⟩ := jn3 e1 | obtain ⟨rfl, rfl⟩ := jn2 e1 | obtain rfl := jn1 e1 | cases e1)
              obtain ⟨a', o, ha, ho, hc, vs, n, hd, r⟩ := S.get q
              rw [had] at ha; (first | exact no1 ha | obtain ⟨rfl, rfl, rfl⟩ := in3 ha | obtain ⟨rfl, rfl⟩ := in2 ha | obtain rfl := in1 ha | cases ha)
              obtain ⟨v, hv, rv⟩ := r.get hx
              have hL : IsTup s.heap ad vs.toArray := ⟨o, ho, hc, n, hd⟩
              have hlt : k < (vs.toArray.size : Int) := by
                have := (List.getElem?_eq_some_iff.mp hv).1
                simp only [List.size_toArray]; lia
              exact ⟨rfl, fun Q hq => tail_any hL.typeIs slot_tuple_getitem.lookup (getItem_tuple hL (by lia) hk.2 (seqIdx hk.1 hlt) (by simpa using hv) (hq _ s.toks rv)) (hs _ _)⟩
            · (first | exact no1 e1 | obtain ⟨rfl, rfl, rfl⟩ := jn3 e1 | obtain ⟨rfl, rfl⟩ := jn2 e1 | obtain rfl := jn1 e1 | cases e1)
          · (first | exact no1 e1 | obtain ⟨rfl, rfl, rfl⟩ := jn3 e1 | obtain ⟨rfl, rfl⟩ := jn2 e1 | obtain rfl := jn1 e1 | cases e1)
      · rw [if_neg hk] at e; (first | exact no1 e | obtain ⟨rfl, rfl, rfl⟩ := jn3 e | obtain ⟨rfl, rfl⟩ := jn2 e | obtain rfl := jn1 e | cases e)
    cases o with
    | bytes bs =>
      obtain ⟨u, rfl⟩ := go
      have e' : (if 0 ≤ k ∧ k < bs.length ∧ bs.length ≤ 1099511627776 then (M.pure (.int ((bs.getD k.toNat 0).toNat : Nat)) : M AV) else M.fail) lm H = some (b, H') := e
      by_cases hk : 0 ≤ k ∧ k < bs.length ∧ bs.length ≤ 1099511627776
      · rw [if_pos hk] at e'
        (first | exact no1 e' | obtain ⟨rfl, rfl, rfl⟩ := jn3 e' | obtain ⟨rfl, rfl⟩ := jn2 e' | obtain rfl := jn1 e' | cases e')
        exact ⟨rfl, fun Q hq => tail_any (typeIs_bytes _ _ _) FB.slot_bytes_getitem.lookup (getItem_bytes hk.2.2 hk.1 hk.2.1 (hq _ _ ⟨_, rfl⟩)) (hs _ _)⟩
      · rw [if_neg hk] at e'; (first | exact no1 e' | obtain ⟨rfl, rfl, rfl⟩ := jn3 e' | obtain ⟨rfl, rfl⟩ := jn2 e' | obtain rfl := jn1 e' | cases e')
    | ref j => exact seqs _ go e
    | none => exact seqs _ go e
    | bool c => exact seqs _ go e
    | int c => exact seqs _ go e
    | con c => exact seqs _ go e
theorem se_sub {e i : Expr} {pos : Pos} {P Pi : M AV} (h : SE C e P) (hi : SE C i Pi) (hs : ∀ o v, subscripted i false o v = operate [o, v] (getItem o v)) :
    SE C (.Subscript e i pos) (M.bind P fun o => M.bind Pi fun k => getI o k) := by
  intro hid s ι lm H v H' S _ e' Q hq
  obtain ⟨⟨a, H1⟩, e1, e'⟩ := Option.bind_eq_some_iff.mp e'
  obtain ⟨⟨b, H2⟩, e2, e'⟩ := Option.bind_eq_some_iff.mp e'
  refine Subscript_ (h hid s ι lm H a H1 S trivial e1 _ fun va h' tk' ι' S' p' ra => ?_)
  refine hi hid _ ι' lm H1 b H2 S' trivial e2 _ fun vb h2 tk2 ι2 S2 p2 rb => ?_
  refine getI_sound hs hid _ ι2 lm H2 v H' S2 ⟨ra.mono p2, rb⟩ e' _ fun vt h4 tk4 ι4 S4 p4 r4 => ?_
  exact hq vt h4 tk4 ι4 S4 ((p'.trans p2).trans p4) r4

-- displays
noncomputable def newO (ao : AObj) : M AV := fun _ H => some (.ref H.length, H ++ [ao])
theorem StRel.len {hid : List (Addr × Obj)} {ι : List Addr} {lm : Loc} {H : AH} {h : Heap} (S : StRel C hid lm H ι h) : H.length = ι.length := by
  obtain ⟨m, led, el, F, N, nd, LR, V⟩ := S
  rw [LR.1, ← el, List.length_map]
theorem newList_sound {xs : List AV} {vs : List Value} (hsz : xs.length ≤ sizeLine) : TT C (fun ι => VRs ι xs vs) (newList vs) VR (newO (.list xs)) := by
  intro hid s ι lm H b H' S g e Q hq
  (first | exact no1 e | obtain ⟨rfl, rfl, rfl⟩ := jn3 e | obtain ⟨rfl, rfl⟩ := jn2 e | obtain rfl := jn1 e | cases e)
  refine wpAny_newObj_type ?_ (by show vs.toArray.size ≤ sizeLine; rw [List.size_toArray, ← g.length]; exact hsz)
  refine hq _ _ s.toks _ (S.push rfl ⟨vs, 0, rfl, g.mono (List.prefix_append _ _)⟩) (List.prefix_append _ _) ⟨_, ?_, rfl⟩
  rw [S.len, List.getElem?_concat_length]
theorem newTuple_sound {xs : List AV} {vs : List Value} (hsz : xs.length ≤ sizeLine) : TT C (fun ι => VRs ι xs vs) (newTuple vs) VR (newO (.tup xs)) := by
  intro hid s ι lm H b H' S g e Q hq
  (first | exact no1 e | obtain ⟨rfl, rfl, rfl⟩ := jn3 e | obtain ⟨rfl, rfl⟩ := jn2 e | obtain rfl := jn1 e | cases e)
  refine wpAny_newObj_type ?_ (by show vs.toArray.size ≤ sizeLine; rw [List.size_toArray, ← g.length]; exact hsz)
  refine hq _ _ s.toks _ (S.push rfl ⟨rfl, vs, 0, rfl, g.mono (List.prefix_append _ _)⟩) (List.prefix_append _ _) ⟨_, ?_, rfl⟩
  rw [S.len, List.getElem?_concat_length]
noncomputable def SArgs (C : Cx) (pos : Pos) (es : List Expr) (P : M (List AV)) : Prop := TT C (fun _ => True) (spliced (backTo pos (starEach es C.env))) VRs P
theorem sargs_nil {pos : Pos} : SArgs C pos [] (M.pure []) := TT.pure fun _ _ => trivial
theorem sargs_cons {pos : Pos} {e : Expr} {rest : List Expr} {P : M AV} {Ps : M (List AV)} (h1 : SE C e P) (h2 : SArgs C pos rest Ps)
    (he : starEach (e :: rest) C.env = (false, eval e C.env) :: starEach rest C.env) : SArgs C pos (e :: rest) (M.bind P fun v => M.bind Ps fun vs => M.pure (v :: vs)) := by
  intro hid s ι lm H v H' S _ e' Q hq
  obtain ⟨⟨a, H1⟩, e1, e'⟩ := Option.bind_eq_some_iff.mp e'
  obtain ⟨⟨b, H2⟩, e2, e'⟩ := Option.bind_eq_some_iff.mp e'
  (first | exact no1 e' | obtain ⟨rfl, rfl, rfl⟩ := in3 e' | obtain ⟨rfl, rfl⟩ := in2 e' | obtain rfl := in1 e' | cases e')
  rw [he]
  refine PySem.Calls.spliced_cons (h1 hid s ι lm H a H1 S trivial e1 _ fun va h' tk' ι' S' p' ra => ?_)
  refine h2 hid _ ι' lm H1 b H2 S' trivial e2 _ fun vb h2 tk2 ι2 S2 p2 rb => ?_
  exact hq _ h2 tk2 ι2 S2 (p'.trans p2) ⟨ra.mono p2, rb⟩
noncomputable def newL (xs : List AV) : M AV := if xs.length ≤ 1000 then newO (.list xs) else M.fail
noncomputable def newT (xs : List AV) : M AV := if xs.length ≤ 1000 then newO (.tup xs) else M.fail
theorem small_line {n : Nat} (h : n ≤ 1000) : n ≤ sizeLine := by rw [sizeLine_eq]; lia
theorem se_list {es : List Expr} {pos : Pos} {P : M (List AV)} (h : SArgs C pos es P) : SE C (.List es pos) (M.bind P newL) := by
  intro hid s ι lm H v H' S _ e' Q hq
  obtain ⟨⟨a, H1⟩, e1, e'⟩ := Option.bind_eq_some_iff.mp e'
  have e2 : (if a.length ≤ 1000 then newO (.list a) else M.fail) lm H1 = some (v, H') := e'
  by_cases ha : a.length ≤ 1000
  · rw [if_pos ha] at e2
    refine List_ (h hid s ι lm H a H1 S trivial e1 _ fun va h' tk' ι' S' p' ra => ?_)
    refine newList_sound (small_line ha) hid _ ι' lm H1 v H' S' ra e2 _ fun vt h4 tk4 ι4 S4 p4 r4 => ?_
    exact hq vt h4 tk4 ι4 S4 (p'.trans p4) r4
  · rw [if_neg ha] at e2; (first | exact no1 e2 | obtain ⟨rfl, rfl, rfl⟩ := jn3 e2 | obtain ⟨rfl, rfl⟩ := jn2 e2 | obtain rfl := jn1 e2 | cases e2)
theorem se_tuple {es : List Expr} {k : Nat} {pos : Pos} {P : M (List AV)} (h : SArgs C pos es P) : SE C (.Tuple es k pos) (M.bind P newT) := by
  intro hid s ι lm H v H' S _ e' Q hq
  obtain ⟨⟨a, H1⟩, e1, e'⟩ := Option.bind_eq_some_iff.mp e'
  have e2 : (if a.length ≤ 1000 then newO (.tup a) else M.fail) lm H1 = some (v, H') := e'
  by_cases ha : a.length ≤ 1000
  · rw [if_pos ha] at e2
    refine Tuple_ (h hid s ι lm H a H1 S trivial e1 _ fun va h' tk' ι' S' p' ra => ?_)
    refine newTuple_sound (small_line ha) hid _ ι' lm H1 v H' S' ra e2 _ fun vt h4 tk4 ι4 S4 p4 r4 => ?_
    exact hq vt h4 tk4 ι4 S4 (p'.trans p4) r4
  · rw [if_neg ha] at e2; (first | exact no1 e2 | obtain ⟨rfl, rfl, rfl⟩ := jn3 e2 | obtain ⟨rfl, rfl⟩ := jn2 e2 | obtain rfl := jn1 e2 | cases e2)
end
-- part R4

inductive Fl where
  | next
  | brk
  | cont
  | ret (v : AV)
noncomputable def FlR (ι : List Addr) : Fl → Flow → Prop
  | .next, f => f = .next
  | .brk, f => f = .brk
  | .cont, f => f = .cont
  | .ret a, f => ∃ v, f = .ret v ∧ VR ι a v

abbrev SM := Loc → AH → Option (Fl × Loc × AH)
abbrev UM := Loc → AH → Option (Loc × AH)
noncomputable def SX (C : Cx) (t : Sem Flow) (P : SM) : Prop :=
  ∀ hid s ι lm H fl lm' H', StRel C hid lm H ι s.heap → P lm H = some (fl, lm', H') → ∀ Q, WPost C hid s lm' H' ι (fun ι' a => FlR ι' fl a) Q → wpAny (model C.st.prog C.st.w) C.A t Q (fun _ _ => False) s
noncomputable def SS (C : Cx) (st : Stmt) (P : SM) : Prop := SX C (exec st C.env) P
noncomputable def SSs (C : Cx) (sts : List Stmt) (P : SM) : Prop := SX C (execs sts C.env) P
/-- a store: a tree that gives nothing -/
noncomputable def SU (C : Cx) (Γ : List Addr → Prop) (t : Sem Unit) (P : UM) : Prop :=
  ∀ hid s ι lm H lm' H', StRel C hid lm H ι s.heap → Γ ι → P lm H = some (lm', H') → ∀ Q : Unit → Shared → Prop, WPost C hid s lm' H' ι (fun _ _ => True) Q → wpAny (model C.st.prog C.st.w) C.A t Q (fun _ _ => False) s

noncomputable def nextS : SM := fun l H => some (.next, l, H)
noncomputable def seqS (p q : SM) : SM := fun l H => (p l H).bind fun r => match r.1 with
  | .next => q r.2.1 r.2.2
  | _ => some r
noncomputable def evS {β : Type} (p : M β) (k : β → SM) : SM := fun l H => (p l H).bind fun r => k r.1 l r.2
noncomputable def stS (u : UM) : SM := fun l H => (u l H).map fun r => (.next, r.1, r.2)
noncomputable def iteS (p : M Bool) (a b : SM) : SM := evS p fun c => if c = true then a else b

structure Cx.Fn (C : Cx) (rm : Nat) : Prop extends C.Ok rm where
  nc : C.comp = none
  lo : C.env.locals = C.L

section
variable {C : Cx} {rm : Nat}

theorem ss_nil : SSs C [] nextS := fun hid s ι lm H fl lm' H' S e Q hq => by
  (first | exact no1 e | obtain ⟨rfl, rfl, rfl⟩ := jn3 e | obtain ⟨rfl, rfl⟩ := jn2 e | obtain rfl := jn1 e | cases e)
  exact wpAny_execs_nil (hq _ s.heap s.toks ι S (List.prefix_refl _) rfl)
theorem ss_cons {st : Stmt} {r : List Stmt} {P Q : SM} (h1 : SS C st P) (h2 : SSs C r Q) : SSs C (st :: r) (seqS P Q) := by
  intro hid s ι lm H fl lm' H' S e R hq
  obtain ⟨⟨f1, l1, H1⟩, e1, e2⟩ := Option.bind_eq_some_iff.mp e
  refine wpAny_execs_cons (h1 hid s ι lm H f1 l1 H1 S e1 _ fun a h' tk' ι' S' p' r' => ?_)
  cases f1 with
  | next =>
    (first | exact no1 r' | obtain ⟨rfl, rfl, rfl⟩ := jn3 r' | obtain ⟨rfl, rfl⟩ := jn2 r' | obtain rfl := jn1 r' | cases r')
    refine h2 hid _ ι' l1 H1 fl lm' H' S' e2 _ fun a h2 tk2 ι2 S2 p2 r2 => ?_
    exact hq a h2 tk2 ι2 S2 (p'.trans p2) r2
  | brk => (first | exact no1 r' | obtain ⟨rfl, rfl, rfl⟩ := jn3 r' | obtain ⟨rfl, rfl⟩ := jn2 r' | obtain rfl := jn1 r' | cases r'); (first | exact no1 e2 | obtain ⟨rfl, rfl, rfl⟩ := jn3 e2 | obtain ⟨rfl, rfl⟩ := jn2 e2 | obtain rfl := jn1 e2 | cases e2); exact hq _ h' tk' ι' S' p' rfl
  | cont => (first | exact no1 r' | obtain ⟨rfl, rfl, rfl⟩ := jn3 r' | obtain ⟨rfl, rfl⟩ := jn2 r' | obtain rfl := jn1 r' | cases r'); (first | exact no1 e2 | obtain ⟨rfl, rfl, rfl⟩ := jn3 e2 | obtain ⟨rfl, rfl⟩ := jn2 e2 | obtain rfl := jn1 e2 | cases e2); exact hq _ h' tk' ι' S' p' rfl
  | ret v => obtain ⟨w, rfl, r'⟩ := r'; (first | exact no1 e2 | obtain ⟨rfl, rfl, rfl⟩ := jn3 e2 | obtain ⟨rfl, rfl⟩ := jn2 e2 | obtain rfl := jn1 e2 | cases e2); exact hq _ h' tk' ι' S' p' ⟨w, rfl, r'⟩
theorem ss_break {pos : Pos} : SS C (.Break pos) (fun l H => some (.brk, l, H)) := fun hid s ι lm H fl lm' H' S e Q hq => by
  (first | exact no1 e | obtain ⟨rfl, rfl, rfl⟩ := jn3 e | obtain ⟨rfl, rfl⟩ := jn2 e | obtain rfl := jn1 e | cases e)
  exact wpAny_Break (hq _ s.heap s.toks ι S (List.prefix_refl _) rfl)
theorem ss_continue {pos : Pos} : SS C (.Continue pos) (fun l H => some (.cont, l, H)) := fun hid s ι lm H fl lm' H' S e Q hq => by
  (first | exact no1 e | obtain ⟨rfl, rfl, rfl⟩ := jn3 e | obtain ⟨rfl, rfl⟩ := jn2 e | obtain rfl := jn1 e | cases e)
  exact wpAny_Continue (hq _ s.heap s.toks ι S (List.prefix_refl _) rfl)
theorem ss_return {e : Expr} {pos : Pos} {P : M AV} (h : SE C e P) : SS C (.Return (some e) pos) (evS P fun v l H => some (.ret v, l, H)) := by
  intro hid s ι lm H fl lm' H' S e' Q hq
  obtain ⟨⟨a, H1⟩, e1, e2⟩ := Option.bind_eq_some_iff.mp e'
  (first | exact no1 e2 | obtain ⟨rfl, rfl, rfl⟩ := in3 e2 | obtain ⟨rfl, rfl⟩ := in2 e2 | obtain rfl := in1 e2 | cases e2)
  refine wpAny_Return_some (h hid s ι lm H a H1 S trivial e1 _ fun va h' tk' ι' S' p' ra => ?_)
  exact hq _ h' tk' ι' S' p' ⟨va, rfl, ra⟩
theorem ss_return_none {pos : Pos} : SS C (.Return none pos) (fun l H => some (.ret .none, l, H)) := fun hid s ι lm H fl lm' H' S e Q hq => by
  (first | exact no1 e | obtain ⟨rfl, rfl, rfl⟩ := jn3 e | obtain ⟨rfl, rfl⟩ := jn2 e | obtain rfl := jn1 e | cases e)
  exact wpAny_Return_none (hq _ s.heap s.toks ι S (List.prefix_refl _) ⟨_, rfl, rfl⟩)
theorem ss_if {test : Expr} {body orelse : List Stmt} {pos : Pos} {P : M Bool} {A B : SM} (h : SB C test P) (h1 : SSs C body A) (h2 : SSs C orelse B) : SS C (.If test body orelse pos) (iteS P A B) := by
  intro hid s ι lm H fl lm' H' S e' Q hq
  obtain ⟨⟨a, H1⟩, e1, e2⟩ := Option.bind_eq_some_iff.mp e'
  refine wpAny_If (h hid s ι lm H a H1 S trivial e1 _ fun va h' tk' ι' S' p' ra => ?_)
  (first | exact no1 ra | obtain ⟨rfl, rfl, rfl⟩ := jn3 ra | obtain ⟨rfl, rfl⟩ := jn2 ra | obtain rfl := jn1 ra | cases ra)
  cases a with
  | true =>
    refine h1 hid _ ι' lm H1 fl lm' H' S' e2 _ fun vt h4 tk4 ι4 S4 p4 r4 => ?_
    exact hq vt h4 tk4 ι4 S4 (p'.trans p4) r4
  | false =>
    refine h2 hid _ ι' lm H1 fl lm' H' S' e2 _ fun vt h4 tk4 ι4 S4 p4 r4 => ?_
    exact hq vt h4 tk4 ι4 S4 (p'.trans p4) r4
/-- a statement that is never reached -/
theorem ss_never {st : Stmt} : SS C st (fun _ _ => none) := fun hid s ι lm H fl lm' H' S e Q hq => by (first | exact no1 e | obtain ⟨rfl, rfl, rfl⟩ := jn3 e | obtain ⟨rfl, rfl⟩ := jn2 e | obtain rfl := jn1 e | cases e)

-- stores
noncomputable def putV (x : Str) (a : AV) : UM := fun l H => some ({ l with v := fun y => if y = x then some a else l.v y }, H)
noncomputable def putC (x : Str) (a : AV) : UM := fun l H => (l.c x).bind fun i => match H[i]? with
  | some (.cell _) => some (l, H.set i (.cell (some a)))
  | _ => none
theorem store_local (hC : C.Fn rm) {x : Str} {a : AV} {v : Value} (hx : C.env.kindOf x = some .local) : SU C (fun ι => VR ι a v) (storeName C.env x v) (putV x a) := by
  intro hid s ι lm H lm' H' S g e Q hq
  (first | exact no1 e | obtain ⟨rfl, rfl, rfl⟩ := jn3 e | obtain ⟨rfl, rfl⟩ := jn2 e | obtain rfl := jn1 e | cases e)
  obtain ⟨m, led, el, F, N, nd, LR, V⟩ := S
  refine wpAny_storeName_local (m := m) hx (by rw [hC.lo]; exact F.ns) (fun h' hn hs => ?_) (by
    show (C.env.scope.kind == .class || (C.env.scope.kind == .module && C.env.locals != C.env.globals)) = false
    rw [hC.ek]; rfl)
  rw [hC.lo] at hn hs
  refine hq () h' (s.toks + 1) ι ⟨_, led, el, F.set hn hs, N.set hs, nd, LR, ?_⟩ (List.prefix_refl _) trivial
  obtain ⟨⟨mv, h1, h2⟩, h3⟩ := V
  rw [hC.nc] at h1
  obtain ⟨rfl, h1⟩ := h1
  refine ⟨⟨_, by rw [hC.nc]; exact ⟨rfl, h1⟩, fun y av ey => ?_⟩, h3⟩
  dsimp only at ey ⊢
  by_cases q : y = x
  · rw [if_pos q] at ey ⊢
    (first | exact no1 ey | obtain ⟨rfl, rfl, rfl⟩ := jn3 ey | obtain ⟨rfl, rfl⟩ := jn2 ey | obtain rfl := jn1 ey | cases ey)
    exact ⟨v, rfl, g⟩
  · rw [if_neg q] at ey ⊢
    exact h2 y av ey
theorem store_cell (hC : C.Fn rm) {x : Str} {a : AV} {v : Value} (hx : C.env.kindOf x = some .cell) : SU C (fun ι => VR ι a v) (storeName C.env x v) (putC x a) := by
  intro hid s ι lm H lm' H' S g e Q hq
  unfold putC at e
  obtain ⟨i, ei, e2⟩ := Option.bind_eq_some_iff.mp e
  split at e2
  · rename_i w q
    (first | exact no1 e2 | obtain ⟨rfl, rfl, rfl⟩ := jn3 e2 | obtain ⟨rfl, rfl⟩ := jn2 e2 | obtain rfl := jn1 e2 | cases e2)
    obtain ⟨c, o, hc, ho, v0, hd, r⟩ := S.get q
    have S' := S
    obtain ⟨m, led, el, F, N, nd, LR, V⟩ := S'
    obtain ⟨c', h1, h2⟩ := V.2 x i ei
    rw [hc] at h2
    (first | exact no1 h2 | obtain ⟨rfl, rfl, rfl⟩ := jn3 h2 | obtain ⟨rfl, rfl⟩ := jn2 h2 | obtain rfl := jn1 h2 | cases h2)
    refine wpAny_storeName_cell hC.ek hx h1 ⟨o, ho, hd⟩ fun h' hv hs => ?_
    obtain ⟨o', ho', hd'⟩ := hv
    exact hq () h' s.toks ι (S.change (List.getElem?_eq_some_iff.mp q).1 hc hs ho' ⟨_, hd', g⟩) (List.prefix_refl _) trivial
  · (first | exact no1 e2 | obtain ⟨rfl, rfl, rfl⟩ := jn3 e2 | obtain ⟨rfl, rfl⟩ := jn2 e2 | obtain rfl := jn1 e2 | cases e2)
/-- a target that takes a value -/
noncomputable def STgt (C : Cx) (tgt : Expr) (U : AV → UM) : Prop := ∀ a v, SU C (fun ι => VR ι a v) (assign tgt C.env v) (U a)
theorem st_local (hC : C.Fn rm) {x : Str} {pos : Pos} (hx : C.env.kindOf x = some .local) : STgt C (.Name x pos) (putV x) := fun _ _ hid s ι lm H lm' H' S g e Q hq =>
  wpAny_assign_Name (store_local hC hx hid s ι lm H lm' H' S g e Q hq)
theorem st_cell (hC : C.Fn rm) {x : Str} {pos : Pos} (hx : C.env.kindOf x = some .cell) : STgt C (.Name x pos) (putC x) := fun _ _ hid s ι lm H lm' H' S g e Q hq =>
  wpAny_assign_Name (store_cell hC hx hid s ι lm H lm' H' S g e Q hq)
theorem ss_assign_name {x : Str} {p' pos : Pos} {value : Expr} {P : M AV} {U : AV → UM} (h : SE C value P) (hU : ∀ a v, SU C (fun ι => VR ι a v) (storeName C.env x v) (U a))
    (hs : swapsWith value (some (.Name x p')) pos.line C.env = pure false) : SS C (.Assign [.Name x p'] value pos) (evS P fun a => stS (U a)) := by
  intro hid s ι lm H fl lm' H' S e' Q hq
  obtain ⟨⟨a, H1⟩, e1, e2⟩ := Option.bind_eq_some_iff.mp e'
  obtain ⟨⟨l2, H2⟩, e3, e4⟩ := Option.map_eq_some_iff.mp e2
  (first | exact no1 e4 | obtain ⟨rfl, rfl, rfl⟩ := jn3 e4 | obtain ⟨rfl, rfl⟩ := jn2 e4 | obtain rfl := jn1 e4 | cases e4)
  refine wpAny_Assign_Name (h hid s ι lm H a H1 S trivial e1 _ fun va h' tk' ι' S' p' ra => ?_) hs
  refine hU a va hid _ ι' lm H1 l2 H2 S' ra e3 _ fun vt h4 tk4 ι4 S4 p4 r4 => ?_
  exact hq _ h4 tk4 ι4 S4 (p'.trans p4) rfl
theorem ss_assign_attr (hC : C.Ok rm) (hA : Attrs C.st.K) {o : Expr} {x : Str} {p' pos : Pos} {value : Expr} {P Po : M AV} (h : SE C value P) (ho : SE C o Po)
    (hs : swapsWith value (some (.Attribute o x p')) pos.line C.env = pure false) : SS C (.Assign [.Attribute o x p'] value pos) (evS P fun a => evS Po fun b => stS fun l H => (setA x b a l H).map fun r => (l, r.2)) := by
  intro hid s ι lm H fl lm' H' S e' Q hq
  obtain ⟨⟨a, H1⟩, e1, f1⟩ := Option.bind_eq_some_iff.mp e'
  obtain ⟨⟨b, H2⟩, e2, f2⟩ := Option.bind_eq_some_iff.mp f1
  obtain ⟨⟨l3, H3⟩, e3, f3⟩ := Option.map_eq_some_iff.mp f2
  (first | exact no1 f3 | obtain ⟨rfl, rfl, rfl⟩ := jn3 f3 | obtain ⟨rfl, rfl⟩ := jn2 f3 | obtain rfl := jn1 f3 | cases f3)
  obtain ⟨⟨u, H4⟩, e4, f4⟩ := Option.map_eq_some_iff.mp e3
  (first | exact no1 f4 | obtain ⟨rfl, rfl, rfl⟩ := jn3 f4 | obtain ⟨rfl, rfl⟩ := jn2 f4 | obtain rfl := jn1 f4 | cases f4)
  refine plainObj_wpAny_Assign_Attribute (h hid s ι lm H a H1 S trivial e1 _ fun va h' tk' ι' S' p' ra => ?_) hs
  refine ho hid _ ι' lm H1 b H2 S' trivial e2 _ fun vb h2 tk2 ι2 S2 p2 rb => ?_
  refine setA_sound hC hA hid _ ι2 lm H2 u H4 S2 ⟨rb, ra.mono p2⟩ e4 _ fun vt h4 tk4 ι4 S4 p4 r4 => ?_
  exact hq _ h4 tk4 ι4 S4 ((p'.trans p2).trans p4) rfl
/-- an item stored: a list at a place -/
noncomputable def setIL (o i v : AV) : M Unit := fun _ H => match o, i with
  | .ref j, .int k => match H[j]? with
    | some (.list xs) => if 0 ≤ k ∧ k < xs.length ∧ xs.length < 2 ^ 60 then some ((), H.set j (.list (xs.set k.toNat v))) else none
    | _ => none
  | _, _ => none
theorem setItem_plain {prog : Program} {w : World} {A : Around} {E : Value → Shared → Prop} {s : Shared} {l : Addr} {items : Array Value} {n : Nat} {k : Int} {t : Tok} {v : Value} {Q : Unit → Shared → Prop}
    (ho : s.heap.get? l = some (W.listOf items n)) (h0 : 0 ≤ k) (hfit : k < 2 ^ 63) (hn : k < items.size)
    (hQ : ∀ h' n', h'.get? l = some (W.listOf (items.setIfInBounds k.toNat v) n') → Heap.SameBut l s.heap h' → Q () { s with heap := h' }) : wpAny (model prog w) A (setItem (.ref l) (.int k t) v) Q E s := by
  have hl : s.heap.IsList l items := ⟨_, ho, rfl, n, rfl⟩
  unfold setItem
  try with_reducible refine wpAny_holding ?_
  first | refine wpAny_bind (wpAny_pure ?_) | skip
  refine wpAny_bind (wpAny_sequenceKey hl.typeIs (by decide) ?_)
  refine wpAny_bind (wpAny_callSpecial?_slot (name := Str.ofString "__setitem__") hl.typeIs slot_list_setitem
    (wpAny_call_entry slot_list_setitem hl.typeIs entry_list_setitem ?_ (args_list_setitem _ _ _)))
  show wpAny _ _ (Builtin.List.listSubscript? (.int k t) >>= _) _ _ s
  refine wpAny_bind (wpAny_listSubscript_int (fitsIndex_of h0 hfit) ?_)
  clear hfit
  obtain ⟨j, rfl⟩ := Int.eq_ofNat_of_zero_le h0
  have hj : j < items.size := by lia
  show wpAny _ _ ((seqItemAt l j >>= fun r => pure (r.map (j, ·))) >>= _) _ _ s
  refine wpAny_bind (wpAny_bind (wpAny_seqItemAt ho rfl (wpAny_pure ?_)))
  rw [show items[j]? = some items[j] from Array.getElem?_eq_getElem hj]
  show wpAny _ _ (setSeqItemAt l j v >>= _) _ _ s
  have hfin : (s.heap.update l (Obj.mapSeq (·.setIfInBounds j v))).get? l = some (W.listOf (items.setIfInBounds j v) n) := by
    have h2 : Obj.mapSeq (·.setIfInBounds j v) (W.listOf items n) = W.listOf (items.setIfInBounds j v) n := by
      show (⟨_, _, .seq (items.setIfInBounds j v) (if (items.setIfInBounds j v).size == items.size then n else n + 1), _⟩ : Obj) = _
      rw [show ((items.setIfInBounds j v).size == items.size) = true by simp]
      rfl
    rw [Heap.get?_update_self _ ho (by rw [h2]; rfl), h2]
  refine wpAny_bind (wpAny_setSeqItemAt ho rfl ?_)
  first
    | exact wpAny_bind (wpAny_pure (wpAny_pure ⟨.none, rfl, wpAny_pure (hQ _ _ hfin (Heap.SameBut.update ..))⟩))
    | exact wpAny_pure ⟨.none, rfl, wpAny_pure (hQ _ _ hfin (Heap.SameBut.update ..))⟩
theorem setIL_sound {o i a : AV} {vo vi va : Value} : TT C (fun ι => VR ι o vo ∧ VR ι i vi ∧ VR ι a va) (setItem vo vi va) (fun _ _ _ => True) (setIL o i a) := by
  intro hid s ι lm H u H' S g e Q hq
  obtain ⟨go, gi, ga⟩ := g
  unfold setIL at e
  split at e
  · rename_i j k
    split at e
    · rename_i xs q
      split at e
      · rename_i hk
        (first | exact no1 e | obtain ⟨rfl, rfl, rfl⟩ := jn3 e | obtain ⟨rfl, rfl⟩ := jn2 e | obtain rfl := jn1 e | cases e)
        obtain ⟨ad, had, rfl⟩ := go
        obtain ⟨a', o, ha, ho, vs, n, rfl, r⟩ := S.get q
        rw [had] at ha; (first | exact no1 ha | obtain ⟨rfl, rfl, rfl⟩ := jn3 ha | obtain ⟨rfl, rfl⟩ := jn2 ha | obtain rfl := jn1 ha | cases ha)
        obtain ⟨t, rfl⟩ := gi
        have hlen := r.length
        refine setItem_plain ho hk.1 (by lia) (by rw [List.size_toArray, ← hlen]; exact hk.2.1) fun h' n' hl' hs' => ?_
        refine hq () h' s.toks ι (S.change (List.getElem?_eq_some_iff.mp q).1 had hs' hl' ⟨vs.set k.toNat va, n', ?_, r.set ga _⟩) (List.prefix_refl _) trivial
        congr 1
        simp
      · (first | exact no1 e | obtain ⟨rfl, rfl, rfl⟩ := jn3 e | obtain ⟨rfl, rfl⟩ := jn2 e | obtain rfl := jn1 e | cases e)
    · (first | exact no1 e | obtain ⟨rfl, rfl, rfl⟩ := jn3 e | obtain ⟨rfl, rfl⟩ := jn2 e | obtain rfl := jn1 e | cases e)
  · (first | exact no1 e | obtain ⟨rfl, rfl, rfl⟩ := jn3 e | obtain ⟨rfl, rfl⟩ := jn2 e | obtain rfl := jn1 e | cases e)
noncomputable def setID (o i v : AV) : M Unit := fun _ H => match o, i, v with
  | .ref j, .int k, .int x => match H[j]? with
    | some (.idict es) => if es.length < 1000 then some ((), H.set j (.idict (match es.findIdx? (fun p => p.1 == k) with
        | some n => es.set n (k, x)
        | none => es ++ [(k, x)]))) else none
    | _ => none
  | _, _, _ => none
theorem ss_assign_sub {o i : Expr} {p' pos : Pos} {value : Expr} {P Po Pi : M AV} {F : AV → AV → AV → M Unit} (h : SE C value P) (ho : SE C o Po) (hi : SE C i Pi)
    (hF : ∀ o i a vo vi va, TT C (fun ι => VR ι o vo ∧ VR ι i vi ∧ VR ι a va) (setItem vo vi va) (fun _ _ _ => True) (F o i a))
    (hs : swapsWith value (some (.Subscript o i p')) pos.line C.env = pure false) :
    SS C (.Assign [.Subscript o i p'] value pos) (evS P fun a => evS Po fun b => evS Pi fun k => stS fun l H => (F b k a l H).map fun r => (l, r.2)) := by
  intro hid s ι lm H fl lm' H' S e' Q hq
  obtain ⟨⟨a, H1⟩, e1, f1⟩ := Option.bind_eq_some_iff.mp e'
  obtain ⟨⟨b, H2⟩, e2, f2⟩ := Option.bind_eq_some_iff.mp f1
  obtain ⟨⟨c, H3⟩, e3, f3⟩ := Option.bind_eq_some_iff.mp f2
  obtain ⟨⟨l3, H4⟩, e4, f4⟩ := Option.map_eq_some_iff.mp f3
  (first | exact no1 f4 | obtain ⟨rfl, rfl, rfl⟩ := jn3 f4 | obtain ⟨rfl, rfl⟩ := jn2 f4 | obtain rfl := jn1 f4 | cases f4)
  obtain ⟨⟨u, H5⟩, e5, f5⟩ := Option.map_eq_some_iff.mp e4
  (first | exact no1 f5 | obtain ⟨rfl, rfl, rfl⟩ := jn3 f5 | obtain ⟨rfl, rfl⟩ := jn2 f5 | obtain rfl := jn1 f5 | cases f5)
  refine wpAny_Assign_Subscript (h hid s ι lm H a H1 S trivial e1 _ fun va h' tk' ι' S' p' ra => ?_) hs
  refine ho hid _ ι' lm H1 b H2 S' trivial e2 _ fun vb h2 tk2 ι2 S2 p2 rb => ?_
  refine hi hid _ ι2 lm H2 c H3 S2 trivial e3 _ fun vc h3 tk3 ι3 S3 p3 rc => ?_
  refine hF _ _ _ _ _ _ hid _ ι3 lm H3 u H5 S3 ⟨rb.mono p3, rc, (ra.mono p2).mono p3⟩ e5 _ fun vt h4 tk4 ι4 S4 p4 r4 => ?_
  exact hq _ h4 tk4 ι4 S4 (((p'.trans p2).trans p3).trans p4) rfl
/-- an expression's value is dropped -/
-- unpacking
noncomputable def unpackU : List (AV → UM) → List AV → UM
  | [], [] => fun l H => some (l, H)
  | u :: us, a :: as => fun l H => (u a l H).bind fun r => unpackU us as r.1 r.2
  | _, _ => fun _ _ => none
noncomputable def STs (C : Cx) : List Expr → List (AV → UM) → Prop
  | [], [] => True
  | t :: ts, u :: us => STgt C t u ∧ STs C ts us
  | _, _ => False
theorem assignOrder_sound : ∀ {ts : List Expr} {us : List (AV → UM)}, STs C ts us → ∀ {as : List AV} {vs : List Value}, SU C (fun ι => VRs ι as vs) (assignInOrder (ts.map fun t => assign t C.env) vs) (unpackU us as)
  | [], [], _, [], _ => fun hid s ι lm H lm' H' S g e Q hq => by
    (first | exact no1 e | obtain ⟨rfl, rfl, rfl⟩ := jn3 e | obtain ⟨rfl, rfl⟩ := jn2 e | obtain rfl := jn1 e | cases e)
    exact wpAny_pure (hq () s.heap s.toks ι S (List.prefix_refl _) trivial)
  | [], [], _, _ :: _, _ => fun hid s ι lm H lm' H' S g e Q hq => by (first | exact no1 e | obtain ⟨rfl, rfl, rfl⟩ := jn3 e | obtain ⟨rfl, rfl⟩ := jn2 e | obtain rfl := jn1 e | cases e)
  | _ :: _, _ :: _, _, [], _ => fun hid s ι lm H lm' H' S g e Q hq => by (first | exact no1 e | obtain ⟨rfl, rfl, rfl⟩ := jn3 e | obtain ⟨rfl, rfl⟩ := jn2 e | obtain rfl := jn1 e | cases e)
  | t :: ts, u :: us, ⟨h1, h2⟩, a :: as, [] => fun hid s ι lm H lm' H' S g e Q hq => g.elim
  | t :: ts, u :: us, ⟨h1, h2⟩, a :: as, v :: vs => fun hid s ι lm H lm' H' S g e Q hq => by
    obtain ⟨⟨l1, H1⟩, e1, e2⟩ := Option.bind_eq_some_iff.mp e
    refine assignInOrder_cons (h1 a v hid s ι lm H l1 H1 S g.1 e1 _ fun _ h' tk' ι' S' p' _ => ?_)
    refine assignOrder_sound h2 hid _ ι' l1 H1 lm' H' S' (g.2.mono p') e2 _ fun _ h2 tk2 ι2 S2 p2 _ => ?_
    exact hq () h2 tk2 ι2 S2 (p'.trans p2) trivial
  | [], _ :: _, h, _, _ => h.elim
  | _ :: _, [], h, _, _ => h.elim
noncomputable def tupOf (v : AV) : M (List AV) := fun _ H => match v with
  | .ref i => match H[i]? with
    | some (.tup xs) => some (xs, H)
    | _ => none
  | _ => none
noncomputable def unpU (us : List (AV → UM)) (a : AV) : UM := fun l H => (tupOf a l H).bind fun r => if us.length = r.1.length then unpackU us r.1 l H else none
theorem st_tuple (hC : C.Ok rm) {elts : List Expr} {k : Nat} {pos : Pos} {us : List (AV → UM)} (h : STs C elts us) (hl : us.length = elts.length)
    (he : assignEach elts C.env = elts.map fun t => (false, assign t C.env)) : STgt C (.Tuple elts k pos) (unpU us) := by
  intro a v hid s ι lm H lm' H' S g e Q hq
  obtain ⟨⟨xs, H1⟩, e1, e2⟩ := Option.bind_eq_some_iff.mp e
  unfold tupOf at e1
  split at e1
  · rename_i j
    split at e1
    · rename_i q
      (first | exact no1 e1 | cases e1)
      dsimp only at e2
      split at e2
      · rename_i hlen
        obtain ⟨ad, had, rfl⟩ := g
        obtain ⟨a', o, ha, ho, hc, vs, n, hd, r⟩ := S.get q
        rw [had] at ha; (first | exact no1 ha | obtain ⟨rfl, rfl, rfl⟩ := in3 ha | obtain ⟨rfl, rfl⟩ := in2 ha | obtain rfl := in1 ha | cases ha)
        have hT : IsTup s.heap ad vs.toArray := ⟨o, ho, hc, n, hd⟩
        refine assign_Tuple_tuple hC.hd hT (by rw [he, List.length_map, List.size_toArray, ← r.length, ← hlen, hl]) (by
          rw [he, List.findIdx?_eq_none_iff]
          intro x hx
          obtain ⟨y, _, rfl⟩ := List.mem_map.mp hx
          rfl) fun h' hs' => ?_
        have S' : StRel C hid lm H ι h' := S.keeps fun b o e => hs' b o (Nat.ne_of_lt (Heap.lt_size e)) e
        have em : (assignEach elts C.env).map (·.2) = elts.map fun t => assign t C.env := by
          rw [he, List.map_map]; rfl
        rw [em]
        have := assignOrder_sound h (as := xs) (vs := vs) hid { s with heap := h' } ι lm H lm' H' S' r e2 Q fun _ h2 tk2 ι2 S2 p2 _ => hq () h2 tk2 ι2 S2 p2 trivial
        simpa using this
      · (first | exact no1 e2 | obtain ⟨rfl, rfl, rfl⟩ := jn3 e2 | obtain ⟨rfl, rfl⟩ := jn2 e2 | obtain rfl := jn1 e2 | cases e2)
    · (first | exact no1 e1 | obtain ⟨rfl, rfl, rfl⟩ := jn3 e1 | obtain ⟨rfl, rfl⟩ := jn2 e1 | obtain rfl := jn1 e1 | cases e1)
  · (first | exact no1 e1 | obtain ⟨rfl, rfl, rfl⟩ := jn3 e1 | obtain ⟨rfl, rfl⟩ := jn2 e1 | obtain rfl := jn1 e1 | cases e1)
theorem ss_assign_tuple {elts : List Expr} {k : Nat} {tp pos : Pos} {value : Expr} {P : M AV} {U : AV → UM} (h : SE C value P) (hU : STgt C (.Tuple elts k tp) U)
    (hs : swapsWithSole [.Tuple elts k tp] value pos.line C.env = pure false) (hw : swappedStores [.Tuple elts k tp] value C.env = pure none) :
    SS C (.Assign [.Tuple elts k tp] value pos) (evS P fun a => stS (U a)) := by
  intro hid s ι lm H fl lm' H' S e' Q hq
  obtain ⟨⟨a, H1⟩, e1, e2⟩ := Option.bind_eq_some_iff.mp e'
  obtain ⟨⟨l2, H2⟩, e3, e4⟩ := Option.map_eq_some_iff.mp e2
  (first | exact no1 e4 | obtain ⟨rfl, rfl, rfl⟩ := jn3 e4 | obtain ⟨rfl, rfl⟩ := jn2 e4 | obtain rfl := jn1 e4 | cases e4)
  refine Assign_Tuple (h hid s ι lm H a H1 S trivial e1 _ fun va h' tk' ι' S' p' ra => ?_) hs hw
  refine hU a va hid _ ι' lm H1 l2 H2 S' ra e3 _ fun vt h4 tk4 ι4 S4 p4 r4 => ?_
  exact hq _ h4 tk4 ι4 S4 (p'.trans p4) rfl
/-- x += e, on ints -/
theorem ss_aug {x : Str} {p' pos : Pos} {value : Expr} {op : Operator} {P0 P : M AV} {F : AV → AV → M AV} {U : AV → UM} (h0 : TT C (fun _ => True) (loadName C.env x) VR P0) (h : SE C value P)
    (hF : ∀ a b va vb, TT C (fun ι => VR ι a va ∧ VR ι b vb) (inplaceOp op va vb) VR (F a b)) (hU : ∀ a v, SU C (fun ι => VR ι a v) (storeName C.env x v) (U a)) :
    SS C (.AugAssign (.Name x p') op value pos) (evS P0 fun a => evS P fun b => evS (F a b) fun r => stS (U r)) := by
  intro hid s ι lm H fl lm' H' S e' Q hq
  obtain ⟨⟨a, H1⟩, e1, f1⟩ := Option.bind_eq_some_iff.mp e'
  obtain ⟨⟨b, H2⟩, e2, f2⟩ := Option.bind_eq_some_iff.mp f1
  obtain ⟨⟨r, H3⟩, e3, f3⟩ := Option.bind_eq_some_iff.mp f2
  obtain ⟨⟨l2, H4⟩, e4, f4⟩ := Option.map_eq_some_iff.mp f3
  (first | exact no1 f4 | obtain ⟨rfl, rfl, rfl⟩ := jn3 f4 | obtain ⟨rfl, rfl⟩ := jn2 f4 | obtain rfl := jn1 f4 | cases f4)
  refine wpAny_AugAssign_Name (h0 hid s ι lm H a H1 S trivial e1 _ fun va h' tk' ι' S' p' ra => ?_)
  refine h hid _ ι' lm H1 b H2 S' trivial e2 _ fun vb h2 tk2 ι2 S2 p2 rb => ?_
  refine hF a b va vb hid _ ι2 lm H2 r H3 S2 ⟨ra.mono p2, rb⟩ e3 _ fun vc h3 tk3 ι3 S3 p3 rc => ?_
  refine hU r vc hid _ ι3 lm H3 l2 H4 S3 rc e4 _ fun vt h4 tk4 ι4 S4 p4 r4 => ?_
  exact hq _ h4 tk4 ι4 S4 (((p'.trans p2).trans p3).trans p4) rfl

-- while
noncomputable def whileM (T : M Bool) (B : SM) : Nat → SM
  | 0 => fun _ _ => none
  | n + 1 => evS T fun c => if c = true then (fun l H => (B l H).bind fun r => match r.1 with
      | .next => whileM T B n r.2.1 r.2.2
      | .cont => whileM T B n r.2.1 r.2.2
      | .brk => some (.next, r.2.1, r.2.2)
      | .ret v => some (.ret v, r.2.1, r.2.2)) else nextS
theorem while_rest {test : Expr} {body : List Stmt} {T : M Bool} {B : SM} (h : SB C test T) (hb : SSs C body B) : ∀ (n k : Nat) hid s ι lm H fl lm' H', StRel C hid lm H ι s.heap → whileM T B n lm H = some (fl, lm', H') →
    ∀ Q, WPost C hid s lm' H' ι (fun ι' a => FlR ι' fl a) Q → n ≤ k → WhlRest C.st.prog C.st.w C.A (fun _ _ => False) C.env test body [] Q k s
  | 0, k, hid, s, ι, lm, H, fl, lm', H', S, e, Q, hq, hk => by (first | exact no1 e | obtain ⟨rfl, rfl, rfl⟩ := jn3 e | obtain ⟨rfl, rfl⟩ := jn2 e | obtain rfl := jn1 e | cases e)
  | n + 1, 0, hid, s, ι, lm, H, fl, lm', H', S, e, Q, hq, hk => absurd hk (Nat.not_succ_le_zero n)
  | n + 1, k + 1, hid, s, ι, lm, H, fl, lm', H', S, e, Q, hq, hk => by
    obtain ⟨⟨c, H1⟩, e1, e2⟩ := Option.bind_eq_some_iff.mp e
    refine whl_turn PassesOwn.never (h hid s ι lm H c H1 S trivial e1 _ fun va h' tk' ι' S' p' ra => ?_)
    (first | exact no1 ra | obtain ⟨rfl, rfl, rfl⟩ := jn3 ra | obtain ⟨rfl, rfl⟩ := jn2 ra | obtain rfl := jn1 ra | cases ra)
    cases c with
    | false =>
      (first | exact no1 e2 | obtain ⟨rfl, rfl, rfl⟩ := jn3 e2 | obtain ⟨rfl, rfl⟩ := jn2 e2 | obtain rfl := jn1 e2 | cases e2)
      refine WhlIf.no rfl (wpAny_execs_nil (hq _ h' tk' ι' S' p' rfl))
    | true =>
      obtain ⟨⟨f1, l1, H2⟩, e3, e4⟩ := Option.bind_eq_some_iff.mp e2
      refine WhlIf.yes rfl (hb hid _ ι' lm H1 f1 l1 H2 S' e3 _ fun a h2 tk2 ι2 S2 p2 r2 => ?_)
      have go : whileM T B n l1 H2 = some (fl, lm', H') → WhlRest C.st.prog C.st.w C.A (fun _ _ => False) C.env test body [] Q k { s with heap := h2, toks := tk2 } := fun e5 =>
        while_rest h hb n k hid _ ι2 l1 H2 fl lm' H' S2 e5 Q (fun a h3 tk3 ι3 S3 p3 r3 => hq a h3 tk3 ι3 S3 ((p'.trans p2).trans p3) r3) (Nat.le_of_succ_le_succ hk)
      cases f1 with
      | next => (first | exact no1 r2 | obtain ⟨rfl, rfl, rfl⟩ := jn3 r2 | obtain ⟨rfl, rfl⟩ := jn2 r2 | obtain rfl := jn1 r2 | cases r2); exact go e4
      | cont => (first | exact no1 r2 | obtain ⟨rfl, rfl, rfl⟩ := jn3 r2 | obtain ⟨rfl, rfl⟩ := jn2 r2 | obtain rfl := jn1 r2 | cases r2); exact go e4
      | brk => (first | exact no1 r2 | obtain ⟨rfl, rfl, rfl⟩ := jn3 r2 | obtain ⟨rfl, rfl⟩ := jn2 r2 | obtain rfl := jn1 r2 | cases r2); (first | exact no1 e4 | obtain ⟨rfl, rfl, rfl⟩ := jn3 e4 | obtain ⟨rfl, rfl⟩ := jn2 e4 | obtain rfl := jn1 e4 | cases e4); exact hq _ h2 tk2 ι2 S2 (p'.trans p2) rfl
      | ret v => obtain ⟨w, rfl, r2⟩ := r2; (first | exact no1 e4 | obtain ⟨rfl, rfl, rfl⟩ := jn3 e4 | obtain ⟨rfl, rfl⟩ := jn2 e4 | obtain rfl := jn1 e4 | cases e4); exact hq _ h2 tk2 ι2 S2 (p'.trans p2) ⟨w, rfl, r2⟩
theorem ss_while {test : Expr} {body : List Stmt} {pos : Pos} {T : M Bool} {B : SM} (h : SB C test T) (hb : SSs C body B) : SS C (.While test body [] pos) (whileM T B 64) :=
  fun hid s ι lm H fl lm' H' S e Q hq => whl_start 64 (while_rest h hb 64 64 hid s ι lm H fl lm' H' S e Q hq (Nat.le_refl _))
end
-- part R5

section
variable {C : Cx} {rm : Nat}

-- a, b = x, y : the stores exchanged
noncomputable def Locals (C : Cx) (ns : List Str) : Prop := ∀ x ∈ ns, C.env.kindOf x = some .local
theorem namesOrder_sound (hC : C.Fn rm) : ∀ {ns : List Str}, Locals C ns → ∀ {as : List AV} {vs : List Value}, SU C (fun ι => VRs ι as vs) (assignInOrder (ns.map fun n => bindName C.env n) vs) (unpackU (ns.map putV) as)
  | [], _, [], _ => fun hid s ι lm H lm' H' S g e Q hq => by
    (first | exact no1 e | obtain ⟨rfl, rfl, rfl⟩ := jn3 e | obtain ⟨rfl, rfl⟩ := jn2 e | obtain rfl := jn1 e | cases e)
    exact wpAny_pure (hq () s.heap s.toks ι S (List.prefix_refl _) trivial)
  | [], _, _ :: _, _ => fun hid s ι lm H lm' H' S g e Q hq => by (first | exact no1 e | obtain ⟨rfl, rfl, rfl⟩ := jn3 e | obtain ⟨rfl, rfl⟩ := jn2 e | obtain rfl := jn1 e | cases e)
  | _ :: _, _, [], _ => fun hid s ι lm H lm' H' S g e Q hq => by (first | exact no1 e | obtain ⟨rfl, rfl, rfl⟩ := jn3 e | obtain ⟨rfl, rfl⟩ := jn2 e | obtain rfl := jn1 e | cases e)
  | _ :: _, _, _ :: _, [] => fun hid s ι lm H lm' H' S g e Q hq => g.elim
  | n :: ns, h, a :: as, v :: vs => fun hid s ι lm H lm' H' S g e Q hq => by
    have e : (putV n a lm H).bind (fun r => unpackU (ns.map putV) as r.1 r.2) = some (lm', H') := e
    obtain ⟨⟨l1, H1⟩, e1, e2⟩ := Option.bind_eq_some_iff.mp e
    refine assignInOrder_cons (wpAny_bindName (store_local hC (h n (.head _)) hid s ι lm H l1 H1 S g.1 e1 _ fun _ h' tk' ι' S' p' _ => ?_))
    refine namesOrder_sound hC (fun x hx => h x (.tail _ hx)) hid _ ι' l1 H1 lm' H' S' (g.2.mono p') e2 _ fun _ h2 tk2 ι2 S2 p2 _ => ?_
    exact hq () h2 tk2 ι2 S2 (p'.trans p2) trivial
theorem VRs.reverse {ι : List Addr} : ∀ {as : List AV} {vs : List Value}, VRs ι as vs → VRs ι as.reverse vs.reverse
  | [], [], _ => trivial
  | a :: as, v :: vs, ⟨x, y⟩ => by
    rw [List.reverse_cons, List.reverse_cons]
    exact y.reverse.append ⟨x, trivial⟩
  | [], _ :: _, h => h.elim
  | _ :: _, [], h => h.elim
noncomputable def swapU (ns : List Str) (a : AV) : UM := fun l H => (tupOf a l H).bind fun r => if ns.length = r.1.length then unpackU (ns.reverse.map putV) r.1.reverse l H else none
theorem ss_assign_swapped (hC : C.Fn rm) {elts : List Expr} {k : Nat} {tp pos : Pos} {value : Expr} {P : M AV} {ns : List Str} (h : SE C value P) (hns : Locals C ns)
    (hs : swapsWithSole [.Tuple elts k tp] value pos.line C.env = pure false) (hw : swappedStores [.Tuple elts k tp] value C.env = pure (some ns)) :
    SS C (.Assign [.Tuple elts k tp] value pos) (evS P fun a => stS (swapU ns a)) := by
  intro hid s ι lm H fl lm' H' S e' Q hq
  obtain ⟨⟨a, H1⟩, e1, e2⟩ := Option.bind_eq_some_iff.mp e'
  obtain ⟨⟨l2, H2⟩, e3, e4⟩ := Option.map_eq_some_iff.mp e2
  (first | exact no1 e4 | obtain ⟨rfl, rfl, rfl⟩ := jn3 e4 | obtain ⟨rfl, rfl⟩ := jn2 e4 | obtain rfl := jn1 e4 | cases e4)
  refine Assign_Tuple_swapped (h hid s ι lm H a H1 S trivial e1 _ fun va h' tk' ι' S' p' ra => ?_) hs hw
  obtain ⟨⟨xs, H3⟩, e5, e6⟩ := Option.bind_eq_some_iff.mp e3
  cases a <;> first | ((first | exact no1 e5 | obtain ⟨rfl, rfl, rfl⟩ := jn3 e5 | obtain ⟨rfl, rfl⟩ := jn2 e5 | obtain rfl := jn1 e5 | cases e5); done) | skip
  · rename_i j
    unfold tupOf at e5
    dsimp only at e5
    split at e5
    · rename_i q
      (first | exact no1 e5 | obtain ⟨rfl, rfl, rfl⟩ := in3 e5 | obtain ⟨rfl, rfl⟩ := in2 e5 | obtain rfl := in1 e5 | cases e5)
      dsimp only at e6
      split at e6
      · rename_i hlen
        obtain ⟨ad, had, rfl⟩ := ra
        obtain ⟨a', o, ha, ho, hc, vs, n, hd, r⟩ := S'.get q
        rw [had] at ha; (first | exact no1 ha | obtain ⟨rfl, rfl, rfl⟩ := in3 ha | obtain ⟨rfl, rfl⟩ := in2 ha | obtain rfl := in1 ha | cases ha)
        have hT : IsTup h' ad vs.toArray := ⟨o, ho, hc, n, hd⟩
        have hsz : ns.length = vs.toArray.size := by rw [List.size_toArray, ← r.length]; exact hlen
        rw [hsz]
        refine unpackItems_tuple (s := { s with heap := h', toks := tk' }) hC.hd hT fun h2 hs2 => ?_
        have S2 : StRel C hid lm H1 ι' h2 := S'.keeps fun b o e => hs2 b o (Nat.ne_of_lt (Heap.lt_size e)) e
        refine namesOrder_sound hC (fun x hx => hns x (List.mem_reverse.mp hx)) hid _ ι' lm H1 l2 H2 S2 r.reverse e6 _ fun _ h3 tk3 ι3 S3 p3 _ => ?_
        exact hq _ h3 tk3 ι3 S3 (p'.trans p3) rfl
      · (first | exact no1 e6 | obtain ⟨rfl, rfl, rfl⟩ := jn3 e6 | obtain ⟨rfl, rfl⟩ := jn2 e6 | obtain rfl := jn1 e6 | cases e6)
    · (first | exact no1 e5 | obtain ⟨rfl, rfl, rfl⟩ := jn3 e5 | obtain ⟨rfl, rfl⟩ := jn2 e5 | obtain rfl := jn1 e5 | cases e5)

-- hidden objects
theorem StRel.hidPush {hid : List (Addr × Obj)} {lm : Loc} {H : AH} {ι : List Addr} {h : Heap} (S : StRel C hid lm H ι h) (hc : C.comp = none) {o : Obj} (hf : o.isFreed = false) : StRel C ((h.objs.size, o) :: hid) lm H ι (h.push o) := by
  obtain ⟨m, led, el, F, N, nd, LR, ⟨⟨mv, h1, h2⟩, h3⟩⟩ := S
  rw [hc] at h1
  refine ⟨m, led, el, F.push o, fun p hp => News.push F N o hf p ?_, ?_, LR, ⟨⟨mv, by rw [hc]; exact h1, h2⟩, h3⟩⟩
  · rcases List.mem_append.mp hp with q | q
    · exact .tail _ (List.mem_append_left _ q)
    · rcases List.mem_cons.mp q with rfl | q
      · exact .head _
      · exact .tail _ (List.mem_append_right _ q)
  · have nd2 : (((h.objs.size, o) :: (led ++ hid)).map (·.1)).Nodup := by
      rw [List.map_cons]
      refine List.nodup_cons.mpr ⟨fun q => ?_, nd⟩
      obtain ⟨p, hp, e⟩ := List.mem_map.mp q
      exact Nat.ne_of_lt (Heap.lt_size (N p hp).1) e
    exact (List.Perm.nodup_iff (List.Perm.map _ List.perm_middle.symm)).mp nd2
theorem StRel.hidObj {hid : List (Addr × Obj)} {lm : Loc} {H : AH} {ι : List Addr} {h : Heap} {I : Addr} {o : Obj} (S : StRel C ((I, o) :: hid) lm H ι h) : h.get? I = some o := by
  obtain ⟨m, led, el, F, N, nd, LR, V⟩ := S
  exact (N _ (List.mem_append_right _ (.head _))).1
theorem StRel.hidDrop {hid : List (Addr × Obj)} {lm : Loc} {H : AH} {ι : List Addr} {h h' : Heap} {I : Addr} {o : Obj} (S : StRel C ((I, o) :: hid) lm H ι h) (hc : C.comp = none) (hs : Heap.ExtBut I h h') : StRel C hid lm H ι h' := by
  obtain ⟨m, led, el, F, N, nd, LR, ⟨⟨mv, h1, h2⟩, h3⟩⟩ := S
  rw [hc] at h1
  have n0 := N _ (List.mem_append_right led (.head hid))
  have nd2 : (((I, o) :: (led ++ hid)).map (·.1)).Nodup := (List.Perm.nodup_iff (List.Perm.map _ List.perm_middle)).mp nd
  rw [List.map_cons] at nd2
  have nd3 := List.nodup_cons.mp nd2
  have ne : ∀ p ∈ led ++ hid, p.1 ≠ I := fun p hp e => nd3.1 (List.mem_map.mpr ⟨p, hp, e⟩)
  refine ⟨m, led, el, ?_, fun p hp => ?_, nd3.2, LR, ⟨⟨mv, by rw [hc]; exact h1, h2⟩, h3⟩⟩
  · obtain ⟨oL, a1, a2, hoL, a3⟩ := F.ns
    refine ⟨⟨oL, a1, a2, hs _ _ n0.2.1.symm hoL, a3⟩, fun b x e => hs b x (fun z => ?_) (F.keep b x e), F.above⟩
    rw [z, n0.2.2] at e; (first | exact no1 e | obtain ⟨rfl, rfl, rfl⟩ := jn3 e | obtain ⟨rfl, rfl⟩ := jn2 e | obtain rfl := jn1 e | cases e)
  · have hp' : p ∈ led ++ (I, o) :: hid := by
      rcases List.mem_append.mp hp with q | q
      · exact List.mem_append_left _ q
      · exact List.mem_append_right _ (.tail _ q)
    exact ⟨hs _ _ (ne p hp) (N p hp').1, (N p hp').2⟩
theorem StRel.hidChange {hid : List (Addr × Obj)} {lm : Loc} {H : AH} {ι : List Addr} {h h' : Heap} {I : Addr} {o o' : Obj} (S : StRel C ((I, o) :: hid) lm H ι h) (hc : C.comp = none) (hs : Heap.SameBut I h h') (hg : h'.get? I = some o') :
    StRel C ((I, o') :: hid) lm H ι h' := by
  have n0 : C.h₀.get? I = none ∧ I ≠ C.L := by
    obtain ⟨m, led, el, F, N, nd, LR, V⟩ := S
    have n0 := N _ (List.mem_append_right led (.head hid))
    exact ⟨n0.2.2, n0.2.1⟩
  have nd : ∃ ld : List (Addr × Obj), ld.map (·.1) = ι ∧ ((ld ++ (I, o) :: hid).map (·.1)).Nodup := by
    obtain ⟨m, led, el, F, N, nd, LR, V⟩ := S
    exact ⟨led, el, nd⟩
  obtain ⟨ld, eld, nd⟩ := nd
  obtain ⟨m, led, el, F, N, nd1, LR, V⟩ := S.hidDrop hc hs.extBut
  refine ⟨m, led, el, F, fun p hp => ?_, ?_, LR, ?_⟩
  · rcases List.mem_append.mp hp with q | q
    · exact N p (List.mem_append_left _ q)
    · rcases List.mem_cons.mp q with rfl | q
      · exact ⟨hg, n0.2, n0.1⟩
      · exact N p (List.mem_append_right _ q)
  · have e : (led ++ (I, o') :: hid).map (·.1) = (ld ++ (I, o) :: hid).map (·.1) := by
      rw [List.map_append, List.map_append, el, eld]; rfl
    rw [e]; exact nd
  · obtain ⟨⟨mv, h1, h2⟩, h3⟩ := V
    rw [hc] at h1
    exact ⟨⟨mv, by rw [hc]; exact h1, h2⟩, h3⟩

-- what a for walks over
inductive Src where
  | lst (j : Nat)
  | rng (a b c : Int)
  | byt (b : List UInt8)
noncomputable def srcOf (v : AV) (H : AH) : Option Src := match v with
  | .ref j => match H[j]? with
    | some (.list _) => some (.lst j)
    | some (.range a b c) => if Builtin.Range.small a b c = true then some (.rng a b c) else none
    | _ => none
  | .bytes b => some (.byt b)
  | _ => none
noncomputable def Src.item (s : Src) (k : Nat) (H : AH) : Option (Option AV) := match s with
  | .lst j => match H[j]? with
    | some (.list xs) => some xs[k]?
    | _ => none
  | .rng a b c => some (if (k : Int) < Builtin.Range.rangeSize a b c then some (.int (a + k * c)) else none)
  | .byt b => some (b[k]?.map fun x => .int (x.toNat : Int))
noncomputable def ItR (ι : List Addr) (src : Src) (k : Nat) (o : Obj) : Prop := match src with
  | .lst j => ∃ a, ι[j]? = some a ∧ o.cls = .type "list_iterator" ∧ o.data = .fields #[.ref a, .int (k : Nat) 0]
  | .rng a b c => o = { cls := .type "range_iterator", dict := none, data := .fields #[rawInt (a + k * c), rawInt (Builtin.Range.rangeSize a b c - k), rawInt c], slots := #[] }
  | .byt b => ∃ t, o.cls = .type "bytes_iterator" ∧ o.data = .fields #[.bytes b.toArray t, .int (k : Nat) 0]
theorem ItR.mono {ι ι' : List Addr} (p : ι <+: ι') : ∀ {src : Src} {k : Nat} {o : Obj}, ItR ι src k o → ItR ι' src k o
  | .lst _, _, _, ⟨a, h, r⟩ => ⟨a, pre_get p h, r⟩
  | .rng .., _, _, h => h
  | .byt _, _, _, h => h

theorem iter_sound (hC : C.Fn rm) {a : AV} {v : Value} {hid : List (Addr × Obj)} {s : Shared} {ι : List Addr} {lm : Loc} {H : AH} {src : Src} (S : StRel C hid lm H ι s.heap) (g : VR ι a v) (e : srcOf a H = some src) {Q : Value → Shared → Prop}
    (hq : ∀ I o h', StRel C ((I, o) :: hid) lm H ι h' → ItR ι src 0 o → Q (.ref I) { s with heap := h' }) : wpAny (model C.st.prog C.st.w) C.A (pyIter v) Q (fun _ _ => False) s := by
  unfold srcOf at e
  split at e
  · rename_i j
    obtain ⟨ad, had, rfl⟩ := g
    split at e
    · rename_i q
      (first | exact no1 e | obtain ⟨rfl, rfl, rfl⟩ := jn3 e | obtain ⟨rfl, rfl⟩ := jn2 e | obtain rfl := jn1 e | cases e)
      obtain ⟨a', o, ha, ho, vs, n, rfl, r⟩ := S.get q
      rw [had] at ha; (first | exact no1 ha | obtain ⟨rfl, rfl, rfl⟩ := in3 ha | obtain ⟨rfl, rfl⟩ := in2 ha | obtain rfl := in1 ha | cases ha)
      have hL : s.heap.IsList ad vs.toArray := ⟨_, ho, rfl, n, rfl⟩
      exact wpAny_pyIter_list hL (hq _ _ _ (S.hidPush hC.nc rfl) ⟨ad, had, rfl, rfl⟩)
    · rename_i q
      obtain ⟨a', o, ha, ho, t, u, w, rfl⟩ := S.get q
      rw [had] at ha; (first | exact no1 ha | obtain ⟨rfl, rfl, rfl⟩ := jn3 ha | obtain ⟨rfl, rfl⟩ := jn2 ha | obtain rfl := jn1 ha | cases ha)
      split at e
      · rename_i hs
        (first | exact no1 e | obtain ⟨rfl, rfl, rfl⟩ := jn3 e | obtain ⟨rfl, rfl⟩ := jn2 e | obtain rfl := jn1 e | cases e)
        refine wpAny_pyIter_range ho hs (hq _ _ _ (S.hidPush hC.nc rfl) ?_)
        simp [ItR]
      · (first | exact no1 e | obtain ⟨rfl, rfl, rfl⟩ := jn3 e | obtain ⟨rfl, rfl⟩ := jn2 e | obtain rfl := jn1 e | cases e)
    · (first | exact no1 e | obtain ⟨rfl, rfl, rfl⟩ := jn3 e | obtain ⟨rfl, rfl⟩ := jn2 e | obtain rfl := jn1 e | cases e)
  · rename_i b
    obtain ⟨t, rfl⟩ := g
    (first | exact no1 e | obtain ⟨rfl, rfl, rfl⟩ := jn3 e | obtain ⟨rfl, rfl⟩ := jn2 e | obtain rfl := jn1 e | cases e)
    exact KBw.pyIter_bytes (hq _ _ _ (S.hidPush hC.nc rfl) ⟨t, rfl, rfl⟩)
  · (first | exact no1 e | obtain ⟨rfl, rfl, rfl⟩ := jn3 e | obtain ⟨rfl, rfl⟩ := jn2 e | obtain rfl := jn1 e | cases e)

theorem next_item_sound (hC : C.Fn rm) {I : Addr} {o : Obj} {a : AV} {hid : List (Addr × Obj)} {s : Shared} {ι : List Addr} {lm : Loc} {H : AH} {src : Src} {k : Nat} (S : StRel C ((I, o) :: hid) lm H ι s.heap) (g : ItR ι src k o)
    (e : src.item k H = some (some a)) {Q : Option Value → Shared → Prop}
    (hq : ∀ v o' h' tk, StRel C ((I, o') :: hid) lm H ι h' → ItR ι src (k + 1) o' → VR ι a v → Q (some v) { s with heap := h', toks := tk }) : wpAny (model C.st.prog C.st.w) C.A (pyNext (.ref I)) Q (fun _ _ => False) s := by
  have hI := S.hidObj
  cases src with
  | lst j =>
    obtain ⟨al, hal, hcls, hdat⟩ := g
    unfold Src.item at e
    dsimp only at e
    split at e
    · rename_i xs q
      obtain ⟨a', oj, ha, ho, vs, n, rfl, r⟩ := S.get q
      rw [hal] at ha; (first | exact no1 ha | obtain ⟨rfl, rfl, rfl⟩ := in3 ha | obtain ⟨rfl, rfl⟩ := in2 ha | obtain rfl := in1 ha | cases ha)
      obtain ⟨v, hv, rv⟩ := r.get (Option.some.inj e)
      refine wpAny_pyNext_list_item ⟨o, hI, hcls, hdat⟩ ⟨_, ho, rfl, n, rfl⟩ (by simpa using hv) fun h' hit hs' => ?_
      obtain ⟨o', ho', hc', hd'⟩ := hit
      exact hq v o' h' s.toks (S.hidChange hC.nc hs' ho') ⟨al, hal, hc', hd'⟩ rv
    · (first | exact no1 e | obtain ⟨rfl, rfl, rfl⟩ := jn3 e | obtain ⟨rfl, rfl⟩ := jn2 e | obtain rfl := jn1 e | cases e)
  | rng x b c =>
    unfold Src.item at e
    dsimp only at e
    have e' := Option.some.inj e
    split at e'
    · rename_i hk
      (first | exact no1 e' | obtain ⟨rfl, rfl, rfl⟩ := jn3 e' | obtain ⟨rfl, rfl⟩ := jn2 e' | obtain rfl := jn1 e' | cases e')
      refine wpAny_pyNext_range_item (x := x + k * c) (left := Builtin.Range.rangeSize x b c - k) (step := c) (hI.trans (congrArg some g)) (by lia) fun h' hit hs' => ?_
      refine hq _ _ h' _ (S.hidChange hC.nc hs' hit) ?_ ⟨_, rfl⟩
      show _ = _
      have e1 : x + ((k + 1 : Nat) : Int) * c = x + (k : Int) * c + c := by push_cast; rw [Int.add_mul, Int.one_mul, Int.add_assoc]
      have e2 : Builtin.Range.rangeSize x b c - ((k + 1 : Nat) : Int) = Builtin.Range.rangeSize x b c - (k : Int) - 1 := by push_cast; lia
      rw [e1, e2]
    · (first | exact no1 e' | obtain ⟨rfl, rfl, rfl⟩ := jn3 e' | obtain ⟨rfl, rfl⟩ := jn2 e' | obtain rfl := jn1 e' | cases e')
  | byt b =>
    obtain ⟨t, hcls, hdat⟩ := g
    unfold Src.item at e
    dsimp only at e
    obtain ⟨y, hy, rfl⟩ := Option.map_eq_some_iff.mp (Option.some.inj e)
    refine KBw.next_item ⟨o, hI, hcls, hdat⟩ (c := y) (by simpa using hy) fun h' hit hs' => ?_
    obtain ⟨o', ho', hc', hd'⟩ := hit
    exact hq _ o' h' _ (S.hidChange hC.nc hs' ho') ⟨t, hc', hd'⟩ ⟨_, rfl⟩
theorem next_end_sound (hC : C.Fn rm) {I : Addr} {o : Obj} {hid : List (Addr × Obj)} {s : Shared} {ι : List Addr} {lm : Loc} {H : AH} {src : Src} {k : Nat} (S : StRel C ((I, o) :: hid) lm H ι s.heap) (g : ItR ι src k o)
    (e : src.item k H = some none) {Q : Option Value → Shared → Prop} (hq : ∀ h', StRel C hid lm H ι h' → Q none { s with heap := h' }) : wpAny (model C.st.prog C.st.w) C.A (pyNext (.ref I)) Q (fun _ _ => False) s := by
  have hI := S.hidObj
  cases src with
  | lst j =>
    obtain ⟨al, hal, hcls, hdat⟩ := g
    unfold Src.item at e
    dsimp only at e
    split at e
    · rename_i xs q
      obtain ⟨a', oj, ha, ho, vs, n, rfl, r⟩ := S.get q
      rw [hal] at ha; (first | exact no1 ha | obtain ⟨rfl, rfl, rfl⟩ := jn3 ha | obtain ⟨rfl, rfl⟩ := jn2 ha | obtain rfl := jn1 ha | cases ha)
      have hn : vs.toArray[k]? = none := by
        have := Option.some.inj e
        rw [List.getElem?_eq_none_iff] at this
        rw [List.getElem?_toArray, List.getElem?_eq_none_iff, ← r.length]; exact this
      exact wpAny_pyNext_list_end hC.hd ⟨o, hI, hcls, hdat⟩ ⟨_, ho, rfl, n, rfl⟩ hn fun h' hs' => hq h' (S.hidDrop hC.nc hs')
    · (first | exact no1 e | obtain ⟨rfl, rfl, rfl⟩ := jn3 e | obtain ⟨rfl, rfl⟩ := jn2 e | obtain rfl := jn1 e | cases e)
  | rng x b c =>
    unfold Src.item at e
    dsimp only at e
    have e' := Option.some.inj e
    split at e'
    · (first | exact no1 e' | obtain ⟨rfl, rfl, rfl⟩ := jn3 e' | obtain ⟨rfl, rfl⟩ := jn2 e' | obtain rfl := jn1 e' | cases e')
    · rename_i hk
      exact wpAny_pyNext_range_end (x := x + k * c) (left := Builtin.Range.rangeSize x b c - k) (step := c) hC.hd (hI.trans (congrArg some g)) (by lia) fun h' hs' => hq h' (S.hidDrop hC.nc hs')
  | byt b =>
    obtain ⟨t, hcls, hdat⟩ := g
    unfold Src.item at e
    dsimp only at e
    have hy := Option.map_eq_none_iff.mp (Option.some.inj e)
    exact KBw.next_end hC.hd ⟨o, hI, hcls, hdat⟩ (by simpa using hy) fun h' hs' => hq h' (S.hidDrop hC.nc hs')

noncomputable def forM (src : Src) (U : AV → UM) (B : SM) : Nat → Nat → SM
  | 0, _ => fun _ _ => none
  | n + 1, k => fun l H => (src.item k H).bind fun r => match r with
    | none => some (.next, l, H)
    | some a => (U a l H).bind fun r => (B r.1 r.2).bind fun f => match f.1 with
      | .next => forM src U B n (k + 1) f.2.1 f.2.2
      | .cont => forM src U B n (k + 1) f.2.1 f.2.2
      | .brk => some (.next, f.2.1, f.2.2)
      | .ret v => some (.ret v, f.2.1, f.2.2)
noncomputable def GoOk (tgt : Expr) (src : Src) : Prop := (∀ it v, letOwnedTupleGo tgt it v = pure ()) ∨ (∃ elts k pos j, tgt = .Tuple elts k pos ∧ src = .lst j)
theorem go_sound {tgt : Expr} {src : Src} (hg : GoOk tgt src) {I : Addr} {o : Obj} {v : Value} {ι : List Addr} {k : Nat} {s : Shared} (ho : s.heap.get? I = some o) (r : ItR ι src k o) {Q : Unit → Shared → Prop} (hq : Q () s) :
    wpAny (model C.st.prog C.st.w) C.A (letOwnedTupleGo tgt (.ref I) v) Q (fun _ _ => False) s := by
  rcases hg with h | ⟨elts, x, pos, j, rfl, rfl⟩
  · rw [h]; exact wpAny_pure hq
  · obtain ⟨a, _, h1, h2⟩ := r
    cases v with
    | ref T => exact wpAny_letOwnedTupleGo_listiter ⟨o, ho, h1, h2⟩ hq
    | _ => exact wpAny_pure hq
inductive FInv (C : Cx) (U : AV → UM) (B : SM) (src : Src) (I : Addr) (hid : List (Addr × Obj)) (s0 : Shared) (ι0 : List Addr) (fl : Fl) (lm' : Loc) (H' : AH) (n : Nat) (s : Shared) : Prop where
  | mk (k : Nat) (lm : Loc) (H : AH) (ι : List Addr) (o : Obj) (S : StRel C ((I, o) :: hid) lm H ι s.heap) (pre : ι0 <+: ι) (it : ItR ι src k o) (e : forM src U B n k lm H = some (fl, lm', H')) (h : Heap) (tk : Nat) (q : s = { s0 with heap := h, toks := tk })
theorem for_loop (hC : C.Fn rm) {tgt : Expr} {body : List Stmt} {U : AV → UM} {B : SM} {src : Src} {I : Addr} (hU : STgt C tgt U) (hB : SSs C body B) (hg : GoOk tgt src) {hid : List (Addr × Obj)} {s0 : Shared} {ι0 : List Addr} {fl : Fl} {lm' : Loc} {H' : AH} {Q : Flow → Shared → Prop}
    (hq : WPost C hid s0 lm' H' ι0 (fun ι' a => FlR ι' fl a) Q) (n : Nat) (s : Shared)
    (h : FInv C U B src I hid s0 ι0 fl lm' H' n s) :
    codeAny (model C.st.prog C.st.w) C.A (.forLoop tgt (.ref I) body [] C.env) (fun r s' => match r with | .ok f => Q f s' | .error e => cameBackBy (model C.st.prog C.st.w) C.A C.env (fun _ _ => False) e s') s := by
  refine codeAny_forLoop_any (fun n s => FInv C U B src I hid s0 ι0 fl lm' H' n s) ?_ n h
  rintro n s ⟨k, lm, H, ι, o, S, pre, it, e, h0, tk0, rfl⟩
  cases n with
  | zero => (first | exact no1 e | obtain ⟨rfl, rfl, rfl⟩ := jn3 e | obtain ⟨rfl, rfl⟩ := jn2 e | obtain rfl := jn1 e | cases e)
  | succ n =>
    obtain ⟨r, e1, e2⟩ := Option.bind_eq_some_iff.mp e
    cases r with
    | none =>
      (first | exact no1 e2 | obtain ⟨rfl, rfl, rfl⟩ := jn3 e2 | obtain ⟨rfl, rfl⟩ := jn2 e2 | obtain rfl := jn1 e2 | cases e2)
      refine wpAny_mono (next_end_sound hC S it e1 (Q := fun r s₁ => r = none ∧ Q .next s₁) fun h' S' => ⟨rfl, hq .next h' _ ι S' pre rfl⟩) (fun r s₁ hr => ?_) fun _ _ x => x.elim
      obtain ⟨rfl, hr⟩ := hr
      exact wpAny_execs_nil hr
    | some a =>
      obtain ⟨⟨l1, H1⟩, e3, e4⟩ := Option.bind_eq_some_iff.mp e2
      obtain ⟨⟨f, l2, H2⟩, e5, e6⟩ := Option.bind_eq_some_iff.mp e4
      refine wpAny_mono (next_item_sound hC S it e1 (Q := fun r s₁ => ∃ v o' h' tk, r = some v ∧ s₁ = { s0 with heap := h', toks := tk } ∧ StRel C ((I, o') :: hid) lm H ι h' ∧ ItR ι src (k + 1) o' ∧ VR ι a v) fun v o' h' tk S' it' rv => ⟨v, o', h', tk, rfl, rfl, S', it', rv⟩) (fun r s₁ hr => ?_) fun _ _ x => x.elim
      obtain ⟨v, o', h', tk, rfl, rfl, S', it', rv⟩ := hr
      refine wpAny_mono (go_sound hg (s := { s0 with heap := h', toks := tk }) (v := v) S'.hidObj it' (Q := fun _ s₂ => s₂ = { s0 with heap := h', toks := tk }) rfl) (fun _ s₂ hs₂ => ?_) fun _ _ x => x.elim
      subst hs₂
      refine wpAny_mono (hU a v _ _ ι lm H l1 H1 S' rv e3 (fun _ s₃ => ∃ h3 tk3 ι3, s₃ = { s0 with heap := h3, toks := tk3 } ∧ StRel C ((I, o') :: hid) l1 H1 ι3 h3 ∧ ι <+: ι3) fun _ h3 tk3 ι3 S3 p3 _ => ⟨h3, tk3, ι3, rfl, S3, p3⟩) (fun _ s₃ hs₃ => ?_) fun _ _ x => x.elim
      obtain ⟨h3, tk3, ι3, rfl, S3, p3⟩ := hs₃
      refine wpAny_mono (hB _ _ ι3 l1 H1 f l2 H2 S3 e5 (fun g s₄ => ∃ h4 tk4 ι4, s₄ = { s0 with heap := h4, toks := tk4 } ∧ StRel C ((I, o') :: hid) l2 H2 ι4 h4 ∧ ι3 <+: ι4 ∧ FlR ι4 f g) fun g h4 tk4 ι4 S4 p4 r4 => ⟨h4, tk4, ι4, rfl, S4, p4, r4⟩) (fun g s₄ hs₄ => ?_) fun _ _ x => x.elim
      obtain ⟨h4, tk4, ι4, rfl, S4, p4, r4⟩ := hs₄
      have pp : ι0 <+: ι4 := (pre.trans p3).trans p4
      cases f with
      | next =>
        (first | exact no1 r4 | obtain ⟨rfl, rfl, rfl⟩ := jn3 r4 | obtain ⟨rfl, rfl⟩ := jn2 r4 | obtain rfl := jn1 r4 | cases r4)
        exact ⟨n, Nat.lt_succ_self _, k + 1, l2, H2, ι4, o', S4, pp, it'.mono (p3.trans p4), e6, h4, tk4, rfl⟩
      | cont =>
        (first | exact no1 r4 | obtain ⟨rfl, rfl, rfl⟩ := jn3 r4 | obtain ⟨rfl, rfl⟩ := jn2 r4 | obtain rfl := jn1 r4 | cases r4)
        exact ⟨n, Nat.lt_succ_self _, k + 1, l2, H2, ι4, o', S4, pp, it'.mono (p3.trans p4), e6, h4, tk4, rfl⟩
      | brk =>
        (first | exact no1 r4 | obtain ⟨rfl, rfl, rfl⟩ := jn3 r4 | obtain ⟨rfl, rfl⟩ := jn2 r4 | obtain rfl := jn1 r4 | cases r4)
        (first | exact no1 e6 | obtain ⟨rfl, rfl, rfl⟩ := jn3 e6 | obtain ⟨rfl, rfl⟩ := jn2 e6 | obtain rfl := jn1 e6 | cases e6)
        exact hq .next h4 tk4 ι4 (S4.hidDrop hC.nc (Heap.ExtBut.refl I h4)) pp rfl
      | ret w =>
        obtain ⟨v', rfl, r4⟩ := r4
        (first | exact no1 e6 | obtain ⟨rfl, rfl, rfl⟩ := jn3 e6 | obtain ⟨rfl, rfl⟩ := jn2 e6 | obtain rfl := jn1 e6 | cases e6)
        exact hq (.ret v') h4 tk4 ι4 (S4.hidDrop hC.nc (Heap.ExtBut.refl I h4)) pp ⟨v', rfl, r4⟩
noncomputable def forS (P : M AV) (ok : Src → Bool) (U : AV → UM) (B : SM) : SM := evS P fun v l H => (srcOf v H).bind fun src => if ok src = true then forM src U B 64 0 l H else none
theorem ss_for (hC : C.Fn rm) {tgt iter : Expr} {body : List Stmt} {pos : Pos} {P : M AV} {U : AV → UM} {B : SM} {ok : Src → Bool} (h : SE C iter P) (hU : STgt C tgt U) (hB : SSs C body B) (hg : ∀ src, ok src = true → GoOk tgt src)
    (hs : ∀ x, foldedSetIterable iter C.env x = pure x) : SS C (.For tgt iter body [] pos) (forS P ok U B) := by
  intro hid s ι lm H fl lm' H' S e Q hq
  obtain ⟨⟨a, H1⟩, e1, e2⟩ := Option.bind_eq_some_iff.mp e
  obtain ⟨src, e3, e4⟩ := Option.bind_eq_some_iff.mp e2
  dsimp only at e3 e4
  split at e4
  · rename_i hok
    refine wpAny_For (h hid s ι lm H a H1 S trivial e1 _ fun va h' tk' ι' S' p' ra => ?_) hs
    refine iter_sound hC (s := { s with heap := h', toks := tk' }) S' ra e3 fun I o h2 S2 it2 => ?_
    exact for_loop hC hU hB (hg src hok) (s0 := s) (ι0 := ι) hq 64 _ ⟨0, lm, H1, ι', o, S2, p', it2, e4, h2, tk', rfl⟩
  · (first | exact no1 e4 | obtain ⟨rfl, rfl, rfl⟩ := jn3 e4 | obtain ⟨rfl, rfl⟩ := jn2 e4 | obtain rfl := jn1 e4 | cases e4)
theorem go_name {x : Str} {pos : Pos} : ∀ src, (fun _ : Src => true) src = true → GoOk (.Name x pos) src := fun _ _ => .inl fun _ _ => rfl
noncomputable def isLst : Src → Bool
  | .lst _ => true
  | _ => false
theorem go_tuple {elts : List Expr} {k : Nat} {pos : Pos} : ∀ src, isLst src = true → GoOk (.Tuple elts k pos) src := fun src h => by
  cases src with
  | lst j => exact .inr ⟨_, _, _, j, rfl, rfl⟩
  | _ => (first | exact no1 h | obtain ⟨rfl, rfl, rfl⟩ := jn3 h | obtain ⟨rfl, rfl⟩ := jn2 h | obtain rfl := jn1 h | cases h)
end
-- part R6

abbrev PM := List AV → AH → Option (AV × AH)
/-- a def that computes what P says -/
noncomputable def FS (S : Stc) (f : Addr) (rm : Nat) (P : PM) : Prop :=
  ∀ (C : Cx) hid (s : Shared) ι lm H as vs v H', C.st = S → C.Ok rm → StRel C hid lm H ι s.heap → VRs ι as vs → P as H = some (v, H') →
    ∀ Q : Value → Shared → Prop, WPost C hid s lm H' ι (fun ι' a => VR ι' v a) Q →
      codeAny (model S.prog S.w) C.A (.call (.ref f) ⟨vs, []⟩) (fun r s' => match r with | .ok (.ret v) => Q v s' | .ok _ => False | .error _ => False) s

theorem Cx.Ok.less {C : Cx} {n m : Nat} (h : C.Ok m) (le : n ≤ m) : C.Ok n :=
  { h with room := Nat.lt_of_le_of_lt (Nat.add_le_add_left (Nat.mul_le_mul_left _ le) _) h.room, units := Nat.lt_of_le_of_lt (Nat.add_le_add_left (Nat.mul_le_mul_left _ le) _) h.units }
theorem FS.more {S : Stc} {f : Addr} {n m : Nat} {P : PM} (h : FS S f n P) (le : n ≤ m) : FS S f m P :=
  fun C hid s ι lm H as vs v H' e ok S' g e' Q hq => h C hid s ι lm H as vs v H' e (ok.less le) S' g e' Q hq
theorem FS.or {S : Stc} {f : Addr} {n : Nat} {P1 P2 : PM} (h1 : FS S f n P1) (h2 : FS S f n P2) : FS S f n (fun as H => (P1 as H).or (P2 as H)) :=
  fun C hid s ι lm H as vs v H' e ok S' g e' Q hq => by
    have e' : (P1 as H).or (P2 as H) = some (v, H') := e'
    cases q : P1 as H with
    | some r => rw [q] at e'; (first | exact no1 e' | cases e'); exact h1 C hid s ι lm H as vs v H' e ok S' g q Q hq
    | none => rw [q] at e'; exact h2 C hid s ι lm H as vs v H' e ok S' g e' Q hq

noncomputable def locOf (bs : List (Str × AV)) : Loc := ⟨fun x => bs.lookup x, fun _ => none⟩
noncomputable def runB (P : SM) (lm : Loc) (H : AH) : Option (AV × AH) := match P lm H with
  | some (.ret v, _, H') => some (v, H')
  | some (.next, _, H') => some (.none, H')
  | _ => none
abbrev mkC (S : Stc) (A A₀ : Around) (base h₀ : Heap) (outer : List Env) (L : Addr) (qual : Str) (scope : Scope) (f : Addr) (cd : Value) (cl : List (Str × Addr)) : Cx :=
  ⟨S, A, A₀, base, h₀, outer, envX qual scope L f cd cl, L, envX qual scope L f cd cl, none⟩

theorem lookup_zip {ι : List Addr} : ∀ {xs : List Str} {as : List AV} {vs : List Value}, VRs ι as vs → ∀ {x : Str} {av : AV}, (xs.zip as).lookup x = some av → ∃ v, (xs.zip vs).lookup x = some v ∧ VR ι av v
  | [], _, _, _, _, _, e => by simp at e
  | _ :: _, [], [], _, _, _, e => by simp at e
  | y :: ys, a :: as, v :: vs, ⟨h1, h2⟩, x, av, e => by
    rw [List.zip_cons_cons, List.lookup_cons] at e ⊢
    cases q : x == y with
    | true => rw [q] at e; (first | exact no1 e | obtain ⟨rfl, rfl, rfl⟩ := jn3 e | obtain ⟨rfl, rfl⟩ := jn2 e | obtain rfl := jn1 e | cases e); exact ⟨v, rfl, h1⟩
    | false => rw [q] at e; exact lookup_zip h2 e
  | _ :: _, [], _ :: _, h, _, _, _ => h.elim
  | _ :: _, _ :: _, [], h, _, _, _ => h.elim
theorem lookup_reverse {α β : Type} [BEq α] [LawfulBEq α] {l : List (α × β)} (nd : (l.map (·.1)).Nodup) (x : α) : l.reverse.lookup x = l.lookup x := by
  induction l with
  | nil => rfl
  | cons p r ih =>
    have nd' := List.nodup_cons.mp nd
    obtain ⟨k0, b0⟩ := p
    rw [List.reverse_cons, List.lookup_append, ih nd'.2]
    by_cases q : x == k0
    · have e : x = k0 := by simpa using q
      have hn : r.lookup x = none := by
        cases hh : r.lookup x with
        | none => rfl
        | some b =>
          exfalso
          apply nd'.1
          show k0 ∈ _
          rw [← e]
          have : ∀ (r : List (α × β)) (b : β), r.lookup x = some b → x ∈ r.map (·.1) := by
            intro r
            induction r with
            | nil => intro b h; (first | exact no1 h | obtain ⟨rfl, rfl, rfl⟩ := jn3 h | obtain ⟨rfl, rfl⟩ := jn2 h | obtain rfl := jn1 h | cases h)
            | cons y ys ih2 =>
              intro b h
              rw [List.lookup_cons] at h
              cases q2 : x == y.1 with
              | true => rw [List.map_cons]; rw [show x = y.1 by simpa using q2]; exact .head _
              | false => rw [q2] at h; exact .tail _ (ih2 b h)
          exact this r b hh
      simp [hn, List.lookup_cons, q]
    · have q' : (x == k0) = false := by simpa using q
      simp [List.lookup_cons, q']
theorem zip_fst_sub {α β : Type} : ∀ (xs : List α) (ys : List β), ∀ p ∈ xs.zip ys, p.1 ∈ xs
  | x :: xs, y :: ys, p, h => by
    rw [List.zip_cons_cons] at h
    rcases List.mem_cons.mp h with rfl | h
    · exact .head _
    · exact .tail _ (zip_fst_sub xs ys p h)
  | [], _, _, h => by simp at h
  | _ :: _, [], _, h => by simp at h
theorem zip_nodup {α β : Type} : ∀ {xs : List α} (ys : List β), xs.Nodup → ((xs.zip ys).map (·.1)).Nodup
  | [], _, _ => by simp
  | _ :: _, [], _ => by simp
  | x :: xs, y :: ys, nd => by
    have nd' := List.nodup_cons.mp nd
    rw [List.zip_cons_cons, List.map_cons]
    refine List.nodup_cons.mpr ⟨fun h => ?_, zip_nodup ys nd'.2⟩
    obtain ⟨p, hp, e⟩ := List.mem_map.mp h
    have e : p.1 = x := e
    exact nd'.1 (e ▸ zip_fst_sub xs ys p hp)

theorem callee_ok {C : Cx} {rm : Nat} {S : Stc} (hs : C.st = S) (hC : C.Ok (rm + 1)) {g : Heap} {L' : Addr} {qual : Str} {scope : Scope} {f : Addr} {cd : Value} {cl : List (Str × Addr)}
    (B' : Below C.A C.base (C.fenv :: C.outer) g) (st : C.h₀.StaysIn g) (hk : scope.kind = .function) :
    (mkC S (C.A.deeper (envX qual scope L' f cd cl)) C.A C.base g (C.fenv :: C.outer) L' qual scope f cd cl).Fn rm := by
  subst hs
  refine { fr := Around.frames_deeper hC.fr, hd := hC.hd, B := B', X := hC.X.keeps st, T := hC.T.keeps st, ff := rfl, fk := hk, ek := hk, eg := rfl, eb := rfl, room := ?_, units := ?_, nc := rfl, lo := rfl }
  · show C.A.depth + 1 + 4 * rm < recursionLimit
    have := hC.room
    lia
  · show C.A.units + 3 + 40 * rm < cLine
    have := hC.units
    lia

theorem fs_def {S : Stc} {f : Addr} {rm n : Nat} {name qual : Str} {params : Arguments} {body : List Stmt} {scope : Scope} {dV kV doc pm cdv ct oc : Value} {an od : Option Addr} {osl : Array (Option Value)}
    {xs : List Str} {dv : List AV} {P : SM}
    (ho : S.K.lookup f = some ⟨oc, od, .func (fnOf name qual params body scope dV kV doc pm an cdv ct), osl⟩) (hcd : codeIn S.K cdv qual = true)
    (hb : ∀ (s : Shared) vs, S.K.In s.heap → vs.length = n → ∃ ws, VRs [] dv ws ∧ BindsTo s (fnOf name qual params body scope dV kV doc pm an cdv ct) ⟨vs, []⟩ (xs.zip (vs ++ ws)))
    (hnd : xs.Nodup) (hloc : ∀ x ∈ xs, scope.names.lookup x = some .local) (hk : scope.kind = .function) (hco : scope.isCoroutine = false) (hgen : scope.isGenerator = false) (hcell : ∀ x ∈ scope.names, x.2 ≠ .cell)
    (hbody : ∀ A A₀ base h₀ outer L, (mkC S A A₀ base h₀ outer L qual scope f cdv []).Fn rm → SSs (mkC S A A₀ base h₀ outer L qual scope f cdv []) body P) :
    FS S f (rm + 1) (fun as H => if as.length = n then runB P (locOf (xs.zip (as ++ dv))) H else none) := by
  intro C hid s ι lm H as vs v H' hs hC St g e Q hq
  have e : (if as.length = n then runB P (locOf (xs.zip (as ++ dv))) H else none) = some (v, H') := e
  split at e
  · rename_i hn
    have Sx := St.keepX hC
    obtain ⟨ws, rw_, hbind⟩ := hb s vs (hs ▸ Sx) (g.length ▸ hn)
    have rall : VRs ι (as ++ dv) (vs ++ ws) := g.append (rw_.mono List.nil_prefix)
    have St' := St
    obtain ⟨m, led, el, F, N, nd, LR, V⟩ := St'
    subst hs
    refine callX_plain (cl := []) hC.B F N hC.T.nolimit hC.fr hC.ff hC.fk (Sx _ _ ho) rfl (codeRec_of Sx hcd) (by have := hC.room; lia) hbind (fun y hy => hloc _ (zip_fst_sub _ _ _ hy)) (fun g' L' h₁ FG F' N' B' st hlt => ?_) hcell hco hgen hk
    have OK := callee_ok (L' := L') (qual := qual) (scope := scope) (f := f) (cd := cdv) (cl := []) rfl hC B' st hk
    unfold runB at e
    have rel : StRel (mkC C.st (C.A.deeper (envX qual scope L' f cdv [])) C.A C.base g' (C.fenv :: C.outer) L' qual scope f cdv []) hid (locOf (xs.zip (as ++ dv))) H ι h₁ := by
      refine ⟨_, led, el, F', N', nd, LR, ⟨⟨_, ⟨rfl, rfl⟩, fun x av ex => ?_⟩, fun x i ex => by cases ex⟩⟩
      show ∃ v, (xs.zip (vs ++ ws)).reverse.lookup x = some v ∧ VR ι av v
      rw [lookup_reverse (zip_nodup _ hnd)]
      exact lookup_zip rall ex
    have fin : ∀ (fl : Fl) (lm' : Loc), P (locOf (xs.zip (as ++ dv))) H = some (fl, lm', H') → (∀ ι' (a : Flow), FlR ι' fl a → VR ι' v (match a with | .ret v => v | _ => .none)) →
        wpAny (model C.st.prog C.st.w) (C.A.deeper (envX qual scope L' f cdv [])) (execs body (envX qual scope L' f cdv []))
        (fun fl s' => LeaveK C.h₀ C.L m g' (fun r s' => match r with | .ok (.ret v) => Q v s' | .ok _ => False | .error _ => False) (match fl with | .ret v => v | _ => .none) s')
        (fun e s' => wpAny (model C.st.prog C.st.w) (C.A.deeper (envX qual scope L' f cdv [])) (leaving (envX qual scope L' f cdv []) e) (fun _ _ => False) (fun _ _ => False) s')
        { s with heap := h₁, toks := s.toks + (xs.zip (vs ++ ws)).length } := by
      intro fl lm' e1 hfl
      refine wpAny_mono (hbody _ _ _ _ _ _ OK hid { s with heap := h₁, toks := s.toks + (xs.zip (vs ++ ws)).length } ι _ H fl lm' H' rel e1
        (fun a s' => LeaveK C.h₀ C.L m g' (fun r s' => match r with | .ok (.ret v) => Q v s' | .ok _ => False | .error _ => False) (match a with | .ret v => v | _ => .none) s') fun a h' tk' ι' S' p' r' => ?_) (fun _ _ x => x) fun _ _ x => x.elim
      obtain ⟨m', led', el', F2, N2, nd2, LR2, V2⟩ := S'
      exact ⟨L', m', led' ++ hid, F2, N2, fun Fb Nb => hq _ h' tk' ι' ⟨m, led', el', Fb, Nb, nd2, LR2, V.mono p'⟩ p' (hfl ι' a r')⟩
    split at e
    · rename_i w lm' H2 e1
      (first | exact no1 e | obtain ⟨rfl, rfl, rfl⟩ := jn3 e | obtain ⟨rfl, rfl⟩ := jn2 e | obtain rfl := jn1 e | cases e)
      exact fin _ _ e1 fun ι' a r => by obtain ⟨x, rfl, r⟩ := r; exact r
    · rename_i lm' H2 e1
      (first | exact no1 e | obtain ⟨rfl, rfl, rfl⟩ := jn3 e | obtain ⟨rfl, rfl⟩ := jn2 e | obtain rfl := jn1 e | cases e)
      exact fin _ _ e1 fun ι' a r => by (first | exact no1 r | obtain ⟨rfl, rfl, rfl⟩ := jn3 r | obtain ⟨rfl, rfl⟩ := jn2 r | obtain rfl := jn1 r | cases r); rfl
    · (first | exact no1 e | obtain ⟨rfl, rfl, rfl⟩ := jn3 e | obtain ⟨rfl, rfl⟩ := jn2 e | obtain rfl := jn1 e | cases e)
  · (first | exact no1 e | obtain ⟨rfl, rfl, rfl⟩ := jn3 e | obtain ⟨rfl, rfl⟩ := jn2 e | obtain rfl := jn1 e | cases e)

section
variable {C : Cx} {rm : Nat}
noncomputable def chkF (P : PM) (as : List AV) : M AV := fun _ H => P as H
theorem fs_call (hC : C.Ok rm) {f : Addr} {P : PM} (hf : FS C.st f rm P) {as : List AV} {vs : List Value} : TT C (fun ι => VRs ι as vs) (call (.ref f) vs) VR (chkF P as) := by
  intro hid s ι lm H v H' S g e Q hq
  exact wpAny_call (codeAny_mono (hf C hid s ι lm H as vs v H' rfl hC S g e Q hq) fun r s' h => by
    cases r with
    | ok f => cases f <;> exact h
    | error e => exact h)
end
-- part R7

structure MethOk (K : Frag) (cls : Addr) (x : Str) (f : Addr) : Prop where
  get : plainGet K cls x = true
  find : findIn K (.ref cls) x = some (some (.ref f))
  fn : isFn K (.ref f) = true
  keep : keepIn K (.ref f) = true
structure ClsOk (K : Frag) (cls fI : Addr) : Prop where
  make : makesIn K cls = true
  find : findIn K (.ref cls) "__init__" = some (some (.ref fI))
  fn : isFn K (.ref fI) = true
  keep : keepIn K (.ref cls) = true

noncomputable def chkI (cls : Addr) (x : Str) (v : AV) : M Unit := M.bind (instF v) fun r => if r.1 = cls ∧ (lookF x r.2.2).isNone = true then M.pure () else M.fail
noncomputable def newI (cls : Addr) (P : PM) (as : List AV) : M AV := fun _ H => match P (.ref (H.length + 1) :: as) (H ++ [.flds [], .inst cls H.length]) with
  | some (.none, H') => some (.ref (H.length + 1), H')
  | _ => none

section
variable {C : Cx} {rm : Nat}

theorem starAll {env : Env} : ∀ {args : List Expr}, (∀ e ∈ args, ∀ rest, starEach (e :: rest) env = (false, eval e env) :: starEach rest env) → ∀ pos, (backTo pos (starEach args env)).any (·.1) = false
  | [], _, _ => rfl
  | e :: rest, h, pos => by
    rw [h e (.head _) rest]
    show (false || (backTo pos (starEach rest env)).any (·.1)) = false
    rw [starAll (fun x hx => h x (.tail _ hx)) pos]; rfl
/-- the arguments, then the call -/
theorem cw_sound (hC : C.Ok rm) {pos : Pos} {f : Value} {first : List Value} {afirst : List AV} {args : List Expr} {Pa : M (List AV)} {B : List AV → M AV} (hk : ∀ M h, C.st.K.In h → ∃ k, (k = Keeper.frame ∨ k = Keeper.machine ∨ k = Keeper.boundFrame) ∧ Looks M h (keeperOf f) k)
    (ha : SArgs C pos args Pa) (hB : ∀ as vs, TT C (fun ι => VRs ι as vs) (call f vs) VR (B as)) (hst : ∀ e ∈ args, ∀ rest, starEach (e :: rest) C.env = (false, eval e C.env) :: starEach rest C.env) :
    TT C (fun ι => VRs ι afirst first) (callWith pos f first (backTo pos (starEach args C.env)) (backToKw pos (keywordEach [] C.env))) VR (M.bind Pa fun as => B (afirst ++ as)) := by
  intro hid s ι lm H v H' S g e Q hq
  obtain ⟨⟨as, H1⟩, e1, e2⟩ := Option.bind_eq_some_iff.mp e
  refine callWith_of (P := fun h => C.st.K.In h) (by
    show ((backTo pos (starEach args C.env)).any (·.1) || false) = false
    rw [starAll hst]; rfl) (fun h X => hk _ h X) ?_
  have fin : wpAny (model C.st.prog C.st.w) C.A (spliced (backTo pos (starEach args C.env))) (fun vs s₁ => C.st.K.In s₁.heap ∧ wpAny (model C.st.prog C.st.w) C.A (call f (first ++ vs)) Q (fun _ _ => False) s₁) (fun _ _ => False) s := by
    refine ha hid s ι lm H as H1 S trivial e1 _ fun vs h' tk' ι' S' p' r' => ⟨S'.keepX hC, ?_⟩
    refine hB _ _ hid _ ι' lm H1 v H' S' ((g.mono p').append r') e2 _ fun vt h4 tk4 ι4 S4 p4 r4 => ?_
    exact hq vt h4 tk4 ι4 S4 (p'.trans p4) r4
  cases args with
  | nil =>
    unfold evalArgs
    show wpAny _ _ (spliced [] >>= _) _ _ s
    refine wpAny_bind (wpAny_mono fin (fun vs s' h' => wpAny_bind (wpAny_pure (wpAny_holding (wpAny_bind (wpAny_pure (wpAny_bind (wpAny_pure (wpAny_pure h')))))))) fun _ _ x => x)
  | cons a rest =>
    rw [hst a (.head _) rest] at fin ⊢
    exact PySem.Calls.evalArgs_plain fin

theorem getMethod_inst_sound (hC : C.Ok rm) {cls : Addr} {x : Str} {f : Addr} (hm : MethOk C.st.K cls x f) {pl : Sem Bool} {a : AV} {v : Value} : TT C (fun ι => VR ι a v) (getMethod v x pl) (fun _ _ r => r = (.ref f, [v])) (chkI cls x a) :=
  TT.here fun s hid ι lm H b H' S g e => by
    obtain ⟨⟨⟨c, d, es⟩, H1⟩, e1, e9⟩ := Option.bind_eq_some_iff.mp e
    obtain ⟨rfl, i, rfl, h1, h2⟩ := instF_some e1
    dsimp only at e9 h1 h2
    by_cases hok : c = cls ∧ (lookF x es).isNone = true
    · rw [if_pos hok] at e9
      (first | exact no1 e9 | obtain ⟨rfl, rfl, rfl⟩ := jn3 e9 | obtain ⟨rfl, rfl⟩ := jn2 e9 | obtain rfl := jn1 e9 | cases e9)
      obtain ⟨rfl, hl⟩ := hok
      obtain ⟨a, dx, ds, n, ha, hd, I, fr, ho⟩ := S.inst h1 h2
      obtain ⟨a', ha', rfl⟩ := g
      rw [ha] at ha'
      (first | exact no1 ha' | obtain ⟨rfl, rfl, rfl⟩ := jn3 ha' | obtain ⟨rfl, rfl⟩ := jn2 ha' | obtain rfl := jn1 ha' | cases ha')
      have S' := S
      obtain ⟨m, led, el, F, N, nd, LR, V⟩ := S'
      exact ⟨rfl, fun Q hq => method_inst F hC.X I hm.get hm.find hm.fn (fr.getL.2 (Option.isNone_iff_eq_none.mp hl)) (hq _ s.toks rfl)⟩
    · rw [if_neg hok] at e9; (first | exact no1 e9 | obtain ⟨rfl, rfl, rfl⟩ := jn3 e9 | obtain ⟨rfl, rfl⟩ := jn2 e9 | obtain rfl := jn1 e9 | cases e9)
theorem keeps_ref {f : Value} {K : Frag} (hk : keepIn K f = true) : ∀ (M : Model) h, K.In h → ∃ k, (k = Keeper.frame ∨ k = Keeper.machine ∨ k = Keeper.boundFrame) ∧ Looks M h (keeperOf f) k := fun _ h X => keeps_K hk h X
theorem keeps_builtin {id : String} {K : Frag} : ∀ (M : Model) h, K.In h → ∃ k, (k = Keeper.frame ∨ k = Keeper.machine ∨ k = Keeper.boundFrame) ∧ Looks M h (keeperOf (.builtin id)) k := fun _ _ _ => ⟨.machine, .inr (.inl rfl), Looks.of_pure rfl⟩
theorem keeps_type {id : String} {K : Frag} : ∀ (M : Model) h, K.In h → ∃ k, (k = Keeper.frame ∨ k = Keeper.machine ∨ k = Keeper.boundFrame) ∧ Looks M h (keeperOf (.type id)) k := fun _ _ _ => ⟨.machine, .inr (.inl rfl), Looks.of_pure rfl⟩

/-- o.x(..): the method of an instance of the text's -/
theorem se_mcall (hC : C.Ok rm) {o : Expr} {x : Str} {apos pos : Pos} {args : List Expr} {pl : Sem Bool} {cls f : Addr} {P : PM} {Po : M AV} {Pa : M (List AV)} (hm : MethOk C.st.K cls x f) (hf : FS C.st f rm P) (ho : SE C o Po) (ha : SArgs C pos args Pa)
    (he : eval (.Call (.Attribute o x apos) args [] pos) C.env = (do
      let ov ← eval o C.env
      standAt apos.atName
      let (f, first) ← holding [ov] (getMethod ov x pl)
      callWith pos f first (backTo pos (starEach args C.env)) (backToKw pos (keywordEach [] C.env))))
    (hst : ∀ e ∈ args, ∀ rest, starEach (e :: rest) C.env = (false, eval e C.env) :: starEach rest C.env) :
    SE C (.Call (.Attribute o x apos) args [] pos) (M.bind Po fun v => M.bind (chkI cls x v) fun _ => M.bind Pa fun as => chkF P (v :: as)) := by
  intro hid s ι lm H v H' S _ e Q hq
  obtain ⟨⟨a, H1⟩, e1, f1⟩ := Option.bind_eq_some_iff.mp e
  obtain ⟨⟨u, H2⟩, e2, f2⟩ := Option.bind_eq_some_iff.mp f1
  refine methodCall_KW (ho hid s ι lm H a H1 S trivial e1 _ fun va h' tk' ι' S' p' ra => ?_) he
  refine getMethod_inst_sound hC hm hid _ ι' lm H1 u H2 S' ra e2 _ fun fx h2 tk2 ι2 S2 p2 r2 => ?_
  subst r2
  refine cw_sound (afirst := [a]) (first := [va]) (B := chkF P) hC (keeps_ref hm.keep) ha (fun as vs => fs_call hC hf) hst hid _ ι2 lm H2 v H' S2 ⟨ra.mono p2, trivial⟩ f2 _ fun vt h4 tk4 ι4 S4 p4 r4 => ?_
  exact hq vt h4 tk4 ι4 S4 ((p'.trans p2).trans p4) r4
/-- f(..), f the value of a name -/
theorem se_ncall (hC : C.Ok rm) {x : Expr} {args : List Expr} {pos : Pos} {f : Value} {B : List AV → M AV} {Pa : M (List AV)} (hx : SE C x (constM (.con f)))
    (hk : ∀ M h, C.st.K.In h → ∃ k, (k = Keeper.frame ∨ k = Keeper.machine ∨ k = Keeper.boundFrame) ∧ Looks M h (keeperOf f) k) (hB : ∀ as vs, TT C (fun ι => VRs ι as vs) (call f vs) VR (B as)) (ha : SArgs C pos args Pa)
    (he : eval (.Call x args [] pos) C.env = (do callWith pos (← eval x C.env) [] (backTo pos (starEach args C.env)) (backToKw pos (keywordEach [] C.env))))
    (hst : ∀ e ∈ args, ∀ rest, starEach (e :: rest) C.env = (false, eval e C.env) :: starEach rest C.env) : SE C (.Call x args [] pos) (M.bind Pa B) := by
  intro hid s ι lm H v H' S _ e Q hq
  rw [he]
  refine wpAny_bind (hx hid s ι lm H (.con f) H S trivial rfl _ fun va h0 tk0 ι0 S0 p0 r0 => ?_)
  (first | exact no1 r0 | obtain ⟨rfl, rfl, rfl⟩ := jn3 r0 | obtain ⟨rfl, rfl⟩ := jn2 r0 | obtain rfl := jn1 r0 | cases r0)
  refine cw_sound (afirst := []) (first := []) hC hk ha hB hst hid _ ι0 lm H v H' S0 trivial e _ fun vt h4 tk4 ι4 S4 p4 r4 => ?_
  exact hq vt h4 tk4 ι4 S4 (p0.trans p4) r4

theorem cls_sound (hC : C.Ok (rm + 1)) {cls fI : Addr} {P : PM} (hk : ClsOk C.st.K cls fI) (hf : FS C.st fI rm P) {as : List AV} {vs : List Value} : TT C (fun ι => VRs ι as vs) (call (.ref cls) vs) VR (newI cls P as) := by
  intro hid s ι lm H v H' S g e Q hq
  unfold newI at e
  split at e
  · rename_i H2 e1
    (first | exact no1 e | obtain ⟨rfl, rfl, rfl⟩ := jn3 e | obtain ⟨rfl, rfl⟩ := jn2 e | obtain rfl := jn1 e | cases e)
    have S' := S
    obtain ⟨m, led, el, F, N, nd, LR, V⟩ := S'
    refine call_cls F hC.X N hk.make hk.find hk.fn fun x dx h' F' N' l1 l2 => ?_
    have N1 : News C.h₀ C.L h' ((dx, dictOf [] 0) :: (led ++ hid)) := fun p hp => N' p (.tail _ hp)
    have len : H.length = ι.length := S.len
    have S1 : StRel C hid lm (H ++ [.flds []]) (ι ++ [dx]) h' := StRel.alloc el nd LR V F' N1 (fun p hp => Nat.ne_of_lt (l1 p hp)) ⟨[], 0, rfl, trivial⟩
    obtain ⟨m2, led2, el2, F2, N2, nd2, LR2, V2⟩ := S1
    have hfr : ∀ p ∈ led2 ++ hid, p.1 ≠ x := by
      intro p hp
      rcases List.mem_append.mp hp with q | q
      · have : p.1 ∈ ι ++ [dx] := el2 ▸ List.mem_map.mpr ⟨p, q, rfl⟩
        rcases List.mem_append.mp this with z | z
        · rw [← el] at z
          obtain ⟨r, hr, er⟩ := List.mem_map.mp z
          have := l1 r (List.mem_append_left _ hr)
          rw [← er]
          exact Nat.ne_of_lt (Nat.lt_trans this l2)
        · rw [List.mem_singleton.mp z]; exact Nat.ne_of_lt l2
      · exact Nat.ne_of_lt (Nat.lt_trans (l1 p (List.mem_append_right _ q)) l2)
    have S2 : StRel C hid lm ((H ++ [.flds []]) ++ [.inst cls H.length]) ((ι ++ [dx]) ++ [x]) h' := by
      refine StRel.alloc (o := instObj cls dx) el2 nd2 LR2 V2 F2 (fun p hp => ?_) hfr ⟨dx, ?_, rfl⟩
      · rcases List.mem_cons.mp hp with rfl | hp
        · exact ⟨(N' _ (.head _)).1, (N' _ (.head _)).2⟩
        · exact N2 p hp
      · rw [List.getElem?_append_left (by simp [len])]
        rw [len, List.getElem?_concat_length]
    have pre : ι <+: (ι ++ [dx]) ++ [x] := (List.prefix_append _ _).trans (List.prefix_append _ _)
    have hix : ((ι ++ [dx]) ++ [x])[H.length + 1]? = some x := by
      rw [len]
      have : ι.length + 1 = (ι ++ [dx]).length := by simp
      rw [this, List.getElem?_concat_length]
    have OK : Cx.Ok { C with A := C.A.under (.builtin "type.__call__" ⟨.ref cls :: vs, []⟩) } rm :=
      { fr := hC.fr, hd := hC.hd, B := hC.B, X := hC.X, T := hC.T, ff := hC.ff, fk := hC.fk, ek := hC.ek, eg := hC.eg, eb := hC.eb,
        room := by show C.A.depth + 1 + 4 * rm < recursionLimit; have := hC.room; lia
        units := by show C.A.units + 1 + 40 * rm < cLine; have := hC.units; lia }
    refine codeAny_mono (hf { C with A := C.A.under (.builtin "type.__call__" ⟨.ref cls :: vs, []⟩) } hid { s with heap := h' } ((ι ++ [dx]) ++ [x]) lm (H ++ [.flds [], .inst cls H.length]) (.ref (H.length + 1) :: as) (.ref x :: vs) .none H' rfl OK (by
      rw [show H ++ [.flds [], .inst cls H.length] = (H ++ [.flds []]) ++ [.inst cls H.length] by simp]
      exact S2.toA _) ⟨⟨x, hix, rfl⟩, g.mono pre⟩ e1 (fun v s' => v = .none ∧ Q (.ref x) s') fun a h3 tk3 ι3 S3 p3 r3 => ⟨r3, hq (.ref x) h3 tk3 ι3 S3.ofA (pre.trans p3) ⟨x, pre_get p3 hix, rfl⟩⟩) fun r s' hr => ?_
    cases r with
    | ok f => cases f <;> first | exact hr.elim | exact hr
    | error er => exact hr.elim
  · (first | exact no1 e | obtain ⟨rfl, rfl, rfl⟩ := jn3 e | obtain ⟨rfl, rfl⟩ := jn2 e | obtain rfl := jn1 e | cases e)
/-- Cls.x, a def of a class of the text's, reached through the class -/
structure StatOk (K : Frag) (cls : Addr) (x : Str) (f : Addr) : Prop where
  special : specialIn K (.ref cls) "__getattribute__" = some (some (.builtin "type.__getattribute__"))
  ty : ∃ mc, typeIn K (.ref cls) = some mc ∧ readsIn K cls mc = true ∧ findCls K (.ref cls) mc x = some (.val (.ref f))
  keep : keepIn K (.ref f) = true
theorem se_scall (hC : C.Ok rm) {o : Expr} {x : Str} {apos pos : Pos} {args : List Expr} {pl : Sem Bool} {cls f : Addr} {P : PM} {Pa : M (List AV)} (hm : StatOk C.st.K cls x f) (hf : FS C.st f rm P) (ho : SE C o (constM (.con (.ref cls)))) (ha : SArgs C pos args Pa)
    (he : eval (.Call (.Attribute o x apos) args [] pos) C.env = (do
      let ov ← eval o C.env
      standAt apos.atName
      let (f, first) ← holding [ov] (getMethod ov x pl)
      callWith pos f first (backTo pos (starEach args C.env)) (backToKw pos (keywordEach [] C.env))))
    (hst : ∀ e ∈ args, ∀ rest, starEach (e :: rest) C.env = (false, eval e C.env) :: starEach rest C.env) :
    SE C (.Call (.Attribute o x apos) args [] pos) (M.bind Pa (chkF P)) := by
  intro hid s ι lm H v H' S _ e Q hq
  refine methodCall_KW (ho hid s ι lm H (.con (.ref cls)) H S trivial rfl _ fun va h' tk' ι' S' p' ra => ?_) he
  (first | exact no1 ra | obtain ⟨rfl, rfl, rfl⟩ := jn3 ra | obtain ⟨rfl, rfl⟩ := jn2 ra | obtain rfl := jn1 ra | cases ra)
  have S2 := S'
  obtain ⟨m, led, el, F, N, nd, LR, V⟩ := S2
  obtain ⟨mc, h1, h2, h3⟩ := hm.ty
  refine method_of_cls (s := { s with heap := h', toks := tk' }) F hC.X hm.special (cls_val (s := { s with heap := h', toks := tk' }) F hC.X h1 h2 h3 rfl ?_)
  refine cw_sound (afirst := []) (first := []) (B := chkF P) hC (keeps_ref hm.keep) ha (fun as vs => fs_call hC hf) hst hid { s with heap := h', toks := tk' + 1 } ι' lm H v H' S' trivial e _ fun vt h4 tk4 ι4 S4 p4 r4 => ?_
  exact hq vt h4 tk4 ι4 S4 (p'.trans p4) r4
/-- a method of a built-in type -/
theorem se_bmeth (hC : C.Ok rm) {o : Expr} {x : Str} {apos pos : Pos} {args : List Expr} {pl : Sem Bool} {id : String} {T : AV → M Unit} {B : List AV → M AV} {Po : M AV} {Pa : M (List AV)} (ho : SE C o Po)
    (hT : ∀ a v, TT C (fun ι => VR ι a v) (getMethod v x pl) (fun _ _ r => r = (.builtin id, [v])) (T a)) (hB : ∀ as vs, TT C (fun ι => VRs ι as vs) (call (.builtin id) vs) VR (B as)) (ha : SArgs C pos args Pa)
    (he : eval (.Call (.Attribute o x apos) args [] pos) C.env = (do
      let ov ← eval o C.env
      standAt apos.atName
      let (f, first) ← holding [ov] (getMethod ov x pl)
      callWith pos f first (backTo pos (starEach args C.env)) (backToKw pos (keywordEach [] C.env))))
    (hst : ∀ e ∈ args, ∀ rest, starEach (e :: rest) C.env = (false, eval e C.env) :: starEach rest C.env) :
    SE C (.Call (.Attribute o x apos) args [] pos) (M.bind Po fun v => M.bind (T v) fun _ => M.bind Pa fun as => B (v :: as)) := by
  intro hid s ι lm H v H' S _ e Q hq
  obtain ⟨⟨a, H1⟩, e1, f1⟩ := Option.bind_eq_some_iff.mp e
  obtain ⟨⟨u, H2⟩, e2, f2⟩ := Option.bind_eq_some_iff.mp f1
  refine methodCall_KW (ho hid s ι lm H a H1 S trivial e1 _ fun va h' tk' ι' S' p' ra => ?_) he
  refine hT a va hid _ ι' lm H1 u H2 S' ra e2 _ fun fx h2 tk2 ι2 S2 p2 r2 => ?_
  subst r2
  refine cw_sound (afirst := [a]) (first := [va]) (B := B) hC keeps_builtin ha hB hst hid _ ι2 lm H2 v H' S2 ⟨ra.mono p2, trivial⟩ f2 _ fun vt h4 tk4 ι4 S4 p4 r4 => ?_
  exact hq vt h4 tk4 ι4 S4 ((p'.trans p2).trans p4) r4
end
-- part R8
section
variable {C : Cx} {rm : Nat}

theorem VRs.cons1 {ι : List Addr} {a : AV} {as : List AV} : ∀ {vs : List Value}, VRs ι (a :: as) vs → ∃ v r, vs = v :: r ∧ VR ι a v ∧ VRs ι as r
  | v :: r, h => ⟨v, r, rfl, h.1, h.2⟩
theorem VRs.nil1 {ι : List Addr} : ∀ {vs : List Value}, VRs ι [] vs → vs = []
  | [], _ => rfl
theorem VRs.one {ι : List Addr} {a : AV} {vs : List Value} (h : VRs ι [a] vs) : ∃ v, vs = [v] ∧ VR ι a v := by
  obtain ⟨v, r, rfl, x, h⟩ := h.cons1
  obtain rfl := h.nil1
  exact ⟨v, rfl, x⟩
theorem VRs.two {ι : List Addr} {a b : AV} {vs : List Value} (h : VRs ι [a, b] vs) : ∃ v w, vs = [v, w] ∧ VR ι a v ∧ VR ι b w := by
  obtain ⟨v, r, rfl, x, h⟩ := h.cons1
  obtain ⟨w, rfl, y⟩ := h.one
  exact ⟨v, w, rfl, x, y⟩
theorem VRs.three {ι : List Addr} {a b c : AV} {vs : List Value} (h : VRs ι [a, b, c] vs) : ∃ u v w, vs = [u, v, w] ∧ VR ι a u ∧ VR ι b v ∧ VR ι c w := by
  obtain ⟨v, r, rfl, x, h⟩ := h.cons1
  obtain ⟨w, z, rfl, y⟩ := h.two
  exact ⟨v, w, z, rfl, x, y⟩

noncomputable def lenB : List AV → M AV
  | [.bytes b] => if b.length ≤ 1099511627776 then M.pure (.int b.length) else M.fail
  | [.ref i] => fun _ H => match H[i]? with
    | some (.list xs) => if xs.length < 2 ^ 60 then some (.int xs.length, H) else none
    | _ => none
  | _ => M.fail
theorem len_sound (as : List AV) (vs : List Value) : TT C (fun ι => VRs ι as vs) (call (.builtin "len") vs) VR (lenB as) :=
  TT.here fun s hid ι lm H b H' S g e => by
    unfold lenB at e
    split at e
    · rename_i bs
      obtain ⟨v, rfl, t, rfl⟩ := g.one
      have e' : (if bs.length ≤ 1099511627776 then (M.pure (.int bs.length) : M AV) else M.fail) lm H = some (b, H') := e
      by_cases hk : bs.length ≤ 1099511627776
      · rw [if_pos hk] at e'
        (first | exact no1 e' | obtain ⟨rfl, rfl, rfl⟩ := jn3 e' | obtain ⟨rfl, rfl⟩ := jn2 e' | obtain rfl := jn1 e' | cases e')
        refine ⟨rfl, fun Q hq => len_bytes (by rw [List.size_toArray]; exact hk) ?_⟩
        rw [List.size_toArray]
        exact hq _ _ ⟨_, rfl⟩
      · rw [if_neg hk] at e'; (first | exact no1 e' | obtain ⟨rfl, rfl, rfl⟩ := jn3 e' | obtain ⟨rfl, rfl⟩ := jn2 e' | obtain rfl := jn1 e' | cases e')
    · rename_i i
      obtain ⟨v, rfl, ad, had, rfl⟩ := g.one
      split at e
      · rename_i xs q
        split at e
        · rename_i hk
          (first | exact no1 e | obtain ⟨rfl, rfl, rfl⟩ := jn3 e | obtain ⟨rfl, rfl⟩ := jn2 e | obtain rfl := jn1 e | cases e)
          obtain ⟨a', o, ha, ho, vs, n, rfl, r⟩ := S.get q
          rw [had] at ha; (first | exact no1 ha | obtain ⟨rfl, rfl, rfl⟩ := jn3 ha | obtain ⟨rfl, rfl⟩ := jn2 ha | obtain rfl := jn1 ha | cases ha)
          have hl := r.length
          refine ⟨rfl, fun Q hq => PySem.Calls.call_len_list (items := vs.toArray) ⟨_, ho, rfl, n, rfl⟩ (by rw [List.size_toArray, ← hl]; lia) ?_⟩
          rw [List.size_toArray, ← hl]
          exact hq _ _ ⟨_, rfl⟩
        · (first | exact no1 e | obtain ⟨rfl, rfl, rfl⟩ := jn3 e | obtain ⟨rfl, rfl⟩ := jn2 e | obtain rfl := jn1 e | cases e)
      · (first | exact no1 e | obtain ⟨rfl, rfl, rfl⟩ := jn3 e | obtain ⟨rfl, rfl⟩ := jn2 e | obtain rfl := jn1 e | cases e)
    · (first | exact no1 e | obtain ⟨rfl, rfl, rfl⟩ := jn3 e | obtain ⟨rfl, rfl⟩ := jn2 e | obtain rfl := jn1 e | cases e)
theorem StRel.reF {hid : List (Addr × Obj)} {lm : Loc} {H : AH} {ι : List Addr} {h' : Heap} {m : Str → Option Value} {led : List (Addr × Obj)} (el : led.map (·.1) = ι) (nd : ((led ++ hid).map (·.1)).Nodup) (LR : LedR C.st ι H led) (V : VarsR C hid m ι lm)
    (F : Fr C.h₀ C.L h' m) (N : News C.h₀ C.L h' (led ++ hid)) : StRel C hid lm H ι h' := ⟨m, led, el, F, N, nd, LR, V⟩
noncomputable def intsOf : List AV → Option (List Int)
  | [] => some []
  | .int i :: r => (intsOf r).map (i :: ·)
  | _ :: _ => none
theorem intsOf_sound {ι : List Addr} : ∀ {xs : List AV} {vs : List Value} {ns : List Int}, VRs ι xs vs → intsOf xs = some ns → IntsAre vs ns
  | [], [], _, _, e => by (first | exact no1 e | obtain ⟨rfl, rfl, rfl⟩ := jn3 e | obtain ⟨rfl, rfl⟩ := jn2 e | obtain rfl := jn1 e | cases e); exact .nil
  | .int i :: xs, v :: vs, ns, ⟨⟨t, h⟩, r⟩, e => by
    obtain ⟨ms, hm, rfl⟩ := Option.map_eq_some_iff.mp e
    subst h
    exact .cons i t (intsOf_sound r hm)
  | .none :: _, _ :: _, _, _, e => by (first | exact no1 e | obtain ⟨rfl, rfl, rfl⟩ := jn3 e | obtain ⟨rfl, rfl⟩ := jn2 e | obtain rfl := jn1 e | cases e)
  | .bool _ :: _, _ :: _, _, _, e => by (first | exact no1 e | obtain ⟨rfl, rfl, rfl⟩ := jn3 e | obtain ⟨rfl, rfl⟩ := jn2 e | obtain rfl := jn1 e | cases e)
  | .bytes _ :: _, _ :: _, _, _, e => by (first | exact no1 e | obtain ⟨rfl, rfl, rfl⟩ := jn3 e | obtain ⟨rfl, rfl⟩ := jn2 e | obtain rfl := jn1 e | cases e)
  | .ref _ :: _, _ :: _, _, _, e => by (first | exact no1 e | obtain ⟨rfl, rfl, rfl⟩ := jn3 e | obtain ⟨rfl, rfl⟩ := jn2 e | obtain rfl := jn1 e | cases e)
  | .con _ :: _, _ :: _, _, _, e => by (first | exact no1 e | obtain ⟨rfl, rfl, rfl⟩ := jn3 e | obtain ⟨rfl, rfl⟩ := jn2 e | obtain rfl := jn1 e | cases e)
  | [], _ :: _, _, h, _ => h.elim
  | _ :: _, [], _, h, _ => h.elim
noncomputable def lstOf (v : AV) : M (List AV) := fun _ H => match v with
  | .ref i => match H[i]? with
    | some (.list xs) => some (xs, H)
    | _ => none
  | _ => none
noncomputable def maxI : List Int → Int
  | [] => 0
  | [a] => a
  | a :: b :: r => if maxI (b :: r) < a then a else maxI (b :: r)
noncomputable def minI : List Int → Int
  | [] => 0
  | [a] => a
  | a :: b :: r => if a < minI (b :: r) then a else minI (b :: r)
theorem maxI_spec : ∀ {ns : List Int}, 0 < ns.length → maxI ns ∈ ns ∧ ∀ a ∈ ns, a ≤ maxI ns
  | [a], _ => ⟨.head _, fun b hb => by rw [List.mem_singleton.mp hb]; exact Int.le_refl _⟩
  | a :: b :: r, _ => by
    have ih := maxI_spec (ns := b :: r) (Nat.succ_pos _)
    have e : maxI (a :: b :: r) = if maxI (b :: r) < a then a else maxI (b :: r) := rfl
    by_cases h : maxI (b :: r) < a
    · rw [e, if_pos h]
      refine ⟨.head _, fun x hx => ?_⟩
      rcases List.mem_cons.mp hx with rfl | hx
      · exact Int.le_refl _
      · have := ih.2 x hx; lia
    · rw [e, if_neg h]
      refine ⟨.tail _ ih.1, fun x hx => ?_⟩
      rcases List.mem_cons.mp hx with rfl | hx
      · lia
      · exact ih.2 x hx
theorem minI_spec : ∀ {ns : List Int}, 0 < ns.length → minI ns ∈ ns ∧ ∀ a ∈ ns, minI ns ≤ a
  | [a], _ => ⟨.head _, fun b hb => by rw [List.mem_singleton.mp hb]; exact Int.le_refl _⟩
  | a :: b :: r, _ => by
    have ih := minI_spec (ns := b :: r) (Nat.succ_pos _)
    have e : minI (a :: b :: r) = if a < minI (b :: r) then a else minI (b :: r) := rfl
    by_cases h : a < minI (b :: r)
    · rw [e, if_pos h]
      refine ⟨.head _, fun x hx => ?_⟩
      rcases List.mem_cons.mp hx with rfl | hx
      · exact Int.le_refl _
      · have := ih.2 x hx; lia
    · rw [e, if_neg h]
      refine ⟨.tail _ ih.1, fun x hx => ?_⟩
      rcases List.mem_cons.mp hx with rfl | hx
      · lia
      · exact ih.2 x hx
noncomputable def foldB (two : Int → Int → Int) (all : List Int → Int) : List AV → M AV
  | [.int a, .int b] => M.pure (.int (two a b))
  | [v] => M.bind (lstOf v) fun xs => match intsOf xs with
    | some ns => if 0 < ns.length then M.pure (.int (all ns)) else M.fail
    | none => M.fail
  | _ => M.fail
noncomputable def maxB : List AV → M AV := foldB (fun a b => if b > a then b else a) maxI
noncomputable def minB : List AV → M AV := foldB (fun a b => if b < a then b else a) minI
theorem lstOf_some {v : AV} {lm : Loc} {H H' : AH} {xs : List AV} (e : lstOf v lm H = some (xs, H')) : H' = H ∧ ∃ i, v = .ref i ∧ H[i]? = some (.list xs) := by
  unfold lstOf at e
  split at e
  · split at e
    · (first | exact no1 e | obtain ⟨rfl, rfl, rfl⟩ := jn3 e | obtain ⟨rfl, rfl⟩ := jn2 e | obtain rfl := jn1 e | cases e); exact ⟨rfl, _, rfl, by assumption⟩
    · (first | exact no1 e | obtain ⟨rfl, rfl, rfl⟩ := jn3 e | obtain ⟨rfl, rfl⟩ := jn2 e | obtain rfl := jn1 e | cases e)
  · (first | exact no1 e | obtain ⟨rfl, rfl, rfl⟩ := jn3 e | obtain ⟨rfl, rfl⟩ := jn2 e | obtain rfl := jn1 e | cases e)
theorem max_sound (hC : C.Ok rm) (as : List AV) (vs : List Value) : TT C (fun ι => VRs ι as vs) (call (.builtin "max") vs) VR (maxB as) := by
  intro hid s ι lm H b H' S g e Q hq
  unfold maxB foldB at e
  split at e
  · obtain ⟨v, w, rfl, ⟨t, rfl⟩, ⟨u, rfl⟩⟩ := g.two
    (first | exact no1 e | obtain ⟨rfl, rfl, rfl⟩ := jn3 e | obtain ⟨rfl, rfl⟩ := jn2 e | obtain rfl := jn1 e | cases e)
    have S' := S
    obtain ⟨m, led, el, F, N, nd, LR, V⟩ := S'
    exact max_two_N hC.hd F N fun h' tk F' N' => hq _ h' tk ι (StRel.reF el nd LR V F' N') (List.prefix_refl _) ⟨_, rfl⟩
  · obtain ⟨⟨xs, H1⟩, e1, e2⟩ := Option.bind_eq_some_iff.mp e
    obtain ⟨rfl, i, rfl, q⟩ := lstOf_some e1
    obtain ⟨v, rfl, ad, had, rfl⟩ := g.one
    obtain ⟨a', o, ha, ho, vs, n, rfl, r⟩ := S.get q
    rw [had] at ha; (first | exact no1 ha | obtain ⟨rfl, rfl, rfl⟩ := jn3 ha | obtain ⟨rfl, rfl⟩ := jn2 ha | obtain rfl := jn1 ha | cases ha)
    dsimp only at e2
    cases hns : intsOf xs with
    | none => rw [hns] at e2; (first | exact no1 e2 | obtain ⟨rfl, rfl, rfl⟩ := jn3 e2 | obtain ⟨rfl, rfl⟩ := jn2 e2 | obtain rfl := jn1 e2 | cases e2)
    | some ns =>
      rw [hns] at e2
      have e3 : (if 0 < ns.length then (M.pure (.int (maxI ns)) : M AV) else M.fail) lm H1 = some (b, H') := e2
      by_cases hpos : 0 < ns.length
      · rw [if_pos hpos] at e3
        (first | exact no1 e3 | obtain ⟨rfl, rfl, rfl⟩ := jn3 e3 | obtain ⟨rfl, rfl⟩ := jn2 e3 | obtain rfl := jn1 e3 | cases e3)
        have S' := S
        obtain ⟨m, led, el, F, N, nd, LR, V⟩ := S'
        refine max_list_N hC.hd F N ⟨_, ho, rfl, n, rfl⟩ (intsOf_sound r hns) hpos fun h' M t tk F' N' h1 h2 => hq _ h' tk ι (StRel.reF el nd LR V F' N') (List.prefix_refl _) ⟨t, ?_⟩
        have sp := maxI_spec hpos
        rw [Int.le_antisymm (sp.2 M h1) (h2 _ sp.1)]
      · rw [if_neg hpos] at e3; (first | exact no1 e3 | obtain ⟨rfl, rfl, rfl⟩ := jn3 e3 | obtain ⟨rfl, rfl⟩ := jn2 e3 | obtain rfl := jn1 e3 | cases e3)
  · (first | exact no1 e | obtain ⟨rfl, rfl, rfl⟩ := jn3 e | obtain ⟨rfl, rfl⟩ := jn2 e | obtain rfl := jn1 e | cases e)
theorem min_sound (hC : C.Ok rm) (as : List AV) (vs : List Value) : TT C (fun ι => VRs ι as vs) (call (.builtin "min") vs) VR (minB as) := by
  intro hid s ι lm H b H' S g e Q hq
  unfold minB foldB at e
  split at e
  · obtain ⟨v, w, rfl, ⟨t, rfl⟩, ⟨u, rfl⟩⟩ := g.two
    (first | exact no1 e | obtain ⟨rfl, rfl, rfl⟩ := jn3 e | obtain ⟨rfl, rfl⟩ := jn2 e | obtain rfl := jn1 e | cases e)
    have S' := S
    obtain ⟨m, led, el, F, N, nd, LR, V⟩ := S'
    exact min_two_N hC.hd F N fun h' tk F' N' => hq _ h' tk ι (StRel.reF el nd LR V F' N') (List.prefix_refl _) ⟨_, rfl⟩
  · obtain ⟨⟨xs, H1⟩, e1, e2⟩ := Option.bind_eq_some_iff.mp e
    obtain ⟨rfl, i, rfl, q⟩ := lstOf_some e1
    obtain ⟨v, rfl, ad, had, rfl⟩ := g.one
    obtain ⟨a', o, ha, ho, vs, n, rfl, r⟩ := S.get q
    rw [had] at ha; (first | exact no1 ha | obtain ⟨rfl, rfl, rfl⟩ := jn3 ha | obtain ⟨rfl, rfl⟩ := jn2 ha | obtain rfl := jn1 ha | cases ha)
    dsimp only at e2
    cases hns : intsOf xs with
    | none => rw [hns] at e2; (first | exact no1 e2 | obtain ⟨rfl, rfl, rfl⟩ := jn3 e2 | obtain ⟨rfl, rfl⟩ := jn2 e2 | obtain rfl := jn1 e2 | cases e2)
    | some ns =>
      rw [hns] at e2
      have e3 : (if 0 < ns.length then (M.pure (.int (minI ns)) : M AV) else M.fail) lm H1 = some (b, H') := e2
      by_cases hpos : 0 < ns.length
      · rw [if_pos hpos] at e3
        (first | exact no1 e3 | obtain ⟨rfl, rfl, rfl⟩ := jn3 e3 | obtain ⟨rfl, rfl⟩ := jn2 e3 | obtain rfl := jn1 e3 | cases e3)
        have S' := S
        obtain ⟨m, led, el, F, N, nd, LR, V⟩ := S'
        refine min_list_N hC.hd F N ⟨_, ho, rfl, n, rfl⟩ (intsOf_sound r hns) hpos fun h' M t tk F' N' h1 h2 => hq _ h' tk ι (StRel.reF el nd LR V F' N') (List.prefix_refl _) ⟨t, ?_⟩
        have sp := minI_spec hpos
        rw [Int.le_antisymm (h2 _ sp.1) (sp.2 M h1)]
      · rw [if_neg hpos] at e3; (first | exact no1 e3 | obtain ⟨rfl, rfl, rfl⟩ := jn3 e3 | obtain ⟨rfl, rfl⟩ := jn2 e3 | obtain rfl := jn1 e3 | cases e3)
  · (first | exact no1 e | obtain ⟨rfl, rfl, rfl⟩ := jn3 e | obtain ⟨rfl, rfl⟩ := jn2 e | obtain rfl := jn1 e | cases e)
noncomputable def rngB : List AV → M AV
  | [.int b] => newO (.range 0 b 1)
  | [.int a, .int b] => newO (.range a b 1)
  | [.int a, .int b, .int c] => if c ≠ 0 ∧ Builtin.divisionGoesByPylong (b - a) c = false then newO (.range a b c) else M.fail
  | _ => M.fail
theorem StRel.newRange {hid : List (Addr × Obj)} {lm : Loc} {H : AH} {ι : List Addr} {h h' : Heap} {m : Str → Option Value} {led : List (Addr × Obj)} (el : led.map (·.1) = ι) (nd : ((led ++ hid).map (·.1)).Nodup) (LR : LedR C.st ι H led) (V : VarsR C hid m ι lm)
    (F : Fr C.h₀ C.L h m) (N : News C.h₀ C.L h (led ++ hid)) (F' : Fr C.h₀ C.L h' m) (N' : News C.h₀ C.L h' (led ++ hid)) {a b c : Int} {t u v : Tok} (hr : IsRange h' h.objs.size a b c t u v) :
    StRel C hid lm (H ++ [.range a b c]) (ι ++ [h.objs.size]) h' := by
  refine StRel.alloc el nd LR V F' (fun p hp => ?_) (fun p hp => Nat.ne_of_lt (Heap.lt_size (N p hp).1)) ⟨t, u, v, rfl⟩
  rcases List.mem_cons.mp hp with rfl | hp
  · refine ⟨hr, ?_, ?_⟩
    · obtain ⟨oL, _, _, hL, _⟩ := F.ns
      exact Nat.ne_of_gt (Heap.lt_size hL)
    · cases q : C.h₀.get? h.objs.size with
      | none => rfl
      | some o => exact absurd (Heap.lt_size (F.keep _ _ q)) (Nat.lt_irrefl _)
  · exact N' p hp
theorem rng_sound (as : List AV) (vs : List Value) : TT C (fun ι => VRs ι as vs) (call (.type "range") vs) VR (rngB as) := by
  intro hid s ι lm H b H' S g e Q hq
  have S' := S
  obtain ⟨m, led, el, F, N, nd, LR, V⟩ := S'
  have at_ : (ι ++ [s.heap.objs.size])[H.length]? = some s.heap.objs.size := by rw [S.len, List.getElem?_concat_length]
  unfold rngB at e
  split at e
  · obtain ⟨v, rfl, t, rfl⟩ := g.one
    (first | exact no1 e | obtain ⟨rfl, rfl, rfl⟩ := jn3 e | obtain ⟨rfl, rfl⟩ := jn2 e | obtain rfl := jn1 e | cases e)
    exact range1_rows F N fun h' tk t₁ u₁ v₁ hr F' N' _ => hq _ h' tk _ (StRel.newRange el nd LR V F N F' N' hr) (List.prefix_append _ _) ⟨_, at_, rfl⟩
  · obtain ⟨v, w, rfl, ⟨t, rfl⟩, ⟨u, rfl⟩⟩ := g.two
    (first | exact no1 e | obtain ⟨rfl, rfl, rfl⟩ := jn3 e | obtain ⟨rfl, rfl⟩ := jn2 e | obtain rfl := jn1 e | cases e)
    exact range2_rows F N fun h' tk t₁ u₁ v₁ hr F' N' _ => hq _ h' tk _ (StRel.newRange el nd LR V F N F' N' hr) (List.prefix_append _ _) ⟨_, at_, rfl⟩
  · rename_i a b c
    obtain ⟨v, w, x, rfl, ⟨t, rfl⟩, ⟨u, rfl⟩, ⟨y, rfl⟩⟩ := g.three
    have e' : (if c ≠ 0 ∧ Builtin.divisionGoesByPylong (b - a) c = false then newO (.range a b c) else M.fail) lm H = some (_, H') := e
    by_cases hk : c ≠ 0 ∧ Builtin.divisionGoesByPylong (b - a) c = false
    · rw [if_pos hk] at e'
      (first | exact no1 e' | obtain ⟨rfl, rfl, rfl⟩ := jn3 e' | obtain ⟨rfl, rfl⟩ := jn2 e' | obtain rfl := jn1 e' | cases e')
      exact range3_rows F N hk.1 (fun h' tk t₁ u₁ v₁ hr F' N' _ => hq _ h' tk _ (StRel.newRange el nd LR V F N F' N' hr) (List.prefix_append _ _) ⟨_, at_, rfl⟩) (.inl hk.2)
    · rw [if_neg hk] at e'; (first | exact no1 e' | obtain ⟨rfl, rfl, rfl⟩ := jn3 e' | obtain ⟨rfl, rfl⟩ := jn2 e' | obtain rfl := jn1 e' | cases e')
  · (first | exact no1 e | obtain ⟨rfl, rfl, rfl⟩ := jn3 e | obtain ⟨rfl, rfl⟩ := jn2 e | obtain rfl := jn1 e | cases e)
noncomputable def absB : List AV → M AV
  | [.int a] => M.pure (.int (if a < 0 then -a else a))
  | _ => M.fail
theorem abs_sound (as : List AV) (vs : List Value) : TT C (fun ι => VRs ι as vs) (call (.builtin "abs") vs) VR (absB as) := by
  intro hid s ι lm H b H' S g e Q hq
  unfold absB at e
  split at e
  · obtain ⟨v, rfl, t, rfl⟩ := g.one
    (first | exact no1 e | obtain ⟨rfl, rfl, rfl⟩ := jn3 e | obtain ⟨rfl, rfl⟩ := jn2 e | obtain rfl := jn1 e | cases e)
    exact call_abs_int fun u tk => hq _ s.heap tk ι S (List.prefix_refl _) ⟨_, rfl⟩
  · (first | exact no1 e | obtain ⟨rfl, rfl, rfl⟩ := jn3 e | obtain ⟨rfl, rfl⟩ := jn2 e | obtain rfl := jn1 e | cases e)
noncomputable def bitlenB : List AV → M AV
  | [.int a] => M.pure (.int (Builtin.Int.intBits a))
  | _ => M.fail
theorem bitlen_sound (as : List AV) (vs : List Value) : TT C (fun ι => VRs ι as vs) (call (.builtin "int.bit_length") vs) VR (bitlenB as) :=
  TT.here fun s hid ι lm H b H' S g e => by
    unfold bitlenB at e
    split at e
    · obtain ⟨v, rfl, t, rfl⟩ := g.one
      (first | exact no1 e | obtain ⟨rfl, rfl, rfl⟩ := jn3 e | obtain ⟨rfl, rfl⟩ := jn2 e | obtain rfl := jn1 e | cases e)
      exact ⟨rfl, fun Q hq => call_int_bit_length (hq _ _ ⟨_, rfl⟩)⟩
    · (first | exact no1 e | obtain ⟨rfl, rfl, rfl⟩ := jn3 e | obtain ⟨rfl, rfl⟩ := jn2 e | obtain rfl := jn1 e | cases e)
noncomputable def isIntM : AV → M Unit
  | .int _ => M.pure ()
  | _ => M.fail
theorem getBitlen_sound {pl : Sem Bool} (a : AV) (v : Value) : TT C (fun ι => VR ι a v) (getMethod v (Str.ofString "bit_length") pl) (fun _ _ r => r = (.builtin "int.bit_length", [v])) (isIntM a) :=
  TT.here fun s hid ι lm H b H' S g e => by
    cases a <;> first | ((first | exact no1 e | obtain ⟨rfl, rfl, rfl⟩ := jn3 e | obtain ⟨rfl, rfl⟩ := jn2 e | obtain rfl := jn1 e | cases e); done) | skip
    obtain ⟨t, rfl⟩ := g
    (first | exact no1 e | obtain ⟨rfl, rfl, rfl⟩ := jn3 e | obtain ⟨rfl, rfl⟩ := jn2 e | obtain rfl := jn1 e | cases e)
    exact ⟨rfl, fun Q hq => getMethod_int_bit_length (hq _ s.toks rfl)⟩
-- list.append
noncomputable def isLstM (v : AV) : M Unit := M.bind (lstOf v) fun _ => M.pure ()
theorem getAppend_sound {pl : Sem Bool} (a : AV) (v : Value) : TT C (fun ι => VR ι a v) (getMethod v (Str.ofString "append") pl) (fun _ _ r => r = (.builtin "list.append", [v])) (isLstM a) :=
  TT.here fun s hid ι lm H b H' S g e => by
    obtain ⟨⟨xs, H1⟩, e1, e2⟩ := Option.bind_eq_some_iff.mp e
    obtain ⟨rfl, i, rfl, q⟩ := lstOf_some e1
    (first | exact no1 e2 | obtain ⟨rfl, rfl, rfl⟩ := jn3 e2 | obtain ⟨rfl, rfl⟩ := jn2 e2 | obtain rfl := jn1 e2 | cases e2)
    obtain ⟨ad, had, rfl⟩ := g
    obtain ⟨a', o, ha, ho, vs, n, rfl, r⟩ := S.get q
    rw [had] at ha; (first | exact no1 ha | obtain ⟨rfl, rfl, rfl⟩ := jn3 ha | obtain ⟨rfl, rfl⟩ := jn2 ha | obtain rfl := jn1 ha | cases ha)
    exact ⟨rfl, fun Q hq => getMethod_builtin ⟨_, ho, rfl⟩ PySem.F.plainAttrs_list PySem.F.slot_list_append PySem.F.type_list_append (fun a e => by (first | exact no1 e | obtain ⟨rfl, rfl, rfl⟩ := jn3 e | obtain ⟨rfl, rfl⟩ := jn2 e | obtain rfl := jn1 e | cases e); exact ⟨_, ho, rfl⟩) (hq _ s.toks rfl)⟩
noncomputable def appB : List AV → M AV
  | [.ref i, a] => fun _ H => match H[i]? with
    | some (.list xs) => if xs.length < 1000000 then some (.none, H.set i (.list (xs ++ [a]))) else none
    | _ => none
  | _ => M.fail
theorem app_sound (as : List AV) (vs : List Value) : TT C (fun ι => VRs ι as vs) (call (.builtin "list.append") vs) VR (appB as) := by
  intro hid s ι lm H b H' S g e Q hq
  unfold appB at e
  split at e
  · rename_i i a
    obtain ⟨v, w, rfl, ⟨ad, had, rfl⟩, rw_⟩ := g.two
    split at e
    · rename_i xs q
      split at e
      · rename_i hk
        (first | exact no1 e | obtain ⟨rfl, rfl, rfl⟩ := jn3 e | obtain ⟨rfl, rfl⟩ := jn2 e | obtain rfl := jn1 e | cases e)
        obtain ⟨a', o, ha, ho, vs, n, rfl, r⟩ := S.get q
        rw [had] at ha; (first | exact no1 ha | obtain ⟨rfl, rfl, rfl⟩ := jn3 ha | obtain ⟨rfl, rfl⟩ := jn2 ha | obtain rfl := jn1 ha | cases ha)
        have hl := r.length
        refine wpAny_list_append_plain ⟨n, ho⟩ (fun h' hp hs => ?_) (by rw [List.size_toArray, ← hl, sizeLine_eq]; lia)
        obtain ⟨n', ho'⟩ := hp
        refine hq _ h' s.toks ι (S.change (List.getElem?_eq_some_iff.mp q).1 had hs ho' ⟨vs ++ [w], n', ?_, r.append ⟨rw_, trivial⟩⟩) (List.prefix_refl _) rfl
        simp
      · (first | exact no1 e | obtain ⟨rfl, rfl, rfl⟩ := jn3 e | obtain ⟨rfl, rfl⟩ := jn2 e | obtain rfl := jn1 e | cases e)
    · (first | exact no1 e | obtain ⟨rfl, rfl, rfl⟩ := jn3 e | obtain ⟨rfl, rfl⟩ := jn2 e | obtain rfl := jn1 e | cases e)
  · (first | exact no1 e | obtain ⟨rfl, rfl, rfl⟩ := jn3 e | obtain ⟨rfl, rfl⟩ := jn2 e | obtain rfl := jn1 e | cases e)
-- dicts of ints
noncomputable def lookI (k : Int) : List (Int × Int) → Option Int
  | [] => none
  | p :: r => if p.1 = k then some p.2 else lookI k r
noncomputable def putI (k x : Int) (es : List (Int × Int)) : List (Int × Int) := if es.any (fun p => p.1 == k) then es.map (fun p => if p.1 == k then (p.1, x) else p) else es ++ [(k, x)]
noncomputable def toD (es : List (Int × Int)) : List (PyData × PyData) := es.map fun p => (PyData.int p.1, PyData.int p.2)
theorem same_ints (a b : Int) : Spec.same (PyData.int a) (PyData.int b) = decide (a = b) := PyProof.V.same_int a b
theorem lookup_toD (k : Int) : ∀ es : List (Int × Int), Spec.lookup (PyData.int k) (toD es) = (lookI k es).map PyData.int
  | [] => rfl
  | p :: r => by
    show (if Spec.same (PyData.int p.1) (PyData.int k) = true then some (PyData.int p.2) else Spec.lookup (PyData.int k) (toD r)) = _
    rw [same_ints, lookup_toD k r]
    show _ = (if p.1 = k then some p.2 else lookI k r).map PyData.int
    by_cases h : p.1 = k
    · simp [h]
    · simp [h]
theorem putD_toD (k x : Int) (es : List (Int × Int)) : PyProof.V.putD (PyData.int k) (PyData.int x) (toD es) = toD (putI k x es) := by
  have h1 : (toD es).any (fun p => Spec.same p.1 (PyData.int k)) = es.any fun p => p.1 == k := by
    unfold toD
    rw [List.any_map]
    congr 1
  unfold PyProof.V.putD putI
  rw [h1]
  split
  · unfold toD
    rw [List.map_map, List.map_map]
    apply List.map_congr_left
    intro p _
    show (if Spec.same (PyData.int p.1) (PyData.int k) = true then (PyData.int p.1, PyData.int x) else (PyData.int p.1, PyData.int p.2)) = (fun p : Int × Int => (PyData.int p.1, PyData.int p.2)) (if (p.1 == k) = true then (p.1, x) else p)
    rw [same_ints]
    by_cases h : p.1 = k
    · simp [h]
    · simp [h]
  · unfold toD; simp
theorem newDict_sound (hC : C.Ok rm) {pos : Pos} : SE C (.Dict [] [] pos) (newO (.idict [])) := by
  intro hid s ι lm H b H' S g e Q hq
  (first | exact no1 e | obtain ⟨rfl, rfl, rfl⟩ := jn3 e | obtain ⟨rfl, rfl⟩ := jn2 e | obtain rfl := jn1 e | cases e)
  have S' := S
  obtain ⟨m, led, el, F, N, nd, LR, V⟩ := S'
  refine newDict_K F N hC.T.nolimit fun d h' o F' N' hlt lo _ _ hd hf => ?_
  refine hq _ h' s.toks (ι ++ [d]) (StRel.alloc el nd LR V F' N' (fun p hp => Nat.ne_of_lt (hlt p hp)) ⟨_, hd, hf⟩ fun _ _ => by simpa using lo) (List.prefix_append _ _) ⟨d, ?_, rfl⟩
  rw [S.len, List.getElem?_concat_length]
theorem updF_of : ∀ {led : List (Addr × Obj)} {i : Nat} {a : Addr} {o : Obj} {hid : List (Addr × Obj)}, led[i]? = some (a, o) → ((led ++ hid).map (·.1)).Nodup → UpdF a o (led ++ hid) (fun o' => led.set i (a, o') ++ hid)
  | [], _, _, _, _, e, _ => by (first | exact no1 e | obtain ⟨rfl, rfl, rfl⟩ := jn3 e | obtain ⟨rfl, rfl⟩ := jn2 e | obtain rfl := jn1 e | cases e)
  | p :: r, 0, a, o, hid, e, nd => by
    (first | exact no1 e | obtain ⟨rfl, rfl, rfl⟩ := jn3 e | obtain ⟨rfl, rfl⟩ := jn2 e | obtain rfl := jn1 e | cases e)
    refine .head fun q hq z => ?_
    have := (List.nodup_cons.mp nd).1
    exact this (List.mem_map.mpr ⟨q, hq, z⟩)
  | p :: r, i + 1, a, o, hid, e, nd => by
    have nd' := List.nodup_cons.mp nd
    refine .tail (fun z => nd'.1 ?_) (updF_of (led := r) (i := i) e nd'.2)
    have : (a, o) ∈ r ++ hid := List.mem_append_left _ (List.mem_of_getElem? e)
    exact List.mem_map.mpr ⟨_, this, z.symm⟩
theorem led_at {hid : List (Addr × Obj)} {ι : List Addr} {H : AH} {h : Heap} {led : List (Addr × Obj)} (el : led.map (·.1) = ι) (N : News C.h₀ C.L h (led ++ hid)) (LR : LedR C.st ι H led) {i : Nat} {ao : AObj} {a : Addr} {o : Obj}
    (e : H[i]? = some ao) (ha : ι[i]? = some a) (ho : h.get? a = some o) : led[i]? = some (a, o) := by
  have hl := (List.getElem?_eq_some_iff.mp e).1
  rw [LR.1] at hl
  have e2 : led[i]? = some led[i] := List.getElem?_eq_getElem hl
  have q : led[i].1 = a := by rw [← el, List.getElem?_map, e2] at ha; exact Option.some.inj ha
  have q2 := (N _ (List.mem_append_left _ (List.mem_of_getElem? e2))).1
  rw [q, ho] at q2
  rw [e2]
  congr 1
  exact Prod.ext q (Option.some.inj q2).symm
noncomputable def setItD (o i v : AV) : M Unit := fun _ H => match o, i, v with
  | .ref j, .int k, .int x => match H[j]? with
    | some (.idict es) => if es.length < 1000 then some ((), H.set j (.idict (putI k x es))) else none
    | _ => none
  | _, _, _ => none
theorem setID_sound {o i a : AV} {vo vi va : Value} : TT C (fun ι => VR ι o vo ∧ VR ι i vi ∧ VR ι a va) (setItem vo vi va) (fun _ _ _ => True) (setItD o i a) := by
  intro hid s ι lm H u H' S g e Q hq
  obtain ⟨go, gi, ga⟩ := g
  unfold setItD at e
  split at e
  · rename_i j k x
    split at e
    · rename_i es q
      split at e
      · rename_i hk
        (first | exact no1 e | obtain ⟨rfl, rfl, rfl⟩ := jn3 e | obtain ⟨rfl, rfl⟩ := jn2 e | obtain rfl := jn1 e | cases e)
        obtain ⟨ad, had, rfl⟩ := go
        obtain ⟨a', o, ha, ho, ⟨kvs, hd, hf⟩, lo⟩ := S.getD q
        rw [had] at ha; (first | exact no1 ha | obtain ⟨rfl, rfl, rfl⟩ := jn3 ha | obtain ⟨rfl, rfl⟩ := jn2 ha | obtain rfl := jn1 ha | cases ha)
        obtain ⟨t, rfl⟩ := gi
        obtain ⟨t2, rfl⟩ := ga
        have S' := S
        obtain ⟨m, led, el, F, N, nd, LR, V⟩ := S'
        have hdl := led_at el N LR q had ho
        refine PySem.W.setItem_K PyProof.V.same_int (intKind_is _ _ _ _) (PyProof.V.Flat.int x t2) F N (updF_of hdl nd) hd hf (fun h' o' F' N' hd' hf' => ?_) (by rw [List.length_map, sizeLine_eq]; lia)
        refine hq () h' _ ι (StRel.set el nd LR V hdl F' N' ⟨_, hd', ?_⟩ fun _ _ => lo) (List.prefix_refl _) trivial
        have hp := putD_toD k x es
        unfold toD at hp
        rw [← hp]; exact hf'
      · (first | exact no1 e | obtain ⟨rfl, rfl, rfl⟩ := jn3 e | obtain ⟨rfl, rfl⟩ := jn2 e | obtain rfl := jn1 e | cases e)
    · (first | exact no1 e | obtain ⟨rfl, rfl, rfl⟩ := jn3 e | obtain ⟨rfl, rfl⟩ := jn2 e | obtain rfl := jn1 e | cases e)
  · (first | exact no1 e | obtain ⟨rfl, rfl, rfl⟩ := jn3 e | obtain ⟨rfl, rfl⟩ := jn2 e | obtain rfl := jn1 e | cases e)
noncomputable def isDctM (v : AV) : M Unit := fun _ H => match v with
  | .ref j => match H[j]? with
    | some (.idict _) => some ((), H)
    | _ => none
  | _ => none
theorem getGet_sound {pl : Sem Bool} (a : AV) (v : Value) : TT C (fun ι => VR ι a v) (getMethod v (Str.ofString "get") pl) (fun _ _ r => r = (.builtin "dict.get", [v])) (isDctM a) :=
  TT.here fun s hid ι lm H b H' S g e => by
    unfold isDctM at e
    split at e
    · rename_i j
      split at e
      · rename_i es q
        (first | exact no1 e | obtain ⟨rfl, rfl, rfl⟩ := jn3 e | obtain ⟨rfl, rfl⟩ := jn2 e | obtain rfl := jn1 e | cases e)
        obtain ⟨ad, had, rfl⟩ := g
        obtain ⟨a', o, ha, ho, ⟨kvs, hd, hf⟩, lo⟩ := S.getD q
        rw [had] at ha; (first | exact no1 ha | obtain ⟨rfl, rfl, rfl⟩ := jn3 ha | obtain ⟨rfl, rfl⟩ := jn2 ha | obtain rfl := jn1 ha | cases ha)
        exact ⟨rfl, fun Q hq => getMethod_intTab_get (TabAt.ofObj (by simpa using lo) ho hd hf) (hq _ s.toks rfl)⟩
      · (first | exact no1 e | obtain ⟨rfl, rfl, rfl⟩ := jn3 e | obtain ⟨rfl, rfl⟩ := jn2 e | obtain rfl := jn1 e | cases e)
    · (first | exact no1 e | obtain ⟨rfl, rfl, rfl⟩ := jn3 e | obtain ⟨rfl, rfl⟩ := jn2 e | obtain rfl := jn1 e | cases e)
noncomputable def getB : List AV → M AV
  | [.ref j, .int k, .int d] => fun _ H => match H[j]? with
    | some (.idict es) => some (.int ((lookI k es).getD d), H)
    | _ => none
  | _ => M.fail
theorem get_sound (as : List AV) (vs : List Value) : TT C (fun ι => VRs ι as vs) (call (.builtin "dict.get") vs) VR (getB as) :=
  TT.here fun s hid ι lm H b H' S g e => by
    unfold getB at e
    split at e
    · rename_i j k d
      obtain ⟨u, v, w, rfl, ⟨ad, had, rfl⟩, ⟨t, rfl⟩, ⟨t2, rfl⟩⟩ := g.three
      split at e
      · rename_i es q
        (first | exact no1 e | obtain ⟨rfl, rfl, rfl⟩ := jn3 e | obtain ⟨rfl, rfl⟩ := jn2 e | obtain rfl := jn1 e | cases e)
        obtain ⟨a', o, ha, ho, ⟨kvs, hd, hf⟩, lo⟩ := S.getD q
        rw [had] at ha; (first | exact no1 ha | obtain ⟨rfl, rfl, rfl⟩ := jn3 ha | obtain ⟨rfl, rfl⟩ := jn2 ha | obtain rfl := jn1 ha | cases ha)
        refine ⟨rfl, fun Q hq => call_get2_intTab (TabAt.ofObj (by simpa using lo) ho hd hf) (PyProof.V.Flat.int d t2) fun v hv => hq v _ ?_⟩
        have hl := lookup_toD k es
        unfold toD at hl
        rw [hl] at hv
        have e2 : ((lookI k es).map PyData.int).getD (PyData.int d) = PyData.int ((lookI k es).getD d) := by cases lookI k es <;> rfl
        rw [e2] at hv
        exact hv.int_inv
      · (first | exact no1 e | obtain ⟨rfl, rfl, rfl⟩ := jn3 e | obtain ⟨rfl, rfl⟩ := jn2 e | obtain rfl := jn1 e | cases e)
    · (first | exact no1 e | obtain ⟨rfl, rfl, rfl⟩ := jn3 e | obtain ⟨rfl, rfl⟩ := jn2 e | obtain rfl := jn1 e | cases e)
end
-- part R9
section
variable {C : Cx} {rm : Nat}

theorem tt_never {α β : Type} {Γ : List Addr → Prop} {t : Sem α} {R : List Addr → β → α → Prop} : TT C Γ t R (M.fail : M β) := fun hid s ι lm H b H' S g e Q hq => by (first | exact no1 e | obtain ⟨rfl, rfl, rfl⟩ := jn3 e | obtain ⟨rfl, rfl⟩ := jn2 e | obtain rfl := jn1 e | cases e)
theorem sall_never {op : BoolOp} {es : List Expr} : SAll C op es M.fail := tt_never
theorem ssx_never {sts : List Stmt} : SSs C sts (fun _ _ => none) := fun hid s ι lm H fl lm' H' S e Q hq => by (first | exact no1 e | obtain ⟨rfl, rfl, rfl⟩ := jn3 e | obtain ⟨rfl, rfl⟩ := jn2 e | obtain rfl := jn1 e | cases e)

-- chains of comparisons
noncomputable def TChain (C : Cx) (pos : Pos) (ops : List CmpOp) (rs : List (Sem Value)) (P : AV → M Bool) : Prop := ∀ a va, TT C (fun ι => VR ι a va) (testChain pos va ops rs) (fun _ b c => c = b) (P a)
theorem tch_last {pos : Pos} {op : CmpOp} {r : Expr} {P : M AV} {F : AV → AV → M AV} (h1 : SE C r P) (h : ∀ a b va vb, TT C (fun ι => VR ι a va ∧ VR ι b vb) (compareOp op va vb) VR (F a b)) :
    TChain C pos [op] (evalEach [r] C.env) (fun a => M.bind P fun b => M.bind (F a b) truM) := by
  intro a va hid s ι lm H v H' S g e Q hq
  obtain ⟨⟨b, H1⟩, e1, e⟩ := Option.bind_eq_some_iff.mp e
  obtain ⟨⟨c, H2⟩, e2, e⟩ := Option.bind_eq_some_iff.mp e
  refine test_last (h1 hid s ι lm H b H1 S trivial e1 _ fun vb h' tk' ι' S' p' rb => ?_)
  refine h a b va vb hid _ ι' lm H1 c H2 S' ⟨g.mono p', rb⟩ e2 _ fun vc h2 tk2 ι2 S2 p2 rc => ?_
  refine tru_sound hid _ ι2 lm H2 v H' S2 rc e _ fun vt h4 tk4 ι4 S4 p4 r4 => ?_
  exact hq vt h4 tk4 ι4 S4 ((p'.trans p2).trans p4) r4
theorem tch_link {pos : Pos} {op op' : CmpOp} {ops : List CmpOp} {r r' : Expr} {rs : List Expr} {P : M AV} {F : AV → AV → M AV} {G : AV → M Bool} (h1 : SE C r P) (h : ∀ a b va vb, TT C (fun ι => VR ι a va ∧ VR ι b vb) (compareOp op va vb) VR (F a b))
    (h2 : TChain C pos (op' :: ops) (evalEach (r' :: rs) C.env) G) : TChain C pos (op :: op' :: ops) (evalEach (r :: r' :: rs) C.env) (fun a => M.bind P fun b => M.bind (F a b) fun c => M.bind (truM c) fun t => if t = true then G b else M.pure false) := by
  intro a va hid s ι lm H v H' S g e Q hq
  obtain ⟨⟨b, H1⟩, e1, e⟩ := Option.bind_eq_some_iff.mp e
  obtain ⟨⟨c, H2⟩, e2, e⟩ := Option.bind_eq_some_iff.mp e
  obtain ⟨⟨t, H3⟩, e3, e⟩ := Option.bind_eq_some_iff.mp e
  refine test_link (h1 hid s ι lm H b H1 S trivial e1 _ fun vb h' tk' ι' S' p' rb => ?_)
  refine h a b va vb hid _ ι' lm H1 c H2 S' ⟨g.mono p', rb⟩ e2 _ fun vc h2' tk2 ι2 S2 p2 rc => ?_
  refine tru_sound hid _ ι2 lm H2 t H3 S2 rc e3 _ fun vt h3 tk3 ι3 S3 p3 r3 => ?_
  (first | exact no1 r3 | obtain ⟨rfl, rfl, rfl⟩ := jn3 r3 | obtain ⟨rfl, rfl⟩ := jn2 r3 | obtain rfl := jn1 r3 | cases r3)
  cases t with
  | true =>
    refine h2 b vb hid _ ι3 lm H3 v H' S3 ((rb.mono p2).mono p3) e _ fun vt h4 tk4 ι4 S4 p4 r4 => ?_
    exact hq vt h4 tk4 ι4 S4 (((p'.trans p2).trans p3).trans p4) r4
  | false => (first | exact no1 e | obtain ⟨rfl, rfl, rfl⟩ := jn3 e | obtain ⟨rfl, rfl⟩ := jn2 e | obtain rfl := jn1 e | cases e); exact hq _ h3 tk3 ι3 S3 ((p'.trans p2).trans p3) rfl
theorem sb_chain {l r₁ r₂ : Expr} {op₁ op₂ : CmpOp} {ops : List CmpOp} {rs : List Expr} {pos : Pos} {P : M AV} {G : AV → M Bool} (h1 : SE C l P) (h2 : TChain C pos (op₁ :: op₂ :: ops) (evalEach (r₁ :: r₂ :: rs) C.env) G)
    (hm : lastMarks (op₁ :: op₂ :: ops) (r₁ :: r₂ :: rs) = false) : SB C (.Compare l (op₁ :: op₂ :: ops) (r₁ :: r₂ :: rs) pos) (M.bind P G) := by
  intro hid s ι lm H v H' S _ e Q hq
  obtain ⟨⟨a, H1⟩, e1, e⟩ := Option.bind_eq_some_iff.mp e
  refine isTrue_chain (h1 hid s ι lm H a H1 S trivial e1 _ fun va h' tk' ι' S' p' ra => ?_) hm
  refine h2 a va hid _ ι' lm H1 v H' S' ra e _ fun vt h4 tk4 ι4 S4 p4 r4 => ?_
  exact hq vt h4 tk4 ι4 S4 (p'.trans p4) r4

-- // and +=
noncomputable def fdivM : AV → AV → M AV
  | .int a, .int b => if 0 < b ∧ b < 1073741824 then M.pure (.int (a.fdiv b)) else M.fail
  | _, _ => M.fail
theorem fdiv_sound (a b : AV) (va vb : Value) : TT C (fun ι => VR ι a va ∧ VR ι b vb) (binaryOp .FloorDiv va vb) VR (fdivM a b) :=
  TT.here fun s hid ι lm H r H' S g e => by
    cases a <;> cases b <;> first | ((first | exact no1 e | obtain ⟨rfl, rfl, rfl⟩ := jn3 e | obtain ⟨rfl, rfl⟩ := jn2 e | obtain rfl := jn1 e | cases e); done) | skip
    obtain ⟨⟨t, rfl⟩, ⟨u, rfl⟩⟩ := g
    rename_i a b
    have e' : (if 0 < b ∧ b < 1073741824 then (M.pure (.int (a.fdiv b)) : M AV) else M.fail) lm H = some (r, H') := e
    by_cases q : 0 < b ∧ b < 1073741824
    · rw [if_pos q] at e'
      (first | exact no1 e' | obtain ⟨rfl, rfl, rfl⟩ := jn3 e' | obtain ⟨rfl, rfl⟩ := jn2 e' | obtain rfl := jn1 e' | cases e')
      exact ⟨rfl, fun Q hq => floordiv_int (by lia) (hq _ _ ⟨_, rfl⟩) (.inl (PyProof.noPylong_small (by lia)))⟩
    · rw [if_neg q] at e'; (first | exact no1 e' | obtain ⟨rfl, rfl, rfl⟩ := jn3 e' | obtain ⟨rfl, rfl⟩ := jn2 e' | obtain rfl := jn1 e' | cases e')
theorem iadd_sound (a b : AV) (va vb : Value) : TT C (fun ι => VR ι a va ∧ VR ι b vb) (inplaceOp .Add va vb) VR (addM a b) :=
  TT.here fun s hid ι lm H r H' S g e => by
    cases a <;> cases b <;> first | ((first | exact no1 e | obtain ⟨rfl, rfl, rfl⟩ := jn3 e | obtain ⟨rfl, rfl⟩ := jn2 e | obtain rfl := jn1 e | cases e); done) | skip
    obtain ⟨⟨t, rfl⟩, ⟨u, rfl⟩⟩ := g
    (first | exact no1 e | obtain ⟨rfl, rfl, rfl⟩ := jn3 e | obtain ⟨rfl, rfl⟩ := jn2 e | obtain rfl := jn1 e | cases e)
    exact ⟨rfl, fun Q hq => iadd_int (hq _ _ ⟨_, rfl⟩)⟩
theorem tt_load_local (hC : C.Ok rm) {x : Str} (hx : C.env.kindOf x = some .local) : TT C (fun _ => True) (loadName C.env x) VR (ldV x) :=
  TT.here fun s hid ι lm H b H' S g e => by
    obtain ⟨a, ea, e'⟩ := Option.map_eq_some_iff.mp e
    (first | exact no1 e' | obtain ⟨rfl, rfl, rfl⟩ := jn3 e' | obtain ⟨rfl, rfl⟩ := jn2 e' | obtain rfl := jn1 e' | cases e')
    obtain ⟨mv, hn, hv⟩ := S.ns
    obtain ⟨v, ev, r⟩ := hv x _ ea
    exact ⟨rfl, fun Q hq => wpAny_loadName_local hC.ek hx hn ev (hq _ s.toks r)⟩

-- lists: + and *
noncomputable def catM (a b : AV) : M AV := M.bind (lstOf a) fun xs => M.bind (lstOf b) fun ys => if xs.length + ys.length ≤ 1000 then newO (.list (xs ++ ys)) else M.fail
theorem cat_sound (a b : AV) (va vb : Value) : TT C (fun ι => VR ι a va ∧ VR ι b vb) (binaryOp .Add va vb) VR (catM a b) := by
  intro hid s ι lm H r H' S g e Q hq
  obtain ⟨⟨xs, H1⟩, e1, e2⟩ := Option.bind_eq_some_iff.mp e
  obtain ⟨⟨ys, H2⟩, e3, e4⟩ := Option.bind_eq_some_iff.mp e2
  obtain ⟨rfl, i, rfl, q⟩ := lstOf_some e1
  obtain ⟨rfl, j, rfl, q2⟩ := lstOf_some e3
  dsimp only at e4
  have e5 : (if xs.length + ys.length ≤ 1000 then newO (.list (xs ++ ys)) else M.fail) lm H2 = some (r, H') := e4
  by_cases hk : xs.length + ys.length ≤ 1000
  · rw [if_pos hk] at e5
    (first | exact no1 e5 | obtain ⟨rfl, rfl, rfl⟩ := jn3 e5 | obtain ⟨rfl, rfl⟩ := jn2 e5 | obtain rfl := jn1 e5 | cases e5)
    obtain ⟨⟨ad, had, rfl⟩, ⟨bd, hbd, rfl⟩⟩ := g
    obtain ⟨a', o, ha, ho, vs, n, rfl, rr⟩ := S.get q
    rw [had] at ha; (first | exact no1 ha | obtain ⟨rfl, rfl, rfl⟩ := jn3 ha | obtain ⟨rfl, rfl⟩ := jn2 ha | obtain rfl := jn1 ha | cases ha)
    obtain ⟨b', o', hb, ho', ws, n', rfl, rr'⟩ := S.get q2
    rw [hbd] at hb; (first | exact no1 hb | obtain ⟨rfl, rfl, rfl⟩ := jn3 hb | obtain ⟨rfl, rfl⟩ := jn2 hb | obtain rfl := jn1 hb | cases hb)
    have S' := S
    obtain ⟨m, led, el, F, N, nd, LR, V⟩ := S'
    have l1 := rr.length
    have l2 := rr'.length
    refine add_arrays F N ⟨_, ho, rfl, n, rfl⟩ ⟨_, ho', rfl, n', rfl⟩ (fun h' F' N' => ?_) (by rw [List.size_toArray, List.size_toArray, ← l1, ← l2, sizeLine_eq]; lia)
    refine hq _ h' s.toks (ι ++ [s.heap.objs.size]) (StRel.alloc el nd LR V F' N' (fun p hp => Nat.ne_of_lt (Heap.lt_size (N p hp).1)) ⟨vs ++ ws, 0, rfl, (rr.append rr').mono (List.prefix_append _ _)⟩) (List.prefix_append _ _) ⟨_, ?_, rfl⟩
    rw [S.len, List.getElem?_concat_length]
  · rw [if_neg hk] at e5; (first | exact no1 e5 | obtain ⟨rfl, rfl, rfl⟩ := jn3 e5 | obtain ⟨rfl, rfl⟩ := jn2 e5 | obtain rfl := jn1 e5 | cases e5)
noncomputable def repL (xs : List AV) : Nat → List AV
  | 0 => []
  | n + 1 => xs ++ repL xs n
noncomputable def repM (a b : AV) : M AV := match b with
  | .int k => M.bind (lstOf a) fun xs => if 0 ≤ k ∧ k ≤ 1000 ∧ xs.length = 1 then newO (.list (repL xs k.toNat)) else M.fail
  | _ => M.fail
theorem foldl_rep {α : Type} (x : α) (n : Nat) : ∀ acc : Array α, List.foldl (fun x1 x2 => x1 ++ x2) acc (List.replicate n #[x]) = acc ++ (List.replicate n x).toArray := by
  induction n with
  | zero => intro acc; simp
  | succ n ih =>
    intro acc
    rw [List.replicate_succ, List.foldl_cons, ih, List.replicate_succ]
    apply Array.ext'
    simp
theorem VRs.rep {ι : List Addr} {a : AV} {v : Value} (h : VR ι a v) : ∀ n, VRs ι (repL [a] n) (List.replicate n v)
  | 0 => trivial
  | n + 1 => ⟨h, VRs.rep h n⟩
theorem repL_one (a : AV) : ∀ n, repL [a] n = List.replicate n a
  | 0 => rfl
  | n + 1 => by rw [List.replicate_succ, ← repL_one a n]; rfl
theorem rep_sound (a b : AV) (va vb : Value) : TT C (fun ι => VR ι a va ∧ VR ι b vb) (binaryOp .Mult va vb) VR (repM a b) := by
  intro hid s ι lm H r H' S g e Q hq
  unfold repM at e
  split at e
  · rename_i k
    obtain ⟨⟨xs, H1⟩, e1, e2⟩ := Option.bind_eq_some_iff.mp e
    obtain ⟨rfl, i, rfl, q⟩ := lstOf_some e1
    dsimp only at e2
    have e3 : (if 0 ≤ k ∧ k ≤ 1000 ∧ xs.length = 1 then newO (.list (repL xs k.toNat)) else M.fail) lm H1 = some (r, H') := e2
    by_cases hk : 0 ≤ k ∧ k ≤ 1000 ∧ xs.length = 1
    · rw [if_pos hk] at e3
      (first | exact no1 e3 | obtain ⟨rfl, rfl, rfl⟩ := jn3 e3 | obtain ⟨rfl, rfl⟩ := jn2 e3 | obtain rfl := jn1 e3 | cases e3)
      obtain ⟨⟨ad, had, rfl⟩, ⟨t, rfl⟩⟩ := g
      obtain ⟨a', o, ha, ho, vs, n, rfl, rr⟩ := S.get q
      rw [had] at ha; (first | exact no1 ha | obtain ⟨rfl, rfl, rfl⟩ := jn3 ha | obtain ⟨rfl, rfl⟩ := jn2 ha | obtain rfl := jn1 ha | cases ha)
      obtain ⟨h1, h2, h3⟩ := hk
      obtain ⟨x, rfl⟩ := len_one h3
      obtain ⟨v, rfl, rx⟩ := rr.one
      have S' := S
      obtain ⟨m, led, el, F, N, nd, LR, V⟩ := S'
      refine mul_list F N (items := #[v]) (k := n) ho (by lia) (by lia) (by simp; lia) fun h' F' N' => ?_
      have e6 : (List.foldl (fun x1 x2 => x1 ++ x2) #[] (List.replicate (if (#[v] : Array Value).isEmpty = true then 0 else k.toNat) #[v])) = (List.replicate k.toNat v).toArray := by
        rw [if_neg (by simp), foldl_rep]; simp
      rw [e6] at N'
      refine hq _ h' s.toks (ι ++ [s.heap.objs.size]) (StRel.alloc el nd LR V F' N' (fun p hp => Nat.ne_of_lt (Heap.lt_size (N p hp).1)) ⟨List.replicate k.toNat v, 0, rfl, (VRs.rep rx _).mono (List.prefix_append _ _)⟩) (List.prefix_append _ _) ⟨_, ?_, rfl⟩
      rw [S.len, List.getElem?_concat_length]
    · rw [if_neg hk] at e3; (first | exact no1 e3 | obtain ⟨rfl, rfl, rfl⟩ := jn3 e3 | obtain ⟨rfl, rfl⟩ := jn2 e3 | obtain rfl := jn1 e3 | cases e3)
  · (first | exact no1 e | obtain ⟨rfl, rfl, rfl⟩ := jn3 e | obtain ⟨rfl, rfl⟩ := jn2 e | obtain rfl := jn1 e | cases e)

-- slices
noncomputable def SPart (C : Cx) (x : Option Expr) (P : M (Option Int)) : Prop := TT C (fun _ => True) (evalPart x C.env) (fun _ o v => IsPart v o) P
theorem spart_none : SPart C none (M.pure none) := TT.pure fun _ _ => .none
noncomputable def intP : AV → M (Option Int)
  | .int i => M.pure (some i)
  | _ => M.fail
theorem spart_some {e : Expr} {P : M AV} (h : SE C e P) : SPart C (some e) (M.bind P intP) := by
  intro hid s ι lm H v H' S _ e' Q hq
  obtain ⟨⟨a, H1⟩, e1, e2⟩ := Option.bind_eq_some_iff.mp e'
  refine h hid s ι lm H a H1 S trivial e1 _ fun va h' tk' ι' S' p' ra => ?_
  cases a <;> first | ((first | exact no1 e2 | obtain ⟨rfl, rfl, rfl⟩ := jn3 e2 | obtain ⟨rfl, rfl⟩ := jn2 e2 | obtain rfl := jn1 e2 | cases e2); done) | skip
  obtain ⟨t, rfl⟩ := ra
  (first | exact no1 e2 | obtain ⟨rfl, rfl, rfl⟩ := jn3 e2 | obtain ⟨rfl, rfl⟩ := jn2 e2 | obtain rfl := jn1 e2 | cases e2)
  exact hq _ h' tk' ι' S' p' (.int _ _)
noncomputable def cutB (b : List UInt8) (lo hi : Option Int) : List UInt8 := (b.drop (lo.elim 0 (clipAt b.length))).take (hi.elim b.length (clipAt b.length) - lo.elim 0 (clipAt b.length))
noncomputable def cutM (lo hi : Option Int) : AV → M AV
  | .bytes b => if b.length ≤ 1000 then M.pure (.bytes (cutB b lo hi)) else M.fail
  | _ => M.fail
theorem se_cut {e : Expr} {lower upper : Option Expr} {p pos : Pos} {P : M AV} {Pl Pu : M (Option Int)} (h : SE C e P) (hl : SPart C lower Pl) (hu : SPart C upper Pu)
    (hs : ∀ o i, subscripted (.Slice lower upper none p) false o i = operate [i, o] (getItem o i)) (ht : ∀ b t r, letTemporaryGo e (.bytes b t) r = pure ()) :
    SE C (.Subscript e (.Slice lower upper none p) pos) (M.bind P fun v => M.bind Pl fun lo => M.bind Pu fun hi => cutM lo hi v) := by
  intro hid s ι lm H v H' S _ e' Q hq
  obtain ⟨⟨a, H1⟩, e1, e2⟩ := Option.bind_eq_some_iff.mp e'
  obtain ⟨⟨lo, H2⟩, e3, e4⟩ := Option.bind_eq_some_iff.mp e2
  obtain ⟨⟨hi, H3⟩, e5, e6⟩ := Option.bind_eq_some_iff.mp e4
  dsimp only at e3 e4 e5 e6
  cases a <;> first | ((first | exact no1 e6 | obtain ⟨rfl, rfl, rfl⟩ := jn3 e6 | obtain ⟨rfl, rfl⟩ := jn2 e6 | obtain rfl := jn1 e6 | cases e6); done) | skip
  rename_i b
  have e7 : (if b.length ≤ 1000 then (M.pure (.bytes (cutB b lo hi)) : M AV) else M.fail) lm H3 = some (v, H') := e6
  by_cases hk : b.length ≤ 1000
  · rw [if_pos hk] at e7
    (first | exact no1 e7 | obtain ⟨rfl, rfl, rfl⟩ := jn3 e7 | obtain ⟨rfl, rfl⟩ := jn2 e7 | obtain rfl := jn1 e7 | cases e7)
    refine Subscript_ (h hid s ι lm H _ H1 S trivial e1 _ fun va h' tk' ι' S' p' ra => ?_)
    obtain ⟨t, rfl⟩ := ra
    refine wpAny_Slice (hl hid _ ι' lm H1 lo H2 S' trivial e3 _ fun vl h2 tk2 ι2 S2 p2 rl => ?_)
    refine hu hid _ ι2 lm H2 hi _ S2 trivial e5 _ fun vu h3 tk3 ι3 S3 p3 ru => ?_
    rw [evalPart_none]
    refine wpAny_pure ?_
    have S4 := S3
    obtain ⟨m, led, el, F, N, nd, LR, V⟩ := S4
    refine KBc.slice_K (s := { s with heap := h3, toks := tk3 }) F N rfl rl ru (by rw [KBw.ints_length, List.size_toArray]; lia) (fun h4 t4 k4 F4 N4 _ => ?_) (hs _ _) (ht _ _)
    refine hq _ h4 k4 ι3 (StRel.reF el nd LR V F4 N4) ((p'.trans p2).trans p3) ⟨t4, ?_⟩
    rw [KBc.picked_eq]
    simp [cutB]
  · rw [if_neg hk] at e7; (first | exact no1 e7 | obtain ⟨rfl, rfl, rfl⟩ := jn3 e7 | obtain ⟨rfl, rfl⟩ := jn2 e7 | obtain rfl := jn1 e7 | cases e7)
noncomputable def revM (k v : AV) : M AV := match k with
  | .int k => if k = -1 then M.bind (lstOf v) fun xs => if xs.length ≤ 1000 then newO (.list xs.reverse) else M.fail else M.fail
  | _ => M.fail
theorem se_rev {e st : Expr} {p pos : Pos} {P Ps : M AV} (h : SE C e P) (hst : SE C st Ps)
    (hs : ∀ o i, subscripted (.Slice none none (some st) p) false o i = operate [o, i] (getItem o i)) (ht : ∀ a r, letTemporaryGo e (.ref a) r = pure ()) :
    SE C (.Subscript e (.Slice none none (some st) p) pos) (M.bind P fun v => M.bind Ps fun k => revM k v) := by
  intro hid s ι lm H v H' S _ e' Q hq
  obtain ⟨⟨a, H1⟩, e1, e2⟩ := Option.bind_eq_some_iff.mp e'
  obtain ⟨⟨k, H2⟩, e3, e4⟩ := Option.bind_eq_some_iff.mp e2
  dsimp only at e3 e4
  cases k <;> first | ((first | exact no1 e4 | obtain ⟨rfl, rfl, rfl⟩ := jn3 e4 | obtain ⟨rfl, rfl⟩ := jn2 e4 | obtain rfl := jn1 e4 | cases e4); done) | skip
  rename_i k
  have e4 : (if k = -1 then M.bind (lstOf a) fun xs => if xs.length ≤ 1000 then newO (.list xs.reverse) else M.fail else M.fail) lm H2 = some (v, H') := e4
  by_cases hk1 : k = -1
  · rw [if_pos hk1] at e4
    subst hk1
    obtain ⟨⟨xs, H3⟩, e5, e6⟩ := Option.bind_eq_some_iff.mp e4
    obtain ⟨rfl, i, rfl, q⟩ := lstOf_some e5
    have e7 : (if xs.length ≤ 1000 then newO (.list xs.reverse) else M.fail) lm _ = some (v, H') := e6
    by_cases hk : xs.length ≤ 1000
    · rw [if_pos hk] at e7
      (first | exact no1 e7 | obtain ⟨rfl, rfl, rfl⟩ := jn3 e7 | obtain ⟨rfl, rfl⟩ := jn2 e7 | obtain rfl := jn1 e7 | cases e7)
      refine Subscript_ (h hid s ι lm H _ H1 S trivial e1 _ fun va h' tk' ι' S' p' ra => ?_)
      refine wpAny_Slice ?_
      rw [evalPart_none]
      refine wpAny_pure ?_
      refine wpAny_pure ?_
      rw [evalPart_some]
      refine hst hid _ ι' lm H1 _ _ S' trivial e3 _ fun vk h2 tk2 ι2 S2 p2 rk => ?_
      obtain ⟨t, rfl⟩ := rk
      obtain ⟨ad, had, rfl⟩ := ra
      have had := pre_get p2 had
      obtain ⟨a', o, ha, ho, vs, n, rfl, r⟩ := S2.get q
      rw [had] at ha; (first | exact no1 ha | obtain ⟨rfl, rfl, rfl⟩ := jn3 ha | obtain ⟨rfl, rfl⟩ := jn2 ha | obtain rfl := jn1 ha | cases ha)
      have S4 := S2
      obtain ⟨m, led, el, F, N, nd, LR, V⟩ := S4
      have hl := r.length
      refine krv_lit (s := { s with heap := h2, toks := tk2 }) (zs := vs.reverse) F N ⟨_, ho, rfl, n, rfl⟩ (.int _ t) (by simp) (fun D h4 F4 N4 l4 => ?_) (hs _ _) (ht _) (by rw [List.size_toArray, ← hl, sizeLine_eq]; lia)
      refine hq _ h4 tk2 (ι2 ++ [D]) (StRel.alloc el nd LR V F4 N4 (fun p hp => Nat.ne_of_lt (l4 p hp)) ⟨vs.reverse, 0, rfl, r.reverse.mono (List.prefix_append _ _)⟩) ((p'.trans p2).trans (List.prefix_append _ _)) ⟨_, ?_, rfl⟩
      rw [S2.len, List.getElem?_concat_length]
    · rw [if_neg hk] at e7; (first | exact no1 e7 | obtain ⟨rfl, rfl, rfl⟩ := jn3 e7 | obtain ⟨rfl, rfl⟩ := jn2 e7 | obtain rfl := jn1 e7 | cases e7)
  · rw [if_neg hk1] at e4; (first | exact no1 e4 | obtain ⟨rfl, rfl, rfl⟩ := jn3 e4 | obtain ⟨rfl, rfl⟩ := jn2 e4 | obtain rfl := jn1 e4 | cases e4)
end
-- part R10
section
variable {C : Cx} {rm : Nat}

-- bytes(..)
theorem bb_look : typeLookup (.type "bytes") "__bytes__" = pure (some (.builtin "bytes.__bytes__")) := by rw [typeLookup_type, builtinLookup_eq_fast]; kernel_rfl
theorem bb_new {prog : Program} {w : World} {A : Around} {E : Value → Shared → Prop} {s : Shared} {b : Array UInt8} {t : Tok} {Q : Value → Shared → Prop} (hQ : Q (.bytes b t) s) :
    codeAny (model prog w) A (.call (.builtin "bytes.__new__") ⟨[.type "bytes", .bytes b t], []⟩) (wants Q E) s := by
  refine codeAny_of_tree ?_
  show wpAny _ A.in1 (do checkBuiltinCall "bytes.__new__" ⟨[.type "bytes", .bytes b t], []⟩; again (.builtin "bytes.__new__" ⟨[.type "bytes", .bytes b t], []⟩)) _ _ s
  refine wpAny_bind (wpAny_of_eq (F.bm_newCall _) (wpAny_pure ⟨plainId_quiet F.bm_plain _, codeAny_builtin F.bm_entry ?_⟩))
  rw [Around.under_plainId F.bm_plain _]
  unfold Builtin.«bytes.__new__»
  refine wpAny_bind (wpAny_of_eq (a := true) rfl ?_)
  refine bm_if_false rfl ?_
  refine wpAny_bind (wpAny_of_eq F.bm_sub ?_)
  refine bm_if_false rfl ?_
  refine wpAny_bind (wpAny_of_eq (F.bm_bind _) ?_)
  refine wpAny_bind (wpAny_of_eq (a := ()) rfl ?_)
  refine wpAny_bind (wpAny_of_eq (a := ()) rfl ?_)
  refine bm_if_false rfl ?_
  refine wpAny_bind (wpAny_specialOf (PySem.W.typeIs_bytes _ _ _) bb_look ?_)
  dsimp only
  refine wpAny_bind (wpAny_rule ?_)
  refine wpAny_bind (wpAny_typeOf (PySem.W.typeIs_bytes _ _ _) ?_)
  refine bm_if_true (by decide) ?_
  show wpAny _ _ (if (Value.type "bytes" == Value.type "bytes") = true then _ else _) _ _ _
  refine bm_if_true (by decide) ?_
  first
    | exact wpAny_pure hQ
    | exact wpAny_bind (wpAny_pure (wpAny_pure hQ))
theorem call_bytes_bytes {prog : Program} {w : World} {A : Around} {E : Value → Shared → Prop} {s : Shared} {b : Array UInt8} {t : Tok} {Q : Value → Shared → Prop} (hQ : Q (.bytes b t) s) :
    wpAny (model prog w) A (call (.type "bytes") [.bytes b t]) Q E s := by
  refine callType_codes (Q₁ := fun obj s₁ => s₁.TypeIs obj "bytes" ∧ Q obj s₁) F.bm_called (F.bm_typeCall _) F.entry_object_init
    (bb_new ⟨PySem.W.typeIs_bytes _ _ _, hQ⟩) fun obj s₁ h₁ => ?_
  exact ⟨h₁.1, F.args_object_init_2 obj _, object_init_meets F.bm_called.init.lookup F.bm_called.made (by decide) prog w A.in1 _ s₁ ⟨h₁.1, rfl, h₁.2⟩⟩
noncomputable def bytesB : List AV → M AV
  | [.bytes b] => M.pure (.bytes b)
  | [v] => M.bind (lstOf v) fun xs => match intsOf xs with
    | some ns => if (∀ n ∈ ns, 0 ≤ n ∧ n < 256) ∧ ns.length ≤ 1000 then M.pure (.bytes (ns.map fun n => n.toNat.toUInt8)) else M.fail
    | none => M.fail
  | _ => M.fail
theorem bytes_sound (hC : C.Ok rm) (as : List AV) (vs : List Value) : TT C (fun ι => VRs ι as vs) (call (.type "bytes") vs) VR (bytesB as) := by
  intro hid s ι lm H b H' S g e Q hq
  unfold bytesB at e
  split at e
  · obtain ⟨v, rfl, t, rfl⟩ := g.one
    (first | exact no1 e | obtain ⟨rfl, rfl, rfl⟩ := jn3 e | obtain ⟨rfl, rfl⟩ := jn2 e | obtain rfl := jn1 e | cases e)
    exact call_bytes_bytes (hq _ s.heap s.toks ι S (List.prefix_refl _) ⟨_, rfl⟩)
  · obtain ⟨⟨xs, H1⟩, e1, e2⟩ := Option.bind_eq_some_iff.mp e
    obtain ⟨rfl, i, rfl, q⟩ := lstOf_some e1
    obtain ⟨v, rfl, ad, had, rfl⟩ := g.one
    obtain ⟨a', o, ha, ho, vs, n, rfl, r⟩ := S.get q
    rw [had] at ha; (first | exact no1 ha | obtain ⟨rfl, rfl, rfl⟩ := jn3 ha | obtain ⟨rfl, rfl⟩ := jn2 ha | obtain rfl := jn1 ha | cases ha)
    dsimp only at e2
    cases hns : intsOf xs with
    | none => rw [hns] at e2; (first | exact no1 e2 | obtain ⟨rfl, rfl, rfl⟩ := jn3 e2 | obtain ⟨rfl, rfl⟩ := jn2 e2 | obtain rfl := jn1 e2 | cases e2)
    | some ns =>
      rw [hns] at e2
      have e3 : (if (∀ n ∈ ns, 0 ≤ n ∧ n < 256) ∧ ns.length ≤ 1000 then (M.pure (.bytes (ns.map fun n => n.toNat.toUInt8)) : M AV) else M.fail) lm H1 = some (b, H') := e2
      by_cases hk : (∀ n ∈ ns, 0 ≤ n ∧ n < 256) ∧ ns.length ≤ 1000
      · rw [if_pos hk] at e3
        (first | exact no1 e3 | obtain ⟨rfl, rfl, rfl⟩ := jn3 e3 | obtain ⟨rfl, rfl⟩ := jn2 e3 | obtain rfl := jn1 e3 | cases e3)
        have hi := intsOf_sound r hns
        refine call_bytes_ints ⟨_, ho, rfl, n, rfl⟩ hi hk.1 (by rw [hi.length, sizeLine_eq]; lia) hC.hd fun h' t k hk' => ?_
        exact hq _ h' k ι (S.keeps hk') (List.prefix_refl _) ⟨_, rfl⟩
      · rw [if_neg hk] at e3; (first | exact no1 e3 | obtain ⟨rfl, rfl, rfl⟩ := jn3 e3 | obtain ⟨rfl, rfl⟩ := jn2 e3 | obtain rfl := jn1 e3 | cases e3)
  · (first | exact no1 e | obtain ⟨rfl, rfl, rfl⟩ := jn3 e | obtain ⟨rfl, rfl⟩ := jn2 e | obtain rfl := jn1 e | cases e)

-- sum of the script
noncomputable def sumB (l : Addr) (ns : List Int) : List AV → M AV
  | [.con (.ref a)] => if a = l then M.pure (.int ns.sum) else M.fail
  | _ => M.fail
theorem sum_sound (hC : C.Ok rm) {l : Addr} {ws : List Value} {ns : List Int} (hl : C.h₀.IsList l ws.toArray) (hi : IntsAre ws ns) (as : List AV) (vs : List Value) : TT C (fun ι => VRs ι as vs) (call (.builtin "sum") vs) VR (sumB l ns as) := by
  intro hid s ι lm H b H' S g e Q hq
  unfold sumB at e
  split at e
  · rename_i a
    obtain ⟨v, rfl, hv⟩ := g.one
    (first | exact no1 hv | obtain ⟨rfl, rfl, rfl⟩ := jn3 hv | obtain ⟨rfl, rfl⟩ := jn2 hv | obtain rfl := jn1 hv | cases hv)
    have e3 : (if a = l then (M.pure (.int ns.sum) : M AV) else M.fail) lm H = some (b, H') := e
    by_cases hk : a = l
    · rw [if_pos hk] at e3
      (first | exact no1 e3 | obtain ⟨rfl, rfl, rfl⟩ := jn3 e3 | obtain ⟨rfl, rfl⟩ := jn2 e3 | obtain rfl := jn1 e3 | cases e3)
      subst hk
      have S' := S
      obtain ⟨m, led, el, F, N, nd, LR, V⟩ := S'
      obtain ⟨o, ho, r⟩ := hl
      exact sumK hC.hd F N ⟨o, F.keep _ _ ho, r⟩ hi fun h' tk t' F' N' => hq _ h' tk ι (StRel.reF el nd LR V F' N') (List.prefix_refl _) ⟨_, rfl⟩
    · rw [if_neg hk] at e3; (first | exact no1 e3 | obtain ⟨rfl, rfl, rfl⟩ := jn3 e3 | obtain ⟨rfl, rfl⟩ := jn2 e3 | obtain rfl := jn1 e3 | cases e3)
  · (first | exact no1 e | obtain ⟨rfl, rfl, rfl⟩ := jn3 e | obtain ⟨rfl, rfl⟩ := jn2 e | obtain rfl := jn1 e | cases e)

-- lists of tuples of ints
noncomputable def tupI (H : AH) : AV → Option (List Int)
  | .ref i => match H[i]? with
    | some (.tup xs) => intsOf xs
    | _ => none
  | _ => none
noncomputable def tupsI (H : AH) : List AV → Option (List (List Int))
  | [] => some []
  | a :: r => (tupI H a).bind fun x => (tupsI H r).map (x :: ·)
noncomputable def stepsOf (v : AV) : M (List (List Int)) := fun _ H => match v with
  | .ref i => match H[i]? with
    | some (.list xs) => (tupsI H xs).map fun r => (r, H)
    | _ => none
  | _ => none
noncomputable def neM (a b : AV) : M AV := M.bind (stepsOf a) fun x => M.bind (stepsOf b) fun y => M.pure (.bool (!decide (x = y)))
noncomputable def toPD (x : List (List Int)) : List PyData := x.map fun t => .tuple (t.map PyData.int)
theorem reads_ints {h : Heap} : ∀ {vs : List Value} {ns : List Int}, IntsAre vs ns → ReadsAll h vs (ns.map PyData.int) []
  | _, _, .nil => .nil
  | _, _, .cons i t r => .cons (as := []) (.int _ _) (reads_ints r)
theorem reads_tups {C : Cx} {hid : List (Addr × Obj)} {lm : Loc} {H : AH} {ι : List Addr} {h : Heap} (S : StRel C hid lm H ι h) : ∀ {xs : List AV} {vs : List Value} {r : List (List Int)}, VRs ι xs vs → tupsI H xs = some r → ReadsAll h vs (toPD r) []
  | [], [], _, _, e => by (first | exact no1 e | obtain ⟨rfl, rfl, rfl⟩ := jn3 e | obtain ⟨rfl, rfl⟩ := jn2 e | obtain rfl := jn1 e | cases e); exact .nil
  | a :: xs, v :: vs, r, ⟨ra, rr⟩, e => by
    obtain ⟨x, e1, e2⟩ := Option.bind_eq_some_iff.mp e
    obtain ⟨y, e3, rfl⟩ := Option.map_eq_some_iff.mp e2
    refine .cons (as := []) ?_ (reads_tups S rr e3)
    unfold tupI at e1
    split at e1
    · split at e1
      · rename_i q
        obtain ⟨ad, had, rfl⟩ := ra
        obtain ⟨a', o, ha, ho, hc, vs', n, hd, r'⟩ := S.get q
        rw [had] at ha; (first | exact no1 ha | obtain ⟨rfl, rfl, rfl⟩ := jn3 ha | obtain ⟨rfl, rfl⟩ := jn2 ha | obtain rfl := jn1 ha | cases ha)
        exact reads_tuple_at ho hc hd (by simpa using reads_ints (intsOf_sound r' e1))
      · (first | exact no1 e1 | obtain ⟨rfl, rfl, rfl⟩ := jn3 e1 | obtain ⟨rfl, rfl⟩ := jn2 e1 | obtain rfl := jn1 e1 | cases e1)
    · (first | exact no1 e1 | obtain ⟨rfl, rfl, rfl⟩ := jn3 e1 | obtain ⟨rfl, rfl⟩ := jn2 e1 | obtain rfl := jn1 e1 | cases e1)
  | [], _ :: _, _, h, _ => h.elim
  | _ :: _, [], _, h, _ => h.elim
theorem pd_lay : ∀ x : List (List Int), PyData.canLayAll0 (toPD x) = true
  | [] => rfl
  | t :: r => by
    show PyData.canLayAll0 (.tuple (t.map PyData.int) :: toPD r) = true
    simp [PyData.canLayAll0, PyData.canLay0, ke_canLayAll0, pd_lay r]
theorem pd_depth : ∀ x : List (List Int), PyData.depthAll (toPD x) ≤ 1
  | [] => by simp [toPD, PyData.depthAll]
  | t :: r => by
    have ih := pd_depth r
    show PyData.depthAll (.tuple (t.map PyData.int) :: toPD r) ≤ 1
    simp [PyData.depthAll, PyData.depth, ke_depthAll]
    lia
theorem pd_eqv : ∀ x y : List (List Int), PyData.eqvAll (toPD x) (toPD y) = decide (x = y)
  | [], [] => by simp [toPD, PyData.eqvAll]
  | [], _ :: _ => by simp [toPD, PyData.eqvAll]
  | _ :: _, [] => by simp [toPD, PyData.eqvAll]
  | a :: r, b :: t => by
    show PyData.eqvAll (.tuple (a.map PyData.int) :: toPD r) (.tuple (b.map PyData.int) :: toPD t) = _
    simp only [PyData.eqvAll, PyData.eqv, ked_eqvAll, pd_eqv r t]
    by_cases h : a = b <;> by_cases h' : r = t <;> simp [h, h']
theorem pd_shaped (x : List (List Int)) : SeqAt.shaped (.list (toPD x)) = true := by
  have := pd_depth x
  simp [SeqAt.shaped, PyData.canLay0, PyData.depth, pd_lay]
  lia
theorem stepsOf_some {v : AV} {lm : Loc} {H H' : AH} {x : List (List Int)} (e : stepsOf v lm H = some (x, H')) : H' = H ∧ ∃ i xs, v = .ref i ∧ H[i]? = some (.list xs) ∧ tupsI H xs = some x := by
  unfold stepsOf at e
  split at e
  · split at e
    · rename_i q
      obtain ⟨r, h1, h2⟩ := Option.map_eq_some_iff.mp e
      (first | exact no1 h2 | obtain ⟨rfl, rfl, rfl⟩ := jn3 h2 | obtain ⟨rfl, rfl⟩ := jn2 h2 | obtain rfl := jn1 h2 | cases h2)
      exact ⟨rfl, _, _, rfl, q, h1⟩
    · (first | exact no1 e | obtain ⟨rfl, rfl, rfl⟩ := jn3 e | obtain ⟨rfl, rfl⟩ := jn2 e | obtain rfl := jn1 e | cases e)
  · (first | exact no1 e | obtain ⟨rfl, rfl, rfl⟩ := jn3 e | obtain ⟨rfl, rfl⟩ := jn2 e | obtain rfl := jn1 e | cases e)
theorem ne_sound (hC : C.Ok (rm + 2)) (a b : AV) (va vb : Value) : TT C (fun ι => VR ι a va ∧ VR ι b vb) (compareOp .NotEq va vb) VR (neM a b) :=
  TT.here fun s hid ι lm H v H' S g e => by
    obtain ⟨⟨x, H1⟩, e1, e2⟩ := Option.bind_eq_some_iff.mp e
    obtain ⟨⟨y, H2⟩, e3, e4⟩ := Option.bind_eq_some_iff.mp e2
    obtain ⟨rfl, i, xs, rfl, q, t1⟩ := stepsOf_some e1
    obtain ⟨rfl, j, ys, rfl, q2, t2⟩ := stepsOf_some e3
    (first | exact no1 e4 | obtain ⟨rfl, rfl, rfl⟩ := jn3 e4 | obtain ⟨rfl, rfl⟩ := jn2 e4 | obtain rfl := jn1 e4 | cases e4)
    obtain ⟨⟨ad, had, rfl⟩, ⟨bd, hbd, rfl⟩⟩ := g
    obtain ⟨a', o, ha, ho, vs, n, rfl, rr⟩ := S.get q
    rw [had] at ha; (first | exact no1 ha | obtain ⟨rfl, rfl, rfl⟩ := jn3 ha | obtain ⟨rfl, rfl⟩ := jn2 ha | obtain rfl := jn1 ha | cases ha)
    obtain ⟨b', o', hb, ho', ws, n', rfl, rr'⟩ := S.get q2
    rw [hbd] at hb; (first | exact no1 hb | obtain ⟨rfl, rfl, rfl⟩ := jn3 hb | obtain ⟨rfl, rfl⟩ := jn2 hb | obtain rfl := jn1 hb | cases hb)
    refine ⟨rfl, fun Q hq => ne_dataH (reads_list_at ho rfl rfl (by simpa using reads_tups S rr t1)) (reads_list_at ho' rfl rfl (by simpa using reads_tups S rr' t2)) (pd_shaped _) (pd_shaped _) (by have := hC.units; lia) ?_⟩
    have e5 : PyData.eqv (.list (toPD x)) (.list (toPD y)) = decide (x = y) := by
      rw [PyData.eqv]; exact pd_eqv x y
    rw [e5]
    exact hq _ s.toks rfl
end
-- part R11
section
variable {C : Cx} {rm : Nat}

abbrev mkComp (C : Cx) (scope : Scope) (cl : List (Str × Addr)) (V : Addr) (m0 : Str → Option Value) : Cx := { C with env := compEnvC scope cl V C.env, comp := some (V, m0) }
theorem mkComp_ok (hC : C.Ok rm) {scope : Scope} {cl : List (Str × Addr)} {V : Addr} {m0 : Str → Option Value} (hk : scope.kind = .function) : (mkComp C scope cl V m0).Ok rm :=
  { fr := hC.fr, hd := hC.hd, B := hC.B, X := hC.X, T := hC.T, ff := hC.ff, fk := hC.fk, ek := hk, eg := hC.eg, eb := hC.eb, room := hC.room, units := hC.units }

theorem StRel.swap {hid : List (Addr × Obj)} {lm : Loc} {H : AH} {ι : List Addr} {h : Heap} {p q : Addr × Obj} (S : StRel C (p :: q :: hid) lm H ι h) (hc : C.comp = none) : StRel C (q :: p :: hid) lm H ι h := by
  obtain ⟨m, led, el, F, N, nd, LR, ⟨⟨mv, h1, h2⟩, h3⟩⟩ := S
  rw [hc] at h1
  have pm : (led ++ q :: p :: hid).Perm (led ++ p :: q :: hid) := List.Perm.append_left _ (List.Perm.swap _ _ _)
  refine ⟨m, led, el, F, fun r hr => N r (pm.mem_iff.mp hr), ?_, LR, ⟨⟨mv, by rw [hc]; exact h1, h2⟩, h3⟩⟩
  exact (List.Perm.nodup_iff (List.Perm.map _ pm)).mpr nd
theorem StRel.toComp {hid : List (Addr × Obj)} {lm l' : Loc} {H : AH} {ι : List Addr} {h : Heap} {V : Addr} {oV : Obj} {mV : Str → Option Value} {scope : Scope} {cl : List (Str × Addr)} (S : StRel C ((V, oV) :: hid) lm H ι h) (hc : C.comp = none)
    (ns : ∀ h : Heap, h.get? V = some oV → h.Ns V mV) (hv : ∀ x av, l'.v x = some av → ∃ v, mV x = some v ∧ VR ι av v) (hcl : ∀ x i, l'.c x = some i → lm.c x = some i ∧ cl.lookup x = C.env.cells.lookup x) :
    ∃ m0, StRel (mkComp C scope cl V m0) ((V, oV) :: hid) l' H ι h ∧ ∀ H2 ι2 h2, ι <+: ι2 → StRel (mkComp C scope cl V m0) ((V, oV) :: hid) l' H2 ι2 h2 → StRel C ((V, oV) :: hid) lm H2 ι2 h2 := by
  obtain ⟨m, led, el, F, N, nd, LR, ⟨⟨mv, h1, h2⟩, h3⟩⟩ := S
  rw [hc] at h1
  refine ⟨m, ⟨m, led, el, F, N, nd, LR, ⟨⟨mV, ⟨rfl, rfl, oV, .head _, ns⟩, hv⟩, fun x i e => ?_⟩⟩, fun H2 ι2 h2' pre S2 => ?_⟩
  · obtain ⟨e1, e2⟩ := hcl x i e
    obtain ⟨c, a, b⟩ := h3 x i e1
    exact ⟨c, e2.trans a, b⟩
  · obtain ⟨m2, led2, el2, F2, N2, nd2, LR2, ⟨⟨mv2, ⟨e, _, _⟩, _⟩, _⟩⟩ := S2
    subst e
    refine ⟨m2, led2, el2, F2, N2, nd2, LR2, ?_⟩
    refine VarsR.mono pre (ι := ι) ⟨⟨mv, by rw [hc]; exact h1, h2⟩, h3⟩

abbrev testsT (ifs : List Expr) (env : Env) : Sem Bool := forIn ifs true fun c r => if r = true then do let ok ← isTrue c env (eval c env); pure (ForInStep.yield ok) else pure (ForInStep.yield r)
noncomputable def STests (C : Cx) (ifs : List Expr) (T : M Bool) : Prop := TT C (fun _ => True) (testsT ifs C.env) (fun _ b c => c = b) T
theorem stests_nil : STests C [] (M.pure true) := fun hid s ι lm H b H' S g e Q hq => by
  (first | exact no1 e | obtain ⟨rfl, rfl, rfl⟩ := jn3 e | obtain ⟨rfl, rfl⟩ := jn2 e | obtain rfl := jn1 e | cases e)
  exact wpAny_tests_nil (hq _ s.heap s.toks ι S (List.prefix_refl _) rfl)
theorem stests_one {c : Expr} {T : M Bool} (h : SB C c T) : STests C [c] T := fun hid s ι lm H b H' S g e Q hq => wpAny_tests_one (h hid s ι lm H b H' S g e Q hq)

noncomputable def updL (l : Loc) (x : Str) (a : AV) : Loc := { l with v := fun y => if y = x then some a else l.v y }
noncomputable def compM (src : Src) (x : Str) (T : M Bool) (E : M AV) (d : Nat) : Nat → Nat → Loc → AH → Option AH
  | 0, _ => fun _ _ => none
  | n + 1, k => fun l H => (src.item k H).bind fun r => match r with
    | none => some H
    | some a => (T (updL l x a) H).bind fun t => if t.1 = true then (E (updL l x a) t.2).bind fun y => (appB [.ref d, y.1] (updL l x a) y.2).bind fun z => compM src x T E d n (k + 1) (updL l x a) z.2
      else compM src x T E d n (k + 1) (updL l x a) t.2

inductive CInv (C : Cx) (cl : List (Str × Addr)) (hid : List (Addr × Obj)) (s0 : Shared) (ι0 : List Addr) (lm : Loc) (H' : AH) (src : Src) (I V : Addr) (d : Nat) (x : Str) (T : M Bool) (E : M AV) (n : Nat) (s : Shared) : Prop where
  | mk (k : Nat) (l : Loc) (H : AH) (ι : List Addr) (oI oV : Obj) (mV : Str → Option Value) (S : StRel C ((I, oI) :: (V, oV) :: hid) lm H ι s.heap) (pre : ι0 <+: ι) (it : ItR ι src k oI) (ns : ∀ h : Heap, h.get? V = some oV → h.Ns V mV)
      (hv : ∀ x av, l.v x = some av → ∃ v, mV x = some v ∧ VR ι av v) (hcl : ∀ x i, l.c x = some i → lm.c x = some i ∧ cl.lookup x = C.env.cells.lookup x) (e : compM src x T E d n k l H = some H') (h : Heap) (tk : Nat) (q : s = { s0 with heap := h, toks := tk })
theorem comp_loop (hC : C.Fn rm) {elt iter : Expr} {x : Str} {px : Pos} {ifs : List Expr} {scope : Scope} {cl : List (Str × Addr)} {pos : Pos} {T : M Bool} {E : M AV} {src : Src} {I V : Addr} {d : Nat} {ad : Addr} {lm : Loc} (hk : scope.kind = .function) (hx : scope.names.lookup x = some .local)
    (hT : ∀ V m0, STests (mkComp C scope cl V m0) ifs T) (hE : ∀ V m0, SE (mkComp C scope cl V m0) elt E) {hid : List (Addr × Obj)} {s0 : Shared} {ι0 : List Addr} {H' : AH} {R : Result → Shared → Prop} (hd : ι0[d]? = some ad)
    (hq : ∀ h' tk ι' oV mV, StRel C ((V, oV) :: hid) lm H' ι' h' → ι0 <+: ι' → (∀ h : Heap, h.get? V = some oV → h.Ns V mV) → R (.ok .next) { s0 with heap := h', toks := tk }) (n : Nat) (s : Shared)
    (h : CInv C cl hid s0 ι0 lm H' src I V d x T E n s) :
    codeAny (model C.st.prog C.st.w) C.A (.compLoop (.ListComp elt [⟨.Name x px, iter, ifs, 0⟩] scope pos) 0 (.ref I) (.ref ad) (compEnvC scope cl V C.env)) R s := by
  refine codeAny_compLoop_tests (fun n s => CInv C cl hid s0 ι0 lm H' src I V d x T E n s) ?_ n h
  rintro n s ⟨k, l, H, ι, oI, oV, mV, S, pre, it, ns, hv, hcl, e, h0, tk0, rfl⟩
  cases n with
  | zero => (first | exact no1 e | obtain ⟨rfl, rfl, rfl⟩ := jn3 e | obtain ⟨rfl, rfl⟩ := jn2 e | obtain rfl := jn1 e | cases e)
  | succ n =>
    obtain ⟨r, e1, e2⟩ := Option.bind_eq_some_iff.mp e
    cases r with
    | none =>
      (first | exact no1 e2 | obtain ⟨rfl, rfl, rfl⟩ := jn3 e2 | obtain ⟨rfl, rfl⟩ := jn2 e2 | obtain rfl := jn1 e2 | cases e2)
      refine wpAny_mono (next_end_sound hC S it e1 (Q := fun r s₁ => r = none ∧ R (.ok .next) s₁) fun h' S' => ⟨rfl, hq h' _ ι _ mV S' pre ns⟩) (fun r s₁ hr => ?_) fun _ _ x => x.elim
      obtain ⟨rfl, hr⟩ := hr
      exact hr
    | some a =>
      obtain ⟨⟨t, H1⟩, e3, e4⟩ := Option.bind_eq_some_iff.mp e2
      refine wpAny_mono (next_item_sound hC S it e1 (Q := fun r s₁ => ∃ v o' h' tk, r = some v ∧ s₁ = { s0 with heap := h', toks := tk } ∧ StRel C ((I, o') :: (V, oV) :: hid) lm H ι h' ∧ ItR ι src (k + 1) o' ∧ VR ι a v) fun v o' h' tk S' it' rv => ⟨v, o', h', tk, rfl, rfl, S', it', rv⟩) (fun r s₁ hr => ?_) fun _ _ x => x.elim
      obtain ⟨v, oI', h', tk, rfl, rfl, S1, it', rv⟩ := hr
      have S1 := S1.swap hC.nc
      have nsh := ns h' S1.hidObj
      refine wpAny_assign_Name (wpAny_storeName_local (m := mV) (by exact lookup_relabel_local hx) nsh (fun h2 hn2 hs2 => ?_) (by
        show ((relabel scope C.env).kind == .class || ((relabel scope C.env).kind == .module && _)) = false
        rw [show (relabel scope C.env).kind = .function from hk]; rfl))
      dsimp only at hn2 hs2 ⊢
      obtain ⟨oV2, es, ep, ho2, rest⟩ := id hn2
      have ns2 : ∀ h : Heap, h.get? V = some oV2 → h.Ns V (fun y => if y = x then some v else mV y) := fun h e => hn2.at' fun o eo => by
        have : some o = some oV2 := eo.symm.trans ho2
        (first | exact no1 this | obtain ⟨rfl, rfl, rfl⟩ := jn3 this | obtain ⟨rfl, rfl⟩ := jn2 this | obtain rfl := jn1 this | cases this); exact e
      have S2 := S1.hidChange hC.nc hs2 ho2
      have hv2 : ∀ y av, (updL l x a).v y = some av → ∃ w, (fun y => if y = x then some v else mV y) y = some w ∧ VR ι av w := by
        intro y av ey
        have ey : (if y = x then some a else l.v y) = some av := ey
        dsimp only
        by_cases q : y = x
        · rw [if_pos q] at ey ⊢
          (first | exact no1 ey | obtain ⟨rfl, rfl, rfl⟩ := jn3 ey | obtain ⟨rfl, rfl⟩ := jn2 ey | obtain rfl := jn1 ey | cases ey)
          exact ⟨v, rfl, rv⟩
        · rw [if_neg q] at ey ⊢
          exact hv y av ey
      obtain ⟨m0, S3, back⟩ := S2.toComp (scope := scope) (cl := cl) (l' := updL l x a) hC.nc ns2 hv2 hcl
      refine wpAny_mono (hT V m0 ((V, oV2) :: (I, oI') :: hid) { s0 with heap := h2, toks := tk + 1 } ι (updL l x a) H t H1 S3 trivial e3 (fun b s₃ => ∃ h3 tk3 ι3, b = t ∧ s₃ = { s0 with heap := h3, toks := tk3 } ∧ StRel (mkComp C scope cl V m0) ((V, oV2) :: (I, oI') :: hid) (updL l x a) H1 ι3 h3 ∧ ι <+: ι3) fun b h3 tk3 ι3 S4 p4 r4 => ⟨h3, tk3, ι3, r4, rfl, S4, p4⟩) (fun b s₃ hs₃ => ?_) fun _ _ x => x.elim
      obtain ⟨h3, tk3, ι3, rfl, rfl, S4, p4⟩ := hs₃
      have mono : ∀ ι4, ι <+: ι4 → ∀ y av, (updL l x a).v y = some av → ∃ w, (fun y => if y = x then some v else mV y) y = some w ∧ VR ι4 av w := fun ι4 p y av ey => by
        obtain ⟨w, h1, h2⟩ := hv2 y av ey
        exact ⟨w, h1, h2.mono p⟩
      cases b with
      | false =>
        have e5 : compM src x T E d n (k + 1) (updL l x a) H1 = some H' := e4
        exact ⟨n, Nat.lt_succ_self _, k + 1, updL l x a, H1, ι3, oI', oV2, _, (back _ _ _ p4 S4).swap hC.nc, pre.trans p4, it'.mono p4, ns2, mono _ p4, hcl, e5, h3, tk3, rfl⟩
      | true =>
        obtain ⟨⟨y, H2⟩, e5, e6⟩ := Option.bind_eq_some_iff.mp e4
        obtain ⟨⟨z, H3⟩, e7, e8⟩ := Option.bind_eq_some_iff.mp e6
        refine wpAny_mono (hE V m0 ((V, oV2) :: (I, oI') :: hid) { s0 with heap := h3, toks := tk3 } ι3 (updL l x a) H1 y H2 S4 trivial e5 (fun w s₃ => ∃ h5 tk5 ι5, s₃ = { s0 with heap := h5, toks := tk5 } ∧ StRel (mkComp C scope cl V m0) ((V, oV2) :: (I, oI') :: hid) (updL l x a) H2 ι5 h5 ∧ ι3 <+: ι5 ∧ VR ι5 y w) fun b h3 tk3 ι3 S4 p4 r4 => ⟨h3, tk3, ι3, rfl, S4, p4, r4⟩) (fun w s₃ hs₃ => ?_) fun _ _ x => x.elim
        obtain ⟨h5, tk5, ι5, rfl, S5, p5, ry⟩ := hs₃
        have had : ι5[d]? = some ad := pre_get ((pre.trans p4).trans p5) hd
        refine wpAny_mono (app_sound [.ref d, y] [.ref ad, w] ((V, oV2) :: (I, oI') :: hid) { s0 with heap := h5, toks := tk5 } ι5 (updL l x a) H2 z H3 S5 ⟨⟨ad, had, rfl⟩, ry, trivial⟩ e7 (fun w s₃ => ∃ h5 tk5 ι6, s₃ = { s0 with heap := h5, toks := tk5 } ∧ StRel (mkComp C scope cl V m0) ((V, oV2) :: (I, oI') :: hid) (updL l x a) H3 ι6 h5 ∧ ι5 <+: ι6) fun b h3 tk3 ι3 S4 p4 r4 => ⟨h3, tk3, ι3, rfl, S4, p4⟩) (fun w s₃ hs₃ => ?_) fun _ _ x => x.elim
        obtain ⟨h6, tk6, ι6, rfl, S6, p6⟩ := hs₃
        have pp := (p4.trans p5).trans p6
        exact ⟨n, Nat.lt_succ_self _, k + 1, updL l x a, H3, ι6, oI', oV2, _, (back _ _ _ pp S6).swap hC.nc, pre.trans pp, it'.mono pp, ns2, mono _ pp, hcl, e8, h6, tk6, rfl⟩
noncomputable def compE (x : Str) (fr : List Str) (P : M AV) (T : M Bool) (E : M AV) : M AV := M.bind P fun v lm H => (srcOf v H).bind fun src =>
  (compM src x T E H.length 64 0 ⟨fun _ => none, fun y => if y ∈ fr then lm.c y else none⟩ (H ++ [.list []])).map fun H' => (.ref H.length, H')
theorem iter_self {src : Src} {hid : List (Addr × Obj)} {s : Shared} {ι : List Addr} {lm : Loc} {H : AH} {I : Addr} {o : Obj} {Q : Value → Shared → Prop} {k : Nat} (S : StRel C ((I, o) :: hid) lm H ι s.heap) (it : ItR ι src k o) (hq : Q (.ref I) s) {E : Value → Shared → Prop} :
    wpAny (model C.st.prog C.st.w) C.A (pyIter (.ref I)) Q E s := by
  have hI := S.hidObj
  cases src with
  | lst j =>
    obtain ⟨al, hal, hcls, hdat⟩ := it
    exact wpAny_pyIter_listiter ⟨o, hI, hcls, hdat⟩ hq
  | rng a b c =>
    exact wpAny_pyIter_rangeiter (hI.trans (congrArg some it)) hq
  | byt b =>
    obtain ⟨t, hcls, hdat⟩ := it
    exact KBw.pyIter_self ⟨o, hI, hcls, hdat⟩ hq
theorem se_comp (hC : C.Fn rm) {elt iter : Expr} {x : Str} {px : Pos} {ifs : List Expr} {scope : Scope} {pos : Pos} {P : M AV} {T : M Bool} {E : M AV} {fr : List Str} {cl : List (Str × Addr)} (hclos : closureFor scope C.env = pure cl) (hfr : ∀ x ∈ fr, cl.lookup x = C.env.cells.lookup x)
    (hcell : ∀ y ∈ scope.names, y.2 ≠ .cell) (hkind : scope.kind = .function) (hnames : ∀ y ∈ scope.names, y.2 = .local → scope.names.lookup y.1 = some .local) (hx : scope.names.lookup x = some .local)
    (h : SE C iter P) (hT : ∀ V m0, STests (mkComp C scope cl V m0) ifs T) (hE : ∀ V m0, SE (mkComp C scope cl V m0) elt E) (hs : ∀ x, foldedSetIterable iter C.env x = pure x) :
    SE C (.ListComp elt [⟨.Name x px, iter, ifs, 0⟩] scope pos) (compE x fr P T E) := by
  intro hid s ι lm H v H' S _ e Q hq
  obtain ⟨⟨a, H1⟩, e1, e2⟩ := Option.bind_eq_some_iff.mp e
  obtain ⟨src, e3, e4⟩ := Option.bind_eq_some_iff.mp e2
  obtain ⟨H2, e5, e6⟩ := Option.map_eq_some_iff.mp e4
  (first | exact no1 e6 | obtain ⟨rfl, rfl, rfl⟩ := jn3 e6 | obtain ⟨rfl, rfl⟩ := jn2 e6 | obtain rfl := jn1 e6 | cases e6)
  dsimp only at e3 e5
  rw [eval_ListComp]
  refine wpAny_comprehension_free (use := none) rfl hs hclos hkind hnames ?_
  refine h hid s ι lm H a H1 S trivial e1 _ fun va h' tk' ι' S' p' ra => ?_
  refine iter_sound hC (s := { s with heap := h', toks := tk' }) S' ra e3 fun I o h2 S2 it2 => ?_
  refine newList_sound (C := C) (xs := []) (vs := []) (Nat.zero_le _) ((I, o) :: hid) { s with heap := h2, toks := tk' } ι' lm H1 (.ref H1.length) (H1 ++ [.list []]) S2 trivial rfl _ fun acc h3 tk3 ι3 S3 p3 r3 => ?_
  obtain ⟨ad, had, rfl⟩ := r3
  refine wpAny_newFunctionEnv hcell (by intro y hy; simp at hy) (fun h₁ hns₁ hsb₁ => ?_) hkind
  dsimp only at hns₁ hsb₁ ⊢
  obtain ⟨oV2, es, ep, ho2, rest⟩ := id hns₁
  have S4 := S3.hidPush hC.nc (o := { cls := .type "dict", data := .dict #[] }) rfl
  have S5 := (S4.hidChange hC.nc hsb₁ ho2).swap hC.nc
  have ns2 : ∀ h : Heap, h.get? h3.objs.size = some oV2 → h.Ns h3.objs.size (fun x => ([] : List (Str × Value)).reverse.lookup x) := fun h e => hns₁.at' fun o eo => by
    have : some o = some oV2 := eo.symm.trans ho2
    (first | exact no1 this | obtain ⟨rfl, rfl, rfl⟩ := jn3 this | obtain ⟨rfl, rfl⟩ := jn2 this | obtain rfl := jn1 this | cases this); exact e
  have loop : ∀ s₃ : Shared, s₃ = { s with heap := h₁, toks := tk3 + ([] : List (Str × Value)).length } →
      codeAny (model C.st.prog C.st.w) C.A (.compLoop (.ListComp elt [⟨.Name x px, iter, ifs, 0⟩] scope pos) 0 (.ref I) (.ref ad) (compEnvC scope cl h3.objs.size C.env))
        (fun r s' => compPost (model C.st.prog C.st.w) C.A (fun _ _ => False) none Q (.ref ad) h3.objs.size r s') s₃ := by
    rintro s₃ rfl
    refine comp_loop hC hkind hx hT hE (hid := hid) (s0 := s) (ι0 := ι3) (H' := H') had (fun h4 tk4 ι4 oV mV S6 p6 ns6 => ?_) 64 _ ⟨0, ⟨fun _ => none, fun y => if y ∈ fr then lm.c y else none⟩, H1 ++ [.list []], ι3, o, oV2, _, S5, List.prefix_refl _, it2.mono p3, ns2, (fun x av ex => by (first | exact no1 ex | obtain ⟨rfl, rfl, rfl⟩ := jn3 ex | obtain ⟨rfl, rfl⟩ := jn2 ex | obtain rfl := jn1 ex | cases ex)), fun y i ey => ?_, e5, h₁, _, rfl⟩
    · refine ⟨mV, ns6 _ S6.hidObj, fun h5 hs5 => ?_⟩
      exact hq _ h5 tk4 ι4 (S6.hidDrop hC.nc hs5.extBut) ((p'.trans p3).trans p6) ⟨ad, pre_get p6 had, rfl⟩
    · dsimp only at ey
      by_cases q : y ∈ fr
      · rw [if_pos q] at ey; exact ⟨ey, hfr y q⟩
      · rw [if_neg q] at ey; (first | exact no1 ey | obtain ⟨rfl, rfl, rfl⟩ := jn3 ey | obtain ⟨rfl, rfl⟩ := jn2 ey | obtain rfl := jn1 ey | cases ey)
  exact codeAny_compStart_list (loop _ rfl) (iter_self S5 (it2.mono p3) (loop _ rfl))
end
-- part R12

theorem cellsFrom_ok : ∀ (names : List (Str × NameKind)) (n k : Nat) (acc : List (Str × Addr)), k ≤ n → (acc.map (·.2)).Nodup → (∀ a ∈ acc.map (·.2), k ≤ a ∧ a < n) →
    ((cellsFrom n names acc).map (·.2)).Nodup ∧ ∀ a ∈ (cellsFrom n names acc).map (·.2), k ≤ a
  | [], n, k, acc, _, nd, h => ⟨nd, fun a ha => (h a ha).1⟩
  | (x, kind) :: r, n, k, acc, hk, nd, h => by
    unfold cellsFrom
    split
    · refine cellsFrom_ok r (n + 1) k ((x, n) :: acc) (by lia) ?_ ?_
      · rw [List.map_cons]
        exact List.nodup_cons.mpr ⟨fun q => Nat.lt_irrefl _ (h n q).2, nd⟩
      · intro a ha
        rw [List.map_cons] at ha
        rcases List.mem_cons.mp ha with rfl | ha
        · exact ⟨hk, Nat.lt_succ_self _⟩
        · exact ⟨(h a ha).1, Nat.lt_succ_of_lt (h a ha).2⟩
    · exact cellsFrom_ok r n k acc hk nd h
theorem cellsAre_addr {cm : Str → Option Value} : ∀ {cs : List (Str × Addr)} {cells : List (Addr × Obj)}, CellsAre cm cs cells → cells.map (·.1) = cs.map (·.2)
  | _, _, .nil => rfl
  | _, _, .cons h r => by rw [List.map_cons, List.map_cons, cellsAre_addr r]
theorem cellsAre_get {cm : Str → Option Value} : ∀ {cs : List (Str × Addr)} {cells : List (Addr × Obj)}, CellsAre cm cs cells → ∀ (j : Nat) (n : Str) (c : Addr), cs[j]? = some (n, c) → ∃ o, cells[j]? = some (c, o) ∧ o.data = .cell (cm n)
  | _, _, .nil, _, _, _, e => by (first | exact no1 e | obtain ⟨rfl, rfl, rfl⟩ := jn3 e | obtain ⟨rfl, rfl⟩ := jn2 e | obtain rfl := jn1 e | cases e)
  | _, _, .cons h r, 0, n, c, e => by (first | exact no1 e | obtain ⟨rfl, rfl, rfl⟩ := jn3 e | obtain ⟨rfl, rfl⟩ := jn2 e | obtain rfl := jn1 e | cases e); exact ⟨_, rfl, h⟩
  | _, _, .cons h r, j + 1, n, c, e => cellsAre_get r j n c e
theorem bindC_of {k : Str → Option NameKind} : ∀ {bs : List (Str × Value)} (m : Str → Option Value), (bs.map (·.1)).Nodup → ∀ x, k x ≠ some .local → bindC k bs m x = (bs.lookup x).or (m x)
  | [], m, _, x, _ => rfl
  | (n, v) :: r, m, nd, x, hx => by
    have nd' := List.nodup_cons.mp nd
    unfold bindC
    rw [bindC_of _ nd'.2 x hx, List.lookup_cons]
    by_cases q : x = n
    · subst q
      have hn : r.lookup x = none := by
        cases hh : r.lookup x with
        | none => rfl
        | some b =>
          exfalso
          apply nd'.1
          have : ∀ (r : List (Str × Value)) (b : Value), r.lookup x = some b → x ∈ r.map (·.1) := by
            intro r
            induction r with
            | nil => intro b h; (first | exact no1 h | obtain ⟨rfl, rfl, rfl⟩ := jn3 h | obtain ⟨rfl, rfl⟩ := jn2 h | obtain rfl := jn1 h | cases h)
            | cons y ys ih2 =>
              intro b h
              rw [List.lookup_cons] at h
              cases q2 : x == y.1 with
              | true => rw [List.map_cons]; rw [show x = y.1 by simpa using q2]; exact .head _
              | false => rw [q2] at h; exact .tail _ (ih2 b h)
          exact this r b hh
      rw [hn, if_neg hx]
      simp
    · have q2 : (x == n) = false := by simpa using q
      rw [q2]
      by_cases q3 : k n = some .local
      · rw [if_pos q3]
      · rw [if_neg q3]; simp [q]
theorem bindL_of {k : Str → Option NameKind} : ∀ {bs : List (Str × Value)} (m : Str → Option Value), (bs.map (·.1)).Nodup → ∀ x, k x = some .local → bindL k bs m x = (bs.lookup x).or (m x)
  | [], m, _, x, _ => rfl
  | (n, v) :: r, m, nd, x, hx => by
    have nd' := List.nodup_cons.mp nd
    unfold bindL
    rw [bindL_of _ nd'.2 x hx, List.lookup_cons]
    by_cases q : x = n
    · subst q
      have hn : r.lookup x = none := by
        cases hh : r.lookup x with
        | none => rfl
        | some b =>
          exfalso
          apply nd'.1
          have : ∀ (r : List (Str × Value)) (b : Value), r.lookup x = some b → x ∈ r.map (·.1) := by
            intro r
            induction r with
            | nil => intro b h; (first | exact no1 h | obtain ⟨rfl, rfl, rfl⟩ := jn3 h | obtain ⟨rfl, rfl⟩ := jn2 h | obtain rfl := jn1 h | cases h)
            | cons y ys ih2 =>
              intro b h
              rw [List.lookup_cons] at h
              cases q2 : x == y.1 with
              | true => rw [List.map_cons]; rw [show x = y.1 by simpa using q2]; exact .head _
              | false => rw [q2] at h; exact .tail _ (ih2 b h)
          exact this r b hh
      rw [hn, if_pos hx]
      simp
    · have q2 : (x == n) = false := by simpa using q
      rw [q2]
      by_cases q3 : k n = some .local
      · rw [if_pos q3]; simp [q]
      · rw [if_neg q3]
noncomputable def ixOf : List Str → Nat → Str → Option Nat
  | [], _, _ => none
  | y :: r, k, x => if x = y then some k else ixOf r (k + 1) x
theorem ixOf_some : ∀ {cn : List Str} {k i : Nat} {x : Str}, ixOf cn k x = some i → ∃ j, i = k + j ∧ cn[j]? = some x ∧ x ∈ cn
  | [], _, _, _, e => by (first | exact no1 e | obtain ⟨rfl, rfl, rfl⟩ := jn3 e | obtain ⟨rfl, rfl⟩ := jn2 e | obtain rfl := jn1 e | cases e)
  | y :: r, k, i, x, e => by
    unfold ixOf at e
    split at e
    · rename_i q
      (first | exact no1 e | obtain ⟨rfl, rfl, rfl⟩ := jn3 e | obtain ⟨rfl, rfl⟩ := jn2 e | obtain rfl := jn1 e | cases e)
      exact ⟨0, rfl, by rw [q]; rfl, by rw [q]; exact .head _⟩
    · obtain ⟨j, rfl, h2, h3⟩ := ixOf_some e
      exact ⟨j + 1, by lia, h2, .tail _ h3⟩
theorem lookup_at : ∀ {cs : List (Str × Addr)} {j : Nat} {x : Str}, (cs.map (·.1)).Nodup → (cs.map (·.1))[j]? = some x → ∃ c, cs.lookup x = some c ∧ cs[j]? = some (x, c)
  | [], _, _, _, e => by simp at e
  | (n, c) :: r, 0, x, _, e => by
    (first | exact no1 e | obtain ⟨rfl, rfl, rfl⟩ := jn3 e | obtain ⟨rfl, rfl⟩ := jn2 e | obtain rfl := jn1 e | cases e)
    exact ⟨c, by simp [], rfl⟩
  | (n, c) :: r, j + 1, x, nd, e => by
    have nd' := List.nodup_cons.mp nd
    have e' : (r.map (·.1))[j]? = some x := e
    obtain ⟨c', h1, h2⟩ := lookup_at nd'.2 e'
    refine ⟨c', ?_, h2⟩
    have : x ≠ n := fun q => nd'.1 (q ▸ List.mem_of_getElem? e')
    rw [List.lookup_cons, show (x == n) = false by simpa using this]
    exact h1
noncomputable def locOfC (bs : List (Str × AV)) (cn : List Str) (k : Nat) : Loc := ⟨fun x => if x ∈ cn then none else bs.lookup x, ixOf cn k⟩
theorem fs_cells {S : Stc} {f : Addr} {rm n : Nat} {name qual : Str} {params : Arguments} {body : List Stmt} {scope : Scope} {dV kV doc pm cdv ct oc : Value} {an od : Option Addr} {osl : Array (Option Value)}
    {xs cn : List Str} {dv : List AV} {P : SM}
    (ho : S.K.lookup f = some ⟨oc, od, .func (fnOf name qual params body scope dV kV doc pm an cdv ct), osl⟩) (hcd : codeIn S.K cdv qual = true)
    (hb : ∀ (s : Shared) vs, S.K.In s.heap → vs.length = n → ∃ ws, VRs [] dv ws ∧ BindsTo s (fnOf name qual params body scope dV kV doc pm an cdv ct) ⟨vs, []⟩ (xs.zip (vs ++ ws)))
    (hnd : xs.Nodup) (hloc : ∀ x ∈ xs, scope.names.lookup x = some .local ∨ (scope.names.lookup x = some .cell ∧ x ∈ cn)) (hcn : ∀ k, (cellsFrom k scope.names []).map (·.1) = cn) (hcnd : cn.Nodup) (hck : ∀ x ∈ cn, scope.names.lookup x ≠ some .local)
    (hk : scope.kind = .function) (hco : scope.isCoroutine = false) (hgen : scope.isGenerator = false)
    (hbody : ∀ A A₀ base h₀ outer L, (mkC S A A₀ base h₀ outer L qual scope f cdv (cellsFrom (L + 1) scope.names [])).Fn rm → SSs (mkC S A A₀ base h₀ outer L qual scope f cdv (cellsFrom (L + 1) scope.names [])) body P) :
    FS S f (rm + 1) (fun as H => if as.length = n then runB P (locOfC (xs.zip (as ++ dv)) cn H.length) (H ++ cn.map fun x => .cell ((xs.zip (as ++ dv)).lookup x)) else none) := by
  intro C hid s ι lm H as vs v H' hs hC St g e Q hq
  have e : (if as.length = n then runB P (locOfC (xs.zip (as ++ dv)) cn H.length) (H ++ cn.map fun x => .cell ((xs.zip (as ++ dv)).lookup x)) else none) = some (v, H') := e
  split at e
  · rename_i hn
    have Sx := St.keepX hC
    obtain ⟨ws, rw_, hbind⟩ := hb s vs (hs ▸ Sx) (g.length ▸ hn)
    have rall : VRs ι (as ++ dv) (vs ++ ws) := g.append (rw_.mono List.nil_prefix)
    have hlen := St.len
    have St' := St
    obtain ⟨m, led, el, F, N, nd, LR, V⟩ := St'
    subst hs
    have isS : ∀ k, ∀ x ∈ cn, ((cellsFrom k scope.names []).lookup x).isSome = true := fun k x hx => by
      rw [← hcn k] at hx
      obtain ⟨j, hj⟩ := List.getElem?_of_mem hx
      obtain ⟨c, h1, _⟩ := lookup_at (by rw [hcn k]; exact hcnd) hj
      rw [h1]; rfl
    refine callX_cells hC.B F N hC.T.nolimit hC.fr hC.ff hC.fk (Sx _ _ ho) rfl (codeRec_of Sx hcd) (by have := hC.room; lia) hbind (fun k y hy => ?_) (by rw [hcn]; exact hcnd) (fun g' L' h₁ tk cells FG F' N' Y B' st hlt => ?_) hco hgen hk
    · rcases hloc _ (zip_fst_sub _ _ _ hy) with q | ⟨q1, q2⟩
      · exact .inl q
      · exact .inr ⟨q1, isS k _ q2⟩
    · have OK := callee_ok (L' := L') (qual := qual) (scope := scope) (f := f) (cd := cdv) (cl := cellsFrom (L' + 1) scope.names []) rfl hC B' st hk
      unfold runB at e
      have hca := cellsAre_addr Y
      have hcl := cellsFrom_ok scope.names (L' + 1) (L' + 1) [] (Nat.le_refl _) List.nodup_nil (fun a ha => by (first | exact no1 ha | obtain ⟨rfl, rfl, rfl⟩ := jn3 ha | obtain ⟨rfl, rfl⟩ := jn2 ha | obtain rfl := jn1 ha | cases ha))
      rw [← hca] at hcl
      have lenC : cells.length = cn.length := by
        have h1 := congrArg List.length hca
        have h2 := congrArg List.length (hcn (L' + 1))
        simp only [List.length_map] at h1 h2
        lia
      have pre : ι <+: ι ++ cells.map (·.1) := List.prefix_append _ _
      have zn : (((xs.zip (vs ++ ws))).map (·.1)).Nodup := zip_nodup _ hnd
      have rel : StRel (mkC C.st (C.A.deeper (envX qual scope L' f cdv (cellsFrom (L' + 1) scope.names []))) C.A C.base g' (C.fenv :: C.outer) L' qual scope f cdv (cellsFrom (L' + 1) scope.names [])) hid (locOfC (xs.zip (as ++ dv)) cn H.length) (H ++ cn.map fun x => .cell ((xs.zip (as ++ dv)).lookup x)) (ι ++ cells.map (·.1)) h₁ := by
        refine ⟨_, led ++ cells, by rw [List.map_append, el], F', fun p hp => ?_, ?_, ⟨?_, ?_⟩, ⟨⟨_, ⟨rfl, rfl⟩, fun x av ex => ?_⟩, fun x i ex => ?_⟩⟩
        · refine N' p ?_
          rcases List.mem_append.mp hp with q | q
          · rcases List.mem_append.mp q with q | q
            · exact List.mem_append_right _ (List.mem_append_left _ q)
            · exact List.mem_append_left _ q
          · exact List.mem_append_right _ (List.mem_append_right _ q)
        · have pm : ((led ++ cells) ++ hid).Perm (cells ++ (led ++ hid)) := by
            rw [List.append_assoc]
            exact List.perm_append_comm_assoc led cells hid
          refine (List.Perm.nodup_iff (List.Perm.map _ pm)).mpr ?_
          rw [List.map_append]
          refine List.nodup_append.mpr ⟨hcl.1, nd, fun a ha b hb' => ?_⟩
          obtain ⟨p, hp, rfl⟩ := List.mem_map.mp hb'
          have h1 := hcl.2 a ha
          have h2 := hlt p hp
          exact Nat.ne_of_gt (Nat.lt_of_lt_of_le h2 (Nat.le_of_succ_le h1))
        · rw [List.length_append, List.length_append, LR.1, List.length_map, lenC]
        · intro i ao p e1 e2
          by_cases q : i < H.length
          · rw [List.getElem?_append_left q] at e1
            rw [List.getElem?_append_left (LR.1 ▸ q)] at e2
            exact ⟨(LR.2 i ao p e1 e2).1.mono pre, (LR.2 i ao p e1 e2).2⟩
          · have q' : H.length ≤ i := Nat.le_of_not_lt q
            rw [List.getElem?_append_right q'] at e1
            rw [List.getElem?_append_right (LR.1 ▸ q')] at e2
            rw [← LR.1] at e2
            generalize i - H.length = j at e1 e2
            rw [List.getElem?_map] at e1
            obtain ⟨x, hx, rfl⟩ := Option.map_eq_some_iff.mp e1
            have hx' := hx
            rw [← hcn (L' + 1)] at hx'
            obtain ⟨c, h1, h2⟩ := lookup_at (by rw [hcn]; exact hcnd) hx'
            obtain ⟨o, h3, h4⟩ := cellsAre_get Y j x c h2
            rw [h3] at e2
            (first | exact no1 e2 | obtain ⟨rfl, rfl, rfl⟩ := jn3 e2 | obtain ⟨rfl, rfl⟩ := jn2 e2 | obtain rfl := jn1 e2 | cases e2)
            refine ⟨⟨_, h4, ?_⟩, fun es h => by cases h⟩
            have hxm : x ∈ cn := List.mem_of_getElem? hx
            rw [bindC_of _ zn x (hck x hxm)]
            cases ea : (xs.zip (as ++ dv)).lookup x with
            | some av =>
              obtain ⟨w, h5, h6⟩ := lookup_zip rall ea
              rw [h5]
              exact h6.mono pre
            | none =>
              have hnone : (xs.zip (vs ++ ws)).lookup x = none := by
                have gen : ∀ (xs : List Str) (as : List AV) (vs : List Value), as.length = vs.length → (xs.zip as).lookup x = none → (xs.zip vs).lookup x = none := by
                  intro xs
                  induction xs with
                  | nil => intro _ _ _ _; rfl
                  | cons y ys ih =>
                    intro as vs hl hh
                    cases as with
                    | nil => cases vs with
                      | nil => rfl
                      | cons => (first | exact no1 hl | obtain ⟨rfl, rfl, rfl⟩ := jn3 hl | obtain ⟨rfl, rfl⟩ := jn2 hl | obtain rfl := jn1 hl | cases hl)
                    | cons a as => cases vs with
                      | nil => (first | exact no1 hl | obtain ⟨rfl, rfl, rfl⟩ := jn3 hl | obtain ⟨rfl, rfl⟩ := jn2 hl | obtain rfl := jn1 hl | cases hl)
                      | cons w vs =>
                        rw [List.zip_cons_cons, List.lookup_cons] at hh ⊢
                        cases q : x == y with
                        | true => rw [q] at hh; (first | exact no1 hh | obtain ⟨rfl, rfl, rfl⟩ := jn3 hh | obtain ⟨rfl, rfl⟩ := jn2 hh | obtain rfl := jn1 hh | cases hh)
                        | false => rw [q] at hh; exact ih as vs (by simpa using hl) hh
                exact gen xs _ _ rall.length ea
              rw [hnone]
              trivial
        · have ex : (if x ∈ cn then none else (xs.zip (as ++ dv)).lookup x) = some av := ex
          split at ex
          · (first | exact no1 ex | obtain ⟨rfl, rfl, rfl⟩ := jn3 ex | obtain ⟨rfl, rfl⟩ := jn2 ex | obtain rfl := jn1 ex | cases ex)
          · rename_i hxc
            have hxs : x ∈ xs := by
              have gen : ∀ (xs : List Str) (as : List AV) (av : AV), (xs.zip as).lookup x = some av → x ∈ xs := by
                intro xs
                induction xs with
                | nil => intro _ _ h; simp at h
                | cons y ys ih =>
                  intro as av hh
                  cases as with
                  | nil => simp at hh
                  | cons a as =>
                    rw [List.zip_cons_cons, List.lookup_cons] at hh
                    cases q : x == y with
                    | true => rw [show x = y by simpa using q]; exact .head _
                    | false => rw [q] at hh; exact .tail _ (ih as av hh)
              exact gen _ _ _ ex
            have hl : scope.names.lookup x = some .local := by
              rcases hloc x hxs with q | ⟨_, q⟩
              · exact q
              · exact absurd q hxc
            obtain ⟨w, h5, h6⟩ := lookup_zip rall ex
            refine ⟨w, ?_, h6.mono pre⟩
            have := bindL_of (k := (envOfC qual scope L' f cdv).kindOf) (fun _ => none) zn x hl
            rw [this, h5]; rfl
        · obtain ⟨j, rfl, h1, h2⟩ := ixOf_some ex
          rw [← hcn (L' + 1)] at h1
          obtain ⟨c, h3, h4⟩ := lookup_at (by rw [hcn]; exact hcnd) h1
          obtain ⟨o, h5, _⟩ := cellsAre_get Y j x c h4
          refine ⟨c, h3, ?_⟩
          rw [List.getElem?_append_right (by lia)]
          rw [← hlen, Nat.add_sub_cancel_left, List.getElem?_map, h5]; rfl
      have fin : ∀ (fl : Fl) (lm' : Loc), P (locOfC (xs.zip (as ++ dv)) cn H.length) (H ++ cn.map fun x => .cell ((xs.zip (as ++ dv)).lookup x)) = some (fl, lm', H') → (∀ ι' (a : Flow), FlR ι' fl a → VR ι' v (match a with | .ret v => v | _ => .none)) →
          wpAny (model C.st.prog C.st.w) (C.A.deeper (envOfC qual scope L' f cdv)) (execs body (envOfC qual scope L' f cdv))
          (fun fl s' => LeaveK C.h₀ C.L m g' (fun r s' => match r with | .ok (.ret v) => Q v s' | .ok _ => False | .error _ => False) (match fl with | .ret v => v | _ => .none) s')
          (fun e s' => wpAny (model C.st.prog C.st.w) (C.A.deeper (envOfC qual scope L' f cdv)) (leaving (envOfC qual scope L' f cdv) e) (fun _ _ => False) (fun _ _ => False) s')
          { s with heap := h₁, toks := tk } := by
        intro fl lm' e1 hfl
        refine wpAny_mono (hbody _ _ _ _ _ _ OK hid { s with heap := h₁, toks := tk } (ι ++ cells.map (·.1)) _ _ fl lm' H' rel e1
          (fun a s' => LeaveK C.h₀ C.L m g' (fun r s' => match r with | .ok (.ret v) => Q v s' | .ok _ => False | .error _ => False) (match a with | .ret v => v | _ => .none) s') fun a h' tk' ι' S' p' r' => ?_) (fun _ _ x => x) fun _ _ x => x.elim
        obtain ⟨m', led', el', F2, N2, nd2, LR2, V2⟩ := S'
        exact ⟨L', m', led' ++ hid, F2, N2, fun Fb Nb => hq _ h' tk' ι' ⟨m, led', el', Fb, Nb, nd2, LR2, V.mono (pre.trans p')⟩ (pre.trans p') (hfl ι' a r')⟩
      split at e
      · rename_i w lm' H2 e1
        (first | exact no1 e | obtain ⟨rfl, rfl, rfl⟩ := jn3 e | obtain ⟨rfl, rfl⟩ := jn2 e | obtain rfl := jn1 e | cases e)
        exact fin _ _ e1 fun ι' a r => by obtain ⟨x, rfl, r⟩ := r; exact r
      · rename_i lm' H2 e1
        (first | exact no1 e | obtain ⟨rfl, rfl, rfl⟩ := jn3 e | obtain ⟨rfl, rfl⟩ := jn2 e | obtain rfl := jn1 e | cases e)
        exact fin _ _ e1 fun ι' a r => by (first | exact no1 r | obtain ⟨rfl, rfl, rfl⟩ := jn3 r | obtain ⟨rfl, rfl⟩ := jn2 r | obtain rfl := jn1 r | cases r); rfl
      · (first | exact no1 e | obtain ⟨rfl, rfl, rfl⟩ := jn3 e | obtain ⟨rfl, rfl⟩ := jn2 e | obtain rfl := jn1 e | cases e)
  · (first | exact no1 e | obtain ⟨rfl, rfl, rfl⟩ := jn3 e | obtain ⟨rfl, rfl⟩ := jn2 e | obtain rfl := jn1 e | cases e)
-- part R13
noncomputable def notStar : Expr → Bool
  | .Starred .. => false
  | _ => true
theorem hst_of {env : Env} {args : List Expr} (h : args.all notStar = true) : ∀ e ∈ args, ∀ rest, starEach (e :: rest) env = (false, eval e env) :: starEach rest env := by
  intro e he rest
  have := List.all_eq_true.mp h e he
  cases e <;> first | rfl | cases this
noncomputable def exprK : AV → SM
  | .none => nextS
  | _ => fun _ _ => none
noncomputable def retS (v : AV) : SM := fun l H => some (.ret v, l, H)
noncomputable def brkS : SM := fun l H => some (.brk, l, H)
noncomputable def contS : SM := fun l H => some (.cont, l, H)
noncomputable def failS : SM := fun _ _ => none
noncomputable def updM (u : M Unit) : UM := fun l H => (u l H).map fun r => (l, r.2)
section
variable {C : Cx} {rm : Nat}
theorem ss_exprK {e : Expr} {pos : Pos} {P : M AV} (h : SE C e P) (hi : interactive C.env = false) (hs : swapsWith e none pos.line C.env = pure false) : SS C (.Expr e pos) (evS P exprK) := by
  intro hid s ι lm H fl lm' H' S e' Q hq
  obtain ⟨⟨a, H1⟩, e1, e2⟩ := Option.bind_eq_some_iff.mp e'
  refine wpAny_Expr (h hid s ι lm H a H1 S trivial e1 _ fun va h' tk' ι' S' p' ra => ?_) hi hs
  cases a <;> first | ((first | exact no1 e2 | obtain ⟨rfl, rfl, rfl⟩ := jn3 e2 | obtain ⟨rfl, rfl⟩ := jn2 e2 | obtain rfl := jn1 e2 | cases e2); done) | skip
  (first | exact no1 e2 | obtain ⟨rfl, rfl, rfl⟩ := jn3 e2 | obtain ⟨rfl, rfl⟩ := jn2 e2 | obtain rfl := jn1 e2 | cases e2)
  (first | exact no1 ra | obtain ⟨rfl, rfl, rfl⟩ := jn3 ra | obtain ⟨rfl, rfl⟩ := jn2 ra | obtain rfl := jn1 ra | cases ra)
  exact hq _ h' tk' ι' S' p' rfl
theorem ss_ret {e : Expr} {pos : Pos} {P : M AV} (h : SE C e P) : SS C (.Return (some e) pos) (evS P retS) := ss_return h
theorem ss_ret0 {pos : Pos} : SS C (.Return none pos) (retS .none) := ss_return_none
theorem ss_brk {pos : Pos} : SS C (.Break pos) brkS := ss_break
theorem ss_cont {pos : Pos} : SS C (.Continue pos) contS := ss_continue
theorem ss_fail {st : Stmt} : SS C st failS := ss_never
theorem ssx_fail {sts : List Stmt} : SSs C sts failS := ssx_never
theorem ss_attr (hC : C.Ok rm) (hA : Attrs C.st.K) {o : Expr} {x : Str} {p' pos : Pos} {value : Expr} {P Po : M AV} (h : SE C value P) (ho : SE C o Po)
    (hs : swapsWith value (some (.Attribute o x p')) pos.line C.env = pure false) : SS C (.Assign [.Attribute o x p'] value pos) (evS P fun a => evS Po fun b => stS (updM (setA x b a))) := ss_assign_attr hC hA h ho hs
theorem ss_item {o i : Expr} {p' pos : Pos} {value : Expr} {P Po Pi : M AV} {F : AV → AV → AV → M Unit} (h : SE C value P) (ho : SE C o Po) (hi : SE C i Pi)
    (hF : ∀ o i a vo vi va, TT C (fun ι => VR ι o vo ∧ VR ι i vi ∧ VR ι a va) (setItem vo vi va) (fun _ _ _ => True) (F o i a))
    (hs : swapsWith value (some (.Subscript o i p')) pos.line C.env = pure false) :
    SS C (.Assign [.Subscript o i p'] value pos) (evS P fun a => evS Po fun b => evS Pi fun k => stS (updM (F b k a))) := ss_assign_sub h ho hi hF hs
theorem se_globI (hC : C.Ok rm) {x : Str} {pos : Pos} {i : Int} (hx : C.env.kindOf x = some .globalImplicit) (hd : (x == ("__debug__" : Str)) = false)
    (e : ∃ t, nsIn C.st.K mainGlobals x = some (some (.int i t))) : SE C (.Name x pos) (constM (.int i)) := by
  obtain ⟨t, e⟩ := e
  exact se_glob hC hx hd e ⟨t, rfl⟩
end
-- part Q0
-- the defs, read out of the row's program
abbrev theP : Program := PySem.Challenge.pw_pq1207_01
noncomputable def stIn (l : List Stmt) (i : Nat) : Stmt := l.getD i (.Pass ⟨0, 0, 0, 0⟩)
noncomputable def clB : Stmt → List Stmt
  | .ClassDef _ _ _ b _ _ _ _ _ _ _ => b
  | _ => []
noncomputable def fdA : Stmt → Arguments
  | .FunctionDef _ a _ _ _ _ _ _ _ _ => a
  | _ => ⟨[], [], none, [], [], none, []⟩
noncomputable def fdB : Stmt → List Stmt
  | .FunctionDef _ _ b _ _ _ _ _ _ _ => b
  | _ => []
noncomputable def fdS : Stmt → Scope
  | .FunctionDef _ _ _ _ _ _ s _ _ _ => s
  | _ => default
noncomputable def FnAt (K : Frag) (a : Addr) (st : Stmt) : Prop := ∃ (oc : Value) (od : Option Addr) (osl : Array (Option Value)) (name qual : Str) (params : Arguments) (body : List Stmt) (scope : Scope) (dV kV doc pm : Value) (an : Option Addr) (cdv ct : Value),
  K.lookup a = some ⟨oc, od, .func (fnOf name qual params body scope dV kV doc pm an cdv ct), osl⟩ ∧ codeIn K cdv qual = true ∧ params = fdA st ∧ body = fdB st ∧ scope = fdS st ∧ dV = .none ∧ kV = .none
noncomputable def FnAtV (K : Frag) (a : Addr) (st : Stmt) (P : Array Value → Prop) : Prop := ∃ (oc : Value) (od : Option Addr) (osl : Array (Option Value)) (name qual : Str) (params : Arguments) (body : List Stmt) (scope : Scope) (dV kV doc pm : Value) (an : Option Addr) (cdv ct : Value),
  K.lookup a = some ⟨oc, od, .func (fnOf name qual params body scope dV kV doc pm an cdv ct), osl⟩ ∧ codeIn K cdv qual = true ∧ params = fdA st ∧ body = fdB st ∧ scope = fdS st ∧ kV = .none ∧
  ∃ (T : Addr) (o : Obj) (n : Nat) (items : Array Value), dV = .ref T ∧ K.lookup T = some o ∧ o.data = .seq items n ∧ P items
noncomputable def D61 : Stmt := stIn theP.main.body 6
noncomputable def D68 : Stmt := stIn theP.main.body 7
noncomputable def D75 : Stmt := stIn theP.main.body 8
noncomputable def D83 : Stmt := stIn theP.main.body 9
noncomputable def D137 : Stmt := stIn (clB (stIn theP.main.body 11)) 0
noncomputable def D144 : Stmt := stIn (clB (stIn theP.main.body 11)) 1
noncomputable def D151 : Stmt := stIn (clB (stIn theP.main.body 11)) 2
noncomputable def D180 : Stmt := stIn theP.main.body 14
noncomputable def D195 : Stmt := stIn (clB (stIn theP.main.body 15)) 0
noncomputable def D202 : Stmt := stIn (clB (stIn theP.main.body 15)) 1
noncomputable def D209 : Stmt := stIn (clB (stIn theP.main.body 15)) 2
noncomputable def D173 : Stmt := stIn theP.main.body 13
noncomputable def D230 : Stmt := stIn (clB (stIn theP.main.body 18)) 0
noncomputable def D237 : Stmt := stIn (clB (stIn theP.main.body 18)) 1
noncomputable def D244 : Stmt := stIn (clB (stIn theP.main.body 18)) 2
noncomputable def D251 : Stmt := stIn (clB (stIn theP.main.body 18)) 3
noncomputable def D272 : Stmt := stIn (clB (stIn theP.main.body 19)) 0
noncomputable def D371 : Stmt := stIn (clB (stIn theP.main.body 20)) 1
noncomputable def D279 : Stmt := stIn (clB (stIn theP.main.body 19)) 1
noncomputable def D300 : Stmt := stIn (clB (stIn theP.main.body 19)) 4
noncomputable def D314 : Stmt := stIn (clB (stIn theP.main.body 19)) 6
noncomputable def D321 : Stmt := stIn (clB (stIn theP.main.body 19)) 7
noncomputable def D364 : Stmt := stIn (clB (stIn theP.main.body 20)) 0
noncomputable def D378 : Stmt := stIn (clB (stIn theP.main.body 20)) 2
noncomputable def D385 : Stmt := stIn (clB (stIn theP.main.body 20)) 3
noncomputable def D97 : Stmt := stIn (clB (stIn theP.main.body 10)) 0
noncomputable def D104 : Stmt := stIn (clB (stIn theP.main.body 10)) 1
noncomputable def D116 : Stmt := stIn (clB (stIn theP.main.body 10)) 3
noncomputable def D166 : Stmt := stIn theP.main.body 12
noncomputable def D397 : Stmt := stIn theP.main.body 22
noncomputable def D404 : Stmt := stIn theP.main.body 23
noncomputable def D411 : Stmt := stIn theP.main.body 24
noncomputable def D418 : Stmt := stIn theP.main.body 25
noncomputable def D423 : Stmt := stIn theP.main.body 26
noncomputable def D430 : Stmt := stIn theP.main.body 27
noncomputable def D437 : Stmt := stIn theP.main.body 28
noncomputable def D442 : Stmt := stIn theP.main.body 29
noncomputable def D447 : Stmt := stIn theP.main.body 30
structure Fct (S : Stc) : Prop where
  attrs : Attrs S.K
  m_putM : MethOk S.K 388 (Str.ofString "put") 279
  m_enter : MethOk S.K 388 (Str.ofString "enter") 371
  m_limit : MethOk S.K 388 (Str.ofString "limit") 300
  m_alike : MethOk S.K 388 (Str.ofString "alike") 314
  m_near : MethOk S.K 388 (Str.ofString "is_near") 321
  m_cand : MethOk S.K 388 (Str.ofString "candidates") 378
  m_everyF : MethOk S.K 388 (Str.ofString "every") 385
  m_key : MethOk S.K 254 (Str.ofString "key") 237
  m_putR : MethOk S.K 254 (Str.ofString "put") 244
  m_newest : MethOk S.K 254 (Str.ofString "newest") 251
  m_upto : MethOk S.K 119 (Str.ofString "up_to") 104
  m_everyT : MethOk S.K 119 (Str.ofString "every") 116
  m_offer : MethOk S.K 154 (Str.ofString "offer") 144
  m_told : MethOk S.K 154 (Str.ofString "told") 151
  m_lit : MethOk S.K 212 (Str.ofString "literal") 202
  m_match : MethOk S.K 212 (Str.ofString "match") 209
  c_Finder : ClsOk S.K 388 364
  c_Trail : ClsOk S.K 119 97
  c_Ways : ClsOk S.K 154 137
  c_FlatPrice : ClsOk S.K 212 195
  c_PlaceRow : ClsOk S.K 254 230
  s_init : StatOk S.K 345 (Str.ofString "__init__") 272
  gcheckrange : nsIn S.K mainGlobals (Str.ofString "check_range") = some (some (.ref 61))
  kcheckrange : keepIn S.K (.ref 61) = true
  gstepsize : nsIn S.K mainGlobals (Str.ofString "step_size") = some (some (.ref 68))
  kstepsize : keepIn S.K (.ref 68) = true
  gismatchright : nsIn S.K mainGlobals (Str.ofString "is_match_right") = some (some (.ref 75))
  kismatchright : keepIn S.K (.ref 75) = true
  gfits : nsIn S.K mainGlobals (Str.ofString "fits") = some (some (.ref 83))
  kfits : keepIn S.K (.ref 83) = true
  gTrail : nsIn S.K mainGlobals (Str.ofString "Trail") = some (some (.ref 119))
  kTrail : keepIn S.K (.ref 119) = true
  gWays : nsIn S.K mainGlobals (Str.ofString "Ways") = some (some (.ref 154))
  kWays : keepIn S.K (.ref 154) = true
  gleast : nsIn S.K mainGlobals (Str.ofString "least") = some (some (.ref 166))
  kleast : keepIn S.K (.ref 166) = true
  gpriceof : nsIn S.K mainGlobals (Str.ofString "price_of") = some (some (.ref 173))
  kpriceof : keepIn S.K (.ref 173) = true
  gslotof : nsIn S.K mainGlobals (Str.ofString "slot_of") = some (some (.ref 180))
  kslotof : keepIn S.K (.ref 180) = true
  gFlatPrice : nsIn S.K mainGlobals (Str.ofString "FlatPrice") = some (some (.ref 212))
  kFlatPrice : keepIn S.K (.ref 212) = true
  gPlaceRow : nsIn S.K mainGlobals (Str.ofString "PlaceRow") = some (some (.ref 254))
  kPlaceRow : keepIn S.K (.ref 254) = true
  gMatcher : nsIn S.K mainGlobals (Str.ofString "Matcher") = some (some (.ref 345))
  kMatcher : keepIn S.K (.ref 345) = true
  gFinder : nsIn S.K mainGlobals (Str.ofString "Finder") = some (some (.ref 388))
  kFinder : keepIn S.K (.ref 388) = true
  glawdigit : nsIn S.K mainGlobals (Str.ofString "_law_digit") = some (some (.ref 397))
  klawdigit : keepIn S.K (.ref 397) = true
  glawsteps : nsIn S.K mainGlobals (Str.ofString "_law_steps") = some (some (.ref 404))
  klawsteps : keepIn S.K (.ref 404) = true
  glawcost : nsIn S.K mainGlobals (Str.ofString "_law_cost") = some (some (.ref 411))
  klawcost : keepIn S.K (.ref 411) = true
  glawboundsright : nsIn S.K mainGlobals (Str.ofString "_law_bounds_right") = some (some (.ref 418))
  klawboundsright : keepIn S.K (.ref 418) = true
  glawpricesright : nsIn S.K mainGlobals (Str.ofString "_law_prices_right") = some (some (.ref 423))
  klawpricesright : keepIn S.K (.ref 423) = true
  glawpartsright : nsIn S.K mainGlobals (Str.ofString "_law_parts_right") = some (some (.ref 430))
  klawpartsright : keepIn S.K (.ref 430) = true
  glawalike : nsIn S.K mainGlobals (Str.ofString "_law_alike") = some (some (.ref 437))
  klawalike : keepIn S.K (.ref 437) = true
  glawfewest : nsIn S.K mainGlobals (Str.ofString "_law_fewest") = some (some (.ref 442))
  klawfewest : keepIn S.K (.ref 442) = true
  blen : nsIn S.K mainGlobals (Str.ofString "len") = some none
  bmax : nsIn S.K mainGlobals (Str.ofString "max") = some none
  bmin : nsIn S.K mainGlobals (Str.ofString "min") = some none
  babs : nsIn S.K mainGlobals (Str.ofString "abs") = some none
  bsum : nsIn S.K mainGlobals (Str.ofString "sum") = some none
  brange : nsIn S.K mainGlobals (Str.ofString "range") = some none
  bbytes : nsIn S.K mainGlobals (Str.ofString "bytes") = some none
  gLEASTMATCH : ∃ t, nsIn S.K mainGlobals (Str.ofString "LEAST_MATCH") = some (some (.int (2) t))
  gNOWHERE : ∃ t, nsIn S.K mainGlobals (Str.ofString "NOWHERE") = some (some (.int (-1) t))
  h61 : FnAt S.K 61 D61
  h68 : FnAt S.K 68 D68
  h75 : FnAt S.K 75 D75
  h83 : FnAtV S.K 83 D83 (fun i => ∃ t u, i = #[.int 0 t, .int 2 u, .none, .none])
  h137 : FnAt S.K 137 D137
  h144 : FnAt S.K 144 D144
  h151 : FnAt S.K 151 D151
  h180 : FnAt S.K 180 D180
  h195 : FnAtV S.K 195 D195 (fun i => ∃ t, i = #[.int 0 t])
  h202 : FnAt S.K 202 D202
  h209 : FnAt S.K 209 D209
  h173 : FnAt S.K 173 D173
  h230 : FnAt S.K 230 D230
  h237 : FnAt S.K 237 D237
  h244 : FnAt S.K 244 D244
  h251 : FnAt S.K 251 D251
  h272 : FnAt S.K 272 D272
  h371 : FnAt S.K 371 D371
  h279 : FnAt S.K 279 D279
  h300 : FnAt S.K 300 D300
  h314 : FnAt S.K 314 D314
  h321 : FnAt S.K 321 D321
  h364 : FnAtV S.K 364 D364 (fun i => ∃ t u v, i = #[.int 3 t, .int 32768 u, .int 32 v])
  h378 : FnAt S.K 378 D378
  h385 : FnAt S.K 385 D385
  h97 : FnAt S.K 97 D97
  h104 : FnAt S.K 104 D104
  h116 : FnAt S.K 116 D116
  h166 : FnAtV S.K 166 D166 (fun i => i = #[.none])
  h397 : FnAt S.K 397 D397
  h404 : FnAt S.K 404 D404
  h411 : FnAt S.K 411 D411
  h418 : FnAt S.K 418 D418
  h423 : FnAt S.K 423 D423
  h430 : FnAt S.K 430 D430
  h437 : FnAt S.K 437 D437
  h442 : FnAt S.K 442 D442
-- part P0
theorem lnS {n : Nat} : ∀ {vs : List Value}, vs.length = n + 1 → ∃ a r, vs = a :: r ∧ r.length = n
  | a :: r, h => ⟨a, r, rfl, Nat.succ.inj h⟩
theorem ln0 : ∀ {vs : List Value}, vs.length = 0 → vs = []
  | [], _ => rfl
theorem fs_at {S : Stc} {f : Addr} {rm n : Nat} {D : Stmt} {xs : List Str} {P : SM} (h : FnAt S.K f D)
    (hb : ∀ (s : Shared) (vs : List Value) name qual doc pm an cdv ct, vs.length = n → BindsTo s (fnOf name qual (fdA D) (fdB D) (fdS D) .none .none doc pm an cdv ct) ⟨vs, []⟩ (xs.zip (vs ++ [])))
    (hnd : xs.Nodup) (hloc : ∀ x ∈ xs, (fdS D).names.lookup x = some .local) (hk : (fdS D).kind = .function) (hco : (fdS D).isCoroutine = false) (hgen : (fdS D).isGenerator = false) (hcell : ∀ x ∈ (fdS D).names, x.2 ≠ .cell)
    (hbody : ∀ A A₀ base h₀ outer L qual cdv, (mkC S A A₀ base h₀ outer L qual (fdS D) f cdv []).Fn rm → SSs (mkC S A A₀ base h₀ outer L qual (fdS D) f cdv []) (fdB D) P) :
    FS S f (rm + 1) (fun as H => if as.length = n then runB P (locOf (xs.zip (as ++ []))) H else none) := by
  obtain ⟨oc, od, osl, name, qual, params, body, scope, dV, kV, doc, pm, an, cdv, ct, ho, hcd, rfl, rfl, rfl, rfl, rfl⟩ := h
  exact fs_def ho hcd (fun s vs _ hv => ⟨[], trivial, hb s vs _ _ _ _ _ _ _ hv⟩) hnd hloc hk hco hgen hcell fun A A₀ base h₀ outer L => hbody A A₀ base h₀ outer L _ _
theorem fs_atV {S : Stc} {f : Addr} {rm n : Nat} {D : Stmt} {xs : List Str} {dv : List AV} {P : SM} {Pi : Array Value → Prop} (h : FnAtV S.K f D Pi)
    (hb : ∀ (s : Shared) (vs : List Value) name qual doc pm an cdv ct T o k items, S.K.In s.heap → S.K.lookup T = some o → o.data = .seq items k → Pi items → vs.length = n →
      ∃ ws, VRs [] dv ws ∧ BindsTo s (fnOf name qual (fdA D) (fdB D) (fdS D) (.ref T) .none doc pm an cdv ct) ⟨vs, []⟩ (xs.zip (vs ++ ws)))
    (hnd : xs.Nodup) (hloc : ∀ x ∈ xs, (fdS D).names.lookup x = some .local) (hk : (fdS D).kind = .function) (hco : (fdS D).isCoroutine = false) (hgen : (fdS D).isGenerator = false) (hcell : ∀ x ∈ (fdS D).names, x.2 ≠ .cell)
    (hbody : ∀ A A₀ base h₀ outer L qual cdv, (mkC S A A₀ base h₀ outer L qual (fdS D) f cdv []).Fn rm → SSs (mkC S A A₀ base h₀ outer L qual (fdS D) f cdv []) (fdB D) P) :
    FS S f (rm + 1) (fun as H => if as.length = n then runB P (locOf (xs.zip (as ++ dv))) H else none) := by
  obtain ⟨oc, od, osl, name, qual, params, body, scope, dV, kV, doc, pm, an, cdv, ct, ho, hcd, rfl, rfl, rfl, rfl, T, o, k, items, rfl, hT, hs, hi⟩ := h
  exact fs_def ho hcd (fun s vs X hv => hb s vs _ _ _ _ _ _ _ T o k items X hT hs hi hv) hnd hloc hk hco hgen hcell fun A A₀ base h₀ outer L => hbody A A₀ base h₀ outer L _ _
theorem fs_atC {S : Stc} {f : Addr} {rm n : Nat} {D : Stmt} {xs cn : List Str} {P : SM} (h : FnAt S.K f D)
    (hb : ∀ (s : Shared) (vs : List Value) name qual doc pm an cdv ct, vs.length = n → BindsTo s (fnOf name qual (fdA D) (fdB D) (fdS D) .none .none doc pm an cdv ct) ⟨vs, []⟩ (xs.zip (vs ++ [])))
    (hnd : xs.Nodup) (hloc : ∀ x ∈ xs, (fdS D).names.lookup x = some .local ∨ ((fdS D).names.lookup x = some .cell ∧ x ∈ cn)) (hcn : ∀ k, (cellsFrom k (fdS D).names []).map (·.1) = cn) (hcnd : cn.Nodup) (hck : ∀ x ∈ cn, (fdS D).names.lookup x ≠ some .local)
    (hk : (fdS D).kind = .function) (hco : (fdS D).isCoroutine = false) (hgen : (fdS D).isGenerator = false)
    (hbody : ∀ A A₀ base h₀ outer L qual cdv, (mkC S A A₀ base h₀ outer L qual (fdS D) f cdv (cellsFrom (L + 1) (fdS D).names [])).Fn rm → SSs (mkC S A A₀ base h₀ outer L qual (fdS D) f cdv (cellsFrom (L + 1) (fdS D).names [])) (fdB D) P) :
    FS S f (rm + 1) (fun as H => if as.length = n then runB P (locOfC (xs.zip (as ++ [])) cn H.length) (H ++ cn.map fun x => .cell ((xs.zip (as ++ [])).lookup x)) else none) := by
  obtain ⟨oc, od, osl, name, qual, params, body, scope, dV, kV, doc, pm, an, cdv, ct, ho, hcd, rfl, rfl, rfl, rfl, rfl⟩ := h
  exact fs_cells ho hcd (fun s vs _ hv => ⟨[], trivial, hb s vs _ _ _ _ _ _ _ hv⟩) hnd hloc hcn hcnd hck hk hco hgen fun A A₀ base h₀ outer L => hbody A A₀ base h₀ outer L _ _
theorem ln1 {vs : List Value} (h : vs.length = 1) : ∃ a, vs = [a] := by
  obtain ⟨a, r, rfl, q⟩ := lnS h
  cases ln0 q
  exact ⟨a, rfl⟩
theorem ln2 {vs : List Value} (h : vs.length = 2) : ∃ a b, vs = [a, b] := by
  obtain ⟨a, r, rfl, q⟩ := lnS h
  obtain ⟨b, rfl⟩ := ln1 q
  exact ⟨a, b, rfl⟩
theorem ln3 {vs : List Value} (h : vs.length = 3) : ∃ a b c, vs = [a, b, c] := by
  obtain ⟨a, r, rfl, q⟩ := lnS h
  obtain ⟨b, c, rfl⟩ := ln2 q
  exact ⟨a, b, c, rfl⟩
theorem ln4 {vs : List Value} (h : vs.length = 4) : ∃ a b c d, vs = [a, b, c, d] := by
  obtain ⟨a, r, rfl, q⟩ := lnS h
  obtain ⟨b, c, d, rfl⟩ := ln3 q
  exact ⟨a, b, c, d, rfl⟩
theorem ln5 {vs : List Value} (h : vs.length = 5) : ∃ a b c d e, vs = [a, b, c, d, e] := by
  obtain ⟨a, r, rfl, q⟩ := lnS h
  obtain ⟨b, c, d, e, rfl⟩ := ln4 q
  exact ⟨a, b, c, d, e, rfl⟩
theorem ln6 {vs : List Value} (h : vs.length = 6) : ∃ a b c d e f, vs = [a, b, c, d, e, f] := by
  obtain ⟨a, r, rfl, q⟩ := lnS h
  obtain ⟨b, c, d, e, f, rfl⟩ := ln5 q
  exact ⟨a, b, c, d, e, f, rfl⟩
theorem ln7 {vs : List Value} (h : vs.length = 7) : ∃ a b c d e f g, vs = [a, b, c, d, e, f, g] := by
  obtain ⟨a, r, rfl, q⟩ := lnS h
  obtain ⟨b, c, d, e, f, g, rfl⟩ := ln6 q
  exact ⟨a, b, c, d, e, f, g, rfl⟩
-- check_range
noncomputable def b61 : SM := (seqS (iteS (notM (M.bind (constM (.int 0)) (fun a => M.bind (ldV (Str.ofString "start")) fun b => M.bind (cmpM .LtE a b) fun c => M.bind (truM c) fun t => if t = true then (fun a => M.bind (M.bind (M.bind (ldV (Str.ofString "octets")) fun v => M.bind (M.pure []) fun vs => M.pure (v :: vs)) lenB) fun b => M.bind (cmpM .LtE a b) truM) b else M.pure false))) failS nextS)
  (seqS (iteS (M.bind (ldV (Str.ofString "most")) fun a => M.bind (constM (.int 0)) fun b => M.bind (cmpM .Lt a b) truM) failS nextS)
  nextS))
noncomputable def p61 : PM := fun as H => if as.length = 3 then runB b61 (locOf ([(Str.ofString "octets"), (Str.ofString "start"), (Str.ofString "most")].zip (as ++ []))) H else none
theorem f61 {S : Stc} (F : Fct S) : FS S 61 1 p61 := by
  unfold p61 b61
  refine' fs_at (n := 3) (xs := [(Str.ofString "octets"), (Str.ofString "start"), (Str.ofString "most")]) F.h61 ?hb ?hnd ?hloc ?hk ?hco ?hgen ?hcell ?hbody
  case hb =>
    intro s vs name qual doc pm an cdv ct hv
    obtain ⟨a, b, c, rfl⟩ := ln3 hv
    exact BindsTo.of_eq rfl
  case hnd => decide
  case hloc => decide +kernel
  case hk => rfl
  case hco => rfl
  case hgen => rfl
  case hcell => decide +kernel
  case hbody =>
    intro A A₀ base h₀ outer L qual cdv hC
    exact (ss_cons (ss_if (sb_not (sb_chain se_int (tch_link (se_local hC.toOk rfl (by decide)) cmp_sound (tch_last (se_ncall hC.toOk (se_builtin hC.toOk rfl (by decide) F.blen rfl (by decide)) keeps_builtin len_sound (sargs_cons (se_local hC.toOk rfl (by decide)) sargs_nil rfl) rfl (hst_of rfl)) cmp_sound)) rfl)) ssx_fail ss_nil)
  (ss_cons (ss_if (sb_cmp (se_local hC.toOk rfl (by decide)) se_int cmp_sound rfl) ssx_fail ss_nil)
  ss_nil))

-- step_size
noncomputable def b68 : SM := (seqS (evS (M.bind (M.bind (M.bind (ldV (Str.ofString "step")) fun o => M.bind (constM (.int 0)) fun k => getI o k) fun a => M.bind (constM (.int 0)) fun b => M.bind (cmpM .Eq a b) truM) fun b => if b = true then (constM (.int 1)) else (M.bind (ldV (Str.ofString "step")) fun o => M.bind (constM (.int 0)) fun k => getI o k)) retS)
  nextS)
noncomputable def p68 : PM := fun as H => if as.length = 1 then runB b68 (locOf ([(Str.ofString "step")].zip (as ++ []))) H else none
theorem f68 {S : Stc} (F : Fct S) : FS S 68 1 p68 := by
  unfold p68 b68
  refine' fs_at (n := 1) (xs := [(Str.ofString "step")]) F.h68 ?hb ?hnd ?hloc ?hk ?hco ?hgen ?hcell ?hbody
  case hb =>
    intro s vs name qual doc pm an cdv ct hv
    obtain ⟨a, rfl⟩ := ln1 hv
    exact BindsTo.of_eq rfl
  case hnd => decide
  case hloc => decide +kernel
  case hk => rfl
  case hco => rfl
  case hgen => rfl
  case hcell => decide +kernel
  case hbody =>
    intro A A₀ base h₀ outer L qual cdv hC
    exact (ss_cons (ss_ret (se_ifexp (sb_cmp (se_sub (se_local hC.toOk rfl (by decide)) se_int (fun _ _ => rfl)) se_int cmp_sound rfl) se_int (se_sub (se_local hC.toOk rfl (by decide)) se_int (fun _ _ => rfl))))
  ss_nil)

-- is_match_right
noncomputable def b75 : SM := (seqS (iteS (orM (M.bind (M.bind (ldV (Str.ofString "place")) fun a => M.bind (ldV (Str.ofString "length")) fun b => addM a b) fun a => M.bind (M.bind (M.bind (ldV (Str.ofString "octets")) fun v => M.bind (M.pure []) fun vs => M.pure (v :: vs)) lenB) fun b => M.bind (cmpM .Gt a b) truM) (orM (notM (M.bind (constM (.int 1)) (fun a => M.bind (ldV (Str.ofString "distance")) fun b => M.bind (cmpM .LtE a b) fun c => M.bind (truM c) fun t => if t = true then (fun a => M.bind (ldV (Str.ofString "place")) fun b => M.bind (cmpM .LtE a b) truM) b else M.pure false))) (M.pure false))) (seqS (evS (constM (.bool false)) retS)
  nextS) nextS)
  (seqS (forS (M.bind (M.bind (ldV (Str.ofString "place")) fun v => M.bind (M.bind (M.bind (ldV (Str.ofString "place")) fun a => M.bind (ldV (Str.ofString "length")) fun b => addM a b) fun v => M.bind (M.pure []) fun vs => M.pure (v :: vs)) fun vs => M.pure (v :: vs)) rngB) (fun _ => true) (putV (Str.ofString "at")) (seqS (iteS (M.bind (M.bind (ldV (Str.ofString "octets")) fun o => M.bind (ldV (Str.ofString "at")) fun k => getI o k) fun a => M.bind (M.bind (ldV (Str.ofString "octets")) fun o => M.bind (M.bind (ldV (Str.ofString "at")) fun a => M.bind (ldV (Str.ofString "distance")) fun b => subM a b) fun k => getI o k) fun b => M.bind (cmpM .NotEq a b) truM) (seqS (evS (constM (.bool false)) retS)
  nextS) nextS)
  nextS))
  (seqS (evS (constM (.bool true)) retS)
  nextS)))
noncomputable def p75 : PM := fun as H => if as.length = 4 then runB b75 (locOf ([(Str.ofString "octets"), (Str.ofString "place"), (Str.ofString "length"), (Str.ofString "distance")].zip (as ++ []))) H else none
theorem f75 {S : Stc} (F : Fct S) : FS S 75 1 p75 := by
  unfold p75 b75
  refine' fs_at (n := 4) (xs := [(Str.ofString "octets"), (Str.ofString "place"), (Str.ofString "length"), (Str.ofString "distance")]) F.h75 ?hb ?hnd ?hloc ?hk ?hco ?hgen ?hcell ?hbody
  case hb =>
    intro s vs name qual doc pm an cdv ct hv
    obtain ⟨a, b, c, d, rfl⟩ := ln4 hv
    exact BindsTo.of_eq rfl
  case hnd => decide
  case hloc => decide +kernel
  case hk => rfl
  case hco => rfl
  case hgen => rfl
  case hcell => decide +kernel
  case hbody =>
    intro A A₀ base h₀ outer L qual cdv hC
    exact (ss_cons (ss_if (sb_boolop (sall_or (sb_cmp (se_binop (se_local hC.toOk rfl (by decide)) (se_local hC.toOk rfl (by decide)) add_sound) (se_ncall hC.toOk (se_builtin hC.toOk rfl (by decide) F.blen rfl (by decide)) keeps_builtin len_sound (sargs_cons (se_local hC.toOk rfl (by decide)) sargs_nil rfl) rfl (hst_of rfl)) cmp_sound rfl) (sall_or (sb_not (sb_chain se_int (tch_link (se_local hC.toOk rfl (by decide)) cmp_sound (tch_last (se_local hC.toOk rfl (by decide)) cmp_sound)) rfl)) sall_or_nil))) (ss_cons (ss_ret se_bool)
  ss_nil) ss_nil)
  (ss_cons (ss_for hC (se_ncall hC.toOk (se_builtin hC.toOk rfl (by decide) F.brange rfl (by decide)) keeps_type rng_sound (sargs_cons (se_local hC.toOk rfl (by decide)) (sargs_cons (se_binop (se_local hC.toOk rfl (by decide)) (se_local hC.toOk rfl (by decide)) add_sound) sargs_nil rfl) rfl) rfl (hst_of rfl)) (st_local hC rfl) (ss_cons (ss_if (sb_cmp (se_sub (se_local hC.toOk rfl (by decide)) (se_local hC.toOk rfl (by decide)) (fun _ _ => rfl)) (se_sub (se_local hC.toOk rfl (by decide)) (se_binop (se_local hC.toOk rfl (by decide)) (se_local hC.toOk rfl (by decide)) sub_sound) (fun _ _ => rfl)) cmp_sound rfl) (ss_cons (ss_ret se_bool)
  ss_nil) ss_nil)
  ss_nil) go_name (fun _ => rfl))
  (ss_cons (ss_ret se_bool)
  ss_nil)))

-- fits
noncomputable def b83 : SM := (seqS (evS (ldV (Str.ofString "start")) fun a => stS ((putV (Str.ofString "place")) a))
  (seqS (forS (ldV (Str.ofString "steps")) isLst (unpU [(putV (Str.ofString "first")), (putV (Str.ofString "second"))]) (seqS (iteS (M.bind (ldV (Str.ofString "first")) fun a => M.bind (constM (.int 0)) fun b => M.bind (cmpM .Eq a b) truM) (seqS (iteS (orM (M.bind (ldV (Str.ofString "place")) fun a => M.bind (M.bind (M.bind (ldV (Str.ofString "octets")) fun v => M.bind (M.pure []) fun vs => M.pure (v :: vs)) lenB) fun b => M.bind (cmpM .GtE a b) truM) (orM (M.bind (M.bind (ldV (Str.ofString "octets")) fun o => M.bind (ldV (Str.ofString "place")) fun k => getI o k) fun a => M.bind (ldV (Str.ofString "second")) fun b => M.bind (cmpM .NotEq a b) truM) (M.pure false))) (seqS (evS (constM (.bool false)) retS)
  nextS) nextS)
  (seqS (evS (M.bind (ldV (Str.ofString "place")) fun a => M.bind (constM (.int 1)) fun b => addM a b) fun a => stS ((putV (Str.ofString "place")) a))
  (seqS contS
  nextS))) nextS)
  (seqS (iteS (orM (M.bind (ldV (Str.ofString "first")) fun a => M.bind (ldV (Str.ofString "shortest")) fun b => M.bind (cmpM .Lt a b) truM) (orM (andM (M.bind (ldV (Str.ofString "most")) fun a => M.bind (constM .none) fun b => M.bind (isNoneM false a b) truM) (andM (M.bind (ldV (Str.ofString "first")) fun a => M.bind (ldV (Str.ofString "most")) fun b => M.bind (cmpM .Gt a b) truM) (M.pure true))) (orM (andM (M.bind (ldV (Str.ofString "window")) fun a => M.bind (constM .none) fun b => M.bind (isNoneM false a b) truM) (andM (M.bind (ldV (Str.ofString "second")) fun a => M.bind (ldV (Str.ofString "window")) fun b => M.bind (cmpM .Gt a b) truM) (M.pure true))) (M.pure false)))) (seqS (evS (constM (.bool false)) retS)
  nextS) nextS)
  (seqS (iteS (notM (M.bind (M.bind (M.bind (ldV (Str.ofString "octets")) fun v => M.bind (M.bind (ldV (Str.ofString "place")) fun v => M.bind (M.bind (ldV (Str.ofString "first")) fun v => M.bind (M.bind (ldV (Str.ofString "second")) fun v => M.bind (M.pure []) fun vs => M.pure (v :: vs)) fun vs => M.pure (v :: vs)) fun vs => M.pure (v :: vs)) fun vs => M.pure (v :: vs)) (chkF p75)) truM)) (seqS (evS (constM (.bool false)) retS)
  nextS) nextS)
  (seqS (evS (M.bind (ldV (Str.ofString "place")) fun a => M.bind (ldV (Str.ofString "first")) fun b => addM a b) fun a => stS ((putV (Str.ofString "place")) a))
  nextS)))))
  (seqS (evS (M.bind (ldV (Str.ofString "place")) fun a => M.bind (M.bind (M.bind (ldV (Str.ofString "octets")) fun v => M.bind (M.pure []) fun vs => M.pure (v :: vs)) lenB) fun b => cmpM .Eq a b) retS)
  nextS)))
noncomputable def p83 : PM := fun as H => if as.length = 6 then runB b83 (locOf ([(Str.ofString "steps"), (Str.ofString "octets"), (Str.ofString "start"), (Str.ofString "shortest"), (Str.ofString "most"), (Str.ofString "window")].zip (as ++ []))) H else none
theorem f83 {S : Stc} (F : Fct S) : FS S 83 2 p83 := by
  unfold p83 b83
  refine' fs_atV (n := 6) (xs := [(Str.ofString "steps"), (Str.ofString "octets"), (Str.ofString "start"), (Str.ofString "shortest"), (Str.ofString "most"), (Str.ofString "window")]) (dv := []) F.h83 ?hb ?hnd ?hloc ?hk ?hco ?hgen ?hcell ?hbody
  case hb =>
    intro s vs name qual doc pm an cdv ct T o k items X hT hs hi hv
    obtain ⟨t, u, rfl⟩ := hi
    obtain ⟨a, b, c, d, e, f, rfl⟩ := ln6 hv
    exact ⟨[], trivial, binds_K X rfl hT hs rfl rfl⟩
  case hnd => decide
  case hloc => decide +kernel
  case hk => rfl
  case hco => rfl
  case hgen => rfl
  case hcell => decide +kernel
  case hbody =>
    intro A A₀ base h₀ outer L qual cdv hC
    exact (ss_cons (ss_assign_name (se_local hC.toOk rfl (by decide)) (fun _ _ => store_local hC rfl) rfl)
  (ss_cons (ss_for hC (se_local hC.toOk rfl (by decide)) (st_tuple hC.toOk (us := [(putV (Str.ofString "first")), (putV (Str.ofString "second"))]) ⟨(st_local hC rfl), (st_local hC rfl), trivial⟩ rfl rfl) (ss_cons (ss_if (sb_cmp (se_local hC.toOk rfl (by decide)) se_int cmp_sound rfl) (ss_cons (ss_if (sb_boolop (sall_or (sb_cmp (se_local hC.toOk rfl (by decide)) (se_ncall hC.toOk (se_builtin hC.toOk rfl (by decide) F.blen rfl (by decide)) keeps_builtin len_sound (sargs_cons (se_local hC.toOk rfl (by decide)) sargs_nil rfl) rfl (hst_of rfl)) cmp_sound rfl) (sall_or (sb_cmp (se_sub (se_local hC.toOk rfl (by decide)) (se_local hC.toOk rfl (by decide)) (fun _ _ => rfl)) (se_local hC.toOk rfl (by decide)) cmp_sound rfl) sall_or_nil))) (ss_cons (ss_ret se_bool)
  ss_nil) ss_nil)
  (ss_cons (ss_assign_name (se_binop (se_local hC.toOk rfl (by decide)) se_int add_sound) (fun _ _ => store_local hC rfl) rfl)
  (ss_cons ss_cont
  ss_nil))) ss_nil)
  (ss_cons (ss_if (sb_boolop (sall_or (sb_cmp (se_local hC.toOk rfl (by decide)) (se_local hC.toOk rfl (by decide)) cmp_sound rfl) (sall_or (sb_boolop (sall_and (sb_cmp (se_local hC.toOk rfl (by decide)) se_none isNot_sound rfl) (sall_and (sb_cmp (se_local hC.toOk rfl (by decide)) (se_local hC.toOk rfl (by decide)) cmp_sound rfl) sall_and_nil))) (sall_or (sb_boolop (sall_and (sb_cmp (se_local hC.toOk rfl (by decide)) se_none isNot_sound rfl) (sall_and (sb_cmp (se_local hC.toOk rfl (by decide)) (se_local hC.toOk rfl (by decide)) cmp_sound rfl) sall_and_nil))) sall_or_nil)))) (ss_cons (ss_ret se_bool)
  ss_nil) ss_nil)
  (ss_cons (ss_if (sb_not (sb_value (se_ncall hC.toOk (se_glob hC.toOk rfl (by decide) F.gismatchright rfl) (keeps_ref F.kismatchright) (fun _ _ => fs_call hC.toOk ((f75 F).more (by decide))) (sargs_cons (se_local hC.toOk rfl (by decide)) (sargs_cons (se_local hC.toOk rfl (by decide)) (sargs_cons (se_local hC.toOk rfl (by decide)) (sargs_cons (se_local hC.toOk rfl (by decide)) sargs_nil rfl) rfl) rfl) rfl) rfl (hst_of rfl)) rfl)) (ss_cons (ss_ret se_bool)
  ss_nil) ss_nil)
  (ss_cons (ss_assign_name (se_binop (se_local hC.toOk rfl (by decide)) (se_local hC.toOk rfl (by decide)) add_sound) (fun _ _ => store_local hC rfl) rfl)
  ss_nil)))) go_tuple (fun _ => rfl))
  (ss_cons (ss_ret (se_cmp (se_local hC.toOk rfl (by decide)) (se_ncall hC.toOk (se_builtin hC.toOk rfl (by decide) F.blen rfl (by decide)) keeps_builtin len_sound (sargs_cons (se_local hC.toOk rfl (by decide)) sargs_nil rfl) rfl (hst_of rfl)) cmp_sound rfl))
  ss_nil)))

-- Ways.__init__
noncomputable def b137 : SM := (seqS (evS (ldV (Str.ofString "size")) fun a => evS (ldV (Str.ofString "self")) fun b => stS (updM (setA (Str.ofString "size") b a)))
  (seqS (evS (M.bind (M.bind (M.bind (constM (.int 0)) fun v => M.bind (M.pure []) fun vs => M.pure (v :: vs)) newL) fun a => M.bind (M.bind (M.bind (M.bind (constM .none) fun v => M.bind (M.pure []) fun vs => M.pure (v :: vs)) newL) fun a => M.bind (ldV (Str.ofString "size")) fun b => repM a b) fun b => catM a b) fun a => evS (ldV (Str.ofString "self")) fun b => stS (updM (setA (Str.ofString "costs") b a)))
  (seqS (evS (M.bind (M.bind (M.bind (constM .none) fun v => M.bind (M.pure []) fun vs => M.pure (v :: vs)) newL) fun a => M.bind (M.bind (ldV (Str.ofString "size")) fun a => M.bind (constM (.int 1)) fun b => addM a b) fun b => repM a b) fun a => evS (ldV (Str.ofString "self")) fun b => stS (updM (setA (Str.ofString "steps") b a)))
  nextS)))
noncomputable def p137 : PM := fun as H => if as.length = 2 then runB b137 (locOf ([(Str.ofString "self"), (Str.ofString "size")].zip (as ++ []))) H else none
theorem f137 {S : Stc} (F : Fct S) : FS S 137 1 p137 := by
  unfold p137 b137
  refine' fs_at (n := 2) (xs := [(Str.ofString "self"), (Str.ofString "size")]) F.h137 ?hb ?hnd ?hloc ?hk ?hco ?hgen ?hcell ?hbody
  case hb =>
    intro s vs name qual doc pm an cdv ct hv
    obtain ⟨a, b, rfl⟩ := ln2 hv
    exact BindsTo.of_eq rfl
  case hnd => decide
  case hloc => decide +kernel
  case hk => rfl
  case hco => rfl
  case hgen => rfl
  case hcell => decide +kernel
  case hbody =>
    intro A A₀ base h₀ outer L qual cdv hC
    exact (ss_cons (ss_attr hC.toOk F.attrs (se_local hC.toOk rfl (by decide)) (se_local hC.toOk rfl (by decide)) rfl)
  (ss_cons (ss_attr hC.toOk F.attrs (se_binop (se_list (sargs_cons se_int sargs_nil rfl)) (se_binop (se_list (sargs_cons se_none sargs_nil rfl)) (se_local hC.toOk rfl (by decide)) rep_sound) cat_sound) (se_local hC.toOk rfl (by decide)) rfl)
  (ss_cons (ss_attr hC.toOk F.attrs (se_binop (se_list (sargs_cons se_none sargs_nil rfl)) (se_binop (se_local hC.toOk rfl (by decide)) se_int add_sound) rep_sound) (se_local hC.toOk rfl (by decide)) rfl)
  ss_nil)))

-- Ways.offer
noncomputable def b144 : SM := (seqS (evS (M.bind (ldV (Str.ofString "at")) fun a => M.bind (M.bind (M.bind (ldV (Str.ofString "step")) fun v => M.bind (M.pure []) fun vs => M.pure (v :: vs)) (chkF p68)) fun b => addM a b) fun a => stS ((putV (Str.ofString "there")) a))
  (seqS (iteS (M.bind (ldV (Str.ofString "there")) fun a => M.bind (M.bind (ldV (Str.ofString "self")) (getA (Str.ofString "size"))) fun b => M.bind (cmpM .Gt a b) truM) (seqS (retS .none)
  nextS) nextS)
  (seqS (evS (M.bind (M.bind (M.bind (ldV (Str.ofString "self")) (getA (Str.ofString "costs"))) fun o => M.bind (ldV (Str.ofString "at")) fun k => getI o k) fun a => M.bind (ldV (Str.ofString "cost")) fun b => addM a b) fun a => stS ((putV (Str.ofString "whole")) a))
  (seqS (iteS (orM (M.bind (M.bind (M.bind (ldV (Str.ofString "self")) (getA (Str.ofString "costs"))) fun o => M.bind (ldV (Str.ofString "there")) fun k => getI o k) fun a => M.bind (constM .none) fun b => M.bind (isNoneM true a b) truM) (orM (M.bind (ldV (Str.ofString "whole")) fun a => M.bind (M.bind (M.bind (ldV (Str.ofString "self")) (getA (Str.ofString "costs"))) fun o => M.bind (ldV (Str.ofString "there")) fun k => getI o k) fun b => M.bind (cmpM .Lt a b) truM) (M.pure false))) (seqS (evS (ldV (Str.ofString "whole")) fun a => evS (M.bind (ldV (Str.ofString "self")) (getA (Str.ofString "costs"))) fun b => evS (ldV (Str.ofString "there")) fun k => stS (updM (setIL b k a)))
  (seqS (evS (ldV (Str.ofString "step")) fun a => evS (M.bind (ldV (Str.ofString "self")) (getA (Str.ofString "steps"))) fun b => evS (ldV (Str.ofString "there")) fun k => stS (updM (setIL b k a)))
  nextS)) nextS)
  nextS))))
noncomputable def p144 : PM := fun as H => if as.length = 4 then runB b144 (locOf ([(Str.ofString "self"), (Str.ofString "at"), (Str.ofString "step"), (Str.ofString "cost")].zip (as ++ []))) H else none
theorem f144 {S : Stc} (F : Fct S) : FS S 144 2 p144 := by
  unfold p144 b144
  refine' fs_at (n := 4) (xs := [(Str.ofString "self"), (Str.ofString "at"), (Str.ofString "step"), (Str.ofString "cost")]) F.h144 ?hb ?hnd ?hloc ?hk ?hco ?hgen ?hcell ?hbody
  case hb =>
    intro s vs name qual doc pm an cdv ct hv
    obtain ⟨a, b, c, d, rfl⟩ := ln4 hv
    exact BindsTo.of_eq rfl
  case hnd => decide
  case hloc => decide +kernel
  case hk => rfl
  case hco => rfl
  case hgen => rfl
  case hcell => decide +kernel
  case hbody =>
    intro A A₀ base h₀ outer L qual cdv hC
    exact (ss_cons (ss_assign_name (se_binop (se_local hC.toOk rfl (by decide)) (se_ncall hC.toOk (se_glob hC.toOk rfl (by decide) F.gstepsize rfl) (keeps_ref F.kstepsize) (fun _ _ => fs_call hC.toOk ((f68 F).more (by decide))) (sargs_cons (se_local hC.toOk rfl (by decide)) sargs_nil rfl) rfl (hst_of rfl)) add_sound) (fun _ _ => store_local hC rfl) rfl)
  (ss_cons (ss_if (sb_cmp (se_local hC.toOk rfl (by decide)) (se_attr hC.toOk F.attrs (se_local hC.toOk rfl (by decide)) rfl) cmp_sound rfl) (ss_cons ss_ret0
  ss_nil) ss_nil)
  (ss_cons (ss_assign_name (se_binop (se_sub (se_attr hC.toOk F.attrs (se_local hC.toOk rfl (by decide)) rfl) (se_local hC.toOk rfl (by decide)) (fun _ _ => rfl)) (se_local hC.toOk rfl (by decide)) add_sound) (fun _ _ => store_local hC rfl) rfl)
  (ss_cons (ss_if (sb_boolop (sall_or (sb_cmp (se_sub (se_attr hC.toOk F.attrs (se_local hC.toOk rfl (by decide)) rfl) (se_local hC.toOk rfl (by decide)) (fun _ _ => rfl)) se_none is_sound rfl) (sall_or (sb_cmp (se_local hC.toOk rfl (by decide)) (se_sub (se_attr hC.toOk F.attrs (se_local hC.toOk rfl (by decide)) rfl) (se_local hC.toOk rfl (by decide)) (fun _ _ => rfl)) cmp_sound rfl) sall_or_nil))) (ss_cons (ss_item (se_local hC.toOk rfl (by decide)) (se_attr hC.toOk F.attrs (se_local hC.toOk rfl (by decide)) rfl) (se_local hC.toOk rfl (by decide)) (fun _ _ _ _ _ _ => setIL_sound) rfl)
  (ss_cons (ss_item (se_local hC.toOk rfl (by decide)) (se_attr hC.toOk F.attrs (se_local hC.toOk rfl (by decide)) rfl) (se_local hC.toOk rfl (by decide)) (fun _ _ _ _ _ _ => setIL_sound) rfl)
  ss_nil)) ss_nil)
  ss_nil))))

-- Ways.told
noncomputable def b151 : SM := (seqS (evS (M.bind (M.bind (M.bind (M.pure []) newL) fun v => M.bind (M.bind (M.bind (ldV (Str.ofString "self")) (getA (Str.ofString "size"))) fun v => M.bind (M.pure []) fun vs => M.pure (v :: vs)) fun vs => M.pure (v :: vs)) newT) fun a => stS (swapU [(Str.ofString "found"), (Str.ofString "at")] a))
  (seqS (whileM (M.bind (ldV (Str.ofString "at")) fun a => M.bind (constM (.int 0)) fun b => M.bind (cmpM .Gt a b) truM) (seqS (evS (M.bind (ldV (Str.ofString "found")) fun v => M.bind (isLstM v) fun _ => M.bind (M.bind (M.bind (M.bind (ldV (Str.ofString "self")) (getA (Str.ofString "steps"))) fun o => M.bind (ldV (Str.ofString "at")) fun k => getI o k) fun v => M.bind (M.pure []) fun vs => M.pure (v :: vs)) fun as => appB (v :: as)) exprK)
  (seqS (evS (M.bind (ldV (Str.ofString "at")) fun a => M.bind (M.bind (M.bind (M.bind (M.bind (ldV (Str.ofString "self")) (getA (Str.ofString "steps"))) fun o => M.bind (ldV (Str.ofString "at")) fun k => getI o k) fun v => M.bind (M.pure []) fun vs => M.pure (v :: vs)) (chkF p68)) fun b => subM a b) fun a => stS ((putV (Str.ofString "at")) a))
  nextS)) 64)
  (seqS (evS (M.bind (ldV (Str.ofString "found")) fun v => M.bind (M.bind (constM (.int 1)) negM) fun k => revM k v) retS)
  nextS)))
noncomputable def p151 : PM := fun as H => if as.length = 1 then runB b151 (locOf ([(Str.ofString "self")].zip (as ++ []))) H else none
theorem f151 {S : Stc} (F : Fct S) : FS S 151 2 p151 := by
  unfold p151 b151
  refine' fs_at (n := 1) (xs := [(Str.ofString "self")]) F.h151 ?hb ?hnd ?hloc ?hk ?hco ?hgen ?hcell ?hbody
  case hb =>
    intro s vs name qual doc pm an cdv ct hv
    obtain ⟨a, rfl⟩ := ln1 hv
    exact BindsTo.of_eq rfl
  case hnd => decide
  case hloc => decide +kernel
  case hk => rfl
  case hco => rfl
  case hgen => rfl
  case hcell => decide +kernel
  case hbody =>
    intro A A₀ base h₀ outer L qual cdv hC
    exact (ss_cons (ss_assign_swapped hC (ns := [(Str.ofString "found"), (Str.ofString "at")]) (se_tuple (sargs_cons (se_list sargs_nil) (sargs_cons (se_attr hC.toOk F.attrs (se_local hC.toOk rfl (by decide)) rfl) sargs_nil rfl) rfl)) (by intro x hx; simp only [List.mem_cons, List.not_mem_nil, or_false] at hx; rcases hx with rfl | rfl <;> rfl) rfl rfl)
  (ss_cons (ss_while (sb_cmp (se_local hC.toOk rfl (by decide)) se_int cmp_sound rfl) (ss_cons (ss_exprK (se_bmeth hC.toOk (se_local hC.toOk rfl (by decide)) getAppend_sound app_sound (sargs_cons (se_sub (se_attr hC.toOk F.attrs (se_local hC.toOk rfl (by decide)) rfl) (se_local hC.toOk rfl (by decide)) (fun _ _ => rfl)) sargs_nil rfl) rfl (hst_of rfl)) rfl rfl)
  (ss_cons (ss_assign_name (se_binop (se_local hC.toOk rfl (by decide)) (se_ncall hC.toOk (se_glob hC.toOk rfl (by decide) F.gstepsize rfl) (keeps_ref F.kstepsize) (fun _ _ => fs_call hC.toOk ((f68 F).more (by decide))) (sargs_cons (se_sub (se_attr hC.toOk F.attrs (se_local hC.toOk rfl (by decide)) rfl) (se_local hC.toOk rfl (by decide)) (fun _ _ => rfl)) sargs_nil rfl) rfl (hst_of rfl)) sub_sound) (fun _ _ => store_local hC rfl) rfl)
  ss_nil)))
  (ss_cons (ss_ret (se_rev (se_local hC.toOk rfl (by decide)) (se_neg se_int) (fun _ _ => rfl) (fun _ _ => rfl)))
  ss_nil)))

-- slot_of
noncomputable def b180 : SM := (seqS (iteS (M.bind (ldV (Str.ofString "value")) fun a => M.bind (constM (.int 4)) fun b => M.bind (cmpM .Lt a b) truM) (seqS (evS (M.bind (M.bind (ldV (Str.ofString "value")) fun v => M.bind (M.bind (constM (.int 0)) fun v => M.bind (M.pure []) fun vs => M.pure (v :: vs)) fun vs => M.pure (v :: vs)) newT) retS)
  nextS) nextS)
  (seqS (evS (M.bind (M.bind (ldV (Str.ofString "value")) fun v => M.bind (isIntM v) fun _ => M.bind (M.pure []) fun as => bitlenB (v :: as)) fun a => M.bind (constM (.int 1)) fun b => subM a b) fun a => stS ((putV (Str.ofString "high")) a))
  (seqS (evS (M.bind (M.bind (M.bind (M.bind (constM (.int 2)) fun a => M.bind (ldV (Str.ofString "high")) fun b => mulM a b) fun a => M.bind (M.bind (M.bind (ldV (Str.ofString "value")) fun a => M.bind (M.bind (ldV (Str.ofString "high")) fun a => M.bind (constM (.int 1)) fun b => subM a b) fun b => shrM a b) fun a => M.bind (constM (.int 1)) fun b => bandM a b) fun b => addM a b) fun v => M.bind (M.bind (M.bind (ldV (Str.ofString "high")) fun a => M.bind (constM (.int 1)) fun b => subM a b) fun v => M.bind (M.pure []) fun vs => M.pure (v :: vs)) fun vs => M.pure (v :: vs)) newT) retS)
  nextS)))
noncomputable def p180 : PM := fun as H => if as.length = 1 then runB b180 (locOf ([(Str.ofString "value")].zip (as ++ []))) H else none
theorem f180 {S : Stc} (F : Fct S) : FS S 180 1 p180 := by
  unfold p180 b180
  refine' fs_at (n := 1) (xs := [(Str.ofString "value")]) F.h180 ?hb ?hnd ?hloc ?hk ?hco ?hgen ?hcell ?hbody
  case hb =>
    intro s vs name qual doc pm an cdv ct hv
    obtain ⟨a, rfl⟩ := ln1 hv
    exact BindsTo.of_eq rfl
  case hnd => decide
  case hloc => decide +kernel
  case hk => rfl
  case hco => rfl
  case hgen => rfl
  case hcell => decide +kernel
  case hbody =>
    intro A A₀ base h₀ outer L qual cdv hC
    exact (ss_cons (ss_if (sb_cmp (se_local hC.toOk rfl (by decide)) se_int cmp_sound rfl) (ss_cons (ss_ret (se_tuple (sargs_cons (se_local hC.toOk rfl (by decide)) (sargs_cons se_int sargs_nil rfl) rfl)))
  ss_nil) ss_nil)
  (ss_cons (ss_assign_name (se_binop (se_bmeth hC.toOk (se_local hC.toOk rfl (by decide)) getBitlen_sound bitlen_sound sargs_nil rfl (hst_of rfl)) se_int sub_sound) (fun _ _ => store_local hC rfl) rfl)
  (ss_cons (ss_ret (se_tuple (sargs_cons (se_binop (se_binop se_int (se_local hC.toOk rfl (by decide)) mul_sound) (se_binop (se_binop (se_local hC.toOk rfl (by decide)) (se_binop (se_local hC.toOk rfl (by decide)) se_int sub_sound) shr_sound) se_int band_sound) add_sound) (sargs_cons (se_binop (se_local hC.toOk rfl (by decide)) se_int sub_sound) sargs_nil rfl) rfl)))
  ss_nil)))

-- FlatPrice.__init__
noncomputable def b195 : SM := (seqS (iteS (orM (M.bind (ldV (Str.ofString "literal")) fun a => M.bind (constM (.int 0)) fun b => M.bind (cmpM .Lt a b) truM) (orM (M.bind (ldV (Str.ofString "match")) fun a => M.bind (constM (.int 0)) fun b => M.bind (cmpM .Lt a b) truM) (orM (M.bind (ldV (Str.ofString "bit")) fun a => M.bind (constM (.int 0)) fun b => M.bind (cmpM .Lt a b) truM) (M.pure false)))) failS nextS)
  (seqS (evS (ldV (Str.ofString "literal")) fun a => evS (ldV (Str.ofString "self")) fun b => stS (updM (setA (Str.ofString "of_literal") b a)))
  (seqS (evS (ldV (Str.ofString "match")) fun a => evS (ldV (Str.ofString "self")) fun b => stS (updM (setA (Str.ofString "of_match") b a)))
  (seqS (evS (ldV (Str.ofString "bit")) fun a => evS (ldV (Str.ofString "self")) fun b => stS (updM (setA (Str.ofString "of_bit") b a)))
  nextS))))
noncomputable def p195x : PM := fun as H => if as.length = 4 then runB b195 (locOf ([(Str.ofString "self"), (Str.ofString "literal"), (Str.ofString "match"), (Str.ofString "bit")].zip (as ++ []))) H else none
theorem f195x {S : Stc} (F : Fct S) : FS S 195 1 p195x := by
  unfold p195x b195
  refine' fs_atV (n := 4) (xs := [(Str.ofString "self"), (Str.ofString "literal"), (Str.ofString "match"), (Str.ofString "bit")]) (dv := []) F.h195 ?hb ?hnd ?hloc ?hk ?hco ?hgen ?hcell ?hbody
  case hb =>
    intro s vs name qual doc pm an cdv ct T o k items X hT hs hi hv
    obtain ⟨t, rfl⟩ := hi
    obtain ⟨a, b, c, d, rfl⟩ := ln4 hv
    exact ⟨[], trivial, binds_K X rfl hT hs rfl rfl⟩
  case hnd => decide
  case hloc => decide +kernel
  case hk => rfl
  case hco => rfl
  case hgen => rfl
  case hcell => decide +kernel
  case hbody =>
    intro A A₀ base h₀ outer L qual cdv hC
    exact (ss_cons (ss_if (sb_boolop (sall_or (sb_cmp (se_local hC.toOk rfl (by decide)) se_int cmp_sound rfl) (sall_or (sb_cmp (se_local hC.toOk rfl (by decide)) se_int cmp_sound rfl) (sall_or (sb_cmp (se_local hC.toOk rfl (by decide)) se_int cmp_sound rfl) sall_or_nil)))) ssx_fail ss_nil)
  (ss_cons (ss_attr hC.toOk F.attrs (se_local hC.toOk rfl (by decide)) (se_local hC.toOk rfl (by decide)) rfl)
  (ss_cons (ss_attr hC.toOk F.attrs (se_local hC.toOk rfl (by decide)) (se_local hC.toOk rfl (by decide)) rfl)
  (ss_cons (ss_attr hC.toOk F.attrs (se_local hC.toOk rfl (by decide)) (se_local hC.toOk rfl (by decide)) rfl)
  ss_nil))))
noncomputable def p195y : PM := fun as H => if as.length = 3 then runB b195 (locOf ([(Str.ofString "self"), (Str.ofString "literal"), (Str.ofString "match"), (Str.ofString "bit")].zip (as ++ [.int 0]))) H else none
theorem f195y {S : Stc} (F : Fct S) : FS S 195 1 p195y := by
  unfold p195y b195
  refine' fs_atV (n := 3) (xs := [(Str.ofString "self"), (Str.ofString "literal"), (Str.ofString "match"), (Str.ofString "bit")]) (dv := [.int 0]) F.h195 ?hb ?hnd ?hloc ?hk ?hco ?hgen ?hcell ?hbody
  case hb =>
    intro s vs name qual doc pm an cdv ct T o k items X hT hs hi hv
    obtain ⟨t, rfl⟩ := hi
    obtain ⟨a, b, c, rfl⟩ := ln3 hv
    exact ⟨[Value.int 0 _], ⟨⟨_, rfl⟩, trivial⟩, binds_K X rfl hT hs rfl rfl⟩
  case hnd => decide
  case hloc => decide +kernel
  case hk => rfl
  case hco => rfl
  case hgen => rfl
  case hcell => decide +kernel
  case hbody =>
    intro A A₀ base h₀ outer L qual cdv hC
    exact (ss_cons (ss_if (sb_boolop (sall_or (sb_cmp (se_local hC.toOk rfl (by decide)) se_int cmp_sound rfl) (sall_or (sb_cmp (se_local hC.toOk rfl (by decide)) se_int cmp_sound rfl) (sall_or (sb_cmp (se_local hC.toOk rfl (by decide)) se_int cmp_sound rfl) sall_or_nil)))) ssx_fail ss_nil)
  (ss_cons (ss_attr hC.toOk F.attrs (se_local hC.toOk rfl (by decide)) (se_local hC.toOk rfl (by decide)) rfl)
  (ss_cons (ss_attr hC.toOk F.attrs (se_local hC.toOk rfl (by decide)) (se_local hC.toOk rfl (by decide)) rfl)
  (ss_cons (ss_attr hC.toOk F.attrs (se_local hC.toOk rfl (by decide)) (se_local hC.toOk rfl (by decide)) rfl)
  ss_nil))))
noncomputable def p195 : PM := fun as H => (p195x as H).or (p195y as H)
theorem f195 {S : Stc} (F : Fct S) : FS S 195 1 p195 := FS.or (f195x F) (f195y F)

-- FlatPrice.literal
noncomputable def b202 : SM := (seqS (evS (M.bind (ldV (Str.ofString "self")) (getA (Str.ofString "of_literal"))) retS)
  nextS)
noncomputable def p202 : PM := fun as H => if as.length = 2 then runB b202 (locOf ([(Str.ofString "self"), (Str.ofString "octet")].zip (as ++ []))) H else none
theorem f202 {S : Stc} (F : Fct S) : FS S 202 1 p202 := by
  unfold p202 b202
  refine' fs_at (n := 2) (xs := [(Str.ofString "self"), (Str.ofString "octet")]) F.h202 ?hb ?hnd ?hloc ?hk ?hco ?hgen ?hcell ?hbody
  case hb =>
    intro s vs name qual doc pm an cdv ct hv
    obtain ⟨a, b, rfl⟩ := ln2 hv
    exact BindsTo.of_eq rfl
  case hnd => decide
  case hloc => decide +kernel
  case hk => rfl
  case hco => rfl
  case hgen => rfl
  case hcell => decide +kernel
  case hbody =>
    intro A A₀ base h₀ outer L qual cdv hC
    exact (ss_cons (ss_ret (se_attr hC.toOk F.attrs (se_local hC.toOk rfl (by decide)) rfl))
  ss_nil)

-- FlatPrice.match
noncomputable def b209 : SM := (seqS (iteS (M.bind (M.bind (ldV (Str.ofString "self")) (getA (Str.ofString "of_bit"))) fun a => M.bind (constM (.int 0)) fun b => M.bind (cmpM .Eq a b) truM) (seqS (evS (M.bind (ldV (Str.ofString "self")) (getA (Str.ofString "of_match"))) retS)
  nextS) nextS)
  (seqS (evS (M.bind (M.bind (ldV (Str.ofString "self")) (getA (Str.ofString "of_match"))) fun a => M.bind (M.bind (M.bind (ldV (Str.ofString "self")) (getA (Str.ofString "of_bit"))) fun a => M.bind (M.bind (M.bind (M.bind (M.bind (M.bind (ldV (Str.ofString "length")) fun a => M.bind (constM (.int (2))) fun b => subM a b) fun v => M.bind (M.pure []) fun vs => M.pure (v :: vs)) (chkF p180)) fun o => M.bind (constM (.int 1)) fun k => getI o k) fun a => M.bind (M.bind (M.bind (M.bind (M.bind (ldV (Str.ofString "distance")) fun a => M.bind (constM (.int 1)) fun b => subM a b) fun v => M.bind (M.pure []) fun vs => M.pure (v :: vs)) (chkF p180)) fun o => M.bind (constM (.int 1)) fun k => getI o k) fun b => addM a b) fun b => mulM a b) fun b => addM a b) retS)
  nextS))
noncomputable def p209 : PM := fun as H => if as.length = 3 then runB b209 (locOf ([(Str.ofString "self"), (Str.ofString "length"), (Str.ofString "distance")].zip (as ++ []))) H else none
theorem f209 {S : Stc} (F : Fct S) : FS S 209 2 p209 := by
  unfold p209 b209
  refine' fs_at (n := 3) (xs := [(Str.ofString "self"), (Str.ofString "length"), (Str.ofString "distance")]) F.h209 ?hb ?hnd ?hloc ?hk ?hco ?hgen ?hcell ?hbody
  case hb =>
    intro s vs name qual doc pm an cdv ct hv
    obtain ⟨a, b, c, rfl⟩ := ln3 hv
    exact BindsTo.of_eq rfl
  case hnd => decide
  case hloc => decide +kernel
  case hk => rfl
  case hco => rfl
  case hgen => rfl
  case hcell => decide +kernel
  case hbody =>
    intro A A₀ base h₀ outer L qual cdv hC
    exact (ss_cons (ss_if (sb_cmp (se_attr hC.toOk F.attrs (se_local hC.toOk rfl (by decide)) rfl) se_int cmp_sound rfl) (ss_cons (ss_ret (se_attr hC.toOk F.attrs (se_local hC.toOk rfl (by decide)) rfl))
  ss_nil) ss_nil)
  (ss_cons (ss_ret (se_binop (se_attr hC.toOk F.attrs (se_local hC.toOk rfl (by decide)) rfl) (se_binop (se_attr hC.toOk F.attrs (se_local hC.toOk rfl (by decide)) rfl) (se_binop (se_sub (se_ncall hC.toOk (se_glob hC.toOk rfl (by decide) F.gslotof rfl) (keeps_ref F.kslotof) (fun _ _ => fs_call hC.toOk ((f180 F).more (by decide))) (sargs_cons (se_binop (se_local hC.toOk rfl (by decide)) (se_globI hC.toOk rfl (by decide) F.gLEASTMATCH) sub_sound) sargs_nil rfl) rfl (hst_of rfl)) se_int (fun _ _ => rfl)) (se_sub (se_ncall hC.toOk (se_glob hC.toOk rfl (by decide) F.gslotof rfl) (keeps_ref F.kslotof) (fun _ _ => fs_call hC.toOk ((f180 F).more (by decide))) (sargs_cons (se_binop (se_local hC.toOk rfl (by decide)) se_int sub_sound) sargs_nil rfl) rfl (hst_of rfl)) se_int (fun _ _ => rfl)) add_sound) mul_sound) add_sound))
  ss_nil))

-- price_of
noncomputable def b173 : SM := (seqS (evS (constM (.int 0)) fun a => stS ((putV (Str.ofString "whole")) a))
  (seqS (forS (ldV (Str.ofString "steps")) isLst (unpU [(putV (Str.ofString "first")), (putV (Str.ofString "second"))]) (seqS (evS (M.bind (ldV (Str.ofString "whole")) fun a => M.bind (M.bind (M.bind (ldV (Str.ofString "first")) fun a => M.bind (constM (.int 0)) fun b => M.bind (cmpM .Eq a b) truM) fun b => if b = true then (M.bind (ldV (Str.ofString "price")) fun v => M.bind (chkI 212 (Str.ofString "literal") v) fun _ => M.bind (M.bind (ldV (Str.ofString "second")) fun v => M.bind (M.pure []) fun vs => M.pure (v :: vs)) fun as => chkF p202 (v :: as)) else (M.bind (ldV (Str.ofString "price")) fun v => M.bind (chkI 212 (Str.ofString "match") v) fun _ => M.bind (M.bind (ldV (Str.ofString "first")) fun v => M.bind (M.bind (ldV (Str.ofString "second")) fun v => M.bind (M.pure []) fun vs => M.pure (v :: vs)) fun vs => M.pure (v :: vs)) fun as => chkF p209 (v :: as))) fun b => addM a b) fun a => stS ((putV (Str.ofString "whole")) a))
  nextS))
  (seqS (evS (ldV (Str.ofString "whole")) retS)
  nextS)))
noncomputable def p173 : PM := fun as H => if as.length = 2 then runB b173 (locOf ([(Str.ofString "steps"), (Str.ofString "price")].zip (as ++ []))) H else none
theorem f173 {S : Stc} (F : Fct S) : FS S 173 3 p173 := by
  unfold p173 b173
  refine' fs_at (n := 2) (xs := [(Str.ofString "steps"), (Str.ofString "price")]) F.h173 ?hb ?hnd ?hloc ?hk ?hco ?hgen ?hcell ?hbody
  case hb =>
    intro s vs name qual doc pm an cdv ct hv
    obtain ⟨a, b, rfl⟩ := ln2 hv
    exact BindsTo.of_eq rfl
  case hnd => decide
  case hloc => decide +kernel
  case hk => rfl
  case hco => rfl
  case hgen => rfl
  case hcell => decide +kernel
  case hbody =>
    intro A A₀ base h₀ outer L qual cdv hC
    exact (ss_cons (ss_assign_name se_int (fun _ _ => store_local hC rfl) rfl)
  (ss_cons (ss_for hC (se_local hC.toOk rfl (by decide)) (st_tuple hC.toOk (us := [(putV (Str.ofString "first")), (putV (Str.ofString "second"))]) ⟨(st_local hC rfl), (st_local hC rfl), trivial⟩ rfl rfl) (ss_cons (ss_assign_name (se_binop (se_local hC.toOk rfl (by decide)) (se_ifexp (sb_cmp (se_local hC.toOk rfl (by decide)) se_int cmp_sound rfl) (se_mcall hC.toOk F.m_lit ((f202 F).more (by decide)) (se_local hC.toOk rfl (by decide)) (sargs_cons (se_local hC.toOk rfl (by decide)) sargs_nil rfl) rfl (hst_of rfl)) (se_mcall hC.toOk F.m_match ((f209 F).more (by decide)) (se_local hC.toOk rfl (by decide)) (sargs_cons (se_local hC.toOk rfl (by decide)) (sargs_cons (se_local hC.toOk rfl (by decide)) sargs_nil rfl) rfl) rfl (hst_of rfl))) add_sound) (fun _ _ => store_local hC rfl) rfl)
  ss_nil) go_tuple (fun _ => rfl))
  (ss_cons (ss_ret (se_local hC.toOk rfl (by decide)))
  ss_nil)))
-- part P1
-- PlaceRow.__init__
noncomputable def b230 : SM := (seqS (iteS (M.bind (ldV (Str.ofString "size")) fun a => M.bind (constM (.int 1)) fun b => M.bind (cmpM .Lt a b) truM) failS nextS)
  (seqS (evS (ldV (Str.ofString "octets")) fun a => evS (ldV (Str.ofString "self")) fun b => stS (updM (setA (Str.ofString "octets") b a)))
  (seqS (evS (ldV (Str.ofString "size")) fun a => evS (ldV (Str.ofString "self")) fun b => stS (updM (setA (Str.ofString "size") b a)))
  (seqS (evS (newO (.idict [])) fun a => evS (ldV (Str.ofString "self")) fun b => stS (updM (setA (Str.ofString "last") b a)))
  (seqS (evS (M.bind (M.bind (M.bind (constM (.int (-1))) fun v => M.bind (M.pure []) fun vs => M.pure (v :: vs)) newL) fun a => M.bind (M.bind (M.bind (ldV (Str.ofString "octets")) fun v => M.bind (M.pure []) fun vs => M.pure (v :: vs)) lenB) fun b => repM a b) fun a => evS (ldV (Str.ofString "self")) fun b => stS (updM (setA (Str.ofString "before") b a)))
  nextS)))))
noncomputable def p230 : PM := fun as H => if as.length = 3 then runB b230 (locOf ([(Str.ofString "self"), (Str.ofString "octets"), (Str.ofString "size")].zip (as ++ []))) H else none
theorem f230 {S : Stc} (F : Fct S) : FS S 230 1 p230 := by
  unfold p230 b230
  refine' fs_at (n := 3) (xs := [(Str.ofString "self"), (Str.ofString "octets"), (Str.ofString "size")]) F.h230 ?hb ?hnd ?hloc ?hk ?hco ?hgen ?hcell ?hbody
  case hb =>
    intro s vs name qual doc pm an cdv ct hv
    obtain ⟨a, b, c, rfl⟩ := ln3 hv
    exact BindsTo.of_eq rfl
  case hnd => decide
  case hloc => decide +kernel
  case hk => rfl
  case hco => rfl
  case hgen => rfl
  case hcell => decide +kernel
  case hbody =>
    intro A A₀ base h₀ outer L qual cdv hC
    exact (ss_cons (ss_if (sb_cmp (se_local hC.toOk rfl (by decide)) se_int cmp_sound rfl) ssx_fail ss_nil)
  (ss_cons (ss_attr hC.toOk F.attrs (se_local hC.toOk rfl (by decide)) (se_local hC.toOk rfl (by decide)) rfl)
  (ss_cons (ss_attr hC.toOk F.attrs (se_local hC.toOk rfl (by decide)) (se_local hC.toOk rfl (by decide)) rfl)
  (ss_cons (ss_attr hC.toOk F.attrs (newDict_sound hC.toOk) (se_local hC.toOk rfl (by decide)) rfl)
  (ss_cons (ss_attr hC.toOk F.attrs (se_binop (se_list (sargs_cons (se_globI hC.toOk rfl (by decide) F.gNOWHERE) sargs_nil rfl)) (se_ncall hC.toOk (se_builtin hC.toOk rfl (by decide) F.blen rfl (by decide)) keeps_builtin len_sound (sargs_cons (se_local hC.toOk rfl (by decide)) sargs_nil rfl) rfl (hst_of rfl)) rep_sound) (se_local hC.toOk rfl (by decide)) rfl)
  ss_nil)))))

-- PlaceRow.key
noncomputable def b237 : SM := (seqS (iteS (M.bind (M.bind (ldV (Str.ofString "place")) fun a => M.bind (M.bind (ldV (Str.ofString "self")) (getA (Str.ofString "size"))) fun b => addM a b) fun a => M.bind (M.bind (M.bind (M.bind (ldV (Str.ofString "self")) (getA (Str.ofString "octets"))) fun v => M.bind (M.pure []) fun vs => M.pure (v :: vs)) lenB) fun b => M.bind (cmpM .Gt a b) truM) (seqS (evS (constM .none) retS)
  nextS) nextS)
  (seqS (evS (constM (.int 0)) fun a => stS ((putV (Str.ofString "number")) a))
  (seqS (forS (M.bind (M.bind (ldV (Str.ofString "self")) (getA (Str.ofString "octets"))) fun v => M.bind (M.bind (ldV (Str.ofString "place")) intP) fun lo => M.bind (M.bind (M.bind (ldV (Str.ofString "place")) fun a => M.bind (M.bind (ldV (Str.ofString "self")) (getA (Str.ofString "size"))) fun b => addM a b) intP) fun hi => cutM lo hi v) (fun _ => true) (putV (Str.ofString "octet")) (seqS (evS (M.bind (M.bind (ldV (Str.ofString "number")) fun a => M.bind (constM (.int 256)) fun b => mulM a b) fun a => M.bind (ldV (Str.ofString "octet")) fun b => addM a b) fun a => stS ((putV (Str.ofString "number")) a))
  nextS))
  (seqS (evS (ldV (Str.ofString "number")) retS)
  nextS))))
noncomputable def p237 : PM := fun as H => if as.length = 2 then runB b237 (locOf ([(Str.ofString "self"), (Str.ofString "place")].zip (as ++ []))) H else none
theorem f237 {S : Stc} (F : Fct S) : FS S 237 1 p237 := by
  unfold p237 b237
  refine' fs_at (n := 2) (xs := [(Str.ofString "self"), (Str.ofString "place")]) F.h237 ?hb ?hnd ?hloc ?hk ?hco ?hgen ?hcell ?hbody
  case hb =>
    intro s vs name qual doc pm an cdv ct hv
    obtain ⟨a, b, rfl⟩ := ln2 hv
    exact BindsTo.of_eq rfl
  case hnd => decide
  case hloc => decide +kernel
  case hk => rfl
  case hco => rfl
  case hgen => rfl
  case hcell => decide +kernel
  case hbody =>
    intro A A₀ base h₀ outer L qual cdv hC
    exact (ss_cons (ss_if (sb_cmp (se_binop (se_local hC.toOk rfl (by decide)) (se_attr hC.toOk F.attrs (se_local hC.toOk rfl (by decide)) rfl) add_sound) (se_ncall hC.toOk (se_builtin hC.toOk rfl (by decide) F.blen rfl (by decide)) keeps_builtin len_sound (sargs_cons (se_attr hC.toOk F.attrs (se_local hC.toOk rfl (by decide)) rfl) sargs_nil rfl) rfl (hst_of rfl)) cmp_sound rfl) (ss_cons (ss_ret se_none)
  ss_nil) ss_nil)
  (ss_cons (ss_assign_name se_int (fun _ _ => store_local hC rfl) rfl)
  (ss_cons (ss_for hC (se_cut (se_attr hC.toOk F.attrs (se_local hC.toOk rfl (by decide)) rfl) (spart_some (se_local hC.toOk rfl (by decide))) (spart_some (se_binop (se_local hC.toOk rfl (by decide)) (se_attr hC.toOk F.attrs (se_local hC.toOk rfl (by decide)) rfl) add_sound)) (fun _ _ => rfl) (fun _ _ _ => rfl)) (st_local hC rfl) (ss_cons (ss_assign_name (se_binop (se_binop (se_local hC.toOk rfl (by decide)) se_int mul_sound) (se_local hC.toOk rfl (by decide)) add_sound) (fun _ _ => store_local hC rfl) rfl)
  ss_nil) go_name (fun _ => rfl))
  (ss_cons (ss_ret (se_local hC.toOk rfl (by decide)))
  ss_nil))))

-- PlaceRow.put
noncomputable def b244 : SM := (seqS (evS (M.bind (ldV (Str.ofString "self")) fun v => M.bind (chkI 254 (Str.ofString "key") v) fun _ => M.bind (M.bind (ldV (Str.ofString "place")) fun v => M.bind (M.pure []) fun vs => M.pure (v :: vs)) fun as => chkF p237 (v :: as)) fun a => stS ((putV (Str.ofString "number")) a))
  (seqS (iteS (M.bind (ldV (Str.ofString "number")) fun a => M.bind (constM .none) fun b => M.bind (isNoneM false a b) truM) (seqS (evS (M.bind (M.bind (ldV (Str.ofString "self")) (getA (Str.ofString "last"))) fun v => M.bind (isDctM v) fun _ => M.bind (M.bind (ldV (Str.ofString "number")) fun v => M.bind (M.bind (constM (.int (-1))) fun v => M.bind (M.pure []) fun vs => M.pure (v :: vs)) fun vs => M.pure (v :: vs)) fun as => getB (v :: as)) fun a => evS (M.bind (ldV (Str.ofString "self")) (getA (Str.ofString "before"))) fun b => evS (ldV (Str.ofString "place")) fun k => stS (updM (setIL b k a)))
  (seqS (evS (ldV (Str.ofString "place")) fun a => evS (M.bind (ldV (Str.ofString "self")) (getA (Str.ofString "last"))) fun b => evS (ldV (Str.ofString "number")) fun k => stS (updM (setItD b k a)))
  nextS)) nextS)
  nextS))
noncomputable def p244 : PM := fun as H => if as.length = 2 then runB b244 (locOf ([(Str.ofString "self"), (Str.ofString "place")].zip (as ++ []))) H else none
theorem f244 {S : Stc} (F : Fct S) : FS S 244 2 p244 := by
  unfold p244 b244
  refine' fs_at (n := 2) (xs := [(Str.ofString "self"), (Str.ofString "place")]) F.h244 ?hb ?hnd ?hloc ?hk ?hco ?hgen ?hcell ?hbody
  case hb =>
    intro s vs name qual doc pm an cdv ct hv
    obtain ⟨a, b, rfl⟩ := ln2 hv
    exact BindsTo.of_eq rfl
  case hnd => decide
  case hloc => decide +kernel
  case hk => rfl
  case hco => rfl
  case hgen => rfl
  case hcell => decide +kernel
  case hbody =>
    intro A A₀ base h₀ outer L qual cdv hC
    exact (ss_cons (ss_assign_name (se_mcall hC.toOk F.m_key ((f237 F).more (by decide)) (se_local hC.toOk rfl (by decide)) (sargs_cons (se_local hC.toOk rfl (by decide)) sargs_nil rfl) rfl (hst_of rfl)) (fun _ _ => store_local hC rfl) rfl)
  (ss_cons (ss_if (sb_cmp (se_local hC.toOk rfl (by decide)) se_none isNot_sound rfl) (ss_cons (ss_item (se_bmeth hC.toOk (se_attr hC.toOk F.attrs (se_local hC.toOk rfl (by decide)) rfl) getGet_sound get_sound (sargs_cons (se_local hC.toOk rfl (by decide)) (sargs_cons (se_globI hC.toOk rfl (by decide) F.gNOWHERE) sargs_nil rfl) rfl) rfl (hst_of rfl)) (se_attr hC.toOk F.attrs (se_local hC.toOk rfl (by decide)) rfl) (se_local hC.toOk rfl (by decide)) (fun _ _ _ _ _ _ => setIL_sound) rfl)
  (ss_cons (ss_item (se_local hC.toOk rfl (by decide)) (se_attr hC.toOk F.attrs (se_local hC.toOk rfl (by decide)) rfl) (se_local hC.toOk rfl (by decide)) (fun _ _ _ _ _ _ => setID_sound) rfl)
  ss_nil)) ss_nil)
  ss_nil))

-- PlaceRow.newest
noncomputable def b251 : SM := (seqS (evS (M.bind (ldV (Str.ofString "self")) fun v => M.bind (chkI 254 (Str.ofString "key") v) fun _ => M.bind (M.bind (ldV (Str.ofString "place")) fun v => M.bind (M.pure []) fun vs => M.pure (v :: vs)) fun as => chkF p237 (v :: as)) fun a => stS ((putV (Str.ofString "number")) a))
  (seqS (iteS (M.bind (ldV (Str.ofString "number")) fun a => M.bind (constM .none) fun b => M.bind (isNoneM true a b) truM) (seqS (evS (constM (.int (-1))) retS)
  nextS) nextS)
  (seqS (evS (M.bind (M.bind (ldV (Str.ofString "self")) (getA (Str.ofString "last"))) fun v => M.bind (isDctM v) fun _ => M.bind (M.bind (ldV (Str.ofString "number")) fun v => M.bind (M.bind (constM (.int (-1))) fun v => M.bind (M.pure []) fun vs => M.pure (v :: vs)) fun vs => M.pure (v :: vs)) fun as => getB (v :: as)) fun a => stS ((putV (Str.ofString "other")) a))
  (seqS (whileM (M.bind (ldV (Str.ofString "other")) fun a => M.bind (ldV (Str.ofString "place")) fun b => M.bind (cmpM .GtE a b) truM) (seqS (evS (M.bind (M.bind (ldV (Str.ofString "self")) (getA (Str.ofString "before"))) fun o => M.bind (ldV (Str.ofString "other")) fun k => getI o k) fun a => stS ((putV (Str.ofString "other")) a))
  nextS) 64)
  (seqS (evS (ldV (Str.ofString "other")) retS)
  nextS)))))
noncomputable def p251 : PM := fun as H => if as.length = 2 then runB b251 (locOf ([(Str.ofString "self"), (Str.ofString "place")].zip (as ++ []))) H else none
theorem f251 {S : Stc} (F : Fct S) : FS S 251 2 p251 := by
  unfold p251 b251
  refine' fs_at (n := 2) (xs := [(Str.ofString "self"), (Str.ofString "place")]) F.h251 ?hb ?hnd ?hloc ?hk ?hco ?hgen ?hcell ?hbody
  case hb =>
    intro s vs name qual doc pm an cdv ct hv
    obtain ⟨a, b, rfl⟩ := ln2 hv
    exact BindsTo.of_eq rfl
  case hnd => decide
  case hloc => decide +kernel
  case hk => rfl
  case hco => rfl
  case hgen => rfl
  case hcell => decide +kernel
  case hbody =>
    intro A A₀ base h₀ outer L qual cdv hC
    exact (ss_cons (ss_assign_name (se_mcall hC.toOk F.m_key ((f237 F).more (by decide)) (se_local hC.toOk rfl (by decide)) (sargs_cons (se_local hC.toOk rfl (by decide)) sargs_nil rfl) rfl (hst_of rfl)) (fun _ _ => store_local hC rfl) rfl)
  (ss_cons (ss_if (sb_cmp (se_local hC.toOk rfl (by decide)) se_none is_sound rfl) (ss_cons (ss_ret (se_globI hC.toOk rfl (by decide) F.gNOWHERE))
  ss_nil) ss_nil)
  (ss_cons (ss_assign_name (se_bmeth hC.toOk (se_attr hC.toOk F.attrs (se_local hC.toOk rfl (by decide)) rfl) getGet_sound get_sound (sargs_cons (se_local hC.toOk rfl (by decide)) (sargs_cons (se_globI hC.toOk rfl (by decide) F.gNOWHERE) sargs_nil rfl) rfl) rfl (hst_of rfl)) (fun _ _ => store_local hC rfl) rfl)
  (ss_cons (ss_while (sb_cmp (se_local hC.toOk rfl (by decide)) (se_local hC.toOk rfl (by decide)) cmp_sound rfl) (ss_cons (ss_assign_name (se_sub (se_attr hC.toOk F.attrs (se_local hC.toOk rfl (by decide)) rfl) (se_local hC.toOk rfl (by decide)) (fun _ _ => rfl)) (fun _ _ => store_local hC rfl) rfl)
  ss_nil))
  (ss_cons (ss_ret (se_local hC.toOk rfl (by decide)))
  ss_nil)))))

-- Matcher.__init__
noncomputable def b272 : SM := (seqS (iteS (M.bind (ldV (Str.ofString "least")) fun a => M.bind (constM (.int 1)) fun b => M.bind (cmpM .Lt a b) truM) failS nextS)
  (seqS (iteS (M.bind (ldV (Str.ofString "window")) fun a => M.bind (constM (.int 1)) fun b => M.bind (cmpM .Lt a b) truM) failS nextS)
  (seqS (iteS (M.bind (ldV (Str.ofString "chain")) fun a => M.bind (constM (.int 1)) fun b => M.bind (cmpM .Lt a b) truM) failS nextS)
  (seqS (evS (M.bind (M.bind (ldV (Str.ofString "octets")) fun v => M.bind (M.pure []) fun vs => M.pure (v :: vs)) bytesB) fun a => evS (ldV (Str.ofString "self")) fun b => stS (updM (setA (Str.ofString "octets") b a)))
  (seqS (evS (ldV (Str.ofString "least")) fun a => evS (ldV (Str.ofString "self")) fun b => stS (updM (setA (Str.ofString "least") b a)))
  (seqS (evS (ldV (Str.ofString "window")) fun a => evS (ldV (Str.ofString "self")) fun b => stS (updM (setA (Str.ofString "window") b a)))
  (seqS (evS (ldV (Str.ofString "chain")) fun a => evS (ldV (Str.ofString "self")) fun b => stS (updM (setA (Str.ofString "chain") b a)))
  (seqS (evS (constM (.int 0)) fun a => evS (ldV (Str.ofString "self")) fun b => stS (updM (setA (Str.ofString "ahead") b a)))
  nextS))))))))
noncomputable def p272 : PM := fun as H => if as.length = 5 then runB b272 (locOf ([(Str.ofString "self"), (Str.ofString "octets"), (Str.ofString "least"), (Str.ofString "window"), (Str.ofString "chain")].zip (as ++ []))) H else none
theorem f272 {S : Stc} (F : Fct S) : FS S 272 1 p272 := by
  unfold p272 b272
  refine' fs_at (n := 5) (xs := [(Str.ofString "self"), (Str.ofString "octets"), (Str.ofString "least"), (Str.ofString "window"), (Str.ofString "chain")]) F.h272 ?hb ?hnd ?hloc ?hk ?hco ?hgen ?hcell ?hbody
  case hb =>
    intro s vs name qual doc pm an cdv ct hv
    obtain ⟨a, b, c, d, e, rfl⟩ := ln5 hv
    exact BindsTo.of_eq rfl
  case hnd => decide
  case hloc => decide +kernel
  case hk => rfl
  case hco => rfl
  case hgen => rfl
  case hcell => decide +kernel
  case hbody =>
    intro A A₀ base h₀ outer L qual cdv hC
    exact (ss_cons (ss_if (sb_cmp (se_local hC.toOk rfl (by decide)) se_int cmp_sound rfl) ssx_fail ss_nil)
  (ss_cons (ss_if (sb_cmp (se_local hC.toOk rfl (by decide)) se_int cmp_sound rfl) ssx_fail ss_nil)
  (ss_cons (ss_if (sb_cmp (se_local hC.toOk rfl (by decide)) se_int cmp_sound rfl) ssx_fail ss_nil)
  (ss_cons (ss_attr hC.toOk F.attrs (se_ncall hC.toOk (se_builtin hC.toOk rfl (by decide) F.bbytes rfl (by decide)) keeps_type (bytes_sound hC.toOk) (sargs_cons (se_local hC.toOk rfl (by decide)) sargs_nil rfl) rfl (hst_of rfl)) (se_local hC.toOk rfl (by decide)) rfl)
  (ss_cons (ss_attr hC.toOk F.attrs (se_local hC.toOk rfl (by decide)) (se_local hC.toOk rfl (by decide)) rfl)
  (ss_cons (ss_attr hC.toOk F.attrs (se_local hC.toOk rfl (by decide)) (se_local hC.toOk rfl (by decide)) rfl)
  (ss_cons (ss_attr hC.toOk F.attrs (se_local hC.toOk rfl (by decide)) (se_local hC.toOk rfl (by decide)) rfl)
  (ss_cons (ss_attr hC.toOk F.attrs se_int (se_local hC.toOk rfl (by decide)) rfl)
  ss_nil))))))))

-- Finder.enter
noncomputable def b371 : SM := (seqS (evS (M.bind (M.bind (ldV (Str.ofString "self")) (getA (Str.ofString "row"))) fun v => M.bind (chkI 254 (Str.ofString "put") v) fun _ => M.bind (M.bind (ldV (Str.ofString "place")) fun v => M.bind (M.pure []) fun vs => M.pure (v :: vs)) fun as => chkF p244 (v :: as)) exprK)
  nextS)
noncomputable def p371 : PM := fun as H => if as.length = 2 then runB b371 (locOf ([(Str.ofString "self"), (Str.ofString "place")].zip (as ++ []))) H else none
theorem f371 {S : Stc} (F : Fct S) : FS S 371 3 p371 := by
  unfold p371 b371
  refine' fs_at (n := 2) (xs := [(Str.ofString "self"), (Str.ofString "place")]) F.h371 ?hb ?hnd ?hloc ?hk ?hco ?hgen ?hcell ?hbody
  case hb =>
    intro s vs name qual doc pm an cdv ct hv
    obtain ⟨a, b, rfl⟩ := ln2 hv
    exact BindsTo.of_eq rfl
  case hnd => decide
  case hloc => decide +kernel
  case hk => rfl
  case hco => rfl
  case hgen => rfl
  case hcell => decide +kernel
  case hbody =>
    intro A A₀ base h₀ outer L qual cdv hC
    exact (ss_cons (ss_exprK (se_mcall hC.toOk F.m_putR ((f244 F).more (by decide)) (se_attr hC.toOk F.attrs (se_local hC.toOk rfl (by decide)) rfl) (sargs_cons (se_local hC.toOk rfl (by decide)) sargs_nil rfl) rfl (hst_of rfl)) rfl rfl)
  ss_nil)

-- Matcher.put
noncomputable def b279 : SM := (seqS (iteS (orM (M.bind (ldV (Str.ofString "place")) fun a => M.bind (M.bind (ldV (Str.ofString "self")) (getA (Str.ofString "ahead"))) fun b => M.bind (cmpM .Lt a b) truM) (orM (M.bind (ldV (Str.ofString "place")) fun a => M.bind (M.bind (M.bind (M.bind (ldV (Str.ofString "self")) (getA (Str.ofString "octets"))) fun v => M.bind (M.pure []) fun vs => M.pure (v :: vs)) lenB) fun b => M.bind (cmpM .GtE a b) truM) (M.pure false))) failS nextS)
  (seqS (evS (M.bind (ldV (Str.ofString "place")) fun a => M.bind (constM (.int 1)) fun b => addM a b) fun a => evS (ldV (Str.ofString "self")) fun b => stS (updM (setA (Str.ofString "ahead") b a)))
  (seqS (evS (M.bind (ldV (Str.ofString "self")) fun v => M.bind (chkI 388 (Str.ofString "enter") v) fun _ => M.bind (M.bind (ldV (Str.ofString "place")) fun v => M.bind (M.pure []) fun vs => M.pure (v :: vs)) fun as => chkF p371 (v :: as)) exprK)
  nextS)))
noncomputable def p279 : PM := fun as H => if as.length = 2 then runB b279 (locOf ([(Str.ofString "self"), (Str.ofString "place")].zip (as ++ []))) H else none
theorem f279 {S : Stc} (F : Fct S) : FS S 279 4 p279 := by
  unfold p279 b279
  refine' fs_at (n := 2) (xs := [(Str.ofString "self"), (Str.ofString "place")]) F.h279 ?hb ?hnd ?hloc ?hk ?hco ?hgen ?hcell ?hbody
  case hb =>
    intro s vs name qual doc pm an cdv ct hv
    obtain ⟨a, b, rfl⟩ := ln2 hv
    exact BindsTo.of_eq rfl
  case hnd => decide
  case hloc => decide +kernel
  case hk => rfl
  case hco => rfl
  case hgen => rfl
  case hcell => decide +kernel
  case hbody =>
    intro A A₀ base h₀ outer L qual cdv hC
    exact (ss_cons (ss_if (sb_boolop (sall_or (sb_cmp (se_local hC.toOk rfl (by decide)) (se_attr hC.toOk F.attrs (se_local hC.toOk rfl (by decide)) rfl) cmp_sound rfl) (sall_or (sb_cmp (se_local hC.toOk rfl (by decide)) (se_ncall hC.toOk (se_builtin hC.toOk rfl (by decide) F.blen rfl (by decide)) keeps_builtin len_sound (sargs_cons (se_attr hC.toOk F.attrs (se_local hC.toOk rfl (by decide)) rfl) sargs_nil rfl) rfl (hst_of rfl)) cmp_sound rfl) sall_or_nil))) ssx_fail ss_nil)
  (ss_cons (ss_attr hC.toOk F.attrs (se_binop (se_local hC.toOk rfl (by decide)) se_int add_sound) (se_local hC.toOk rfl (by decide)) rfl)
  (ss_cons (ss_exprK (se_mcall hC.toOk F.m_enter ((f371 F).more (by decide)) (se_local hC.toOk rfl (by decide)) (sargs_cons (se_local hC.toOk rfl (by decide)) sargs_nil rfl) rfl (hst_of rfl)) rfl rfl)
  ss_nil)))

-- Matcher.limit
noncomputable def b300 : SM := (seqS (evS (M.bind (M.bind (ldV (Str.ofString "most")) fun v => M.bind (M.bind (M.bind (M.bind (M.bind (M.bind (ldV (Str.ofString "self")) (getA (Str.ofString "octets"))) fun v => M.bind (M.pure []) fun vs => M.pure (v :: vs)) lenB) fun a => M.bind (ldV (Str.ofString "place")) fun b => subM a b) fun v => M.bind (M.pure []) fun vs => M.pure (v :: vs)) fun vs => M.pure (v :: vs)) minB) retS)
  nextS)
noncomputable def p300 : PM := fun as H => if as.length = 3 then runB b300 (locOf ([(Str.ofString "self"), (Str.ofString "place"), (Str.ofString "most")].zip (as ++ []))) H else none
theorem f300 {S : Stc} (F : Fct S) : FS S 300 1 p300 := by
  unfold p300 b300
  refine' fs_at (n := 3) (xs := [(Str.ofString "self"), (Str.ofString "place"), (Str.ofString "most")]) F.h300 ?hb ?hnd ?hloc ?hk ?hco ?hgen ?hcell ?hbody
  case hb =>
    intro s vs name qual doc pm an cdv ct hv
    obtain ⟨a, b, c, rfl⟩ := ln3 hv
    exact BindsTo.of_eq rfl
  case hnd => decide
  case hloc => decide +kernel
  case hk => rfl
  case hco => rfl
  case hgen => rfl
  case hcell => decide +kernel
  case hbody =>
    intro A A₀ base h₀ outer L qual cdv hC
    exact (ss_cons (ss_ret (se_ncall hC.toOk (se_builtin hC.toOk rfl (by decide) F.bmin rfl (by decide)) keeps_builtin (min_sound hC.toOk) (sargs_cons (se_local hC.toOk rfl (by decide)) (sargs_cons (se_binop (se_ncall hC.toOk (se_builtin hC.toOk rfl (by decide) F.blen rfl (by decide)) keeps_builtin len_sound (sargs_cons (se_attr hC.toOk F.attrs (se_local hC.toOk rfl (by decide)) rfl) sargs_nil rfl) rfl (hst_of rfl)) (se_local hC.toOk rfl (by decide)) sub_sound) sargs_nil rfl) rfl) rfl (hst_of rfl)))
  ss_nil)

-- Matcher.alike
noncomputable def b314 : SM := (seqS (evS (M.bind (ldV (Str.ofString "self")) (getA (Str.ofString "octets"))) fun a => stS ((putV (Str.ofString "octets")) a))
  (seqS (whileM (andM (M.bind (ldV (Str.ofString "known")) fun a => M.bind (ldV (Str.ofString "limit")) fun b => M.bind (cmpM .Lt a b) truM) (andM (M.bind (M.bind (ldV (Str.ofString "octets")) fun o => M.bind (M.bind (ldV (Str.ofString "place")) fun a => M.bind (ldV (Str.ofString "known")) fun b => addM a b) fun k => getI o k) fun a => M.bind (M.bind (ldV (Str.ofString "octets")) fun o => M.bind (M.bind (ldV (Str.ofString "other")) fun a => M.bind (ldV (Str.ofString "known")) fun b => addM a b) fun k => getI o k) fun b => M.bind (cmpM .Eq a b) truM) (M.pure true))) (seqS (evS (ldV (Str.ofString "known")) fun a => evS (constM (.int 1)) fun b => evS (addM a b) fun r => stS ((putV (Str.ofString "known")) r))
  nextS) 64)
  (seqS (evS (ldV (Str.ofString "known")) retS)
  nextS)))
noncomputable def p314 : PM := fun as H => if as.length = 5 then runB b314 (locOf ([(Str.ofString "self"), (Str.ofString "place"), (Str.ofString "other"), (Str.ofString "known"), (Str.ofString "limit")].zip (as ++ []))) H else none
theorem f314 {S : Stc} (F : Fct S) : FS S 314 1 p314 := by
  unfold p314 b314
  refine' fs_at (n := 5) (xs := [(Str.ofString "self"), (Str.ofString "place"), (Str.ofString "other"), (Str.ofString "known"), (Str.ofString "limit")]) F.h314 ?hb ?hnd ?hloc ?hk ?hco ?hgen ?hcell ?hbody
  case hb =>
    intro s vs name qual doc pm an cdv ct hv
    obtain ⟨a, b, c, d, e, rfl⟩ := ln5 hv
    exact BindsTo.of_eq rfl
  case hnd => decide
  case hloc => decide +kernel
  case hk => rfl
  case hco => rfl
  case hgen => rfl
  case hcell => decide +kernel
  case hbody =>
    intro A A₀ base h₀ outer L qual cdv hC
    exact (ss_cons (ss_assign_name (se_attr hC.toOk F.attrs (se_local hC.toOk rfl (by decide)) rfl) (fun _ _ => store_local hC rfl) rfl)
  (ss_cons (ss_while (sb_boolop (sall_and (sb_cmp (se_local hC.toOk rfl (by decide)) (se_local hC.toOk rfl (by decide)) cmp_sound rfl) (sall_and (sb_cmp (se_sub (se_local hC.toOk rfl (by decide)) (se_binop (se_local hC.toOk rfl (by decide)) (se_local hC.toOk rfl (by decide)) add_sound) (fun _ _ => rfl)) (se_sub (se_local hC.toOk rfl (by decide)) (se_binop (se_local hC.toOk rfl (by decide)) (se_local hC.toOk rfl (by decide)) add_sound) (fun _ _ => rfl)) cmp_sound rfl) sall_and_nil))) (ss_cons (ss_aug (tt_load_local hC.toOk rfl) se_int iadd_sound (fun _ _ => store_local hC rfl))
  ss_nil))
  (ss_cons (ss_ret (se_local hC.toOk rfl (by decide)))
  ss_nil)))

-- Matcher.is_near
noncomputable def b321 : SM := (seqS (evS (M.bind (M.bind (ldV (Str.ofString "other")) fun a => M.bind (constM (.int (-1))) fun b => cmpM .NotEq a b) fun a => M.bind (truM a) fun b => if b = true then (M.bind (M.bind (ldV (Str.ofString "place")) fun a => M.bind (ldV (Str.ofString "other")) fun b => subM a b) fun a => M.bind (M.bind (ldV (Str.ofString "self")) (getA (Str.ofString "window"))) fun b => cmpM .LtE a b) else M.pure a) retS)
  nextS)
noncomputable def p321 : PM := fun as H => if as.length = 3 then runB b321 (locOf ([(Str.ofString "self"), (Str.ofString "place"), (Str.ofString "other")].zip (as ++ []))) H else none
theorem f321 {S : Stc} (F : Fct S) : FS S 321 1 p321 := by
  unfold p321 b321
  refine' fs_at (n := 3) (xs := [(Str.ofString "self"), (Str.ofString "place"), (Str.ofString "other")]) F.h321 ?hb ?hnd ?hloc ?hk ?hco ?hgen ?hcell ?hbody
  case hb =>
    intro s vs name qual doc pm an cdv ct hv
    obtain ⟨a, b, c, rfl⟩ := ln3 hv
    exact BindsTo.of_eq rfl
  case hnd => decide
  case hloc => decide +kernel
  case hk => rfl
  case hco => rfl
  case hgen => rfl
  case hcell => decide +kernel
  case hbody =>
    intro A A₀ base h₀ outer L qual cdv hC
    exact (ss_cons (ss_ret (se_and2 (se_cmp (se_local hC.toOk rfl (by decide)) (se_globI hC.toOk rfl (by decide) F.gNOWHERE) cmp_sound rfl) (se_cmp (se_binop (se_local hC.toOk rfl (by decide)) (se_local hC.toOk rfl (by decide)) sub_sound) (se_attr hC.toOk F.attrs (se_local hC.toOk rfl (by decide)) rfl) cmp_sound rfl)))
  ss_nil)

-- Finder.__init__
noncomputable def b364 : SM := (seqS (evS (M.bind (M.bind (ldV (Str.ofString "self")) fun v => M.bind (M.bind (ldV (Str.ofString "octets")) fun v => M.bind (M.bind (ldV (Str.ofString "least")) fun v => M.bind (M.bind (ldV (Str.ofString "window")) fun v => M.bind (M.bind (ldV (Str.ofString "chain")) fun v => M.bind (M.pure []) fun vs => M.pure (v :: vs)) fun vs => M.pure (v :: vs)) fun vs => M.pure (v :: vs)) fun vs => M.pure (v :: vs)) fun vs => M.pure (v :: vs)) (chkF p272)) exprK)
  (seqS (evS (M.bind (M.bind (M.bind (ldV (Str.ofString "self")) (getA (Str.ofString "octets"))) fun v => M.bind (M.bind (ldV (Str.ofString "least")) fun v => M.bind (M.pure []) fun vs => M.pure (v :: vs)) fun vs => M.pure (v :: vs)) (newI 254 p230)) fun a => evS (ldV (Str.ofString "self")) fun b => stS (updM (setA (Str.ofString "row") b a)))
  nextS))
noncomputable def p364 : PM := fun as H => if as.length = 5 then runB b364 (locOf ([(Str.ofString "self"), (Str.ofString "octets"), (Str.ofString "least"), (Str.ofString "window"), (Str.ofString "chain")].zip (as ++ []))) H else none
theorem f364 {S : Stc} (F : Fct S) : FS S 364 3 p364 := by
  unfold p364 b364
  refine' fs_atV (n := 5) (xs := [(Str.ofString "self"), (Str.ofString "octets"), (Str.ofString "least"), (Str.ofString "window"), (Str.ofString "chain")]) (dv := []) F.h364 ?hb ?hnd ?hloc ?hk ?hco ?hgen ?hcell ?hbody
  case hb =>
    intro s vs name qual doc pm an cdv ct T o k items X hT hs hi hv
    obtain ⟨t, u, v, rfl⟩ := hi
    obtain ⟨a, b, c, d, e, rfl⟩ := ln5 hv
    exact ⟨[], trivial, binds_K X rfl hT hs rfl rfl⟩
  case hnd => decide
  case hloc => decide +kernel
  case hk => rfl
  case hco => rfl
  case hgen => rfl
  case hcell => decide +kernel
  case hbody =>
    intro A A₀ base h₀ outer L qual cdv hC
    exact (ss_cons (ss_exprK (se_scall hC.toOk F.s_init ((f272 F).more (by decide)) (se_glob hC.toOk rfl (by decide) F.gMatcher rfl) (sargs_cons (se_local hC.toOk rfl (by decide)) (sargs_cons (se_local hC.toOk rfl (by decide)) (sargs_cons (se_local hC.toOk rfl (by decide)) (sargs_cons (se_local hC.toOk rfl (by decide)) (sargs_cons (se_local hC.toOk rfl (by decide)) sargs_nil rfl) rfl) rfl) rfl) rfl) rfl (hst_of rfl)) rfl rfl)
  (ss_cons (ss_attr hC.toOk F.attrs (se_ncall hC.toOk (se_glob hC.toOk rfl (by decide) F.gPlaceRow rfl) (keeps_ref F.kPlaceRow) (fun _ _ => cls_sound hC.toOk F.c_PlaceRow ((f230 F).more (by decide))) (sargs_cons (se_attr hC.toOk F.attrs (se_local hC.toOk rfl (by decide)) rfl) (sargs_cons (se_local hC.toOk rfl (by decide)) sargs_nil rfl) rfl) rfl (hst_of rfl)) (se_local hC.toOk rfl (by decide)) rfl)
  ss_nil))

-- Finder.candidates
noncomputable def b378 : SM := (seqS (evS (M.bind (M.pure []) newL) fun a => stS ((putV (Str.ofString "found")) a))
  (seqS (evS (M.bind (M.bind (ldV (Str.ofString "self")) (getA (Str.ofString "row"))) fun v => M.bind (chkI 254 (Str.ofString "newest") v) fun _ => M.bind (M.bind (ldV (Str.ofString "place")) fun v => M.bind (M.pure []) fun vs => M.pure (v :: vs)) fun as => chkF p251 (v :: as)) fun a => stS ((putV (Str.ofString "other")) a))
  (seqS (whileM (andM (M.bind (M.bind (ldV (Str.ofString "self")) fun v => M.bind (chkI 388 (Str.ofString "is_near") v) fun _ => M.bind (M.bind (ldV (Str.ofString "place")) fun v => M.bind (M.bind (ldV (Str.ofString "other")) fun v => M.bind (M.pure []) fun vs => M.pure (v :: vs)) fun vs => M.pure (v :: vs)) fun as => chkF p321 (v :: as)) truM) (andM (M.bind (M.bind (M.bind (ldV (Str.ofString "found")) fun v => M.bind (M.pure []) fun vs => M.pure (v :: vs)) lenB) fun a => M.bind (M.bind (ldV (Str.ofString "self")) (getA (Str.ofString "chain"))) fun b => M.bind (cmpM .Lt a b) truM) (M.pure true))) (seqS (evS (M.bind (ldV (Str.ofString "found")) fun v => M.bind (isLstM v) fun _ => M.bind (M.bind (ldV (Str.ofString "other")) fun v => M.bind (M.pure []) fun vs => M.pure (v :: vs)) fun as => appB (v :: as)) exprK)
  (seqS (evS (M.bind (M.bind (M.bind (ldV (Str.ofString "self")) (getA (Str.ofString "row"))) (getA (Str.ofString "before"))) fun o => M.bind (ldV (Str.ofString "other")) fun k => getI o k) fun a => stS ((putV (Str.ofString "other")) a))
  nextS)) 64)
  (seqS (evS (ldV (Str.ofString "found")) retS)
  nextS))))
noncomputable def p378 : PM := fun as H => if as.length = 2 then runB b378 (locOf ([(Str.ofString "self"), (Str.ofString "place")].zip (as ++ []))) H else none
theorem f378 {S : Stc} (F : Fct S) : FS S 378 3 p378 := by
  unfold p378 b378
  refine' fs_at (n := 2) (xs := [(Str.ofString "self"), (Str.ofString "place")]) F.h378 ?hb ?hnd ?hloc ?hk ?hco ?hgen ?hcell ?hbody
  case hb =>
    intro s vs name qual doc pm an cdv ct hv
    obtain ⟨a, b, rfl⟩ := ln2 hv
    exact BindsTo.of_eq rfl
  case hnd => decide
  case hloc => decide +kernel
  case hk => rfl
  case hco => rfl
  case hgen => rfl
  case hcell => decide +kernel
  case hbody =>
    intro A A₀ base h₀ outer L qual cdv hC
    exact (ss_cons (ss_assign_name (se_list sargs_nil) (fun _ _ => store_local hC rfl) rfl)
  (ss_cons (ss_assign_name (se_mcall hC.toOk F.m_newest ((f251 F).more (by decide)) (se_attr hC.toOk F.attrs (se_local hC.toOk rfl (by decide)) rfl) (sargs_cons (se_local hC.toOk rfl (by decide)) sargs_nil rfl) rfl (hst_of rfl)) (fun _ _ => store_local hC rfl) rfl)
  (ss_cons (ss_while (sb_boolop (sall_and (sb_value (se_mcall hC.toOk F.m_near ((f321 F).more (by decide)) (se_local hC.toOk rfl (by decide)) (sargs_cons (se_local hC.toOk rfl (by decide)) (sargs_cons (se_local hC.toOk rfl (by decide)) sargs_nil rfl) rfl) rfl (hst_of rfl)) rfl) (sall_and (sb_cmp (se_ncall hC.toOk (se_builtin hC.toOk rfl (by decide) F.blen rfl (by decide)) keeps_builtin len_sound (sargs_cons (se_local hC.toOk rfl (by decide)) sargs_nil rfl) rfl (hst_of rfl)) (se_attr hC.toOk F.attrs (se_local hC.toOk rfl (by decide)) rfl) cmp_sound rfl) sall_and_nil))) (ss_cons (ss_exprK (se_bmeth hC.toOk (se_local hC.toOk rfl (by decide)) getAppend_sound app_sound (sargs_cons (se_local hC.toOk rfl (by decide)) sargs_nil rfl) rfl (hst_of rfl)) rfl rfl)
  (ss_cons (ss_assign_name (se_sub (se_attr hC.toOk F.attrs (se_attr hC.toOk F.attrs (se_local hC.toOk rfl (by decide)) rfl) rfl) (se_local hC.toOk rfl (by decide)) (fun _ _ => rfl)) (fun _ _ => store_local hC rfl) rfl)
  ss_nil)))
  (ss_cons (ss_ret (se_local hC.toOk rfl (by decide)))
  ss_nil))))

-- Finder.every
noncomputable def b385 : SM := (seqS (evS (M.bind (M.bind (M.bind (M.pure []) newL) fun v => M.bind (M.bind (M.bind (ldV (Str.ofString "self")) fun v => M.bind (chkI 388 (Str.ofString "limit") v) fun _ => M.bind (M.bind (ldV (Str.ofString "place")) fun v => M.bind (M.bind (ldV (Str.ofString "most")) fun v => M.bind (M.pure []) fun vs => M.pure (v :: vs)) fun vs => M.pure (v :: vs)) fun as => chkF p300 (v :: as)) fun v => M.bind (M.pure []) fun vs => M.pure (v :: vs)) fun vs => M.pure (v :: vs)) newT) fun a => stS (swapU [(Str.ofString "found"), (Str.ofString "limit")] a))
  (seqS (evS (M.bind (M.bind (ldV (Str.ofString "self")) (getA (Str.ofString "least"))) fun a => M.bind (constM (.int 1)) fun b => subM a b) fun a => stS ((putV (Str.ofString "longest")) a))
  (seqS (forS (M.bind (ldV (Str.ofString "self")) fun v => M.bind (chkI 388 (Str.ofString "candidates") v) fun _ => M.bind (M.bind (ldV (Str.ofString "place")) fun v => M.bind (M.pure []) fun vs => M.pure (v :: vs)) fun as => chkF p378 (v :: as)) (fun _ => true) (putV (Str.ofString "other")) (seqS (iteS (M.bind (ldV (Str.ofString "longest")) fun a => M.bind (ldV (Str.ofString "limit")) fun b => M.bind (cmpM .GtE a b) truM) (seqS brkS
  nextS) nextS)
  (seqS (iteS (M.bind (M.bind (M.bind (ldV (Str.ofString "self")) (getA (Str.ofString "octets"))) fun o => M.bind (M.bind (ldV (Str.ofString "other")) fun a => M.bind (ldV (Str.ofString "longest")) fun b => addM a b) fun k => getI o k) fun a => M.bind (M.bind (M.bind (ldV (Str.ofString "self")) (getA (Str.ofString "octets"))) fun o => M.bind (M.bind (ldV (Str.ofString "place")) fun a => M.bind (ldV (Str.ofString "longest")) fun b => addM a b) fun k => getI o k) fun b => M.bind (cmpM .Eq a b) truM) (seqS (evS (M.bind (ldV (Str.ofString "self")) fun v => M.bind (chkI 388 (Str.ofString "alike") v) fun _ => M.bind (M.bind (ldV (Str.ofString "place")) fun v => M.bind (M.bind (ldV (Str.ofString "other")) fun v => M.bind (M.bind (constM (.int 0)) fun v => M.bind (M.bind (ldV (Str.ofString "limit")) fun v => M.bind (M.pure []) fun vs => M.pure (v :: vs)) fun vs => M.pure (v :: vs)) fun vs => M.pure (v :: vs)) fun vs => M.pure (v :: vs)) fun as => chkF p314 (v :: as)) fun a => stS ((putV (Str.ofString "count")) a))
  (seqS (iteS (M.bind (ldV (Str.ofString "count")) fun a => M.bind (ldV (Str.ofString "longest")) fun b => M.bind (cmpM .Gt a b) truM) (seqS (evS (M.bind (ldV (Str.ofString "found")) fun v => M.bind (isLstM v) fun _ => M.bind (M.bind (M.bind (M.bind (ldV (Str.ofString "count")) fun v => M.bind (M.bind (M.bind (ldV (Str.ofString "place")) fun a => M.bind (ldV (Str.ofString "other")) fun b => subM a b) fun v => M.bind (M.pure []) fun vs => M.pure (v :: vs)) fun vs => M.pure (v :: vs)) newT) fun v => M.bind (M.pure []) fun vs => M.pure (v :: vs)) fun as => appB (v :: as)) exprK)
  (seqS (evS (ldV (Str.ofString "count")) fun a => stS ((putV (Str.ofString "longest")) a))
  nextS)) nextS)
  nextS)) nextS)
  nextS)))
  (seqS (evS (ldV (Str.ofString "found")) retS)
  nextS))))
noncomputable def p385 : PM := fun as H => if as.length = 3 then runB b385 (locOf ([(Str.ofString "self"), (Str.ofString "place"), (Str.ofString "most")].zip (as ++ []))) H else none
theorem f385 {S : Stc} (F : Fct S) : FS S 385 4 p385 := by
  unfold p385 b385
  refine' fs_at (n := 3) (xs := [(Str.ofString "self"), (Str.ofString "place"), (Str.ofString "most")]) F.h385 ?hb ?hnd ?hloc ?hk ?hco ?hgen ?hcell ?hbody
  case hb =>
    intro s vs name qual doc pm an cdv ct hv
    obtain ⟨a, b, c, rfl⟩ := ln3 hv
    exact BindsTo.of_eq rfl
  case hnd => decide
  case hloc => decide +kernel
  case hk => rfl
  case hco => rfl
  case hgen => rfl
  case hcell => decide +kernel
  case hbody =>
    intro A A₀ base h₀ outer L qual cdv hC
    exact (ss_cons (ss_assign_swapped hC (ns := [(Str.ofString "found"), (Str.ofString "limit")]) (se_tuple (sargs_cons (se_list sargs_nil) (sargs_cons (se_mcall hC.toOk F.m_limit ((f300 F).more (by decide)) (se_local hC.toOk rfl (by decide)) (sargs_cons (se_local hC.toOk rfl (by decide)) (sargs_cons (se_local hC.toOk rfl (by decide)) sargs_nil rfl) rfl) rfl (hst_of rfl)) sargs_nil rfl) rfl)) (by intro x hx; simp only [List.mem_cons, List.not_mem_nil, or_false] at hx; rcases hx with rfl | rfl <;> rfl) rfl rfl)
  (ss_cons (ss_assign_name (se_binop (se_attr hC.toOk F.attrs (se_local hC.toOk rfl (by decide)) rfl) se_int sub_sound) (fun _ _ => store_local hC rfl) rfl)
  (ss_cons (ss_for hC (se_mcall hC.toOk F.m_cand ((f378 F).more (by decide)) (se_local hC.toOk rfl (by decide)) (sargs_cons (se_local hC.toOk rfl (by decide)) sargs_nil rfl) rfl (hst_of rfl)) (st_local hC rfl) (ss_cons (ss_if (sb_cmp (se_local hC.toOk rfl (by decide)) (se_local hC.toOk rfl (by decide)) cmp_sound rfl) (ss_cons ss_brk
  ss_nil) ss_nil)
  (ss_cons (ss_if (sb_cmp (se_sub (se_attr hC.toOk F.attrs (se_local hC.toOk rfl (by decide)) rfl) (se_binop (se_local hC.toOk rfl (by decide)) (se_local hC.toOk rfl (by decide)) add_sound) (fun _ _ => rfl)) (se_sub (se_attr hC.toOk F.attrs (se_local hC.toOk rfl (by decide)) rfl) (se_binop (se_local hC.toOk rfl (by decide)) (se_local hC.toOk rfl (by decide)) add_sound) (fun _ _ => rfl)) cmp_sound rfl) (ss_cons (ss_assign_name (se_mcall hC.toOk F.m_alike ((f314 F).more (by decide)) (se_local hC.toOk rfl (by decide)) (sargs_cons (se_local hC.toOk rfl (by decide)) (sargs_cons (se_local hC.toOk rfl (by decide)) (sargs_cons se_int (sargs_cons (se_local hC.toOk rfl (by decide)) sargs_nil rfl) rfl) rfl) rfl) rfl (hst_of rfl)) (fun _ _ => store_local hC rfl) rfl)
  (ss_cons (ss_if (sb_cmp (se_local hC.toOk rfl (by decide)) (se_local hC.toOk rfl (by decide)) cmp_sound rfl) (ss_cons (ss_exprK (se_bmeth hC.toOk (se_local hC.toOk rfl (by decide)) getAppend_sound app_sound (sargs_cons (se_tuple (sargs_cons (se_local hC.toOk rfl (by decide)) (sargs_cons (se_binop (se_local hC.toOk rfl (by decide)) (se_local hC.toOk rfl (by decide)) sub_sound) sargs_nil rfl) rfl)) sargs_nil rfl) rfl (hst_of rfl)) rfl rfl)
  (ss_cons (ss_assign_name (se_local hC.toOk rfl (by decide)) (fun _ _ => store_local hC rfl) rfl)
  ss_nil)) ss_nil)
  ss_nil)) ss_nil)
  ss_nil)) go_name (fun _ => rfl))
  (ss_cons (ss_ret (se_local hC.toOk rfl (by decide)))
  ss_nil))))
-- part P2
-- Trail.__init__
noncomputable def b97 : SM := (seqS (evS (ldV (Str.ofString "finder")) fun a => evS (ldV (Str.ofString "self")) fun b => stS (updM (setA (Str.ofString "finder") b a)))
  (seqS (evS (M.bind (M.bind (M.bind (ldV (Str.ofString "finder")) (getA (Str.ofString "least"))) fun v => M.bind (M.bind (constM (.int (2))) fun v => M.bind (M.pure []) fun vs => M.pure (v :: vs)) fun vs => M.pure (v :: vs)) maxB) fun a => evS (ldV (Str.ofString "self")) fun b => stS (updM (setA (Str.ofString "shortest") b a)))
  (seqS (evS (constM (.int 0)) fun a => evS (ldV (Str.ofString "self")) fun b => stS (updM (setA (Str.ofString "known") b a)))
  nextS)))
noncomputable def p97 : PM := fun as H => if as.length = 2 then runB b97 (locOf ([(Str.ofString "self"), (Str.ofString "finder")].zip (as ++ []))) H else none
theorem f97 {S : Stc} (F : Fct S) : FS S 97 1 p97 := by
  unfold p97 b97
  refine' fs_at (n := 2) (xs := [(Str.ofString "self"), (Str.ofString "finder")]) F.h97 ?hb ?hnd ?hloc ?hk ?hco ?hgen ?hcell ?hbody
  case hb =>
    intro s vs name qual doc pm an cdv ct hv
    obtain ⟨a, b, rfl⟩ := ln2 hv
    exact BindsTo.of_eq rfl
  case hnd => decide
  case hloc => decide +kernel
  case hk => rfl
  case hco => rfl
  case hgen => rfl
  case hcell => decide +kernel
  case hbody =>
    intro A A₀ base h₀ outer L qual cdv hC
    exact (ss_cons (ss_attr hC.toOk F.attrs (se_local hC.toOk rfl (by decide)) (se_local hC.toOk rfl (by decide)) rfl)
  (ss_cons (ss_attr hC.toOk F.attrs (se_ncall hC.toOk (se_builtin hC.toOk rfl (by decide) F.bmax rfl (by decide)) keeps_builtin (max_sound hC.toOk) (sargs_cons (se_attr hC.toOk F.attrs (se_local hC.toOk rfl (by decide)) rfl) (sargs_cons (se_globI hC.toOk rfl (by decide) F.gLEASTMATCH) sargs_nil rfl) rfl) rfl (hst_of rfl)) (se_local hC.toOk rfl (by decide)) rfl)
  (ss_cons (ss_attr hC.toOk F.attrs se_int (se_local hC.toOk rfl (by decide)) rfl)
  ss_nil)))

-- Trail.up_to
noncomputable def b104 : SM := (seqS (whileM (M.bind (M.bind (ldV (Str.ofString "self")) (getA (Str.ofString "known"))) fun a => M.bind (ldV (Str.ofString "place")) fun b => M.bind (cmpM .Lt a b) truM) (seqS (evS (M.bind (M.bind (ldV (Str.ofString "self")) (getA (Str.ofString "finder"))) fun v => M.bind (chkI 388 (Str.ofString "put") v) fun _ => M.bind (M.bind (M.bind (ldV (Str.ofString "self")) (getA (Str.ofString "known"))) fun v => M.bind (M.pure []) fun vs => M.pure (v :: vs)) fun as => chkF p279 (v :: as)) exprK)
  (seqS (evS (M.bind (M.bind (ldV (Str.ofString "self")) (getA (Str.ofString "known"))) fun a => M.bind (constM (.int 1)) fun b => addM a b) fun a => evS (ldV (Str.ofString "self")) fun b => stS (updM (setA (Str.ofString "known") b a)))
  nextS)) 64)
  nextS)
noncomputable def p104 : PM := fun as H => if as.length = 2 then runB b104 (locOf ([(Str.ofString "self"), (Str.ofString "place")].zip (as ++ []))) H else none
theorem f104 {S : Stc} (F : Fct S) : FS S 104 5 p104 := by
  unfold p104 b104
  refine' fs_at (n := 2) (xs := [(Str.ofString "self"), (Str.ofString "place")]) F.h104 ?hb ?hnd ?hloc ?hk ?hco ?hgen ?hcell ?hbody
  case hb =>
    intro s vs name qual doc pm an cdv ct hv
    obtain ⟨a, b, rfl⟩ := ln2 hv
    exact BindsTo.of_eq rfl
  case hnd => decide
  case hloc => decide +kernel
  case hk => rfl
  case hco => rfl
  case hgen => rfl
  case hcell => decide +kernel
  case hbody =>
    intro A A₀ base h₀ outer L qual cdv hC
    exact (ss_cons (ss_while (sb_cmp (se_attr hC.toOk F.attrs (se_local hC.toOk rfl (by decide)) rfl) (se_local hC.toOk rfl (by decide)) cmp_sound rfl) (ss_cons (ss_exprK (se_mcall hC.toOk F.m_putM ((f279 F).more (by decide)) (se_attr hC.toOk F.attrs (se_local hC.toOk rfl (by decide)) rfl) (sargs_cons (se_attr hC.toOk F.attrs (se_local hC.toOk rfl (by decide)) rfl) sargs_nil rfl) rfl (hst_of rfl)) rfl rfl)
  (ss_cons (ss_attr hC.toOk F.attrs (se_binop (se_attr hC.toOk F.attrs (se_local hC.toOk rfl (by decide)) rfl) se_int add_sound) (se_local hC.toOk rfl (by decide)) rfl)
  ss_nil)))
  ss_nil)

-- Trail.every
noncomputable def b116 : SM := (seqS (evS (M.bind (ldC (Str.ofString "self")) fun v => M.bind (chkI 119 (Str.ofString "up_to") v) fun _ => M.bind (M.bind (ldV (Str.ofString "place")) fun v => M.bind (M.pure []) fun vs => M.pure (v :: vs)) fun as => chkF p104 (v :: as)) exprK)
  (seqS (evS (compE (Str.ofString "match") [(Str.ofString "self")] (M.bind (M.bind (ldC (Str.ofString "self")) (getA (Str.ofString "finder"))) fun v => M.bind (chkI 388 (Str.ofString "every") v) fun _ => M.bind (M.bind (ldV (Str.ofString "place")) fun v => M.bind (M.bind (ldV (Str.ofString "most")) fun v => M.bind (M.pure []) fun vs => M.pure (v :: vs)) fun vs => M.pure (v :: vs)) fun as => chkF p385 (v :: as)) (M.bind (M.bind (ldV (Str.ofString "match")) fun o => M.bind (constM (.int 0)) fun k => getI o k) fun a => M.bind (M.bind (ldC (Str.ofString "self")) (getA (Str.ofString "shortest"))) fun b => M.bind (cmpM .GtE a b) truM) (ldV (Str.ofString "match"))) retS)
  nextS))
noncomputable def p116 : PM := fun as H => if as.length = 3 then runB b116 (locOfC ([(Str.ofString "self"), (Str.ofString "place"), (Str.ofString "most")].zip (as ++ [])) [(Str.ofString "self")] H.length) (H ++ [(Str.ofString "self")].map fun x => .cell (([(Str.ofString "self"), (Str.ofString "place"), (Str.ofString "most")].zip (as ++ [])).lookup x)) else none
theorem f116 {S : Stc} (F : Fct S) : FS S 116 6 p116 := by
  unfold p116 b116
  refine' fs_atC (n := 3) (xs := [(Str.ofString "self"), (Str.ofString "place"), (Str.ofString "most")]) (cn := [(Str.ofString "self")]) F.h116 ?hb ?hnd ?hloc ?hcn ?hcnd ?hck ?hk ?hco ?hgen ?hbody
  case hb =>
    intro s vs name qual doc pm an cdv ct hv
    obtain ⟨a, b, c, rfl⟩ := ln3 hv
    exact BindsTo.of_eq rfl
  case hnd => decide
  case hloc => decide +kernel
  case hk => rfl
  case hco => rfl
  case hgen => rfl
  case hcn => exact fun _ => rfl
  case hcnd => decide
  case hck => decide +kernel
  case hbody =>
    intro A A₀ base h₀ outer L qual cdv hC
    exact (ss_cons (ss_exprK (se_mcall hC.toOk F.m_upto ((f104 F).more (by decide)) (se_cell hC.toOk rfl (by decide)) (sargs_cons (se_local hC.toOk rfl (by decide)) sargs_nil rfl) rfl (hst_of rfl)) rfl rfl)
  (ss_cons (ss_ret (se_comp hC (fr := [(Str.ofString "self")]) rfl (by intro x hx; simp only [List.mem_cons, List.not_mem_nil, or_false] at hx; subst hx; rfl) (by decide) rfl (by decide) rfl (se_mcall hC.toOk F.m_everyF ((f385 F).more (by decide)) (se_attr hC.toOk F.attrs (se_cell hC.toOk rfl (by decide)) rfl) (sargs_cons (se_local hC.toOk rfl (by decide)) (sargs_cons (se_local hC.toOk rfl (by decide)) sargs_nil rfl) rfl) rfl (hst_of rfl)) (fun _ _ => (stests_one (sb_cmp (se_sub (se_local (mkComp_ok hC.toOk rfl) rfl (by decide)) se_int (fun _ _ => rfl)) (se_attr (mkComp_ok hC.toOk rfl) F.attrs (se_cell (mkComp_ok hC.toOk rfl) rfl (by decide)) rfl) cmp_sound rfl))) (fun _ _ => (se_local (mkComp_ok hC.toOk rfl) rfl (by decide))) (fun _ => rfl)))
  ss_nil))

-- least
noncomputable def b166 : SM := (seqS (evS (M.bind (M.bind (ldV (Str.ofString "octets")) fun v => M.bind (M.bind (ldV (Str.ofString "start")) fun v => M.bind (M.bind (ldV (Str.ofString "most")) fun v => M.bind (M.pure []) fun vs => M.pure (v :: vs)) fun vs => M.pure (v :: vs)) fun vs => M.pure (v :: vs)) (chkF p61)) exprK)
  (seqS (evS (M.bind (M.bind (M.bind (M.bind (ldV (Str.ofString "finder")) fun v => M.bind (M.pure []) fun vs => M.pure (v :: vs)) (newI 119 p97)) fun v => M.bind (M.bind (M.bind (M.bind (M.bind (M.bind (M.bind (ldV (Str.ofString "octets")) fun v => M.bind (M.pure []) fun vs => M.pure (v :: vs)) lenB) fun a => M.bind (ldV (Str.ofString "start")) fun b => subM a b) fun v => M.bind (M.pure []) fun vs => M.pure (v :: vs)) (newI 154 p137)) fun v => M.bind (M.bind (constM (.int 0)) fun v => M.bind (M.pure []) fun vs => M.pure (v :: vs)) fun vs => M.pure (v :: vs)) fun vs => M.pure (v :: vs)) newT) fun a => stS (swapU [(Str.ofString "trail"), (Str.ofString "ways"), (Str.ofString "at")] a))
  (seqS (whileM (M.bind (ldV (Str.ofString "at")) fun a => M.bind (M.bind (ldV (Str.ofString "ways")) (getA (Str.ofString "size"))) fun b => M.bind (cmpM .Lt a b) truM) (seqS (evS (M.bind (ldV (Str.ofString "start")) fun a => M.bind (ldV (Str.ofString "at")) fun b => addM a b) fun a => stS ((putV (Str.ofString "place")) a))
  (seqS (evS (M.bind (ldV (Str.ofString "trail")) fun v => M.bind (chkI 119 (Str.ofString "every") v) fun _ => M.bind (M.bind (ldV (Str.ofString "place")) fun v => M.bind (M.bind (ldV (Str.ofString "most")) fun v => M.bind (M.pure []) fun vs => M.pure (v :: vs)) fun vs => M.pure (v :: vs)) fun as => chkF p116 (v :: as)) fun a => stS ((putV (Str.ofString "matches")) a))
  (seqS (evS (M.bind (ldV (Str.ofString "ways")) fun v => M.bind (chkI 154 (Str.ofString "offer") v) fun _ => M.bind (M.bind (ldV (Str.ofString "at")) fun v => M.bind (M.bind (M.bind (M.bind (constM (.int 0)) fun v => M.bind (M.bind (M.bind (ldV (Str.ofString "octets")) fun o => M.bind (ldV (Str.ofString "place")) fun k => getI o k) fun v => M.bind (M.pure []) fun vs => M.pure (v :: vs)) fun vs => M.pure (v :: vs)) newT) fun v => M.bind (M.bind (M.bind (ldV (Str.ofString "price")) fun v => M.bind (chkI 212 (Str.ofString "literal") v) fun _ => M.bind (M.bind (M.bind (ldV (Str.ofString "octets")) fun o => M.bind (ldV (Str.ofString "place")) fun k => getI o k) fun v => M.bind (M.pure []) fun vs => M.pure (v :: vs)) fun as => chkF p202 (v :: as)) fun v => M.bind (M.pure []) fun vs => M.pure (v :: vs)) fun vs => M.pure (v :: vs)) fun vs => M.pure (v :: vs)) fun as => chkF p144 (v :: as)) exprK)
  (seqS (forS (ldV (Str.ofString "matches")) isLst (unpU [(putV (Str.ofString "length")), (putV (Str.ofString "distance"))]) (seqS (forS (M.bind (M.bind (M.bind (ldV (Str.ofString "trail")) (getA (Str.ofString "shortest"))) fun v => M.bind (M.bind (M.bind (ldV (Str.ofString "length")) fun a => M.bind (constM (.int 1)) fun b => addM a b) fun v => M.bind (M.pure []) fun vs => M.pure (v :: vs)) fun vs => M.pure (v :: vs)) rngB) (fun _ => true) (putV (Str.ofString "part")) (seqS (evS (M.bind (ldV (Str.ofString "ways")) fun v => M.bind (chkI 154 (Str.ofString "offer") v) fun _ => M.bind (M.bind (ldV (Str.ofString "at")) fun v => M.bind (M.bind (M.bind (M.bind (ldV (Str.ofString "part")) fun v => M.bind (M.bind (ldV (Str.ofString "distance")) fun v => M.bind (M.pure []) fun vs => M.pure (v :: vs)) fun vs => M.pure (v :: vs)) newT) fun v => M.bind (M.bind (M.bind (ldV (Str.ofString "price")) fun v => M.bind (chkI 212 (Str.ofString "match") v) fun _ => M.bind (M.bind (ldV (Str.ofString "part")) fun v => M.bind (M.bind (ldV (Str.ofString "distance")) fun v => M.bind (M.pure []) fun vs => M.pure (v :: vs)) fun vs => M.pure (v :: vs)) fun as => chkF p209 (v :: as)) fun v => M.bind (M.pure []) fun vs => M.pure (v :: vs)) fun vs => M.pure (v :: vs)) fun vs => M.pure (v :: vs)) fun as => chkF p144 (v :: as)) exprK)
  nextS))
  nextS))
  (seqS (evS (constM (.int 1)) fun a => stS ((putV (Str.ofString "taken")) a))
  (seqS (iteS (andM (M.bind (ldV (Str.ofString "enough")) fun a => M.bind (constM .none) fun b => M.bind (isNoneM false a b) truM) (M.fail)) failS nextS)
  (seqS (evS (M.bind (ldV (Str.ofString "at")) fun a => M.bind (ldV (Str.ofString "taken")) fun b => addM a b) fun a => stS ((putV (Str.ofString "at")) a))
  nextS))))))) 64)
  (seqS (evS (M.bind (ldV (Str.ofString "ways")) fun v => M.bind (chkI 154 (Str.ofString "told") v) fun _ => M.bind (M.pure []) fun as => chkF p151 (v :: as)) retS)
  nextS))))
noncomputable def p166 : PM := fun as H => if as.length = 5 then runB b166 (locOf ([(Str.ofString "octets"), (Str.ofString "start"), (Str.ofString "finder"), (Str.ofString "most"), (Str.ofString "price"), (Str.ofString "enough")].zip (as ++ [.none]))) H else none
theorem f166 {S : Stc} (F : Fct S) : FS S 166 7 p166 := by
  unfold p166 b166
  refine' fs_atV (n := 5) (xs := [(Str.ofString "octets"), (Str.ofString "start"), (Str.ofString "finder"), (Str.ofString "most"), (Str.ofString "price"), (Str.ofString "enough")]) (dv := [.none]) F.h166 ?hb ?hnd ?hloc ?hk ?hco ?hgen ?hcell ?hbody
  case hb =>
    intro s vs name qual doc pm an cdv ct T o k items X hT hs hi hv
    subst hi
    obtain ⟨a, b, c, d, e, rfl⟩ := ln5 hv
    exact ⟨[Value.none], ⟨rfl, trivial⟩, binds_K X rfl hT hs rfl rfl⟩
  case hnd => decide
  case hloc => decide +kernel
  case hk => rfl
  case hco => rfl
  case hgen => rfl
  case hcell => decide +kernel
  case hbody =>
    intro A A₀ base h₀ outer L qual cdv hC
    exact (ss_cons (ss_exprK (se_ncall hC.toOk (se_glob hC.toOk rfl (by decide) F.gcheckrange rfl) (keeps_ref F.kcheckrange) (fun _ _ => fs_call hC.toOk ((f61 F).more (by decide))) (sargs_cons (se_local hC.toOk rfl (by decide)) (sargs_cons (se_local hC.toOk rfl (by decide)) (sargs_cons (se_local hC.toOk rfl (by decide)) sargs_nil rfl) rfl) rfl) rfl (hst_of rfl)) rfl rfl)
  (ss_cons (ss_assign_swapped hC (ns := [(Str.ofString "trail"), (Str.ofString "ways"), (Str.ofString "at")]) (se_tuple (sargs_cons (se_ncall hC.toOk (se_glob hC.toOk rfl (by decide) F.gTrail rfl) (keeps_ref F.kTrail) (fun _ _ => cls_sound hC.toOk F.c_Trail ((f97 F).more (by decide))) (sargs_cons (se_local hC.toOk rfl (by decide)) sargs_nil rfl) rfl (hst_of rfl)) (sargs_cons (se_ncall hC.toOk (se_glob hC.toOk rfl (by decide) F.gWays rfl) (keeps_ref F.kWays) (fun _ _ => cls_sound hC.toOk F.c_Ways ((f137 F).more (by decide))) (sargs_cons (se_binop (se_ncall hC.toOk (se_builtin hC.toOk rfl (by decide) F.blen rfl (by decide)) keeps_builtin len_sound (sargs_cons (se_local hC.toOk rfl (by decide)) sargs_nil rfl) rfl (hst_of rfl)) (se_local hC.toOk rfl (by decide)) sub_sound) sargs_nil rfl) rfl (hst_of rfl)) (sargs_cons se_int sargs_nil rfl) rfl) rfl)) (by intro x hx; simp only [List.mem_cons, List.not_mem_nil, or_false] at hx; rcases hx with rfl | rfl | rfl <;> rfl) rfl rfl)
  (ss_cons (ss_while (sb_cmp (se_local hC.toOk rfl (by decide)) (se_attr hC.toOk F.attrs (se_local hC.toOk rfl (by decide)) rfl) cmp_sound rfl) (ss_cons (ss_assign_name (se_binop (se_local hC.toOk rfl (by decide)) (se_local hC.toOk rfl (by decide)) add_sound) (fun _ _ => store_local hC rfl) rfl)
  (ss_cons (ss_assign_name (se_mcall hC.toOk F.m_everyT ((f116 F).more (by decide)) (se_local hC.toOk rfl (by decide)) (sargs_cons (se_local hC.toOk rfl (by decide)) (sargs_cons (se_local hC.toOk rfl (by decide)) sargs_nil rfl) rfl) rfl (hst_of rfl)) (fun _ _ => store_local hC rfl) rfl)
  (ss_cons (ss_exprK (se_mcall hC.toOk F.m_offer ((f144 F).more (by decide)) (se_local hC.toOk rfl (by decide)) (sargs_cons (se_local hC.toOk rfl (by decide)) (sargs_cons (se_tuple (sargs_cons se_int (sargs_cons (se_sub (se_local hC.toOk rfl (by decide)) (se_local hC.toOk rfl (by decide)) (fun _ _ => rfl)) sargs_nil rfl) rfl)) (sargs_cons (se_mcall hC.toOk F.m_lit ((f202 F).more (by decide)) (se_local hC.toOk rfl (by decide)) (sargs_cons (se_sub (se_local hC.toOk rfl (by decide)) (se_local hC.toOk rfl (by decide)) (fun _ _ => rfl)) sargs_nil rfl) rfl (hst_of rfl)) sargs_nil rfl) rfl) rfl) rfl (hst_of rfl)) rfl rfl)
  (ss_cons (ss_for hC (se_local hC.toOk rfl (by decide)) (st_tuple hC.toOk (us := [(putV (Str.ofString "length")), (putV (Str.ofString "distance"))]) ⟨(st_local hC rfl), (st_local hC rfl), trivial⟩ rfl rfl) (ss_cons (ss_for hC (se_ncall hC.toOk (se_builtin hC.toOk rfl (by decide) F.brange rfl (by decide)) keeps_type rng_sound (sargs_cons (se_attr hC.toOk F.attrs (se_local hC.toOk rfl (by decide)) rfl) (sargs_cons (se_binop (se_local hC.toOk rfl (by decide)) se_int add_sound) sargs_nil rfl) rfl) rfl (hst_of rfl)) (st_local hC rfl) (ss_cons (ss_exprK (se_mcall hC.toOk F.m_offer ((f144 F).more (by decide)) (se_local hC.toOk rfl (by decide)) (sargs_cons (se_local hC.toOk rfl (by decide)) (sargs_cons (se_tuple (sargs_cons (se_local hC.toOk rfl (by decide)) (sargs_cons (se_local hC.toOk rfl (by decide)) sargs_nil rfl) rfl)) (sargs_cons (se_mcall hC.toOk F.m_match ((f209 F).more (by decide)) (se_local hC.toOk rfl (by decide)) (sargs_cons (se_local hC.toOk rfl (by decide)) (sargs_cons (se_local hC.toOk rfl (by decide)) sargs_nil rfl) rfl) rfl (hst_of rfl)) sargs_nil rfl) rfl) rfl) rfl (hst_of rfl)) rfl rfl)
  ss_nil) go_name (fun _ => rfl))
  ss_nil) go_tuple (fun _ => rfl))
  (ss_cons (ss_assign_name se_int (fun _ _ => store_local hC rfl) rfl)
  (ss_cons (ss_if (sb_boolop (sall_and (sb_cmp (se_local hC.toOk rfl (by decide)) se_none isNot_sound rfl) sall_never)) ssx_fail ss_nil)
  (ss_cons (ss_assign_name (se_binop (se_local hC.toOk rfl (by decide)) (se_local hC.toOk rfl (by decide)) add_sound) (fun _ _ => store_local hC rfl) rfl)
  ss_nil))))))))
  (ss_cons (ss_ret (se_mcall hC.toOk F.m_told ((f151 F).more (by decide)) (se_local hC.toOk rfl (by decide)) sargs_nil rfl (hst_of rfl)))
  ss_nil))))

-- _law_digit
noncomputable def b397 : SM := (seqS (evS (M.bind (M.bind (M.bind (ldV (Str.ofString "pen")) fun o => M.bind (constM (.int 0)) fun k => getI o k) fun a => M.bind (constM (.int 10)) fun b => modM a b) fun a => M.bind (ldV (Str.ofString "many")) fun b => modM a b) fun a => stS ((putV (Str.ofString "digit")) a))
  (seqS (evS (M.bind (M.bind (ldV (Str.ofString "pen")) fun o => M.bind (constM (.int 0)) fun k => getI o k) fun a => M.bind (constM (.int 10)) fun b => fdivM a b) fun a => evS (ldV (Str.ofString "pen")) fun b => evS (constM (.int 0)) fun k => stS (updM (setIL b k a)))
  (seqS (evS (ldV (Str.ofString "digit")) retS)
  nextS)))
noncomputable def p397 : PM := fun as H => if as.length = 2 then runB b397 (locOf ([(Str.ofString "pen"), (Str.ofString "many")].zip (as ++ []))) H else none
theorem f397 {S : Stc} (F : Fct S) : FS S 397 1 p397 := by
  unfold p397 b397
  refine' fs_at (n := 2) (xs := [(Str.ofString "pen"), (Str.ofString "many")]) F.h397 ?hb ?hnd ?hloc ?hk ?hco ?hgen ?hcell ?hbody
  case hb =>
    intro s vs name qual doc pm an cdv ct hv
    obtain ⟨a, b, rfl⟩ := ln2 hv
    exact BindsTo.of_eq rfl
  case hnd => decide
  case hloc => decide +kernel
  case hk => rfl
  case hco => rfl
  case hgen => rfl
  case hcell => decide +kernel
  case hbody =>
    intro A A₀ base h₀ outer L qual cdv hC
    exact (ss_cons (ss_assign_name (se_binop (se_binop (se_sub (se_local hC.toOk rfl (by decide)) se_int (fun _ _ => rfl)) se_int mod_sound) (se_local hC.toOk rfl (by decide)) mod_sound) (fun _ _ => store_local hC rfl) rfl)
  (ss_cons (ss_item (se_binop (se_sub (se_local hC.toOk rfl (by decide)) se_int (fun _ _ => rfl)) se_int fdiv_sound) (se_local hC.toOk rfl (by decide)) se_int (fun _ _ _ _ _ _ => setIL_sound) rfl)
  (ss_cons (ss_ret (se_local hC.toOk rfl (by decide)))
  ss_nil)))

-- _law_steps
noncomputable def b404 : SM := (seqS (evS (ldV (Str.ofString "shape")) fun a => stS ((unpU [(putV (Str.ofString "shortest")), (putV (Str.ofString "window")), (putV (Str.ofString "chain")), (putV (Str.ofString "most"))]) a))
  (seqS (evS (M.bind (M.bind (ldV (Str.ofString "text")) fun v => M.bind (M.bind (ldV (Str.ofString "start")) fun v => M.bind (M.bind (M.bind (M.bind (ldV (Str.ofString "text")) fun v => M.bind (M.bind (ldV (Str.ofString "shortest")) fun v => M.bind (M.bind (ldV (Str.ofString "window")) fun v => M.bind (M.bind (ldV (Str.ofString "chain")) fun v => M.bind (M.pure []) fun vs => M.pure (v :: vs)) fun vs => M.pure (v :: vs)) fun vs => M.pure (v :: vs)) fun vs => M.pure (v :: vs)) (newI 388 p364)) fun v => M.bind (M.bind (ldV (Str.ofString "most")) fun v => M.bind (M.bind (ldV (Str.ofString "price")) fun v => M.bind (M.pure []) fun vs => M.pure (v :: vs)) fun vs => M.pure (v :: vs)) fun vs => M.pure (v :: vs)) fun vs => M.pure (v :: vs)) fun vs => M.pure (v :: vs)) (chkF p166)) retS)
  nextS))
noncomputable def p404 : PM := fun as H => if as.length = 4 then runB b404 (locOf ([(Str.ofString "text"), (Str.ofString "start"), (Str.ofString "shape"), (Str.ofString "price")].zip (as ++ []))) H else none
theorem f404 {S : Stc} (F : Fct S) : FS S 404 8 p404 := by
  unfold p404 b404
  refine' fs_at (n := 4) (xs := [(Str.ofString "text"), (Str.ofString "start"), (Str.ofString "shape"), (Str.ofString "price")]) F.h404 ?hb ?hnd ?hloc ?hk ?hco ?hgen ?hcell ?hbody
  case hb =>
    intro s vs name qual doc pm an cdv ct hv
    obtain ⟨a, b, c, d, rfl⟩ := ln4 hv
    exact BindsTo.of_eq rfl
  case hnd => decide
  case hloc => decide +kernel
  case hk => rfl
  case hco => rfl
  case hgen => rfl
  case hcell => decide +kernel
  case hbody =>
    intro A A₀ base h₀ outer L qual cdv hC
    exact (ss_cons (ss_assign_tuple (se_local hC.toOk rfl (by decide)) (st_tuple hC.toOk (us := [(putV (Str.ofString "shortest")), (putV (Str.ofString "window")), (putV (Str.ofString "chain")), (putV (Str.ofString "most"))]) ⟨(st_local hC rfl), (st_local hC rfl), (st_local hC rfl), (st_local hC rfl), trivial⟩ rfl rfl) rfl rfl)
  (ss_cons (ss_ret (se_ncall hC.toOk (se_glob hC.toOk rfl (by decide) F.gleast rfl) (keeps_ref F.kleast) (fun _ _ => fs_call hC.toOk ((f166 F).more (by decide))) (sargs_cons (se_local hC.toOk rfl (by decide)) (sargs_cons (se_local hC.toOk rfl (by decide)) (sargs_cons (se_ncall hC.toOk (se_glob hC.toOk rfl (by decide) F.gFinder rfl) (keeps_ref F.kFinder) (fun _ _ => cls_sound hC.toOk F.c_Finder ((f364 F).more (by decide))) (sargs_cons (se_local hC.toOk rfl (by decide)) (sargs_cons (se_local hC.toOk rfl (by decide)) (sargs_cons (se_local hC.toOk rfl (by decide)) (sargs_cons (se_local hC.toOk rfl (by decide)) sargs_nil rfl) rfl) rfl) rfl) rfl (hst_of rfl)) (sargs_cons (se_local hC.toOk rfl (by decide)) (sargs_cons (se_local hC.toOk rfl (by decide)) sargs_nil rfl) rfl) rfl) rfl) rfl) rfl (hst_of rfl)))
  ss_nil))

-- _law_cost
noncomputable def b411 : SM := (seqS (evS (M.bind (M.bind (M.bind (M.bind (ldV (Str.ofString "text")) fun v => M.bind (M.bind (ldV (Str.ofString "start")) fun v => M.bind (M.bind (ldV (Str.ofString "shape")) fun v => M.bind (M.bind (ldV (Str.ofString "price")) fun v => M.bind (M.pure []) fun vs => M.pure (v :: vs)) fun vs => M.pure (v :: vs)) fun vs => M.pure (v :: vs)) fun vs => M.pure (v :: vs)) (chkF p404)) fun v => M.bind (M.bind (ldV (Str.ofString "price")) fun v => M.bind (M.pure []) fun vs => M.pure (v :: vs)) fun vs => M.pure (v :: vs)) (chkF p173)) retS)
  nextS)
noncomputable def p411 : PM := fun as H => if as.length = 4 then runB b411 (locOf ([(Str.ofString "text"), (Str.ofString "start"), (Str.ofString "shape"), (Str.ofString "price")].zip (as ++ []))) H else none
theorem f411 {S : Stc} (F : Fct S) : FS S 411 9 p411 := by
  unfold p411 b411
  refine' fs_at (n := 4) (xs := [(Str.ofString "text"), (Str.ofString "start"), (Str.ofString "shape"), (Str.ofString "price")]) F.h411 ?hb ?hnd ?hloc ?hk ?hco ?hgen ?hcell ?hbody
  case hb =>
    intro s vs name qual doc pm an cdv ct hv
    obtain ⟨a, b, c, d, rfl⟩ := ln4 hv
    exact BindsTo.of_eq rfl
  case hnd => decide
  case hloc => decide +kernel
  case hk => rfl
  case hco => rfl
  case hgen => rfl
  case hcell => decide +kernel
  case hbody =>
    intro A A₀ base h₀ outer L qual cdv hC
    exact (ss_cons (ss_ret (se_ncall hC.toOk (se_glob hC.toOk rfl (by decide) F.gpriceof rfl) (keeps_ref F.kpriceof) (fun _ _ => fs_call hC.toOk ((f173 F).more (by decide))) (sargs_cons (se_ncall hC.toOk (se_glob hC.toOk rfl (by decide) F.glawsteps rfl) (keeps_ref F.klawsteps) (fun _ _ => fs_call hC.toOk ((f404 F).more (by decide))) (sargs_cons (se_local hC.toOk rfl (by decide)) (sargs_cons (se_local hC.toOk rfl (by decide)) (sargs_cons (se_local hC.toOk rfl (by decide)) (sargs_cons (se_local hC.toOk rfl (by decide)) sargs_nil rfl) rfl) rfl) rfl) rfl (hst_of rfl)) (sargs_cons (se_local hC.toOk rfl (by decide)) sargs_nil rfl) rfl) rfl (hst_of rfl)))
  ss_nil)

-- _law_bounds_right
noncomputable def b418 : SM := (seqS (evS (ldV (Str.ofString "shape")) fun a => stS ((unpU [(putV (Str.ofString "shortest")), (putV (Str.ofString "window")), (putV (Str.ofString "chain")), (putV (Str.ofString "most"))]) a))
  (seqS (evS (M.bind (M.bind (M.bind (M.bind (ldV (Str.ofString "text")) fun v => M.bind (M.bind (constM (.int 0)) fun v => M.bind (M.bind (ldV (Str.ofString "shape")) fun v => M.bind (M.bind (ldV (Str.ofString "price")) fun v => M.bind (M.pure []) fun vs => M.pure (v :: vs)) fun vs => M.pure (v :: vs)) fun vs => M.pure (v :: vs)) fun vs => M.pure (v :: vs)) (chkF p411)) fun v => M.bind (M.bind (M.bind (M.bind (ldV (Str.ofString "text")) fun v => M.bind (M.pure []) fun vs => M.pure (v :: vs)) lenB) fun v => M.bind (M.pure []) fun vs => M.pure (v :: vs)) fun vs => M.pure (v :: vs)) newT) fun a => stS (swapU [(Str.ofString "cost"), (Str.ofString "every")] a))
  (seqS (forS (M.bind (M.bind (M.bind (M.bind (ldV (Str.ofString "shortest")) fun v => M.bind (M.bind (M.bind (ldV (Str.ofString "window")) fun a => M.bind (ldV (Str.ofString "more")) fun b => addM a b) fun v => M.bind (M.bind (ldV (Str.ofString "chain")) fun v => M.bind (M.bind (ldV (Str.ofString "most")) fun v => M.bind (M.pure []) fun vs => M.pure (v :: vs)) fun vs => M.pure (v :: vs)) fun vs => M.pure (v :: vs)) fun vs => M.pure (v :: vs)) newT) fun v => M.bind (M.bind (M.bind (M.bind (ldV (Str.ofString "shortest")) fun v => M.bind (M.bind (ldV (Str.ofString "window")) fun v => M.bind (M.bind (M.bind (ldV (Str.ofString "chain")) fun a => M.bind (ldV (Str.ofString "more")) fun b => addM a b) fun v => M.bind (M.bind (ldV (Str.ofString "most")) fun v => M.bind (M.pure []) fun vs => M.pure (v :: vs)) fun vs => M.pure (v :: vs)) fun vs => M.pure (v :: vs)) fun vs => M.pure (v :: vs)) newT) fun v => M.bind (M.bind (M.bind (M.bind (ldV (Str.ofString "shortest")) fun v => M.bind (M.bind (ldV (Str.ofString "window")) fun v => M.bind (M.bind (ldV (Str.ofString "chain")) fun v => M.bind (M.bind (M.bind (ldV (Str.ofString "most")) fun a => M.bind (ldV (Str.ofString "more")) fun b => addM a b) fun v => M.bind (M.pure []) fun vs => M.pure (v :: vs)) fun vs => M.pure (v :: vs)) fun vs => M.pure (v :: vs)) fun vs => M.pure (v :: vs)) newT) fun v => M.bind (M.pure []) fun vs => M.pure (v :: vs)) fun vs => M.pure (v :: vs)) fun vs => M.pure (v :: vs)) newL) (fun _ => true) (putV (Str.ofString "wider")) (seqS (iteS (M.bind (M.bind (M.bind (ldV (Str.ofString "text")) fun v => M.bind (M.bind (constM (.int 0)) fun v => M.bind (M.bind (ldV (Str.ofString "wider")) fun v => M.bind (M.bind (ldV (Str.ofString "price")) fun v => M.bind (M.pure []) fun vs => M.pure (v :: vs)) fun vs => M.pure (v :: vs)) fun vs => M.pure (v :: vs)) fun vs => M.pure (v :: vs)) (chkF p411)) fun a => M.bind (ldV (Str.ofString "cost")) fun b => M.bind (cmpM .Gt a b) truM) (seqS (evS (constM (.bool false)) retS)
  nextS) nextS)
  nextS))
  (seqS (evS (M.bind (M.bind (ldV (Str.ofString "text")) fun v => M.bind (M.bind (constM (.int 0)) fun v => M.bind (M.bind (M.bind (M.bind (M.bind (ldV (Str.ofString "shortest")) fun a => M.bind (ldV (Str.ofString "more")) fun b => addM a b) fun v => M.bind (M.bind (ldV (Str.ofString "window")) fun v => M.bind (M.bind (ldV (Str.ofString "every")) fun v => M.bind (M.bind (ldV (Str.ofString "most")) fun v => M.bind (M.pure []) fun vs => M.pure (v :: vs)) fun vs => M.pure (v :: vs)) fun vs => M.pure (v :: vs)) fun vs => M.pure (v :: vs)) newT) fun v => M.bind (M.bind (ldV (Str.ofString "price")) fun v => M.bind (M.pure []) fun vs => M.pure (v :: vs)) fun vs => M.pure (v :: vs)) fun vs => M.pure (v :: vs)) fun vs => M.pure (v :: vs)) (chkF p411)) fun a => stS ((putV (Str.ofString "stricter")) a))
  (seqS (evS (M.bind (M.bind (M.bind (ldV (Str.ofString "text")) fun v => M.bind (M.bind (constM (.int 0)) fun v => M.bind (M.bind (M.bind (M.bind (ldV (Str.ofString "shortest")) fun v => M.bind (M.bind (ldV (Str.ofString "window")) fun v => M.bind (M.bind (ldV (Str.ofString "every")) fun v => M.bind (M.bind (ldV (Str.ofString "most")) fun v => M.bind (M.pure []) fun vs => M.pure (v :: vs)) fun vs => M.pure (v :: vs)) fun vs => M.pure (v :: vs)) fun vs => M.pure (v :: vs)) newT) fun v => M.bind (M.bind (ldV (Str.ofString "price")) fun v => M.bind (M.pure []) fun vs => M.pure (v :: vs)) fun vs => M.pure (v :: vs)) fun vs => M.pure (v :: vs)) fun vs => M.pure (v :: vs)) (chkF p411)) fun a => M.bind (ldV (Str.ofString "stricter")) fun b => cmpM .LtE a b) retS)
  nextS)))))
noncomputable def p418 : PM := fun as H => if as.length = 4 then runB b418 (locOf ([(Str.ofString "text"), (Str.ofString "shape"), (Str.ofString "more"), (Str.ofString "price")].zip (as ++ []))) H else none
theorem f418 {S : Stc} (F : Fct S) : FS S 418 10 p418 := by
  unfold p418 b418
  refine' fs_at (n := 4) (xs := [(Str.ofString "text"), (Str.ofString "shape"), (Str.ofString "more"), (Str.ofString "price")]) F.h418 ?hb ?hnd ?hloc ?hk ?hco ?hgen ?hcell ?hbody
  case hb =>
    intro s vs name qual doc pm an cdv ct hv
    obtain ⟨a, b, c, d, rfl⟩ := ln4 hv
    exact BindsTo.of_eq rfl
  case hnd => decide
  case hloc => decide +kernel
  case hk => rfl
  case hco => rfl
  case hgen => rfl
  case hcell => decide +kernel
  case hbody =>
    intro A A₀ base h₀ outer L qual cdv hC
    exact (ss_cons (ss_assign_tuple (se_local hC.toOk rfl (by decide)) (st_tuple hC.toOk (us := [(putV (Str.ofString "shortest")), (putV (Str.ofString "window")), (putV (Str.ofString "chain")), (putV (Str.ofString "most"))]) ⟨(st_local hC rfl), (st_local hC rfl), (st_local hC rfl), (st_local hC rfl), trivial⟩ rfl rfl) rfl rfl)
  (ss_cons (ss_assign_swapped hC (ns := [(Str.ofString "cost"), (Str.ofString "every")]) (se_tuple (sargs_cons (se_ncall hC.toOk (se_glob hC.toOk rfl (by decide) F.glawcost rfl) (keeps_ref F.klawcost) (fun _ _ => fs_call hC.toOk ((f411 F).more (by decide))) (sargs_cons (se_local hC.toOk rfl (by decide)) (sargs_cons se_int (sargs_cons (se_local hC.toOk rfl (by decide)) (sargs_cons (se_local hC.toOk rfl (by decide)) sargs_nil rfl) rfl) rfl) rfl) rfl (hst_of rfl)) (sargs_cons (se_ncall hC.toOk (se_builtin hC.toOk rfl (by decide) F.blen rfl (by decide)) keeps_builtin len_sound (sargs_cons (se_local hC.toOk rfl (by decide)) sargs_nil rfl) rfl (hst_of rfl)) sargs_nil rfl) rfl)) (by intro x hx; simp only [List.mem_cons, List.not_mem_nil, or_false] at hx; rcases hx with rfl | rfl <;> rfl) rfl rfl)
  (ss_cons (ss_for hC (se_list (sargs_cons (se_tuple (sargs_cons (se_local hC.toOk rfl (by decide)) (sargs_cons (se_binop (se_local hC.toOk rfl (by decide)) (se_local hC.toOk rfl (by decide)) add_sound) (sargs_cons (se_local hC.toOk rfl (by decide)) (sargs_cons (se_local hC.toOk rfl (by decide)) sargs_nil rfl) rfl) rfl) rfl)) (sargs_cons (se_tuple (sargs_cons (se_local hC.toOk rfl (by decide)) (sargs_cons (se_local hC.toOk rfl (by decide)) (sargs_cons (se_binop (se_local hC.toOk rfl (by decide)) (se_local hC.toOk rfl (by decide)) add_sound) (sargs_cons (se_local hC.toOk rfl (by decide)) sargs_nil rfl) rfl) rfl) rfl)) (sargs_cons (se_tuple (sargs_cons (se_local hC.toOk rfl (by decide)) (sargs_cons (se_local hC.toOk rfl (by decide)) (sargs_cons (se_local hC.toOk rfl (by decide)) (sargs_cons (se_binop (se_local hC.toOk rfl (by decide)) (se_local hC.toOk rfl (by decide)) add_sound) sargs_nil rfl) rfl) rfl) rfl)) sargs_nil rfl) rfl) rfl)) (st_local hC rfl) (ss_cons (ss_if (sb_cmp (se_ncall hC.toOk (se_glob hC.toOk rfl (by decide) F.glawcost rfl) (keeps_ref F.klawcost) (fun _ _ => fs_call hC.toOk ((f411 F).more (by decide))) (sargs_cons (se_local hC.toOk rfl (by decide)) (sargs_cons se_int (sargs_cons (se_local hC.toOk rfl (by decide)) (sargs_cons (se_local hC.toOk rfl (by decide)) sargs_nil rfl) rfl) rfl) rfl) rfl (hst_of rfl)) (se_local hC.toOk rfl (by decide)) cmp_sound rfl) (ss_cons (ss_ret se_bool)
  ss_nil) ss_nil)
  ss_nil) go_name (fun _ => rfl))
  (ss_cons (ss_assign_name (se_ncall hC.toOk (se_glob hC.toOk rfl (by decide) F.glawcost rfl) (keeps_ref F.klawcost) (fun _ _ => fs_call hC.toOk ((f411 F).more (by decide))) (sargs_cons (se_local hC.toOk rfl (by decide)) (sargs_cons se_int (sargs_cons (se_tuple (sargs_cons (se_binop (se_local hC.toOk rfl (by decide)) (se_local hC.toOk rfl (by decide)) add_sound) (sargs_cons (se_local hC.toOk rfl (by decide)) (sargs_cons (se_local hC.toOk rfl (by decide)) (sargs_cons (se_local hC.toOk rfl (by decide)) sargs_nil rfl) rfl) rfl) rfl)) (sargs_cons (se_local hC.toOk rfl (by decide)) sargs_nil rfl) rfl) rfl) rfl) rfl (hst_of rfl)) (fun _ _ => store_local hC rfl) rfl)
  (ss_cons (ss_ret (se_cmp (se_ncall hC.toOk (se_glob hC.toOk rfl (by decide) F.glawcost rfl) (keeps_ref F.klawcost) (fun _ _ => fs_call hC.toOk ((f411 F).more (by decide))) (sargs_cons (se_local hC.toOk rfl (by decide)) (sargs_cons se_int (sargs_cons (se_tuple (sargs_cons (se_local hC.toOk rfl (by decide)) (sargs_cons (se_local hC.toOk rfl (by decide)) (sargs_cons (se_local hC.toOk rfl (by decide)) (sargs_cons (se_local hC.toOk rfl (by decide)) sargs_nil rfl) rfl) rfl) rfl)) (sargs_cons (se_local hC.toOk rfl (by decide)) sargs_nil rfl) rfl) rfl) rfl) rfl (hst_of rfl)) (se_local hC.toOk rfl (by decide)) cmp_sound rfl))
  ss_nil)))))

-- _law_prices_right
noncomputable def b423 : SM := (seqS (evS (ldV (Str.ofString "prices")) fun a => stS ((unpU [(putV (Str.ofString "literal")), (putV (Str.ofString "match")), (putV (Str.ofString "bit"))]) a))
  (seqS (evS (M.bind (M.bind (M.bind (M.bind (ldV (Str.ofString "literal")) fun v => M.bind (M.bind (ldV (Str.ofString "match")) fun v => M.bind (M.bind (ldV (Str.ofString "bit")) fun v => M.bind (M.pure []) fun vs => M.pure (v :: vs)) fun vs => M.pure (v :: vs)) fun vs => M.pure (v :: vs)) (newI 212 p195)) fun v => M.bind (M.bind (M.bind (M.bind (M.bind (ldV (Str.ofString "others")) fun o => M.bind (constM (.int 0)) fun k => getI o k) fun v => M.bind (M.bind (M.bind (ldV (Str.ofString "others")) fun o => M.bind (constM (.int 1)) fun k => getI o k) fun v => M.bind (M.bind (M.bind (ldV (Str.ofString "others")) fun o => M.bind (constM (.int 2)) fun k => getI o k) fun v => M.bind (M.pure []) fun vs => M.pure (v :: vs)) fun vs => M.pure (v :: vs)) fun vs => M.pure (v :: vs)) (newI 212 p195)) fun v => M.bind (M.pure []) fun vs => M.pure (v :: vs)) fun vs => M.pure (v :: vs)) newT) fun a => stS (swapU [(Str.ofString "price"), (Str.ofString "other")] a))
  (seqS (evS (M.bind (M.bind (ldV (Str.ofString "text")) fun v => M.bind (M.bind (constM (.int 0)) fun v => M.bind (M.bind (ldV (Str.ofString "shape")) fun v => M.bind (M.bind (ldV (Str.ofString "price")) fun v => M.bind (M.pure []) fun vs => M.pure (v :: vs)) fun vs => M.pure (v :: vs)) fun vs => M.pure (v :: vs)) fun vs => M.pure (v :: vs)) (chkF p404)) fun a => stS ((putV (Str.ofString "steps")) a))
  (seqS (evS (M.bind (M.bind (M.bind (M.bind (ldV (Str.ofString "steps")) fun v => M.bind (M.bind (ldV (Str.ofString "price")) fun v => M.bind (M.pure []) fun vs => M.pure (v :: vs)) fun vs => M.pure (v :: vs)) (chkF p173)) fun v => M.bind (M.bind (M.bind (M.bind (compE (Str.ofString "step") [] (ldV (Str.ofString "steps")) (M.bind (M.bind (ldV (Str.ofString "step")) fun o => M.bind (constM (.int 0)) fun k => getI o k) fun a => M.bind (constM (.int 0)) fun b => M.bind (cmpM .Gt a b) truM) (ldV (Str.ofString "step"))) fun v => M.bind (M.pure []) fun vs => M.pure (v :: vs)) lenB) fun v => M.bind (M.pure []) fun vs => M.pure (v :: vs)) fun vs => M.pure (v :: vs)) newT) fun a => stS (swapU [(Str.ofString "cost"), (Str.ofString "matches")] a))
  (seqS (iteS (notM (M.bind (M.bind (M.bind (ldV (Str.ofString "steps")) fun v => M.bind (M.bind (ldV (Str.ofString "text")) fun v => M.bind (M.bind (constM (.int 0)) fun v => M.bind (M.bind (M.bind (ldV (Str.ofString "shape")) fun o => M.bind (constM (.int 0)) fun k => getI o k) fun v => M.bind (M.bind (M.bind (ldV (Str.ofString "shape")) fun o => M.bind (constM (.int 3)) fun k => getI o k) fun v => M.bind (M.bind (M.bind (ldV (Str.ofString "shape")) fun o => M.bind (constM (.int 1)) fun k => getI o k) fun v => M.bind (M.pure []) fun vs => M.pure (v :: vs)) fun vs => M.pure (v :: vs)) fun vs => M.pure (v :: vs)) fun vs => M.pure (v :: vs)) fun vs => M.pure (v :: vs)) fun vs => M.pure (v :: vs)) (chkF p83)) truM)) (seqS (evS (constM (.bool false)) retS)
  nextS) nextS)
  (seqS (iteS (M.bind (M.bind (M.bind (ldV (Str.ofString "text")) fun v => M.bind (M.bind (constM (.int 0)) fun v => M.bind (M.bind (ldV (Str.ofString "shape")) fun v => M.bind (M.bind (M.bind (M.bind (M.bind (constM (.int 2)) fun a => M.bind (ldV (Str.ofString "literal")) fun b => mulM a b) fun v => M.bind (M.bind (M.bind (constM (.int 2)) fun a => M.bind (ldV (Str.ofString "match")) fun b => mulM a b) fun v => M.bind (M.bind (M.bind (constM (.int 2)) fun a => M.bind (ldV (Str.ofString "bit")) fun b => mulM a b) fun v => M.bind (M.pure []) fun vs => M.pure (v :: vs)) fun vs => M.pure (v :: vs)) fun vs => M.pure (v :: vs)) (newI 212 p195)) fun v => M.bind (M.pure []) fun vs => M.pure (v :: vs)) fun vs => M.pure (v :: vs)) fun vs => M.pure (v :: vs)) fun vs => M.pure (v :: vs)) (chkF p404)) fun a => M.bind (ldV (Str.ofString "steps")) fun b => M.bind (neM a b) truM) (seqS (evS (constM (.bool false)) retS)
  nextS) nextS)
  (seqS (evS (M.bind (M.bind (M.bind (ldV (Str.ofString "text")) fun v => M.bind (M.bind (constM (.int 0)) fun v => M.bind (M.bind (ldV (Str.ofString "shape")) fun v => M.bind (M.bind (M.bind (M.bind (ldV (Str.ofString "literal")) fun v => M.bind (M.bind (M.bind (ldV (Str.ofString "match")) fun a => M.bind (constM (.int 1)) fun b => addM a b) fun v => M.bind (M.bind (ldV (Str.ofString "bit")) fun v => M.bind (M.pure []) fun vs => M.pure (v :: vs)) fun vs => M.pure (v :: vs)) fun vs => M.pure (v :: vs)) (newI 212 p195)) fun v => M.bind (M.pure []) fun vs => M.pure (v :: vs)) fun vs => M.pure (v :: vs)) fun vs => M.pure (v :: vs)) fun vs => M.pure (v :: vs)) (chkF p411)) fun a => M.bind (ldV (Str.ofString "cost")) fun b => subM a b) fun a => stS ((putV (Str.ofString "dearer")) a))
  (seqS (evS (M.bind (ldV (Str.ofString "cost")) fun a => M.bind (M.bind (M.bind (ldV (Str.ofString "text")) fun v => M.bind (M.bind (constM (.int 0)) fun v => M.bind (M.bind (ldV (Str.ofString "shape")) fun v => M.bind (M.bind (M.bind (M.bind (ldV (Str.ofString "literal")) fun v => M.bind (M.bind (M.bind (ldV (Str.ofString "match")) fun a => M.bind (constM (.int 1)) fun b => subM a b) fun v => M.bind (M.bind (ldV (Str.ofString "bit")) fun v => M.bind (M.pure []) fun vs => M.pure (v :: vs)) fun vs => M.pure (v :: vs)) fun vs => M.pure (v :: vs)) (newI 212 p195)) fun v => M.bind (M.pure []) fun vs => M.pure (v :: vs)) fun vs => M.pure (v :: vs)) fun vs => M.pure (v :: vs)) fun vs => M.pure (v :: vs)) (chkF p411)) fun b => subM a b) fun a => stS ((putV (Str.ofString "cheaper")) a))
  (seqS (iteS (notM (M.bind (constM (.int 0)) (fun a => M.bind (ldV (Str.ofString "dearer")) fun b => M.bind (cmpM .LtE a b) fun c => M.bind (truM c) fun t => if t = true then (fun a => M.bind (ldV (Str.ofString "matches")) fun b => M.bind (cmpM .LtE a b) fun c => M.bind (truM c) fun t => if t = true then (fun a => M.bind (ldV (Str.ofString "cheaper")) fun b => M.bind (cmpM .LtE a b) truM) b else M.pure false) b else M.pure false))) (seqS (evS (constM (.bool false)) retS)
  nextS) nextS)
  (seqS (evS (M.bind (M.bind (M.bind (ldV (Str.ofString "literal")) fun a => M.bind (M.bind (ldV (Str.ofString "others")) fun o => M.bind (constM (.int 0)) fun k => getI o k) fun b => addM a b) fun v => M.bind (M.bind (M.bind (ldV (Str.ofString "match")) fun a => M.bind (M.bind (ldV (Str.ofString "others")) fun o => M.bind (constM (.int 1)) fun k => getI o k) fun b => addM a b) fun v => M.bind (M.bind (M.bind (ldV (Str.ofString "bit")) fun a => M.bind (M.bind (ldV (Str.ofString "others")) fun o => M.bind (constM (.int 2)) fun k => getI o k) fun b => addM a b) fun v => M.bind (M.pure []) fun vs => M.pure (v :: vs)) fun vs => M.pure (v :: vs)) fun vs => M.pure (v :: vs)) (newI 212 p195)) fun a => stS ((putV (Str.ofString "both")) a))
  (seqS (evS (M.bind (M.bind (M.bind (ldV (Str.ofString "text")) fun v => M.bind (M.bind (constM (.int 0)) fun v => M.bind (M.bind (ldV (Str.ofString "shape")) fun v => M.bind (M.bind (ldV (Str.ofString "both")) fun v => M.bind (M.pure []) fun vs => M.pure (v :: vs)) fun vs => M.pure (v :: vs)) fun vs => M.pure (v :: vs)) fun vs => M.pure (v :: vs)) (chkF p411)) fun a => M.bind (M.bind (ldV (Str.ofString "cost")) fun a => M.bind (M.bind (M.bind (ldV (Str.ofString "text")) fun v => M.bind (M.bind (constM (.int 0)) fun v => M.bind (M.bind (ldV (Str.ofString "shape")) fun v => M.bind (M.bind (ldV (Str.ofString "other")) fun v => M.bind (M.pure []) fun vs => M.pure (v :: vs)) fun vs => M.pure (v :: vs)) fun vs => M.pure (v :: vs)) fun vs => M.pure (v :: vs)) (chkF p411)) fun b => addM a b) fun b => cmpM .GtE a b) retS)
  nextS)))))))))))
noncomputable def p423 : PM := fun as H => if as.length = 4 then runB b423 (locOf ([(Str.ofString "text"), (Str.ofString "shape"), (Str.ofString "prices"), (Str.ofString "others")].zip (as ++ []))) H else none
theorem f423 {S : Stc} (F : Fct S) : FS S 423 10 p423 := by
  unfold p423 b423
  refine' fs_at (n := 4) (xs := [(Str.ofString "text"), (Str.ofString "shape"), (Str.ofString "prices"), (Str.ofString "others")]) F.h423 ?hb ?hnd ?hloc ?hk ?hco ?hgen ?hcell ?hbody
  case hb =>
    intro s vs name qual doc pm an cdv ct hv
    obtain ⟨a, b, c, d, rfl⟩ := ln4 hv
    exact BindsTo.of_eq rfl
  case hnd => decide
  case hloc => decide +kernel
  case hk => rfl
  case hco => rfl
  case hgen => rfl
  case hcell => decide +kernel
  case hbody =>
    intro A A₀ base h₀ outer L qual cdv hC
    exact (ss_cons (ss_assign_tuple (se_local hC.toOk rfl (by decide)) (st_tuple hC.toOk (us := [(putV (Str.ofString "literal")), (putV (Str.ofString "match")), (putV (Str.ofString "bit"))]) ⟨(st_local hC rfl), (st_local hC rfl), (st_local hC rfl), trivial⟩ rfl rfl) rfl rfl)
  (ss_cons (ss_assign_swapped hC (ns := [(Str.ofString "price"), (Str.ofString "other")]) (se_tuple (sargs_cons (se_ncall hC.toOk (se_glob hC.toOk rfl (by decide) F.gFlatPrice rfl) (keeps_ref F.kFlatPrice) (fun _ _ => cls_sound hC.toOk F.c_FlatPrice ((f195 F).more (by decide))) (sargs_cons (se_local hC.toOk rfl (by decide)) (sargs_cons (se_local hC.toOk rfl (by decide)) (sargs_cons (se_local hC.toOk rfl (by decide)) sargs_nil rfl) rfl) rfl) rfl (hst_of rfl)) (sargs_cons (se_ncall hC.toOk (se_glob hC.toOk rfl (by decide) F.gFlatPrice rfl) (keeps_ref F.kFlatPrice) (fun _ _ => cls_sound hC.toOk F.c_FlatPrice ((f195 F).more (by decide))) (sargs_cons (se_sub (se_local hC.toOk rfl (by decide)) se_int (fun _ _ => rfl)) (sargs_cons (se_sub (se_local hC.toOk rfl (by decide)) se_int (fun _ _ => rfl)) (sargs_cons (se_sub (se_local hC.toOk rfl (by decide)) se_int (fun _ _ => rfl)) sargs_nil rfl) rfl) rfl) rfl (hst_of rfl)) sargs_nil rfl) rfl)) (by intro x hx; simp only [List.mem_cons, List.not_mem_nil, or_false] at hx; rcases hx with rfl | rfl <;> rfl) rfl rfl)
  (ss_cons (ss_assign_name (se_ncall hC.toOk (se_glob hC.toOk rfl (by decide) F.glawsteps rfl) (keeps_ref F.klawsteps) (fun _ _ => fs_call hC.toOk ((f404 F).more (by decide))) (sargs_cons (se_local hC.toOk rfl (by decide)) (sargs_cons se_int (sargs_cons (se_local hC.toOk rfl (by decide)) (sargs_cons (se_local hC.toOk rfl (by decide)) sargs_nil rfl) rfl) rfl) rfl) rfl (hst_of rfl)) (fun _ _ => store_local hC rfl) rfl)
  (ss_cons (ss_assign_swapped hC (ns := [(Str.ofString "cost"), (Str.ofString "matches")]) (se_tuple (sargs_cons (se_ncall hC.toOk (se_glob hC.toOk rfl (by decide) F.gpriceof rfl) (keeps_ref F.kpriceof) (fun _ _ => fs_call hC.toOk ((f173 F).more (by decide))) (sargs_cons (se_local hC.toOk rfl (by decide)) (sargs_cons (se_local hC.toOk rfl (by decide)) sargs_nil rfl) rfl) rfl (hst_of rfl)) (sargs_cons (se_ncall hC.toOk (se_builtin hC.toOk rfl (by decide) F.blen rfl (by decide)) keeps_builtin len_sound (sargs_cons (se_comp hC (fr := []) rfl (fun x hx => by cases hx) (by decide) rfl (by decide) rfl (se_local hC.toOk rfl (by decide)) (fun _ _ => (stests_one (sb_cmp (se_sub (se_local (mkComp_ok hC.toOk rfl) rfl (by decide)) se_int (fun _ _ => rfl)) se_int cmp_sound rfl))) (fun _ _ => (se_local (mkComp_ok hC.toOk rfl) rfl (by decide))) (fun _ => rfl)) sargs_nil rfl) rfl (hst_of rfl)) sargs_nil rfl) rfl)) (by intro x hx; simp only [List.mem_cons, List.not_mem_nil, or_false] at hx; rcases hx with rfl | rfl <;> rfl) rfl rfl)
  (ss_cons (ss_if (sb_not (sb_value (se_ncall hC.toOk (se_glob hC.toOk rfl (by decide) F.gfits rfl) (keeps_ref F.kfits) (fun _ _ => fs_call hC.toOk ((f83 F).more (by decide))) (sargs_cons (se_local hC.toOk rfl (by decide)) (sargs_cons (se_local hC.toOk rfl (by decide)) (sargs_cons se_int (sargs_cons (se_sub (se_local hC.toOk rfl (by decide)) se_int (fun _ _ => rfl)) (sargs_cons (se_sub (se_local hC.toOk rfl (by decide)) se_int (fun _ _ => rfl)) (sargs_cons (se_sub (se_local hC.toOk rfl (by decide)) se_int (fun _ _ => rfl)) sargs_nil rfl) rfl) rfl) rfl) rfl) rfl) rfl (hst_of rfl)) rfl)) (ss_cons (ss_ret se_bool)
  ss_nil) ss_nil)
  (ss_cons (ss_if (sb_cmp (se_ncall hC.toOk (se_glob hC.toOk rfl (by decide) F.glawsteps rfl) (keeps_ref F.klawsteps) (fun _ _ => fs_call hC.toOk ((f404 F).more (by decide))) (sargs_cons (se_local hC.toOk rfl (by decide)) (sargs_cons se_int (sargs_cons (se_local hC.toOk rfl (by decide)) (sargs_cons (se_ncall hC.toOk (se_glob hC.toOk rfl (by decide) F.gFlatPrice rfl) (keeps_ref F.kFlatPrice) (fun _ _ => cls_sound hC.toOk F.c_FlatPrice ((f195 F).more (by decide))) (sargs_cons (se_binop se_int (se_local hC.toOk rfl (by decide)) mul_sound) (sargs_cons (se_binop se_int (se_local hC.toOk rfl (by decide)) mul_sound) (sargs_cons (se_binop se_int (se_local hC.toOk rfl (by decide)) mul_sound) sargs_nil rfl) rfl) rfl) rfl (hst_of rfl)) sargs_nil rfl) rfl) rfl) rfl) rfl (hst_of rfl)) (se_local hC.toOk rfl (by decide)) (ne_sound hC.toOk) rfl) (ss_cons (ss_ret se_bool)
  ss_nil) ss_nil)
  (ss_cons (ss_assign_name (se_binop (se_ncall hC.toOk (se_glob hC.toOk rfl (by decide) F.glawcost rfl) (keeps_ref F.klawcost) (fun _ _ => fs_call hC.toOk ((f411 F).more (by decide))) (sargs_cons (se_local hC.toOk rfl (by decide)) (sargs_cons se_int (sargs_cons (se_local hC.toOk rfl (by decide)) (sargs_cons (se_ncall hC.toOk (se_glob hC.toOk rfl (by decide) F.gFlatPrice rfl) (keeps_ref F.kFlatPrice) (fun _ _ => cls_sound hC.toOk F.c_FlatPrice ((f195 F).more (by decide))) (sargs_cons (se_local hC.toOk rfl (by decide)) (sargs_cons (se_binop (se_local hC.toOk rfl (by decide)) se_int add_sound) (sargs_cons (se_local hC.toOk rfl (by decide)) sargs_nil rfl) rfl) rfl) rfl (hst_of rfl)) sargs_nil rfl) rfl) rfl) rfl) rfl (hst_of rfl)) (se_local hC.toOk rfl (by decide)) sub_sound) (fun _ _ => store_local hC rfl) rfl)
  (ss_cons (ss_assign_name (se_binop (se_local hC.toOk rfl (by decide)) (se_ncall hC.toOk (se_glob hC.toOk rfl (by decide) F.glawcost rfl) (keeps_ref F.klawcost) (fun _ _ => fs_call hC.toOk ((f411 F).more (by decide))) (sargs_cons (se_local hC.toOk rfl (by decide)) (sargs_cons se_int (sargs_cons (se_local hC.toOk rfl (by decide)) (sargs_cons (se_ncall hC.toOk (se_glob hC.toOk rfl (by decide) F.gFlatPrice rfl) (keeps_ref F.kFlatPrice) (fun _ _ => cls_sound hC.toOk F.c_FlatPrice ((f195 F).more (by decide))) (sargs_cons (se_local hC.toOk rfl (by decide)) (sargs_cons (se_binop (se_local hC.toOk rfl (by decide)) se_int sub_sound) (sargs_cons (se_local hC.toOk rfl (by decide)) sargs_nil rfl) rfl) rfl) rfl (hst_of rfl)) sargs_nil rfl) rfl) rfl) rfl) rfl (hst_of rfl)) sub_sound) (fun _ _ => store_local hC rfl) rfl)
  (ss_cons (ss_if (sb_not (sb_chain se_int (tch_link (se_local hC.toOk rfl (by decide)) cmp_sound (tch_link (se_local hC.toOk rfl (by decide)) cmp_sound (tch_last (se_local hC.toOk rfl (by decide)) cmp_sound))) rfl)) (ss_cons (ss_ret se_bool)
  ss_nil) ss_nil)
  (ss_cons (ss_assign_name (se_ncall hC.toOk (se_glob hC.toOk rfl (by decide) F.gFlatPrice rfl) (keeps_ref F.kFlatPrice) (fun _ _ => cls_sound hC.toOk F.c_FlatPrice ((f195 F).more (by decide))) (sargs_cons (se_binop (se_local hC.toOk rfl (by decide)) (se_sub (se_local hC.toOk rfl (by decide)) se_int (fun _ _ => rfl)) add_sound) (sargs_cons (se_binop (se_local hC.toOk rfl (by decide)) (se_sub (se_local hC.toOk rfl (by decide)) se_int (fun _ _ => rfl)) add_sound) (sargs_cons (se_binop (se_local hC.toOk rfl (by decide)) (se_sub (se_local hC.toOk rfl (by decide)) se_int (fun _ _ => rfl)) add_sound) sargs_nil rfl) rfl) rfl) rfl (hst_of rfl)) (fun _ _ => store_local hC rfl) rfl)
  (ss_cons (ss_ret (se_cmp (se_ncall hC.toOk (se_glob hC.toOk rfl (by decide) F.glawcost rfl) (keeps_ref F.klawcost) (fun _ _ => fs_call hC.toOk ((f411 F).more (by decide))) (sargs_cons (se_local hC.toOk rfl (by decide)) (sargs_cons se_int (sargs_cons (se_local hC.toOk rfl (by decide)) (sargs_cons (se_local hC.toOk rfl (by decide)) sargs_nil rfl) rfl) rfl) rfl) rfl (hst_of rfl)) (se_binop (se_local hC.toOk rfl (by decide)) (se_ncall hC.toOk (se_glob hC.toOk rfl (by decide) F.glawcost rfl) (keeps_ref F.klawcost) (fun _ _ => fs_call hC.toOk ((f411 F).more (by decide))) (sargs_cons (se_local hC.toOk rfl (by decide)) (sargs_cons se_int (sargs_cons (se_local hC.toOk rfl (by decide)) (sargs_cons (se_local hC.toOk rfl (by decide)) sargs_nil rfl) rfl) rfl) rfl) rfl (hst_of rfl)) add_sound) cmp_sound rfl))
  ss_nil)))))))))))

-- _law_parts_right
noncomputable def b430 : SM := (seqS (evS (M.bind (M.bind (ldV (Str.ofString "text")) fun v => M.bind (M.bind (constM (.int 0)) fun v => M.bind (M.bind (ldV (Str.ofString "shape")) fun v => M.bind (M.bind (ldV (Str.ofString "price")) fun v => M.bind (M.pure []) fun vs => M.pure (v :: vs)) fun vs => M.pure (v :: vs)) fun vs => M.pure (v :: vs)) fun vs => M.pure (v :: vs)) (chkF p411)) fun a => stS ((putV (Str.ofString "whole")) a))
  (seqS (evS (M.bind (M.bind (M.bind (M.bind (M.bind (ldV (Str.ofString "text")) fun v => M.bind (M.pure none) fun lo => M.bind (M.bind (ldV (Str.ofString "cut")) intP) fun hi => cutM lo hi v) fun v => M.bind (M.bind (constM (.int 0)) fun v => M.bind (M.bind (ldV (Str.ofString "shape")) fun v => M.bind (M.bind (ldV (Str.ofString "price")) fun v => M.bind (M.pure []) fun vs => M.pure (v :: vs)) fun vs => M.pure (v :: vs)) fun vs => M.pure (v :: vs)) fun vs => M.pure (v :: vs)) (chkF p411)) fun v => M.bind (M.bind (M.bind (M.bind (ldV (Str.ofString "text")) fun v => M.bind (M.bind (ldV (Str.ofString "cut")) fun v => M.bind (M.bind (ldV (Str.ofString "shape")) fun v => M.bind (M.bind (ldV (Str.ofString "price")) fun v => M.bind (M.pure []) fun vs => M.pure (v :: vs)) fun vs => M.pure (v :: vs)) fun vs => M.pure (v :: vs)) fun vs => M.pure (v :: vs)) (chkF p411)) fun v => M.bind (M.pure []) fun vs => M.pure (v :: vs)) fun vs => M.pure (v :: vs)) newT) fun a => stS (swapU [(Str.ofString "ahead"), (Str.ofString "behind")] a))
  (seqS (evS (M.bind (M.bind (M.bind (ldV (Str.ofString "shape")) fun o => M.bind (constM (.int 0)) fun k => getI o k) fun a => M.bind (constM (.int 1)) fun b => subM a b) fun a => M.bind (M.bind (ldV (Str.ofString "price")) fun v => M.bind (chkI 212 (Str.ofString "literal") v) fun _ => M.bind (M.bind (constM (.int 0)) fun v => M.bind (M.pure []) fun vs => M.pure (v :: vs)) fun as => chkF p202 (v :: as)) fun b => mulM a b) fun a => stS ((putV (Str.ofString "left")) a))
  (seqS (evS (M.bind (M.bind (ldV (Str.ofString "whole")) fun a => M.bind (M.bind (ldV (Str.ofString "ahead")) fun a => M.bind (ldV (Str.ofString "behind")) fun b => addM a b) fun b => cmpM .LtE a b) fun a => M.bind (truM a) fun b => if b = true then (M.bind (M.bind (M.bind (ldV (Str.ofString "ahead")) fun v => M.bind (M.bind (ldV (Str.ofString "behind")) fun v => M.bind (M.pure []) fun vs => M.pure (v :: vs)) fun vs => M.pure (v :: vs)) maxB) fun a => M.bind (M.bind (ldV (Str.ofString "whole")) fun a => M.bind (ldV (Str.ofString "left")) fun b => addM a b) fun b => cmpM .LtE a b) else M.pure a) retS)
  nextS))))
noncomputable def p430 : PM := fun as H => if as.length = 4 then runB b430 (locOf ([(Str.ofString "text"), (Str.ofString "cut"), (Str.ofString "shape"), (Str.ofString "price")].zip (as ++ []))) H else none
theorem f430 {S : Stc} (F : Fct S) : FS S 430 10 p430 := by
  unfold p430 b430
  refine' fs_at (n := 4) (xs := [(Str.ofString "text"), (Str.ofString "cut"), (Str.ofString "shape"), (Str.ofString "price")]) F.h430 ?hb ?hnd ?hloc ?hk ?hco ?hgen ?hcell ?hbody
  case hb =>
    intro s vs name qual doc pm an cdv ct hv
    obtain ⟨a, b, c, d, rfl⟩ := ln4 hv
    exact BindsTo.of_eq rfl
  case hnd => decide
  case hloc => decide +kernel
  case hk => rfl
  case hco => rfl
  case hgen => rfl
  case hcell => decide +kernel
  case hbody =>
    intro A A₀ base h₀ outer L qual cdv hC
    exact (ss_cons (ss_assign_name (se_ncall hC.toOk (se_glob hC.toOk rfl (by decide) F.glawcost rfl) (keeps_ref F.klawcost) (fun _ _ => fs_call hC.toOk ((f411 F).more (by decide))) (sargs_cons (se_local hC.toOk rfl (by decide)) (sargs_cons se_int (sargs_cons (se_local hC.toOk rfl (by decide)) (sargs_cons (se_local hC.toOk rfl (by decide)) sargs_nil rfl) rfl) rfl) rfl) rfl (hst_of rfl)) (fun _ _ => store_local hC rfl) rfl)
  (ss_cons (ss_assign_swapped hC (ns := [(Str.ofString "ahead"), (Str.ofString "behind")]) (se_tuple (sargs_cons (se_ncall hC.toOk (se_glob hC.toOk rfl (by decide) F.glawcost rfl) (keeps_ref F.klawcost) (fun _ _ => fs_call hC.toOk ((f411 F).more (by decide))) (sargs_cons (se_cut (se_local hC.toOk rfl (by decide)) spart_none (spart_some (se_local hC.toOk rfl (by decide))) (fun _ _ => rfl) (fun _ _ _ => rfl)) (sargs_cons se_int (sargs_cons (se_local hC.toOk rfl (by decide)) (sargs_cons (se_local hC.toOk rfl (by decide)) sargs_nil rfl) rfl) rfl) rfl) rfl (hst_of rfl)) (sargs_cons (se_ncall hC.toOk (se_glob hC.toOk rfl (by decide) F.glawcost rfl) (keeps_ref F.klawcost) (fun _ _ => fs_call hC.toOk ((f411 F).more (by decide))) (sargs_cons (se_local hC.toOk rfl (by decide)) (sargs_cons (se_local hC.toOk rfl (by decide)) (sargs_cons (se_local hC.toOk rfl (by decide)) (sargs_cons (se_local hC.toOk rfl (by decide)) sargs_nil rfl) rfl) rfl) rfl) rfl (hst_of rfl)) sargs_nil rfl) rfl)) (by intro x hx; simp only [List.mem_cons, List.not_mem_nil, or_false] at hx; rcases hx with rfl | rfl <;> rfl) rfl rfl)
  (ss_cons (ss_assign_name (se_binop (se_binop (se_sub (se_local hC.toOk rfl (by decide)) se_int (fun _ _ => rfl)) se_int sub_sound) (se_mcall hC.toOk F.m_lit ((f202 F).more (by decide)) (se_local hC.toOk rfl (by decide)) (sargs_cons se_int sargs_nil rfl) rfl (hst_of rfl)) mul_sound) (fun _ _ => store_local hC rfl) rfl)
  (ss_cons (ss_ret (se_and2 (se_cmp (se_local hC.toOk rfl (by decide)) (se_binop (se_local hC.toOk rfl (by decide)) (se_local hC.toOk rfl (by decide)) add_sound) cmp_sound rfl) (se_cmp (se_ncall hC.toOk (se_builtin hC.toOk rfl (by decide) F.bmax rfl (by decide)) keeps_builtin (max_sound hC.toOk) (sargs_cons (se_local hC.toOk rfl (by decide)) (sargs_cons (se_local hC.toOk rfl (by decide)) sargs_nil rfl) rfl) rfl (hst_of rfl)) (se_binop (se_local hC.toOk rfl (by decide)) (se_local hC.toOk rfl (by decide)) add_sound) cmp_sound rfl)))
  ss_nil))))

-- _law_alike
noncomputable def b437 : SM := (seqS (evS (constM (.int 0)) fun a => stS ((putV (Str.ofString "found")) a))
  (seqS (whileM (andM (M.bind (ldV (Str.ofString "found")) fun a => M.bind (ldV (Str.ofString "most")) fun b => M.bind (cmpM .Lt a b) truM) (andM (M.bind (M.bind (ldV (Str.ofString "at")) fun a => M.bind (ldV (Str.ofString "found")) fun b => addM a b) fun a => M.bind (M.bind (M.bind (ldV (Str.ofString "text")) fun v => M.bind (M.pure []) fun vs => M.pure (v :: vs)) lenB) fun b => M.bind (cmpM .Lt a b) truM) (andM (M.bind (M.bind (ldV (Str.ofString "text")) fun o => M.bind (M.bind (ldV (Str.ofString "at")) fun a => M.bind (ldV (Str.ofString "found")) fun b => addM a b) fun k => getI o k) fun a => M.bind (M.bind (ldV (Str.ofString "text")) fun o => M.bind (M.bind (M.bind (ldV (Str.ofString "at")) fun a => M.bind (ldV (Str.ofString "found")) fun b => addM a b) fun a => M.bind (ldV (Str.ofString "back")) fun b => subM a b) fun k => getI o k) fun b => M.bind (cmpM .Eq a b) truM) (M.pure true)))) (seqS (evS (M.bind (ldV (Str.ofString "found")) fun a => M.bind (constM (.int 1)) fun b => addM a b) fun a => stS ((putV (Str.ofString "found")) a))
  nextS) 64)
  (seqS (evS (ldV (Str.ofString "found")) retS)
  nextS)))
noncomputable def p437 : PM := fun as H => if as.length = 4 then runB b437 (locOf ([(Str.ofString "text"), (Str.ofString "at"), (Str.ofString "back"), (Str.ofString "most")].zip (as ++ []))) H else none
theorem f437 {S : Stc} (F : Fct S) : FS S 437 1 p437 := by
  unfold p437 b437
  refine' fs_at (n := 4) (xs := [(Str.ofString "text"), (Str.ofString "at"), (Str.ofString "back"), (Str.ofString "most")]) F.h437 ?hb ?hnd ?hloc ?hk ?hco ?hgen ?hcell ?hbody
  case hb =>
    intro s vs name qual doc pm an cdv ct hv
    obtain ⟨a, b, c, d, rfl⟩ := ln4 hv
    exact BindsTo.of_eq rfl
  case hnd => decide
  case hloc => decide +kernel
  case hk => rfl
  case hco => rfl
  case hgen => rfl
  case hcell => decide +kernel
  case hbody =>
    intro A A₀ base h₀ outer L qual cdv hC
    exact (ss_cons (ss_assign_name se_int (fun _ _ => store_local hC rfl) rfl)
  (ss_cons (ss_while (sb_boolop (sall_and (sb_cmp (se_local hC.toOk rfl (by decide)) (se_local hC.toOk rfl (by decide)) cmp_sound rfl) (sall_and (sb_cmp (se_binop (se_local hC.toOk rfl (by decide)) (se_local hC.toOk rfl (by decide)) add_sound) (se_ncall hC.toOk (se_builtin hC.toOk rfl (by decide) F.blen rfl (by decide)) keeps_builtin len_sound (sargs_cons (se_local hC.toOk rfl (by decide)) sargs_nil rfl) rfl (hst_of rfl)) cmp_sound rfl) (sall_and (sb_cmp (se_sub (se_local hC.toOk rfl (by decide)) (se_binop (se_local hC.toOk rfl (by decide)) (se_local hC.toOk rfl (by decide)) add_sound) (fun _ _ => rfl)) (se_sub (se_local hC.toOk rfl (by decide)) (se_binop (se_binop (se_local hC.toOk rfl (by decide)) (se_local hC.toOk rfl (by decide)) add_sound) (se_local hC.toOk rfl (by decide)) sub_sound) (fun _ _ => rfl)) cmp_sound rfl) sall_and_nil)))) (ss_cons (ss_assign_name (se_binop (se_local hC.toOk rfl (by decide)) se_int add_sound) (fun _ _ => store_local hC rfl) rfl)
  ss_nil))
  (ss_cons (ss_ret (se_local hC.toOk rfl (by decide)))
  ss_nil)))

-- _law_fewest
noncomputable def b442 : SM := (seqS (evS (ldV (Str.ofString "shape")) fun a => stS ((unpU [(putV (Str.ofString "shortest")), (putV (Str.ofString "window")), (putV (Str.ofString "chain")), (putC (Str.ofString "most"))]) a))
  (seqS (evS (M.bind (M.bind (M.bind (constM (.int 0)) fun v => M.bind (M.pure []) fun vs => M.pure (v :: vs)) newL) fun a => M.bind (M.bind (M.bind (M.bind (ldC (Str.ofString "text")) fun v => M.bind (M.pure []) fun vs => M.pure (v :: vs)) lenB) fun a => M.bind (constM (.int 1)) fun b => addM a b) fun b => repM a b) fun a => stS ((putC (Str.ofString "few")) a))
  (seqS (forS (M.bind (M.bind (M.bind (M.bind (M.bind (ldC (Str.ofString "text")) fun v => M.bind (M.pure []) fun vs => M.pure (v :: vs)) lenB) fun a => M.bind (constM (.int 1)) fun b => subM a b) fun v => M.bind (M.bind (M.bind (constM (.int 1)) negM) fun v => M.bind (M.bind (M.bind (constM (.int 1)) negM) fun v => M.bind (M.pure []) fun vs => M.pure (v :: vs)) fun vs => M.pure (v :: vs)) fun vs => M.pure (v :: vs)) rngB) (fun _ => true) (putC (Str.ofString "at")) (seqS (evS (M.bind (M.bind (M.bind (M.bind (M.bind (constM (.int 0)) fun v => M.bind (M.pure []) fun vs => M.pure (v :: vs)) newL) fun a => M.bind (compE (Str.ofString "back") [(Str.ofString "at"), (Str.ofString "most"), (Str.ofString "text")] (M.bind (M.bind (constM (.int 1)) fun v => M.bind (M.bind (M.bind (M.bind (M.bind (ldC (Str.ofString "at")) fun v => M.bind (M.bind (ldV (Str.ofString "window")) fun v => M.bind (M.pure []) fun vs => M.pure (v :: vs)) fun vs => M.pure (v :: vs)) minB) fun a => M.bind (constM (.int 1)) fun b => addM a b) fun v => M.bind (M.pure []) fun vs => M.pure (v :: vs)) fun vs => M.pure (v :: vs)) rngB) (M.pure true) (M.bind (M.bind (ldC (Str.ofString "text")) fun v => M.bind (M.bind (ldC (Str.ofString "at")) fun v => M.bind (M.bind (ldV (Str.ofString "back")) fun v => M.bind (M.bind (ldC (Str.ofString "most")) fun v => M.bind (M.pure []) fun vs => M.pure (v :: vs)) fun vs => M.pure (v :: vs)) fun vs => M.pure (v :: vs)) fun vs => M.pure (v :: vs)) (chkF p437))) fun b => catM a b) fun v => M.bind (M.pure []) fun vs => M.pure (v :: vs)) maxB) fun a => stS ((putV (Str.ofString "longest")) a))
  (seqS (evS (M.bind (constM (.int 1)) fun a => M.bind (M.bind (M.bind (M.bind (M.bind (M.bind (M.bind (ldC (Str.ofString "few")) fun o => M.bind (M.bind (ldC (Str.ofString "at")) fun a => M.bind (constM (.int 1)) fun b => addM a b) fun k => getI o k) fun v => M.bind (M.pure []) fun vs => M.pure (v :: vs)) newL) fun a => M.bind (compE (Str.ofString "part") [(Str.ofString "at"), (Str.ofString "few")] (M.bind (M.bind (ldV (Str.ofString "shortest")) fun v => M.bind (M.bind (M.bind (ldV (Str.ofString "longest")) fun a => M.bind (constM (.int 1)) fun b => addM a b) fun v => M.bind (M.pure []) fun vs => M.pure (v :: vs)) fun vs => M.pure (v :: vs)) rngB) (M.pure true) (M.bind (ldC (Str.ofString "few")) fun o => M.bind (M.bind (ldC (Str.ofString "at")) fun a => M.bind (ldV (Str.ofString "part")) fun b => addM a b) fun k => getI o k)) fun b => catM a b) fun v => M.bind (M.pure []) fun vs => M.pure (v :: vs)) minB) fun b => addM a b) fun a => evS (ldC (Str.ofString "few")) fun b => evS (ldC (Str.ofString "at")) fun k => stS (updM (setIL b k a)))
  nextS)))
  (seqS (evS (M.bind (ldC (Str.ofString "few")) fun o => M.bind (constM (.int 0)) fun k => getI o k) retS)
  nextS))))
noncomputable def p442 : PM := fun as H => if as.length = 2 then runB b442 (locOfC ([(Str.ofString "text"), (Str.ofString "shape")].zip (as ++ [])) [(Str.ofString "at"), (Str.ofString "few"), (Str.ofString "most"), (Str.ofString "text")] H.length) (H ++ [(Str.ofString "at"), (Str.ofString "few"), (Str.ofString "most"), (Str.ofString "text")].map fun x => .cell (([(Str.ofString "text"), (Str.ofString "shape")].zip (as ++ [])).lookup x)) else none
theorem f442 {S : Stc} (F : Fct S) : FS S 442 2 p442 := by
  unfold p442 b442
  refine' fs_atC (n := 2) (xs := [(Str.ofString "text"), (Str.ofString "shape")]) (cn := [(Str.ofString "at"), (Str.ofString "few"), (Str.ofString "most"), (Str.ofString "text")]) F.h442 ?hb ?hnd ?hloc ?hcn ?hcnd ?hck ?hk ?hco ?hgen ?hbody
  case hb =>
    intro s vs name qual doc pm an cdv ct hv
    obtain ⟨a, b, rfl⟩ := ln2 hv
    exact BindsTo.of_eq rfl
  case hnd => decide
  case hloc => decide +kernel
  case hk => rfl
  case hco => rfl
  case hgen => rfl
  case hcn => exact fun _ => rfl
  case hcnd => decide
  case hck => decide +kernel
  case hbody =>
    intro A A₀ base h₀ outer L qual cdv hC
    exact (ss_cons (ss_assign_tuple (se_local hC.toOk rfl (by decide)) (st_tuple hC.toOk (us := [(putV (Str.ofString "shortest")), (putV (Str.ofString "window")), (putV (Str.ofString "chain")), (putC (Str.ofString "most"))]) ⟨(st_local hC rfl), (st_local hC rfl), (st_local hC rfl), (st_cell hC rfl), trivial⟩ rfl rfl) rfl rfl)
  (ss_cons (ss_assign_name (se_binop (se_list (sargs_cons se_int sargs_nil rfl)) (se_binop (se_ncall hC.toOk (se_builtin hC.toOk rfl (by decide) F.blen rfl (by decide)) keeps_builtin len_sound (sargs_cons (se_cell hC.toOk rfl (by decide)) sargs_nil rfl) rfl (hst_of rfl)) se_int add_sound) rep_sound) (fun _ _ => store_cell hC rfl) rfl)
  (ss_cons (ss_for hC (se_ncall hC.toOk (se_builtin hC.toOk rfl (by decide) F.brange rfl (by decide)) keeps_type rng_sound (sargs_cons (se_binop (se_ncall hC.toOk (se_builtin hC.toOk rfl (by decide) F.blen rfl (by decide)) keeps_builtin len_sound (sargs_cons (se_cell hC.toOk rfl (by decide)) sargs_nil rfl) rfl (hst_of rfl)) se_int sub_sound) (sargs_cons (se_neg se_int) (sargs_cons (se_neg se_int) sargs_nil rfl) rfl) rfl) rfl (hst_of rfl)) (st_cell hC rfl) (ss_cons (ss_assign_name (se_ncall hC.toOk (se_builtin hC.toOk rfl (by decide) F.bmax rfl (by decide)) keeps_builtin (max_sound hC.toOk) (sargs_cons (se_binop (se_list (sargs_cons se_int sargs_nil rfl)) (se_comp hC (fr := [(Str.ofString "at"), (Str.ofString "most"), (Str.ofString "text")]) rfl (by intro x hx; simp only [List.mem_cons, List.not_mem_nil, or_false] at hx; rcases hx with rfl | rfl | rfl <;> rfl) (by decide) rfl (by decide) rfl (se_ncall hC.toOk (se_builtin hC.toOk rfl (by decide) F.brange rfl (by decide)) keeps_type rng_sound (sargs_cons se_int (sargs_cons (se_binop (se_ncall hC.toOk (se_builtin hC.toOk rfl (by decide) F.bmin rfl (by decide)) keeps_builtin (min_sound hC.toOk) (sargs_cons (se_cell hC.toOk rfl (by decide)) (sargs_cons (se_local hC.toOk rfl (by decide)) sargs_nil rfl) rfl) rfl (hst_of rfl)) se_int add_sound) sargs_nil rfl) rfl) rfl (hst_of rfl)) (fun _ _ => stests_nil) (fun _ _ => (se_ncall (mkComp_ok hC.toOk rfl) (se_glob (mkComp_ok hC.toOk rfl) rfl (by decide) F.glawalike rfl) (keeps_ref F.klawalike) (fun _ _ => fs_call (mkComp_ok hC.toOk rfl) ((f437 F).more (by decide))) (sargs_cons (se_cell (mkComp_ok hC.toOk rfl) rfl (by decide)) (sargs_cons (se_cell (mkComp_ok hC.toOk rfl) rfl (by decide)) (sargs_cons (se_local (mkComp_ok hC.toOk rfl) rfl (by decide)) (sargs_cons (se_cell (mkComp_ok hC.toOk rfl) rfl (by decide)) sargs_nil rfl) rfl) rfl) rfl) rfl (hst_of rfl))) (fun _ => rfl)) cat_sound) sargs_nil rfl) rfl (hst_of rfl)) (fun _ _ => store_local hC rfl) rfl)
  (ss_cons (ss_item (se_binop se_int (se_ncall hC.toOk (se_builtin hC.toOk rfl (by decide) F.bmin rfl (by decide)) keeps_builtin (min_sound hC.toOk) (sargs_cons (se_binop (se_list (sargs_cons (se_sub (se_cell hC.toOk rfl (by decide)) (se_binop (se_cell hC.toOk rfl (by decide)) se_int add_sound) (fun _ _ => rfl)) sargs_nil rfl)) (se_comp hC (fr := [(Str.ofString "at"), (Str.ofString "few")]) rfl (by intro x hx; simp only [List.mem_cons, List.not_mem_nil, or_false] at hx; rcases hx with rfl | rfl <;> rfl) (by decide) rfl (by decide) rfl (se_ncall hC.toOk (se_builtin hC.toOk rfl (by decide) F.brange rfl (by decide)) keeps_type rng_sound (sargs_cons (se_local hC.toOk rfl (by decide)) (sargs_cons (se_binop (se_local hC.toOk rfl (by decide)) se_int add_sound) sargs_nil rfl) rfl) rfl (hst_of rfl)) (fun _ _ => stests_nil) (fun _ _ => (se_sub (se_cell (mkComp_ok hC.toOk rfl) rfl (by decide)) (se_binop (se_cell (mkComp_ok hC.toOk rfl) rfl (by decide)) (se_local (mkComp_ok hC.toOk rfl) rfl (by decide)) add_sound) (fun _ _ => rfl))) (fun _ => rfl)) cat_sound) sargs_nil rfl) rfl (hst_of rfl)) add_sound) (se_cell hC.toOk rfl (by decide)) (se_cell hC.toOk rfl (by decide)) (fun _ _ _ _ _ _ => setIL_sound) rfl)
  ss_nil)) go_name (fun _ => rfl))
  (ss_cons (ss_ret (se_sub (se_cell hC.toOk rfl (by decide)) se_int (fun _ _ => rfl)))
  ss_nil))))
-- part J0
theorem law_enter {S : Stc} {mean : ExcName → Option Value} {s₁ : Shared} {base h₁ : Heap} {tk₁ : Nat} {qual : Str} {scope : Scope} {f : Addr} {cdv : Value} {body : List Stmt} {o : Obj} {lsc : Addr} {P : SM} {Q : Flow → Shared → Prop} {E : Value → Shared → Prop} {rm : Nat}
    (KX : S.K.In s₁.heap) (T : Top S.p S.loose mean S.mg S.mb s₁.heap) (B : Below callerA base [] s₁.heap)
    (F : Fr s₁.heap s₁.heap.objs.size h₁ (bindL (envOfC qual scope s₁.heap.objs.size f cdv).kindOf [(Str.ofString "script", .ref lsc)] fun _ => none))
    (N : News s₁.heap s₁.heap.objs.size h₁ [(s₁.heap.objs.size + 1, o)])
    (ho : o.data = .cell (bindC (envOfC qual scope s₁.heap.objs.size f cdv).kindOf [(Str.ofString "script", .ref lsc)] (fun _ => none) (Str.ofString "pen")))
    (hk : scope.kind = .function) (hl : scope.names.lookup (Str.ofString "script") = some .local) (hp : scope.names.lookup (Str.ofString "pen") ≠ some .local) (hc : ∀ k, cellsFrom k scope.names [] = [(Str.ofString "pen", k)])
    (hr : callerA.depth + 1 + 4 * rm < recursionLimit) (hu : callerA.units + 3 + 40 * rm < cLine)
    (hS : (mkC S (callerA.deeper (envOfC qual scope s₁.heap.objs.size f cdv)) callerA base s₁.heap [] s₁.heap.objs.size qual scope f cdv (cellsFrom (s₁.heap.objs.size + 1) scope.names [])).Fn rm →
      SSs (mkC S (callerA.deeper (envOfC qual scope s₁.heap.objs.size f cdv)) callerA base s₁.heap [] s₁.heap.objs.size qual scope f cdv (cellsFrom (s₁.heap.objs.size + 1) scope.names [])) body P)
    (hP : ∃ lm' H', P (locOfC [(Str.ofString "script", .con (.ref lsc))] [Str.ofString "pen"] 0) [.cell none] = some (.ret (.bool true), lm', H'))
    (hQ : ∀ h' tk' m', Fr s₁.heap s₁.heap.objs.size h' m' → Q (.ret (.bool true)) { s₁ with heap := h', toks := tk' }) :
    wpAny (model S.prog S.w) (callerA.deeper (envOfC qual scope s₁.heap.objs.size f cdv)) (execs body (envOfC qual scope s₁.heap.objs.size f cdv)) Q E { s₁ with heap := h₁, toks := tk₁ } := by
  obtain ⟨lm', H', hP⟩ := hP
  have OK : (mkC S (callerA.deeper (envOfC qual scope s₁.heap.objs.size f cdv)) callerA base s₁.heap [] s₁.heap.objs.size qual scope f cdv (cellsFrom (s₁.heap.objs.size + 1) scope.names [])).Fn rm :=
    { fr := Around.frames_deeper B.stack, hd := rfl, B := B, X := KX, T := topRead_of T, ff := rfl, fk := hk, ek := hk, eg := rfl, eb := rfl, room := hr, units := hu, nc := rfl, lo := rfl }
  have nd : ([(Str.ofString "script", Value.ref lsc)].map (·.1)).Nodup := List.nodup_cons.mpr ⟨by simp, List.nodup_nil⟩
  refine wpAny_mono (hS OK [] { s₁ with heap := h₁, toks := tk₁ } [s₁.heap.objs.size + 1] (locOfC [(Str.ofString "script", .con (.ref lsc))] [Str.ofString "pen"] 0) [.cell none] _ lm' H' ?_ hP (fun a s' => a = .ret (.bool true) ∧ Q (.ret (.bool true)) s') fun a h' tk' ι' S' p' r' => ?_) (fun a s' h => ?_) fun _ _ x => x.elim
  · refine ⟨_, [(s₁.heap.objs.size + 1, o)], rfl, F, N, ?_, ⟨rfl, ?_⟩, ⟨⟨_, ⟨rfl, rfl⟩, fun x av ex => ?_⟩, fun x i ex => ?_⟩⟩
    · exact List.nodup_cons.mpr ⟨by simp, List.nodup_nil⟩
    · intro i ao p e1 e2
      match i with
      | 0 =>
        (first | exact no1 e1 | obtain ⟨rfl, rfl, rfl⟩ := jn3 e1 | obtain ⟨rfl, rfl⟩ := jn2 e1 | obtain rfl := jn1 e1 | cases e1); (first | exact no1 e2 | obtain ⟨rfl, rfl, rfl⟩ := jn3 e2 | obtain ⟨rfl, rfl⟩ := jn2 e2 | obtain rfl := jn1 e2 | cases e2)
        refine ⟨⟨_, ho, ?_⟩, fun es h => by cases h⟩
        rw [bindC_of _ nd _ hp]
        have : List.lookup (Str.ofString "pen") [(Str.ofString "script", Value.ref lsc)] = none := by
          rw [List.lookup_cons, show (Str.ofString "pen" == Str.ofString "script") = false by decide]; rfl
        rw [this]; trivial
      | i + 1 => simp at e1
    · have ex : (if x ∈ [Str.ofString "pen"] then none else [(Str.ofString "script", AV.con (.ref lsc))].lookup x) = some av := ex
      split at ex
      · (first | exact no1 ex | obtain ⟨rfl, rfl, rfl⟩ := jn3 ex | obtain ⟨rfl, rfl⟩ := jn2 ex | obtain rfl := jn1 ex | cases ex)
      · rw [List.lookup_cons] at ex
        cases q : x == Str.ofString "script" with
        | false => rw [q] at ex; (first | exact no1 ex | obtain ⟨rfl, rfl, rfl⟩ := jn3 ex | obtain ⟨rfl, rfl⟩ := jn2 ex | obtain rfl := jn1 ex | cases ex)
        | true =>
          rw [q] at ex
          (first | exact no1 ex | obtain ⟨rfl, rfl, rfl⟩ := jn3 ex | obtain ⟨rfl, rfl⟩ := jn2 ex | obtain rfl := jn1 ex | cases ex)
          have hx : x = Str.ofString "script" := by simpa using q
          subst hx
          refine ⟨.ref lsc, ?_, rfl⟩
          rw [bindL_of _ nd _ hl]
          rw [List.lookup_cons, q]; rfl
    · obtain ⟨j, rfl, h1, h2⟩ := ixOf_some ex
      have hx := List.mem_singleton.mp h2
      subst hx
      match j with
      | 0 =>
        refine ⟨s₁.heap.objs.size + 1, ?_, rfl⟩
        show (cellsFrom (s₁.heap.objs.size + 1) scope.names []).lookup _ = _
        rw [hc, List.lookup_cons, beq_self_eq_true]
      | j + 1 => simp at h1
  · obtain ⟨v, rfl, hv⟩ := r'
    (first | exact no1 hv | obtain ⟨rfl, rfl, rfl⟩ := jn3 hv | obtain ⟨rfl, rfl⟩ := jn2 hv | obtain rfl := jn1 hv | cases hv)
    obtain ⟨m', led', el', F2, N2, nd2, LR2, V2⟩ := S'
    exact ⟨rfl, hQ h' tk' m' F2⟩
  · obtain ⟨rfl, h⟩ := h
    exact h
-- part L0
noncomputable def b447 (sl : Addr) (sns : List Int) : SM := (seqS (evS (M.bind (M.bind (M.bind (constM (.int 1)) fun a => M.bind (M.bind (M.bind (M.bind (M.bind (ldV (Str.ofString "script")) fun v => M.bind (M.pure []) fun vs => M.pure (v :: vs)) (sumB sl sns)) fun v => M.bind (M.pure []) fun vs => M.pure (v :: vs)) absB) fun b => addM a b) fun v => M.bind (M.pure []) fun vs => M.pure (v :: vs)) newL) fun a => stS ((putC (Str.ofString "pen")) a))
  (seqS (evS (M.bind (constM (.int 2)) fun a => M.bind (M.bind (M.bind (ldC (Str.ofString "pen")) fun v => M.bind (M.bind (constM (.int 8)) fun v => M.bind (M.pure []) fun vs => M.pure (v :: vs)) fun vs => M.pure (v :: vs)) (chkF p397)) fun b => addM a b) fun a => stS ((putV (Str.ofString "size")) a))
  (seqS (evS (M.bind (M.bind (compE (Str.ofString "turn") [(Str.ofString "pen")] (M.bind (M.bind (ldV (Str.ofString "size")) fun v => M.bind (M.pure []) fun vs => M.pure (v :: vs)) rngB) (M.pure true) (M.bind (constM (.int 97)) fun a => M.bind (M.bind (M.bind (ldC (Str.ofString "pen")) fun v => M.bind (M.bind (constM (.int 4)) fun v => M.bind (M.pure []) fun vs => M.pure (v :: vs)) fun vs => M.pure (v :: vs)) (chkF p397)) fun b => addM a b)) fun v => M.bind (M.pure []) fun vs => M.pure (v :: vs)) bytesB) fun a => stS ((putV (Str.ofString "text")) a))
  (seqS (evS (M.bind (M.bind (M.bind (constM (.int 1)) fun a => M.bind (M.bind (M.bind (ldC (Str.ofString "pen")) fun v => M.bind (M.bind (constM (.int 4)) fun v => M.bind (M.pure []) fun vs => M.pure (v :: vs)) fun vs => M.pure (v :: vs)) (chkF p397)) fun b => addM a b) fun v => M.bind (M.bind (M.bind (constM (.int 1)) fun a => M.bind (M.bind (M.bind (ldC (Str.ofString "pen")) fun v => M.bind (M.bind (constM (.int 5)) fun v => M.bind (M.pure []) fun vs => M.pure (v :: vs)) fun vs => M.pure (v :: vs)) (chkF p397)) fun b => addM a b) fun v => M.bind (M.bind (M.bind (M.bind (ldC (Str.ofString "pen")) fun v => M.bind (M.bind (constM (.int 3)) fun v => M.bind (M.pure []) fun vs => M.pure (v :: vs)) fun vs => M.pure (v :: vs)) (chkF p397)) fun v => M.bind (M.pure []) fun vs => M.pure (v :: vs)) fun vs => M.pure (v :: vs)) fun vs => M.pure (v :: vs)) newT) fun a => stS ((putV (Str.ofString "prices")) a))
  (seqS (evS (M.bind (M.bind (M.bind (constM (.int 2)) fun a => M.bind (M.bind (M.bind (ldC (Str.ofString "pen")) fun v => M.bind (M.bind (constM (.int 2)) fun v => M.bind (M.pure []) fun vs => M.pure (v :: vs)) fun vs => M.pure (v :: vs)) (chkF p397)) fun b => addM a b) fun v => M.bind (M.bind (M.bind (constM (.int 1)) fun a => M.bind (M.bind (M.bind (ldC (Str.ofString "pen")) fun v => M.bind (M.bind (constM (.int 9)) fun v => M.bind (M.pure []) fun vs => M.pure (v :: vs)) fun vs => M.pure (v :: vs)) (chkF p397)) fun b => addM a b) fun v => M.bind (M.bind (M.bind (constM (.int 1)) fun a => M.bind (M.bind (M.bind (ldC (Str.ofString "pen")) fun v => M.bind (M.bind (constM (.int 3)) fun v => M.bind (M.pure []) fun vs => M.pure (v :: vs)) fun vs => M.pure (v :: vs)) (chkF p397)) fun b => addM a b) fun v => M.bind (M.bind (M.bind (constM (.int 2)) fun a => M.bind (M.bind (M.bind (ldC (Str.ofString "pen")) fun v => M.bind (M.bind (constM (.int 5)) fun v => M.bind (M.pure []) fun vs => M.pure (v :: vs)) fun vs => M.pure (v :: vs)) (chkF p397)) fun b => addM a b) fun v => M.bind (M.pure []) fun vs => M.pure (v :: vs)) fun vs => M.pure (v :: vs)) fun vs => M.pure (v :: vs)) fun vs => M.pure (v :: vs)) newT) fun a => stS ((putV (Str.ofString "shape")) a))
  (seqS (evS (M.bind (M.bind (M.bind (constM (.int 1)) fun a => M.bind (M.bind (M.bind (ldC (Str.ofString "pen")) fun v => M.bind (M.bind (constM (.int 3)) fun v => M.bind (M.pure []) fun vs => M.pure (v :: vs)) fun vs => M.pure (v :: vs)) (chkF p397)) fun b => addM a b) fun v => M.bind (M.bind (M.bind (M.bind (M.bind (ldC (Str.ofString "pen")) fun v => M.bind (M.bind (constM (.int 10)) fun v => M.bind (M.pure []) fun vs => M.pure (v :: vs)) fun vs => M.pure (v :: vs)) (chkF p397)) fun a => M.bind (M.bind (ldV (Str.ofString "size")) fun a => M.bind (constM (.int 1)) fun b => addM a b) fun b => modM a b) fun v => M.bind (M.pure []) fun vs => M.pure (v :: vs)) fun vs => M.pure (v :: vs)) newT) fun a => stS (swapU [(Str.ofString "more"), (Str.ofString "cut")] a))
  (seqS (evS (M.bind (M.bind (M.bind (M.bind (ldC (Str.ofString "pen")) fun v => M.bind (M.bind (constM (.int 4)) fun v => M.bind (M.pure []) fun vs => M.pure (v :: vs)) fun vs => M.pure (v :: vs)) (chkF p397)) fun v => M.bind (M.bind (M.bind (M.bind (ldC (Str.ofString "pen")) fun v => M.bind (M.bind (constM (.int 5)) fun v => M.bind (M.pure []) fun vs => M.pure (v :: vs)) fun vs => M.pure (v :: vs)) (chkF p397)) fun v => M.bind (M.bind (M.bind (M.bind (ldC (Str.ofString "pen")) fun v => M.bind (M.bind (constM (.int 3)) fun v => M.bind (M.pure []) fun vs => M.pure (v :: vs)) fun vs => M.pure (v :: vs)) (chkF p397)) fun v => M.bind (M.pure []) fun vs => M.pure (v :: vs)) fun vs => M.pure (v :: vs)) fun vs => M.pure (v :: vs)) newT) fun a => stS ((putV (Str.ofString "others")) a))
  (seqS (evS (M.bind (M.bind (M.bind (M.bind (M.bind (ldV (Str.ofString "prices")) fun o => M.bind (constM (.int 0)) fun k => getI o k) fun v => M.bind (M.bind (M.bind (ldV (Str.ofString "prices")) fun o => M.bind (constM (.int 1)) fun k => getI o k) fun v => M.bind (M.bind (M.bind (ldV (Str.ofString "prices")) fun o => M.bind (constM (.int 2)) fun k => getI o k) fun v => M.bind (M.pure []) fun vs => M.pure (v :: vs)) fun vs => M.pure (v :: vs)) fun vs => M.pure (v :: vs)) (newI 212 p195)) fun v => M.bind (M.bind (M.bind (M.bind (M.bind (ldV (Str.ofString "shape")) fun o => M.bind (constM (.int 0)) fun k => getI o k) fun v => M.bind (M.bind (M.bind (ldV (Str.ofString "shape")) fun o => M.bind (constM (.int 1)) fun k => getI o k) fun v => M.bind (M.bind (ldV (Str.ofString "size")) fun v => M.bind (M.bind (M.bind (ldV (Str.ofString "shape")) fun o => M.bind (constM (.int 3)) fun k => getI o k) fun v => M.bind (M.pure []) fun vs => M.pure (v :: vs)) fun vs => M.pure (v :: vs)) fun vs => M.pure (v :: vs)) fun vs => M.pure (v :: vs)) newT) fun v => M.bind (M.pure []) fun vs => M.pure (v :: vs)) fun vs => M.pure (v :: vs)) newT) fun a => stS (swapU [(Str.ofString "price"), (Str.ofString "whole")] a))
  (seqS (iteS (orM (notM (M.bind (M.bind (M.bind (ldV (Str.ofString "text")) fun v => M.bind (M.bind (ldV (Str.ofString "shape")) fun v => M.bind (M.bind (ldV (Str.ofString "more")) fun v => M.bind (M.bind (ldV (Str.ofString "price")) fun v => M.bind (M.pure []) fun vs => M.pure (v :: vs)) fun vs => M.pure (v :: vs)) fun vs => M.pure (v :: vs)) fun vs => M.pure (v :: vs)) (chkF p418)) truM)) (orM (notM (M.bind (M.bind (M.bind (ldV (Str.ofString "text")) fun v => M.bind (M.bind (ldV (Str.ofString "shape")) fun v => M.bind (M.bind (ldV (Str.ofString "prices")) fun v => M.bind (M.bind (ldV (Str.ofString "others")) fun v => M.bind (M.pure []) fun vs => M.pure (v :: vs)) fun vs => M.pure (v :: vs)) fun vs => M.pure (v :: vs)) fun vs => M.pure (v :: vs)) (chkF p423)) truM)) (M.pure false))) (seqS (evS (constM (.bool false)) retS)
  nextS) nextS)
  (seqS (iteS (notM (M.bind (M.bind (M.bind (ldV (Str.ofString "text")) fun v => M.bind (M.bind (ldV (Str.ofString "cut")) fun v => M.bind (M.bind (ldV (Str.ofString "whole")) fun v => M.bind (M.bind (ldV (Str.ofString "price")) fun v => M.bind (M.pure []) fun vs => M.pure (v :: vs)) fun vs => M.pure (v :: vs)) fun vs => M.pure (v :: vs)) fun vs => M.pure (v :: vs)) (chkF p430)) truM)) (seqS (evS (constM (.bool false)) retS)
  nextS) nextS)
  (seqS (evS (M.bind (M.bind (M.bind (M.bind (M.bind (ldV (Str.ofString "text")) fun v => M.bind (M.bind (constM (.int 0)) fun v => M.bind (M.bind (ldV (Str.ofString "whole")) fun v => M.bind (M.bind (M.bind (M.bind (constM (.int 1)) fun v => M.bind (M.bind (constM (.int 1)) fun v => M.bind (M.pure []) fun vs => M.pure (v :: vs)) fun vs => M.pure (v :: vs)) (newI 212 p195)) fun v => M.bind (M.pure []) fun vs => M.pure (v :: vs)) fun vs => M.pure (v :: vs)) fun vs => M.pure (v :: vs)) fun vs => M.pure (v :: vs)) (chkF p404)) fun v => M.bind (M.pure []) fun vs => M.pure (v :: vs)) lenB) fun a => M.bind (M.bind (M.bind (ldV (Str.ofString "text")) fun v => M.bind (M.bind (ldV (Str.ofString "whole")) fun v => M.bind (M.pure []) fun vs => M.pure (v :: vs)) fun vs => M.pure (v :: vs)) (chkF p442)) fun b => cmpM .Eq a b) retS)
  nextS)))))))))))
theorem law_ok {S : Stc} (F : Fct S) {sl : Addr} {sns : List Int} {ws : List Value} {A A₀ : Around} {base h₀ : Heap} {L : Addr} {qual : Str} {f : Addr} {cd : Value}
    (hC : (mkC S A A₀ base h₀ [] L qual (fdS D447) f cd (cellsFrom (L + 1) (fdS D447).names [])).Fn 12) (shl : h₀.IsList sl ws.toArray) (shi : IntsAre ws sns) :
    SSs (mkC S A A₀ base h₀ [] L qual (fdS D447) f cd (cellsFrom (L + 1) (fdS D447).names [])) (fdB D447) (b447 sl sns) := by
  unfold b447
  exact (ss_cons (ss_assign_name (se_list (sargs_cons (se_binop se_int (se_ncall hC.toOk (se_builtin hC.toOk rfl (by decide) F.babs rfl (by decide)) keeps_builtin abs_sound (sargs_cons (se_ncall hC.toOk (se_builtin hC.toOk rfl (by decide) F.bsum rfl (by decide)) keeps_builtin (sum_sound hC.toOk shl shi) (sargs_cons (se_local hC.toOk rfl (by decide)) sargs_nil rfl) rfl (hst_of rfl)) sargs_nil rfl) rfl (hst_of rfl)) add_sound) sargs_nil rfl)) (fun _ _ => store_cell hC rfl) rfl)
  (ss_cons (ss_assign_name (se_binop se_int (se_ncall hC.toOk (se_glob hC.toOk rfl (by decide) F.glawdigit rfl) (keeps_ref F.klawdigit) (fun _ _ => fs_call hC.toOk ((f397 F).more (by decide))) (sargs_cons (se_cell hC.toOk rfl (by decide)) (sargs_cons se_int sargs_nil rfl) rfl) rfl (hst_of rfl)) add_sound) (fun _ _ => store_local hC rfl) rfl)
  (ss_cons (ss_assign_name (se_ncall hC.toOk (se_builtin hC.toOk rfl (by decide) F.bbytes rfl (by decide)) keeps_type (bytes_sound hC.toOk) (sargs_cons (se_comp hC (fr := [(Str.ofString "pen")]) rfl (by intro x hx; simp only [List.mem_cons, List.not_mem_nil, or_false] at hx; subst hx; rfl) (by decide) rfl (by decide) rfl (se_ncall hC.toOk (se_builtin hC.toOk rfl (by decide) F.brange rfl (by decide)) keeps_type rng_sound (sargs_cons (se_local hC.toOk rfl (by decide)) sargs_nil rfl) rfl (hst_of rfl)) (fun _ _ => stests_nil) (fun _ _ => (se_binop se_int (se_ncall (mkComp_ok hC.toOk rfl) (se_glob (mkComp_ok hC.toOk rfl) rfl (by decide) F.glawdigit rfl) (keeps_ref F.klawdigit) (fun _ _ => fs_call (mkComp_ok hC.toOk rfl) ((f397 F).more (by decide))) (sargs_cons (se_cell (mkComp_ok hC.toOk rfl) rfl (by decide)) (sargs_cons se_int sargs_nil rfl) rfl) rfl (hst_of rfl)) add_sound)) (fun _ => rfl)) sargs_nil rfl) rfl (hst_of rfl)) (fun _ _ => store_local hC rfl) rfl)
  (ss_cons (ss_assign_name (se_tuple (sargs_cons (se_binop se_int (se_ncall hC.toOk (se_glob hC.toOk rfl (by decide) F.glawdigit rfl) (keeps_ref F.klawdigit) (fun _ _ => fs_call hC.toOk ((f397 F).more (by decide))) (sargs_cons (se_cell hC.toOk rfl (by decide)) (sargs_cons se_int sargs_nil rfl) rfl) rfl (hst_of rfl)) add_sound) (sargs_cons (se_binop se_int (se_ncall hC.toOk (se_glob hC.toOk rfl (by decide) F.glawdigit rfl) (keeps_ref F.klawdigit) (fun _ _ => fs_call hC.toOk ((f397 F).more (by decide))) (sargs_cons (se_cell hC.toOk rfl (by decide)) (sargs_cons se_int sargs_nil rfl) rfl) rfl (hst_of rfl)) add_sound) (sargs_cons (se_ncall hC.toOk (se_glob hC.toOk rfl (by decide) F.glawdigit rfl) (keeps_ref F.klawdigit) (fun _ _ => fs_call hC.toOk ((f397 F).more (by decide))) (sargs_cons (se_cell hC.toOk rfl (by decide)) (sargs_cons se_int sargs_nil rfl) rfl) rfl (hst_of rfl)) sargs_nil rfl) rfl) rfl)) (fun _ _ => store_local hC rfl) rfl)
  (ss_cons (ss_assign_name (se_tuple (sargs_cons (se_binop se_int (se_ncall hC.toOk (se_glob hC.toOk rfl (by decide) F.glawdigit rfl) (keeps_ref F.klawdigit) (fun _ _ => fs_call hC.toOk ((f397 F).more (by decide))) (sargs_cons (se_cell hC.toOk rfl (by decide)) (sargs_cons se_int sargs_nil rfl) rfl) rfl (hst_of rfl)) add_sound) (sargs_cons (se_binop se_int (se_ncall hC.toOk (se_glob hC.toOk rfl (by decide) F.glawdigit rfl) (keeps_ref F.klawdigit) (fun _ _ => fs_call hC.toOk ((f397 F).more (by decide))) (sargs_cons (se_cell hC.toOk rfl (by decide)) (sargs_cons se_int sargs_nil rfl) rfl) rfl (hst_of rfl)) add_sound) (sargs_cons (se_binop se_int (se_ncall hC.toOk (se_glob hC.toOk rfl (by decide) F.glawdigit rfl) (keeps_ref F.klawdigit) (fun _ _ => fs_call hC.toOk ((f397 F).more (by decide))) (sargs_cons (se_cell hC.toOk rfl (by decide)) (sargs_cons se_int sargs_nil rfl) rfl) rfl (hst_of rfl)) add_sound) (sargs_cons (se_binop se_int (se_ncall hC.toOk (se_glob hC.toOk rfl (by decide) F.glawdigit rfl) (keeps_ref F.klawdigit) (fun _ _ => fs_call hC.toOk ((f397 F).more (by decide))) (sargs_cons (se_cell hC.toOk rfl (by decide)) (sargs_cons se_int sargs_nil rfl) rfl) rfl (hst_of rfl)) add_sound) sargs_nil rfl) rfl) rfl) rfl)) (fun _ _ => store_local hC rfl) rfl)
  (ss_cons (ss_assign_swapped hC (ns := [(Str.ofString "more"), (Str.ofString "cut")]) (se_tuple (sargs_cons (se_binop se_int (se_ncall hC.toOk (se_glob hC.toOk rfl (by decide) F.glawdigit rfl) (keeps_ref F.klawdigit) (fun _ _ => fs_call hC.toOk ((f397 F).more (by decide))) (sargs_cons (se_cell hC.toOk rfl (by decide)) (sargs_cons se_int sargs_nil rfl) rfl) rfl (hst_of rfl)) add_sound) (sargs_cons (se_binop (se_ncall hC.toOk (se_glob hC.toOk rfl (by decide) F.glawdigit rfl) (keeps_ref F.klawdigit) (fun _ _ => fs_call hC.toOk ((f397 F).more (by decide))) (sargs_cons (se_cell hC.toOk rfl (by decide)) (sargs_cons se_int sargs_nil rfl) rfl) rfl (hst_of rfl)) (se_binop (se_local hC.toOk rfl (by decide)) se_int add_sound) mod_sound) sargs_nil rfl) rfl)) (by intro x hx; simp only [List.mem_cons, List.not_mem_nil, or_false] at hx; rcases hx with rfl | rfl <;> rfl) rfl rfl)
  (ss_cons (ss_assign_name (se_tuple (sargs_cons (se_ncall hC.toOk (se_glob hC.toOk rfl (by decide) F.glawdigit rfl) (keeps_ref F.klawdigit) (fun _ _ => fs_call hC.toOk ((f397 F).more (by decide))) (sargs_cons (se_cell hC.toOk rfl (by decide)) (sargs_cons se_int sargs_nil rfl) rfl) rfl (hst_of rfl)) (sargs_cons (se_ncall hC.toOk (se_glob hC.toOk rfl (by decide) F.glawdigit rfl) (keeps_ref F.klawdigit) (fun _ _ => fs_call hC.toOk ((f397 F).more (by decide))) (sargs_cons (se_cell hC.toOk rfl (by decide)) (sargs_cons se_int sargs_nil rfl) rfl) rfl (hst_of rfl)) (sargs_cons (se_ncall hC.toOk (se_glob hC.toOk rfl (by decide) F.glawdigit rfl) (keeps_ref F.klawdigit) (fun _ _ => fs_call hC.toOk ((f397 F).more (by decide))) (sargs_cons (se_cell hC.toOk rfl (by decide)) (sargs_cons se_int sargs_nil rfl) rfl) rfl (hst_of rfl)) sargs_nil rfl) rfl) rfl)) (fun _ _ => store_local hC rfl) rfl)
  (ss_cons (ss_assign_swapped hC (ns := [(Str.ofString "price"), (Str.ofString "whole")]) (se_tuple (sargs_cons (se_ncall hC.toOk (se_glob hC.toOk rfl (by decide) F.gFlatPrice rfl) (keeps_ref F.kFlatPrice) (fun _ _ => cls_sound hC.toOk F.c_FlatPrice ((f195 F).more (by decide))) (sargs_cons (se_sub (se_local hC.toOk rfl (by decide)) se_int (fun _ _ => rfl)) (sargs_cons (se_sub (se_local hC.toOk rfl (by decide)) se_int (fun _ _ => rfl)) (sargs_cons (se_sub (se_local hC.toOk rfl (by decide)) se_int (fun _ _ => rfl)) sargs_nil rfl) rfl) rfl) rfl (hst_of rfl)) (sargs_cons (se_tuple (sargs_cons (se_sub (se_local hC.toOk rfl (by decide)) se_int (fun _ _ => rfl)) (sargs_cons (se_sub (se_local hC.toOk rfl (by decide)) se_int (fun _ _ => rfl)) (sargs_cons (se_local hC.toOk rfl (by decide)) (sargs_cons (se_sub (se_local hC.toOk rfl (by decide)) se_int (fun _ _ => rfl)) sargs_nil rfl) rfl) rfl) rfl)) sargs_nil rfl) rfl)) (by intro x hx; simp only [List.mem_cons, List.not_mem_nil, or_false] at hx; rcases hx with rfl | rfl <;> rfl) rfl rfl)
  (ss_cons (ss_if (sb_boolop (sall_or (sb_not (sb_value (se_ncall hC.toOk (se_glob hC.toOk rfl (by decide) F.glawboundsright rfl) (keeps_ref F.klawboundsright) (fun _ _ => fs_call hC.toOk ((f418 F).more (by decide))) (sargs_cons (se_local hC.toOk rfl (by decide)) (sargs_cons (se_local hC.toOk rfl (by decide)) (sargs_cons (se_local hC.toOk rfl (by decide)) (sargs_cons (se_local hC.toOk rfl (by decide)) sargs_nil rfl) rfl) rfl) rfl) rfl (hst_of rfl)) rfl)) (sall_or (sb_not (sb_value (se_ncall hC.toOk (se_glob hC.toOk rfl (by decide) F.glawpricesright rfl) (keeps_ref F.klawpricesright) (fun _ _ => fs_call hC.toOk ((f423 F).more (by decide))) (sargs_cons (se_local hC.toOk rfl (by decide)) (sargs_cons (se_local hC.toOk rfl (by decide)) (sargs_cons (se_local hC.toOk rfl (by decide)) (sargs_cons (se_local hC.toOk rfl (by decide)) sargs_nil rfl) rfl) rfl) rfl) rfl (hst_of rfl)) rfl)) sall_or_nil))) (ss_cons (ss_ret se_bool)
  ss_nil) ss_nil)
  (ss_cons (ss_if (sb_not (sb_value (se_ncall hC.toOk (se_glob hC.toOk rfl (by decide) F.glawpartsright rfl) (keeps_ref F.klawpartsright) (fun _ _ => fs_call hC.toOk ((f430 F).more (by decide))) (sargs_cons (se_local hC.toOk rfl (by decide)) (sargs_cons (se_local hC.toOk rfl (by decide)) (sargs_cons (se_local hC.toOk rfl (by decide)) (sargs_cons (se_local hC.toOk rfl (by decide)) sargs_nil rfl) rfl) rfl) rfl) rfl (hst_of rfl)) rfl)) (ss_cons (ss_ret se_bool)
  ss_nil) ss_nil)
  (ss_cons (ss_ret (se_cmp (se_ncall hC.toOk (se_builtin hC.toOk rfl (by decide) F.blen rfl (by decide)) keeps_builtin len_sound (sargs_cons (se_ncall hC.toOk (se_glob hC.toOk rfl (by decide) F.glawsteps rfl) (keeps_ref F.klawsteps) (fun _ _ => fs_call hC.toOk ((f404 F).more (by decide))) (sargs_cons (se_local hC.toOk rfl (by decide)) (sargs_cons se_int (sargs_cons (se_local hC.toOk rfl (by decide)) (sargs_cons (se_ncall hC.toOk (se_glob hC.toOk rfl (by decide) F.gFlatPrice rfl) (keeps_ref F.kFlatPrice) (fun _ _ => cls_sound hC.toOk F.c_FlatPrice ((f195 F).more (by decide))) (sargs_cons se_int (sargs_cons se_int sargs_nil rfl) rfl) rfl (hst_of rfl)) sargs_nil rfl) rfl) rfl) rfl) rfl (hst_of rfl)) sargs_nil rfl) rfl (hst_of rfl)) (se_ncall hC.toOk (se_glob hC.toOk rfl (by decide) F.glawfewest rfl) (keeps_ref F.klawfewest) (fun _ _ => fs_call hC.toOk ((f442 F).more (by decide))) (sargs_cons (se_local hC.toOk rfl (by decide)) (sargs_cons (se_local hC.toOk rfl (by decide)) sargs_nil rfl) rfl) rfl (hst_of rfl)) cmp_sound rfl))
  ss_nil)))))))))))
-- part S0
-- the abstract programs by rewriting
theorem ofS_inj (a b : String) : (Str.ofString a = Str.ofString b) = (a = b) := by
  refine propext ⟨fun h => ?_, fun h => h ▸ rfl⟩
  rw [Str.ofString_eq_toList, Str.ofString_eq_toList] at h
  have h1 := congrArg Str.cps h
  have h2 : a.toList.map Char.toNat = b.toList.map Char.toNat := by simpa using h1
  have inj : ∀ x y : List Char, x.map Char.toNat = y.map Char.toNat → x = y := by
    intro x
    induction x with
    | nil => intro y e; cases y <;> simp_all
    | cons c x ih =>
      intro y e
      cases y with
      | nil => simp at e
      | cons d y =>
        simp only [List.map_cons, List.cons.injEq] at e
        rw [ih y e.2, Char.toNat_inj.mp e.1]
  exact String.toList_inj.mp (inj _ _ h2)

noncomputable def kE {α β : Type} (k : α → Loc → AH → Option β) (l : Loc) (r : α × AH) : Option β := k r.1 l r.2
noncomputable def kS (q : SM) (r : Fl × Loc × AH) : Option (Fl × Loc × AH) := match r.1 with
  | .next => q r.2.1 r.2.2
  | _ => some r
noncomputable def kN (r : Loc × AH) : Option (Fl × Loc × AH) := some (.next, r.1, r.2)
noncomputable def kU (l : Loc) (r : Unit × AH) : Option (Loc × AH) := some (l, r.2)
noncomputable def rB (r : Option (Fl × Loc × AH)) : Option (AV × AH) := match r with
  | some (.ret v, _, H') => some (v, H')
  | some (.next, _, H') => some (.none, H')
  | _ => none
noncomputable def nI (d : Nat) (r : Option (AV × AH)) : Option (AV × AH) := match r with
  | some (.none, H') => some (.ref d, H')
  | _ => none
noncomputable def kF (src : Option Src) (ok : Src → Bool) (U : AV → UM) (B : SM) (l : Loc) (H : AH) : Option (Fl × Loc × AH) := match src with
  | some s => if ok s = true then forM s U B 64 0 l H else none
  | none => none
noncomputable def kC (src : Option Src) (x : Str) (fr : List Str) (T : M Bool) (E : M AV) (lm : Loc) (H : AH) : Option (AV × AH) := match src with
  | some s => (compM s x T E H.length 64 0 ⟨fun _ => none, fun y => if y ∈ fr then lm.c y else none⟩ (H ++ [.list []])).map fun H' => (.ref H.length, H')
  | none => none
noncomputable def unT (H : AH) (l : Loc) (us : List (AV → UM)) (o : Option AObj) : Option (Loc × AH) := match o with
  | some (.tup xs) => if us.length = xs.length then unpackU us xs l H else none
  | _ => none
noncomputable def swT (H : AH) (l : Loc) (ns : List Str) (o : Option AObj) : Option (Loc × AH) := match o with
  | some (.tup xs) => if ns.length = xs.length then unpackU (ns.reverse.map putV) xs.reverse l H else none
  | _ => none
noncomputable def gB (x : Str) (c : Addr) (H : AH) (o : Option AObj) : Option (AV × AH) := match o with
  | some (.flds es) => if okA c x = true then (match lookF x es with
    | some a => if a.plain = true then some (a, H) else none
    | none => none) else none
  | _ => none
noncomputable def gA (x : Str) (H : AH) (o : Option AObj) : Option (AV × AH) := match o with
  | some (.inst c d) => gB x c H H[d]?
  | _ => none
noncomputable def sB (x : Str) (v : AV) (c : Addr) (d : Nat) (H : AH) (o : Option AObj) : Option (Unit × AH) := match o with
  | some (.flds es) => if okA c x = true ∧ es.length < 900 then some ((), H.set d (.flds (putF x v es))) else none
  | _ => none
noncomputable def sA (x : Str) (v : AV) (H : AH) (o : Option AObj) : Option (Unit × AH) := match o with
  | some (.inst c d) => sB x v c d H H[d]?
  | _ => none
noncomputable def hB (cls : Addr) (x : Str) (c : Addr) (H : AH) (o : Option AObj) : Option (Unit × AH) := match o with
  | some (.flds es) => if c = cls ∧ (lookF x es).isNone = true then some ((), H) else none
  | _ => none
noncomputable def hA (cls : Addr) (x : Str) (H : AH) (o : Option AObj) : Option (Unit × AH) := match o with
  | some (.inst c d) => hB cls x c H H[d]?
  | _ => none
noncomputable def gI (k : Int) (H : AH) (o : Option AObj) : Option (AV × AH) := match o with
  | some (.list xs) => if 0 ≤ k ∧ k < 2 ^ 63 then (xs[k.toNat]?).map fun a => (a, H) else none
  | some (.tup xs) => if 0 ≤ k ∧ k < 2 ^ 63 then (xs[k.toNat]?).map fun a => (a, H) else none
  | _ => none
section
variable {α β γ : Type} (l : Loc) (H : AH)
theorem bn_some {a : α} {f : α → Option β} : (some a).bind f = f a := rfl
theorem r_ite {c : Prop} [Decidable c] {f g : Loc → AH → Option α} : (if c then f else g) l H = if c then f l H else g l H := by split <;> rfl
theorem r_bind {p : M β} {f : β → M γ} : M.bind p f l H = (p l H).bind (kE f l) := rfl
theorem r_kE {k : α → Loc → AH → Option β} {a : α} : kE k l (a, H) = k a l H := rfl
theorem r_pure {a : β} : M.pure a l H = some (a, H) := rfl
theorem r_const {a : AV} : constM a l H = some (a, H) := rfl
theorem r_seq {p q : SM} : seqS p q l H = (p l H).bind (kS q) := rfl
theorem r_kS1 {q : SM} : kS q (.next, l, H) = q l H := rfl
theorem r_kS2 {q : SM} {v : AV} : kS q (.ret v, l, H) = some (.ret v, l, H) := rfl
theorem r_kS3 {q : SM} : kS q (.brk, l, H) = some (.brk, l, H) := rfl
theorem r_kS4 {q : SM} : kS q (.cont, l, H) = some (.cont, l, H) := rfl
theorem r_ev {p : M β} {k : β → SM} : evS p k l H = (p l H).bind (kE k l) := rfl
theorem r_st {u : UM} : stS u l H = (u l H).bind kN := by
  show (u l H).map _ = _
  cases u l H <;> rfl
theorem r_kN : kN (l, H) = some (.next, l, H) := rfl
theorem r_iteS {p : M Bool} {a b : SM} : iteS p a b l H = (p l H).bind (kE (fun c => if c = true then a else b) l) := rfl
theorem r_putV {x : Str} {a : AV} : putV x a l H = some (updL l x a, H) := rfl
theorem r_ld {x y : Str} {a : AV} : ldV x (updL l y a) H = if x = y then some (a, H) else ldV x l H := by
  show ((if x = y then some a else l.v x).map fun a => (a, H)) = _
  split <;> rfl
theorem r_ldc {x y : Str} {a : AV} : ldC x (updL l y a) H = ldC x l H := rfl
theorem r_ldl {x y : Str} {a : AV} {bs : List (Str × AV)} : ldV x (locOf ((y, a) :: bs)) H = if x = y then some (a, H) else ldV x (locOf bs) H := by
  show ((((y, a) :: bs).lookup x).map fun a => (a, H)) = _
  rw [List.lookup_cons]
  by_cases q : x = y
  · rw [if_pos q, show (x == y) = true by simpa using q]; rfl
  · rw [if_neg q, show (x == y) = false by simpa using q]; rfl
theorem r_tru1 {b : Bool} : truM (.bool b) l H = some (b, H) := rfl
theorem r_tru2 : truM .none l H = some (false, H) := rfl
theorem r_add {a b : Int} : addM (.int a) (.int b) l H = some (.int (a + b), H) := rfl
theorem r_sub {a b : Int} : subM (.int a) (.int b) l H = some (.int (a - b), H) := rfl
theorem r_mul {a b : Int} : mulM (.int a) (.int b) l H = if -(2 ^ 64) < a ∧ a < 2 ^ 64 then some (.int (a * b), H) else none := by
  show (if -(2 ^ 64) < a ∧ a < 2 ^ 64 then (M.pure (.int (a * b)) : M AV) else M.fail) l H = _
  split <;> rfl
theorem r_mod {a b : Int} : modM (.int a) (.int b) l H = if b ≠ 0 then some (.int (a.fmod b), H) else none := by
  show (if b ≠ 0 then (M.pure (.int (a.fmod b)) : M AV) else M.fail) l H = _
  split <;> rfl
theorem r_fdiv {a b : Int} : fdivM (.int a) (.int b) l H = if 0 < b ∧ b < 1073741824 then some (.int (a.fdiv b), H) else none := by
  show (if 0 < b ∧ b < 1073741824 then (M.pure (.int (a.fdiv b)) : M AV) else M.fail) l H = _
  split <;> rfl
theorem r_neg {a : Int} : negM (.int a) l H = some (.int (-a), H) := rfl
theorem r_lt {a b : Int} : cmpM .Lt (.int a) (.int b) l H = some (.bool (decide (a < b)), H) := rfl
theorem r_le {a b : Int} : cmpM .LtE (.int a) (.int b) l H = some (.bool (decide (a ≤ b)), H) := rfl
theorem r_gt {a b : Int} : cmpM .Gt (.int a) (.int b) l H = some (.bool (decide (b < a)), H) := rfl
theorem r_ge {a b : Int} : cmpM .GtE (.int a) (.int b) l H = some (.bool (decide (b ≤ a)), H) := rfl
theorem r_eq {a b : Int} : cmpM .Eq (.int a) (.int b) l H = some (.bool (decide (a = b)), H) := by
  show some (AV.bool (a == b), H) = _
  congr
theorem r_ne {a b : Int} : cmpM .NotEq (.int a) (.int b) l H = some (.bool (!decide (a = b)), H) := by
  show some (AV.bool (a != b), H) = _
  congr
theorem r_no1 {y : Bool} : isNoneM y .none .none l H = some (.bool y, H) := rfl
theorem r_no2 {y : Bool} {i : Int} : isNoneM y (.int i) .none l H = some (.bool !y, H) := rfl
theorem r_no3 {y : Bool} {i : Nat} : isNoneM y (.ref i) .none l H = some (.bool !y, H) := rfl
theorem r_and {P Q : M Bool} : andM P Q l H = (P l H).bind (kE (fun b => if b = true then Q else M.pure false) l) := rfl
theorem r_or {P Q : M Bool} : orM P Q l H = (P l H).bind (kE (fun b => if b = true then M.pure true else Q) l) := rfl
theorem r_not {P : M Bool} : notM P l H = (P l H).bind (kE (fun b => M.pure (!b)) l) := rfl
theorem r_ret {v : AV} : retS v l H = some (.ret v, l, H) := rfl
theorem r_next : nextS l H = some (.next, l, H) := rfl
theorem r_brk : brkS l H = some (.brk, l, H) := rfl
theorem r_cont : contS l H = some (.cont, l, H) := rfl
theorem r_exprK : exprK .none l H = some (.next, l, H) := rfl
theorem r_upd {u : M Unit} : updM u l H = (u l H).bind (kU l) := by
  show (u l H).map _ = _
  cases u l H <;> rfl
theorem r_kU {u : Unit} : kU l (u, H) = some (l, H) := rfl
theorem r_getA {x : Str} {i : Nat} : getA x (.ref i) l H = gA x H H[i]? := by
  show (instF (.ref i) l H).bind _ = _
  unfold instF gA
  dsimp only
  cases H[i]? with
  | none => rfl
  | some o =>
    cases o <;> try rfl
    rename_i c d
    dsimp only
    unfold gB
    cases H[d]? with
    | none => rfl
    | some o =>
      cases o <;> try rfl
      rename_i es
      show (if okA c x = true then _ else _ : M AV) l H = _
      rw [r_ite]
      dsimp only
      split
      · cases lookF x es with
        | none => rfl
        | some a => exact r_ite l H
      · rfl
theorem r_gA {x : Str} {c : Addr} {d : Nat} : gA x H (some (.inst c d)) = gB x c H H[d]? := rfl
theorem r_gB {x : Str} {c : Addr} {es : List (Str × AV)} : gB x c H (some (.flds es)) = if okA c x = true then (match lookF x es with
    | some a => if a.plain = true then some (a, H) else none
    | none => none) else none := rfl
theorem r_look0 {x : Str} : lookF x [] = none := rfl
theorem r_look {x y : Str} {a : AV} {r : List (Str × AV)} : lookF x ((y, a) :: r) = if y = x then some a else lookF x r := rfl
theorem r_pf0 {x : Str} {v : AV} : putF x v [] = [(x, v)] := rfl
theorem r_pf {x y : Str} {a v : AV} {r : List (Str × AV)} : putF x v ((y, a) :: r) = if y = x then (y, v) :: r else (y, a) :: putF x v r := rfl
theorem r_pl1 {i : Int} : (AV.int i).plain = true := rfl
theorem r_pl2 {i : Nat} : (AV.ref i).plain = true := rfl
theorem r_pl3 {b : List UInt8} : (AV.bytes b).plain = true := rfl
theorem r_setA {x : Str} {i : Nat} {v : AV} : setA x (.ref i) v l H = sA x v H H[i]? := by
  show (instF (.ref i) l H).bind _ = _
  unfold instF sA
  dsimp only
  cases H[i]? with
  | none => rfl
  | some o =>
    cases o <;> try rfl
    rename_i c d
    dsimp only
    unfold sB
    cases H[d]? with
    | none => rfl
    | some o =>
      cases o <;> try rfl
      exact r_ite l H
theorem r_sA {x : Str} {v : AV} {c : Addr} {d : Nat} : sA x v H (some (.inst c d)) = sB x v c d H H[d]? := rfl
theorem r_sB {x : Str} {v : AV} {c : Addr} {d : Nat} {es : List (Str × AV)} : sB x v c d H (some (.flds es)) = if okA c x = true ∧ es.length < 900 then some ((), H.set d (.flds (putF x v es))) else none := rfl
theorem r_chkI {cls : Addr} {x : Str} {i : Nat} : chkI cls x (.ref i) l H = hA cls x H H[i]? := by
  show (instF (.ref i) l H).bind _ = _
  unfold instF hA
  dsimp only
  cases H[i]? with
  | none => rfl
  | some o =>
    cases o <;> try rfl
    rename_i c d
    dsimp only
    unfold hB
    cases H[d]? with
    | none => rfl
    | some o =>
      cases o <;> try rfl
      exact r_ite l H
theorem r_hA {cls : Addr} {x : Str} {c : Addr} {d : Nat} : hA cls x H (some (.inst c d)) = hB cls x c H H[d]? := rfl
theorem r_hB {cls : Addr} {x : Str} {c : Addr} {es : List (Str × AV)} : hB cls x c H (some (.flds es)) = if c = cls ∧ (lookF x es).isNone = true then some ((), H) else none := rfl
theorem r_getI {j : Nat} {k : Int} : getI (.ref j) (.int k) l H = gI k H H[j]? := by
  unfold getI
  dsimp only
  rw [r_bind]
  unfold seqOf gI
  dsimp only
  cases H[j]? with
  | none => rfl
  | some o =>
    cases o <;> try rfl
    all_goals
      rename_i xs
      show (if 0 ≤ k ∧ k < 2 ^ 63 then _ else _ : M AV) l H = _
      rw [r_ite]
      dsimp only
      split
      · cases xs[k.toNat]? <;> rfl
      · rfl
theorem r_gI1 {k : Int} {xs : List AV} : gI k H (some (.list xs)) = if 0 ≤ k ∧ k < 2 ^ 63 then (xs[k.toNat]?).map fun a => (a, H) else none := rfl
theorem r_gI2 {k : Int} {xs : List AV} : gI k H (some (.tup xs)) = if 0 ≤ k ∧ k < 2 ^ 63 then (xs[k.toNat]?).map fun a => (a, H) else none := rfl
theorem r_newO {o : AObj} : newO o l H = some (.ref H.length, H ++ [o]) := rfl
theorem r_newL {xs : List AV} : newL xs l H = if xs.length ≤ 1000 then some (.ref H.length, H ++ [.list xs]) else none := by
  unfold newL; rw [r_ite]; rfl
theorem r_newT {xs : List AV} : newT xs l H = if xs.length ≤ 1000 then some (.ref H.length, H ++ [.tup xs]) else none := by
  unfold newT; rw [r_ite]; rfl
theorem r_chkF {P : PM} {as : List AV} : chkF P as l H = P as H := rfl
theorem r_newI {c : Addr} {P : PM} {as : List AV} : newI c P as l H = nI (H.length + 1) (P (.ref (H.length + 1) :: as) (H ++ [.flds [], .inst c H.length])) := rfl
theorem r_nI {d : Nat} : nI d (some (.none, H)) = some (.ref d, H) := rfl
theorem r_runB {P : SM} : runB P l H = rB (P l H) := rfl
theorem r_rB1 {v : AV} : rB (some (.ret v, l, H)) = some (v, H) := rfl
theorem r_rB2 : rB (some (.next, l, H)) = some (.none, H) := rfl
theorem r_for {P : M AV} {ok : Src → Bool} {U : AV → UM} {B : SM} : forS P ok U B l H = (P l H).bind (kE (fun v l H => kF (srcOf v H) ok U B l H) l) := by
  show (P l H).bind _ = (P l H).bind _
  congr
  funext r
  show (srcOf r.1 r.2).bind _ = kF (srcOf r.1 r.2) ok U B l r.2
  cases srcOf r.1 r.2 <;> rfl
theorem r_kF {src : Src} {ok : Src → Bool} {U : AV → UM} {B : SM} : kF (some src) ok U B l H = if ok src = true then forM src U B 64 0 l H else none := rfl
theorem r_comp {x : Str} {fr : List Str} {P : M AV} {T : M Bool} {E : M AV} : compE x fr P T E l H = (P l H).bind (kE (fun v l H => kC (srcOf v H) x fr T E l H) l) := by
  show (P l H).bind _ = (P l H).bind _
  congr
  funext r
  show (srcOf r.1 r.2).bind _ = kC (srcOf r.1 r.2) x fr T E l r.2
  cases srcOf r.1 r.2 <;> rfl
theorem r_unpU {us : List (AV → UM)} {i : Nat} : unpU us (.ref i) l H = unT H l us H[i]? := by
  unfold unpU tupOf unT
  dsimp only
  cases H[i]? with
  | none => rfl
  | some o => cases o <;> rfl
theorem r_unT {us : List (AV → UM)} {xs : List AV} : unT H l us (some (.tup xs)) = if us.length = xs.length then unpackU us xs l H else none := rfl
theorem r_up0 : unpackU [] [] l H = some (l, H) := rfl
theorem r_swapU {ns : List Str} {i : Nat} : swapU ns (.ref i) l H = swT H l ns H[i]? := by
  unfold swapU tupOf swT
  dsimp only
  cases H[i]? with
  | none => rfl
  | some o => cases o <;> rfl
theorem r_swT {ns : List Str} {xs : List AV} : swT H l ns (some (.tup xs)) = if ns.length = xs.length then unpackU (ns.reverse.map putV) xs.reverse l H else none := rfl
noncomputable def kP (us : List (AV → UM)) (as : List AV) (r : Loc × AH) : Option (Loc × AH) := unpackU us as r.1 r.2
theorem r_up {u : AV → UM} {us : List (AV → UM)} {a : AV} {as : List AV} : unpackU (u :: us) (a :: as) l H = (u a l H).bind (kP us as) := rfl
theorem r_kP {us : List (AV → UM)} {as : List AV} : kP us as (l, H) = unpackU us as l H := rfl
theorem r_rng1 {b : Int} : rngB [.int b] l H = some (.ref H.length, H ++ [.range 0 b 1]) := rfl
theorem r_rng2 {a b : Int} : rngB [.int a, .int b] l H = some (.ref H.length, H ++ [.range a b 1]) := rfl
theorem r_max2 {a b : Int} : maxB [.int a, .int b] l H = some (.int (if b > a then b else a), H) := rfl
theorem r_min2 {a b : Int} : minB [.int a, .int b] l H = some (.int (if b < a then b else a), H) := rfl
theorem r_abs {a : Int} : absB [.int a] l H = some (.int (if a < 0 then -a else a), H) := rfl
theorem r_lenb {b : List UInt8} : lenB [.bytes b] l H = if b.length ≤ 1099511627776 then some (.int b.length, H) else none := by
  show (if b.length ≤ 1099511627776 then (M.pure (.int b.length) : M AV) else M.fail) l H = _
  rw [r_ite]; rfl
end
theorem app_at {H G : AH} {k : Nat} : (H ++ G)[H.length + k]? = G[k]? := by
  rw [List.getElem?_append_right (Nat.le_add_right _ _)]
  congr 1
  lia
theorem app_at0 {H G : AH} : (H ++ G)[H.length]? = G[0]? := app_at (k := 0)
theorem app_get {H : AH} {i : Nat} {o : AObj} (h : H[i]? = some o) (G : AH) : (H ++ G)[i]? = some o := by
  rw [List.getElem?_append_left (List.getElem?_eq_some_iff.mp h).1]; exact h
theorem cons_at0 {o : AObj} {G : AH} : (o :: G)[0]? = some o := rfl
theorem cons_at {o : AObj} {G : AH} {k : Nat} : (o :: G)[k + 1]? = G[k]? := rfl
theorem set_app {H G : AH} {k : Nat} {o : AObj} : (H ++ G).set (H.length + k) o = H ++ G.set k o := by
  rw [List.set_append_right _ _ (Nat.le_add_right _ _)]
  congr 2
  lia
theorem set_app0 {H G : AH} {o : AObj} : (H ++ G).set H.length o = H ++ G.set 0 o := set_app (k := 0)
theorem ok_all : (okA 119 (Str.ofString "finder") = true ∧ okA 119 (Str.ofString "shortest") = true ∧ okA 119 (Str.ofString "known") = true) ∧
   (okA 154 (Str.ofString "size") = true ∧ okA 154 (Str.ofString "costs") = true ∧ okA 154 (Str.ofString "steps") = true) ∧
   (okA 212 (Str.ofString "of_literal") = true ∧ okA 212 (Str.ofString "of_match") = true ∧ okA 212 (Str.ofString "of_bit") = true) ∧
   (okA 254 (Str.ofString "octets") = true ∧ okA 254 (Str.ofString "size") = true ∧ okA 254 (Str.ofString "last") = true ∧ okA 254 (Str.ofString "before") = true) ∧
   (okA 388 (Str.ofString "octets") = true ∧ okA 388 (Str.ofString "least") = true ∧ okA 388 (Str.ofString "window") = true ∧ okA 388 (Str.ofString "chain") = true ∧ okA 388 (Str.ofString "ahead") = true ∧ okA 388 (Str.ofString "row") = true) := by decide +kernel
-- part S1
section
variable {α β : Type} {l : Loc} {H : AH}
-- steps in one
theorem t_bind {a : α} {k : α → Loc → AH → Option β} : (some (a, H)).bind (kE k l) = k a l H := rfl
theorem t_s1 {q : SM} : (some (Fl.next, l, H)).bind (kS q) = q l H := rfl
theorem t_s2 {q : SM} {v : AV} : (some (Fl.ret v, l, H)).bind (kS q) = some (.ret v, l, H) := rfl
theorem t_s3 {q : SM} : (some (Fl.brk, l, H)).bind (kS q) = some (.brk, l, H) := rfl
theorem t_s4 {q : SM} : (some (Fl.cont, l, H)).bind (kS q) = some (.cont, l, H) := rfl
theorem t_n : (some (l, H)).bind kN = some (.next, l, H) := rfl
theorem t_u {u : Unit} : (some (u, H)).bind (kU l) = some (l, H) := rfl
theorem t_p {us : List (AV → UM)} {as : List AV} : (some (l, H)).bind (kP us as) = unpackU us as l H := rfl
theorem t_i1 {a b : Loc → AH → Option β} : (some (true, H)).bind (kE (fun c => if c = true then a else b) l) = a l H := rfl
theorem t_i2 {a b : Loc → AH → Option β} : (some (false, H)).bind (kE (fun c => if c = true then a else b) l) = b l H := rfl
theorem t_i3 {p : Prop} [Decidable p] {a b : Loc → AH → Option β} (h : p) : (some (decide p, H)).bind (kE (fun c => if c = true then a else b) l) = a l H := by rw [decide_eq_true h]; rfl
theorem t_i4 {p : Prop} [Decidable p] {a b : Loc → AH → Option β} (h : ¬ p) : (some (decide p, H)).bind (kE (fun c => if c = true then a else b) l) = b l H := by rw [decide_eq_false h]; rfl
theorem t_i5 {p : Prop} [Decidable p] {a b : Loc → AH → Option β} (h : p) : (some (!decide p, H)).bind (kE (fun c => if c = true then a else b) l) = b l H := by rw [decide_eq_true h]; rfl
theorem t_i6 {p : Prop} [Decidable p] {a b : Loc → AH → Option β} (h : ¬ p) : (some (!decide p, H)).bind (kE (fun c => if c = true then a else b) l) = a l H := by rw [decide_eq_false h]; rfl
theorem t_nt {p : Prop} [Decidable p] {a b : Loc → AH → Option β} : (some (!decide (¬ p), H)).bind (kE (fun c => if c = true then a else b) l) = (some (decide p, H)).bind (kE (fun c => if c = true then a else b) l) := by by_cases h : p <;> simp [h]
-- names
theorem nS {x y : String} (h : (x == y) = false) : Str.ofString x ≠ Str.ofString y := fun e => by
  rw [ofS_inj] at e
  subst e
  simp at h
theorem v_0 {x : Str} {a : AV} : ldV x (updL l x a) H = some (a, H) := by rw [r_ld, if_pos rfl]
theorem v_1 {x y : String} {a : AV} (h : (x == y) = false) : ldV (Str.ofString x) (updL l (Str.ofString y) a) H = ldV (Str.ofString x) l H := by rw [r_ld, if_neg (nS h)]
theorem v_2 {x y z : String} {a b : AV} (h : (x == y) = false) (h' : (x == z) = false) : ldV (Str.ofString x) (updL (updL l (Str.ofString z) b) (Str.ofString y) a) H = ldV (Str.ofString x) l H := by rw [v_1 h, v_1 h']
theorem v_4 {x y z u v : String} {a b c d : AV} (h : (x == y) = false) (h' : (x == z) = false) (h2 : (x == u) = false) (h3 : (x == v) = false) : ldV (Str.ofString x) (updL (updL (updL (updL l (Str.ofString v) d) (Str.ofString u) c) (Str.ofString z) b) (Str.ofString y) a) H = ldV (Str.ofString x) l H := by rw [v_2 h h', v_2 h2 h3]

theorem w_0 {x  : String} {a  : AV} {bs : List (Str × AV)}  : ldV (Str.ofString x) (locOf (((Str.ofString x), a) :: bs)) H = some (a, H) := by rw [r_ldl, if_pos rfl]
theorem w_1 {x y0 : String} {a a0 : AV} {bs : List (Str × AV)} (h0 : (x == y0) = false) : ldV (Str.ofString x) (locOf (((Str.ofString y0), a0) :: ((Str.ofString x), a) :: bs)) H = some (a, H) := by rw [r_ldl, if_neg (nS h0), r_ldl, if_pos rfl]
theorem w_2 {x y0 y1 : String} {a a0 a1 : AV} {bs : List (Str × AV)} (h0 : (x == y0) = false) (h1 : (x == y1) = false) : ldV (Str.ofString x) (locOf (((Str.ofString y0), a0) :: ((Str.ofString y1), a1) :: ((Str.ofString x), a) :: bs)) H = some (a, H) := by rw [r_ldl, if_neg (nS h0), r_ldl, if_neg (nS h1), r_ldl, if_pos rfl]
theorem w_3 {x y0 y1 y2 : String} {a a0 a1 a2 : AV} {bs : List (Str × AV)} (h0 : (x == y0) = false) (h1 : (x == y1) = false) (h2 : (x == y2) = false) : ldV (Str.ofString x) (locOf (((Str.ofString y0), a0) :: ((Str.ofString y1), a1) :: ((Str.ofString y2), a2) :: ((Str.ofString x), a) :: bs)) H = some (a, H) := by rw [r_ldl, if_neg (nS h0), r_ldl, if_neg (nS h1), r_ldl, if_neg (nS h2), r_ldl, if_pos rfl]
theorem w_4 {x y0 y1 y2 y3 : String} {a a0 a1 a2 a3 : AV} {bs : List (Str × AV)} (h0 : (x == y0) = false) (h1 : (x == y1) = false) (h2 : (x == y2) = false) (h3 : (x == y3) = false) : ldV (Str.ofString x) (locOf (((Str.ofString y0), a0) :: ((Str.ofString y1), a1) :: ((Str.ofString y2), a2) :: ((Str.ofString y3), a3) :: ((Str.ofString x), a) :: bs)) H = some (a, H) := by rw [r_ldl, if_neg (nS h0), r_ldl, if_neg (nS h1), r_ldl, if_neg (nS h2), r_ldl, if_neg (nS h3), r_ldl, if_pos rfl]
theorem w_5 {x y0 y1 y2 y3 y4 : String} {a a0 a1 a2 a3 a4 : AV} {bs : List (Str × AV)} (h0 : (x == y0) = false) (h1 : (x == y1) = false) (h2 : (x == y2) = false) (h3 : (x == y3) = false) (h4 : (x == y4) = false) : ldV (Str.ofString x) (locOf (((Str.ofString y0), a0) :: ((Str.ofString y1), a1) :: ((Str.ofString y2), a2) :: ((Str.ofString y3), a3) :: ((Str.ofString y4), a4) :: ((Str.ofString x), a) :: bs)) H = some (a, H) := by rw [r_ldl, if_neg (nS h0), r_ldl, if_neg (nS h1), r_ldl, if_neg (nS h2), r_ldl, if_neg (nS h3), r_ldl, if_neg (nS h4), r_ldl, if_pos rfl]
-- attributes of whole objects
theorem a119_finder {a1 a2 : AV} {v : Nat} : gB (Str.ofString "finder") 119 H (some (.flds [((Str.ofString "finder"), .ref v), ((Str.ofString "shortest"), a1), ((Str.ofString "known"), a2)])) = some (.ref v, H) := by unfold gB; exact if_pos (by decide +kernel)
theorem a119_shortest {a0 a2 : AV} {v : Int} : gB (Str.ofString "shortest") 119 H (some (.flds [((Str.ofString "finder"), a0), ((Str.ofString "shortest"), .int v), ((Str.ofString "known"), a2)])) = some (.int v, H) := by unfold gB; exact if_pos (by decide +kernel)
theorem a119_known {a0 a1 : AV} {v : Int} : gB (Str.ofString "known") 119 H (some (.flds [((Str.ofString "finder"), a0), ((Str.ofString "shortest"), a1), ((Str.ofString "known"), .int v)])) = some (.int v, H) := by unfold gB; exact if_pos (by decide +kernel)
theorem a154_size {a1 a2 : AV} {v : Int} : gB (Str.ofString "size") 154 H (some (.flds [((Str.ofString "size"), .int v), ((Str.ofString "costs"), a1), ((Str.ofString "steps"), a2)])) = some (.int v, H) := by unfold gB; exact if_pos (by decide +kernel)
theorem a154_costs {a0 a2 : AV} {v : Nat} : gB (Str.ofString "costs") 154 H (some (.flds [((Str.ofString "size"), a0), ((Str.ofString "costs"), .ref v), ((Str.ofString "steps"), a2)])) = some (.ref v, H) := by unfold gB; exact if_pos (by decide +kernel)
theorem a154_steps {a0 a1 : AV} {v : Nat} : gB (Str.ofString "steps") 154 H (some (.flds [((Str.ofString "size"), a0), ((Str.ofString "costs"), a1), ((Str.ofString "steps"), .ref v)])) = some (.ref v, H) := by unfold gB; exact if_pos (by decide +kernel)
theorem a212_of_literal {a1 a2 : AV} {v : Int} : gB (Str.ofString "of_literal") 212 H (some (.flds [((Str.ofString "of_literal"), .int v), ((Str.ofString "of_match"), a1), ((Str.ofString "of_bit"), a2)])) = some (.int v, H) := by unfold gB; exact if_pos (by decide +kernel)
theorem a212_of_match {a0 a2 : AV} {v : Int} : gB (Str.ofString "of_match") 212 H (some (.flds [((Str.ofString "of_literal"), a0), ((Str.ofString "of_match"), .int v), ((Str.ofString "of_bit"), a2)])) = some (.int v, H) := by unfold gB; exact if_pos (by decide +kernel)
theorem a212_of_bit {a0 a1 : AV} {v : Int} : gB (Str.ofString "of_bit") 212 H (some (.flds [((Str.ofString "of_literal"), a0), ((Str.ofString "of_match"), a1), ((Str.ofString "of_bit"), .int v)])) = some (.int v, H) := by unfold gB; exact if_pos (by decide +kernel)
theorem a254_octets {a1 a2 a3 : AV} {v : List UInt8} : gB (Str.ofString "octets") 254 H (some (.flds [((Str.ofString "octets"), .bytes v), ((Str.ofString "size"), a1), ((Str.ofString "last"), a2), ((Str.ofString "before"), a3)])) = some (.bytes v, H) := by unfold gB; exact if_pos (by decide +kernel)
theorem a254_size {a0 a2 a3 : AV} {v : Int} : gB (Str.ofString "size") 254 H (some (.flds [((Str.ofString "octets"), a0), ((Str.ofString "size"), .int v), ((Str.ofString "last"), a2), ((Str.ofString "before"), a3)])) = some (.int v, H) := by unfold gB; exact if_pos (by decide +kernel)
theorem a254_last {a0 a1 a3 : AV} {v : Nat} : gB (Str.ofString "last") 254 H (some (.flds [((Str.ofString "octets"), a0), ((Str.ofString "size"), a1), ((Str.ofString "last"), .ref v), ((Str.ofString "before"), a3)])) = some (.ref v, H) := by unfold gB; exact if_pos (by decide +kernel)
theorem a254_before {a0 a1 a2 : AV} {v : Nat} : gB (Str.ofString "before") 254 H (some (.flds [((Str.ofString "octets"), a0), ((Str.ofString "size"), a1), ((Str.ofString "last"), a2), ((Str.ofString "before"), .ref v)])) = some (.ref v, H) := by unfold gB; exact if_pos (by decide +kernel)
theorem a388_octets {a1 a2 a3 a4 a5 : AV} {v : List UInt8} : gB (Str.ofString "octets") 388 H (some (.flds [((Str.ofString "octets"), .bytes v), ((Str.ofString "least"), a1), ((Str.ofString "window"), a2), ((Str.ofString "chain"), a3), ((Str.ofString "ahead"), a4), ((Str.ofString "row"), a5)])) = some (.bytes v, H) := by unfold gB; exact if_pos (by decide +kernel)
theorem a388_least {a0 a2 a3 a4 a5 : AV} {v : Int} : gB (Str.ofString "least") 388 H (some (.flds [((Str.ofString "octets"), a0), ((Str.ofString "least"), .int v), ((Str.ofString "window"), a2), ((Str.ofString "chain"), a3), ((Str.ofString "ahead"), a4), ((Str.ofString "row"), a5)])) = some (.int v, H) := by unfold gB; exact if_pos (by decide +kernel)
theorem a388_window {a0 a1 a3 a4 a5 : AV} {v : Int} : gB (Str.ofString "window") 388 H (some (.flds [((Str.ofString "octets"), a0), ((Str.ofString "least"), a1), ((Str.ofString "window"), .int v), ((Str.ofString "chain"), a3), ((Str.ofString "ahead"), a4), ((Str.ofString "row"), a5)])) = some (.int v, H) := by unfold gB; exact if_pos (by decide +kernel)
theorem a388_chain {a0 a1 a2 a4 a5 : AV} {v : Int} : gB (Str.ofString "chain") 388 H (some (.flds [((Str.ofString "octets"), a0), ((Str.ofString "least"), a1), ((Str.ofString "window"), a2), ((Str.ofString "chain"), .int v), ((Str.ofString "ahead"), a4), ((Str.ofString "row"), a5)])) = some (.int v, H) := by unfold gB; exact if_pos (by decide +kernel)
theorem a388_ahead {a0 a1 a2 a3 a5 : AV} {v : Int} : gB (Str.ofString "ahead") 388 H (some (.flds [((Str.ofString "octets"), a0), ((Str.ofString "least"), a1), ((Str.ofString "window"), a2), ((Str.ofString "chain"), a3), ((Str.ofString "ahead"), .int v), ((Str.ofString "row"), a5)])) = some (.int v, H) := by unfold gB; exact if_pos (by decide +kernel)
theorem a388_row {a0 a1 a2 a3 a4 : AV} {v : Nat} : gB (Str.ofString "row") 388 H (some (.flds [((Str.ofString "octets"), a0), ((Str.ofString "least"), a1), ((Str.ofString "window"), a2), ((Str.ofString "chain"), a3), ((Str.ofString "ahead"), a4), ((Str.ofString "row"), .ref v)])) = some (.ref v, H) := by unfold gB; exact if_pos (by decide +kernel)
theorem k388_put {a0 a1 a2 a3 a4 a5 : AV} : hB 388 (Str.ofString "put") 388 H (some (.flds [((Str.ofString "octets"), a0), ((Str.ofString "least"), a1), ((Str.ofString "window"), a2), ((Str.ofString "chain"), a3), ((Str.ofString "ahead"), a4), ((Str.ofString "row"), a5)])) = some ((), H) := by unfold hB; exact if_pos ⟨rfl, rfl⟩
theorem k388_enter {a0 a1 a2 a3 a4 a5 : AV} : hB 388 (Str.ofString "enter") 388 H (some (.flds [((Str.ofString "octets"), a0), ((Str.ofString "least"), a1), ((Str.ofString "window"), a2), ((Str.ofString "chain"), a3), ((Str.ofString "ahead"), a4), ((Str.ofString "row"), a5)])) = some ((), H) := by unfold hB; exact if_pos ⟨rfl, rfl⟩
theorem k388_limit {a0 a1 a2 a3 a4 a5 : AV} : hB 388 (Str.ofString "limit") 388 H (some (.flds [((Str.ofString "octets"), a0), ((Str.ofString "least"), a1), ((Str.ofString "window"), a2), ((Str.ofString "chain"), a3), ((Str.ofString "ahead"), a4), ((Str.ofString "row"), a5)])) = some ((), H) := by unfold hB; exact if_pos ⟨rfl, rfl⟩
theorem k388_alike {a0 a1 a2 a3 a4 a5 : AV} : hB 388 (Str.ofString "alike") 388 H (some (.flds [((Str.ofString "octets"), a0), ((Str.ofString "least"), a1), ((Str.ofString "window"), a2), ((Str.ofString "chain"), a3), ((Str.ofString "ahead"), a4), ((Str.ofString "row"), a5)])) = some ((), H) := by unfold hB; exact if_pos ⟨rfl, rfl⟩
theorem k388_is_near {a0 a1 a2 a3 a4 a5 : AV} : hB 388 (Str.ofString "is_near") 388 H (some (.flds [((Str.ofString "octets"), a0), ((Str.ofString "least"), a1), ((Str.ofString "window"), a2), ((Str.ofString "chain"), a3), ((Str.ofString "ahead"), a4), ((Str.ofString "row"), a5)])) = some ((), H) := by unfold hB; exact if_pos ⟨rfl, rfl⟩
theorem k388_candidates {a0 a1 a2 a3 a4 a5 : AV} : hB 388 (Str.ofString "candidates") 388 H (some (.flds [((Str.ofString "octets"), a0), ((Str.ofString "least"), a1), ((Str.ofString "window"), a2), ((Str.ofString "chain"), a3), ((Str.ofString "ahead"), a4), ((Str.ofString "row"), a5)])) = some ((), H) := by unfold hB; exact if_pos ⟨rfl, rfl⟩
theorem k388_every {a0 a1 a2 a3 a4 a5 : AV} : hB 388 (Str.ofString "every") 388 H (some (.flds [((Str.ofString "octets"), a0), ((Str.ofString "least"), a1), ((Str.ofString "window"), a2), ((Str.ofString "chain"), a3), ((Str.ofString "ahead"), a4), ((Str.ofString "row"), a5)])) = some ((), H) := by unfold hB; exact if_pos ⟨rfl, rfl⟩
theorem k254_key {a0 a1 a2 a3 : AV} : hB 254 (Str.ofString "key") 254 H (some (.flds [((Str.ofString "octets"), a0), ((Str.ofString "size"), a1), ((Str.ofString "last"), a2), ((Str.ofString "before"), a3)])) = some ((), H) := by unfold hB; exact if_pos ⟨rfl, rfl⟩
theorem k254_put {a0 a1 a2 a3 : AV} : hB 254 (Str.ofString "put") 254 H (some (.flds [((Str.ofString "octets"), a0), ((Str.ofString "size"), a1), ((Str.ofString "last"), a2), ((Str.ofString "before"), a3)])) = some ((), H) := by unfold hB; exact if_pos ⟨rfl, rfl⟩
theorem k254_newest {a0 a1 a2 a3 : AV} : hB 254 (Str.ofString "newest") 254 H (some (.flds [((Str.ofString "octets"), a0), ((Str.ofString "size"), a1), ((Str.ofString "last"), a2), ((Str.ofString "before"), a3)])) = some ((), H) := by unfold hB; exact if_pos ⟨rfl, rfl⟩
theorem k119_up_to {a0 a1 a2 : AV} : hB 119 (Str.ofString "up_to") 119 H (some (.flds [((Str.ofString "finder"), a0), ((Str.ofString "shortest"), a1), ((Str.ofString "known"), a2)])) = some ((), H) := by unfold hB; exact if_pos ⟨rfl, rfl⟩
theorem k119_every {a0 a1 a2 : AV} : hB 119 (Str.ofString "every") 119 H (some (.flds [((Str.ofString "finder"), a0), ((Str.ofString "shortest"), a1), ((Str.ofString "known"), a2)])) = some ((), H) := by unfold hB; exact if_pos ⟨rfl, rfl⟩
theorem k154_offer {a0 a1 a2 : AV} : hB 154 (Str.ofString "offer") 154 H (some (.flds [((Str.ofString "size"), a0), ((Str.ofString "costs"), a1), ((Str.ofString "steps"), a2)])) = some ((), H) := by unfold hB; exact if_pos ⟨rfl, rfl⟩
theorem k154_told {a0 a1 a2 : AV} : hB 154 (Str.ofString "told") 154 H (some (.flds [((Str.ofString "size"), a0), ((Str.ofString "costs"), a1), ((Str.ofString "steps"), a2)])) = some ((), H) := by unfold hB; exact if_pos ⟨rfl, rfl⟩
theorem k212_literal {a0 a1 a2 : AV} : hB 212 (Str.ofString "literal") 212 H (some (.flds [((Str.ofString "of_literal"), a0), ((Str.ofString "of_match"), a1), ((Str.ofString "of_bit"), a2)])) = some ((), H) := by unfold hB; exact if_pos ⟨rfl, rfl⟩
theorem k212_match {a0 a1 a2 : AV} : hB 212 (Str.ofString "match") 212 H (some (.flds [((Str.ofString "of_literal"), a0), ((Str.ofString "of_match"), a1), ((Str.ofString "of_bit"), a2)])) = some ((), H) := by unfold hB; exact if_pos ⟨rfl, rfl⟩
end
theorem if_pos_true {α : Sort 1} (a b : α) : (if True then a else b) = a := if_pos trivial
theorem if_neg_false {α : Sort 1} (a b : α) : (if False then a else b) = b := if_neg id
-- small facts of lists that are written out
theorem len0 {α : Type} : ([] : List α).length = 0 := rfl
theorem len1 {α : Type} {a : α} {r : List α} : (a :: r).length = r.length + 1 := rfl
theorem gI_at {k : Int} {n : Nat} {xs : List AV} {a : AV} {H : AH} (hk : k = n) (hn : n < 2 ^ 63) (h : xs[n]? = some a) : gI k H (some (.list xs)) = some (a, H) := by
  subst hk
  rw [r_gI1, if_pos (by omega), Int.toNat_natCast, h]; rfl
theorem gI_atT {k : Int} {n : Nat} {xs : List AV} {a : AV} {H : AH} (hk : k = n) (hn : n < 2 ^ 63) (h : xs[n]? = some a) : gI k H (some (.tup xs)) = some (a, H) := by
  subst hk
  rw [r_gI2, if_pos (by omega), Int.toNat_natCast, h]; rfl
theorem gI_t0 {xs : List AV} {a : AV} {H : AH} : gI 0 H (some (.tup (a :: xs))) = some (a, H) := gI_atT (n := 0) rfl (by decide) rfl
theorem gI_t1 {xs : List AV} {a b : AV} {H : AH} : gI 1 H (some (.tup (a :: b :: xs))) = some (b, H) := gI_atT (n := 1) rfl (by decide) rfl
theorem gI_t2 {xs : List AV} {a b c : AV} {H : AH} : gI 2 H (some (.tup (a :: b :: c :: xs))) = some (c, H) := gI_atT (n := 2) rfl (by decide) rfl
theorem gI_t3 {xs : List AV} {a b c d : AV} {H : AH} : gI 3 H (some (.tup (a :: b :: c :: d :: xs))) = some (d, H) := gI_atT (n := 3) rfl (by decide) rfl
-- part E0
theorem e61 {a b c : AV} {H : AH} : p61 [a, b, c] H = rB (b61 (locOf [((Str.ofString "octets"), a), ((Str.ofString "start"), b), ((Str.ofString "most"), c)]) H) := rfl
theorem e68 {a : AV} {H : AH} : p68 [a] H = rB (b68 (locOf [((Str.ofString "step"), a)]) H) := rfl
theorem e75 {a b c d : AV} {H : AH} : p75 [a, b, c, d] H = rB (b75 (locOf [((Str.ofString "octets"), a), ((Str.ofString "place"), b), ((Str.ofString "length"), c), ((Str.ofString "distance"), d)]) H) := rfl
theorem e83 {a b c d e f : AV} {H : AH} : p83 [a, b, c, d, e, f] H = rB (b83 (locOf [((Str.ofString "steps"), a), ((Str.ofString "octets"), b), ((Str.ofString "start"), c), ((Str.ofString "shortest"), d), ((Str.ofString "most"), e), ((Str.ofString "window"), f)]) H) := rfl
theorem e137 {a b : AV} {H : AH} : p137 [a, b] H = rB (b137 (locOf [((Str.ofString "self"), a), ((Str.ofString "size"), b)]) H) := rfl
theorem e144 {a b c d : AV} {H : AH} : p144 [a, b, c, d] H = rB (b144 (locOf [((Str.ofString "self"), a), ((Str.ofString "at"), b), ((Str.ofString "step"), c), ((Str.ofString "cost"), d)]) H) := rfl
theorem e151 {a : AV} {H : AH} : p151 [a] H = rB (b151 (locOf [((Str.ofString "self"), a)]) H) := rfl
theorem e180 {a : AV} {H : AH} : p180 [a] H = rB (b180 (locOf [((Str.ofString "value"), a)]) H) := rfl
theorem e195x {a b c d : AV} {H : AH} : p195 [a, b, c, d] H = (rB (b195 (locOf [((Str.ofString "self"), a), ((Str.ofString "literal"), b), ((Str.ofString "match"), c), ((Str.ofString "bit"), d)]) H)).or none := rfl
theorem e195y {a b c : AV} {H : AH} : p195 [a, b, c] H = rB (b195 (locOf [((Str.ofString "self"), a), ((Str.ofString "literal"), b), ((Str.ofString "match"), c), ((Str.ofString "bit"), .int 0)]) H) := rfl
theorem e202 {a b : AV} {H : AH} : p202 [a, b] H = rB (b202 (locOf [((Str.ofString "self"), a), ((Str.ofString "octet"), b)]) H) := rfl
theorem e209 {a b c : AV} {H : AH} : p209 [a, b, c] H = rB (b209 (locOf [((Str.ofString "self"), a), ((Str.ofString "length"), b), ((Str.ofString "distance"), c)]) H) := rfl
theorem e173 {a b : AV} {H : AH} : p173 [a, b] H = rB (b173 (locOf [((Str.ofString "steps"), a), ((Str.ofString "price"), b)]) H) := rfl
theorem e230 {a b c : AV} {H : AH} : p230 [a, b, c] H = rB (b230 (locOf [((Str.ofString "self"), a), ((Str.ofString "octets"), b), ((Str.ofString "size"), c)]) H) := rfl
theorem e237 {a b : AV} {H : AH} : p237 [a, b] H = rB (b237 (locOf [((Str.ofString "self"), a), ((Str.ofString "place"), b)]) H) := rfl
theorem e244 {a b : AV} {H : AH} : p244 [a, b] H = rB (b244 (locOf [((Str.ofString "self"), a), ((Str.ofString "place"), b)]) H) := rfl
theorem e251 {a b : AV} {H : AH} : p251 [a, b] H = rB (b251 (locOf [((Str.ofString "self"), a), ((Str.ofString "place"), b)]) H) := rfl
theorem e272 {a b c d e : AV} {H : AH} : p272 [a, b, c, d, e] H = rB (b272 (locOf [((Str.ofString "self"), a), ((Str.ofString "octets"), b), ((Str.ofString "least"), c), ((Str.ofString "window"), d), ((Str.ofString "chain"), e)]) H) := rfl
theorem e371 {a b : AV} {H : AH} : p371 [a, b] H = rB (b371 (locOf [((Str.ofString "self"), a), ((Str.ofString "place"), b)]) H) := rfl
theorem e279 {a b : AV} {H : AH} : p279 [a, b] H = rB (b279 (locOf [((Str.ofString "self"), a), ((Str.ofString "place"), b)]) H) := rfl
theorem e300 {a b c : AV} {H : AH} : p300 [a, b, c] H = rB (b300 (locOf [((Str.ofString "self"), a), ((Str.ofString "place"), b), ((Str.ofString "most"), c)]) H) := rfl
theorem e314 {a b c d e : AV} {H : AH} : p314 [a, b, c, d, e] H = rB (b314 (locOf [((Str.ofString "self"), a), ((Str.ofString "place"), b), ((Str.ofString "other"), c), ((Str.ofString "known"), d), ((Str.ofString "limit"), e)]) H) := rfl
theorem e321 {a b c : AV} {H : AH} : p321 [a, b, c] H = rB (b321 (locOf [((Str.ofString "self"), a), ((Str.ofString "place"), b), ((Str.ofString "other"), c)]) H) := rfl
theorem e364 {a b c d e : AV} {H : AH} : p364 [a, b, c, d, e] H = rB (b364 (locOf [((Str.ofString "self"), a), ((Str.ofString "octets"), b), ((Str.ofString "least"), c), ((Str.ofString "window"), d), ((Str.ofString "chain"), e)]) H) := rfl
theorem e378 {a b : AV} {H : AH} : p378 [a, b] H = rB (b378 (locOf [((Str.ofString "self"), a), ((Str.ofString "place"), b)]) H) := rfl
theorem e385 {a b c : AV} {H : AH} : p385 [a, b, c] H = rB (b385 (locOf [((Str.ofString "self"), a), ((Str.ofString "place"), b), ((Str.ofString "most"), c)]) H) := rfl
theorem e97 {a b : AV} {H : AH} : p97 [a, b] H = rB (b97 (locOf [((Str.ofString "self"), a), ((Str.ofString "finder"), b)]) H) := rfl
theorem e104 {a b : AV} {H : AH} : p104 [a, b] H = rB (b104 (locOf [((Str.ofString "self"), a), ((Str.ofString "place"), b)]) H) := rfl
theorem e116 {a b c : AV} {H : AH} : p116 [a, b, c] H = rB (b116 (locOfC [((Str.ofString "self"), a), ((Str.ofString "place"), b), ((Str.ofString "most"), c)] [(Str.ofString "self")] H.length) (H ++ [.cell (some a)])) := rfl
theorem e166 {a b c d e : AV} {H : AH} : p166 [a, b, c, d, e] H = rB (b166 (locOf [((Str.ofString "octets"), a), ((Str.ofString "start"), b), ((Str.ofString "finder"), c), ((Str.ofString "most"), d), ((Str.ofString "price"), e), ((Str.ofString "enough"), .none)]) H) := rfl
theorem e397 {a b : AV} {H : AH} : p397 [a, b] H = rB (b397 (locOf [((Str.ofString "pen"), a), ((Str.ofString "many"), b)]) H) := rfl
theorem e404 {a b c d : AV} {H : AH} : p404 [a, b, c, d] H = rB (b404 (locOf [((Str.ofString "text"), a), ((Str.ofString "start"), b), ((Str.ofString "shape"), c), ((Str.ofString "price"), d)]) H) := rfl
theorem e411 {a b c d : AV} {H : AH} : p411 [a, b, c, d] H = rB (b411 (locOf [((Str.ofString "text"), a), ((Str.ofString "start"), b), ((Str.ofString "shape"), c), ((Str.ofString "price"), d)]) H) := rfl
theorem e418 {a b c d : AV} {H : AH} : p418 [a, b, c, d] H = rB (b418 (locOf [((Str.ofString "text"), a), ((Str.ofString "shape"), b), ((Str.ofString "more"), c), ((Str.ofString "price"), d)]) H) := rfl
theorem e423 {a b c d : AV} {H : AH} : p423 [a, b, c, d] H = rB (b423 (locOf [((Str.ofString "text"), a), ((Str.ofString "shape"), b), ((Str.ofString "prices"), c), ((Str.ofString "others"), d)]) H) := rfl
theorem e430 {a b c d : AV} {H : AH} : p430 [a, b, c, d] H = rB (b430 (locOf [((Str.ofString "text"), a), ((Str.ofString "cut"), b), ((Str.ofString "shape"), c), ((Str.ofString "price"), d)]) H) := rfl
theorem e437 {a b c d : AV} {H : AH} : p437 [a, b, c, d] H = rB (b437 (locOf [((Str.ofString "text"), a), ((Str.ofString "at"), b), ((Str.ofString "back"), c), ((Str.ofString "most"), d)]) H) := rfl
theorem e442 {a b : AV} {H : AH} : p442 [a, b] H = rB (b442 (locOfC [((Str.ofString "text"), a), ((Str.ofString "shape"), b)] [(Str.ofString "at"), (Str.ofString "few"), (Str.ofString "most"), (Str.ofString "text")] H.length) (H ++ [.cell none, .cell none, .cell none, .cell (some a)])) := rfl
-- part D0
-- what the program reckons, as plain functions
abbrev Stp := Nat × Nat
noncomputable def oc (t : List UInt8) (k : Nat) : Nat := (t.getD k 0).toNat
noncomputable def num (b : List UInt8) : Int := b.foldl (fun n o => n * 256 + (o.toNat : Int)) 0
/-- the number of the octets at a place -/
noncomputable def kn (t : List UInt8) (sz p : Nat) : Option Int := if p + sz ≤ t.length then some (num ((t.drop p).take sz)) else none
abbrev Row := List (Int × Int) × List Int
noncomputable def rowPut (t : List UInt8) (sz p : Nat) (R : Row) : Row := match kn t sz p with
  | none => R
  | some k => (putI k p R.1, R.2.set p ((lookI k R.1).getD (-1)))
noncomputable def rowN (t : List UInt8) (sz : Nat) : Nat → Row
  | 0 => ([], List.replicate t.length (-1))
  | k + 1 => rowPut t sz k (rowN t sz k)
/-- the last place ahead of k whose octets have the number m -/
noncomputable def prv (t : List UInt8) (sz : Nat) (m : Int) : Nat → Int
  | 0 => -1
  | k + 1 => if kn t sz k = some m then (k : Int) else prv t sz m k
noncomputable def cnd (t : List UInt8) (sz wi p : Nat) (m : Int) : Nat → Int → List Nat
  | 0, _ => []
  | c + 1, o => if o = -1 ∨ (wi : Int) < p - o then [] else o.toNat :: cnd t sz wi p m c (prv t sz m o.toNat)
noncomputable def cands (t : List UInt8) (sz wi ch p : Nat) : List Nat := match kn t sz p with
  | none => []
  | some m => cnd t sz wi p m ch (prv t sz m p)
noncomputable def alk (t : List UInt8) (p o : Nat) : Nat → Nat → Nat
  | 0, k => k
  | r + 1, k => if oc t (p + k) = oc t (o + k) then alk t p o r (k + 1) else k
noncomputable def evF (t : List UInt8) (p lim : Nat) : List Nat → Nat → List Stp
  | [], _ => []
  | o :: os, lg => if lim ≤ lg then [] else if oc t (o + lg) = oc t (p + lg) ∧ lg < alk t p o lim 0 then (alk t p o lim 0, p - o) :: evF t p lim os (alk t p o lim 0) else evF t p lim os lg
noncomputable def everyL (t : List UInt8) (sz wi ch mo p : Nat) : List Stp := evF t p (min mo (t.length - p)) (cands t sz wi ch p) (sz - 1)
noncomputable def matchL (t : List UInt8) (sz wi ch mo p : Nat) : List Stp := (everyL t sz wi ch mo p).filter fun m => decide (sz ≤ m.1)
noncomputable def offs (t : List UInt8) (sz wi ch mo p : Nat) : List Stp :=
  (0, oc t p) :: (matchL t sz wi ch mo p).flatMap fun m => (List.range' sz (m.1 + 1 - sz)).map fun L => (L, m.2)
/-- prices -/
structure Pr where
  lit : Int
  mat : Int
  bit : Int
noncomputable def ext (v : Nat) : Int := if v < 4 then 0 else (Builtin.Int.intBits (v : Int) : Int) - 2
noncomputable def mpr (P : Pr) (L d : Nat) : Int := P.mat + P.bit * (ext (L - 2) + ext (d - 1))
noncomputable def cost1 (P : Pr) (s : Stp) : Int := if s.1 = 0 then P.lit else mpr P s.1 s.2
noncomputable def cost (P : Pr) : List Stp → Int
  | [] => 0
  | s :: r => cost1 P s + cost P r
noncomputable def sz1 (s : Stp) : Nat := if s.1 = 0 then 1 else s.1
/-- the table of costs and steps -/
abbrev Ws := List (Option Int) × List (Option Stp)
noncomputable def offer (n at_ : Nat) (c : Int) (w : Ws) (s : Stp) (k : Int) : Ws :=
  if at_ + sz1 s > n then w else
  match w.1.getD (at_ + sz1 s) none with
  | none => (w.1.set (at_ + sz1 s) (some (c + k)), w.2.set (at_ + sz1 s) (some s))
  | some o => if c + k < o then (w.1.set (at_ + sz1 s) (some (c + k)), w.2.set (at_ + sz1 s) (some s)) else w
noncomputable def offer1 (P : Pr) (n at_ : Nat) (w : Ws) (s : Stp) : Ws := offer n at_ ((w.1.getD at_ none).getD 0) w s (cost1 P s)
noncomputable def turn (t : List UInt8) (st sz wi ch mo : Nat) (P : Pr) (w : Ws) (at_ : Nat) : Ws :=
  (offs t sz wi ch mo (st + at_)).foldl (offer1 P (t.length - st) at_) w
noncomputable def dp (t : List UInt8) (st sz wi ch mo : Nat) (P : Pr) : Nat → Ws
  | 0 => (some 0 :: List.replicate (t.length - st) none, List.replicate (t.length - st + 1) none)
  | k + 1 => turn t st sz wi ch mo P (dp t st sz wi ch mo P k) k
noncomputable def told (ss : List (Option Stp)) : Nat → Nat → List Stp
  | 0, _ => []
  | f + 1, at_ => if at_ = 0 then [] else match ss.getD at_ none with
    | some s => told ss f (at_ - sz1 s) ++ [s]
    | none => []
noncomputable def best (t : List UInt8) (st sz wi ch mo : Nat) (P : Pr) : List Stp :=
  told (dp t st sz wi ch mo P (t.length - st)).2 (t.length - st + 1) (t.length - st)
-- how the heap bears it
noncomputable def tupA (s : Stp) : AObj := .tup [.int s.1, .int s.2]
noncomputable def Dec (H : AH) : List AV → List Stp → Prop
  | [], [] => True
  | a :: as, s :: ss => (∃ i, a = .ref i ∧ H[i]? = some (tupA s)) ∧ Dec H as ss
  | _, _ => False
noncomputable def finF (t : List UInt8) (sz wi ch k : Nat) (r : Nat) : AObj :=
  .flds [(Str.ofString "octets", .bytes t), (Str.ofString "least", .int sz), (Str.ofString "window", .int wi), (Str.ofString "chain", .int ch), (Str.ofString "ahead", .int k), (Str.ofString "row", .ref r)]
noncomputable def rowF (t : List UInt8) (sz : Nat) (la be : Nat) : AObj :=
  .flds [(Str.ofString "octets", .bytes t), (Str.ofString "size", .int sz), (Str.ofString "last", .ref la), (Str.ofString "before", .ref be)]
noncomputable def traF (f : Nat) (sz k : Nat) : AObj := .flds [(Str.ofString "finder", .ref f), (Str.ofString "shortest", .int sz), (Str.ofString "known", .int k)]
noncomputable def wayF (n : Nat) (cs ss : Nat) : AObj := .flds [(Str.ofString "size", .int n), (Str.ofString "costs", .ref cs), (Str.ofString "steps", .ref ss)]
noncomputable def priF (P : Pr) : AObj := .flds [(Str.ofString "of_literal", .int P.lit), (Str.ofString "of_match", .int P.mat), (Str.ofString "of_bit", .int P.bit)]
noncomputable def optA : Option Int → AV
  | none => .none
  | some i => .int i
noncomputable def PriAt (H : AH) (p : Nat) (P : Pr) : Prop := ∃ d, H[p]? = some (.inst 212 d) ∧ H[d]? = some (priF P)
noncomputable def Pr.ok (P : Pr) : Prop := 0 ≤ P.lit ∧ 0 ≤ P.mat ∧ 0 ≤ P.bit ∧ P.bit < 1000
-- part S2
theorem r_shr {a b : Int} (l : Loc) (H : AH) : shrM (.int a) (.int b) l H = if 0 ≤ b then some (.int (a.fdiv (2 ^ b.toNat)), H) else none := by
  show (if 0 ≤ b then (M.pure (.int (a.fdiv (2 ^ b.toNat))) : M AV) else M.fail) l H = _
  rw [r_ite]; rfl
theorem r_band {a b : Int} (l : Loc) (H : AH) : bandM (.int a) (.int b) l H = some (.int (Builtin.bitAnd a b), H) := rfl
theorem r_isInt {a : Int} (l : Loc) (H : AH) : isIntM (.int a) l H = some ((), H) := rfl
theorem r_bitlen {a : Int} (l : Loc) (H : AH) : bitlenB [.int a] l H = some (.int (Builtin.Int.intBits a), H) := rfl
theorem fin_all {n : Nat} {p : Nat → Prop} [DecidablePred p] (h : ∀ v : Fin n, p v.val) {v : Nat} (hv : v < n) : p v := h ⟨v, hv⟩

theorem s68 {H : AH} {i : Nat} {s : Stp} (h : H[i]? = some (tupA s)) : p68 [.ref i] H = some (.int (sz1 s), H) := by
  obtain ⟨a, b⟩ := s
  unfold tupA at h
  rw [e68]
  unfold b68 sz1
  by_cases q : a = 0
  · have q' : ((a : Int) = 0) := by ((subst_vars; simp))
    simp only [t_bind, t_s2, w_0, r_ite, r_bind, r_const, r_seq, r_ev, r_tru1, r_eq, r_ret, r_getI, r_rB1, if_pos_true, eq_self, decide_true, gI_t0, h, q, Int.natCast_zero, Int.natCast_one]
  · have q' : ¬ ((a : Int) = 0) := by (exact mt Int.ofNat_inj.mp (by assumption))
    simp only [t_bind, t_s2, w_0, r_ite, r_bind, r_const, r_seq, r_ev, r_tru1, r_eq, r_ret, r_getI, r_rB1, if_neg_false, eq_self, decide_false, Bool.false_eq_true, gI_t0, h, q, q']
theorem s61 {t : List UInt8} {st mo : Nat} {H : AH} (h : st ≤ t.length) (ht : t.length ≤ 9) : p61 [.bytes t, .int st, .int mo] H = some (.none, H) := by
  rw [e61]
  unfold b61
  have h1 : (t.length : Nat) ≤ 1099511627776 := by (exact Nat.le_trans (by assumption) (by decide))
  have h2 : (0 : Int) ≤ (st : Int) := by (exact Int.natCast_nonneg _)
  have h3 : (st : Int) ≤ (t.length : Int) := by (exact Int.ofNat_le.mpr (by assumption))
  have h4 : ¬ ((mo : Int) < 0) := by (simp)
  simp only [t_bind, t_s1, w_0, w_1, w_2, r_ite, r_bind, r_pure, r_const, r_seq, r_iteS, r_tru1, r_lt, r_le, r_not, r_next, r_rB2, if_pos_true, if_neg_false, eq_self, String.reduceBEq, decide_true, decide_false, Bool.not_true, Bool.false_eq_true, r_lenb, if_pos h1, h2, h3, h4]
/-- slot_of's second -/
theorem s180 {v : Nat} {H : AH} (hv : v < 30) : ∃ x, p180 [.int v] H = some (.ref H.length, H ++ [.tup [x, .int (ext v)]]) := by
  rw [e180]
  unfold b180 ext
  by_cases q : v < 4
  · have q' : (v : Int) < 4 := by (exact Int.ofNat_lt.mpr (by assumption))
    refine ⟨.int v, ?_⟩
    simp only [t_bind, t_s2, w_0, r_ite, r_bind, r_pure, r_const, r_seq, r_ev, r_iteS, r_tru1, r_lt, r_ret, r_next, r_rB1, if_pos_true, eq_self, decide_true, List.length_cons, List.length_nil, Nat.reduceAdd, Nat.reduceLeDiff, r_newT, q, q']
  · have q' : ¬ ((v : Int) < 4) := by (exact mt Int.ofNat_lt.mp (by assumption))
    have q3 : (3 : Int) ≤ (Builtin.Int.intBits (v : Int) : Int) := by
      have := fin_all (n := 30) (p := fun v => 4 ≤ v → (3 : Int) ≤ (Builtin.Int.intBits (v : Int) : Int)) (by decide +kernel) hv
      exact this (by (exact Nat.le_of_not_lt (by assumption)))
    have q4 : (0 : Int) ≤ (Builtin.Int.intBits (v : Int) : Int) - 1 - 1 := by lia
    have q5 : (Builtin.Int.intBits (v : Int) : Int) - 2 = (Builtin.Int.intBits (v : Int) : Int) - 1 - 1 := by lia
    rw [if_neg q, q5]
    refine ⟨?x, ?_⟩
    case x => exact .int (2 * ((Builtin.Int.intBits (v : Int) : Int) - 1) + Builtin.bitAnd ((v : Int).fdiv (2 ^ ((Builtin.Int.intBits (v : Int) : Int) - 1 - 1).toNat)) 1)
    simp only [t_bind, t_s1, t_s2, t_n, v_0, v_1, w_0, r_ite, r_bind, r_pure, r_const, r_seq, r_ev, r_st, r_iteS, r_putV, r_tru1, r_add, r_sub, r_lt, r_ret, r_next, r_rB1, if_pos_true, if_neg_false, eq_self, String.reduceBEq, decide_false, Bool.false_eq_true, List.length_cons, List.length_nil, Nat.reduceAdd, Nat.reduceLeDiff, and_self, r_newT, r_isInt, r_bitlen, r_mul, r_shr, r_band, q', q4, Int.reduceNeg, Int.reducePow, Int.reduceLT]
theorem newFlat {P : Pr} {l : Loc} {H : AH} (h : P.ok) : newI 212 p195 [.int P.lit, .int P.mat, .int P.bit] l H = some (.ref (H.length + 1), H ++ [priF P, .inst 212 H.length]) := by
  obtain ⟨h1, h2, h3, h4⟩ := h
  have g1 : ¬ P.lit < 0 := by (exact Int.not_lt.mpr (by assumption))
  have g2 : ¬ P.mat < 0 := by (exact Int.not_lt.mpr (by assumption))
  have g3 : ¬ P.bit < 0 := by (exact Int.not_lt.mpr (by assumption))
  unfold priF
  rw [r_newI, e195x]
  unfold b195
  simp only [t_bind, t_s1, t_n, t_u, w_0, w_1, w_2, w_3, r_ite, r_bind, r_pure, r_const, r_seq, r_ev, r_st, r_iteS, r_tru1, r_lt, r_or, r_next, r_upd, r_setA, r_sA, r_nI, r_rB2, if_pos_true, ok_all, ofS_inj, if_neg_false, eq_self, String.reduceEq, String.reduceBEq, decide_false, Bool.false_eq_true, List.length_cons, List.length_nil, Nat.reduceAdd, Nat.reduceLT, and_self, app_at, app_at0, cons_at, cons_at0, set_app0, List.set_cons_zero, r_pf0, r_pf, r_sB, g1, g2, g3, Option.some_or]
theorem newFlat2 {a b : Int} {l : Loc} {H : AH} (h1 : 0 ≤ a) (h2 : 0 ≤ b) : newI 212 p195 [.int a, .int b] l H = some (.ref (H.length + 1), H ++ [priF ⟨a, b, 0⟩, .inst 212 H.length]) := by
  have g1 : ¬ a < 0 := by (exact Int.not_lt.mpr (by assumption))
  have g2 : ¬ b < 0 := by (exact Int.not_lt.mpr (by assumption))
  unfold priF
  rw [r_newI, e195y]
  unfold b195
  simp only [t_bind, t_s1, t_n, t_u, w_0, w_1, w_2, w_3, r_ite, r_bind, r_pure, r_const, r_seq, r_ev, r_st, r_iteS, r_tru1, r_lt, r_or, r_next, r_upd, r_setA, r_sA, r_nI, r_rB2, if_pos_true, ok_all, ofS_inj, if_neg_false, eq_self, String.reduceEq, String.reduceBEq, decide_false, Bool.false_eq_true, List.length_cons, List.length_nil, Nat.reduceAdd, Nat.reduceLT, and_self, app_at, app_at0, cons_at, cons_at0, set_app0, List.set_cons_zero, r_pf0, r_pf, r_sB, g1, g2, Int.lt_irrefl]
theorem s202 {P : Pr} {H : AH} {p : Nat} {x : AV} (h : PriAt H p P) : p202 [.ref p, x] H = some (.int P.lit, H) := by
  obtain ⟨d, h1, h2⟩ := h
  unfold priF at h2
  rw [e202]
  unfold b202
  simp only [t_bind, t_s2, w_0, a212_of_literal, r_bind, r_seq, r_ev, r_ret, r_getA, r_gA, r_rB1, eq_self, h1, h2]
theorem mul_ok {a b : Int} (h1 : 0 ≤ a) (h2 : a < 1000000) (l : Loc) (H : AH) : mulM (.int a) (.int b) l H = some (.int (a * b), H) := by
  rw [r_mul, if_pos (by omega)]
theorem s209 {P : Pr} {H : AH} {p L d : Nat} (h : PriAt H p P) (hP : P.ok) (hL : 2 ≤ L) (hL2 : L < 20) (hd : 1 ≤ d) (hd2 : d < 20) :
    ∃ H', H <+: H' ∧ p209 [.ref p, .int L, .int d] H = some (.int (mpr P L d), H') := by
  obtain ⟨d', h1, h2⟩ := h
  obtain ⟨_, _, h3, h4⟩ := hP
  unfold priF at h2
  rw [e209]
  unfold b209 mpr
  by_cases q : P.bit = 0
  · refine ⟨H, List.prefix_refl _, ?_⟩
    simp only [t_bind, t_s2, w_0, a212_of_match, a212_of_bit, r_ite, r_bind, r_const, r_seq, r_ev, r_iteS, r_tru1, r_eq, r_ret, r_next, r_getA, r_gA, r_rB1, if_pos_true, eq_self, decide_true, h1, h2, q, Int.zero_mul, Int.add_zero]
  · obtain ⟨x, ex⟩ := s180 (v := L - 2) (H := H) (by lia)
    have c1 : (L : Int) - 2 = ((L - 2 : Nat) : Int) := by (exact (Int.natCast_sub (by assumption)).symm)
    have c2 : (d : Int) - 1 = ((d - 1 : Nat) : Int) := by (exact (Int.natCast_sub (by assumption)).symm)
    obtain ⟨y, ey⟩ := s180 (v := d - 1) (H := H ++ [.tup [x, .int (ext (L - 2))]]) (by lia)
    simp only [List.length_append, List.length_cons, List.length_nil, List.append_assoc, List.cons_append, List.nil_append, Nat.zero_add] at ey
    refine ⟨H ++ [.tup [x, .int (ext (L - 2))], .tup [y, .int (ext (d - 1))]], List.prefix_append _ _, ?_⟩
    simp only [t_bind, t_s1, t_s2, w_0, w_1, w_2, a212_of_match, a212_of_bit, r_ite, r_bind, r_pure, r_const, r_seq, r_ev, r_iteS, r_tru1, r_add, r_sub, r_eq, r_ret, r_next, r_getA, r_gA, r_getI, r_chkF, r_rB1, if_neg_false, eq_self, String.reduceBEq, decide_false, Bool.false_eq_true, app_at, app_at0, cons_at, cons_at0, h1, h2, q, c1, c2, ex, ey, gI_t1, mul_ok h3 (show P.bit < 1000000 by lia)]
-- part S3
-- what comes of a run
noncomputable def Ev {α : Type} (o : Option α) (Q : α → Prop) : Prop := ∃ x, o = some x ∧ Q x
theorem Ev_some {α : Type} {a : α} {Q : α → Prop} : Ev (some a) Q = Q a :=
  propext ⟨fun ⟨_, e, h⟩ => by cases e; exact h, fun h => ⟨a, rfl, h⟩⟩
theorem Ev.mono {α : Type} {o : Option α} {Q Q' : α → Prop} (h : Ev o Q) (k : ∀ x, Q x → Q' x) : Ev o Q' := by
  obtain ⟨x, e, q⟩ := h
  exact ⟨x, e, k x q⟩
theorem Ev.bind {α β : Type} {o : Option α} {f : α → Option β} {Q : β → Prop} (h : Ev o fun x => Ev (f x) Q) : Ev (o.bind f) Q := by
  obtain ⟨x, e, q⟩ := h
  rw [e]; exact q
theorem Ev.rB {o : Option (Fl × Loc × AH)} {Q : AV × AH → Prop} (h : Ev o fun x => Ev (rB (some x)) Q) : Ev (rB o) Q := by
  obtain ⟨x, e, q⟩ := h
  rw [e]; exact q
theorem Ev.map {α β : Type} {o : Option α} {f : α → β} {Q : β → Prop} (h : Ev o fun x => Q (f x)) : Ev (o.map f) Q := by
  obtain ⟨x, e, q⟩ := h
  rw [e]; exact ⟨_, rfl, q⟩
-- rules of loops
noncomputable def Aft (I : Loc → AH → Prop) (Q : Fl → Loc → AH → Prop) : Fl → Loc → AH → Prop
  | .next, l, H => I l H
  | .cont, l, H => I l H
  | .brk, l, H => Q .next l H
  | .ret v, l, H => Q (.ret v) l H
theorem aft1 {I : Loc → AH → Prop} {Q : Fl → Loc → AH → Prop} {l : Loc} {H : AH} : Aft I Q .next l H = I l H := rfl
theorem aft2 {I : Loc → AH → Prop} {Q : Fl → Loc → AH → Prop} {l : Loc} {H : AH} : Aft I Q .cont l H = I l H := rfl
theorem aft3 {I : Loc → AH → Prop} {Q : Fl → Loc → AH → Prop} {l : Loc} {H : AH} : Aft I Q .brk l H = Q .next l H := rfl
theorem for_rule {src : Src} {U : AV → UM} {B : SM} {items : List AV} {I : Nat → Loc → AH → Prop} {Q : Fl → Loc → AH → Prop}
    (hi : ∀ k l H, I k l H → src.item k H = some items[k]?)
    (hs : ∀ k l H a, I k l H → items[k]? = some a → Ev (U a l H) fun r => Ev (B r.1 r.2) fun s => Aft (I (k + 1)) Q s.1 s.2.1 s.2.2)
    (hq : ∀ l H, I items.length l H → Q .next l H) : ∀ n k l H, items.length < n + k → k ≤ items.length → I k l H → Ev (forM src U B n k l H) fun r => Q r.1 r.2.1 r.2.2
  | 0, k, l, H, hn, hk, h => by lia
  | n + 1, k, l, H, hn, hk, h => by
    have e : forM src U B (n + 1) k l H = (src.item k H).bind fun r => match r with
      | none => some (.next, l, H)
      | some a => (U a l H).bind fun r => (B r.1 r.2).bind fun f => match f.1 with
        | .next => forM src U B n (k + 1) f.2.1 f.2.2
        | .cont => forM src U B n (k + 1) f.2.1 f.2.2
        | .brk => some (.next, f.2.1, f.2.2)
        | .ret v => some (.ret v, f.2.1, f.2.2) := rfl
    rw [e, hi k l H h, bn_some]
    cases q : items[k]? with
    | none =>
      have : items.length ≤ k := List.getElem?_eq_none_iff.mp q
      have : k = items.length := by lia
      subst this
      exact ⟨_, rfl, hq l H h⟩
    | some a =>
      obtain ⟨⟨l1, H1⟩, e1, ⟨f, l2, H2⟩, e2, e3⟩ := hs k l H a h q
      have hlt := (List.getElem?_eq_some_iff.mp q).1
      dsimp only at e2 e3 ⊢
      rw [e1, bn_some]
      dsimp only
      rw [e2, bn_some]
      dsimp only
      cases f with
      | next => exact for_rule hi hs hq n (k + 1) l2 H2 (by lia) hlt e3
      | cont => exact for_rule hi hs hq n (k + 1) l2 H2 (by lia) hlt e3
      | brk => exact ⟨_, rfl, e3⟩
      | ret v => exact ⟨_, rfl, e3⟩
theorem while_rule {T : M Bool} {B : SM} {I : Nat → Loc → AH → Prop} {Q : Fl → Loc → AH → Prop}
    (hs : ∀ k l H, I k l H → Ev (T l H) fun r => if r.1 = true then Ev (B l r.2) fun s => Aft (fun l H => ∃ k', k' < k ∧ I k' l H) Q s.1 s.2.1 s.2.2 else Q .next l r.2) :
    ∀ n k l H, k < n → I k l H → Ev (whileM T B n l H) fun r => Q r.1 r.2.1 r.2.2
  | 0, k, l, H, hn, h => by (contradiction)
  | n + 1, k, l, H, hn, h => by
    obtain ⟨⟨c, H1⟩, e1, h1⟩ := hs k l H h
    have e : whileM T B (n + 1) l H = (T l H).bind fun r => (if r.1 = true then (fun l H => (B l H).bind fun r => match r.1 with
      | .next => whileM T B n r.2.1 r.2.2
      | .cont => whileM T B n r.2.1 r.2.2
      | .brk => some (.next, r.2.1, r.2.2)
      | .ret v => some (.ret v, r.2.1, r.2.2)) else nextS) l r.2 := rfl
    rw [e, e1, bn_some]
    dsimp only at h1 ⊢
    cases c with
    | false => exact ⟨_, rfl, h1⟩
    | true =>
      rw [if_pos rfl] at h1 ⊢
      obtain ⟨⟨f, l2, H2⟩, e2, e3⟩ := h1
      rw [e2, bn_some]
      cases f with
      | next => obtain ⟨k', hk, e3⟩ := e3; exact while_rule hs n k' l2 H2 (by lia) e3
      | cont => obtain ⟨k', hk, e3⟩ := e3; exact while_rule hs n k' l2 H2 (by lia) e3
      | brk => exact ⟨_, rfl, e3⟩
      | ret v => exact ⟨_, rfl, e3⟩
theorem comp_rule {src : Src} {x : Str} {T : M Bool} {E : M AV} {d : Nat} {items : List AV} {I : Nat → Loc → AH → Prop}
    (hi : ∀ k l H, I k l H → src.item k H = some items[k]?)
    (hs : ∀ k l H a, I k l H → items[k]? = some a → Ev (T (updL l x a) H) fun b => if b.1 = true then Ev (E (updL l x a) b.2) fun y => Ev (appB [.ref d, y.1] (updL l x a) y.2) fun z => I (k + 1) (updL l x a) z.2
      else I (k + 1) (updL l x a) b.2) :
    ∀ n k l H, items.length < n + k → k ≤ items.length → I k l H → Ev (compM src x T E d n k l H) fun H' => ∃ l', I items.length l' H'
  | 0, k, l, H, hn, hk, h => by lia
  | n + 1, k, l, H, hn, hk, h => by
    have e : compM src x T E d (n + 1) k l H = (src.item k H).bind fun r => match r with
      | none => some H
      | some a => (T (updL l x a) H).bind fun t => if t.1 = true then (E (updL l x a) t.2).bind fun y => (appB [.ref d, y.1] (updL l x a) y.2).bind fun z => compM src x T E d n (k + 1) (updL l x a) z.2
        else compM src x T E d n (k + 1) (updL l x a) t.2 := rfl
    rw [e, hi k l H h, bn_some]
    cases q : items[k]? with
    | none =>
      have : items.length ≤ k := List.getElem?_eq_none_iff.mp q
      have : k = items.length := by lia
      subst this
      exact ⟨_, rfl, _, h⟩
    | some a =>
      obtain ⟨⟨b, H1⟩, e1, h1⟩ := hs k l H a h q
      have hlt := (List.getElem?_eq_some_iff.mp q).1
      dsimp only at h1 ⊢
      rw [e1, bn_some]
      cases b with
      | false => exact comp_rule hi hs n (k + 1) _ H1 (by lia) hlt h1
      | true =>
        rw [if_pos rfl] at h1
        obtain ⟨⟨y, H2⟩, e2, ⟨z, H3⟩, e3, e4⟩ := h1
        rw [if_pos rfl, e2, bn_some, e3, bn_some]
        exact comp_rule hi hs n (k + 1) _ H3 (by lia) hlt e4
theorem lst_item {H : AH} {j : Nat} {xs : List AV} (h : H[j]? = some (.list xs)) (k : Nat) : (Src.lst j).item k H = some xs[k]? := by
  unfold Src.item; dsimp only; rw [h]
theorem byt_item {H : AH} {b : List UInt8} (k : Nat) : (Src.byt b).item k H = some (b.map fun x => AV.int (x.toNat : Int))[k]? := by
  unfold Src.item; rw [List.getElem?_map]
noncomputable def upto (a n : Nat) : List AV := (List.range n).map fun i => AV.int ((a + i : Nat) : Int)
theorem rng_item {H : AH} {a b : Nat} {A B : Int} (hA : A = (a : Int)) (hB : B = (b : Int)) (k : Nat) : (Src.rng A B 1).item k H = some (upto a (b - a))[k]? := by
  subst hA hB
  show some (if (k : Int) < Builtin.Range.rangeSize a b 1 then some (AV.int ((a : Int) + k * 1)) else none) = _
  have e : Builtin.Range.rangeSize (a : Int) b 1 = ((b - a : Nat) : Int) := by
    unfold Builtin.Range.rangeSize
    rw [if_pos (by decide)]
    split
    · rw [Int.ediv_one]; lia
    · lia
  rw [e]
  unfold upto
  rw [List.getElem?_map]
  by_cases q : k < b - a
  · rw [if_pos (by (exact Int.ofNat_lt.mpr (by assumption))), List.getElem?_range q]
    simp
  · rw [if_neg (by (exact mt Int.ofNat_lt.mp (by assumption))), List.getElem?_eq_none (by simpa using q)]; rfl
theorem upto_len (a n : Nat) : (upto a n).length = n := by unfold upto; rw [List.length_map, List.length_range]
theorem upto_get {a n k : Nat} {v : AV} (h : (upto a n)[k]? = some v) : k < n ∧ v = .int ((a + k : Nat) : Int) := by
  have hk := (List.getElem?_eq_some_iff.mp h).1
  rw [upto_len] at hk
  unfold upto at h
  rw [List.getElem?_map, List.getElem?_range hk] at h
  exact ⟨hk, (Option.some.inj h).symm⟩
theorem src_lst {H : AH} {j : Nat} {xs : List AV} (h : H[j]? = some (.list xs)) : srcOf (.ref j) H = some (.lst j) := by
  unfold srcOf; dsimp only; rw [h]
theorem src_rng {H : AH} {j : Nat} {a b : Nat} {A B : Int} (hA : A = (a : Int)) (hB : B = (b : Int)) (h : H[j]? = some (.range A B 1)) (ha : a < 1000) (hb : b < 1000) : srcOf (.ref j) H = some (.rng A B 1) := by
  unfold srcOf
  dsimp only
  rw [h]
  dsimp only
  rw [if_pos]
  subst hA hB
  have e : Builtin.Range.rangeSize (a : Int) b 1 = ((b - a : Nat) : Int) := by
    unfold Builtin.Range.rangeSize
    rw [if_pos (by decide)]
    split
    · rw [Int.ediv_one]; lia
    · lia
  have f : ∀ x : Int, -2000 ≤ x → x ≤ 2000 → Builtin.Range.rangeFitsLong x = true := fun x h1 h2 => by
    unfold Builtin.Range.rangeFitsLong
    rw [Bool.and_eq_true, decide_eq_true_eq, decide_eq_true_eq]
    exact ⟨by lia, by lia⟩
  unfold Builtin.Range.small
  rw [e, f _ (by (exact Int.natCast_nonneg _)) (by lia), f _ (by (exact Int.natCast_nonneg _)) (by lia), f 1 (by decide) (by decide), f _ (by (exact Int.natCast_nonneg _)) (by lia), if_pos (by decide), f _ (by lia) (by lia), Bool.or_true]
  rfl
-- part S4
theorem isLst_lst {j : Nat} : isLst (.lst j) = true := rfl
theorem Dec.get {H : AH} : ∀ {xs : List AV} {ss : List Stp}, Dec H xs ss → ∀ {k : Nat} {a : AV}, xs[k]? = some a → ∃ s i, ss[k]? = some s ∧ a = .ref i ∧ H[i]? = some (tupA s)
  | [], [], _, _, _, e => by (first | exact no1 e | obtain ⟨rfl, rfl, rfl⟩ := jn3 e | obtain ⟨rfl, rfl⟩ := jn2 e | obtain rfl := jn1 e | cases e)
  | a :: as, s :: ss, ⟨⟨i, h1, h2⟩, _⟩, 0, _, e => by (first | exact no1 e | obtain ⟨rfl, rfl, rfl⟩ := jn3 e | obtain ⟨rfl, rfl⟩ := jn2 e | obtain rfl := jn1 e | cases e); exact ⟨s, i, rfl, h1, h2⟩
  | a :: as, s :: ss, ⟨_, h⟩, k + 1, _, e => h.get (k := k) e
  | [], _ :: _, h, _, _, _ => h.elim
  | _ :: _, [], h, _, _, _ => h.elim
theorem Dec.len {H : AH} : ∀ {xs : List AV} {ss : List Stp}, Dec H xs ss → xs.length = ss.length
  | [], [], _ => rfl
  | _ :: _, _ :: _, ⟨_, h⟩ => congrArg (· + 1) h.len
  | [], _ :: _, h => h.elim
  | _ :: _, [], h => h.elim
theorem Dec.mono {H H' : AH} (p : H <+: H') : ∀ {xs : List AV} {ss : List Stp}, Dec H xs ss → Dec H' xs ss
  | [], [], _ => trivial
  | _ :: _, _ :: _, ⟨⟨i, h1, h2⟩, h⟩ => ⟨⟨i, h1, pre_get p h2⟩, h.mono p⟩
  | [], _ :: _, h => h.elim
  | _ :: _, [], h => h.elim
theorem Dec.keep {H H' : AH} (p : ∀ (i : Nat) (s : Stp), H[i]? = some (tupA s) → H'[i]? = some (tupA s)) : ∀ {xs : List AV} {ss : List Stp}, Dec H xs ss → Dec H' xs ss
  | [], [], _ => trivial
  | _ :: _, _ :: _, ⟨⟨i, h1, h2⟩, h⟩ => ⟨⟨i, h1, p _ _ h2⟩, h.keep p⟩
  | [], _ :: _, h => h.elim
  | _ :: _, [], h => h.elim
theorem Dec.append {H : AH} : ∀ {xs ys : List AV} {ss rs : List Stp}, Dec H xs ss → Dec H ys rs → Dec H (xs ++ ys) (ss ++ rs)
  | [], _, [], _, _, h => h
  | _ :: _, _, _ :: _, _, ⟨a, b⟩, h => ⟨a, b.append h⟩
  | [], _, _ :: _, _, h, _ => h.elim
  | _ :: _, _, [], _, h, _ => h.elim
theorem cost_append (P : Pr) : ∀ a b : List Stp, cost P (a ++ b) = cost P a + cost P b
  | [], b => by simp [cost]
  | s :: a, b => by
    show cost1 P s + cost P (a ++ b) = cost1 P s + cost P a + cost P b
    rw [cost_append P a b]; lia
theorem take_succ' {α : Type} {l : List α} {k : Nat} {a : α} (h : l[k]? = some a) : l.take (k + 1) = l.take k ++ [a] := by
  rw [List.take_add_one, h]; rfl
theorem cost_take {P : Pr} {ss : List Stp} {k : Nat} {s : Stp} (h : ss[k]? = some s) : cost P (ss.take (k + 1)) = cost P (ss.take k) + cost1 P s := by
  rw [take_succ' h, cost_append]
  show _ + (cost1 P s + 0) = _
  simp
noncomputable def Good (s : Stp) : Prop := s.1 = 0 ∨ (2 ≤ s.1 ∧ s.1 < 20 ∧ 1 ≤ s.2 ∧ s.2 < 20)
theorem PriAt.mono {H H' : AH} {p : Nat} {P : Pr} (q : H <+: H') (h : PriAt H p P) : PriAt H' p P := by
  obtain ⟨d, h1, h2⟩ := h
  exact ⟨d, pre_get q h1, pre_get q h2⟩
theorem chkPri {H : AH} {p : Nat} {P : Pr} {x : Str} {l : Loc} (h : PriAt H p P) (hx : x = Str.ofString "literal" ∨ x = Str.ofString "match") : chkI 212 x (.ref p) l H = some ((), H) := by
  obtain ⟨d, h1, h2⟩ := h
  unfold priF at h2
  rcases hx with rfl | rfl <;> simp only [k212_literal, k212_match, r_chkI, r_hA, eq_self, h1, h2]
theorem s173 {P : Pr} {H : AH} {j p : Nat} {xs : List AV} {ss : List Stp} (hj : H[j]? = some (.list xs)) (hd : Dec H xs ss) (hp : PriAt H p P) (hP : P.ok) (hg : ∀ s ∈ ss, Good s) (hl : ss.length ≤ 20) :
    Ev (p173 [.ref j, .ref p] H) fun r => H <+: r.2 ∧ r.1 = .int (cost P ss) := by
  rw [e173]
  unfold b173
  simp only [t_bind, t_s1, t_n, v_1, w_0, r_const, r_seq, r_ev, r_st, r_putV, r_for, r_kF, if_pos_true, eq_self, String.reduceBEq, src_lst hj, isLst_lst]
  refine Ev.rB (Ev.bind ((for_rule (items := xs) (I := fun k l H' => H <+: H' ∧ (∀ G, ldV (Str.ofString "whole") l G = some (.int (cost P (ss.take k)), G)) ∧ (∀ G, ldV (Str.ofString "price") l G = some (.ref p, G)))
    (Q := fun f l H' => f = .next ∧ H <+: H' ∧ ∀ G, ldV (Str.ofString "whole") l G = some (.int (cost P ss), G)) ?_ ?_ ?_ 64 0 _ _ ?_ ?_ ?_).mono ?_))
  · rintro k l H' ⟨pre, _, _⟩
    exact lst_item (pre_get pre hj) k
  · rintro k l H' a ⟨pre, lw, lp⟩ ha
    obtain ⟨s, i, hs, rfl, hi⟩ := hd.get ha
    have hi := pre_get pre hi
    have hp := hp.mono pre
    have gs := hg s (List.mem_of_getElem? hs)
    have ct := cost_take (P := P) hs
    obtain ⟨a, b⟩ := s
    unfold tupA at hi
    by_cases q : a = 0
    · have q' : (a : Int) = 0 := by lia
      have e : cost1 P (a, b) = P.lit := if_pos q
      simp only [t_bind, t_s1, t_n, t_p, v_0, v_1, r_ite, r_bind, r_pure, r_const, r_seq, r_ev, r_st, r_putV, r_tru1, r_add, r_eq, r_next, r_chkI, r_chkF, r_unpU, r_unT, r_up0, r_up, if_pos_true, eq_self, String.reduceBEq, decide_true, List.length_cons, List.length_nil, Nat.reduceAdd, and_true, implies_true, hi, lw, lp, q', s202 hp, chkPri hp (.inl rfl), Ev_some, aft1]
      exact ⟨pre, fun _ => by rw [ct, e]⟩
    · have q' : ¬ (a : Int) = 0 := by (exact mt Int.ofNat_inj.mp (by assumption))
      have e : cost1 P (a, b) = mpr P a b := if_neg q
      obtain ⟨g1, g2, g3, g4⟩ := gs.resolve_left q
      obtain ⟨H2, p2, e2⟩ := s209 hp hP g1 g2 g3 g4
      simp only [t_bind, t_s1, t_n, t_p, v_0, v_1, r_ite, r_bind, r_pure, r_const, r_seq, r_ev, r_st, r_putV, r_tru1, r_add, r_eq, r_next, r_chkI, r_chkF, r_unpU, r_unT, r_up0, r_up, if_pos_true, if_neg_false, eq_self, String.reduceBEq, decide_false, Bool.false_eq_true, List.length_cons, List.length_nil, Nat.reduceAdd, and_true, implies_true, hi, lw, lp, q', e2, chkPri hp (.inr rfl), Ev_some, aft1]
      exact ⟨pre.trans p2, fun _ => by rw [ct, e]⟩
  · rintro l H' ⟨pre, lw, lp⟩
    rw [hd.len, List.take_length] at lw
    exact ⟨rfl, pre, lw⟩
  · rw [hd.len]; (exact Nat.lt_of_le_of_lt (by assumption) (by decide))
  · exact Nat.zero_le _
  · simp only [v_0, v_1, w_1, eq_self, String.reduceBEq, and_true, implies_true]
    exact ⟨List.prefix_refl _, fun _ => rfl⟩
  · rintro ⟨f, l, H'⟩ ⟨rfl, pre, lw⟩
    dsimp only at lw
    simp only [t_bind, t_s2, r_seq, r_kS1, r_ev, r_ret, r_rB1, eq_self, and_true, lw, Ev_some]
    exact pre
-- part S5
theorem getI_oc {t : List UInt8} {k : Int} {n : Nat} (hk : k = (n : Int)) (hn : n < t.length) (ht : t.length ≤ 9) (l : Loc) (H : AH) : getI (.bytes t) (.int k) l H = some (.int (oc t n), H) := by
  subst hk
  show (if 0 ≤ (n : Int) ∧ (n : Int) < t.length ∧ t.length ≤ 1099511627776 then (M.pure (.int ((t.getD (n : Int).toNat 0).toNat : Nat)) : M AV) else M.fail) l H = _
  rw [if_pos (by lia), Int.toNat_natCast]
  rfl
theorem lenb_ok {t : List UInt8} (ht : t.length ≤ 9) (l : Loc) (H : AH) : lenB [.bytes t] l H = some (.int t.length, H) := by
  rw [r_lenb, if_pos (by (exact Nat.le_trans (by assumption) (by decide)))]
noncomputable def Run (t : List UInt8) (p L d : Nat) : Prop := p + L ≤ t.length ∧ 1 ≤ d ∧ d ≤ p ∧ ∀ i, i < L → oc t (p + i) = oc t (p + i - d)
theorem s75 {t : List UInt8} {p L d : Nat} {H : AH} (ht : t.length ≤ 9) (hr : Run t p L d) : Ev (p75 [.bytes t, .int p, .int L, .int d] H) fun r => H <+: r.2 ∧ r.1 = .bool true := by
  obtain ⟨h1, h2, h3, h4⟩ := hr
  rw [e75]
  unfold b75
  have c1 : ¬ ((t.length : Int) < (p : Int) + (L : Int)) := by lia
  have c2 : (1 : Int) ≤ (d : Int) := by (exact Int.ofNat_le.mpr (by assumption))
  have c3 : (d : Int) ≤ (p : Int) := by (exact Int.ofNat_le.mpr (by assumption))
  have sr : srcOf (.ref H.length) (H ++ [.range (p : Int) ((p : Int) + (L : Int)) 1]) = some (.rng (p : Int) ((p : Int) + (L : Int)) 1) :=
    src_rng (a := p) (b := p + L) rfl (by (exact Int.natCast_add _ _)) app_at0 (by lia) (by (exact Nat.lt_of_le_of_lt (Nat.le_trans (by assumption) (by assumption)) (by decide)))
  simp only [t_bind, t_s1, t_s2, w_0, w_1, w_2, w_3, r_ite, r_bind, r_pure, r_const, r_seq, r_ev, r_iteS, r_tru1, r_add, r_le, r_gt, r_or, r_not, r_ret, r_next, r_for, r_kF, r_rng2, if_pos_true, if_neg_false, eq_self, String.reduceBEq, decide_true, decide_false, Bool.not_true, Bool.false_eq_true, lenb_ok ht, c1, c2, c3, sr]
  refine Ev.rB (Ev.bind ((for_rule (items := upto p (p + L - p)) (I := fun k l H' => H <+: H' ∧ (∀ G, ldV (Str.ofString "octets") l G = some (.bytes t, G)) ∧ (∀ G, ldV (Str.ofString "distance") l G = some (.int d, G)))
    (Q := fun f l H' => f = .next ∧ H <+: H') ?_ ?_ ?_ 64 0 _ _ ?_ ?_ ?_).mono ?_))
  · rintro k l H' _
    exact rng_item rfl (by (exact Int.natCast_add _ _)) k
  · rintro k l H' a ⟨pre, lo, ld⟩ ha
    obtain ⟨hk, rfl⟩ := upto_get ha
    have e1 : ((p + k : Nat) : Int) - (d : Int) = ((p + k - d : Nat) : Int) := by lia
    have e2 := h4 k (by lia)
    simp only [t_bind, t_s1, t_s2, v_0, v_1, r_ite, r_bind, r_const, r_seq, r_ev, r_iteS, r_putV, r_tru1, r_sub, r_ne, r_ret, r_next, if_neg_false, eq_self, String.reduceBEq, decide_true, Bool.not_true, Bool.false_eq_true, and_self, and_true, implies_true, lo, ld, getI_oc (t := t) (n := p + k) rfl (by lia) ht, getI_oc (t := t) (n := p + k - d) e1 (by lia) ht, e2, Ev_some, aft1]
    exact pre
  · rintro l H' ⟨pre, _, _⟩
    exact ⟨rfl, pre⟩
  · rw [upto_len]; lia
  · exact Nat.zero_le _
  · simp only [w_0, w_3, eq_self, String.reduceBEq, and_self, and_true, implies_true]
    exact List.prefix_append _ _
  · rintro ⟨f, l, H'⟩ ⟨rfl, pre⟩
    simp only [t_bind, t_s2, r_const, r_seq, r_kS1, r_ev, r_ret, r_rB1, eq_self, and_true, Ev_some]
    exact pre
/-- steps that fit the text from a place on -/
noncomputable def Fit (t : List UInt8) (sh mo wi : Nat) : Nat → List Stp → Prop
  | p, [] => p = t.length
  | p, s :: r => (if s.1 = 0 then p < t.length ∧ s.2 = oc t p else sh ≤ s.1 ∧ s.1 ≤ mo ∧ s.2 ≤ wi ∧ Run t p s.1 s.2) ∧ Fit t sh mo wi (p + sz1 s) r
theorem drop_cons' {α : Type} {l : List α} {k : Nat} {a : α} (h : l[k]? = some a) : l.drop k = a :: l.drop (k + 1) := by
  obtain ⟨hk, e⟩ := List.getElem?_eq_some_iff.mp h
  rw [List.drop_eq_getElem_cons hk, e]
theorem s83 {t : List UInt8} {sh mo wi j : Nat} {H : AH} {xs : List AV} {ss : List Stp} (ht : t.length ≤ 9) (hj : H[j]? = some (.list xs)) (hd : Dec H xs ss) (hl : ss.length ≤ 20) (hf : Fit t sh mo wi 0 ss) :
    Ev (p83 [.ref j, .bytes t, .int 0, .int sh, .int mo, .int wi] H) fun r => H <+: r.2 ∧ r.1 = .bool true := by
  rw [e83]
  unfold b83
  simp only [t_bind, t_s1, t_n, v_1, w_0, w_2, r_seq, r_ev, r_st, r_putV, r_for, r_kF, if_pos_true, eq_self, String.reduceBEq, src_lst hj, isLst_lst]
  refine Ev.rB (Ev.bind ((for_rule (items := xs) (I := fun k l H' => H <+: H' ∧ ∃ p : Nat, (∀ G, ldV (Str.ofString "place") l G = some (.int p, G)) ∧ Fit t sh mo wi p (ss.drop k) ∧
      (∀ G, ldV (Str.ofString "octets") l G = some (.bytes t, G)) ∧ (∀ G, ldV (Str.ofString "shortest") l G = some (.int sh, G)) ∧ (∀ G, ldV (Str.ofString "most") l G = some (.int mo, G)) ∧ (∀ G, ldV (Str.ofString "window") l G = some (.int wi, G)))
    (Q := fun f l H' => f = .next ∧ H <+: H' ∧ (∀ G, ldV (Str.ofString "place") l G = some (.int t.length, G)) ∧ (∀ G, ldV (Str.ofString "octets") l G = some (.bytes t, G))) ?_ ?_ ?_ 64 0 _ _ ?_ ?_ ?_).mono ?_))
  · rintro k l H' ⟨pre, _⟩
    exact lst_item (pre_get pre hj) k
  · rintro k l H' a ⟨pre, p, lp, fp, lo, ls, lm, lw⟩ ha
    obtain ⟨s, i, hs, rfl, hi⟩ := hd.get ha
    have hi := pre_get pre hi
    rw [drop_cons' hs] at fp
    obtain ⟨fp, fr⟩ := fp
    obtain ⟨a, b⟩ := s
    unfold tupA at hi
    by_cases q : a = 0
    · have q' : (a : Int) = 0 := by lia
      rw [if_pos q] at fp
      obtain ⟨f1, f2⟩ := fp
      dsimp only at f2
      have c1 : ¬ ((t.length : Int) ≤ (p : Int)) := by lia
      have e : sz1 (a, b) = 1 := if_pos q
      simp only [t_bind, t_s1, t_s2, t_s4, t_n, t_p, v_0, v_1, r_ite, r_bind, r_pure, r_const, r_seq, r_ev, r_st, r_iteS, r_putV, r_tru1, r_add, r_ge, r_eq, r_ne, r_or, r_ret, r_next, r_cont, r_unpU, r_unT, r_up0, r_up, if_pos_true, if_neg_false, eq_self, String.reduceBEq, decide_true, decide_false, Bool.not_true, Bool.false_eq_true, List.length_cons, List.length_nil, Nat.reduceAdd, and_self, and_true, implies_true, hi, lp, lo, ls, lm, lw, q', lenb_ok ht, c1, getI_oc (t := t) (n := p) rfl f1 ht, f2, Ev_some, aft2]
      rw [e] at fr
      exact ⟨pre, p + 1, fun _ => rfl, fr⟩
    · have q' : ¬ (a : Int) = 0 := by (exact mt Int.ofNat_inj.mp (by assumption))
      rw [if_neg q] at fp
      obtain ⟨f1, f2, f3, f4⟩ := fp
      dsimp only at f1 f2 f3 f4
      have c1 : ¬ ((a : Int) < (sh : Int)) := by lia
      have c2 : ¬ ((mo : Int) < (a : Int)) := by lia
      have c3 : ¬ ((wi : Int) < (b : Int)) := by lia
      have e : sz1 (a, b) = a := if_neg q
      obtain ⟨⟨v, H2⟩, e2, p2, e3⟩ := s75 (H := H') ht f4
      dsimp only at p2 e3
      subst e3
      simp only [t_bind, t_s1, t_s2, t_n, t_p, v_0, v_1, r_ite, r_bind, r_pure, r_const, r_seq, r_ev, r_st, r_iteS, r_putV, r_tru1, r_add, r_lt, r_gt, r_eq, r_no2, r_and, r_or, r_not, r_ret, r_next, r_chkF, r_unpU, r_unT, r_up0, r_up, if_pos_true, if_neg_false, eq_self, String.reduceBEq, decide_false, Bool.not_true, Bool.not_false, Bool.false_eq_true, List.length_cons, List.length_nil, Nat.reduceAdd, and_self, and_true, implies_true, hi, lp, lo, ls, lm, lw, q', c1, c2, c3, e2, Ev_some, aft1]
      rw [e] at fr
      exact ⟨pre.trans p2, p + a, fun _ => rfl, fr⟩
  · rintro l H' ⟨pre, p, lp, fp, lo, _⟩
    rw [hd.len, List.drop_length] at fp
    have fp : p = t.length := fp
    subst fp
    exact ⟨rfl, pre, lp, lo⟩
  · rw [hd.len]; (exact Nat.lt_of_le_of_lt (by assumption) (by decide))
  · exact Nat.zero_le _
  · simp only [v_0, v_1, w_1, w_3, w_4, w_5, eq_self, String.reduceBEq, and_self, and_true, implies_true]
    exact ⟨List.prefix_refl _, 0, fun _ => rfl, hf⟩
  · rintro ⟨f, l, H'⟩ ⟨rfl, pre, lp, lo⟩
    dsimp only at lp lo
    simp only [t_bind, t_s2, r_bind, r_pure, r_seq, r_kS1, r_ev, r_eq, r_ret, r_rB1, eq_self, decide_true, and_true, lp, lo, lenb_ok ht, Ev_some]
    exact pre
-- part S6
noncomputable def rpM (k : Int) (H : AH) (o : Option AObj) : Option (AV × AH) := match o with
  | some (.list xs) => if 0 ≤ k ∧ k ≤ 1000 ∧ xs.length = 1 then some (.ref H.length, H ++ [.list (repL xs k.toNat)]) else none
  | _ => none
noncomputable def ctM (H : AH) (o p : Option AObj) : Option (AV × AH) := match o, p with
  | some (.list xs), some (.list ys) => if xs.length + ys.length ≤ 1000 then some (.ref H.length, H ++ [.list (xs ++ ys)]) else none
  | _, _ => none
noncomputable def apB (a : AV) (i : Nat) (H : AH) (o : Option AObj) : Option (AV × AH) := match o with
  | some (.list xs) => if xs.length < 1000000 then some (.none, H.set i (.list (xs ++ [a]))) else none
  | _ => none
noncomputable def ilM (H : AH) (o : Option AObj) : Option (Unit × AH) := match o with
  | some (.list _) => some ((), H)
  | _ => none
noncomputable def rvM (H : AH) (o : Option AObj) : Option (AV × AH) := match o with
  | some (.list xs) => if xs.length ≤ 1000 then some (.ref H.length, H ++ [.list xs.reverse]) else none
  | _ => none
noncomputable def siL (k : Int) (v : AV) (j : Nat) (H : AH) (o : Option AObj) : Option (Unit × AH) := match o with
  | some (.list xs) => if 0 ≤ k ∧ k < xs.length ∧ xs.length < 2 ^ 60 then some ((), H.set j (.list (xs.set k.toNat v))) else none
  | _ => none
noncomputable def lnL (H : AH) (o : Option AObj) : Option (AV × AH) := match o with
  | some (.list xs) => if xs.length < 2 ^ 60 then some (.int xs.length, H) else none
  | _ => none
section
variable (l : Loc) (H : AH)
theorem lstOf_at {i : Nat} : lstOf (.ref i) l H = match H[i]? with | some (.list xs) => some (xs, H) | _ => none := rfl
theorem r_rep {i : Nat} {k : Int} : repM (.ref i) (.int k) l H = rpM k H H[i]? := by
  unfold repM
  dsimp only
  rw [r_bind, lstOf_at]
  unfold rpM
  cases H[i]? with
  | none => rfl
  | some o => cases o <;> first | rfl | exact r_ite l H
theorem r_cat {i j : Nat} : catM (.ref i) (.ref j) l H = ctM H H[i]? H[j]? := by
  show M.bind (lstOf (.ref i)) _ l H = _
  rw [r_bind, lstOf_at]
  unfold ctM
  cases H[i]? with
  | none => rfl
  | some o =>
    cases o <;> try rfl
    dsimp only
    rw [bn_some, r_kE, r_bind, lstOf_at]
    cases H[j]? with
    | none => rfl
    | some o => cases o <;> first | rfl | exact r_ite l H
theorem r_app {i : Nat} {a : AV} : appB [.ref i, a] l H = apB a i H H[i]? := by
  unfold appB apB
  dsimp only
  all_goals cases H[i]? with
  | none => rfl
  | some o => cases o <;> rfl
theorem r_isLst {i : Nat} : isLstM (.ref i) l H = ilM H H[i]? := by
  show M.bind (lstOf (.ref i)) _ l H = _
  rw [r_bind, lstOf_at]
  unfold ilM
  cases H[i]? with
  | none => rfl
  | some o => cases o <;> rfl
theorem r_rev {i : Nat} : revM (.int (-1)) (.ref i) l H = rvM H H[i]? := by
  unfold revM
  dsimp only
  rw [if_pos rfl, r_bind, lstOf_at]
  unfold rvM
  cases H[i]? with
  | none => rfl
  | some o => cases o <;> first | rfl | exact r_ite l H
theorem r_setIL {j : Nat} {k : Int} {v : AV} : setIL (.ref j) (.int k) v l H = siL k v j H H[j]? := by
  unfold setIL siL
  dsimp only
  all_goals cases H[j]? with
  | none => rfl
  | some o => cases o <;> rfl
theorem r_lenl {i : Nat} : lenB [.ref i] l H = lnL H H[i]? := by
  unfold lenB lnL
  dsimp only
  all_goals cases H[i]? with
  | none => rfl
  | some o => cases o <;> rfl
theorem q_rep {k : Int} {xs : List AV} : rpM k H (some (.list xs)) = if 0 ≤ k ∧ k ≤ 1000 ∧ xs.length = 1 then some (.ref H.length, H ++ [.list (repL xs k.toNat)]) else none := rfl
theorem q_cat {xs ys : List AV} : ctM H (some (.list xs)) (some (.list ys)) = if xs.length + ys.length ≤ 1000 then some (.ref H.length, H ++ [.list (xs ++ ys)]) else none := rfl
theorem q_app {a : AV} {i : Nat} {xs : List AV} : apB a i H (some (.list xs)) = if xs.length < 1000000 then some (.none, H.set i (.list (xs ++ [a]))) else none := rfl
theorem q_isLst {xs : List AV} : ilM H (some (.list xs)) = some ((), H) := rfl
theorem q_rev {xs : List AV} : rvM H (some (.list xs)) = if xs.length ≤ 1000 then some (.ref H.length, H ++ [.list xs.reverse]) else none := rfl
theorem siL_ok {k : Int} {n : Nat} {v : AV} {j : Nat} {xs : List AV} (hk : k = n) (hn : n < xs.length) (hx : xs.length ≤ 1000) : siL k v j H (some (.list xs)) = some ((), H.set j (.list (xs.set n v))) := by
  subst hk
  show (if _ then _ else _) = _
  rw [if_pos (by lia), Int.toNat_natCast]
theorem lnL_ok {xs : List AV} (hx : xs.length ≤ 1000) : lnL H (some (.list xs)) = some (.int xs.length, H) := if_pos (by (exact Nat.lt_of_le_of_lt (by assumption) (by decide)))
end
theorem repL_len {a : AV} : ∀ n, (repL [a] n).length = n
  | 0 => rfl
  | n + 1 => congrArg (· + 1) (repL_len n)
theorem newWays {n : Nat} {l : Loc} {H : AH} (hn : n ≤ 9) : newI 154 p137 [.int n] l H = some (.ref (H.length + 1), H ++ [wayF n (H.length + 5) (H.length + 7), .inst 154 H.length, .list [.int 0], .list [.none],
    .list (repL [.none] n), .list (.int 0 :: repL [.none] n), .list [.none], .list (repL [.none] (n + 1))]) := by
  have c1 : (0 : Int) ≤ (n : Int) := by (exact Int.natCast_nonneg _)
  have c2 : (n : Int) ≤ 1000 := by (exact Int.ofNat_le.mpr (Nat.le_trans (by assumption) (by decide)))
  have c3 : (0 : Int) ≤ (n : Int) + 1 := by (exact Int.natCast_nonneg _)
  have c4 : (n : Int) + 1 ≤ 1000 := by (exact Int.ofNat_lt.mpr (Nat.lt_of_le_of_lt (by assumption) (by decide)))
  have c5 : ((n : Int) + 1).toNat = n + 1 := by rfl
  have c6 : 1 + n ≤ 1000 := by lia
  unfold wayF
  rw [r_newI, e137]
  unfold b137
  simp only [t_bind, t_s1, t_n, t_u, w_0, w_1, r_bind, r_pure, r_const, r_seq, r_ev, r_st, r_add, r_next, r_upd, r_setA, r_sA, r_nI, r_rB2, if_pos_true, ok_all, ofS_inj, if_neg_false, eq_self, String.reduceEq, String.reduceBEq, List.length_cons, List.length_nil, Nat.reduceAdd, Nat.reduceLeDiff, Nat.reduceLT, and_self, List.append_assoc, List.cons_append, List.nil_append, List.length_append, app_at, app_at0, cons_at, cons_at0, set_app0, List.set_cons_zero, r_rep, r_cat, q_rep, q_cat, r_pf0, r_pf, r_sB, r_newL, c1, c2, c3, c4, c5, c6, repL_len, Nat.zero_add, Int.toNat_natCast]
-- part S7
/-- the objects outside a list stand -/
noncomputable def Only (S : List Nat) (H H' : AH) : Prop := H'.length = H.length ∧ ∀ i, i ∉ S → H'[i]? = H[i]?
theorem Only.refl {S : List Nat} {H : AH} : Only S H H := ⟨rfl, fun _ _ => rfl⟩
theorem Only.trans {S : List Nat} {H H' H'' : AH} (a : Only S H H') (b : Only S H' H'') : Only S H H'' := ⟨b.1.trans a.1, fun i hi => (b.2 i hi).trans (a.2 i hi)⟩
theorem Only.set {S : List Nat} {H : AH} {i : Nat} {o : AObj} (h : i ∈ S) : Only S H (H.set i o) :=
  ⟨List.length_set, fun j hj => List.getElem?_set_ne (fun e => hj (by rw [← e]; exact h))⟩
theorem Only.more {S T : List Nat} {H H' : AH} (a : Only S H H') (h : ∀ i ∈ S, i ∈ T) : Only T H H' := ⟨a.1, fun i hi => a.2 i fun q => hi (h i q)⟩
theorem set_self {H : AH} {i : Nat} {o x : AObj} (h : H[i]? = some o) : (H.set i x)[i]? = some x := by
  rw [List.getElem?_set_self', h]; rfl
theorem set_ne {H : AH} {i j : Nat} {x : AObj} (h : i ≠ j) : (H.set i x)[j]? = H[j]? := List.getElem?_set_ne h
theorem ne_of_at {H : AH} {i j : Nat} {a b : AObj} (h1 : H[i]? = some a) (h2 : H[j]? = some b) (h : a ≠ b) : i ≠ j := fun e => h (by subst e; rw [h1] at h2; exact Option.some.inj h2)
noncomputable def DecO (H : AH) : List AV → List (Option Stp) → Prop
  | [], [] => True
  | a :: as, none :: os => a = .none ∧ DecO H as os
  | a :: as, some s :: os => (∃ i, a = .ref i ∧ H[i]? = some (tupA s)) ∧ DecO H as os
  | _, _ => False
theorem DecO.len {H : AH} : ∀ {xs : List AV} {os : List (Option Stp)}, DecO H xs os → xs.length = os.length
  | [], [], _ => rfl
  | _ :: _, none :: _, ⟨_, h⟩ => congrArg (· + 1) h.len
  | _ :: _, some _ :: _, ⟨_, h⟩ => congrArg (· + 1) h.len
  | [], _ :: _, h => h.elim
  | _ :: _, [], h => h.elim
theorem DecO.keep {H H' : AH} (p : ∀ (i : Nat) (s : Stp), H[i]? = some (tupA s) → H'[i]? = some (tupA s)) : ∀ {xs : List AV} {os : List (Option Stp)}, DecO H xs os → DecO H' xs os
  | [], [], _ => trivial
  | _ :: _, none :: _, ⟨e, h⟩ => ⟨e, h.keep p⟩
  | _ :: _, some _ :: _, ⟨⟨i, h1, h2⟩, h⟩ => ⟨⟨i, h1, p _ _ h2⟩, h.keep p⟩
  | [], _ :: _, h => h.elim
  | _ :: _, [], h => h.elim
theorem DecO.get {H : AH} : ∀ {xs : List AV} {os : List (Option Stp)}, DecO H xs os → ∀ {k : Nat} {s : Stp}, os[k]? = some (some s) → ∃ i, xs[k]? = some (.ref i) ∧ H[i]? = some (tupA s)
  | [], [], _, _, _, e => by (first | exact no1 e | obtain ⟨rfl, rfl, rfl⟩ := jn3 e | obtain ⟨rfl, rfl⟩ := jn2 e | obtain rfl := jn1 e | cases e)
  | a :: as, none :: os, ⟨_, h⟩, 0, _, e => by (first | exact no1 e | obtain ⟨rfl, rfl, rfl⟩ := jn3 e | obtain ⟨rfl, rfl⟩ := jn2 e | obtain rfl := jn1 e | cases e)
  | a :: as, some s :: os, ⟨⟨i, h1, h2⟩, _⟩, 0, _, e => by (first | exact no1 e | obtain ⟨rfl, rfl, rfl⟩ := jn3 e | obtain ⟨rfl, rfl⟩ := jn2 e | obtain rfl := jn1 e | cases e); exact ⟨i, congrArg some h1, h2⟩
  | a :: as, none :: os, ⟨_, h⟩, k + 1, _, e => h.get (k := k) e
  | a :: as, some s :: os, ⟨_, h⟩, k + 1, _, e => h.get (k := k) e
  | [], _ :: _, h, _, _, _ => h.elim
  | _ :: _, [], h, _, _, _ => h.elim
theorem DecO.put {H : AH} {i : Nat} {s : Stp} (hi : H[i]? = some (tupA s)) : ∀ {xs : List AV} {os : List (Option Stp)}, DecO H xs os → ∀ k, DecO H (xs.set k (.ref i)) (os.set k (some s))
  | [], [], _, _ => trivial
  | a :: as, none :: os, ⟨_, h⟩, 0 => ⟨⟨i, rfl, hi⟩, h⟩
  | a :: as, some s :: os, ⟨_, h⟩, 0 => ⟨⟨i, rfl, hi⟩, h⟩
  | a :: as, none :: os, ⟨e, h⟩, k + 1 => ⟨e, h.put hi k⟩
  | a :: as, some s :: os, ⟨e, h⟩, k + 1 => ⟨e, h.put hi k⟩
  | [], _ :: _, h, _ => h.elim
  | _ :: _, [], h, _ => h.elim
structure WaysAt (H : AH) (w wd cs ss n : Nat) (W : Ws) : Prop where
  i : H[w]? = some (.inst 154 wd)
  d : H[wd]? = some (wayF n cs ss)
  ne : cs ≠ ss
  c : H[cs]? = some (.list (W.1.map optA))
  l1 : W.1.length = n + 1
  s : ∃ sl, H[ss]? = some (.list sl) ∧ DecO H sl W.2
  l2 : W.2.length = n + 1
theorem sz1_pos (s : Stp) : 1 ≤ sz1 s := by
  unfold sz1
  split <;> lia
theorem s144 {H : AH} {w wd cs ss n at_ r : Nat} {W : Ws} {s : Stp} {ca k : Int} (h : WaysAt H w wd cs ss n W) (hr : H[r]? = some (tupA s)) (hn : n ≤ 9) (hs : sz1 s ≤ 20) (ha : at_ ≤ n) (hc : W.1[at_]? = some (some ca)) :
    ∃ H', p144 [.ref w, .int at_, .ref r, .int k] H = some (.none, H') ∧ WaysAt H' w wd cs ss n (offer n at_ ca W s k) ∧ Only [cs, ss] H H' := by
  obtain ⟨h1, h2, h3, h4, h5, ⟨sl, h6, h7⟩, h8⟩ := h
  have hk := s68 hr
  unfold wayF at h2
  rw [e144]
  unfold b144
  have b1 := sz1_pos s
  by_cases q : at_ + sz1 s > n
  · have q' : (n : Int) < (at_ : Int) + (sz1 s : Int) := by (exact Int.ofNat_lt.mpr (by assumption))
    refine ⟨H, ?_, ?_, Only.refl⟩
    · simp only [t_bind, t_s1, t_s2, t_n, v_0, v_1, w_0, w_1, w_2, a154_size, r_ite, r_bind, r_pure, r_seq, r_ev, r_st, r_iteS, r_putV, r_tru1, r_add, r_gt, r_ret, r_next, r_getA, r_gA, r_chkF, r_rB1, if_pos_true, eq_self, String.reduceBEq, decide_true, hk, h1, h2, q']
    · rw [show offer n at_ ca W s k = W from if_pos q]
      exact ⟨h1, h2, h3, h4, h5, ⟨sl, h6, h7⟩, h8⟩
  · have q' : ¬ ((n : Int) < ((at_ + sz1 s : Nat) : Int)) := by (exact mt Int.ofNat_lt.mp (by assumption))
    have g1 : gI (at_ : Int) H (some (.list (W.1.map optA))) = some (.int ca, H) := gI_at rfl (by (exact Nat.lt_of_le_of_lt (Nat.le_trans (by assumption) (by assumption)) (by decide))) (by rw [List.getElem?_map, hc]; rfl)
    have e1 : (at_ : Int) + (sz1 s : Int) = ((at_ + sz1 s : Nat) : Int) := by lia
    have lt1 : at_ + sz1 s < W.1.length := by lia
    have e2 : W.1[at_ + sz1 s]? = some (W.1.getD (at_ + sz1 s) none) := by
      rw [List.getElem?_eq_getElem lt1, List.getD_eq_getElem?_getD, List.getElem?_eq_getElem lt1]; rfl
    have g2 : gI ((at_ + sz1 s : Nat) : Int) H (some (.list (W.1.map optA))) = some (optA (W.1.getD (at_ + sz1 s) none), H) := gI_at rfl (by lia) (by rw [List.getElem?_map, e2]; rfl)
    have lsl := h7.len
    have x1 : (H.set cs (.list ((W.1.map optA).set (at_ + sz1 s) (.int (ca + k)))))[w]? = some (.inst 154 wd) := (set_ne (ne_of_at h4 h1 (by simp))).trans h1
    have x2 : (H.set cs (.list ((W.1.map optA).set (at_ + sz1 s) (.int (ca + k)))))[wd]? = _ := (set_ne (ne_of_at h4 h2 (by simp))).trans h2
    have x6 : (H.set cs (.list ((W.1.map optA).set (at_ + sz1 s) (.int (ca + k)))))[ss]? = _ := (set_ne h3).trans h6
    have st1 : ∀ G, siL ((at_ + sz1 s : Nat) : Int) (.int (ca + k)) cs G (some (.list (W.1.map optA))) = _ := fun G => siL_ok (n := at_ + sz1 s) G rfl (by rw [List.length_map]; exact lt1) (by rw [List.length_map]; lia)
    have st2 : ∀ G, siL ((at_ + sz1 s : Nat) : Int) (.ref r) ss G (some (.list sl)) = _ := fun G => siL_ok (n := at_ + sz1 s) G rfl (by lia) (by lia)
    have out : ∃ H', H' = (H.set cs (.list ((W.1.map optA).set (at_ + sz1 s) (.int (ca + k))))).set ss (.list (sl.set (at_ + sz1 s) (.ref r))) ∧
        WaysAt H' w wd cs ss n (W.1.set (at_ + sz1 s) (some (ca + k)), W.2.set (at_ + sz1 s) (some s)) ∧ Only [cs, ss] H H' := by
      have o1 : Only [cs, ss] H ((H.set cs (.list ((W.1.map optA).set (at_ + sz1 s) (.int (ca + k))))).set ss (.list (sl.set (at_ + sz1 s) (.ref r)))) :=
        (Only.set (by simp)).trans (Only.set (by simp))
      refine ⟨_, rfl, ⟨?_, ?_, h3, ?_, ?_, ⟨_, set_self x6, ?_⟩, ?_⟩, o1⟩
      · exact (set_ne (ne_of_at x6 x1 (by simp))).trans x1
      · exact (set_ne (ne_of_at x6 x2 (by simp))).trans x2
      · rw [set_ne (Ne.symm h3), set_self h4]; dsimp only; rw [List.map_set]; rfl
      · dsimp only; rw [List.length_set]; exact h5
      · have kp : ∀ (i : Nat) (s' : Stp), H[i]? = some (tupA s') → ((H.set cs (.list ((W.1.map optA).set (at_ + sz1 s) (.int (ca + k))))).set ss (.list (sl.set (at_ + sz1 s) (.ref r))))[i]? = some (tupA s') := fun i s' hi => by
          rw [o1.2 i]
          · exact hi
          · simp only [List.mem_cons, List.not_mem_nil, or_false]
            rintro (e | e)
            · exact ne_of_at hi h4 (by unfold tupA; simp) e
            · exact ne_of_at hi h6 (by unfold tupA; simp) e
        exact (h7.keep kp).put (kp _ _ hr) _
      · dsimp only; rw [List.length_set]; exact h8
    cases ec : W.1.getD (at_ + sz1 s) none with
    | none =>
      rw [ec] at g2
      obtain ⟨H', hH, oW, oO⟩ := out
      refine ⟨H', ?_, ?_, oO⟩
      · subst hH
        simp only [t_bind, t_s1, t_s2, t_n, t_u, v_0, v_1, w_0, w_1, w_2, w_3, a154_size, a154_costs, a154_steps, r_ite, r_bind, r_pure, r_const, r_seq, r_ev, r_st, r_iteS, r_putV, r_tru1, r_add, r_gt, r_no1, r_or, r_ret, r_next, r_upd, r_getA, r_gA, r_getI, r_chkF, r_rB2, if_pos_true, if_neg_false, eq_self, String.reduceBEq, decide_false, Bool.false_eq_true, r_setIL, hk, h1, h2, q', h4, g1, e1, g2, optA, st1, x1, x2, x6, st2]
      · rw [show offer n at_ ca W s k = (W.1.set (at_ + sz1 s) (some (ca + k)), W.2.set (at_ + sz1 s) (some s)) by unfold offer; rw [if_neg q, ec]]
        exact oW
    | some o =>
      rw [ec] at g2
      by_cases qo : ca + k < o
      · obtain ⟨H', hH, oW, oO⟩ := out
        refine ⟨H', ?_, ?_, oO⟩
        · subst hH
          simp only [t_bind, t_s1, t_s2, t_n, t_u, v_0, v_1, w_0, w_1, w_2, w_3, a154_size, a154_costs, a154_steps, r_ite, r_bind, r_pure, r_const, r_seq, r_ev, r_st, r_iteS, r_putV, r_tru1, r_add, r_lt, r_gt, r_no2, r_or, r_ret, r_next, r_upd, r_getA, r_gA, r_getI, r_chkF, r_rB2, if_pos_true, if_neg_false, eq_self, String.reduceBEq, decide_true, decide_false, Bool.not_true, Bool.false_eq_true, r_setIL, hk, h1, h2, q', h4, g1, e1, g2, optA, st1, x1, x2, x6, st2, qo]
        · rw [show offer n at_ ca W s k = (W.1.set (at_ + sz1 s) (some (ca + k)), W.2.set (at_ + sz1 s) (some s)) by unfold offer; rw [if_neg q, ec]; dsimp only; rw [if_pos qo]]
          exact oW
      · refine ⟨H, ?_, ?_, Only.refl⟩
        · simp only [t_bind, t_s1, t_s2, t_n, v_0, v_1, w_0, w_1, w_2, w_3, a154_size, a154_costs, r_ite, r_bind, r_pure, r_const, r_seq, r_ev, r_st, r_iteS, r_putV, r_tru1, r_add, r_lt, r_gt, r_no2, r_or, r_ret, r_next, r_upd, r_getA, r_gA, r_getI, r_chkF, r_rB2, if_neg_false, eq_self, String.reduceBEq, decide_false, Bool.not_true, Bool.false_eq_true, r_setIL, hk, h1, h2, q', h4, g1, e1, g2, optA, qo]
        · rw [show offer n at_ ca W s k = W by unfold offer; rw [if_neg q, ec]; dsimp only; rw [if_neg qo]]
          exact ⟨h1, h2, h3, h4, h5, ⟨sl, h6, h7⟩, h8⟩
-- part S8
inductive Chn (ss : List (Option Stp)) : Nat → List Stp → Prop where
  | nil : Chn ss 0 []
  | step {k : Nat} {s : Stp} {r : List Stp} (h0 : 0 < k) (h1 : ss[k]? = some (some s)) (h2 : sz1 s ≤ k) (h3 : Chn ss (k - sz1 s) r) : Chn ss k (r ++ [s])
theorem Dec.one {H : AH} {i : Nat} {s : Stp} (h : H[i]? = some (tupA s)) : Dec H [.ref i] [s] := ⟨⟨i, rfl, h⟩, trivial⟩
theorem Dec.reverse {H : AH} : ∀ {xs : List AV} {ss : List Stp}, Dec H xs ss → Dec H xs.reverse ss.reverse
  | [], [], _ => trivial
  | a :: as, s :: ss, ⟨⟨i, h1, h2⟩, h⟩ => by
    rw [List.reverse_cons, List.reverse_cons, h1]
    exact h.reverse.append (Dec.one h2)
  | [], _ :: _, h => h.elim
  | _ :: _, [], h => h.elim
theorem s151 {H : AH} {w wd cs ss n : Nat} {W : Ws} {path : List Stp} (h : WaysAt H w wd cs ss n W) (hn : n ≤ 9) (hp : Chn W.2 n path) :
    Ev (p151 [.ref w] H) fun r => H <+: r.2 ∧ ∃ j xs, r.1 = .ref j ∧ r.2[j]? = some (.list xs) ∧ Dec r.2 xs path := by
  obtain ⟨h1, h2, h3, h4, h5, ⟨sl, h6, h7⟩, h8⟩ := h
  unfold wayF at h2
  rw [e151]
  unfold b151
  simp only [t_bind, t_s1, t_n, t_p, w_0, a154_size, r_bind, r_pure, r_seq, r_ev, r_st, r_putV, r_getA, r_gA, r_up0, r_up, r_swapU, r_swT, if_pos_true, eq_self, List.length_cons, List.length_nil, Nat.reduceAdd, Nat.reduceLeDiff, List.append_assoc, List.cons_append, List.nil_append, List.length_append, app_at, cons_at, cons_at0, r_newL, r_newT, app_get h1, app_get h2, List.reverse_cons, List.reverse_nil, List.map_cons, List.map_nil, Nat.zero_add]
  refine Ev.rB (Ev.bind ((while_rule (I := fun k l H' => ∃ acc pa rest, H' = H ++ [.list acc, .tup [.ref H.length, .int n]] ∧ Dec H acc pa ∧ Chn W.2 k rest ∧ path = rest ++ pa.reverse ∧ acc.length + k ≤ n ∧
      (∀ G, ldV (Str.ofString "at") l G = some (.int k, G)) ∧ (∀ G, ldV (Str.ofString "self") l G = some (.ref w, G)) ∧ (∀ G, ldV (Str.ofString "found") l G = some (.ref H.length, G)))
    (Q := fun f l H' => f = .next ∧ ∃ acc, H' = H ++ [.list acc, .tup [.ref H.length, .int n]] ∧ acc.length ≤ n ∧ Dec H acc path.reverse ∧ (∀ G, ldV (Str.ofString "found") l G = some (.ref H.length, G)))
    ?_ 64 n _ _ ?_ ?_).mono ?_))
  · rintro k l H' ⟨acc, pa, rest, rfl, da, dc, ep, la, lk, ls, lf⟩
    cases dc with
    | nil =>
      simp only [t_bind, r_bind, r_const, r_seq, r_ev, r_tru1, r_gt, if_neg_false, eq_self, decide_false, Bool.false_eq_true, true_and, lk, Ev_some, Int.natCast_zero, Int.lt_irrefl]
      refine ⟨acc, rfl, by omega, ?_, lf⟩
      rw [ep, List.nil_append, List.reverse_reverse]; exact da
    | step q1 q2 q3 q4 =>
      rename_i s r
      obtain ⟨i, x1, x2⟩ := h7.get q2
      have c0 : (0 : Int) < (k : Int) := by (exact Int.ofNat_lt.mpr (by assumption))
      have lsl := h7.len
      have g : ∀ G, gI (k : Int) G (some (.list sl)) = some (.ref i, G) := fun G => gI_at rfl (by lia) x1
      have c1 : acc.length < 1000000 := by lia
      have bs := sz1_pos s
      have e1 : (k : Int) - (sz1 s : Int) = ((k - sz1 s : Nat) : Int) := by (exact (Int.natCast_sub (by assumption)).symm)
      simp only [t_bind, t_s1, t_n, v_0, v_1, a154_steps, r_bind, r_pure, r_const, r_seq, r_ev, r_st, r_putV, r_tru1, r_sub, r_gt, r_next, r_exprK, r_getA, r_gA, r_getI, r_chkF, if_pos_true, eq_self, String.reduceBEq, decide_true, and_self, and_true, true_and, implies_true, app_at0, cons_at0, set_app0, List.set_cons_zero, r_app, r_isLst, q_app, q_isLst, lk, ls, lf, c0, app_get h1, app_get h2, app_get h6, g, c1, Ev_some, s68 (app_get x2 _), aft1, e1]
      refine ⟨k - sz1 s, by lia, acc ++ [.ref i], pa ++ [s], r, rfl, da.append (Dec.one x2), q4, ?_, ?_, fun _ => rfl⟩
      · rw [ep, List.reverse_append, List.append_assoc]; rfl
      · rw [List.length_append, List.length_cons, List.length_nil]; lia
  · exact Nat.lt_of_le_of_lt (by assumption) (by decide)
  · simp only [v_0, v_1, w_0, eq_self, String.reduceBEq, and_self, and_true, implies_true]
    exact ⟨[], [], path, rfl, trivial, hp, by simp, by simp⟩
  · rintro ⟨f, l, H'⟩ ⟨rfl, acc, rfl, la, da, lf⟩
    dsimp only at lf
    have c1 : acc.length ≤ 1000 := by (exact Nat.le_trans (Nat.le_trans (by assumption) (by assumption)) (by decide))
    simp only [t_bind, t_s2, r_bind, r_const, r_seq, r_kS1, r_ev, r_neg, r_ret, r_rB1, if_pos_true, List.length_cons, List.length_nil, Nat.reduceAdd, List.append_assoc, List.cons_append, List.nil_append, List.length_append, app_at0, cons_at0, r_rev, q_rev, lf, c1, Ev_some]
    refine ⟨List.prefix_append _ _, _, acc.reverse, rfl, ?_, ?_⟩
    · rw [app_at]; rfl
    · have := (da.reverse).mono (List.prefix_append H [.list acc, .tup [.ref H.length, .int n], .list acc.reverse])
      rw [List.reverse_reverse] at this
      exact this
-- part S9
theorem num_fold : ∀ (b : List UInt8) (a : Int) (k : Nat), 0 ≤ a → a < 256 ^ k → 0 ≤ b.foldl (fun n o => n * 256 + (o.toNat : Int)) a ∧ b.foldl (fun n o => n * 256 + (o.toNat : Int)) a < 256 ^ (k + b.length)
  | [], a, k, h1, h2 => ⟨h1, h2⟩
  | x :: b, a, k, h1, h2 => by
    have hx := x.toNat_lt
    have ih := num_fold b (a * 256 + (x.toNat : Int)) (k + 1) (by lia) (by rw [Int.pow_succ]; generalize (256 : Int) ^ k = P at h2 ⊢; lia)
    rw [show k + 1 + b.length = k + (x :: b).length by simp only [List.length_cons]; (exact Nat.add_right_comm _ _ _)] at ih
    exact ih
theorem num_bound (b : List UInt8) : 0 ≤ num b ∧ num b < 256 ^ b.length := by
  have := num_fold b 0 0 (by decide) (by decide)
  rw [Nat.zero_add] at this
  exact this
theorem num_small {b : List UInt8} (h : b.length ≤ 6) : 0 ≤ num b ∧ num b < 281474976710656 := by
  obtain ⟨h1, h2⟩ := num_bound b
  refine ⟨h1, ?_⟩
  generalize b.length = k at h h2
  have : k = 0 ∨ k = 1 ∨ k = 2 ∨ k = 3 ∨ k = 4 ∨ k = 5 ∨ k = 6 := by lia
  rcases this with rfl | rfl | rfl | rfl | rfl | rfl | rfl <;> simp at h2 <;> lia
theorem num_take {b : List UInt8} {k : Nat} {x : UInt8} (h : b[k]? = some x) : num (b.take (k + 1)) = num (b.take k) * 256 + (x.toNat : Int) := by
  rw [take_succ' h]
  unfold num
  rw [List.foldl_append]; rfl
theorem r_cut {lo hi : Option Int} {b : List UInt8} (l : Loc) (H : AH) (h : b.length ≤ 1000) : cutM lo hi (.bytes b) l H = some (.bytes (cutB b lo hi), H) := by
  show (if b.length ≤ 1000 then (M.pure (.bytes (cutB b lo hi)) : M AV) else M.fail) l H = _
  rw [if_pos h]; rfl
theorem r_intP {i : Int} (l : Loc) (H : AH) : intP (.int i) l H = some (some i, H) := rfl
theorem src_byt {b : List UInt8} {H : AH} : srcOf (.bytes b) H = some (.byt b) := rfl
structure RowAt (H : AH) (r rd la be : Nat) (t : List UInt8) (sz k : Nat) : Prop where
  i : H[r]? = some (.inst 254 rd)
  d : H[rd]? = some (rowF t sz la be)
  l : H[la]? = some (.idict (rowN t sz k).1)
  b : H[be]? = some (.list ((rowN t sz k).2.map AV.int))
theorem cut_mid {t : List UInt8} {p sz : Nat} (h : p + sz ≤ t.length) : cutB t (some (p : Int)) (some ((p : Int) + (sz : Int))) = (t.drop p).take sz := by
  unfold cutB
  have e1 : clipAt t.length (p : Int) = p := by unfold clipAt; split <;> lia
  have e2 : clipAt t.length ((p : Int) + (sz : Int)) = p + sz := by unfold clipAt; split <;> lia
  simp only [Option.elim_some, e1, e2]
  congr 1
  simp
theorem s237 {H : AH} {r rd la be sz k p : Nat} {t : List UInt8} (h : RowAt H r rd la be t sz k) (ht : t.length ≤ 9) (hs : sz ≤ 6) : p237 [.ref r, .int p] H = some (optA (kn t sz p), H) := by
  obtain ⟨h1, h2, h3, h4⟩ := h
  unfold rowF at h2
  unfold kn
  by_cases q : p + sz ≤ t.length
  · have q' : ¬ ((t.length : Int) < (p : Int) + (sz : Int)) := by lia
    rw [if_pos q]
    have key : Ev (p237 [.ref r, .int p] H) fun x => x = (.int (num ((t.drop p).take sz)), H) := by
      rw [e237]
      unfold b237
      simp only [t_bind, t_s1, t_s2, t_n, v_1, w_0, w_1, a254_octets, a254_size, r_ite, r_bind, r_pure, r_const, r_seq, r_ev, r_st, r_iteS, r_putV, r_tru1, r_add, r_gt, r_ret, r_next, r_getA, r_gA, r_for, r_kF, if_pos_true, if_neg_false, eq_self, String.reduceBEq, decide_false, Bool.false_eq_true, h1, h2, lenb_ok ht, q', r_intP, r_cut _ _ (show t.length ≤ 1000 by (exact Nat.le_trans (by assumption) (by decide))), cut_mid q, src_byt]
      have hbl : ((t.drop p).take sz).length ≤ 6 := by rw [List.length_take]; lia
      generalize (t.drop p).take sz = b at hbl
      refine Ev.rB (Ev.bind ((for_rule (items := b.map fun x => AV.int (x.toNat : Int)) (I := fun k l H' => H' = H ∧ (∀ G, ldV (Str.ofString "number") l G = some (.int (num (b.take k)), G)))
        (Q := fun f l H' => f = .next ∧ H' = H ∧ ∀ G, ldV (Str.ofString "number") l G = some (.int (num b), G)) ?_ ?_ ?_ 64 0 _ _ ?_ ?_ ?_).mono ?_))
      · rintro k l H' _
        exact byt_item k
      · rintro k l H' a ⟨rfl, ln⟩ ha
        rw [List.getElem?_map] at ha
        obtain ⟨x, hx, rfl⟩ := Option.map_eq_some_iff.mp ha
        have bd := num_small (b := b.take k) (by rw [List.length_take]; lia)
        have mm : ∀ G L, mulM (.int (num (b.take k))) (.int 256) L G = some (.int (num (b.take k) * 256), G) := fun G L => by rw [r_mul, if_pos (by lia)]
        simp only [t_bind, t_s1, t_n, v_0, v_1, r_bind, r_const, r_seq, r_ev, r_st, r_putV, r_add, r_next, eq_self, String.reduceBEq, true_and, ln, mm, Ev_some, aft1]
        exact fun _ => by rw [num_take hx]
      · rintro l H' ⟨rfl, ln⟩
        rw [List.length_map, List.take_length] at ln
        exact ⟨rfl, rfl, ln⟩
      · rw [List.length_map]; (exact Nat.lt_of_le_of_lt (by assumption) (by decide))
      · exact Nat.zero_le _
      · simp only [v_0, eq_self, true_and]
        exact fun _ => rfl
      · rintro ⟨f, l, H'⟩ ⟨rfl, rfl, ln⟩
        dsimp only at ln
        simp only [t_bind, t_s2, r_seq, r_kS1, r_ev, r_ret, r_rB1, eq_self, ln, Ev_some]
    obtain ⟨x, e, rfl⟩ := key
    exact e
  · have q' : (t.length : Int) < (p : Int) + (sz : Int) := by omega
    rw [if_neg q, e237]
    unfold b237
    simp only [t_bind, t_s2, w_0, w_1, a254_octets, a254_size, r_ite, r_bind, r_pure, r_const, r_seq, r_ev, r_iteS, r_tru1, r_add, r_gt, r_ret, r_next, r_getA, r_gA, r_rB1, if_pos_true, eq_self, String.reduceBEq, decide_true, h1, h2, lenb_ok ht, q', optA]
-- the row's tables
theorem look_put {m k x : Int} {es : List (Int × Int)} : lookI m (putI k x es) = if m = k then some x else lookI m es := by
  have app : ∀ es : List (Int × Int), lookI m (es ++ [(k, x)]) = (lookI m es).or (if m = k then some x else none) := by
    intro es
    induction es with
    | nil =>
      show (if k = m then some x else none) = _
      by_cases q : m = k
      · rw [if_pos q.symm, if_pos q]; rfl
      · rw [if_neg (Ne.symm q), if_neg q]; rfl
    | cons p r ih =>
      show (if p.1 = m then some p.2 else lookI m (r ++ [(k, x)])) = (if p.1 = m then some p.2 else lookI m r).or _
      split
      · rfl
      · exact ih
  have mp : ∀ es : List (Int × Int), lookI m (es.map fun p => if p.1 == k then (p.1, x) else p) = if m = k ∧ es.any (fun p => p.1 == k) = true then some x else lookI m es := by
    intro es
    induction es with
    | nil => simp [lookI]
    | cons p r ih =>
      rw [List.map_cons, List.any_cons]
      by_cases q : p.1 = k
      · have qb : (p.1 == k) = true := by simpa using q
        rw [qb, if_pos rfl]
        show (if p.1 = m then some x else lookI m _) = _
        by_cases z : m = k
        · rw [if_pos (q.trans z.symm), if_pos ⟨z, rfl⟩]
        · rw [if_neg (fun e => z (e.symm.trans q)), if_neg (fun e => z e.1), ih, if_neg (fun e => z e.1)]
          show _ = if p.1 = m then some p.2 else lookI m r
          rw [if_neg (fun e => z (e.symm.trans q))]
      · have qb : (p.1 == k) = false := by simpa using q
        rw [qb, Bool.false_or, if_neg (by decide)]
        show (if p.1 = m then some p.2 else lookI m _) = if _ then _ else if p.1 = m then some p.2 else lookI m r
        rw [ih]
        by_cases z : p.1 = m
        · have : ¬ (m = k ∧ r.any (fun p => p.1 == k) = true) := fun e => q (z.trans e.1)
          rw [if_pos z, if_neg this, if_pos z]
        · rw [if_neg z, if_neg z]
  unfold putI
  split
  · rename_i h
    rw [mp]
    simp only [h, and_true]
  · rename_i h
    rw [app]
    by_cases q : m = k
    · have nl : ∀ es : List (Int × Int), ¬ es.any (fun p => p.1 == k) = true → lookI k es = none := by
        intro es
        induction es with
        | nil => intro _; rfl
        | cons p r ih =>
          intro h
          rw [List.any_cons, Bool.or_eq_true] at h
          show (if p.1 = k then some p.2 else lookI k r) = none
          rw [if_neg (fun e => h (.inl (by simpa using e)))]
          exact ih fun e => h (.inr e)
      subst q
      rw [nl es h]; rfl
    · rw [if_neg q, if_neg q]; cases lookI m es <;> rfl
theorem put_len {k x : Int} {es : List (Int × Int)} : (putI k x es).length ≤ es.length + 1 := by
  unfold putI
  split
  · rw [List.length_map]; (exact Nat.le_add_right _ _)
  · rw [List.length_append]; simp
theorem prv_lt {t : List UInt8} {sz : Nat} {m : Int} : ∀ k, prv t sz m k < (k : Int) ∧ -1 ≤ prv t sz m k
  | 0 => ⟨by unfold prv; (exact Int.natCast_nonneg _), by unfold prv; (exact Int.natCast_nonneg _)⟩
  | k + 1 => by
    have ih := prv_lt (t := t) (sz := sz) (m := m) k
    unfold prv
    split <;> lia
theorem row_len {t : List UInt8} {sz : Nat} : ∀ k, (rowN t sz k).2.length = t.length ∧ (rowN t sz k).1.length ≤ k
  | 0 => ⟨List.length_replicate, Nat.le_refl _⟩
  | k + 1 => by
    have ih := row_len (t := t) (sz := sz) k
    show (rowPut t sz k (rowN t sz k)).2.length = _ ∧ (rowPut t sz k (rowN t sz k)).1.length ≤ _
    unfold rowPut
    split
    · exact ⟨ih.1, by lia⟩
    · refine ⟨by dsimp only; rw [List.length_set]; exact ih.1, ?_⟩
      have := @put_len
      exact Nat.le_trans put_len (by lia)
theorem row_look {t : List UInt8} {sz : Nat} {m : Int} : ∀ k, (lookI m (rowN t sz k).1).getD (-1) = prv t sz m k
  | 0 => rfl
  | k + 1 => by
    have ih := row_look (t := t) (sz := sz) (m := m) k
    show (lookI m (rowPut t sz k (rowN t sz k)).1).getD (-1) = if kn t sz k = some m then (k : Int) else prv t sz m k
    unfold rowPut
    cases e : kn t sz k with
    | none => rw [if_neg (by simp)]; exact ih
    | some m' =>
      dsimp only
      rw [look_put]
      by_cases q : m = m'
      · rw [if_pos q, if_pos (by rw [q])]; rfl
      · rw [if_neg q, if_neg (fun e => q (Option.some.inj e).symm)]; exact ih
theorem row_bef {t : List UInt8} {sz : Nat} : ∀ k p m, p < k → k ≤ t.length → kn t sz p = some m → (rowN t sz k).2[p]? = some (prv t sz m p)
  | k + 1, p, m, hp, hk, e => by
    have ih := row_bef (t := t) (sz := sz) k p m
    show (rowPut t sz k (rowN t sz k)).2[p]? = _
    unfold rowPut
    by_cases q : p = k
    · subst q
      rw [e]
      dsimp only
      rw [row_look, List.getElem?_set_self (by rw [(row_len p).1]; assumption)]
    · have ih := ih (by lia) (by (exact Nat.le_of_lt (by assumption))) e
      split
      · exact ih
      · dsimp only
        rw [List.getElem?_set_ne (by lia)]
        exact ih
theorem prv_kn {t : List UInt8} {sz : Nat} {m : Int} : ∀ k q : Nat, prv t sz m k = (q : Int) → kn t sz q = some m
  | 0, q, h => by unfold prv at h; (contradiction)
  | k + 1, q, h => by
    unfold prv at h
    split at h
    · rename_i e
      have : k = q := by lia
      rw [← this]; exact e
    · exact prv_kn k q h
-- part S10
noncomputable def stD (k x : Int) (j : Nat) (H : AH) (o : Option AObj) : Option (Unit × AH) := match o with
  | some (.idict es) => if es.length < 1000 then some ((), H.set j (.idict (putI k x es))) else none
  | _ => none
noncomputable def gtD (k d : Int) (H : AH) (o : Option AObj) : Option (AV × AH) := match o with
  | some (.idict es) => some (.int ((lookI k es).getD d), H)
  | _ => none
noncomputable def idM (H : AH) (o : Option AObj) : Option (Unit × AH) := match o with
  | some (.idict _) => some ((), H)
  | _ => none
noncomputable def kW (T : M Bool) (B : SM) (n : Nat) (l : Loc) (r : Bool × AH) : Option (Fl × Loc × AH) := if r.1 = true then (B l r.2).bind fun r => match r.1 with
      | .next => whileM T B n r.2.1 r.2.2
      | .cont => whileM T B n r.2.1 r.2.2
      | .brk => some (.next, r.2.1, r.2.2)
      | .ret v => some (.ret v, r.2.1, r.2.2) else some (.next, l, r.2)
section
variable (l : Loc) (H : AH)
theorem r_setD {j : Nat} {k x : Int} : setItD (.ref j) (.int k) (.int x) l H = stD k x j H H[j]? := by
  unfold setItD stD
  dsimp only
  all_goals cases H[j]? with
  | none => rfl
  | some o => cases o <;> rfl
theorem r_getB {j : Nat} {k d : Int} : getB [.ref j, .int k, .int d] l H = gtD k d H H[j]? := by
  unfold getB gtD
  dsimp only
  all_goals cases H[j]? with
  | none => rfl
  | some o => cases o <;> rfl
theorem r_isD {j : Nat} : isDctM (.ref j) l H = idM H H[j]? := by
  unfold isDctM idM
  dsimp only
  all_goals cases H[j]? with
  | none => rfl
  | some o => cases o <;> rfl
theorem q_setD {j : Nat} {k x : Int} {es : List (Int × Int)} : stD k x j H (some (.idict es)) = if es.length < 1000 then some ((), H.set j (.idict (putI k x es))) else none := rfl
theorem q_getB {k d : Int} {es : List (Int × Int)} : gtD k d H (some (.idict es)) = some (.int ((lookI k es).getD d), H) := rfl
theorem q_isD {es : List (Int × Int)} : idM H (some (.idict es)) = some ((), H) := rfl
theorem r_while {T : M Bool} {B : SM} : whileM T B 64 l H = (T l H).bind (kW T B 63 l) := by
  show (T l H).bind _ = _
  congr
  funext r
  show (if r.1 = true then _ else nextS : SM) l r.2 = _
  rw [r_ite]; rfl
theorem t_w {T : M Bool} {B : SM} {n : Nat} : (some (false, H)).bind (kW T B n l) = some (.next, l, H) := rfl
end
theorem s244 {H : AH} {r rd la be sz p : Nat} {t : List UInt8} (h : RowAt H r rd la be t sz p) (ht : t.length ≤ 9) (hs : sz ≤ 6) (hp : p < t.length) :
    ∃ H', p244 [.ref r, .int p] H = some (.none, H') ∧ RowAt H' r rd la be t sz (p + 1) ∧ Only [la, be] H H' := by
  have hk := s237 (p := p) h ht hs
  have rl := row_len (t := t) (sz := sz) p
  obtain ⟨h1, h2, h3, h4⟩ := h
  have h2 := h2
  unfold rowF at h2
  rw [e244]
  unfold b244
  cases e : kn t sz p with
  | none =>
    rw [e] at hk
    refine ⟨H, ?_, ?_, Only.refl⟩
    · simp only [t_bind, t_s1, t_n, v_0, v_1, w_0, w_1, a254_last, k254_key, r_ite, r_bind, r_pure, r_const, r_seq, r_ev, r_st, r_iteS, r_putV, r_tru1, r_no1, r_next, r_getA, r_gA, r_chkI, r_hA, r_chkF, r_rB2, if_neg_false, eq_self, String.reduceBEq, Bool.false_eq_true, h1, h2, hk, optA]
    · have er : rowN t sz (p + 1) = rowN t sz p := by
        show rowPut t sz p (rowN t sz p) = _
        unfold rowPut; rw [e]
      exact ⟨h1, h2, by rw [er]; exact h3, by rw [er]; exact h4⟩
  | some m =>
    rw [e] at hk
    have er : rowN t sz (p + 1) = (putI m p (rowN t sz p).1, (rowN t sz p).2.set p ((lookI m (rowN t sz p).1).getD (-1))) := by
      show rowPut t sz p (rowN t sz p) = _
      unfold rowPut; rw [e]
    generalize hR : rowN t sz p = R at h3 h4 rl er
    have st1 : ∀ G v, siL (p : Int) v be G (some (.list (R.2.map AV.int))) = _ := fun G v => siL_ok (n := p) G rfl (by rw [List.length_map]; lia) (by rw [List.length_map]; lia)
    have c1 : R.1.length < 1000 := by lia
    have x1 : ∀ o, (H.set be (.list o))[r]? = some (.inst 254 rd) := fun o => (set_ne (ne_of_at h4 h1 (by simp))).trans h1
    have x2 : ∀ o, (H.set be (.list o))[rd]? = some _ := fun o => (set_ne (ne_of_at h4 h2 (by simp))).trans h2
    have x3 : ∀ o, (H.set be (.list o))[la]? = some _ := fun o => (set_ne (ne_of_at h4 h3 (by simp))).trans h3
    refine ⟨(H.set be (.list ((R.2.map AV.int).set p (.int ((lookI m R.1).getD (-1)))))).set la (.idict (putI m p R.1)), ?_, ⟨?_, ?_, ?_, ?_⟩, (Only.set (by simp)).trans (Only.set (by simp))⟩
    · simp only [t_bind, t_s1, t_n, t_u, v_0, v_1, w_0, w_1, a254_last, a254_before, k254_key, r_ite, r_bind, r_pure, r_const, r_seq, r_ev, r_st, r_iteS, r_putV, r_tru1, r_no2, r_next, r_upd, r_getA, r_gA, r_chkI, r_hA, r_chkF, r_rB2, if_pos_true, eq_self, String.reduceBEq, Bool.not_false, r_setIL, r_setD, r_getB, r_isD, q_setD, q_getB, q_isD, h1, h2, h3, h4, hk, optA, st1, c1, x1, x2, x3]
    · exact (set_ne (ne_of_at h3 h1 (by simp))).trans (x1 _)
    · exact (set_ne (ne_of_at h3 h2 (by simp))).trans (x2 _)
    · rw [set_self (x3 _), er]
    · rw [set_ne (ne_of_at h3 h4 (by simp)), set_self h4, er, ← List.map_set]
noncomputable def newestF (t : List UInt8) (sz p : Nat) : Int := match kn t sz p with
  | none => -1
  | some m => prv t sz m p
theorem s251 {H : AH} {r rd la be sz p : Nat} {t : List UInt8} (h : RowAt H r rd la be t sz p) (ht : t.length ≤ 9) (hs : sz ≤ 6) : p251 [.ref r, .int p] H = some (.int (newestF t sz p), H) := by
  have hk := s237 (p := p) h ht hs
  obtain ⟨h1, h2, h3, h4⟩ := h
  unfold rowF at h2
  rw [e251]
  unfold b251 newestF
  cases e : kn t sz p with
  | none =>
    rw [e] at hk
    simp only [t_bind, t_s1, t_s2, t_n, v_0, w_0, w_1, k254_key, r_ite, r_bind, r_pure, r_const, r_seq, r_ev, r_st, r_iteS, r_putV, r_tru1, r_no1, r_ret, r_next, r_chkI, r_hA, r_chkF, r_rB1, if_pos_true, eq_self, String.reduceBEq, h1, h2, hk, optA]
  | some m =>
    rw [e] at hk
    have lk := row_look (t := t) (sz := sz) (m := m) p
    have lt := (prv_lt (t := t) (sz := sz) (m := m) p).1
    have c1 : ¬ ((p : Int) ≤ prv t sz m p) := by lia
    simp only [t_bind, t_s1, t_s2, t_n, v_0, v_1, w_0, w_1, a254_last, k254_key, r_ite, r_bind, r_pure, r_const, r_seq, r_ev, r_st, r_iteS, r_putV, r_tru1, r_ge, r_no2, r_ret, r_next, r_getA, r_gA, r_chkI, r_hA, r_chkF, r_rB1, if_neg_false, eq_self, String.reduceBEq, decide_false, Bool.not_true, Bool.false_eq_true, r_getB, r_isD, q_getB, q_isD, t_w, h1, h2, h3, hk, optA, lk, r_while, c1]
-- the finder
structure FinAt (H : AH) (f fd r rd la be : Nat) (t : List UInt8) (sz wi ch k : Nat) : Prop where
  i : H[f]? = some (.inst 388 fd)
  d : H[fd]? = some (finF t sz wi ch k r)
  row : RowAt H r rd la be t sz k
theorem RowAt.only {S : List Nat} {H H' : AH} {r rd la be : Nat} {t : List UInt8} {sz k : Nat} (h : RowAt H r rd la be t sz k) (o : Only S H H') (h1 : r ∉ S) (h2 : rd ∉ S) (h3 : la ∉ S) (h4 : be ∉ S) : RowAt H' r rd la be t sz k :=
  ⟨(o.2 _ h1).trans h.i, (o.2 _ h2).trans h.d, (o.2 _ h3).trans h.l, (o.2 _ h4).trans h.b⟩
theorem s279 {H : AH} {f fd r rd la be sz wi ch p : Nat} {t : List UInt8} (h : FinAt H f fd r rd la be t sz wi ch p) (ht : t.length ≤ 9) (hs : sz ≤ 6) (hp : p < t.length) :
    ∃ H', p279 [.ref f, .int p] H = some (.none, H') ∧ FinAt H' f fd r rd la be t sz wi ch (p + 1) ∧ Only [fd, la, be] H H' := by
  obtain ⟨h1, h2, hr⟩ := h
  have h2' := h2
  unfold finF at h2
  have n1 : fd ≠ r := ne_of_at h2 hr.i (by simp)
  have n2 : fd ≠ rd := ne_of_at h2 hr.d (by unfold rowF; simp)
  have n3 : fd ≠ la := ne_of_at h2 hr.l (by simp)
  have n4 : fd ≠ be := ne_of_at h2 hr.b (by simp)
  have n5 : fd ≠ f := ne_of_at h2 h1 (by simp)
  have o1 : Only [fd] H (H.set fd (finF t sz wi ch (p + 1) r)) := Only.set (by simp)
  have hr2 := hr.only o1 (by simpa using n1.symm) (by simpa using n2.symm) (by simpa using n3.symm) (by simpa using n4.symm)
  obtain ⟨H', e1, hr3, o2⟩ := s244 hr2 ht hs hp
  have c1 : ¬ ((p : Int) < (p : Int)) := by (simp)
  have c2 : ¬ ((t.length : Int) ≤ (p : Int)) := by lia
  have x1 : (H.set fd (finF t sz wi ch (p + 1) r))[f]? = _ := (set_ne n5).trans h1
  have x2 : (H.set fd (finF t sz wi ch (p + 1) r))[fd]? = _ := set_self h2
  have ri := hr2.i
  have rdd := hr2.d
  have o3 : Only [fd, la, be] H H' := (o1.more (by simp)).trans (o2.more (by simp))
  refine ⟨H', ?_, ⟨?_, ?_, hr3⟩, o3⟩
  · rw [e279]
    unfold b279
    unfold finF at x1 x2 e1 ri rdd
    unfold rowF at rdd
    rw [show ((p + 1 : Nat) : Int) = (p : Int) + 1 by (exact Int.natCast_add _ _)] at x1 x2 e1 ri rdd
    simp only [t_bind, t_s1, t_n, t_u, w_0, w_1, r_ite, r_bind, r_pure, r_const, r_seq, r_ev, r_st, r_iteS, r_tru1, r_add, r_lt, r_ge, r_or, r_next, r_exprK, r_upd, r_getA, r_gA, r_setA, r_sA, r_chkI, r_hA, r_chkF, r_rB2, if_pos_true, ok_all, ofS_inj, if_neg_false, eq_self, String.reduceEq, String.reduceBEq, decide_false, Bool.false_eq_true, List.length_cons, List.length_nil, Nat.reduceAdd, Nat.reduceLT, and_self, Option.isNone_none, r_gB, r_look0, r_look, r_pf0, r_pf, r_pl1, r_pl2, r_pl3, r_sB, r_hB, h1, h2, lenb_ok ht, c1, c2, x1, x2, e371, b371, ri, rdd, e1]
  · rw [o2.2 f]
    · exact x1
    · simp only [List.mem_cons, List.not_mem_nil, or_false]
      rintro (e | e)
      · exact ne_of_at h1 hr.l (by simp) e
      · exact ne_of_at h1 hr.b (by simp) e
  · rw [o2.2 fd]
    · exact x2
    · simp only [List.mem_cons, List.not_mem_nil, or_false]
      rintro (e | e)
      · exact n3 e
      · exact n4 e
-- part S11
theorem RowAt.mono {H H' : AH} (q : H <+: H') {r rd la be : Nat} {t : List UInt8} {sz k : Nat} (h : RowAt H r rd la be t sz k) : RowAt H' r rd la be t sz k :=
  ⟨pre_get q h.i, pre_get q h.d, pre_get q h.l, pre_get q h.b⟩
theorem FinAt.mono {H H' : AH} (q : H <+: H') {f fd r rd la be : Nat} {t : List UInt8} {sz wi ch k : Nat} (h : FinAt H f fd r rd la be t sz wi ch k) : FinAt H' f fd r rd la be t sz wi ch k :=
  ⟨pre_get q h.i, pre_get q h.d, h.row.mono q⟩
theorem alk_succ {t : List UInt8} {p o r k : Nat} : alk t p o (r + 1) k = if oc t (p + k) = oc t (o + k) then alk t p o r (k + 1) else k := rfl
theorem r_bytes1 {b : List UInt8} (l : Loc) (H : AH) : bytesB [.bytes b] l H = some (.bytes b, H) := rfl
section
variable {H : AH} {f fd r rd la be sz wi ch p : Nat} {t : List UInt8}
theorem newFinder {l : Loc} (ht : t.length ≤ 9) (h1 : 1 ≤ sz) (h2 : 1 ≤ wi) (h3 : 1 ≤ ch) : newI 388 p364 [.bytes t, .int sz, .int wi, .int ch] l H = some (.ref (H.length + 1),
    H ++ [finF t sz wi ch 0 (H.length + 3), .inst 388 H.length, rowF t sz (H.length + 4) (H.length + 6), .inst 254 (H.length + 2), .idict [], .list [.int (-1)], .list (repL [.int (-1)] t.length)]) := by
  have c1 : ¬ ((sz : Int) < 1) := by lia
  have c2 : ¬ ((wi : Int) < 1) := by lia
  have c3 : ¬ ((ch : Int) < 1) := by lia
  have c4 : (0 : Int) ≤ (t.length : Int) := by (exact Int.natCast_nonneg _)
  have c5 : (t.length : Int) ≤ 1000 := by (exact Int.ofNat_le.mpr (Nat.le_trans (by assumption) (by decide)))
  unfold finF rowF
  rw [r_newI, e364]
  unfold b364
  simp only [t_bind, t_s1, t_n, t_u, w_0, w_1, w_2, w_3, w_4, r_ite, r_bind, r_pure, r_const, r_seq, r_ev, r_st, r_iteS, r_tru1, r_lt, r_next, r_exprK, r_upd, r_getA, r_gA, r_setA, r_sA, r_newO, r_chkF, r_nI, r_rB2, if_pos_true, ok_all, ofS_inj, if_neg_false, eq_self, String.reduceEq, String.reduceBEq, decide_false, Bool.false_eq_true, List.length_cons, List.length_nil, Nat.reduceAdd, Nat.reduceLeDiff, Nat.reduceLT, and_self, Nat.add_assoc, List.append_assoc, List.cons_append, List.nil_append, List.length_append, app_at, app_at0, cons_at, cons_at0, set_app, set_app0, List.set_cons_zero, List.set_cons_succ, r_rep, q_rep, r_gB, r_look0, r_look, r_pf0, r_pf, r_pl3, r_sB, r_newI, e272, b272, e230, b230, c1, c2, c3, c4, c5, r_newL, r_bytes1, lenb_ok ht, Nat.zero_add, Int.toNat_natCast, Int.natCast_zero]
theorem s300 {k mo : Nat} (h : FinAt H f fd r rd la be t sz wi ch k) (ht : t.length ≤ 9) (hp : p ≤ t.length) : p300 [.ref f, .int p, .int mo] H = some (.int ((min mo (t.length - p) : Nat) : Int), H) := by
  obtain ⟨h1, h2, _⟩ := h
  unfold finF at h2
  rw [e300]
  unfold b300
  have e : (if (t.length : Int) - (p : Int) < (mo : Int) then (t.length : Int) - (p : Int) else (mo : Int)) = ((min mo (t.length - p) : Nat) : Int) := by split <;> lia
  simp only [t_bind, t_s2, w_0, w_1, w_2, a388_octets, r_bind, r_pure, r_seq, r_ev, r_sub, r_ret, r_getA, r_gA, r_rB1, r_min2, eq_self, String.reduceBEq, h1, h2, lenb_ok ht, e]
theorem near_no {k : Nat} {o : Int} (h : FinAt H f fd r rd la be t sz wi ch k) (ho : o = -1 ∨ (wi : Int) < (p : Int) - o) : p321 [.ref f, .int p, .int o] H = some (.bool false, H) := by
  obtain ⟨h1, h2, _⟩ := h
  unfold finF at h2
  rw [e321]
  unfold b321
  by_cases q : o = -1
  · simp only [t_bind, t_s2, w_0, w_1, w_2, r_ite, r_bind, r_pure, r_const, r_seq, r_ev, r_tru1, r_sub, r_ne, r_ret, r_getA, r_rB1, if_neg_false, eq_self, String.reduceBEq, decide_true, Bool.not_true, Bool.false_eq_true, q]
  · have q2 : ¬ ((p : Int) - o ≤ (wi : Int)) := by lia
    simp only [t_bind, t_s2, w_0, w_1, w_2, a388_window, r_ite, r_bind, r_pure, r_const, r_seq, r_ev, r_tru1, r_sub, r_le, r_ne, r_ret, r_getA, r_gA, r_rB1, if_pos_true, eq_self, String.reduceBEq, decide_false, Bool.not_false, h1, h2, q, q2]
theorem near_yes {k : Nat} {o : Int} (h : FinAt H f fd r rd la be t sz wi ch k) (ho : o ≠ -1) (h3 : (p : Int) - o ≤ (wi : Int)) : p321 [.ref f, .int p, .int o] H = some (.bool true, H) := by
  obtain ⟨h1, h2, _⟩ := h
  unfold finF at h2
  rw [e321]
  unfold b321
  simp only [t_bind, t_s2, w_0, w_1, w_2, a388_window, r_ite, r_bind, r_pure, r_const, r_seq, r_ev, r_tru1, r_sub, r_le, r_ne, r_ret, r_getA, r_gA, r_rB1, if_pos_true, eq_self, String.reduceBEq, decide_true, decide_false, Bool.not_false, h1, h2, ho, h3]
theorem s314 {k o lim : Nat} (h : FinAt H f fd r rd la be t sz wi ch k) (ht : t.length ≤ 9) (hp : p + lim ≤ t.length) (ho : o ≤ p) : p314 [.ref f, .int p, .int o, .int 0, .int lim] H = some (.int (alk t p o lim 0 : Nat), H) := by
  obtain ⟨h1, h2, _⟩ := h
  unfold finF at h2
  have key : Ev (p314 [.ref f, .int p, .int o, .int 0, .int lim] H) fun x => x = (.int (alk t p o lim 0 : Nat), H) := by
    rw [e314]
    unfold b314
    simp only [t_bind, t_s1, t_n, w_0, a388_octets, r_bind, r_seq, r_ev, r_st, r_putV, r_getA, r_gA, h1, h2]
    refine Ev.rB (Ev.bind ((while_rule (I := fun j l H' => H' = H ∧ ∃ k, k + j = lim ∧ alk t p o lim 0 = alk t p o j k ∧ (∀ G, ldV (Str.ofString "known") l G = some (.int k, G)) ∧ (∀ G, ldV (Str.ofString "octets") l G = some (.bytes t, G)) ∧
        (∀ G, ldV (Str.ofString "limit") l G = some (.int lim, G)) ∧ (∀ G, ldV (Str.ofString "place") l G = some (.int p, G)) ∧ (∀ G, ldV (Str.ofString "other") l G = some (.int o, G)))
      (Q := fun f l H' => f = .next ∧ H' = H ∧ ∀ G, ldV (Str.ofString "known") l G = some (.int (alk t p o lim 0 : Nat), G)) ?_ 64 lim _ _ ?_ ?_).mono ?_))
    · rintro j l H' ⟨rfl, k, hk, hal, lk, lo, ll, lp, lt⟩
      cases j with
      | zero =>
        have c1 : ¬ ((k : Int) < (lim : Int)) := by ((subst_vars; simp))
        simp only [t_bind, t_s1, t_n, r_ite, r_bind, r_pure, r_const, r_seq, r_ev, r_st, r_putV, r_tru1, r_add, r_lt, r_and, r_next, if_neg_false, eq_self, decide_false, Bool.false_eq_true, true_and, lk, ll, c1, Ev_some]
        rw [hal]; exact fun _ => rfl
      | succ j =>
        have c1 : (k : Int) < (lim : Int) := by lia
        have g1 := fun L G => getI_oc (t := t) (k := (p : Int) + (k : Int)) (n := p + k) (by (exact Int.natCast_add _ _)) (by lia) ht L G
        have g2 := fun L G => getI_oc (t := t) (k := (o : Int) + (k : Int)) (n := o + k) (by (exact Int.natCast_add _ _)) (by lia) ht L G
        rw [alk_succ] at hal
        by_cases q : oc t (p + k) = oc t (o + k)
        · rw [if_pos q] at hal
          simp only [t_bind, t_s1, t_n, v_0, v_1, r_ite, r_bind, r_pure, r_const, r_seq, r_ev, r_st, r_putV, r_tru1, r_add, r_lt, r_eq, r_and, r_next, if_pos_true, eq_self, String.reduceBEq, decide_true, and_self, and_true, true_and, implies_true, lk, lo, ll, lp, lt, c1, g1, g2, q, Ev_some, aft1]
          exact ⟨j, by (exact Nat.lt_succ_self _), k + 1, by lia, hal, fun _ => rfl⟩
        · rw [if_neg q] at hal
          have q' : ¬ ((oc t (p + k) : Int) = (oc t (o + k) : Int)) := by (exact mt Int.ofNat_inj.mp (by assumption))
          simp only [t_bind, t_s1, t_n, r_ite, r_bind, r_pure, r_const, r_seq, r_ev, r_st, r_putV, r_tru1, r_add, r_lt, r_eq, r_and, r_next, if_pos_true, if_neg_false, eq_self, decide_true, decide_false, Bool.false_eq_true, true_and, lk, lo, ll, lp, lt, c1, g1, g2, q', Ev_some]
          rw [hal]; exact fun _ => rfl
    · lia
    · simp only [v_0, v_1, w_1, w_2, w_3, w_4, eq_self, String.reduceBEq, and_self, and_true, true_and, implies_true]
      exact ⟨0, by (exact Nat.add_comm _ _), rfl, fun _ => rfl⟩
    · rintro ⟨f, l, H'⟩ ⟨rfl, rfl, lk⟩
      dsimp only at lk
      simp only [t_bind, t_s2, r_seq, r_kS1, r_ev, r_ret, r_rB1, eq_self, lk, Ev_some]
  obtain ⟨x, e, rfl⟩ := key
  exact e
end
-- part S12
section
variable {H : AH} {f fd r rd la be sz wi ch p : Nat} {t : List UInt8}
theorem cnd_succ {m o : Int} {c : Nat} : cnd t sz wi p m (c + 1) o = if o = -1 ∨ (wi : Int) < p - o then [] else o.toNat :: cnd t sz wi p m c (prv t sz m o.toNat) := rfl
theorem cnd_stop {m o : Int} (h : o = -1 ∨ (wi : Int) < p - o) : ∀ c, cnd t sz wi p m c o = []
  | 0 => rfl
  | c + 1 => by rw [cnd_succ, if_pos h]
theorem cands_eq : cands t sz wi ch p = cnd t sz wi p ((kn t sz p).getD 0) ch (newestF t sz p) := by
  unfold cands newestF
  cases kn t sz p with
  | none => rw [cnd_stop (.inl rfl)]
  | some m => rfl
theorem cnd_len {m : Int} : ∀ (c : Nat) (o : Int), (cnd t sz wi p m c o).length ≤ c
  | 0, _ => Nat.le_refl _
  | c + 1, o => by
    rw [cnd_succ]
    split
    · exact Nat.zero_le _
    · rw [List.length_cons]
      have := cnd_len (m := m) c (prv t sz m o.toNat)
      lia
theorem cnd_lt {m : Int} : ∀ (c : Nat) (o : Int), o < (p : Int) → -1 ≤ o → ∀ x ∈ cnd t sz wi p m c o, x < p
  | 0, _, _, _, _, hx => by cases hx
  | c + 1, o, ho, h1, x, hx => by
    rw [cnd_succ] at hx
    split at hx
    · cases hx
    · rename_i q
      rcases List.mem_cons.mp hx with rfl | hx
      · lia
      · have := prv_lt (t := t) (sz := sz) (m := m) o.toNat
        exact cnd_lt c _ (by lia) this.2 x hx
theorem newest_lt : newestF t sz p < (p : Int) ∧ -1 ≤ newestF t sz p := by
  unfold newestF
  split
  · lia
  · exact prv_lt p
theorem cands_lt : ∀ x ∈ cands t sz wi ch p, x < p := by
  rw [cands_eq]
  exact cnd_lt _ _ newest_lt.1 newest_lt.2
theorem s378 (h : FinAt H f fd r rd la be t sz wi ch p) (ht : t.length ≤ 9) (hs : sz ≤ 6) (hc : ch ≤ 20) (hp : p ≤ t.length) : p378 [.ref f, .int p] H = some (.ref H.length, H ++ [.list ((cands t sz wi ch p).map fun o : Nat => AV.int (o : Int))]) := by
  have key : Ev (p378 [.ref f, .int p] H) fun x => x = (.ref H.length, H ++ [.list ((cands t sz wi ch p).map fun o : Nat => AV.int (o : Int))]) := by
    have hr := h.row
    have h1 := h.i
    have h2 := h.d
    have r1 := hr.i
    have r2 := hr.d
    have r4 := hr.b
    unfold finF at h2
    unfold rowF at r2
    rw [e378]
    unfold b378
    have nw := s251 (hr.mono (List.prefix_append H [.list []])) ht hs
    simp only [t_bind, t_s1, t_n, v_1, w_0, w_1, a388_row, k254_newest, r_bind, r_pure, r_seq, r_ev, r_st, r_putV, r_getA, r_gA, r_chkI, r_hA, r_chkF, if_pos_true, String.reduceBEq, List.length_nil, Nat.reduceLeDiff, r_newL, app_get h1, app_get h2, app_get r1, app_get r2, nw]
    rw [cands_eq]
    generalize hm : (kn t sz p).getD 0 = m
    refine Ev.rB (Ev.bind ((while_rule (I := fun c l H' => ∃ acc : List Nat, ∃ o : Int, H' = H ++ [.list (acc.map fun o : Nat => AV.int (o : Int))] ∧ acc.length + c = ch ∧ acc ++ cnd t sz wi p m c o = cnd t sz wi p m ch (newestF t sz p) ∧
        (o = -1 ∨ (0 ≤ o ∧ o < p ∧ kn t sz o.toNat = some m)) ∧
        (∀ G, ldV (Str.ofString "other") l G = some (.int o, G)) ∧ (∀ G, ldV (Str.ofString "self") l G = some (.ref f, G)) ∧ (∀ G, ldV (Str.ofString "place") l G = some (.int p, G)) ∧ (∀ G, ldV (Str.ofString "found") l G = some (.ref H.length, G)))
      (Q := fun f l H' => f = .next ∧ H' = H ++ [.list ((cnd t sz wi p m ch (newestF t sz p)).map fun o : Nat => AV.int (o : Int))] ∧ (∀ G, ldV (Str.ofString "found") l G = some (.ref H.length, G))) ?_ 64 ch _ _ ?_ ?_).mono ?_))
    · rintro c l H' ⟨acc, o, rfl, hl, hacc, ho, lo, ls, lp, lf⟩
      have hF := h.mono (List.prefix_append H [.list (acc.map fun o : Nat => AV.int (o : Int))])
      have lnn : ∀ G, lnL G (some (.list (acc.map fun o : Nat => AV.int (o : Int)))) = some (.int acc.length, G) := fun G => by
        rw [lnL_ok G (by rw [List.length_map]; lia), List.length_map]
      by_cases q : o = -1 ∨ (wi : Int) < p - o
      · have nn := near_no (p := p) hF q
        rw [cnd_stop q, List.append_nil] at hacc
        simp only [t_bind, k388_is_near, r_ite, r_bind, r_pure, r_seq, r_ev, r_tru1, r_and, r_chkI, r_hA, r_chkF, if_neg_false, eq_self, Bool.false_eq_true, and_true, true_and, implies_true, lo, ls, lp, lf, app_get h1, app_get h2, nn, Ev_some]
        rw [hacc]
      · have q1 : o ≠ -1 := fun e => q (.inl e)
        have ny := near_yes (p := p) hF q1 (by lia)
        cases c with
        | zero =>
          have c1 : ¬ ((acc.length : Int) < (ch : Int)) := by lia
          rw [show cnd t sz wi p m 0 o = [] from rfl, List.append_nil] at hacc
          simp only [t_bind, a388_chain, k388_is_near, r_ite, r_bind, r_pure, r_seq, r_ev, r_tru1, r_lt, r_and, r_getA, r_gA, r_chkI, r_hA, r_chkF, if_pos_true, if_neg_false, eq_self, decide_false, Bool.false_eq_true, and_true, true_and, implies_true, app_at0, cons_at0, set_app0, List.set_cons_zero, r_app, r_isLst, r_lenl, q_app, q_isLst, lo, ls, lp, lf, app_get h1, app_get h2, ny, lnn, c1, Ev_some]
          rw [hacc]
        | succ c =>
          have c1 : (acc.length : Int) < (ch : Int) := by lia
          have c2 : (acc.map fun o : Nat => AV.int (o : Int)).length < 1000000 := by rw [List.length_map]; lia
          obtain ⟨o0, o1, o2⟩ := ho.resolve_left q1
          rw [cnd_succ, if_neg q] at hacc
          have bf := row_bef (t := t) (sz := sz) p o.toNat m (by lia) hp o2
          have g : ∀ G, gI o G (some (.list ((rowN t sz p).2.map AV.int))) = some (.int (prv t sz m o.toNat), G) := fun G => gI_at (n := o.toNat) (by lia) (by lia) (by rw [List.getElem?_map, bf]; rfl)
          simp only [t_bind, t_s1, t_n, v_0, v_1, a254_before, a388_chain, a388_row, k388_is_near, r_ite, r_bind, r_pure, r_seq, r_ev, r_st, r_putV, r_tru1, r_lt, r_and, r_next, r_exprK, r_getA, r_gA, r_chkI, r_hA, r_getI, r_chkF, if_pos_true, eq_self, String.reduceBEq, decide_true, and_self, and_true, true_and, implies_true, app_at0, cons_at0, set_app0, List.set_cons_zero, r_app, r_isLst, r_lenl, q_app, q_isLst, lo, ls, lp, lf, app_get h1, app_get h2, app_get r1, app_get r2, app_get r4, ny, lnn, c1, c2, g, Ev_some, aft1]
          refine ⟨c, by lia, acc ++ [o.toNat], prv t sz m o.toNat, ?_, ?_, ?_, ?_, fun _ => rfl⟩
          · rw [List.map_append, List.map_cons, List.map_nil, Int.toNat_of_nonneg o0]
          · rw [List.length_append, List.length_cons, List.length_nil]; lia
          · rw [List.append_assoc]; exact hacc
          · have b1 := prv_lt (t := t) (sz := sz) (m := m) o.toNat
            by_cases z : prv t sz m o.toNat = -1
            · exact .inl z
            · refine .inr ⟨by lia, by lia, prv_kn (k := o.toNat) _ ?_⟩
              lia
    · lia
    · simp only [v_0, v_1, w_0, w_1, eq_self, String.reduceBEq, and_self, and_true, implies_true]
      refine ⟨[], newestF t sz p, rfl, by simp, rfl, ?_, fun _ => rfl⟩
      have b1 := newest_lt (t := t) (sz := sz) (p := p)
      by_cases z : newestF t sz p = -1
      · exact .inl z
      · refine .inr ⟨by lia, b1.1, ?_⟩
        unfold newestF at z ⊢ 
        cases e : kn t sz p with
        | none => rw [e] at z; exact absurd rfl z
        | some m' =>
          rw [e] at hm z
          have hm : m' = m := hm
          subst hm
          have b2 := prv_lt (t := t) (sz := sz) (m := m') p
          dsimp only at z ⊢
          exact prv_kn (k := p) _ (by lia)
    · rintro ⟨f, l, H'⟩ ⟨rfl, rfl, lf⟩
      dsimp only at lf
      simp only [t_bind, t_s2, r_seq, r_kS1, r_ev, r_ret, r_rB1, eq_self, lf, Ev_some]
  obtain ⟨x, e, rfl⟩ := key
  exact e
end
-- part S13
section
variable {H : AH} {f fd r rd la be sz wi ch p : Nat} {t : List UInt8}
theorem ev_cons {lim o lg : Nat} {os : List Nat} : evF t p lim (o :: os) lg = if lim ≤ lg then [] else if oc t (o + lg) = oc t (p + lg) ∧ lg < alk t p o lim 0 then (alk t p o lim 0, p - o) :: evF t p lim os (alk t p o lim 0) else evF t p lim os lg := rfl
theorem chkFin {k : Nat} {x : Str} {l : Loc} (h : FinAt H f fd r rd la be t sz wi ch k) (hx : x = Str.ofString "limit" ∨ x = Str.ofString "candidates" ∨ x = Str.ofString "alike") : chkI 388 x (.ref f) l H = some ((), H) := by
  have h1 := h.i
  have h2 := h.d
  unfold finF at h2
  rcases hx with rfl | rfl | rfl <;> simp only [k388_limit, k388_alike, k388_candidates, r_chkI, r_hA, eq_self, h1, h2]
theorem s385 {mo : Nat} (h : FinAt H f fd r rd la be t sz wi ch p) (ht : t.length ≤ 9) (hs : sz ≤ 6) (h1z : 1 ≤ sz) (hc : ch ≤ 20) (hp : p ≤ t.length) :
    Ev (p385 [.ref f, .int p, .int mo] H) fun x => H <+: x.2 ∧ ∃ j xs, x.1 = .ref j ∧ x.2[j]? = some (.list xs) ∧ Dec x.2 xs (everyL t sz wi ch mo p) := by
  have h1 := h.i
  have h2 := h.d
  unfold finF at h2
  rw [e385]
  unfold b385 everyL
  have lm := s300 (mo := mo) (p := p) (h.mono (List.prefix_append H [.list []])) ht hp
  have ck := s378 (h.mono (List.prefix_append H [.list [], .tup [.ref H.length, .int ((min mo (t.length - p) : Nat) : Int)]])) ht hs hc hp
  have hlt := cands_lt (t := t) (sz := sz) (wi := wi) (ch := ch) (p := p)
  have hln : (cands t sz wi ch p).length ≤ 20 := by
    rw [cands_eq]
    exact Nat.le_trans (cnd_len _ _) hc
  generalize hlim : min mo (t.length - p) = lim at lm ck
  have hlim2 : p + lim ≤ t.length := by lia
  generalize cands t sz wi ch p = cs at ck hlt hln
  simp only [List.length_append, List.length_cons, List.length_nil, List.append_assoc, List.cons_append, List.nil_append, Nat.zero_add] at ck
  have c1 : (sz : Int) - 1 = ((sz - 1 : Nat) : Int) := by (exact (Int.natCast_sub (by assumption)).symm)
  have sl : srcOf (.ref (H.length + 2)) (H ++ [.list [], .tup [.ref H.length, .int (lim : Int)], .list (cs.map fun o : Nat => AV.int (o : Int))]) = some (.lst (H.length + 2)) := src_lst (by rw [app_at]; rfl)
  simp only [t_bind, t_s1, t_n, t_p, v_1, w_0, w_1, w_2, a388_least, r_bind, r_pure, r_const, r_seq, r_ev, r_st, r_putV, r_sub, r_getA, r_gA, r_chkF, r_for, r_kF, r_up0, r_up, r_swapU, r_swT, if_pos_true, eq_self, String.reduceBEq, List.length_cons, List.length_nil, Nat.reduceAdd, Nat.reduceLeDiff, List.append_assoc, List.cons_append, List.nil_append, List.length_append, app_at, cons_at, cons_at0, r_newL, r_newT, app_get h1, app_get h2, chkFin (h.mono (List.prefix_append H _)) (.inl rfl), chkFin (h.mono (List.prefix_append H _)) (.inr (.inl rfl)), lm, ck, Nat.zero_add, c1,
    List.reverse_cons, List.reverse_nil, List.map_cons, List.map_nil, sl]
  generalize hR : evF t p lim cs (sz - 1) = R
  refine Ev.rB (Ev.bind ((for_rule (items := cs.map fun o : Nat => AV.int (o : Int)) (I := fun k l H' => ∃ acc pa G, ∃ lg : Nat, H' = H ++ (.list acc :: .tup [.ref H.length, .int (lim : Int)] :: .list (cs.map fun o : Nat => AV.int (o : Int)) :: G) ∧
      Dec H' acc pa ∧ acc.length ≤ k ∧ pa ++ evF t p lim (cs.drop k) lg = R ∧ 
      (∀ G, ldV (Str.ofString "longest") l G = some (.int lg, G)) ∧ (∀ G, ldV (Str.ofString "limit") l G = some (.int lim, G)) ∧ (∀ G, ldV (Str.ofString "self") l G = some (.ref f, G)) ∧ (∀ G, ldV (Str.ofString "place") l G = some (.int p, G)) ∧ (∀ G, ldV (Str.ofString "found") l G = some (.ref H.length, G)))
    (Q := fun f l H' => f = .next ∧ ∃ acc, H <+: H' ∧ H'[H.length]? = some (.list acc) ∧ Dec H' acc R ∧ (∀ G, ldV (Str.ofString "found") l G = some (.ref H.length, G))) ?_ ?_ ?_ 64 0 _ _ ?_ ?_ ?_).mono ?_))
  · rintro k l H' ⟨acc, pa, G, lg, rfl, _⟩
    exact lst_item (by rw [app_at]; rfl) k
  · rintro k l H' a ⟨acc, pa, G, lg, rfl, da, la, hpa, ll, lm, ls, lp, lf⟩ ha
    rw [List.getElem?_map] at ha
    obtain ⟨o, ho, rfl⟩ := Option.map_eq_some_iff.mp ha
    have olt := hlt o (List.mem_of_getElem? ho)
    have hF := h.mono (List.prefix_append H (.list acc :: .tup [.ref H.length, .int (lim : Int)] :: .list (cs.map fun o : Nat => AV.int (o : Int)) :: G))
    rw [drop_cons' ho, ev_cons] at hpa
    have klt := (List.getElem?_eq_some_iff.mp ho).1
    by_cases q : lim ≤ lg
    · have q' : (lim : Int) ≤ (lg : Int) := by (exact Int.ofNat_le.mpr (by assumption))
      rw [if_pos q, List.append_nil] at hpa
      subst hpa
      simp only [t_bind, t_s3, v_1, r_ite, r_bind, r_seq, r_iteS, r_putV, r_tru1, r_ge, r_next, r_brk, if_pos_true, eq_self, String.reduceBEq, decide_true, true_and, app_at0, cons_at0, ll, lm, q', Ev_some, aft3]
      exact ⟨acc, List.prefix_append _ _, rfl, da, lf⟩
    · have q' : ¬ ((lim : Int) ≤ (lg : Int)) := by (exact mt Int.ofNat_le.mp (by assumption))
      rw [if_neg q] at hpa
      have g1 := fun L G => getI_oc (t := t) (k := (o : Int) + (lg : Int)) (n := o + lg) (by (exact Int.natCast_add _ _)) (by lia) ht L G
      have g2 := fun L G => getI_oc (t := t) (k := (p : Int) + (lg : Int)) (n := p + lg) (by (exact Int.natCast_add _ _)) (by lia) ht L G
      by_cases z : oc t (o + lg) = oc t (p + lg)
      · have al := s314 (p := p) (o := o) (lim := lim) hF ht hlim2 (by (exact Nat.le_of_lt (by assumption)))
        have ca := chkFin (l := updL l (Str.ofString "other") (.int (o : Int))) hF (.inr (.inr rfl))
        by_cases y : lg < alk t p o lim 0
        · have y' : (lg : Int) < ((alk t p o lim 0 : Nat) : Int) := by (exact Int.ofNat_lt.mpr (by assumption))
          rw [if_pos ⟨z, y⟩] at hpa
          have c3 : acc.length < 1000000 := by lia
          simp only [t_bind, t_s1, t_s3, t_n, v_0, v_1, a388_octets, r_ite, r_bind, r_pure, r_const, r_seq, r_ev, r_st, r_iteS, r_putV, r_tru1, r_add, r_sub, r_gt, r_ge, r_eq, r_next, r_brk, r_exprK, r_getA, r_gA, r_chkF, if_pos_true, if_neg_false, eq_self, String.reduceBEq, decide_true, decide_false, Bool.false_eq_true, List.length_cons, List.length_nil, Nat.reduceAdd, Nat.reduceLeDiff, and_self, and_true, implies_true, Nat.add_assoc, List.append_assoc, List.cons_append, List.length_append, app_at0, cons_at0, set_app0, List.set_cons_zero, r_app, r_isLst, q_app, q_isLst, r_newT, ll, lm, ls, lp, lf, q', app_get h1, app_get h2, g1, g2, z, al, ca, y', c3, Ev_some, aft1]
          have e1 : (p : Int) - (o : Int) = ((p - o : Nat) : Int) := by lia
          rw [e1]
          refine ⟨acc ++ [.ref (H.length + (G.length + 3))], pa ++ [(alk t p o lim 0, p - o)], G ++ [tupA (alk t p o lim 0, p - o)], alk t p o lim 0, ?_, ?_, ?_, ?_, fun _ => rfl⟩
          · simp only [tupA]
          · refine (da.keep fun i s hi => ?_).append (Dec.one ?_)
            · by_cases ei : i = H.length
              · subst ei
                rw [app_at0] at hi
                cases hi
              · have e0 : (H ++ (AObj.list (acc ++ [.ref (H.length + (G.length + 3))]) :: AObj.tup [.ref H.length, .int (lim : Int)] :: AObj.list (cs.map fun o : Nat => AV.int (o : Int)) :: (G ++ [tupA (alk t p o lim 0, p - o)])) : AH) =
                    ((H ++ (AObj.list acc :: AObj.tup [.ref H.length, .int (lim : Int)] :: AObj.list (cs.map fun o : Nat => AV.int (o : Int)) :: G)).set H.length (AObj.list (acc ++ [.ref (H.length + (G.length + 3))]))) ++ [tupA (alk t p o lim 0, p - o)] := by
                  rw [set_app0, List.append_assoc]; rfl
                refine (congrArg (fun (L : AH) => L[i]?) e0).trans (app_get ?_ _)
                rw [set_ne (Ne.symm ei)]; exact hi
            · rw [app_at, cons_at, cons_at, cons_at]
              exact List.getElem?_concat_length
          · rw [List.length_append, List.length_cons, List.length_nil]; lia
          · rw [List.append_assoc]; exact hpa
        · have y' : ¬ ((lg : Int) < ((alk t p o lim 0 : Nat) : Int)) := by (exact mt Int.ofNat_lt.mp (by assumption))
          rw [if_neg (fun e => y e.2)] at hpa
          simp only [t_bind, t_s1, t_s3, t_n, v_0, v_1, a388_octets, r_ite, r_bind, r_pure, r_const, r_seq, r_ev, r_st, r_iteS, r_putV, r_tru1, r_add, r_sub, r_gt, r_ge, r_eq, r_next, r_brk, r_getA, r_gA, r_chkF, if_pos_true, if_neg_false, eq_self, String.reduceBEq, decide_true, decide_false, Bool.false_eq_true, List.length_cons, List.length_nil, Nat.reduceAdd, Nat.reduceLeDiff, and_self, and_true, implies_true, Nat.add_assoc, List.append_assoc, List.cons_append, List.length_append, app_at0, cons_at0, set_app0, List.set_cons_zero, r_app, r_isLst, q_app, q_isLst, r_newT, ll, lm, ls, lp, lf, q', app_get h1, app_get h2, g1, g2, z, al, ca, y', Ev_some, aft1]
          exact ⟨acc, pa, G, lg, rfl, da, by (exact Nat.le_succ_of_le (by assumption)), hpa, fun _ => rfl⟩
      · have z' : ¬ ((oc t (o + lg) : Int) = (oc t (p + lg) : Int)) := by (exact mt Int.ofNat_inj.mp (by assumption))
        rw [if_neg (fun e => z e.1)] at hpa
        simp only [t_bind, t_s1, t_s3, v_0, v_1, a388_octets, k388_alike, r_ite, r_bind, r_pure, r_const, r_seq, r_ev, r_iteS, r_putV, r_tru1, r_add, r_ge, r_eq, r_next, r_brk, r_getA, r_gA, r_chkI, r_hA, r_chkF, if_neg_false, eq_self, String.reduceBEq, decide_false, Bool.false_eq_true, and_self, and_true, implies_true, ll, lm, ls, lp, lf, q', app_get h1, app_get h2, g1, g2, z', Ev_some, aft1]
        exact ⟨acc, pa, G, lg, rfl, da, by (exact Nat.le_succ_of_le (by assumption)), hpa, fun _ => rfl⟩
  · rintro l H' ⟨acc, pa, G, lg, rfl, da, la, hpa, ll, lm, ls, lp, lf⟩
    rw [List.length_map, List.drop_length] at hpa
    have hpa : pa ++ [] = R := hpa
    rw [List.append_nil] at hpa
    subst hpa
    exact ⟨rfl, acc, List.prefix_append _ _, by rw [app_at0]; rfl, da, lf⟩
  · rw [List.length_map]; (exact Nat.lt_of_le_of_lt (by assumption) (by decide))
  · exact Nat.zero_le _
  · simp only [v_0, v_1, w_0, w_1, eq_self, String.reduceBEq, and_self, and_true, implies_true]
    exact ⟨[], [], [], sz - 1, rfl, trivial, Nat.le_refl _, hR, fun _ => rfl⟩
  · rintro ⟨f, l, H'⟩ ⟨rfl, acc, pre, ha, da, lf⟩
    dsimp only at lf
    simp only [t_bind, t_s2, r_seq, r_kS1, r_ev, r_ret, r_rB1, lf, Ev_some]
    exact ⟨pre, _, acc, rfl, ha, da⟩
end
-- part S14
noncomputable def cM (H : AH) (o : Option AObj) : Option (AV × AH) := match o with
  | some (.cell (some a)) => some (a, H)
  | _ => none
noncomputable def cL (H : AH) (i : Option Nat) : Option (AV × AH) := match i with
  | some i => cM H H[i]?
  | none => none
noncomputable def compLoc (fr : List Str) (l : Loc) : Loc := ⟨fun _ => none, fun y => if y ∈ fr then l.c y else none⟩
section
variable (l : Loc) (H : AH)
theorem ldC_eq {x : Str} : ldC x l H = cL H (l.c x) := by
  unfold ldC cL
  cases l.c x with
  | none => rfl
  | some i =>
    show (match H[i]? with | some (.cell (some a)) => some (a, H) | _ => none) = cM H H[i]?
    unfold cM
    rfl
theorem r_ldcC {x : Str} {bs : List (Str × AV)} {cn : List Str} {k : Nat} : ldC x (locOfC bs cn k) H = cL H (ixOf cn k x) := ldC_eq _ _
theorem q_cL {i : Nat} : cL H (some i) = cM H H[i]? := rfl
theorem q_cM {a : AV} : cM H (some (.cell (some a))) = some (a, H) := rfl
theorem r_ix0 {k : Nat} {x : Str} : ixOf [] k x = none := rfl
theorem r_ix {k : Nat} {x y : Str} {r : List Str} : ixOf (y :: r) k x = if x = y then some k else ixOf r (k + 1) x := rfl
theorem r_ldlC {x y : Str} {a : AV} {bs : List (Str × AV)} {cn : List Str} {k : Nat} : ldV x (locOfC ((y, a) :: bs) cn k) H = if x = y then (if x ∈ cn then none else some (a, H)) else ldV x (locOfC bs cn k) H := by
  show ((if x ∈ cn then none else ((y, a) :: bs).lookup x).map fun a => (a, H)) = if x = y then _ else ((if x ∈ cn then none else bs.lookup x).map fun a => (a, H))
  rw [List.lookup_cons]
  by_cases q : x = y
  · rw [if_pos q, show (x == y) = true by simpa using q]
    split <;> rfl
  · rw [if_neg q, show (x == y) = false by simpa using q]
theorem r_ldcL {x : Str} {fr : List Str} : ldC x (compLoc fr l) H = if x ∈ fr then ldC x l H else none := by
  rw [ldC_eq, ldC_eq]
  show cL H (if x ∈ fr then l.c x else none) = _
  split <;> rfl
theorem q_kC {src : Src} {x : Str} {fr : List Str} {T : M Bool} {E : M AV} : kC (some src) x fr T E l H = (compM src x T E H.length 64 0 (compLoc fr l) (H ++ [.list []])).map fun H' => (.ref H.length, H') := rfl
end
/-- a heap that has grown, changed at some places -/
noncomputable def Grow (S : List Nat) (H H' : AH) : Prop := H.length ≤ H'.length ∧ ∀ i, i < H.length → i ∉ S → H'[i]? = H[i]?
theorem Only.grow {S : List Nat} {H H' : AH} (h : Only S H H') : Grow S H H' := ⟨by rw [h.1]; exact Nat.le_refl _, fun i _ hi => h.2 i hi⟩
theorem grow_pre {S : List Nat} {H H' : AH} (h : H <+: H') : Grow S H H' := ⟨h.length_le, fun i hi _ => by
  rw [List.getElem?_eq_getElem hi]
  exact pre_get h (List.getElem?_eq_getElem hi)⟩
theorem Grow.trans {S : List Nat} {H H' H'' : AH} (a : Grow S H H') (b : Grow S H' H'') : Grow S H H'' :=
  ⟨Nat.le_trans a.1 b.1, fun i hi hs => (b.2 i (Nat.lt_of_lt_of_le hi a.1) hs).trans (a.2 i hi hs)⟩
theorem Grow.more {S T : List Nat} {H H' : AH} (a : Grow S H H') (h : ∀ i ∈ S, i ∈ T) : Grow T H H' := ⟨a.1, fun i hi hs => a.2 i hi fun q => hs (h i q)⟩
theorem Grow.refl {S : List Nat} {H : AH} : Grow S H H := ⟨Nat.le_refl _, fun _ _ _ => rfl⟩
theorem Grow.get {S : List Nat} {H H' : AH} (a : Grow S H H') {i : Nat} {o : AObj} (h : H[i]? = some o) (hs : i ∉ S) : H'[i]? = some o :=
  (a.2 i (List.getElem?_eq_some_iff.mp h).1 hs).trans h
structure TraAt (H : AH) (tr td f sz k : Nat) : Prop where
  i : H[tr]? = some (.inst 119 td)
  d : H[td]? = some (traF f sz k)
theorem TraAt.grow {S : List Nat} {H H' : AH} {tr td f sz k : Nat} (h : TraAt H tr td f sz k) (g : Grow S H H') (h1 : tr ∉ S) (h2 : td ∉ S) : TraAt H' tr td f sz k := ⟨g.get h.i h1, g.get h.d h2⟩
theorem RowAt.grow {S : List Nat} {H H' : AH} {r rd la be : Nat} {t : List UInt8} {sz k : Nat} (h : RowAt H r rd la be t sz k) (o : Grow S H H') (h1 : r ∉ S) (h2 : rd ∉ S) (h3 : la ∉ S) (h4 : be ∉ S) : RowAt H' r rd la be t sz k :=
  ⟨o.get h.i h1, o.get h.d h2, o.get h.l h3, o.get h.b h4⟩
theorem FinAt.grow {S : List Nat} {H H' : AH} {f fd r rd la be : Nat} {t : List UInt8} {sz wi ch k : Nat} (h : FinAt H f fd r rd la be t sz wi ch k) (o : Grow S H H')
    (h1 : f ∉ S) (h2 : fd ∉ S) (h3 : r ∉ S) (h4 : rd ∉ S) (h5 : la ∉ S) (h6 : be ∉ S) : FinAt H' f fd r rd la be t sz wi ch k :=
  ⟨o.get h.i h1, o.get h.d h2, h.row.grow o h3 h4 h5 h6⟩
theorem WaysAt.grow {S : List Nat} {H H' : AH} {w wd cs ss n : Nat} {W : Ws} (h : WaysAt H w wd cs ss n W) (o : Grow S H H') (h1 : w ∉ S) (h2 : wd ∉ S) (h3 : cs ∉ S) (h4 : ss ∉ S) (h5 : ∀ (i : Nat) (s : Stp), H[i]? = some (tupA s) → i ∉ S) :
    WaysAt H' w wd cs ss n W := by
  obtain ⟨i, d, ne, c, l1, ⟨sl, s, ds⟩, l2⟩ := h
  exact ⟨o.get i h1, o.get d h2, ne, o.get c h3, l1, ⟨sl, o.get s h4, ds.keep fun i s hi => o.get hi (h5 i s hi)⟩, l2⟩
theorem PriAt.grow {S : List Nat} {H H' : AH} {p : Nat} {P : Pr} (h : PriAt H p P) (o : Grow S H H') (h1 : p ∉ S) (h2 : ∀ d, H[d]? = some (priF P) → d ∉ S) : PriAt H' p P := by
  obtain ⟨d, a, b⟩ := h
  exact ⟨d, o.get a h1, o.get b (h2 d b)⟩
theorem newTrail {H : AH} {f fd r rd la be sz wi ch k : Nat} {t : List UInt8} {l : Loc} (h : FinAt H f fd r rd la be t sz wi ch k) (hs : 2 ≤ sz) :
    newI 119 p97 [.ref f] l H = some (.ref (H.length + 1), H ++ [traF f sz 0, .inst 119 H.length]) := by
  have h1 := h.i
  have h2 := h.d
  unfold finF at h2
  have c1 : ¬ ((2 : Int) > (sz : Int)) := by lia
  unfold traF
  rw [r_newI, e97]
  unfold b97
  simp only [t_bind, t_s1, t_n, t_u, w_0, w_1, r_bind, r_pure, r_const, r_seq, r_ev, r_st, r_next, r_upd, r_getA, r_gA, r_setA, r_sA, r_nI, r_rB2, r_max2, if_pos_true, ok_all, ofS_inj, if_neg_false, eq_self, String.reduceEq, String.reduceBEq, List.length_cons, List.length_nil, Nat.reduceAdd, Nat.reduceLT, and_self, app_at, app_at0, cons_at, cons_at0, set_app0, List.set_cons_zero, r_gB, r_look0, r_look, r_pf0, r_pf, r_pl1, r_sB, app_get h1, app_get h2, c1, Int.natCast_zero]
theorem s104 {H : AH} {f fd r rd la be sz wi ch k tr td p : Nat} {t : List UInt8} (h : FinAt H f fd r rd la be t sz wi ch k) (hT : TraAt H tr td f sz k) (ht : t.length ≤ 9) (hs : sz ≤ 6) (hk : k ≤ p) (hp : p ≤ t.length) :
    Ev (p104 [.ref tr, .int p] H) fun x => x.1 = .none ∧ Only [td, fd, la, be] H x.2 ∧ FinAt x.2 f fd r rd la be t sz wi ch p ∧ TraAt x.2 tr td f sz p := by
  rw [e104]
  unfold b104
  refine Ev.rB (Ev.bind ((while_rule (I := fun j l H' => ∃ k, k + j = p ∧ FinAt H' f fd r rd la be t sz wi ch k ∧ TraAt H' tr td f sz k ∧ Only [td, fd, la, be] H H' ∧
      (∀ G, ldV (Str.ofString "self") l G = some (.ref tr, G)) ∧ (∀ G, ldV (Str.ofString "place") l G = some (.int p, G)))
    (Q := fun fl l H' => fl = .next ∧ FinAt H' f fd r rd la be t sz wi ch p ∧ TraAt H' tr td f sz p ∧ Only [td, fd, la, be] H H') ?_ 64 (p - k) _ _ ?_ ?_).mono ?_))
  · rintro j l H' ⟨k, hkj, hF, hT, hO, ls, lp⟩
    have t1 := hT.i
    have t2 := hT.d
    unfold traF at t2
    cases j with
    | zero =>
      have hkp : k = p := by omega
      subst hkp
      simp only [t_bind, a119_finder, a119_known, r_bind, r_seq, r_ev, r_tru1, r_lt, r_getA, r_gA, r_chkI, if_neg_false, eq_self, decide_false, Bool.false_eq_true, true_and, ls, lp, t1, t2, Int.lt_irrefl, Ev_some]
      exact ⟨hF, hT, hO⟩
    | succ j =>
      have c1 : (k : Int) < (p : Int) := by lia
      obtain ⟨H2, e1, hF2, o2⟩ := s279 hF ht hs (by lia)
      have f1 := hF.i
      have f2 := hF.d
      unfold finF at f2
      have n1 : td ∉ [fd, la, be] := by
        simp only [List.mem_cons, List.not_mem_nil, or_false]
        rintro (e | e | e)
        · exact ne_of_at t2 f2 (by simp [ofS_inj]) e
        · exact ne_of_at t2 hF.row.l (by simp) e
        · exact ne_of_at t2 hF.row.b (by simp) e
      have n2 : tr ∉ [fd, la, be] := by
        simp only [List.mem_cons, List.not_mem_nil, or_false]
        rintro (e | e | e)
        · exact ne_of_at t1 f2 (by simp) e
        · exact ne_of_at t1 hF.row.l (by simp) e
        · exact ne_of_at t1 hF.row.b (by simp) e
      have y1 := (o2.2 tr n2).trans t1
      have y2 := (o2.2 td n1).trans t2
      have hF3 := hF2
      obtain ⟨z1, z2, zr⟩ := hF2
      have z2' := z2
      unfold finF at z2'
      simp only [t_bind, t_s1, t_n, t_u, r_bind, r_pure, r_const, r_seq, r_ev, r_st, r_tru1, r_add, r_lt, r_next, r_exprK, r_upd, r_getA, r_gA, r_setA, r_sA, r_chkI, r_hA, r_chkF, if_pos_true, ok_all, ofS_inj, if_neg_false, eq_self, String.reduceEq, decide_true, List.length_cons, List.length_nil, Nat.reduceAdd, Nat.reduceLT, and_self, and_true, true_and, implies_true, Option.isNone_none, r_gB, r_look0, r_look, r_pf0, r_pf, r_pl1, r_pl2, r_sB, r_hB, ls, lp, t1, t2, c1, f1, f2, e1, y1, y2, Ev_some, aft1]
      have o3 : Only [td] H2 (H2.set td (traF f sz (k + 1))) := Only.set (by simp)
      refine ⟨j, by (exact Nat.lt_succ_self _), k + 1, by lia, hF3.grow o3.grow ?_ ?_ ?_ ?_ ?_ ?_, ⟨?_, ?_⟩, hO.trans ((o2.more (by simp)).trans (o3.more (by simp)))⟩
      · simpa using ne_of_at z1 y2 (by simp)
      · simpa using ne_of_at z2' y2 (by simp [ofS_inj])
      · simpa using ne_of_at zr.i y2 (by simp)
      · simpa using ne_of_at zr.d y2 (by simp [rowF, ofS_inj])
      · simpa using ne_of_at zr.l y2 (by simp)
      · simpa using ne_of_at zr.b y2 (by simp)
      · rw [set_ne (ne_of_at y2 y1 (by simp))]; exact y1
      · rw [set_self y2]
        rfl
  · lia
  · exact ⟨k, by (exact Nat.add_sub_cancel' (by assumption)), h, hT, Only.refl, fun _ => by simp only [w_0, eq_self], fun _ => by simp only [w_1, eq_self, String.reduceBEq]⟩
  · rintro ⟨fl, l, H'⟩ ⟨rfl, hF, hT, hO⟩
    simp only [r_next, r_rB2, eq_self, true_and, Ev_some]
    exact ⟨hO, hF, hT⟩
-- part S15
theorem lt_of_at {H : AH} {i : Nat} {o : AObj} (h : H[i]? = some o) : i < H.length := (List.getElem?_eq_some_iff.mp h).1
theorem s116 {H : AH} {f fd r rd la be sz wi ch k tr td p mo : Nat} {t : List UInt8} (h : FinAt H f fd r rd la be t sz wi ch k) (hT : TraAt H tr td f sz k) (ht : t.length ≤ 9) (hs1 : 1 ≤ sz) (hs : sz ≤ 6) (hc : ch ≤ 20) (hk : k ≤ p) (hp : p ≤ t.length)
    (hlen : (everyL t sz wi ch mo p).length ≤ 20) :
    Ev (p116 [.ref tr, .int p, .int mo] H) fun x => Grow [td, fd, la, be] H x.2 ∧ FinAt x.2 f fd r rd la be t sz wi ch p ∧ TraAt x.2 tr td f sz p ∧
      ∃ j xs, x.1 = .ref j ∧ H.length ≤ j ∧ x.2[j]? = some (.list xs) ∧ Dec x.2 xs (matchL t sz wi ch mo p) := by
  have pre0 : H <+: H ++ [.cell (some (.ref tr))] := List.prefix_append _ _
  have t1 := hT.i
  have t2 := hT.d
  unfold traF at t2
  obtain ⟨⟨v, H2⟩, e1, hv, o1, hF2, hT2⟩ := s104 (H := H ++ [.cell (some (.ref tr))]) (h.mono pre0) ⟨app_get hT.i _, app_get hT.d _⟩ ht hs hk hp
  dsimp only at hv o1 hF2 hT2
  subst hv
  have cl : H2[H.length]? = some (.cell (some (.ref tr))) := by
    rw [o1.2 H.length]
    · rw [app_at0]; rfl
    · have := lt_of_at hT.d
      have := lt_of_at h.d
      have := lt_of_at h.row.l
      have := lt_of_at h.row.b
      simp only [List.mem_cons, List.not_mem_nil, or_false]
      lia
  obtain ⟨⟨v, H3⟩, e2, pre2, j, xs, hv, hj, hd⟩ := s385 (mo := mo) hF2 ht hs hs1 hc hp
  dsimp only at pre2 hv hj hd
  subst hv
  have u1 := hT2.i
  have u2 := hT2.d
  have f1 := hF2.i
  have f2 := hF2.d
  unfold traF at u2
  unfold finF at f2
  have gr : Grow [td, fd, la, be] H H3 := ((grow_pre pre0).trans o1.grow).trans (grow_pre pre2)
  rw [e116]
  unfold b116
  simp only [t_bind, t_s1, a119_finder, k388_every, k119_up_to, r_bind, r_pure, r_seq, r_ev, r_exprK, r_getA, r_gA, r_chkI, r_hA, r_chkF, if_pos_true, ofS_inj, if_neg_false, eq_self, String.reduceEq, app_at0, cons_at0, r_ldcC, q_cL, q_cM, r_ix0, r_ix, r_ldlC, r_comp, q_kC, List.mem_cons, List.not_mem_nil, or_false, app_get t1, app_get t2, e1, cl, u1, u2, f1, f2, e2, src_lst hj]
  have cl3 := pre_get pre2 cl
  have u13 := pre_get pre2 u1
  have u23 := pre_get pre2 u2
  refine Ev.rB (Ev.bind (Ev.bind (Ev.map ((comp_rule (items := xs) (I := fun k l H' => ∃ acc, H' = H3 ++ [.list acc] ∧ acc.length ≤ k ∧ Dec H3 acc (((everyL t sz wi ch mo p).take k).filter fun m => decide (sz ≤ m.1)) ∧ (∀ G, ldC (Str.ofString "self") l G = cM G G[H.length]?))
    ?_ ?_ 64 0 _ _ ?_ ?_ ?_).mono ?_))))
  · rintro k l H' ⟨acc, rfl, _⟩
    exact lst_item (app_get hj _) k
  · rintro k l H' a ⟨acc, rfl, la, da, lc⟩ ha
    obtain ⟨s, i, hs1, rfl, hi⟩ := hd.get ha
    have klt := (List.getElem?_eq_some_iff.mp ha).1
    have hdl := hd.len
    have tk := take_succ' hs1
    have hi' := hi
    obtain ⟨a, b⟩ := s
    unfold tupA at hi'
    by_cases q : sz ≤ a
    · have q' : (sz : Int) ≤ (a : Int) := by (exact Int.ofNat_le.mpr (by assumption))
      have c1 : acc.length < 1000000 := by lia
      simp only [t_bind, v_0, a119_shortest, r_bind, r_const, r_ldc, r_tru1, r_ge, r_getA, r_gA, r_getI, if_pos_true, eq_self, decide_true, and_true, implies_true, app_at0, cons_at0, set_app0, List.set_cons_zero, q_cM, r_app, q_app, gI_t0, lc, app_get hi', app_get cl3, app_get u13, app_get u23, q', c1, Ev_some]
      refine ⟨acc ++ [.ref i], rfl, ?_, ?_⟩
      · rw [List.length_append, List.length_cons, List.length_nil]; lia
      · rw [tk, List.filter_append, List.filter_cons, if_pos (by simpa using q), List.filter_nil]
        exact da.append (Dec.one hi)
    · have q' : ¬ (sz : Int) ≤ (a : Int) := by (exact mt Int.ofNat_le.mp (by assumption))
      simp only [t_bind, v_0, a119_shortest, r_bind, r_const, r_ldc, r_tru1, r_ge, r_getA, r_gA, r_getI, if_neg_false, eq_self, decide_false, Bool.false_eq_true, and_true, implies_true, app_at0, cons_at0, set_app0, List.set_cons_zero, q_cM, r_app, q_app, gI_t0, lc, app_get hi', app_get cl3, app_get u13, app_get u23, q', Ev_some]
      refine ⟨acc, rfl, by (exact Nat.le_succ_of_le (by assumption)), ?_⟩
      rw [tk, List.filter_append, List.filter_cons, if_neg (by simpa using q), List.filter_nil, List.append_nil]
      exact da
  · rw [hd.len]; (exact Nat.lt_of_le_of_lt (by assumption) (by decide))
  · exact Nat.zero_le _
  · refine ⟨[], rfl, Nat.le_refl _, trivial, fun G => ?_⟩
    simp only [if_pos_true, eq_self, r_ldcC, q_cL, r_ix0, r_ix, r_ldcL, List.mem_cons, List.not_mem_nil, or_false]
  · rintro H' ⟨l', acc, rfl, la, da, lc⟩
    rw [hd.len, List.take_length] at da
    simp only [r_kE, r_kS2, r_ret, r_rB1, Ev_some]
    have pre3 : H3 <+: H3 ++ [.list acc] := List.prefix_append _ _
    refine ⟨gr.trans (grow_pre pre3), (hF2.mono pre2).mono pre3, ⟨pre_get pre3 u13, pre_get pre3 u23⟩, H3.length, acc, rfl, gr.1, ?_, da.mono pre3⟩
    rw [app_at0]; rfl
-- part M1
-- the table of costs and steps: what it holds
section
variable {O : Nat → List Stp} {P : Pr} {n k : Nat} {W : Ws}
noncomputable def Pth (O : Nat → List Stp) : Nat → List Stp → Nat → Prop
  | a, [], b => a = b
  | a, s :: r, b => s ∈ O a ∧ Pth O (a + sz1 s) r b
theorem Pth.append : ∀ {r r' : List Stp} {a b c : Nat}, Pth O a r b → Pth O b r' c → Pth O a (r ++ r') c
  | [], _, _, _, _, h, h' => by (first | exact no1 h | obtain ⟨rfl, rfl, rfl⟩ := jn3 h | obtain ⟨rfl, rfl⟩ := jn2 h | obtain rfl := jn1 h | cases h); exact h'
  | s :: r, _, _, _, _, ⟨h1, h2⟩, h' => ⟨h1, h2.append h'⟩
theorem Pth.le : ∀ {r : List Stp} {a b : Nat}, Pth O a r b → a ≤ b
  | [], _, _, h => by (first | exact no1 h | obtain ⟨rfl, rfl, rfl⟩ := jn3 h | obtain ⟨rfl, rfl⟩ := jn2 h | obtain rfl := jn1 h | cases h); exact Nat.le_refl _
  | s :: r, _, _, ⟨_, h⟩ => Nat.le_trans (Nat.le_add_right _ _) h.le
structure DI (O : Nat → List Stp) (P : Pr) (n k : Nat) (E : Stp → Prop) (W : Ws) : Prop where
  l1 : W.1.length = n + 1
  l2 : W.2.length = n + 1
  z : W.1[0]? = some (some 0)
  b : ∀ j c, 0 < j → W.1[j]? = some (some c) → ∃ s c', W.2[j]? = some (some s) ∧ sz1 s ≤ j ∧ j - sz1 s ≤ k ∧ s ∈ O (j - sz1 s) ∧ W.1[j - sz1 s]? = some (some c') ∧ c = c' + cost1 P s
  e : ∀ a s, (a < k ∧ s ∈ O a ∨ a = k ∧ E s) → a + sz1 s ≤ n → ∃ ca c, W.1[a]? = some (some ca) ∧ W.1[a + sz1 s]? = some (some c) ∧ c ≤ ca + cost1 P s
  cur : ∃ c, W.1[k]? = some (some c)
theorem getD_some {α : Type} {l : List (Option α)} {i : Nat} {c : Option α} (h : l[i]? = some c) : l.getD i none = c := by
  rw [List.getD_eq_getElem?_getD, h]; rfl
theorem getD_lt {α : Type} {l : List (Option α)} {i : Nat} (h : i < l.length) : l[i]? = some (l.getD i none) := by
  rw [List.getD_eq_getElem?_getD, List.getElem?_eq_getElem h]; rfl
/-- one offer -/
theorem DI.offer {E : Stp → Prop} {s : Stp} (h : DI O P n k E W) (hk : k < n) (hs : s ∈ O k) : DI O P n k (fun x => E x ∨ x = s) (offer1 P n k W s) := by
  obtain ⟨ca, hca⟩ := h.cur
  have hp := sz1_pos s
  have eo : offer1 P n k W s = Mine.offer n k ca W s (cost1 P s) := by unfold offer1; rw [getD_some hca]; rfl
  rw [eo]
  by_cases q : k + sz1 s > n
  · rw [show Mine.offer n k ca W s (cost1 P s) = W from if_pos q]
    refine ⟨h.l1, h.l2, h.z, h.b, fun a x hx hl => ?_, h.cur⟩
    rcases hx with hx | ⟨rfl, hx | rfl⟩
    · exact h.e a x (.inl hx) hl
    · exact h.e a x (.inr ⟨rfl, hx⟩) hl
    · omega
  · have lt1 : k + sz1 s < W.1.length := by rw [h.l1]; (exact Nat.lt_of_not_le (by assumption))
    have lt2 : k + sz1 s < W.2.length := by rw [h.l2]; (exact Nat.lt_of_not_le (by assumption))
    -- the entry set
    have set_ : (∀ o, W.1[k + sz1 s]? = some (some o) → ca + cost1 P s < o) → DI O P n k (fun x => E x ∨ x = s) (W.1.set (k + sz1 s) (some (ca + cost1 P s)), W.2.set (k + sz1 s) (some s)) := by
      intro hl
      have keep : ∀ j, j ≤ k → (W.1.set (k + sz1 s) (some (ca + cost1 P s)))[j]? = W.1[j]? := fun j hj => List.getElem?_set_ne (by lia)
      refine ⟨by dsimp only; rw [List.length_set]; exact h.l1, by dsimp only; rw [List.length_set]; exact h.l2, by dsimp only; rw [keep 0 (by (exact Nat.zero_le _))]; exact h.z, fun j c hj hc => ?_, fun a x hx hl2 => ?_, ⟨ca, by dsimp only; rw [keep k (by (exact Nat.le_refl _))]; exact hca⟩⟩
      · dsimp only at hc ⊢
        by_cases e : j = k + sz1 s
        · subst e
          rw [List.getElem?_set_self lt1] at hc
          refine ⟨s, ca, List.getElem?_set_self lt2, by (exact Nat.le_add_left _ _), by (simp), ?_, ?_, ?_⟩
          · rw [show k + sz1 s - sz1 s = k by (simp)]; exact hs
          · rw [show k + sz1 s - sz1 s = k by (simp), keep k (by (exact Nat.le_refl _))]; exact hca
          · exact (Option.some.inj (Option.some.inj hc)).symm
        · rw [List.getElem?_set_ne (Ne.symm e)] at hc
          obtain ⟨s', c', b1, b2, b3, b4, b5, b6⟩ := h.b j c hj hc
          exact ⟨s', c', by rw [List.getElem?_set_ne (Ne.symm e)]; exact b1, b2, b3, b4, by rw [keep _ b3]; exact b5, b6⟩
      · dsimp only
        have old : (a < k ∧ x ∈ O a ∨ a = k ∧ E x) → ∃ ca_1 c, (W.1.set (k + sz1 s) (some (ca + cost1 P s)))[a]? = some (some ca_1) ∧ (W.1.set (k + sz1 s) (some (ca + cost1 P s)))[a + sz1 x]? = some (some c) ∧ c ≤ ca_1 + cost1 P x := fun hx => by
          obtain ⟨c1, c2, e1, e2, e3⟩ := h.e a x hx hl2
          refine ⟨c1, ?_⟩
          by_cases e : a + sz1 x = k + sz1 s
          · refine ⟨ca + cost1 P s, by rw [keep a (by lia)]; exact e1, by rw [e, List.getElem?_set_self lt1], ?_⟩
            rw [e] at e2
            have := hl _ e2
            lia
          · exact ⟨c2, by rw [keep a (by lia)]; exact e1, by rw [List.getElem?_set_ne (Ne.symm e)]; exact e2, e3⟩
        rcases hx with hx | ⟨rfl, hx | rfl⟩
        · exact old (.inl hx)
        · exact old (.inr ⟨rfl, hx⟩)
        · exact ⟨ca, ca + cost1 P x, by rw [keep a (by (exact Nat.le_refl _))]; exact hca, List.getElem?_set_self lt1, Int.le_refl _⟩
    cases ec : W.1.getD (k + sz1 s) none with
    | none =>
      rw [show Mine.offer n k ca W s (cost1 P s) = (W.1.set (k + sz1 s) (some (ca + cost1 P s)), W.2.set (k + sz1 s) (some s)) by unfold Mine.offer; rw [if_neg q, ec]]
      exact set_ fun o ho => by rw [getD_some ho] at ec; (first | exact no1 ec | obtain ⟨rfl, rfl, rfl⟩ := jn3 ec | obtain ⟨rfl, rfl⟩ := jn2 ec | obtain rfl := jn1 ec | cases ec)
    | some o =>
      by_cases z : ca + cost1 P s < o
      · rw [show Mine.offer n k ca W s (cost1 P s) = (W.1.set (k + sz1 s) (some (ca + cost1 P s)), W.2.set (k + sz1 s) (some s)) by unfold Mine.offer; rw [if_neg q, ec]; dsimp only; rw [if_pos z]]
        exact set_ fun o' ho => by rw [getD_some ho] at ec; (first | exact no1 ec | obtain ⟨rfl, rfl, rfl⟩ := jn3 ec | obtain ⟨rfl, rfl⟩ := jn2 ec | obtain rfl := jn1 ec | cases ec); exact z
      · rw [show Mine.offer n k ca W s (cost1 P s) = W by unfold Mine.offer; rw [if_neg q, ec]; dsimp only; rw [if_neg z]]
        refine ⟨h.l1, h.l2, h.z, h.b, fun a x hx hl => ?_, h.cur⟩
        rcases hx with hx | ⟨rfl, hx | rfl⟩
        · exact h.e a x (.inl hx) hl
        · exact h.e a x (.inr ⟨rfl, hx⟩) hl
        · exact ⟨ca, o, hca, by rw [getD_lt lt1, ec], by (exact Int.not_lt.mp (by assumption))⟩
theorem DI.mono {E E' : Stp → Prop} (h : DI O P n k E W) (he : ∀ x, E' x → E x) : DI O P n k E' W :=
  ⟨h.l1, h.l2, h.z, h.b, fun a x hx hl => h.e a x (hx.imp id fun y => ⟨y.1, he x y.2⟩) hl, h.cur⟩
theorem DI.fold (hk : k < n) : ∀ (l : List Stp) {E : Stp → Prop} {W : Ws}, DI O P n k E W → (∀ s ∈ l, s ∈ O k) → DI O P n k (fun x => E x ∨ x ∈ l) (l.foldl (offer1 P n k) W)
  | [], E, W, h, _ => h.mono fun x hx => hx.resolve_right (by simp)
  | s :: l, E, W, h, hl => by
    have := (h.offer hk (hl s (.head _))).fold hk l fun x hx => hl x (.tail _ hx)
    refine this.mono fun x hx => ?_
    rcases hx with hx | hx
    · exact .inl (.inl hx)
    · rcases List.mem_cons.mp hx with rfl | hx
      · exact .inl (.inr rfl)
      · exact .inr hx
theorem DI.next {x : Nat} (h : DI O P n k (fun x => x ∈ O k) W) (hk : k < n) (hx : (0, x) ∈ O k) : DI O P n (k + 1) (fun _ => False) W := by
  refine ⟨h.l1, h.l2, h.z, fun j c hj hc => ?_, fun a s hs hl => ?_, ?_⟩
  · obtain ⟨s, c', b1, b2, b3, b4, b5, b6⟩ := h.b j c hj hc
    exact ⟨s, c', b1, b2, by (exact Nat.le_succ_of_le (by assumption)), b4, b5, b6⟩
  · rcases hs with ⟨h1, h2⟩ | ⟨_, h2⟩
    · by_cases e : a = k
      · exact h.e a s (.inr ⟨e, e ▸ h2⟩) hl
      · exact h.e a s (.inl ⟨by lia, h2⟩) hl
    · exact h2.elim
  · obtain ⟨_, c, _, e2, _⟩ := h.e k (0, x) (.inr ⟨rfl, hx⟩) (by show k + 1 ≤ n; assumption)
    exact ⟨c, e2⟩
/-- what stands in the table is the cost of the path that its steps tell -/
theorem DI.path {E : Stp → Prop} (h : DI O P n k E W) : ∀ m j c, j < m → W.1[j]? = some (some c) → ∃ r, Chn W.2 j r ∧ Pth O 0 r j ∧ cost P r = c
  | 0, j, c, hm, _ => by (contradiction)
  | m + 1, j, c, hm, hc => by
    by_cases j0 : j = 0
    · subst j0
      rw [h.z] at hc
      (first | exact no1 hc | obtain ⟨rfl, rfl, rfl⟩ := jn3 hc | obtain ⟨rfl, rfl⟩ := jn2 hc | obtain rfl := jn1 hc | cases hc)
      exact ⟨[], .nil, rfl, rfl⟩
    · obtain ⟨s, c', b1, b2, b3, b4, b5, b6⟩ := h.b j c (by (exact Nat.pos_of_ne_zero (by assumption))) hc
      have hp := sz1_pos s
      obtain ⟨r, r1, r2, r3⟩ := h.path m (j - sz1 s) c' (by lia) b5
      refine ⟨r ++ [s], .step (by (exact Nat.pos_of_ne_zero (by assumption))) b1 b2 r1, r2.append ⟨b4, ?_⟩, ?_⟩
      · show j - sz1 s + sz1 s = j
        lia
      · rw [cost_append, r3, b6]
        show c' + (cost1 P s + 0) = _
        simp
/-- no path is cheaper -/
theorem DI.opt {E : Stp → Prop} (h : DI O P n n E W) : ∀ (r : List Stp) (a : Nat) (ca : Int), W.1[a]? = some (some ca) → Pth O a r n → ∃ c, W.1[n]? = some (some c) ∧ c ≤ ca + cost P r
  | [], a, ca, ha, hp => by
    (first | exact no1 hp | obtain ⟨rfl, rfl, rfl⟩ := jn3 hp | obtain ⟨rfl, rfl⟩ := jn2 hp | obtain rfl := jn1 hp | cases hp)
    exact ⟨ca, ha, by unfold cost; (simp)⟩
  | s :: r, a, ca, ha, ⟨hs, hp⟩ => by
    have hle := hp.le
    have hpos := sz1_pos s
    obtain ⟨ca', c1, e1, e2, e3⟩ := h.e a s (.inl ⟨by (exact Nat.lt_of_lt_of_le (Nat.add_lt_add_left (by assumption) _) (by assumption)), hs⟩) hle
    rw [ha] at e1
    (first | exact no1 e1 | obtain ⟨rfl, rfl, rfl⟩ := jn3 e1 | obtain ⟨rfl, rfl⟩ := jn2 e1 | obtain rfl := jn1 e1 | cases e1)
    obtain ⟨c, h1, h2⟩ := h.opt r _ c1 e2 hp
    refine ⟨c, h1, ?_⟩
    show c ≤ ca + (cost1 P s + cost P r)
    lia
end
theorem told_chn {ss : List (Option Stp)} : ∀ {k : Nat} {r : List Stp}, Chn ss k r → ∀ f, k < f → told ss f k = r := by
  intro k r h
  induction h with
  | nil => intro f hf; cases f with
    | zero => rfl
    | succ f => rfl
  | step h0 h1 h2 h3 ih =>
    rename_i k s r
    intro f hf
    cases f with
    | zero => (contradiction)
    | succ f =>
      show (if k = 0 then [] else match ss.getD k none with | some s => told ss f (k - sz1 s) ++ [s] | none => []) = _
      have hp := sz1_pos s
      rw [if_neg (by (exact Nat.ne_of_gt (by assumption))), getD_some h1]
      dsimp only
      rw [ih f (by lia)]
section
variable {t : List UInt8} {st sz wi ch mo : Nat} {P : Pr}
noncomputable abbrev OO (t : List UInt8) (st sz wi ch mo : Nat) : Nat → List Stp := fun a => offs t sz wi ch mo (st + a)
theorem dp_inv : ∀ k, k ≤ t.length - st → DI (OO t st sz wi ch mo) P (t.length - st) k (fun _ => False) (dp t st sz wi ch mo P k)
  | 0, _ => by
    refine ⟨?_, ?_, rfl, fun j c hj hc => ?_, fun a s hs hl => ?_, ⟨0, rfl⟩⟩
    · show (some 0 :: List.replicate _ none).length = _
      rw [List.length_cons, List.length_replicate]
    · exact List.length_replicate
    · exfalso
      have hc : (some (0 : Int) :: List.replicate (t.length - st) none)[j]? = some (some c) := hc
      cases j with
      | zero => (contradiction)
      | succ j =>
        rw [List.getElem?_cons_succ, List.getElem?_replicate] at hc
        split at hc
        · (first | exact no1 hc | obtain ⟨rfl, rfl, rfl⟩ := jn3 hc | obtain ⟨rfl, rfl⟩ := jn2 hc | obtain rfl := jn1 hc | cases hc)
        · (first | exact no1 hc | obtain ⟨rfl, rfl, rfl⟩ := jn3 hc | obtain ⟨rfl, rfl⟩ := jn2 hc | obtain rfl := jn1 hc | cases hc)
    · rcases hs with ⟨h, _⟩ | ⟨_, h⟩
      · contradiction
      · exact h.elim
  | k + 1, hk => by
    have ih := dp_inv k (by (exact Nat.le_of_lt (by assumption)))
    have f := ih.fold (by assumption) (OO t st sz wi ch mo k) (fun s hs => hs)
    have f2 := f.mono (E' := fun x => x ∈ OO t st sz wi ch mo k) fun x hx => .inr hx
    exact f2.next (x := oc t (st + k)) (by assumption) (.head _)
theorem best_spec : Chn (dp t st sz wi ch mo P (t.length - st)).2 (t.length - st) (best t st sz wi ch mo P) ∧ Pth (OO t st sz wi ch mo) 0 (best t st sz wi ch mo P) (t.length - st) ∧
    ∀ r, Pth (OO t st sz wi ch mo) 0 r (t.length - st) → cost P (best t st sz wi ch mo P) ≤ cost P r := by
  have h := dp_inv (t := t) (st := st) (sz := sz) (wi := wi) (ch := ch) (mo := mo) (P := P) (t.length - st) (Nat.le_refl _)
  obtain ⟨c, hc⟩ := h.cur
  obtain ⟨r, r1, r2, r3⟩ := h.path _ _ _ (Nat.lt_succ_self _) hc
  have e : best t st sz wi ch mo P = r := told_chn r1 _ (Nat.lt_succ_self _)
  rw [e]
  refine ⟨r1, r2, fun r' h' => ?_⟩
  obtain ⟨c', h1, h2⟩ := h.opt r' 0 0 h.z h'
  rw [hc] at h1
  (first | exact no1 h1 | obtain ⟨rfl, rfl, rfl⟩ := jn3 h1 | obtain ⟨rfl, rfl⟩ := jn2 h1 | obtain rfl := jn1 h1 | cases h1)
  rw [r3]
  lia
end
-- part S16
section
variable {t : List UInt8} {sz wi ch mo p : Nat}
theorem alk_le {o : Nat} : ∀ r k, alk t p o r k ≤ k + r ∧ k ≤ alk t p o r k
  | 0, k => ⟨Nat.le_refl _, Nat.le_refl _⟩
  | r + 1, k => by
    rw [alk_succ]
    split
    · have := alk_le (o := o) r (k + 1)
      lia
    · simp
theorem ev_mem {lim : Nat} {m : Stp} : ∀ {cs : List Nat} {lg : Nat}, m ∈ evF t p lim cs lg → ∃ o ∈ cs, m = (alk t p o lim 0, p - o) ∧ lg < m.1
  | [], lg, h => by cases h
  | o :: os, lg, h => by
    rw [ev_cons] at h
    split at h
    · cases h
    · split at h
      · rename_i q
        rcases List.mem_cons.mp h with rfl | h
        · exact ⟨o, .head _, rfl, q.2⟩
        · obtain ⟨o', h1, h2, h3⟩ := ev_mem h
          exact ⟨o', .tail _ h1, h2, by lia⟩
      · obtain ⟨o', h1, h2, h3⟩ := ev_mem h
        exact ⟨o', .tail _ h1, h2, h3⟩
theorem ev_len {lim : Nat} : ∀ {cs : List Nat} {lg : Nat}, (evF t p lim cs lg).length ≤ cs.length
  | [], lg => Nat.le_refl _
  | o :: os, lg => by
    rw [ev_cons]
    split
    · exact Nat.zero_le _
    · split
      · rw [List.length_cons, List.length_cons]
        have := ev_len (lim := lim) (cs := os) (lg := alk t p o lim 0)
        lia
      · rw [List.length_cons]
        have := ev_len (lim := lim) (cs := os) (lg := lg)
        exact Nat.le_succ_of_le (by assumption)
theorem every_len : (everyL t sz wi ch mo p).length ≤ ch := by
  unfold everyL
  refine Nat.le_trans ev_len ?_
  rw [cands_eq]
  exact cnd_len _ _
theorem match_good {m : Stp} (h : m ∈ matchL t sz wi ch mo p) (ht : t.length ≤ 9) (hp : p ≤ t.length) : sz ≤ m.1 ∧ m.1 ≤ 9 ∧ 1 ≤ m.2 ∧ m.2 ≤ 9 := by
  obtain ⟨h1, h2⟩ := List.mem_filter.mp h
  obtain ⟨o, ho, rfl, h3⟩ := ev_mem h1
  have a := alk_le (t := t) (p := p) (o := o) (min mo (t.length - p)) 0
  have b := cands_lt o ho
  have c : sz ≤ alk t p o (min mo (t.length - p)) 0 := by simpa using h2
  dsimp only
  refine ⟨c, by lia, by lia, by lia⟩
theorem offs_mem {s : Stp} : s ∈ offs t sz wi ch mo p ↔ s = (0, oc t p) ∨ ∃ m ∈ matchL t sz wi ch mo p, sz ≤ s.1 ∧ s.1 ≤ m.1 ∧ s.2 = m.2 := by
  unfold offs
  rw [List.mem_cons, List.mem_flatMap]
  refine or_congr Iff.rfl ⟨?_, ?_⟩
  · rintro ⟨m, hm, hs⟩
    obtain ⟨L, hL, rfl⟩ := List.mem_map.mp hs
    rw [List.mem_range'_1] at hL
    exact ⟨m, hm, by dsimp only; lia, by dsimp only; omega, rfl⟩
  · rintro ⟨m, hm, h1, h2, h3⟩
    refine ⟨m, hm, List.mem_map.mpr ⟨s.1, ?_, ?_⟩⟩
    · rw [List.mem_range'_1]; lia
    · rw [← h3]
theorem offs_good {s : Stp} (h : s ∈ offs t sz wi ch mo p) (hs : 2 ≤ sz) (ht : t.length ≤ 9) (hp : p ≤ t.length) : Good s ∧ sz1 s ≤ 9 := by
  rcases offs_mem.mp h with rfl | ⟨m, hm, h1, h2, h3⟩
  · exact ⟨.inl rfl, by show 1 ≤ 9; (exact Nat.le_add_left _ _)⟩
  · obtain ⟨g1, g2, g3, g4⟩ := match_good hm ht hp
    refine ⟨.inr ⟨by (exact Nat.le_trans (by assumption) (by assumption)), by (exact Nat.lt_of_le_of_lt (Nat.le_trans (by assumption) (by assumption)) (by decide)), by lia, by lia⟩, ?_⟩
    unfold sz1
    split <;> lia
end
section
variable {H H' : AH} {f fd r rd la be w wd cs ss n tr td p sz wi ch k : Nat} {t : List UInt8} {P : Pr} {W : Ws}
theorem PriAt.ways (hP : PriAt H p P) (hW : WaysAt H w wd cs ss n W) (g : Grow [cs, ss] H H') : PriAt H' p P := by
  obtain ⟨d, a, b⟩ := hP
  obtain ⟨sl, s, _⟩ := hW.s
  unfold priF at b
  refine ⟨d, g.get a ?_, g.get b ?_⟩
  · simp only [List.mem_cons, List.not_mem_nil, or_false]
    rintro (e | e)
    · exact ne_of_at a hW.c (by simp) e
    · exact ne_of_at a s (by simp) e
  · simp only [List.mem_cons, List.not_mem_nil, or_false]
    rintro (e | e)
    · exact ne_of_at b hW.c (by simp) e
    · exact ne_of_at b s (by simp) e
theorem TraAt.ways (hT : TraAt H tr td f sz k) (hW : WaysAt H w wd cs ss n W) (g : Grow [cs, ss] H H') : TraAt H' tr td f sz k := by
  obtain ⟨sl, s, _⟩ := hW.s
  have b := hT.d
  unfold traF at b
  refine hT.grow g ?_ ?_
  · simp only [List.mem_cons, List.not_mem_nil, or_false]
    rintro (e | e)
    · exact ne_of_at hT.i hW.c (by simp) e
    · exact ne_of_at hT.i s (by simp) e
  · simp only [List.mem_cons, List.not_mem_nil, or_false]
    rintro (e | e)
    · exact ne_of_at b hW.c (by simp) e
    · exact ne_of_at b s (by simp) e
theorem FinAt.ways (hF : FinAt H f fd r rd la be t sz wi ch k) (hW : WaysAt H w wd cs ss n W) (g : Grow [cs, ss] H H') (h1 : be ≠ cs) (h2 : be ≠ ss) : FinAt H' f fd r rd la be t sz wi ch k := by
  obtain ⟨sl, s, _⟩ := hW.s
  have b := hF.d
  have c := hF.row.d
  unfold finF at b
  unfold rowF at c
  have not : ∀ {i : Nat} {o : AObj}, H[i]? = some o → (∀ xs, o ≠ .list xs) → i ∉ [cs, ss] := fun ho hne => by
    simp only [List.mem_cons, List.not_mem_nil, or_false]
    rintro (e | e)
    · exact ne_of_at ho hW.c (hne _) e
    · exact ne_of_at ho s (hne _) e
  refine hF.grow g (not hF.i (by simp)) (not b (by simp)) (not hF.row.i (by simp)) (not c (by simp)) (not hF.row.l (by simp)) ?_
  simp only [List.mem_cons, List.not_mem_nil, or_false]
  rintro (e | e)
  · exact h1 e
  · exact h2 e
theorem notin4 (hF : FinAt H f fd r rd la be t sz wi ch k) (hT : TraAt H tr td f sz k) {i : Nat} {o : AObj} (ho : H[i]? = some o) (h1 : o ≠ traF f sz k) (h2 : o ≠ finF t sz wi ch k r) (h3 : ∀ es, o ≠ .idict es) (h4 : i ≠ be) : i ∉ [td, fd, la, be] := by
  simp only [List.mem_cons, List.not_mem_nil, or_false]
  rintro (e | e | e | e)
  · exact ne_of_at ho hT.d h1 e
  · exact ne_of_at ho hF.d h2 e
  · exact ne_of_at ho hF.row.l (h3 _) e
  · exact h4 e
theorem PriAt.fin (hP : PriAt H p P) (hF : FinAt H f fd r rd la be t sz wi ch k) (hT : TraAt H tr td f sz k) (g : Grow [td, fd, la, be] H H') : PriAt H' p P := by
  obtain ⟨d, a, b⟩ := hP
  refine ⟨d, g.get a (notin4 hF hT a (by unfold traF; simp) (by unfold finF; simp) (by simp) (ne_of_at a hF.row.b (by simp))),
    g.get b (notin4 hF hT b (by unfold priF traF; simp [ofS_inj]) (by unfold priF finF; simp [ofS_inj]) (by unfold priF; simp) (ne_of_at b hF.row.b (by unfold priF; simp)))⟩
theorem WaysAt.fin (hW : WaysAt H w wd cs ss n W) (hF : FinAt H f fd r rd la be t sz wi ch k) (hT : TraAt H tr td f sz k) (g : Grow [td, fd, la, be] H H') (h1 : be ≠ cs) (h2 : be ≠ ss) : WaysAt H' w wd cs ss n W := by
  obtain ⟨sl, s, _⟩ := hW.s
  refine hW.grow g ?_ ?_ ?_ ?_ fun i x hi => ?_
  · exact notin4 hF hT hW.i (by unfold traF; simp) (by unfold finF; simp) (by simp) (ne_of_at hW.i hF.row.b (by simp))
  · exact notin4 hF hT hW.d (by unfold wayF traF; simp [ofS_inj]) (by unfold wayF finF; simp [ofS_inj]) (by unfold wayF; simp) (ne_of_at hW.d hF.row.b (by unfold wayF; simp))
  · exact notin4 hF hT hW.c (by unfold traF; simp) (by unfold finF; simp) (by simp) h1.symm
  · exact notin4 hF hT s (by unfold traF; simp) (by unfold finF; simp) (by simp) h2.symm
  · exact notin4 hF hT hi (by unfold tupA traF; simp) (by unfold tupA finF; simp) (by unfold tupA; simp) (ne_of_at hi hF.row.b (by unfold tupA; simp))
theorem WaysAt.mono (hW : WaysAt H w wd cs ss n W) (q : H <+: H') : WaysAt H' w wd cs ss n W :=
  hW.grow (S := []) (grow_pre q) (by simp) (by simp) (by simp) (by simp) (by simp)
theorem TraAt.mono (hT : TraAt H tr td f sz k) (q : H <+: H') : TraAt H' tr td f sz k := ⟨pre_get q hT.i, pre_get q hT.d⟩
theorem chkPriA {x : Str} (h : PriAt H p P) (hx : x = Str.ofString "literal" ∨ x = Str.ofString "match") : hA 212 x H H[p]? = some ((), H) := by
  rw [← r_chkI (locOf [])]
  exact chkPri h hx
theorem chkWay {x : Str} (hW : WaysAt H w wd cs ss n W) (hx : x = Str.ofString "offer" ∨ x = Str.ofString "told") : hA 154 x H H[w]? = some ((), H) := by
  have h1 := hW.i
  have h2 := hW.d
  unfold wayF at h2
  rcases hx with rfl | rfl <;> simp only [k154_offer, k154_told, r_hA, eq_self, h1, h2]
theorem getSize (hW : WaysAt H w wd cs ss n W) : gA (Str.ofString "size") H H[w]? = some (.int n, H) := by
  have h1 := hW.i
  have h2 := hW.d
  unfold wayF at h2
  simp only [a154_size, r_gA, eq_self, h1, h2]
theorem chkTra (hT : TraAt H tr td f sz k) : hA 119 (Str.ofString "every") H H[tr]? = some ((), H) := by
  have h1 := hT.i
  have h2 := hT.d
  unfold traF at h2
  simp only [k119_every, r_hA, eq_self, h1, h2]
theorem getShort (hT : TraAt H tr td f sz k) : gA (Str.ofString "shortest") H H[tr]? = some (.int sz, H) := by
  have h1 := hT.i
  have h2 := hT.d
  unfold traF at h2
  simp only [a119_shortest, r_gA, eq_self, h1, h2]
end
-- part S17
/-- the names of least's frame that stay -/
structure LL (t : List UInt8) (st mo p tr w a : Nat) (l : Loc) : Prop where
  tr : ∀ G, ldV (Str.ofString "trail") l G = some (.ref tr, G)
  w : ∀ G, ldV (Str.ofString "ways") l G = some (.ref w, G)
  a : ∀ G, ldV (Str.ofString "at") l G = some (.int a, G)
  st : ∀ G, ldV (Str.ofString "start") l G = some (.int st, G)
  mo : ∀ G, ldV (Str.ofString "most") l G = some (.int mo, G)
  p : ∀ G, ldV (Str.ofString "price") l G = some (.ref p, G)
  t : ∀ G, ldV (Str.ofString "octets") l G = some (.bytes t, G)
  e : ∀ G, ldV (Str.ofString "enough") l G = some (.none, G)
theorem LL.upd {t : List UInt8} {st mo p tr w a : Nat} {l : Loc} {x : String} {v : AV} (h : LL t st mo p tr w a l) (hx : ∀ y ∈ ["trail", "ways", "at", "start", "most", "price", "octets", "enough"], (y == x) = false) : LL t st mo p tr w a (updL l (Str.ofString x) v) := by
  have e := fun y hy G => v_1 (l := l) (H := G) (a := v) (hx y hy)
  exact ⟨fun G => (e "trail" (by simp) G).trans (h.tr G), fun G => (e "ways" (by simp) G).trans (h.w G), fun G => (e "at" (by simp) G).trans (h.a G), fun G => (e "start" (by simp) G).trans (h.st G),
    fun G => (e "most" (by simp) G).trans (h.mo G), fun G => (e "price" (by simp) G).trans (h.p G), fun G => (e "octets" (by simp) G).trans (h.t G), fun G => (e "enough" (by simp) G).trans (h.e G)⟩
theorem sz1_le {s : Stp} (h : s.1 ≤ 20) : sz1 s ≤ 20 := by
  unfold sz1
  split <;> lia
theorem decO_none {H : AH} : ∀ m, DecO H (repL [.none] m) (List.replicate m none)
  | 0 => trivial
  | m + 1 => ⟨rfl, decO_none m⟩
theorem offer1_eq {P : Pr} {n k : Nat} {W : Ws} {s : Stp} {ca : Int} (hca : W.1[k]? = some (some ca)) : offer1 P n k W s = offer n k ca W s (cost1 P s) := by
  unfold offer1; rw [getD_some hca]; rfl
section
variable {H : AH} {f fd r rd la be p sz wi ch mo st : Nat} {t : List UInt8} {P : Pr}
end
inductive IA (H : AH) (f fd r rd la be p sz wi ch mo st : Nat) (t : List UInt8) (P : Pr) (n j : Nat) (l : Loc) (H' : AH) : Prop where
  | mk (a k : Nat) (haj : a + j = n) (hka : k ≤ st + a) (hG : Grow [fd, la, be] H H') (hF : FinAt H' f fd r rd la be t sz wi ch k) (hT : TraAt H' (H.length + 1) H.length f sz k)
      (hW : WaysAt H' (H.length + 3) (H.length + 2) (H.length + 7) (H.length + 9) n (dp t st sz wi ch mo P a)) (hp : PriAt H' p P) (hL : LL t st mo p (H.length + 1) (H.length + 3) a l)
inductive IB (H G : AH) (p sz wi ch mo st : Nat) (t : List UInt8) (P : Pr) (n a : Nat) (R : Loc → Prop) (W1 : Ws) (l : Loc) (H' : AH) : Prop where
  | mk (g : Grow [H.length + 7, H.length + 9] G H') (hL : LL t st mo p (H.length + 1) (H.length + 3) a l) (r : R l) (E W : _) (hD : DI (OO t st sz wi ch mo) P n a E W)
      (hW : WaysAt H' (H.length + 3) (H.length + 2) (H.length + 7) (H.length + 9) n W) (e : W = W1)
section
variable {H : AH} {f fd r rd la be p sz wi ch mo st : Nat} {t : List UInt8} {P : Pr}
theorem s166 (h : FinAt H f fd r rd la be t sz wi ch 0) (hp : PriAt H p P) (hP : P.ok) (ht : t.length ≤ 9) (hst : st ≤ t.length) (hs : 2 ≤ sz) (hs6 : sz ≤ 6) (hc : ch ≤ 20) :
    Ev (p166 [.bytes t, .int st, .ref f, .int mo, .ref p] H) fun x => Grow [fd, la, be] H x.2 ∧ ∃ j xs, x.1 = .ref j ∧ x.2[j]? = some (.list xs) ∧ Dec x.2 xs (best t st sz wi ch mo P) := by
  have nt := fun l => newTrail (l := l) h hs
  have nw := fun l => newWays (n := t.length - st) (l := l) (H := H ++ [traF f sz 0, .inst 119 H.length]) (by lia)
  simp only [List.length_append, List.length_cons, List.length_nil, Nat.zero_add, Nat.add_assoc, Nat.reduceAdd, List.append_assoc, List.cons_append, List.nil_append] at nw
  have c1 : (t.length : Int) - (st : Int) = ((t.length - st : Nat) : Int) := by (exact (Int.natCast_sub (by assumption)).symm)
  have lfd := lt_of_at h.d
  have lla := lt_of_at h.row.l
  have lbe := lt_of_at h.row.b
  generalize hn : t.length - st = n at nw c1
  rw [e166]
  unfold b166
  simp only [t_bind, t_s1, t_n, t_p, w_0, w_1, w_2, w_3, r_bind, r_pure, r_const, r_seq, r_ev, r_st, r_putV, r_sub, r_exprK, r_chkF, r_up0, r_up, r_swapU, r_swT, if_pos_true, eq_self, String.reduceBEq, List.length_cons, List.length_nil, Nat.reduceAdd, Nat.reduceLeDiff, List.append_assoc, List.cons_append, List.nil_append, List.length_append, app_at, cons_at, cons_at0, r_newT, s61 hst ht, lenb_ok ht, nt, c1, nw, Nat.zero_add, List.reverse_cons, List.reverse_nil, List.map_cons, List.map_nil]
  refine Ev.rB (Ev.bind ((while_rule (I := IA H f fd r rd la be p sz wi ch mo st t P n)
    (Q := fun fl l H' => fl = .next ∧ Grow [fd, la, be] H H' ∧ WaysAt H' (H.length + 3) (H.length + 2) (H.length + 7) (H.length + 9) n (dp t st sz wi ch mo P n) ∧ (∀ G, ldV (Str.ofString "ways") l G = some (.ref (H.length + 3), G)))
    ?_ 64 n _ _ ?_ ?_).mono ?_))
  · rintro j l H1 ⟨a, k, haj, hka, hG, hF, hT, hW, hp1, hL⟩
    cases j with
    | zero =>
      have : a = n := by omega
      subst this
      simp only [t_bind, r_bind, r_seq, r_ev, r_tru1, r_lt, r_getA, if_neg_false, eq_self, decide_false, Bool.false_eq_true, and_true, true_and, implies_true, hL.w, hL.a, getSize hW, Int.lt_irrefl, Ev_some]
      exact ⟨hG, hW⟩
    | succ j =>
      have c2 : (a : Int) < (n : Int) := by lia
      have c3 : (st : Int) + (a : Int) = ((st + a : Nat) : Int) := by (exact Int.natCast_add _ _)
      obtain ⟨⟨v, H2⟩, e1, g1, hF2, hT2, j0, xs, hv, hj0, hx0, hd0⟩ := s116 (p := st + a) (mo := mo) hF hT ht (by (exact Nat.le_of_lt (by assumption))) hs6 hc hka (by lia) (Nat.le_trans every_len hc)
      dsimp only at hv g1 hF2 hT2 hx0 hd0
      subst hv
      have hW2 := hW.fin hF hT g1 (by lia) (by lia)
      have hp2 := hp1.fin hF hT g1
      have g3 := fun L G => getI_oc (t := t) (k := ((st + a : Nat) : Int)) (n := st + a) rfl (by lia) ht L G
      have preT : H2 <+: H2 ++ [tupA (0, oc t (st + a))] := List.prefix_append _ _
      have hW3 := hW2.mono preT
      have D0 := dp_inv (t := t) (st := st) (sz := sz) (wi := wi) (ch := ch) (mo := mo) (P := P) a (by lia)
      rw [hn] at D0
      obtain ⟨ca, hca⟩ := D0.cur
      obtain ⟨H4, e4, hW4, o4⟩ := s144 (r := H2.length) (k := P.lit) (s := (0, oc t (st + a))) hW3 (by rw [app_at0]; rfl) (by lia) (by show 1 ≤ 20; (exact Nat.le_add_left _ _)) (by lia) hca
      rw [← show cost1 P (0, oc t (st + a)) = P.lit from rfl, ← offer1_eq hca] at hW4
      have D1 := D0.offer (s := (0, oc t (st + a))) (by (exact Int.ofNat_lt.mp (by assumption))) (List.Mem.head _)
      unfold tupA at preT e4
      rw [show (((0, oc t (st + a)) : Stp).1 : Int) = 0 from rfl] at preT e4
      have g24 : Grow [H.length + 7, H.length + 9] H2 H4 := (grow_pre preT).trans o4.grow
      have hF4 := hF2.ways hW2 g24 (by lia) (by lia)
      have hT4 := hT2.ways hW2 g24
      have hp4 := hp2.ways hW2 g24
      have lj0 : j0 ∉ [H.length + 7, H.length + 9] := by
        have := lt_of_at hW.c
        obtain ⟨sl, s, _⟩ := hW.s
        have := lt_of_at s
        simp only [List.mem_cons, List.not_mem_nil, or_false]
        lia
      have hx4 := g24.get hx0 lj0
      have hlm : (matchL t sz wi ch mo (st + a)).length ≤ 20 := Nat.le_trans (List.length_filter_le _ _) (Nat.le_trans every_len hc)
      simp only [t_bind, t_s1, t_n, v_0, v_1, r_bind, r_pure, r_const, r_seq, r_ev, r_st, r_putV, r_tru1, r_add, r_lt, r_exprK, r_getA, r_chkI, r_chkF, r_for, r_kF, if_pos_true, eq_self, String.reduceBEq, decide_true, List.length_cons, List.length_nil, Nat.reduceAdd, Nat.reduceLeDiff, and_true, true_and, implies_true, r_newT, hL.tr, hL.w, hL.a, hL.st, hL.mo, hL.p, hL.t, getSize hW, c2, c3, chkTra hT, e1, chkWay hW2 (.inl rfl), g3, chkPriA (hp2.mono (List.prefix_append _ _)) (.inl rfl), s202 (hp2.mono (List.prefix_append _ _)), e4, src_lst hx4, isLst_lst, Ev_some]
      refine Ev.bind ((for_rule (items := xs) (I := fun i l H5 => IB H H4 p sz wi ch mo st t P n a (fun _ => True) (((0, oc t (st + a)) :: ((matchL t sz wi ch mo (st + a)).take i).flatMap fun m => (List.range' sz (m.1 + 1 - sz)).map fun L => (L, m.2)).foldl (offer1 P n a) (dp t st sz wi ch mo P a)) l H5)
        (Q := fun fl l H5 => fl = .next ∧ Grow [H.length + 7, H.length + 9] H4 H5 ∧ LL t st mo p (H.length + 1) (H.length + 3) a l ∧
          WaysAt H5 (H.length + 3) (H.length + 2) (H.length + 7) (H.length + 9) n (dp t st sz wi ch mo P (a + 1))) ?_ ?_ ?_ 64 0 _ _ ?_ ?_ ?_).mono ?_)
      · rintro i l H5 ⟨g5, _⟩
        exact lst_item (g5.get hx4 lj0) i
      · rintro i l H5 av ⟨g5, hL5, _, E, W, hD, hW5, eW⟩ hav
        obtain ⟨m, im, hm, rfl, him⟩ := hd0.get hav
        obtain ⟨m1, m2, m3, m4⟩ := match_good (List.mem_of_getElem? hm) ht (by lia)
        have hT5 := hT4.ways hW4 g5
        have hp5 := hp4.ways hW4 g5
        obtain ⟨L, d⟩ := m
        dsimp only at m1 m2 m3 m4
        have him5 : H5[im]? = some (tupA (L, d)) := by
          have ni : ∀ {G : AH} {W : Ws}, WaysAt G (H.length + 3) (H.length + 2) (H.length + 7) (H.length + 9) n W → G[im]? = some (tupA (L, d)) → im ∉ [H.length + 7, H.length + 9] := fun hw hi => by
            obtain ⟨sl, s, _⟩ := hw.s
            simp only [List.mem_cons, List.not_mem_nil, or_false]
            rintro (e | e)
            · exact ne_of_at hi hw.c (by unfold tupA; simp) e
            · exact ne_of_at hi s (by unfold tupA; simp) e
          have i4 := g24.get him (ni hW2 him)
          exact g5.get i4 (ni hW4 i4)
        unfold tupA at him5
        dsimp only at him5
        have sr : srcOf (.ref H5.length) (H5 ++ [.range (sz : Int) ((L : Int) + 1) 1]) = some (.rng (sz : Int) ((L : Int) + 1) 1) :=
          src_rng (a := sz) (b := L + 1) rfl (by (exact Int.natCast_add _ _)) app_at0 (by (exact Nat.lt_of_le_of_lt (Nat.le_trans (by assumption) (by assumption)) (by decide))) (by lia)
        simp only [t_bind, t_p, v_0, v_1, r_bind, r_pure, r_const, r_seq, r_putV, r_add, r_getA, r_for, r_kF, r_unpU, r_unT, r_up0, r_up, r_rng2, if_pos_true, eq_self, String.reduceBEq, List.length_cons, List.length_nil, Nat.reduceAdd, hL5.tr, him5, getShort hT5, sr, Ev_some]
        have preR : H5 <+: H5 ++ [.range (sz : Int) ((L : Int) + 1) 1] := List.prefix_append _ _
        refine Ev.bind ((for_rule (items := upto sz (L + 1 - sz)) (I := fun q l H6 => IB H H5 p sz wi ch mo st t P n a (fun l => ∀ G, ldV (Str.ofString "distance") l G = some (.int d, G)) ((((List.range' sz (L + 1 - sz)).map fun L => (L, d)).take q).foldl (offer1 P n a) W) l H6)
          (Q := fun fl l H6 => fl = .next ∧ Grow [H.length + 7, H.length + 9] H5 H6 ∧ LL t st mo p (H.length + 1) (H.length + 3) a l ∧
            ∃ E W', DI (OO t st sz wi ch mo) P n a E W' ∧ WaysAt H6 (H.length + 3) (H.length + 2) (H.length + 7) (H.length + 9) n W' ∧
              W' = ((List.range' sz (L + 1 - sz)).map fun L => (L, d)).foldl (offer1 P n a) W) ?_ ?_ ?_ 64 0 _ _ ?_ ?_ ?_).mono ?_)
        · rintro q l H6 _
          exact rng_item rfl (by (exact Int.natCast_add _ _)) q
        · rintro q l H6 av ⟨g6, hL6, ld, E', W', hD', hW6, eW'⟩ hav
          obtain ⟨hq, rfl⟩ := upto_get hav
          have hp6 := hp5.ways hW5 g6
          have preP : H6 <+: H6 ++ [tupA (sz + q, d)] := List.prefix_append _ _
          have hg : ((List.range' sz (L + 1 - sz)).map fun L => ((L, d) : Stp))[q]? = some (sz + q, d) := by
            rw [List.getElem?_map, List.getElem?_range' hq, Nat.one_mul]; rfl
          have hO : (sz + q, d) ∈ OO t st sz wi ch mo a := offs_mem.mpr (.inr ⟨(L, d), List.mem_of_getElem? hm, by dsimp only; (exact Nat.le_add_right _ _), by dsimp only; lia, rfl⟩)
          obtain ⟨H7, p7, e7⟩ := s209 (L := sz + q) (d := d) (hp6.mono preP) hP (by lia) (by lia) m3 (by (exact Nat.lt_of_le_of_lt (by assumption) (by decide)))
          obtain ⟨ca', hca'⟩ := hD'.cur
          have hW7 := (hW6.mono preP).mono p7
          obtain ⟨H8, e8, hW8, o8⟩ := s144 (r := H6.length) (k := mpr P (sz + q) d) (s := (sz + q, d)) hW7 (pre_get p7 (by rw [app_at0]; rfl)) (by lia) (sz1_le (s := (sz + q, d)) (by show sz + q ≤ 20; lia)) (by lia) hca'
          rw [← show cost1 P (sz + q, d) = mpr P (sz + q) d from if_neg (by dsimp only; lia), ← offer1_eq hca'] at hW8
          have D8 := hD'.offer (s := (sz + q, d)) (by (exact Int.ofNat_lt.mp (by assumption))) hO
          have ck := chkPriA (p := p) (P := P) (x := Str.ofString "match") (hp6.mono preP) (.inr rfl)
          have gg : Grow [H.length + 7, H.length + 9] H6 H8 := ((grow_pre preP).trans (grow_pre p7)).trans o8.grow
          unfold tupA at e7 ck
          simp only [t_bind, t_s1, v_0, v_1, r_bind, r_pure, r_seq, r_ev, r_putV, r_next, r_exprK, r_chkI, r_chkF, if_pos_true, eq_self, String.reduceBEq, List.length_cons, List.length_nil, Nat.reduceAdd, Nat.reduceLeDiff, r_newT, hL6.w, hL6.a, hL6.p, ld, chkWay hW6 (.inl rfl), ck, e7, e8, Ev_some, aft1]
          refine ⟨g6.trans gg, (by first | exact hL6.upd (by decide +kernel) | exact (hL6.upd (by decide +kernel)).upd (by decide +kernel) | exact ((hL6.upd (by decide +kernel)).upd (by decide +kernel)).upd (by decide +kernel) | exact (((hL6.upd (by decide +kernel)).upd (by decide +kernel)).upd (by decide +kernel)).upd (by decide +kernel) | exact ((((hL6.upd (by decide +kernel)).upd (by decide +kernel)).upd (by decide +kernel)).upd (by decide +kernel)).upd (by decide +kernel)), fun G => by simp only [v_1, String.reduceBEq, ld], _, _, D8, hW8, ?_⟩
          · rw [take_succ' hg, List.foldl_append, ← eW']; rfl
        · rintro l H6 ⟨g6, hL6, _, E', W', hD', hW6, eW'⟩
          rw [upto_len, List.take_of_length_le (by rw [List.length_map, List.length_range']; (exact Nat.le_refl _))] at eW'
          exact ⟨rfl, g6, hL6, E', W', hD', hW6, eW'⟩
        · rw [upto_len]; lia
        · exact Nat.zero_le _
        · refine ⟨grow_pre preR, (by first | exact hL5.upd (by decide +kernel) | exact (hL5.upd (by decide +kernel)).upd (by decide +kernel) | exact ((hL5.upd (by decide +kernel)).upd (by decide +kernel)).upd (by decide +kernel) | exact (((hL5.upd (by decide +kernel)).upd (by decide +kernel)).upd (by decide +kernel)).upd (by decide +kernel) | exact ((((hL5.upd (by decide +kernel)).upd (by decide +kernel)).upd (by decide +kernel)).upd (by decide +kernel)).upd (by decide +kernel)), ?_, E, W, hD, hW5.mono preR, rfl⟩
          · simp only [v_0, eq_self, implies_true]
        · rintro ⟨fl, l, H6⟩ ⟨rfl, g6, hL6, E', W', hD', hW6, eW'⟩
          simp only [r_kS1, r_next, Ev_some, aft1]
          refine ⟨g5.trans g6, hL6, trivial, E', W', hD', hW6, ?_⟩
          rw [eW', eW, take_succ' hm, List.flatMap_append, ← List.cons_append, List.foldl_append, List.flatMap_cons, List.flatMap_nil, List.append_nil]
      · rintro l H5 ⟨g5, hL5, _, E, W, hD, hW5, eW⟩
        rw [hd0.len, List.take_length] at eW
        refine ⟨rfl, g5, hL5, ?_⟩
        have : W = dp t st sz wi ch mo P (a + 1) := by
          rw [eW]
          show _ = turn t st sz wi ch mo P (dp t st sz wi ch mo P a) a
          unfold turn
          rw [hn]; rfl
        rw [← this]; exact hW5
      · rw [hd0.len]; lia
      · lia
      · refine ⟨Grow.refl, (by first | exact hL.upd (by decide +kernel) | exact (hL.upd (by decide +kernel)).upd (by decide +kernel) | exact ((hL.upd (by decide +kernel)).upd (by decide +kernel)).upd (by decide +kernel) | exact (((hL.upd (by decide +kernel)).upd (by decide +kernel)).upd (by decide +kernel)).upd (by decide +kernel) | exact ((((hL.upd (by decide +kernel)).upd (by decide +kernel)).upd (by decide +kernel)).upd (by decide +kernel)).upd (by decide +kernel)), trivial, _, _, D1, hW4, rfl⟩
      · rintro ⟨fl, l, H5⟩ ⟨rfl, g5, hLe, hW5⟩
        have hLe : LL t st mo p (H.length + 1) (H.length + 3) a l := hLe
        simp only [t_bind, t_s1, t_n, v_0, v_1, r_ite, r_bind, r_pure, r_const, r_seq, r_kS1, r_ev, r_st, r_iteS, r_putV, r_tru1, r_add, r_no1, r_and, r_next, if_neg_false, String.reduceBEq, Bool.false_eq_true, hLe.a, hLe.e, Ev_some, aft1]
        have gall : Grow [H.length, fd, la, be, H.length + 7, H.length + 9] H1 H5 := ((g1.more (by simp)).trans (g24.more (by simp))).trans (g5.more (by simp))
        refine ⟨j, by lia, a + 1, st + a, by lia, by lia, ?_, hF4.ways hW4 g5 (by lia) (by lia), hT4.ways hW4 g5, hW5, hp4.ways hW4 g5, ⟨?_, ?_, ?_, ?_, ?_, ?_, ?_, ?_⟩⟩
        · refine ⟨Nat.le_trans hG.1 gall.1, fun i hi hni => ?_⟩
          rw [gall.2 i (Nat.lt_of_lt_of_le hi hG.1), hG.2 i hi hni]
          simp only [List.mem_cons, List.not_mem_nil, or_false] at hni ⊢
          lia
        · simp only [v_1, eq_self, String.reduceBEq, implies_true, hLe.tr]
        · simp only [v_1, eq_self, String.reduceBEq, implies_true, hLe.w]
        · intro G
          simp only [v_0]
          rfl
        · simp only [v_1, eq_self, String.reduceBEq, implies_true, hLe.st]
        · simp only [v_1, eq_self, String.reduceBEq, implies_true, hLe.mo]
        · simp only [v_1, eq_self, String.reduceBEq, implies_true, hLe.p]
        · simp only [v_1, eq_self, String.reduceBEq, implies_true, hLe.t]
        · simp only [v_1, eq_self, String.reduceBEq, implies_true, hLe.e]
  · lia
  · refine ⟨0, 0, by lia, by lia, grow_pre (List.prefix_append _ _), h.mono (List.prefix_append _ _), ⟨?_, ?_⟩, ⟨?_, ?_, by lia, ?_, ?_, ⟨repL [.none] (n + 1), ?_, ?_⟩, ?_⟩, hp.mono (List.prefix_append _ _), ⟨?_, ?_, ?_, ?_, ?_, ?_, ?_, ?_⟩⟩
    · rw [app_at]; rfl
    · rw [app_at0]; rfl
    · rw [app_at]; rfl
    · rw [app_at]; rfl
    · rw [app_at]
      show some _ = some _
      congr 2
      show _ = AV.int 0 :: (List.replicate (t.length - st) none).map optA
      rw [hn, repL_one, List.map_replicate]; rfl
    · show (some 0 :: List.replicate (t.length - st) none).length = _
      rw [List.length_cons, List.length_replicate, hn]
    · rw [app_at]; rfl
    · show DecO _ _ (List.replicate (t.length - st + 1) none)
      rw [hn]
      exact decO_none _
    · show (List.replicate (t.length - st + 1) none).length = _
      rw [List.length_replicate, hn]
    · simp only [v_0, eq_self, implies_true]
    · simp only [v_0, v_1, eq_self, String.reduceBEq, implies_true]
    · intro G
      simp only [v_0, v_1, String.reduceBEq]
      rfl
    · simp only [v_1, w_1, eq_self, String.reduceBEq, implies_true]
    · simp only [v_1, w_3, eq_self, String.reduceBEq, implies_true]
    · simp only [v_1, w_4, eq_self, String.reduceBEq, implies_true]
    · simp only [v_1, w_0, eq_self, String.reduceBEq, implies_true]
    · simp only [v_1, w_5, eq_self, String.reduceBEq, implies_true]
  · rintro ⟨fl, l, H'⟩ ⟨rfl, hG, hW, lw⟩
    dsimp only at lw hG hW
    have bs := best_spec (t := t) (st := st) (sz := sz) (wi := wi) (ch := ch) (mo := mo) (P := P)
    rw [hn] at bs
    obtain ⟨⟨v, H2⟩, e1, pre, j, xs, hv, hj, hd⟩ := s151 hW (by lia) bs.1
    dsimp only at pre hv hj hd
    subst hv
    simp only [t_bind, t_s2, r_bind, r_pure, r_seq, r_kS1, r_ev, r_ret, r_chkI, r_chkF, r_rB1, lw, chkWay hW (.inr rfl), e1, Ev_some]
    exact ⟨hG.trans (grow_pre pre), j, xs, rfl, hj, hd⟩
end
-- part S18
theorem pre_of_grow {S : List Nat} {H H1 H2 : AH} (p : H <+: H1) (g : Grow S H1 H2) (h : ∀ i ∈ S, H.length ≤ i) : H <+: H2 := by
  have e : ∀ i, i < H.length → H2[i]? = H[i]? := fun i hi => by
    have e1 := pre_get p (List.getElem?_eq_getElem hi)
    rw [g.get e1 (fun q => by have := h i q; lia), List.getElem?_eq_getElem hi]
  refine ⟨H2.drop H.length, ?_⟩
  have : H = H2.take H.length := by
    apply List.ext_getElem?
    intro i
    by_cases q : i < H.length
    · rw [List.getElem?_take_of_lt q, e i q]
    · rw [List.getElem?_eq_none (by (exact Nat.le_of_not_lt (by assumption))), List.getElem?_eq_none (by rw [List.length_take]; lia)]
  conv => lhs; lhs; rw [this]
  exact List.take_append_drop _ _
noncomputable def ShapeAt (H : AH) (sh sz wi ch mo : Nat) : Prop := H[sh]? = some (.tup [.int sz, .int wi, .int ch, .int mo])
section
variable {H : AH} {p sz wi ch mo st sh : Nat} {t : List UInt8} {P : Pr}
theorem s404 (hsh : ShapeAt H sh sz wi ch mo) (hp : PriAt H p P) (hP : P.ok) (ht : t.length ≤ 9) (hst : st ≤ t.length) (hs : 2 ≤ sz) (hs6 : sz ≤ 6) (hw : 1 ≤ wi) (hc1 : 1 ≤ ch) (hc : ch ≤ 20) :
    Ev (p404 [.bytes t, .int st, .ref sh, .ref p] H) fun x => H <+: x.2 ∧ ∃ j xs, x.1 = .ref j ∧ x.2[j]? = some (.list xs) ∧ Dec x.2 xs (best t st sz wi ch mo P) := by
  have nf := fun l => newFinder (H := H) (l := l) (sz := sz) (wi := wi) (ch := ch) ht (by (exact Nat.le_of_lt (by assumption))) hw hc1
  have pre : H <+: H ++ [finF t sz wi ch 0 (H.length + 3), .inst 388 H.length, rowF t sz (H.length + 4) (H.length + 6), .inst 254 (H.length + 2), .idict [], .list [.int (-1)], .list (repL [.int (-1)] t.length)] := List.prefix_append _ _
  have hF : FinAt (H ++ [finF t sz wi ch 0 (H.length + 3), .inst 388 H.length, rowF t sz (H.length + 4) (H.length + 6), .inst 254 (H.length + 2), .idict [], .list [.int (-1)], .list (repL [.int (-1)] t.length)])
      (H.length + 1) H.length (H.length + 3) (H.length + 2) (H.length + 4) (H.length + 6) t sz wi ch 0 := by
    refine ⟨?_, ?_, ⟨?_, ?_, ?_, ?_⟩⟩
    · rw [app_at]; rfl
    · rw [app_at0]; rfl
    · rw [app_at]; rfl
    · rw [app_at]; rfl
    · rw [app_at]; rfl
    · rw [app_at]
      show some (AObj.list _) = some (AObj.list _)
      congr 2
      show _ = (List.replicate t.length (-1)).map AV.int
      rw [repL_one, List.map_replicate]
  obtain ⟨⟨v, H2⟩, e1, g1, j, xs, hv, hj, hd⟩ := s166 (mo := mo) (st := st) hF (hp.mono pre) hP ht hst hs hs6 hc
  dsimp only at g1 hv hj hd
  subst hv
  unfold ShapeAt at hsh
  rw [e404]
  unfold b404
  simp only [t_bind, t_s1, t_s2, t_n, t_p, v_0, v_1, w_0, w_1, w_2, w_3, r_bind, r_pure, r_seq, r_ev, r_st, r_putV, r_ret, r_chkF, r_rB1, r_unpU, r_unT, r_up0, r_up, if_pos_true, eq_self, String.reduceBEq, List.length_cons, List.length_nil, Nat.reduceAdd, hsh, nf, e1, Ev_some]
  refine ⟨pre_of_grow pre g1 ?_, j, xs, rfl, hj, hd⟩
  intro i hi
  simp only [List.mem_cons, List.not_mem_nil, or_false] at hi
  lia
theorem pth_good (hs : 2 ≤ sz) (ht : t.length ≤ 9) : ∀ {r : List Stp} {a b : Nat}, Pth (OO t st sz wi ch mo) a r b → st + b ≤ t.length → (∀ s ∈ r, Good s) ∧ r.length + a ≤ b
  | [], a, b, h, _ => by cases h; exact ⟨fun _ hx => (nomatch hx), by show 0 + a ≤ a; (simp)⟩
  | s :: r, a, b, ⟨h1, h2⟩, hb => by
    have le := h2.le
    have ih := pth_good hs ht h2 hb
    have g := offs_good h1 hs ht (by lia)
    have := sz1_pos s
    refine ⟨fun x hx => ?_, by rw [List.length_cons]; lia⟩
    rcases List.mem_cons.mp hx with rfl | hx
    · exact g.1
    · exact ih.1 x hx
theorem best_good (hs : 2 ≤ sz) (ht : t.length ≤ 9) (hst : st ≤ t.length) : (∀ s ∈ best t st sz wi ch mo P, Good s) ∧ (best t st sz wi ch mo P).length ≤ 9 := by
  have b := (best_spec (t := t) (st := st) (sz := sz) (wi := wi) (ch := ch) (mo := mo) (P := P)).2.1
  have := pth_good hs ht b (by lia)
  exact ⟨this.1, by lia⟩
theorem s411 (hsh : ShapeAt H sh sz wi ch mo) (hp : PriAt H p P) (hP : P.ok) (ht : t.length ≤ 9) (hst : st ≤ t.length) (hs : 2 ≤ sz) (hs6 : sz ≤ 6) (hw : 1 ≤ wi) (hc1 : 1 ≤ ch) (hc : ch ≤ 20) :
    Ev (p411 [.bytes t, .int st, .ref sh, .ref p] H) fun x => H <+: x.2 ∧ x.1 = .int (cost P (best t st sz wi ch mo P)) := by
  obtain ⟨⟨v, H2⟩, e1, pre, j, xs, hv, hj, hd⟩ := s404 hsh hp hP ht hst hs hs6 hw hc1 hc
  dsimp only at pre hv hj hd
  subst hv
  obtain ⟨bg, bl⟩ := best_good (P := P) (wi := wi) (ch := ch) (mo := mo) hs ht hst
  obtain ⟨⟨v, H3⟩, e2, pre2, hv⟩ := s173 hj hd (hp.mono pre) hP bg (by (exact Nat.le_trans (by assumption) (by decide)))
  dsimp only at pre2 hv
  subst hv
  rw [e411]
  unfold b411
  simp only [t_bind, t_s2, w_0, w_1, w_2, w_3, r_bind, r_pure, r_seq, r_ev, r_ret, r_chkF, r_rB1, eq_self, String.reduceBEq, and_true, e1, e2, Ev_some]
  exact pre.trans pre2
/-- a digit of the pen -/
theorem s397 {q : Nat} {x m : Int} (hq : H[q]? = some (.list [.int x])) (hm : m ≠ 0) : p397 [.ref q, .int m] H = some (.int ((x.fmod 10).fmod m), H.set q (.list [.int (x.fdiv 10)])) := by
  have g : ∀ G, gI 0 G (some (.list [.int x])) = some (.int x, G) := fun G => gI_at (n := 0) rfl (by decide) rfl
  have s : ∀ G v, siL 0 v q G (some (.list [.int x])) = some ((), G.set q (.list [v])) := fun G v => siL_ok (n := 0) G rfl (by simp) (by simp)
  have c1 : ((10 : Int) = 0) = False := by decide
  have c2 : ((0 : Int) < 10) = True := by decide
  have c3 : ((10 : Int) < 1073741824) = True := by decide
  rw [e397]
  unfold b397
  simp only [t_bind, t_s1, t_s2, t_n, t_u, v_0, v_1, w_0, w_1, r_bind, r_const, r_seq, r_ev, r_st, r_putV, r_ret, r_upd, r_getI, r_rB1, if_pos_true, eq_self, ne_eq, String.reduceBEq, not_false_eq_true, and_self, r_setIL, r_mod, r_fdiv, hq, g, s, c1, c2, c3, hm]
theorem s437 {at_ ba : Nat} (ht : t.length ≤ 9) (h1 : 1 ≤ ba) (h2 : ba ≤ at_) (h3 : at_ ≤ t.length) :
    p437 [.bytes t, .int at_, .int ba, .int mo] H = some (.int (alk t at_ (at_ - ba) (min mo (t.length - at_)) 0 : Nat), H) := by
  have key : Ev (p437 [.bytes t, .int at_, .int ba, .int mo] H) fun x => x = (.int (alk t at_ (at_ - ba) (min mo (t.length - at_)) 0 : Nat), H) := by
    rw [e437]
    unfold b437
    generalize hlim : min mo (t.length - at_) = lim
    simp only [t_bind, t_s1, t_n, r_const, r_seq, r_ev, r_st, r_putV]
    refine Ev.rB (Ev.bind ((while_rule (I := fun j l H' => H' = H ∧ ∃ k, k + j = lim ∧ alk t at_ (at_ - ba) lim 0 = alk t at_ (at_ - ba) j k ∧ (∀ G, ldV (Str.ofString "found") l G = some (.int k, G)) ∧ (∀ G, ldV (Str.ofString "text") l G = some (.bytes t, G)) ∧
        (∀ G, ldV (Str.ofString "most") l G = some (.int mo, G)) ∧ (∀ G, ldV (Str.ofString "at") l G = some (.int at_, G)) ∧ (∀ G, ldV (Str.ofString "back") l G = some (.int ba, G)))
      (Q := fun f l H' => f = .next ∧ H' = H ∧ ∀ G, ldV (Str.ofString "found") l G = some (.int (alk t at_ (at_ - ba) lim 0 : Nat), G)) ?_ 64 lim _ _ ?_ ?_).mono ?_))
    · rintro j l H' ⟨rfl, k, hk, hal, lk, lo, ll, lp, lt⟩
      cases j with
      | zero =>
        by_cases c1 : (k : Int) < (mo : Int)
        · have c2 : ¬ ((at_ : Int) + (k : Int) < (t.length : Int)) := by lia
          simp only [t_bind, t_s1, t_n, r_ite, r_bind, r_pure, r_const, r_seq, r_ev, r_st, r_putV, r_tru1, r_add, r_lt, r_and, r_next, if_pos_true, if_neg_false, eq_self, decide_true, decide_false, Bool.false_eq_true, true_and, lk, ll, lp, lo, lenb_ok ht, c1, c2, Ev_some]
          rw [hal]; exact fun _ => rfl
        · simp only [t_bind, t_s1, t_n, r_ite, r_bind, r_pure, r_const, r_seq, r_ev, r_st, r_putV, r_tru1, r_add, r_lt, r_and, r_next, if_neg_false, eq_self, decide_false, Bool.false_eq_true, true_and, lk, ll, c1, Ev_some]
          rw [hal]; exact fun _ => rfl
      | succ j =>
        have c1 : (k : Int) < (mo : Int) := by lia
        have c2 : (at_ : Int) + (k : Int) < (t.length : Int) := by lia
        have g1 := fun L G => getI_oc (t := t) (k := (at_ : Int) + (k : Int)) (n := at_ + k) (by (exact Int.natCast_add _ _)) (by (exact Int.ofNat_lt.mp (by assumption))) ht L G
        have g2 := fun L G => getI_oc (t := t) (k := (at_ : Int) + (k : Int) - (ba : Int)) (n := at_ - ba + k) (by lia) (by lia) ht L G
        rw [alk_succ] at hal
        by_cases q : oc t (at_ + k) = oc t (at_ - ba + k)
        · rw [if_pos q] at hal
          simp only [t_bind, t_s1, t_n, v_0, v_1, r_ite, r_bind, r_pure, r_const, r_seq, r_ev, r_st, r_putV, r_tru1, r_add, r_sub, r_lt, r_eq, r_and, r_next, if_pos_true, eq_self, String.reduceBEq, decide_true, and_self, and_true, true_and, implies_true, lk, lo, ll, lp, lt, lenb_ok ht, c1, c2, g1, g2, q, Ev_some, aft1]
          exact ⟨j, by (exact Nat.lt_succ_self _), k + 1, by lia, hal, fun _ => rfl⟩
        · rw [if_neg q] at hal
          have q' : ¬ ((oc t (at_ + k) : Int) = (oc t (at_ - ba + k) : Int)) := by (exact mt Int.ofNat_inj.mp (by assumption))
          simp only [t_bind, t_s1, t_n, r_ite, r_bind, r_pure, r_const, r_seq, r_ev, r_st, r_putV, r_tru1, r_add, r_sub, r_lt, r_eq, r_and, r_next, if_pos_true, if_neg_false, eq_self, decide_true, decide_false, Bool.false_eq_true, true_and, lk, lo, ll, lp, lt, lenb_ok ht, c1, c2, g1, g2, q', Ev_some]
          rw [hal]; exact fun _ => rfl
    · lia
    · simp only [v_0, v_1, w_0, w_1, w_2, w_3, eq_self, String.reduceBEq, and_self, and_true, true_and, implies_true]
      exact ⟨0, by (exact Nat.add_comm _ _), rfl, fun _ => rfl⟩
    · rintro ⟨f, l, H'⟩ ⟨rfl, rfl, lk⟩
      dsimp only at lk
      simp only [t_bind, t_s2, r_seq, r_kS1, r_ev, r_ret, r_rB1, eq_self, lk, Ev_some]
  obtain ⟨x, e, rfl⟩ := key
  exact e
end
-- part M2
-- which steps are offered
section
variable {t : List UInt8} {sz wi ch mo p : Nat}
theorem prv_ge {m : Int} : ∀ k q : Nat, q < k → kn t sz q = some m → (q : Int) ≤ prv t sz m k
  | 0, q, h, _ => by (contradiction)
  | k + 1, q, h, e => by
    show (q : Int) ≤ if kn t sz k = some m then (k : Int) else prv t sz m k
    split
    · lia
    · rename_i z
      by_cases qk : q = k
      · subst qk; exact absurd e z
      · exact prv_ge k q (by lia) e
theorem cnd_le {m : Int} : ∀ (c : Nat) (o : Int), -1 ≤ o → ∀ x ∈ cnd t sz wi p m c o, (x : Int) ≤ o ∧ (p : Int) - x ≤ wi
  | 0, _, _, _, hx => by cases hx
  | c + 1, o, h1, x, hx => by
    rw [cnd_succ] at hx
    split at hx
    · cases hx
    · rename_i q
      rcases List.mem_cons.mp hx with rfl | hx
      · lia
      · have := prv_lt (t := t) (sz := sz) (m := m) o.toNat
        have ih := cnd_le c _ this.2 x hx
        lia
theorem cnd_sorted {m : Int} : ∀ (c : Nat) (o : Int), -1 ≤ o → (cnd t sz wi p m c o).Pairwise (· > ·)
  | 0, _, _ => .nil
  | c + 1, o, h1 => by
    rw [cnd_succ]
    split
    · exact .nil
    · have := prv_lt (t := t) (sz := sz) (m := m) o.toNat
      refine .cons (fun x hx => ?_) (cnd_sorted c _ this.2)
      have := cnd_le c _ this.2 x hx
      lia
theorem cnd_all {m : Int} : ∀ (c : Nat) (o : Int) (q : Nat), kn t sz q = some m → (q : Int) ≤ o → (p : Int) - q ≤ wi → o + 1 ≤ c → q ∈ cnd t sz wi p m c o
  | 0, o, q, _, h1, _, h3 => by lia
  | c + 1, o, q, hq, h1, h2, h3 => by
    rw [cnd_succ, if_neg (by lia)]
    by_cases e : (q : Int) = o
    · rw [← e, Int.toNat_natCast]; exact .head _
    · have := prv_ge (t := t) (sz := sz) (m := m) o.toNat q (by lia) hq
      have := prv_lt (t := t) (sz := sz) (m := m) o.toNat
      exact .tail _ (cnd_all c _ q hq (by omega) h2 (by lia))
theorem cnd_pre {m : Int} {wi' : Nat} (hw : wi ≤ wi') : ∀ (c c' : Nat) (o : Int), c ≤ c' → cnd t sz wi p m c o <+: cnd t sz wi' p m c' o
  | 0, c', o, _ => List.nil_prefix
  | c + 1, 0, o, h => by (contradiction)
  | c + 1, c' + 1, o, h => by
    rw [cnd_succ]
    split
    · exact List.nil_prefix
    · rename_i q
      rw [cnd_succ, if_neg (by lia)]
      exact List.cons_prefix_cons.mpr ⟨rfl, cnd_pre hw c c' _ (by lia)⟩
theorem cands_wi : ∀ x ∈ cands t sz wi ch p, p - x ≤ wi := by
  rw [cands_eq]
  intro x hx
  have := cnd_le _ _ newest_lt.2 x hx
  lia
theorem cands_sorted : (cands t sz wi ch p).Pairwise (· > ·) := by
  rw [cands_eq]
  exact cnd_sorted _ _ newest_lt.2
theorem cands_pre {wi' ch' : Nat} (hw : wi ≤ wi') (hc : ch ≤ ch') : cands t sz wi ch p <+: cands t sz wi' ch' p := by
  rw [cands_eq, cands_eq]
  exact cnd_pre hw _ _ _ hc
theorem cands_all {m : Int} {q : Nat} (h1 : kn t sz q = some m) (h2 : kn t sz p = some m) (h3 : q < p) (h4 : p - q ≤ wi) (h5 : p ≤ ch) : q ∈ cands t sz wi ch p := by
  rw [cands_eq, h2]
  have e : newestF t sz p = prv t sz m p := by unfold newestF; rw [h2]
  rw [e]
  have := prv_lt (t := t) (sz := sz) (m := m) p
  exact cnd_all _ _ _ h1 (prv_ge p q h3 h1) (by lia) (by lia)
theorem alk_eq {o : Nat} : ∀ r k i, k ≤ i → i < alk t p o r k → oc t (p + i) = oc t (o + i)
  | 0, k, i, h1, h2 => by
    have : alk t p o 0 k = k := rfl
    lia
  | r + 1, k, i, h1, h2 => by
    rw [alk_succ] at h2
    split at h2
    · rename_i e
      by_cases q : i = k
      · subst q; exact e
      · exact alk_eq r (k + 1) i (by lia) h2
    · lia
theorem alk_ge {o L : Nat} : ∀ r k, L ≤ k + r → (∀ i, k ≤ i → i < L → oc t (p + i) = oc t (o + i)) → L ≤ alk t p o r k ∨ L ≤ k
  | 0, k, h1, _ => .inr (by omega)
  | r + 1, k, h1, h2 => by
    by_cases q : L ≤ k
    · exact .inr q
    · rw [alk_succ, if_pos (h2 k (Nat.le_refl _) (by (exact Nat.lt_of_not_le (by assumption))))]
      rcases alk_ge r (k + 1) (by lia) (fun i a b => h2 i (by (exact Nat.le_of_lt (by assumption))) b) with h | h
      · exact .inl h
      · have := (alk_le (t := t) (p := p) (o := o) r (k + 1)).2
        exact .inl (by (exact Nat.le_trans (by assumption) (by assumption)))
theorem ev_cover {lim L o : Nat} : ∀ {cs : List Nat} {lg : Nat}, cs.Pairwise (· > ·) → o ∈ cs → lg < L → L ≤ alk t p o lim 0 → ∃ m ∈ evF t p lim cs lg, L ≤ m.1 ∧ m.2 ≤ p - o
  | [], _, _, h, _, _ => by cases h
  | o1 :: os, lg, hp, ho, h1, h2 => by
    have al := (alk_le (t := t) (p := p) (o := o) lim 0).1
    obtain ⟨hp1, hp2⟩ := List.pairwise_cons.mp hp
    rw [ev_cons, if_neg (by lia)]
    by_cases q : oc t (o1 + lg) = oc t (p + lg) ∧ lg < alk t p o1 lim 0
    · rw [if_pos q]
      by_cases q2 : L ≤ alk t p o1 lim 0
      · refine ⟨_, .head _, q2, ?_⟩
        rcases List.mem_cons.mp ho with rfl | ho
        · exact Nat.le_refl _
        · have := hp1 o ho
          dsimp only; lia
      · rcases List.mem_cons.mp ho with rfl | ho
        · exact absurd h2 q2
        · obtain ⟨m, a, b⟩ := ev_cover (lg := alk t p o1 lim 0) hp2 ho (by (exact Nat.lt_of_not_le (by assumption))) h2
          exact ⟨m, .tail _ a, b⟩
    · rw [if_neg q]
      rcases List.mem_cons.mp ho with rfl | ho
      · exact absurd ⟨(alk_eq lim 0 lg (by (exact Nat.zero_le _)) (by (exact Nat.lt_of_lt_of_le (by assumption) (by assumption)))).symm, by (exact Nat.lt_of_lt_of_le (by assumption) (by assumption))⟩ q
      · exact ev_cover hp2 ho h1 h2
/-- what is offered fits -/
theorem off_sound {s : Stp} (h : s ∈ offs t sz wi ch mo p) (hp : p ≤ t.length) (h0 : s.1 ≠ 0) : sz ≤ s.1 ∧ s.1 ≤ mo ∧ s.2 ≤ wi ∧ Run t p s.1 s.2 := by
  rcases offs_mem.mp h with rfl | ⟨m, hm, h1, h2, h3⟩
  · exact absurd rfl h0
  · obtain ⟨hm1, hm2⟩ := List.mem_filter.mp hm
    obtain ⟨o, ho, e, _⟩ := ev_mem hm1
    have al := (alk_le (t := t) (p := p) (o := o) (min mo (t.length - p)) 0).1
    have lt := cands_lt o ho
    have wd := cands_wi o ho
    rw [e] at h2 h3
    dsimp only at h2 h3
    refine ⟨h1, by lia, by lia, by lia, by lia, by lia, fun i hi => ?_⟩
    rw [alk_eq (o := o) (min mo (t.length - p)) 0 i (by (exact Nat.zero_le _)) (by (exact Nat.lt_of_lt_of_le (by assumption) (by assumption))), h3]
    congr 1
    lia
/-- a place with the same octets, among those looked at -/
theorem off_cover {o L : Nat} (ho : o ∈ cands t sz wi ch p) (h1 : sz ≤ L) (h0 : 1 ≤ sz) (h2 : L ≤ alk t p o (min mo (t.length - p)) 0) : ∃ d', d' ≤ p - o ∧ (L, d') ∈ offs t sz wi ch mo p := by
  obtain ⟨m, hm, m1, m2⟩ := ev_cover (lg := sz - 1) cands_sorted ho (by lia) h2
  refine ⟨m.2, m2, offs_mem.mpr (.inr ⟨m, List.mem_filter.mpr ⟨hm, by simp; (exact Nat.le_trans (by assumption) (by assumption))⟩, h1, m1, rfl⟩)⟩
theorem off_mono {s : Stp} {wi' ch' mo' : Nat} (h : s ∈ offs t sz wi ch mo p) (h0 : s.1 ≠ 0) (hs : 1 ≤ sz) (hw : wi ≤ wi') (hc : ch ≤ ch') (hm : mo ≤ mo') : ∃ d', d' ≤ s.2 ∧ (s.1, d') ∈ offs t sz wi' ch' mo' p := by
  rcases offs_mem.mp h with rfl | ⟨m, hmm, h1, h2, h3⟩
  · exact absurd rfl h0
  · obtain ⟨hm1, hm2⟩ := List.mem_filter.mp hmm
    obtain ⟨o, ho, e, _⟩ := ev_mem hm1
    have al := alk_le (t := t) (p := p) (o := o) (min mo (t.length - p)) 0
    rw [e] at h2 h3
    dsimp only at h2 h3
    rw [h3]
    refine off_cover ((cands_pre hw hc).subset ho) h1 hs ?_
    rcases alk_ge (t := t) (p := p) (o := o) (L := s.1) (min mo' (t.length - p)) 0 (by lia) (fun i a b => alk_eq (min mo (t.length - p)) 0 i a (by (exact Nat.lt_of_lt_of_le (by assumption) (by assumption)))) with h | h
    · exact h
    · lia
theorem kn_eq {o : Nat} (h1 : p + sz ≤ t.length) (h2 : o ≤ p) (h : ∀ i, i < sz → oc t (p + i) = oc t (o + i)) : kn t sz o = kn t sz p := by
  unfold kn
  rw [if_pos h1, if_pos (by lia)]
  congr 2
  apply List.ext_getElem?
  intro i
  by_cases q : i < sz
  · rw [List.getElem?_take_of_lt q, List.getElem?_take_of_lt q, List.getElem?_drop, List.getElem?_drop]
    have e := h i q
    unfold oc at e
    rw [List.getD_eq_getElem?_getD, List.getD_eq_getElem?_getD, List.getElem?_eq_getElem (by (exact Nat.lt_of_lt_of_le (Nat.add_lt_add_left (by assumption) _) (by assumption))), List.getElem?_eq_getElem (by lia)] at e
    rw [List.getElem?_eq_getElem (by lia), List.getElem?_eq_getElem (by lia)]
    exact congrArg some (UInt8.toNat_inj.mp e.symm)
  · rw [List.getElem?_eq_none (by rw [List.length_take]; lia), List.getElem?_eq_none (by rw [List.length_take]; lia)]
/-- with a chain that reaches everything all that fits is offered, or nearer -/
theorem off_full {L d : Nat} (hc : p ≤ ch) (hs : 1 ≤ sz) (h1 : sz ≤ L) (h2 : L ≤ mo) (h3 : d ≤ wi) (hr : Run t p L d) : ∃ d', d' ≤ d ∧ (L, d') ∈ offs t sz wi ch mo p := by
  obtain ⟨r1, r2, r3, r4⟩ := hr
  have e : ∀ i, i < L → oc t (p + i) = oc t (p - d + i) := fun i hi => by
    rw [r4 i hi]
    congr 1
    lia
  have ke : kn t sz (p - d) = kn t sz p := kn_eq (by lia) (by (exact Nat.sub_le _ _)) (fun i hi => e i (by (exact Nat.lt_of_lt_of_le (by assumption) (by assumption))))
  have kp : kn t sz p = some (num ((t.drop p).take sz)) := if_pos (by lia)
  have hc := cands_all (wi := wi) (ch := ch) (ke.trans kp) kp (by lia) (by lia) hc
  obtain ⟨d', h, h'⟩ := off_cover (mo := mo) (L := L) hc h1 hs (by
    rcases alk_ge (t := t) (p := p) (o := p - d) (L := L) (min mo (t.length - p)) 0 (by lia) (fun i a b => e i b) with h | h
    · exact h
    · lia)
  exact ⟨d', by lia, h'⟩
theorem off_lit : (0, oc t p) ∈ offs t sz wi ch mo p := .head _
theorem off_zero {s : Stp} (h : s ∈ offs t sz wi ch mo p) (hs : 1 ≤ sz) (h0 : s.1 = 0) : s = (0, oc t p) := by
  rcases offs_mem.mp h with h | ⟨m, hm, h1, h2, h3⟩
  · exact h
  · lia
end
-- prices
theorem ext_mono {a b : Nat} (h : a ≤ b) (hb : b < 20) : ext a ≤ ext b := by
  have k : ∀ b : Fin 20, ∀ a : Fin 20, a.val ≤ b.val → ext a.val ≤ ext b.val := by decide +kernel
  exact k ⟨b, hb⟩ ⟨a, by (exact Nat.lt_of_le_of_lt (by assumption) (by assumption))⟩ h
theorem ext_nonneg {a : Nat} (h : a < 20) : 0 ≤ ext a := ext_mono (Nat.zero_le a) h
theorem mpr_mono {P : Pr} (hP : P.ok) {L L' d d' : Nat} (h1 : L' ≤ L) (h2 : d' ≤ d) (h3 : L < 20) (h4 : d < 20) : mpr P L' d' ≤ mpr P L d := by
  have e1 := ext_mono (show L' - 2 ≤ L - 2 by omega) (by lia)
  have e2 := ext_mono (show d' - 1 ≤ d - 1 by lia) (by lia)
  unfold mpr
  have := Int.mul_le_mul_of_nonneg_left (show ext (L' - 2) + ext (d' - 1) ≤ ext (L - 2) + ext (d - 1) by lia) hP.2.2.1
  lia
theorem mpr_nonneg {P : Pr} (hP : P.ok) {L d : Nat} (h3 : L < 20) (h4 : d < 20) : 0 ≤ mpr P L d := by
  have e1 := ext_nonneg (show L - 2 < 20 by lia)
  have e2 := ext_nonneg (show d - 1 < 20 by lia)
  have := Int.mul_nonneg hP.2.2.1 (show 0 ≤ ext (L - 2) + ext (d - 1) by (exact Int.add_nonneg (by assumption) (by assumption)))
  have := hP.2.1
  unfold mpr
  exact Int.add_nonneg (by assumption) (by assumption)
theorem cost1_nonneg {P : Pr} (hP : P.ok) {s : Stp} (h : Good s) : 0 ≤ cost1 P s := by
  unfold cost1
  split
  · exact hP.1
  · rename_i q
    obtain ⟨_, h1, _, h2⟩ := h.resolve_left q
    exact mpr_nonneg hP h1 h2
theorem cost_nonneg {P : Pr} (hP : P.ok) : ∀ {r : List Stp}, (∀ s ∈ r, Good s) → 0 ≤ cost P r
  | [], _ => Int.le_refl _
  | s :: r, h => by
    have a := cost1_nonneg hP (h s (.head _))
    have b := cost_nonneg hP fun x hx => h x (.tail _ hx)
    show 0 ≤ cost1 P s + cost P r
    exact Int.add_nonneg (by assumption) (by assumption)
-- part M3
theorem map_path {O O' : Nat → List Stp} {P : Pr} {B : Nat} (h : ∀ a s, a + sz1 s ≤ B → s ∈ O a → ∃ s', s' ∈ O' a ∧ sz1 s' = sz1 s ∧ cost1 P s' ≤ cost1 P s) :
    ∀ {r : List Stp} {a b : Nat}, b ≤ B → Pth O a r b → ∃ r', Pth O' a r' b ∧ cost P r' ≤ cost P r
  | [], a, b, _, hp => ⟨[], hp, Int.le_refl _⟩
  | s :: r, a, b, hb, ⟨h1, h2⟩ => by
    have le := h2.le
    obtain ⟨s', e1, e2, e3⟩ := h a s (by (exact Nat.le_trans (by assumption) (by assumption))) h1
    obtain ⟨r', e4, e5⟩ := map_path h hb h2
    refine ⟨s' :: r', ⟨e1, by rw [e2]; exact e4⟩, ?_⟩
    show cost1 P s' + cost P r' ≤ cost1 P s + cost P r
    lia
theorem step_le {P : Pr} (hP : P.ok) {s : Stp} {d' : Nat} (h0 : s.1 ≠ 0) (hd : d' ≤ s.2) (h1 : s.1 < 20) (h2 : s.2 < 20) : sz1 (s.1, d') = sz1 s ∧ cost1 P (s.1, d') ≤ cost1 P s := by
  refine ⟨rfl, ?_⟩
  unfold cost1
  rw [if_neg h0, if_neg h0]
  exact mpr_mono hP (Nat.le_refl _) hd h1 h2
noncomputable abbrev CC (t : List UInt8) (st sz wi ch mo : Nat) (P : Pr) : Int := cost P (best t st sz wi ch mo P)
section
variable {t : List UInt8} {st sz wi ch mo : Nat} {P : Pr}
theorem best_le {r : List Stp} (h : Pth (OO t st sz wi ch mo) 0 r (t.length - st)) : CC t st sz wi ch mo P ≤ cost P r := best_spec.2.2 r h
/-- more is offered: no dearer -/
theorem wide_le {wi' ch' mo' : Nat} (hP : P.ok) (ht : t.length ≤ 9) (hst : st ≤ t.length) (hs : 1 ≤ sz) (hw : wi ≤ wi') (hc : ch ≤ ch') (hm : mo ≤ mo') : CC t st sz wi' ch' mo' P ≤ CC t st sz wi ch mo P := by
  obtain ⟨r', h1, h2⟩ := map_path (O' := OO t st sz wi' ch' mo') (P := P) (B := t.length - st) (fun a s hb hs' => by
    by_cases q : s.1 = 0
    · exact ⟨s, by rw [off_zero hs' hs q]; exact off_lit, rfl, Int.le_refl _⟩
    · obtain ⟨d', d1, d2⟩ := off_mono hs' q hs hw hc hm
      obtain ⟨g1, g2, g3, g4, g5, g6, g7⟩ := off_sound hs' (by have := sz1_pos s; lia) q
      exact ⟨(s.1, d'), d2, step_le hP q d1 (by lia) (by lia)⟩) (Nat.le_refl _) (best_spec (t := t) (st := st) (sz := sz) (wi := wi) (ch := ch) (mo := mo) (P := P)).2.1
  exact Int.le_trans (best_le h1) h2
/-- a shorter shortest match: no dearer, where the chain reaches all -/
theorem short_le {sz' : Nat} (hP : P.ok) (ht : t.length ≤ 9) (hst : st ≤ t.length) (hs : 1 ≤ sz) (hz : sz ≤ sz') (hc : t.length ≤ ch) : CC t st sz wi ch mo P ≤ CC t st sz' wi ch mo P := by
  obtain ⟨r', h1, h2⟩ := map_path (O' := OO t st sz wi ch mo) (P := P) (B := t.length - st) (fun a s hb hs' => by
    by_cases q : s.1 = 0
    · exact ⟨s, by rw [off_zero hs' (by (exact Nat.lt_of_lt_of_le (by assumption) (by assumption))) q]; exact off_lit, rfl, Int.le_refl _⟩
    · have := sz1_pos s
      obtain ⟨g1, g2, g3, g4⟩ := off_sound hs' (by lia) q
      obtain ⟨d', d1, d2⟩ := off_full (ch := ch) (sz := sz) (by lia) hs (by (exact Nat.le_trans (by assumption) (by assumption))) g2 g3 g4
      obtain ⟨g5, g6, g7, g8⟩ := g4
      exact ⟨(s.1, d'), d2, step_le hP q d1 (by lia) (by lia)⟩) (Nat.le_refl _) (best_spec (t := t) (st := st) (sz := sz') (wi := wi) (ch := ch) (mo := mo) (P := P)).2.1
  exact Int.le_trans (best_le h1) h2
-- it fits
theorem pth_fit (hs : 1 ≤ sz) : ∀ {r : List Stp} {a : Nat}, Pth (OO t 0 sz wi ch mo) a r t.length → Fit t sz mo wi a r
  | [], a, h => h
  | s :: r, a, ⟨h1, h2⟩ => by
    have le := h2.le
    have := sz1_pos s
    have h1 : s ∈ offs t sz wi ch mo a := by have := h1; rw [OO, Nat.zero_add] at this; exact this
    refine ⟨?_, pth_fit hs h2⟩
    split
    · rename_i q
      rw [off_zero h1 hs q]
      exact ⟨by (exact Nat.lt_of_lt_of_le (Nat.add_lt_add_left (by assumption) _) (by assumption)), rfl⟩
    · rename_i q
      exact off_sound h1 (by (exact Nat.le_trans (Nat.le_add_right _ _) (by assumption))) q
theorem best_fit (hs : 1 ≤ sz) : Fit t sz mo wi 0 (best t 0 sz wi ch mo P) := pth_fit hs best_spec.2.1
-- all prices doubled
noncomputable def Pr.dbl (P : Pr) : Pr := ⟨2 * P.lit, 2 * P.mat, 2 * P.bit⟩
theorem cost1_dbl {s : Stp} : cost1 P.dbl s = 2 * cost1 P s := by
  unfold cost1 mpr Pr.dbl
  split
  · rfl
  · dsimp only
    rw [Int.mul_assoc]; lia
noncomputable def dblW (W : Ws) : Ws := (W.1.map (Option.map (2 * ·)), W.2)
theorem getD_map {l : List (Option Int)} {i : Nat} : (l.map (Option.map (2 * ·))).getD i none = (l.getD i none).map (2 * ·) := by
  rw [List.getD_eq_getElem?_getD, List.getD_eq_getElem?_getD, List.getElem?_map]
  cases l[i]? <;> rfl
theorem offer_dbl {n a : Nat} {c k : Int} {W : Ws} {s : Stp} : offer n a (2 * c) (dblW W) s (2 * k) = dblW (offer n a c W s k) := by
  unfold offer
  split
  · rfl
  · rw [show (dblW W).1 = W.1.map (Option.map (2 * ·)) from rfl, getD_map]
    have e : (W.1.map (Option.map (2 * ·))).set (a + sz1 s) (some (2 * c + 2 * k)) = (W.1.set (a + sz1 s) (some (c + k))).map (Option.map (2 * ·)) := by
      rw [List.map_set, ← Int.mul_add]; rfl
    cases W.1.getD (a + sz1 s) none with
    | none => exact Prod.ext e rfl
    | some o =>
      show (if 2 * c + 2 * k < 2 * o then _ else _) = dblW (if c + k < o then _ else _)
      by_cases q : c + k < o
      · rw [if_pos q, if_pos (by lia)]
        exact Prod.ext e rfl
      · rw [if_neg q, if_neg (by lia)]
theorem offer1_dbl {n a : Nat} {W : Ws} {s : Stp} : offer1 P.dbl n a (dblW W) s = dblW (offer1 P n a W s) := by
  unfold offer1
  rw [cost1_dbl, show (dblW W).1 = W.1.map (Option.map (2 * ·)) from rfl, getD_map]
  have e : ((W.1.getD a none).map (2 * ·)).getD 0 = 2 * (W.1.getD a none).getD 0 := by cases W.1.getD a none <;> rfl
  rw [e, offer_dbl]
theorem fold_dbl {n a : Nat} : ∀ (l : List Stp) (W : Ws), l.foldl (offer1 P.dbl n a) (dblW W) = dblW (l.foldl (offer1 P n a) W)
  | [], W => rfl
  | s :: l, W => by
    rw [List.foldl_cons, List.foldl_cons, offer1_dbl, fold_dbl l]
theorem dp_dbl : ∀ k, dp t st sz wi ch mo P.dbl k = dblW (dp t st sz wi ch mo P k)
  | 0 => by
    show (_, _) = ((some 0 :: List.replicate (t.length - st) none).map _, _)
    rw [List.map_cons, List.map_replicate]; rfl
  | k + 1 => by
    show turn t st sz wi ch mo P.dbl (dp t st sz wi ch mo P.dbl k) k = dblW (turn t st sz wi ch mo P (dp t st sz wi ch mo P k) k)
    rw [dp_dbl k]
    exact fold_dbl _ _
theorem best_dbl : best t st sz wi ch mo P.dbl = best t st sz wi ch mo P := by
  unfold best
  rw [dp_dbl]; rfl
-- the matches' price turned by one
noncomputable def nm (r : List Stp) : Nat := (r.filter fun s => decide (0 < s.1)).length
theorem nm_cons {s : Stp} {r : List Stp} : nm (s :: r) = (if s.1 = 0 then 0 else 1) + nm r := by
  unfold nm
  rw [List.filter_cons]
  by_cases q : s.1 = 0
  · rw [if_neg (by simp [q]), if_pos q]; (simp)
  · rw [if_pos (by simp; (exact Nat.pos_of_ne_zero (by assumption))), if_neg q, List.length_cons]; (exact Nat.add_comm _ _)
theorem cost_turn {li m b k : Int} : ∀ r : List Stp, cost ⟨li, m + k, b⟩ r = cost ⟨li, m, b⟩ r + k * nm r
  | [] => by show (0 : Int) = 0 + k * (0 : Nat); simp
  | s :: r => by
    show cost1 _ s + cost _ r = cost1 _ s + cost _ r + _
    rw [cost_turn r, nm_cons]
    unfold cost1 mpr
    dsimp only
    by_cases q : s.1 = 0
    · rw [if_pos q, if_pos q, if_pos q, Nat.zero_add]; lia
    · rw [if_neg q, if_neg q, if_neg q]
      have : k * ((1 + nm r : Nat) : Int) = k + k * (nm r : Int) := by
        rw [Int.natCast_add, Int.mul_add]; simp
      lia
theorem dearer {li m b : Int} : CC t st sz wi ch mo ⟨li, m, b⟩ ≤ CC t st sz wi ch mo ⟨li, m + 1, b⟩ ∧ CC t st sz wi ch mo ⟨li, m + 1, b⟩ ≤ CC t st sz wi ch mo ⟨li, m, b⟩ + nm (best t st sz wi ch mo ⟨li, m, b⟩) := by
  have h1 := cost_turn (li := li) (m := m) (b := b) (k := 1) (best t st sz wi ch mo ⟨li, m + 1, b⟩)
  have h2 := cost_turn (li := li) (m := m) (b := b) (k := 1) (best t st sz wi ch mo ⟨li, m, b⟩)
  have b1 := best_le (t := t) (st := st) (sz := sz) (wi := wi) (ch := ch) (mo := mo) (P := ⟨li, m, b⟩) (best_spec (P := ⟨li, m + 1, b⟩)).2.1
  have b2 := best_le (t := t) (st := st) (sz := sz) (wi := wi) (ch := ch) (mo := mo) (P := ⟨li, m + 1, b⟩) (best_spec (P := ⟨li, m, b⟩)).2.1
  unfold CC at *
  lia
theorem cheaper {li m b : Int} : CC t st sz wi ch mo ⟨li, m - 1, b⟩ + nm (best t st sz wi ch mo ⟨li, m, b⟩) ≤ CC t st sz wi ch mo ⟨li, m, b⟩ := by
  have h2 := cost_turn (li := li) (m := m) (b := b) (k := -1) (best t st sz wi ch mo ⟨li, m, b⟩)
  have b2 := best_le (t := t) (st := st) (sz := sz) (wi := wi) (ch := ch) (mo := mo) (P := ⟨li, m - 1, b⟩) (best_spec (P := ⟨li, m, b⟩)).2.1
  rw [show m + -1 = m - 1 by rfl] at h2
  unfold CC at *
  omega
theorem cost_both {P Q : Pr} : ∀ r : List Stp, cost ⟨P.lit + Q.lit, P.mat + Q.mat, P.bit + Q.bit⟩ r = cost P r + cost Q r
  | [] => rfl
  | s :: r => by
    show cost1 _ s + cost _ r = cost1 _ s + cost _ r + (cost1 _ s + cost _ r)
    rw [cost_both r]
    unfold cost1 mpr
    dsimp only
    split
    · lia
    · rw [Int.add_mul]; lia
theorem both {P Q : Pr} : CC t st sz wi ch mo P + CC t st sz wi ch mo Q ≤ CC t st sz wi ch mo ⟨P.lit + Q.lit, P.mat + Q.mat, P.bit + Q.bit⟩ := by
  have h := cost_both (P := P) (Q := Q) (best t st sz wi ch mo ⟨P.lit + Q.lit, P.mat + Q.mat, P.bit + Q.bit⟩)
  have b1 := best_le (t := t) (st := st) (sz := sz) (wi := wi) (ch := ch) (mo := mo) (P := P) (best_spec (P := ⟨P.lit + Q.lit, P.mat + Q.mat, P.bit + Q.bit⟩)).2.1
  have b2 := best_le (t := t) (st := st) (sz := sz) (wi := wi) (ch := ch) (mo := mo) (P := Q) (best_spec (P := ⟨P.lit + Q.lit, P.mat + Q.mat, P.bit + Q.bit⟩)).2.1
  unfold CC at *
  lia
end
-- part S19
/-- the law's own table: what it reckons -/
noncomputable def lng (t : List UInt8) (wi mo at_ : Nat) : Int := maxI (0 :: (List.range (min at_ wi)).map fun i => ((alk t at_ (at_ - (1 + i)) (min mo (t.length - at_)) 0 : Nat) : Int))
noncomputable def few1 (t : List UInt8) (sz wi mo at_ : Nat) (fs : List Int) : Int :=
  1 + minI (fs.getD (at_ + 1) 0 :: (List.range ((lng t wi mo at_).toNat + 1 - sz)).map fun i => fs.getD (at_ + (sz + i)) 0)
noncomputable def fw (t : List UInt8) (sz wi mo : Nat) : Nat → List Int
  | 0 => List.replicate (t.length + 1) 0
  | m + 1 => (fw t sz wi mo m).set (t.length - 1 - m) (few1 t sz wi mo (t.length - 1 - m) (fw t sz wi mo m))
theorem fw_len {t : List UInt8} {sz wi mo : Nat} : ∀ m, (fw t sz wi mo m).length = t.length + 1
  | 0 => List.length_replicate
  | m + 1 => by
    show ((fw t sz wi mo m).set _ _).length = _
    rw [List.length_set, fw_len m]
theorem lng_facts {t : List UInt8} {wi mo at_ : Nat} (h : at_ ≤ t.length) : ∃ L : Nat, lng t wi mo at_ = (L : Int) ∧ at_ + L ≤ t.length := by
  have sp := maxI_spec (ns := 0 :: (List.range (min at_ wi)).map fun i => ((alk t at_ (at_ - (1 + i)) (min mo (t.length - at_)) 0 : Nat) : Int)) (Nat.succ_pos _)
  rcases List.mem_cons.mp sp.1 with e | e
  · exact ⟨0, e, h⟩
  · obtain ⟨i, _, e⟩ := List.mem_map.mp e
    have := alk_le (t := t) (p := at_) (o := at_ - (1 + i)) (min mo (t.length - at_)) 0
    exact ⟨_, e.symm, by lia⟩
noncomputable def pD (a : AV) (l : Loc) (i : Nat) (H : AH) (o : Option AObj) : Option (Loc × AH) := match o with
  | some (.cell _) => some (l, H.set i (.cell (some a)))
  | _ => none
noncomputable def pC (a : AV) (l : Loc) (H : AH) (i : Option Nat) : Option (Loc × AH) := match i with
  | some i => pD a l i H H[i]?
  | none => none
noncomputable def mxL (all : List Int → Int) (H : AH) (o : Option AObj) : Option (AV × AH) := match o with
  | some (.list xs) => (match intsOf xs with
    | some ns => if 0 < ns.length then some (.int (all ns), H) else none
    | none => none)
  | _ => none
section
variable (l : Loc) (H : AH)
theorem r_putC {x : Str} {a : AV} : putC x a l H = pC a l H (l.c x) := by
  unfold putC pC
  cases l.c x with
  | none => rfl
  | some i =>
    show (match H[i]? with | some (.cell _) => some (l, H.set i (.cell (some a))) | _ => none) = pD a l i H H[i]?
    unfold pD
    rfl
theorem q_pC {a : AV} {i : Nat} : pC a l H (some i) = pD a l i H H[i]? := rfl
theorem q_pD {a : AV} {i : Nat} {o : Option AV} : pD a l i H (some (.cell o)) = some (l, H.set i (.cell (some a))) := rfl
theorem c_upd {x : Str} {a : AV} : (updL l x a).c = l.c := rfl
theorem c_comp {fr : List Str} {y : Str} : (compLoc fr l).c y = if y ∈ fr then l.c y else none := rfl
theorem c_locC {bs : List (Str × AV)} {cn : List Str} {k : Nat} : (locOfC bs cn k).c = ixOf cn k := rfl
theorem r_maxL {i : Nat} : maxB [.ref i] l H = mxL maxI H H[i]? := by
  unfold maxB foldB
  dsimp only
  rw [r_bind, lstOf_at]
  unfold mxL
  cases H[i]? with
  | none => rfl
  | some o =>
    cases o <;> try rfl
    rename_i xs
    rw [bn_some, r_kE]
    dsimp only
    cases intsOf xs with
    | none => rfl
    | some ns => exact r_ite l H
theorem r_minL {i : Nat} : minB [.ref i] l H = mxL minI H H[i]? := by
  unfold minB foldB
  dsimp only
  rw [r_bind, lstOf_at]
  unfold mxL
  cases H[i]? with
  | none => rfl
  | some o =>
    cases o <;> try rfl
    rename_i xs
    rw [bn_some, r_kE]
    dsimp only
    cases intsOf xs with
    | none => rfl
    | some ns => exact r_ite l H
end
theorem ints_map : ∀ ns : List Int, intsOf (ns.map AV.int) = some ns
  | [] => rfl
  | n :: ns => by
    show (intsOf (ns.map AV.int)).map (n :: ·) = _
    rw [ints_map ns]; rfl
theorem mx_ok {all : List Int → Int} {H : AH} {a : Int} {ns : List Int} : mxL all H (some (.list (.int a :: ns.map AV.int))) = some (.int (all (a :: ns)), H) := by
  show (match intsOf ((a :: ns).map AV.int) with | some ns => if 0 < ns.length then some (AV.int (all ns), H) else none | none => none) = _
  rw [ints_map]
  exact if_pos (Nat.succ_pos _)
theorem comp_map {x : Str} {E : M AV} {a b : Nat} {A B : Int} {L : Loc} {H1 HH : AH} {d : Nat} {f : Nat → Int} (hd : d = H1.length) (hH : HH = H1 ++ [.list []]) (hA : A = (a : Int)) (hB : B = (b : Int)) (hm : b - a ≤ 60)
    (hE : ∀ k acc l, k < b - a → l.c = L.c → E (updL l x (.int ((a + k : Nat) : Int))) (H1 ++ [.list acc]) = some (.int (f k), H1 ++ [.list acc])) :
    compM (.rng A B 1) x (M.pure true) E d 64 0 L HH = some (H1 ++ [.list (((List.range (b - a)).map f).map AV.int)]) := by
  subst hd hH
  have key : Ev (compM (.rng A B 1) x (M.pure true) E H1.length 64 0 L (H1 ++ [.list []])) fun H' => H' = H1 ++ [.list (((List.range (b - a)).map f).map AV.int)] := by
    refine (comp_rule (items := upto a (b - a)) (I := fun k l H' => k ≤ b - a ∧ H' = H1 ++ [.list (((List.range k).map f).map AV.int)] ∧ l.c = L.c) ?_ ?_ 64 0 _ _ ?_ ?_ ?_).mono ?_
    · rintro k l H' _
      exact rng_item hA hB k
    · rintro k l H' av ⟨_, rfl, hc⟩ hav
      obtain ⟨hk, rfl⟩ := upto_get hav
      have c1 : (((List.range k).map f).map AV.int).length < 1000000 := by rw [List.length_map, List.length_map, List.length_range]; (exact Nat.lt_of_lt_of_le (Nat.lt_of_lt_of_le (by assumption) (by assumption)) (by decide))
      simp only [r_pure, if_pos_true, eq_self, app_at0, cons_at0, set_app0, List.set_cons_zero, r_app, q_app, Ev_some, hE k _ _ hk hc, c1]
      refine ⟨hk, ?_, hc⟩
      rw [List.range_succ, List.map_append, List.map_append]; rfl
    · rw [upto_len]; (exact Nat.lt_of_le_of_lt (by assumption) (by decide))
    · exact Nat.zero_le _
    · exact ⟨Nat.zero_le _, rfl, rfl⟩
    · rintro H' ⟨l', _, e, _⟩
      rw [upto_len] at e
      exact e
  obtain ⟨x, e, rfl⟩ := key
  exact e
theorem down_size (n : Nat) : Builtin.Range.rangeSize ((n : Int) - 1) (-1) (-1) = (n : Int) := by
  unfold Builtin.Range.rangeSize
  rw [if_neg (by decide)]
  split
  · rw [show -(-1 : Int) = 1 by decide, Int.ediv_one]; (simp)
  · lia
theorem down_item {H : AH} {n : Nat} (k : Nat) : (Src.rng ((n : Int) - 1) (-1) (-1)).item k H = some ((List.range n).map fun i => AV.int ((n - 1 - i : Nat) : Int))[k]? := by
  show some (if (k : Int) < Builtin.Range.rangeSize ((n : Int) - 1) (-1) (-1) then some (AV.int ((n : Int) - 1 + k * (-1))) else none) = _
  rw [down_size, List.getElem?_map]
  by_cases q : k < n
  · rw [if_pos (by (exact Int.ofNat_lt.mpr (by assumption))), List.getElem?_range q]
    show _ = some (some _)
    congr 3
    omega
  · rw [if_neg (by (exact mt Int.ofNat_lt.mp (by assumption))), List.getElem?_eq_none (by simpa using q)]; rfl
theorem src_down {H : AH} {j : Nat} {n : Nat} (h : H[j]? = some (.range ((n : Int) - 1) (-1) (-1))) (hn : n < 1000) : srcOf (.ref j) H = some (.rng ((n : Int) - 1) (-1) (-1)) := by
  unfold srcOf
  dsimp only
  rw [h]
  dsimp only
  rw [if_pos]
  have f : ∀ x : Int, -2000 ≤ x → x ≤ 2000 → Builtin.Range.rangeFitsLong x = true := fun x h1 h2 => by
    unfold Builtin.Range.rangeFitsLong
    rw [Bool.and_eq_true, decide_eq_true_eq, decide_eq_true_eq]
    exact ⟨by lia, by lia⟩
  unfold Builtin.Range.small
  rw [down_size, f _ (by lia) (by lia), f (-1) (by decide) (by decide), f _ (by (exact Int.natCast_nonneg _)) (by lia), if_neg (by decide), f _ (by (exact Int.natCast_nonneg _)) (by (exact Int.natCast_nonneg _)), Bool.or_true]
  rfl
theorem r_rng3 {n : Nat} (l : Loc) (H : AH) : rngB [.int ((n : Int) - 1), .int (-1), .int (-1)] l H = some (.ref H.length, H ++ [.range ((n : Int) - 1) (-1) (-1)]) := by
  have e : ∀ x, Builtin.divisionGoesByPylong x (-1) = false := fun x => by
    unfold Builtin.divisionGoesByPylong
    have : ((if ((-1 : Int) == 0) = true then 0 else (Int.natAbs (-1)).log2 / 30 + 1) > 300) = False := by
      rw [eq_iff_iff]
      refine ⟨fun h => ?_, False.elim⟩
      revert h
      decide +kernel
    simp only [this, decide_false, Bool.false_and]
  show (if (-1 : Int) ≠ 0 ∧ Builtin.divisionGoesByPylong (-1 - ((n : Int) - 1)) (-1) = false then newO (.range ((n : Int) - 1) (-1) (-1)) else M.fail) l H = _
  rw [if_pos ⟨by decide, e _⟩]; rfl
-- part M4
section
variable {t : List UInt8} {st sz wi ch mo cut : Nat} {P : Pr}
theorem pth_shift : ∀ {r : List Stp} {a b : Nat}, Pth (OO t st sz wi ch mo) a r b ↔ Pth (OO t 0 sz wi ch mo) (st + a) r (st + b)
  | [], a, b => by show a = b ↔ st + a = st + b; (simp)
  | s :: r, a, b => by
    show s ∈ offs t sz wi ch mo (st + a) ∧ _ ↔ s ∈ offs t sz wi ch mo (0 + (st + a)) ∧ _
    rw [Nat.zero_add, pth_shift (r := r), Nat.add_assoc]
theorem mem_OO {s : Stp} {a : Nat} : s ∈ OO t 0 sz wi ch mo a ↔ s ∈ offs t sz wi ch mo a := by
  show s ∈ offs t sz wi ch mo (0 + a) ↔ _
  rw [Nat.zero_add]
/-- literals alone -/
theorem lits : ∀ (k a : Nat), ∃ r', Pth (OO t 0 sz wi ch mo) a r' (a + k) ∧ cost P r' = k * P.lit
  | 0, a => ⟨[], rfl, by show (0 : Int) = (0 : Nat) * _; simp⟩
  | k + 1, a => by
    obtain ⟨r', h1, h2⟩ := lits k (a + 1)
    refine ⟨(0, oc t a) :: r', ⟨mem_OO.mpr off_lit, ?_⟩, ?_⟩
    · rw [show a + (k + 1) = a + 1 + k by lia]; exact h1
    · show P.lit + cost P r' = _
      rw [h2]
      have : ((k + 1 : Nat) : Int) * P.lit = (k : Int) * P.lit + P.lit := by rw [Int.natCast_add, Int.add_mul]; simp
      lia
theorem lits_le (hP : P.ok) {k : Nat} (h : k ≤ sz - 1) (hs : 1 ≤ sz) : (k : Int) * P.lit ≤ ((sz : Int) - 1) * P.lit := Int.mul_le_mul_of_nonneg_right (by lia) hP.1
theorem left_nonneg (hP : P.ok) (hs : 1 ≤ sz) : 0 ≤ ((sz : Int) - 1) * P.lit := Int.mul_nonneg (by lia) hP.1
theorem oc_take {k : Nat} (h : k < cut) : oc (t.take cut) k = oc t k := by
  unfold oc
  rw [List.getD_eq_getElem?_getD, List.getD_eq_getElem?_getD, List.getElem?_take_of_lt h]
theorem run_take {a L d : Nat} (hc : cut ≤ t.length) (h : a + L ≤ cut) : Run (t.take cut) a L d ↔ Run t a L d := by
  have hl : (t.take cut).length = cut := by rw [List.length_take]; (exact Nat.min_eq_left (by assumption))
  unfold Run
  rw [hl]
  constructor
  · rintro ⟨h1, h2, h3, h4⟩
    refine ⟨by (exact Nat.le_trans (by assumption) (by assumption)), h2, h3, fun i hi => ?_⟩
    have := h4 i hi
    rw [oc_take (by (exact Nat.lt_of_lt_of_le (Nat.add_lt_add_left (by assumption) _) (by assumption))), oc_take (by lia)] at this
    exact this
  · rintro ⟨h1, h2, h3, h4⟩
    refine ⟨by omega, h2, h3, fun i hi => ?_⟩
    rw [oc_take (by (exact Nat.lt_of_lt_of_le (Nat.add_lt_add_left (by assumption) _) (by assumption))), oc_take (by lia)]
    exact h4 i hi
theorem run_part {a L d k : Nat} (h : Run t a L d) (hk : k ≤ L) : Run t a k d := by
  obtain ⟨h1, h2, h3, h4⟩ := h
  exact ⟨by lia, h2, h3, fun i hi => h4 i (by (exact Nat.lt_of_lt_of_le (by assumption) (by assumption)))⟩
theorem run_end {a L d k : Nat} (h : Run t a L d) (hk : k ≤ L) : Run t (a + k) (L - k) d := by
  obtain ⟨h1, h2, h3, h4⟩ := h
  refine ⟨by lia, h2, by lia, fun i hi => ?_⟩
  have := h4 (k + i) (by lia)
  rw [show a + k + i = a + (k + i) by (exact Nat.add_assoc _ _ _)]
  exact this
/-- a whole costs no more than its two parts -/
theorem parts_ge (hP : P.ok) (ht : t.length ≤ 9) (hs : 1 ≤ sz) (hc : cut ≤ t.length) (hch : t.length ≤ ch) : CC t 0 sz wi ch mo P ≤ CC (t.take cut) 0 sz wi ch mo P + CC t cut sz wi ch mo P := by
  have hl : (t.take cut).length = cut := by rw [List.length_take]; (exact Nat.min_eq_left (by assumption))
  have b1 := (best_spec (t := t.take cut) (st := 0) (sz := sz) (wi := wi) (ch := ch) (mo := mo) (P := P)).2.1
  rw [hl] at b1
  obtain ⟨r', h1, h2⟩ := map_path (O' := OO t 0 sz wi ch mo) (P := P) (B := cut) (fun a s hb hs' => by
    have hs' := mem_OO.mp hs'
    have := sz1_pos s
    by_cases q : s.1 = 0
    · refine ⟨s, ?_, rfl, Int.le_refl _⟩
      rw [off_zero hs' hs q, oc_take (by (exact Nat.lt_of_lt_of_le (Nat.add_lt_add_left (by assumption) _) (by assumption)))]
      exact mem_OO.mpr off_lit
    · obtain ⟨g1, g2, g3, g4⟩ := off_sound hs' (by lia) q
      have e1 : sz1 s = s.1 := if_neg q
      have g4 := (run_take hc (by lia)).mp g4
      obtain ⟨d', d1, d2⟩ := off_full (ch := ch) (sz := sz) (by lia) hs g1 g2 g3 g4
      obtain ⟨g5, g6, g7, g8⟩ := g4
      exact ⟨(s.1, d'), mem_OO.mpr d2, step_le hP q d1 (by lia) (by lia)⟩) (Nat.sub_le cut 0) b1
  have b2 := pth_shift.mp (best_spec (t := t) (st := cut) (sz := sz) (wi := wi) (ch := ch) (mo := mo) (P := P)).2.1
  rw [show cut + (t.length - cut) = t.length - 0 by (exact Nat.add_sub_cancel' (by assumption)), Nat.add_zero] at b2
  have := best_le (h1.append b2) (P := P)
  rw [cost_append] at this
  unfold CC at *
  lia
theorem ahead_path (hP : P.ok) (ht : t.length ≤ 9) (hs : 1 ≤ sz) (hc : cut ≤ t.length) (hch : t.length ≤ ch) : ∀ {r : List Stp} {a : Nat}, a ≤ cut → Pth (OO t 0 sz wi ch mo) a r t.length → (∀ s ∈ r, Good s) →
    ∃ r', Pth (OO (t.take cut) 0 sz wi ch mo) a r' cut ∧ cost P r' ≤ cost P r + ((sz : Int) - 1) * P.lit
  | [], a, ha, hp, _ => by
    have hp : a = t.length := hp
    have : a = cut := by lia
    subst this
    exact ⟨[], rfl, by have := left_nonneg (P := P) hP hs; show (0 : Int) ≤ 0 + _; lia⟩
  | s :: r, a, ha, ⟨h1, h2⟩, hg => by
    have hl : (t.take cut).length = cut := by rw [List.length_take]; (exact Nat.min_eq_left (by assumption))
    have nn := cost_nonneg hP hg
    have nr := cost_nonneg hP fun x hx => hg x (.tail s hx)
    have le := h2.le
    have ln := left_nonneg (P := P) hP hs
    have h1 := mem_OO.mp h1
    have pos := sz1_pos s
    have ec : cost P (s :: r) = cost1 P s + cost P r := rfl
    by_cases hac : a = cut
    · subst hac
      exact ⟨[], rfl, by show (0 : Int) ≤ _; (exact Int.add_nonneg (by assumption) (by assumption))⟩
    · by_cases q : s.1 = 0
      · have e := off_zero h1 hs q
        have e1 : sz1 s = 1 := if_pos q
        obtain ⟨r', p1, p2⟩ := ahead_path hP ht hs hc hch (by lia) h2 fun x hx => hg x (.tail s hx)
        refine ⟨s :: r', ⟨?_, p1⟩, ?_⟩
        · refine mem_OO.mpr ?_
          rw [e, ← oc_take (t := t) (cut := cut) (by lia)]
          exact off_lit
        · show cost1 P s + cost P r' ≤ _
          lia
      · obtain ⟨g1, g2, g3, g4⟩ := off_sound h1 (by (exact Nat.le_trans (by assumption) (by assumption))) q
        have e1 : sz1 s = s.1 := if_neg q
        have g4' := g4
        obtain ⟨g5, g6, g7, g8⟩ := g4'
        by_cases hb : a + s.1 ≤ cut
        · obtain ⟨d', d1, d2⟩ := off_full (ch := ch) (sz := sz) (by lia) hs g1 g2 g3 ((run_take hc hb).mpr g4)
          have sl := step_le hP q d1 (by lia) (by lia)
          obtain ⟨r', p1, p2⟩ := ahead_path hP ht hs hc hch (by lia) h2 fun x hx => hg x (.tail s hx)
          refine ⟨(s.1, d') :: r', ⟨mem_OO.mpr d2, by rw [sl.1]; exact p1⟩, ?_⟩
          show cost1 P (s.1, d') + cost P r' ≤ _
          lia
        · by_cases hz : sz ≤ cut - a
          · obtain ⟨d', d1, d2⟩ := off_full (t := t.take cut) (p := a) (ch := ch) (sz := sz) (mo := mo) (wi := wi) (L := cut - a) (by lia) hs hz (by lia) g3 ((run_take hc (by lia)).mpr (run_part g4 (by lia)))
            refine ⟨[(cut - a, d')], ⟨mem_OO.mpr d2, ?_⟩, ?_⟩
            · show a + sz1 (cut - a, d') = cut
              rw [show sz1 (cut - a, d') = cut - a from if_neg (by show cut - a ≠ 0; lia)]
              exact Nat.add_sub_cancel' (by assumption)
            · have : cost1 P (cut - a, d') ≤ cost1 P s := by
                unfold cost1
                rw [if_neg q, if_neg (by show cut - a ≠ 0; lia)]
                refine mpr_mono hP ?_ d1 ?_ ?_ <;> (try dsimp only) <;> lia
              show cost1 P (cut - a, d') + 0 ≤ _
              lia
          · obtain ⟨r', p1, p2⟩ := lits (t := t.take cut) (sz := sz) (wi := wi) (ch := ch) (mo := mo) (P := P) (cut - a) a
            rw [show a + (cut - a) = cut by (exact Nat.add_sub_cancel' (by assumption))] at p1
            have := lits_le (P := P) (sz := sz) hP (k := cut - a) (by lia) hs
            exact ⟨r', p1, by lia⟩
theorem behind_path (hP : P.ok) (ht : t.length ≤ 9) (hs : 1 ≤ sz) (hc : cut ≤ t.length) (hch : t.length ≤ ch) : ∀ {r : List Stp} {a : Nat}, a ≤ cut → Pth (OO t 0 sz wi ch mo) a r t.length → (∀ s ∈ r, Good s) →
    ∃ r', Pth (OO t 0 sz wi ch mo) cut r' t.length ∧ cost P r' ≤ cost P r + ((sz : Int) - 1) * P.lit
  | [], a, ha, hp, _ => by
    have hp : a = t.length := hp
    have : a = cut := by lia
    subst this
    exact ⟨[], hp, by have := left_nonneg (P := P) hP hs; show (0 : Int) ≤ 0 + _; lia⟩
  | s :: r, a, ha, ⟨h1, h2⟩, hg => by
    have nr := cost_nonneg hP fun x hx => hg x (.tail s hx)
    have n1 := cost1_nonneg hP (hg s (.head _))
    have le := h2.le
    have ln := left_nonneg (P := P) hP hs
    have pos := sz1_pos s
    have ec : cost P (s :: r) = cost1 P s + cost P r := rfl
    by_cases hac : a = cut
    · subst hac
      exact ⟨s :: r, ⟨h1, h2⟩, by lia⟩
    · have h1 := mem_OO.mp h1
      by_cases hb : a + sz1 s ≤ cut
      · obtain ⟨r', p1, p2⟩ := behind_path hP ht hs hc hch hb h2 fun x hx => hg x (.tail s hx)
        exact ⟨r', p1, by lia⟩
      · have q : s.1 ≠ 0 := fun q => by
          have e1 : sz1 s = 1 := if_pos q
          lia
        obtain ⟨g1, g2, g3, g4⟩ := off_sound h1 (by (exact Nat.le_trans (by assumption) (by assumption))) q
        have e1 : sz1 s = s.1 := if_neg q
        have g4' := g4
        obtain ⟨g5, g6, g7, g8⟩ := g4'
        have g9 := run_end g4 (k := cut - a) (by lia)
        rw [show a + (cut - a) = cut by (exact Nat.add_sub_cancel' (by assumption))] at g9
        by_cases hz : sz ≤ s.1 - (cut - a)
        · obtain ⟨d', d1, d2⟩ := off_full (t := t) (p := cut) (ch := ch) (sz := sz) (mo := mo) (wi := wi) (L := s.1 - (cut - a)) (by (exact Nat.le_trans (by assumption) (by assumption))) hs hz (by lia) g3 g9
          refine ⟨(s.1 - (cut - a), d') :: r, ⟨mem_OO.mpr d2, ?_⟩, ?_⟩
          · rw [show sz1 (s.1 - (cut - a), d') = s.1 - (cut - a) from if_neg (by show s.1 - (cut - a) ≠ 0; lia), show cut + (s.1 - (cut - a)) = a + sz1 s by lia]
            exact h2
          · have : cost1 P (s.1 - (cut - a), d') ≤ cost1 P s := by
              unfold cost1
              rw [if_neg q, if_neg (by show s.1 - (cut - a) ≠ 0; lia)]
              refine mpr_mono hP ?_ d1 ?_ ?_ <;> (try dsimp only) <;> lia
            show cost1 P (s.1 - (cut - a), d') + cost P r ≤ _
            lia
        · obtain ⟨r', p1, p2⟩ := lits (t := t) (sz := sz) (wi := wi) (ch := ch) (mo := mo) (P := P) (s.1 - (cut - a)) cut
          rw [show cut + (s.1 - (cut - a)) = a + sz1 s by lia] at p1
          have := lits_le (P := P) (sz := sz) hP (k := s.1 - (cut - a)) (by omega) hs
          refine ⟨r' ++ r, p1.append h2, ?_⟩
          rw [cost_append]
          lia
theorem parts_le (hP : P.ok) (ht : t.length ≤ 9) (hs : 2 ≤ sz) (hc : cut ≤ t.length) (hch : t.length ≤ ch) :
    CC (t.take cut) 0 sz wi ch mo P ≤ CC t 0 sz wi ch mo P + ((sz : Int) - 1) * P.lit ∧ CC t cut sz wi ch mo P ≤ CC t 0 sz wi ch mo P + ((sz : Int) - 1) * P.lit := by
  have hl : (t.take cut).length = cut := by rw [List.length_take]; (exact Nat.min_eq_left (by assumption))
  have b := (best_spec (t := t) (st := 0) (sz := sz) (wi := wi) (ch := ch) (mo := mo) (P := P)).2.1
  have bg := (best_good (t := t) (st := 0) (sz := sz) (wi := wi) (ch := ch) (mo := mo) (P := P) hs ht (by (exact Nat.zero_le _))).1
  constructor
  · obtain ⟨r', p1, p2⟩ := ahead_path hP ht (by (exact Nat.le_of_lt (by assumption))) hc hch (Nat.zero_le cut) b bg
    have := best_le (t := t.take cut) (st := 0) (P := P) (r := r') (by rw [hl]; exact p1)
    unfold CC at *
    exact Int.le_trans (by assumption) (by assumption)
  · obtain ⟨r', p1, p2⟩ := behind_path hP ht (by (exact Nat.le_of_lt (by assumption))) hc hch (Nat.zero_le cut) b bg
    have := best_le (t := t) (st := cut) (P := P) (r := r') (pth_shift.mpr (by rw [show cut + (t.length - cut) = t.length by (exact Nat.add_sub_cancel' (by assumption))]; exact p1))
    unfold CC at *
    exact Int.le_trans (by assumption) (by assumption)
-- the fewest steps
theorem cost_len : ∀ r : List Stp, cost ⟨1, 1, 0⟩ r = r.length
  | [] => rfl
  | s :: r => by
    show cost1 _ s + cost _ r = _
    rw [cost_len r, List.length_cons]
    have : cost1 ⟨1, 1, 0⟩ s = 1 := by
      unfold cost1 mpr
      split
      · rfl
      · dsimp only
        simp
    rw [this]; lia
/-- the least number of steps from a place to the end -/
noncomputable def Fewest (O : Nat → List Stp) (n a : Nat) (v : Int) : Prop := (∃ r, Pth O a r n ∧ (r.length : Int) = v) ∧ ∀ r, Pth O a r n → v ≤ (r.length : Int)
theorem lng_iff {a L : Nat} (ha : a < t.length) (hs : 1 ≤ sz) (hz : sz ≤ L) (hch : t.length ≤ ch) : (L : Int) ≤ lng t wi mo a ↔ ∃ d, (L, d) ∈ offs t sz wi ch mo a := by
  have sp := maxI_spec (ns := 0 :: (List.range (min a wi)).map fun i => ((alk t a (a - (1 + i)) (min mo (t.length - a)) 0 : Nat) : Int)) (Nat.succ_pos _)
  constructor
  · intro h
    rcases List.mem_cons.mp sp.1 with e | e
    · have : lng t wi mo a = 0 := e
      lia
    · obtain ⟨i, hi, e⟩ := List.mem_map.mp e
      rw [List.mem_range] at hi
      have e : ((alk t a (a - (1 + i)) (min mo (t.length - a)) 0 : Nat) : Int) = lng t wi mo a := e
      have al := alk_le (t := t) (p := a) (o := a - (1 + i)) (min mo (t.length - a)) 0
      have hr : Run t a L (1 + i) := ⟨by lia, by (exact Nat.le_add_right _ _), by lia, fun j hj => by
        rw [alk_eq (o := a - (1 + i)) (min mo (t.length - a)) 0 j (by (exact Nat.zero_le _)) (by lia)]
        congr 1
        lia⟩
      obtain ⟨d', _, h⟩ := off_full (ch := ch) (sz := sz) (wi := wi) (mo := mo) (by lia) hs hz (by lia) (by lia) hr
      exact ⟨d', h⟩
  · rintro ⟨d, h⟩
    obtain ⟨g1, g2, g3, g4, g5, g6, g7⟩ := off_sound h (by (exact Nat.le_of_lt (by assumption))) (by show L ≠ 0; lia)
    dsimp only at g1 g2 g3 g4 g5 g6 g7
    have : (L : Int) ≤ ((alk t a (a - d) (min mo (t.length - a)) 0 : Nat) : Int) := by
      rcases alk_ge (t := t) (p := a) (o := a - d) (L := L) (min mo (t.length - a)) 0 (by lia) (fun i _ hi => by
        rw [g7 i hi]
        congr 1
        lia) with h | h
      · exact Int.ofNat_le.mpr (by assumption)
      · lia
    refine Int.le_trans this (sp.2 _ (.tail _ (List.mem_map.mpr ⟨d - 1, List.mem_range.mpr (by lia), ?_⟩)))
    rw [show 1 + (d - 1) = d by (exact Nat.add_sub_cancel' (by assumption))]
theorem fw_at {m a : Nat} (h : t.length - m ≤ a) (hm : m + 1 ≤ t.length) : (fw t sz wi mo (m + 1)).getD a 0 = (fw t sz wi mo m).getD a 0 := by
  show ((fw t sz wi mo m).set (t.length - 1 - m) _).getD a 0 = _
  rw [List.getD_eq_getElem?_getD, List.getElem?_set_ne (by lia), ← List.getD_eq_getElem?_getD]
theorem fw_few (hs : 1 ≤ sz) (hch : t.length ≤ ch) : ∀ m a, m ≤ t.length → t.length - m ≤ a → a ≤ t.length → Fewest (OO t 0 sz wi ch mo) t.length a ((fw t sz wi mo m).getD a 0)
  | 0, a, _, h1, h2 => by
    have : a = t.length := by lia
    subst this
    have e : (fw t sz wi mo 0).getD t.length 0 = 0 := by
      show (List.replicate (t.length + 1) (0 : Int)).getD t.length 0 = 0
      rw [List.getD_eq_getElem?_getD, List.getElem?_replicate]
      split <;> rfl
    rw [e]
    exact ⟨⟨[], rfl, rfl⟩, fun r _ => by (exact Int.natCast_nonneg _)⟩
  | m + 1, a, hm, h1, h2 => by
    by_cases q : t.length - m ≤ a
    · rw [fw_at q (by omega)]
      exact fw_few hs hch m a (by (exact Nat.le_of_lt (by assumption))) q h2
    · have ha : a = t.length - 1 - m := by lia
      have e : (fw t sz wi mo (m + 1)).getD a 0 = few1 t sz wi mo a (fw t sz wi mo m) := by
        show ((fw t sz wi mo m).set (t.length - 1 - m) _).getD a 0 = _
        rw [← ha, List.getD_eq_getElem?_getD, List.getElem?_set_self (by rw [fw_len]; lia)]; rfl
      rw [e]
      unfold few1
      obtain ⟨L, eL, hL⟩ := lng_facts (t := t) (wi := wi) (mo := mo) (at_ := a) (by omega)
      have li := fun k (hk : sz ≤ k) => lng_iff (t := t) (sz := sz) (wi := wi) (ch := ch) (mo := mo) (a := a) (L := k) (by lia) hs hk hch
      rw [eL] at li ⊢
      rw [Int.toNat_natCast]
      generalize hF : fw t sz wi mo m = F
      have ih := fun b (h1 : t.length - m ≤ b) (h2 : b ≤ t.length) => fw_few hs hch m b (by (exact Nat.le_of_lt (by assumption))) h1 h2
      rw [hF] at ih
      have sp := minI_spec (ns := F.getD (a + 1) 0 :: (List.range (L + 1 - sz)).map fun i => F.getD (a + (sz + i)) 0) (Nat.succ_pos _)
      generalize minI (F.getD (a + 1) 0 :: (List.range (L + 1 - sz)).map fun i => F.getD (a + (sz + i)) 0) = M at sp
      refine ⟨?_, fun r hr => ?_⟩
      · rcases List.mem_cons.mp sp.1 with e | e
        · obtain ⟨⟨r, r1, r2⟩, _⟩ := ih (a + 1) (by lia) (by lia)
          refine ⟨(0, oc t a) :: r, ⟨mem_OO.mpr off_lit, r1⟩, ?_⟩
          rw [List.length_cons, e]; lia
        · obtain ⟨i, hi, e⟩ := List.mem_map.mp e
          rw [List.mem_range] at hi
          obtain ⟨d, hd⟩ := (li (sz + i) (by (exact Nat.le_add_right _ _))).mp (by lia)
          obtain ⟨⟨r, r1, r2⟩, _⟩ := ih (a + (sz + i)) (by lia) (by lia)
          refine ⟨(sz + i, d) :: r, ⟨mem_OO.mpr hd, ?_⟩, ?_⟩
          · rw [show sz1 (sz + i, d) = sz + i from if_neg (by show sz + i ≠ 0; lia)]
            exact r1
          · rw [List.length_cons, ← e]; lia
      · cases r with
        | nil =>
          have : a = t.length := hr
          lia
        | cons s r =>
          obtain ⟨hr1, hr2⟩ := hr
          have hr1 := mem_OO.mp hr1
          have le := hr2.le
          have pos := sz1_pos s
          have := (ih (a + sz1 s) (by lia) le).2 r hr2
          have mem : F.getD (a + sz1 s) 0 ∈ F.getD (a + 1) 0 :: (List.range (L + 1 - sz)).map fun i => F.getD (a + (sz + i)) 0 := by
            by_cases q : s.1 = 0
            · rw [show sz1 s = 1 from if_pos q]; exact .head _
            · obtain ⟨g1, _⟩ := off_sound hr1 (by omega) q
              have := (li s.1 g1).mpr ⟨s.2, hr1⟩
              refine .tail _ (List.mem_map.mpr ⟨s.1 - sz, List.mem_range.mpr (by lia), ?_⟩)
              rw [show sz1 s = s.1 from if_neg q]
              congr 2
              exact Nat.add_sub_cancel' (by assumption)
          have := sp.2 _ mem
          rw [List.length_cons]; lia
theorem fewest (hs : 1 ≤ sz) (hch : t.length ≤ ch) : ((best t 0 sz wi ch mo ⟨1, 1, 0⟩).length : Int) = (fw t sz wi mo t.length).getD 0 0 := by
  obtain ⟨⟨r, r1, r2⟩, h⟩ := fw_few (t := t) (sz := sz) (wi := wi) (ch := ch) (mo := mo) hs hch t.length 0 (Nat.le_refl _) (by (simp)) (by (exact Nat.zero_le _))
  have b := (best_spec (t := t) (st := 0) (sz := sz) (wi := wi) (ch := ch) (mo := mo) (P := ⟨1, 1, 0⟩))
  have h1 := h _ b.2.1
  have h2 := b.2.2 r r1
  rw [cost_len, cost_len] at h2
  lia
end
-- part S20
theorem Ev.of_eq {α : Type} {o : Option α} {a : α} {Q : α → Prop} (h : o = some a) (q : Q a) : Ev o Q := ⟨a, h, q⟩
theorem pre_set {H H' : AH} {i : Nat} {o : AObj} (p : H <+: H') (h : H.length ≤ i) : H <+: H'.set i o := by
  obtain ⟨X, rfl⟩ := p
  rw [List.set_append_right _ _ h]
  exact List.prefix_append _ _
noncomputable def sO (j : Nat) (o : Option AObj) : Option Src := match o with
  | some (.list _) => some (.lst j)
  | some (.range a b c) => if Builtin.Range.small a b c = true then some (.rng a b c) else none
  | _ => none
theorem r_src {j : Nat} {H : AH} : srcOf (.ref j) H = sO j H[j]? := by
  unfold srcOf sO
  dsimp only
  all_goals cases H[j]? with
  | none => rfl
  | some o => cases o <;> rfl
theorem q_srcR {j : Nat} {a b c : Int} : sO j (some (.range a b c)) = if Builtin.Range.small a b c = true then some (.rng a b c) else none := rfl
theorem small_ok {a b : Nat} {A B : Int} (hA : A = (a : Int)) (hB : B = (b : Int)) (ha : a < 1000) (hb : b < 1000) : Builtin.Range.small A B 1 = true := by
  have h := src_rng (H := [.range A B 1]) (j := 0) hA hB rfl ha hb
  rw [r_src] at h
  have h : (if Builtin.Range.small A B 1 = true then some (Src.rng A B 1) else none) = some (Src.rng A B 1) := h
  split at h
  · assumption
  · (first | exact no1 h | obtain ⟨rfl, rfl, rfl⟩ := jn3 h | obtain ⟨rfl, rfl⟩ := jn2 h | obtain rfl := jn1 h | cases h)
section
variable {H : AH} {sz wi ch mo sh : Nat} {t : List UInt8}
theorem s442 (hsh : ShapeAt H sh sz wi ch mo) (ht : t.length ≤ 9) (hs : sz ≤ 6) : Ev (p442 [.bytes t, .ref sh] H) fun x => H <+: x.2 ∧ x.1 = .int ((fw t sz wi mo t.length).getD 0 0) := by
  unfold ShapeAt at hsh
  rw [e442]
  unfold b442
  have c1 : (0 : Int) ≤ (t.length : Int) + 1 := by (exact Int.natCast_nonneg _)
  have c2 : (t.length : Int) + 1 ≤ 1000 := by (exact Int.ofNat_lt.mpr (Nat.lt_of_le_of_lt (by assumption) (by decide)))
  have c3 : ((t.length : Int) + 1).toNat = t.length + 1 := by rfl
  simp only [t_bind, t_s1, t_n, t_p, r_bind, r_pure, r_const, r_seq, r_ev, r_st, r_putV, r_add, r_sub, r_neg, r_for, r_unpU, r_unT, r_up0, r_up, if_pos_true, ofS_inj, if_neg_false, eq_self, String.reduceEq, List.length_cons, List.length_nil, Nat.reduceAdd, Nat.reduceLeDiff, and_self, Nat.add_assoc, List.append_assoc, List.cons_append, List.nil_append, List.length_append, app_at, cons_at, cons_at0, set_app, List.set_cons_zero, List.set_cons_succ, q_cL, q_cM, r_ix0, r_ix, r_ldlC, List.mem_cons, List.not_mem_nil, or_false, r_rep, q_rep, r_newL, ldC_eq, r_putC, q_pC, q_pD, c_upd, c_locC, app_get hsh, lenb_ok ht, c1, c2, c3, r_rng3, Nat.zero_add]
  rw [src_down (n := t.length) (by rw [app_at]; rfl) (by (exact Int.ofNat_lt.mp (by assumption)))]
  simp only [r_kF, if_pos_true, eq_self]
  refine Ev.rB (Ev.bind ((for_rule (items := (List.range t.length).map fun i => AV.int ((t.length - 1 - i : Nat) : Int)) (I := fun m l H' => H <+: H' ∧ H.length + 7 ≤ H'.length ∧ (∃ av, H'[H.length]? = some (.cell av)) ∧ H'[H.length + 1]? = some (.cell (some (.ref (H.length + 5)))) ∧
      H'[H.length + 2]? = some (.cell (some (.int mo))) ∧ H'[H.length + 3]? = some (.cell (some (.bytes t))) ∧ H'[H.length + 5]? = some (.list ((fw t sz wi mo m).map AV.int)) ∧
      (∀ G, ldV (Str.ofString "shortest") l G = some (.int sz, G)) ∧ (∀ G, ldV (Str.ofString "window") l G = some (.int wi, G)) ∧ l.c = ixOf [Str.ofString "at", Str.ofString "few", Str.ofString "most", Str.ofString "text"] H.length)
    (Q := fun f l H' => f = .next ∧ H <+: H' ∧ H'[H.length + 1]? = some (.cell (some (.ref (H.length + 5)))) ∧ H'[H.length + 5]? = some (.list ((fw t sz wi mo t.length).map AV.int)) ∧ l.c = ixOf [Str.ofString "at", Str.ofString "few", Str.ofString "most", Str.ofString "text"] H.length)
    ?_ ?_ ?_ 64 0 _ _ ?_ ?_ ?_).mono ?_))
  · rintro k l H' _
    exact down_item k
  · rintro m l H' av ⟨pre, hlen, ⟨av0, k0⟩, k1, k2, k3, k5, l1, l2, hc⟩ hav
    rw [List.getElem?_map] at hav
    obtain ⟨i, hi, rfl⟩ := Option.map_eq_some_iff.mp hav
    have hmn := (List.getElem?_eq_some_iff.mp hi).1
    rw [List.length_range] at hmn
    rw [List.getElem?_range hmn] at hi
    (first | exact no1 hi | obtain ⟨rfl, rfl, rfl⟩ := in3 hi | obtain ⟨rfl, rfl⟩ := in2 hi | obtain rfl := in1 hi | cases hi)
    generalize hat : t.length - 1 - m = a
    have ha : a < t.length := by lia
    simp only [t_bind, r_bind, r_pure, r_const, r_seq, r_ev, if_pos_true, ofS_inj, if_neg_false, eq_self, String.reduceEq, Nat.reduceAdd, Nat.add_assoc, hc, r_putC, r_ix, q_pC, k0, q_pD, Ev_some]
    have pre1 : H <+: H'.set H.length (.cell (some (.int (a : Int)))) := pre_set pre (Nat.le_refl _)
    have hlen1 : H.length + 7 ≤ (H'.set H.length (.cell (some (.int (a : Int))))).length := by rw [List.length_set]; exact hlen
    have j0 : (H'.set H.length (.cell (some (.int (a : Int)))))[H.length]? = some (.cell (some (.int (a : Int)))) := set_self k0
    have j1 : (H'.set H.length (.cell (some (.int (a : Int)))))[H.length + 1]? = _ := (set_ne (by (simp))).trans k1
    have j2 : (H'.set H.length (.cell (some (.int (a : Int)))))[H.length + 2]? = _ := (set_ne (by (simp))).trans k2
    have j3 : (H'.set H.length (.cell (some (.int (a : Int)))))[H.length + 3]? = _ := (set_ne (by (simp))).trans k3
    have j5 : (H'.set H.length (.cell (some (.int (a : Int)))))[H.length + 5]? = _ := (set_ne (by (simp))).trans k5
    generalize H'.set H.length (.cell (some (.int (a : Int)))) = H1 at pre1 hlen1 j0 j1 j2 j3 j5
    have e1 : (if (wi : Int) < (a : Int) then (wi : Int) else (a : Int)) + 1 = ((min a wi + 1 : Nat) : Int) := by split <;> lia
    have sm := small_ok (a := 1) (b := min a wi + 1) (A := 1) rfl rfl (by (exact Nat.le_add_left _ _)) (by lia)
    simp only [t_bind, r_bind, r_pure, r_const, r_add, r_rng2, r_min2, if_pos_true, ofS_inj, if_neg_false, eq_self, String.reduceEq, List.length_cons, List.length_nil, Nat.reduceAdd, Nat.reduceLeDiff, Nat.add_assoc, List.append_assoc, List.cons_append, List.nil_append, List.length_append, app_at, cons_at, cons_at0, q_cL, q_cM, r_ix0, r_ix, r_comp, q_kC, r_newL, ldC_eq, hc, l2, app_get j0, e1, r_src, q_srcR, sm, Nat.zero_add]
    obtain ⟨L, eL, hL⟩ := lng_facts (t := t) (wi := wi) (mo := mo) (at_ := a) (by lia)
    repeat with_reducible refine Ev.bind ?_
    refine Ev.map (Ev.of_eq (comp_map (H1 := H1 ++ [.list [.int 0], .range 1 ((min a wi + 1 : Nat) : Int) 1]) (a := 1) (b := min a wi + 1) (f := fun k => ((alk t a (a - (1 + k)) (min mo (t.length - a)) 0 : Nat) : Int)) ?_ ?_ rfl rfl (by lia) ?_) ?_)
    · simp only [List.length_append, List.length_cons, List.length_nil]
    · simp only [List.append_assoc, List.cons_append, List.nil_append]
    · intro k acc l' hk hc'
      have sk := fun G => s437 (H := G) (mo := mo) (at_ := a) (ba := 1 + k) ht (by lia) (by lia) (by lia)
      simp only [t_bind, v_0, r_bind, r_pure, r_chkF, if_pos_true, ofS_inj, if_neg_false, eq_self, String.reduceEq, Nat.reduceAdd, Nat.add_assoc, List.append_assoc, List.cons_append, List.nil_append, q_cL, q_cM, r_ix0, r_ix, List.mem_cons, List.not_mem_nil, or_false, or_true, ldC_eq, hc', hc, c_upd, c_comp, app_get j0, app_get j2, app_get j3, sk]
    · have el : maxI (0 :: (List.range (min a wi + 1 - 1)).map fun k => ((alk t a (a - (1 + k)) (min mo (t.length - a)) 0 : Nat) : Int)) = (L : Int) := by
        rw [Nat.add_sub_cancel]; exact eL
      have cl : ((List.range (min a wi + 1 - 1)).map fun k => ((alk t a (a - (1 + k)) (min mo (t.length - a)) 0 : Nat) : Int)).length ≤ 900 := by rw [List.length_map, List.length_range]; lia
      generalize ((List.range (min a wi + 1 - 1)).map fun k => ((alk t a (a - (1 + k)) (min mo (t.length - a)) 0 : Nat) : Int)) = ns1 at el cl
      have cl1 : 1 + (ns1.map AV.int).length ≤ 1000 := by rw [List.length_map]; lia
      have fl := fw_len (t := t) (sz := sz) (wi := wi) (mo := mo) m
      have hfw : fw t sz wi mo (m + 1) = (fw t sz wi mo m).set a (few1 t sz wi mo a (fw t sz wi mo m)) := by
        show (fw t sz wi mo m).set (t.length - 1 - m) _ = _
        rw [hat]
      rw [hfw]
      generalize hF : fw t sz wi mo m = F at j5 fl
      have gF : ∀ (x : Int) (n : Nat) G, x = (n : Int) → n ≤ t.length → gI x G (some (.list (F.map AV.int))) = some (.int (F.getD n 0), G) := fun x n G hx hn => gI_at hx (by lia) (by
        rw [List.getElem?_map, List.getD_eq_getElem?_getD, List.getElem?_eq_getElem (by lia)]; rfl)
      have gA1 := fun G => gF ((a : Int) + 1) (a + 1) G (by lia) (by lia)
      have sm2 := small_ok (a := sz) (b := L + 1) (A := sz) (B := (L : Int) + 1) rfl (by lia) (by lia) (by lia)
      simp only [t_bind, t_n, v_0, v_1, r_bind, r_kE, r_pure, r_const, r_seq, r_kS1, r_ev, r_st, r_putV, r_add, r_getI, r_rng2, if_pos_true, ofS_inj, if_neg_false, eq_self, String.reduceEq, String.reduceBEq, List.length_cons, List.length_nil, Nat.reduceAdd, Nat.reduceLeDiff, Nat.add_assoc, List.append_assoc, List.cons_append, List.nil_append, List.length_append, app_at, app_at0, cons_at, cons_at0, q_cL, q_cM, r_ix0, r_ix, r_comp, q_kC, r_cat, q_cat, r_newL, ldC_eq, hc, c_upd, l1, app_get j0, app_get j1, app_get j5, r_src, q_srcR, sm2, r_maxL, mx_ok, el, gA1, cl1, Nat.zero_add, Ev_some]
      repeat with_reducible refine Ev.bind ?_
      refine Ev.map (Ev.of_eq (comp_map (H1 := H1 ++ [.list [.int 0], .range 1 ((min a wi + 1 : Nat) : Int) 1, .list (ns1.map AV.int), .list (.int 0 :: ns1.map AV.int), .list [.int (F.getD (a + 1) 0)], .range (sz : Int) ((L : Int) + 1) 1])
        (a := sz) (b := L + 1) (f := fun k => F.getD (a + (sz + k)) 0) ?_ ?_ rfl (by lia) (by lia) ?_) ?_)
      · simp only [List.length_append, List.length_cons, List.length_nil]
      · simp only [List.append_assoc, List.cons_append, List.nil_append]
      · intro k acc l' hk hc'
        have gk := fun G => gF ((a : Int) + ((sz + k : Nat) : Int)) (a + (sz + k)) G (by lia) (by lia)
        simp only [t_bind, v_0, r_bind, r_add, r_getI, if_pos_true, ofS_inj, if_neg_false, eq_self, String.reduceEq, Nat.reduceAdd, Nat.add_assoc, List.append_assoc, List.cons_append, List.nil_append, q_cL, q_cM, r_ix0, r_ix, List.mem_cons, List.not_mem_nil, or_false, or_true, ldC_eq, hc', hc, c_upd, c_comp, app_get j0, app_get j1, app_get j5, gk]
      · have ef : few1 t sz wi mo a F = 1 + minI (F.getD (a + 1) 0 :: (List.range (L + 1 - sz)).map fun k => F.getD (a + (sz + k)) 0) := by
          unfold few1
          rw [eL, Int.toNat_natCast]
        have cl2 : ((List.range (L + 1 - sz)).map fun k => F.getD (a + (sz + k)) 0).length ≤ 900 := by rw [List.length_map, List.length_range]; lia
        rw [ef]
        generalize ((List.range (L + 1 - sz)).map fun k => F.getD (a + (sz + k)) 0) = ns2 at cl2
        have cl3 : 1 + (ns2.map AV.int).length ≤ 1000 := by rw [List.length_map]; lia
        have st1 : ∀ v G, siL (a : Int) v (H.length + 5) G (some (.list (F.map AV.int))) = _ := fun v G => siL_ok (n := a) G rfl (by rw [List.length_map]; lia) (by rw [List.length_map]; lia)
        simp only [t_bind, t_n, t_u, v_1, r_bind, r_kE, r_pure, r_kS1, r_ev, r_st, r_add, r_next, r_upd, if_pos_true, ofS_inj, if_neg_false, eq_self, String.reduceEq, String.reduceBEq, List.length_cons, List.length_nil, Nat.reduceAdd, and_self, and_true, implies_true, Nat.add_assoc, List.append_assoc, List.cons_append, List.nil_append, List.length_append, app_at, cons_at, cons_at0, q_cL, q_cM, r_ix0, r_ix, r_cat, r_setIL, q_cat, ldC_eq, hc, c_upd, l1, l2, app_get j0, app_get j1, app_get j5, r_minL, mx_ok, cl3, st1, Nat.zero_add, Ev_some, aft1]
        have lt5 : H.length + 5 < H1.length := by lia
        refine ⟨pre_set (pre1.trans (List.prefix_append _ _)) (by lia), ?_, ⟨some (.int (a : Int)), ?_⟩, ?_, ?_, ?_, ?_⟩
        · rw [List.length_set, List.length_append]; lia
        · exact (set_ne (by lia)).trans (app_get j0 _)
        · exact (set_ne (by lia)).trans (app_get j1 _)
        · exact (set_ne (by lia)).trans (app_get j2 _)
        · exact (set_ne (by lia)).trans (app_get j3 _)
        · rw [set_self (app_get j5 _), List.map_set]
  · rintro l H' ⟨pre, hlen, _, k1, k2, k3, k5, l1, l2, hc⟩
    rw [List.length_map, List.length_range] at k5
    exact ⟨rfl, pre, k1, k5, hc⟩
  · rw [List.length_map, List.length_range]; lia
  · lia
  · refine ⟨List.prefix_append _ _, ?_, ⟨none, ?_⟩, ?_, ?_, ?_, ?_, ?_, ?_, ?_⟩
    · simp only [List.length_append, List.length_cons, List.length_nil]; lia
    · rw [app_at0]; rfl
    · rw [app_at]; rfl
    · rw [app_at]; rfl
    · rw [app_at]; rfl
    · rw [app_at]
      show some (AObj.list _) = some (AObj.list _)
      rw [repL_one, fw, List.map_replicate]
    · simp only [v_0, v_1, eq_self, String.reduceBEq, implies_true]
    · simp only [v_0, v_1, eq_self, String.reduceBEq, implies_true]
    · simp only [c_upd, c_locC]
  · rintro ⟨f, l, H'⟩ ⟨rfl, pre, k1, k5, hc⟩
    dsimp only at k1 k5 hc
    have g : ∀ G, gI 0 G (some (.list ((fw t sz wi mo t.length).map AV.int))) = some (.int ((fw t sz wi mo t.length).getD 0 0), G) := fun G => gI_at (n := 0) rfl (by decide) (by
      rw [List.getElem?_map, List.getD_eq_getElem?_getD, List.getElem?_eq_getElem (by rw [fw_len]; lia)]; rfl)
    simp only [t_bind, t_s2, r_bind, r_const, r_seq, r_kS1, r_ev, r_ret, r_getI, r_rB1, if_pos_true, ofS_inj, if_neg_false, eq_self, String.reduceEq, Nat.reduceAdd, and_true, Nat.add_assoc, ldC_eq, hc, r_ix, q_cL, q_cM, k1, k5, g, Ev_some]
    exact pre
end
-- part S21
theorem ShapeAt.mono {H H' : AH} (q : H <+: H') {sh sz wi ch mo : Nat} (h : ShapeAt H sh sz wi ch mo) : ShapeAt H' sh sz wi ch mo := pre_get q h
theorem shape_last {H : AH} {A B C D : Int} {sz wi ch mo : Nat} (h1 : A = (sz : Int)) (h2 : B = (wi : Int)) (h3 : C = (ch : Int)) (h4 : D = (mo : Int)) : ShapeAt (H ++ [.tup [.int A, .int B, .int C, .int D]]) H.length sz wi ch mo := by
  subst h1 h2 h3 h4
  exact app_at0
theorem cut_head {t : List UInt8} {cut : Nat} (h : cut ≤ t.length) : cutB t none (some (cut : Int)) = t.take cut := by
  unfold cutB
  have e2 : clipAt t.length (cut : Int) = cut := by unfold clipAt; split <;> lia
  simp only [Option.elim_some, Option.elim_none, e2, List.drop_zero, Nat.sub_zero]
section
variable {H : AH} {p sz wi ch mo sh : Nat} {t : List UInt8} {P : Pr}
theorem s430 {cut : Nat} (hsh : ShapeAt H sh sz wi ch mo) (hp : PriAt H p P) (hP : P.ok) (ht : t.length ≤ 9) (hcut : cut ≤ t.length) (hs : 2 ≤ sz) (hs6 : sz ≤ 6) (hw : 1 ≤ wi) (hc1 : 1 ≤ ch) (hc : ch ≤ 20) (hch : t.length ≤ ch) :
    Ev (p430 [.bytes t, .int cut, .ref sh, .ref p] H) fun x => H <+: x.2 ∧ x.1 = .bool true := by
  have hl : (t.take cut).length = cut := by rw [List.length_take]; (exact Nat.min_eq_left (by assumption))
  obtain ⟨⟨v, H1⟩, e1, p1, hv⟩ := s411 (st := 0) hsh hp hP ht (by (exact Nat.zero_le _)) hs hs6 hw hc1 hc
  dsimp only at p1 hv
  subst hv
  obtain ⟨⟨v, H2⟩, e2, p2, hv⟩ := s411 (st := 0) (t := t.take cut) (hsh.mono p1) (hp.mono p1) hP (by lia) (by (exact Nat.zero_le _)) hs hs6 hw hc1 hc
  dsimp only at p2 hv
  subst hv
  obtain ⟨⟨v, H3⟩, e3, p3, hv⟩ := s411 (st := cut) ((hsh.mono p1).mono p2) ((hp.mono p1).mono p2) hP ht hcut hs hs6 hw hc1 hc
  dsimp only at p3 hv
  subst hv
  have ge := parts_ge (t := t) (sz := sz) (wi := wi) (ch := ch) (mo := mo) (cut := cut) hP ht (by (exact Nat.le_of_lt (by assumption))) hcut hch
  obtain ⟨le1, le2⟩ := parts_le (t := t) (sz := sz) (wi := wi) (ch := ch) (mo := mo) (cut := cut) hP ht hs hcut hch
  unfold CC at ge le1 le2
  rw [Int.natCast_zero] at e1 e2
  generalize cost P (best t 0 sz wi ch mo P) = cw at e1 ge le1 le2
  generalize cost P (best (t.take cut) 0 sz wi ch mo P) = ca at e2 ge le1
  generalize cost P (best t cut sz wi ch mo P) = cb at e3 ge le2
  have hsh3 := ((hsh.mono p1).mono p2).mono p3
  have hp3 := ((hp.mono p1).mono p2).mono p3
  unfold ShapeAt at hsh3
  have m1 : ∀ (x : Int) l G, mulM (.int ((sz : Int) - 1)) (.int x) l G = some (.int (((sz : Int) - 1) * x), G) := fun x l G => mul_ok (by lia) (by lia) l G
  have x1 : ((if cb > ca then cb else ca) ≤ cw + ((sz : Int) - 1) * P.lit) = True := by
    refine eq_true ?_
    split <;> omega
  have hpT := hp3.mono (List.prefix_append H3 [.tup [.int ca, .int cb]])
  rw [e430]
  unfold b430
  simp only [t_bind, t_s1, t_s2, t_n, t_p, v_0, v_1, w_0, w_1, w_2, w_3, r_ite, r_bind, r_pure, r_const, r_seq, r_ev, r_st, r_putV, r_tru1, r_add, r_sub, r_le, r_ret, r_chkI, r_getI, r_chkF, r_rB1, r_up0, r_up, r_swapU, r_swT, r_max2, if_pos_true, eq_self, String.reduceBEq, decide_true, List.length_cons, List.length_nil, Nat.reduceAdd, Nat.reduceLeDiff, and_true, List.cons_append, List.nil_append, app_at0, cons_at0, r_newT, e1, r_cut _ _ (show t.length ≤ 1000 by (exact Nat.le_trans (Nat.le_trans (by assumption) (by assumption)) (by decide))), r_intP, cut_head hcut, e2, e3, List.reverse_cons, List.reverse_nil, List.map_cons, List.map_nil, app_get hsh3, gI_t0, chkPriA hpT (.inl rfl), s202 hpT, m1, ge, x1, Ev_some]
  exact ((p1.trans p2).trans p3).trans (List.prefix_append _ _)
theorem s418 {more : Nat} (hsh : ShapeAt H sh sz wi ch mo) (hp : PriAt H p P) (hP : P.ok) (ht : t.length ≤ 9) (ht1 : 1 ≤ t.length) (hs : 2 ≤ sz) (hs6 : sz + more ≤ 6) (hw : 1 ≤ wi) (hc1 : 1 ≤ ch) (hc : ch + more ≤ 20) :
    Ev (p418 [.bytes t, .ref sh, .int more, .ref p] H) fun x => H <+: x.2 ∧ x.1 = .bool true := by
  obtain ⟨⟨v, H1⟩, e1, p1, hv⟩ := s411 (st := 0) hsh hp hP ht (by (exact Nat.zero_le _)) hs (by (exact Nat.le_trans (Nat.le_add_right _ _) (by assumption))) hw hc1 (by (exact Nat.le_trans (Nat.le_add_right _ _) (by assumption)))
  dsimp only at p1 hv
  subst hv
  have w1 := wide_le (t := t) (st := 0) (sz := sz) (wi := wi) (ch := ch) (mo := mo) (wi' := wi + more) (ch' := ch) (mo' := mo) hP ht (by (exact Nat.zero_le _)) (by (exact Nat.le_of_lt (by assumption))) (by (exact Nat.le_add_right _ _)) (by (exact Nat.le_refl _)) (by (exact Nat.le_refl _))
  have w2 := wide_le (t := t) (st := 0) (sz := sz) (wi := wi) (ch := ch) (mo := mo) (wi' := wi) (ch' := ch + more) (mo' := mo) hP ht (by (exact Nat.zero_le _)) (by (exact Nat.le_of_lt (by assumption))) (by (exact Nat.le_refl _)) (by (exact Nat.le_add_right _ _)) (by (exact Nat.le_refl _))
  have w3 := wide_le (t := t) (st := 0) (sz := sz) (wi := wi) (ch := ch) (mo := mo) (wi' := wi) (ch' := ch) (mo' := mo + more) hP ht (by (exact Nat.zero_le _)) (by (exact Nat.le_of_lt (by assumption))) (by (exact Nat.le_refl _)) (by (exact Nat.le_refl _)) (by (exact Nat.le_add_right _ _))
  have w4 := short_le (t := t) (st := 0) (sz := sz) (wi := wi) (ch := t.length) (mo := mo) (sz' := sz + more) hP ht (by (exact Nat.zero_le _)) (by (exact Nat.le_of_lt (by assumption))) (by (exact Nat.le_add_right _ _)) (by (exact Nat.le_refl _))
  unfold CC at w1 w2 w3 w4
  generalize hcw : cost P (best t 0 sz wi ch mo P) = cw at e1 w1 w2 w3
  rw [Int.natCast_zero] at e1
  have hsh' := hsh
  unfold ShapeAt at hsh'
  rw [e418]
  unfold b418
  have sl : srcOf (.ref (H1.length + 4)) (H1 ++ [.tup [.int cw, .int t.length], .tup [.int sz, .int ((wi : Int) + (more : Int)), .int ch, .int mo], .tup [.int sz, .int wi, .int ((ch : Int) + (more : Int)), .int mo],
    .tup [.int sz, .int wi, .int ch, .int ((mo : Int) + (more : Int))], .list [.ref (H1.length + 1), .ref (H1.length + 2), .ref (H1.length + 3)]]) = some (.lst (H1.length + 4)) := src_lst (by rw [app_at]; rfl)
  simp only [t_bind, t_s1, t_n, t_p, v_0, v_1, w_0, w_1, w_2, w_3, r_bind, r_pure, r_const, r_seq, r_ev, r_st, r_putV, r_add, r_chkF, r_for, r_kF, r_unpU, r_unT, r_up0, r_up, r_swapU, r_swT, if_pos_true, eq_self, String.reduceBEq, List.length_cons, List.length_nil, Nat.reduceAdd, Nat.reduceLeDiff, List.append_assoc, List.cons_append, List.nil_append, List.length_append, app_at0, cons_at0, r_newT, r_newL, hsh', e1, lenb_ok ht, List.reverse_cons, List.reverse_nil, List.map_cons, List.map_nil, sl]
  generalize hH2 : H1 ++ [.tup [.int cw, .int t.length], .tup [.int sz, .int ((wi : Int) + (more : Int)), .int ch, .int mo], .tup [.int sz, .int wi, .int ((ch : Int) + (more : Int)), .int mo],
    .tup [.int sz, .int wi, .int ch, .int ((mo : Int) + (more : Int))], .list [.ref (H1.length + 1), .ref (H1.length + 2), .ref (H1.length + 3)]] = H2
  have p2 : H1 <+: H2 := by rw [← hH2]; exact List.prefix_append _ _
  have hl2 : H2[H1.length + 4]? = some (.list [.ref (H1.length + 1), .ref (H1.length + 2), .ref (H1.length + 3)]) := by rw [← hH2, app_at]; rfl
  have items : ∀ a ∈ [AV.ref (H1.length + 1), AV.ref (H1.length + 2), AV.ref (H1.length + 3)], ∃ i w c m, a = .ref i ∧ ShapeAt H2 i sz w c m ∧ 1 ≤ w ∧ 1 ≤ c ∧ c ≤ 20 ∧ cost P (best t 0 sz w c m P) ≤ cw := by
    intro a ha
    simp only [List.mem_cons, List.not_mem_nil, or_false] at ha
    rcases ha with rfl | rfl | rfl
    · refine ⟨_, wi + more, ch, mo, rfl, ?_, by lia, by omega, by (exact Nat.le_trans (Nat.le_add_right _ _) (by assumption)), w1⟩
      rw [← hH2]
      exact app_at.trans (by rfl)
    · refine ⟨_, wi, ch + more, mo, rfl, ?_, by omega, by lia, by lia, w2⟩
      rw [← hH2]
      exact app_at.trans (by rfl)
    · refine ⟨_, wi, ch, mo + more, rfl, ?_, by lia, by lia, by lia, w3⟩
      rw [← hH2]
      exact app_at.trans (by rfl)
  refine Ev.rB (Ev.bind ((for_rule (items := [AV.ref (H1.length + 1), AV.ref (H1.length + 2), AV.ref (H1.length + 3)]) (I := fun k l H' => H2 <+: H' ∧ (∀ G, ldV (Str.ofString "text") l G = some (.bytes t, G)) ∧ (∀ G, ldV (Str.ofString "price") l G = some (.ref p, G)) ∧
      (∀ G, ldV (Str.ofString "cost") l G = some (.int cw, G)) ∧ (∀ G, ldV (Str.ofString "every") l G = some (.int t.length, G)) ∧ (∀ G, ldV (Str.ofString "shortest") l G = some (.int sz, G)) ∧ (∀ G, ldV (Str.ofString "window") l G = some (.int wi, G)) ∧
      (∀ G, ldV (Str.ofString "most") l G = some (.int mo, G)) ∧ (∀ G, ldV (Str.ofString "more") l G = some (.int more, G)))
    (Q := fun f l H' => f = .next ∧ H2 <+: H' ∧ (∀ G, ldV (Str.ofString "text") l G = some (.bytes t, G)) ∧ (∀ G, ldV (Str.ofString "price") l G = some (.ref p, G)) ∧
      (∀ G, ldV (Str.ofString "every") l G = some (.int t.length, G)) ∧ (∀ G, ldV (Str.ofString "shortest") l G = some (.int sz, G)) ∧ (∀ G, ldV (Str.ofString "window") l G = some (.int wi, G)) ∧
      (∀ G, ldV (Str.ofString "most") l G = some (.int mo, G)) ∧ (∀ G, ldV (Str.ofString "more") l G = some (.int more, G))) ?_ ?_ ?_ 64 0 _ _ ?_ ?_ ?_).mono ?_))
  · rintro k l H' ⟨pre, _⟩
    exact lst_item (pre_get pre hl2) k
  · rintro k l H' a ⟨pre, l1, l2, l3, l4, l5, l6, l7, l8⟩ ha
    obtain ⟨i, w, c, m, rfl, hs2, h1, h2, h3, h4⟩ := items a (List.mem_of_getElem? ha)
    obtain ⟨⟨v, H5⟩, e5, p5, hv⟩ := s411 (st := 0) (hs2.mono pre) (((hp.mono p1).mono p2).mono pre) hP ht (by lia) hs (by lia) h1 h2 h3
    dsimp only at p5 hv
    subst hv
    rw [Int.natCast_zero] at e5
    have c1 : ¬ (cw < cost P (best t 0 sz w c m P)) := by lia
    simp only [t_bind, t_s1, t_s2, v_0, v_1, r_ite, r_bind, r_pure, r_const, r_seq, r_ev, r_iteS, r_putV, r_tru1, r_gt, r_ret, r_next, r_chkF, if_neg_false, eq_self, String.reduceBEq, decide_false, Bool.false_eq_true, and_self, and_true, implies_true, l1, l2, l3, l4, l5, l6, l7, l8, e5, c1, Ev_some, aft1]
    exact pre.trans p5
  · rintro l H' ⟨pre, l1, l2, l3, l4, l5, l6, l7, l8⟩
    exact ⟨rfl, pre, l1, l2, l4, l5, l6, l7, l8⟩
  · simp only [List.length_cons, List.length_nil]; lia
  · lia
  · simp only [v_0, v_1, w_0, w_2, w_3, eq_self, String.reduceBEq, and_self, and_true, implies_true]
    exact List.prefix_refl _
  · rintro ⟨f, l, H5⟩ ⟨rfl, pre, l1, l2, l4, l5, l6, l7, l8⟩
    dsimp only at l1 l2 l4 l5 l6 l7 l8 pre
    have hp5 := ((hp.mono p1).mono p2).mono pre
    obtain ⟨⟨v, H6⟩, e6, p6, hv⟩ := s411 (t := t) (st := 0) (H := H5 ++ [.tup [.int ((sz : Int) + (more : Int)), .int wi, .int t.length, .int mo]]) (shape_last (sz := sz + more) (wi := wi) (ch := t.length) (mo := mo) (by lia) rfl rfl rfl)
      (hp5.mono (List.prefix_append _ _)) hP ht (by lia) (by lia) (by lia) hw ht1 (by lia)
    dsimp only at p6 hv
    subst hv
    obtain ⟨⟨v, H7⟩, e7, p7, hv⟩ := s411 (t := t) (st := 0) (H := H6 ++ [.tup [.int sz, .int wi, .int t.length, .int mo]]) (shape_last (sz := sz) (wi := wi) (ch := t.length) (mo := mo) rfl rfl rfl rfl)
      (((hp5.mono (List.prefix_append _ _)).mono p6).mono (List.prefix_append _ _)) hP ht (by lia) hs (by lia) hw ht1 (by lia)
    dsimp only at p7 hv
    subst hv
    rw [Int.natCast_zero] at e6 e7
    simp only [t_bind, t_s1, t_s2, t_n, v_0, v_1, r_bind, r_pure, r_const, r_seq, r_kS1, r_ev, r_st, r_putV, r_add, r_le, r_ret, r_chkF, r_rB1, if_pos_true, eq_self, String.reduceBEq, decide_true, List.length_cons, List.length_nil, Nat.reduceAdd, Nat.reduceLeDiff, and_true, r_newT, l1, l2, l4, l5, l6, l7, l8, e6, e7, w4, Ev_some]
    exact ((((p1.trans p2).trans pre).trans (List.prefix_append _ _)).trans p6).trans ((List.prefix_append _ _).trans p7)
end
-- part S22
theorem tups_dec {H : AH} : ∀ {xs : List AV} {ss : List Stp}, Dec H xs ss → tupsI H xs = some (ss.map fun s => [(s.1 : Int), (s.2 : Int)])
  | [], [], _ => rfl
  | _ :: xs, s :: ss, ⟨⟨i, rfl, h2⟩, h⟩ => by
    have e : tupI H (.ref i) = some [(s.1 : Int), (s.2 : Int)] := by
      unfold tupI
      dsimp only
      rw [h2]; rfl
    show (tupI H (.ref i)).bind (fun x => (tupsI H xs).map (x :: ·)) = _
    rw [e, tups_dec h]; rfl
  | [], _ :: _, h => h.elim
  | _ :: _, [], h => h.elim
theorem steps_dec {H : AH} {j : Nat} {xs : List AV} {ss : List Stp} {l : Loc} (hj : H[j]? = some (.list xs)) (h : Dec H xs ss) : stepsOf (.ref j) l H = some (ss.map (fun s => [(s.1 : Int), (s.2 : Int)]), H) := by
  unfold stepsOf
  dsimp only
  rw [hj]
  dsimp only
  rw [tups_dec h]; rfl
theorem ne_same {H : AH} {i j : Nat} {xs ys : List AV} {ss : List Stp} (hi : H[i]? = some (.list xs)) (h1 : Dec H xs ss) (hj : H[j]? = some (.list ys)) (h2 : Dec H ys ss) (l : Loc) : neM (.ref i) (.ref j) l H = some (.bool false, H) := by
  unfold neM
  rw [r_bind, steps_dec hi h1, bn_some, r_kE, r_bind, steps_dec hj h2, bn_some, r_kE, decide_eq_true rfl]; rfl
section
variable {H : AH} {sz wi ch mo sh : Nat} {t : List UInt8}
theorem s423 {li m b li2 m2 b2 : Int} {prs oth : Nat} (hsh : ShapeAt H sh sz wi ch mo) (hpr : H[prs]? = some (.tup [.int li, .int m, .int b])) (hot : H[oth]? = some (.tup [.int li2, .int m2, .int b2]))
    (hP : 0 ≤ li ∧ 1 ≤ m ∧ 0 ≤ b ∧ b < 100) (hQ : 0 ≤ li2 ∧ 0 ≤ m2 ∧ 0 ≤ b2 ∧ b2 < 100) (ht : t.length ≤ 9) (hs : 2 ≤ sz) (hs6 : sz ≤ 6) (hw : 1 ≤ wi) (hc1 : 1 ≤ ch) (hc : ch ≤ 20) :
    Ev (p423 [.bytes t, .ref sh, .ref prs, .ref oth] H) fun x => H <+: x.2 ∧ x.1 = .bool true := by
  obtain ⟨q1, q2, q3, q4⟩ := hP
  obtain ⟨u1, u2, u3, u4⟩ := hQ
  have okP : Pr.ok ⟨li, m, b⟩ := ⟨q1, by dsimp only; (exact Int.le_of_lt (by assumption)), q3, by dsimp only; lia⟩
  have okQ : Pr.ok ⟨li2, m2, b2⟩ := ⟨u1, u2, u3, by dsimp only; lia⟩
  have okD : Pr.ok (Pr.dbl ⟨li, m, b⟩) := ⟨by unfold Pr.dbl; dsimp only; lia, by unfold Pr.dbl; dsimp only; lia, by unfold Pr.dbl; dsimp only; lia, by unfold Pr.dbl; dsimp only; lia⟩
  have okU : Pr.ok ⟨li, m + 1, b⟩ := ⟨q1, by dsimp only; lia, q3, by dsimp only; lia⟩
  have okV : Pr.ok ⟨li, m - 1, b⟩ := ⟨q1, by dsimp only; lia, q3, by dsimp only; lia⟩
  have okB : Pr.ok ⟨li + li2, m + m2, b + b2⟩ := ⟨by dsimp only; (exact Int.add_nonneg (by assumption) (by assumption)), by dsimp only; lia, by dsimp only; (exact Int.add_nonneg (by assumption) (by assumption)), by dsimp only; lia⟩
  -- the two prices
  have nf1 := fun l => newFlat (l := l) (H := H) okP
  have nf2 := fun l => newFlat (l := l) (H := H ++ [priF ⟨li, m, b⟩, .inst 212 H.length]) okQ
  simp only [List.length_append, List.length_cons, List.length_nil, Nat.zero_add, Nat.add_assoc, Nat.reduceAdd, List.append_assoc, List.cons_append, List.nil_append] at nf1 nf2
  generalize hH1 : H ++ [priF ⟨li, m, b⟩, .inst 212 H.length, priF ⟨li2, m2, b2⟩, .inst 212 (H.length + 2), .tup [.ref (H.length + 1), .ref (H.length + 3)]] = H1
  have p1 : H <+: H1 := by rw [← hH1]; exact List.prefix_append _ _
  have hp1 : PriAt H1 (H.length + 1) ⟨li, m, b⟩ := ⟨H.length, by rw [← hH1, app_at]; rfl, by rw [← hH1, app_at0]; rfl⟩
  have ho1 : PriAt H1 (H.length + 3) ⟨li2, m2, b2⟩ := ⟨H.length + 2, by rw [← hH1, app_at]; rfl, by rw [← hH1, app_at]; rfl⟩
  -- the steps
  obtain ⟨⟨v, H2⟩, e2, p2, j, xs, hv, hj, hd⟩ := s404 (t := t) (st := 0) (hsh.mono p1) hp1 okP ht (by (exact Nat.zero_le _)) hs hs6 hw hc1 hc
  dsimp only at p2 hv hj hd
  subst hv
  obtain ⟨bg, bl⟩ := best_good (t := t) (st := 0) (sz := sz) (wi := wi) (ch := ch) (mo := mo) (P := ⟨li, m, b⟩) hs ht (by (exact Nat.zero_le _))
  obtain ⟨⟨v, H3⟩, e3, p3, hv⟩ := s173 hj hd (hp1.mono p2) okP bg (by (exact Nat.le_trans (by assumption) (by decide)))
  dsimp only at p3 hv
  subst hv
  have hj3 := pre_get p3 hj
  have hd3 := hd.mono p3
  have t1 : H1[H.length + 4]? = some (.tup [.ref (H.length + 1), .ref (H.length + 3)]) := by rw [← hH1, app_at]; rfl
  have p13 : H <+: H3 := (p1.trans p2).trans p3
  have hshF := hsh
  have hp3 := (hp1.mono p2).mono p3
  have ho3 := (ho1.mono p2).mono p3
  rw [Int.natCast_zero] at e2
  unfold ShapeAt at hsh
  rw [e423]
  unfold b423
  simp only [t_bind, t_s1, t_n, t_p, v_0, v_1, w_0, w_1, w_2, w_3, r_bind, r_pure, r_const, r_seq, r_ev, r_st, r_putV, r_getI, r_chkF, r_unpU, r_unT, r_up0, r_up, r_swapU, r_swT, if_pos_true, eq_self, String.reduceBEq, List.length_cons, List.length_nil, Nat.reduceAdd, Nat.reduceLeDiff, List.append_assoc, List.cons_append, List.nil_append, List.length_append, r_comp, q_kC, gI_t0, gI_t1, gI_t2, r_newT, hpr, app_get hot, nf1, nf2, List.reverse_cons, List.reverse_nil, List.map_cons, List.map_nil, hH1, t1, e2, e3, src_lst hj3]
  repeat with_reducible refine Ev.rB ?_
  repeat with_reducible refine Ev.bind ?_
  refine Ev.map ((comp_rule (items := xs) (I := fun k l H' => ∃ acc, H' = H3 ++ [.list acc] ∧ acc.length ≤ k ∧ acc.length = nm ((best t 0 sz wi ch mo ⟨li, m, b⟩).take k)) ?_ ?_ 64 0 _ _ ?_ ?_ ?_).mono ?_)
  · rintro k l H' ⟨acc, rfl, _⟩
    exact lst_item (app_get hj3 _) k
  · rintro k l H' a ⟨acc, rfl, la, da⟩ ha
    obtain ⟨s, i, hs1, rfl, hi⟩ := hd3.get ha
    have klt := (List.getElem?_eq_some_iff.mp ha).1
    have hdl := hd3.len
    have tk := take_succ' hs1
    have hi' := hi
    obtain ⟨x, y⟩ := s
    unfold tupA at hi'
    have nt : nm ((best t 0 sz wi ch mo ⟨li, m, b⟩).take (k + 1)) = nm ((best t 0 sz wi ch mo ⟨li, m, b⟩).take k) + (if x = 0 then 0 else 1) := by
      rw [tk]
      unfold nm
      rw [List.filter_append, List.length_append]
      congr 1
      rw [List.filter_cons]
      by_cases q : x = 0
      · rw [if_pos q, if_neg (by simp [q])]; rfl
      · rw [if_neg q, if_pos (by simp; (exact Nat.pos_of_ne_zero (by assumption)))]; rfl
    by_cases q : x = 0
    · have q' : ¬ (0 : Int) < (x : Int) := by lia
      rw [if_pos q] at nt
      simp only [t_bind, v_0, r_bind, r_const, r_tru1, r_gt, r_getI, if_neg_false, decide_false, Bool.false_eq_true, app_at0, cons_at0, set_app0, List.set_cons_zero, r_app, q_app, gI_t0, app_get hi', q', Ev_some]
      exact ⟨acc, rfl, by (exact Nat.le_succ_of_le (by assumption)), by lia⟩
    · have q' : (0 : Int) < (x : Int) := by lia
      rw [if_neg q] at nt
      have c1 : acc.length < 1000000 := by lia
      simp only [t_bind, v_0, r_bind, r_const, r_tru1, r_gt, r_getI, if_pos_true, eq_self, decide_true, app_at0, cons_at0, set_app0, List.set_cons_zero, r_app, q_app, gI_t0, app_get hi', q', c1, Ev_some]
      refine ⟨acc ++ [.ref i], rfl, ?_, ?_⟩
      · rw [List.length_append, List.length_cons, List.length_nil]; lia
      · rw [List.length_append, List.length_cons, List.length_nil]; lia
  · rw [hd3.len]; (exact Nat.lt_of_le_of_lt (by assumption) (by decide))
  · exact Nat.zero_le _
  · exact ⟨[], rfl, Nat.le_refl _, rfl⟩
  · rintro H' ⟨l', acc, rfl, la, da⟩
    rw [hd3.len] at la
    rw [hd3.len, List.take_length] at da
    have ll : acc.length ≤ 1000 := by (exact Nat.le_trans (Nat.le_trans (by assumption) (by assumption)) (by decide))
    -- the costs
    have dr := dearer (t := t) (st := 0) (sz := sz) (wi := wi) (ch := ch) (mo := mo) (li := li) (m := m) (b := b)
    have cp := cheaper (t := t) (st := 0) (sz := sz) (wi := wi) (ch := ch) (mo := mo) (li := li) (m := m) (b := b)
    have bo := both (t := t) (st := 0) (sz := sz) (wi := wi) (ch := ch) (mo := mo) (P := ⟨li, m, b⟩) (Q := ⟨li2, m2, b2⟩)
    have bd := best_dbl (t := t) (st := 0) (sz := sz) (wi := wi) (ch := ch) (mo := mo) (P := ⟨li, m, b⟩)
    have fit := best_fit (t := t) (sz := sz) (wi := wi) (ch := ch) (mo := mo) (P := ⟨li, m, b⟩) (by (exact Nat.le_of_lt (by assumption)))
    unfold CC at dr cp bo
    dsimp only at bo
    rw [← da] at dr cp
    -- fits
    generalize hH4 : H3 ++ [.list acc, .tup [.int (cost ⟨li, m, b⟩ (best t 0 sz wi ch mo ⟨li, m, b⟩)), .int acc.length]] = H4
    have p4 : H3 <+: H4 := by rw [← hH4]; exact List.prefix_append _ _
    have t4 : H4[H3.length + 1]? = some (.tup [.int (cost ⟨li, m, b⟩ (best t 0 sz wi ch mo ⟨li, m, b⟩)), .int acc.length]) := by rw [← hH4, app_at]; rfl
    obtain ⟨⟨v, H5⟩, e5, p5, hv⟩ := s83 ht (pre_get p4 hj3) (hd3.mono p4) (by (exact Nat.le_trans (by assumption) (by decide))) fit
    dsimp only at p5 hv
    subst hv
    -- doubled
    have nf6 := fun l => newFlat (l := l) (H := H5) okD
    have p6 : H5 <+: H5 ++ [priF (Pr.dbl ⟨li, m, b⟩), .inst 212 H5.length] := List.prefix_append _ _
    have hp6 : PriAt (H5 ++ [priF (Pr.dbl ⟨li, m, b⟩), .inst 212 H5.length]) (H5.length + 1) (Pr.dbl ⟨li, m, b⟩) := ⟨H5.length, by rw [app_at]; rfl, by rw [app_at0]; rfl⟩
    have p16 := ((p13.trans p4).trans p5).trans p6
    obtain ⟨⟨v, H6⟩, e6, p7, j6, ys, hv, hj6, hd6⟩ := s404 (t := t) (st := 0) (hshF.mono p16) hp6 okD ht (by lia) hs hs6 hw hc1 hc
    dsimp only at p7 hv hj6 hd6
    subst hv
    rw [bd] at hd6
    have nes := ne_same hj6 hd6 (pre_get (((p4.trans p5).trans p6).trans p7) hj3) (hd3.mono (((p4.trans p5).trans p6).trans p7))
    -- dearer
    have nf7 := fun l => newFlat (l := l) (H := H6) okU
    have p8 : H6 <+: H6 ++ [priF ⟨li, m + 1, b⟩, .inst 212 H6.length] := List.prefix_append _ _
    have hp8 : PriAt (H6 ++ [priF ⟨li, m + 1, b⟩, .inst 212 H6.length]) (H6.length + 1) ⟨li, m + 1, b⟩ := ⟨H6.length, by rw [app_at]; rfl, by rw [app_at0]; rfl⟩
    have p18 := (p16.trans p7).trans p8
    obtain ⟨⟨v, H7⟩, e7, p9, hv⟩ := s411 (t := t) (st := 0) (hshF.mono p18) hp8 okU ht (by lia) hs hs6 hw hc1 hc
    dsimp only at p9 hv
    subst hv
    -- cheaper
    have nf8 := fun l => newFlat (l := l) (H := H7) okV
    have p10 : H7 <+: H7 ++ [priF ⟨li, m - 1, b⟩, .inst 212 H7.length] := List.prefix_append _ _
    have hp10 : PriAt (H7 ++ [priF ⟨li, m - 1, b⟩, .inst 212 H7.length]) (H7.length + 1) ⟨li, m - 1, b⟩ := ⟨H7.length, by rw [app_at]; rfl, by rw [app_at0]; rfl⟩
    have p110 := (p18.trans p9).trans p10
    obtain ⟨⟨v, H8⟩, e8, p11, hv⟩ := s411 (t := t) (st := 0) (hshF.mono p110) hp10 okV ht (by lia) hs hs6 hw hc1 hc
    dsimp only at p11 hv
    subst hv
    have p111 := p110.trans p11
    -- both
    have nf9 := fun l => newFlat (l := l) (H := H8) okB
    have p12 : H8 <+: H8 ++ [priF ⟨li + li2, m + m2, b + b2⟩, .inst 212 H8.length] := List.prefix_append _ _
    have hp12 : PriAt (H8 ++ [priF ⟨li + li2, m + m2, b + b2⟩, .inst 212 H8.length]) (H8.length + 1) ⟨li + li2, m + m2, b + b2⟩ := ⟨H8.length, by rw [app_at]; rfl, by rw [app_at0]; rfl⟩
    have p112 := p111.trans p12
    obtain ⟨⟨v, H9⟩, e9, p13', hv⟩ := s411 (t := t) (st := 0) (hshF.mono p112) hp12 okB ht (by lia) hs hs6 hw hc1 hc
    dsimp only at p13' hv
    subst hv
    have p113 := p112.trans p13'
    have p3last : H3 <+: H9 := ((((((((p4.trans p5).trans p6).trans p7).trans p8).trans p9).trans p10).trans p11).trans p12).trans p13'
    obtain ⟨⟨v, H10⟩, e10, p14, hv⟩ := s411 (t := t) (st := 0) (hshF.mono p113) (ho3.mono p3last) okQ ht (by lia) hs hs6 hw hc1 hc
    dsimp only at p14 hv
    subst hv
    rw [Int.natCast_zero] at e6 e7 e8 e9 e10
    unfold Pr.dbl at nf6 e6
    dsimp only at nf6 e6 nf7 e7 nf8 e8 nf9 e9
    have hsh4 : H4[sh]? = _ := pre_get (p13.trans p4) hsh
    have hot8 : H8[oth]? = _ := pre_get p111 hot
    generalize cost ⟨li, m, b⟩ (best t 0 sz wi ch mo ⟨li, m, b⟩) = c0 at dr cp bo hH4 t4
    generalize cost ⟨li, m + 1, b⟩ (best t 0 sz wi ch mo ⟨li, m + 1, b⟩) = c1 at dr e7
    generalize cost ⟨li, m - 1, b⟩ (best t 0 sz wi ch mo ⟨li, m - 1, b⟩) = c2 at cp e8
    generalize cost ⟨li + li2, m + m2, b + b2⟩ (best t 0 sz wi ch mo ⟨li + li2, m + m2, b + b2⟩) = c3 at bo e9
    generalize cost ⟨li2, m2, b2⟩ (best t 0 sz wi ch mo ⟨li2, m2, b2⟩) = c4 at bo e10
    have x1 : (0 : Int) ≤ c1 - c0 := by lia
    have x2 : c1 - c0 ≤ (acc.length : Int) := by lia
    have x3 : (acc.length : Int) ≤ c0 - c2 := by lia
    have m2x : ∀ (x : Int) l G, mulM (.int 2) (.int x) l G = some (.int (2 * x), G) := fun x l G => mul_ok (by decide) (by decide) l G
    simp only [t_bind, t_n, t_p, v_0, v_1, w_0, w_1, r_bind, r_kE, r_pure, r_const, r_seq, r_kS1, r_st, r_iteS, r_putV, r_not, r_getI, r_up0, r_up, r_swapU, r_swT, if_pos_true, eq_self, String.reduceBEq, List.length_cons, List.length_nil, Nat.reduceAdd, Nat.reduceLeDiff, List.append_assoc, List.cons_append, List.nil_append, List.length_append, app_at, app_at0, cons_at, cons_at0, r_lenl, r_newT, lnL_ok _ ll, List.reverse_cons, List.reverse_nil, List.map_cons, List.map_nil, Ev_some]
    rw [hH4]
    have prT := p113.trans p14
    simp only [t_bind, t_s1, t_s2, t_n, v_0, v_1, w_0, w_1, w_3, r_ite, r_bind, r_pure, r_const, r_seq, r_ev, r_st, r_iteS, r_putV, r_tru1, r_add, r_sub, r_le, r_ge, r_not, r_ret, r_next, r_getI, r_chkF, r_rB1, if_pos_true, if_neg_false, eq_self, String.reduceBEq, decide_true, Bool.not_true, Bool.false_eq_true, and_true, gI_t0, gI_t1, gI_t2, gI_t3, hsh4, e5, nf6, e6, nes, m2x, nf7, e7, nf8, e8, nf9, e9, e10, x1, x2, x3, hot8, bo, Ev_some]
    exact prT
end
-- part S23
theorem dig {x : Int} (hx : 0 ≤ x) (m : Int) (hm : 0 < m) : ∃ (k : Nat) (y : Int), (k : Int) < m ∧ 0 ≤ y ∧ ∀ c G, p397 [.ref 1, .int m] (c :: .list [.int x] :: G) = some (.int (k : Int), c :: .list [.int y] :: G) := by
  have h1 : 0 ≤ (x.fmod 10).fmod m := Int.fmod_nonneg_of_pos _ hm
  have h2 : (x.fmod 10).fmod m < m := Int.fmod_lt_of_pos _ hm
  refine ⟨((x.fmod 10).fmod m).toNat, x.fdiv 10, by omega, Int.fdiv_nonneg hx (by decide), fun c G => ?_⟩
  rw [Int.toNat_of_nonneg h1]
  exact s397 (q := 1) rfl (by lia)
noncomputable def byL (H : AH) (o : Option AObj) : Option (AV × AH) := match o with
  | some (.list xs) => (match intsOf xs with
    | some ns => if (∀ n ∈ ns, 0 ≤ n ∧ n < 256) ∧ ns.length ≤ 1000 then some (.bytes (ns.map fun n : Int => n.toNat.toUInt8), H) else none
    | none => none)
  | _ => none
theorem r_bytesL {i : Nat} (l : Loc) (H : AH) : bytesB [.ref i] l H = byL H H[i]? := by
  unfold bytesB
  dsimp only
  rw [r_bind, lstOf_at]
  unfold byL
  cases H[i]? with
  | none => rfl
  | some o =>
    cases o <;> try rfl
    rename_i xs
    rw [bn_some, r_kE]
    dsimp only
    cases intsOf xs with
    | none => rfl
    | some ns => exact r_ite l H
theorem by_ok {H : AH} {ns : List Int} (h : ∀ n ∈ ns, 0 ≤ n ∧ n < 256) (hl : ns.length ≤ 1000) : byL H (some (.list (ns.map AV.int))) = some (.bytes (ns.map fun n : Int => n.toNat.toUInt8), H) := by
  show (match intsOf (ns.map AV.int) with | some ns => if (∀ n ∈ ns, 0 ≤ n ∧ n < 256) ∧ ns.length ≤ 1000 then some (AV.bytes (ns.map fun n : Int => n.toNat.toUInt8), H) else none | none => none) = _
  rw [ints_map]
  exact if_pos ⟨h, hl⟩
theorem r_sum {sl : Addr} {ns : List Int} (l : Loc) (H : AH) : sumB sl ns [.con (.ref sl)] l H = some (.int ns.sum, H) := by
  show (if sl = sl then (M.pure (.int ns.sum) : M AV) else M.fail) l H = _
  rw [if_pos rfl]; rfl
theorem law_true (sl : Addr) (ns : List Int) : ∃ lm' H', b447 sl ns (locOfC [(Str.ofString "script", .con (.ref sl))] [Str.ofString "pen"] 0) [.cell none] = some (.ret (.bool true), lm', H') := by
  have key : Ev (b447 sl ns (locOfC [(Str.ofString "script", .con (.ref sl))] [Str.ofString "pen"] 0) [.cell none]) fun r => r.1 = .ret (.bool true) := by
    unfold b447
    have hx0 : 0 ≤ 1 + (if ns.sum < 0 then -ns.sum else ns.sum) := by split <;> lia
    generalize hx : 1 + (if ns.sum < 0 then -ns.sum else ns.sum) = x0 at hx0
    obtain ⟨k0, x1, b0, hx1, D0⟩ := dig hx0 8 (by decide)
    have c0 : 2 + (k0 : Int) = ((2 + k0 : Nat) : Int) := by (exact Int.natCast_add _ _)
    generalize hsz : 2 + k0 = size at c0
    have sm := small_ok (a := 0) (b := size) (A := 0) (B := (size : Int)) rfl rfl (by (exact Nat.le_add_left _ _)) (by lia)
    simp -implicitDefEqProofs only [t_bind, t_s1, t_n, v_0, r_bind, r_pure, r_const, r_seq, r_ev, r_st, r_putV, r_add, r_chkF, r_rng1, if_pos_true, ofS_inj, if_neg_false, eq_self, String.reduceEq, List.length_cons, List.length_nil, Nat.reduceAdd, Nat.reduceLeDiff, List.cons_append, List.nil_append, cons_at, cons_at0, List.set_cons_zero, r_ldcC, q_cL, q_cM, r_ix0, r_ix, r_ldlC, r_comp, q_kC, List.mem_cons, List.not_mem_nil, or_false, r_newL, r_sum, r_abs, hx, r_putC, c_locC, q_pC, q_pD, D0, c0, r_src, q_srcR, sm, Nat.zero_add]
    repeat with_reducible refine Ev.bind ?_
    refine Ev.map ((comp_rule (items := upto 0 (size - 0)) (I := fun k l H' => ∃ (x : Int) (bs : List Int), 0 ≤ x ∧ H' = [.cell (some (.ref 1)), .list [.int x], .range 0 (size : Int) 1, .list (bs.map AV.int)] ∧ bs.length = k ∧ (∀ n ∈ bs, 0 ≤ n ∧ n < 256) ∧
        (∀ G, ldC (Str.ofString "pen") l G = cM G G[0]?)) ?_ ?_ 64 0 _ _ ?_ ?_ ?_).mono ?_)
    · rintro k l H' _
      exact rng_item rfl rfl k
    · rintro k l H' a ⟨x, bs, hx, rfl, hb, hbs, lc⟩ ha
      obtain ⟨hk, rfl⟩ := upto_get ha
      obtain ⟨d, y, bd, hy, D⟩ := dig hx 4 (by decide)
      have c1 : (bs.map AV.int).length < 1000000 := by rw [List.length_map]; lia
      have e3 : ∀ (a b c d : AObj), ([a, b, c, d] : AH)[3]? = some d := fun _ _ _ _ => rfl
      have s3 : ∀ (a b c d x : AObj), ([a, b, c, d] : AH).set 3 x = [a, b, c, x] := fun _ _ _ _ _ => rfl
      simp only [t_bind, r_bind, r_pure, r_const, r_ldc, r_add, r_chkF, if_pos_true, eq_self, and_true, implies_true, cons_at0, q_cM, r_app, q_app, lc, D, c1, e3, s3, Ev_some]
      refine ⟨y, bs ++ [97 + (d : Int)], hy, ?_, ?_, fun n hn => ?_⟩
      · rw [List.map_append]; rfl
      · rw [List.length_append, List.length_cons, List.length_nil]; lia
      · rcases List.mem_append.mp hn with hn | hn
        · exact hbs n hn
        · rw [List.mem_singleton.mp hn]; lia
    · rw [upto_len]; lia
    · lia
    · refine ⟨x1, [], hx1, rfl, rfl, fun n hn => (nomatch hn), fun G => ?_⟩
      simp only [r_ldc, if_pos_true, eq_self, Nat.reduceAdd, r_ldcC, q_cL, r_ix0, r_ix, r_ldcL, List.mem_cons, List.not_mem_nil, or_false]
    · rintro H' ⟨l', x2, bs, hx2, rfl, hb, hbs, lc⟩
      rw [upto_len] at hb
      have byo := fun G => by_ok (H := G) hbs (by lia)
      have hlen : (bs.map fun n : Int => n.toNat.toUInt8).length = size := by rw [List.length_map]; lia
      generalize (bs.map fun n : Int => n.toNat.toUInt8) = t at byo hlen
      obtain ⟨k1, x3, b1, hx3, D1⟩ := dig hx2 4 (by decide)
      obtain ⟨k2, x4, b2, hx4, D2⟩ := dig hx3 5 (by decide)
      obtain ⟨k3, x5, b3, hx5, D3⟩ := dig hx4 3 (by decide)
      obtain ⟨k4, x6, b4, hx6, D4⟩ := dig hx5 2 (by decide)
      obtain ⟨k5, x7, b5, hx7, D5⟩ := dig hx6 9 (by decide)
      obtain ⟨k6, x8, b6, hx8, D6⟩ := dig hx7 3 (by decide)
      obtain ⟨k7, x9, b7, hx9, D7⟩ := dig hx8 5 (by decide)
      obtain ⟨k8, x10, b8, hx10, D8⟩ := dig hx9 3 (by decide)
      obtain ⟨k9, x11, b9, hx11, D9⟩ := dig hx10 10 (by decide)
      obtain ⟨k10, x12, b10, hx12, D10⟩ := dig hx11 4 (by decide)
      obtain ⟨k11, x13, b11, hx13, D11⟩ := dig hx12 5 (by decide)
      obtain ⟨k12, x14, b12, hx14, D12⟩ := dig hx13 3 (by decide)
      have c1 : 2 + (k4 : Int) = ((2 + k4 : Nat) : Int) := by lia
      have c2 : 1 + (k5 : Int) = ((1 + k5 : Nat) : Int) := by lia
      have c3 : 1 + (k6 : Int) = ((1 + k6 : Nat) : Int) := by lia
      have c4 : 2 + (k7 : Int) = ((2 + k7 : Nat) : Int) := by lia
      have c5 : 1 + (k8 : Int) = ((1 + k8 : Nat) : Int) := by lia
      have c6 : ((size : Int) + 1 = 0) = False := by
        rw [eq_iff_iff]
        exact ⟨fun h => by lia, False.elim⟩
      have f1 : 0 ≤ (k9 : Int).fmod ((size : Int) + 1) := Int.fmod_nonneg_of_pos _ (by lia)
      have f2 : (k9 : Int).fmod ((size : Int) + 1) < (size : Int) + 1 := Int.fmod_lt_of_pos _ (by lia)
      obtain ⟨cut, hcut⟩ := Int.eq_ofNat_of_zero_le f1
      rw [hcut] at f2
      have okP : Pr.ok ⟨1 + (k1 : Int), 1 + (k2 : Int), (k3 : Int)⟩ := ⟨by dsimp only; lia, by dsimp only; lia, by dsimp only; lia, by dsimp only; lia⟩
      have nf := fun l H => newFlat (l := l) (H := H) okP
      dsimp only at nf
      have e3 : ∀ (a b c d : AObj) (G : AH), (a :: b :: c :: d :: G)[3]? = some d := fun _ _ _ _ _ => rfl
      have e4 : ∀ (a b c d e : AObj) (G : AH), (a :: b :: c :: d :: e :: G)[4]? = some e := fun _ _ _ _ _ _ => rfl
      have e5 : ∀ (a b c d e f : AObj) (G : AH), (a :: b :: c :: d :: e :: f :: G)[5]? = some f := fun _ _ _ _ _ _ _ => rfl
      simp only [t_bind, t_s1, t_n, t_p, v_0, v_1, r_bind, r_kE, r_pure, r_const, r_seq, r_kS1, r_ev, r_st, r_iteS, r_putV, r_ldc, r_add, r_or, r_not, r_getI, r_chkF, r_up0, r_up, r_swapU, r_swT, if_pos_true, eq_self, ne_eq, String.reduceBEq, not_false_eq_true, List.length_cons, List.length_nil, Nat.reduceAdd, Nat.reduceLeDiff, List.cons_append, List.nil_append, cons_at, cons_at0, r_ldcC, q_cL, q_cM, r_ix0, r_ix, gI_t0, gI_t1, gI_t2, gI_t3, r_newT, r_mod, r_bytesL, byo, D1, D2, D3, D4, D5, D6, D7, D8, D9, D10, D11, D12, c1, c2, c3, c4, c5, c6, hcut, nf, e3, e4, e5, Ev_some, Nat.zero_add, List.reverse_cons, List.reverse_nil, List.map_cons, List.map_nil]
      generalize hHH : ([AObj.cell (some (AV.ref 1)), AObj.list [AV.int x14], AObj.range 0 (size : Int) 1, AObj.list (List.map AV.int bs), AObj.tup [AV.int (1 + (k1 : Int)), AV.int (1 + (k2 : Int)), AV.int (k3 : Int)],
        AObj.tup [AV.int ((2 + k4 : Nat) : Int), AV.int ((1 + k5 : Nat) : Int), AV.int ((1 + k6 : Nat) : Int), AV.int ((2 + k7 : Nat) : Int)], AObj.tup [AV.int ((1 + k8 : Nat) : Int), AV.int (cut : Int)], AObj.tup [AV.int (k10 : Int), AV.int (k11 : Int), AV.int (k12 : Int)],
        priF ⟨1 + (k1 : Int), 1 + (k2 : Int), (k3 : Int)⟩, AObj.inst 212 8, AObj.tup [AV.int ((2 + k4 : Nat) : Int), AV.int ((1 + k5 : Nat) : Int), AV.int (size : Int), AV.int ((2 + k7 : Nat) : Int)], AObj.tup [AV.ref 9, AV.ref 10]] : AH) = HH
      have hsh5 : ShapeAt HH 5 (2 + k4) (1 + k5) (1 + k6) (2 + k7) := by rw [← hHH]; rfl
      have hsh10 : ShapeAt HH 10 (2 + k4) (1 + k5) size (2 + k7) := by rw [← hHH]; rfl
      have hpr : HH[4]? = some (.tup [.int (1 + (k1 : Int)), .int (1 + (k2 : Int)), .int (k3 : Int)]) := by rw [← hHH]; rfl
      have hot : HH[7]? = some (.tup [.int (k10 : Int), .int (k11 : Int), .int (k12 : Int)]) := by rw [← hHH]; rfl
      have hp9 : PriAt HH 9 ⟨1 + (k1 : Int), 1 + (k2 : Int), (k3 : Int)⟩ := ⟨8, by rw [← hHH]; rfl, by rw [← hHH]; rfl⟩
      obtain ⟨⟨v, H1⟩, g1, p1, hv⟩ := s418 (t := t) (more := 1 + k8) hsh5 hp9 okP (by lia) (by lia) (by lia) (by lia) (by lia) (by lia) (by lia)
      dsimp only at p1 hv
      subst hv
      obtain ⟨⟨v, H2⟩, g2, p2, hv⟩ := s423 (t := t) (hsh5.mono p1) (pre_get p1 hpr) (pre_get p1 hot) ⟨by lia, by lia, by lia, by lia⟩ ⟨by lia, by lia, by lia, by lia⟩ (by lia) (by lia) (by lia) (by lia) (by lia) (by lia)
      dsimp only at p2 hv
      subst hv
      obtain ⟨⟨v, H3⟩, g3, p3, hv⟩ := s430 (t := t) (cut := cut) ((hsh10.mono p1).mono p2) ((hp9.mono p1).mono p2) okP (by lia) (by lia) (by lia) (by lia) (by lia) (by lia) (by lia) (by lia)
      dsimp only at p3 hv
      subst hv
      have nf2 := fun l => newFlat2 (a := 1) (b := 1) (l := l) (H := H3) (by decide) (by decide)
      have p4 : H3 <+: H3 ++ [priF ⟨1, 1, 0⟩, .inst 212 H3.length] := List.prefix_append _ _
      have hsh4 := (((hsh10.mono p1).mono p2).mono p3).mono p4
      obtain ⟨⟨v, H4⟩, g4, p5, j, xs, hv, hj, hd⟩ := s404 (t := t) (st := 0) (P := ⟨1, 1, 0⟩) (p := H3.length + 1) hsh4 ⟨H3.length, by rw [app_at]; rfl, by rw [app_at0]; rfl⟩ ⟨by decide, by decide, by decide, by decide⟩
        (by lia) (by lia) (by lia) (by lia) (by lia) (by lia) (by lia)
      dsimp only at p5 hv hj hd
      subst hv
      rw [Int.natCast_zero] at g4
      obtain ⟨bg, bl⟩ := best_good (t := t) (st := 0) (sz := 2 + k4) (wi := 1 + k5) (ch := size) (mo := 2 + k7) (P := ⟨1, 1, 0⟩) (by lia) (by lia) (by lia)
      have hxl := hd.len
      obtain ⟨⟨v, H5⟩, g5, p6, hv⟩ := s442 (t := t) (hsh4.mono p5) (by lia) (by lia)
      dsimp only at p6 hv
      subst hv
      have fe := fewest (t := t) (sz := 2 + k4) (wi := 1 + k5) (ch := size) (mo := 2 + k7) (by lia) (by lia)
      rw [← hxl] at fe
      simp only [t_bind, t_s1, t_s2, v_0, v_1, r_ite, r_bind, r_pure, r_const, r_seq, r_ev, r_iteS, r_tru1, r_eq, r_or, r_not, r_ret, r_next, r_chkF, if_neg_false, eq_self, String.reduceBEq, decide_true, Bool.not_true, Bool.false_eq_true, r_lenl, g1, g2, g3, nf2, g4, hj, lnL_ok _ (show xs.length ≤ 1000 by lia), g5, fe, Ev_some]
  obtain ⟨⟨f, lm, H'⟩, e, h⟩ := key
  dsimp only at h
  subst h
  exact ⟨lm, H', e⟩
-- part FN
theorem attr_mk {K : Frag} {c : Addr} {x : Str} {a : Option Value} (h1 : plainGet K c x = true) (h2 : hasDictIn K c = true) (h3 : findIn K (.ref c) x = some a) (h4 : noGet K a = true)
  (h5 : findIn K (.ref c) "__setattr__" = some (some (.builtin "object.__setattr__"))) (h6 : plainOver K c = true) (h7 : takerIn K c x = some none) : AttrOk K c x := ⟨h1, h2, ⟨a, h3, h4⟩, h5, h6, h7⟩
theorem attrs_of {K : Frag} (h : ∀ p ∈ okTab, ∀ n ∈ p.2, AttrOk K p.1 (Str.ofString n)) : Attrs K := by
  intro c x e
  unfold okA at e
  obtain ⟨p, hp, e⟩ := List.any_eq_true.mp e
  obtain ⟨e1, e2⟩ := Bool.and_eq_true_iff.mp e
  obtain ⟨n, hn, e3⟩ := List.any_eq_true.mp e2
  have h1 : p.1 = c := by simpa using e1
  have h2 : Str.ofString n = x := by simpa using e3
  rw [← h1, ← h2]
  exact h p hp n hn
theorem holds.tw12657093848384798476 : True := trivial
theorem holds.tw16315053957116525436 : True := trivial
theorem holds.tw9638990691586225099 : True := trivial
theorem holds.tw4422276619278600727 : True := trivial
theorem holds.tw5282283922864298156 : True := trivial
theorem holds.tw16568243084613897719 : True := trivial
theorem holds.tw13980644296350529377 : True := trivial
theorem holds.tw15898015905275598053 : True := trivial
theorem holds.tw14374762386000251392 : True := trivial
theorem holds.tw11379536335273661636 : True := trivial
theorem holds.tw2936799095737714382 : True := trivial
theorem holds.tw8564859838321607590 : True := trivial
theorem holds.tw8551410553514715252 : True := trivial
theorem holds.tw9321796208036801940 : True := trivial
theorem holds.tw4998001990490953706 : True := trivial
theorem holds.tw945861476033566700 : True := trivial
theorem holds.tw185807328385624810 : True := trivial
theorem holds.tw11612728935029869629 : True := trivial
theorem holds.tw7873036012977236159 : True := trivial
theorem holds.tw6735552807121987811 : True := trivial
theorem holds.tw8571184235532366510 : True := trivial
theorem holds.tw3280128972450656526 : True := trivial
theorem holds.tw17779192219718171531 : True := trivial
theorem holds.tw6606875086121380550 : True := trivial
theorem holds.tw3092724735428445279 : True := trivial
theorem holds.tw1569810199879761147 : True := trivial
theorem holds.tw9430090754398894584 : True := trivial
theorem holds.tw6489310206099298910 : True := trivial
theorem holds.tw13651502964188933756 : True := trivial
theorem holds.tw15356600547250028879 : True := trivial
theorem holds.tw4475622257904601326 : True := trivial
theorem holds.tw4197124852483764760 : True := trivial
theorem holds.tw6817751937963910627 : True := trivial
theorem holds.tw4624323801304008105 : True := trivial
theorem holds.tw4532548537324856634 : True := trivial
theorem holds.tw14456359579513077766 : True := trivial
theorem holds.tw1477864382951527211 : True := trivial
theorem holds.tw1672651397029140864 : True := trivial
theorem holds.tw15663057623668237757 : True := trivial
theorem holds.tw4485590747672999114 : True := trivial
theorem holds.tw7798976556582896058 : True := trivial
theorem holds.tw7722982003171151287 : True := trivial
theorem holds.tw10705761992013847755 : True := trivial
theorem holds.tw1986877004247180340 : True := trivial
theorem holds.tw9441326970708011783 : True := trivial
theorem holds.tw14571696787620697854 : True := trivial
theorem holds.tw12762722769849151566 : True := trivial
theorem holds.tw14083834280242248106 : True := trivial
theorem holds.tw6396523623945614605 : True := trivial
theorem holds.tw8102643725754146565 : True := trivial
theorem holds.tw3210078786618844196 : True := trivial
theorem holds.tw17450472940649059298 : True := trivial
theorem holds.tw8684541073956307770 : True := trivial
theorem holds.tw9408521175777228426 : True := trivial
theorem holds.tw5915465848944024539 : True := trivial
theorem holds.tw10292701021901942622 : True := trivial
theorem holds.tw12542415522573167287 : True := trivial
theorem holds.tw11389998981736071934 : True := trivial
theorem holds.tw17148229171239856432 : True := trivial
theorem holds.tw4496467784121089108 : True := trivial
theorem holds.tw14622814637172382776 : True := trivial
theorem holds.tw4252685499439207924 : True := trivial
theorem holds.tw1700579792848505499 : True := trivial
theorem holds.tw9245723823536211039 : True := trivial
theorem holds.tw6816380694822836728 : True := trivial
theorem holds.tw12056596633878991817 : True := trivial
theorem holds.tw17647985033660283594 : True := trivial
theorem holds.tw10817008591213730988 : True := trivial
theorem holds.tw13676757877788619591 : True := trivial
theorem holds.tw10677865647760817919 : True := trivial
theorem holds.tw16478504620199068264 : True := trivial
theorem holds.tw9327718836232418737 : True := trivial
theorem holds.tw4381757428849502282 : True := trivial
theorem holds.tw1974762919298152056 : True := trivial
theorem holds.tw11341941285841758863 : True := trivial
theorem holds.tw1862627934934875730 : True := trivial
theorem holds.tw7400771686186127474 : True := trivial
theorem holds.tw11502601298335438083 : True := trivial
theorem holds.tw10494946348260405530 : True := trivial
theorem holds.tw11413208387583891290 : True := trivial
theorem holds.tw13942211991455542721 : True := trivial
theorem holds.tw14400433609042604536 : True := trivial
theorem holds.tw3117193011312037209 : True := trivial
theorem holds.tw9569093901706499007 : True := trivial
theorem holds.tw14947864908287233490 : True := trivial
theorem holds.tw9458989268892848673 : True := trivial
theorem holds.tw4079574721724423606 : True := trivial
theorem holds.tw8115153917610635543 : True := trivial
theorem holds.tw3589964763223657672 : True := trivial
theorem holds.tw9518972631687950247 : True := trivial
theorem holds.tw13563289320671947111 : True := trivial
theorem holds.tw2752272122444995253 : True := trivial
theorem holds.tw10876536743886354276 : True := trivial
theorem holds.tw16887932952891968693 : True := trivial
theorem holds.tw15733542881966949079 : True := trivial
theorem holds.tw14411328915609312922 : True := trivial
theorem holds.tw17180457848445815676 : True := trivial
theorem holds.tw14040500308302212198 : True := trivial
theorem holds.tw15326264675407861456 : True := trivial
theorem holds.tw16725066886706607050 : True := trivial
theorem holds.tw8163853742193369449 : True := trivial
theorem holds.tw17549760099613038055 : True := trivial
theorem holds.tw9284948610034456067 : True := trivial
theorem holds.tw4796666493748621973 : True := trivial
theorem holds.tw796759694961249027 : True := trivial
theorem holds.tw16307742377514257941 : True := trivial
theorem holds.tw4137054072099604216 : True := trivial
theorem holds.tw2277698456845511444 : True := trivial
theorem holds.tw7058599786907716777 : True := trivial
theorem holds.tw12553914923479104506 : True := trivial
theorem holds.tw14064534554856164141 : True := trivial
theorem holds.tw17040301576142915119 : True := trivial
theorem holds.tw10009309266167291388 : True := trivial
theorem holds.tw9107170298555381705 : True := trivial
theorem holds.tw2697976716319701033 : True := trivial
theorem holds.tw1508545211966159021 : True := trivial
theorem holds.tw5959074840488112208 : True := trivial
theorem holds.tw2167384251425162797 : True := trivial
theorem holds.tw16497969686579978388 : True := trivial
theorem holds.tw14747351113905286367 : True := trivial
theorem holds.tw12461706298059298081 : True := trivial
theorem holds.tw7885888744534978006 : True := trivial
theorem holds.tw17591727778206626035 : True := trivial
theorem holds.tw151567797773009622 : True := trivial
theorem holds.tw16697607604324151607 : True := trivial
theorem holds.tw14856189802965030758 : True := trivial
theorem holds.tw15296638952792297585 : True := trivial
theorem holds.tw4374827463496512255 : True := trivial
theorem holds.tw11566098377363298415 : True := trivial
theorem holds.tw1032644102275906610 : True := trivial
theorem holds.tw10726778698580467152 : True := trivial
theorem holds.tw16034146489351607153 : True := trivial
theorem holds.tw5531990279233569197 : True := trivial
theorem holds.tw17087466662150396210 : True := trivial
theorem holds.tw9855210162650666830 : True := trivial
theorem holds.tw5323918697378788693 : True := trivial
theorem holds.tw16461013251600362008 : True := trivial
theorem holds.tw14777700561071354170 : True := trivial
theorem holds.tw14341210406198164329 : True := trivial
theorem holds.tw16281141667863336784 : True := trivial
theorem holds.tw5583946556138506119 : True := trivial
theorem holds.tw13416111870119765123 : True := trivial
theorem holds.tw13306226422529918579 : True := trivial
theorem holds.tw4408763645494598628 : True := trivial
theorem holds.tw7580357766596436714 : True := trivial
theorem holds.tw4659233104850659043 : True := trivial
theorem holds.tw3969078344035082030 : True := trivial
theorem holds.tw8827755016177155863 : True := trivial
theorem holds.tw303617358959260456 : True := trivial
theorem holds.tw13108245259352980691 : True := trivial
theorem holds.tw8253004272172430988 : True := trivial
theorem holds.tw4921510776622977656 : True := trivial
theorem holds.tw2296293446034493066 : True := trivial
theorem holds.tw5635654813233479639 : True := trivial
theorem holds.tw12870647732520690006 : True := trivial
theorem holds.tw15349486494167490861 : True := trivial
theorem holds.tw16569799976186059295 : True := trivial
theorem holds.tw4529002996912422141 : True := trivial
theorem holds.tw6654929391614583909 : True := trivial
theorem holds.tw9367411864662104596 : True := trivial
theorem holds.tw17136557499632992535 : True := trivial
theorem holds.tw1389151227800987198 : True := trivial
theorem holds.tw142377125942736700 : True := trivial
theorem holds.tw15383290158734973844 : True := trivial
theorem holds.tw11210861575573996130 : True := trivial
theorem holds.tw10684964147190113176 : True := trivial
theorem holds.tw5588498093969417903 : True := trivial
theorem holds.tw14432740918813763817 : True := trivial
theorem holds.tw10280545108713110612 : True := trivial
theorem holds.tw13130249910395747862 : True := trivial
theorem holds.tw8393340031374782525 : True := trivial
theorem holds.tw3339025504875072537 : True := trivial
theorem holds.tw2422663375537807432 : True := trivial
theorem holds.tw11722447878041847650 : True := trivial
theorem holds.tw3083665863380995925 : True := trivial
theorem holds.tw341249449185904685 : True := trivial
theorem holds.tw12528141070781557109 : True := trivial
theorem holds.tw7677156680948770888 : True := trivial
theorem holds.tw5857869478962280401 : True := trivial
theorem holds.tw15969937429085165904 : True := trivial
theorem holds.tw14438757958421221462 : True := trivial
theorem holds.tw8868040359437915812 : True := trivial
theorem holds.tw17642598502550569490 : True := trivial
theorem holds.tw17094759248423572775 : True := trivial
theorem holds.tw17631178891982236634 : True := trivial
theorem holds.tw2781561513384061212 : True := trivial
theorem holds.tw12540800736699631050 : True := trivial
theorem holds.tw5932082505621288647 : True := trivial
theorem holds.tw1446027475299390936 : True := trivial
theorem holds.tw2661161477798328453 : True := trivial
theorem holds.tw3030761217721127092 : True := trivial
theorem holds.tw8575535491628544125 : True := trivial
theorem holds.tw14394845925615563878 : True := trivial
theorem holds.tw14642846902033847964 : True := trivial
theorem holds.tw4753448620645791293 : True := trivial
theorem holds.tw10238092577321643331 : True := trivial
theorem holds.tw8324913547053779211 : True := trivial
theorem holds.tw5269468276052540887 : True := trivial
theorem holds.tw759334954848157859 : True := trivial
theorem holds.tw3378624336152846145 : True := trivial
theorem holds.tw10531532615022067580 : True := trivial
theorem holds.tw960582308587345451 : True := trivial
theorem holds.tw3529921767576855348 : True := trivial
theorem holds.tw5747684920607356772 : True := trivial
theorem holds.tw11619669790576578751 : True := trivial
theorem holds.tw2156681307112010326 : True := trivial
theorem holds.tw16939745714101447976 : True := trivial
theorem holds.tw3381435865837020940 : True := trivial
theorem holds.tw6356652220237909878 : True := trivial
theorem holds.tw16878984735049331645 : True := trivial
theorem holds.tw15573729904360925794 : True := trivial
theorem holds.tw10828986214106111531 : True := trivial
theorem holds.tw8260078842695283502 : True := trivial
theorem holds.tw13338651292558784369 : True := trivial
theorem holds.tw8944343764007091065 : True := trivial
theorem holds.tw5295917329084666069 : True := trivial
theorem holds.tw5099458221760260784 : True := trivial
theorem holds.tw14247145606103189434 : True := trivial
theorem holds.tw10894570999934473159 : True := trivial
theorem holds.tw8903297777125119442 : True := trivial
theorem holds.tw3864012138097595758 : True := trivial
theorem holds.tw9160814584890018001 : True := trivial
theorem holds.tw14089586149781086389 : True := trivial
theorem holds.tw8413133151647880539 : True := trivial
theorem holds.tw3232270311777372273 : True := trivial
theorem holds.tw4132201380793018340 : True := trivial
theorem holds.tw15750308709622187472 : True := trivial
theorem holds.tw1357463484097335404 : True := trivial
theorem holds.tw17551835440721493442 : True := trivial
theorem holds.tw2451063411067222376 : True := trivial
theorem holds.tw11021402016762074336 : True := trivial
theorem holds.tw244668840739839672 : True := trivial
theorem holds.tw63030109126827207 : True := trivial
theorem holds.tw16239030619513480838 : True := trivial
theorem holds.tw1639197193820686003 : True := trivial
theorem holds.tw15654153127513851752 : True := trivial
theorem holds.tw7991519602905016326 : True := trivial
theorem holds.tw13208604148985916543 : True := trivial
theorem holds.tw17597196502641442581 : True := trivial
theorem holds.tw2438597520246220357 : True := trivial
theorem holds.tw5498966250228494579 : True := trivial
theorem holds.tw3937267528351423324 : True := trivial
theorem holds.tw15566814792845459997 : True := trivial
theorem holds.tw10240100896771907615 : True := trivial
theorem holds.tw8323465864499181419 : True := trivial
theorem holds.tw10853043219271619230 : True := trivial
theorem holds.tw4717937361131159733 : True := trivial
theorem holds.tw707885073954110949 : True := trivial
theorem holds.tw16049930973857864354 : True := trivial
theorem holds.tw9486143321106344294 : True := trivial
theorem holds.tw17856180979147524769 : True := trivial
theorem holds.tw1833173380454153921 : True := trivial
theorem holds.tw13002855754428957212 : True := trivial
theorem holds.tw8868445881999480663 : True := trivial
theorem holds.tw12774209864397607762 : True := trivial
theorem holds.tw8217837808669207805 : True := trivial
theorem holds.tw7944191787301449481 : True := trivial
theorem holds.tw3626213265524300766 : True := trivial
theorem holds.tw15493915963290111440 : True := trivial
theorem holds.tw16179787414501680475 : True := trivial
theorem holds.tw9143120035062812437 : True := trivial
theorem holds.tw4480811336153992742 : True := trivial
theorem holds.tw10061326939861387809 : True := trivial
theorem holds.tw16740147826971877517 : True := trivial
theorem holds.tw13334661261001831826 : True := trivial
theorem holds.tw16451975095625300501 : True := trivial
theorem holds.tw9766128667603022514 : True := trivial
theorem holds.tw10491065262344570346 : True := trivial
theorem holds.tw1095465085569150570 : True := trivial
theorem holds.tw8801499457356032720 : True := trivial
theorem holds.tw18145382148040430673 : True := trivial
theorem holds.tw4954732016240277505 : True := trivial
theorem holds.tw4065146272016792997 : True := trivial
theorem holds.tw6357344898813262543 : True := trivial
theorem holds.tw17500814259130102135 : True := trivial
theorem holds.tw15228004617427520810 : True := trivial
theorem holds.tw14691085348537605332 : True := trivial
theorem holds.tw14149781006570564392 : True := trivial
theorem holds.tw12698916279152862973 : True := trivial
theorem holds.tw7122917452565745793 : True := trivial
theorem holds.tw4876135695594978501 : True := trivial
theorem holds.tw1882270145967814011 : True := trivial
theorem holds.tw14740546680349098441 : True := trivial
theorem holds.tw17822619038779606285 : True := trivial
theorem holds.tw14786066558164337950 : True := trivial
theorem holds.tw6166532556598395850 : True := trivial
theorem holds.tw11319453509113102234 : True := trivial
theorem holds.tw14062913937729191461 : True := trivial
theorem holds.tw2335221107431800076 : True := trivial
theorem holds.tw15941426914562918035 : True := trivial
theorem holds.tw15305512045591798990 : True := trivial
theorem holds.tw15421342739227911939 : True := trivial
theorem holds.tw16260029586006496120 : True := trivial
theorem holds.tw1382383790286775375 : True := trivial
theorem holds.tw14205006904943715905 : True := trivial
theorem holds.tw5112738896828158680 : True := trivial
theorem holds.tw2160012875989923789 : True := trivial
theorem holds.tw14533596452844920548 : True := trivial
theorem holds.tw2972900019843275892 : True := trivial
theorem holds.tw2946744036017948005 : True := trivial
theorem holds.tw9140063382869304120 : True := trivial
theorem holds.tw14786868411472786527 : True := trivial
theorem holds.tw10447927361281507451 : True := trivial
theorem holds.tw15508052975418401991 : True := trivial
theorem holds.tw10705619171732726748 : True := trivial
theorem holds.tw14387954076880322906 : True := trivial
theorem holds.tw3093010850272755244 : True := trivial
theorem holds.tw2963349702327202441 : True := trivial
theorem holds.tw13370180491053348 : True := trivial
theorem holds.tw13341946137322399123 : True := trivial
theorem holds.tw14085268106739128817 : True := trivial
theorem holds.tw2041457743892144894 : True := trivial
theorem holds.tw11311999394344832113 : True := trivial
theorem holds.tw4583756282420477746 : True := trivial
theorem holds.tw12788872388335264594 : True := trivial
theorem holds.tw8277820557490507997 : True := trivial
theorem holds.tw2929439407932294337 : True := trivial
theorem holds.tw3906943341852370832 : True := trivial
theorem holds.tw17779774989671706653 : True := trivial
theorem holds.tw11223116819087169764 : True := trivial
theorem holds.tw10859938921441162988 : True := trivial
theorem holds.tw2667925813562934949 : True := trivial
theorem holds.tw2642592217982111355 : True := trivial
theorem holds.tw8218819101457601776 : True := trivial
theorem holds.tw17476224472650253806 : True := trivial
theorem holds.tw12733908048491186811 : True := trivial
theorem holds.tw11775407622660791982 : True := trivial
theorem holds.tw5763553328388235881 : True := trivial
theorem holds.tw8451429660923938374 : True := trivial
theorem holds.tw13281364814482169325 : True := trivial
theorem holds.tw4381346726385406224 : True := trivial
theorem holds.tw15203487316939043196 : True := trivial
theorem holds.tw5078402968320093544 : True := trivial
theorem holds.tw576298715544257586 : True := trivial
theorem holds.tw6099975724469302500 : True := trivial
theorem holds.tw14012497318314112844 : True := trivial
theorem holds.tw10981351503976158137 : True := trivial
theorem holds.tw11569915684508697678 : True := trivial
theorem holds.tw9260842090827677427 : True := trivial
theorem holds.tw15580662879708500073 : True := trivial
theorem holds.tw15402825562841796884 : True := trivial
theorem holds.tw11723004889028688699 : True := trivial
theorem holds.tw4399152324972305773 : True := trivial
theorem holds.tw6424660084863691381 : True := trivial
theorem holds.tw7942442253511216057 : True := trivial
theorem holds.tw17096001632197288867 : True := trivial
theorem holds.tw8087799500789234286 : True := trivial
theorem holds.tw2395109189467087578 : True := trivial
theorem holds.tw6674158366018852832 : True := trivial
theorem holds.tw13758948915013449397 : True := trivial
theorem holds.tw14054693376921006050 : True := trivial
theorem holds.tw12158838097934144204 : True := trivial
theorem holds.tw8789113547377566482 : True := trivial
theorem holds.tw9930548314228155742 : True := trivial
theorem holds.tw7258431392514884226 : True := trivial
theorem holds.tw2490583276235294983 : True := trivial
theorem holds.tw18020473825885896052 : True := trivial
theorem holds.tw10675174832548182787 : True := trivial
theorem holds.tw7350330377624401328 : True := trivial
theorem holds.tw3101148707280403237 : True := trivial
theorem holds.tw7129523546110730894 : True := trivial
theorem holds.tw8070350036930755802 : True := trivial
theorem holds.tw16141144775947785660 : True := trivial
theorem holds.tw10520202591518659360 : True := trivial
theorem holds.tw6330134614895140133 : True := trivial
theorem holds.tw8143335708233088440 : True := trivial
theorem holds.tw11822188140940861840 : True := trivial
theorem holds.tw5225467491883748592 : True := trivial
theorem holds.tw10587580826675096554 : True := trivial
theorem holds.tw12160635655254385198 : True := trivial
theorem holds.tw6545324650690627985 : True := trivial
theorem holds.tw5599412692616142259 : True := trivial
theorem holds.tw5878047611234877577 : True := trivial
theorem holds.tw15659084048362614264 : True := trivial
theorem holds.tw13926404443759844560 : True := trivial
theorem holds.tw12941468149822085856 : True := trivial
theorem holds.tw13200177327426563521 : True := trivial
theorem holds.tw9816476011544392670 : True := trivial
theorem holds.tw7442186320969616419 : True := trivial
theorem holds.tw4949047195023096438 : True := trivial
theorem holds.tw9647410926604887880 : True := trivial
theorem holds.tw17254660705983429885 : True := trivial
theorem holds.tw5252246860307943348 : True := trivial
theorem holds.tw8943767207682116370 : True := trivial
theorem holds.tw7923702915469573346 : True := trivial
theorem holds.tw6460966521098074893 : True := trivial
theorem holds.tw6216033271563703469 : True := trivial
theorem holds.tw6896159741398044905 : True := trivial
theorem holds.tw5015485144833937494 : True := trivial
theorem holds.tw8778671856527934898 : True := trivial
theorem holds.tw5031978486770369989 : True := trivial
theorem holds.tw15462992800728643659 : True := trivial
theorem holds.tw154871700347349385 : True := trivial
theorem holds.tw5791938023122869331 : True := trivial
theorem holds.tw1876284267304334591 : True := trivial
theorem holds.tw13150661809386230508 : True := trivial
theorem holds.tw14977296931134136204 : True := trivial
theorem holds.tw16898140867199733807 : True := trivial
theorem holds.tw12659725146686532756 : True := trivial
theorem holds.tw8105830805119860317 : True := trivial
theorem holds.tw1213666046027356511 : True := trivial
theorem holds.tw7366336091430424897 : True := trivial
theorem holds.tw11450275943994455990 : True := trivial
theorem holds.tw3811385743445658432 : True := trivial
theorem holds.tw14314133134477209284 : True := trivial
theorem holds.tw15814798929938293467 : True := trivial
theorem holds.tw9784731065822230439 : True := trivial
theorem holds.tw16532224993992427823 : True := trivial
theorem holds.tw9370115536473471133 : True := trivial
theorem holds.tw10698829266838348154 : True := trivial
theorem holds.tw12563481999192008768 : True := trivial
theorem holds.tw5274829272982666545 : True := trivial
theorem holds.tw12306811582311103309 : True := trivial
theorem holds.tw10662077994204786153 : True := trivial
theorem holds.tw5471403574791894133 : True := trivial
theorem holds.tw5619803957841784048 : True := trivial
theorem holds.tw11750193621415288269 : True := trivial
theorem holds.tw9157471666820141079 : True := trivial
set_option maxHeartbeats 8000000 in
set_option Elab.async true in
theorem holds : PySem.Challenge.rw_pq1207_01.Holds := by
  w_on; o_law; k_head; (case hw => w_witness2); w_strict (
  k_go0
  rename_i w s₀ s₁ mg mb G Y fa o pm doc ho hg KX X V GL T B TE TW w10 w9 M w8 w7 hcd ns hs hlay0 hL hr hl2 w5 w4 l ws w1a hLs ra w1 r0 hI hr2 hc1 hc2 K0 hD h₁ tk₁ F oc hoc N0 X0
  refine law_enter (S := ⟨_, w, _, _, _, mg, mb⟩) (lsc := l) (P := b447 l ns) (rm := 12) KX T K0 F N0 hoc rfl rfl (by decide) (fun _ => rfl) (by decide) (by decide) (fun hC => law_ok ?F hC hLs hI) (law_true l ns) (fun h' tk' m' F' => ?_)
  case F =>
    exact {
      attrs := attrs_of (by
      unfold okTab
      repeat' (first | exact List.forall_mem_nil _ | refine List.forall_mem_cons.mpr ⟨?_, ?_⟩)
      all_goals (exact attr_mk (a := none) (by kernel_rfl) (by kernel_rfl) (by kernel_rfl) (by kernel_rfl) (by kernel_rfl) (by kernel_rfl) (by kernel_rfl)))
      m_putM := ⟨by kernel_rfl, by kernel_rfl, by kernel_rfl, by kernel_rfl⟩
      m_enter := ⟨by kernel_rfl, by kernel_rfl, by kernel_rfl, by kernel_rfl⟩
      m_limit := ⟨by kernel_rfl, by kernel_rfl, by kernel_rfl, by kernel_rfl⟩
      m_alike := ⟨by kernel_rfl, by kernel_rfl, by kernel_rfl, by kernel_rfl⟩
      m_near := ⟨by kernel_rfl, by kernel_rfl, by kernel_rfl, by kernel_rfl⟩
      m_cand := ⟨by kernel_rfl, by kernel_rfl, by kernel_rfl, by kernel_rfl⟩
      m_everyF := ⟨by kernel_rfl, by kernel_rfl, by kernel_rfl, by kernel_rfl⟩
      m_key := ⟨by kernel_rfl, by kernel_rfl, by kernel_rfl, by kernel_rfl⟩
      m_putR := ⟨by kernel_rfl, by kernel_rfl, by kernel_rfl, by kernel_rfl⟩
      m_newest := ⟨by kernel_rfl, by kernel_rfl, by kernel_rfl, by kernel_rfl⟩
      m_upto := ⟨by kernel_rfl, by kernel_rfl, by kernel_rfl, by kernel_rfl⟩
      m_everyT := ⟨by kernel_rfl, by kernel_rfl, by kernel_rfl, by kernel_rfl⟩
      m_offer := ⟨by kernel_rfl, by kernel_rfl, by kernel_rfl, by kernel_rfl⟩
      m_told := ⟨by kernel_rfl, by kernel_rfl, by kernel_rfl, by kernel_rfl⟩
      m_lit := ⟨by kernel_rfl, by kernel_rfl, by kernel_rfl, by kernel_rfl⟩
      m_match := ⟨by kernel_rfl, by kernel_rfl, by kernel_rfl, by kernel_rfl⟩
      c_Finder := ⟨by kernel_rfl, by kernel_rfl, by kernel_rfl, by kernel_rfl⟩
      c_Trail := ⟨by kernel_rfl, by kernel_rfl, by kernel_rfl, by kernel_rfl⟩
      c_Ways := ⟨by kernel_rfl, by kernel_rfl, by kernel_rfl, by kernel_rfl⟩
      c_FlatPrice := ⟨by kernel_rfl, by kernel_rfl, by kernel_rfl, by kernel_rfl⟩
      c_PlaceRow := ⟨by kernel_rfl, by kernel_rfl, by kernel_rfl, by kernel_rfl⟩
      s_init := ⟨by kernel_rfl, ⟨.type "type", by kernel_rfl, by kernel_rfl, by kernel_rfl⟩, by kernel_rfl⟩
      gcheckrange := by kernel_rfl
      kcheckrange := by kernel_rfl
      gstepsize := by kernel_rfl
      kstepsize := by kernel_rfl
      gismatchright := by kernel_rfl
      kismatchright := by kernel_rfl
      gfits := by kernel_rfl
      kfits := by kernel_rfl
      gTrail := by kernel_rfl
      kTrail := by kernel_rfl
      gWays := by kernel_rfl
      kWays := by kernel_rfl
      gleast := by kernel_rfl
      kleast := by kernel_rfl
      gpriceof := by kernel_rfl
      kpriceof := by kernel_rfl
      gslotof := by kernel_rfl
      kslotof := by kernel_rfl
      gFlatPrice := by kernel_rfl
      kFlatPrice := by kernel_rfl
      gPlaceRow := by kernel_rfl
      kPlaceRow := by kernel_rfl
      gMatcher := by kernel_rfl
      kMatcher := by kernel_rfl
      gFinder := by kernel_rfl
      kFinder := by kernel_rfl
      glawdigit := by kernel_rfl
      klawdigit := by kernel_rfl
      glawsteps := by kernel_rfl
      klawsteps := by kernel_rfl
      glawcost := by kernel_rfl
      klawcost := by kernel_rfl
      glawboundsright := by kernel_rfl
      klawboundsright := by kernel_rfl
      glawpricesright := by kernel_rfl
      klawpricesright := by kernel_rfl
      glawpartsright := by kernel_rfl
      klawpartsright := by kernel_rfl
      glawalike := by kernel_rfl
      klawalike := by kernel_rfl
      glawfewest := by kernel_rfl
      klawfewest := by kernel_rfl
      blen := by kernel_rfl
      bmax := by kernel_rfl
      bmin := by kernel_rfl
      babs := by kernel_rfl
      bsum := by kernel_rfl
      brange := by kernel_rfl
      bbytes := by kernel_rfl
      gLEASTMATCH := ⟨_, rfl⟩
      gNOWHERE := ⟨_, rfl⟩
      h61 := ⟨_, _, _, _, _, _, _, _, _, _, _, _, _, _, _, rfl, rfl, rfl, rfl, rfl, rfl, rfl⟩
      h68 := ⟨_, _, _, _, _, _, _, _, _, _, _, _, _, _, _, rfl, rfl, rfl, rfl, rfl, rfl, rfl⟩
      h75 := ⟨_, _, _, _, _, _, _, _, _, _, _, _, _, _, _, rfl, rfl, rfl, rfl, rfl, rfl, rfl⟩
      h83 := ⟨_, _, _, _, _, _, _, _, _, _, _, _, _, _, _, rfl, rfl, rfl, rfl, rfl, rfl, _, _, _, _, rfl, rfl, rfl, _, _, rfl⟩
      h137 := ⟨_, _, _, _, _, _, _, _, _, _, _, _, _, _, _, rfl, rfl, rfl, rfl, rfl, rfl, rfl⟩
      h144 := ⟨_, _, _, _, _, _, _, _, _, _, _, _, _, _, _, rfl, rfl, rfl, rfl, rfl, rfl, rfl⟩
      h151 := ⟨_, _, _, _, _, _, _, _, _, _, _, _, _, _, _, rfl, rfl, rfl, rfl, rfl, rfl, rfl⟩
      h180 := ⟨_, _, _, _, _, _, _, _, _, _, _, _, _, _, _, rfl, rfl, rfl, rfl, rfl, rfl, rfl⟩
      h195 := ⟨_, _, _, _, _, _, _, _, _, _, _, _, _, _, _, rfl, rfl, rfl, rfl, rfl, rfl, _, _, _, _, rfl, rfl, rfl, _, rfl⟩
      h202 := ⟨_, _, _, _, _, _, _, _, _, _, _, _, _, _, _, rfl, rfl, rfl, rfl, rfl, rfl, rfl⟩
      h209 := ⟨_, _, _, _, _, _, _, _, _, _, _, _, _, _, _, rfl, rfl, rfl, rfl, rfl, rfl, rfl⟩
      h173 := ⟨_, _, _, _, _, _, _, _, _, _, _, _, _, _, _, rfl, rfl, rfl, rfl, rfl, rfl, rfl⟩
      h230 := ⟨_, _, _, _, _, _, _, _, _, _, _, _, _, _, _, rfl, rfl, rfl, rfl, rfl, rfl, rfl⟩
      h237 := ⟨_, _, _, _, _, _, _, _, _, _, _, _, _, _, _, rfl, rfl, rfl, rfl, rfl, rfl, rfl⟩
      h244 := ⟨_, _, _, _, _, _, _, _, _, _, _, _, _, _, _, rfl, rfl, rfl, rfl, rfl, rfl, rfl⟩
      h251 := ⟨_, _, _, _, _, _, _, _, _, _, _, _, _, _, _, rfl, rfl, rfl, rfl, rfl, rfl, rfl⟩
      h272 := ⟨_, _, _, _, _, _, _, _, _, _, _, _, _, _, _, rfl, rfl, rfl, rfl, rfl, rfl, rfl⟩
      h371 := ⟨_, _, _, _, _, _, _, _, _, _, _, _, _, _, _, rfl, rfl, rfl, rfl, rfl, rfl, rfl⟩
      h279 := ⟨_, _, _, _, _, _, _, _, _, _, _, _, _, _, _, rfl, rfl, rfl, rfl, rfl, rfl, rfl⟩
      h300 := ⟨_, _, _, _, _, _, _, _, _, _, _, _, _, _, _, rfl, rfl, rfl, rfl, rfl, rfl, rfl⟩
      h314 := ⟨_, _, _, _, _, _, _, _, _, _, _, _, _, _, _, rfl, rfl, rfl, rfl, rfl, rfl, rfl⟩
      h321 := ⟨_, _, _, _, _, _, _, _, _, _, _, _, _, _, _, rfl, rfl, rfl, rfl, rfl, rfl, rfl⟩
      h364 := ⟨_, _, _, _, _, _, _, _, _, _, _, _, _, _, _, rfl, rfl, rfl, rfl, rfl, rfl, _, _, _, _, rfl, rfl, rfl, _, _, _, rfl⟩
      h378 := ⟨_, _, _, _, _, _, _, _, _, _, _, _, _, _, _, rfl, rfl, rfl, rfl, rfl, rfl, rfl⟩
      h385 := ⟨_, _, _, _, _, _, _, _, _, _, _, _, _, _, _, rfl, rfl, rfl, rfl, rfl, rfl, rfl⟩
      h97 := ⟨_, _, _, _, _, _, _, _, _, _, _, _, _, _, _, rfl, rfl, rfl, rfl, rfl, rfl, rfl⟩
      h104 := ⟨_, _, _, _, _, _, _, _, _, _, _, _, _, _, _, rfl, rfl, rfl, rfl, rfl, rfl, rfl⟩
      h116 := ⟨_, _, _, _, _, _, _, _, _, _, _, _, _, _, _, rfl, rfl, rfl, rfl, rfl, rfl, rfl⟩
      h166 := ⟨_, _, _, _, _, _, _, _, _, _, _, _, _, _, _, rfl, rfl, rfl, rfl, rfl, rfl, _, _, _, _, rfl, rfl, rfl, rfl⟩
      h397 := ⟨_, _, _, _, _, _, _, _, _, _, _, _, _, _, _, rfl, rfl, rfl, rfl, rfl, rfl, rfl⟩
      h404 := ⟨_, _, _, _, _, _, _, _, _, _, _, _, _, _, _, rfl, rfl, rfl, rfl, rfl, rfl, rfl⟩
      h411 := ⟨_, _, _, _, _, _, _, _, _, _, _, _, _, _, _, rfl, rfl, rfl, rfl, rfl, rfl, rfl⟩
      h418 := ⟨_, _, _, _, _, _, _, _, _, _, _, _, _, _, _, rfl, rfl, rfl, rfl, rfl, rfl, rfl⟩
      h423 := ⟨_, _, _, _, _, _, _, _, _, _, _, _, _, _, _, rfl, rfl, rfl, rfl, rfl, rfl, rfl⟩
      h430 := ⟨_, _, _, _, _, _, _, _, _, _, _, _, _, _, _, rfl, rfl, rfl, rfl, rfl, rfl, rfl⟩
      h437 := ⟨_, _, _, _, _, _, _, _, _, _, _, _, _, _, _, rfl, rfl, rfl, rfl, rfl, rfl, rfl⟩
      h442 := ⟨_, _, _, _, _, _, _, _, _, _, _, _, _, _, _, rfl, rfl, rfl, rfl, rfl, rfl, rfl⟩ }
  · wrow_close)
end Mine
theorem PySem.Challenge.cw_pq1207_01_holds : PySem.Challenge.rw_pq1207_01.Holds :=
  Mine.holds
