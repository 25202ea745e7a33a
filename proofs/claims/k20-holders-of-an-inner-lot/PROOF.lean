import PyProof.Rows.All
import HandS.SortInts
import Wide.All
import OpenK.AllK
import Wide.FinOn
import HandS.ForMost
import HandS.WordsExc
import HandS.IsInst
import HandS.HeadHook1
import HandS.Comp
import HandS.Flow
import HandS.TupAny
import HandS.Zip
import HandS.Property
import HandS.SlotsOwn
import KE.GoesMore
import HandS.Style
import HandS.Conv
import HandS.ExcIs
import HandS.ExcField
import HandS.TryMany
import KE.KSuper
import KE.KExcSuper
import HandS.ExcInit
import HandS.FStr
import HandS.HeadHook2
import HandS.Defaults
import HandS.HeadEnd
import KE.KStateDown
import HandS.Head0
import HandS.Head1
import HandS.Head2
import PySem.Challenge.RW_leastgates_k20_holders_of_an_inner_lot
set_option Elab.async false
set_option linter.all false
set_option maxRecDepth 100000
set_option maxHeartbeats 4000000
/-! DL0: sorted of a tuple. -/
namespace DL
open PySem PySem.Spec PyProof.Rows L2 SrtO
variable {prog : Program} {w : World} {A : Around} {E : Value → Shared → Prop} {s : Shared}
theorem gather_tup {l : Addr} {vs : List Value} {Q : List Value → Shared → Prop} {o : Obj} {n : Nat} (ho : s.heap.get? l = some o) (hc : o.cls = .type "tuple") (hd : o.data = .seq vs.toArray n) (hz : vs.length ≤ sizeLine)
    (h : Q vs { s with heap := (s.heap.push (seqObj "list" #[] 0)).update s.heap.objs.size (Obj.mapSeq (· ++ vs.toArray)) }) : wpAny (model prog w) A (collect (.ref l)) Q E s := by
  unfold collect
  refine wpAny_bind (wpAny_runValue <| codeAny_builtin entry_proto_collect' <| ?_)
  show wpAny (model prog w) _ (do again (.builtin "list.__iadd__" ⟨[← newList [], .ref l], []⟩)) _ _ _
  refine wpAny_bind (wpAny_newList (wpAny_pure (And.intro (Code.quiet_builtin _ (by decide +kernel)) (codeAny_builtin entry_list_iadd' ?_))))
  show wpAny (model prog w) _ (Builtin.List.listExtendWith (.ref s.heap.objs.size) (.ref l) (.ref s.heap.objs.size)) _ _ { s with heap := s.heap.push (seqObj "list" #[] 0) }
  unfold Builtin.List.listExtendWith
  have hl : (s.heap.push (seqObj "list" #[] 0)).get? l = some o := Heap.get?_push_of_some _ ho
  have new : (s.heap.push (seqObj "list" #[] 0)).get? s.heap.objs.size = some (seqObj "list" #[] 0) := Heap.get?_push_size _ rfl
  refine wpAny_bind (wpAny_typeOf (T := "tuple") (Exists.intro o (And.intro hl hc)) ?_)
  have two : (Value.type "tuple" == Value.type "tuple") = true := by rfl
  rw [if_pos (show _ = true by rw [two, Bool.or_true])]
  refine wpAny_bind (listItems_at hl hd <| wpAny_bind <| listItems_at (xs := #[]) (n := 0) new rfl ?_)
  rw [if_neg (show ¬ _ = true by simp)]
  refine wpAny_bind (listUpdate_at (xs := #[]) (n := 0) new rfl (wpAny_pure ?_) (Nat.zero_le _) (by
    show (#[] ++ vs.toArray).size ≤ sizeLine + 1
    rw [Array.size_append, List.size_toArray]
    show 0 + vs.length ≤ _
    omega))
  show wpAny _ A (do
      let q ← load s.heap.objs.size
      match q.data with
      | .seq xs _ => pure xs.toList
      | _ => unsupported "internal:collect") Q E _
  refine wpAny_bind (wpAny_load (get?_update_seq new _) ?_)
  show wpAny _ _ (pure ((#[] : Array Value) ++ vs.toArray).toList) _ _ _
  rw [show ((#[] : Array Value) ++ vs.toArray).toList = vs from by simp]
  exact wpAny_pure h
theorem sorted_tup {l : Addr} {vs : List Value} {ltv : Value → Value → Bool} {Q : Value → Shared → Prop} {o : Obj} {n : Nat} (O : Swo ltv) (ho : s.heap.get? l = some o) (hc : o.cls = .type "tuple") (hd : o.data = .seq vs.toArray n) (hz : vs.length ≤ sizeLine)
    (hS : 2 ≤ vs.length → ∀ (h₁ : Heap) (a : Addr), h₁.get? a = some (seqObj "list" vs.toArray 0) → SortableO prog w A.in1.in1 { s with heap := h₁ } a vs ltv)
    (h : ∀ out : List Value, SrtO.Srtd ltv out → SrtO.Stb ltv out vs → Q (.ref (s.heap.objs.size + 1)) { s with heap := sortedAll s.heap vs out.toArray }) : wpAny (model prog w) A (call (.builtin "sorted") [.ref l]) Q E s := by
  refine Calls.call_function_entry kind_sorted plain_sorted entry_sorted (args_sorted1 _) ?_
  unfold Builtin.«sorted»
  refine wpAny_bind (m := checkCount "sorted" 1 1 _) (wpAny_pure (wpAny_bind (gather_tup ho hc hd hz (wpAny_bind (wpAny_newList ?_ hz)))))
  have e1 : ((s.heap.push (seqObj "list" #[] 0)).update s.heap.objs.size (Obj.mapSeq (· ++ vs.toArray))).objs.size = s.heap.objs.size + 1 := (Heap.size_update ..).trans (size_push' ..)
  have e2 : (((s.heap.push (seqObj "list" #[] 0)).update s.heap.objs.size (Obj.mapSeq (· ++ vs.toArray))).push (seqObj "list" vs.toArray 0)).get? (s.heap.objs.size + 1) = some (seqObj "list" vs.toArray 0) := by
    rw [← e1]
    exact Heap.get?_push_size _ rfl
  show wpAny _ _ _ _ _ { s with heap := (((s.heap.push (seqObj "list" #[] 0)).update s.heap.objs.size (Obj.mapSeq (· ++ vs.toArray))).push (seqObj "list" vs.toArray 0)) }
  rw [e1]
  refine wpAny_bind (wpAny_holding (wpAny_call_entry slot_list_sort (Exists.intro _ (And.intro e2 rfl)) entry_list_sort ?_ (args_list_sort _)))
  exact list_sort_ord O e2 hz (fun h2 => hS h2 _ _ e2) fun out a b => ⟨_, rfl, wpAny_pure ⟨_, rfl, h out a b⟩⟩
/-- sorted(x), x a tuple of ints -/
def rSortedT (K : PySem.W.Frag) : List V → Hp → VK → Prop := fun vs H Q => ∃ (a : Addr) (ns : List Int), vs = [V.ref a] ∧ SqT K H a (ns.map V.int) ∧ ∀ (ns' : List Int) (p : Addr), ns'.Perm ns → ns'.Pairwise (· ≤ ·) → H p = none → Q (.ref p) (upd H p (.lst (ns'.map V.int)))
theorem cr_sortedT {X : Cx} : CallR X (.builtin "sorted") (rSortedT X.K) := by
  intro pins t σ H vs us Q I r h
  obtain ⟨a, ns, rfl, ha, q⟩ := h
  obtain ⟨its, rv, ⟨o, ho, hc, n, hd⟩, hz⟩ := I.tuple ha
  rw [Vals.ref1 r]
  have hi := rv.ints
  refine sorted_tup SrtO.swo_int ho hc hd (by rw [← rv.length]; exact hz) (fun h2 h₁ a' _ => SrtO.ints_sortable hi h2) fun out h1 h2 => ?_
  obtain ⟨k1, k2, k3⟩ := SrtO.ints_out hi h1 h2
  obtain ⟨ep, he⟩ := sortedAll_at t.heap its out.toArray
  have hn : ((out.map SrtO.iv).map V.int).length ≤ sizeLine := by
    rw [List.length_map] at hz ⊢
    rw [k2.length_eq]; exact hz
  refine ⟨.ref _, upd H (t.heap.objs.size + 1) (.lst ((out.map SrtO.iv).map V.int)), ?_, rfl, q _ _ k2 k3 (I.hok.fresh (Nat.le_succ _))⟩
  exact I.laid (t' := t.toks) (fun _ _ => sortedAll_old) (Nat.le_succ _) ⟨hn, out, ep, vals_of_ints k1, he⟩
end DL

set_option maxHeartbeats 4000000
/-! DL1: data trees, how they stand in the heap, how a state grows. -/
namespace DL
open PySem PySem.Spec PyProof.Rows L2

/-- data -/
inductive D where
  | non | bl (b : Bool) | int (i : Int) | str (s : Str) | lst (xs : List D) | tup (xs : List D)
  | obj (c : Str) (ns : List Str) (vs : List D) | cel | scr (is : List Int)
  deriving Inhabited
/-- an error: its class, its fields -/
structure Exn where
  cls : Str
  fs : List (Str × D)
  deriving Inhabited
/-- a state's ghost: where the cell stands, the frozen part, the whole -/
structure HS where
  d : Option Addr
  G : Hp
  H : Hp
  /-- the object that is being made -/
  x : Option Addr

mutual
def Rep (K : PySem.W.Frag) (d : Option Addr) (G : Hp) : D → V → Prop
  | .non, v => v = .non
  | .bl b, v => v = .bl b
  | .int i, v => v = .int i
  | .str s, v => v = .str s
  | .lst xs, v => ∃ a vs, v = .ref a ∧ G a = some (.lst vs) ∧ Reps K d G xs vs
  | .tup xs, v => ∃ a vs, v = .ref a ∧ G a = some (.tup vs) ∧ Reps K d G xs vs
  | .obj c ns xs, v => ∃ a dx fs, v = .ref a ∧ G a = some (.ins (He.ga K c) dx fs) ∧ fs.map (·.1) = ns ∧ Reps K d G xs (fs.map (·.2))
  | .cel, v => ∃ a, v = .ref a ∧ d = some a
  | .scr is, v => ∃ a, v = .ref a ∧ SqL K G a (is.map V.int)
def Reps (K : PySem.W.Frag) (d : Option Addr) (G : Hp) : List D → List V → Prop
  | [], vs => vs = []
  | x :: xs, vs => ∃ v ws, vs = v :: ws ∧ Rep K d G x v ∧ Reps K d G xs ws
end

theorem sqT_same {K : PySem.W.Frag} {H H' : Hp} {a : Addr} {xs : List V} (e : Same H H') (h : SqT K H a xs) : SqT K H' a xs := by
  rcases h with (h | ⟨o, h⟩) | h
  · exact .inl (.inl (e _ _ h))
  · exact .inl (.inr ⟨o, e _ _ h⟩)
  · exact .inr h

section
variable {K : PySem.W.Frag} {d d' : Option Addr} {G G' : Hp}
mutual
theorem Rep.mono (hd : ∀ a, d = some a → d' = some a) (hG : Same G G') : ∀ (x : D) (v : V), Rep K d G x v → Rep K d' G' x v
  | .non, v, h => by simpa [Rep] using h
  | .bl b, v, h => by simpa [Rep] using h
  | .int b, v, h => by simpa [Rep] using h
  | .str b, v, h => by simpa [Rep] using h
  | .lst xs, v, h => by
    simp only [Rep] at h ⊢
    obtain ⟨a, vs, e, s, r⟩ := h
    exact ⟨a, vs, e, hG _ _ s, Reps.mono hd hG xs vs r⟩
  | .tup xs, v, h => by
    simp only [Rep] at h ⊢
    obtain ⟨a, vs, e, s, r⟩ := h
    exact ⟨a, vs, e, hG _ _ s, Reps.mono hd hG xs vs r⟩
  | .obj c ns xs, v, h => by
    simp only [Rep] at h ⊢
    obtain ⟨a, dx, fs, e, s, n, r⟩ := h
    exact ⟨a, dx, fs, e, hG _ _ s, n, Reps.mono hd hG xs _ r⟩
  | .cel, v, h => by
    simp only [Rep] at h ⊢
    obtain ⟨a, e, s⟩ := h
    exact ⟨a, e, hd a s⟩
  | .scr is, v, h => by
    simp only [Rep] at h ⊢
    obtain ⟨a, e, s⟩ := h
    exact ⟨a, e, hG.seq s⟩
theorem Reps.mono (hd : ∀ a, d = some a → d' = some a) (hG : Same G G') : ∀ (xs : List D) (vs : List V), Reps K d G xs vs → Reps K d' G' xs vs
  | [], vs, h => by simpa [Reps] using h
  | x :: xs, vs, h => by
    simp only [Reps] at h ⊢
    obtain ⟨v, ws, e, r, q⟩ := h
    exact ⟨v, ws, e, Rep.mono hd hG x v r, Reps.mono hd hG xs ws q⟩
end
theorem Reps.length : ∀ {xs : List D} {vs : List V}, Reps K d G xs vs → vs.length = xs.length
  | [], vs, h => by simp only [Reps] at h; subst h; rfl
  | x :: xs, vs, h => by
    simp only [Reps] at h
    obtain ⟨v, ws, rfl, r, q⟩ := h
    simp [Reps.length q]
theorem Reps.get : ∀ {xs : List D} {vs : List V} {i : Nat} {x : D}, Reps K d G xs vs → xs[i]? = some x → ∃ v, vs[i]? = some v ∧ Rep K d G x v
  | [], vs, i, x, h, e => by simp at e
  | x :: xs, vs, i, y, h, e => by
    simp only [Reps] at h
    obtain ⟨v, ws, rfl, r, q⟩ := h
    cases i with
    | zero => simp at e; subst e; exact ⟨v, rfl, r⟩
    | succ i =>
      obtain ⟨v', e', r'⟩ := Reps.get (i := i) q (by simpa using e)
      exact ⟨v', by simpa using e', r'⟩
theorem Reps.get' : ∀ {xs : List D} {vs : List V} {i : Nat} {v : V}, Reps K d G xs vs → vs[i]? = some v → ∃ x, xs[i]? = some x ∧ Rep K d G x v
  | [], vs, i, x, h, e => by simp only [Reps] at h; subst h; simp at e
  | x :: xs, vs, i, y, h, e => by
    simp only [Reps] at h
    obtain ⟨v, ws, rfl, r, q⟩ := h
    cases i with
    | zero => simp at e; subst e; exact ⟨x, rfl, r⟩
    | succ i =>
      obtain ⟨v', e', r'⟩ := Reps.get' (i := i) q (by simpa using e)
      exact ⟨v', by simpa using e', r'⟩
theorem Reps.append : ∀ {xs ys : List D} {vs ws : List V}, Reps K d G xs vs → Reps K d G ys ws → Reps K d G (xs ++ ys) (vs ++ ws)
  | [], ys, vs, ws, h, q => by simp only [Reps] at h; subst h; exact q
  | x :: xs, ys, vs, ws, h, q => by
    simp only [Reps, List.cons_append] at h ⊢
    obtain ⟨v, us, rfl, r, t⟩ := h
    exact ⟨v, us ++ ws, rfl, r, Reps.append t q⟩
theorem Reps.take : ∀ {xs : List D} {vs : List V} (n : Nat), Reps K d G xs vs → Reps K d G (xs.take n) (vs.take n)
  | [], vs, n, h => by simp only [Reps] at h; subst h; simp [Reps]
  | x :: xs, vs, 0, h => by simp [Reps]
  | x :: xs, vs, n + 1, h => by
    simp only [Reps] at h
    obtain ⟨v, us, rfl, r, t⟩ := h
    simp only [List.take_succ_cons, Reps]
    exact ⟨v, _, rfl, r, Reps.take n t⟩
theorem Reps.drop : ∀ {xs : List D} {vs : List V} (n : Nat), Reps K d G xs vs → Reps K d G (xs.drop n) (vs.drop n)
  | [], vs, n, h => by simp only [Reps] at h; subst h; simp [Reps]
  | x :: xs, vs, 0, h => h
  | x :: xs, vs, n + 1, h => by
    simp only [Reps] at h
    obtain ⟨v, us, rfl, r, t⟩ := h
    simpa using Reps.drop n t
theorem Reps.set : ∀ {xs : List D} {vs : List V} (i : Nat) {x : D} {v : V}, Reps K d G xs vs → Rep K d G x v → Reps K d G (xs.set i x) (vs.set i v)
  | [], vs, n, x, v, h, r => by simp only [Reps] at h; subst h; simp [Reps]
  | y :: xs, vs, 0, x, v, h, r => by
    simp only [Reps] at h
    obtain ⟨u, us, rfl, _, t⟩ := h
    simp only [List.set_cons_zero, Reps]
    exact ⟨v, us, rfl, r, t⟩
  | y :: xs, vs, n + 1, x, v, h, r => by
    simp only [Reps] at h
    obtain ⟨u, us, rfl, q, t⟩ := h
    simp only [List.set_cons_succ, Reps]
    exact ⟨u, _, rfl, q, Reps.set n t r⟩
theorem Reps.one {x : D} {v : V} (r : Rep K d G x v) : Reps K d G [x] [v] := by
  simp only [Reps]
  exact ⟨v, [], rfl, r, rfl⟩
theorem Reps.cons {x : D} {v : V} {xs : List D} {vs : List V} (r : Rep K d G x v) (q : Reps K d G xs vs) : Reps K d G (x :: xs) (v :: vs) := by
  simp only [Reps]
  exact ⟨v, vs, rfl, r, q⟩
/-- ints -/
def ints? : List D → Option (List Int)
  | [] => some []
  | .int i :: r => (ints? r).map (i :: ·)
  | _ => none
theorem ints_rep : ∀ {xs : List D} {is : List Int} {vs : List V}, ints? xs = some is → Reps K d G xs vs → vs = is.map V.int
  | [], is, vs, h, r => by
    simp only [ints?, Option.some.injEq] at h
    subst h
    simpa [Reps] using r
  | .int i :: xs, is, vs, h, r => by
    simp only [ints?, Option.map_eq_some_iff] at h
    obtain ⟨js, e, rfl⟩ := h
    simp only [Reps, Rep] at r
    obtain ⟨v, ws, rfl, rfl, q⟩ := r
    rw [ints_rep e q]
    rfl
  | .non :: xs, is, vs, h, r => by simp [ints?] at h
  | .bl _ :: xs, is, vs, h, r => by simp [ints?] at h
  | .str _ :: xs, is, vs, h, r => by simp [ints?] at h
  | .lst _ :: xs, is, vs, h, r => by simp [ints?] at h
  | .tup _ :: xs, is, vs, h, r => by simp [ints?] at h
  | .obj _ _ _ :: xs, is, vs, h, r => by simp [ints?] at h
  | .cel :: xs, is, vs, h, r => by simp [ints?] at h
  | .scr _ :: xs, is, vs, h, r => by simp [ints?] at h
theorem reps_ints : ∀ (is : List Int), Reps K d G (is.map D.int) (is.map V.int)
  | [] => by simp [Reps]
  | i :: is => by
    simp only [List.map_cons]
    exact Reps.cons (by simp [Rep]) (reps_ints is)
theorem ints_map : ∀ (is : List Int), ints? (is.map D.int) = some is
  | [] => rfl
  | i :: is => by simp [ints?, ints_map is]
/-- bools -/
def bls? : List D → Option (List Bool)
  | [] => some []
  | .bl i :: r => (bls? r).map (i :: ·)
  | _ => none
theorem bls_rep : ∀ {xs : List D} {is : List Bool} {vs : List V}, bls? xs = some is → Reps K d G xs vs → vs = is.map V.bl
  | [], is, vs, h, r => by
    simp only [bls?, Option.some.injEq] at h
    subst h
    simpa [Reps] using r
  | .bl i :: xs, is, vs, h, r => by
    simp only [bls?, Option.map_eq_some_iff] at h
    obtain ⟨js, e, rfl⟩ := h
    simp only [Reps, Rep] at r
    obtain ⟨v, ws, rfl, rfl, q⟩ := r
    rw [bls_rep e q]
    rfl
  | .non :: xs, is, vs, h, r => by simp [bls?] at h
  | .int _ :: xs, is, vs, h, r => by simp [bls?] at h
  | .str _ :: xs, is, vs, h, r => by simp [bls?] at h
  | .lst _ :: xs, is, vs, h, r => by simp [bls?] at h
  | .tup _ :: xs, is, vs, h, r => by simp [bls?] at h
  | .obj _ _ _ :: xs, is, vs, h, r => by simp [bls?] at h
  | .cel :: xs, is, vs, h, r => by simp [bls?] at h
  | .scr _ :: xs, is, vs, h, r => by simp [bls?] at h
theorem bls_map : ∀ (is : List Bool), bls? (is.map D.bl) = some is
  | [] => rfl
  | i :: is => by simp [bls?, bls_map is]
end

/-! ### growth -/
structure Gr (a b : HS) : Prop where
  g : Same a.G b.G
  h : ∀ p o, a.H p = some o → a.d ≠ some p → b.H p = some o
  t : ∀ p, a.H p ≠ none → b.H p ≠ none
  n : ∀ p, b.G p ≠ none → a.G p ≠ none ∨ a.H p = none
  dm : b.d = a.d ∨ (a.d = none ∧ ∃ p, b.d = some p ∧ a.H p = none)
theorem Gr.refl (a : HS) : Gr a a := ⟨Same.refl _, fun _ _ h _ => h, fun _ h => h, fun _ h => .inl h, .inl rfl⟩
theorem Gr.t' {a b : HS} (g : Gr a b) {p : Addr} (h : b.H p = none) : a.H p = none := by
  cases e : a.H p with
  | none => rfl
  | some o => exact absurd h (g.t p (by rw [e]; simp))
theorem Gr.dd {a b : HS} (g : Gr a b) : ∀ p, a.d = some p → b.d = some p := fun p e => by
  rcases g.dm with h | ⟨h, _⟩
  · rw [h, e]
  · rw [h] at e; cases e
theorem Gr.nd {a b : HS} (g : Gr a b) {p : Addr} {o : HO} (h : a.H p = some o) (n : a.d ≠ some p) : b.d ≠ some p := by
  rcases g.dm with e | ⟨e, q, e', hq⟩
  · rw [e]; exact n
  · rw [e']
    intro z
    cases z
    rw [h] at hq; cases hq
theorem Gr.trans {a b c : HS} (x : Gr a b) (y : Gr b c) : Gr a c := by
  refine ⟨x.g.trans y.g, fun p o h n => y.h p o (x.h p o h n) (x.nd h n), fun p h => y.t p (x.t p h), fun p h => ?_, ?_⟩
  · rcases y.n p h with z | z
    · exact x.n p z
    · exact .inr (x.t' z)
  · rcases y.dm with e | ⟨e, q, e', hq⟩
    · rw [e]; exact x.dm
    · rcases x.dm with f | ⟨f, q', f', _⟩
      · exact .inr ⟨f.symm.trans e, q, e', x.t' hq⟩
      · rw [f'] at e; cases e

def CelOk (d : Option Addr) (c : Option (List Int)) (G H : Hp) : Prop :=
  (d = none ∧ c = none) ∨ ∃ (p : Addr) (is : List Int), d = some p ∧ c = some is ∧ H p = some (.lst (is.map V.int)) ∧ G p = none
structure Wf (c : Option (List Int)) (w : HS) : Prop where
  sub : Same w.G w.H
  cel : CelOk w.d c w.G w.H
theorem CelOk.imp {d : Option Addr} {c : Option (List Int)} {G H G' H' : Hp} (h : CelOk d c G H) (f : ∀ (p : Addr) (is : List Int), d = some p → H p = some (.lst (is.map V.int)) → G p = none → H' p = some (.lst (is.map V.int)) ∧ G' p = none) : CelOk d c G' H' := by
  rcases h with h | ⟨p, is, e1, e2, h1, h2⟩
  · exact .inl h
  · exact .inr ⟨p, is, e1, e2, f p is e1 h1 h2⟩
theorem Wf.cell {is : List Int} {w : HS} (h : Wf (some is) w) : ∃ p, w.d = some p ∧ w.H p = some (.lst (is.map V.int)) ∧ w.G p = none := by
  rcases h.cel with ⟨_, e⟩ | ⟨p, js, e1, e2, h1, h2⟩
  · cases e
  · cases e2
    exact ⟨p, e1, h1, h2⟩
theorem Wf.cellAt {c : Option (List Int)} {w : HS} (h : Wf c w) {p : Addr} (e : w.d = some p) : ∃ is, c = some is ∧ w.H p = some (.lst (is.map V.int)) ∧ w.G p = none := by
  rcases h.cel with ⟨z, _⟩ | ⟨q, js, e1, e2, h1, h2⟩
  · rw [z] at e; cases e
  · rw [e1] at e; cases e
    exact ⟨js, e2, h1, h2⟩
theorem Wf.nocell {w : HS} (h : Wf none w) : w.d = none := by
  rcases h.cel with ⟨z, _⟩ | ⟨q, js, e1, e2, h1, h2⟩
  · exact z
  · cases e2
theorem Wf.ne {c : Option (List Int)} {w : HS} (h : Wf c w) {p : Addr} (e : w.H p = none) : w.d ≠ some p := fun z => by
  obtain ⟨is, _, h2, _⟩ := h.cellAt z
  rw [e] at h2; cases h2
theorem Wf.gn {c : Option (List Int)} {w : HS} (h : Wf c w) {p : Addr} (e : w.H p = none) : w.G p = none := by
  cases q : w.G p with
  | none => rfl
  | some o => rw [h.sub _ _ q] at e; cases e
theorem same_upd {G H : Hp} {p : Addr} {o : HO} (h : Same G H) : Same (upd G p o) (upd H p o) := fun b u e => by
  by_cases hb : b = p
  · subst hb; rw [upd_same] at e ⊢; exact e
  · rw [upd_ne hb] at e ⊢; exact h b u e
theorem same_new {G : Hp} {p : Addr} {o : HO} (h : G p = none) : Same G (upd G p o) := fun b u e => by rw [upd_ne (ne_of_none e h)]; exact e
/-- a new object, frozen at once -/
def HS.lay (w : HS) (p : Addr) (o : HO) : HS := ⟨w.d, upd w.G p o, upd w.H p o, w.x⟩
/-- a new object, not frozen -/
def HS.put (w : HS) (p : Addr) (o : HO) : HS := ⟨w.d, w.G, upd w.H p o, w.x⟩
/-- frozen -/
def HS.frz (w : HS) (p : Addr) (o : HO) : HS := ⟨w.d, upd w.G p o, w.H, w.x⟩
theorem upd_some {H : Hp} {p q : Addr} {o : HO} (h : H q ≠ none) : upd H p o q ≠ none := by
  by_cases hq : q = p
  · subst hq; rw [upd_same]; simp
  · rw [upd_ne hq]; exact h
theorem Gr.lay {c : Option (List Int)} {w : HS} {p : Addr} {o : HO} (f : Wf c w) (h : w.H p = none) : Gr w (w.lay p o) := by
  refine ⟨same_new (f.gn h), fun q u e _ => ?_, fun q e => upd_some e, fun q e => ?_, .inl rfl⟩
  · show upd w.H p o q = some u
    rw [upd_ne (ne_of_none e h)]; exact e
  · by_cases hq : q = p
    · subst hq; exact .inr h
    · have e' : upd w.G p o q ≠ none := e
      rw [upd_ne hq] at e'; exact .inl e'
theorem Wf.lay {c : Option (List Int)} {w : HS} {p : Addr} {o : HO} (f : Wf c w) (h : w.H p = none) : Wf c (w.lay p o) := by
  refine ⟨same_upd f.sub, f.cel.imp fun a is _ q1 q2 => ?_⟩
  have ne : a ≠ p := ne_of_none q1 h
  exact ⟨(upd_ne ne).trans q1, (upd_ne ne).trans q2⟩
theorem Gr.put {c : Option (List Int)} {w : HS} {p : Addr} {o : HO} (f : Wf c w) (h : w.H p = none) : Gr w (w.put p o) := by
  refine ⟨Same.refl _, fun q u e _ => ?_, fun q e => upd_some e, fun q e => .inl e, .inl rfl⟩
  show upd w.H p o q = some u
  rw [upd_ne (ne_of_none e h)]; exact e
theorem Wf.put {c : Option (List Int)} {w : HS} {p : Addr} {o : HO} (f : Wf c w) (h : w.H p = none) : Wf c (w.put p o) := by
  refine ⟨fun b u e => ?_, f.cel.imp fun a is _ q1 q2 => ?_⟩
  · show upd w.H p o b = some u
    have e2 := f.sub _ _ e
    rw [upd_ne (ne_of_none e2 h)]; exact e2
  · have ne : a ≠ p := ne_of_none q1 h
    exact ⟨(upd_ne ne).trans q1, q2⟩
theorem Gr.frz {w0 w : HS} {p : Addr} {o : HO} (g : Gr w0 w) (hn : w.G p = none) (h0 : w0.H p = none) : Gr w0 (w.frz p o) := by
  refine ⟨g.g.trans (same_new hn), g.h, g.t, fun q e => ?_, g.dm⟩
  by_cases hq : q = p
  · subst hq; exact .inr h0
  · have e' : upd w.G p o q ≠ none := e
    rw [upd_ne hq] at e'; exact g.n q e'
theorem Wf.frz {c : Option (List Int)} {w : HS} {p : Addr} {o : HO} (f : Wf c w) (h : w.H p = some o) (nd : w.d ≠ some p) : Wf c (w.frz p o) := by
  refine ⟨fun b u e => ?_, f.cel.imp fun a is e q1 q2 => ?_⟩
  · have e' : upd w.G p o b = some u := e
    by_cases hb : b = p
    · subst hb; rw [upd_same] at e'; cases e'; exact h
    · rw [upd_ne hb] at e'; exact f.sub _ _ e'
  · have ne : a ≠ p := fun z => nd (by rw [← z]; exact e)
    exact ⟨q1, (upd_ne ne).trans q2⟩

/-! ### values of an expression: frozen; a new list; a list that a name owns -/
inductive RV where
  | fz (x : D) | fr (xs : List D) | bo (xs : List D)
  deriving Inhabited
abbrev HRep (K : PySem.W.Frag) (w : HS) (x : D) (v : V) : Prop := Rep K w.d w.G x v
theorem HRep.mono {K : PySem.W.Frag} {w w' : HS} {x : D} {v : V} (r : HRep K w x v) (g : Gr w w') : HRep K w' x v := Rep.mono g.dd g.g x v r
theorem HReps.mono {K : PySem.W.Frag} {w w' : HS} {x : List D} {v : List V} (r : Reps K w.d w.G x v) (g : Gr w w') : Reps K w'.d w'.G x v := Reps.mono g.dd g.g x v r
/-- read at once: frozen, or a list that stands in the whole -/
def RepB (K : PySem.W.Frag) (w : HS) (x : D) (v : V) : Prop :=
  HRep K w x v ∨ ∃ xs p vs, x = .lst xs ∧ v = .ref p ∧ w.H p = some (.lst vs) ∧ Reps K w.d w.G xs vs ∧ w.d ≠ some p
theorem RepB.mono {K : PySem.W.Frag} {w w' : HS} {x : D} {v : V} (r : RepB K w x v) (g : Gr w w') : RepB K w' x v := by
  rcases r with r | ⟨xs, p, vs, e1, e2, h, r, n⟩
  · exact .inl (r.mono g)
  · exact .inr ⟨xs, p, vs, e1, e2, g.h _ _ h n, HReps.mono r g, g.nd h n⟩
/-- w0: where the evaluation began -/
def RepV (K : PySem.W.Frag) (w0 w : HS) : RV → V → Prop
  | .fz x, v => HRep K w x v
  | .fr xs, v => ∃ p vs, v = .ref p ∧ w.H p = some (.lst vs) ∧ Reps K w.d w.G xs vs ∧ w.G p = none ∧ w.d ≠ some p ∧ w0.H p = none
  | .bo xs, v => ∃ p vs, v = .ref p ∧ w.H p = some (.lst vs) ∧ Reps K w.d w.G xs vs ∧ w.d ≠ some p
theorem RepV.back {K : PySem.W.Frag} {w0 w1 w : HS} {x : RV} {v : V} (r : RepV K w1 w x v) (g : Gr w0 w1) : RepV K w0 w x v := by
  cases x with
  | fz x => exact r
  | fr xs =>
    obtain ⟨p, vs, e, h1, h2, h3, h4, h5⟩ := r
    exact ⟨p, vs, e, h1, h2, h3, h4, g.t' h5⟩
  | bo xs => exact r
def RV.b : RV → D
  | .fz x => x
  | .fr xs => .lst xs
  | .bo xs => .lst xs
theorem RepV.toB {K : PySem.W.Frag} {w0 w : HS} {x : RV} {v : V} (r : RepV K w0 w x v) : RepB K w x.b v := by
  cases x with
  | fz x => exact .inl r
  | fr xs =>
    obtain ⟨p, vs, e, h1, h2, h3, h4, h5⟩ := r
    exact .inr ⟨xs, p, vs, rfl, e, h1, h2, h4⟩
  | bo xs =>
    obtain ⟨p, vs, e, h1, h2, h4⟩ := r
    exact .inr ⟨xs, p, vs, rfl, e, h1, h2, h4⟩

/-- an error's object -/
def RepX (K : PySem.W.Frag) (w : HS) (e : Exn) (cls : Value) (d : Option Addr) : Prop :=
  cls = .ref (He.ga K e.cls) ∧ (e.fs = [] → d = none) ∧ (e.fs ≠ [] → ∃ dd fs, d = some dd ∧ w.H dd = some (.xd fs) ∧ fs.map (·.1) = e.fs.map (·.1) ∧ Reps K w.d w.G (e.fs.map (·.2)) (fs.map (·.2)))
end DL

set_option maxHeartbeats 4000000
/-! DL2: what the text means, on data. -/
namespace DL
open PySem PySem.Spec PyProof.Rows L2

/-! ### results -/
inductive Rs (α : Type) where
  | ok (a : α) (c : Option (List Int)) | err (e : Exn) (c : Option (List Int)) | wrong
def DM (α : Type) : Type := Option (List Int) → Rs α
def dret {α : Type} (a : α) : DM α := fun c => .ok a c
def dbind {α β : Type} (m : DM α) (f : α → DM β) : DM β := fun c => match m c with
  | .ok a c' => f a c'
  | .err e c' => .err e c'
  | .wrong => .wrong
def dwrong {α : Type} : DM α := fun _ => .wrong
/-- where no error may leave -/
def noErr {α : Type} (m : DM α) : DM α := fun c => match m c with
  | .ok a c' => .ok a c'
  | _ => .wrong
def dif {α : Type} (b : Bool) (m : DM α) : DM α := if b = true then m else dwrong

/-! ### slots -/
inductive DV where
  | fz (x : D) | own (xs : List D) | ins (c : Str) (ns : List Str) (vs : List D) | dic (kvs : List (List Int × Int))
  deriving Inhabited
abbrev EnvD := List (Option DV)

/-! ### what a text says, by names -/
structure Cn where
  /-- the def's names -/
  N : List Str
  sc : Scope
  /-- the module's ints -/
  ki : Str → Option Int
  /-- the module's own defs and classes, called -/
  Φ : Str → List D → DM RV
  /-- .. which may be called -/
  kn : Str → Bool
  /-- own exceptions: their fields -/
  xf : Str → Option (List Str)
  /-- is the first exception class the second or under it -/
  xs : Str → Str → Option Bool
  /-- methods, properties: class, name, the object and the arguments -/
  Me : Str → Str → List D → DM RV
  isProp : Str → Str → Bool
  /-- methods that are called: class, name, the object and the arguments -/
  Mt : Str → Str → List D → DM RV
  isMt : Str → Str → Bool
  /-- attributes of instances that are read -/
  isFld : Str → Str → Bool
  /-- constants of classes -/
  ca : Str → Str → Option D
  /-- is the first class the second or under it -/
  isi : Str → Str → Option Bool
  /-- names whose lists are changed in place -/
  mu : List Str
  /-- names whose cells were made at the entry -/
  clc : Str → Bool
  /-- the cell's name -/
  cell : Str
  /-- repr may be asked here -/
  rp : Bool
  fuel : Nat
  /-- names that hold a dict of their own -/
  dn : List Str := []

def visB (sc : Scope) (x : Str) : Bool := match sc.names.lookup x with
  | some .local => true
  | some .cell => true
  | some .free => true
  | _ => false
def locB (sc : Scope) (x : Str) : Bool := match sc.names.lookup x with
  | some .local => true
  | _ => false
/-- a name that may be stored -/
def stB (C : Cn) (x : Str) : Bool := match C.sc.names.lookup x with
  | some .local => true
  | some .cell => C.clc x
  | _ => false
def glB (sc : Scope) (x : Str) : Bool := match sc.names.lookup x with
  | some .globalImplicit => true
  | _ => false
def ixS (N : List Str) (x : Str) : Option Nat := N.findIdx? (fun y => decide (y = x))
def big : Nat := 16777216

/-! ### operators -/
def lenOk (n : Nat) : Bool := decide (n ≤ 16777216)
def mulOk (i j : Int) : Bool := decide (i.natAbs < 18446744073709551616) || decide (j.natAbs < 18446744073709551616)
def binD : Operator → D → D → DM RV
  | .Add, .int i, .int j => dret (.fz (.int (i + j)))
  | .Add, .lst xs, .lst ys => dif (lenOk (xs.length + ys.length)) (dret (.fr (xs ++ ys)))
  | .Add, .tup xs, .tup ys => dif (lenOk (xs.length + ys.length)) (dret (.fz (.tup (xs ++ ys))))
  | .Sub, .int i, .int j => dret (.fz (.int (i - j)))
  | .Mult, .int i, .int j => dif (mulOk i j) (dret (.fz (.int (i * j))))
  | .FloorDiv, .int i, .int j => dif (decide (j ≠ 0) && decide (j.natAbs < 1073741824)) (dret (.fz (.int (i.fdiv j))))
  | .Mod, .int i, .int j => dif (decide (j ≠ 0)) (dret (.fz (.int (i.fmod j))))
  | .Pow, .int i, .int j => dif (decide (0 ≤ j) && decide (j ≤ 1000000) && decide (i.natAbs < 2 ^ 64)) (dret (.fz (.int (i ^ j.toNat))))
  | _, _, _ => dwrong
def flat? : D → Option V
  | .non => some .non
  | .bl b => some (.bl b)
  | .int i => some (.int i)
  | .str s => some (.str s)
  | _ => none
def flats? : List D → Option (List V)
  | [] => some []
  | x :: xs => match flat? x, flats? xs with
    | some v, some vs => some (v :: vs)
    | _, _ => none
mutual
def toPy : D → Option PyData
  | .non => some .none
  | .bl b => some (.bool b)
  | .int i => some (.int i)
  | .str s => some (.str s)
  | .lst xs => (toPys xs).map .list
  | .tup xs => (toPys xs).map .tuple
  | .obj _ _ _ => none
  | .cel => none
  | .scr _ => none
def toPys : List D → Option (List PyData)
  | [] => some []
  | x :: xs => match toPy x, toPys xs with
    | some d, some ds => some (d :: ds)
    | _, _ => none
end
/-- == of data -/
def eqD (x y : D) : Option Bool := match toPy x, toPy y with
  | some d, some e => if (SeqAt.shaped d && SeqAt.shaped e) = true then some (PyData.eqv d e) else none
  | _, _ => none
def items? : D → Option (List D)
  | .lst xs => some xs
  | .tup xs => some xs
  | _ => none
def inD (x y : D) : Option Bool := match flat? x, (items? y).bind flats? with
  | some v, some vs => some (inV v vs)
  | _, _ => none
def dbl (o : Option Bool) : DM D := match o with
  | some b => dret (.bl b)
  | none => dwrong
def isNonD : D → Bool
  | .non => true
  | _ => false
def cmpD : CmpOp → D → D → DM D
  | .Lt, .int i, .int j => dret (.bl (decide (i < j)))
  | .LtE, .int i, .int j => dret (.bl (decide (i ≤ j)))
  | .Gt, .int i, .int j => dret (.bl (decide (j < i)))
  | .GtE, .int i, .int j => dret (.bl (decide (j ≤ i)))
  | .Eq, x, y => dbl (eqD x y)
  | .NotEq, x, y => dbl ((eqD x y).map (!·))
  | .Is, x, .non => dret (.bl (isNonD x))
  | .IsNot, x, .non => dret (.bl (!isNonD x))
  | .In, x, y => dbl (inD x y)
  | .NotIn, x, y => dbl ((inD x y).map (!·))
  | _, _, _ => dwrong
/-- truth of a value -/
def truD : D → Option Bool
  | .non => some false
  | .bl b => some b
  | .int i => some (i != 0)
  | .lst xs => some (!xs.isEmpty)
  | .tup xs => some (!xs.isEmpty)
  | _ => none
def dtru (x : D) : DM Bool := match truD x with
  | some b => dret b
  | none => dwrong
def blD (x : D) : DM Bool := match x with
  | .bl b => dret b
  | _ => dwrong
def intD (x : D) : DM Int := match x with
  | .int i => dret i
  | _ => dwrong
def dgetZ (o : Option D) : DM RV := match o with
  | some x => dret (.fz x)
  | none => dwrong
/-- of the cell's ints -/
def dcel (f : List Int → Option D) : DM RV := fun c => match c with
  | some is => dgetZ (f is) (some is)
  | none => .wrong
/-- xs[i] -/
def ixD : D → D → DM RV
  | .lst xs, .int i => dgetZ (atI xs i)
  | .tup xs, .int i => dgetZ (atI xs i)
  | .scr is, .int i => dgetZ ((atI is i).map .int)
  | .cel, .int i => dcel fun is => (atI is i).map .int
  | _, _ => dwrong
def cutD (xs : List D) (lo hi : Option Int) : List D := (xs.drop (HT.sIx xs.length 0 lo)).take (HT.sIx xs.length xs.length hi - HT.sIx xs.length 0 lo)
def slD (x : D) (lo hi : Option Int) : DM RV := match x with
  | .lst xs => dret (.fr (cutD xs lo hi))
  | .tup xs => dret (.fz (.tup (cutD xs lo hi)))
  | _ => dwrong
/-- x[::-1] -/
def revD (x : D) : DM RV := match x with
  | .lst xs => dret (.fr xs.reverse)
  | _ => dwrong
def isRev : Expr → Bool
  | .Slice none none (some (.UnaryOp .USub (.Constant (.int i) _ _) _)) _ => decide (i = 1)
  | _ => false
/-- a type's name, of what isinstance asks -/
def tyD : D → Option String
  | .non => some "NoneType"
  | .bl _ => some "bool"
  | .int _ => some "int"
  | .str _ => some "str"
  | .lst _ => some "list"
  | .tup _ => some "tuple"
  | .cel => some "list"
  | .scr _ => some "list"
  | .obj _ _ _ => none
def kTy (t : String) (x : Str) : Option Bool :=
  if x = "int" then some (t == "int" || t == "bool") else if x = "bool" then some (t == "bool") else if x = "list" then some (t == "list") else if x = "tuple" then some (t == "tuple") else if x = "str" then some (t == "str") else none
def isTyN (x : Str) : Bool := decide (x = "int") || decide (x = "bool") || decide (x = "list") || decide (x = "tuple") || decide (x = "str")
/-- isinstance(v, x), x a name -/
def isiD (C : Cn) (v : D) (x : Str) : Option Bool := match v with
  | .obj c _ _ => if isTyN x = true then (if (C.isi c c).isSome = true then some false else none) else C.isi c x
  | v => match tyD v with
    | some t => if isTyN x = true then kTy t x else (if (C.isi x x).isSome = true then some false else none)
    | none => none
def clsN (C : Cn) (x : Str) : Bool := isTyN x || (C.isi x x).isSome
def maxI : List Int → Option Int
  | [] => none
  | i :: r => some (r.foldl max i)
def minI : List Int → Option Int
  | [] => none
  | i :: r => some (r.foldl min i)
def sortI (is : List Int) : List Int := is.mergeSort (fun a b => decide (a ≤ b))
def dget {α : Type} (o : Option α) : DM α := match o with
  | some a => dret a
  | none => dwrong
/-! built-ins' calls -/
def bLen : List D → DM RV
  | [.lst xs] => dret (.fz (.int xs.length))
  | [.tup xs] => dret (.fz (.int xs.length))
  | [.scr xs] => dret (.fz (.int xs.length))
  | [.cel] => dcel fun is => some (.int is.length)
  | _ => dwrong
def bInt : List D → DM RV
  | [.int i] => dret (.fz (.int i))
  | [.bl b] => dret (.fz (.int (if b = true then 1 else 0)))
  | _ => dwrong
def bList : List D → DM RV
  | [.lst xs] => dret (.fr xs)
  | [.tup xs] => dret (.fr xs)
  | _ => dwrong
def bTuple : List D → DM RV
  | [.lst xs] => dret (.fz (.tup xs))
  | [.tup xs] => dret (.fz (.tup xs))
  | _ => dwrong
def bSorted : List D → DM RV
  | [.lst xs] => dbind (dget (ints? xs)) fun is => dret (.fr ((sortI is).map D.int))
  | [.tup xs] => dbind (dget (ints? xs)) fun is => dret (.fr ((sortI is).map D.int))
  | _ => dwrong
def bSum : List D → DM RV
  | [.lst xs] => dbind (dget (ints? xs)) fun is => dret (.fz (.int is.sum))
  | _ => dwrong
def bAll : List D → DM RV
  | [.lst xs] => dbind (dget (bls? xs)) fun is => dret (.fz (.bl (is.all id)))
  | _ => dwrong
def bAny : List D → DM RV
  | [.lst xs] => dbind (dget (bls? xs)) fun is => dret (.fz (.bl (is.any id)))
  | _ => dwrong
def bMin : List D → DM RV
  | [.lst xs] => dbind (dget (ints? xs)) fun is => dbind (dget (minI is)) fun i => dret (.fz (.int i))
  | [.int i, .int j] => dret (.fz (.int (if j < i then j else i)))
  | _ => dwrong
def bMax : List D → DM RV
  | [.lst xs] => dbind (dget (ints? xs)) fun is => dbind (dget (maxI is)) fun i => dret (.fz (.int i))
  | [.int i, .int j] => dret (.fz (.int (if j > i then j else i)))
  | _ => dwrong
def bAbs : List D → DM RV
  | [.int i] => dret (.fz (.int (if i < 0 then -i else i)))
  | _ => dwrong
/-- what repr can show -/
def reprOk (d : PyData) : Bool := isDisplay d && d.showable && !d.hasDict && decide (d.depth ≤ 8) && decide (d.shown.length ≤ sizeLine)
def bRepr : List D → DM RV
  | [x] => (match toPy x with
    | some d => if reprOk d = true then dret (.fz (.str d.shown)) else dwrong
    | none => dwrong)
  | _ => dwrong
def bltD (x : Str) (vs : List D) : DM RV :=
  if x = "len" then bLen vs else if x = "int" then bInt vs else if x = "list" then bList vs else if x = "tuple" then bTuple vs else if x = "sorted" then bSorted vs
  else if x = "sum" then bSum vs else if x = "all" then bAll vs else if x = "any" then bAny vs else if x = "min" then bMin vs else if x = "max" then bMax vs else if x = "abs" then bAbs vs else dwrong
def bltNames : List Str := ["len", "int", "list", "tuple", "sorted", "sum", "all", "any", "min", "max", "abs", "isinstance", "range", "enumerate", "zip", "reversed", "repr", "bool", "str", "super"]
def bltKn (f : Str) : Bool := decide (f = "len") || decide (f = "int") || decide (f = "list") || decide (f = "tuple") || decide (f = "sorted") || decide (f = "sum") || decide (f = "all") || decide (f = "any") || decide (f = "min") || decide (f = "max") || decide (f = "abs")
def bltB (x : Str) : Bool := bltNames.any fun y => decide (y = x)

/-! ### dicts: tuples of ints to ints -/
def valI (kvs : List (List Int × Int)) (k : List Int) : Option Int := (kvs.find? fun kv => decide (kv.1 = k)).map (·.2)
def putI (kvs : List (List Int × Int)) (k : List Int) (v : Int) : List (List Int × Int) :=
  if (kvs.any fun kv => decide (kv.1 = k)) = true then kvs.map fun kv => if kv.1 = k then (kv.1, v) else kv else kvs ++ [(k, v)]
def keyD : D → Option (List Int)
  | .tup xs => ints? xs
  | _ => none
def dicGet (kvs : List (List Int × Int)) (y : D) : Option D := match keyD y with
  | some k => (valI kvs k).map .int
  | none => none
def dicAt (E : EnvD) (i : Nat) : Option (List (List Int × Int)) := match E[i]? with
  | some (some (.dic kvs)) => some kvs
  | _ => none
/-- the dict that a name holds -/
def dicOf (C : Cn) (E : EnvD) : Expr → Option (List (List Int × Int))
  | .Name x _ => if C.dn.contains x = true then (if visB C.sc x = true then (match ixS C.N x with
    | some i => dicAt E i
    | none => none) else none) else none
  | _ => none

/-! ### expressions -/
def dlist {α β : Type} (f : α → DM β) : List α → DM (List β)
  | [] => dret []
  | a :: r => dbind (f a) fun b => dbind (dlist f r) fun bs => dret (b :: bs)
def kOf : RV → DM D
  | .fz x => dret x
  | .fr xs => dret (.lst xs)
  | .bo _ => dwrong
def bOf (r : RV) : DM D := dret r.b
def nameD (C : Cn) (E : EnvD) (x : Str) : DM RV :=
  if visB C.sc x = true then (match ixS C.N x with
    | some i => (match E[i]? with
      | some (some (.fz v)) => dret (.fz v)
      | some (some (.own xs)) => dret (.bo xs)
      | _ => dwrong)
    | none => dwrong)
  else if glB C.sc x = true then (match C.ki x with
    | some i => dret (.fz (.int i))
    | none => dwrong)
  else dwrong
/-- attribute of the object being made -/
def selfD (C : Cn) (E : EnvD) (x : Str) (f : Str) : DM RV :=
  match ixS C.N x with
  | some i => (match E[i]? with
    | some (some (.ins cn ns vs)) => (match (ns.zip vs).lookup f with
      | some v => if C.isFld cn f = true then dret (.fz v) else dwrong
      | none => dwrong)
    | _ => dwrong)
  | none => dwrong
def isIns (C : Cn) (E : EnvD) (x : Str) : Bool := match ixS C.N x with
  | some i => (match E[i]? with
    | some (some (.ins _ _ _)) => visB C.sc x
    | _ => false)
  | none => false
def fldD (C : Cn) (v : D) (f : Str) : DM RV := match v with
  | .obj c ns vs => (match (ns.zip vs).lookup f with
    | some w => if C.isFld c f = true then dret (.fz w) else dwrong
    | none => if C.isProp c f = true then noErr (C.Me c f [v]) else (match C.ca c f with
      | some w => dret (.fz w)
      | none => dwrong))
  | _ => dwrong
/-- o.m(..) -/
def mtD (C : Cn) (m : Str) (v : D) (ma : DM (List D)) : DM RV := match v with
  | .obj c ns vs => if (C.isMt c m && ((ns.zip vs).lookup m).isNone) = true then dbind ma fun xs => C.Mt c m (.obj c ns vs :: xs) else dwrong
  | _ => dwrong
/-- a call as the machine makes it at once -/
def mtF (ap pos : Pos) (es : List Expr) : Bool := (ap.endLine == pos.line) && decide (es.length < 30)
/-- a base that is no super() -/
def plainBase : Expr → Bool
  | .Call (.Name _ _) [] [] _ => false
  | _ => true
def isTupT : Expr → Bool
  | .Tuple _ _ _ => true
  | _ => false
def isSlice : Expr → Bool
  | .Slice _ _ _ _ => true
  | _ => false
def starB : Expr → Bool
  | .Starred _ _ => true
  | _ => false
def tupV : D → Option (List D)
  | .tup xs => some xs
  | _ => none
/-- a target: slots, tuples of them -/
inductive Pat where
  | sl (i : Nat) | tp (ps : List Pat)
mutual
def bindP : Pat → D → EnvD → Option EnvD
  | .sl i, v, E => some (E.set i (some (.fz v)))
  | .tp ps, v, E => (match tupV v with
    | some vs => bindPs ps vs E
    | none => none)
def bindPs : List Pat → List D → EnvD → Option EnvD
  | [], [], E => some E
  | p :: ps, v :: vs, E => (match bindP p v E with
    | some E' => bindPs ps vs E'
    | none => none)
  | _, _, _ => none
end
mutual
def patT (C : Cn) : Nat → Expr → Option Pat
  | 0, _ => none
  | n + 1, t => match t with
    | .Name x _ => if stB C x = true then (match ixS C.N x with
      | some i => some (.sl i)
      | none => none) else none
    | .Tuple ts _ _ => if ts.any starB = true then none else (match patTs C n ts with
      | some ps => some (.tp ps)
      | none => none)
    | _ => none
def patTs (C : Cn) : Nat → List Expr → Option (List Pat)
  | 0, _ => none
  | n + 1, [] => some []
  | n + 1, t :: ts => (match patT C n t, patTs C n ts with
    | some p, some ps => some (p :: ps)
    | _, _ => none)
end
def bindT (C : Cn) (n : Nat) (t : Expr) (v : D) (E : EnvD) : Option EnvD := match patT C n t with
  | some p => bindP p v E
  | none => none
def bindTs (C : Cn) (n : Nat) (ts : List Expr) (vs : List D) (E : EnvD) : Option EnvD := match patTs C n ts with
  | some ps => bindPs ps vs E
  | none => none
theorem bindT_tup {C : Cn} {n : Nat} {ts : List Expr} {k : Nat} {p : Pos} {v : D} {E : EnvD} (hs : ts.any starB = false) : bindT C (n + 1) (.Tuple ts k p) v E = match tupV v with
    | some vs => bindTs C n ts vs E
    | none => none := by
  unfold bindT bindTs
  rw [patT]
  simp only [hs, Bool.false_eq_true, if_false]
  cases patTs C n ts with
  | none => cases tupV v <;> rfl
  | some ps => simp only [bindP]
theorem bindTs_cn {C : Cn} {n : Nat} {t : Expr} {ts : List Expr} {E : EnvD} : bindTs C (n + 1) (t :: ts) [] E = none := by
  unfold bindTs
  rw [patTs]
  cases patT C n t with
  | none => rfl
  | some p => cases patTs C n ts with
    | none => rfl
    | some ps => simp only [bindPs]
theorem bindTs_nc {C : Cn} {n : Nat} {v : D} {vs : List D} {E : EnvD} : bindTs C (n + 1) [] (v :: vs) E = none := by
  unfold bindTs
  rw [patTs]
  simp only [bindPs]
theorem bindTs_nn {C : Cn} {n : Nat} {E : EnvD} : bindTs C (n + 1) [] [] E = some E := by
  unfold bindTs
  rw [patTs]
  simp only [bindPs]
theorem bindTs_cc {C : Cn} {n : Nat} {t : Expr} {ts : List Expr} {v : D} {vs : List D} {E : EnvD} : bindTs C (n + 1) (t :: ts) (v :: vs) E = match bindT C n t v E with
    | some E' => bindTs C n ts vs E'
    | none => none := by
  unfold bindTs bindT
  rw [patTs]
  cases patT C n t with
  | none => rfl
  | some p => cases patTs C n ts with
    | none => dsimp only; cases bindP p v E <;> rfl
    | some ps => simp only [bindPs]
mutual
/-- the places of a target's names -/
def tgIx (C : Cn) : Nat → Expr → List Nat
  | 0, _ => []
  | n + 1, t => match t with
    | .Name x _ => (match ixS C.N x with
      | some i => [i]
      | none => [])
    | .Tuple ts _ _ => tgIxs C n ts
    | _ => []
def tgIxs (C : Cn) : Nat → List Expr → List Nat
  | 0, _ => []
  | n + 1, [] => []
  | n + 1, t :: ts => tgIx C n t ++ tgIxs C n ts
end
def wipeD (E : EnvD) : List Nat → EnvD
  | [] => E
  | v :: vs => (wipeD E vs).set v none
/-- a comprehension's own names with their places -/
def ownN (N : List Str) (scope : Scope) : List (Str × Nat) := scope.names.filterMap fun y => match y.2 with
  | .local => (ixS N y.1).map fun i => (y.1, i)
  | .cell => (ixS N y.1).map fun i => (y.1, i)
  | _ => none
def enumD (xs : List D) : List D := xs.zipIdx.map fun p => .tup [.int (p.2 : Nat), p.1]
def zipD (xs ys : List D) : List D := (xs.zip ys).map fun p => .tup [p.1, p.2]
def rangeD (lo hi : Int) : List D := (List.range (hi - lo).toNat).map fun (k : Nat) => D.int (lo + k)
def rngOk (lo hi : Int) : Bool := decide (lo.natAbs < 4611686018427387904) && decide (hi.natAbs < 4611686018427387904)
def iterB : Expr → Bool
  | .Call _ _ _ _ => true
  | .Name _ _ => true
  | .Attribute _ _ _ => true
  | .Subscript _ _ _ => true
  | .List _ _ => true
  | .Tuple _ _ _ => true
  | _ => false
/-- one turn over each item -/
def dloop (f : D → DM (Option D)) : List D → DM (List D)
  | [] => dret []
  | x :: xs => dbind (f x) fun o => dbind (dloop f xs) fun r => dret (match o with
    | some y => y :: r
    | none => r)

/-- with what is there already -/
def dfold1 (f : D → DM (Option D)) : List D → List D → DM (List D)
  | acc, [] => dret acc
  | acc, x :: xs => dbind (f x) fun o => match o with
    | some y => dif (decide (acc.length < 16777216)) (dfold1 f (acc ++ [y]) xs)
    | none => dfold1 f acc xs
def dfold2 (f : D → List D → DM (List D)) : List D → List D → DM (List D)
  | acc, [] => dret acc
  | acc, x :: xs => dbind (f x acc) fun acc' => dfold2 f acc' xs
/-- no list is changed in place here -/
def noOwn (E : EnvD) : Bool := E.all fun x => match x with
  | some (.own _) => false
  | some (.ins _ _ _) => false
  | some (.dic _) => false
  | _ => true
/-- list(range(..)), tuple(range(..)): what is counted -/
def rgB (C : Cn) (f : Str) (e : Expr) (r : List Expr) : Option (Option Expr × Expr) := match e, r with
  | .Call (.Name g _) [a] [] _, [] => if ((decide (f = "list") || decide (f = "tuple")) && decide (g = "range") && glB C.sc g && !starB a) = true then some (none, a) else none
  | .Call (.Name g _) [a, b] [] _, [] => if ((decide (f = "list") || decide (f = "tuple")) && decide (g = "range") && glB C.sc g && !starB a && !starB b) = true then some (some a, b) else none
  | _, _ => none
def rgR (f : Str) (i j : Int) : DM RV := dif (rngOk i j && lenOk (j - i).toNat) (if f = "list" then dret (.fr (rangeD i j)) else dret (.fz (.tup (rangeD i j))))
mutual
/-- an expression -/
def ev (C : Cn) (E : EnvD) : Nat → Expr → DM RV
  | 0, _ => dwrong
  | n + 1, e => match e with
    | .Constant k _ _ => (match k with
      | .none => dret (.fz .non)
      | .bool b => dret (.fz (.bl b))
      | .int i => dret (.fz (.int i))
      | .str s => dret (.fz (.str s))
      | _ => dwrong)
    | .Name x _ => nameD C E x
    | .BinOp a op b _ => dbind (evB C E n a) fun x => dbind (evB C E n b) fun y => binD op x y
    | .UnaryOp .USub a _ => dbind (evB C E n a) fun x => dbind (intD x) fun i => dret (.fz (.int (-i)))
    | .UnaryOp .Not a _ => dbind (evB C E n a) fun x => dbind (blD x) fun b => dret (.fz (.bl (!b)))
    | .BoolOp .And [a, b] _ => dbind (evB C E n a) fun x => dbind (blD x) fun t => if t = true then ev C E n b else dret (.fz (.bl false))
    | .BoolOp .Or [a, b] _ => dbind (evB C E n a) fun x => dbind (blD x) fun t => if t = true then dret (.fz (.bl true)) else ev C E n b
    | .BoolOp .And (a :: b :: d :: r) p => dbind (evB C E n a) fun x => dbind (blD x) fun t => if t = true then ev C E n (.BoolOp .And (b :: d :: r) p) else dret (.fz (.bl false))
    | .BoolOp .Or (a :: b :: d :: r) p => dbind (evB C E n a) fun x => dbind (blD x) fun t => if t = true then dret (.fz (.bl true)) else ev C E n (.BoolOp .Or (b :: d :: r) p)
    | .Compare a [op] [b] _ => if behindInMarks op b = true then dwrong else dbind (evB C E n a) fun x => dbind (evB C E n b) fun y => dbind (cmpD op x y) fun z => dret (.fz z)
    | .Compare a [o1, o2] [b, d] _ => if lastMarks [o1, o2] [b, d] = true then dwrong else dbind (evB C E n a) fun x => dbind (evB C E n b) fun y => dbind (cmpD o1 x y) fun z => dbind (blD z) fun t => if t = true then dbind (evB C E n d) fun u => dbind (cmpD o2 y u) fun z => dret (.fz z) else dret (.fz (.bl false))
    | .IfExp t a b _ => dbind (evT C E n t) fun k => if k = true then ev C E n a else ev C E n b
    | .Tuple es _ _ => if es.any starB = true then dwrong else dbind (evL C E n es) fun xs => dif (lenOk xs.length) (dret (.fz (.tup xs)))
    | .List es _ => if es.any starB = true then dwrong else dbind (evL C E n es) fun xs => dif (lenOk xs.length) (dret (.fr xs))
    | .Subscript a (.Slice lo hi none _) _ => dbind (evB C E n a) fun x => dbind (evO C E n lo) fun l => dbind (evO C E n hi) fun h => slD x l h
    | .Subscript a b _ => if isRev b = true then dbind (evB C E n a) revD else if isSlice b = true then dwrong else match dicOf C E a with
      | some kvs => dbind (evB C E n b) fun y => dgetZ (dicGet kvs y)
      | none => dbind (evB C E n a) fun x => dbind (evB C E n b) fun y => ixD x y
    | .Attribute (.Name x p) f _ => if isIns C E x = true then selfD C E x f else dbind (evB C E n (.Name x p)) fun v => fldD C v f
    | .Attribute a f _ => if plainBase a = true then dbind (evB C E n a) fun v => fldD C v f else dwrong
    | .Call (.Name f _) es [] _ =>
      if (glB C.sc f && !(es.any starB)) = true then
        if bltB f = true then
          if f = "isinstance" then (match es with
            | [a, .Name x _] => if (glB C.sc x && clsN C x) = true then dbind (evB C E n a) fun v => dbind (dget (isiD C v x)) fun b => dret (.fz (.bl b)) else dwrong
            | [a, .Tuple [.Name x _, .Name y _] _ _] => if (glB C.sc x && glB C.sc y && isTyN x && isTyN y) = true then dbind (evB C E n a) fun v => dbind (dget (isiD C v x)) fun b => dbind (dget (isiD C v y)) fun b' => dret (.fz (.bl (b || b'))) else dwrong
            | _ => dwrong)
          else (match es with
            | [] => dwrong
            | e :: r => (match rgB C f e r with
              | some (none, a) => dbind (evB C E n a) fun x => dbind (intD x) fun j => rgR f 0 j
              | some (some a, b) => dbind (evB C E n a) fun x => dbind (evB C E n b) fun y => dbind (intD x) fun i => dbind (intD y) fun j => rgR f i j
              | none => if bltKn f = true then dbind (evLB C E n (e :: r)) fun vs => bltD f vs else if (C.rp && decide (f = "repr")) = true then dbind (evLB C E n (e :: r)) fun vs => bRepr vs else dwrong))
        else if C.kn f = true then (match es with
          | [] => dwrong
          | e :: r => dbind (evL C E n (e :: r)) fun vs => C.Φ f vs)
        else dwrong
      else dwrong
    | .Call (.Attribute (.Name x p) m ap) es [] pos => if (mtF ap pos es && !(es.any starB)) = true then dbind (evB C E n (.Name x p)) fun v => mtD C m v (match es with
        | [] => dret []
        | e :: r => evL C E n (e :: r)) else dwrong
    | .ListComp elt [⟨tg, iter, ifs, 0⟩] scope _ =>
      if (blkC C.N C.sc scope (ownN C.N scope) && iterB iter && (tgIx C n tg).all fun i => ((ownN C.N scope).map (·.2)).contains i) = true then
        dbind (evI C E n false tg iter) fun items => dif (lenOk items.length) (noErr (dbind (dloop (fun x =>
          match bindT { C with sc := relS scope C.sc, clc := fun y => scope.names.lookup y == some .cell } n tg x (wipeD E ((ownN C.N scope).map (·.2))) with
          | some E' => dbind (evIf { C with sc := relS scope C.sc, clc := fun y => scope.names.lookup y == some .cell } E' n ifs) fun b => if b = true then dbind (evK { C with sc := relS scope C.sc, clc := fun y => scope.names.lookup y == some .cell } E' n elt) fun y => dret (some y) else dret none
          | none => dwrong) items) fun ys => dret (.fr ys)))
      else dwrong
    | .ListComp elt [⟨tg, iter, ifs, 0⟩, ⟨tg1, iter1, ifs1, 0⟩] scope _ =>
      if (blkC C.N C.sc scope (ownN C.N scope) && iterB iter && iterB iter1 && (tgIx C n tg).all (fun i => ((ownN C.N scope).map (·.2)).contains i) && (tgIx C n tg1).all fun i => ((ownN C.N scope).map (·.2)).contains i) = true then
        dbind (evI C E n false tg iter) fun items => noErr (dbind (dfold2 (fun x acc =>
          match bindT { C with sc := relS scope C.sc, clc := fun y => scope.names.lookup y == some .cell } n tg x (wipeD E ((ownN C.N scope).map (·.2))) with
          | some E' => if noOwn E' = true then dbind (evIf { C with sc := relS scope C.sc, clc := fun y => scope.names.lookup y == some .cell } E' n ifs) fun b => if b = true then
              dbind (evI { C with sc := relS scope C.sc, clc := fun y => scope.names.lookup y == some .cell } E' n true tg1 iter1) fun items1 => dfold1 (fun x =>
                match bindT { C with sc := relS scope C.sc, clc := fun y => scope.names.lookup y == some .cell } n tg1 x (wipeD E' (tgIx C n tg1)) with
                | some E2 => dbind (evIf { C with sc := relS scope C.sc, clc := fun y => scope.names.lookup y == some .cell } E2 n ifs1) fun b => if b = true then dbind (evK { C with sc := relS scope C.sc, clc := fun y => scope.names.lookup y == some .cell } E2 n elt) fun y => dret (some y) else dret none
                | none => dwrong) acc items1
            else dret acc else dwrong
          | none => dwrong) [] items) fun ys => dret (.fr ys))
      else dwrong
    | _ => dwrong
/-- read at once -/
def evB (C : Cn) (E : EnvD) : Nat → Expr → DM D
  | 0, _ => dwrong
  | n + 1, e => dbind (ev C E n e) bOf
/-- kept -/
def evK (C : Cn) (E : EnvD) : Nat → Expr → DM D
  | 0, _ => dwrong
  | n + 1, e => dbind (ev C E n e) kOf
/-- kept, each -/
def evL (C : Cn) (E : EnvD) : Nat → List Expr → DM (List D)
  | 0, _ => dwrong
  | n + 1, es => dlist (evK C E n) es
def evLB (C : Cn) (E : EnvD) : Nat → List Expr → DM (List D)
  | 0, _ => dwrong
  | n + 1, es => dlist (evB C E n) es
def evO (C : Cn) (E : EnvD) : Nat → Option Expr → DM (Option Int)
  | 0, _ => dwrong
  | n + 1, none => dret none
  | n + 1, some e => dbind (evB C E n e) fun x => dbind (intD x) fun i => dret (some i)
/-- a test -/
def evT (C : Cn) (E : EnvD) : Nat → Expr → DM Bool
  | 0, _ => dwrong
  | n + 1, e => match e with
    | .UnaryOp .Not a _ => dbind (evT C E n a) fun b => dret (!b)
    | .BoolOp .And [a] _ => evT C E n a
    | .BoolOp .Or [a] _ => evT C E n a
    | .BoolOp .And (a :: b :: r) p => dbind (evT C E n a) fun t => if t = true then evT C E n (.BoolOp .And (b :: r) p) else dret false
    | .BoolOp .Or (a :: b :: r) p => dbind (evT C E n a) fun t => if t = true then dret true else evT C E n (.BoolOp .Or (b :: r) p)
    | .Compare a [op] [b] _ => if behindInMarks op b = true then dwrong else dbind (evB C E n a) fun x => dbind (evB C E n b) fun y => dbind (cmpD op x y) fun z => blD z
    | .Compare a [o1, o2] [b, d] _ => if lastMarks [o1, o2] [b, d] = true then dwrong else dbind (evB C E n a) fun x => dbind (evB C E n b) fun y => dbind (cmpD o1 x y) fun z => dbind (blD z) fun t => if t = true then dbind (evB C E n d) fun u => dbind (cmpD o2 y u) fun z => blD z else dret false
    | .Name x p => dbind (evB C E n (.Name x p)) dtru
    | .Call f es ks p => dbind (evB C E n (.Call f es ks p)) dtru
    | .Attribute a f p => dbind (evB C E n (.Attribute a f p)) dtru
    | .Subscript a f p => dbind (evB C E n (.Subscript a f p)) dtru
    | .Constant a f p => dbind (evB C E n (.Constant a f p)) dtru
    | _ => dwrong
def evIf (C : Cn) (E : EnvD) : Nat → List Expr → DM Bool
  | 0, _ => dwrong
  | n + 1, [] => dret true
  | n + 1, [t] => evT C E n t
  | _, _ => dwrong
/-- kept, or read at once -/
def evW (C : Cn) (E : EnvD) : Nat → Bool → Expr → DM D
  | 0, _, _ => dwrong
  | n + 1, true, e => evK C E n e
  | n + 1, false, e => evB C E n e
/-- what is walked -/
def evI (C : Cn) (E : EnvD) : Nat → Bool → Expr → Expr → DM (List D)
  | 0, _, _, _ => dwrong
  | n + 1, kk, tg, e => match e with
    | .Call (.Name f p) es [] q =>
      if (glB C.sc f && !(es.any starB)) = true then
        if f = "range" then (match es with
          | [a] => dbind (evB C E n a) fun x => dbind (intD x) fun j => dif (rngOk 0 j) (dret (rangeD 0 j))
          | [a, b] => dbind (evB C E n a) fun x => dbind (evB C E n b) fun y => dbind (intD x) fun i => dbind (intD y) fun j => dif (rngOk i j) (dret (rangeD i j))
          | _ => dwrong)
        else if f = "enumerate" then (match es with
          | [a] => if isTupT tg = true then dbind (evW C E n kk a) fun x => dbind (dget (items? x)) fun xs => dret (enumD xs) else dwrong
          | _ => dwrong)
        else if f = "zip" then (match es with
          | [a, b] => if isTupT tg = true then dbind (evW C E n kk a) fun x => dbind (evW C E n kk b) fun y => (match x, y with
            | .lst xs, .lst ys => dret (zipD xs ys)
            | .tup xs, .tup ys => dret (zipD xs ys)
            | _, _ => dwrong) else dwrong
          | _ => dwrong)
        else dbind (evW C E n kk (.Call (.Name f p) es [] q)) fun x => dget (items? x)
      else dwrong
    | .Call (.Attribute o m ap) es [] q => dbind (evW C E n kk (.Call (.Attribute o m ap) es [] q)) fun x => dget (items? x)
    | .Name x p => dbind (evW C E n kk (.Name x p)) fun x => dget (items? x)
    | .Attribute a f p => dbind (evW C E n kk (.Attribute a f p)) fun x => dget (items? x)
    | .Subscript a f p => dbind (evW C E n kk (.Subscript a f p)) fun x => dget (items? x)
    | .List a p => dbind (evW C E n kk (.List a p)) fun x => dget (items? x)
    | .Tuple a k p => dbind (evW C E n kk (.Tuple a k p)) fun x => dget (items? x)
    | _ => dwrong
end
end DL

set_option maxHeartbeats 4000000
/-! DL3: states of a frame; readings; the operators. -/
namespace DL
open PySem PySem.Spec PyProof.Rows L2
abbrev St := L2.St

section
variable {K : PySem.W.Frag}
/-! ### what values are -/
theorem B_non {w : HS} {v : V} (r : RepB K w .non v) : v = .non := by
  rcases r with r | ⟨xs, p, vs, e, _⟩
  · simpa [Rep] using r
  · cases e
theorem B_bl {w : HS} {b : Bool} {v : V} (r : RepB K w (.bl b) v) : v = .bl b := by
  rcases r with r | ⟨xs, p, vs, e, _⟩
  · simpa [Rep] using r
  · cases e
theorem B_int {w : HS} {b : Int} {v : V} (r : RepB K w (.int b) v) : v = .int b := by
  rcases r with r | ⟨xs, p, vs, e, _⟩
  · simpa [Rep] using r
  · cases e
theorem B_str {w : HS} {b : Str} {v : V} (r : RepB K w (.str b) v) : v = .str b := by
  rcases r with r | ⟨xs, p, vs, e, _⟩
  · simpa [Rep] using r
  · cases e
theorem B_lst {c : Option (List Int)} {w : HS} (f : Wf c w) {xs : List D} {v : V} (r : RepB K w (.lst xs) v) : ∃ p vs, v = .ref p ∧ w.H p = some (.lst vs) ∧ Reps K w.d w.G xs vs := by
  rcases r with r | ⟨xs, p, vs, e, e2, h, r, _⟩
  · simp only [Rep] at r
    obtain ⟨a, vs, e, s, r⟩ := r
    exact ⟨a, vs, e, f.sub _ _ s, r⟩
  · cases e
    exact ⟨p, vs, e2, h, r⟩
theorem B_tup {c : Option (List Int)} {w : HS} (f : Wf c w) {xs : List D} {v : V} (r : RepB K w (.tup xs) v) : ∃ p vs, v = .ref p ∧ w.G p = some (.tup vs) ∧ SqT K w.H p vs ∧ Reps K w.d w.G xs vs := by
  rcases r with r | ⟨xs, p, vs, e, _⟩
  · simp only [Rep] at r
    obtain ⟨a, vs, e, s, r⟩ := r
    exact ⟨a, vs, e, s, .of (f.sub _ _ s), r⟩
  · cases e
theorem B_scr {c : Option (List Int)} {w : HS} (f : Wf c w) {is : List Int} {v : V} (r : RepB K w (.scr is) v) : ∃ p, v = .ref p ∧ SqL K w.H p (is.map V.int) := by
  rcases r with r | ⟨xs, p, vs, e, _⟩
  · simp only [Rep] at r
    obtain ⟨a, e, s⟩ := r
    exact ⟨a, e, f.sub.seq s⟩
  · cases e
theorem B_cel {w : HS} {v : V} (r : RepB K w .cel v) : ∃ p, v = .ref p ∧ w.d = some p := by
  rcases r with r | ⟨xs, p, vs, e, _⟩
  · simpa [Rep] using r
  · cases e
theorem B_obj {c : Option (List Int)} {w : HS} (f : Wf c w) {cn : Str} {ns : List Str} {xs : List D} {v : V} (r : RepB K w (.obj cn ns xs) v) :
    ∃ a dx fs, v = .ref a ∧ w.H a = some (.ins (He.ga K cn) dx fs) ∧ fs.map (·.1) = ns ∧ Reps K w.d w.G xs (fs.map (·.2)) := by
  rcases r with r | ⟨xs, p, vs, e, _⟩
  · simp only [Rep] at r
    obtain ⟨a, dx, fs, e, s, n, r⟩ := r
    exact ⟨a, dx, fs, e, f.sub _ _ s, n, r⟩
  · cases e
theorem R_obj {w : HS} {cn : Str} {ns : List Str} {xs : List D} {v : V} (r : RepB K w (.obj cn ns xs) v) : HRep K w (.obj cn ns xs) v := by
  rcases r with r | ⟨xs, p, vs, e, _⟩
  · exact r
  · cases e

/-! ### a frame's state -/
def toT (kvs : List (List Int × Int)) : List (List L2.Key × V) := kvs.map fun kv => (kv.1.map Sum.inl, V.int kv.2)
def SlotOk (K : PySem.W.Frag) (w : HS) (v : Option (Option V)) : Option DV → Prop
  | none => True
  | some (.fz x) => ∃ u, v = some (some u) ∧ HRep K w x u
  | some (.own xs) => ∃ p vs, v = some (some (.ref p)) ∧ w.H p = some (.lst vs) ∧ Reps K w.d w.G xs vs ∧ w.G p = none ∧ w.d ≠ some p
  | some (.ins c ns xs) => ∃ p dx fs, v = some (some (.ref p)) ∧ w.H p = some (.ins (He.ga K c) dx fs) ∧ fs.map (·.1) = ns ∧ Reps K w.d w.G xs (fs.map (·.2)) ∧ w.G p = none ∧ w.d ≠ some p
  | some (.dic kvs) => ∃ p, v = some (some (.ref p)) ∧ w.H p = some (.dT (toT kvs)) ∧ w.G p = none ∧ w.d ≠ some p
def ownB : Option DV → Bool
  | some (.own _) => true
  | some (.ins _ _ _) => true
  | some (.dic _) => true
  | _ => false
structure SR (K : PySem.W.Frag) (B : HS) (E : EnvD) (c : Option (List Int)) (σ : St) (w : HS) : Prop where
  wf : Wf c w
  gr : Gr B w
  len : E.length = σ.length
  sl : ∀ (i : Nat) (x : Option DV), E[i]? = some x → SlotOk K w σ[i]? x
  ow : ∀ (i : Nat) (x : Option DV) (p : Addr), E[i]? = some x → ownB x = true → σ[i]? = some (some (.ref p)) → B.H p = none
  ds : ∀ (i j : Nat) (x y : Option DV) (p : Addr), E[i]? = some x → E[j]? = some y → ownB x = true → ownB y = true → σ[i]? = some (some (.ref p)) → σ[j]? = some (some (.ref p)) → i = j
  sf : ∀ (i : Nat) (a : Str) (b : List Str) (d : List D) (p : Addr), E[i]? = some (some (.ins a b d)) → σ[i]? = some (some (.ref p)) → B.x = some p
theorem SlotOk.grow {w w' : HS} {v : Option (Option V)} {x : Option DV} (h : SlotOk K w v x) (g : Gr w w') : SlotOk K w' v x := by
  cases x with
  | none => trivial
  | some x => cases x with
    | fz x =>
      obtain ⟨u, e, r⟩ := h
      exact ⟨u, e, r.mono g⟩
    | own xs =>
      obtain ⟨p, vs, e, hp, r, gn, nd⟩ := h
      refine ⟨p, vs, e, g.h _ _ hp nd, HReps.mono r g, ?_, g.nd hp nd⟩
      cases q : w'.G p with
      | none => rfl
      | some o => rcases g.n p (by rw [q]; simp) with z | z
                  · exact absurd gn z
                  · rw [hp] at z; cases z
    | ins c ns xs =>
      obtain ⟨p, dx, fs, e, hp, en, r, gn, nd⟩ := h
      refine ⟨p, dx, fs, e, g.h _ _ hp nd, en, HReps.mono r g, ?_, g.nd hp nd⟩
      cases q : w'.G p with
      | none => rfl
      | some o => rcases g.n p (by rw [q]; simp) with z | z
                  · exact absurd gn z
                  · rw [hp] at z; cases z
    | dic kvs =>
      obtain ⟨p, e, hp, gn, nd⟩ := h
      refine ⟨p, e, g.h _ _ hp nd, ?_, g.nd hp nd⟩
      cases q : w'.G p with
      | none => rfl
      | some o => rcases g.n p (by rw [q]; simp) with z | z
                  · exact absurd gn z
                  · rw [hp] at z; cases z
theorem SR.grow {B w w' : HS} {E : EnvD} {c c' : Option (List Int)} {σ : St} (S : SR K B E c σ w) (g : Gr w w') (f : Wf c' w') : SR K B E c' σ w' :=
  ⟨f, S.gr.trans g, S.len, fun i x e => (S.sl i x e).grow g, S.ow, S.ds, S.sf⟩

theorem set_ins {E : EnvD} {i j : Nat} {y : Option DV} {a : Str} {b : List Str} {d : List D} (hy : ∀ a b d, y ≠ some (.ins a b d)) (h : (E.set i y)[j]? = some (some (.ins a b d))) : i ≠ j ∧ E[j]? = some (some (.ins a b d)) := by
  by_cases hj : i = j
  · subst hj
    by_cases hE : i < E.length
    · rw [List.getElem?_set_self hE] at h
      cases h
      exact absurd rfl (hy _ _ _)
    · rw [List.getElem?_eq_none (by simpa using hE)] at h; cases h
  · rw [List.getElem?_set_ne hj] at h
    exact ⟨hj, h⟩

/-! ### readings -/
def XO {α : Type} (K : PySem.W.Frag) (W : WX) (σ : St) (w : HS) (r : Rs α) (post : α → Option (List Int) → HS → Prop) : Prop := match r with
  | .ok a c => ∀ w', Gr w w' → Wf c w' → post a c w'
  | .err e c => ∀ cls d w', Gr w w' → Wf c w' → RepX K w' e cls d → W cls d σ w'.H
  | .wrong => False
variable {W : WX} {σ : St} {α β γ : Type}
theorem XO.bind {w : HS} {m : DM α} {f : α → DM β} {c : Option (List Int)} {post : β → Option (List Int) → HS → Prop} (h : XO K W σ w (dbind m f c) post) :
    XO K W σ w (m c) fun a c1 w1 => XO K W σ w1 (f a c1) post := by
  unfold dbind at h
  cases e : m c with
  | wrong => rw [e] at h; exact h.elim
  | err x c1 => rw [e] at h; exact h
  | ok a c1 =>
    rw [e] at h
    intro w1 g1 f1
    have h' : XO K W σ w (f a c1) post := h
    cases e2 : f a c1 with
    | wrong => rw [e2] at h'; exact h'.elim
    | err x c2 => rw [e2] at h'; exact fun cls d w2 g2 f2 r => h' cls d w2 (g1.trans g2) f2 r
    | ok b c2 => rw [e2] at h'; exact fun w2 g2 f2 => h' w2 (g1.trans g2) f2
theorem XO.mono {w : HS} {r : Rs α} {post post' : α → Option (List Int) → HS → Prop} (h : XO K W σ w r post) (k : ∀ a c w', Gr w w' → Wf c w' → post a c w' → post' a c w') : XO K W σ w r post' := by
  cases r with
  | wrong => exact h.elim
  | err e c => exact h
  | ok a c => exact fun w' g f => k a c w' g f (h w' g f)
theorem XO.here {w : HS} {a : α} {c : Option (List Int)} {post : α → Option (List Int) → HS → Prop} (f : Wf c w) (h : XO K W σ w (dret a c) post) : post a c w := h w (Gr.refl w) f
theorem XO.to {w w' : HS} {a : α} {c : Option (List Int)} {post : α → Option (List Int) → HS → Prop} (h : XO K W σ w (dret a c) post) (g : Gr w w') (f : Wf c w') : post a c w' := h w' g f
theorem XO.dif {w : HS} {b : Bool} {m : DM α} {c : Option (List Int)} {post : α → Option (List Int) → HS → Prop} (h : XO K W σ w (dif b m c) post) : b = true ∧ XO K W σ w (m c) post := by
  unfold DL.dif at h
  by_cases e : b = true
  · rw [if_pos e] at h; exact ⟨e, h⟩
  · rw [if_neg e] at h; exact h.elim
theorem XO.get {w : HS} {o : Option α} {f : α → DM β} {c : Option (List Int)} {post : β → Option (List Int) → HS → Prop} (h : XO K W σ w (dbind (dget o) f c) post) : ∃ a, o = some a ∧ XO K W σ w (f a c) post := by
  cases o with
  | none => exact h.elim
  | some a => exact ⟨a, rfl, h⟩

/-- a reading: m's meaning; rep: how its result lies -/
def tG (K : PySem.W.Frag) (W : WX) (E : EnvD) (m : DM α) (rep : HS → HS → α → β → Prop) : St → Hp → (β → Hp → Prop) → Prop := fun σ H Q =>
  ∃ B c w, w.H = H ∧ SR K B E c σ w ∧ XO K W σ w (m c) fun a _ w' => ∀ b, rep w w' a b → Q b w'.H
abbrev tV (K : PySem.W.Frag) (W : WX) (E : EnvD) (m : DM RV) : TE := tG K W E m (RepV K)
abbrev tBo (K : PySem.W.Frag) (W : WX) (E : EnvD) (m : DM D) : TE := tG K W E m (fun _ w x v => RepB K w x v)
abbrev tKe (K : PySem.W.Frag) (W : WX) (E : EnvD) (m : DM D) : TE := tG K W E m (fun _ w x v => HRep K w x v)
abbrev tTe (K : PySem.W.Frag) (W : WX) (E : EnvD) (m : DM Bool) : TT := tG K W E m (fun _ _ b b' => b' = b)
abbrev tAk (K : PySem.W.Frag) (W : WX) (E : EnvD) (m : DM (List D)) : TA := tG K W E m (fun _ w xs vs => Reps K w.d w.G xs vs)
def RepBs (K : PySem.W.Frag) (w : HS) : List D → List V → Prop
  | [], vs => vs = []
  | x :: xs, vs => ∃ v ws, vs = v :: ws ∧ RepB K w x v ∧ RepBs K w xs ws
theorem RepBs.mono {w w' : HS} (g : Gr w w') : ∀ {xs : List D} {vs : List V}, RepBs K w xs vs → RepBs K w' xs vs
  | [], vs, h => h
  | x :: xs, vs, ⟨v, ws, e, r, q⟩ => ⟨v, ws, e, r.mono g, RepBs.mono g q⟩
abbrev tAb (K : PySem.W.Frag) (W : WX) (E : EnvD) (m : DM (List D)) : TA := tG K W E m (fun _ w xs vs => RepBs K w xs vs)
end
theorem pe_imp {X : Cx} {e : Expr} {t t' : TE} (h : PE X e t) (f : ∀ σ H Q, t' σ H Q → t σ H Q) : PE X e t' := ⟨fun pins s σ H Q I q => h.run pins s σ H Q I (f _ _ _ q)⟩
theorem pt_imp {X : Cx} {e : Expr} {t t' : TT} (h : PT X e t) (f : ∀ σ H Q, t' σ H Q → t σ H Q) : PT X e t' := ⟨fun pins s σ H Q I q => h.run pins s σ H Q I (f _ _ _ q)⟩
theorem pw_imp {X : Cx} {e : Expr} {t t' : TT} (h : PW X e t) (f : ∀ σ H Q, t' σ H Q → t σ H Q) : PW X e t' := ⟨fun wh pins s σ H Q I q => h.run wh pins s σ H Q I (f _ _ _ q)⟩
theorem pa_imp {X : Cx} {e : List Expr} {t t' : TA} (h : PA X e t) (f : ∀ σ H Q, t' σ H Q → t σ H Q) : PA X e t' := ⟨fun pos pins s σ H Q I q => h.run pos pins s σ H Q I (f _ _ _ q)⟩
theorem ps_imp {X : Cx} {e : Stmt} {t t' : TS} (h : PS X e t) (f : ∀ D σ H, t' D σ H → t D σ H) : PS X e t' := ⟨fun pins s σ H D I q => h.run pins s σ H D I (f _ _ _ q)⟩
theorem pss_imp {X : Cx} {e : List Stmt} {t t' : TS} (h : PSs X e t) (f : ∀ D σ H, t' D σ H → t D σ H) : PSs X e t' := ⟨fun pins s σ H D I q => h.run pins s σ H D I (f _ _ _ q)⟩

/-! ### the operators -/
section
variable {X : Cx} {W : WX} {σ : St}
theorem mulOk_spec {i j : Int} (h : mulOk i j = true) : CMul i j := by
  unfold mulOk at h
  rw [Bool.or_eq_true, decide_eq_true_eq, decide_eq_true_eq] at h
  unfold CMul
  omega
theorem lenOk_le {n : Nat} (h : lenOk n = true) : n ≤ sizeLine := by
  rw [sizeLine_eq]; exact of_decide_eq_true h
/-- a new frozen object, kept as a value -/
theorem RepV.fzOf {K : PySem.W.Frag} {w w' : HS} {x : D} {v : V} (r : HRep K w' x v) : RepV K w w' (.fz x) v := r
theorem rep_lay_tup {K : PySem.W.Frag} {c : Option (List Int)} {w : HS} {xs : List D} {vs : List V} {p : Addr} (f : Wf c w) (h : w.H p = none) (r : Reps K w.d w.G xs vs) : HRep K (w.lay p (.tup vs)) (.tup xs) (.ref p) := by
  simp only [HRep, Rep]
  exact ⟨p, vs, rfl, upd_same, Reps.mono (fun _ e => e) (same_new (f.gn h)) _ _ r⟩
theorem rep_put_lst {K : PySem.W.Frag} {c : Option (List Int)} {w0 w : HS} {xs : List D} {vs : List V} {p : Addr} (f : Wf c w) (g : Gr w0 w) (h : w.H p = none) (r : Reps K w.d w.G xs vs) : RepV K w0 (w.put p (.lst vs)) (.fr xs) (.ref p) :=
  ⟨p, vs, rfl, upd_same, r, f.gn h, f.ne h, g.t' h⟩
abbrev rBinAdd (K : PySem.W.Frag) : R2 := fun x y H Q => (rI0 (fun i j => .int (i + j))) x y H Q ∨ (rCat x y H Q ∨ rCatA K x y H Q)
abbrev rBin (K : PySem.W.Frag) : Operator → R2
  | .Add => rBinAdd K
  | .Sub => rI0 fun i j => .int (i - j)
  | .Mult => rI CMul fun i j => .int (i * j)
  | .FloorDiv => rI CDivN fun i j => .int (i.fdiv j)
  | .Mod => rI (fun _ j => j ≠ 0) fun i j => .int (i.fmod j)
  | .Pow => rI CPow fun i j => .int (i ^ j.toNat)
  | _ => fun _ _ _ _ => False
theorem op_bin : ∀ op, OpR X (binaryOp op) (rBin X.K op)
  | .Add => op_add.or (op_cat.or op_catA)
  | .Sub => op_sub
  | .Mult => op_mul
  | .FloorDiv => op_fdivN
  | .Mod => op_modN
  | .Pow => op_pow
  | .MatMult => fun _ _ _ _ _ _ _ _ _ _ _ _ h => h.elim
  | .Div => fun _ _ _ _ _ _ _ _ _ _ _ _ h => h.elim
  | .LShift => fun _ _ _ _ _ _ _ _ _ _ _ _ h => h.elim
  | .RShift => fun _ _ _ _ _ _ _ _ _ _ _ _ h => h.elim
  | .BitOr => fun _ _ _ _ _ _ _ _ _ _ _ _ h => h.elim
  | .BitXor => fun _ _ _ _ _ _ _ _ _ _ _ _ h => h.elim
  | .BitAnd => fun _ _ _ _ _ _ _ _ _ _ _ _ h => h.elim
theorem binD_ok {K : PySem.W.Frag} {op : Operator} {x y : D} {v u : V} {c : Option (List Int)} {w0 w : HS} {Q : V → Hp → Prop} (f : Wf c w) (g : Gr w0 w) (rx : RepB K w x v) (ry : RepB K w y u)
    (h : XO K W σ w (binD op x y c) fun a _ w' => ∀ b, RepV K w0 w' a b → Q b w'.H) : rBin K op v u w.H Q := by
  have int1 : ∀ {i j : Int}, XO K W σ w (dret (RV.fz (.int i)) c) (fun a _ w' => ∀ b, RepV K w0 w' a b → Q b w'.H) → Q (.int i) w.H := fun h => h.here f _ (by simp [RepV, Rep])
  cases op <;> cases x <;> cases y <;> first
    | exact h.elim
    | skip
  · -- Add int int
    rw [B_int rx, B_int ry]
    exact .inl ⟨_, _, rfl, rfl, h.here f _ (by simp [RepV, Rep])⟩
  · rename_i xs ys
    obtain ⟨p, vs, rfl, hp, r1⟩ := B_lst f rx
    obtain ⟨q, us, rfl, hq, r2⟩ := B_lst f ry
    obtain ⟨hl, h⟩ := h.dif
    refine .inr (.inl ⟨p, q, vs, us, rfl, rfl, hp, hq, by rw [r1.length, r2.length]; exact lenOk_le hl, fun a ha => ?_⟩)
    exact h.to (Gr.put f ha) (Wf.put f ha) _ (rep_put_lst f g ha (r1.append r2))
  · rename_i xs ys
    obtain ⟨p, vs, rfl, hp', hp, r1⟩ := B_tup f rx
    obtain ⟨q, us, rfl, hq', hq, r2⟩ := B_tup f ry
    obtain ⟨hl, h⟩ := h.dif
    refine .inr (.inr ⟨p, q, vs, us, rfl, rfl, hp, hq, by rw [r1.length, r2.length]; exact lenOk_le hl, fun z => ?_, fun _ z => ?_, fun _ z a ha => ?_⟩)
    · refine h.here f _ ?_
      subst z
      have : xs = [] := by
        have := r1.length
        cases xs with
        | nil => rfl
        | cons _ _ => simp at this
      subst this
      simp only [RepV, Rep, List.nil_append]
      exact ⟨q, us, rfl, hq', r2⟩
    · refine h.here f _ ?_
      subst z
      have : ys = [] := by
        have := r2.length
        cases ys with
        | nil => rfl
        | cons _ _ => simp at this
      subst this
      simp only [RepV, Rep, List.append_nil]
      exact ⟨p, vs, rfl, hp', r1⟩
    · exact h.to (Gr.lay f ha) (Wf.lay f ha) _ (rep_lay_tup f ha (r1.append r2))
  · rw [B_int rx, B_int ry]
    exact ⟨_, _, rfl, rfl, h.here f _ (by simp [RepV, Rep])⟩
  · rw [B_int rx, B_int ry]
    obtain ⟨hl, h⟩ := h.dif
    exact ⟨_, _, rfl, rfl, mulOk_spec hl, h.here f _ (by simp [RepV, Rep])⟩
  · rw [B_int rx, B_int ry]
    obtain ⟨hl, h⟩ := h.dif
    rw [decide_eq_true_eq] at hl
    exact ⟨_, _, rfl, rfl, hl, h.here f _ (by simp [RepV, Rep])⟩
  · rw [B_int rx, B_int ry]
    obtain ⟨hl, h⟩ := h.dif
    rw [Bool.and_eq_true, Bool.and_eq_true, decide_eq_true_eq, decide_eq_true_eq, decide_eq_true_eq] at hl
    exact ⟨_, _, rfl, rfl, ⟨hl.1.1, hl.1.2, hl.2⟩, h.here f _ (by simp [RepV, Rep])⟩
  · rw [B_int rx, B_int ry]
    obtain ⟨hl, h⟩ := h.dif
    rw [Bool.and_eq_true, decide_eq_true_eq, decide_eq_true_eq] at hl
    exact ⟨_, _, rfl, rfl, ⟨hl.1, hl.2⟩, h.here f _ (by simp [RepV, Rep])⟩
end
end DL

set_option maxHeartbeats 4000000
/-! DL4: comparisons, places, built-ins. -/
namespace DL
open PySem PySem.Spec PyProof.Rows L2
section
variable {X : Cx} {W : WX} {σ : St} {K : PySem.W.Frag}
/-! ### data for == and in -/
mutual
theorem dp_of {c : Option (List Int)} {w : HS} (f : Wf c w) : ∀ (x : D) (v : V) (d : PyData), toPy x = some d → HRep K w x v → Dp K w.H v d
  | .non, v, d, e, r => by simp only [toPy, Option.some.injEq] at e; subst e; simp only [HRep, Rep] at r; subst r; exact .non
  | .bl b, v, d, e, r => by simp only [toPy, Option.some.injEq] at e; subst e; simp only [HRep, Rep] at r; subst r; exact .bl _
  | .int b, v, d, e, r => by simp only [toPy, Option.some.injEq] at e; subst e; simp only [HRep, Rep] at r; subst r; exact .int _
  | .str b, v, d, e, r => by simp only [toPy, Option.some.injEq] at e; subst e; simp only [HRep, Rep] at r; subst r; exact .str _
  | .lst xs, v, d, e, r => by
    simp only [toPy, Option.map_eq_some_iff] at e
    obtain ⟨ds, e, rfl⟩ := e
    simp only [HRep, Rep] at r
    obtain ⟨a, vs, rfl, s, r⟩ := r
    exact .lst (.of (f.sub _ _ s)) (dps_of f xs vs ds e r)
  | .tup xs, v, d, e, r => by
    simp only [toPy, Option.map_eq_some_iff] at e
    obtain ⟨ds, e, rfl⟩ := e
    simp only [HRep, Rep] at r
    obtain ⟨a, vs, rfl, s, r⟩ := r
    exact .tup (.of (f.sub _ _ s)) (dps_of f xs vs ds e r)
  | .obj _ _ _, v, d, e, r => by simp [toPy] at e
  | .cel, v, d, e, r => by simp [toPy] at e
  | .scr _, v, d, e, r => by simp [toPy] at e
theorem dps_of {c : Option (List Int)} {w : HS} (f : Wf c w) : ∀ (xs : List D) (vs : List V) (ds : List PyData), toPys xs = some ds → Reps K w.d w.G xs vs → DpAll K w.H vs ds
  | [], vs, ds, e, r => by simp only [toPys, Option.some.injEq] at e; subst e; simp only [Reps] at r; subst r; exact .nil
  | x :: xs, vs, ds, e, r => by
    simp only [Reps] at r
    obtain ⟨v, ws, rfl, r1, r2⟩ := r
    simp only [toPys] at e
    cases e1 : toPy x with
    | none => rw [e1] at e; simp at e
    | some d => cases e2 : toPys xs with
      | none => rw [e1, e2] at e; simp at e
      | some ds' =>
        rw [e1, e2] at e
        simp only [Option.some.injEq] at e
        subst e
        exact .cons (dp_of f x v d e1 r1) (dps_of f xs ws ds' e2 r2)
end
theorem dpB_of {c : Option (List Int)} {w : HS} (f : Wf c w) {x : D} {v : V} {d : PyData} (e : toPy x = some d) (r : RepB K w x v) : Dp K w.H v d := by
  rcases r with r | ⟨xs, p, vs, rfl, rfl, h, r, _⟩
  · exact dp_of f x v d e r
  · simp only [toPy, Option.map_eq_some_iff] at e
    obtain ⟨ds, e, rfl⟩ := e
    exact .lst (.of h) (dps_of f xs vs ds e r)
theorem flat_ok {d : Option Addr} {G : Hp} {x : D} {v v' : V} (e : flat? x = some v) (r : Rep K d G x v') : v' = v ∧ flatV v = true := by
  cases x <;> simp only [flat?, Option.some.injEq, reduceCtorEq] at e <;> (subst e; simp only [Rep] at r; exact ⟨r, rfl⟩)
theorem flatB_ok {w : HS} {x : D} {v v' : V} (e : flat? x = some v) (r : RepB K w x v') : v' = v ∧ flatV v = true := by
  rcases r with r | ⟨xs, p, vs, rfl, rfl, h, r, _⟩
  · exact flat_ok e r
  · simp [flat?] at e
theorem flats_ok {d : Option Addr} {G : Hp} : ∀ {xs : List D} {vs vs' : List V}, flats? xs = some vs → Reps K d G xs vs' → vs' = vs ∧ vs.all flatV = true
  | [], vs, vs', e, r => by simp only [flats?, Option.some.injEq] at e; subst e; simp only [Reps] at r; subst r; exact ⟨rfl, rfl⟩
  | x :: xs, vs, vs', e, r => by
    simp only [Reps] at r
    obtain ⟨v, ws, rfl, r1, r2⟩ := r
    simp only [flats?] at e
    cases e1 : flat? x with
    | none => rw [e1] at e; simp at e
    | some u => cases e2 : flats? xs with
      | none => rw [e1, e2] at e; simp at e
      | some us =>
        rw [e1, e2] at e
        simp only [Option.some.injEq] at e
        subst e
        obtain ⟨a1, a2⟩ := flat_ok e1 r1
        obtain ⟨b1, b2⟩ := flats_ok e2 r2
        subst a1 b1
        exact ⟨rfl, by simp [a2, b2]⟩

/-! ### comparisons -/
abbrev rCmp (K : PySem.W.Frag) : CmpOp → R2
  | .Lt => rI0 fun i j => .bl (decide (i < j))
  | .LtE => rI0 fun i j => .bl (decide (i ≤ j))
  | .Gt => rI0 fun i j => .bl (decide (j < i))
  | .GtE => rI0 fun i j => .bl (decide (j ≤ i))
  | .Eq => rEqD K
  | .NotEq => rNeD K
  | .Is => fun x y H Q => y = .non ∧ Q (.bl (decide (x = .non))) H
  | .IsNot => fun x y H Q => y = .non ∧ Q (.bl (!decide (x = .non))) H
  | .In => rIn K false
  | .NotIn => rIn K true
theorem op_cmp (hu : X.A.units + 64 < cLine) : ∀ op, OpR X (compareOp op) (rCmp X.K op)
  | .Lt => op_lt
  | .LtE => op_le
  | .Gt => op_gt
  | .GtE => op_ge
  | .Eq => op_eqD hu
  | .NotEq => op_neD hu
  | .Is => op_isN
  | .IsNot => op_notN
  | .In => op_in_seq
  | .NotIn => op_notIn_seq
theorem dbl_ok {w : HS} {o : Option Bool} {c : Option (List Int)} {post : D → Option (List Int) → HS → Prop} (h : XO K W σ w (dbl o c) post) : ∃ b, o = some b ∧ XO K W σ w (dret (.bl b) c) post := by
  cases o with
  | none => exact h.elim
  | some b => exact ⟨b, rfl, h⟩
theorem is_non {c : Option (List Int)} {w : HS} (f : Wf c w) {x : D} {v : V} (r : RepB K w x v) : decide (v = .non) = isNonD x := by
  cases x with
  | non => rw [B_non r]; rfl
  | bl b => rw [B_bl r]; rfl
  | int b => rw [B_int r]; rfl
  | str b => rw [B_str r]; rfl
  | lst xs => obtain ⟨p, vs, rfl, _⟩ := B_lst f r; rfl
  | tup xs => obtain ⟨p, vs, rfl, _⟩ := B_tup f r; rfl
  | obj cn ns xs => obtain ⟨p, vs, _, rfl, _⟩ := B_obj f r; rfl
  | cel => obtain ⟨p, rfl, _⟩ := B_cel r; rfl
  | scr is => obtain ⟨p, rfl, _⟩ := B_scr f r; rfl
theorem items_ok {c : Option (List Int)} {w : HS} (f : Wf c w) {y : D} {xs : List D} {v : V} (e : items? y = some xs) (r : RepB K w y v) : ∃ p vs, v = .ref p ∧ (SqL K w.H p vs ∨ SqT K w.H p vs) ∧ Reps K w.d w.G xs vs := by
  cases y <;> simp only [items?, Option.some.injEq, reduceCtorEq] at e
  · subst e
    obtain ⟨p, vs, rfl, h, r⟩ := B_lst f r
    exact ⟨p, vs, rfl, .inl (.of h), r⟩
  · subst e
    obtain ⟨p, vs, rfl, _, h, r⟩ := B_tup f r
    exact ⟨p, vs, rfl, .inr h, r⟩
theorem inD_ok {c : Option (List Int)} {w : HS} (f : Wf c w) {x y : D} {v u : V} {b : Bool} (e : inD x y = some b) (rx : RepB K w x v) (ry : RepB K w y u) :
    ∃ p xs, u = .ref p ∧ (SqL K w.H p xs ∨ SqT K w.H p xs) ∧ flatV v = true ∧ xs.all flatV = true ∧ inV v xs = b := by
  unfold inD at e
  cases e1 : flat? x with
  | none => rw [e1] at e; simp at e
  | some v' => cases e2 : items? y with
    | none => rw [e1, e2] at e; simp at e
    | some xs => cases e3 : flats? xs with
      | none => rw [e1, e2] at e; simp [e3] at e
      | some vs =>
        rw [e1, e2] at e
        simp only [Option.bind_some, e3, Option.some.injEq] at e
        obtain ⟨a1, a2⟩ := flatB_ok e1 rx
        obtain ⟨p, vs', rfl, hs, r⟩ := items_ok f e2 ry
        obtain ⟨b1, b2⟩ := flats_ok e3 r
        subst a1 b1
        exact ⟨p, _, rfl, hs, a2, b2, e⟩
theorem eqD_ok {c : Option (List Int)} {w : HS} (f : Wf c w) {x y : D} {v u : V} {b : Bool} (e : eqD x y = some b) (rx : RepB K w x v) (ry : RepB K w y u) :
    ∃ d d', Dp K w.H v d ∧ Dp K w.H u d' ∧ SeqAt.shaped d = true ∧ SeqAt.shaped d' = true ∧ PyData.eqv d d' = b := by
  unfold eqD at e
  cases e1 : toPy x with
  | none => rw [e1] at e; simp at e
  | some d => cases e2 : toPy y with
    | none => rw [e1, e2] at e; simp at e
    | some d' =>
      rw [e1, e2] at e
      dsimp only at e
      by_cases hs : (SeqAt.shaped d && SeqAt.shaped d') = true
      · rw [if_pos hs] at e
        rw [Bool.and_eq_true] at hs
        exact ⟨d, d', dpB_of f e1 rx, dpB_of f e2 ry, hs.1, hs.2, Option.some.inj e⟩
      · rw [if_neg hs] at e; cases e
theorem cmpD_ok {op : CmpOp} {x y : D} {v u : V} {c : Option (List Int)} {w0 w : HS} {Q : V → Hp → Prop} (f : Wf c w) (rx : RepB K w x v) (ry : RepB K w y u)
    (h : XO K W σ w (cmpD op x y c) fun a _ w' => ∀ b, RepB K w' a b → Q b w'.H) : rCmp K op v u w.H Q := by
  have fin : ∀ {b : Bool}, XO K W σ w (dret (D.bl b) c) (fun a _ w' => ∀ b, RepB K w' a b → Q b w'.H) → Q (.bl b) w.H := fun h => h.here f _ (.inl (by simp [Rep]))
  have int2 : ∀ {g : Int → Int → Bool}, (∀ i j, x = .int i → y = .int j → XO K W σ w (dret (D.bl (g i j)) c) (fun a _ w' => ∀ b, RepB K w' a b → Q b w'.H)) → (∃ i j, x = .int i ∧ y = .int j) → rI0 (fun i j => V.bl (g i j)) v u w.H Q := by
    intro g hh ⟨i, j, e1, e2⟩
    subst e1 e2
    rw [B_int rx, B_int ry]
    exact ⟨_, _, rfl, rfl, fin (hh i j rfl rfl)⟩
  have isN : op = .Is ∨ op = .IsNot → y = .non := by
    rintro (rfl | rfl) <;> (cases y <;> first | rfl | exact h.elim)
  cases op with
  | Lt =>
    cases x <;> cases y <;> first | exact h.elim | exact int2 (g := fun i j => decide (i < j)) (fun i j e1 e2 => by cases e1; cases e2; exact h) ⟨_, _, rfl, rfl⟩
  | LtE =>
    cases x <;> cases y <;> first | exact h.elim | exact int2 (g := fun i j => decide (i ≤ j)) (fun i j e1 e2 => by cases e1; cases e2; exact h) ⟨_, _, rfl, rfl⟩
  | Gt =>
    cases x <;> cases y <;> first | exact h.elim | exact int2 (g := fun i j => decide (j < i)) (fun i j e1 e2 => by cases e1; cases e2; exact h) ⟨_, _, rfl, rfl⟩
  | GtE =>
    cases x <;> cases y <;> first | exact h.elim | exact int2 (g := fun i j => decide (j ≤ i)) (fun i j e1 e2 => by cases e1; cases e2; exact h) ⟨_, _, rfl, rfl⟩
  | Eq =>
    obtain ⟨b, e, h⟩ := dbl_ok (show XO K W σ w (dbl (eqD x y) c) _ from h)
    obtain ⟨d, d', h1, h2, s1, s2, rfl⟩ := eqD_ok f e rx ry
    exact ⟨d, d', h1, h2, s1, s2, fin h⟩
  | NotEq =>
    obtain ⟨b, e, h⟩ := dbl_ok (show XO K W σ w (dbl ((eqD x y).map (!·)) c) _ from h)
    rw [Option.map_eq_some_iff] at e
    obtain ⟨b', e, rfl⟩ := e
    obtain ⟨d, d', h1, h2, s1, s2, rfl⟩ := eqD_ok f e rx ry
    exact ⟨d, d', h1, h2, s1, s2, fin h⟩
  | In =>
    obtain ⟨b, e, h⟩ := dbl_ok (show XO K W σ w (dbl (inD x y) c) _ from h)
    obtain ⟨p, xs, h1, h2, h3, h4, h5⟩ := inD_ok f e rx ry
    exact ⟨p, xs, h1, h2, h3, h4, by rw [h5]; exact fin h⟩
  | NotIn =>
    obtain ⟨b, e, h⟩ := dbl_ok (show XO K W σ w (dbl ((inD x y).map (!·)) c) _ from h)
    rw [Option.map_eq_some_iff] at e
    obtain ⟨b', e, rfl⟩ := e
    obtain ⟨p, xs, h1, h2, h3, h4, h5⟩ := inD_ok f e rx ry
    exact ⟨p, xs, h1, h2, h3, h4, by rw [h5]; exact fin h⟩
  | Is =>
    have e := isN (.inl rfl)
    subst e
    refine ⟨B_non ry, ?_⟩
    rw [is_non f rx]
    exact fin h
  | IsNot =>
    have e := isN (.inr rfl)
    subst e
    refine ⟨B_non ry, ?_⟩
    rw [is_non f rx]
    exact fin h

/-! ### places -/
theorem atI_rep {d : Option Addr} {G : Hp} {xs : List D} {vs : List V} {i : Int} {x : D} (r : Reps K d G xs vs) (e : atI xs i = some x) : ∃ v, atI vs i = some v ∧ Rep K d G x v := by
  unfold atI at e ⊢
  rw [r.length]
  cases q : ixN xs.length i with
  | none => rw [q] at e; simp at e
  | some j =>
    rw [q] at e
    simp only [Option.bind_some] at e ⊢
    exact r.get e
theorem atI_map {α β : Type} (f : α → β) (xs : List α) (i : Int) : atI (xs.map f) i = (atI xs i).map f := by
  unfold atI
  rw [List.length_map]
  cases ixN xs.length i with
  | none => rfl
  | some j => simp
abbrev rIxD (K : PySem.W.Frag) : R2 := fun x y H Q => rIxL K x y H Q ∨ rIxT K x y H Q
theorem IxR.or {r r' : R2} (h : IxR X r) (h' : IxR X r') : IxR X (fun x y H Q => r x y H Q ∨ r' x y H Q) := by
  intro value slice pins s σ H x y v u Q I rx ry hh hs
  rcases hh with hh | hh
  · exact h value slice pins s σ H x y v u Q I rx ry hh hs
  · exact h' value slice pins s σ H x y v u Q I rx ry hh hs
theorem ix_D : IxR X (rIxD X.K) := IxR.or ix_list ix_tup
theorem dgetZ_ok {w : HS} {o : Option D} {c : Option (List Int)} {post : RV → Option (List Int) → HS → Prop} (h : XO K W σ w (dgetZ o c) post) : ∃ x, o = some x ∧ XO K W σ w (dret (.fz x) c) post := by
  cases o with
  | none => exact h.elim
  | some b => exact ⟨b, rfl, h⟩
theorem dcel_ok {w : HS} {f : List Int → Option D} {c : Option (List Int)} {post : RV → Option (List Int) → HS → Prop} (h : XO K W σ w (dcel f c) post) : ∃ is x, c = some is ∧ f is = some x ∧ XO K W σ w (dret (.fz x) c) post := by
  cases c with
  | none => exact h.elim
  | some is =>
    obtain ⟨x, e, h⟩ := dgetZ_ok (show XO K W σ w (dgetZ (f is) (some is)) post from h)
    exact ⟨is, x, rfl, e, h⟩
theorem ixD_ok {x y : D} {v u : V} {c : Option (List Int)} {w0 w : HS} {Q : V → Hp → Prop} (f : Wf c w) (rx : RepB K w x v) (ry : RepB K w y u)
    (h : XO K W σ w (ixD x y c) fun a _ w' => ∀ b, RepV K w0 w' a b → Q b w'.H) : rIxD K v u w.H Q := by
  cases x <;> cases y <;> try exact h.elim
  · rename_i xs i
    obtain ⟨p, vs, rfl, hp, r⟩ := B_lst f rx
    rw [B_int ry]
    obtain ⟨z, e, h⟩ := dgetZ_ok (show XO K W σ w (dgetZ (atI xs i) c) _ from h)
    obtain ⟨v', e', r'⟩ := atI_rep r e
    exact .inl ⟨p, vs, i, v', rfl, rfl, .of hp, e', h.here f _ r'⟩
  · rename_i xs i
    obtain ⟨p, vs, rfl, _, hp, r⟩ := B_tup f rx
    rw [B_int ry]
    obtain ⟨z, e, h⟩ := dgetZ_ok (show XO K W σ w (dgetZ (atI xs i) c) _ from h)
    obtain ⟨v', e', r'⟩ := atI_rep r e
    exact .inr ⟨p, vs, i, v', rfl, rfl, hp, e', h.here f _ r'⟩
  · rename_i i
    obtain ⟨p, rfl, hd⟩ := B_cel rx
    rw [B_int ry]
    obtain ⟨is, z, rfl, e, h⟩ := dcel_ok (show XO K W σ w (dcel (fun is => (atI is i).map .int) c) _ from h)
    obtain ⟨is', e2, hp, _⟩ := f.cellAt hd
    cases e2
    rw [Option.map_eq_some_iff] at e
    obtain ⟨j, e, rfl⟩ := e
    exact .inl ⟨p, is.map V.int, i, .int j, rfl, rfl, .of hp, by rw [atI_map, e]; rfl, h.here f _ (by simp [RepV, Rep])⟩
  · rename_i is i
    obtain ⟨p, rfl, hp⟩ := B_scr f rx
    rw [B_int ry]
    obtain ⟨z, e, h⟩ := dgetZ_ok (show XO K W σ w (dgetZ ((atI is i).map .int) c) _ from h)
    rw [Option.map_eq_some_iff] at e
    obtain ⟨j, e, rfl⟩ := e
    exact .inl ⟨p, is.map V.int, i, .int j, rfl, rfl, hp, by rw [atI_map, e]; rfl, h.here f _ (by simp [RepV, Rep])⟩
abbrev rSlD (K : PySem.W.Frag) : V → Option Int → Option Int → Hp → VK → Prop := fun x lo hi H Q => rSlL K x lo hi H Q ∨ rSlA K x lo hi H Q
theorem sl_D : SlR X (rSlD X.K) := sl_list.or sl_tupA
theorem cut_rep {d : Option Addr} {G : Hp} {xs : List D} {vs : List V} {lo hi : Option Int} (r : Reps K d G xs vs) : Reps K d G (cutD xs lo hi) (cutV vs lo hi) := by
  unfold cutD cutV
  rw [r.length]
  exact (r.drop _).take _
theorem cut_all {α : Type} (xs : List α) (n : Nat) (h0 : n = xs.length) {a b : Nat} (h1 : a = 0) (h2 : b = n) : (xs.drop a).take (b - a) = xs := by
  subst h1 h2 h0
  simp
theorem slD_ok {x : D} {v : V} {lo hi : Option Int} {c : Option (List Int)} {w0 w : HS} {Q : V → Hp → Prop} (f : Wf c w) (g : Gr w0 w) (rx : RepB K w x v)
    (h : XO K W σ w (slD x lo hi c) fun a _ w' => ∀ b, RepV K w0 w' a b → Q b w'.H) : rSlD K v lo hi w.H Q := by
  cases x <;> try exact h.elim
  · rename_i xs
    obtain ⟨p, vs, rfl, hp, r⟩ := B_lst f rx
    refine .inl ⟨p, vs, rfl, .of hp, fun a ha => ?_⟩
    exact h.to (Gr.put f ha) (Wf.put f ha) _ (rep_put_lst f g ha (cut_rep r))
  · rename_i xs
    obtain ⟨p, vs, rfl, hp', hp, r⟩ := B_tup f rx
    refine .inr ⟨p, vs, rfl, hp, fun z => ?_, fun z a ha => ?_⟩
    · refine h.here f _ ?_
      have e : cutD xs lo hi = xs := by
        unfold cutD
        rw [r.length] at z
        exact cut_all xs xs.length rfl z.1 z.2
      rw [e]
      simp only [RepV, Rep]
      exact ⟨p, vs, rfl, hp', r⟩
    · exact h.to (Gr.lay f ha) (Wf.lay f ha) _ (rep_lay_tup f ha (cut_rep r))
theorem emp_eq {d : Option Addr} {G : Hp} {xs : List D} {vs : List V} (r : Reps K d G xs vs) : (!xs.isEmpty) = !vs.isEmpty := by
  have h := r.length
  cases xs with
  | nil => cases vs with
    | nil => rfl
    | cons _ _ => simp at h
  | cons _ _ => cases vs with
    | nil => simp at h
    | cons _ _ => rfl
theorem tru_okD {c : Option (List Int)} {w : HS} (f : Wf c w) {x : D} {v : V} {b : Bool} (e : truD x = some b) (r : RepB K w x v) : TruV K v w.H b := by
  cases x <;> simp only [truD, Option.some.injEq, reduceCtorEq] at e <;> subst e
  · rw [B_non r]; rfl
  · rw [B_bl r]; rfl
  · rw [B_int r]; rfl
  · obtain ⟨p, vs, rfl, hp, r⟩ := B_lst f r
    exact .inl ⟨vs, .of hp, emp_eq r⟩
  · obtain ⟨p, vs, rfl, _, hp, r⟩ := B_tup f r
    exact .inr (.inl ⟨vs, hp, emp_eq r⟩)

/-! ### built-ins -/
theorem sort_same {ns ns' : List Int} (p : ns'.Perm ns) (h : ns'.Pairwise (· ≤ ·)) : ns' = sortI ns := by
  refine List.Perm.eq_of_pairwise (le := (· ≤ ·)) (fun a b _ _ h1 h2 => Int.le_antisymm h1 h2) h ?_ (p.trans (List.mergeSort_perm _ _).symm)
  have q := List.pairwise_mergeSort (le := fun a b : Int => decide (a ≤ b)) (fun a b c h1 h2 => by simp only [decide_eq_true_eq] at *; omega) (fun a b => by simp only [Bool.or_eq_true, decide_eq_true_eq]; omega) ns
  exact q.imp fun h => of_decide_eq_true h
theorem max_fold : ∀ (r : List Int) (i : Int), (r.foldl max i ∈ i :: r) ∧ ∀ y ∈ i :: r, y ≤ r.foldl max i
  | [], i => by simp
  | j :: r, i => by
    obtain ⟨h1, h2⟩ := max_fold r (max i j)
    simp only [List.foldl_cons]
    refine ⟨?_, fun y hy => ?_⟩
    · rcases List.mem_cons.mp h1 with h | h
      · rw [h]
        by_cases q : i ≤ j
        · rw [Int.max_eq_right q]; simp
        · rw [Int.max_eq_left (by omega)]; simp
      · exact List.mem_cons_of_mem _ (List.mem_cons_of_mem _ h)
    · have hm := h2 (max i j) (by simp)
      rcases List.mem_cons.mp hy with rfl | hy
      · omega
      · rcases List.mem_cons.mp hy with rfl | hy
        · omega
        · exact h2 y (List.mem_cons_of_mem _ hy)
theorem min_fold : ∀ (r : List Int) (i : Int), (r.foldl min i ∈ i :: r) ∧ ∀ y ∈ i :: r, r.foldl min i ≤ y
  | [], i => by simp
  | j :: r, i => by
    obtain ⟨h1, h2⟩ := min_fold r (min i j)
    simp only [List.foldl_cons]
    refine ⟨?_, fun y hy => ?_⟩
    · rcases List.mem_cons.mp h1 with h | h
      · rw [h]
        by_cases q : i ≤ j
        · rw [Int.min_eq_left q]; simp
        · rw [Int.min_eq_right (by omega)]; simp
      · exact List.mem_cons_of_mem _ (List.mem_cons_of_mem _ h)
    · have hm := h2 (min i j) (by simp)
      rcases List.mem_cons.mp hy with rfl | hy
      · omega
      · rcases List.mem_cons.mp hy with rfl | hy
        · omega
        · exact h2 y (List.mem_cons_of_mem _ hy)
theorem max_same {ns : List Int} {m k : Int} (h1 : m ∈ ns) (h2 : ∀ y ∈ ns, y ≤ m) (h : maxI ns = some k) : m = k := by
  cases ns with
  | nil => cases h
  | cons i r =>
    simp only [maxI, Option.some.injEq] at h
    obtain ⟨q1, q2⟩ := max_fold r i
    rw [h] at q1 q2
    have := h2 k q1
    have := q2 m h1
    omega
theorem min_same {ns : List Int} {m k : Int} (h1 : m ∈ ns) (h2 : ∀ y ∈ ns, m ≤ y) (h : minI ns = some k) : m = k := by
  cases ns with
  | nil => cases h
  | cons i r =>
    simp only [minI, Option.some.injEq] at h
    obtain ⟨q1, q2⟩ := min_fold r i
    rw [h] at q1 q2
    have := h2 k q1
    have := q2 m h1
    omega
/-- a built-in keeps its meaning -/
def BltOk (K : PySem.W.Frag) (b : List D → DM RV) (r : List V → Hp → VK → Prop) : Prop := ∀ (W : WX) (σ : St) (w0 w : HS) (c : Option (List Int)) (xs : List D) (vs : List V) (Q : V → Hp → Prop), Wf c w → Gr w0 w → RepBs K w xs vs →
  XO K W σ w (b xs c) (fun a _ w' => ∀ b, RepV K w0 w' a b → Q b w'.H) → r vs w.H Q
theorem one_B {w : HS} {x : D} {vs : List V} (h : RepBs K w [x] vs) : ∃ v, vs = [v] ∧ RepB K w x v := by
  obtain ⟨v, ws, rfl, r, q⟩ := h
  have q' : ws = [] := q
  subst q'
  exact ⟨v, rfl, r⟩
theorem two_B {w : HS} {x y : D} {vs : List V} (h : RepBs K w [x, y] vs) : ∃ v u, vs = [v, u] ∧ RepB K w x v ∧ RepB K w y u := by
  obtain ⟨v, ws, rfl, r, q⟩ := h
  obtain ⟨u, rfl, r2⟩ := one_B q
  exact ⟨v, u, rfl, r, r2⟩
theorem bLen_ok : BltOk K bLen (fun xs H Q => ∃ p ys, xs = [.ref p] ∧ (SqL K H p ys ∨ SqT K H p ys) ∧ Q (.int ys.length) H) := by
  intro W σ w0 w c xs vs Q f g r h
  unfold bLen at h
  split at h
  · obtain ⟨v, ev, rv⟩ := one_B r
    clear r
    subst ev
    have r := rv
    obtain ⟨p, us, rfl, hp, r⟩ := B_lst f r
    exact ⟨p, us, rfl, .inl (.of hp), by rw [r.length]; exact h.here f _ (by simp [RepV, Rep])⟩
  · obtain ⟨v, ev, rv⟩ := one_B r
    clear r
    subst ev
    have r := rv
    obtain ⟨p, us, rfl, _, hp, r⟩ := B_tup f r
    exact ⟨p, us, rfl, .inr hp, by rw [r.length]; exact h.here f _ (by simp [RepV, Rep])⟩
  · obtain ⟨v, ev, rv⟩ := one_B r
    clear r
    subst ev
    have r := rv
    obtain ⟨p, rfl, hp⟩ := B_scr f r
    exact ⟨p, _, rfl, .inl hp, by rw [List.length_map]; exact h.here f _ (by simp [RepV, Rep])⟩
  · obtain ⟨v, ev, rv⟩ := one_B r
    clear r
    subst ev
    have r := rv
    obtain ⟨p, rfl, hd⟩ := B_cel r
    obtain ⟨is, z, rfl, e, h⟩ := dcel_ok h
    obtain ⟨is', e2, hp, _⟩ := f.cellAt hd
    cases e2
    cases e
    exact ⟨p, _, rfl, .inl (.of hp), by rw [List.length_map]; exact h.here f _ (by simp [RepV, Rep])⟩
  · exact h.elim
theorem bInt_ok : BltOk K bInt (fun xs H Q => (∃ i, xs = [.int i] ∧ Q (.int i) H) ∨ ∃ k, xs = [.bl k] ∧ Q (.int (if k then 1 else 0)) H) := by
  intro W σ w0 w c xs vs Q f g r h
  unfold bInt at h
  split at h
  · obtain ⟨v, ev, rv⟩ := one_B r
    clear r
    subst ev
    have r := rv
    rw [B_int r]
    exact .inl ⟨_, rfl, h.here f _ (by simp [RepV, Rep])⟩
  · obtain ⟨v, ev, rv⟩ := one_B r
    clear r
    subst ev
    have r := rv
    rw [B_bl r]
    exact .inr ⟨_, rfl, h.here f _ (by simp [RepV, Rep])⟩
  · exact h.elim
theorem bList_ok : BltOk K bList (fun xs H Q => ∃ p ys, xs = [.ref p] ∧ (SqL K H p ys ∨ SqT K H p ys) ∧ ∀ l, H l = none → Q (.ref l) (upd H l (.lst ys))) := by
  intro W σ w0 w c xs vs Q f g r h
  unfold bList at h
  split at h
  · obtain ⟨v, ev, rv⟩ := one_B r
    clear r
    subst ev
    have r := rv
    obtain ⟨p, us, rfl, hp, r⟩ := B_lst f r
    exact ⟨p, us, rfl, .inl (.of hp), fun a ha => h.to (Gr.put f ha) (Wf.put f ha) _ (rep_put_lst f g ha r)⟩
  · obtain ⟨v, ev, rv⟩ := one_B r
    clear r
    subst ev
    have r := rv
    obtain ⟨p, us, rfl, _, hp, r⟩ := B_tup f r
    exact ⟨p, us, rfl, .inr hp, fun a ha => h.to (Gr.put f ha) (Wf.put f ha) _ (rep_put_lst f g ha r)⟩
  · exact h.elim
theorem bTuple_ok : BltOk K bTuple (fun xs H Q => ∃ p ys, xs = [.ref p] ∧ ((SqL K H p ys ∧ ∀ l, H l = none → Q (.ref l) (upd H l (.tup ys))) ∨ (SqT K H p ys ∧ Q (.ref p) H))) := by
  intro W σ w0 w c xs vs Q f g r h
  unfold bTuple at h
  split at h
  · obtain ⟨v, ev, rv⟩ := one_B r
    clear r
    subst ev
    have r := rv
    obtain ⟨p, us, rfl, hp, r⟩ := B_lst f r
    exact ⟨p, us, rfl, .inl ⟨.of hp, fun a ha => h.to (Gr.lay f ha) (Wf.lay f ha) _ (rep_lay_tup f ha r)⟩⟩
  · obtain ⟨v, ev, rv⟩ := one_B r
    clear r
    subst ev
    have r := rv
    obtain ⟨p, us, rfl, hp', hp, r⟩ := B_tup f r
    refine ⟨p, us, rfl, .inr ⟨hp, h.here f _ ?_⟩⟩
    simp only [RepV, Rep]
    exact ⟨p, us, rfl, hp', r⟩
  · exact h.elim
theorem lst_ints {w : HS} {c : Option (List Int)} (f : Wf c w) {xs : List D} {is : List Int} {v : V} (e : ints? xs = some is) (r : RepB K w (.lst xs) v) : ∃ p, v = .ref p ∧ SqL K w.H p (is.map V.int) := by
  obtain ⟨p, us, rfl, hp, r⟩ := B_lst f r
  rw [ints_rep e r] at hp
  exact ⟨p, rfl, .of hp⟩
theorem lst_bls {w : HS} {c : Option (List Int)} (f : Wf c w) {xs : List D} {is : List Bool} {v : V} (e : bls? xs = some is) (r : RepB K w (.lst xs) v) : ∃ p, v = .ref p ∧ SqL K w.H p (is.map V.bl) := by
  obtain ⟨p, us, rfl, hp, r⟩ := B_lst f r
  rw [bls_rep e r] at hp
  exact ⟨p, rfl, .of hp⟩
theorem bSorted_ok : BltOk K bSorted (fun vs H Q => rSortedI K vs H Q ∨ rSortedT K vs H Q) := by
  intro W σ w0 w c xs vs Q f g r h
  unfold bSorted at h
  split at h
  · obtain ⟨v, ev, rv⟩ := one_B r
    clear r
    subst ev
    have r := rv
    obtain ⟨is, e, h⟩ := h.get
    obtain ⟨p, rfl, hp⟩ := lst_ints f e r
    refine .inl ⟨p, is, rfl, hp, fun ns' a hq hs ha => ?_⟩
    rw [sort_same hq hs]
    exact h.to (Gr.put f ha) (Wf.put f ha) _ (rep_put_lst f g ha (reps_ints _))
  · obtain ⟨v, ev, rv⟩ := one_B r
    clear r
    subst ev
    have r := rv
    obtain ⟨is, e, h⟩ := h.get
    obtain ⟨p, vs, rfl, _, hp, r⟩ := B_tup f r
    have ev := ints_rep e r
    subst ev
    refine .inr ⟨p, is, rfl, hp, fun ns' a hq hs ha => ?_⟩
    rw [sort_same hq hs]
    exact h.to (Gr.put f ha) (Wf.put f ha) _ (rep_put_lst f g ha (reps_ints _))
  · exact h.elim
theorem bSum_ok : BltOk K bSum (rSum K) := by
  intro W σ w0 w c xs vs Q f g r h
  unfold bSum at h
  split at h
  · obtain ⟨v, ev, rv⟩ := one_B r
    clear r
    subst ev
    have r := rv
    obtain ⟨is, e, h⟩ := h.get
    obtain ⟨p, rfl, hp⟩ := lst_ints f e r
    exact ⟨p, is, rfl, hp, h.here f _ (by simp [RepV, Rep])⟩
  · exact h.elim
theorem bAll_ok : BltOk K bAll (rAll K) := by
  intro W σ w0 w c xs vs Q f g r h
  unfold bAll at h
  split at h
  · obtain ⟨v, ev, rv⟩ := one_B r
    clear r
    subst ev
    have r := rv
    obtain ⟨is, e, h⟩ := h.get
    obtain ⟨p, rfl, hp⟩ := lst_bls f e r
    exact ⟨p, is, rfl, hp, h.here f _ (by simp [RepV, Rep])⟩
  · exact h.elim
theorem bAny_ok : BltOk K bAny (rAny K) := by
  intro W σ w0 w c xs vs Q f g r h
  unfold bAny at h
  split at h
  · obtain ⟨v, ev, rv⟩ := one_B r
    clear r
    subst ev
    have r := rv
    obtain ⟨is, e, h⟩ := h.get
    obtain ⟨p, rfl, hp⟩ := lst_bls f e r
    exact ⟨p, is, rfl, hp, h.here f _ (by simp [RepV, Rep])⟩
  · exact h.elim
theorem bMin_ok : BltOk K bMin (fun xs H Q => rMin K xs H Q ∨ ∃ i j, xs = [.int i, .int j] ∧ Q (.int (if j < i then j else i)) H) := by
  intro W σ w0 w c xs vs Q f g r h
  unfold bMin at h
  split at h
  · obtain ⟨v, ev, rv⟩ := one_B r
    clear r
    subst ev
    have r := rv
    obtain ⟨is, e, h⟩ := h.get
    obtain ⟨i, e2, h⟩ := h.get
    obtain ⟨p, rfl, hp⟩ := lst_ints f e r
    refine .inl ⟨p, is, rfl, hp, ?_, fun m h1 h2 => ?_⟩
    · cases is with
      | nil => cases e2
      | cons _ _ => simp
    · rw [min_same h1 h2 e2]
      exact h.here f _ (by simp [RepV, Rep])
  · obtain ⟨v, u, rfl, r1, r2⟩ := two_B r
    rw [B_int r1, B_int r2]
    exact .inr ⟨_, _, rfl, h.here f _ (by simp [RepV, Rep])⟩
  · exact h.elim
theorem bMax_ok : BltOk K bMax (fun xs H Q => rMax K xs H Q ∨ ∃ i j, xs = [.int i, .int j] ∧ Q (.int (if j > i then j else i)) H) := by
  intro W σ w0 w c xs vs Q f g r h
  unfold bMax at h
  split at h
  · obtain ⟨v, ev, rv⟩ := one_B r
    clear r
    subst ev
    have r := rv
    obtain ⟨is, e, h⟩ := h.get
    obtain ⟨i, e2, h⟩ := h.get
    obtain ⟨p, rfl, hp⟩ := lst_ints f e r
    refine .inl ⟨p, is, rfl, hp, ?_, fun m h1 h2 => ?_⟩
    · cases is with
      | nil => cases e2
      | cons _ _ => simp
    · rw [max_same h1 h2 e2]
      exact h.here f _ (by simp [RepV, Rep])
  · obtain ⟨v, u, rfl, r1, r2⟩ := two_B r
    rw [B_int r1, B_int r2]
    exact .inr ⟨_, _, rfl, h.here f _ (by simp [RepV, Rep])⟩
  · exact h.elim
theorem bAbs_ok : BltOk K bAbs (fun xs H Q => ∃ i, xs = [.int i] ∧ Q (.int (if i < 0 then -i else i)) H) := by
  intro W σ w0 w c xs vs Q f g r h
  unfold bAbs at h
  split at h
  · obtain ⟨v, ev, rv⟩ := one_B r
    clear r
    subst ev
    have r := rv
    rw [B_int r]
    exact ⟨_, rfl, h.here f _ (by simp [RepV, Rep])⟩
  · exact h.elim
theorem call_reprD (hg : X.A.guards = some []) (hu : X.A.units + 64 < cLine) : CallR X (.builtin "repr") (fun xs H Q => ∃ v d, xs = [v] ∧ Dp X.K H v d ∧ reprOk d = true ∧ Q (.str d.shown) H) := by
  intro pins s σ H xs us Q I r h
  obtain ⟨v, d, rfl, dp, ok, q⟩ := h
  unfold reprOk at ok
  simp only [Bool.and_eq_true, Bool.not_eq_true', decide_eq_true_eq] at ok
  obtain ⟨⟨⟨⟨h1, h2⟩, h3⟩, h4⟩, h5⟩ := ok
  cases r with
  | cons ru rr =>
    cases rr
    obtain ⟨as, rd⟩ := dp.reads I d v _ ru
    obtain ⟨a, rfl⟩ := isRef_of_reads rd h1
    exact repr_of_reads' rd h2 (PyData.noDict_hsm h3) hg (by omega) (fun _ _ e => e) (fun h' u tk hk => ⟨.str _, H, I.kept hk, ⟨_, rfl⟩, q⟩) h5
theorem bRepr_ok : BltOk K bRepr (fun xs H Q => ∃ v d, xs = [v] ∧ Dp K H v d ∧ reprOk d = true ∧ Q (.str d.shown) H) := by
  intro W σ w0 w c xs vs Q f g r h
  match xs, r, h with
  | [x], r, h =>
    obtain ⟨v, ev, rv⟩ := one_B r
    clear r
    subst ev
    unfold bRepr at h
    dsimp only at h
    cases e : toPy x with
    | none => rw [e] at h; exact h.elim
    | some d =>
      rw [e] at h
      dsimp only at h
      by_cases ok : reprOk d = true
      · rw [if_pos ok] at h
        exact ⟨v, d, rfl, dpB_of f e rv, ok, h.here f _ (by simp [RepV, Rep])⟩
      · rw [if_neg ok] at h; exact h.elim
  | [], _, h => exact h.elim
  | _ :: _ :: _, _, h => exact h.elim
end
end DL

set_option maxHeartbeats 4000000
/-! DL5: what is asked of a context; names, calls, attributes. -/
namespace DL
open PySem PySem.Spec PyProof.Rows L2

/-! ### promises -/
/-- a def that means φ -/
def spD (K : PySem.W.Frag) (φ : List D → DM RV) : Sp := fun vs H Q E => ∃ xs c w, w.H = H ∧ Wf c w ∧ Reps K w.d w.G xs vs ∧
  XO K (fun cls d _ H => E cls d H) [] w (φ xs c) fun r _ w' => ∀ v, RepV K w w' r v → Q v w'.H
/-- an __init__ that makes what φ tells -/
def spI (K : PySem.W.Frag) (C : Addr) (φ : List D → DM RV) : Sp := fun vs H Q E => ∃ xs c w x dx us, vs = .ref x :: us ∧ w.H x = none ∧ w.H dx = none ∧ dx ≠ x ∧ H = upd (upd w.H dx (.own x)) x (.ins C dx []) ∧ Wf c w ∧ Reps K w.d w.G xs us ∧
  XO K (fun cls d _ H => E cls d H) [] w (φ xs c) fun r _ w' => RepV K w w' r (.ref x) → Q .non w'.H
inductive FnX (X : Cx) (φ : List D → DM RV) (x : Str) : Prop
  | fn {k : Nat} {f : Addr} {fd : FuncData} {ps : List Str} (F : FnOk X.prog X.w X.K X.mg X.base (L2.CX X.prog X.w) k f fd ps (spD X.K φ)) (hr : Room k X.A) (hm : X.mg x = some (.ref f)) (hk : PySem.W.keepIn X.K (.ref f) = true)
      (hb : L2.Binds X.K fd ps []) (db : (x == ("__debug__" : Str)) = false)
  | cl {k : Nat} {C f : Addr} {fd : FuncData} {ps : List Str} (M : Mk X.K C f) (F : FnOk X.prog X.w X.K X.mg X.base (L2.CX X.prog X.w) k f fd ps (spI X.K C φ)) (hr : Room (k + 1) X.A) (hm : X.mg x = some (.ref C))
      (hb : L2.Binds X.K fd ps []) (db : (x == ("__debug__" : Str)) = false)
def tyNames : List String := ["NoneType", "bool", "int", "str", "list", "tuple"]
/-- what isinstance leans on, of an own class -/
structure InsOk (K : PySem.W.Frag) (C : Addr) : Prop where
  cl : Cls K C
  ha : PySem.W.findIn K (.ref C) "__class__" = some (some (.builtin "object.__class__"))
  hn : PySem.W.specialIn K (.builtin "object.__class__") "__get__" = some (some (.builtin "getset_descriptor.__get__"))
  htk : PySem.W.takesIn K (.builtin "object.__class__") = some true
  hm : PySem.W.mroIn K C (.type "object") = some true
  ty : ∀ t ∈ tyNames, PySem.W.kitOne K (.ref C) (.type t) = some false
structure PrX (X : Cx) (φ : List D → DM RV) (c f : Str) : Prop where
  cl : Cls X.K (He.ga X.K c)
  ex : ∃ (k : Nat) (p g : Addr) (fd : FuncData), PropOf X.K (He.ga X.K c) f p g ∧ FnOk X.prog X.w X.K X.mg X.base (L2.CX X.prog X.w) k g fd ["self"] (spD X.K φ) ∧ Room (k + 1) X.A ∧ L2.Binds X.K fd ["self"] []
structure MtX (X : Cx) (φ : List D → DM RV) (c m : Str) : Prop where
  cl : Cls X.K (He.ga X.K c)
  ex : ∃ (k : Nat) (f : Addr) (fd : FuncData) (ps : List Str), Meth X.K (He.ga X.K c) m f ∧ FnOk X.prog X.w X.K X.mg X.base (L2.CX X.prog X.w) k f fd ps (spD X.K φ) ∧ Room k X.A ∧ L2.Binds X.K fd ps []
/-- the context is as the text's names say -/
structure Ck (X : Cx) (C : Cn) (W : WX) : Prop where
  N : X.N = C.N
  nd : C.N.Nodup
  sc : X.env.scope = C.sc
  calm : X.calm = true
  tk : Takes X W
  hu : X.A.units + 64 < cLine
  nm : ∀ x ∈ C.N, (x == ("__debug__" : Str)) = false ∧ (x == ("__classdict__" : Str)) = false
  ki : ∀ x i, C.ki x = some i → (∃ t, X.mg x = some (.int i t)) ∧ (x == ("__debug__" : Str)) = false
  free : ∀ x, bltB x = true → X.mg x = none
  fn : ∀ x, C.kn x = true → FnX X (C.Φ x) x
  fl : ∀ c f, C.isFld c f = true → Cls X.K (He.ga X.K c) ∧ NoAttr X.K (He.ga X.K c) f
  pr : ∀ c f, C.isProp c f = true → PrX X (C.Me c f) c f
  mt : ∀ c m, C.isMt c m = true → MtX X (C.Mt c m) c m
  ca : ∀ c f y, C.ca c f = some y → Cls X.K (He.ga X.K c) ∧ ∃ v u, Con X.K (He.ga X.K c) f v u ∧ flat? y = some v
  gd : C.rp = true → X.A.guards = some []
  clf : ∀ x, C.clc x = true → X.fn x = true
  isT : ∀ c x b, C.isi c x = some b → (x == ("__debug__" : Str)) = false ∧ (∃ a, X.mg x = some (.ref a) ∧ PySem.W.kitOne X.K (.ref (He.ga X.K c)) (.ref a) = some b ∧ ∀ t ∈ tyNames, PySem.W.kitOne X.K (.type t) (.ref a) = some false) ∧ InsOk X.K (He.ga X.K c)

theorem stB_ok {X : Cx} {C : Cn} {x : Str} (hs : X.env.scope = C.sc) (hc : ∀ x, C.clc x = true → X.fn x = true) (h : stB C x = true) : L2.Loc X.env.scope x ∧ (X.fn x = true ∨ X.env.scope.names.lookup x = some .local) := by
  unfold stB at h
  rw [hs]
  split at h
  · rename_i e; exact ⟨.inl e, .inr e⟩
  · rename_i e; exact ⟨.inr e, .inl (hc x h)⟩
  · cases h
theorem XO.ne {α : Type} {K : PySem.W.Frag} {W : WX} {σ : St} {w : HS} {r : Rs α} {post : α → Option (List Int) → HS → Prop} (h : XO K W σ w r post) : r ≠ .wrong := fun e => by subst e; exact h
theorem XO.bne {α β : Type} {K : PySem.W.Frag} {W : WX} {σ : St} {w : HS} {m : DM α} {c : Option (List Int)} {post : α → Option (List Int) → HS → Prop} (h : XO K W σ w (m c) post) : m c ≠ .wrong := h.ne
theorem XO.call {α : Type} {K : PySem.W.Frag} {W : WX} {W' : WX} {σ σ' : St} {w : HS} {r : Rs α} {post : α → Option (List Int) → HS → Prop} (h : XO K W σ w r post) (f : ∀ cls d H, W cls d σ H → W' cls d σ' H) : XO K W' σ' w r post := by
  cases r with
  | wrong => exact h.elim
  | err e c => exact fun cls d w' g f' r => f _ _ _ (h cls d w' g f' r)
  | ok a c => exact h
theorem XO.noErr {α : Type} {K : PySem.W.Frag} {W W' : WX} {σ σ' : St} {w : HS} {m : DM α} {c : Option (List Int)} {post : α → Option (List Int) → HS → Prop} (h : XO K W σ w (noErr m c) post) : XO K W' σ' w (m c) post := by
  unfold DL.noErr at h
  cases e : m c with
  | wrong => rw [e] at h; exact h.elim
  | err x c => rw [e] at h; exact h.elim
  | ok a c => rw [e] at h; exact h

section
variable {X : Cx} {C : Cn} {W : WX} {E : EnvD} {p pos : Pos}
theorem pe_wrong {e : Expr} {K : PySem.W.Frag} {β : Type} {rep : HS → HS → RV → V → Prop} : PE X e (tG K W E dwrong rep) := ⟨fun pins s σ H Q I h => by obtain ⟨B, c, w, _, _, x⟩ := h; exact x.elim⟩
theorem tG_mono {K : PySem.W.Frag} {α β : Type} {m : DM α} {rep rep' : HS → HS → α → β → Prop} (f : ∀ w w' a b, rep' w w' a b → rep w w' a b) (σ : St) (H : Hp) (Q : β → Hp → Prop) (h : tG K W E m rep σ H Q) : tG K W E m rep' σ H Q := by
  obtain ⟨B, c, w, e, S, x⟩ := h
  exact ⟨B, c, w, e, S, x.mono fun a c w' _ _ k b r => k b (f _ _ _ _ r)⟩

/-! ### names -/
theorem ixS_ok {N : List Str} {x : Str} {i : Nat} (h : ixS N x = some i) : N[i]? = some x := by
  unfold ixS at h
  rw [List.findIdx?_eq_some_iff_getElem] at h
  obtain ⟨hl, e, _⟩ := h
  rw [List.getElem?_eq_getElem hl]
  simpa using e
theorem visB_ok {sc : Scope} {x : Str} (h : visB sc x = true) : Vis sc x := by
  unfold visB at h
  unfold Vis
  split at h <;> first | (rename_i e; rw [e]; simp) | cases h
theorem locB_ok {sc : Scope} {x : Str} (h : locB sc x = true) : sc.names.lookup x = some .local := by
  unfold locB at h
  split at h
  · assumption
  · cases h
theorem stB_of {C : Cn} {x : Str} (h : locB C.sc x = true) : stB C x = true := by
  unfold stB; rw [locB_ok h]
theorem glB_ok {sc : Scope} {x : Str} (h : glB sc x = true) : sc.names.lookup x = some .globalImplicit := by
  unfold glB at h
  split at h
  · assumption
  · cases h
theorem Ck.gl (k : Ck X C W) {x : Str} (h : glB C.sc x = true) : Gl X x := by
  show X.env.scope.names.lookup x = _
  rw [k.sc]
  exact glB_ok h
theorem name_ok (k : Ck X C W) (x : Str) : PE X (.Name x p) (tV X.K W E (nameD C E x)) := by
  unfold nameD
  by_cases hv : visB C.sc x = true
  · rw [if_pos hv]
    cases hi : ixS C.N x with
    | none => exact pe_wrong (β := V)
    | some i =>
      have hN := ixS_ok hi
      have nm := k.nm x (List.mem_of_getElem? hN)
      refine pe_imp (pe_var (i := i) (by rw [k.N]; exact hN) (by rw [k.sc]; exact visB_ok hv) nm.1 nm.2) fun σ H Q h => ?_
      obtain ⟨B, c, w, rfl, S, x⟩ := h
      dsimp only at x
      cases he : E[i]? with
      | none => rw [he] at x; exact x.elim
      | some o =>
        have so := S.sl i o he
        rw [he] at x
        cases o with
        | none => exact x.elim
        | some dv => cases dv with
          | fz v =>
            obtain ⟨u, e, r⟩ := so
            exact ⟨u, e, x.here S.wf _ r⟩
          | own xs =>
            obtain ⟨p, vs, e, h1, h2, h3, h4⟩ := so
            exact ⟨.ref p, e, x.here S.wf _ ⟨p, vs, rfl, h1, h2, h4⟩⟩
          | ins cn ns vs => exact x.elim
          | dic kvs => exact x.elim
  · rw [if_neg hv]
    by_cases hg : glB C.sc x = true
    · rw [if_pos hg]
      cases hk : C.ki x with
      | none => exact pe_wrong (β := V)
      | some i =>
        obtain ⟨⟨t, hm⟩, db⟩ := k.ki x i hk
        refine pe_imp (pe_glob (v := .int i) (k.gl hg) hm ⟨t, rfl⟩ db) fun σ H Q h => ?_
        obtain ⟨B, c, w, rfl, S, x⟩ := h
        exact x.here S.wf _ (by simp [RepV, Rep])
    · rw [if_neg hg]
      exact pe_wrong (β := V)

/-! ### stars -/
theorem star_cons {e : Expr} (h : starB e = false) (es : List Expr) (env : Env) : starEach (e :: es) env = (false, eval e env) :: starEach es env := by
  cases e <;> first | rfl | simp [starB] at h
theorem star_any : ∀ {es : List Expr} (h : es.any starB = false) (pos : Pos) (env : Env), (backTo pos (starEach es env)).any (·.1) = false
  | [], _, _, _ => rfl
  | e :: es, h, pos, env => by
    rw [List.any_cons, Bool.or_eq_false_iff] at h
    rw [star_cons h.1]
    show (false || (backTo pos (starEach es env)).any (·.1)) = false
    rw [Bool.false_or]
    exact star_any h.2 pos env
theorem pa_list {K : PySem.W.Frag} {f : Expr → DM D} {rep : HS → D → V → Prop} (hm : ∀ {w w' x v}, Gr w w' → rep w x v → rep w' x v) :
    ∀ {es : List Expr} (h : es.any starB = false) (ha : ∀ e ∈ es, PE X e (tG K W E (f e) (fun _ w x v => rep w x v))), PA X es (tG K W E (dlist f es) (fun _ w xs vs => Paired (fun x v => rep w x v) xs vs))
  | [], h, ha => pa_imp pa_nil fun σ H Q h => by
    obtain ⟨B, c, w, rfl, S, x⟩ := h
    exact x.here S.wf _ .nil
  | e :: es, h, ha => by
    rw [List.any_cons, Bool.or_eq_false_iff] at h
    refine pa_imp (pa_cons (ha e List.mem_cons_self) (pa_list (K := K) (f := f) (rep := rep) hm h.2 fun e' he => ha e' (List.mem_cons_of_mem _ he)) (star_cons h.1 _ _)) fun σ H Q hh => ?_
    obtain ⟨B, c, w, rfl, S, x⟩ := hh
    refine ⟨B, c, w, rfl, S, x.bind.mono fun a c1 w1 g1 f1 x1 v r1 => ?_⟩
    refine ⟨B, c1, w1, rfl, S.grow g1 f1, x1.bind.mono fun bs c2 w2 g2 f2 x2 vs r2 => ?_⟩
    exact x2.here f2 _ (.cons (hm g2 r1) r2)
theorem reps_paired {K : PySem.W.Frag} {d : Option Addr} {G : Hp} : ∀ {xs : List D} {vs : List V}, Reps K d G xs vs ↔ Paired (fun x v => Rep K d G x v) xs vs
  | [], vs => by
    simp only [Reps]
    exact ⟨fun h => by subst h; exact .nil, fun h => by cases h; rfl⟩
  | x :: xs, vs => by
    simp only [Reps]
    constructor
    · rintro ⟨v, ws, rfl, r, q⟩
      exact .cons r (reps_paired.mp q)
    · intro h
      cases h with
      | cons r q => exact ⟨_, _, rfl, r, reps_paired.mpr q⟩
theorem repBs_paired {K : PySem.W.Frag} {w : HS} : ∀ {xs : List D} {vs : List V}, Paired (fun x v => RepB K w x v) xs vs → RepBs K w xs vs
  | [], vs, h => by cases h; rfl
  | x :: xs, vs, h => by
    cases h with
    | cons r q => exact ⟨_, _, rfl, r, repBs_paired q⟩

/-! ### calls -/
section
variable {CX : CXT} {k : Nat} {f Cc : Addr} {fd : FuncData} {ps : List Str} {sp : Sp} {Ex : St → XK} {x : Str} {e : Expr} {es : List Expr} {t : TA}
theorem run_makeS {pins : List (Addr × Obj)} {σ : St} {H : Hp} {s : Shared} {Q : VK} {us : List Value} {vs : List V} (M : Mk X.K Cc f) (F : FnOk X.prog X.w X.K X.mg X.base CX k f fd ps sp) (hr : Room (k + 1) X.A) (hb : L2.Binds X.K fd ps [])
    (hx : PassesAt CX X σ (Ex σ)) (I : Inv X pins σ H s) (r : Vals vs us)
    (h : ∀ x dx, H x = none → H dx = none → dx ≠ x → sp (.ref x :: vs) (upd (upd H dx (.own x)) x (.ins Cc dx [])) (fun v H2 => v = .non ∧ Q (.ref x) H2) (Ex σ)) :
    wpAny (model X.prog X.w) X.A (call (.ref Cc) us) (EP X pins σ Q) X.xe s := by
  have hq := h (s.heap.objs.size + 1) s.heap.objs.size (I.hok.fresh (Nat.le_succ _)) (I.hok.fresh (Nat.le_refl _)) (Nat.ne_of_lt (Nat.lt_succ_self _))
  have I2 := Inv.made (C := Cc) I
  have r2 : Vals (V.ref (s.heap.objs.size + 1) :: vs) (Value.ref (s.heap.objs.size + 1) :: us) := .cons rfl r
  have hl : (Value.ref (s.heap.objs.size + 1) :: us ++ []).length = ps.length := by
    have e := r2.length
    rw [F.len _ _ _ _ hq] at e
    rw [List.append_nil]
    exact e.symm
  have b := hb _ (Value.ref (s.heap.objs.size + 1) :: us) I2.kIn hl
  rw [List.append_nil] at b
  refine wpAny_call (make_map (f := f) I.kIn M.makes M.init (beq_iff_eq.mp M.fn) (codeAny_mono (F.run _ X.stack _ _ ⟨Value.ref (s.heap.objs.size + 1) :: us, []⟩ (Value.ref (s.heap.objs.size + 1) :: us) _ _ (Ex σ) (hr.make Cc us [])
    (I2.env0.make Cc us []) b r2 hq) fun r s' hq' => ?_))
  cases r with
  | error e => exact hx pins _ _ e s' I2 hq'
  | ok fl =>
    cases fl with
    | ret u =>
      obtain ⟨v, H', I3, rv, ev, q3⟩ := I2.after hq'
      subst ev
      exact ⟨rv, ⟨V.ref (s.heap.objs.size + 1), H', I3, rfl, q3⟩⟩
    | next => exact False.elim hq'
    | brk => exact False.elim hq'
    | cont => exact False.elim hq'
def tMakeS (Cc : Addr) (sp : Sp) (Ex : St → XK) (t : TA) : TE := fun σ H Q => t σ H fun vs H1 => ∀ x dx, H1 x = none → H1 dx = none → dx ≠ x →
  sp (.ref x :: vs) (upd (upd H1 dx (.own x)) x (.ins Cc dx [])) (fun v H2 => v = .non ∧ Q (.ref x) H2) (Ex σ)
theorem pe_makeS (M : Mk X.K Cc f) (F : FnOk X.prog X.w X.K X.mg X.base CX k f fd ps sp) (hr : Room (k + 1) X.A) (hg : Gl X x) (hm : X.mg x = some (.ref Cc)) (hb : L2.Binds X.K fd ps []) (hx : ∀ σ, PassesAt CX X σ (Ex σ))
    (ha : PA X (e :: es) t) (hdb : (x == ("__debug__" : Str)) = false) (he : starEach (e :: es) X.env = (false, eval e X.env) :: starEach es X.env) (hpl : (backTo pos (starEach es X.env)).any (·.1) = false) :
    PE X (.Call (.Name x p) (e :: es) [] pos) (tMakeS Cc sp Ex t) := by
  refine ⟨fun pins s σ H Q I h => ?_⟩
  refine wpAny_Call_Name_kw (ld_glob I hg hm ?_ hdb)
  refine PySem.W.callWith_K (h₀ := X.base) I.ok.mod.kin M.kp (thn (ha.run pos pins s σ H _ I h) fun us s1 ⟨vs, H1, I1, r, q⟩ => ⟨I1.kIn, ?_⟩) he hpl
  exact run_makeS M F hr hb (hx σ) I1 r q
end
theorem own_call (tk : Takes X W) {φ : List D → DM RV} {x : Str} (F : FnX X φ x) (hg : Gl X x) {e : Expr} {es : List Expr} {m : DM (List D)} (ha : PA X (e :: es) (tAk X.K W E m)) (hs : (e :: es).any starB = false) :
    PE X (.Call (.Name x p) (e :: es) [] pos) (tV X.K W E (dbind m φ)) := by
  have hs' := hs
  rw [List.any_cons, Bool.or_eq_false_iff] at hs'
  cases F with
  | fn F hr hm hk hb db =>
    refine pe_imp (pe_callS F hr hg hm hk hb (fun σ => passAt tk σ) ha db (star_cons hs'.1 _ _) (star_any hs'.2 _ _)) fun σ H Q h => ?_
    obtain ⟨B, c, w, rfl, S, x⟩ := h
    refine ⟨B, c, w, rfl, S, x.bind.mono fun xs c1 w1 g1 f1 x1 vs r1 => ?_⟩
    exact ⟨xs, c1, w1, rfl, f1, r1, (x1.call (W' := fun cls d _ H => WE W σ cls d H) (σ' := []) fun _ _ _ h => h).mono fun a c2 w2 g2 f2 k v r => k v (r.back g1)⟩
  | cl M F hr hm hb db =>
    refine pe_imp (pe_makeS (Ex := WE W) M F hr hg hm hb (fun σ => passAt tk σ) ha db (star_cons hs'.1 _ _) (star_any hs'.2 _ _)) fun σ H Q h => ?_
    obtain ⟨B, c, w, rfl, S, x⟩ := h
    refine ⟨B, c, w, rfl, S, x.bind.mono fun xs c1 w1 g1 f1 x1 vs r1 => ?_⟩
    intro y dy hy hdy hne
    exact ⟨xs, c1, w1, y, dy, vs, rfl, hy, hdy, hne, rfl, f1, r1, (x1.call (W' := fun cls d _ H => WE W σ cls d H) (σ' := []) fun _ _ _ h => h).mono fun a c2 w2 g2 f2 k r => ⟨rfl, k _ (r.back g1)⟩⟩

/-! ### built-ins -/
theorem blt_call (k : Ck X C W) {f : Str} {id : String} {b : List D → DM RV} {r : List V → Hp → VK → Prop} (hf : bltB f = true) (hc : CallR X (.builtin id) r) (hv : bootBuiltins f = some (.builtin id)) (hb : BltOk X.K b r) (hg : glB C.sc f = true)
    (hn : f ≠ "__name__") (hd : (f == ("__debug__" : Str)) = false) {e : Expr} {es : List Expr} {m : DM (List D)} (ha : PA X (e :: es) (tAb X.K W E m)) (hs : (e :: es).any starB = false) :
    PE X (.Call (.Name f p) (e :: es) [] pos) (tV X.K W E (dbind m b)) := by
  have hs' := hs
  rw [List.any_cons, Bool.or_eq_false_iff] at hs'
  refine pe_imp (pe_callB hc (k.gl hg) (k.free f hf) hv ha hn hd (star_cons hs'.1 _ _) (star_any hs'.2 _ _)) fun σ H Q h => ?_
  obtain ⟨B, c, w, rfl, S, x⟩ := h
  exact ⟨B, c, w, rfl, S, x.bind.mono fun xs c1 w1 g1 f1 x1 vs r1 => hb W σ w w1 c1 xs vs Q f1 g1 r1 x1⟩
theorem blt_callTy (k : Ck X C W) {f : Str} {id : String} {b : List D → DM RV} {r : List V → Hp → VK → Prop} (hf : bltB f = true) (hc : CallR X (.type id) r) (hv : bootBuiltins f = some (.type id)) (hb : BltOk X.K b r) (hg : glB C.sc f = true)
    (hn : f ≠ "__name__") (hd : (f == ("__debug__" : Str)) = false) {e : Expr} {es : List Expr} {m : DM (List D)} (ha : PA X (e :: es) (tAb X.K W E m)) (hs : (e :: es).any starB = false) :
    PE X (.Call (.Name f p) (e :: es) [] pos) (tV X.K W E (dbind m b)) := by
  have hs' := hs
  rw [List.any_cons, Bool.or_eq_false_iff] at hs'
  refine pe_imp (pe_callTy hc (k.gl hg) (k.free f hf) hv ha hn hd (star_cons hs'.1 _ _) (star_any hs'.2 _ _)) fun σ H Q h => ?_
  obtain ⟨B, c, w, rfl, S, x⟩ := h
  exact ⟨B, c, w, rfl, S, x.bind.mono fun xs c1 w1 g1 f1 x1 vs r1 => hb W σ w w1 c1 xs vs Q f1 g1 r1 x1⟩
theorem blt_ok (k : Ck X C W) {f : Str} (hf : bltB f = true) (hk : bltKn f = true) (hg : glB C.sc f = true) {e : Expr} {es : List Expr} {m : DM (List D)} (ha : PA X (e :: es) (tAb X.K W E m)) (hs : (e :: es).any starB = false) :
    PE X (.Call (.Name f p) (e :: es) [] pos) (tV X.K W E (dbind m (bltD f))) := by
  have hc := k.calm
  by_cases h1 : f = "len"
  · subst h1; exact blt_call (b := bLen) k hf call_len_seq (by decide +kernel) bLen_ok hg (by decide) (by decide) ha hs
  by_cases h2 : f = "int"
  · subst h2; exact blt_callTy (b := bInt) k hf call_int1 (by decide +kernel) bInt_ok hg (by decide) (by decide) ha hs
  by_cases h3 : f = "list"
  · subst h3; exact blt_callTy (b := bList) k hf call_list_of (by decide +kernel) bList_ok hg (by decide) (by decide) ha hs
  by_cases h4 : f = "tuple"
  · subst h4; exact blt_callTy (b := bTuple) k hf call_tuple_of (by decide +kernel) bTuple_ok hg (by decide) (by decide) ha hs
  by_cases h5 : f = "sorted"
  · subst h5; exact blt_call (b := bSorted) k hf (cr_sortedI.or cr_sortedT) (by decide +kernel) bSorted_ok hg (by decide) (by decide) ha hs
  by_cases h6 : f = "sum"
  · subst h6; exact blt_call (b := bSum) k hf (cr_sum hc) (by decide +kernel) bSum_ok hg (by decide) (by decide) ha hs
  by_cases h7 : f = "all"
  · subst h7; exact blt_call (b := bAll) k hf (cr_all hc) (by decide +kernel) bAll_ok hg (by decide) (by decide) ha hs
  by_cases h8 : f = "any"
  · subst h8; exact blt_call (b := bAny) k hf (cr_any hc) (by decide +kernel) bAny_ok hg (by decide) (by decide) ha hs
  by_cases h9 : f = "min"
  · subst h9; exact blt_call (b := bMin) k hf ((cr_min hc).or (call_min2 hc)) (by decide +kernel) bMin_ok hg (by decide) (by decide) ha hs
  by_cases h10 : f = "max"
  · subst h10; exact blt_call (b := bMax) k hf ((cr_max hc).or (call_max2 hc)) (by decide +kernel) bMax_ok hg (by decide) (by decide) ha hs
  by_cases h11 : f = "abs"
  · subst h11; exact blt_call (b := bAbs) k hf call_abs (by decide +kernel) bAbs_ok hg (by decide) (by decide) ha hs
  exfalso
  simp only [bltKn, decide_eq_false h1, decide_eq_false h2, decide_eq_false h3, decide_eq_false h4, decide_eq_false h5, decide_eq_false h6, decide_eq_false h7, decide_eq_false h8, decide_eq_false h9, decide_eq_false h10, decide_eq_false h11] at hk
  cases hk
end
end DL

set_option maxHeartbeats 4000000
/-! DL6: enumerate over a tuple; what is walked; attributes; isinstance. -/
namespace PySem
open Sem (wp)
open AutoSeq1 (wpAny_loadPart')
theorem dl_meets_enumT (l : Addr) (items : Array Value) (n : Nat) (dct : Option Addr) (sl : Array (Option Value)) :
    Meets (Builtin.«enumerate.__new__» ⟨[.type "enumerate", .ref l], []⟩) (fun _ R s => s.heap.get? l = some { cls := .type "tuple", dict := dct, data := .seq items n, slots := sl } ∧
      R (.ok (.ret (.ref (s.heap.push { cls := .type "tuple_iterator", data := .fields #[.ref l, .int 0 0] }).objs.size)))
        { s with heap := (s.heap.push { cls := .type "tuple_iterator", data := .fields #[.ref l, .int 0 0] }).push { cls := .type "enumerate", data := .fields #[.none, .bool false, .ref s.heap.objs.size, rawInt 0, .none, .none] } }) :=
  .of_wp fun prog w A R s h => by
    obtain ⟨hp, g, d, tk, os⟩ := s; obtain ⟨hl, h⟩ := h
    have hsub := sub_enumerate
    have hL : Heap.IsTuple (Shared.heap ⟨hp, g, d, tk, os⟩) l items := ⟨_, hl, rfl, n, rfl⟩
    wp_walk using wpAny_loadPart' hl
    refine wpAny_stack_any fun st => wpAny_pure ?_
    split
    · rename_i c _ _ _ _ _
      cases (c == Value.type "enumerate")
      · wp_walk using wpAny_loadPart' hl, wpAny_pyIter_tuple hL
        exact ⟨_, rfl, h⟩
      · wp_walk using wpAny_loadPart' hl, wpAny_pyIter_tuple hL
        exact ⟨_, rfl, h⟩
    · wp_walk using wpAny_loadPart' hl, wpAny_pyIter_tuple hL
      exact ⟨_, rfl, h⟩
section
variable {prog : Program} {w : World} {A : Around} {E : Value → Shared → Prop} {s : Shared}
theorem dl_call_enumT {l : Addr} {items : Array Value} {Q : Value → Shared → Prop} (hL : s.heap.IsTuple l items)
    (h : ∀ h', IsEnum h' (s.heap.objs.size + 1) s.heap.objs.size 0 .none → h'.IsTupleIter s.heap.objs.size l 0 → h'.objs.size = s.heap.objs.size + 2 →
      (∀ b o, s.heap.get? b = some o → h'.get? b = some o) → Q (.ref (s.heap.objs.size + 1)) { s with heap := h' }) :
    wpAny (model prog w) A (call (.type "enumerate") [.ref l]) Q E s := by
  obtain ⟨⟨c, dct, dt, sl⟩, hl, hc, n, hd⟩ := hL
  replace hc : c = .type "tuple" := hc
  replace hd : dt = .seq items n := hd
  subst hc hd
  refine callType_new F.called_enumerate (by decide) (F.typeCall_enumerate_1 _) (F.newCall_enumerate_1 _) (fun obj => F.args_object_init_2 obj _) F.entry_enumerate_new
    (dl_meets_enumT l items n dct sl) ⟨hl, ?_⟩
  have hz : (s.heap.push { cls := .type "tuple_iterator", data := .fields #[.ref l, .int 0 0] }).objs.size = s.heap.objs.size + 1 := Heap.size_push ..
  show _ ∧ _
  rw [hz]
  have he : IsEnum ((s.heap.push { cls := .type "tuple_iterator", data := .fields #[.ref l, .int 0 0] }).push
      { cls := .type "enumerate", data := .fields #[.none, .bool false, .ref s.heap.objs.size, rawInt 0, .none, .none] }) (s.heap.objs.size + 1) s.heap.objs.size 0 .none := by
    have := Heap.get?_push_size (s.heap.push { cls := .type "tuple_iterator", data := .fields #[.ref l, .int 0 0] })
      (o := { cls := .type "enumerate", data := .fields #[.none, .bool false, .ref s.heap.objs.size, rawInt 0, .none, .none] }) rfl
    rw [hz] at this; exact this
  refine ⟨⟨_, he, rfl⟩, h _ he ⟨_, Heap.get?_push_of_some _ (Heap.get?_push_size _ rfl), rfl, rfl⟩ (by rw [Heap.size_push, hz]) fun b o x => Heap.get?_push_of_some _ (Heap.get?_push_of_some _ x)⟩
end
end PySem

namespace DL
open PySem PySem.Spec PyProof.Rows L2
/-- the tuple at a, numbered -/
def IteT (K : PySem.W.Frag) (a : Addr) : It :=
  ⟨fun i H => ∃ (xs : List V) (x : V), SqT K H a xs ∧ xs[i]? = some x, fun i H v H' => ∃ T x, v = .ref T ∧ H T = none ∧ H' = upd H T (.tup [.int (i : Nat), x]) ∧ ∀ xs, SqT K H a xs → xs[i]? = some x, fun i H => ∃ xs : List V, SqT K H a xs ∧ xs.length ≤ i⟩
theorem turn_enumT {P : Program} {w : World} {K : PySem.W.Frag} {elts : List Expr} {kk : Nat} {tpos : Pos} (a e it : Addr) :
    Turn P w K (.Tuple elts kk tpos) (IteT K a) [e, it] e (fun i h => (∃ old, IsEnum h e it ((i : Nat) : Int) old) ∧ h.IsTupleIter it a i ∧ e ≠ it) where
  mem := by simp
  obj := fun i h st b hb => by
    obtain ⟨⟨old, he⟩, ⟨o, ho, hc, hd⟩, _⟩ := st
    have e' : b = e ∨ b = it := by simpa using hb
    rcases e' with z | z
    · rw [z]; exact ⟨_, he, fun v q => nomatch q⟩
    · rw [z]; exact ⟨o, ho, fun v q => by rw [hd] at q; cases q⟩
  keep := fun i h h' st k => let ⟨⟨old, he⟩, hi, hne⟩ := st; ⟨⟨old, k e (by simp) _ he⟩, hi.at fun o q => k it (by simp) o q, hne⟩
  item := by
    intro X hP hw hK hc i pins s σ H E I hf st hg
    subst hP hw hK
    obtain ⟨⟨old, he⟩, hit, hne⟩ := st
    obtain ⟨xs, x, hq, hx⟩ := hg
    obtain ⟨its, rv, p, hz⟩ := I.tuple hq
    obtain ⟨u, hu, ru⟩ := rv.get hx
    have hel : e < s.heap.objs.size := Heap.lt_size he
    have hil : it < s.heap.objs.size := by obtain ⟨_, q, _⟩ := hit; exact Heap.lt_size q
    have pt : s.heap.IsTuple a its.toArray := p
    have hal : a ≠ it := by
      rintro rfl
      obtain ⟨o, q, c1, _⟩ := pt
      obtain ⟨o2, q2, c2, _⟩ := hit
      rw [q] at q2; cases q2
      rw [c1] at c2
      exact absurd (Value.type.inj c2) (by decide)
    have hae : a ≠ e := by
      rintro rfl
      obtain ⟨o, q, c1, _⟩ := pt
      have he' := he
      unfold IsEnum at he'
      rw [q] at he'; cases he'
      exact absurd (Value.type.inj c1) (by decide)
    have hh : X.A.in1.handled = none := I.ok.hd hc
    refine wpAny_pyNext_enum_itemD (Draws.tuple hh it a hal its.toArray) he ⟨hit, pt⟩ (by
      have := (List.getElem?_eq_some_iff.mp hu).1
      simpa using this) hne (by simp [Ne.symm hae, hne]) fun y h' tk hP ho hst' hT hsz hk => ?_
    have ey : y = u := by
      have : its.toArray[i]? = some u := by simpa using hu
      rw [hP] at this
      exact Option.some.inj this
    subst ey
    obtain ⟨hit', pt'⟩ := hst'
    refine ⟨_, rfl, wpAny_letOwnedTupleGo_enum (s := { s with heap := h', toks := tk + 1 }) ho fun h'' he' sb => ?_⟩
    have hT2 : h''.get? s.heap.objs.size = some { cls := .type "tuple", data := .seq #[.int i tk, y] } := (sb.2 _ (Nat.ne_of_gt hel)).trans hT
    have new : ObjOk X.prog X.w (upd H s.heap.objs.size (.tup [.int (i : Nat), x])) h'' s.heap.objs.size (.tup [.int (i : Nat), x]) :=
      ⟨by show 2 ≤ sizeLine; decide, [.int i tk, y], .cons ⟨_, rfl⟩ (.cons ru .nil), ⟨_, hT2, rfl, _, rfl⟩⟩
    have I1 : Inv X pins σ (upd H s.heap.objs.size (.tup [.int (i : Nat), x])) { s with heap := h'', toks := tk + 1 } :=
      I.turnedNew (ch := [e, it]) (fun b ob hb q => (sb.2 b (fun z => hb (by simp [z]))).trans (hk b ob (fun z => hb (by simp [z])) (fun z => hb (by simp [z])) q)) hf (Nat.le_refl _) new
    refine ⟨.ref s.heap.objs.size, _, I1, rfl, ⟨_, x, rfl, I.hok.fresh (Nat.le_refl _), rfl, fun ys hy => by rw [I.tuple_inj hy hq]; exact hx⟩, ⟨⟨y, ?_⟩, hit'.at fun o q => (sb.2 it (Ne.symm hne)).trans q, hne⟩, fun b hb => ?_⟩
    · have e1 : ((i + 1 : Nat) : Int) = (i : Int) + 1 := by omega
      rw [e1]; exact he'
    · have hb' : b < s.heap.objs.size := by
        have e' : b = e ∨ b = it := by simpa using hb
        rcases e' with z | z
        · rw [z]; exact hel
        · rw [z]; exact hil
      rw [upd_ne (Nat.ne_of_lt hb')]
      exact (hf b hb).1
  done := by
    intro X hP hw hK hc i pins s σ H E I hf st hg
    subst hP hw hK
    obtain ⟨⟨old, he⟩, hit, hne⟩ := st
    obtain ⟨xs, hq, hx⟩ := hg
    obtain ⟨its, rv, p, hz⟩ := I.tuple hq
    obtain ⟨f0, f1, f2, f3, f4, f5⟩ := hf it (by simp)
    have hl := rv.length
    have pt : s.heap.IsTuple a its.toArray := p
    have hh : X.A.in1.handled = none := I.ok.hd hc
    have hT : s.TypeIs (.ref e) "enumerate" := ⟨_, he, rfl⟩
    unfold pyNext
    refine wpAny_bind (wpAny_attempt (wpAny_callSpecial?_slot (name := Str.ofString "__next__") hT PySem.F.slot_enumerate_next
      (wpAny_call_entry PySem.F.slot_enumerate_next hT PySem.F.entry_enumerate_next ?_ (PySem.F.args_enumerate_next_1 _))))
    show wpAny _ _ (field (.ref e) 2 >>= _) _ _ _
    refine wpAny_bind (wpAny_field he rfl (x := .ref it) rfl ?_)
    refine wpAny_bind (wpAny_nextOf_tuple_end hh hit pt (by simp; omega) fun h' x he' hx' => ?_)
    obtain ⟨o, ho, hc'⟩ := hx'
    refine wpAny_bind (wpAny_isInstance (T := "StopIteration") (b := true) ⟨o, ho, hc'⟩ isSubtype_stop ?_)
    exact wpAny_pure ⟨rfl, I.turned (t' := s.toks) (fun b o hb q => he' b o hb q) f0 f1 f3 f4 f5⟩
  self := fun A i s Q E st h => let ⟨⟨_, he⟩, _⟩ := st; wpAny_pyIter_enum he h
def iEnumA (K : PySem.W.Frag) (ta : TA) : TI := fun σ H R => ta σ H fun vs H1 => ∃ a xs, vs = [.ref a] ∧ ((SqL K H1 a xs ∧ R (Ite K a) H1) ∨ (SqT K H1 a xs ∧ R (IteT K a) H1))
theorem pi_enumA {X : Cx} {e : Expr} {ta : TA} {p pos tpos : Pos} {elts : List Expr} {kk : Nat} (hg : Gl X "enumerate") (hm : X.mg "enumerate" = none) (ha : PA X [e] ta) (hs : starEach [e] X.env = [(false, eval e X.env)]) :
    PI X (.Tuple elts kk tpos) (.Call (.Name "enumerate" p) [e] [] pos) (iEnumA X.K ta) := by
  refine ⟨fun pins s σ H R I h => ?_⟩
  refine Call_ (ld_blt I hg hm boot_enumerate (PyProof.Rows.callWith_type1 (thn (ha.run pos pins s σ H _ I h) fun us s1 ⟨vs, H1, I1, r1, q1⟩ => ?_) hs rfl))
  obtain ⟨a, xs, ex, q⟩ := q1
  subst ex
  cases r1 with
  | cons r rr =>
    cases rr
    cases r
    have fin : ∀ b ∈ [s1.heap.objs.size + 1, s1.heap.objs.size], FpOk X pins H1 b := fun b hb => by
      have e' : b = s1.heap.objs.size + 1 ∨ b = s1.heap.objs.size := by simpa using hb
      have hle : s1.heap.objs.size ≤ b := by
        rcases e' with z | z
        · rw [z]; exact Nat.le_add_right _ _
        · rw [z]; exact Nat.le_refl _
      exact I1.fpOk hle (I1.hok.fresh hle)
    rcases q with ⟨hq, q⟩ | ⟨hq, q⟩
    · obtain ⟨its, rv, p', hz⟩ := I1.list hq
      refine call_enumerate_list p'.isList fun h' he hit hsz hk => wpAny_pyIter_enum he ?_
      have I2 : Inv X pins σ H1 { s1 with heap := h' } := I1.kept (t' := s1.toks) hk
      exact ⟨s1.heap.objs.size + 1, [s1.heap.objs.size + 1, s1.heap.objs.size], _, _, H1, rfl, I2, turn_enum a (s1.heap.objs.size + 1) s1.heap.objs.size, ⟨⟨.none, he⟩, hit, Nat.succ_ne_self _⟩, fin, q⟩
    · obtain ⟨its, rv, p', hz⟩ := I1.tuple hq
      refine dl_call_enumT (show s1.heap.IsTuple a its.toArray from p') fun h' he hit hsz hk => wpAny_pyIter_enum he ?_
      have I2 : Inv X pins σ H1 { s1 with heap := h' } := I1.kept (t' := s1.toks) hk
      exact ⟨s1.heap.objs.size + 1, [s1.heap.objs.size + 1, s1.heap.objs.size], _, _, H1, rfl, I2, turn_enumT a (s1.heap.objs.size + 1) s1.heap.objs.size, ⟨⟨.none, he⟩, hit, Nat.succ_ne_self _⟩, fin, q⟩
/-- a list or a tuple, walked -/
def iSeq (K : PySem.W.Frag) (tl : TE) : TI := fun σ H R => tl σ H fun x H1 => ∃ a xs, x = .ref a ∧ ((SqL K H1 a xs ∧ R (Itl K a) H1) ∨ (SqT K H1 a xs ∧ R (Itt K a) H1))
theorem pi_seq {X : Cx} {tg l : Expr} {tl : TE} (hl : PE X l tl) : PI X tg l (iSeq X.K tl) := by
  refine ⟨fun pins s σ H R I h => ?_⟩
  refine thn (hl.run pins s σ H _ I h) fun v s1 ⟨x, H1, I1, r1, q1⟩ => ?_
  obtain ⟨a, xs, e, q⟩ := q1
  subst e
  cases r1
  have fin : ∀ b ∈ [s1.heap.objs.size], FpOk X pins H1 b := fun b hb => by
    have e : b = s1.heap.objs.size := by simpa using hb
    subst e
    exact I1.fpOk (Nat.le_refl _) (I1.hok.fresh (Nat.le_refl _))
  rcases q with ⟨hq, q⟩ | ⟨hq, q⟩
  · obtain ⟨its, rv, p, hz⟩ := I1.list hq
    refine wpAny_pyIter_list p.isList ?_
    exact ⟨s1.heap.objs.size, [s1.heap.objs.size], _, _, H1, rfl, I1.kept (t' := s1.toks) fun b o e => Heap.get?_push_of_some _ e, turn_list a _, ⟨_, Heap.get?_push_size _ rfl, rfl, rfl⟩, fin, q⟩
  · obtain ⟨its, rv, p, hz⟩ := I1.tuple hq
    refine wpAny_pyIter_tuple (show s1.heap.IsTuple a its.toArray from p) ?_
    exact ⟨s1.heap.objs.size, [s1.heap.objs.size], _, _, H1, rfl, I1.kept (t' := s1.toks) fun b o e => Heap.get?_push_of_some _ e, turn_tuple a _, ⟨_, Heap.get?_push_size _ rfl, rfl, rfl⟩, fin, q⟩
end DL

set_option maxHeartbeats 4000000
/-! DL7: attributes; isinstance; what is walked. -/
namespace DL
open PySem PySem.Spec PyProof.Rows L2
section
variable {X : Cx} {C : Cn} {W : WX} {E : EnvD} {p pos : Pos}
/-! ### attributes -/
theorem plain_base {a : Expr} (h : plainBase a = true) (f : Str) (env : Env) : attributeBase a f env (eval a env) = eval a env := by
  cases a with
  | Call fn args kws pos =>
    cases fn with
    | Name id q => cases args with
      | nil => cases kws with
        | nil => simp [plainBase] at h
        | cons _ _ => rfl
      | cons _ _ => rfl
    | _ => rfl
  | _ => rfl
theorem look_some {K : PySem.W.Frag} {d : Option Addr} {G : Hp} {f : Str} : ∀ {fs : List (Str × V)} {vs : List D} {y : D}, Reps K d G vs (fs.map (·.2)) → ((fs.map (·.1)).zip vs).lookup f = some y → ∃ v, fs.lookup f = some v ∧ Rep K d G y v
  | [], vs, y, r, h => by simp at h
  | (g, v) :: fs, vs, y, r, h => by
    cases vs with
    | nil => simp at h
    | cons x vs =>
      simp only [List.map_cons, Reps] at r
      obtain ⟨v', ws, e, r1, r2⟩ := r
      cases e
      simp only [List.map_cons, List.zip_cons_cons, List.lookup_cons] at h ⊢
      cases q : f == g with
      | true => rw [q] at h; exact ⟨v, rfl, by simpa using (Option.some.inj h) ▸ r1⟩
      | false => rw [q] at h; exact look_some r2 h
theorem look_none {K : PySem.W.Frag} {d : Option Addr} {G : Hp} {f : Str} : ∀ {fs : List (Str × V)} {vs : List D}, Reps K d G vs (fs.map (·.2)) → ((fs.map (·.1)).zip vs).lookup f = none → fs.lookup f = none
  | [], vs, r, h => rfl
  | (g, v) :: fs, vs, r, h => by
    cases vs with
    | nil => simp [Reps] at r
    | cons x vs =>
      simp only [List.map_cons, Reps] at r
      obtain ⟨v', ws, e, r1, r2⟩ := r
      cases e
      simp only [List.map_cons, List.zip_cons_cons, List.lookup_cons] at h ⊢
      cases q : f == g with
      | true => rw [q] at h; cases h
      | false => rw [q] at h; exact look_none r2 h
theorem attr_okD (k : Ck X C W) {e : Expr} {f : Str} {m : DM D} (hab : attributeBase e f X.env (eval e X.env) = eval e X.env) (he : PE X e (tBo X.K W E m)) : PE X (.Attribute e f pos) (tV X.K W E (dbind m fun v => fldD C v f)) := by
  refine ⟨fun pins s σ H Q I h => ?_⟩
  obtain ⟨B, c, w, rfl, S, x⟩ := h
  refine attr_of hab (thn (he.run pins s σ w.H (fun vv H1 => ∃ a c1 w1, w1.H = H1 ∧ Gr w w1 ∧ Wf c1 w1 ∧ RepB X.K w1 a vv ∧ XO X.K W σ w1 (fldD C a f c1) fun a _ w' => ∀ b, RepV X.K w w' a b → Q b w'.H) I
    ⟨B, c, w, rfl, S, x.bind.mono fun a c1 w1 g1 f1 x1 v r1 => ⟨a, c1, w1, rfl, g1, f1, r1, x1⟩⟩) fun u s1 hh => ?_)
  obtain ⟨vv, H1, I1, rx, a, c1, w1, rfl, g1, f1, ra, x1⟩ := hh
  cases a with
  | obj cn ns vs =>
    obtain ⟨o, dx, fs, rfl, ho, rfl, rf⟩ := B_obj f1 ra
    obtain rfl : u = Value.ref o := rx
    unfold fldD at x1
    dsimp only at x1
    cases hl : ((fs.map (·.1)).zip vs).lookup f with
    | some y =>
      rw [hl] at x1
      dsimp only at x1
      by_cases hf : C.isFld cn f = true
      · rw [if_pos hf] at x1
        obtain ⟨cl, na⟩ := k.fl cn f hf
        obtain ⟨v, lv, rv⟩ := look_some rf hl
        exact getattr_ok I1 ho cl na lv fun u' s2 I2 ru => ⟨v, _, I2, ru, x1.here f1 _ rv⟩
      · rw [if_neg hf] at x1
        exact x1.elim
    | none =>
      rw [hl] at x1
      dsimp only at x1
      by_cases hp : C.isProp cn f = true
      · rw [if_pos hp] at x1
        obtain ⟨cl, kk, pp, g, fd, hP, F, hr, hb⟩ := k.pr cn f hp
        refine getprop_ok (E := E0) (dvs := []) (ds := []) I1 ho cl hP F hr hb .nil passL ?_
        refine ⟨[.obj cn (fs.map (·.1)) vs], c1, w1, rfl, f1, Reps.one (R_obj ra), ?_⟩
        exact (x1.noErr (W' := fun cls d _ H => E0 cls d H) (σ' := [])).mono fun r c2 w2 g2 f2 kk v rv => kk v (rv.back g1)
      · rw [if_neg hp] at x1
        cases hc : C.ca cn f with
        | none => rw [hc] at x1; exact x1.elim
        | some y =>
          rw [hc] at x1
          obtain ⟨cl, v, u, con, fl⟩ := k.ca cn f y hc
          refine getcon_ok I1 ho cl con (look_none rf hl) fun s2 I2 => ⟨v, _, I2, con.rel, x1.here f1 _ ?_⟩
          cases y <;> simp only [flat?, Option.some.injEq, reduceCtorEq] at fl <;> (subst fl; simp [RepV, Rep])
  | _ => exact x1.elim
/-- an attribute of the object being made -/
theorem self_okD (k : Ck X C W) {x f : Str} (hi : isIns C E x = true) : PE X (.Attribute (.Name x p) f pos) (tV X.K W E (selfD C E x f)) := by
  unfold isIns at hi
  cases hN : ixS C.N x with
  | none => rw [hN] at hi; cases hi
  | some i =>
    rw [hN] at hi
    dsimp only at hi
    have hN' := ixS_ok hN
    have nm := k.nm x (List.mem_of_getElem? hN')
    cases he : E[i]? with
    | none => rw [he] at hi; cases hi
    | some o => cases o with
      | none => rw [he] at hi; cases hi
      | some dv => cases dv with
        | fz _ => rw [he] at hi; cases hi
        | own _ => rw [he] at hi; cases hi
        | dic _ => rw [he] at hi; cases hi
        | ins cn ns vs =>
          rw [he] at hi
          have hi : visB C.sc x = true := hi
          refine ⟨fun pins s σ H Q I h => ?_⟩
          obtain ⟨B, c, w, rfl, S, xo⟩ := h
          unfold selfD at xo
          rw [hN] at xo
          dsimp only at xo
          rw [he] at xo
          dsimp only at xo
          obtain ⟨o, dx, fs, e, ho, rfl, rf, gn, nd⟩ := S.sl i _ he
          refine attr_of (plain_base (by rfl) f _) (thn ((pe_var (i := i) (by rw [k.N]; exact hN') (by rw [k.sc]; exact visB_ok hi) nm.1 nm.2).run pins s σ w.H (fun vv H1 => vv = .ref o ∧ H1 = w.H) I ⟨.ref o, e, rfl, rfl⟩) fun u s1 hh => ?_)
          obtain ⟨vv, H1, I1, rx, rfl, rfl⟩ := hh
          obtain rfl : u = Value.ref o := rx
          cases hl : ((fs.map (·.1)).zip vs).lookup f with
          | none => rw [hl] at xo; exact xo.elim
          | some y =>
            rw [hl] at xo
            dsimp only at xo
            by_cases hf : C.isFld cn f = true
            · rw [if_pos hf] at xo
              obtain ⟨cl, na⟩ := k.fl cn f hf
              obtain ⟨v, lv, rv⟩ := look_some rf hl
              exact getattr_ok I1 ho cl na lv fun u' s2 I2 ru => ⟨v, _, I2, ru, xo.here S.wf _ rv⟩
            · rw [if_neg hf] at xo
              exact xo.elim

/-! ### isinstance -/
theorem tyX_of {K : PySem.W.Frag} {c : Option (List Int)} {w : HS} (f : Wf c w) {x : D} {v : V} {t : String} (e : tyD x = some t) (r : RepB K w x v) : TyX K w.H v (.type t) := by
  cases x <;> simp only [tyD, Option.some.injEq, reduceCtorEq] at e <;> subst e
  · rw [B_non r]; exact .base .non
  · rw [B_bl r]; exact .base (.bl _)
  · rw [B_int r]; exact .base (.int _)
  · rw [B_str r]; exact .base (.str _)
  · obtain ⟨p, vs, rfl, hp, r⟩ := B_lst f r; exact .base (.lst hp)
  · obtain ⟨p, vs, rfl, _, hp, r⟩ := B_tup f r
    rcases hp with (hp | ⟨o, hp⟩) | ⟨o, its, n, hk, hc, _⟩
    · exact .base (.tup hp)
    · exact .fTuple hp
    · exact .kTuple hk hc
  · obtain ⟨p, rfl, hd⟩ := B_cel r
    obtain ⟨is, _, hp, _⟩ := f.cellAt hd
    exact .base (.lst hp)
  · obtain ⟨p, rfl, hp⟩ := B_scr f r
    rcases hp with (hp | ⟨o, hp⟩) | ⟨o, its, n, hk, hc, _⟩
    · exact .base (.lst hp)
    · exact .base (.frz hp)
    · exact .kList hk hc
theorem tyD_mem {x : D} {t : String} (e : tyD x = some t) : t ∈ tyNames := by
  cases x <;> simp only [tyD, Option.some.injEq, reduceCtorEq] at e <;> subst e <;> decide
def tyS (x : Str) : String := if x = "int" then "int" else if x = "bool" then "bool" else if x = "list" then "list" else if x = "tuple" then "tuple" else "str"
theorem isTyN_cases {x : Str} (h : isTyN x = true) : x = "int" ∨ x = "bool" ∨ x = "list" ∨ x = "tuple" ∨ x = "str" := by
  unfold isTyN at h
  simp only [Bool.or_eq_true, decide_eq_true_eq] at h
  rcases h with (((h | h) | h) | h) | h <;> simp [h]
theorem ty_boot {x : Str} (h : isTyN x = true) : bootBuiltins x = some (.type (tyS x)) ∧ bltB x = true ∧ x ≠ "__name__" ∧ (x == ("__debug__" : Str)) = false ∧ tyS x ∈ tyNames := by
  rcases isTyN_cases h with rfl | rfl | rfl | rfl | rfl <;> exact ⟨by decide +kernel, by decide +kernel, by decide, by decide, by decide⟩
theorem kit_all {K : PySem.W.Frag} {x : Str} (h : isTyN x = true) {t : String} (ht : t ∈ tyNames) {b : Bool} (e : kTy t x = some b) : PySem.W.kitOne K (.type t) (.type (tyS x)) = some b := by
  simp only [tyNames, List.mem_cons, List.mem_nil_iff, or_false] at ht
  rcases isTyN_cases h with rfl | rfl | rfl | rfl | rfl <;> rcases ht with rfl | rfl | rfl | rfl | rfl | rfl <;>
    (have e' : _ = some b := e
     revert e'
     cases b <;> intro e' <;> first
       | exact kit_ty (by decide +kernel)
       | exact absurd e' (by decide +kernel))
/-- a class's name: what it stands for, and what isinstance says -/
theorem isi_non {x : Str} {v : D} {b : Bool} (ho : ¬ ∃ cn ns vs, v = .obj cn ns vs) (e : isiD C v x = some b) : ∃ t, tyD v = some t ∧ (if isTyN x = true then kTy t x else (if (C.isi x x).isSome = true then some false else none)) = some b := by
  have e2 : (match tyD v with
      | some t => if isTyN x = true then kTy t x else (if (C.isi x x).isSome = true then some false else none)
      | none => none) = some b := by
    unfold isiD at e
    cases v <;> first | exact e | exact absurd ⟨_, _, _, rfl⟩ ho
  cases ht : tyD v with
  | none => rw [ht] at e2; cases e2
  | some t => rw [ht] at e2; exact ⟨t, rfl, e2⟩
def ClsU (X : Cx) (x : Str) (u : Value) : Prop := (isTyN x = true ∧ u = .type (tyS x)) ∨ (isTyN x = false ∧ ∃ a, X.mg x = some (.ref a) ∧ u = .ref a)
theorem cls_ok (k : Ck X C W) {x : Str} (hg : glB C.sc x = true) (hc : clsN C x = true) : ∃ (cv : V) (u : Value), PE X (.Name x p) (tC cv) ∧ ClsV cv u ∧ ClsU X x u := by
  by_cases hx : isTyN x = true
  · obtain ⟨h1, h2, h3, h4, h5⟩ := ty_boot hx
    exact ⟨.ty (tyS x), .type (tyS x), pe_bltn (k.gl hg) (k.free x h2) h1 rfl h3 h4, .ty _, .inl ⟨hx, rfl⟩⟩
  · have hs : (C.isi x x).isSome = true := by
      unfold clsN at hc
      rw [Bool.or_eq_true] at hc
      rcases hc with h | h
      · exact absurd h hx
      · exact h
    obtain ⟨b', hb⟩ := Option.isSome_iff_exists.mp hs
    obtain ⟨db, ⟨a, ha, _, hk⟩, _⟩ := k.isT x x b' hb
    exact ⟨.ref a, .ref a, pe_glob (k.gl hg) ha rfl db, .own a, .inr ⟨Bool.eq_false_iff.mpr hx, a, ha, rfl⟩⟩
theorem val_ty (k : Ck X C W) {x : Str} {v : D} {b : Bool} {c : Option (List Int)} {w : HS} {vv : V} (e : isiD C v x = some b) (f : Wf c w) (r : RepB X.K w v vv) :
    ∃ t, TyX X.K w.H vv t ∧ ∀ (y : Str) (b' : Bool) (u : Value), isiD C v y = some b' → ClsU X y u → PySem.W.kitOne X.K t u = some b' := by
  by_cases ho : ∃ cn ns vs, v = .obj cn ns vs
  · obtain ⟨cn, ns, vs, rfl⟩ := ho
    have io : InsOk X.K (He.ga X.K cn) := by
      unfold isiD at e
      dsimp only at e
      by_cases hx : isTyN x = true
      · rw [if_pos hx] at e
        by_cases hc : (C.isi cn cn).isSome = true
        · obtain ⟨b', hb⟩ := Option.isSome_iff_exists.mp hc
          exact (k.isT cn cn b' hb).2.2
        · rw [if_neg hc] at e; cases e
      · rw [if_neg hx] at e
        exact (k.isT cn x b e).2.2
    obtain ⟨o, dx, fs, rfl, hh, _, _⟩ := B_obj f r
    refine ⟨_, .base (.ins hh io.cl io.ha io.hn io.htk io.hm), fun y b' u e' hu => ?_⟩
    unfold isiD at e'
    dsimp only at e'
    rcases hu with ⟨hy, rfl⟩ | ⟨hy, a, ha, rfl⟩
    · rw [if_pos hy] at e'
      by_cases hc : (C.isi cn cn).isSome = true
      · rw [if_pos hc] at e'; cases e'
        exact io.ty _ (ty_boot hy).2.2.2.2
      · rw [if_neg hc] at e'; cases e'
    · rw [if_neg (by rw [hy]; exact Bool.false_ne_true)] at e'
      obtain ⟨_, ⟨a', ha', hk', _⟩, _⟩ := k.isT cn y b' e'
      rw [ha] at ha'
      cases ha'
      exact hk'
  · obtain ⟨t, ht, _⟩ := isi_non ho e
    refine ⟨_, tyX_of f ht r, fun y b' u e' hu => ?_⟩
    obtain ⟨t', ht', e2⟩ := isi_non ho e'
    rw [ht] at ht'
    cases ht'
    rcases hu with ⟨hy, rfl⟩ | ⟨hy, a, ha, rfl⟩
    · rw [if_pos hy] at e2
      exact kit_all hy (tyD_mem ht) e2
    · rw [if_neg (by rw [hy]; exact Bool.false_ne_true)] at e2
      by_cases hc : (C.isi y y).isSome = true
      · rw [if_pos hc] at e2; cases e2
        obtain ⟨b', hb⟩ := Option.isSome_iff_exists.mp hc
        obtain ⟨_, ⟨a', ha', _, hk⟩, _⟩ := k.isT y y b' hb
        rw [ha] at ha'
        cases ha'
        exact hk t (tyD_mem ht)
      · rw [if_neg hc] at e2; cases e2
theorem isi_one (k : Ck X C W) {p2 : Pos} {a : Expr} {x : Str} {m : DM D} (hi : glB C.sc "isinstance" = true) (hg : glB C.sc x = true) (hc : clsN C x = true) (hs : starB a = false) (ha : PE X a (tBo X.K W E m)) :
    PE X (.Call (.Name "isinstance" p) [a, .Name x p2] [] pos) (tV X.K W E (dbind m fun v => dbind (dget (isiD C v x)) fun b => dret (.fz (.bl b)))) := by
  obtain ⟨cv, u, hp, hcv, hk⟩ := cls_ok (p := p2) k hg hc
  refine pe_imp (pe_callB call_isi (k.gl hi) (k.free _ (by decide +kernel)) (by decide +kernel) (pa_cons ha (pa_cons hp pa_nil) (star_cons hs _ _)) (by decide) (by decide) (star_cons hs _ _) (by rfl)) fun σ H Q h => ?_
  obtain ⟨B, c, w, rfl, S, xo⟩ := h
  refine ⟨B, c, w, rfl, S, xo.bind.mono fun v c1 w1 g1 f1 x1 vv r1 => ?_⟩
  obtain ⟨b, e, x1⟩ := x1.get
  obtain ⟨t, ht, hkk⟩ := val_ty k e f1 r1
  exact ⟨vv, cv, t, u, b, rfl, hcv, ht, hkk x b u e hk, x1.here f1 _ (by simp [RepV, Rep])⟩
theorem isi_two (k : Ck X C W) {p2 p3 p4 : Pos} {kk : Nat} {a : Expr} {x y : Str} {m : DM D} (hi : glB C.sc "isinstance" = true) (hg : glB C.sc x = true) (hg2 : glB C.sc y = true) (hx : isTyN x = true) (hy : isTyN y = true) (hs : starB a = false) (ha : PE X a (tBo X.K W E m)) :
    PE X (.Call (.Name "isinstance" p) [a, .Tuple [.Name x p2, .Name y p3] kk p4] [] pos) (tV X.K W E (dbind m fun v => dbind (dget (isiD C v x)) fun b => dbind (dget (isiD C v y)) fun b' => dret (.fz (.bl (b || b'))))) := by
  obtain ⟨cv, u, hp, hcv, hk⟩ := cls_ok (p := p2) k hg (by unfold clsN; rw [hx]; rfl)
  obtain ⟨cv2, u2, hp2, hcv2, hk2⟩ := cls_ok (p := p3) k hg2 (by unfold clsN; rw [hy]; rfl)
  refine pe_imp (pe_callB call_isiT (k.gl hi) (k.free _ (by decide +kernel)) (by decide +kernel) (pa_cons ha (pa_cons (pe_tup (pa_cons hp (pa_cons hp2 pa_nil))) pa_nil) (star_cons hs _ _)) (by decide) (by decide) (star_cons hs _ _) (by rfl)) fun σ H Q h => ?_
  obtain ⟨B, c, w, rfl, S, xo⟩ := h
  refine ⟨B, c, w, rfl, S, xo.bind.mono fun v c1 w1 g1 f1 x1 vv r1 => ?_⟩
  obtain ⟨b, e, x1⟩ := x1.get
  obtain ⟨b', e', x1⟩ := x1.get
  refine ⟨by show 2 ≤ sizeLine; decide, fun q hq => ?_⟩
  have gl := Gr.lay (o := .tup [cv, cv2]) f1 hq
  have fl := Wf.lay (o := .tup [cv, cv2]) f1 hq
  obtain ⟨t, ht, hkk⟩ := val_ty k e fl (r1.mono gl)
  refine ⟨vv, q, [cv, cv2], t, [u, u2], b || b', rfl, upd_same, .cons hcv (.cons hcv2 .nil), ht, ?_, x1.to gl fl _ (by simp [RepV, Rep])⟩
  refine kitAny_cons (hkk x b u e hk) (fun hb => ?_) fun hb => by rw [hb]; rfl
  refine kitAny_cons (hkk y b' u2 e' hk2) (fun hb' => ?_) fun hb' => by rw [hb']; cases b <;> rfl
  rw [hb, hb']
  exact kitAny_nil
end
end DL

set_option maxHeartbeats 4000000
/-! DL8: targets; what is walked; comprehensions. -/
namespace DL
open PySem PySem.Spec PyProof.Rows L2

theorem dbind_assoc {α β γ : Type} (m : DM α) (f : α → DM β) (g : β → DM γ) : dbind (dbind m f) g = dbind m fun a => dbind (f a) g := by
  funext c
  unfold dbind
  cases m c <;> rfl
section
variable {K : PySem.W.Frag} {W : WX} {σ : St}
theorem XO.up {α : Type} {w w2 : HS} {r : Rs α} {post : α → Option (List Int) → HS → Prop} (h : XO K W σ w r post) (g : Gr w w2) : XO K W σ w2 r post := by
  cases r with
  | wrong => exact h
  | err e c => exact fun cls d w' g' f r => h cls d w' (g.trans g') f r
  | ok a c => exact fun w' g' f => h w' (g.trans g') f
/-- the first part run at a later state; the rest stays where it was -/
theorem XO.at_ {α β : Type} {σ' : St} {w w2 : HS} {m : DM α} {f : α → DM β} {c : Option (List Int)} {post : β → Option (List Int) → HS → Prop} {P : α → Option (List Int) → HS → Prop}
    (h : XO K (fun _ _ _ _ => False) σ w (dbind m f c) post) (g : Gr w w2) (k : ∀ a c', XO K (fun _ _ _ _ => False) σ w (f a c') post → ∀ w3, Gr w2 w3 → Wf c' w3 → P a c' w3) : XO K (fun _ _ _ _ => False) σ' w2 (m c) P := by
  unfold dbind at h
  cases e : m c with
  | wrong => rw [e] at h; exact h
  | err x c1 => rw [e] at h; exact fun cls d w' g' f' r => h cls d w' (g.trans g') f' r
  | ok a c1 => rw [e] at h; exact fun w' g' f' => k a c1 h w' g' f'

/-! ### slots are set, forgotten -/
theorem SR.set {B w : HS} {E : EnvD} {c : Option (List Int)} {i : Nat} {x : D} {v : V} (S : SR K B E c σ w) (hi : i < σ.length) (r : HRep K w x v) : SR K B (E.set i (some (.fz x))) c (σ.set i (some v)) w := by
  have hl := S.len
  have hE : i < E.length := by omega
  refine ⟨S.wf, S.gr, by simp [hl], fun j y e => ?_, fun j y p e o q => ?_, fun j k y z p e1 e2 o1 o2 q1 q2 => ?_, fun j a b d p e q => by
    obtain ⟨hj, e⟩ := set_ins (by simp) e
    rw [List.getElem?_set_ne hj] at q
    exact S.sf j a b d p e q⟩
  · by_cases hj : i = j
    · subst hj
      rw [List.getElem?_set_self hE] at e
      cases e
      exact ⟨v, List.getElem?_set_self hi, r⟩
    · rw [List.getElem?_set_ne hj] at e ⊢
      exact S.sl j y e
  · by_cases hj : i = j
    · subst hj
      rw [List.getElem?_set_self hE] at e
      cases e
      cases o
    · rw [List.getElem?_set_ne hj] at e q
      exact S.ow j y p e o q
  · by_cases hj : i = j
    · subst hj
      rw [List.getElem?_set_self hE] at e1
      cases e1
      cases o1
    · by_cases hk : i = k
      · subst hk
        rw [List.getElem?_set_self hE] at e2
        cases e2
        cases o2
      · rw [List.getElem?_set_ne hj] at e1 q1
        rw [List.getElem?_set_ne hk] at e2 q2
        exact S.ds j k y z p e1 e2 o1 o2 q1 q2
theorem SR.forget {B w : HS} {E : EnvD} {c : Option (List Int)} {i : Nat} (S : SR K B E c σ w) : SR K B (E.set i none) c (σ.set i none) w := by
  have hl := S.len
  have nn : ∀ {j : Nat} {y : Option DV}, (E.set i none)[j]? = some y → y = none ∨ (i ≠ j ∧ E[j]? = some y) := fun {j y} e => by
    by_cases hj : i = j
    · subst hj
      by_cases hE : i < E.length
      · rw [List.getElem?_set_self hE] at e; cases e; exact .inl rfl
      · rw [List.getElem?_eq_none (by simpa using hE)] at e; cases e
    · rw [List.getElem?_set_ne hj] at e; exact .inr ⟨hj, e⟩
  refine ⟨S.wf, S.gr, by simp [hl], fun j y e => ?_, fun j y p e o q => ?_, fun j k y z p e1 e2 o1 o2 q1 q2 => ?_, fun j a b d p e q => by
    obtain ⟨hj, e⟩ := set_ins (by simp) e
    rw [List.getElem?_set_ne hj] at q
    exact S.sf j a b d p e q⟩
  · rcases nn e with rfl | ⟨hj, e⟩
    · trivial
    · rw [List.getElem?_set_ne hj]; exact S.sl j y e
  · rcases nn e with rfl | ⟨hj, e⟩
    · cases o
    · rw [List.getElem?_set_ne hj] at q; exact S.ow j y p e o q
  · rcases nn e1 with rfl | ⟨hj, e1⟩
    · cases o1
    · rcases nn e2 with rfl | ⟨hk, e2⟩
      · cases o2
      · rw [List.getElem?_set_ne hj] at q1
        rw [List.getElem?_set_ne hk] at q2
        exact S.ds j k y z p e1 e2 o1 o2 q1 q2
theorem SR.wipe {B w : HS} {E : EnvD} {c : Option (List Int)} (S : SR K B E c σ w) : ∀ vs : List Nat, SR K B (wipeD E vs) c (L2.wipe σ vs) w
  | [] => S
  | v :: vs => (S.wipe vs).forget

/-! ### targets -/
def gD (K : PySem.W.Frag) (C : Cn) (n : Nat) (tg : Expr) : TG := fun v σ H Q => ∃ B E c w x E', w.H = H ∧ SR K B E c σ w ∧ HRep K w x v ∧ bindT C n tg x E = some E' ∧
  ∀ σ', SR K B E' c σ' w → (∀ vs : List Nat, (∀ i ∈ tgIx C n tg, i ∈ vs) → L2.wipe σ' vs = L2.wipe σ vs) → Q σ' H
def gDs (K : PySem.W.Frag) (C : Cn) (n : Nat) (ts : List Expr) : TGs := fun us σ H Q => ∃ B E c w xs E', w.H = H ∧ SR K B E c σ w ∧ Reps K w.d w.G xs us ∧ bindTs C n ts xs E = some E' ∧
  ∀ σ', SR K B E' c σ' w → (∀ vs : List Nat, (∀ i ∈ tgIxs C n ts, i ∈ vs) → L2.wipe σ' vs = L2.wipe σ vs) → Q σ' H
theorem wipe_set {σ : St} {i : Nat} {v : Option V} : ∀ {vs : List Nat}, i ∈ vs → L2.wipe (σ.set i v) vs = L2.wipe σ vs
  | a :: vs, h => by
    unfold L2.wipe
    by_cases hi : i ∈ vs
    · rw [wipe_set hi]
    · have ha : i = a := by
        rcases List.mem_cons.mp h with h | h
        · exact h
        · exact absurd h hi
      subst ha
      have : ∀ (us : List Nat), i ∉ us → L2.wipe (σ.set i v) us = (L2.wipe σ us).set i v := by
        intro us
        induction us with
        | nil => intro _; rfl
        | cons b us ih =>
          intro hb
          have h1 : i ≠ b := fun e => hb (by rw [e]; exact List.mem_cons_self)
          have h2 : i ∉ us := fun m => hb (List.mem_cons_of_mem _ m)
          unfold L2.wipe
          rw [ih h2, List.set_comm _ _ (Ne.symm h1)]
      rw [this vs hi, List.set_set]
theorem pg_imp {X : Cx} {tg : Expr} {t t' : TG} (h : PG X tg t) (f : ∀ v σ H Q, t' v σ H Q → t v σ H Q) : PG X tg t' := ⟨fun pins s σ H v u Q I r q => h.run pins s σ H v u Q I r (f _ _ _ _ q)⟩
theorem pgs_imp {X : Cx} {tg : List Expr} {t t' : TGs} (h : PGs X tg t) (f : ∀ v σ H Q, t' v σ H Q → t v σ H Q) : PGs X tg t' := ⟨fun pins s σ H v u Q I r q => h.run pins s σ H v u Q I r (f _ _ _ _ q)⟩
theorem pg_no {X : Cx} {tg : Expr} {t : TG} (f : ∀ v σ H Q, ¬ t v σ H Q) : PG X tg t := ⟨fun pins s σ H v u Q I r q => (f _ _ _ _ q).elim⟩
theorem pgs_no {X : Cx} {tg : List Expr} {t : TGs} (f : ∀ v σ H Q, ¬ t v σ H Q) : PGs X tg t := ⟨fun pins s σ H v u Q I r q => (f _ _ _ _ q).elim⟩
theorem assign_cons {e : Expr} (h : starB e = false) (es : List Expr) (env : Env) : assignEach (e :: es) env = (false, assign e env) :: assignEach es env := by
  cases e <;> first | rfl | simp [starB] at h
theorem assign_len : ∀ {es : List Expr} (h : es.any starB = false) (env : Env), (assignEach es env).length = es.length ∧ (assignEach es env).findIdx? (·.1) = none
  | [], _, _ => ⟨rfl, rfl⟩
  | e :: es, h, env => by
    rw [List.any_cons, Bool.or_eq_false_iff] at h
    obtain ⟨h1, h2⟩ := assign_len h.2 env
    rw [assign_cons h.1]
    refine ⟨by simp [h1], ?_⟩
    rw [List.findIdx?_cons, h2]
    rfl
theorem pgD {X : Cx} {C : Cn} (hN : X.N = C.N) (hnd : C.N.Nodup) (hsc : X.env.scope = C.sc) (hcl : ∀ x, C.clc x = true → X.fn x = true) (hc : X.calm = true) (n : Nat) : (∀ tg, PG X tg (gD X.K C n tg)) ∧ ∀ ts : List Expr, ts.any starB = false → PGs X ts (gDs X.K C n ts) := by
  induction n with
  | zero =>
    exact ⟨fun tg => pg_no fun v σ H Q ⟨B, E, c, w, x, E', _, _, _, e, _⟩ => by simp [bindT, patT] at e, fun ts _ => pgs_no fun v σ H Q ⟨B, E, c, w, x, E', _, _, _, e, _⟩ => by simp [bindTs, patTs] at e⟩
  | succ n ih =>
    obtain ⟨ih1, ih2⟩ := ih
    refine ⟨fun tg => ?_, fun ts hs => ?_⟩
    · cases tg with
      | Name x p =>
        by_cases hl : stB C x = true
        · cases hi : ixS C.N x with
          | none => exact pg_no fun v σ H Q ⟨B, E, c, w, x, E', _, _, _, e, _⟩ => by simp [bindT, patT, hl, hi] at e
          | some i =>
            have hN' := ixS_ok hi
            obtain ⟨hlo, hfn⟩ := stB_ok hsc hcl hl
            refine pg_imp (pg_name (i := i) (by rw [hN]; exact hnd) (by rw [hN]; exact hN') hlo hfn) fun v σ H Q h => ?_
            obtain ⟨B, E, c, w, y, E', rfl, S, r, e, k⟩ := h
            have e' : E' = E.set i (some (.fz y)) := by
              simp only [bindT, patT, bindP, hl, if_true, hi, Option.some.injEq] at e
              exact e.symm
            subst e'
            refine k _ ?_ fun vs hv => wipe_set (hv i (by simp [tgIx, hi]))
            by_cases hlt : i < σ.length
            · exact S.set hlt r
            · have h1 := S.len
              rw [List.set_eq_of_length_le (by omega), List.set_eq_of_length_le (by omega)]
              exact S
        · exact pg_no fun v σ H Q ⟨B, E, c, w, x, E', _, _, _, e, _⟩ => by simp [bindT, patT, hl] at e
      | Tuple ts kk p =>
        by_cases hs : ts.any starB = true
        · exact pg_no fun v σ H Q ⟨B, E, c, w, x, E', _, _, _, e, _⟩ => by simp [bindT, patT, hs] at e
        · have hs' : ts.any starB = false := Bool.eq_false_iff.mpr hs
          obtain ⟨hl, hst⟩ := assign_len hs' X.env
          refine pg_imp (pg_tup (n := ts.length) hc (ih2 ts hs') hl hst) fun v σ H Q h => ?_
          obtain ⟨B, E, c, w, y, E', rfl, S, r, e, k⟩ := h
          have e2 : (match tupV y with
              | some vs => bindTs C n ts vs E
              | none => none) = some E' := by
            rw [bindT_tup hs'] at e
            exact e
          cases y with
          | tup xs =>
            simp only [HRep, Rep] at r
            obtain ⟨a, vs, rfl, hp, rr⟩ := r
            refine ⟨a, vs, rfl, .of (S.wf.sub _ _ hp), ?_, B, E, c, w, xs, E', rfl, S, rr, e2, fun σ' S' hw => k σ' S' fun vs hv => hw vs fun i hi => hv i (by simpa [tgIx] using hi)⟩
            rw [rr.length]
            have len : ∀ (n : Nat) (ts : List Expr) (xs : List D) (E E' : EnvD), bindTs C n ts xs E = some E' → xs.length = ts.length := by
              intro n
              induction n with
              | zero => intro ts xs E E' e; simp [bindTs, patTs] at e
              | succ n ih =>
                intro ts xs E E' e
                cases ts with
                | nil => cases xs with
                  | nil => rfl
                  | cons _ _ => rw [bindTs_nc] at e; cases e
                | cons t ts => cases xs with
                  | nil => rw [bindTs_cn] at e; cases e
                  | cons x xs =>
                    rw [bindTs_cc] at e
                    cases q : bindT C n t x E with
                    | none => rw [q] at e; cases e
                    | some E1 => rw [q] at e; simp [ih _ _ _ _ e]
            exact len _ _ _ _ _ e2
          | _ => cases e2
      | _ => exact pg_no fun v σ H Q ⟨B, E, c, w, x, E', _, _, _, e, _⟩ => by simp [bindT, patT] at e
    · cases ts with
      | nil =>
        refine pgs_imp pgs_nil fun v σ H Q h => ?_
        obtain ⟨B, E, c, w, xs, E', rfl, S, r, e, k⟩ := h
        cases xs with
        | nil =>
          rw [bindTs_nn, Option.some.injEq] at e
          subst e
          simp only [Reps] at r
          exact ⟨r, k σ S fun _ _ => rfl⟩
        | cons _ _ => rw [bindTs_nc] at e; cases e
      | cons t ts =>
        rw [List.any_cons, Bool.or_eq_false_iff] at hs
        refine pgs_imp (pgs_cons (ih1 t) (ih2 ts hs.2) (by rw [assign_cons hs.1]; rfl)) fun v σ H Q h => ?_
        obtain ⟨B, E, c, w, xs, E', rfl, S, r, e, k⟩ := h
        cases xs with
        | nil => rw [bindTs_cn] at e; cases e
        | cons x xs =>
          simp only [Reps] at r
          obtain ⟨u, us, rfl, r1, r2⟩ := r
          rw [bindTs_cc] at e
          cases q : bindT C n t x E with
          | none => rw [q] at e; cases e
          | some E1 =>
            rw [q] at e
            refine ⟨u, us, rfl, B, E, c, w, x, E1, rfl, S, r1, q, fun σ1 S1 hw1 => ?_⟩
            refine ⟨B, E1, c, w, xs, E', rfl, S1, r2, e, fun σ2 S2 hw2 => k σ2 S2 fun vs hv => ?_⟩
            rw [hw2 vs fun i hi => hv i (by simp [tgIxs, hi]), hw1 vs fun i hi => hv i (by simp [tgIxs, hi])]

/-! ### what is walked -/
structure ItAt (K : PySem.W.Frag) (J : It) (xs : List D) (w1 : HS) (c1 : Option (List Int)) : Prop where
  stop : ∀ i, xs.length ≤ i → J.stop i w1.H
  go : ∀ i, i < xs.length → J.go i w1.H
  yld : ∀ (i : Nat) x v H', xs[i]? = some x → J.yld i w1.H v H' → ∃ w2, w2.H = H' ∧ Gr w1 w2 ∧ Wf c1 w2 ∧ HRep K w2 x v
def Gf (w w1 : HS) : Prop := Same w.G w1.G ∧ ∀ a, w.d = some a → w1.d = some a
def GK (kk : Bool) (w w1 : HS) : Prop := if kk = true then Gf w w1 else Gr w w1
def RepW (K : PySem.W.Frag) (kk : Bool) (w : HS) (x : D) (v : V) : Prop := if kk = true then HRep K w x v else RepB K w x v
theorem RepW.mono {K : PySem.W.Frag} {kk : Bool} {w w1 : HS} {x : D} {v : V} (r : RepW K kk w x v) (g : GK kk w w1) : RepW K kk w1 x v := by
  cases kk with
  | true =>
    have r' : HRep K w x v := r
    have g' : Gf w w1 := g
    exact Rep.mono g'.2 g'.1 _ _ r'
  | false =>
    have r' : RepB K w x v := r
    have g' : Gr w w1 := g
    exact r'.mono g'
theorem RepW.toB {K : PySem.W.Frag} {kk : Bool} {w : HS} {x : D} {v : V} (r : RepW K kk w x v) : RepB K w x v := by
  cases kk with
  | true => exact .inl r
  | false => exact r
theorem GK.refl (kk : Bool) (w : HS) : GK kk w w := by
  cases kk with
  | true => exact ⟨Same.refl _, fun _ e => e⟩
  | false => exact Gr.refl w
theorem GK.of {kk : Bool} {w w1 : HS} (g : Gr w w1) : GK kk w w1 := by
  cases kk with
  | true => exact ⟨g.g, g.dd⟩
  | false => exact g
def ItR (K : PySem.W.Frag) (kk : Bool) (J : It) (xs : List D) (w : HS) : Prop := ∀ w1 c1, GK kk w w1 → Wf c1 w1 → ItAt K J xs w1 c1
def tI (K : PySem.W.Frag) (W : WX) (E : EnvD) (kk : Bool) (m : DM (List D)) : TI := fun σ H R => ∃ B c w, w.H = H ∧ SR K B E c σ w ∧ XO K W σ w (m c) fun xs _ w' => ∀ J, ItR K kk J xs w' → R J w'.H
theorem pi_imp {X : Cx} {tg e : Expr} {t t' : TI} (h : PI X tg e t) (f : ∀ σ H R, t' σ H R → t σ H R) : PI X tg e t' := ⟨fun pins s σ H R I q => h.run pins s σ H R I (f _ _ _ q)⟩
theorem pi_wrong {X : Cx} {tg e : Expr} {K : PySem.W.Frag} {E : EnvD} {kk : Bool} : PI X tg e (tI K W E kk dwrong) := ⟨fun pins s σ H R I h => by obtain ⟨B, c, w, _, _, x⟩ := h; exact x.elim⟩
theorem it_seq {c : Option (List Int)} {kk : Bool} {w : HS} {y : D} {v : V} {xs : List D} (f : Wf c w) (e : items? y = some xs) (r : RepW K kk w y v) :
    ∃ a vs, v = .ref a ∧ ((SqL K w.H a vs ∧ ItR K kk (Itl K a) xs w) ∨ (SqT K w.H a vs ∧ ItR K kk (Itt K a) xs w)) := by
  cases y <;> simp only [items?, Option.some.injEq, reduceCtorEq] at e
  · subst e
    obtain ⟨a, vs, rfl, ha, _⟩ := B_lst f r.toB
    refine ⟨a, vs, rfl, .inl ⟨.of ha, fun w1 c1 g1 f1 => ?_⟩⟩
    obtain ⟨a', vs1, e1, h1, r1⟩ := B_lst f1 (r.mono g1).toB
    cases e1
    refine ⟨fun i hi => ⟨vs1, .of h1, by rw [r1.length]; exact hi⟩, fun i hi => ?_, fun i x v H' hx hy => ?_⟩
    · have hi' : i < vs1.length := by rw [r1.length]; exact hi
      exact ⟨vs1, vs1[i], .of h1, by simp [hi']⟩
    · obtain ⟨rfl, hy⟩ := hy
      obtain ⟨u, hu, ru⟩ := r1.get hx
      have := hy vs1 (.of h1)
      rw [hu] at this
      cases this
      exact ⟨w1, rfl, Gr.refl _, f1, ru⟩
  · subst e
    obtain ⟨a, vs, rfl, _, ha, _⟩ := B_tup f r.toB
    refine ⟨a, vs, rfl, .inr ⟨ha, fun w1 c1 g1 f1 => ?_⟩⟩
    obtain ⟨a', vs1, e1, _, h1, r1⟩ := B_tup f1 (r.mono g1).toB
    cases e1
    refine ⟨fun i hi => ⟨vs1, h1, by rw [r1.length]; exact hi⟩, fun i hi => ?_, fun i x v H' hx hy => ?_⟩
    · have hi' : i < vs1.length := by rw [r1.length]; exact hi
      exact ⟨vs1, vs1[i], h1, by simp [hi']⟩
    · obtain ⟨rfl, hy⟩ := hy
      obtain ⟨u, hu, ru⟩ := r1.get hx
      have := hy vs1 h1
      rw [hu] at this
      cases this
      exact ⟨w1, rfl, Gr.refl _, f1, ru⟩
theorem it_range {kk : Bool} {w : HS} {lo hi : Int} {n : Nat} (e : n = (hi - lo).toNat) : ItR K kk (Itr lo n) (rangeD lo hi) w := fun w1 c1 g1 f1 => by
  subst e
  have hl : (rangeD lo hi).length = (hi - lo).toNat := by simp [rangeD]
  refine ⟨fun i h => by rw [hl] at h; exact h, fun i h => by rw [hl] at h; exact h, fun i x v H' hx hy => ?_⟩
  obtain ⟨rfl, rfl⟩ := hy
  have hlt : i < (hi - lo).toNat := by
    have := (List.getElem?_eq_some_iff.mp hx).1
    rw [hl] at this
    exact this
  have ex : x = .int (lo + i) := by
    unfold rangeD at hx
    rw [List.getElem?_map, List.getElem?_range hlt] at hx
    simpa using hx.symm
  subst ex
  exact ⟨w1, rfl, Gr.refl _, f1, by simp [HRep, Rep]⟩
theorem it_enum {c : Option (List Int)} {kk : Bool} {w : HS} {y : D} {v : V} {xs : List D} (f : Wf c w) (e : items? y = some xs) (r : RepW K kk w y v) :
    ∃ a vs, v = .ref a ∧ ((SqL K w.H a vs ∧ ItR K kk (Ite K a) (enumD xs) w) ∨ (SqT K w.H a vs ∧ ItR K kk (IteT K a) (enumD xs) w)) := by
  have hl : (enumD xs).length = xs.length := by simp [enumD]
  have at_ : ∀ {i : Nat} {z : D}, (enumD xs)[i]? = some z → ∃ x, xs[i]? = some x ∧ z = .tup [.int (i : Nat), x] := fun {i z} h => by
    unfold enumD at h
    rw [List.getElem?_map, List.getElem?_zipIdx, Option.map_map, Option.map_eq_some_iff] at h
    obtain ⟨x, h1, h2⟩ := h
    exact ⟨x, h1, by rw [← h2]; simp⟩
  have mk : ∀ {w1 : HS} {c1 : Option (List Int)} {i : Nat} {x : D} {u : V} {T : Addr}, Wf c1 w1 → w1.H T = none → HRep K w1 x u → ∃ w2, w2.H = upd w1.H T (.tup [.int (i : Nat), u]) ∧ Gr w1 w2 ∧ Wf c1 w2 ∧ HRep K w2 (.tup [.int (i : Nat), x]) (.ref T) := fun {w1 c1 i x u T} f1 hT ru =>
    ⟨w1.lay T (.tup [.int (i : Nat), u]), rfl, Gr.lay f1 hT, Wf.lay f1 hT, rep_lay_tup f1 hT (Reps.cons (by simp [Rep]) (Reps.one ru))⟩
  cases y <;> simp only [items?, Option.some.injEq, reduceCtorEq] at e
  · subst e
    obtain ⟨a, vs, rfl, ha, _⟩ := B_lst f r.toB
    refine ⟨a, vs, rfl, .inl ⟨.of ha, fun w1 c1 g1 f1 => ?_⟩⟩
    obtain ⟨a', vs1, e1, h1, r1⟩ := B_lst f1 (r.mono g1).toB
    cases e1
    refine ⟨fun i hi => ⟨vs1, .of h1, by rw [r1.length, ← hl]; exact hi⟩, fun i hi => ?_, fun i x v H' hx hy => ?_⟩
    · have hi' : i < vs1.length := by rw [r1.length, ← hl]; exact hi
      exact ⟨vs1, vs1[i], .of h1, by simp [hi']⟩
    · obtain ⟨T, z, rfl, hT, rfl, hy⟩ := hy
      obtain ⟨x, hx', rfl⟩ := at_ hx
      obtain ⟨u, hu, ru⟩ := r1.get hx'
      have := hy vs1 (.of h1)
      rw [hu] at this
      cases this
      exact mk f1 hT ru
  · subst e
    obtain ⟨a, vs, rfl, _, ha, _⟩ := B_tup f r.toB
    refine ⟨a, vs, rfl, .inr ⟨ha, fun w1 c1 g1 f1 => ?_⟩⟩
    obtain ⟨a', vs1, e1, _, h1, r1⟩ := B_tup f1 (r.mono g1).toB
    cases e1
    refine ⟨fun i hi => ⟨vs1, h1, by rw [r1.length, ← hl]; exact hi⟩, fun i hi => ?_, fun i x v H' hx hy => ?_⟩
    · have hi' : i < vs1.length := by rw [r1.length, ← hl]; exact hi
      exact ⟨vs1, vs1[i], h1, by simp [hi']⟩
    · obtain ⟨T, z, rfl, hT, rfl, hy⟩ := hy
      obtain ⟨x, hx', rfl⟩ := at_ hx
      obtain ⟨u, hu, ru⟩ := r1.get hx'
      have := hy vs1 h1
      rw [hu] at this
      cases this
      exact mk f1 hT ru
theorem zip_at {xs ys : List D} {i : Nat} {z : D} (h : (zipD xs ys)[i]? = some z) : ∃ x y, xs[i]? = some x ∧ ys[i]? = some y ∧ z = .tup [x, y] := by
  unfold zipD at h
  rw [List.getElem?_map, Option.map_eq_some_iff] at h
  obtain ⟨p, h1, h2⟩ := h
  rw [List.getElem?_zip_eq_some] at h1
  exact ⟨p.1, p.2, h1.1, h1.2, h2.symm⟩
theorem zip_len (xs ys : List D) : (zipD xs ys).length = min xs.length ys.length := by simp [zipD]
theorem it_zipL {c : Option (List Int)} {kk : Bool} {w : HS} {v u : V} {xs ys : List D} (f : Wf c w) (r : RepW K kk w (.lst xs) v) (r' : RepW K kk w (.lst ys) u) :
    ∃ a b vs us, v = .ref a ∧ u = .ref b ∧ SqL K w.H a vs ∧ SqL K w.H b us ∧ ItR K kk (Itz K a b) (zipD xs ys) w := by
  obtain ⟨a, vs, rfl, ha, _⟩ := B_lst f r.toB
  obtain ⟨b, us, rfl, hb, _⟩ := B_lst f r'.toB
  refine ⟨a, b, vs, us, rfl, rfl, .of ha, .of hb, fun w1 c1 g1 f1 => ?_⟩
  obtain ⟨a', vs1, e1, h1, r1⟩ := B_lst f1 (r.mono g1).toB
  cases e1
  obtain ⟨b', us1, e1, h2, r2⟩ := B_lst f1 (r'.mono g1).toB
  cases e1
  refine ⟨fun i hi => ⟨vs1, us1, .of h1, .of h2, by rw [zip_len] at hi; rw [r1.length, r2.length]; omega⟩, fun i hi => ?_, fun i x v H' hx hy => ?_⟩
  · rw [zip_len] at hi
    have hi1 : i < vs1.length := by rw [r1.length]; omega
    have hi2 : i < us1.length := by rw [r2.length]; omega
    exact ⟨vs1, us1, vs1[i], us1[i], .of h1, .of h2, by simp [hi1], by simp [hi2]⟩
  · obtain ⟨T, z1, z2, rfl, hT, rfl, hy1, hy2⟩ := hy
    obtain ⟨x, y, hx', hyy, rfl⟩ := zip_at hx
    obtain ⟨v1, hv1, rv1⟩ := r1.get hx'
    obtain ⟨v2, hv2, rv2⟩ := r2.get hyy
    have q1 := hy1 vs1 (.of h1)
    rw [hv1] at q1
    cases q1
    have q2 := hy2 us1 (.of h2)
    rw [hv2] at q2
    cases q2
    exact ⟨w1.lay T (.tup [z1, z2]), rfl, Gr.lay f1 hT, Wf.lay f1 hT, rep_lay_tup f1 hT (Reps.cons rv1 (Reps.one rv2))⟩
theorem it_zipT {c : Option (List Int)} {kk : Bool} {w : HS} {v u : V} {xs ys : List D} (f : Wf c w) (r : RepW K kk w (.tup xs) v) (r' : RepW K kk w (.tup ys) u) :
    ∃ a b vs us, v = .ref a ∧ u = .ref b ∧ SqT K w.H a vs ∧ SqT K w.H b us ∧ ItR K kk (RZ.ItzT K a b) (zipD xs ys) w := by
  obtain ⟨a, vs, rfl, _, ha, _⟩ := B_tup f r.toB
  obtain ⟨b, us, rfl, _, hb, _⟩ := B_tup f r'.toB
  refine ⟨a, b, vs, us, rfl, rfl, ha, hb, fun w1 c1 g1 f1 => ?_⟩
  obtain ⟨a', vs1, e1, _, h1, r1⟩ := B_tup f1 (r.mono g1).toB
  cases e1
  obtain ⟨b', us1, e1, _, h2, r2⟩ := B_tup f1 (r'.mono g1).toB
  cases e1
  refine ⟨fun i hi => ⟨vs1, us1, h1, h2, by rw [zip_len] at hi; rw [r1.length, r2.length]; omega⟩, fun i hi => ?_, fun i x v H' hx hy => ?_⟩
  · rw [zip_len] at hi
    have hi1 : i < vs1.length := by rw [r1.length]; omega
    have hi2 : i < us1.length := by rw [r2.length]; omega
    exact ⟨vs1, us1, vs1[i], us1[i], h1, h2, by simp [hi1], by simp [hi2]⟩
  · obtain ⟨T, z1, z2, rfl, hT, rfl, hy1, hy2⟩ := hy
    obtain ⟨x, y, hx', hyy, rfl⟩ := zip_at hx
    obtain ⟨v1, hv1, rv1⟩ := r1.get hx'
    obtain ⟨v2, hv2, rv2⟩ := r2.get hyy
    have q1 := hy1 vs1 h1
    rw [hv1] at q1
    cases q1
    have q2 := hy2 us1 h2
    rw [hv2] at q2
    cases q2
    exact ⟨w1.lay T (.tup [z1, z2]), rfl, Gr.lay f1 hT, Wf.lay f1 hT, rep_lay_tup f1 hT (Reps.cons rv1 (Reps.one rv2))⟩
end
end DL

set_option maxHeartbeats 4000000
/-! DL9: a list comprehension. -/
namespace DL
open PySem PySem.Spec PyProof.Rows L2
abbrev W0 : WX := fun _ _ _ _ => False
/-- every expression at fuel n means what it should -/
structure Snd (n : Nat) : Prop where
  ev : ∀ {X : Cx} {C : Cn} {W : WX} (E : EnvD) (e : Expr), Ck X C W → PE X e (tV X.K W E (ev C E n e))
  b : ∀ {X : Cx} {C : Cn} {W : WX} (E : EnvD) (e : Expr), Ck X C W → PE X e (tBo X.K W E (evB C E n e))
  k : ∀ {X : Cx} {C : Cn} {W : WX} (E : EnvD) (e : Expr), Ck X C W → PE X e (tKe X.K W E (evK C E n e))
  l : ∀ {X : Cx} {C : Cn} {W : WX} (E : EnvD) (es : List Expr), Ck X C W → es.any starB = false → PA X es (tAk X.K W E (evL C E n es))
  lb : ∀ {X : Cx} {C : Cn} {W : WX} (E : EnvD) (es : List Expr), Ck X C W → es.any starB = false → PA X es (tAb X.K W E (evLB C E n es))
  o : ∀ {X : Cx} {C : Cn} {W : WX} (E : EnvD) (e : Option Expr), Ck X C W → PO X e (tG X.K W E (evO C E n e) fun _ _ o o' => o' = o)
  t : ∀ {X : Cx} {C : Cn} {W : WX} (E : EnvD) (e : Expr), Ck X C W → PT X e (tTe X.K W E (evT C E n e))
  tw : ∀ {X : Cx} {C : Cn} {W : WX} (E : EnvD) (op : BoolOp) (es : List Expr) (p : Pos), Ck X C W → PW X (.BoolOp op es p) (tTe X.K W E (evT C E n (.BoolOp op es p)))
  if_ : ∀ {X : Cx} {C : Cn} {W : WX} (E : EnvD) (es : List Expr), Ck X C W → PTs X es (tTe X.K W E (evIf C E n es))
  w : ∀ {X : Cx} {C : Cn} {W : WX} (E : EnvD) (kk : Bool) (e : Expr), Ck X C W → PE X e (tG X.K W E (evW C E n kk e) fun _ w x v => RepW X.K kk w x v)
  i : ∀ {X : Cx} {C : Cn} {W : WX} (E : EnvD) (kk : Bool) (tg e : Expr), Ck X C W → PI X tg e (tI X.K W E kk (evI C E n kk tg e))

/-! ### the block's context -/
theorem FnX.blk {X : Cx} {φ : List D → DM RV} {x : Str} (h : FnX X φ x) (s : Shared) (H : Hp) (sc : Scope) (ce : Env) (fp : List Addr) : FnX (X.blk s H sc ce fp) φ x := by
  cases h with
  | fn F hr hm hk hb db => exact .fn F hr hm hk hb db
  | cl M F hr hm hb db => exact .cl M F hr hm hb db
theorem MtX.blk {X : Cx} {φ : List D → DM RV} {c f : Str} (h : MtX X φ c f) (s : Shared) (H : Hp) (sc : Scope) (ce : Env) (fp : List Addr) : MtX (X.blk s H sc ce fp) φ c f := by
  obtain ⟨cl, k, g, fd, ps, h1, h2, h3, h4⟩ := h
  exact ⟨cl, k, g, fd, ps, h1, h2, h3, h4⟩
theorem PrX.blk {X : Cx} {φ : List D → DM RV} {c f : Str} (h : PrX X φ c f) (s : Shared) (H : Hp) (sc : Scope) (ce : Env) (fp : List Addr) : PrX (X.blk s H sc ce fp) φ c f := by
  obtain ⟨cl, k, p, g, fd, h1, h2, h3, h4⟩ := h
  exact ⟨cl, k, p, g, fd, h1, h2, h3, h4⟩
theorem Ck.blk {X : Cx} {C : Cn} {W : WX} (k : Ck X C W) (s : Shared) (H : Hp) (scope : Scope) (c : Addr) (cl : List (Str × Addr)) (fp : List Addr) : Ck (X.blk s H scope (compEnvC scope cl c X.env) fp) { C with sc := relS scope C.sc, clc := fun y => scope.names.lookup y == some .cell } W0 where
  N := k.N
  nd := k.nd
  sc := by
    have e : (X.blk s H scope (compEnvC scope cl c X.env) fp).env.scope = relS scope X.env.scope := rfl
    rw [e, k.sc]
  calm := k.calm
  tk := takes0
  hu := k.hu
  nm := k.nm
  ki := k.ki
  free := k.free
  fn := fun x h => (k.fn x h).blk s H scope _ fp
  fl := k.fl
  pr := fun c' f h => (k.pr c' f h).blk s H scope _ fp
  mt := fun c' f h => (k.mt c' f h).blk s H scope _ fp
  ca := k.ca
  gd := k.gd
  clf := fun _ h => h
  isT := k.isT

theorem pe_ex {X : Cx} {e : Expr} {α : Type} {t : α → TE} (h : ∀ a, PE X e (t a)) : PE X e (fun σ H Q => ∃ a, t a σ H Q) := ⟨fun pins s σ H Q I ⟨a, q⟩ => (h a).run pins s σ H Q I q⟩
theorem pts_ex {X : Cx} {e : List Expr} {α : Type} {t : α → TT} (h : ∀ a, PTs X e (t a)) : PTs X e (fun σ H Q => ∃ a, t a σ H Q) := ⟨fun pins s σ H Q I ⟨a, q⟩ => (h a).run pins s σ H Q I q⟩

/-- an address forgotten -/
def HS.del (w : HS) (D : Addr) : HS := ⟨w.d, w.G, fun b => if b = D then none else w.H b, w.x⟩
theorem del_H {w : HS} {D p : Addr} (h : p ≠ D) : (w.del D).H p = w.H p := if_neg h
theorem del_D {w : HS} {D : Addr} : (w.del D).H D = none := if_pos rfl
theorem upd_del {w : HS} {D : Addr} {o : HO} : upd (w.del D).H D o = upd w.H D o := by
  funext b
  unfold upd
  by_cases h : b = D
  · rw [if_pos h, if_pos h]
  · rw [if_neg h, if_neg h, del_H h]
section
variable {K : PySem.W.Frag} {ci c4 : Option (List Int)} {wi u4 : HS} {D : Addr} {o : HO}
theorem del_gn (f : Wf ci wi) (hD : wi.H D = none) (g : Gr (wi.put D o) u4) : u4.G D = none := by
  cases q : u4.G D with
  | none => rfl
  | some u =>
    rcases g.n D (by rw [q]; simp) with z | z
    · exact absurd (f.gn hD) z
    · have z' : upd wi.H D o D = none := z
      rw [upd_same] at z'; cases z'
theorem del_nd (f : Wf ci wi) (hD : wi.H D = none) (g : Gr (wi.put D o) u4) : u4.d ≠ some D := g.nd (o := o) upd_same (f.ne hD)
theorem Gr.del (f : Wf ci wi) (hD : wi.H D = none) (g : Gr (wi.put D o) u4) : Gr wi (u4.del D) := by
  have pn : ∀ {p : Addr}, (wi.put D o).H p = none → wi.H p = none := fun {p} h => by
    by_cases hp : p = D
    · rw [hp]; exact hD
    · have h' : upd wi.H D o p = none := h
      rw [upd_ne hp] at h'; exact h'
  have ne : ∀ {p : Addr}, wi.H p ≠ none → p ≠ D := fun {p} h e => h (by rw [e]; exact hD)
  refine ⟨g.g, fun p q h n => ?_, fun p h => ?_, fun p h => ?_, ?_⟩
  · have hp := ne (p := p) (by rw [h]; simp)
    rw [del_H hp]
    exact g.h p q (by show upd wi.H D o p = some q; rw [upd_ne hp]; exact h) n
  · have hp := ne h
    rw [del_H hp]
    exact g.t p (upd_some h)
  · rcases g.n p h with z | z
    · exact .inl z
    · exact .inr (pn z)
  · rcases g.dm with z | ⟨z, p, e, hp⟩
    · exact .inl z
    · exact .inr ⟨z, p, e, pn hp⟩
theorem Wf.del (f : Wf ci wi) (hD : wi.H D = none) (g : Gr (wi.put D o) u4) (f4 : Wf c4 u4) : Wf c4 (u4.del D) := by
  refine ⟨fun b u e => ?_, f4.cel.imp fun a is e q1 q2 => ?_⟩
  · have hb : b ≠ D := fun z => by
      have e' : u4.G b = some u := e
      rw [z, del_gn f hD g] at e'; cases e'
    rw [del_H hb]
    exact f4.sub _ _ e
  · have ha : a ≠ D := fun z => del_nd f hD g (by rw [← z]; exact e)
    exact ⟨(del_H ha).trans q1, q2⟩
end

theorem dloop_cons {f : D → DM (Option D)} {x : D} {xs : List D} : dloop f (x :: xs) = dbind (f x) fun o => dbind (dloop f xs) fun r => dret (match o with
    | some y => y :: r
    | none => r) := rfl

/-- one turn of a comprehension -/
def turnC (C : Cn) (E : EnvD) (n : Nat) (tg elt : Expr) (ifs : List Expr) (vs : List Nat) (x : D) : DM (Option D) :=
  match bindT C n tg x (wipeD E vs) with
  | some E' => dbind (evIf C E' n ifs) fun b => if b = true then dbind (evK C E' n elt) fun y => dret (some y) else dret none
  | none => dwrong
theorem wipe_sub {σ : St} {vs : List Nat} : ∀ (us : List Nat), (∀ i ∈ us, i ∈ vs) → L2.wipe (L2.wipe σ us) vs = L2.wipe σ vs
  | [], _ => rfl
  | u :: us, h => by
    show L2.wipe ((L2.wipe σ us).set u none) vs = _
    rw [wipe_set (h u List.mem_cons_self), wipe_sub us fun i hi => h i (List.mem_cons_of_mem _ hi)]
theorem comp_imp {n : Nat} {X : Cx} {C : Cn} {W : WX} {E : EnvD} {elt tg iter : Expr} {ifs : List Expr} {scope : Scope}
    (ht : ((tgIx C n tg).all fun i => ((ownN C.N scope).map (·.2)).contains i) = true) (σ : St) (H : Hp) (Q : V → Hp → Prop)
    (h : tV X.K W E (dbind (evI C E n false tg iter) fun items => dif (lenOk items.length) (noErr (dbind (dloop (turnC { C with sc := relS scope C.sc, clc := fun y => scope.names.lookup y == some .cell } E n tg elt ifs ((ownN C.N scope).map (·.2))) items) fun ys => dret (.fr ys)))) σ H Q) :
    tLc (tI X.K W E false (evI C E n false tg iter)) (gD X.K { C with sc := relS scope C.sc, clc := fun y => scope.names.lookup y == some .cell } n tg) (fun σ H Q => ∃ E', tTe X.K W0 E' (evIf { C with sc := relS scope C.sc, clc := fun y => scope.names.lookup y == some .cell } E' n ifs) σ H Q)
      (fun σ H Q => ∃ E', tKe X.K W0 E' (evK { C with sc := relS scope C.sc, clc := fun y => scope.names.lookup y == some .cell } E' n elt) σ H Q) ((ownN C.N scope).map (·.2)) σ H Q := by
  generalize hvs : (ownN C.N scope).map (·.2) = vs at h ⊢ ht
  generalize hC' : ({ C with sc := relS scope C.sc, clc := fun y => scope.names.lookup y == some .cell } : Cn) = C' at h ⊢
  have htg : tgIx C' n tg = tgIx C n tg := by
    have : ∀ n, (∀ t, tgIx C' n t = tgIx C n t) ∧ ∀ ts, tgIxs C' n ts = tgIxs C n ts := by
      intro n
      induction n with
      | zero => exact ⟨fun _ => by simp [tgIx], fun _ => by simp [tgIxs]⟩
      | succ n ih =>
        refine ⟨fun t => ?_, fun ts => ?_⟩
        · cases t <;> simp only [tgIx, ih.2] <;> (subst hC'; rfl)
        · cases ts <;> simp only [tgIxs, ih.1, ih.2]
    exact (this n).1 tg
  obtain ⟨B, c, w, rfl, S, xo⟩ := h
  refine ⟨B, c, w, rfl, S, xo.bind.mono fun items c1 w1 g1 f1 x1 J hJ D hD => ?_⟩
  obtain ⟨hl, x1⟩ := x1.dif
  have x2 := (x1.noErr (W' := W0) (σ' := [])).bind
  have hlen := lenOk_le hl
  have S1 := S.grow g1 f1
  -- what the list is to be at the end
  let Fin (zs : List DL.D) (c' : Option (List Int)) (w' : HS) : Prop := XO X.K W0 [] w' (dret (RV.fr zs) c') fun a _ w'' => ∀ b, RepV X.K w w'' a b → Q b w''.H
  let Inv' (i : Nat) (Hc : Hp) : Prop := ∃ ci wi acc accV, Hc = upd wi.H D (.lst accV) ∧ Gr w1 wi ∧ Wf ci wi ∧ wi.H D = none ∧ Reps X.K wi.d wi.G acc accV ∧ acc.length ≤ i ∧
    XO X.K W0 [] wi (dloop (turnC C' E n tg elt ifs vs) (items.drop i) ci) fun ys c' w' => Fin (acc ++ ys) c' w'
  refine ⟨fun i m Hc => m = items.length - i ∧ i ≤ items.length ∧ Inv' i Hc, ⟨items.length, by simp, Nat.zero_le _, c1, w1, [], [], rfl, Gr.refl _, f1, hD, by simp [Reps], Nat.le_refl _, x2⟩, ?_⟩
  rintro i m Hc ⟨rfl, hi, ci, wi, acc, accV, rfl, gi, fi, hDi, ra, hal, xi⟩
  have gp : Gr wi (wi.put D (.lst accV)) := Gr.put fi hDi
  have fp : Wf ci (wi.put D (.lst accV)) := Wf.put fi hDi
  have At := hJ (wi.put D (.lst accV)) ci (gi.trans gp) fp
  by_cases hlt : i < items.length
  · refine .inr ⟨At.go i hlt, fun H' => Inv' (i + 1) H', fun H' hn => ⟨items.length - (i + 1), by omega, rfl, hlt, hn⟩, fun v H' hy => ?_⟩
    have hx : items[i]? = some items[i] := by simp [hlt]
    obtain ⟨u2, rfl, g2, f2, rx⟩ := At.yld i _ v H' hx hy
    rw [List.drop_eq_getElem_cons hlt, dloop_cons] at xi
    generalize items[i] = x at rx xi hx
    unfold turnC at xi
    cases hbt : bindT C' n tg x (wipeD E vs) with
    | none =>
      rw [hbt] at xi
      exact xi.elim
    | some E' =>
      rw [hbt] at xi
      dsimp only at xi
      rw [dbind_assoc] at xi
      have S2 := (S1.grow ((gi.trans gp).trans g2) f2).wipe vs
      refine ⟨B, wipeD E vs, ci, u2, x, E', rfl, S2, rx, hbt, fun σ2 S2' hw => ⟨(hw vs fun j hj => ?_).trans (wipe_sub vs fun _ h => h), ?_⟩⟩
      · rw [htg] at hj
        have := List.all_eq_true.mp ht j hj
        simpa using this
      · refine ⟨E', B, ci, u2, rfl, S2', xi.at_ (gp.trans g2) fun b c3 x3 w3 g3 f3 b' eb => ?_⟩
        have eb' : b' = b := eb
        subst eb'
        have next : ∀ (o : Option DL.D) (yv : List V) (w4 : HS) (c4 : Option (List Int)), Gr w3 w4 → Wf c4 w4 → Reps X.K w4.d w4.G o.toList yv → XO X.K W0 [] wi (dbind (dloop (turnC C' E n tg elt ifs vs) (items.drop (i + 1))) (fun r => dret (match o with
            | some y => y :: r
            | none => r)) c4) (fun ys c' w' => Fin (acc ++ ys) c' w') → Inv' (i + 1) (upd w4.H D (.lst (accV ++ yv))) := by
          intro o yv w4 c4 g4 f4 ry x4
          have gg : Gr (wi.put D (.lst accV)) w4 := (g2.trans g3).trans g4
          have gd := Gr.del fi hDi gg
          refine ⟨c4, w4.del D, acc ++ o.toList, accV ++ yv, upd_del.symm, gi.trans gd, Wf.del fi hDi gg f4, del_D, (HReps.mono ra gd).append ry, ?_, ?_⟩
          · rw [List.length_append]
            have : o.toList.length ≤ 1 := by cases o <;> simp
            omega
          · refine ((x4.up gd).bind).mono fun r c' w' g' f' hr => ?_
            have hr' := hr w' (Gr.refl _) f'
            cases o with
            | none => simpa using hr'
            | some y => simpa using hr'
        have hu : u2.H D = some (.lst accV) := g2.h D _ upd_same (fi.ne hDi)
        cases b' with
        | true =>
          rw [if_pos rfl, dbind_assoc] at x3
          show if true = true then _ else _
          rw [if_pos rfl]
          refine ⟨E', B, c3, w3, rfl, S2'.grow g3 f3, x3.at_ ((gp.trans g2).trans g3) fun y c4 x4 w4 g4 f4 yv ry => ?_⟩
          have h4 : w4.H D = some (.lst accV) := g4.h D _ (g3.h D _ hu (del_nd fi hDi g2)) (del_nd fi hDi (g2.trans g3))
          refine ⟨accV, h4, ?_, next (some y) [yv] w4 c4 g4 f4 (Reps.one ry) x4⟩
          rw [ra.length]
          omega
        | false =>
          rw [if_neg Bool.false_ne_true] at x3
          show if false = true then _ else _
          rw [if_neg Bool.false_ne_true]
          have h3 : w3.H D = some (.lst accV) := g3.h D _ hu (del_nd fi hDi g2)
          have e3 : upd w3.H D (.lst (accV ++ [])) = w3.H := by
            funext b
            by_cases hb : b = D
            · subst hb; rw [upd_same, h3, List.append_nil]
            · rw [upd_ne hb]
          have := next none [] w3 c3 (Gr.refl _) f3 (by simp [Reps]) x3
          rw [e3] at this
          exact this
  · have e : i = items.length := by omega
    subst e
    refine .inl ⟨At.stop _ (Nat.le_refl _), ?_⟩
    rw [List.drop_length] at xi
    have xf : Fin (acc ++ []) ci wi := xi wi (Gr.refl _) fi
    rw [List.append_nil] at xf
    exact xf.to gp fp _ ⟨D, accV, rfl, upd_same, ra, fi.gn hDi, fi.ne hDi, (g1.trans gi).t' hDi⟩
theorem comp_parts {n : Nat} (IH : Snd n) {X : Cx} {C : Cn} {W : WX} (k : Ck X C W) {elt tg iter : Expr} {ifs : List Expr} {scope : Scope} (hb : blkC C.N C.sc scope (ownN C.N scope) = true) (hi : iterB iter = true) :
    BlkOk X.N X.env.scope scope (ownN C.N scope) ∧ (∀ x, foldedSetIterable iter X.env x = pure x) ∧
    (∀ (s : Shared) (H : Hp) (c : Addr) (cl : List (Str × Addr)) (fp : List Addr), PG (X.blk s H scope (compEnvC scope cl c X.env) fp) tg (gD X.K { C with sc := relS scope C.sc, clc := fun y => scope.names.lookup y == some .cell } n tg)) ∧
    (∀ (s : Shared) (H : Hp) (c : Addr) (cl : List (Str × Addr)) (fp : List Addr), PTs (X.blk s H scope (compEnvC scope cl c X.env) fp) ifs (fun σ H Q => ∃ E', tTe X.K W0 E' (evIf { C with sc := relS scope C.sc, clc := fun y => scope.names.lookup y == some .cell } E' n ifs) σ H Q)) ∧
    (∀ (s : Shared) (H : Hp) (c : Addr) (cl : List (Str × Addr)) (fp : List Addr), PE (X.blk s H scope (compEnvC scope cl c X.env) fp) elt (fun σ H Q => ∃ E', tKe X.K W0 E' (evK { C with sc := relS scope C.sc, clc := fun y => scope.names.lookup y == some .cell } E' n elt) σ H Q)) := by
  refine ⟨by rw [k.N, k.sc]; exact blkOk_by hb, ?_, fun s H c cl fp => (pgD (X := X.blk s H scope (compEnvC scope cl c X.env) fp) (C := { C with sc := relS scope C.sc, clc := fun y => scope.names.lookup y == some .cell }) k.N k.nd (k.blk s H scope c cl fp).sc (k.blk s H scope c cl fp).clf k.calm n).1 tg,
    fun s H c cl fp => pts_ex fun E' => IH.if_ E' ifs (k.blk s H scope c cl fp), fun s H c cl fp => pe_ex fun E' => IH.k E' elt (k.blk s H scope c cl fp)⟩
  intro x
  cases iter <;> first | rfl | simp [iterB] at hi
theorem comp_ok {n : Nat} (IH : Snd n) {X : Cx} {C : Cn} {W : WX} (k : Ck X C W) {E : EnvD} {elt tg iter : Expr} {ifs : List Expr} {scope : Scope} {pos : Pos} (hb : blkC C.N C.sc scope (ownN C.N scope) = true)
    (hi : iterB iter = true) (ht : ((tgIx C n tg).all fun i => ((ownN C.N scope).map (·.2)).contains i) = true) :
    PE X (.ListComp elt [⟨tg, iter, ifs, 0⟩] scope pos) (tV X.K W E (dbind (evI C E n false tg iter) fun items => dif (lenOk items.length) (noErr (dbind (dloop (turnC { C with sc := relS scope C.sc, clc := fun y => scope.names.lookup y == some .cell } E n tg elt ifs ((ownN C.N scope).map (·.2))) items) fun ys => dret (.fr ys))))) := by
  obtain ⟨ok, hf, hg, hif, he⟩ := comp_parts IH k (elt := elt) (tg := tg) (ifs := ifs) hb hi
  exact pe_imp (pe_lc k.calm (by rw [k.N]; exact k.nd) (IH.i E false tg iter k) ok hg hif he hf) (comp_imp ht)
end DL

set_option maxHeartbeats 4000000
/-! DL9b: a comprehension of two clauses. -/
namespace DL
open PySem PySem.Spec PyProof.Rows L2
theorem XO.at0 {α β : Type} {K : PySem.W.Frag} {σ σ' : St} {w w2 : HS} {m : DM α} {f : α → DM β} {c : Option (List Int)} {post : β → Option (List Int) → HS → Prop} {P : α → Option (List Int) → HS → Prop}
    (h : XO K W0 σ w (dbind m f c) post) (g : Gr w w2) (k : ∀ a c', XO K W0 σ w (f a c') post → ∀ w3, Gr w2 w3 → Wf c' w3 → P a c' w3) : XO K W0 σ' w2 (m c) P := XO.at_ h g k
theorem noOwn_at {E : EnvD} (h : noOwn E = true) {i : Nat} {y : Option DV} (e : E[i]? = some y) : (∀ a b d, y ≠ some (.ins a b d)) ∧ ownB y = false := by
  have z := List.all_eq_true.mp h y (List.mem_of_getElem? e)
  cases y with
  | none => exact ⟨by simp, rfl⟩
  | some y => cases y with
    | fz x => exact ⟨by simp, rfl⟩
    | own _ => cases z
    | ins _ _ _ => cases z
    | dic _ => cases z
theorem SR.del {K : PySem.W.Frag} {B wi u : HS} {E : EnvD} {ci c : Option (List Int)} {σ : St} {Dp : Addr} {o : HO} (hn : noOwn E = true) (S : SR K B E c σ u) (f : Wf ci wi) (hD : wi.H Dp = none) (gB : Gr B wi) (g : Gr (wi.put Dp o) u) : SR K B E c σ (u.del Dp) := by
  refine ⟨Wf.del f hD g S.wf, gB.trans (Gr.del f hD g), S.len, fun i y e => ?_, S.ow, S.ds, S.sf⟩
  have so := S.sl i y e
  have no := noOwn_at hn e
  cases y with
  | none => trivial
  | some y => cases y with
    | fz x => exact so
    | own _ => cases no.2
    | dic _ => cases no.2
    | ins a b d => exact absurd rfl (no.1 a b d)
theorem tgIx_sc {C : Cn} {sc : Scope} {cl : Str → Bool} : ∀ n, (∀ t, tgIx { C with sc := sc, clc := cl } n t = tgIx C n t) ∧ ∀ ts, tgIxs { C with sc := sc, clc := cl } n ts = tgIxs C n ts := by
  intro n
  induction n with
  | zero => exact ⟨fun _ => by simp [tgIx], fun _ => by simp [tgIxs]⟩
  | succ n ih =>
    refine ⟨fun t => ?_, fun ts => ?_⟩
    · cases t <;> simp only [tgIx, ih.2]
    · cases ts <;> simp only [tgIxs, ih.1, ih.2]
def turn1 (C : Cn) (n : Nat) (E : EnvD) (tg elt : Expr) (ifs : List Expr) (vs : List Nat) (x : D) : DM (Option D) := turnC C E n tg elt ifs vs x
def turn2 (C : Cn) (n : Nat) (E : EnvD) (tg tg1 iter1 elt : Expr) (ifs ifs1 : List Expr) (vs vs1 : List Nat) (x : D) (acc : List D) : DM (List D) :=
  match bindT C n tg x (wipeD E vs) with
  | some E' => if noOwn E' = true then dbind (evIf C E' n ifs) fun b => if b = true then
      dbind (evI C E' n true tg1 iter1) fun items1 => dfold1 (turnC C E' n tg1 elt ifs1 vs1) acc items1 else dret acc else dwrong
  | none => dwrong
theorem dfold2_cons {f : D → List D → DM (List D)} {acc : List D} {x : D} {xs : List D} : dfold2 f acc (x :: xs) = dbind (f x acc) fun acc' => dfold2 f acc' xs := rfl
theorem dfold1_cons {f : D → DM (Option D)} {acc : List D} {x : D} {xs : List D} : dfold1 f acc (x :: xs) = dbind (f x) fun o => match o with
    | some y => dif (decide (acc.length < 16777216)) (dfold1 f (acc ++ [y]) xs)
    | none => dfold1 f acc xs := rfl
theorem put_del {w : HS} {Dp : Addr} {o : HO} (h : w.H Dp = some o) : w.H = upd (w.del Dp).H Dp o := by
  rw [upd_del]
  funext b
  by_cases hb : b = Dp
  · subst hb; rw [upd_same, h]
  · rw [upd_ne hb]
theorem comp2_imp {n : Nat} {X : Cx} {C : Cn} {W : WX} {E : EnvD} {elt tg iter tg1 iter1 : Expr} {ifs ifs1 : List Expr} {scope : Scope}
    (ht : ((tgIx C n tg).all fun i => ((ownN C.N scope).map (·.2)).contains i) = true) (σ : St) (H : Hp) (Q : V → Hp → Prop)
    (h : tV X.K W E (dbind (evI C E n false tg iter) fun items => noErr (dbind (dfold2 (turn2 { C with sc := relS scope C.sc, clc := fun y => scope.names.lookup y == some .cell } n E tg tg1 iter1 elt ifs ifs1 ((ownN C.N scope).map (·.2)) (tgIx C n tg1)) [] items) fun ys => dret (.fr ys))) σ H Q) :
    tLc2 (tI X.K W E false (evI C E n false tg iter)) (gD X.K { C with sc := relS scope C.sc, clc := fun y => scope.names.lookup y == some .cell } n tg) (fun σ H Q => ∃ E', tTe X.K W0 E' (evIf { C with sc := relS scope C.sc, clc := fun y => scope.names.lookup y == some .cell } E' n ifs) σ H Q)
      (fun σ H R => ∃ E', tI X.K W0 E' true (evI { C with sc := relS scope C.sc, clc := fun y => scope.names.lookup y == some .cell } E' n true tg1 iter1) σ H R) (gD X.K { C with sc := relS scope C.sc, clc := fun y => scope.names.lookup y == some .cell } n tg1) (fun σ H Q => ∃ E', tTe X.K W0 E' (evIf { C with sc := relS scope C.sc, clc := fun y => scope.names.lookup y == some .cell } E' n ifs1) σ H Q)
      (fun σ H Q => ∃ E', tKe X.K W0 E' (evK { C with sc := relS scope C.sc, clc := fun y => scope.names.lookup y == some .cell } E' n elt) σ H Q) ((ownN C.N scope).map (·.2)) (tgIx C n tg1) σ H Q := by
  generalize hvs : (ownN C.N scope).map (·.2) = vs at h ⊢ ht
  have htg : ∀ t, tgIx { C with sc := relS scope C.sc, clc := fun y => scope.names.lookup y == some .cell } n t = tgIx C n t := (tgIx_sc n).1
  generalize hv1 : tgIx C n tg1 = vs1 at h ⊢
  generalize hC' : ({ C with sc := relS scope C.sc, clc := fun y => scope.names.lookup y == some .cell } : Cn) = C' at h ⊢ htg
  obtain ⟨B, c, w, rfl, S, xo⟩ := h
  refine ⟨B, c, w, rfl, S, xo.bind.mono fun items c1 w1 g1 f1 x1 J hJ Dp hD => ?_⟩
  have x2 := (x1.noErr (W' := W0) (σ' := [])).bind
  have S1 := S.grow g1 f1
  let Fin (zs : List DL.D) (c' : Option (List Int)) (w' : HS) : Prop := XO X.K W0 [] w' (dret (RV.fr zs) c') fun a _ w'' => ∀ b, RepV X.K w w'' a b → Q b w''.H
  generalize hf : turn2 C' n E tg tg1 iter1 elt ifs ifs1 vs vs1 = tu at x2
  have htu : ∀ x acc, tu x acc = (match bindT C' n tg x (wipeD E vs) with
  | some E' => if noOwn E' = true then dbind (evIf C' E' n ifs) fun b => if b = true then
      dbind (evI C' E' n true tg1 iter1) fun items1 => dfold1 (turnC C' E' n tg1 elt ifs1 vs1) acc items1 else dret acc else dwrong
  | none => dwrong) := fun x acc => by rw [← hf]; rfl
  let Inv' (i : Nat) (Hc : Hp) : Prop := ∃ ci wi acc accV, Hc = upd wi.H Dp (.lst accV) ∧ Gr w1 wi ∧ Wf ci wi ∧ wi.H Dp = none ∧ Reps X.K wi.d wi.G acc accV ∧
    XO X.K W0 [] wi (dfold2 tu acc (items.drop i) ci) Fin
  refine ⟨fun i m Hc => m = items.length - i ∧ i ≤ items.length ∧ Inv' i Hc, ⟨items.length, by simp, Nat.zero_le _, c1, w1, [], [], rfl, Gr.refl _, f1, hD, by simp [Reps], x2⟩, ?_⟩
  rintro i m Hc ⟨rfl, hi, ci, wi, acc, accV, rfl, gi, fi, hDi, ra, xi⟩
  have gp : Gr wi (wi.put Dp (.lst accV)) := Gr.put fi hDi
  have fp : Wf ci (wi.put Dp (.lst accV)) := Wf.put fi hDi
  have At := hJ (wi.put Dp (.lst accV)) ci (gi.trans gp) fp
  by_cases hlt : i < items.length
  · refine .inr ⟨At.go i hlt, fun H' => Inv' (i + 1) H', fun H' hn => ⟨items.length - (i + 1), by omega, rfl, hlt, hn⟩, fun v H' hy => ?_⟩
    have hx : items[i]? = some items[i] := by simp [hlt]
    obtain ⟨u2, rfl, g2, f2, rx⟩ := At.yld i _ v H' hx hy
    rw [List.drop_eq_getElem_cons hlt, dfold2_cons] at xi
    generalize items[i] = x at rx xi hx
    rw [htu] at xi
    cases hbt : bindT C' n tg x (wipeD E vs) with
    | none =>
      rw [hbt] at xi
      exact xi.elim
    | some E' =>
      rw [hbt] at xi
      dsimp only at xi
      by_cases hno : noOwn E' = true
      · rw [if_pos hno, dbind_assoc] at xi
        have S2 := (S1.grow ((gi.trans gp).trans g2) f2).wipe vs
        refine ⟨B, wipeD E vs, ci, u2, x, E', rfl, S2, rx, hbt, fun σ2 S2' hw => ⟨(hw vs fun j hj => ?_).trans (wipe_sub vs fun _ h => h), ?_⟩⟩
        · rw [htg] at hj
          have := List.all_eq_true.mp ht j hj
          simpa using this
        · have hu : u2.H Dp = some (.lst accV) := g2.h Dp _ upd_same (fi.ne hDi)
          refine ⟨E', B, ci, u2, rfl, S2', xi.at0 (gp.trans g2) fun b c3 x3 w3 g3 f3 b' eb => ?_⟩
          have eb' : b' = b := eb
          subst eb'
          have h3 : w3.H Dp = some (.lst accV) := g3.h Dp _ hu (del_nd fi hDi g2)
          have g23 := g2.trans g3
          cases b' with
          | false =>
            rw [if_neg Bool.false_ne_true] at x3
            show if false = true then _ else _
            rw [if_neg Bool.false_ne_true]
            have gd := Gr.del fi hDi g23
            exact ⟨c3, w3.del Dp, acc, accV, put_del h3, gi.trans gd, Wf.del fi hDi g23 f3, del_D, HReps.mono ra gd, x3.up gd⟩
          | true =>
            rw [if_pos rfl, dbind_assoc] at x3
            show if true = true then _ else _
            rw [if_pos rfl]
            have S3 := S2'.grow g3 f3
            refine ⟨E', B, c3, w3, rfl, S3, x3.at0 (gp.trans g23) fun items1 c4 x4 w4 g4 f4 J1 hJ1 => ?_⟩
            have h4 : w4.H Dp = some (.lst accV) := g4.h Dp _ h3 (del_nd fi hDi g23)
            have g24 := g23.trans g4
            have gd := Gr.del fi hDi g24
            have fd := Wf.del fi hDi g24 f4
            have S4 := SR.del (o := .lst accV) hno (S3.grow g4 f4) fi hDi (S1.gr.trans gi) g24
            let Inn (j : Nat) (Hc : Hp) : Prop := ∃ cj wj acc accV, Hc = upd wj.H Dp (.lst accV) ∧ Gr (w4.del Dp) wj ∧ Wf cj wj ∧ wj.H Dp = none ∧ Reps X.K wj.d wj.G acc accV ∧
              XO X.K W0 [] wj (dbind (dfold1 (turnC C' E' n tg1 elt ifs1 vs1) acc (items1.drop j)) (fun acc' => dfold2 tu acc' (items.drop (i + 1))) cj) Fin
            refine ⟨fun j k Hc => k = items1.length - j ∧ j ≤ items1.length ∧ Inn j Hc, ⟨items1.length, by simp, Nat.zero_le _, c4, w4.del Dp, acc, accV, put_del h4, Gr.refl _, fd, del_D, HReps.mono ra gd, ?_⟩, ?_⟩
            · rw [List.drop_zero]
              exact x4.up gd
            · rintro j k Hc ⟨rfl, hj, cj, wj, acc, accV, rfl, gj, fj, hDj, raj, xj⟩
              have gpj : Gr wj (wj.put Dp (.lst accV)) := Gr.put fj hDj
              have fpj : Wf cj (wj.put Dp (.lst accV)) := Wf.put fj hDj
              have At1 := hJ1 (wj.put Dp (.lst accV)) cj (show Gf w4 (wj.put Dp (.lst accV)) from ⟨gj.g, gj.dd⟩) fpj
              by_cases hl1 : j < items1.length
              · refine .inr ⟨At1.go j hl1, fun H' => Inn (j + 1) H', fun H' hn => ⟨items1.length - (j + 1), by omega, rfl, hl1, hn⟩, fun v1 H' hy1 => ?_⟩
                have hx1 : items1[j]? = some items1[j] := by simp [hl1]
                obtain ⟨u5, rfl, g5, f5, rx5⟩ := At1.yld j _ v1 H' hx1 hy1
                rw [List.drop_eq_getElem_cons hl1, dfold1_cons, dbind_assoc] at xj
                generalize items1[j] = y1 at rx5 xj hx1
                unfold turnC at xj
                cases hb1 : bindT C' n tg1 y1 (wipeD E' vs1) with
                | none =>
                  rw [hb1] at xj
                  exact xj.elim
                | some E2 =>
                  rw [hb1] at xj
                  dsimp only at xj
                  rw [dbind_assoc] at xj
                  have S5 := (S4.grow ((gj.trans gpj).trans g5) f5).wipe vs1
                  refine ⟨B, wipeD E' vs1, cj, u5, y1, E2, rfl, S5, rx5, hb1, fun σ3 S5' hw1 => ⟨(hw1 vs1 fun q hq => ?_).trans (wipe_sub vs1 fun _ h => h), ?_⟩⟩
                  · rw [htg, hv1] at hq
                    exact hq
                  · have hu5 : u5.H Dp = some (.lst accV) := g5.h Dp _ upd_same (fj.ne hDj)
                    refine ⟨E2, B, cj, u5, rfl, S5', xj.at0 (gpj.trans g5) fun b c6 x6 w6 g6 f6 b' eb => ?_⟩
                    have eb' : b' = b := eb
                    subst eb'
                    have h6 : w6.H Dp = some (.lst accV) := g6.h Dp _ hu5 (del_nd fj hDj g5)
                    have g56 := g5.trans g6
                    cases b' with
                    | false =>
                      rw [if_neg Bool.false_ne_true] at x6
                      show if false = true then _ else _
                      rw [if_neg Bool.false_ne_true]
                      have gd6 := Gr.del fj hDj g56
                      exact ⟨c6, w6.del Dp, acc, accV, put_del h6, gj.trans gd6, Wf.del fj hDj g56 f6, del_D, HReps.mono raj gd6, x6.up gd6⟩
                    | true =>
                      rw [if_pos rfl, dbind_assoc] at x6
                      show if true = true then _ else _
                      rw [if_pos rfl]
                      refine ⟨E2, B, c6, w6, rfl, S5'.grow g6 f6, x6.at0 (gpj.trans g56) fun y c7 x7 w7 g7 f7 yv ry => ?_⟩
                      have h7 : w7.H Dp = some (.lst accV) := g7.h Dp _ h6 (del_nd fj hDj g56)
                      have g57 := g56.trans g7
                      have gd7 := Gr.del fj hDj g57
                      have x8 : XO X.K W0 [] wj (dbind (dif (decide (acc.length < 16777216)) (dfold1 (turnC C' E' n tg1 elt ifs1 vs1) (acc ++ [y]) (items1.drop (j + 1)))) (fun acc' => dfold2 tu acc' (items.drop (i + 1))) c7) Fin := x7
                      by_cases hz : acc.length < 16777216
                      · refine ⟨accV, h7, by rw [raj.length, sizeLine_eq]; exact hz, ?_⟩
                        have x9 : XO X.K W0 [] wj (dbind (dfold1 (turnC C' E' n tg1 elt ifs1 vs1) (acc ++ [y]) (items1.drop (j + 1))) (fun acc' => dfold2 tu acc' (items.drop (i + 1))) c7) Fin := by
                          unfold DL.dif at x8
                          rw [if_pos (decide_eq_true hz)] at x8
                          exact x8
                        exact ⟨c7, w7.del Dp, acc ++ [y], accV ++ [yv], upd_del.symm, gj.trans gd7, Wf.del fj hDj g57 f7, del_D, (HReps.mono raj gd7).append (Reps.one ry), x9.up gd7⟩
                      · exfalso
                        unfold DL.dif at x8
                        rw [if_neg (by simpa using hz)] at x8
                        exact x8
              · have e : j = items1.length := by omega
                subst e
                refine .inl ⟨At1.stop _ (Nat.le_refl _), ?_⟩
                rw [List.drop_length] at xj
                exact ⟨cj, wj, acc, accV, rfl, (gi.trans gd).trans gj, fj, hDj, raj, xj⟩
      · rw [if_neg hno] at xi; exact xi.elim
  · have e : i = items.length := by omega
    subst e
    refine .inl ⟨At.stop _ (Nat.le_refl _), ?_⟩
    rw [List.drop_length] at xi
    have xf : Fin acc ci wi := xi wi (Gr.refl _) fi
    exact xf.to gp fp _ ⟨Dp, accV, rfl, upd_same, ra, fi.gn hDi, fi.ne hDi, (g1.trans gi).t' hDi⟩
/-- what a two-clause comprehension asks of the text -/
def cond2 (C : Cn) (n : Nat) (scope : Scope) (tg iter tg1 iter1 : Expr) : Bool := (blkC C.N C.sc scope (ownN C.N scope) && iterB iter && iterB iter1 && (tgIx C n tg).all (fun i => ((ownN C.N scope).map (·.2)).contains i) && (tgIx C n tg1).all fun i => ((ownN C.N scope).map (·.2)).contains i)
theorem comp2_rule {n : Nat} (IH : Snd n) {X : Cx} {C : Cn} {W : WX} (k : Ck X C W) {E : EnvD} {elt tg iter tg1 iter1 : Expr} {ifs ifs1 : List Expr} {scope : Scope} {pos : Pos} (hb : cond2 C n scope tg iter tg1 iter1 = true) :
    PE X (.ListComp elt [⟨tg, iter, ifs, 0⟩, ⟨tg1, iter1, ifs1, 0⟩] scope pos) (tV X.K W E (dbind (evI C E n false tg iter) fun items => noErr (dbind (dfold2 (turn2 { C with sc := relS scope C.sc, clc := fun y => scope.names.lookup y == some .cell } n E tg tg1 iter1 elt ifs ifs1 ((ownN C.N scope).map (·.2)) (tgIx C n tg1)) [] items) fun ys => dret (.fr ys)))) ∧
    ∀ {i : Nat} {y : Str} {py spos : Pos}, X.N[i]? = some y → X.env.scope.names.lookup y = some .local → swapsWith (.ListComp elt [⟨tg, iter, ifs, 0⟩, ⟨tg1, iter1, ifs1, 0⟩] scope pos) (some (.Name y py)) spos.line X.env = pure true →
      PS X (.Assign [.Name y py] (.ListComp elt [⟨tg, iter, ifs, 0⟩, ⟨tg1, iter1, ifs1, 0⟩] scope pos) spos) (tAsg (tV X.K W E (dbind (evI C E n false tg iter) fun items => noErr (dbind (dfold2 (turn2 { C with sc := relS scope C.sc, clc := fun y => scope.names.lookup y == some .cell } n E tg tg1 iter1 elt ifs ifs1 ((ownN C.N scope).map (·.2)) (tgIx C n tg1)) [] items) fun ys => dret (.fr ys)))) (gName i)) := by
  unfold cond2 at hb
  rw [Bool.and_eq_true, Bool.and_eq_true, Bool.and_eq_true, Bool.and_eq_true] at hb
  obtain ⟨⟨⟨⟨h1, h2⟩, h3⟩, h4⟩, h5⟩ := hb
  have hN : X.N.Nodup := by rw [k.N]; exact k.nd
  have ok : BlkOk X.N X.env.scope scope (ownN C.N scope) := by rw [k.N, k.sc]; exact blkOk_by h1
  have hf : ∀ x, foldedSetIterable iter X.env x = pure x := by intro x; cases iter <;> first | rfl | simp [iterB] at h2
  have hf1 : ∀ env x, foldedSetIterable iter1 env x = pure x := by intro env x; cases iter1 <;> first | rfl | simp [iterB] at h3
  have hv : ∀ i ∈ tgIx C n tg1, i ∈ (ownN C.N scope).map (·.2) := fun i hi => by
    have := List.all_eq_true.mp h5 i hi
    simpa using this
  have hpg := fun (tg : Expr) (s : Shared) (H : Hp) (c : Addr) (cl : List (Str × Addr)) (fp : List Addr) => (pgD (X := X.blk s H scope (compEnvC scope cl c X.env) fp) (C := { C with sc := relS scope C.sc, clc := fun y => scope.names.lookup y == some .cell }) k.N k.nd (k.blk s H scope c cl fp).sc (k.blk s H scope c cl fp).clf k.calm n).1 tg
  have hif := fun (ifs : List Expr) (s : Shared) (H : Hp) (c : Addr) (cl : List (Str × Addr)) (fp : List Addr) => pts_ex fun E' => IH.if_ E' ifs (k.blk s H scope c cl fp)
  have hel := fun (s : Shared) (H : Hp) (c : Addr) (cl : List (Str × Addr)) (fp : List Addr) => pe_ex fun E' => IH.k E' elt (k.blk s H scope c cl fp)
  have hii := fun (s : Shared) (H : Hp) (c : Addr) (cl : List (Str × Addr)) (fp : List Addr) => (⟨fun pins s0 σ H0 R I ⟨E', q⟩ => (IH.i E' true tg1 iter1 (k.blk s H scope c cl fp)).run pins s0 σ H0 R I q⟩ :
    PI (X.blk s H scope (compEnvC scope cl c X.env) fp) tg1 iter1 (fun σ H R => ∃ E', tI X.K W0 E' true (evI { C with sc := relS scope C.sc, clc := fun y => scope.names.lookup y == some .cell } E' n true tg1 iter1) σ H R))
  refine ⟨pe_imp (pe_lc2 k.calm hN (IH.i E false tg iter k) ok hv (hpg tg) (hif ifs) hii (hpg tg1) (hif ifs1) hel hf hf1) (comp2_imp h4), fun {i y py spos} hi hy hs => ?_⟩
  exact ps_imp (ps_setLc2 k.calm hN hi hy hs (IH.i E false tg iter k) ok hv (hpg tg) (hif ifs) hii (hpg tg1) (hif ifs1) hel hf hf1) fun Z σ H h => comp2_imp h4 σ H _ h
end DL

set_option maxHeartbeats 4000000
/-! DL10: every expression means what it should. -/
namespace DL
open PySem PySem.Spec PyProof.Rows L2
theorem XO.bind0 {α β : Type} {K : PySem.W.Frag} {W : WX} {σ : St} {w : HS} {m : DM α} {f : α → DM β} {c : Option (List Int)} {post : β → Option (List Int) → HS → Prop} (h : XO K W σ w (dbind m f c) post) :
    XO K W σ w (m c) fun a c1 _ => XO K W σ w (f a c1) post := by
  unfold dbind at h
  cases e : m c with
  | wrong => rw [e] at h; exact h.elim
  | err x c1 => rw [e] at h; exact h
  | ok a c1 => rw [e] at h; exact fun _ _ _ => h
section
variable {K : PySem.W.Frag} {W : WX} {σ : St}
/-- a value kept -/
theorem XO.keep {w : HS} {m : DM RV} {c : Option (List Int)} {P : D → HS → Prop} (h : XO K W σ w (dbind m kOf c) fun a _ w' => P a w') :
    XO K W σ w (m c) fun r c1 w1 => ∀ v, RepV K w w1 r v → ∃ (y : D) (w2 : HS), w2.H = w1.H ∧ Wf c1 w2 ∧ Gr w w2 ∧ HRep K w2 y v ∧ P y w2 := by
  unfold dbind at h
  cases e : m c with
  | wrong => rw [e] at h; exact h.elim
  | err x c1 => rw [e] at h; exact h
  | ok r c1 =>
    rw [e] at h
    intro w1 g1 f1 v rv
    cases r with
    | fz x => exact ⟨x, w1, rfl, f1, g1, rv, h w1 g1 f1⟩
    | fr xs =>
      obtain ⟨p, vs, rfl, h1, r, h2, h3, h4⟩ := rv
      have g2 := Gr.frz (o := .lst vs) g1 h2 h4
      have f2 := Wf.frz f1 h1 h3
      refine ⟨.lst xs, w1.frz p (.lst vs), rfl, f2, g2, ?_, h _ g2 f2⟩
      simp only [HRep, Rep]
      exact ⟨p, vs, rfl, upd_same, Reps.mono (fun _ e => e) (same_new h2) _ _ r⟩
    | bo xs => exact h.elim
variable {X : Cx} {C : Cn} {E : EnvD} {e a b : Expr} {pos : Pos}
theorem tBo_of {m : DM RV} (h : PE X e (tV X.K W E m)) : PE X e (tBo X.K W E (dbind m bOf)) := pe_imp h fun σ H Q hh => by
  obtain ⟨B, c, w, rfl, S, x⟩ := hh
  exact ⟨B, c, w, rfl, S, x.bind.mono fun r c1 w1 g1 f1 x1 v rv => x1.here f1 v rv.toB⟩
theorem tKe_of {m : DM RV} (h : PE X e (tV X.K W E m)) : PE X e (tKe X.K W E (dbind m kOf)) := pe_imp h fun σ H Q hh => by
  obtain ⟨B, c, w, rfl, S, x⟩ := hh
  refine ⟨B, c, w, rfl, S, (XO.keep (P := fun y w' => ∀ b, HRep X.K w' y b → Q b w'.H) x).mono fun r c1 w1 g1 f1 x1 v rv => ?_⟩
  obtain ⟨y, w2, e2, _, _, r2, p2⟩ := x1 v rv
  rw [← e2]
  exact p2 v r2
theorem tOp_ok {r : R2} {ma mb : DM D} {f : D → D → DM RV} {K : PySem.W.Frag}
    (h : ∀ (W : WX) (σ : St) (w0 w : HS) (c : Option (List Int)) (x y : D) (v u : V) (Q : V → Hp → Prop), Wf c w → Gr w0 w → RepB K w x v → RepB K w y u → (XO K W σ w (f x y c) fun a _ w' => ∀ b, RepV K w0 w' a b → Q b w'.H) → r v u w.H Q)
    (σ : St) (H : Hp) (Q : V → Hp → Prop) (hh : tV K W E (dbind ma fun x => dbind mb fun y => f x y) σ H Q) : tOp r (tBo K W E ma) (tBo K W E mb) σ H Q := by
  obtain ⟨B, c, w, rfl, S, x⟩ := hh
  refine ⟨B, c, w, rfl, S, x.bind.mono fun x1 c1 w1 g1 f1 h1 v rv => ?_⟩
  refine ⟨B, c1, w1, rfl, S.grow g1 f1, h1.bind.mono fun x2 c2 w2 g2 f2 h2 u ru => ?_⟩
  exact h W σ w w2 c2 x1 x2 v u Q f2 (g1.trans g2) (rv.mono g2) ru h2
theorem const_ok {v : D} {u : V} (hf : ∀ w, HRep X.K w v u) (h : PE X e (tC u)) : PE X e (tV X.K W E (dret (.fz v))) := pe_imp h fun σ H Q hh => by
  obtain ⟨B, c, w, rfl, S, x⟩ := hh
  exact x.here S.wf _ (hf w)
theorem dbl_bl (o : Option Bool) (c : Option (List Int)) : dbl o c = .wrong ∨ ∃ b, dbl o c = .ok (.bl b) c := by
  cases o with
  | none => exact .inl rfl
  | some b => exact .inr ⟨b, rfl⟩
theorem cmp_bl (op : CmpOp) (x y : D) (c : Option (List Int)) : cmpD op x y c = .wrong ∨ ∃ b, cmpD op x y c = .ok (.bl b) c := by
  cases op with
  | Eq => exact dbl_bl _ c
  | NotEq => exact dbl_bl _ c
  | In => exact dbl_bl _ c
  | NotIn => exact dbl_bl _ c
  | Is => cases y <;> first | exact .inl rfl | exact .inr ⟨_, rfl⟩
  | IsNot => cases y <;> first | exact .inl rfl | exact .inr ⟨_, rfl⟩
  | _ => cases x <;> cases y <;> first | exact .inl rfl | exact .inr ⟨_, rfl⟩
theorem XO.cmp {α : Type} {op : CmpOp} {x y : D} {w : HS} {c : Option (List Int)} {f : D → DM α} {post : α → Option (List Int) → HS → Prop} (h : XO K W σ w (dbind (cmpD op x y) f c) post) :
    ∃ b, cmpD op x y c = .ok (.bl b) c ∧ XO K W σ w (f (.bl b) c) post := by
  rcases cmp_bl op x y c with e | ⟨b, e⟩
  · unfold dbind at h; rw [e] at h; exact h.elim
  · unfold dbind at h; rw [e] at h; exact ⟨b, e, h⟩
theorem cmp_to {op : CmpOp} {w : HS} {c : Option (List Int)} {x y : D} {v u : V} {b : Bool} {Q : V → Hp → Prop} (e : cmpD op x y c = .ok (.bl b) c) (f : Wf c w) (rx : RepB K w x v) (ry : RepB K w y u)
    (h : ∀ w', Gr w w' → Wf c w' → Q (.bl b) w'.H) : rCmp K op v u w.H Q :=
  cmpD_ok (W := W0) (σ := []) (w0 := w) f rx ry (by rw [e]; exact fun w' g f b' rb => by rw [B_bl rb]; exact h w' g f)
theorem XO.bl {α : Type} {x : D} {w : HS} {c : Option (List Int)} {f : Bool → DM α} {post : α → Option (List Int) → HS → Prop} (h : XO K W σ w (dbind (blD x) f c) post) :
    ∃ b, x = .bl b ∧ XO K W σ w (f b c) post := by
  cases x <;> first | exact h.elim | exact ⟨_, rfl, h⟩
theorem XO.int {α : Type} {x : D} {w : HS} {c : Option (List Int)} {f : Int → DM α} {post : α → Option (List Int) → HS → Prop} (h : XO K W σ w (dbind (intD x) f c) post) :
    ∃ b, x = .int b ∧ XO K W σ w (f b c) post := by
  cases x <;> first | exact h.elim | exact ⟨_, rfl, h⟩
theorem XO.tru {x : D} {w : HS} {c : Option (List Int)} {post : Bool → Option (List Int) → HS → Prop} (h : XO K W σ w (dtru x c) post) :
    ∃ b, truD x = some b ∧ XO K W σ w (dret b c) post := by
  unfold dtru at h
  cases e : truD x with
  | none => rw [e] at h; exact h.elim
  | some b => rw [e] at h; exact ⟨b, rfl, h⟩

/-! ### wrong at once -/
theorem tG_no {α β : Type} {rep : HS → HS → α → β → Prop} {m : DM α} (hm : ∀ c, m c = .wrong) {σ : St} {H : Hp} {Q : β → Hp → Prop} : ¬ tG K W E m rep σ H Q := fun ⟨B, c, w, _, _, x⟩ => by rw [hm c] at x; exact x
theorem pe_no {e : Expr} {t : TE} (h : ∀ σ H Q, ¬ t σ H Q) : PE X e t := ⟨fun pins s σ H Q I hh => (h σ H Q hh).elim⟩
theorem pt_no {e : Expr} {t : TT} (h : ∀ σ H Q, ¬ t σ H Q) : PT X e t := ⟨fun pins s σ H Q I hh => (h σ H Q hh).elim⟩
theorem pts_no {e : List Expr} {t : TT} (h : ∀ σ H Q, ¬ t σ H Q) : PTs X e t := ⟨fun pins s σ H Q I hh => (h σ H Q hh).elim⟩
theorem pa_no {e : List Expr} {t : TA} (h : ∀ σ H Q, ¬ t σ H Q) : PA X e t := ⟨fun pos pins s σ H Q I hh => (h σ H Q hh).elim⟩
theorem po_no {e : Option Expr} {t : TO} (h : ∀ σ H Q, ¬ t σ H Q) : PO X e t := ⟨fun pins s σ H Q I hh => (h σ H Q hh).elim⟩
theorem pi_no {tg e : Expr} {t : TI} (h : ∀ σ H Q, ¬ t σ H Q) : PI X tg e t := ⟨fun pins s σ H Q I hh => (h σ H Q hh).elim⟩
theorem po_imp {e : Option Expr} {t t' : TO} (h : PO X e t) (f : ∀ σ H Q, t' σ H Q → t σ H Q) : PO X e t' := ⟨fun pins s σ H Q I q => h.run pins s σ H Q I (f _ _ _ q)⟩
theorem pts_imp {e : List Expr} {t t' : TT} (h : PTs X e t) (f : ∀ σ H Q, t' σ H Q → t σ H Q) : PTs X e t' := ⟨fun pins s σ H Q I q => h.run pins s σ H Q I (f _ _ _ q)⟩
theorem Snd.zero : Snd 0 where
  ev := fun E e k => pe_no fun σ H Q h => tG_no (fun c => rfl) h
  b := fun E e k => pe_no fun σ H Q h => tG_no (fun c => rfl) h
  k := fun E e k => pe_no fun σ H Q h => tG_no (fun c => rfl) h
  l := fun E e k _ => pa_no fun σ H Q h => tG_no (fun c => rfl) h
  lb := fun E e k _ => pa_no fun σ H Q h => tG_no (fun c => rfl) h
  o := fun E e k => po_no fun σ H Q h => tG_no (fun c => rfl) h
  t := fun E e k => pt_no fun σ H Q h => tG_no (fun c => rfl) h
  tw := fun E op es p k => ⟨fun wh pins s σ H Q I h => (tG_no (fun c => rfl) h).elim⟩
  if_ := fun E e k => pts_no fun σ H Q h => tG_no (fun c => rfl) h
  w := fun E kk e k => pe_no fun σ H Q h => tG_no (fun c => rfl) h
  i := fun E kk tg e k => pi_no fun σ H Q ⟨B, c, w, _, _, x⟩ => x.elim
end
end DL

set_option maxHeartbeats 4000000
/-! DL11: the step of the induction over expressions. -/
namespace DL
open PySem PySem.Spec PyProof.Rows L2
section
variable {X : Cx} {C : Cn} {W : WX} {E : EnvD} {n : Nat}
theorem un_neg_ok {m : DM D} (σ : St) (H : Hp) (Q : V → Hp → Prop) (hh : tV X.K W E (dbind m fun x => dbind (intD x) fun i => dret (.fz (.int (-i)))) σ H Q) : tUn (rU fun i => .int (-i)) (tBo X.K W E m) σ H Q := by
  obtain ⟨B, c, w, rfl, S, x⟩ := hh
  refine ⟨B, c, w, rfl, S, x.bind.mono fun x1 c1 w1 g1 f1 h1 v rv => ?_⟩
  obtain ⟨i, rfl, h2⟩ := h1.int
  exact ⟨i, B_int rv, h2.here f1 _ (by simp [RepV, Rep])⟩
theorem notV_ok {m : DM D} (σ : St) (H : Hp) (Q : V → Hp → Prop) (hh : tV X.K W E (dbind m fun x => dbind (blD x) fun b => dret (.fz (.bl (!b)))) σ H Q) : tNotV (tBo X.K W E m) σ H Q := by
  obtain ⟨B, c, w, rfl, S, x⟩ := hh
  refine ⟨B, c, w, rfl, S, x.bind.mono fun x1 c1 w1 g1 f1 h1 v rv => ?_⟩
  obtain ⟨i, rfl, h2⟩ := h1.bl
  exact ⟨i, B_bl rv, h2.here f1 _ (by simp [RepV, Rep])⟩
theorem andV_ok {m : DM D} {m2 : DM RV} (σ : St) (H : Hp) (Q : V → Hp → Prop) (hh : tV X.K W E (dbind m fun x => dbind (blD x) fun t => if t = true then m2 else dret (.fz (.bl false))) σ H Q) : tAndV (tBo X.K W E m) (tV X.K W E m2) σ H Q := by
  obtain ⟨B, c, w, rfl, S, x⟩ := hh
  refine ⟨B, c, w, rfl, S, x.bind.mono fun x1 c1 w1 g1 f1 h1 v rv => ?_⟩
  obtain ⟨t, rfl, h2⟩ := h1.bl
  refine ⟨t, B_bl rv, ?_⟩
  cases t with
  | true =>
    rw [if_pos rfl] at h2 ⊢
    exact ⟨B, c1, w1, rfl, S.grow g1 f1, h2.mono fun a c2 w2 g2 f2 q b rb => q b (rb.back g1)⟩
  | false =>
    rw [if_neg Bool.false_ne_true] at h2 ⊢
    exact h2.here f1 _ (by simp [RepV, Rep])
theorem orV_ok {m : DM D} {m2 : DM RV} (σ : St) (H : Hp) (Q : V → Hp → Prop) (hh : tV X.K W E (dbind m fun x => dbind (blD x) fun t => if t = true then dret (.fz (.bl true)) else m2) σ H Q) : tOrV (tBo X.K W E m) (tV X.K W E m2) σ H Q := by
  obtain ⟨B, c, w, rfl, S, x⟩ := hh
  refine ⟨B, c, w, rfl, S, x.bind.mono fun x1 c1 w1 g1 f1 h1 v rv => ?_⟩
  obtain ⟨t, rfl, h2⟩ := h1.bl
  refine ⟨t, B_bl rv, ?_⟩
  cases t with
  | false =>
    rw [if_neg Bool.false_ne_true] at h2 ⊢
    exact ⟨B, c1, w1, rfl, S.grow g1 f1, h2.mono fun a c2 w2 g2 f2 q b rb => q b (rb.back g1)⟩
  | true =>
    rw [if_pos rfl] at h2 ⊢
    exact h2.here f1 _ (by simp [RepV, Rep])
theorem ifV_ok {m : DM Bool} {m2 m3 : DM RV} (σ : St) (H : Hp) (Q : V → Hp → Prop) (hh : tV X.K W E (dbind m fun t => if t = true then m2 else m3) σ H Q) : tIf (tTe X.K W E m) (tV X.K W E m2) (tV X.K W E m3) σ H Q := by
  obtain ⟨B, c, w, rfl, S, x⟩ := hh
  refine ⟨B, c, w, rfl, S, x.bind.mono fun t c1 w1 g1 f1 h1 b eb => ?_⟩
  have eb' : b = t := eb
  subst eb'
  cases b with
  | true =>
    rw [if_pos rfl] at h1
    show if true = true then _ else _
    rw [if_pos rfl]
    exact ⟨B, c1, w1, rfl, S.grow g1 f1, h1.mono fun a c2 w2 g2 f2 q b rb => q b (rb.back g1)⟩
  | false =>
    rw [if_neg Bool.false_ne_true] at h1
    show if false = true then _ else _
    rw [if_neg Bool.false_ne_true]
    exact ⟨B, c1, w1, rfl, S.grow g1 f1, h1.mono fun a c2 w2 g2 f2 q b rb => q b (rb.back g1)⟩
theorem cmpV_ok {op : CmpOp} {ma mb : DM D} (σ : St) (H : Hp) (Q : V → Hp → Prop) (hh : tV X.K W E (dbind ma fun x => dbind mb fun y => dbind (cmpD op x y) fun z => dret (.fz z)) σ H Q) : tOp (rCmp X.K op) (tBo X.K W E ma) (tBo X.K W E mb) σ H Q := by
  obtain ⟨B, c, w, rfl, S, x⟩ := hh
  refine ⟨B, c, w, rfl, S, x.bind.mono fun x1 c1 w1 g1 f1 h1 v rv => ?_⟩
  refine ⟨B, c1, w1, rfl, S.grow g1 f1, h1.bind.mono fun x2 c2 w2 g2 f2 h2 u ru => ?_⟩
  obtain ⟨b, e, h3⟩ := h2.cmp
  exact cmp_to e f2 (rv.mono g2) ru fun w' g f => h3.to g f _ (by simp [RepV, Rep])
theorem cmpT_ok {op : CmpOp} {ma mb : DM D} (σ : St) (H : Hp) (Q : Bool → Hp → Prop) (hh : tTe X.K W E (dbind ma fun x => dbind mb fun y => dbind (cmpD op x y) fun z => blD z) σ H Q) : tTest (tOp (rCmp X.K op) (tBo X.K W E ma) (tBo X.K W E mb)) σ H Q := by
  obtain ⟨B, c, w, rfl, S, x⟩ := hh
  refine ⟨B, c, w, rfl, S, x.bind.mono fun x1 c1 w1 g1 f1 h1 v rv => ?_⟩
  refine ⟨B, c1, w1, rfl, S.grow g1 f1, h1.bind.mono fun x2 c2 w2 g2 f2 h2 u ru => ?_⟩
  obtain ⟨b, e, h3⟩ := h2.cmp
  exact cmp_to e f2 (rv.mono g2) ru fun w' g f => ⟨b, rfl, (show XO X.K W σ w2 (dret b c2) _ from h3).to g f _ rfl⟩
theorem chainV_ok {o1 o2 : CmpOp} {ma mb mc : DM D} (σ : St) (H : Hp) (Q : V → Hp → Prop) (hh : tV X.K W E (dbind ma fun x => dbind mb fun y => dbind (cmpD o1 x y) fun z => dbind (blD z) fun t => if t = true then dbind mc fun u => dbind (cmpD o2 y u) fun z => dret (.fz z) else dret (.fz (.bl false))) σ H Q) :
    tChain (rCmp X.K o1) (rCmp X.K o2) (tBo X.K W E ma) (tBo X.K W E mb) (tBo X.K W E mc) σ H Q := by
  obtain ⟨B, c, w, rfl, S, x⟩ := hh
  refine ⟨B, c, w, rfl, S, x.bind.mono fun x1 c1 w1 g1 f1 h1 v rv => ?_⟩
  refine ⟨B, c1, w1, rfl, S.grow g1 f1, h1.bind.mono fun x2 c2 w2 g2 f2 h2 u ru => ?_⟩
  obtain ⟨b, e, h3⟩ := h2.cmp
  obtain ⟨t, et, h4⟩ := h3.bl
  cases et
  refine cmp_to e f2 (rv.mono g2) ru fun w3 g3 f3 => ⟨b, rfl, ?_⟩
  cases b with
  | true =>
    rw [if_pos rfl] at h4 ⊢
    refine ⟨B, c2, w3, rfl, ((S.grow g1 f1).grow g2 f2).grow g3 f3, (h4.up g3).bind.mono fun x4 c4 w4 g4 f4 h5 z rz => ?_⟩
    obtain ⟨b', e', h6⟩ := h5.cmp
    exact cmp_to e' f4 ((ru.mono g3).mono g4) rz fun w' g f => h6.to g f _ (by simp [RepV, Rep])
  | false =>
    rw [if_neg Bool.false_ne_true] at h4 ⊢
    exact h4.to g3 f3 _ (by simp [RepV, Rep])
theorem chainT_ok {o1 o2 : CmpOp} {ma mb mc : DM D} (σ : St) (H : Hp) (Q : Bool → Hp → Prop) (hh : tTe X.K W E (dbind ma fun x => dbind mb fun y => dbind (cmpD o1 x y) fun z => dbind (blD z) fun t => if t = true then dbind mc fun u => dbind (cmpD o2 y u) fun z => blD z else dret false) σ H Q) :
    tTest (tChain (rCmp X.K o1) (rCmp X.K o2) (tBo X.K W E ma) (tBo X.K W E mb) (tBo X.K W E mc)) σ H Q := by
  obtain ⟨B, c, w, rfl, S, x⟩ := hh
  refine ⟨B, c, w, rfl, S, x.bind.mono fun x1 c1 w1 g1 f1 h1 v rv => ?_⟩
  refine ⟨B, c1, w1, rfl, S.grow g1 f1, h1.bind.mono fun x2 c2 w2 g2 f2 h2 u ru => ?_⟩
  obtain ⟨b, e, h3⟩ := h2.cmp
  obtain ⟨t, et, h4⟩ := h3.bl
  cases et
  refine cmp_to e f2 (rv.mono g2) ru fun w3 g3 f3 => ⟨b, rfl, ?_⟩
  cases b with
  | true =>
    rw [if_pos rfl] at h4 ⊢
    refine ⟨B, c2, w3, rfl, ((S.grow g1 f1).grow g2 f2).grow g3 f3, (h4.up g3).bind.mono fun x4 c4 w4 g4 f4 h5 z rz => ?_⟩
    obtain ⟨b', e', h6⟩ := h5.cmp
    exact cmp_to e' f4 ((ru.mono g3).mono g4) rz fun w' g f => ⟨b', rfl, (show XO X.K W σ w4 (dret b' c4) _ from h6).to g f _ rfl⟩
  | false =>
    rw [if_neg Bool.false_ne_true] at h4 ⊢
    exact ⟨false, rfl, h4.to g3 f3 _ rfl⟩
theorem tupV_ok {m : DM (List D)} (σ : St) (H : Hp) (Q : V → Hp → Prop) (hh : tV X.K W E (dbind m fun xs => dif (lenOk xs.length) (dret (.fz (.tup xs)))) σ H Q) : tTup (tAk X.K W E m) σ H Q := by
  obtain ⟨B, c, w, rfl, S, x⟩ := hh
  refine ⟨B, c, w, rfl, S, x.bind.mono fun xs c1 w1 g1 f1 h1 vs rs => ?_⟩
  obtain ⟨hl, h2⟩ := h1.dif
  refine ⟨by rw [rs.length]; exact lenOk_le hl, fun p hp => ?_⟩
  exact h2.to (Gr.lay f1 hp) (Wf.lay f1 hp) _ (rep_lay_tup f1 hp rs)
theorem lstV_ok {m : DM (List D)} (σ : St) (H : Hp) (Q : V → Hp → Prop) (hh : tV X.K W E (dbind m fun xs => dif (lenOk xs.length) (dret (.fr xs))) σ H Q) : tLst (tAk X.K W E m) σ H Q := by
  obtain ⟨B, c, w, rfl, S, x⟩ := hh
  refine ⟨B, c, w, rfl, S, x.bind.mono fun xs c1 w1 g1 f1 h1 vs rs => ?_⟩
  obtain ⟨hl, h2⟩ := h1.dif
  refine ⟨by rw [rs.length]; exact lenOk_le hl, fun p hp => ?_⟩
  exact h2.to (Gr.put f1 hp) (Wf.put f1 hp) _ (rep_put_lst f1 g1 hp rs)
theorem slV_ok {m : DM D} {ml mh : DM (Option Int)} (σ : St) (H : Hp) (Q : V → Hp → Prop) (hh : tV X.K W E (dbind m fun x => dbind ml fun l => dbind mh fun h => slD x l h) σ H Q) :
    tSl (rSlD X.K) (tBo X.K W E m) (tG X.K W E ml fun _ _ o o' => o' = o) (tG X.K W E mh fun _ _ o o' => o' = o) σ H Q := by
  obtain ⟨B, c, w, rfl, S, x⟩ := hh
  refine ⟨B, c, w, rfl, S, x.bind.mono fun x1 c1 w1 g1 f1 h1 v rv => ?_⟩
  refine ⟨B, c1, w1, rfl, S.grow g1 f1, h1.bind.mono fun l c2 w2 g2 f2 h2 l' el => ?_⟩
  refine ⟨B, c2, w2, rfl, (S.grow g1 f1).grow g2 f2, h2.bind.mono fun u c3 w3 g3 f3 h3 u' eu => ?_⟩
  have el' : l' = l := el
  have eu' : u' = u := eu
  subst el' eu'
  exact slD_ok (W := W) (σ := σ) f3 ((g1.trans g2).trans g3) ((rv.mono g2).mono g3) h3
theorem andT_ok {m m2 : DM Bool} (σ : St) (H : Hp) (Q : Bool → Hp → Prop) (hh : tTe X.K W E (dbind m fun t => if t = true then m2 else dret false) σ H Q) : tAnd (tTe X.K W E m) (tTe X.K W E m2) σ H Q := by
  obtain ⟨B, c, w, rfl, S, x⟩ := hh
  refine ⟨B, c, w, rfl, S, x.bind.mono fun t c1 w1 g1 f1 h1 b eb => ?_⟩
  have eb' : b = t := eb
  subst eb'
  cases b with
  | true =>
    rw [if_pos rfl] at h1
    show if true = true then _ else _
    rw [if_pos rfl]
    exact ⟨B, c1, w1, rfl, S.grow g1 f1, h1⟩
  | false =>
    rw [if_neg Bool.false_ne_true] at h1
    show if false = true then _ else _
    rw [if_neg Bool.false_ne_true]
    exact h1.here f1 _ rfl
theorem orT_ok {m m2 : DM Bool} (σ : St) (H : Hp) (Q : Bool → Hp → Prop) (hh : tTe X.K W E (dbind m fun t => if t = true then dret true else m2) σ H Q) : tOr (tTe X.K W E m) (tTe X.K W E m2) σ H Q := by
  obtain ⟨B, c, w, rfl, S, x⟩ := hh
  refine ⟨B, c, w, rfl, S, x.bind.mono fun t c1 w1 g1 f1 h1 b eb => ?_⟩
  have eb' : b = t := eb
  subst eb'
  cases b with
  | false =>
    rw [if_neg Bool.false_ne_true] at h1
    show if false = true then _ else _
    rw [if_neg Bool.false_ne_true]
    exact ⟨B, c1, w1, rfl, S.grow g1 f1, h1⟩
  | true =>
    rw [if_pos rfl] at h1
    show if true = true then _ else _
    rw [if_pos rfl]
    exact h1.here f1 _ rfl
theorem notT_ok {m : DM Bool} (σ : St) (H : Hp) (Q : Bool → Hp → Prop) (hh : tTe X.K W E (dbind m fun b => dret (!b)) σ H Q) : tNot (tTe X.K W E m) σ H Q := by
  obtain ⟨B, c, w, rfl, S, x⟩ := hh
  refine ⟨B, c, w, rfl, S, x.bind.mono fun t c1 w1 g1 f1 h1 b eb => ?_⟩
  have eb' : b = t := eb
  subst eb'
  exact h1.here f1 _ rfl
theorem truT_ok {e : Expr} {m : DM D} (h : PE X e (tBo X.K W E m)) (he : ∀ whole, isTrue e X.env whole = (do let v ← whole; standAt e.pos; holding [v] (truthy v))) : PT X e (tTe X.K W E (dbind m dtru)) := pt_imp (pt_truth h he) fun σ H Q hh => by
  obtain ⟨B, c, w, rfl, S, x⟩ := hh
  refine ⟨B, c, w, rfl, S, x.bind.mono fun y c1 w1 g1 f1 h1 v rv => ?_⟩
  obtain ⟨b, eb, h2⟩ := h1.tru
  exact ⟨b, tru_okD f1 eb rv, h2.here f1 _ rfl⟩
theorem plain_ix {b : Expr} (h : isSlice b = false) : PlainIx b := fun o i => by
  cases b <;> first | rfl | simp [isSlice] at h
theorem seqI_ok {m : DM D} {kk : Bool} (σ : St) (H : Hp) (R : It → Hp → Prop) (hh : tI X.K W E kk (dbind m fun x => dget (items? x)) σ H R) : iSeq X.K (tG X.K W E m fun _ w x v => RepW X.K kk w x v) σ H R := by
  obtain ⟨B, c, w, rfl, S, x⟩ := hh
  refine ⟨B, c, w, rfl, S, x.bind.mono fun y c1 w1 g1 f1 h1 v rv => ?_⟩
  cases e : items? y with
  | none => rw [e] at h1; exact h1.elim
  | some xs =>
    rw [e] at h1
    obtain ⟨a, vs, rfl, q⟩ := it_seq f1 e rv
    refine ⟨a, vs, rfl, ?_⟩
    rcases q with ⟨q1, q2⟩ | ⟨q1, q2⟩
    · exact .inl ⟨q1, (show XO X.K W σ w1 (dret xs c1) _ from h1).here f1 _ q2⟩
    · exact .inr ⟨q1, (show XO X.K W σ w1 (dret xs c1) _ from h1).here f1 _ q2⟩
end
end DL

set_option maxHeartbeats 4000000
/-! DL7m: o.m(..), the class told by what o is. -/
namespace DL
open PySem PySem.Spec PyProof.Rows L2
section
variable {X : Cx} {C : Cn} {W : WX} {E : EnvD}
/-- the method that is run -/
structure MAt (X : Cx) (H1 : Hp) (x : V) (m : Str) (a : Addr) (sp : Sp) : Prop where
  ex : x = .ref a ∧ ∃ (cl : Addr) (dx : Addr) (fs : List (Str × V)) (f : Addr) (k : Nat) (fd : FuncData) (ps : List Str), H1 a = some (.ins cl dx fs) ∧ fs.lookup m = none ∧ Cls X.K cl ∧ Meth X.K cl m f ∧
    FnOk X.prog X.w X.K X.mg X.base (L2.CX X.prog X.w) k f fd ps sp ∧ Room k X.A ∧ L2.Binds X.K fd ps []
theorem pe_methD {o e : Expr} {es : List Expr} {m : Str} {ap pos : Pos} {ta : TE} {t : TA} {pl : Sem Bool} {Ex : St → XK} (he : PE X o ta) (ha : PA X (e :: es) t) (hx : ∀ σ, PassesAt (L2.CX X.prog X.w) X σ (Ex σ))
    (st1 : starEach (e :: es) X.env = (false, eval e X.env) :: starEach es X.env) (st2 : (backTo pos (starEach es X.env)).any (·.1) = false)
    (ev0 : eval (.Call (.Attribute o m ap) (e :: es) [] pos) X.env = (do
      let ov ← eval o X.env
      standAt ap.atName
      let (f, first) ← holding [ov] (getMethod ov m pl)
      callWith pos f first (backTo pos (starEach (e :: es) X.env)) (backToKw pos (keywordEach [] X.env)))) :
    PE X (.Call (.Attribute o m ap) (e :: es) [] pos) (fun σ H Q => ta σ H fun x H1 => ∃ a sp, MAt X H1 x m a sp ∧ t σ H1 fun vs H2 => sp (x :: vs) H2 Q (Ex σ)) := by
  constructor
  intro pins s σ H Q I pre
  refine PySem.W.methodCall_KW (pl := pl) (thn (he.run pins s σ H _ I pre) fun u s1 got => ?_) ev0
  obtain ⟨x, H1, I1, rx, a, sp, ⟨ex, cl, dx, fs, f, k, fd, ps, here, free, C0, M0, F, room, bs⟩, post⟩ := got
  subst ex
  cases rx
  refine getmeth_ok I1 here C0 M0 free (PySem.W.callWith_K (h₀ := X.base) (first := [.ref a]) I.ok.mod.kin M0.kp (thn (ha.run pos pins s1 σ H1 _ I1 post) fun us s2 args => ?_) st1 st2)
  obtain ⟨vs, H2, I2, rs, q⟩ := args
  exact ⟨I2.kIn, run_fnS (vs := .ref a :: vs) (us := .ref a :: us) F room bs (hx σ) I2 (.cons rfl rs) q⟩
theorem pe_methD0 {o : Expr} {m : Str} {ap pos : Pos} {ta : TE} {pl : Sem Bool} {Ex : St → XK} (he : PE X o ta) (hx : ∀ σ, PassesAt (L2.CX X.prog X.w) X σ (Ex σ))
    (ev0 : eval (.Call (.Attribute o m ap) [] [] pos) X.env = (do
      let ov ← eval o X.env
      standAt ap.atName
      let (f, first) ← holding [ov] (getMethod ov m pl)
      callWith pos f first (backTo pos (starEach [] X.env)) (backToKw pos (keywordEach [] X.env)))) :
    PE X (.Call (.Attribute o m ap) [] [] pos) (fun σ H Q => ta σ H fun x H1 => ∃ a sp, MAt X H1 x m a sp ∧ sp [x] H1 Q (Ex σ)) := by
  constructor
  intro pins s σ H Q I pre
  refine PySem.W.methodCall_KW (pl := pl) (thn (he.run pins s σ H _ I pre) fun u s1 got => ?_) ev0
  obtain ⟨x, H1, I1, rx, a, sp, ⟨ex, cl, dx, fs, f, k, fd, ps, here, free, C0, M0, F, room, bs⟩, post⟩ := got
  subst ex
  cases rx
  have gone := run_fnS (vs := [.ref a]) (us := [.ref a]) F room bs (hx σ) I1 (.cons rfl .nil) post
  exact getmeth_ok I1 here C0 M0 free (PySem.W.callWith_K0 (first := [.ref a]) I1.kIn M0.kp gone)
def mPl (x : Str) (p : Pos) (env : Env) : Sem Bool := do return (← importBound (.Name x p) env).getD true
theorem meth_ev0 {x m : Str} {p ap pos : Pos} {es : List Expr} {env : Env} (hl : mtF ap pos es = true) (hs : es.any starB = false) : eval (.Call (.Attribute (.Name x p) m ap) es [] pos) env = (do
      let ov ← eval (.Name x p) env
      standAt ap.atName
      let (f, first) ← holding [ov] (getMethod ov m (mPl x p env))
      callWith pos f first (backTo pos (starEach es env)) (backToKw pos (keywordEach [] env))) := by
  unfold mtF at hl
  rw [Bool.and_eq_true, decide_eq_true_eq] at hl
  have none_ : (backTo pos (starEach es env)).all (fun t => !t.1) = true := by
    have h := star_any hs pos env
    rw [List.all_eq_true]
    intro t ht
    rw [List.any_eq_false] at h
    have := h t ht
    simpa using this
  have few : methodCallForm (es.length + ([] : List Keyword).length) (backTo pos (starEach es env)) (backToKw pos (keywordEach [] env)) = true := by
    unfold methodCallForm
    rw [none_]
    have h2 : ((backToKw pos (keywordEach [] env)).all fun t => t.1.isSome) = true := rfl
    have h3 : (backToKw pos (keywordEach [] env)).isEmpty = true := rfl
    rw [h2, h3, if_pos rfl]
    simpa using hl.2
  show (do
      let ov ← eval (.Name x p) env
      standAt ap.atName
      methodCall (.Name x p) m ap pos env ov (es.length + ([] : List Keyword).length) (backTo pos (starEach es env)) (backToKw pos (keywordEach [] env))) = _
  unfold methodCall
  rw [few]
  simp only [calleeOf, methodCallPos, hl.1, Bool.not_true, Bool.false_or, if_true]
  rfl
theorem meth_okD (k : Ck X C W) {x : Str} {q : Pos} {es : List Expr} {m : Str} {ap pos : Pos} {mo : DM D} {ma : DM (List D)} (hb : mtF ap pos es = true) (he : PE X (.Name x q) (tBo X.K W E mo)) (ha : PA X es (tAk X.K W E ma)) (hs : es.any starB = false) (h0 : es = [] → ma = dret []) :
    PE X (.Call (.Attribute (.Name x q) m ap) es [] pos) (tV X.K W E (dbind mo fun v => mtD C m v ma)) := by
  have ev0 := meth_ev0 (x := x) (m := m) (p := q) (env := X.env) hb hs
  cases es with
  | nil =>
    rw [h0 rfl]
    refine pe_imp (pe_methD0 (Ex := WE W) he (fun σ => passAt k.tk σ) ev0) fun σ H Q h => ?_
    obtain ⟨B, c, w, rfl, S, x⟩ := h
    refine ⟨B, c, w, rfl, S, x.bind.mono fun v c1 w1 g1 f1 x1 u ru => ?_⟩
    cases v with
    | obj cn ns vs =>
      obtain ⟨a, dx, fs, rfl, ho, rfl, rf⟩ := B_obj f1 ru
      unfold mtD at x1
      dsimp only at x1
      by_cases hm : (C.isMt cn m && (((fs.map (·.1)).zip vs).lookup m).isNone) = true
      · rw [if_pos hm] at x1
        rw [Bool.and_eq_true, Option.isNone_iff_eq_none] at hm
        obtain ⟨cl, kk, f, fd, ps, M0, F, hr, hbd⟩ := k.mt cn m hm.1
        refine ⟨a, _, ⟨rfl, _, dx, fs, f, kk, fd, ps, ho, look_none rf hm.2, cl, M0, F, hr, hbd⟩, ?_⟩
        refine ⟨[.obj cn (fs.map (·.1)) vs], c1, w1, rfl, f1, Reps.one (R_obj ru), ?_⟩
        exact ((show XO X.K W σ w1 (C.Mt cn m [.obj cn (fs.map (·.1)) vs] c1) _ from x1).call (W' := fun cls d _ H => WE W σ cls d H) (σ' := []) fun _ _ _ h => h).mono fun a c2 w2 g2 f2 k v r => k v (r.back g1)
      · rw [if_neg hm] at x1; exact x1.elim
    | _ => exact x1.elim
  | cons e r =>
    have hs' := hs
    rw [List.any_cons, Bool.or_eq_false_iff] at hs'
    refine pe_imp (pe_methD (Ex := WE W) he ha (fun σ => passAt k.tk σ) (star_cons hs'.1 _ _) (star_any hs'.2 _ _) ev0) fun σ H Q h => ?_
    obtain ⟨B, c, w, rfl, S, x⟩ := h
    refine ⟨B, c, w, rfl, S, x.bind.mono fun v c1 w1 g1 f1 x1 u ru => ?_⟩
    cases v with
    | obj cn ns vs =>
      obtain ⟨a, dx, fs, rfl, ho, rfl, rf⟩ := B_obj f1 ru
      unfold mtD at x1
      dsimp only at x1
      by_cases hm : (C.isMt cn m && (((fs.map (·.1)).zip vs).lookup m).isNone) = true
      · rw [if_pos hm] at x1
        rw [Bool.and_eq_true, Option.isNone_iff_eq_none] at hm
        obtain ⟨cl, kk, f, fd, ps, M0, F, hr, hbd⟩ := k.mt cn m hm.1
        refine ⟨a, _, ⟨rfl, _, dx, fs, f, kk, fd, ps, ho, look_none rf hm.2, cl, M0, F, hr, hbd⟩, ?_⟩
        refine ⟨B, c1, w1, rfl, S.grow g1 f1, x1.bind.mono fun xs c2 w2 g2 f2 x2 us rs => ?_⟩
        refine ⟨.obj cn (fs.map (·.1)) vs :: xs, c2, w2, rfl, f2, Reps.cons (HRep.mono (R_obj ru) g2) rs, ?_⟩
        exact (x2.call (W' := fun cls d _ H => WE W σ cls d H) (σ' := []) fun _ _ _ h => h).mono fun a c3 w3 g3 f3 k v r => k v (r.back (g1.trans g2))
      · rw [if_neg hm] at x1; exact x1.elim
    | _ => exact x1.elim
end
end DL

set_option maxHeartbeats 4000000
/-! DL12: the step of the induction over expressions. -/
namespace DL
open PySem PySem.Spec PyProof.Rows L2
section
variable {n : Nat} {X : Cx} {C : Cn} {W : WX}
theorem pe_w0 {K : PySem.W.Frag} {W : WX} {E : EnvD} {e : Expr} : PE X e (tV K W E dwrong) := pe_no fun σ H Q h => tG_no (fun c => rfl) h
theorem rngOk_spec {lo hi : Int} (h : rngOk lo hi = true) : -(2 ^ 62) ≤ lo ∧ lo < 2 ^ 62 ∧ -(2 ^ 62) ≤ hi ∧ hi < 2 ^ 62 := by
  unfold rngOk at h
  rw [Bool.and_eq_true, decide_eq_true_eq, decide_eq_true_eq] at h
  omega
theorem reps_rg {K : PySem.W.Frag} {d : Option Addr} {G : Hp} (a : Int) : ∀ l : List Nat, Reps K d G (l.map fun (k : Nat) => D.int (a + k)) (l.map fun (k : Nat) => V.int (a + k))
  | [] => by simp [Reps]
  | k :: l => by simpa only [List.map_cons, Reps] using ⟨_, _, rfl, by simp [Rep], reps_rg a l⟩
theorem rgb_shape {C : Cn} {f : Str} {e : Expr} {r : List Expr} {t : Option Expr × Expr} (h : rgB C f e r = some t) : ∃ p q, (f = "list" ∨ f = "tuple") ∧ glB C.sc "range" = true ∧ r = [] ∧ starB t.2 = false ∧ (match t.1 with
    | none => e = .Call (.Name "range" p) [t.2] [] q
    | some a => starB a = false ∧ e = .Call (.Name "range" p) [a, t.2] [] q) := by
  unfold rgB at h
  split at h
  · rename_i g p a q
    by_cases hh : ((decide (f = "list") || decide (f = "tuple")) && decide (g = "range") && glB C.sc g && !starB a) = true
    · rw [if_pos hh] at h
      cases h
      simp only [Bool.and_eq_true, Bool.or_eq_true, decide_eq_true_eq, Bool.not_eq_true'] at hh
      obtain ⟨⟨⟨h1, rfl⟩, h3⟩, h4⟩ := hh
      exact ⟨p, q, h1, h3, rfl, h4, rfl⟩
    · rw [if_neg hh] at h; cases h
  · rename_i g p a b q
    by_cases hh : ((decide (f = "list") || decide (f = "tuple")) && decide (g = "range") && glB C.sc g && !starB a && !starB b) = true
    · rw [if_pos hh] at h
      cases h
      simp only [Bool.and_eq_true, Bool.or_eq_true, decide_eq_true_eq, Bool.not_eq_true'] at hh
      obtain ⟨⟨⟨⟨h1, rfl⟩, h3⟩, h4⟩, h5⟩ := hh
      exact ⟨p, q, h1, h3, rfl, h5, h4, rfl⟩
    · rw [if_neg hh] at h; cases h
  · cases h
/-- what counts, made a list or a tuple -/
theorem rgX_ok {f : Str} {E : EnvD} {m : DM (Int × Int)} {te : St → Hp → (Int → Int → Hp → Prop) → Prop} (hf : f = "list" ∨ f = "tuple") (k : Ck X C W) (hg : glB C.sc f = true) {e : Expr} {p pos : Pos} (he : PRg X e te) (hs : starB e = false)
    (hte : ∀ σ H Q, tG X.K W E m (fun _ _ x y => y = x) σ H (fun y H1 => Q y.1 y.2 H1) → te σ H Q) : PE X (.Call (.Name f p) [e] [] pos) (tV X.K W E (dbind m fun x => rgR f x.1 x.2)) := by
  rcases hf with rfl | rfl
  · refine pe_imp (pe_listRg k.calm (k.gl hg) (k.free _ (by decide +kernel)) he (star_cons hs _ _)) fun σ H Q h => ?_
    obtain ⟨B, c, w, rfl, S, x⟩ := h
    refine hte _ _ _ ⟨B, c, w, rfl, S, x.bind.mono fun y c1 w1 g1 f1 h1 v rv => ?_⟩
    subst rv
    obtain ⟨hr, h2⟩ := XO.dif h1
    rw [Bool.and_eq_true] at hr
    have hr1 := rngOk_spec hr.1
    have hr2 := lenOk_le hr.2
    refine ⟨⟨hr1.1, hr1.2.1, hr1.2.2.1, hr1.2.2.2, hr2⟩, fun q hq => ?_⟩
    rw [if_pos rfl] at h2
    exact h2.to (Gr.put f1 hq) (Wf.put f1 hq) _ (rep_put_lst f1 g1 hq (reps_rg _ _))
  · refine pe_imp (pe_tupRg k.calm (k.gl hg) (k.free _ (by decide +kernel)) he (star_cons hs _ _)) fun σ H Q h => ?_
    obtain ⟨B, c, w, rfl, S, x⟩ := h
    refine hte _ _ _ ⟨B, c, w, rfl, S, x.bind.mono fun y c1 w1 g1 f1 h1 v rv => ?_⟩
    subst rv
    obtain ⟨hr, h2⟩ := XO.dif h1
    rw [Bool.and_eq_true] at hr
    have hr1 := rngOk_spec hr.1
    have hr2 := lenOk_le hr.2
    refine ⟨⟨hr1.1, hr1.2.1, hr1.2.2.1, hr1.2.2.2, hr2⟩, fun q hq => ?_⟩
    rw [if_neg (by decide)] at h2
    exact h2.to (Gr.lay f1 hq) (Wf.lay f1 hq) _ (rep_lay_tup f1 hq (reps_rg _ _))
theorem rg_step (IH : Snd n) (E : EnvD) (k : Ck X C W) {f : Str} {p pos : Pos} {e : Expr} {r : List Expr} {t : Option Expr × Expr} (hg : glB C.sc f = true) (h : rgB C f e r = some t) : PE X (.Call (.Name f p) (e :: r) [] pos) (tV X.K W E (match (some t : Option (Option Expr × Expr)) with
    | some (none, a) => dbind (evB C E n a) fun x => dbind (intD x) fun j => rgR f 0 j
    | some (some a, b) => dbind (evB C E n a) fun x => dbind (evB C E n b) fun y => dbind (intD x) fun i => dbind (intD y) fun j => rgR f i j
    | none => dwrong)) := by
  obtain ⟨q, q2, hf, hr, rfl, hs, hh⟩ := rgb_shape h
  obtain ⟨o, b⟩ := t
  cases o with
  | none =>
    dsimp only at hh hs ⊢
    subst hh
    refine pe_imp (rgX_ok (m := dbind (evB C E n b) fun x => dbind (intD x) fun j => dret (0, j)) (E := E) hf k hg (prg_1 (k.gl hr) (k.free _ (by decide +kernel)) (IH.b E b k) (star_cons hs _ _)) rfl fun σ H Q hh => ?_) fun σ H Q hh => ?_
    · obtain ⟨B, c, w, rfl, S, x⟩ := hh
      refine ⟨B, c, w, rfl, S, x.bind.mono fun y c1 w1 g1 f1 h1 v rv => ?_⟩
      obtain ⟨j, rfl, h2⟩ := h1.int
      exact ⟨j, B_int rv, h2.here f1 _ rfl⟩
    · obtain ⟨B, c, w, rfl, S, x⟩ := hh
      refine ⟨B, c, w, rfl, S, ?_⟩
      have e0 : (dbind (dbind (evB C E n b) fun x => dbind (intD x) fun j => dret ((0 : Int), j)) fun x => rgR f x.1 x.2) = dbind (evB C E n b) fun x => dbind (intD x) fun j => rgR f 0 j := by
        funext c
        unfold dbind
        cases evB C E n b c with
        | ok y c' => cases y <;> rfl
        | err _ _ => rfl
        | wrong => rfl
      rw [e0]; exact x
  | some a =>
    dsimp only at hh hs ⊢
    obtain ⟨hs1, rfl⟩ := hh
    refine pe_imp (rgX_ok (m := dbind (evB C E n a) fun x => dbind (evB C E n b) fun y => dbind (intD x) fun i => dbind (intD y) fun j => dret (i, j)) (E := E) hf k hg (prg_2 (k.gl hr) (k.free _ (by decide +kernel)) (IH.b E a k) (IH.b E b k) (star_cons hs1 _ _) (star_cons hs _ _) (by rw [star_cons hs]; rfl)) rfl fun σ H Q hh => ?_) fun σ H Q hh => ?_
    · obtain ⟨B, c, w, rfl, S, x⟩ := hh
      refine ⟨B, c, w, rfl, S, x.bind.mono fun y c1 w1 g1 f1 h1 v rv => ?_⟩
      refine ⟨B, c1, w1, rfl, S.grow g1 f1, h1.bind.mono fun z c2 w2 g2 f2 h2 u ru => ?_⟩
      obtain ⟨i, rfl, h4⟩ := h2.int
      obtain ⟨j, rfl, h5⟩ := h4.int
      exact ⟨i, j, B_int rv, B_int ru, h5.here f2 _ rfl⟩
    · obtain ⟨B, c, w, rfl, S, x⟩ := hh
      refine ⟨B, c, w, rfl, S, ?_⟩
      have e0 : (dbind (dbind (evB C E n a) fun x => dbind (evB C E n b) fun y => dbind (intD x) fun i => dbind (intD y) fun j => dret (i, j)) fun x => rgR f x.1 x.2) = dbind (evB C E n a) fun x => dbind (evB C E n b) fun y => dbind (intD x) fun i => dbind (intD y) fun j => rgR f i j := by
        funext c
        unfold dbind
        cases evB C E n a c with
        | ok y c' =>
          dsimp only
          cases evB C E n b c' with
          | ok z c2 => cases y <;> cases z <;> rfl
          | err _ _ => rfl
          | wrong => rfl
        | err _ _ => rfl
        | wrong => rfl
      rw [e0]; exact x
theorem call_step (IH : Snd n) (E : EnvD) (f : Str) (p : Pos) (es : List Expr) (pos : Pos) (k : Ck X C W) : PE X (.Call (.Name f p) es [] pos) (tV X.K W E (ev C E (n + 1) (.Call (.Name f p) es [] pos))) := by
  have e0 : ev C E (n + 1) (.Call (.Name f p) es [] pos) = (if (glB C.sc f && !(es.any starB)) = true then
        if bltB f = true then
          if f = "isinstance" then (match es with
            | [a, .Name x _] => if (glB C.sc x && clsN C x) = true then dbind (evB C E n a) fun v => dbind (dget (isiD C v x)) fun b => dret (.fz (.bl b)) else dwrong
            | [a, .Tuple [.Name x _, .Name y _] _ _] => if (glB C.sc x && glB C.sc y && isTyN x && isTyN y) = true then dbind (evB C E n a) fun v => dbind (dget (isiD C v x)) fun b => dbind (dget (isiD C v y)) fun b' => dret (.fz (.bl (b || b'))) else dwrong
            | _ => dwrong)
          else (match es with
            | [] => dwrong
            | e :: r => (match rgB C f e r with
              | some (none, a) => dbind (evB C E n a) fun x => dbind (intD x) fun j => rgR f 0 j
              | some (some a, b) => dbind (evB C E n a) fun x => dbind (evB C E n b) fun y => dbind (intD x) fun i => dbind (intD y) fun j => rgR f i j
              | none => if bltKn f = true then dbind (evLB C E n (e :: r)) fun vs => bltD f vs else if (C.rp && decide (f = "repr")) = true then dbind (evLB C E n (e :: r)) fun vs => bRepr vs else dwrong))
        else if C.kn f = true then (match es with
          | [] => dwrong
          | e :: r => dbind (evL C E n (e :: r)) fun vs => C.Φ f vs)
        else dwrong
      else dwrong) := rfl
  rw [e0]
  by_cases h1 : (glB C.sc f && !(es.any starB)) = true
  · rw [if_pos h1]
    rw [Bool.and_eq_true, Bool.not_eq_true'] at h1
    obtain ⟨hg, hs⟩ := h1
    by_cases h2 : bltB f = true
    · rw [if_pos h2]
      by_cases h3 : f = "isinstance"
      · rw [if_pos h3]
        subst h3
        split
        · rename_i a x px
          by_cases h4 : (glB C.sc x && clsN C x) = true
          · rw [if_pos h4]
            rw [Bool.and_eq_true] at h4
            rw [List.any_cons, Bool.or_eq_false_iff] at hs
            exact isi_one k hg h4.1 h4.2 hs.1 (IH.b E a k)
          · rw [if_neg h4]; exact pe_w0
        · rename_i a x px y py kk pt
          by_cases h4 : (glB C.sc x && glB C.sc y && isTyN x && isTyN y) = true
          · rw [if_pos h4]
            rw [Bool.and_eq_true, Bool.and_eq_true, Bool.and_eq_true] at h4
            rw [List.any_cons, Bool.or_eq_false_iff] at hs
            exact isi_two k hg h4.1.1.1 h4.1.1.2 h4.1.2 h4.2 hs.1 (IH.b E a k)
          · rw [if_neg h4]; exact pe_w0
        · exact pe_w0
      · rw [if_neg h3]
        cases es with
        | nil => exact pe_w0
        | cons e r =>
          dsimp only
          cases h9 : rgB C f e r with
          | some t =>
            obtain ⟨o, b⟩ := t
            cases o with
            | none => exact rg_step IH E k hg h9
            | some a => exact rg_step IH E k hg h9
          | none =>
          dsimp only
          by_cases h4 : bltKn f = true
          · rw [if_pos h4]
            exact blt_ok k h2 h4 hg (IH.lb E (e :: r) k hs) hs
          · rw [if_neg h4]
            by_cases h5 : (C.rp && decide (f = "repr")) = true
            · rw [if_pos h5]
              rw [Bool.and_eq_true, decide_eq_true_eq] at h5
              obtain ⟨h5, rfl⟩ := h5
              exact blt_call (b := bRepr) k h2 (call_reprD (k.gd h5) k.hu) (by decide +kernel) bRepr_ok hg (by decide) (by decide) (IH.lb E (e :: r) k hs) hs
            · rw [if_neg h5]; exact pe_w0
    · rw [if_neg h2]
      by_cases h3 : C.kn f = true
      · rw [if_pos h3]
        cases es with
        | nil => exact pe_w0
        | cons e r => exact own_call k.tk (k.fn f h3) (k.gl hg) (IH.l E (e :: r) k hs) hs
      · rw [if_neg h3]; exact pe_w0
  · rw [if_neg h1]; exact pe_w0
theorem bool_step (IH : Snd n) (E : EnvD) (op : BoolOp) (es : List Expr) (pos : Pos) (k : Ck X C W) : PE X (.BoolOp op es pos) (tV X.K W E (ev C E (n + 1) (.BoolOp op es pos))) := by
  cases es with
  | nil => cases op <;> exact pe_w0
  | cons a r => cases r with
    | nil => cases op <;> exact pe_w0
    | cons b r => cases r with
      | nil => cases op with
        | And => exact pe_imp (pe_and (IH.b E a k) (pe_one (IH.ev E b k))) andV_ok
        | Or => exact pe_imp (pe_or (IH.b E a k) (pe_one (IH.ev E b k))) orV_ok
      | cons d r => cases op with
        | And => exact pe_imp (pe_and (IH.b E a k) (IH.ev E (.BoolOp .And (b :: d :: r) pos) k)) andV_ok
        | Or => exact pe_imp (pe_or (IH.b E a k) (IH.ev E (.BoolOp .Or (b :: d :: r) pos) k)) orV_ok
theorem cmp_step (IH : Snd n) (E : EnvD) (a : Expr) (ops : List CmpOp) (es : List Expr) (pos : Pos) (k : Ck X C W) : PE X (.Compare a ops es pos) (tV X.K W E (ev C E (n + 1) (.Compare a ops es pos))) := by
  match ops, es with
  | [], _ => exact pe_w0
  | [op], [] => exact pe_w0
  | [op], [b] =>
    have e0 : ev C E (n + 1) (.Compare a [op] [b] pos) = if behindInMarks op b = true then dwrong else dbind (evB C E n a) fun x => dbind (evB C E n b) fun y => dbind (cmpD op x y) fun z => dret (.fz z) := rfl
    rw [e0]
    by_cases hm : behindInMarks op b = true
    · rw [if_pos hm]; exact pe_w0
    · rw [if_neg hm]
      exact pe_imp (pe_cmpR (op_cmp k.hu op) (IH.b E a k) (IH.b E b k) (Bool.eq_false_iff.mpr hm)) cmpV_ok
  | [op], _ :: _ :: _ => exact pe_w0
  | [o1, o2], [] => exact pe_w0
  | [o1, o2], [_] => exact pe_w0
  | [o1, o2], [b, d] =>
    have e0 : ev C E (n + 1) (.Compare a [o1, o2] [b, d] pos) = if lastMarks [o1, o2] [b, d] = true then dwrong else dbind (evB C E n a) fun x => dbind (evB C E n b) fun y => dbind (cmpD o1 x y) fun z => dbind (blD z) fun t => if t = true then dbind (evB C E n d) fun u => dbind (cmpD o2 y u) fun z => dret (.fz z) else dret (.fz (.bl false)) := rfl
    rw [e0]
    by_cases hm : lastMarks [o1, o2] [b, d] = true
    · rw [if_pos hm]; exact pe_w0
    · rw [if_neg hm]
      exact pe_imp (pe_chain (op_cmp k.hu o1) (op_cmp k.hu o2) (IH.b E a k) (IH.b E b k) (IH.b E d k) (Bool.eq_false_iff.mpr hm)) chainV_ok
  | [o1, o2], _ :: _ :: _ :: _ => exact pe_w0
  | _ :: _ :: _ :: _, _ => exact pe_w0
theorem isRev_ok {b : Expr} (h : isRev b = true) : ∃ kk p1 p2 p3, b = .Slice none none (some (.UnaryOp .USub (.Constant (.int 1) kk p1) p2)) p3 := by
  unfold isRev at h
  split at h
  · rw [decide_eq_true_eq] at h
    subst h
    exact ⟨_, _, _, _, rfl⟩
  · cases h
theorem reps_reverse {K : PySem.W.Frag} {d : Option Addr} {G : Hp} : ∀ {xs : List D} {vs : List V}, Reps K d G xs vs → Reps K d G xs.reverse vs.reverse
  | [], vs, h => by simp only [Reps] at h; subst h; simp [Reps]
  | x :: xs, vs, h => by
    simp only [Reps] at h
    obtain ⟨v, ws, rfl, r, q⟩ := h
    rw [List.reverse_cons, List.reverse_cons]
    exact (reps_reverse q).append (by simp only [Reps]; exact ⟨v, [], rfl, r, rfl⟩)
theorem revV_ok {m : DM D} (σ : St) (H : Hp) (Q : V → Hp → Prop) (hh : tV X.K W E (dbind m revD) σ H Q) : tRevL X.K (tBo X.K W E m) σ H Q := by
  obtain ⟨B, c, w, rfl, S, x⟩ := hh
  refine ⟨B, c, w, rfl, S, x.bind.mono fun y c1 w1 g1 f1 h1 v rv => ?_⟩
  cases y <;> try exact h1.elim
  rename_i xs
  obtain ⟨p, vs, rfl, hp, r⟩ := B_lst f1 rv
  exact ⟨p, vs, rfl, .of hp, fun a ha => h1.to (Gr.put f1 ha) (Wf.put f1 ha) _ (rep_put_lst f1 g1 ha (reps_reverse r))⟩
/-! a dict is read -/
theorem keyD_ok {y : D} {k : List Int} (h : keyD y = some k) : ∃ xs, y = .tup xs ∧ ints? xs = some k := by
  cases y <;> simp only [keyD] at h <;> first
    | exact ⟨_, rfl, h⟩
    | cases h
theorem inl_map : ∀ {a b : List Int}, a.map (Sum.inl : Int → L2.Key) = b.map Sum.inl → a = b
  | [], [], _ => rfl
  | [], _ :: _, h => by cases h
  | _ :: _, [], h => by cases h
  | x :: a, y :: b, h => by
    simp only [List.map_cons, List.cons.injEq, Sum.inl.injEq] at h
    rw [h.1, inl_map h.2]
theorem keyV (k : List Int) : (k.map (Sum.inl : Int → L2.Key)).map kV = k.map V.int := by
  rw [List.map_map]; rfl
theorem valT (k : List Int) : ∀ kvs : List (List Int × Int), valV (toT kvs) (k.map Sum.inl) = (valI kvs k).map V.int
  | [] => rfl
  | p :: r => by
    show valV ((p.1.map Sum.inl, V.int p.2) :: toT r) _ = _
    by_cases e : p.1 = k
    · rw [valV_pos (by rw [e])]
      simp [valI, List.find?_cons, e]
    · rw [valV_neg (fun z => e (inl_map z)), valT k r]
      simp [valI, List.find?_cons, e]
theorem anyT (k : List Int) : ∀ kvs : List (List Int × Int), ((toT kvs).any fun kv => decide (kv.1 = k.map Sum.inl)) = kvs.any fun kv => decide (kv.1 = k)
  | [] => rfl
  | p :: r => by
    have ih := anyT k r
    have e : decide (p.1.map (Sum.inl : Int → L2.Key) = k.map Sum.inl) = decide (p.1 = k) := decide_eq_decide.mpr ⟨inl_map, fun z => by rw [z]⟩
    simp only [toT, List.map_cons, List.any_cons] at ih ⊢
    rw [e, ih]
theorem putT (k : List Int) (m : Int) (kvs : List (List Int × Int)) : putK (toT kvs) (k.map Sum.inl) (.int m) = toT (putI kvs k m) := by
  unfold putK putI
  rw [anyT]
  by_cases h : (kvs.any fun kv => decide (kv.1 = k)) = true
  · rw [if_pos h, if_pos h]
    simp only [toT, List.map_map]
    refine List.map_congr_left fun p _ => ?_
    simp only [Function.comp]
    by_cases e : p.1 = k
    · rw [if_pos e, if_pos (by rw [e])]
    · rw [if_neg e, if_neg fun z => e (inl_map z)]
  · rw [if_neg h, if_neg h]
    simp [toT]
theorem dicAt_ok {i : Nat} {kvs : List (List Int × Int)} (h : dicAt E i = some kvs) : E[i]? = some (some (.dic kvs)) := by
  unfold dicAt at h
  split at h
  · rename_i e; cases h; exact e
  · cases h
theorem dicOf_ok {a : Expr} {kvs : List (List Int × Int)} (h : dicOf C E a = some kvs) : ∃ x p i, a = .Name x p ∧ visB C.sc x = true ∧ ixS C.N x = some i ∧ E[i]? = some (some (.dic kvs)) := by
  cases a <;> try (simp only [dicOf] at h; cases h)
  rename_i x p
  unfold dicOf at h
  dsimp only at h
  split at h
  · split at h
    · rename_i hv
      cases hi : ixS C.N x with
      | none => rw [hi] at h; cases h
      | some i =>
        rw [hi] at h
        exact ⟨x, p, i, rfl, hv, hi, dicAt_ok h⟩
    · cases h
  · cases h
theorem name_rule {x : Str} {px : Pos} (k : Ck X C W) (hv : visB C.sc x = true) {i : Nat} (hi : ixS C.N x = some i) : PE X (.Name x px) (fun σ H Q => ∃ u, σ[i]? = some (some u) ∧ Q u H) := by
  have hN := ixS_ok hi
  have nm := k.nm x (List.mem_of_getElem? hN)
  exact pe_imp (pe_var (i := i) (by rw [k.N]; exact hN) (by rw [k.sc]; exact visB_ok hv) nm.1 nm.2) fun σ H Q h => h
theorem dget_ok (IH : Snd n) (E : EnvD) {a b : Expr} {pos : Pos} {kvs : List (List Int × Int)} (k : Ck X C W) (hd : dicOf C E a = some kvs) (hs : isSlice b = false) :
    PE X (.Subscript a b pos) (tV X.K W E (dbind (evB C E n b) fun y => dgetZ (dicGet kvs y))) := by
  obtain ⟨x, px, i, rfl, hv, hi, hE⟩ := dicOf_ok hd
  refine pe_imp (pe_dget (by have := k.hu; omega) (name_rule (px := px) k hv hi) (IH.b E b k) (by intro ov iv; cases b <;> first | rfl | simp [isSlice] at hs)) fun σ H Q h => ?_
  obtain ⟨B, c, w, rfl, S, xo⟩ := h
  obtain ⟨p, e0, hp, gn, nd⟩ := S.sl i _ hE
  refine ⟨.ref p, e0, B, c, w, rfl, S, xo.bind.mono fun y c1 w1 g1 f1 h1 v rv => ?_⟩
  obtain ⟨z, ez, h3⟩ := dgetZ_ok h1
  unfold dicGet at ez
  cases hk : keyD y with
  | none => rw [hk] at ez; cases ez
  | some ks =>
    rw [hk] at ez
    obtain ⟨m, em, rfl⟩ := Option.map_eq_some_iff.mp ez
    obtain ⟨xs, rfl, hx⟩ := keyD_ok hk
    obtain ⟨q, vs, rfl, hq, _, r⟩ := B_tup f1 rv
    have ev := ints_rep hx r
    subst ev
    have hp1 := g1.h _ _ hp nd
    have hq1 : w1.H q = some (.tup ((ks.map Sum.inl).map kV)) := by rw [keyV]; exact f1.sub _ _ hq
    have dg := DGet.t hp1 hq1
    rw [valT, em] at dg
    exact ⟨p, .int m, rfl, dg, h3.here f1 _ (by simp [RepV, Rep])⟩
theorem sub_step (IH : Snd n) (E : EnvD) (a b : Expr) (pos : Pos) (k : Ck X C W) : PE X (.Subscript a b pos) (tV X.K W E (ev C E (n + 1) (.Subscript a b pos))) := by
  by_cases hb : ∃ lo hi p, b = .Slice lo hi none p
  · obtain ⟨lo, hi, p, rfl⟩ := hb
    exact pe_imp (pe_slice sl_D (IH.b E a k) (IH.o E lo k) (IH.o E hi k)) slV_ok
  · have e0 : ev C E (n + 1) (.Subscript a b pos) = if isRev b = true then dbind (evB C E n a) revD else if isSlice b = true then dwrong else match dicOf C E a with
        | some kvs => dbind (evB C E n b) fun y => dgetZ (dicGet kvs y)
        | none => dbind (evB C E n a) fun x => dbind (evB C E n b) fun y => ixD x y := by
      cases b with
      | Slice lo hi st p => cases st with
        | none => exact absurd ⟨_, _, _, rfl⟩ hb
        | some _ => rfl
      | _ => rfl
    rw [e0]
    by_cases hv : isRev b = true
    · rw [if_pos hv]
      obtain ⟨kk, p1, p2, p3, rfl⟩ := isRev_ok hv
      exact pe_imp (pe_revL (IH.b E a k)) revV_ok
    rw [if_neg hv]
    by_cases hs : isSlice b = true
    · rw [if_pos hs]; exact pe_w0
    · rw [if_neg hs]
      cases hd : dicOf C E a with
      | some kvs => exact dget_ok IH E k hd (Bool.eq_false_iff.mpr hs)
      | none => exact pe_imp (pe_ix ix_D (IH.b E a k) (IH.b E b k) (plain_ix (Bool.eq_false_iff.mpr hs))) (tOp_ok fun W σ w0 w c x y v u Q f g rx ry h => ixD_ok f rx ry h)
theorem meth_step (IH : Snd n) (E : EnvD) (o : Expr) (m : Str) (ap : Pos) (es : List Expr) (pos : Pos) (k : Ck X C W) : PE X (.Call (.Attribute o m ap) es [] pos) (tV X.K W E (ev C E (n + 1) (.Call (.Attribute o m ap) es [] pos))) := by
  by_cases ho : ∃ x p, o = .Name x p
  · obtain ⟨x, p, rfl⟩ := ho
    have e0 : ev C E (n + 1) (.Call (.Attribute (.Name x p) m ap) es [] pos) = if (mtF ap pos es && !(es.any starB)) = true then dbind (evB C E n (.Name x p)) fun v => mtD C m v (match es with
          | [] => dret []
          | e :: r => evL C E n (e :: r)) else dwrong := rfl
    rw [e0]
    by_cases h : (mtF ap pos es && !(es.any starB)) = true
    · rw [if_pos h]
      rw [Bool.and_eq_true, Bool.not_eq_true'] at h
      cases es with
      | nil => exact meth_okD (ma := dret []) k h.1 (IH.b E _ k) (pa_imp pa_nil fun σ H Q q => by
          obtain ⟨B, c, w, rfl, S, x⟩ := q
          exact x.here S.wf _ (by simp [Reps])) h.2 fun _ => rfl
      | cons e r => exact meth_okD k h.1 (IH.b E _ k) (IH.l E (e :: r) k h.2) h.2 nofun
    · rw [if_neg h]; exact pe_w0
  · have e0 : ev C E (n + 1) (.Call (.Attribute o m ap) es [] pos) = dwrong := by
      cases o with
      | Name x p => exact absurd ⟨_, _, rfl⟩ ho
      | _ => rfl
    rw [e0]; exact pe_w0
theorem attr_step (IH : Snd n) (E : EnvD) (a : Expr) (f : Str) (pos : Pos) (k : Ck X C W) : PE X (.Attribute a f pos) (tV X.K W E (ev C E (n + 1) (.Attribute a f pos))) := by
  by_cases ha : ∃ x p, a = .Name x p
  · obtain ⟨x, p, rfl⟩ := ha
    have e0 : ev C E (n + 1) (.Attribute (.Name x p) f pos) = if isIns C E x = true then selfD C E x f else dbind (evB C E n (.Name x p)) fun v => fldD C v f := rfl
    rw [e0]
    by_cases hi : isIns C E x = true
    · rw [if_pos hi]; exact self_okD k hi
    · rw [if_neg hi]; exact attr_okD k (plain_base (by rfl) _ _) (IH.b E _ k)
  · have e0 : ev C E (n + 1) (.Attribute a f pos) = if plainBase a = true then dbind (evB C E n a) fun v => fldD C v f else dwrong := by
      cases a with
      | Name x p => exact absurd ⟨_, _, rfl⟩ ha
      | _ => rfl
    rw [e0]
    by_cases hp : plainBase a = true
    · rw [if_pos hp]; exact attr_okD k (plain_base hp _ _) (IH.b E _ k)
    · rw [if_neg hp]; exact pe_w0
theorem comp_step (IH : Snd n) (E : EnvD) (elt : Expr) (gs : List Comprehension) (scope : Scope) (pos : Pos) (k : Ck X C W) : PE X (.ListComp elt gs scope pos) (tV X.K W E (ev C E (n + 1) (.ListComp elt gs scope pos))) := by
  match gs with
  | [] => exact pe_w0
  | ⟨tg, iter, ifs, 0⟩ :: [] =>
    have e0 : ev C E (n + 1) (.ListComp elt [⟨tg, iter, ifs, 0⟩] scope pos) = if (blkC C.N C.sc scope (ownN C.N scope) && iterB iter && (tgIx C n tg).all fun i => ((ownN C.N scope).map (·.2)).contains i) = true then
        dbind (evI C E n false tg iter) fun items => dif (lenOk items.length) (noErr (dbind (dloop (turnC { C with sc := relS scope C.sc, clc := fun y => scope.names.lookup y == some .cell } E n tg elt ifs ((ownN C.N scope).map (·.2))) items) fun ys => dret (.fr ys))) else dwrong := rfl
    rw [e0]
    by_cases hb : (blkC C.N C.sc scope (ownN C.N scope) && iterB iter && (tgIx C n tg).all fun i => ((ownN C.N scope).map (·.2)).contains i) = true
    · rw [if_pos hb]
      rw [Bool.and_eq_true, Bool.and_eq_true] at hb
      exact comp_ok IH k hb.1.1 hb.1.2 hb.2
    · rw [if_neg hb]; exact pe_w0
  | ⟨_, _, _, (_ + 1 : Nat)⟩ :: [] => exact pe_w0
  | ⟨_, _, _, Int.negSucc _⟩ :: [] => exact pe_w0
  | [⟨tg, iter, ifs, 0⟩, ⟨tg1, iter1, ifs1, 0⟩] =>
    have e0 : ev C E (n + 1) (.ListComp elt [⟨tg, iter, ifs, 0⟩, ⟨tg1, iter1, ifs1, 0⟩] scope pos) = if cond2 C n scope tg iter tg1 iter1 = true then
        dbind (evI C E n false tg iter) fun items => noErr (dbind (dfold2 (turn2 { C with sc := relS scope C.sc, clc := fun y => scope.names.lookup y == some .cell } n E tg tg1 iter1 elt ifs ifs1 ((ownN C.N scope).map (·.2)) (tgIx C n tg1)) [] items) fun ys => dret (.fr ys)) else dwrong := rfl
    rw [e0]
    by_cases hb : cond2 C n scope tg iter tg1 iter1 = true
    · rw [if_pos hb]
      exact (comp2_rule IH k hb).1
    · rw [if_neg hb]; exact pe_w0
  | [⟨_, _, _, 0⟩, ⟨_, _, _, (_ + 1 : Nat)⟩] => exact pe_w0
  | [⟨_, _, _, 0⟩, ⟨_, _, _, Int.negSucc _⟩] => exact pe_w0
  | ⟨_, _, _, 0⟩ :: ⟨_, _, _, 0⟩ :: _ :: _ => exact pe_w0
  | ⟨_, _, _, 0⟩ :: ⟨_, _, _, (_ + 1 : Nat)⟩ :: _ :: _ => exact pe_w0
  | ⟨_, _, _, 0⟩ :: ⟨_, _, _, Int.negSucc _⟩ :: _ :: _ => exact pe_w0
  | ⟨_, _, _, (_ + 1 : Nat)⟩ :: _ :: _ => exact pe_w0
  | ⟨_, _, _, Int.negSucc _⟩ :: _ :: _ => exact pe_w0
theorem ev_step (IH : Snd n) (E : EnvD) (e : Expr) (k : Ck X C W) : PE X e (tV X.K W E (ev C E (n + 1) e)) := by
  cases e with
  | Constant c j p => cases c with
    | none => exact const_ok (fun w => by simp [HRep, Rep]) pe_non
    | bool b => exact const_ok (fun w => by simp [HRep, Rep]) pe_bl
    | int i => exact const_ok (fun w => by simp [HRep, Rep]) pe_int
    | str i => exact const_ok (fun w => by simp [HRep, Rep]) pe_str
    | _ => exact pe_w0
  | Name x p => exact name_ok k x
  | BinOp a op b p => exact pe_imp (pe_op (op_bin op) (IH.b E a k) (IH.b E b k)) (tOp_ok fun W σ w0 w c x y v u Q f g rx ry h => binD_ok f g rx ry h)
  | UnaryOp op a p => cases op with
    | USub => exact pe_imp (pe_un un_neg (IH.b E a k)) un_neg_ok
    | Not => exact pe_imp (pe_not (IH.b E a k)) notV_ok
    | _ => exact pe_w0
  | BoolOp op es p => exact bool_step IH E op es p k
  | Compare a ops es p => exact cmp_step IH E a ops es p k
  | IfExp t a b p => exact pe_imp (pe_ifExp (IH.t E t k) (IH.ev E a k) (IH.ev E b k)) ifV_ok
  | Tuple es kk p =>
    have e0 : ev C E (n + 1) (.Tuple es kk p) = if es.any starB = true then dwrong else dbind (evL C E n es) fun xs => dif (lenOk xs.length) (dret (.fz (.tup xs))) := rfl
    rw [e0]
    by_cases hs : es.any starB = true
    · rw [if_pos hs]; exact pe_w0
    · rw [if_neg hs]; exact pe_imp (pe_tup (IH.l E es k (Bool.eq_false_iff.mpr hs))) tupV_ok
  | List es p =>
    have e0 : ev C E (n + 1) (.List es p) = if es.any starB = true then dwrong else dbind (evL C E n es) fun xs => dif (lenOk xs.length) (dret (.fr xs)) := rfl
    rw [e0]
    by_cases hs : es.any starB = true
    · rw [if_pos hs]; exact pe_w0
    · rw [if_neg hs]; exact pe_imp (pe_lst (IH.l E es k (Bool.eq_false_iff.mpr hs))) lstV_ok
  | Subscript a b p => exact sub_step IH E a b p k
  | Attribute a f p => exact attr_step IH E a f p k
  | Call f es ks p => cases f with
    | Name f q => cases ks with
      | nil => exact call_step IH E f q es p k
      | cons _ _ => exact pe_w0
    | Attribute o m ap => cases ks with
      | nil => exact meth_step IH E o m ap es p k
      | cons _ _ => cases o <;> exact pe_w0
    | _ => exact pe_w0
  | ListComp elt gs scope p => exact comp_step IH E elt gs scope p k
  | _ => exact pe_w0

/-! ### the rest -/
theorem t_step (IH : Snd n) (E : EnvD) (e : Expr) (k : Ck X C W) (hb : ∀ op es p, e ≠ .BoolOp op es p) : PT X e (tTe X.K W E (evT C E (n + 1) e)) := by
  have no : ∀ {e : Expr}, PT X e (tTe X.K W E dwrong) := pt_no fun σ H Q h => tG_no (fun c => rfl) h
  cases e with
  | UnaryOp op a p => cases op with
    | Not => exact pt_imp (pt_not (IH.t E a k)) notT_ok
    | _ => exact no
  | BoolOp op es p => exact absurd rfl (hb op es p)
  | Compare a ops es p =>
    match ops, es with
    | [], _ => exact no
    | [op], [] => exact no
    | [op], [b] =>
      have e0 : evT C E (n + 1) (.Compare a [op] [b] p) = if behindInMarks op b = true then dwrong else dbind (evB C E n a) fun x => dbind (evB C E n b) fun y => dbind (cmpD op x y) fun z => blD z := rfl
      rw [e0]
      by_cases hm : behindInMarks op b = true
      · rw [if_pos hm]; exact no
      · rw [if_neg hm]
        exact pt_imp (pt_cmpR (op_cmp k.hu op) (IH.b E a k) (IH.b E b k) (Bool.eq_false_iff.mpr hm)) cmpT_ok
    | [op], _ :: _ :: _ => exact no
    | [o1, o2], [] => exact no
    | [o1, o2], [_] => exact no
    | [o1, o2], [b, d] =>
      have e0 : evT C E (n + 1) (.Compare a [o1, o2] [b, d] p) = if lastMarks [o1, o2] [b, d] = true then dwrong else dbind (evB C E n a) fun x => dbind (evB C E n b) fun y => dbind (cmpD o1 x y) fun z => dbind (blD z) fun t => if t = true then dbind (evB C E n d) fun u => dbind (cmpD o2 y u) fun z => blD z else dret false := rfl
      rw [e0]
      by_cases hm : lastMarks [o1, o2] [b, d] = true
      · rw [if_pos hm]; exact no
      · rw [if_neg hm]
        exact pt_imp (pt_chain (op_cmp k.hu o1) (op_cmp k.hu o2) (IH.b E a k) (IH.b E b k) (IH.b E d k) (Bool.eq_false_iff.mpr hm)) chainT_ok
    | [o1, o2], _ :: _ :: _ :: _ => exact no
    | _ :: _ :: _ :: _, _ => exact no
  | Name x p => exact truT_ok (IH.b E _ k) (fun _ => rfl)
  | Call f es ks p => exact truT_ok (IH.b E _ k) (fun _ => rfl)
  | Attribute a f p => exact truT_ok (IH.b E _ k) (fun _ => rfl)
  | Subscript a f p => exact truT_ok (IH.b E _ k) (fun _ => rfl)
  | Constant a f p => exact truT_ok (IH.b E _ k) (fun _ => rfl)
  | _ => exact no
theorem tw_step (IH : Snd n) (E : EnvD) (op : BoolOp) (es : List Expr) (p : Pos) (k : Ck X C W) : PW X (.BoolOp op es p) (tTe X.K W E (evT C E (n + 1) (.BoolOp op es p))) := by
  have no : ∀ {e : Expr}, PW X e (tTe X.K W E dwrong) := ⟨fun wh pins s σ H Q I h => (tG_no (fun c => rfl) h).elim⟩
  cases es with
  | nil => cases op <;> exact no
  | cons a r => cases r with
    | nil => cases op with
      | And => exact pw_and1 (IH.t E a k)
      | Or => exact pw_or1 (IH.t E a k)
    | cons b r => cases op with
      | And => exact pw_imp (pw_and (IH.t E a k) (IH.tw E .And (b :: r) p k)) andT_ok
      | Or => exact pw_imp (pw_or (IH.t E a k) (IH.tw E .Or (b :: r) p k)) orT_ok
theorem ln_imp {K : PySem.W.Frag} {E : EnvD} {α β γ : Type} {m : DM α} {rep : HS → HS → α → β → Prop} {rep' : HS → HS → α → β → Prop} (f : ∀ w w' a b, rep w w' a b → rep' w w' a b) (σ : St) (H : Hp) (Q : β → Hp → Prop) (h : tG K W E m rep' σ H Q) : tG K W E m rep σ H Q := tG_mono f σ H Q h
theorem rangeI_ok {E : EnvD} {kk : Bool} {m : DM D} (σ : St) (H : Hp) (R : It → Hp → Prop) (hh : tI X.K W E kk (dbind m fun x => dbind (intD x) fun j => dif (rngOk 0 j) (dret (rangeD 0 j))) σ H R) : iRng1 (tCons (tBo X.K W E m) tNil) σ H R := by
  obtain ⟨B, c, w, rfl, S, x⟩ := hh
  refine ⟨B, c, w, rfl, S, x.bind.mono fun y c1 w1 g1 f1 h1 v rv => ?_⟩
  obtain ⟨j, rfl, h2⟩ := h1.int
  obtain ⟨hr, h3⟩ := h2.dif
  have hr' := rngOk_spec hr
  exact ⟨j, by rw [B_int rv], hr'.2.2.1, hr'.2.2.2, h3.here f1 _ (it_range (by simp))⟩
theorem rangeI2_ok {E : EnvD} {kk : Bool} {ma mb : DM D} (σ : St) (H : Hp) (R : It → Hp → Prop) (hh : tI X.K W E kk (dbind ma fun x => dbind mb fun y => dbind (intD x) fun i => dbind (intD y) fun j => dif (rngOk i j) (dret (rangeD i j))) σ H R) :
    iRng2 (tCons (tBo X.K W E ma) (tCons (tBo X.K W E mb) tNil)) σ H R := by
  obtain ⟨B, c, w, rfl, S, x⟩ := hh
  refine ⟨B, c, w, rfl, S, x.bind.mono fun y c1 w1 g1 f1 h1 v rv => ?_⟩
  refine ⟨B, c1, w1, rfl, S.grow g1 f1, h1.bind.mono fun z c2 w2 g2 f2 h2 u ru => ?_⟩
  obtain ⟨i, rfl, h4⟩ := h2.int
  obtain ⟨j, rfl, h5⟩ := h4.int
  obtain ⟨hr, h3⟩ := h5.dif
  have hr' := rngOk_spec hr
  exact ⟨i, j, by rw [B_int rv, B_int ru], hr', h3.here f2 _ (it_range rfl)⟩
theorem enumI_ok {E : EnvD} {kk : Bool} {m : DM D} (σ : St) (H : Hp) (R : It → Hp → Prop) (hh : tI X.K W E kk (dbind m fun x => dbind (dget (items? x)) fun xs => dret (enumD xs)) σ H R) :
    iEnumA X.K (tCons (tG X.K W E m fun _ w x v => RepW X.K kk w x v) tNil) σ H R := by
  obtain ⟨B, c, w, rfl, S, x⟩ := hh
  refine ⟨B, c, w, rfl, S, x.bind.mono fun y c1 w1 g1 f1 h1 v rv => ?_⟩
  obtain ⟨xs, e, h2⟩ := h1.get
  obtain ⟨a, vs, rfl, q⟩ := it_enum f1 e rv
  refine ⟨a, vs, rfl, ?_⟩
  rcases q with ⟨q1, q2⟩ | ⟨q1, q2⟩
  · exact .inl ⟨q1, h2.here f1 _ q2⟩
  · exact .inr ⟨q1, h2.here f1 _ q2⟩
theorem zipI_ok {E : EnvD} {kk : Bool} {ma mb : DM D} (σ : St) (H : Hp) (R : It → Hp → Prop) (hh : tI X.K W E kk (dbind ma fun x => dbind mb fun y => (match x, y with
            | .lst xs, .lst ys => dret (zipD xs ys)
            | .tup xs, .tup ys => dret (zipD xs ys)
            | _, _ => dwrong)) σ H R) :
    RZ.iZipA X.K (tCons (tG X.K W E ma fun _ w x v => RepW X.K kk w x v) (tCons (tG X.K W E mb fun _ w x v => RepW X.K kk w x v) tNil)) σ H R := by
  obtain ⟨B, c, w, rfl, S, x⟩ := hh
  refine ⟨B, c, w, rfl, S, x.bind.mono fun y c1 w1 g1 f1 h1 v rv => ?_⟩
  refine ⟨B, c1, w1, rfl, S.grow g1 f1, h1.bind.mono fun z c2 w2 g2 f2 h2 u ru => ?_⟩
  have rv2 := rv.mono (GK.of (kk := kk) g2)
  cases y <;> cases z <;> try exact h2.elim
  · obtain ⟨a, b, vs, us, rfl, rfl, q1, q2, q3⟩ := it_zipL f2 rv2 ru
    exact ⟨a, b, vs, us, rfl, .inl ⟨q1, q2, h2.here f2 _ q3⟩⟩
  · obtain ⟨a, b, vs, us, rfl, rfl, q1, q2, q3⟩ := it_zipT f2 rv2 ru
    exact ⟨a, b, vs, us, rfl, .inr ⟨q1, q2, h2.here f2 _ q3⟩⟩
theorem i_step (IH : Snd n) (E : EnvD) (kk : Bool) (tg e : Expr) (k : Ck X C W) : PI X tg e (tI X.K W E kk (evI C E (n + 1) kk tg e)) := by
  have no : ∀ {e : Expr}, PI X tg e (tI X.K W E kk dwrong) := pi_no fun σ H Q ⟨B, c, w, _, _, x⟩ => x.elim
  cases e with
  | Name x p => exact pi_imp (pi_seq (IH.w E kk _ k)) seqI_ok
  | Attribute a f p => exact pi_imp (pi_seq (IH.w E kk _ k)) seqI_ok
  | Subscript a f p => exact pi_imp (pi_seq (IH.w E kk _ k)) seqI_ok
  | List a p => exact pi_imp (pi_seq (IH.w E kk _ k)) seqI_ok
  | Tuple a j p => exact pi_imp (pi_seq (IH.w E kk _ k)) seqI_ok
  | Call f es ks q => cases f with
    | Name f p => cases ks with
      | cons _ _ => exact no
      | nil =>
        have e0 : evI C E (n + 1) kk tg (.Call (.Name f p) es [] q) = if (glB C.sc f && !(es.any starB)) = true then
            if f = "range" then (match es with
              | [a] => dbind (evB C E n a) fun x => dbind (intD x) fun j => dif (rngOk 0 j) (dret (rangeD 0 j))
              | [a, b] => dbind (evB C E n a) fun x => dbind (evB C E n b) fun y => dbind (intD x) fun i => dbind (intD y) fun j => dif (rngOk i j) (dret (rangeD i j))
              | _ => dwrong)
            else if f = "enumerate" then (match es with
              | [a] => if isTupT tg = true then dbind (evW C E n kk a) fun x => dbind (dget (items? x)) fun xs => dret (enumD xs) else dwrong
              | _ => dwrong)
            else if f = "zip" then (match es with
              | [a, b] => if isTupT tg = true then dbind (evW C E n kk a) fun x => dbind (evW C E n kk b) fun y => (match x, y with
                | .lst xs, .lst ys => dret (zipD xs ys)
                | .tup xs, .tup ys => dret (zipD xs ys)
                | _, _ => dwrong) else dwrong
              | _ => dwrong)
            else dbind (evW C E n kk (.Call (.Name f p) es [] q)) fun x => dget (items? x)
          else dwrong := rfl
        rw [e0]
        by_cases h1 : (glB C.sc f && !(es.any starB)) = true
        · rw [if_pos h1]
          rw [Bool.and_eq_true, Bool.not_eq_true'] at h1
          obtain ⟨hg, hs⟩ := h1
          by_cases h2 : f = "range"
          · rw [if_pos h2]
            subst h2
            match es, hs with
            | [], _ => exact no
            | [a], hs =>
              rw [List.any_cons, Bool.or_eq_false_iff] at hs
              exact pi_imp (pi_range1 (k.gl hg) (k.free _ (by decide +kernel)) (pa_cons (IH.b E a k) pa_nil (star_cons hs.1 _ _)) (star_cons hs.1 _ _)) rangeI_ok
            | [a, b], hs =>
              rw [List.any_cons, Bool.or_eq_false_iff, List.any_cons, Bool.or_eq_false_iff] at hs
              exact pi_imp (pi_range2 (k.gl hg) (k.free _ (by decide +kernel)) (pa_cons (IH.b E a k) (pa_cons (IH.b E b k) pa_nil (star_cons hs.2.1 _ _)) (star_cons hs.1 _ _))
                (by rw [star_cons hs.1, star_cons hs.2.1]; rfl) (star_cons hs.2.1 _ _)) rangeI2_ok
            | _ :: _ :: _ :: _, _ => exact no
          · rw [if_neg h2]
            by_cases h3 : f = "enumerate"
            · rw [if_pos h3]
              subst h3
              match es, hs with
              | [], _ => exact no
              | [a], hs =>
                dsimp only
                by_cases ht : isTupT tg = true
                · rw [if_pos ht]
                  rw [List.any_cons, Bool.or_eq_false_iff] at hs
                  cases tg with
                  | Tuple elts kk' tpos => exact pi_imp (pi_enumA (k.gl hg) (k.free _ (by decide +kernel)) (pa_cons (IH.w E kk a k) pa_nil (star_cons hs.1 _ _)) (star_cons hs.1 _ _)) enumI_ok
                  | _ => cases ht
                · rw [if_neg ht]; exact no
              | _ :: _ :: _, _ => exact no
            · rw [if_neg h3]
              by_cases h4 : f = "zip"
              · rw [if_pos h4]
                subst h4
                match es, hs with
                | [], _ => exact no
                | [a], _ => exact no
                | [a, b], hs =>
                  dsimp only
                  by_cases ht : isTupT tg = true
                  · rw [if_pos ht]
                    rw [List.any_cons, Bool.or_eq_false_iff, List.any_cons, Bool.or_eq_false_iff] at hs
                    cases tg with
                    | Tuple elts kk' tpos =>
                      exact pi_imp (RZ.pi_zipA (k.gl hg) (k.free _ (by decide +kernel)) (pa_cons (IH.w E kk a k) (pa_cons (IH.w E kk b k) pa_nil (star_cons hs.2.1 _ _)) (star_cons hs.1 _ _)) (star_cons hs.1 _ _)
                        (star_any (es := [b]) (by rw [List.any_cons, hs.2.1]; rfl) _ _)) zipI_ok
                    | _ => cases ht
                  · rw [if_neg ht]; exact no
                | _ :: _ :: _ :: _, _ => exact no
              · rw [if_neg h4]
                exact pi_imp (pi_seq (IH.w E kk _ k)) seqI_ok
        · rw [if_neg h1]; exact no
    | Attribute o m ap => cases ks with
      | nil => exact pi_imp (pi_seq (IH.w E kk _ k)) seqI_ok
      | cons _ _ => exact no
    | _ => exact no
  | _ => exact no
theorem Snd.step (IH : Snd n) : Snd (n + 1) where
  ev := fun E e k => ev_step IH E e k
  b := fun E e k => tBo_of (IH.ev E e k)
  k := fun E e k => tKe_of (IH.ev E e k)
  l := fun {X C W} E es k hs => by
    have h := pa_list (K := X.K) (f := evK C E n) (rep := fun w x v => HRep X.K w x v) (W := W) (E := E) (fun g r => HRep.mono r g) hs fun e _ => IH.k E e k
    exact pa_imp h fun σ H Q hh => tG_mono (fun w w' a b r => reps_paired.mpr r) σ H Q hh
  lb := fun {X C W} E es k hs => by
    have h := pa_list (K := X.K) (f := evB C E n) (rep := fun w x v => RepB X.K w x v) (W := W) (E := E) (fun g r => RepB.mono r g) hs fun e _ => IH.b E e k
    exact pa_imp h fun σ H Q hh => tG_mono (fun w w' a b r => repBs_paired r) σ H Q hh
  o := fun {X C W} E e k => by
    cases e with
    | none =>
      exact po_imp po_none fun σ H Q hh => by
        obtain ⟨B, c, w, rfl, S, x⟩ := hh
        exact (show XO X.K W σ w (dret none c) _ from x).here S.wf _ rfl
    | some e =>
      exact po_imp (po_some (IH.b E e k)) fun σ H Q hh => by
        obtain ⟨B, c, w, rfl, S, x⟩ := hh
        have x' : XO X.K W σ w (dbind (evB C E n e) (fun x => dbind (intD x) fun i => dret (some i)) c) _ := x
        refine ⟨B, c, w, rfl, S, x'.bind.mono fun y c1 w1 g1 f1 h1 v rv => ?_⟩
        obtain ⟨i, rfl, h2⟩ := h1.int
        exact ⟨i, B_int rv, h2.here f1 _ rfl⟩
  t := fun {X C W} E e k => by
    by_cases hb : ∃ op es p, e = .BoolOp op es p
    · obtain ⟨op, es, p, rfl⟩ := hb
      exact (tw_step IH E op es p k).pt
    · exact t_step IH E e k fun op es p h => hb ⟨op, es, p, h⟩
  tw := fun E op es p k => tw_step IH E op es p k
  if_ := fun {X C W} E es k => by
    match es with
    | [] =>
      exact pts_imp pts_nil fun σ H Q hh => by
        obtain ⟨B, c, w, rfl, S, x⟩ := hh
        exact (show XO X.K W σ w (dret true c) _ from x).here S.wf _ rfl
    | [t] => exact pts_one (IH.t E t k)
    | _ :: _ :: _ => exact pts_no fun σ H Q h => tG_no (fun c => rfl) h
  w := fun {X C W} E kk e k => by
    cases kk with
    | true => exact pe_imp (IH.k E e k) fun σ H Q hh => tG_mono (fun w w' a b r => r) σ H Q hh
    | false => exact pe_imp (IH.b E e k) fun σ H Q hh => tG_mono (fun w w' a b r => r) σ H Q hh
  i := fun E kk tg e k => i_step IH E kk tg e k
theorem snd : ∀ n, Snd n
  | 0 => Snd.zero
  | n + 1 => (snd n).step
end
end DL

set_option maxHeartbeats 4000000
/-! DL13: what statements mean, on data. -/
namespace DL
open PySem PySem.Spec PyProof.Rows L2

inductive Out where
  | nx | brk | cnt | ret (r : RV)
inductive RsS where
  | ok (o : Out) (E : EnvD) (c : Option (List Int)) | err (e : Exn) (E : EnvD) (c : Option (List Int)) | wrong
def SM : Type := Option (List Int) → RsS
def sret (o : Out) (E : EnvD) : SM := fun c => .ok o E c
def swrong : SM := fun _ => .wrong
def liftE {α : Type} (E : EnvD) (m : DM α) (f : α → SM) : SM := fun c => match m c with
  | .ok a c' => f a c'
  | .err e c' => .err e E c'
  | .wrong => .wrong
def sbind (m : SM) (f : EnvD → SM) : SM := fun c => match m c with
  | .ok .nx E c' => f E c'
  | r => r

/-! ### names that are kept -/
mutual
def kps (C : Cn) : Nat → Bool → Expr → List Str
  | 0, _, _ => []
  | n + 1, b, e => match e with
    | .Name x _ => if b = true then [x] else []
    | .Tuple es _ _ => kpss C n true es
    | .List es _ => kpss C n true es
    | .BinOp x _ y _ => kps C n false x ++ kps C n false y
    | .UnaryOp _ x _ => kps C n false x
    | .BoolOp _ es _ => kpss C n b es
    | .Compare x _ es _ => kps C n false x ++ kpss C n false es
    | .IfExp t x y _ => kps C n false t ++ (kps C n b x ++ kps C n b y)
    | .Subscript x y _ => kps C n false x ++ kps C n false y
    | .Slice x y _ _ => (match x with
      | some x => kps C n false x
      | none => []) ++ (match y with
      | some y => kps C n false y
      | none => [])
    | .Attribute x _ _ => kps C n false x
    | .Call (.Name f _) es _ _ => kpss C n (!bltB f) es
    | .Call (.Attribute o _ _) es _ _ => kps C n false o ++ kpss C n true es
    | .ListComp elt gs _ _ => kps C n true elt ++ gs.flatMap fun g => match g with
      | ⟨_, it, ifs, _⟩ => kps C n false it ++ kpss C n false ifs
    | _ => []
def kpss (C : Cn) : Nat → Bool → List Expr → List Str
  | 0, _, _ => []
  | n + 1, _, [] => []
  | n + 1, b, e :: es => kps C n b e ++ kpss C n b es
end
/-- .. of what a for walks -/
def kpsI (C : Cn) (n : Nat) (e : Expr) : List Str := match e with
  | .Call (.Name f _) es _ _ => if f = "range" then kpss C n false es else kpss C n true es
  | e => kps C n true e
/-- names' lists, frozen -/
def frz1 (C : Cn) (E : EnvD) (x : Str) : EnvD := match ixS C.N x with
  | some i => (match E[i]? with
    | some (some (.own xs)) => E.set i (some (.fz (.lst xs)))
    | _ => E)
  | none => E
def frzE (C : Cn) : EnvD → List Str → EnvD
  | E, [] => E
  | E, x :: xs => frzE C (frz1 C E x) xs

/-! ### stores -/
def mkCell (E : EnvD) (i : Nat) (xs : List D) : SM := fun c => match c, ints? xs with
  | none, some is => if decide (i < E.length) = true then .ok .nx (E.set i (some (.fz .cel))) (some is) else .wrong
  | _, _ => .wrong
def stoN (C : Cn) (E : EnvD) (x : Str) (r : RV) : SM := match ixS C.N x with
  | some i => if stB C x = true then (match r with
      | .fz v => sret .nx (E.set i (some (.fz v)))
      | .fr xs => if C.mu.contains x = true then (if x = C.cell then mkCell E i xs else sret .nx (E.set i (some (.own xs)))) else sret .nx (E.set i (some (.fz (.lst xs))))
      | .bo _ => swrong) else swrong
  | none => swrong
def celApp (E : EnvD) (v : D) : SM := fun c => match c, v with
  | some is, .int j => if decide (is.length < 16777216) = true then .ok .nx E (some (is ++ [j])) else .wrong
  | _, _ => .wrong
def celSet (E : EnvD) (i : Int) (v : D) : SM := fun c => match c, v with
  | some is, .int j => (match ixN is.length i with
    | some k => .ok .nx E (some (is.set k j))
    | none => .wrong)
  | _, _ => .wrong
/-- x.append(v) -/
def appN (C : Cn) (E : EnvD) (x : Str) (v : D) : SM := if visB C.sc x = true then (match ixS C.N x with
  | some i => (match E[i]? with
    | some (some (.own xs)) => if decide (xs.length < 16777216) = true then sret .nx (E.set i (some (.own (xs ++ [v])))) else swrong
    | some (some (.fz .cel)) => celApp E v
    | _ => swrong)
  | none => swrong) else swrong
/-- x[j] = v -/
def setN (C : Cn) (E : EnvD) (x : Str) (j : D) (v : D) : SM := if visB C.sc x = true then (match ixS C.N x, j with
  | some i, .int j => (match E[i]? with
    | some (some (.own xs)) => (match ixN xs.length j with
      | some k => sret .nx (E.set i (some (.own (xs.set k v))))
      | none => swrong)
    | some (some (.fz .cel)) => celSet E j v
    | _ => swrong)
  | _, _ => swrong) else swrong
/-! a dict of one's own -/
def isDict0 : Expr → Bool
  | .Dict [] [] _ => true
  | _ => false
/-- x = {} -/
def newDic (C : Cn) (E : EnvD) (x : Str) : SM := match ixS C.N x with
  | some i => sret .nx (E.set i (some (.dic [])))
  | none => swrong
def dicB (C : Cn) (E : EnvD) (x : Str) : Bool := visB C.sc x && (match ixS C.N x with
  | some i => (dicAt E i).isSome
  | none => false)
def putD (i : Nat) (E : EnvD) (j : D) (v : D) : SM := match keyD j, v with
  | some k, .int m => (match dicAt E i with
    | some kvs => if decide (kvs.length < 16777216) = true then sret .nx (E.set i (some (.dic (putI kvs k m)))) else swrong
    | none => swrong)
  | _, _ => swrong
/-- x[j] = v, x a dict -/
def setDic (C : Cn) (E : EnvD) (x : Str) (j : D) (v : D) : SM := match ixS C.N x with
  | some i => putD i E j v
  | none => swrong
/-- x op= v, ints -/
def augG : Operator → Option (Int → Int → Int)
  | .Add => some fun a b => a + b
  | .Sub => some fun a b => a - b
  | _ => none
def augN (C : Cn) (E : EnvD) (x : Str) (g : Int → Int → Int) (v : D) : SM := match ixS C.N x, v with
  | some i, .int b => (match E[i]? with
    | some (some (.fz (.int a))) => sret .nx (E.set i (some (.fz (.int (g a b)))))
    | _ => swrong)
  | _, _ => swrong
def locN (C : Cn) (x : Str) : Bool := stB C x && (ixS C.N x).isSome
def locL (C : Cn) (x : Str) : Bool := locB C.sc x && (ixS C.N x).isSome
/-- x's list may be changed -/
def mutB (C : Cn) (E : EnvD) (x : Str) : Bool := visB C.sc x && (match ixS C.N x with
  | some i => (match E[i]? with
    | some (some (.own _)) => true
    | some (some (.fz .cel)) => true
    | _ => false)
  | none => false)
def augB (C : Cn) (E : EnvD) (x : Str) : Bool := stB C x && (match ixS C.N x with
  | some i => (match E[i]? with
    | some (some (.fz (.int _))) => true
    | _ => false)
  | none => false)
/-- x is the object that is being made -/
def insB (C : Cn) (E : EnvD) (x : Str) (f : Str) : Bool := visB C.sc x && (match ixS C.N x with
  | some i => (match E[i]? with
    | some (some (.ins cn ns _)) => C.isFld cn f && !ns.contains f && decide (ns.length < 900)
    | _ => false)
  | none => false)
/-- x.f = v -/
def insN (C : Cn) (E : EnvD) (x : Str) (f : Str) (v : D) : SM := match ixS C.N x with
  | some i => (match E[i]? with
    | some (some (.ins cn ns vs)) => sret .nx (E.set i (some (.ins cn (ns ++ [f]) (vs ++ [v]))))
    | _ => swrong)
  | none => swrong
def retR (E : EnvD) (r : RV) : SM := match r with
  | .fz v => sret (.ret (.fz v)) E
  | .fr xs => sret (.ret (.fr xs)) E
  | .bo _ => swrong
def retN (C : Cn) (E : EnvD) (x : Str) : SM := if visB C.sc x = true then (match ixS C.N x with
  | some i => (match E[i]? with
    | some (some (.own xs)) => sret (.ret (.fr xs)) E
    | some (some (.fz v)) => sret (.ret (.fz v)) E
    | _ => swrong)
  | none => swrong) else swrong
def sraise (e : Exn) (E : EnvD) : SM := fun c => .err e E c

/-- what an error's message can tell -/
def msgOk : D → Bool
  | .int i => decide (i.natAbs.log2 < 1920)
  | .str y => decide (y.length ≤ 1921)
  | _ => false

/-! ### loops -/
def sfor (f : D → EnvD → SM) : List D → EnvD → SM
  | [], E => sret .nx E
  | x :: xs, E => fun c => match f x E c with
    | .ok .nx E' c' => sfor f xs E' c'
    | .ok .cnt E' c' => sfor f xs E' c'
    | .ok .brk E' c' => .ok .nx E' c'
    | r => r
def swh (t : EnvD → EnvD × DM Bool) (f : EnvD → SM) : Nat → EnvD → SM
  | 0, _ => swrong
  | k + 1, E => liftE (t E).1 (t E).2 fun b => if b = true then fun c => (match f (t E).1 c with
    | .ok .nx E' c' => swh t f k E' c'
    | .ok .cnt E' c' => swh t f k E' c'
    | .ok .brk E' c' => .ok .nx E' c'
    | r => r) else sret .nx (t E).1
def isCompE : Expr → Bool
  | .ListComp _ _ _ _ => true
  | .SetComp _ _ _ _ => true
  | .DictComp _ _ _ _ _ => true
  | _ => false
def tupsB : Expr → Bool
  | .Tuple _ _ _ => true
  | _ => false

/-! an error's fields, isinstance: the small language of a suite -/
mutual
def evX (C : Cn) (E : EnvD) (nm : Option Str) (e : Exn) : Nat → Expr → Option RV
  | 0, _ => none
  | n + 1, x => match x with
    | .Constant (.str s) _ _ => some (.fz (.str s))
    | .Constant (.int i) _ _ => some (.fz (.int i))
    | .Constant (.bool b) _ _ => some (.fz (.bl b))
    | .Attribute (.Name m _) f _ => if (decide (nm = some m) && (((C.xf e.cls).getD []).contains f && (C.xs e.cls e.cls).isSome)) = true then (match e.fs.lookup f with
      | some v => some (.fz v)
      | none => none) else none
    | .Call (.Name f _) [.Name m _, .Name c _] [] _ => if (decide (f = "isinstance") && decide (nm = some m) && glB C.sc f && glB C.sc c) = true then (match C.xs e.cls c with
      | some b => some (.fz (.bl b))
      | none => none) else none
    | .List es _ => if es.any starB = true then none else (match evXs C E nm e n es with
      | some vs => if lenOk vs.length = true then some (.fr vs) else none
      | none => none)
    | .Tuple es _ _ => if es.any starB = true then none else (match evXs C E nm e n es with
      | some vs => if lenOk vs.length = true then some (.fz (.tup vs)) else none
      | none => none)
    | _ => none
def evXs (C : Cn) (E : EnvD) (nm : Option Str) (e : Exn) : Nat → List Expr → Option (List D)
  | 0, _ => none
  | _ + 1, [] => some []
  | n + 1, x :: xs => match evX C E nm e n x, evXs C E nm e n xs with
    | some (.fz v), some vs => some (v :: vs)
    | _, _ => none
end
def sfin (i : Nat) : RsS → RsS
  | .ok .nx E c => .ok .nx (E.set i none) c
  | _ => .wrong
/-- try: body / except x as nm: y = xe -/
def stry (C : Cn) (n : Nat) (m : SM) (x nm y : Str) (xe : Expr) : SM := fun c => match m c with
  | .err e E' c' => (match C.xs e.cls x, ixS C.N nm with
    | some true, some i => if decide (i < E'.length) = true then (match evX C (E'.set i none) (some nm) e n xe with
      | some r => sfin i (stoN C (E'.set i none) y r c')
      | none => .wrong) else .wrong
    | some false, some _ => .err e E' c'
    | _, _ => .wrong)
  | r => r
def tryB (C : Cn) (x nm y : Str) (xe : Expr) : Bool := locL C nm && locL C y && glB C.sc x && (C.xs x x).isSome && !isCompE xe
/-! several clauses -/
structure ClD where
  x : Str
  on : Option Str
  y : Str
  xe : Expr
def clD : ExceptHandler → Option ClD
  | .ExceptHandler (some (.Name x _)) on [.Assign [.Name y _] xe _] _ => some ⟨x, on, y, xe⟩
  | _ => none
def clsD : List ExceptHandler → Option (List ClD)
  | [] => some []
  | h :: r => match clD h, clsD r with
    | some t, some ts => some (t :: ts)
    | _, _ => none
def clB (C : Cn) (t : ClD) : Bool := (match t.on with
  | some nm => locL C nm
  | none => true) && locL C t.y && glB C.sc t.x && (C.xs t.x t.x).isSome && !isCompE t.xe
def nxo : RsS → RsS
  | .ok .nx E c => .ok .nx E c
  | _ => .wrong
/-- the first clause whose class it is -/
def selX (C : Cn) (n : Nat) (e : Exn) (E' : EnvD) (c' : Option (List Int)) : List ClD → RsS
  | [] => .err e E' c'
  | t :: r => match C.xs e.cls t.x with
    | some true => (match t.on with
      | some nm => (match ixS C.N nm with
        | some i => if decide (i < E'.length) = true then (match evX C (E'.set i none) (some nm) e n t.xe with
          | some r => sfin i (stoN C (E'.set i none) t.y r c')
          | none => .wrong) else .wrong
        | none => .wrong)
      | none => (match evX C E' none e n t.xe with
        | some r => nxo (stoN C E' t.y r c')
        | none => .wrong))
    | some false => selX C n e E' c' r
    | none => .wrong
def stryM (C : Cn) (n : Nat) (m : SM) (ts : List ClD) : SM := fun c => match m c with
  | .err e E' c' => selX C n e E' c' ts
  | r => r
def tryM (C : Cn) (n : Nat) (m : SM) (hs : List ExceptHandler) : SM := match clsD hs with
  | some (t :: ts) => if (t :: ts).all (clB C) = true then stryM C n m (t :: ts) else swrong
  | _ => swrong
/-! what a lent list can't be in -/
mutual
def noL : D → Bool
  | .non => true
  | .bl _ => true
  | .int _ => true
  | .str _ => true
  | .tup xs => noLs xs
  | _ => false
def noLs : List D → Bool
  | [] => true
  | x :: xs => noL x && noLs xs
end
def noLR : RV → Bool
  | .fz x => noL x
  | .fr xs => noLs xs
  | .bo _ => false
/-- a list that was lent comes back, if what came of it has no list in it -/
def backE (E E1 : EnvD) (r : RV) : EnvD := if noLR r = true then E else E1
mutual
def exS (C : Cn) : Nat → Stmt → EnvD → SM
  | 0, _, _ => swrong
  | n + 1, s, E => match s with
    | .Pass _ => sret .nx E
    | .Break _ => sret .brk E
    | .Continue _ => sret .cnt E
    | .Expr (.Constant (.str _) _ _) _ => sret .nx E
    | .Expr (.Call (.Attribute (.Name x _) m ap) [a] [] cp) _ => if (decide (m = "append") && !starB a && (ap.endLine == cp.line) && mutB C (frzE C E (kps C n true a)) x) = true then
        liftE (frzE C E (kps C n true a)) (evK C (frzE C E (kps C n true a)) n a) fun v => appN C (frzE C E (kps C n true a)) x v else swrong
    | .Expr (.Call (.Name f p) es [] q) _ => liftE (frzE C E (kps C n false (.Call (.Name f p) es [] q))) (ev C (frzE C E (kps C n false (.Call (.Name f p) es [] q))) n (.Call (.Name f p) es [] q)) fun _ => sret .nx (frzE C E (kps C n false (.Call (.Name f p) es [] q)))
    | .Assign [.Name x _] e _ => if (!locN C x) = true then swrong else if (C.dn.contains x && isDict0 e) = true then newDic C E x else liftE (frzE C E (kps C n true e)) (ev C (frzE C E (kps C n true e)) n e) fun r => stoN C (backE E (frzE C E (kps C n true e)) r) x r
    | .Assign [.Tuple ts kk p] e _ => if (tupsB e || isCompE e) = true then swrong else
        liftE (frzE C E (kps C n true e)) (evK C (frzE C E (kps C n true e)) n e) fun v => match bindT C n (.Tuple ts kk p) v (frzE C E (kps C n true e)) with
          | some E' => sret .nx E'
          | none => swrong
    | .Assign [.Subscript (.Name x _) i _] e _ => if C.dn.contains x = true then (if (isSlice i || isCompE e || !dicB C (frzE C E (kps C n true e ++ kps C n false i)) x) = true then swrong else
        liftE (frzE C E (kps C n true e ++ kps C n false i)) (evB C (frzE C E (kps C n true e ++ kps C n false i)) n e) fun v =>
          liftE (frzE C E (kps C n true e ++ kps C n false i)) (evB C (frzE C E (kps C n true e ++ kps C n false i)) n i) fun j => setDic C (frzE C E (kps C n true e ++ kps C n false i)) x j v)
      else if (isSlice i || isCompE e || !mutB C (frzE C E (kps C n true e ++ kps C n false i)) x) = true then swrong else
        liftE (frzE C E (kps C n true e ++ kps C n false i)) (evK C (frzE C E (kps C n true e ++ kps C n false i)) n e) fun v =>
          liftE (frzE C E (kps C n true e ++ kps C n false i)) (evB C (frzE C E (kps C n true e ++ kps C n false i)) n i) fun j => setN C (frzE C E (kps C n true e ++ kps C n false i)) x j v
    | .Assign [.Attribute (.Name x _) f _] e _ => if (isCompE e || !insB C (frzE C E (kps C n true e)) x f) = true then swrong else
        liftE (frzE C E (kps C n true e)) (evK C (frzE C E (kps C n true e)) n e) fun v => insN C (frzE C E (kps C n true e)) x f v
    | .AugAssign (.Name x _) op e _ => (match augG op with
        | some g => if (!augB C (frzE C E (kps C n false e)) x) = true then swrong else liftE (frzE C E (kps C n false e)) (evB C (frzE C E (kps C n false e)) n e) fun v => augN C (frzE C E (kps C n false e)) x g v
        | none => swrong)
    | .Return none _ => sret (.ret (.fz .non)) E
    | .Return (some e) _ => (match e with
      | .Name x _ => if visB C.sc x = true then retN C E x else liftE E (ev C E n e) fun r => retR E r
      | _ => liftE (frzE C E (kps C n true e)) (ev C (frzE C E (kps C n true e)) n e) fun r => retR (frzE C E (kps C n true e)) r)
    | .If t a b _ => liftE (frzE C E (kps C n false t)) (evT C (frzE C E (kps C n false t)) n t) fun k => if k = true then exSs C n a (frzE C E (kps C n false t)) else exSs C n b (frzE C E (kps C n false t))
    | .For tg it body [] _ => if iterB it = true then liftE (frzE C E (kpsI C n it)) (evI C (frzE C E (kpsI C n it)) n true tg it) fun xs =>
        sfor (fun x E => match bindT C n tg x E with
          | some E' => exSs C n body E'
          | none => swrong) xs (frzE C E (kpsI C n it)) else swrong
    | .While t body [] _ => swh (fun E => (frzE C E (kps C n false t), evT C (frzE C E (kps C n false t)) n t)) (exSs C n body) C.fuel E
    | .Try body [.ExceptHandler (some (.Name x _)) (some nm) [.Assign [.Name y _] xe _] _] [] [] _ => if tryB C x nm y xe = true then stry C n (exSs C n body E) x nm y xe else swrong
    | .Try body hs [] [] _ => tryM C n (exSs C n body E) hs
    | .Raise (some (.Call (.Name x _) es [] _)) none _ => if (glB C.sc x && !(es.any starB)) = true then (match C.xf x with
        | some fs => (match es with
          | [] => if fs.isEmpty = true then sraise ⟨x, []⟩ E else swrong
          | e :: r => if (!fs.isEmpty) = true then liftE (frzE C E (kpss C n true (e :: r))) (evL C (frzE C E (kpss C n true (e :: r))) n (e :: r)) fun vs =>
              if (decide (vs.length = fs.length) && vs.all msgOk) = true then sraise ⟨x, (fs.zip vs).reverse⟩ (frzE C E (kpss C n true (e :: r))) else swrong else swrong)
        | none => swrong) else swrong
    | _ => swrong
def exSs (C : Cn) : Nat → List Stmt → EnvD → SM
  | 0, _, _ => swrong
  | n + 1, [], E => sret .nx E
  | n + 1, s :: r, E => sbind (exS C n s E) fun E' => exSs C n r E'
end
end DL

set_option maxHeartbeats 4000000
/-! DL14: a frame's state is changed. -/
namespace DL
open PySem PySem.Spec PyProof.Rows L2

theorem Gf.refl (w : HS) : Gf w w := ⟨Same.refl _, fun _ e => e⟩
theorem Gf.trans {a b c : HS} (x : Gf a b) (y : Gf b c) : Gf a c := ⟨x.1.trans y.1, fun p e => y.2 p (x.2 p e)⟩
theorem Gr.f {a b : HS} (g : Gr a b) : Gf a b := ⟨g.g, g.dd⟩

/-- what is wanted behind a statement -/
def XS (K : PySem.W.Frag) (W : WX) (B : HS) (Z : Ends) (w : HS) : RsS → Prop
  | .ok .nx E c => ∀ σ w', Gf w w' → SR K B E c σ w' → Z.nx σ w'.H
  | .ok .brk E c => ∀ σ w', Gf w w' → SR K B E c σ w' → Z.bk σ w'.H
  | .ok .cnt E c => ∀ σ w', Gf w w' → SR K B E c σ w' → Z.ct σ w'.H
  | .ok (.ret r) _ c => ∀ v w', Gf w w' → Gr B w' → Wf c w' → RepV K B w' r v → Z.rt v w'.H
  | .err e E c => ∀ cls d σ w', Gf w w' → SR K B E c σ w' → RepX K w' e cls d → W cls d σ w'.H
  | .wrong => False
def tS (K : PySem.W.Frag) (W : WX) (E : EnvD) (m : SM) : TS := fun Z σ H => ∃ B c w, w.H = H ∧ SR K B E c σ w ∧ XS K W B Z w (m c)
section
variable {K : PySem.W.Frag} {W : WX} {B w w' : HS} {Z : Ends} {E : EnvD} {c : Option (List Int)} {σ : St}
theorem XS.up {r : RsS} (h : XS K W B Z w r) (g : Gf w w') : XS K W B Z w' r := by
  cases r with
  | wrong => exact h.elim
  | err e E c => exact fun cls d σ u g' S r => h cls d σ u (g.trans g') S r
  | ok o E c =>
    cases o with
    | ret r => exact fun v u g' gr f r => h v u (g.trans g') gr f r
    | nx => exact fun σ u g' S => h σ u (g.trans g') S
    | brk => exact fun σ u g' S => h σ u (g.trans g') S
    | cnt => exact fun σ u g' S => h σ u (g.trans g') S
theorem XS.lift {α : Type} {m : DM α} {f : α → SM} (S : SR K B E c σ w) (h : XS K W B Z w (liftE E m f c)) : XO K W σ w (m c) fun a c' w' => XS K W B Z w' (f a c') := by
  unfold liftE at h
  cases e : m c with
  | wrong => rw [e] at h; exact h.elim
  | err x c' => rw [e] at h; exact fun cls d w' g f r => h cls d σ w' g.f (S.grow g f) r
  | ok a c' => rw [e] at h; exact fun w' g f => XS.up h g.f

/-! ### own lists are frozen -/
/-- lists alone were frozen -/
structure Ln (w w' : HS) : Prop where
  H : w'.H = w.H
  d : w'.d = w.d
  x : w'.x = w.x
  g : Same w.G w'.G
  l : ∀ p, w.G p = none → w'.G p = none ∨ ∃ vs, w'.G p = some (.lst vs)
theorem Ln.refl (w : HS) : Ln w w := ⟨rfl, rfl, rfl, Same.refl _, fun _ h => .inl h⟩
theorem Ln.f {w w' : HS} (h : Ln w w') : Gf w w' := ⟨h.g, fun _ e => by rw [h.d]; exact e⟩
theorem Ln.trans {a b c : HS} (x : Ln a b) (y : Ln b c) : Ln a c := ⟨y.H.trans x.H, y.d.trans x.d, y.x.trans x.x, x.g.trans y.g, fun p hp => by
  rcases x.l p hp with h | ⟨vs, h⟩
  · exact y.l p h
  · exact .inr ⟨vs, y.g _ _ h⟩⟩
theorem SR.freezeL {i : Nat} {xs : List D} (S : SR K B E c σ w) (hi : E[i]? = some (some (.own xs))) : ∃ w', Ln w w' ∧ SR K B (E.set i (some (.fz (.lst xs)))) c σ w' := by
  obtain ⟨p, vs, e, hp, r, gn, nd⟩ := S.sl i _ hi
  have hB := S.ow i _ p hi rfl e
  have iE : i < E.length := (List.getElem?_eq_some_iff.mp hi).1
  have hG : Same w.G (w.frz p (.lst vs)).G := same_new gn
  have mono : ∀ {x : D} {v : V}, HRep K w x v → HRep K (w.frz p (.lst vs)) x v := fun r => Rep.mono (fun _ e => e) hG _ _ r
  have monos : ∀ {x : List D} {v : List V}, Reps K w.d w.G x v → Reps K (w.frz p (.lst vs)).d (w.frz p (.lst vs)).G x v := fun r => Reps.mono (fun _ e => e) hG _ _ r
  have oth : ∀ (j : Nat) (y : Option DV) (q : Addr), i ≠ j → E[j]? = some y → ownB y = true → σ[j]? = some (some (.ref q)) → q ≠ p := fun j y q hj hy ho hq z =>
    hj (S.ds i j _ y p hi hy rfl ho e (by rw [← z]; exact hq))
  refine ⟨w.frz p (.lst vs), ⟨rfl, rfl, rfl, hG, fun q hq => ?_⟩, S.wf.frz hp nd, S.gr.frz gn hB, by simp [S.len], fun j y hy => ?_, fun j y q hy ho hq => ?_, fun j k y z q h1 h2 o1 o2 q1 q2 => ?_, fun j a b d p e q => S.sf j a b d p (set_ins (by simp) e).2 q⟩
  · by_cases z : q = p
    · subst z; exact .inr ⟨vs, upd_same⟩
    · exact .inl ((upd_ne z).trans hq)
  · by_cases hj : i = j
    · subst hj
      rw [List.getElem?_set_self iE] at hy
      cases hy
      refine ⟨.ref p, e, ?_⟩
      simp only [HRep, Rep]
      exact ⟨p, vs, rfl, upd_same, monos r⟩
    · rw [List.getElem?_set_ne hj] at hy
      have so := S.sl j y hy
      cases y with
      | none => trivial
      | some y => cases y with
        | fz x =>
          obtain ⟨u, e1, r1⟩ := so
          exact ⟨u, e1, mono r1⟩
        | own ys =>
          obtain ⟨q, us, e1, h1, r1, g1, n1⟩ := so
          have ne := oth j _ q hj hy rfl e1
          exact ⟨q, us, e1, h1, monos r1, (upd_ne ne).trans g1, n1⟩
        | ins cn ns ys =>
          obtain ⟨q, dx, fs, e1, h1, en, r1, g1, n1⟩ := so
          have ne := oth j _ q hj hy rfl e1
          exact ⟨q, dx, fs, e1, h1, en, monos r1, (upd_ne ne).trans g1, n1⟩
        | dic kvs =>
          obtain ⟨q, e1, h1, g1, n1⟩ := so
          have ne := oth j _ q hj hy rfl e1
          exact ⟨q, e1, h1, (upd_ne ne).trans g1, n1⟩
  · by_cases hj : i = j
    · subst hj
      rw [List.getElem?_set_self iE] at hy
      cases hy
      cases ho
    · rw [List.getElem?_set_ne hj] at hy
      exact S.ow j y q hy ho hq
  · by_cases hj : i = j
    · subst hj
      rw [List.getElem?_set_self iE] at h1
      cases h1
      cases o1
    · by_cases hk : i = k
      · subst hk
        rw [List.getElem?_set_self iE] at h2
        cases h2
        cases o2
      · rw [List.getElem?_set_ne hj] at h1
        rw [List.getElem?_set_ne hk] at h2
        exact S.ds j k y z q h1 h2 o1 o2 q1 q2
theorem SR.freeze {i : Nat} {xs : List D} (S : SR K B E c σ w) (hi : E[i]? = some (some (.own xs))) : ∃ w', w'.H = w.H ∧ Gf w w' ∧ SR K B (E.set i (some (.fz (.lst xs)))) c σ w' := by
  obtain ⟨w', L, S'⟩ := S.freezeL hi
  exact ⟨w', L.H, L.f, S'⟩
theorem SR.frzL {C : Cn} : ∀ {E : EnvD} {w : HS} (xs : List Str), SR K B E c σ w → ∃ w', Ln w w' ∧ SR K B (frzE C E xs) c σ w'
  | E, w, [], S => ⟨w, Ln.refl w, S⟩
  | E, w, x :: xs, S => by
    have one : ∃ w1, Ln w w1 ∧ SR K B (DL.frz1 C E x) c σ w1 := by
      unfold DL.frz1
      cases ixS C.N x with
      | none => exact ⟨w, Ln.refl w, S⟩
      | some i =>
        dsimp only
        split
        · rename_i ys hi
          exact S.freezeL hi
        · exact ⟨w, Ln.refl w, S⟩
    obtain ⟨w1, L1, S1⟩ := one
    obtain ⟨w2, L2, S2⟩ := SR.frzL xs S1
    exact ⟨w2, L1.trans L2, S2⟩
mutual
theorem noL_rep {d : Option Addr} {G G' : Hp} (hG : ∀ a o, G a = some o → (∀ vs, o ≠ .lst vs) → G' a = some o) : ∀ (x : D) (v : V), noL x = true → Rep K d G x v → Rep K d G' x v
  | .non, v, _, h => by simpa [Rep] using h
  | .bl b, v, _, h => by simpa [Rep] using h
  | .int b, v, _, h => by simpa [Rep] using h
  | .str b, v, _, h => by simpa [Rep] using h
  | .tup xs, v, n, h => by
    simp only [Rep] at h ⊢
    obtain ⟨a, vs, e, s, r⟩ := h
    refine ⟨a, vs, e, ?_, noLs_rep hG xs vs (by simpa only [noL] using n) r⟩
    exact hG _ _ s nofun
  | .lst _, _, n, _ => by simp [noL] at n
  | .obj _ _ _, _, n, _ => by simp [noL] at n
  | .cel, _, n, _ => by simp [noL] at n
  | .scr _, _, n, _ => by simp [noL] at n
theorem noLs_rep {d : Option Addr} {G G' : Hp} (hG : ∀ a o, G a = some o → (∀ vs, o ≠ .lst vs) → G' a = some o) : ∀ (xs : List D) (vs : List V), noLs xs = true → Reps K d G xs vs → Reps K d G' xs vs
  | [], vs, _, h => by simpa [Reps] using h
  | x :: xs, vs, n, h => by
    simp only [noLs, Bool.and_eq_true] at n
    simp only [Reps] at h ⊢
    obtain ⟨v, ws, e, r, q⟩ := h
    exact ⟨v, ws, e, noL_rep hG x v n.1 r, noLs_rep hG xs ws n.2 q⟩
end
/-- lent lists come back -/
theorem unlend {w1 w' : HS} {c' : Option (List Int)} (L : Ln w w1) (g : Gr w1 w') (f : Wf c' w') : ∃ w2, w2.H = w'.H ∧ Gr w w2 ∧ Wf c' w2 ∧ ∀ (r : RV) (v : V), noLR r = true → RepV K w1 w' r v → RepV K w w2 r v := by
  classical
  let G2 : Hp := fun p => if w.G p = none ∧ w1.G p ≠ none then none else w'.G p
  have le : ∀ p o, G2 p = some o → w'.G p = some o := fun p o h => by
    by_cases q : w.G p = none ∧ w1.G p ≠ none
    · have : G2 p = none := if_pos q
      rw [this] at h; cases h
    · have : G2 p = w'.G p := if_neg q
      rw [this] at h; exact h
  have keep : ∀ a o, w'.G a = some o → (∀ vs, o ≠ .lst vs) → G2 a = some o := fun a o h hn => by
    have q : ¬ (w.G a = none ∧ w1.G a ≠ none) := fun ⟨q1, q2⟩ => by
      rcases L.l a q1 with z | ⟨vs, z⟩
      · exact q2 z
      · have := g.g _ _ z
        rw [h] at this
        exact hn vs (Option.some.inj this)
    have : G2 a = w'.G a := if_neg q
    rw [this]; exact h
  refine ⟨⟨w'.d, G2, w'.H, w'.x⟩, rfl, ⟨fun p o h => ?_, fun p o h nd => g.h p o (by rw [L.H]; exact h) (by rw [L.d]; exact nd), fun p h => g.t p (by rw [L.H]; exact h), fun p h => ?_, ?_⟩, ⟨fun p o h => f.sub p o (le p o h), f.cel.imp fun p is _ h1 h2 => ⟨h1, ?_⟩⟩, fun r v n rv => ?_⟩
  · have q : ¬ (w.G p = none ∧ w1.G p ≠ none) := fun ⟨q1, _⟩ => by rw [h] at q1; cases q1
    have : G2 p = w'.G p := if_neg q
    show G2 p = some o
    rw [this]; exact g.g _ _ (L.g _ _ h)
  · have h' : G2 p ≠ none := h
    by_cases q : w.G p = none ∧ w1.G p ≠ none
    · have : G2 p = none := if_pos q
      exact absurd this h'
    · have : G2 p = w'.G p := if_neg q
      rw [this] at h'
      rcases g.n p h' with z | z
      · by_cases q1 : w.G p = none
        · exact absurd ⟨q1, z⟩ q
        · exact .inl q1
      · exact .inr (by rw [← L.H]; exact z)
  · rcases g.dm with z | ⟨z1, p, z2, z3⟩
    · exact .inl (z.trans L.d)
    · exact .inr ⟨by rw [← L.d]; exact z1, p, z2, by rw [← L.H]; exact z3⟩
  · show G2 p = none
    by_cases q : w.G p = none ∧ w1.G p ≠ none
    · exact if_pos q
    · have : G2 p = w'.G p := if_neg q
      rw [this]; exact h2
  · cases r with
    | fz x => exact noL_rep keep x v n rv
    | bo xs => cases n
    | fr xs =>
      obtain ⟨p, vs, e, h1, h2, h3, h4, h5⟩ := rv
      refine ⟨p, vs, e, h1, noLs_rep keep xs vs n h2, ?_, h4, by rw [← L.H]; exact h5⟩
      show G2 p = none
      by_cases q : w.G p = none ∧ w1.G p ≠ none
      · exact if_pos q
      · have : G2 p = w'.G p := if_neg q
        rw [this]; exact h3
theorem XS.lift0 {w1 : HS} {E1 : EnvD} {α : Type} {m : DM α} {f : α → SM} (S1 : SR K B E1 c σ w1) (g1 : Gf w w1) (h : XS K W B Z w (liftE E1 m f c)) : XO K W σ w1 (m c) fun a c' w' => XS K W B Z w (f a c') := by
  unfold liftE at h
  cases e : m c with
  | wrong => rw [e] at h; exact h.elim
  | err x c' => rw [e] at h; exact fun cls d w' g f r => h cls d σ w' (g1.trans g.f) (S1.grow g f) r
  | ok a c' => rw [e] at h; exact fun w' g f => h
theorem SR.frz1 {C : Cn} {x : Str} (S : SR K B E c σ w) : ∃ w', w'.H = w.H ∧ Gf w w' ∧ SR K B (frz1 C E x) c σ w' := by
  unfold DL.frz1
  cases ixS C.N x with
  | none => exact ⟨w, rfl, Gf.refl w, S⟩
  | some i =>
    dsimp only
    split
    · rename_i xs hi
      exact S.freeze hi
    · exact ⟨w, rfl, Gf.refl w, S⟩
theorem SR.frzE {C : Cn} : ∀ {E : EnvD} {w : HS} (xs : List Str), SR K B E c σ w → ∃ w', w'.H = w.H ∧ Gf w w' ∧ SR K B (frzE C E xs) c σ w'
  | E, w, [], S => ⟨w, rfl, Gf.refl w, S⟩
  | E, w, x :: xs, S => by
    obtain ⟨w1, e1, g1, S1⟩ := S.frz1 (C := C) (x := x)
    obtain ⟨w2, e2, g2, S2⟩ := SR.frzE xs S1
    exact ⟨w2, e2.trans e1, g1.trans g2, S2⟩

/-! ### a new own list, a new cell -/
theorem SR.own {i : Nat} {p : Addr} {xs : List D} {vs : List V} (S : SR K B E c σ w) (hi : i < σ.length) (hp : w.H p = some (.lst vs)) (r : Reps K w.d w.G xs vs) (gn : w.G p = none) (nd : w.d ≠ some p) (hB : B.H p = none)
    (fr : ∀ (j : Nat) (y : Option DV), i ≠ j → E[j]? = some y → ownB y = true → σ[j]? ≠ some (some (.ref p))) : SR K B (E.set i (some (.own xs))) c (σ.set i (some (.ref p))) w := by
  have hl := S.len
  have iE : i < E.length := by omega
  refine ⟨S.wf, S.gr, by simp [hl], fun j y hy => ?_, fun j y q hy ho hq => ?_, fun j k y z q h1 h2 o1 o2 q1 q2 => ?_, fun j a b d p e q => by
    obtain ⟨hj, e⟩ := set_ins (by simp) e
    rw [List.getElem?_set_ne hj] at q
    exact S.sf j a b d p e q⟩
  · by_cases hj : i = j
    · subst hj
      rw [List.getElem?_set_self iE] at hy
      cases hy
      exact ⟨p, vs, List.getElem?_set_self hi, hp, r, gn, nd⟩
    · rw [List.getElem?_set_ne hj] at hy ⊢
      exact S.sl j y hy
  · by_cases hj : i = j
    · subst hj
      rw [List.getElem?_set_self hi] at hq
      cases hq
      exact hB
    · rw [List.getElem?_set_ne hj] at hy hq
      exact S.ow j y q hy ho hq
  · by_cases hj : i = j
    · by_cases hk : i = k
      · exact hj.symm.trans hk
      · subst hj
        rw [List.getElem?_set_self hi] at q1
        cases q1
        rw [List.getElem?_set_ne hk] at h2 q2
        exact absurd q2 (fr k z hk h2 o2)
    · by_cases hk : i = k
      · subst hk
        rw [List.getElem?_set_self hi] at q2
        cases q2
        rw [List.getElem?_set_ne hj] at h1 q1
        exact absurd q1 (fr j y hj h1 o1)
      · rw [List.getElem?_set_ne hj] at h1 q1
        rw [List.getElem?_set_ne hk] at h2 q2
        exact S.ds j k y z q h1 h2 o1 o2 q1 q2
theorem SR.cellNew {i : Nat} {p : Addr} {is : List Int} (S : SR K B E none σ w) (hi : i < σ.length) (hp : w.H p = some (.lst (is.map V.int))) (gn : w.G p = none) (hB : B.H p = none)
    (fr : ∀ (j : Nat) (y : Option DV), i ≠ j → E[j]? = some y → ownB y = true → σ[j]? ≠ some (some (.ref p))) : Gf w ⟨some p, w.G, w.H, w.x⟩ ∧ SR K B (E.set i (some (.fz .cel))) (some is) (σ.set i (some (.ref p))) ⟨some p, w.G, w.H, w.x⟩ := by
  have hl := S.len
  have iE : i < E.length := by omega
  have dn := S.wf.nocell
  have hd : ∀ a, w.d = some a → (some p : Option Addr) = some a := fun a e => by rw [dn] at e; cases e
  have mono : ∀ {x : D} {v : V}, HRep K w x v → HRep K ⟨some p, w.G, w.H, w.x⟩ x v := fun r => Rep.mono hd (Same.refl _) _ _ r
  have monos : ∀ {x : List D} {v : List V}, Reps K w.d w.G x v → Reps K (some p) w.G x v := fun r => Reps.mono hd (Same.refl _) _ _ r
  refine ⟨⟨Same.refl _, hd⟩, ⟨S.wf.sub, .inr ⟨p, is, rfl, rfl, hp, gn⟩⟩, ⟨S.gr.g, S.gr.h, S.gr.t, S.gr.n, ?_⟩, by simp [hl], fun j y hy => ?_, fun j y q hy ho hq => ?_, fun j k y z q h1 h2 o1 o2 q1 q2 => ?_, fun j a b d p e q => by
    obtain ⟨hj, e⟩ := set_ins (by simp) e
    rw [List.getElem?_set_ne hj] at q
    exact S.sf j a b d p e q⟩
  · rcases S.gr.dm with e | ⟨e, q, e', _⟩
    · exact .inr ⟨by rw [← e]; exact dn, p, rfl, hB⟩
    · exact .inr ⟨e, p, rfl, hB⟩
  · by_cases hj : i = j
    · subst hj
      rw [List.getElem?_set_self iE] at hy
      cases hy
      refine ⟨.ref p, List.getElem?_set_self hi, ?_⟩
      simp only [HRep, Rep]
      exact ⟨p, rfl, rfl⟩
    · rw [List.getElem?_set_ne hj] at hy ⊢
      have so := S.sl j y hy
      cases y with
      | none => trivial
      | some y => cases y with
        | fz x =>
          obtain ⟨u, e1, r1⟩ := so
          exact ⟨u, e1, mono r1⟩
        | own ys =>
          obtain ⟨q, us, e1, h1, r1, g1, n1⟩ := so
          exact ⟨q, us, e1, h1, monos r1, g1, fun z => fr j _ hj hy rfl (by cases z; exact e1)⟩
        | ins cn ns ys =>
          obtain ⟨q, dx, fs, e1, h1, en, r1, g1, n1⟩ := so
          exact ⟨q, dx, fs, e1, h1, en, monos r1, g1, fun z => fr j _ hj hy rfl (by cases z; exact e1)⟩
        | dic kvs =>
          obtain ⟨q, e1, h1, g1, n1⟩ := so
          exact ⟨q, e1, h1, g1, fun z => fr j _ hj hy rfl (by cases z; exact e1)⟩
  · by_cases hj : i = j
    · subst hj
      rw [List.getElem?_set_self iE] at hy
      cases hy
      cases ho
    · rw [List.getElem?_set_ne hj] at hy hq
      exact S.ow j y q hy ho hq
  · by_cases hj : i = j
    · subst hj
      rw [List.getElem?_set_self iE] at h1
      cases h1
      cases o1
    · by_cases hk : i = k
      · subst hk
        rw [List.getElem?_set_self iE] at h2
        cases h2
        cases o2
      · rw [List.getElem?_set_ne hj] at h1 q1
        rw [List.getElem?_set_ne hk] at h2 q2
        exact S.ds j k y z q h1 h2 o1 o2 q1 q2

/-! ### an own list is changed; the cell is changed -/
theorem Gr.wr {p : Addr} {o : HO} (g : Gr B w) (hB : B.H p = none ∨ B.d = some p) : Gr B ⟨w.d, w.G, upd w.H p o, w.x⟩ := by
  refine ⟨g.g, fun q u e n => ?_, fun q e => upd_some (g.t q e), g.n, g.dm⟩
  have ne : q ≠ p := by
    intro z
    subst z
    rcases hB with hB | hB
    · rw [hB] at e; cases e
    · exact n hB
  show upd w.H p o q = some u
  rw [upd_ne ne]
  exact g.h q u e n
theorem SR.mut {i : Nat} {p : Addr} {xs ys : List D} {us : List V} (S : SR K B E c σ w) (hi : E[i]? = some (some (.own xs))) (e : σ[i]? = some (some (.ref p))) (r : Reps K w.d w.G ys us) : SR K B (E.set i (some (.own ys))) c σ ⟨w.d, w.G, upd w.H p (.lst us), w.x⟩ := by
  obtain ⟨p', vs, e', hp, _, gn, nd⟩ := S.sl i _ hi
  rw [e] at e'
  cases e'
  have hB := S.ow i _ p hi rfl e
  have iE : i < E.length := (List.getElem?_eq_some_iff.mp hi).1
  have oth : ∀ (j : Nat) (y : Option DV) (q : Addr), i ≠ j → E[j]? = some y → ownB y = true → σ[j]? = some (some (.ref q)) → q ≠ p := fun j y q hj hy ho hq z =>
    hj (S.ds i j _ y p hi hy rfl ho e (by rw [← z]; exact hq))
  refine ⟨⟨fun b u eb => ?_, S.wf.cel.imp fun a is ea h1 h2 => ⟨?_, h2⟩⟩, S.gr.wr (.inl hB), by simp [S.len], fun j y hy => ?_, fun j y q hy ho hq => ?_, fun j k y z q h1 h2 o1 o2 q1 q2 => ?_, fun j a b d p e q => S.sf j a b d p (set_ins (by simp) e).2 q⟩
  · have ne : b ≠ p := fun z => by rw [z, gn] at eb; cases eb
    show upd w.H p _ b = some u
    rw [upd_ne ne]
    exact S.wf.sub _ _ eb
  · have ne : a ≠ p := fun z => nd (by rw [← z]; exact ea)
    exact (upd_ne ne).trans h1
  · by_cases hj : i = j
    · subst hj
      rw [List.getElem?_set_self iE] at hy
      cases hy
      exact ⟨p, us, e, upd_same, r, gn, nd⟩
    · rw [List.getElem?_set_ne hj] at hy
      have so := S.sl j y hy
      cases y with
      | none => trivial
      | some y => cases y with
        | fz x => exact so
        | own ys =>
          obtain ⟨q, us, e1, h1, r1, g1, n1⟩ := so
          exact ⟨q, us, e1, (upd_ne (oth j _ q hj hy rfl e1)).trans h1, r1, g1, n1⟩
        | ins cn ns ys =>
          obtain ⟨q, dx, fs, e1, h1, en, r1, g1, n1⟩ := so
          exact ⟨q, dx, fs, e1, (upd_ne (oth j _ q hj hy rfl e1)).trans h1, en, r1, g1, n1⟩
        | dic kvs =>
          obtain ⟨q, e1, h1, g1, n1⟩ := so
          exact ⟨q, e1, (upd_ne (oth j _ q hj hy rfl e1)).trans h1, g1, n1⟩
  · by_cases hj : i = j
    · subst hj
      rw [e] at hq
      cases hq
      exact hB
    · rw [List.getElem?_set_ne hj] at hy
      exact S.ow j y q hy ho hq
  · by_cases hj : i = j
    · by_cases hk : i = k
      · exact hj.symm.trans hk
      · subst hj
        rw [List.getElem?_set_ne hk] at h2
        exact S.ds i k _ z q hi h2 rfl o2 q1 q2
    · by_cases hk : i = k
      · subst hk
        rw [List.getElem?_set_ne hj] at h1
        exact S.ds j i y _ q h1 hi o1 rfl q1 q2
      · rw [List.getElem?_set_ne hj] at h1
        rw [List.getElem?_set_ne hk] at h2
        exact S.ds j k y z q h1 h2 o1 o2 q1 q2
theorem SR.dicNew {i : Nat} {p : Addr} {kvs : List (List Int × Int)} (S : SR K B E c σ w) (hi : i < σ.length) (hp : w.H p = some (.dT (toT kvs))) (gn : w.G p = none) (nd : w.d ≠ some p) (hB : B.H p = none)
    (fr : ∀ (j : Nat) (y : Option DV), i ≠ j → E[j]? = some y → ownB y = true → σ[j]? ≠ some (some (.ref p))) : SR K B (E.set i (some (.dic kvs))) c (σ.set i (some (.ref p))) w := by
  have hl := S.len
  have iE : i < E.length := by omega
  refine ⟨S.wf, S.gr, by simp [hl], fun j y hy => ?_, fun j y q hy ho hq => ?_, fun j k y z q h1 h2 o1 o2 q1 q2 => ?_, fun j a b d p e q => by
    obtain ⟨hj, e⟩ := set_ins (by simp) e
    rw [List.getElem?_set_ne hj] at q
    exact S.sf j a b d p e q⟩
  · by_cases hj : i = j
    · subst hj
      rw [List.getElem?_set_self iE] at hy
      cases hy
      exact ⟨p, List.getElem?_set_self hi, hp, gn, nd⟩
    · rw [List.getElem?_set_ne hj] at hy ⊢
      exact S.sl j y hy
  · by_cases hj : i = j
    · subst hj
      rw [List.getElem?_set_self hi] at hq
      cases hq
      exact hB
    · rw [List.getElem?_set_ne hj] at hy hq
      exact S.ow j y q hy ho hq
  · by_cases hj : i = j
    · by_cases hk : i = k
      · exact hj.symm.trans hk
      · subst hj
        rw [List.getElem?_set_self hi] at q1
        cases q1
        rw [List.getElem?_set_ne hk] at h2 q2
        exact absurd q2 (fr k z hk h2 o2)
    · by_cases hk : i = k
      · subst hk
        rw [List.getElem?_set_self hi] at q2
        cases q2
        rw [List.getElem?_set_ne hj] at h1 q1
        exact absurd q1 (fr j y hj h1 o1)
      · rw [List.getElem?_set_ne hj] at h1 q1
        rw [List.getElem?_set_ne hk] at h2 q2
        exact S.ds j k y z q h1 h2 o1 o2 q1 q2
theorem SR.dicPut {i : Nat} {p : Addr} {kvs kvs' : List (List Int × Int)} (S : SR K B E c σ w) (hi : E[i]? = some (some (.dic kvs))) (e : σ[i]? = some (some (.ref p))) : SR K B (E.set i (some (.dic kvs'))) c σ ⟨w.d, w.G, upd w.H p (.dT (toT kvs')), w.x⟩ := by
  obtain ⟨p', e', hp, gn, nd⟩ := S.sl i _ hi
  rw [e] at e'
  cases e'
  have hB := S.ow i _ p hi rfl e
  have iE : i < E.length := (List.getElem?_eq_some_iff.mp hi).1
  have oth : ∀ (j : Nat) (y : Option DV) (q : Addr), i ≠ j → E[j]? = some y → ownB y = true → σ[j]? = some (some (.ref q)) → q ≠ p := fun j y q hj hy ho hq z =>
    hj (S.ds i j _ y p hi hy rfl ho e (by rw [← z]; exact hq))
  refine ⟨⟨fun b u eb => ?_, S.wf.cel.imp fun a is ea h1 h2 => ⟨?_, h2⟩⟩, S.gr.wr (.inl hB), by simp [S.len], fun j y hy => ?_, fun j y q hy ho hq => ?_, fun j k y z q h1 h2 o1 o2 q1 q2 => ?_, fun j a b d p e q => S.sf j a b d p (set_ins (by simp) e).2 q⟩
  · have ne : b ≠ p := fun z => by rw [z, gn] at eb; cases eb
    show upd w.H p _ b = some u
    rw [upd_ne ne]
    exact S.wf.sub _ _ eb
  · have ne : a ≠ p := fun z => nd (by rw [← z]; exact ea)
    exact (upd_ne ne).trans h1
  · by_cases hj : i = j
    · subst hj
      rw [List.getElem?_set_self iE] at hy
      cases hy
      exact ⟨p, e, upd_same, gn, nd⟩
    · rw [List.getElem?_set_ne hj] at hy
      have so := S.sl j y hy
      cases y with
      | none => trivial
      | some y => cases y with
        | fz x => exact so
        | own ys =>
          obtain ⟨q, us, e1, h1, r1, g1, n1⟩ := so
          exact ⟨q, us, e1, (upd_ne (oth j _ q hj hy rfl e1)).trans h1, r1, g1, n1⟩
        | ins cn ns ys =>
          obtain ⟨q, dx, fs, e1, h1, en, r1, g1, n1⟩ := so
          exact ⟨q, dx, fs, e1, (upd_ne (oth j _ q hj hy rfl e1)).trans h1, en, r1, g1, n1⟩
        | dic kvs =>
          obtain ⟨q, e1, h1, g1, n1⟩ := so
          exact ⟨q, e1, (upd_ne (oth j _ q hj hy rfl e1)).trans h1, g1, n1⟩
  · by_cases hj : i = j
    · subst hj
      rw [e] at hq
      cases hq
      exact hB
    · rw [List.getElem?_set_ne hj] at hy
      exact S.ow j y q hy ho hq
  · by_cases hj : i = j
    · by_cases hk : i = k
      · exact hj.symm.trans hk
      · subst hj
        rw [List.getElem?_set_ne hk] at h2
        exact S.ds i k _ z q hi h2 rfl o2 q1 q2
    · by_cases hk : i = k
      · subst hk
        rw [List.getElem?_set_ne hj] at h1
        exact S.ds j i y _ q h1 hi o1 rfl q1 q2
      · rw [List.getElem?_set_ne hj] at h1
        rw [List.getElem?_set_ne hk] at h2
        exact S.ds j k y z q h1 h2 o1 o2 q1 q2
theorem SR.mutI {i : Nat} {p dx : Addr} {cn : Str} {ns : List Str} {xs ys : List D} {fs' : List (Str × V)} (S : SR K B E c σ w) (hi : E[i]? = some (some (.ins cn ns xs))) (e : σ[i]? = some (some (.ref p))) (r : Reps K w.d w.G ys (fs'.map (·.2))) :
    SR K B (E.set i (some (.ins cn (fs'.map (·.1)) ys))) c σ ⟨w.d, w.G, upd w.H p (.ins (He.ga K cn) dx fs'), w.x⟩ := by
  obtain ⟨p', dx', vs, e', hp, _, _, gn, nd⟩ := S.sl i _ hi
  rw [e] at e'
  cases e'
  have hB := S.ow i _ p hi rfl e
  have iE : i < E.length := (List.getElem?_eq_some_iff.mp hi).1
  have oth : ∀ (j : Nat) (y : Option DV) (q : Addr), i ≠ j → E[j]? = some y → ownB y = true → σ[j]? = some (some (.ref q)) → q ≠ p := fun j y q hj hy ho hq z =>
    hj (S.ds i j _ y p hi hy rfl ho e (by rw [← z]; exact hq))
  refine ⟨⟨fun b u eb => ?_, S.wf.cel.imp fun a is ea h1 h2 => ⟨?_, h2⟩⟩, S.gr.wr (.inl hB), by simp [S.len], fun j y hy => ?_, fun j y q hy ho hq => ?_, fun j k y z q h1 h2 o1 o2 q1 q2 => ?_, fun j a b d q h1 h2 => ?_⟩
  · have ne : b ≠ p := fun z => by rw [z, gn] at eb; cases eb
    show upd w.H p _ b = some u
    rw [upd_ne ne]
    exact S.wf.sub _ _ eb
  · have ne : a ≠ p := fun z => nd (by rw [← z]; exact ea)
    exact (upd_ne ne).trans h1
  · by_cases hj : i = j
    · subst hj
      rw [List.getElem?_set_self iE] at hy
      cases hy
      exact ⟨p, dx, fs', e, upd_same, rfl, r, gn, nd⟩
    · rw [List.getElem?_set_ne hj] at hy
      have so := S.sl j y hy
      cases y with
      | none => trivial
      | some y => cases y with
        | fz x => exact so
        | own ys =>
          obtain ⟨q, us, e1, h1, r1, g1, n1⟩ := so
          exact ⟨q, us, e1, (upd_ne (oth j _ q hj hy rfl e1)).trans h1, r1, g1, n1⟩
        | ins cn ns ys =>
          obtain ⟨q, dx, fs, e1, h1, en, r1, g1, n1⟩ := so
          exact ⟨q, dx, fs, e1, (upd_ne (oth j _ q hj hy rfl e1)).trans h1, en, r1, g1, n1⟩
        | dic kvs =>
          obtain ⟨q, e1, h1, g1, n1⟩ := so
          exact ⟨q, e1, (upd_ne (oth j _ q hj hy rfl e1)).trans h1, g1, n1⟩
  · by_cases hj : i = j
    · subst hj
      rw [e] at hq
      cases hq
      exact hB
    · rw [List.getElem?_set_ne hj] at hy
      exact S.ow j y q hy ho hq
  · by_cases hj : i = j
    · by_cases hk : i = k
      · exact hj.symm.trans hk
      · subst hj
        rw [List.getElem?_set_ne hk] at h2
        exact S.ds i k _ z q hi h2 rfl o2 q1 q2
    · by_cases hk : i = k
      · subst hk
        rw [List.getElem?_set_ne hj] at h1
        exact S.ds j i y _ q h1 hi o1 rfl q1 q2
      · rw [List.getElem?_set_ne hj] at h1
        rw [List.getElem?_set_ne hk] at h2
        exact S.ds j k y z q h1 h2 o1 o2 q1 q2
  · by_cases hj : i = j
    · subst hj
      exact S.sf i _ _ _ q hi h2
    · rw [List.getElem?_set_ne hj] at h1
      exact S.sf j a b d q h1 h2
theorem SR.cellSet {is js : List Int} {p : Addr} (S : SR K B E (some is) σ w) (hd : w.d = some p) : SR K B E (some js) σ ⟨w.d, w.G, upd w.H p (.lst (js.map V.int)), w.x⟩ := by
  obtain ⟨is', e, hp, gn⟩ := S.wf.cellAt hd
  have hB : B.H p = none ∨ B.d = some p := by
    rcases S.gr.dm with e | ⟨_, q, e', h⟩
    · exact .inr (by rw [← e]; exact hd)
    · rw [hd] at e'; cases e'; exact .inl h
  refine ⟨⟨fun b u eb => ?_, .inr ⟨p, js, hd, rfl, upd_same, gn⟩⟩, S.gr.wr hB, S.len, fun j y hy => ?_, S.ow, S.ds, S.sf⟩
  · have ne : b ≠ p := fun z => by rw [z, gn] at eb; cases eb
    show upd w.H p _ b = some u
    rw [upd_ne ne]
    exact S.wf.sub _ _ eb
  · have so := S.sl j y hy
    cases y with
    | none => trivial
    | some y => cases y with
      | fz x => exact so
      | own ys =>
        obtain ⟨q, us, e1, h1, r1, g1, n1⟩ := so
        have ne : q ≠ p := fun z => n1 (by rw [z]; exact hd)
        exact ⟨q, us, e1, (upd_ne ne).trans h1, r1, g1, n1⟩
      | ins cn ns ys =>
        obtain ⟨q, dx, fs, e1, h1, en, r1, g1, n1⟩ := so
        have ne : q ≠ p := fun z => n1 (by rw [z]; exact hd)
        exact ⟨q, dx, fs, e1, (upd_ne ne).trans h1, en, r1, g1, n1⟩
      | dic kvs =>
        obtain ⟨q, e1, h1, g1, n1⟩ := so
        have ne : q ≠ p := fun z => n1 (by rw [z]; exact hd)
        exact ⟨q, e1, (upd_ne ne).trans h1, g1, n1⟩
end
end DL

set_option maxHeartbeats 4000000
/-! DL15: statements mean what they should: the readings. -/
namespace DL
open PySem PySem.Spec PyProof.Rows L2
def fmtV : V → Prop
  | .str y => y.length ≤ 1921
  | .int i => i.natAbs.log2 < 1920
  | _ => False
theorem msg_fmt {d : Option Addr} {G : Hp} {K : PySem.W.Frag} : ∀ {xs : List D} {vs : List V}, xs.all msgOk = true → Reps K d G xs vs → ∀ u ∈ vs, fmtV u
  | [], vs, _, r, u, hu => by simp only [Reps] at r; subst r; cases hu
  | x :: xs, vs, h, r, u, hu => by
    rw [List.all_cons, Bool.and_eq_true] at h
    simp only [Reps] at r
    obtain ⟨v, ws, rfl, r1, r2⟩ := r
    rcases List.mem_cons.mp hu with rfl | hu
    · cases x with
      | int i =>
        simp only [Rep] at r1
        subst r1
        have h1 : decide (i.natAbs.log2 < 1920) = true := h.1
        show i.natAbs.log2 < 1920
        exact of_decide_eq_true h1
      | str i =>
        simp only [Rep] at r1
        subst r1
        have h1 : decide (i.length ≤ 1921) = true := h.1
        show i.length ≤ 1921
        exact of_decide_eq_true h1
      | _ => cases h.1
    · exact msg_fmt h.2 r2 u hu
theorem Reps.reverse {K : PySem.W.Frag} {d : Option Addr} {G : Hp} : ∀ {xs : List D} {vs : List V}, Reps K d G xs vs → Reps K d G xs.reverse vs.reverse
  | [], vs, h => by simp only [Reps] at h; subst h; simp [Reps]
  | x :: xs, vs, h => by
    simp only [Reps] at h
    obtain ⟨v, ws, rfl, r, q⟩ := h
    rw [List.reverse_cons, List.reverse_cons]
    exact (Reps.reverse q).append (Reps.one r)
/-- an own exception class -/
structure ExX (X : Cx) (c : Str) (fs : List Str) : Prop where
  mk1 : fs ≠ [] → ∃ R : List V → Hp → XK → Prop, (∀ vs H1 Q, vs.length = fs.length → (∀ u ∈ vs, fmtV u) → (∀ d, H1 d = none → Q (.ref (He.ga X.K c)) (some d) (upd H1 d (.xd (fs.zip vs).reverse))) → R vs H1 Q) ∧
    ∀ {e : Expr} {es : List Expr} {t : TA} {p pos : Pos}, PA X (e :: es) t → (e :: es).any starB = false → PMk X (.Call (.Name c p) (e :: es) [] pos) (fun σ H Q => t σ H fun vs H1 => R vs H1 Q)
  mk0 : fs = [] → ∀ {p pos : Pos}, PMk X (.Call (.Name c p) [] [] pos) (fun σ H Q => Q (.ref (He.ga X.K c)) none H)
structure Sk (X : Cx) (C : Cn) (W : WX) : Prop extends Ck X C W where
  po : PassesOwn (model X.prog X.w) X.A X.env X.xe
  ex : ∀ c fs, glB C.sc c = true → C.xf c = some fs → ∀ Y : Cx, Y.prog = X.prog → Y.w = X.w → Y.K = X.K → Y.mg = X.mg → Y.base = X.base → Y.calm = true → Y.A = X.A → Y.env = X.env → ExX Y c fs
  stk : X.stack = X.env :: X.outer
  fr : X.env.frame = some X.env.locals
  xs : ∀ c x b, C.xs c x = some b → X.mg x = some (.ref (He.ga X.K x)) ∧ (x == ("__debug__" : Str)) = false ∧ PySem.W.exmOne X.K (.ref (He.ga X.K c)) (.ref (He.ga X.K x)) = some b ∧
    PySem.W.kitOne X.K (.ref (He.ga X.K c)) (.ref (He.ga X.K x)) = some b ∧ ExcC X.K (He.ga X.K c) ∧ XfC X.K (He.ga X.K c)
  xfn : ∀ c fs, C.xf c = some fs → ∀ f ∈ fs, PySem.W.findIn X.K (.ref (He.ga X.K c)) f = some none
section
variable {K : PySem.W.Frag} {W : WX} {B w w' : HS} {Z : Ends} {E : EnvD} {c : Option (List Int)} {σ : St} {H : Hp}
theorem tS_frz {C : Cn} {xs : List Str} {m : SM} (h : tS K W E m Z σ H) : tS K W (frzE C E xs) m Z σ H := by
  obtain ⟨B, c, w, rfl, S, x⟩ := h
  obtain ⟨w', e, g, S'⟩ := S.frzE (C := C) xs
  exact ⟨B, c, w', e, S', x.up g⟩
theorem ps_no {X : Cx} {s : Stmt} {t : TS} (h : ∀ Z σ H, ¬ t Z σ H) : PS X s t := ⟨fun pins s σ H D I q => (h D σ H q).elim⟩
theorem pss_no {X : Cx} {s : List Stmt} {t : TS} (h : ∀ Z σ H, ¬ t Z σ H) : PSs X s t := ⟨fun pins s σ H D I q => (h D σ H q).elim⟩
theorem tS_no {m : SM} (hm : ∀ c, m c = .wrong) : ¬ tS K W E m Z σ H := fun ⟨B, c, w, _, _, x⟩ => by rw [hm c] at x; exact x
theorem SR.setL {i : Nat} {x : D} {v : V} (S : SR K B E c σ w) (r : HRep K w x v) : SR K B (E.set i (some (.fz x))) c (σ.set i (some v)) w := by
  by_cases hi : i < σ.length
  · exact S.set hi r
  · have hl := S.len
    rw [List.set_eq_of_length_le (by omega), List.set_eq_of_length_le (by omega)]
    exact S
/-- a value's new list is no name's -/
theorem SR.fresh {w1 : HS} {p : Addr} (S : SR K B E c σ w) (h : w.H p = none) : ∀ (j : Nat) (y : Option DV), E[j]? = some y → ownB y = true → σ[j]? ≠ some (some (.ref p)) := fun j y hy ho e => by
  have so := S.sl j y hy
  cases y with
  | none => cases ho
  | some y => cases y with
    | fz x => cases ho
    | own xs =>
      obtain ⟨q, vs, e1, h1, _⟩ := so
      rw [e] at e1
      cases e1
      rw [h] at h1
      cases h1
    | ins cn ns xs =>
      obtain ⟨q, dx, fs, e1, h1, _⟩ := so
      rw [e] at e1
      cases e1
      rw [h] at h1
      cases h1
    | dic kvs =>
      obtain ⟨q, e1, h1, _⟩ := so
      rw [e] at e1
      cases e1
      rw [h] at h1
      cases h1
/-- a value is stored at a name -/
theorem sto_ok {C : Cn} {x : Str} {i : Nat} {r : RV} {v : V} {c' : Option (List Int)} (hi : ixS C.N x = some i) (hl : stB C x = true) (S : SR K B E c σ w) (g : Gr w w') (f : Wf c' w') (rv : RepV K w w' r v) (h : XS K W B Z w' (stoN C E x r c')) : Z.nx (σ.set i (some v)) w'.H := by
  have S' := S.grow g f
  unfold stoN at h
  rw [hi] at h
  dsimp only at h
  rw [if_pos hl] at h
  cases r with
  | fz y => exact h _ w' (Gf.refl w') (S'.setL rv)
  | bo xs => exact h.elim
  | fr xs =>
    obtain ⟨p, vs, rfl, h1, h2, h3, h4, h5⟩ := rv
    dsimp only at h
    have hB : B.H p = none := S.gr.t' h5
    have fr := S.fresh (w1 := w') h5
    by_cases hm : C.mu.contains x = true
    · rw [if_pos hm] at h
      by_cases hc : x = C.cell
      · rw [if_pos hc] at h
        unfold mkCell at h
        cases c' with
        | some is => exact h.elim
        | none =>
          cases e : ints? xs with
          | none => rw [e] at h; exact h.elim
          | some is =>
            rw [e] at h
            have ev := ints_rep e h2
            subst ev
            dsimp only at h
            by_cases hlt : i < E.length
            · rw [if_pos (decide_eq_true hlt)] at h
              obtain ⟨g2, S2⟩ := S'.cellNew (p := p) (is := is) (by rw [← S.len]; exact hlt) h1 h3 hB fun j y _ hy ho => fr j y hy ho
              exact h _ ⟨some p, w'.G, w'.H, w'.x⟩ g2 S2
            · rw [if_neg (by simpa using hlt)] at h; exact h.elim
      · rw [if_neg hc] at h
        by_cases hlt : i < σ.length
        · exact h _ w' (Gf.refl w') (S'.own hlt h1 h2 h3 h4 hB fun j y _ hy ho => fr j y hy ho)
        · have hl := S'.len
          have e1 : σ.set i (some (V.ref p)) = σ := List.set_eq_of_length_le (by omega)
          have e2 : E.set i (some (.own xs)) = E := List.set_eq_of_length_le (by omega)
          rw [e1]
          rw [e2] at h
          exact h _ w' (Gf.refl w') S'
    · rw [if_neg hm] at h
      have gf : Gf w' (w'.frz p (.lst vs)) := ⟨same_new h3, fun _ e => e⟩
      have g2 := Gr.frz (o := .lst vs) g h3 h5
      have f2 := Wf.frz f h1 h4
      have rr : HRep K (w'.frz p (.lst vs)) (.lst xs) (.ref p) := by
        simp only [HRep, Rep]
        exact ⟨p, vs, rfl, upd_same, Reps.mono (fun _ e => e) (same_new h3) _ _ h2⟩
      exact h _ (w'.frz p (.lst vs)) gf ((S.grow g2 f2).setL rr)
end
end DL

set_option maxHeartbeats 4000000
/-! DL16: statements mean what they should: the rules. -/
namespace DL
open PySem PySem.Spec PyProof.Rows L2
section
variable {X : Cx} {C : Cn} {W : WX} {n : Nat} {E : EnvD} {pos px : Pos} {x f : Str} {e : Expr}
theorem sw_loc {X : Cx} {x : Str} {b c d : Bool} (h : (b && X.env.kindOf x == some .local && c && d) = true) : X.env.scope.names.lookup x = some .local := by
  simp only [Bool.and_eq_true] at h
  simpa [Env.kindOf] using h.1.1.2
/-- name = e -/
theorem set_rule (k : Ck X C W) {i : Nat} (hi : ixS C.N x = some i) (hl : stB C x = true) : PS X (.Assign [.Name x px] e pos) (tAsg (tV X.K W E (ev C E n e)) (gName i)) := by
  have hN : X.N.Nodup := by rw [k.N]; exact k.nd
  have hx : X.N[i]? = some x := by rw [k.N]; exact ixS_ok hi
  obtain ⟨hlo, hfn⟩ := stB_ok k.sc k.clf hl
  have plain : swapsWith e (some (.Name x px)) pos.line X.env = pure false → PS X (.Assign [.Name x px] e pos) (tAsg (tV X.K W E (ev C E n e)) (gName i)) := fun hs => ps_set hN hx hlo ((snd n).ev E e k) hs hfn
  have no : (∀ c, ev C E n e c = .wrong) → PS X (.Assign [.Name x px] e pos) (tAsg (tV X.K W E (ev C E n e)) (gName i)) := fun hw => ps_no fun Z σ H h => tG_no (σ := σ) (H := H) hw h
  cases e with
  | ListComp elt gs scope p =>
    cases n with
    | zero => exact no fun c => rfl
    | succ n =>
      match gs with
      | [] => exact no fun c => rfl
      | ⟨tg, iter, ifs, 0⟩ :: [] =>
        by_cases hb : (blkC C.N C.sc scope (ownN C.N scope) && iterB iter && (tgIx C n tg).all fun i => ((ownN C.N scope).map (·.2)).contains i) = true
        · have hs : swapsWith (.ListComp elt [⟨tg, iter, ifs, 0⟩] scope p) (some (.Name x px)) pos.line X.env = pure (X.env.blockKind == .function && X.env.kindOf x == some .local && px.line == p.line && !(scope.names.any fun (n, k) => n == x && (k == .local || k == .cell))) := rfl
          cases hsw : (X.env.blockKind == .function && X.env.kindOf x == some .local && px.line == p.line && !(scope.names.any fun (n, k) => n == x && (k == .local || k == .cell))) with
          | false => exact plain (by rw [hs, hsw])
          | true =>
            rw [hsw] at hs
            have hloc : X.env.scope.names.lookup x = some .local := sw_loc hsw
            have e0 : ev C E (n + 1) (.ListComp elt [⟨tg, iter, ifs, 0⟩] scope p) = if (blkC C.N C.sc scope (ownN C.N scope) && iterB iter && (tgIx C n tg).all fun i => ((ownN C.N scope).map (·.2)).contains i) = true then
              dbind (evI C E n false tg iter) fun items => dif (lenOk items.length) (noErr (dbind (dloop (turnC { C with sc := relS scope C.sc, clc := fun y => scope.names.lookup y == some .cell } E n tg elt ifs ((ownN C.N scope).map (·.2))) items) fun ys => dret (.fr ys))) else dwrong := rfl
            rw [e0, if_pos hb]
            rw [Bool.and_eq_true, Bool.and_eq_true] at hb
            obtain ⟨ok, hf, hg, hif, he⟩ := comp_parts (snd n) k (elt := elt) (tg := tg) (ifs := ifs) hb.1.1 hb.1.2
            exact ps_imp (ps_setLc k.calm hN hx hloc hs ((snd n).i E false tg iter k) ok hg hif he hf) fun Z σ H h => comp_imp hb.2 σ H _ h
        · have e0 : ev C E (n + 1) (.ListComp elt [⟨tg, iter, ifs, 0⟩] scope p) = if (blkC C.N C.sc scope (ownN C.N scope) && iterB iter && (tgIx C n tg).all fun i => ((ownN C.N scope).map (·.2)).contains i) = true then
              dbind (evI C E n false tg iter) fun items => dif (lenOk items.length) (noErr (dbind (dloop (turnC { C with sc := relS scope C.sc, clc := fun y => scope.names.lookup y == some .cell } E n tg elt ifs ((ownN C.N scope).map (·.2))) items) fun ys => dret (.fr ys))) else dwrong := rfl
          exact no fun c => by rw [e0, if_neg hb]; rfl
      | ⟨_, _, _, (_ + 1 : Nat)⟩ :: [] => exact no fun c => rfl
      | ⟨_, _, _, Int.negSucc _⟩ :: [] => exact no fun c => rfl
      | [⟨tg, iter, ifs, 0⟩, ⟨tg1, iter1, ifs1, 0⟩] =>
        have e0 : ev C E (n + 1) (.ListComp elt [⟨tg, iter, ifs, 0⟩, ⟨tg1, iter1, ifs1, 0⟩] scope p) = if cond2 C n scope tg iter tg1 iter1 = true then
          dbind (evI C E n false tg iter) fun items => noErr (dbind (dfold2 (turn2 { C with sc := relS scope C.sc, clc := fun y => scope.names.lookup y == some .cell } n E tg tg1 iter1 elt ifs ifs1 ((ownN C.N scope).map (·.2)) (tgIx C n tg1)) [] items) fun ys => dret (.fr ys)) else dwrong := rfl
        by_cases hb : cond2 C n scope tg iter tg1 iter1 = true
        · have hs : swapsWith (.ListComp elt [⟨tg, iter, ifs, 0⟩, ⟨tg1, iter1, ifs1, 0⟩] scope p) (some (.Name x px)) pos.line X.env = pure (X.env.blockKind == .function && X.env.kindOf x == some .local && px.line == p.line && !(scope.names.any fun (n, k) => n == x && (k == .local || k == .cell))) := rfl
          cases hsw : (X.env.blockKind == .function && X.env.kindOf x == some .local && px.line == p.line && !(scope.names.any fun (n, k) => n == x && (k == .local || k == .cell))) with
          | false => exact plain (by rw [hs, hsw])
          | true =>
            rw [hsw] at hs
            have hloc : X.env.scope.names.lookup x = some .local := sw_loc hsw
            rw [e0, if_pos hb]
            exact (comp2_rule (snd n) k hb).2 hx hloc hs
        · exact no fun c => by rw [e0, if_neg hb]; rfl
      | [⟨_, _, _, 0⟩, ⟨_, _, _, (_ + 1 : Nat)⟩] => exact no fun c => rfl
      | [⟨_, _, _, 0⟩, ⟨_, _, _, Int.negSucc _⟩] => exact no fun c => rfl
      | ⟨_, _, _, 0⟩ :: ⟨_, _, _, 0⟩ :: _ :: _ => exact no fun c => rfl
      | ⟨_, _, _, 0⟩ :: ⟨_, _, _, (_ + 1 : Nat)⟩ :: _ :: _ => exact no fun c => rfl
      | ⟨_, _, _, 0⟩ :: ⟨_, _, _, Int.negSucc _⟩ :: _ :: _ => exact no fun c => rfl
      | ⟨_, _, _, (_ + 1 : Nat)⟩ :: _ :: _ => exact no fun c => rfl
      | ⟨_, _, _, Int.negSucc _⟩ :: _ :: _ => exact no fun c => rfl
  | SetComp elt gs scope p => exact no fun c => by cases n <;> rfl
  | DictComp a b gs scope p => exact no fun c => by cases n <;> rfl
  | _ => exact plain rfl
theorem ret_frz {xs : List Str} {m : SM} {st : Stmt} (h : PS X st (tS X.K W (frzE C E xs) m)) : PS X st (tS X.K W E m) := ps_imp h fun Z σ H q => tS_frz q
theorem assign_ok (k : Ck X C W) (hx : locN C x = true) : PS X (.Assign [.Name x px] e pos) (tS X.K W E (liftE E (ev C E n e) fun r => stoN C E x r)) := by
  unfold locN at hx
  rw [Bool.and_eq_true] at hx
  obtain ⟨i, hi⟩ := Option.isSome_iff_exists.mp hx.2
  refine ps_imp (set_rule (n := n) (E := E) k hi hx.1) fun Z σ H h => ?_
  obtain ⟨B, c, w, rfl, S, h⟩ := h
  exact ⟨B, c, w, rfl, S, (XS.lift S h).mono fun r c' w' g f h1 v rv => sto_ok hi hx.1 S g f rv h1⟩
/-- .. with lists lent to what is asked -/
theorem assign_lend (k : Ck X C W) (ks : List Str) (hx : locN C x = true) : PS X (.Assign [.Name x px] e pos) (tS X.K W E (liftE (frzE C E ks) (ev C (frzE C E ks) n e) fun r => stoN C (backE E (frzE C E ks) r) x r)) := by
  unfold locN at hx
  rw [Bool.and_eq_true] at hx
  obtain ⟨i, hi⟩ := Option.isSome_iff_exists.mp hx.2
  refine ps_imp (set_rule (n := n) (E := frzE C E ks) k hi hx.1) fun Z σ H h => ?_
  obtain ⟨B, c, w, rfl, S, h⟩ := h
  obtain ⟨w1, L, S1⟩ := S.frzL (C := C) ks
  refine ⟨B, c, w1, L.H, S1, (XS.lift0 S1 L.f h).mono fun r c' w' g f h1 v rv => ?_⟩
  by_cases hn : noLR r = true
  · have eb : backE E (frzE C E ks) r = E := if_pos hn
    rw [eb] at h1
    obtain ⟨w2, e2, g2, f2, r2⟩ := unlend (K := X.K) L g f
    have := sto_ok hi hx.1 S g2 f2 (r2 r v hn rv) (XS.up h1 g2.f)
    rw [e2] at this; exact this
  · have eb : backE E (frzE C E ks) r = frzE C E ks := if_neg hn
    rw [eb] at h1
    exact sto_ok hi hx.1 S1 g f rv (XS.up h1 (L.f.trans g.f))
theorem drop_ok (k : Ck X C W) (hs : swapsWith e none pos.line X.env = pure false) : PS X (.Expr e pos) (tS X.K W E (liftE E (ev C E n e) fun _ => sret .nx E)) := by
  refine ps_imp (ps_expr ((snd n).ev E e k) hs) fun Z σ H h => ?_
  obtain ⟨B, c, w, rfl, S, h⟩ := h
  exact ⟨B, c, w, rfl, S, (XS.lift S h).mono fun r c' w' g f h1 v rv => h1 σ w' (Gf.refl w') (S.grow g f)⟩
/-- what a name's slot holds, to be changed in place -/
theorem mut_at (k : Ck X C W) (h : mutB C E x = true) : visB C.sc x = true ∧ ∃ i, ixS C.N x = some i ∧ ((∃ xs, E[i]? = some (some (.own xs))) ∨ E[i]? = some (some (.fz .cel))) := by
  unfold mutB at h
  rw [Bool.and_eq_true] at h
  refine ⟨h.1, ?_⟩
  have h2 := h.2
  cases hi : ixS C.N x with
  | none => rw [hi] at h2; cases h2
  | some i =>
    rw [hi] at h2
    refine ⟨i, rfl, ?_⟩
    dsimp only at h2
    split at h2
    · rename_i xs e; exact .inl ⟨_, e⟩
    · rename_i e; exact .inr e
    · cases h2
theorem var_rule (k : Ck X C W) (hv : visB C.sc x = true) {i : Nat} (hi : ixS C.N x = some i) : PE X (.Name x px) (fun σ H Q => ∃ u, σ[i]? = some (some u) ∧ Q u H) := by
  have hN := ixS_ok hi
  have nm := k.nm x (List.mem_of_getElem? hN)
  exact pe_imp (pe_var (i := i) (by rw [k.N]; exact hN) (by rw [k.sc]; exact visB_ok hv) nm.1 nm.2) fun σ H Q h => h
theorem append_ok (k : Ck X C W) {a : Expr} {ap cp : Pos} (hs : starB a = false) (hl : (ap.endLine == cp.line) = true) (hm : mutB C E x = true) :
    PS X (.Expr (.Call (.Attribute (.Name x px) "append" ap) [a] [] cp) pos) (tS X.K W E (liftE E (evK C E n a) fun v => appN C E x v)) := by
  obtain ⟨hv, i, hi, hE⟩ := mut_at k hm
  have hse := star_cons hs [] X.env
  refine ps_imp (ps_expr (pe_bm PySem.F.plainAttrs_list PySem.F.slot_list_append PySem.F.type_list_append mt_append (var_rule (px := px) k hv hi) (pa_cons ((snd n).k E a k) pa_nil hse) (by rfl) (by rw [hse]; rfl) hl hse (by rfl)) (by rfl)) fun Z σ H h => ?_
  obtain ⟨B, c, w, rfl, S, h⟩ := h
  have h1 := XS.lift S h
  rcases hE with ⟨xs, hE⟩ | hE
  · obtain ⟨p, vs, e0, hp, _⟩ := S.sl i _ hE
    refine ⟨.ref p, e0, .inl ⟨rfl, vs, .of hp⟩, B, c, w, rfl, S, h1.mono fun v c' w' g f h2 u ru => ?_⟩
    have S' := S.grow g f
    obtain ⟨p', us, e1, hp', r', gn', nd'⟩ := S'.sl i _ hE
    rw [e0] at e1
    cases e1
    unfold appN at h2
    rw [if_pos hv, hi] at h2
    dsimp only at h2
    rw [hE] at h2
    dsimp only at h2
    by_cases hz : xs.length < 16777216
    · rw [if_pos (decide_eq_true hz)] at h2
      refine ⟨p, us, u, rfl, rfl, hp', by rw [r'.length, sizeLine_eq]; exact hz, ?_⟩
      exact h2 σ ⟨w'.d, w'.G, upd w'.H p (.lst (us ++ [u])), w'.x⟩ ⟨Same.refl _, fun _ e => e⟩ (S'.mut hE e0 (r'.append (Reps.one ru)))
    · rw [if_neg (by simpa using hz)] at h2; exact h2.elim
  · obtain ⟨u0, e0, r0⟩ := S.sl i _ hE
    obtain ⟨p, rfl, hd⟩ := B_cel (.inl r0)
    obtain ⟨is0, ec, hp, gn⟩ := S.wf.cellAt hd
    refine ⟨.ref p, e0, .inl ⟨rfl, _, .of hp⟩, B, c, w, rfl, S, h1.mono fun v c' w' g f h2 u ru => ?_⟩
    have S' := S.grow g f
    have hd' := g.dd _ hd
    obtain ⟨is1, ec', hp', gn'⟩ := f.cellAt hd'
    subst ec'
    unfold appN at h2
    rw [if_pos hv, hi] at h2
    dsimp only at h2
    rw [hE] at h2
    dsimp only at h2
    unfold celApp at h2
    cases v <;> try exact h2.elim
    rename_i j
    dsimp only at h2
    by_cases hz : is1.length < 16777216
    · rw [if_pos (decide_eq_true hz)] at h2
      have eu : u = .int j := by simpa [HRep, Rep] using ru
      subst eu
      refine ⟨p, is1.map V.int, .int j, rfl, rfl, hp', by rw [List.length_map, sizeLine_eq]; exact hz, ?_⟩
      have := h2 σ ⟨w'.d, w'.G, upd w'.H p (.lst ((is1 ++ [j]).map V.int)), w'.x⟩ ⟨Same.refl _, fun _ e => e⟩ (S'.cellSet hd')
      rw [List.map_append] at this
      exact this
    · rw [if_neg (by simpa using hz)] at h2; exact h2.elim
theorem ixN_lt {n j : Nat} {i : Int} (h : ixN n i = some j) : j < n := by
  unfold ixN at h
  split at h
  · split at h
    · cases h; omega
    · cases h
  · split at h
    · cases h; omega
    · cases h
theorem sub_ok (k : Ck X C W) {ie : Expr} {p2 : Pos} (hs : isSlice ie = false) (hc : isCompE e = false) (hm : mutB C E x = true) :
    PS X (.Assign [.Subscript (.Name x px) ie p2] e pos) (tS X.K W E (liftE E (evK C E n e) fun v => liftE E (evB C E n ie) fun j => setN C E x j v)) := by
  obtain ⟨hv, i, hi, hE⟩ := mut_at k hm
  have hsw : swapsWithSole [.Subscript (.Name x px) ie p2] e pos.line X.env = pure false := by cases e <;> first | rfl | simp [isCompE] at hc
  have hst : swappedStores [.Subscript (.Name x px) ie p2] e X.env = pure none := by rfl
  refine ps_imp (ps_asg ((snd n).k E e k) (pg_sub (pos := p2) (var_rule (px := px) k hv hi) ((snd n).b E ie k) set_list (by intro v; cases ie <;> first | rfl | simp [isSlice] at hs)) hsw hst (by rfl)) fun Z σ H h => ?_
  obtain ⟨B, c, w, rfl, S, h⟩ := h
  refine ⟨B, c, w, rfl, S, (XS.lift S h).mono fun v c1 w1 g1 f1 h1 u ru => ?_⟩
  have S1 := S.grow g1 f1
  have h1' := XS.lift S1 h1
  rcases hE with ⟨xs, hE⟩ | hE
  · obtain ⟨p, vs, e0, hp, _⟩ := S1.sl i _ hE
    refine ⟨.ref p, e0, B, c1, w1, rfl, S1, h1'.mono fun j c2 w2 g2 f2 h2 uj rj => ?_⟩
    have S2 := S1.grow g2 f2
    obtain ⟨p', us, e1, hp', r', gn', nd'⟩ := S2.sl i _ hE
    rw [e0] at e1
    cases e1
    unfold setN at h2
    rw [if_pos hv, hi] at h2
    cases j <;> try exact h2.elim
    rename_i jj
    dsimp only at h2
    rw [hE] at h2
    dsimp only at h2
    cases ej : ixN xs.length jj with
    | none => rw [ej] at h2; exact h2.elim
    | some kk =>
      rw [ej] at h2
      refine ⟨p, us, jj, kk, rfl, B_int rj, hp', by rw [r'.length]; exact ej, ?_⟩
      exact h2 σ ⟨w2.d, w2.G, upd w2.H p (.lst (us.set kk u)), w2.x⟩ ⟨Same.refl _, fun _ e => e⟩ (S2.mut hE e0 (r'.set kk (HRep.mono ru g2)))
  · obtain ⟨u0, e0, r0⟩ := S1.sl i _ hE
    obtain ⟨p, rfl, hd⟩ := B_cel (.inl r0)
    refine ⟨.ref p, e0, B, c1, w1, rfl, S1, h1'.mono fun j c2 w2 g2 f2 h2 uj rj => ?_⟩
    have S2 := S1.grow g2 f2
    have hd' := g2.dd _ hd
    obtain ⟨is1, ec', hp', gn'⟩ := f2.cellAt hd'
    subst ec'
    unfold setN at h2
    rw [if_pos hv, hi] at h2
    cases j <;> try exact h2.elim
    rename_i jj
    dsimp only at h2
    rw [hE] at h2
    dsimp only at h2
    unfold celSet at h2
    cases v <;> try exact h2.elim
    rename_i vi
    dsimp only at h2
    cases ej : ixN is1.length jj with
    | none => rw [ej] at h2; exact h2.elim
    | some kk =>
      rw [ej] at h2
      have eu : u = .int vi := by simpa [HRep, Rep] using ru
      subst eu
      refine ⟨p, is1.map V.int, jj, kk, rfl, B_int rj, hp', by rw [List.length_map]; exact ej, ?_⟩
      have := h2 σ ⟨w2.d, w2.G, upd w2.H p (.lst ((is1.set kk vi).map V.int)), w2.x⟩ ⟨Same.refl _, fun _ e => e⟩ (S2.cellSet hd')
      rw [List.map_set] at this
      exact this
/-- x = {} -/
theorem newDic_ok (k : Ck X C W) (hx : locN C x = true) (he : isDict0 e = true) : PS X (.Assign [.Name x px] e pos) (tS X.K W E (newDic C E x)) := by
  unfold locN at hx
  rw [Bool.and_eq_true] at hx
  obtain ⟨i, hi⟩ := Option.isSome_iff_exists.mp hx.2
  have hN : X.N.Nodup := by rw [k.N]; exact k.nd
  have hxN : X.N[i]? = some x := by rw [k.N]; exact ixS_ok hi
  obtain ⟨hlo, hfn⟩ := stB_ok k.sc k.clf hx.1
  unfold isDict0 at he
  split at he
  · refine ps_imp (ps_set hN hxN hlo pe_dnewT (by rfl) hfn) fun Z σ H h => ?_
    obtain ⟨B, c, w, rfl, S, h⟩ := h
    unfold newDic at h
    rw [hi] at h
    intro p hp
    have g := Gr.put (o := .dT []) S.wf hp
    have f := Wf.put (o := .dT []) S.wf hp
    have S' := S.grow g f
    by_cases hl : i < σ.length
    · exact h (σ.set i (some (.ref p))) (w.put p (.dT [])) g.f (S'.dicNew (kvs := []) hl upd_same (S.wf.gn hp) (S.wf.ne hp) (S.gr.t' hp) fun j y _ hy ho => S.fresh (w1 := w) hp j y hy ho)
    · have hl2 := S.len
      have e2 : E.set i (some (.dic [])) = E := List.set_eq_of_length_le (by omega)
      have e3 : σ.set i (some (.ref p)) = σ := List.set_eq_of_length_le (by omega)
      have h' : XS X.K W B Z w (.ok .nx (E.set i (some (.dic []))) c) := h
      rw [e2] at h'
      show Z.nx (σ.set i (some (.ref p))) _
      rw [e3]
      exact h' σ (w.put p (.dT [])) g.f S'
  · cases he
theorem dic_at (h : dicB C E x = true) : visB C.sc x = true ∧ ∃ i kvs, ixS C.N x = some i ∧ E[i]? = some (some (.dic kvs)) := by
  unfold dicB at h
  rw [Bool.and_eq_true] at h
  refine ⟨h.1, ?_⟩
  have h2 := h.2
  cases hi : ixS C.N x with
  | none => rw [hi] at h2; cases h2
  | some i =>
    rw [hi] at h2
    obtain ⟨kvs, hk⟩ := Option.isSome_iff_exists.mp h2
    exact ⟨i, kvs, rfl, dicAt_ok hk⟩
theorem dicAt_of {i : Nat} {kvs : List (List Int × Int)} (h : E[i]? = some (some (.dic kvs))) : dicAt E i = some kvs := by
  unfold dicAt; rw [h]
/-- x[i] = e, x a dict -/
theorem dput_ok (k : Ck X C W) {ie : Expr} {p2 : Pos} (hs : isSlice ie = false) (hc : isCompE e = false) (hm : dicB C E x = true) :
    PS X (.Assign [.Subscript (.Name x px) ie p2] e pos) (tS X.K W E (liftE E (evB C E n e) fun v => liftE E (evB C E n ie) fun j => setDic C E x j v)) := by
  obtain ⟨hv, i, kvs, hi, hE⟩ := dic_at hm
  have hsw : swapsWith e (some (.Subscript (.Name x px) ie p2)) pos.line X.env = pure false := by cases e <;> first | rfl | simp [isCompE] at hc
  refine ps_imp (ps_dput (by have := k.hu; omega) (var_rule (px := px) k hv hi) ((snd n).b E ie k) ((snd n).b E e k) hsw) fun Z σ H h => ?_
  obtain ⟨B, c, w, rfl, S, h⟩ := h
  refine ⟨B, c, w, rfl, S, (XS.lift S h).mono fun v c1 w1 g1 f1 h1 u ru => ?_⟩
  have S1 := S.grow g1 f1
  have h1' := XS.lift S1 h1
  obtain ⟨p, e0, hp, gn, nd⟩ := S1.sl i _ hE
  refine ⟨.ref p, e0, B, c1, w1, rfl, S1, h1'.mono fun j c2 w2 g2 f2 h2 uj rj => ?_⟩
  have S2 := S1.grow g2 f2
  obtain ⟨p', e1, hp', gn', nd'⟩ := S2.sl i _ hE
  rw [e0] at e1
  cases e1
  unfold setDic putD at h2
  rw [hi] at h2
  dsimp only at h2
  cases hk : keyD j with
  | none => rw [hk] at h2; exact h2.elim
  | some ks =>
    rw [hk] at h2
    cases v <;> try exact h2.elim
    rename_i m
    dsimp only at h2
    rw [dicAt_of hE] at h2
    dsimp only at h2
    by_cases hz : kvs.length < 16777216
    · rw [if_pos (decide_eq_true hz)] at h2
      obtain ⟨xs, rfl, hx⟩ := keyD_ok hk
      obtain ⟨q, vs, rfl, hq, _, r⟩ := B_tup f2 rj
      have ev := ints_rep hx r
      subst ev
      have eu := B_int ru
      subst eu
      have hq1 : w2.H q = some (.tup ((ks.map Sum.inl).map kV)) := by rw [keyV]; exact f2.sub _ _ hq
      have hz' : (toT kvs).length < sizeLine := by rw [toT, List.length_map, sizeLine_eq]; exact hz
      refine ⟨p, _, rfl, DPut.t hp' hq1 hz', ?_⟩
      rw [putT]
      exact h2 σ ⟨w2.d, w2.G, upd w2.H p (.dT (toT (putI kvs ks m))), w2.x⟩ ⟨Same.refl _, fun _ e => e⟩ (S2.dicPut hE e0)
    · rw [if_neg (by simpa using hz)] at h2; exact h2.elim
theorem putF_new {f : Str} {y : V} : ∀ {fs : List (Str × V)}, (fs.map (·.1)).contains f = false → putF f y fs = fs ++ [(f, y)]
  | [], _ => rfl
  | (g, z) :: fs, h => by
    simp only [List.map_cons, List.contains_cons, Bool.or_eq_false_iff] at h
    have hg : g ≠ f := fun e => by
      have := h.1
      rw [e] at this
      simp at this
    show (if g = f then _ else _) = _
    rw [if_neg hg, putF_new h.2]
    rfl
theorem ins_at (h : insB C E x f = true) : visB C.sc x = true ∧ ∃ i cn ns vs, ixS C.N x = some i ∧ E[i]? = some (some (.ins cn ns vs)) ∧ C.isFld cn f = true ∧ ns.contains f = false ∧ ns.length < 900 := by
  unfold insB at h
  rw [Bool.and_eq_true] at h
  refine ⟨h.1, ?_⟩
  have h2 := h.2
  cases hi : ixS C.N x with
  | none => rw [hi] at h2; cases h2
  | some i =>
    rw [hi] at h2
    dsimp only at h2
    split at h2
    · rename_i cn ns vs e
      rw [Bool.and_eq_true, Bool.and_eq_true, Bool.not_eq_true', decide_eq_true_eq] at h2
      exact ⟨i, cn, ns, vs, rfl, e, h2.1.1, h2.1.2, h2.2⟩
    · cases h2
theorem fld_ok (k : Ck X C W) {p2 : Pos} {f : Str} (hc : isCompE e = false) (hm : insB C E x f = true) :
    PS X (.Assign [.Attribute (.Name x px) f p2] e pos) (tS X.K W E (liftE E (evK C E n e) fun v => insN C E x f v)) := by
  obtain ⟨hv, i, cn, ns, vs, hi, hE, hf, hn, hl⟩ := ins_at hm
  have hsw : swapsWith e (some (.Attribute (.Name x px) f p2)) pos.line X.env = pure false := by cases e <;> first | rfl | simp [isCompE] at hc
  obtain ⟨hC, hA⟩ := k.fl cn f hf
  refine ps_imp (ps_fld (var_rule (px := px) k hv hi) ((snd n).k E e k) hsw) fun Z σ H h => ?_
  obtain ⟨B, c, w, rfl, S, h⟩ := h
  refine ⟨B, c, w, rfl, S, (XS.lift S h).mono fun v c1 w1 g1 f1 h1 u ru => ?_⟩
  have S1 := S.grow g1 f1
  obtain ⟨p, dx, fs, e0, hp, en, r, gn, nd⟩ := S1.sl i _ hE
  unfold insN at h1
  rw [hi] at h1
  dsimp only at h1
  rw [hE] at h1
  refine ⟨.ref p, e0, p, He.ga X.K cn, dx, fs, rfl, hp, hC, hA, by rw [← List.length_map (f := (·.1)) (as := fs), en]; omega, ?_⟩
  rw [putF_new (by rw [en]; exact hn)]
  have e1 : (fs ++ [(f, u)]).map (·.1) = ns ++ [f] := by rw [List.map_append, en]; rfl
  have S2 := S1.mutI (dx := dx) (fs' := fs ++ [(f, u)]) (ys := vs ++ [v]) hE e0 (by rw [List.map_append]; exact r.append (Reps.one ru))
  rw [e1] at S2
  exact h1 σ ⟨w1.d, w1.G, upd w1.H p (.ins (He.ga X.K cn) dx (fs ++ [(f, u)])), w1.x⟩ ⟨Same.refl _, fun _ e => e⟩ S2
end
end DL

set_option maxHeartbeats 4000000
/-! DL17: statements mean what they should. -/
namespace DL
open PySem PySem.Spec PyProof.Rows L2
section
variable {X : Cx} {C : Cn} {W : WX} {n : Nat} {E : EnvD} {pos px : Pos} {x : Str} {e : Expr}
theorem tup_ok (k : Ck X C W) {ts : List Expr} {kk : Nat} {pt : Pos} (h1 : tupsB e = false) (h2 : isCompE e = false) :
    PS X (.Assign [.Tuple ts kk pt] e pos) (tS X.K W E (liftE E (evK C E n e) fun v => match bindT C n (.Tuple ts kk pt) v E with
          | some E' => sret .nx E'
          | none => swrong)) := by
  have hsw : swapsWithSole [.Tuple ts kk pt] e pos.line X.env = pure false := by cases e <;> first | rfl | simp [isCompE] at h2
  have hst : swappedStores [.Tuple ts kk pt] e X.env = pure none := by cases e <;> first | rfl | simp [tupsB] at h1
  refine ps_imp (ps_asg ((snd n).k E e k) ((pgD (X := X) k.N k.nd k.sc k.clf k.calm n).1 (.Tuple ts kk pt)) hsw hst (by rfl)) fun Z σ H h => ?_
  obtain ⟨B, c, w, rfl, S, h⟩ := h
  refine ⟨B, c, w, rfl, S, (XS.lift S h).mono fun v c1 w1 g1 f1 h1 u ru => ?_⟩
  cases hb : bindT C n (.Tuple ts kk pt) v E with
  | none => rw [hb] at h1; exact h1.elim
  | some E' =>
    rw [hb] at h1
    exact ⟨B, E, c1, w1, v, E', rfl, S.grow g1 f1, ru, hb, fun σ' S' _ => h1 σ' w1 (Gf.refl w1) S'⟩
theorem pip_no {op : Operator} : PIp X op (fun _ _ _ _ => False) := fun _ _ _ _ _ _ _ _ _ _ _ _ h => h.elim
theorem aug_ok (k : Ck X C W) {op : Operator} {g : Int → Int → Int} (hg : augG op = some g) (ha : augB C E x = true) : PS X (.AugAssign (.Name x px) op e pos) (tS X.K W E (liftE E (evB C E n e) fun v => augN C E x g v)) := by
  unfold augB at ha
  rw [Bool.and_eq_true] at ha
  obtain ⟨hl, ha⟩ := ha
  have hp : PIp X op (ipI g) := by
    cases op <;> cases hg
    · exact ip_add
    · exact ip_sub
  cases hi : ixS C.N x with
  | none => rw [hi] at ha; cases ha
  | some i =>
    rw [hi] at ha
    dsimp only at ha
    have hN : X.N.Nodup := by rw [k.N]; exact k.nd
    have hx : X.N[i]? = some x := by rw [k.N]; exact ixS_ok hi
    obtain ⟨hlo, hfn⟩ := stB_ok k.sc k.clf hl
    split at ha
    · rename_i i0 hE
      refine ps_imp (ps_aug (pos' := px) hN hx hlo ((snd n).b E e k) hp hfn) fun Z σ H h => ?_
      obtain ⟨B, c, w, rfl, S, h⟩ := h
      obtain ⟨u0, e0, r0⟩ := S.sl i _ hE
      have eu : u0 = .int i0 := by simpa [HRep, Rep] using r0
      subst eu
      refine ⟨.int i0, e0, B, c, w, rfl, S, (XS.lift S h).mono fun v c1 w1 g1 f1 h1 u ru => ?_⟩
      have S1 := S.grow g1 f1
      unfold augN at h1
      rw [hi] at h1
      cases v <;> try exact h1.elim
      rename_i b
      dsimp only at h1
      rw [hE] at h1
      rw [B_int ru]
      exact ⟨_, _, rfl, rfl, h1 _ w1 (Gf.refl w1) (S1.setL (by simp [HRep, Rep]))⟩
    · cases ha
theorem retV_ok (k : Ck X C W) : PS X (.Return (some e) pos) (tS X.K W E (liftE E (ev C E n e) fun r => retR E r)) := by
  refine ps_imp (ps_ret ((snd n).ev E e k)) fun Z σ H h => ?_
  obtain ⟨B, c, w, rfl, S, h⟩ := h
  refine ⟨B, c, w, rfl, S, (XS.lift S h).mono fun r c1 w1 g1 f1 h1 u ru => ?_⟩
  have S1 := S.grow g1 f1
  cases r with
  | bo xs => exact h1.elim
  | fz v => exact h1 u w1 (Gf.refl w1) S1.gr f1 ru
  | fr xs => exact h1 u w1 (Gf.refl w1) S1.gr f1 (ru.back S.gr)
theorem retN_ok (k : Ck X C W) (hv : visB C.sc x = true) : PS X (.Return (some (.Name x px)) pos) (tS X.K W E (retN C E x)) := by
  unfold retN
  rw [if_pos hv]
  cases hi : ixS C.N x with
  | none => exact ps_no fun Z σ H h => tS_no (fun c => rfl) h
  | some i =>
    refine ps_imp (ps_ret (var_rule (px := px) k hv hi)) fun Z σ H h => ?_
    obtain ⟨B, c, w, rfl, S, h⟩ := h
    dsimp only at h
    cases hE : E[i]? with
    | none => rw [hE] at h; exact h.elim
    | some o => cases o with
      | none => rw [hE] at h; exact h.elim
      | some o => cases o with
        | ins a b c => rw [hE] at h; exact h.elim
        | dic kvs => rw [hE] at h; exact h.elim
        | own xs =>
          rw [hE] at h
          obtain ⟨p, vs, e0, hp, r, gn, nd⟩ := S.sl i _ hE
          exact ⟨.ref p, e0, h _ w (Gf.refl w) S.gr S.wf ⟨p, vs, rfl, hp, r, gn, nd, S.ow i _ p hE rfl e0⟩⟩
        | fz v =>
          rw [hE] at h
          obtain ⟨u, e0, r⟩ := S.sl i _ hE
          exact ⟨u, e0, h _ w (Gf.refl w) S.gr S.wf r⟩
theorem retNone_ok : PS X (.Return none pos) (tS X.K W E (sret (.ret (.fz .non)) E)) := ps_imp ps_retN fun Z σ H h => by
  obtain ⟨B, c, w, rfl, S, h⟩ := h
  exact h _ w (Gf.refl w) S.gr S.wf (by simp [RepV, Rep])
theorem raise_ok (k : Sk X C W) {p : Pos} {fs : List Str} {a : Expr} {es : List Expr} (hg : glB C.sc x = true) (hf : C.xf x = some fs) (hn : fs ≠ []) (hs : (a :: es).any starB = false) :
    PS X (.Raise (some (.Call (.Name x px) (a :: es) [] p)) none pos) (tS X.K W E (liftE E (evL C E n (a :: es)) fun vs => if (decide (vs.length = fs.length) && vs.all msgOk) = true then sraise ⟨x, (fs.zip vs).reverse⟩ E else swrong)) := by
  obtain ⟨R, hR, hmk⟩ := (k.ex x fs hg hf X rfl rfl rfl rfl rfl k.calm rfl rfl).mk1 hn
  refine ps_imp (ps_raise k.calm k.tk (hmk ((snd n).l E (a :: es) k.toCk hs) hs)) fun Z σ H h => ?_
  obtain ⟨B, c, w, rfl, S, h⟩ := h
  refine ⟨B, c, w, rfl, S, (XS.lift S h).mono fun vs c1 w1 g1 f1 h1 us ru => ?_⟩
  have S1 := S.grow g1 f1
  by_cases hc : (decide (vs.length = fs.length) && vs.all msgOk) = true
  · rw [if_pos hc] at h1
    rw [Bool.and_eq_true, decide_eq_true_eq] at hc
    obtain ⟨hl, hm⟩ := hc
    refine hR _ _ _ (by rw [ru.length]; exact hl) (msg_fmt hm ru) fun d hd => ?_
    have gp := Gr.put (o := .xd (fs.zip us).reverse) f1 hd
    have fp := Wf.put (o := .xd (fs.zip us).reverse) f1 hd
    refine h1 _ _ σ (w1.put d (.xd (fs.zip us).reverse)) gp.f (S1.grow gp fp) ⟨rfl, fun z => ?_, fun _ => ⟨d, (fs.zip us).reverse, rfl, upd_same, ?_, ?_⟩⟩
    · exfalso
      have z' : (fs.zip vs).reverse = [] := z
      have z2 := congrArg List.length z'
      rw [List.length_reverse, List.length_zip, List.length_nil] at z2
      cases fs with
      | nil => exact hn rfl
      | cons f fs => rw [hl] at z2; simp at z2
    · have a1 : (fs.zip us).map (·.1) = fs := List.map_fst_zip (by rw [ru.length]; omega)
      have a2 : (fs.zip vs).map (·.1) = fs := List.map_fst_zip (by omega)
      show ((fs.zip us).reverse).map (·.1) = ((fs.zip vs).reverse).map (·.1)
      rw [List.map_reverse, List.map_reverse, a1, a2]
    · have a1 : (fs.zip us).map (·.2) = us := List.map_snd_zip (by rw [ru.length]; omega)
      have a2 : (fs.zip vs).map (·.2) = vs := List.map_snd_zip (by omega)
      show Reps _ _ _ (((fs.zip vs).reverse).map (·.2)) (((fs.zip us).reverse).map (·.2))
      rw [List.map_reverse, List.map_reverse, a1, a2]
      exact (Reps.mono (fun _ e => e) (Same.refl _) _ _ ru).reverse
  · rw [if_neg hc] at h1; exact h1.elim
theorem raise0_ok (k : Sk X C W) {p : Pos} (hg : glB C.sc x = true) (hf : C.xf x = some []) : PS X (.Raise (some (.Call (.Name x px) [] [] p)) none pos) (tS X.K W E (sraise ⟨x, []⟩ E)) := by
  refine ps_imp (ps_raise k.calm k.tk ((k.ex x [] hg hf X rfl rfl rfl rfl rfl k.calm rfl rfl).mk0 rfl)) fun Z σ H h => ?_
  obtain ⟨B, c, w, rfl, S, h⟩ := h
  exact h _ _ σ w (Gf.refl w) S ⟨rfl, fun _ => rfl, fun z => absurd rfl z⟩
theorem if_ok (k : Ck X C W) {a b : List Stmt} {ma mb : SM} (ha : PSs X a (tS X.K W E ma)) (hb : PSs X b (tS X.K W E mb)) : PS X (.If e a b pos) (tS X.K W E (liftE E (evT C E n e) fun t => if t = true then ma else mb)) := by
  refine ps_imp (ps_if ((snd n).t E e k) ha hb) fun Z σ H h => ?_
  obtain ⟨B, c, w, rfl, S, h⟩ := h
  refine ⟨B, c, w, rfl, S, (XS.lift S h).mono fun t c1 w1 g1 f1 h1 b eb => ?_⟩
  have eb' : b = t := eb
  subst eb'
  have S1 := S.grow g1 f1
  cases b with
  | true =>
    rw [if_pos rfl] at h1
    show if true = true then _ else _
    rw [if_pos rfl]
    exact ⟨B, c1, w1, rfl, S1, h1⟩
  | false =>
    rw [if_neg Bool.false_ne_true] at h1
    show if false = true then _ else _
    rw [if_neg Bool.false_ne_true]
    exact ⟨B, c1, w1, rfl, S1, h1⟩
theorem for_ok (k : Sk X C W) {tg it : Expr} {body : List Stmt} {mb : EnvD → SM} (hi : iterB it = true) (hb : PSs X body (fun Z σ H => ∃ E', tS X.K W E' (mb E') Z σ H)) :
    PS X (.For tg it body [] pos) (tS X.K W E (liftE E (evI C E n true tg it) fun xs => sfor (fun x E => match bindT C n tg x E with
          | some E' => mb E'
          | none => swrong) xs E)) := by
  have hf : ∀ x, foldedSetIterable it X.env x = pure x := by
    intro x
    cases it <;> first | rfl | simp [iterB] at hi
  refine ps_imp (ps_for k.po k.calm ((snd n).i E true tg it k.toCk) ((pgD (X := X) k.N k.nd k.sc k.clf k.calm n).1 tg) hb hf) fun Z σ H h => ?_
  obtain ⟨B, c, w, rfl, S, h⟩ := h
  refine ⟨B, c, w, rfl, S, (XS.lift S h).mono fun items c1 w1 g1 f1 h1 J hJ => ?_⟩
  have S1 := S.grow g1 f1
  refine ⟨fun i m σ' H' => m = items.length - i ∧ i ≤ items.length ∧ ∃ E' c' w', w'.H = H' ∧ Gf w1 w' ∧ SR X.K B E' c' σ' w' ∧ XS X.K W B Z w' (sfor (fun x E => match bindT C n tg x E with
          | some E' => mb E'
          | none => swrong) (items.drop i) E' c'), ⟨items.length, by simp, Nat.zero_le _, E, c1, w1, rfl, Gf.refl w1, S1, h1⟩, ?_⟩
  rintro i m σ' H' ⟨rfl, hle, E', c', w', rfl, gf, S', h'⟩
  have At := hJ w' c' gf S'.wf
  by_cases hlt : i < items.length
  · refine .inr ⟨At.go i hlt, fun σ2 H2 => ∃ E' c' w', w'.H = H2 ∧ Gf w1 w' ∧ SR X.K B E' c' σ2 w' ∧ XS X.K W B Z w' (sfor (fun x E => match bindT C n tg x E with
          | some E' => mb E'
          | none => swrong) (items.drop (i + 1)) E' c'), fun σ2 H2 hN => ⟨items.length - (i + 1), by omega, rfl, hlt, hN⟩, fun v H2 hy => ?_⟩
    have hx : items[i]? = some items[i] := by simp [hlt]
    obtain ⟨w2, rfl, g2, f2, rx⟩ := At.yld i _ v H2 hx hy
    rw [List.drop_eq_getElem_cons hlt] at h'
    generalize items[i] = y at h' rx hx
    have h'' := h'.up g2.f
    have S2 := S'.grow g2 f2
    unfold sfor at h''
    cases hbt : bindT C n tg y E' with
    | none => rw [hbt] at h''; exact h''.elim
    | some E2 =>
      rw [hbt] at h''
      dsimp only at h''
      refine ⟨B, E', c', w2, y, E2, rfl, S2, rx, hbt, fun σ3 S3 _ => ⟨E2, B, c', w2, rfl, S3, ?_⟩⟩
      cases hm : mb E2 c' with
      | wrong => rw [hm] at h''; exact h''.elim
      | err e1 E3 c3 => rw [hm] at h''; exact h''
      | ok o E3 c3 =>
        rw [hm] at h''
        cases o with
        | ret r => exact h''
        | nx => exact fun σ4 w4 g4 S4 => ⟨E3, c3, w4, rfl, (gf.trans g2.f).trans g4, S4, h''.up g4⟩
        | cnt => exact fun σ4 w4 g4 S4 => ⟨E3, c3, w4, rfl, (gf.trans g2.f).trans g4, S4, h''.up g4⟩
        | brk => exact fun σ4 w4 g4 S4 => h'' σ4 w4 g4 S4
  · have e : i = items.length := by omega
    subst e
    rw [List.drop_length] at h'
    exact .inl ⟨At.stop _ (Nat.le_refl _), h' σ' w' (Gf.refl w') S'⟩
theorem while_ok (k : Sk X C W) {body : List Stmt} {mb : EnvD → SM} {fz : EnvD → EnvD} {N : Nat} (hz : ∀ E : EnvD, ∃ xs, fz E = frzE C E xs) (hb : PSs X body (fun Z σ H => ∃ E', tS X.K W E' (mb E') Z σ H)) :
    PS X (.While e body [] pos) (tS X.K W E (swh (fun E => (fz E, evT C (fz E) n e)) mb N E)) := by
  refine ps_imp (ps_while (tc := fun σ H Q => ∃ E', tTe X.K W E' (evT C E' n e) σ H Q) k.po ⟨fun pins s σ H Q I ⟨E', h⟩ => ((snd n).t E' e k.toCk).run pins s σ H Q I h⟩ hb) fun Z σ H h => ?_
  obtain ⟨B, c, w, rfl, S, h⟩ := h
  refine ⟨fun m σ' H' => ∃ E' c' w', w'.H = H' ∧ SR X.K B E' c' σ' w' ∧ Gf w w' ∧ XS X.K W B Z w' (swh (fun E => (fz E, evT C (fz E) n e)) mb m E' c'), ⟨N, E, c, w, rfl, S, Gf.refl w, h⟩, ?_⟩
  rintro m σ' H' ⟨E', c', w', rfl, S', gf, h'⟩
  cases m with
  | zero => exact h'.elim
  | succ m =>
    obtain ⟨xs, hx⟩ := hz E'
    obtain ⟨w2, e2, g2, S2⟩ := S'.frzE (C := C) xs
    rw [← hx] at S2
    have h2 : XS X.K W B Z w2 (liftE (fz E') (evT C (fz E') n e) (fun b => if b = true then fun c => (match mb (fz E') c with
    | .ok .nx E' c' => swh (fun E => (fz E, evT C (fz E) n e)) mb m E' c'
    | .ok .cnt E' c' => swh (fun E => (fz E, evT C (fz E) n e)) mb m E' c'
    | .ok .brk E' c' => .ok .nx E' c'
    | r => r) else sret .nx (fz E')) c') := XS.up h' g2
    refine ⟨fz E', B, c', w2, e2, S2, (XS.lift S2 h2).mono fun b c3 w3 g3 f3 h3 b' eb => ?_⟩
    have eb' : b' = b := eb
    subst eb'
    have S3 := S2.grow g3 f3
    cases b' with
    | false =>
      show if false = true then _ else _
      rw [if_neg Bool.false_ne_true]
      exact (show XS X.K W B Z w3 (sret .nx (fz E') c3) from h3) σ' w3 (Gf.refl w3) S3
    | true =>
      replace h3 : XS X.K W B Z w3 (match mb (fz E') c3 with
        | .ok .nx E' c' => swh (fun E => (fz E, evT C (fz E) n e)) mb m E' c'
        | .ok .cnt E' c' => swh (fun E => (fz E, evT C (fz E) n e)) mb m E' c'
        | .ok .brk E' c' => .ok .nx E' c'
        | r => r) := h3
      show if true = true then _ else _
      rw [if_pos rfl]
      refine ⟨fun σ4 H4 => ∃ E' c' w', w'.H = H4 ∧ SR X.K B E' c' σ4 w' ∧ Gf w w' ∧ XS X.K W B Z w' (swh (fun E => (fz E, evT C (fz E) n e)) mb m E' c'), fun σ4 H4 q => ⟨m, Nat.lt_succ_self m, q⟩, fz E', B, c3, w3, rfl, S3, ?_⟩
      cases hm : mb (fz E') c3 with
      | wrong => rw [hm] at h3; exact h3.elim
      | err e1 E3 c3 => rw [hm] at h3; exact h3
      | ok o E3 c3 =>
        rw [hm] at h3
        cases o with
        | ret r => exact h3
        | nx => exact fun σ4 w4 g4 S4 => ⟨E3, c3, w4, rfl, S4, ((gf.trans g2).trans g3.f).trans g4, h3.up g4⟩
        | cnt => exact fun σ4 w4 g4 S4 => ⟨E3, c3, w4, rfl, S4, ((gf.trans g2).trans g3.f).trans g4, h3.up g4⟩
        | brk => exact fun σ4 w4 g4 S4 => h3 σ4 w4 g4 S4
end
end DL

set_option maxHeartbeats 4000000
/-! DL17m: several except clauses, with names or without. -/
namespace DL
open PySem PySem.Spec PyProof.Rows L2
/-- behind a clause: its name is gone -/
def edA : Option Nat → Ends → Ends
  | none, Z => Z
  | some i, Z => { nx := fun σ H => Z.nx (σ.set i none) H, rt := Z.rt, bk := fun σ H => Z.bk (σ.set i none) H, ct := fun σ H => Z.ct (σ.set i none) H }
/-- where a clause begins -/
def stA : Option Nat → Addr → St → St
  | none, _, σ => σ
  | some i, a, σ => σ.set i (some (.ref a))
abbrev Cl := Value × Option Nat × (Addr → Value → Option Addr → TS)
def wA (K : PySem.W.Frag) (V : WX) (Z : Ends) : List Cl → WX
  | [] => V
  | t :: r => fun cls d σ H => ∃ b, PySem.W.exmOne K cls t.1 = some b ∧ (b = true → ∀ a, H a = none → t.2.2 a cls d (edA t.2.1 Z) (stA t.2.1 a σ) H) ∧ (b = false → wA K V Z r cls d σ H)
def NmOk (X : Cx) : Option Str → Option Nat → Prop
  | none, none => True
  | some nm, some i => X.N[i]? = some nm ∧ X.env.kindOf nm = some .local
  | _, _ => False
inductive HdA (X : Cx) : List ExceptHandler → List Cl → Prop
  | nil : HdA X [] []
  | cons {x : Str} {c : Value} {ts : Addr → Value → Option Addr → TS} {st : Stmt} {su : List Stmt} {np hp : Pos} {on : Option Str} {oi : Option Nat} {hs : List ExceptHandler} {l : List Cl} (names : Names X x c) (own : NmOk X on oi)
      (run : ∀ (a : Addr) (oe : Obj) (cls : Value) (d : Option Addr) (pn : List (Addr × Obj)), Zc cls d oe → (∃ vs, oe.data = .fields vs) → PSs (X.suite a ((a, oe) :: pn)) (st :: su) (ts a cls d)) (more : HdA X hs l) :
      HdA X (.ExceptHandler (some (.Name x np)) on (st :: su) hp :: hs) ((c, oi, ts) :: l)
section
variable {X : Cx} {body : List Stmt} {hd : ExceptHandler} {hs : List ExceptHandler} {l : List Cl} {pos : Pos} {tb : WX → TS} {V : WX}
theorem ps_tryA (stk : X.stack = X.env :: X.outer) (fr : X.env.frame = some X.env.locals) (nod : X.N.Nodup) (tk : Takes X V)
    (ihb : ∀ (V' : WX) (pn : List (Addr × Obj)) (xe : Value → Shared → Prop), Takes (X.tr pn xe) V' → PassesOwn (model X.prog X.w) X.A X.env xe → PSs (X.tr pn xe) body (tb V'))
    (cl : HdA X (hd :: hs) l) : PS X (.Try body (hd :: hs) [] [] pos) (fun Z σ H => tb (wA X.K V Z l) Z σ H) := by
  constructor
  intro pins s σ H Z I pre
  have iok := I.ok
  have afr : X.A.frames = some (X.env :: X.outer) := by rw [iok.frames, stk]
  refine wpAny_Try_except (wpAny_mono ((ihb (wA X.K V Z l) (X.pn ++ pins) (fun e s₁ => wpAny (model X.prog X.w) X.A (noteFrame e X.env) (fun _ s₂ => wpAny (model X.prog X.w) X.A (setFlight e none) (fun _ s₃ =>
    wpAny (model X.prog X.w) X.A (handleBy e X.env (hd :: hs)) (SP X pins Z) X.xe s₃) X.xe s₂) X.xe s₁) (fun v s' thrown => ?_) PassesOwn.looking).run [] s σ H Z (I.toTry _) pre) (fun fl s1 sp => ?_) fun _ _ z => z)
  · obtain ⟨a, B, sI, pins', σ', H', cls, d, rfl, inv', nb, up, sky, na, os, ag, want⟩ := thrown
    have inv : Inv X pins σ' H' sI := inv'.ofTry iok
    have sk : Sky B (X.env :: X.outer) a (Zc cls d) X.env.locals s'.heap := stk ▸ sky
    show wpAny _ _ (noteFrame (.ref a) X.env) _ _ _
    refine Sky.land Zc.steady afr fr sk fun h3 fl3 up3 => ?_
    have inv3 : Inv X pins σ' H' { s' with heap := h3 } := inv.landed nb fl3.1 (up.trans up3) os ag
    obtain ⟨o3, vs3, g3, z3, d3⟩ := fl3.there
    have apart : a ∉ frs (X.env :: X.outer) := fun q => by
      obtain ⟨_, o', g', nd⟩ := (fl3.2.2.1).mem q
      rw [g3] at g'
      cases g'
      exact nd _ d3
    have notL : a ≠ X.env.locals := fun q => apart (List.mem_filterMap.mpr ⟨_, .head _, by rw [fr, q]⟩)
    have notF : a ∉ X.fs := fun q => by
      obtain ⟨e, me, qe⟩ := List.mem_filterMap.mp q
      exact apart (List.mem_filterMap.mpr ⟨e, .tail _ me, qe⟩)
    have inS := inv3.suite g3 d3 na notL notF
    -- each clause in turn
    suffices each : ∀ {hs' : List ExceptHandler} {l' : List Cl}, HdA X hs' l' → wA X.K V Z l' cls d σ' H' → wpAny (model X.prog X.w) X.A (handleBy (.ref a) X.env hs') (SP X pins Z) X.xe { s' with heap := h3 } from each cl want
    intro hs' l' cl'
    induction cl' with
    | nil =>
      intro want
      refine wpAny_handleBy_nil ?_
      obtain ⟨_, _, _, oe, vs, T, oT, ts', he, hz, hdd, h1, hr⟩ := id fl3
      have last : wpAny (model X.prog X.w) X.A (setFlight (.ref a) X.env.frame) (fun _ s4 => wpAny (model X.prog X.w) X.A (throw (.ref a) : Sem Flow) (SP X pins Z) X.xe s4) X.xe { s' with heap := h3 } := by
        rw [fr]
        exact HandSPX.setFlight_upZ fl3 fun h4 k4 up4 => wpAny_throw (tk _ _ ⟨a, B, sI, pins, σ', H', cls, d, rfl, inv, nb, (up.trans up3).trans up4, .inr (.inr (by rw [stk]; exact k4)), na, os, ag, want⟩)
      unfold PySem.passOn
      refine wpAny_bind (wpAny_field he hdd h1 ?_)
      have nn : ¬ ((Value.ref T == Value.none) = true) := by simp
      rw [if_neg nn]
      first
        | exact wpAny_bind last
        | exact wpAny_bind (wpAny_pure (wpAny_bind last))
    | @cons x c ts st su np hp on oi hs2 l2 names own run more ih =>
      intro want
      obtain ⟨b, asks, yes, no⟩ := want
      refine wpAny_handleBy_cons (codeAny_handlers_test ?_) nofun
      have ty : PySem.W.Looks (model X.prog X.w) h3 (typeOf (.ref a)) cls := fun A Q E s k q => wpAny_typeOf_ref (k _ _ g3) (by rw [z3.1]; exact q)
      have one := PySem.W.exm_one (M := model X.prog X.w) inv3.kIn ty asks
      have named : ∀ {Q : Value → Shared → Prop} {E : Value → Shared → Prop}, Q c { s' with heap := h3 } → wpAny (model X.prog X.w) (X.A.mark (some (.ref a))) (eval (.Name x np) X.env) Q E { s' with heap := h3 } := by
        intro Q E q
        rcases names with ⟨ng, nd, nm | ⟨nm, nv, nn⟩⟩
        · exact ld_glob (X := X.suite a ((a, o3) :: (X.pn ++ pins))) inS ng nm q nd
        · exact ld_blt (X := X.suite a ((a, o3) :: (X.pn ++ pins))) inS ng nm nv q nn nd
      refine named (one.here ?_)
      cases b with
      | false => exact ih (no rfl)
      | true =>
        cases on with
        | none =>
          cases oi with
          | some _ => exact own.elim
          | none =>
            refine codeAny_handlers_suite (HandSPX.lands_againZ fl3 fun h4 fl4 up4 => ?_)
            have inv4 : Inv X pins σ' H' { s' with heap := h4 } := inv.landed nb fl4.1 ((up.trans up3).trans up4) os ag
            obtain ⟨o4, vs4, g4, z4, d4⟩ := fl4.there
            refine wpAny_mono ((run a o4 cls d (X.pn ++ pins) z4 ⟨_, d4⟩).run [] _ _ H' _ (inv4.suite g4 d4 na notL notF) (yes rfl a na)) (fun fl s6 sp => ?_) nofun
            cases fl with
            | ret v =>
              obtain ⟨v6, σ6, H6, i6, r6, q6⟩ := sp
              exact ⟨v6, σ6, H6, i6.unsuite iok, r6, q6⟩
            | next =>
              obtain ⟨σ6, H6, i6, q6⟩ := sp
              exact ⟨σ6, H6, i6.unsuite iok, q6⟩
            | brk =>
              obtain ⟨σ6, H6, i6, q6⟩ := sp
              exact ⟨σ6, H6, i6.unsuite iok, q6⟩
            | cont =>
              obtain ⟨σ6, H6, i6, q6⟩ := sp
              exact ⟨σ6, H6, i6.unsuite iok, q6⟩
        | some nm =>
          cases oi with
          | none => exact own.elim
          | some i =>
            obtain ⟨ni, nl⟩ := own
            refine codeAny_handlers_suite_as (HandSPX.lands_againZ fl3 fun h4 fl4 up4 => ?_)
            have inv4 : Inv X pins σ' H' { s' with heap := h4 } := inv.landed nb fl4.1 ((up.trans up3).trans up4) os ag
            obtain ⟨o4, vs4, g4, z4, d4⟩ := fl4.there
            refine store_ok (X := X.suite a ((a, o4) :: (X.pn ++ pins))) (v := .ref a) (inv4.suite g4 d4 na notL notF) nod ni (.inl nl) rfl (fun s5 i5 => ?_) (.inr nl)
            refine wpAny_mono ((run a o4 cls d (X.pn ++ pins) z4 ⟨_, d4⟩).run [] s5 _ H' _ i5 (yes rfl a na)) (fun fl s6 sp => ?_) nofun
            have gone : ∀ {σ6 : St} {H6 : Hp} {Q : Shared → Prop}, Inv (X.suite a ((a, o4) :: (X.pn ++ pins))) [] σ6 H6 s6 → (∀ s7, Inv X pins (σ6.set i none) H6 s7 → Q s7) → wpAny (model X.prog X.w) X.A (do bindName X.env nm .none; unbindBehindTheSuite X.env nm hp) (fun _ s7 => Q s7) X.xe s6 :=
              fun {σ6 H6 Q} i6 q => gone_ok (i6.unsuite iok) nod ni nl q
            cases fl with
            | ret v =>
              obtain ⟨v6, σ6, H6, i6, r6, q6⟩ := sp
              exact gone i6 fun s7 i7 => ⟨v6, _, _, i7, r6, q6⟩
            | next =>
              obtain ⟨σ6, H6, i6, q6⟩ := sp
              exact gone i6 fun s7 i7 => ⟨_, _, i7, q6⟩
            | brk =>
              obtain ⟨σ6, H6, i6, q6⟩ := sp
              exact gone i6 fun s7 i7 => ⟨_, _, i7, q6⟩
            | cont =>
              obtain ⟨σ6, H6, i6, q6⟩ := sp
              exact gone i6 fun s7 i7 => ⟨_, _, i7, q6⟩
  · cases fl with
    | ret v =>
      obtain ⟨v', σ', H', i', r', q'⟩ := sp
      exact ⟨v', σ', H', i'.ofTry iok, r', q'⟩
    | next =>
      obtain ⟨σ', H', i', q'⟩ := sp
      exact wpAny_execs_nil ⟨σ', H', i'.ofTry iok, q'⟩
    | brk =>
      obtain ⟨σ', H', i', q'⟩ := sp
      exact ⟨σ', H', i'.ofTry iok, q'⟩
    | cont =>
      obtain ⟨σ', H', i', q'⟩ := sp
      exact ⟨σ', H', i'.ofTry iok, q'⟩
end
end DL

set_option maxHeartbeats 4000000
/-! DL17x: except suites: error.f, isinstance(error, C). -/
namespace DL
open PySem PySem.Spec PyProof.Rows L2
section
open PySem.W PySem.Calls
variable {prog : Program} {w : World} {A : Around} {E : Value → Shared → Prop} {s : Shared} {K : Frag} {x D : Addr} {ox : Obj} {od : Option Obj}
/-- the class of an error, with or without a dict -/
theorem exc_class {Q : Option Value → Shared → Prop} (C : ExcC K D) (X : K.In s.heap) (I : InstAt s.heap x ox D od) (h : Q (some (.ref D)) { s with toks := s.toks + 1 }) : wpAny (model prog w) A (getAttr? (.ref x) "__class__") Q E s := by
  have hf : findObj K D od "__class__" = some (.bind (.builtin "getset_descriptor.__get__") (.builtin "object.__class__")) := by
    have hc : (clsIn K D).isSome = true := by obtain ⟨cd, hc, _⟩ := any_some C.hd; rw [hc]; rfl
    obtain ⟨cd, hc⟩ := Option.isSome_iff_exists.mp hc
    unfold findObj
    rw [hc, Option.bind_some, C.ha, Option.bind_some]
    simp [C.hn, C.ht]
  obtain ⟨hp, g, d, t, os⟩ := s
  have L0 := I.type (M := model prog w)
  have L1 := looks_findIn (M := model prog w) X C.hg
  have L2 := looks_findIn (M := model prog w) X C.hk
  have L3 := looks_find (M := model prog w) X I hf
  have sub : Looks (model prog w) hp (isInstance (.ref x) (.type "BaseException")) true := L0.andThen (looks_subIn X C.hs)
  have q1 : (false && onTheHeap (Value.builtin "BaseException.__getattribute__")) = false := rfl
  have q2 : (Value.builtin "BaseException.__getattribute__" == Value.builtin "object.__getattribute__") = false := by decide +kernel
  have q3 : (onTheHeap (Value.ref D) && Value.builtin "BaseException.__getattribute__" == Value.builtin "object.__getattribute__") = false := by rw [q2]; rfl
  unfold getAttr? getAttrBy? getAttrBy
  refine wpAny_bind (wpAny_mkText (wpAny_bind (wpAny_attempt (wpAny_holding (wpAny_bind (L0.at (wpAny_bind (L1.at ?_))))))))
  show wpAny _ _ (if (onTheHeap (Value.ref D) && Value.builtin "BaseException.__getattribute__" == Value.builtin "object.__getattribute__") = true then _ else _) _ _ _
  rw [q3, if_neg Bool.false_ne_true]
  unfold getAttrByItsOwn hookBefore
  refine wpAny_bind ?_
  rw [if_pos (show onTheHeap (Value.ref D) = true from rfl)]
  refine L2.at ?_
  refine wpAny_bind (wpAny_attempt (wpAny_holding ?_))
  unfold callGetattribute
  rw [q1, if_neg Bool.false_ne_true]
  unfold boundAndCalled
  rw [PySem.F.excAttr_ValueError.ga.bind (.ref x)]
  refine wpAny_bind (wpAny_pure ?_)
  show wpAny _ _ (call (.builtin "BaseException.__getattribute__") [.ref x, .str "__class__" t]) _ _ _
  refine wpAny_call (codeAny_call_builtin PySem.F.excAttr_ValueError.ga.plain PySem.F.entry_bexc_ga ?_)
  refine @check_slot (model prog w) _ _ ⟨hp, g, d, t + 1, os⟩ "BaseException.__getattribute__" "BaseException" "__getattribute__" (.ref x) [.str "__class__" t] [] _ (by decide +kernel) (by decide +kernel) sub (PySem.F.args_bexc_ga (.ref x) (.str "__class__" t)) ?_
  unfold Builtin.«object.__getattribute__»
  refine wpAny_bind (wpAny_of_eq (a := ((Value.ref x : Value), [Value.str "__class__" t])) (by first | rfl | (simp only [slotArgs]; rfl)) ?_)
  refine wpAny_bind (wpAny_pure (wpAny_bind (L0.at (wpAny_bind (L3.at ?_)))))
  show wpAny _ _ (holding [Value.builtin "object.__class__"] (call (.builtin "getset_descriptor.__get__") [.builtin "object.__class__", .ref x, .ref D]) >>= ret) _ _ _
  refine wpAny_bind (wpAny_holding (wpAny_call (class_get (s := ⟨hp, g, d, t + 1, os⟩) (ox := ox) (od := od) X I C.hm ?_)))
  refine wpAny_pure ?_
  show wpAny _ _ (handedOut (.ref D)) _ _ _
  rw [handedOut_of (v := .ref D) rfl]
  first
    | exact wpAny_pure (wpAny_pure h)
    | exact wpAny_pure h
    | exact wpAny_pure (wpAny_bind (wpAny_pure (wpAny_pure h)))
theorem exc_kit (C : ExcC K D) : KitX K (.ref x) (.ref D) (fun h => ∃ od, InstAt h x ox D od) where
  ty := fun _ _ _ ⟨_, I⟩ => I.type
  it := fun _ _ X _ => by
    obtain ⟨cd, hc, _⟩ := any_some C.hd
    unfold clsIn at hc
    split at hc
    · rename_i ho
      exact fun A' Q' E' s' k q => by unfold isType loadHead; exact wpAny_bind (wpAny_loadPart (k _ _ (X _ _ ho)) (wpAny_pure q))
    · cases hc
  ne := fun h tp dd its n sl X htp => (handS_kitx_exc (ox := ox) (x := x) C.hg C.hk C.hs C.hd C.ha C.hn C.ht C.hm).ne h tp dd its n sl X htp
  ca := fun X ⟨_, I⟩ k => exc_class C X I k
end
section
variable {X : Cx} {C : Cn} {W : WX} {E : EnvD} {a : Addr} {oe : Obj} {cls : Value} {d : Option Addr} {pn : List (Addr × Obj)} {e : Exn} {i : Nat} {nm : Str} {n : Nat}
theorem RepX.mono {K : PySem.W.Frag} {w w' : HS} {c : Option (List Int)} (h : RepX K w e cls d) (f : Wf c w) (g : Gr w w') : RepX K w' e cls d := by
  obtain ⟨h1, h2, h3⟩ := h
  refine ⟨h1, h2, fun z => ?_⟩
  obtain ⟨dd, fs, e1, e2, e3, e4⟩ := h3 z
  refine ⟨dd, fs, e1, g.h dd _ e2 fun q => ?_, e3, HReps.mono e4 g⟩
  obtain ⟨is, _, q2, _⟩ := f.cellAt q
  rw [e2] at q2
  cases q2
/-- a reading in a suite; a: the error, at slot o -/
def tXE (K : PySem.W.Frag) (E : EnvD) (o : Option Nat) (a : Addr) (cls : Value) (d : Option Addr) (e : Exn) (m : Option RV) : TE := fun σ H Q => ∃ B c w r, w.H = H ∧ SR K B E c σ w ∧ (∀ i, o = some i → σ[i]? = some (some (.ref a))) ∧ RepX K w e cls d ∧ m = some r ∧
  ∀ w', Gr w w' → Wf c w' → ∀ v, RepV K w w' r v → Q v w'.H
def tXs (K : PySem.W.Frag) (E : EnvD) (o : Option Nat) (a : Addr) (cls : Value) (d : Option Addr) (e : Exn) (vs : List D) : TA := fun σ H Q => ∃ B c w, w.H = H ∧ SR K B E c σ w ∧ (∀ i, o = some i → σ[i]? = some (some (.ref a))) ∧ RepX K w e cls d ∧
  ∀ w', Gr w w' → Wf c w' → ∀ us, Reps K w'.d w'.G vs us → Q us w'.H
theorem tXE_none {o : Option Nat} {σ : St} {H : Hp} {Q : VK} : ¬ tXE X.K E o a cls d e none σ H Q := fun ⟨_, _, _, _, _, _, _, _, h, _⟩ => by cases h
theorem zip_both {α β : Type} : ∀ (l : List (α × β)), (l.map (·.1)).zip (l.map (·.2)) = l
  | [] => rfl
  | (x, y) :: l => by simp [zip_both l]
/-- the suite's context -/
structure Xk (X : Cx) (C : Cn) (o : Option Nat) (on : Option Str) : Prop where
  ix : ∀ nm, on = some nm → ∃ i, o = some i ∧ ixS C.N nm = some i ∧ locB C.sc nm = true
  N : X.N = C.N
  sc : X.env.scope = C.sc
  nm : ∀ x ∈ C.N, (x == ("__debug__" : Str)) = false ∧ (x == ("__classdict__" : Str)) = false
  free : ∀ x, bltB x = true → X.mg x = none
  xs : ∀ c x b, C.xs c x = some b → X.mg x = some (.ref (He.ga X.K x)) ∧ (x == ("__debug__" : Str)) = false ∧ PySem.W.exmOne X.K (.ref (He.ga X.K c)) (.ref (He.ga X.K x)) = some b ∧
    PySem.W.kitOne X.K (.ref (He.ga X.K c)) (.ref (He.ga X.K x)) = some b ∧ ExcC X.K (He.ga X.K c) ∧ XfC X.K (He.ga X.K c)
  xfn : ∀ c fs, C.xf c = some fs → ∀ f ∈ fs, PySem.W.findIn X.K (.ref (He.ga X.K c)) f = some none
theorem Sk.xk (k : Sk X C W) (hi : ixS C.N nm = some i) (hl : locB C.sc nm = true) : Xk X C (some i) (some nm) := ⟨fun _ z => by cases z; exact ⟨i, rfl, hi, hl⟩, k.N, k.sc, k.nm, k.free, k.xs, k.xfn⟩
theorem Sk.xk0 (k : Sk X C W) : Xk X C none none := ⟨nofun, k.N, k.sc, k.nm, k.free, k.xs, k.xfn⟩
theorem x_var {o : Option Nat} (k : Xk X C o (some nm)) {p : Pos} : ∃ i, o = some i ∧ PE (X.suite a ((a, oe) :: pn)) (.Name nm p) (tVar i) := by
  obtain ⟨i, e, hi, hl⟩ := k.ix nm rfl
  have hN := ixS_ok hi
  have q := k.nm nm (List.mem_of_getElem? hN)
  exact ⟨i, e, pe_var (X := X.suite a ((a, oe) :: pn)) (by show X.N[i]? = _; rw [k.N]; exact hN) (.inl (by show X.env.scope.names.lookup nm = _; rw [k.sc]; exact locB_ok hl)) q.1 q.2⟩
theorem call_isX {D : Addr} (O : ExcC X.K D) (hz : Zc cls d oe) (hc : cls = .ref D) (hf : ∃ vs, oe.data = .fields vs) : CallR (X.suite a ((a, oe) :: pn)) (.builtin "isinstance") (fun xs H Q => (d = none ∨ ∃ dd fs, d = some dd ∧ H dd = some (.xd fs)) ∧ rIsE X.K D a xs H Q) := by
  intro pins s σ H xs us Q I r h
  obtain ⟨hd, c, cv, b, rfl, hcv, e, q⟩ := h
  cases r with
  | cons rx rr =>
    cases rr with
    | cons rt rr =>
      cases rr
      cases rx
      have ec := hcv _ rt
      subst ec
      obtain ⟨hget, _⟩ := I.pin (a, oe) (List.mem_append.mpr (.inl List.mem_cons_self))
      obtain ⟨vs, hv⟩ := hf
      have J : ∃ od, PySem.W.InstAt s.heap a oe D od := by
        obtain ⟨oc, odd, oda, osl⟩ := oe
        obtain ⟨h1, h2⟩ := hz
        dsimp only at h1 h2 hv
        subst hv
        rcases hd with hd | ⟨dd, fs, hd, hH⟩
        · refine ⟨none, hget, by rw [← hc]; exact h1, rfl, ?_⟩
          have e1 : odd = none := h2.trans hd
          subst e1
          exact True.intro
        · have hx : ObjOk X.prog X.w H s.heap dd (.xd fs) := I.hok dd _ hH
          obtain ⟨mA, hns, hr⟩ := hx
          obtain ⟨od, _, _, ho, _⟩ := hns
          refine ⟨some od, hget, by rw [← hc]; exact h1, rfl, ?_⟩
          have e1 : odd = some dd := h2.trans hd
          subst e1
          exact ho
      exact PySem.W.kia_one (exc_kit O) I.kIn J e (fun z => nomatch z) fun tk => ⟨.bl b, H, I.kept (t' := tk) fun _ _ z => z, rfl, q⟩
/-- three at once -/
theorem RepX.dd {K : PySem.W.Frag} {w : HS} (h : RepX K w e cls d) : d = none ∨ ∃ dd fs, d = some dd ∧ w.H dd = some (.xd fs) := by
  by_cases z : e.fs = []
  · exact .inl (h.2.1 z)
  · obtain ⟨dd, fs, e1, e2, _⟩ := h.2.2 z
    exact .inr ⟨dd, fs, e1, e2⟩
theorem x_evs {o : Option Nat} {on : Option Str} (k : Xk X C o on) (hz : Zc cls d oe) (hf : ∃ vs, oe.data = .fields vs) : ∀ n, (∀ st, PE (X.suite a ((a, oe) :: pn)) st (tXE X.K E o a cls d e (evX C E on e n st))) ∧
    ∀ es vs, es.any starB = false → evXs C E on e n es = some vs → PA (X.suite a ((a, oe) :: pn)) es (tXs X.K E o a cls d e vs)
  | 0 => ⟨fun st => pe_no fun σ H Q => tXE_none, fun es vs _ h => by cases es <;> cases h⟩
  | n + 1 => by
    obtain ⟨ih, ihs⟩ := x_evs k hz hf n
    refine ⟨fun st => ?_, fun es vs hstar h => ?_⟩
    rotate_left
    · cases es with
      | nil =>
        cases h
        exact pa_imp pa_nil fun σ H Q q => by
          obtain ⟨B, c, w, rfl, S, _, _, hq⟩ := q
          exact hq w (Gr.refl w) S.wf [] (by simp [Reps])
      | cons x xs =>
        have e0 : evXs C E on e (n + 1) (x :: xs) = (match evX C E on e n x, evXs C E on e n xs with
          | some (.fz v), some vs => some (v :: vs)
          | _, _ => none) := rfl
        rw [e0] at h
        rw [List.any_cons, Bool.or_eq_false_iff] at hstar
        cases h1 : evX C E on e n x with
        | none => rw [h1] at h; cases h
        | some r1 => cases r1 with
          | fr _ => rw [h1] at h; cases h
          | bo _ => rw [h1] at h; cases h
          | fz v1 =>
            cases h2 : evXs C E on e n xs with
            | none => rw [h1, h2] at h; cases h
            | some vs1 =>
              rw [h1, h2] at h
              cases h
              have p1 := ih x
              rw [h1] at p1
              refine pa_imp (pa_cons p1 (ihs xs vs1 hstar.2 h2) (star_cons hstar.1 _ _)) fun σ H Q q => ?_
              obtain ⟨B, c, w, rfl, S, g1, g2, hq⟩ := q
              refine ⟨B, c, w, .fz v1, rfl, S, g1, g2, rfl, fun w1 k1 f1 u1 r1 => ⟨B, c, w1, rfl, S.grow k1 f1, g1, g2.mono S.wf k1, fun w2 k2 f2 us rs => hq w2 (k1.trans k2) f2 (u1 :: us) ?_⟩⟩
              exact Reps.cons (HRep.mono r1 k2) rs
    · have no : ∀ {st : Expr}, PE (X.suite a ((a, oe) :: pn)) st (tXE X.K E o a cls d e none) := pe_no fun σ H Q => tXE_none
      have cst : ∀ {st : Expr} {v : V} {x : D}, PE (X.suite a ((a, oe) :: pn)) st (tC v) → (∀ w, HRep X.K w x v) → PE (X.suite a ((a, oe) :: pn)) st (tXE X.K E o a cls d e (some (.fz x))) := fun {st v x} h hr => pe_imp h fun σ H Q q => by
        obtain ⟨B, c, w, r, rfl, S, _, _, er, hq⟩ := q
        cases er
        exact hq w (Gr.refl w) S.wf v (hr w)
      cases st with
      | Constant c j p => cases c with
        | str s => exact cst pe_str (fun w => by simp [HRep, Rep])
        | int s => exact cst pe_int (fun w => by simp [HRep, Rep])
        | bool s => exact cst pe_bl (fun w => by simp [HRep, Rep])
        | _ => exact no
      | Attribute ob f p => cases ob with
        | Name m q =>
          have e0 : evX C E on e (n + 1) (.Attribute (.Name m q) f p) = if (decide (on = some m) && (((C.xf e.cls).getD []).contains f && (C.xs e.cls e.cls).isSome)) = true then (match e.fs.lookup f with
            | some v => some (.fz v)
            | none => none) else none := rfl
          rw [e0]
          by_cases h : (decide (on = some m) && (((C.xf e.cls).getD []).contains f && (C.xs e.cls e.cls).isSome)) = true
          · rw [if_pos h]
            rw [Bool.and_eq_true, decide_eq_true_eq, Bool.and_eq_true] at h
            obtain ⟨rfl, hc, hx⟩ := h
            cases hl : e.fs.lookup f with
            | none => exact no
            | some v =>
              dsimp only
              obtain ⟨b, hb⟩ := Option.isSome_iff_exists.mp hx
              obtain ⟨_, _, _, _, _, T⟩ := k.xs _ _ b hb
              obtain ⟨i, ei, xv⟩ := x_var (a := a) (oe := oe) (pn := pn) (p := q) k
              subst ei
              have hno : PySem.W.findIn X.K (.ref (He.ga X.K e.cls)) f = some none := by
                cases hf2 : C.xf e.cls with
                | none => rw [hf2] at hc; simp at hc
                | some fs => rw [hf2] at hc; exact k.xfn _ fs hf2 f (by simpa using hc)
              refine pe_imp (pe_xf (d := d) T hno hz hf xv (by rfl)) fun σ H Q q => ?_
              obtain ⟨B, c, w, r, rfl, S, h1, h2, er, hq⟩ := q
              cases er
              have ne : e.fs ≠ [] := fun z => by rw [z] at hl; cases hl
              obtain ⟨dd, fs, e1, e2, e3, e4⟩ := h2.2.2 ne
              have e5 : ((fs.map (·.1)).zip (e.fs.map (·.2))).lookup f = some v := by
                rw [e3]
                have : (e.fs.map (·.1)).zip (e.fs.map (·.2)) = e.fs := zip_both _
                rw [this]; exact hl
              obtain ⟨u, hu, ru⟩ := look_some e4 e5
              exact ⟨.ref a, h1 _ rfl, rfl, h2.1, dd, fs, u, e1, e2, hu, hq w (Gr.refl w) S.wf u ru⟩
          · rw [if_neg h]; exact no
        | _ => exact no
      | Call fn es ks p => cases fn with
        | Name fn q =>
          have other : (¬ ∃ m q1 c q2, es = [.Name m q1, .Name c q2] ∧ ks = []) → PE (X.suite a ((a, oe) :: pn)) (.Call (.Name fn q) es ks p) (tXE X.K E o a cls d e (evX C E on e (n + 1) (.Call (.Name fn q) es ks p))) := fun hne => by
            rcases es with _ | ⟨a1, _ | ⟨a2, _ | ⟨a3, r⟩⟩⟩
            · exact no
            · cases a1 <;> exact no
            · cases a1 with
              | Name m q1 => cases a2 with
                | Name c q2 => cases ks with
                  | nil => exact absurd ⟨m, q1, c, q2, rfl, rfl⟩ hne
                  | cons _ _ => exact no
                | _ => exact no
              | _ => exact no
            · cases a1 <;> first | exact no | (cases a2 <;> exact no)
          by_cases hsh : ∃ m q1 c q2, es = [.Name m q1, .Name c q2] ∧ ks = []
          · obtain ⟨m, q1, c, q2, rfl, rfl⟩ := hsh
            have e0 : evX C E on e (n + 1) (.Call (.Name fn q) [.Name m q1, .Name c q2] [] p) = if (decide (fn = "isinstance") && decide (on = some m) && glB C.sc fn && glB C.sc c) = true then (match C.xs e.cls c with
              | some b => some (.fz (.bl b))
              | none => none) else none := rfl
            rw [e0]
            by_cases h : (decide (fn = "isinstance") && decide (on = some m) && glB C.sc fn && glB C.sc c) = true
            · rw [if_pos h]
              rw [Bool.and_eq_true, Bool.and_eq_true, Bool.and_eq_true, decide_eq_true_eq, decide_eq_true_eq] at h
              obtain ⟨⟨⟨rfl, rfl⟩, hg⟩, hg2⟩ := h
              cases hb : C.xs e.cls c with
              | none => exact no
              | some b =>
                dsimp only
                obtain ⟨hm, hdb, _, hk, O, _⟩ := k.xs _ _ b hb
                obtain ⟨i, ei, xv⟩ := x_var (a := a) (oe := oe) (pn := pn) (p := q1) k
                subst ei
                by_cases hcls : cls = .ref (He.ga X.K e.cls)
                · have gl : ∀ {y : Str}, glB C.sc y = true → Gl (X.suite a ((a, oe) :: pn)) y := fun {y} hy => by
                    show X.env.scope.names.lookup y = _
                    rw [k.sc]; exact glB_ok hy
                  refine pe_imp (pe_callB (call_isX (d := d) O hz hcls hf) (gl hg) (k.free _ (by decide +kernel)) (by decide +kernel) (pa_cons xv (pa_cons (pe_glob (v := .ref (He.ga X.K c)) (pos := q2) (gl hg2) hm rfl hdb) pa_nil)) (by decide) (by decide)) fun σ H Q q => ?_
                  obtain ⟨B, c0, w, r, rfl, S, h1, h2, er, hq⟩ := q
                  cases er
                  exact ⟨.ref a, h1 _ rfl, h2.dd, .ref (He.ga X.K c), .ref (He.ga X.K c), b, rfl, fun u hu => hu, hk, hq w (Gr.refl w) S.wf _ (by simp [RepV, Rep])⟩
                · exact pe_no fun σ H Q ⟨_, _, _, _, _, _, _, h2, _⟩ => hcls h2.1
            · rw [if_neg h]; exact no
          · exact other hsh
        | _ => exact no
      | List es p =>
        have e0 : evX C E on e (n + 1) (.List es p) = if es.any starB = true then none else (match evXs C E on e n es with
          | some vs => if lenOk vs.length = true then some (.fr vs) else none
          | none => none) := rfl
        rw [e0]
        by_cases hs : es.any starB = true
        · rw [if_pos hs]; exact no
        · rw [if_neg hs]
          cases h1 : evXs C E on e n es with
          | none => exact no
          | some vs =>
            dsimp only
            by_cases hl : lenOk vs.length = true
            · rw [if_pos hl]
              refine pe_imp (pe_lst (ihs es vs (Bool.eq_false_iff.mpr hs) h1)) fun σ H Q q => ?_
              obtain ⟨B, c, w, r, rfl, S, g1, g2, er, hq⟩ := q
              cases er
              refine ⟨B, c, w, rfl, S, g1, g2, fun w1 k1 f1 us rs => ⟨by rw [Reps.length rs]; exact lenOk_le hl, fun pp hp => ?_⟩⟩
              exact hq (w1.put pp (.lst us)) (k1.trans (Gr.put f1 hp)) (Wf.put f1 hp) _ (rep_put_lst f1 k1 hp rs)
            · rw [if_neg hl]; exact no
      | Tuple es kk p =>
        have e0 : evX C E on e (n + 1) (.Tuple es kk p) = if es.any starB = true then none else (match evXs C E on e n es with
          | some vs => if lenOk vs.length = true then some (.fz (.tup vs)) else none
          | none => none) := rfl
        rw [e0]
        by_cases hs : es.any starB = true
        · rw [if_pos hs]; exact no
        · rw [if_neg hs]
          cases h1 : evXs C E on e n es with
          | none => exact no
          | some vs =>
            dsimp only
            by_cases hl : lenOk vs.length = true
            · rw [if_pos hl]
              refine pe_imp (pe_tup (ihs es vs (Bool.eq_false_iff.mpr hs) h1)) fun σ H Q q => ?_
              obtain ⟨B, c, w, r, rfl, S, g1, g2, er, hq⟩ := q
              cases er
              refine ⟨B, c, w, rfl, S, g1, g2, fun w1 k1 f1 us rs => ⟨by rw [Reps.length rs]; exact lenOk_le hl, fun pp hp => ?_⟩⟩
              exact hq _ (k1.trans (Gr.lay f1 hp)) (Wf.lay f1 hp) _ (rep_lay_tup f1 hp rs)
            · rw [if_neg hl]; exact no
      | _ => exact no
theorem x_ev {o : Option Nat} {on : Option Str} (k : Xk X C o on) (hz : Zc cls d oe) (hf : ∃ vs, oe.data = .fields vs) (st : Expr) : PE (X.suite a ((a, oe) :: pn)) st (tXE X.K E o a cls d e (evX C E on e n st)) := (x_evs k hz hf n).1 st
/-- whatever stands in a slot that is not told of -/
theorem SR.junk {K : PySem.W.Frag} {B w : HS} {E : EnvD} {c : Option (List Int)} {σ : St} {i : Nat} {v : Option V} (S : SR K B E c σ w) : SR K B (E.set i none) c (σ.set i v) w := by
  have hl := S.len
  have nn : ∀ {j : Nat} {y : Option DV}, (E.set i none)[j]? = some y → y = none ∨ (i ≠ j ∧ E[j]? = some y) := fun {j y} e => by
    by_cases hj : i = j
    · subst hj
      by_cases hE : i < E.length
      · rw [List.getElem?_set_self hE] at e; cases e; exact .inl rfl
      · rw [List.getElem?_eq_none (by simpa using hE)] at e; cases e
    · rw [List.getElem?_set_ne hj] at e; exact .inr ⟨hj, e⟩
  refine ⟨S.wf, S.gr, by simp [hl], fun j y e => ?_, fun j y p e o q => ?_, fun j k y z p e1 e2 o1 o2 q1 q2 => ?_, fun j a b d p e q => ?_⟩
  · rcases nn e with rfl | ⟨hj, e⟩
    · trivial
    · rw [List.getElem?_set_ne hj]; exact S.sl j y e
  · rcases nn e with rfl | ⟨hj, e⟩
    · cases o
    · rw [List.getElem?_set_ne hj] at q; exact S.ow j y p e o q
  · rcases nn e1 with rfl | ⟨hj, e1⟩
    · cases o1
    · rcases nn e2 with rfl | ⟨hk, e2⟩
      · cases o2
      · rw [List.getElem?_set_ne hj] at q1
        rw [List.getElem?_set_ne hk] at q2
        exact S.ds j k y z p e1 e2 o1 o2 q1 q2
  · rcases nn e with z | ⟨hj, e⟩
    · cases z
    · rw [List.getElem?_set_ne hj] at q; exact S.sf j a b d p e q
theorem FnX.tr {X : Cx} {φ : List D → DM RV} {x : Str} (h : FnX X φ x) (pn : List (Addr × Obj)) (xe : Value → Shared → Prop) : FnX (X.tr pn xe) φ x := by
  cases h with
  | fn F hr hm hk hb db => exact .fn F hr hm hk hb db
  | cl M F hr hm hb db => exact .cl M F hr hm hb db
theorem MtX.tr {X : Cx} {φ : List D → DM RV} {c f : Str} (h : MtX X φ c f) (pn : List (Addr × Obj)) (xe : Value → Shared → Prop) : MtX (X.tr pn xe) φ c f := by
  obtain ⟨cl, k, g, fd, ps, h1, h2, h3, h4⟩ := h
  exact ⟨cl, k, g, fd, ps, h1, h2, h3, h4⟩
theorem PrX.tr {X : Cx} {φ : List D → DM RV} {c f : Str} (h : PrX X φ c f) (pn : List (Addr × Obj)) (xe : Value → Shared → Prop) : PrX (X.tr pn xe) φ c f := by
  obtain ⟨cl, k, p, g, fd, h1, h2, h3, h4⟩ := h
  exact ⟨cl, k, p, g, fd, h1, h2, h3, h4⟩
theorem Sk.tr {X : Cx} {C : Cn} {W W' : WX} (k : Sk X C W) {pn : List (Addr × Obj)} {xe : Value → Shared → Prop} (tk : Takes (X.tr pn xe) W') (po : PassesOwn (model X.prog X.w) X.A X.env xe) : Sk (X.tr pn xe) C W' where
  N := k.N
  nd := k.nd
  sc := k.sc
  calm := k.calm
  tk := tk
  hu := k.hu
  nm := k.nm
  ki := k.ki
  free := k.free
  fn := fun x h => (k.fn x h).tr pn xe
  fl := k.fl
  pr := fun c f h => (k.pr c f h).tr pn xe
  mt := fun c f h => (k.mt c f h).tr pn xe
  ca := k.ca
  gd := k.gd
  clf := k.clf
  isT := k.isT
  po := po
  ex := k.ex
  stk := k.stk
  fr := k.fr
  xs := k.xs
  xfn := k.xfn
theorem try_ok {X : Cx} {C : Cn} {W : WX} {n : Nat} {E : EnvD} (k : Sk X C W) {body : List Stmt} {x nm y : Str} {xe : Expr} {np yp sp hp pos : Pos} {m : SM} (hb : tryB C x nm y xe = true)
    (ih : ∀ {Y : Cx} {V : WX}, Sk Y C V → PSs Y body (tS Y.K V E m)) :
    PS X (.Try body [.ExceptHandler (some (.Name x np)) (some nm) [.Assign [.Name y yp] xe sp] hp] [] [] pos) (tS X.K W E (stry C n m x nm y xe)) := by
  unfold tryB locL at hb
  rw [Bool.and_eq_true, Bool.and_eq_true, Bool.and_eq_true, Bool.and_eq_true, Bool.and_eq_true, Bool.and_eq_true, Bool.not_eq_true'] at hb
  obtain ⟨⟨⟨⟨⟨l1, i1⟩, l2, i2⟩, hg⟩, hx⟩, hc⟩ := hb
  obtain ⟨i, hi⟩ := Option.isSome_iff_exists.mp i1
  obtain ⟨j, hj⟩ := Option.isSome_iff_exists.mp i2
  obtain ⟨b, hb⟩ := Option.isSome_iff_exists.mp hx
  obtain ⟨hm, hdb, _⟩ := k.xs x x b hb
  have hN : X.N.Nodup := by rw [k.N]; exact k.nd
  have hni : X.N[i]? = some nm := by rw [k.N]; exact ixS_ok hi
  have hnj : X.N[j]? = some y := by rw [k.N]; exact ixS_ok hj
  have hloc1 : X.env.scope.names.lookup nm = some .local := by rw [k.sc]; exact locB_ok l1
  have hloc2 : X.env.scope.names.lookup y = some .local := by rw [k.sc]; exact locB_ok l2
  have xk := k.xk hi l1
  let ts : Addr → Value → Option Addr → TS := fun a cls d Z σ H => ∃ (e : Exn) (E' : EnvD), tAsg (tXE X.K (E'.set i none) (some i) a cls d e (evX C (E'.set i none) (some nm) e n xe)) (gName j) Z σ H
  refine ps_imp (ps_try_as (i := i) (c := .ref (He.ga X.K x)) (tb := fun V => tS X.K V E m) (ts := ts) k.stk k.fr hN hni hloc1 ⟨k.gl hg, hdb, .inl hm⟩ k.tk (fun V pn xe' tk po => ih (k.tr tk po)) fun a oe cls d pn hz hf => ?_) fun Z σ H h => ?_
  · have one : PS (X.suite a ((a, oe) :: pn)) (.Assign [.Name y yp] xe sp) (ts a cls d) := by
      refine ⟨fun pins s σ H Z I ⟨e, E', q⟩ => ?_⟩
      exact (ps_set (X := X.suite a ((a, oe) :: pn)) hN hnj (.inl hloc2) (x_ev (E := E'.set i none) (e := e) (n := n) xk hz hf xe) (by cases xe <;> first | rfl | simp [isCompE] at hc) (.inr hloc2)).run pins s σ H Z I q
    exact pss_imp (pss_cons one pss_nil) fun Z σ H q => q
  · obtain ⟨B, c, w, rfl, S, h⟩ := h
    refine ⟨B, c, w, rfl, S, ?_⟩
    unfold stry at h
    cases hm : m c with
    | wrong => rw [hm] at h; exact h.elim
    | ok o E' c' =>
      rw [hm] at h
      cases o with
      | nx => exact h
      | brk => exact h
      | cnt => exact h
      | ret r => exact h
    | err e E' c' =>
      rw [hm] at h
      intro cls d σ' w' g S' rx
      dsimp only at h
      rw [hi] at h
      obtain ⟨rfl, rx2⟩ := id rx
      cases hxs : C.xs e.cls x with
      | none => rw [hxs] at h; exact h.elim
      | some bb =>
        rw [hxs] at h
        obtain ⟨_, _, hexm, _⟩ := k.xs _ _ bb hxs
        refine ⟨bb, hexm, fun z a ha => ?_, fun z => ?_⟩
        · subst z
          dsimp only at h
          by_cases hlt : i < E'.length
          · rw [if_pos (decide_eq_true hlt)] at h
            cases hev : evX C (E'.set i none) (some nm) e n xe with
            | none => rw [hev] at h; exact h.elim
            | some r =>
              rw [hev] at h
              dsimp only at h
              refine ⟨e, E', B, c', w', r, rfl, S'.junk, fun _ z => by cases z; exact List.getElem?_set_self (by rw [← S'.len]; exact hlt), rx, hev, fun w2 g2 f2 v rv => ?_⟩
              have h2 : XS X.K W B { nx := fun σ H => Z.nx (σ.set i none) H, rt := Z.rt, bk := fun σ H => Z.bk (σ.set i none) H, ct := fun σ H => Z.ct (σ.set i none) H } w2 (stoN C (E'.set i none) y r c') := by
                have h3 := h.up (g.trans g2.f)
                cases hst : stoN C (E'.set i none) y r c' with
                | wrong => rw [hst] at h3; exact h3.elim
                | err _ _ _ => rw [hst] at h3; exact h3.elim
                | ok o E2 c2 =>
                  rw [hst] at h3
                  cases o with
                  | nx => exact fun σ4 w4 g4 S4 => h3 _ w4 g4 S4.forget
                  | brk => exact h3.elim
                  | cnt => exact h3.elim
                  | ret r => exact h3.elim
              exact sto_ok hj (stB_of l2) S'.junk g2 f2 rv h2
          · rw [if_neg (by simpa using hlt)] at h; exact h.elim
        · subst z
          exact h _ d σ' w' g S' rx
/-! several clauses -/
def unE : Option Nat → EnvD → EnvD
  | some i, E => E.set i none
  | none, E => E
def slO (C : Cn) (t : ClD) : Option Nat := t.on.bind (ixS C.N)
def clOf (K : PySem.W.Frag) (C : Cn) (n : Nat) (t : ClD) : Cl := (.ref (He.ga K t.x), slO C t, fun a cls d Z σ H => ∃ (e : Exn) (E' : EnvD), tAsg (tXE K (unE (slO C t) E') (slO C t) a cls d e (evX C (unE (slO C t) E') t.on e n t.xe)) (gName ((ixS C.N t.y).getD 0)) Z σ H)
theorem clD_shape {h : ExceptHandler} {t : ClD} (e : clD h = some t) : ∃ np yp sp hp, h = .ExceptHandler (some (.Name t.x np)) t.on [.Assign [.Name t.y yp] t.xe sp] hp := by
  unfold clD at e
  split at e
  · cases e; exact ⟨_, _, _, _, rfl⟩
  · cases e
theorem clB_ok {C : Cn} {t : ClD} (h : clB C t = true) : (∀ nm, t.on = some nm → locL C nm = true) ∧ locL C t.y = true ∧ glB C.sc t.x = true ∧ (C.xs t.x t.x).isSome = true ∧ isCompE t.xe = false := by
  unfold clB at h
  rw [Bool.and_eq_true, Bool.and_eq_true, Bool.and_eq_true, Bool.and_eq_true, Bool.not_eq_true'] at h
  obtain ⟨⟨⟨⟨h1, h2⟩, h3⟩, h4⟩, h5⟩ := h
  refine ⟨fun nm e => ?_, h2, h3, h4, h5⟩
  rw [e] at h1; exact h1
theorem hda_ok {X : Cx} {C : Cn} {W : WX} {n : Nat} (k : Sk X C W) : ∀ {hs : List ExceptHandler} {cs : List ClD}, clsD hs = some cs → cs.all (clB C) = true → HdA X hs (cs.map (clOf X.K C n))
  | [], cs, h, _ => by cases h; exact .nil
  | h :: hs, cs, e, hall => by
    unfold clsD at e
    cases e1 : clD h with
    | none => rw [e1] at e; cases e
    | some t =>
      cases e2 : clsD hs with
      | none => rw [e1, e2] at e; cases e
      | some ts =>
        rw [e1, e2] at e
        cases e
        rw [List.all_cons, Bool.and_eq_true] at hall
        obtain ⟨np, yp, sp, hp, rfl⟩ := clD_shape e1
        obtain ⟨b1, b2, b3, b4, b5⟩ := clB_ok hall.1
        unfold locL at b2
        rw [Bool.and_eq_true] at b2
        obtain ⟨l2, i2⟩ := b2
        obtain ⟨j, hj⟩ := Option.isSome_iff_exists.mp i2
        obtain ⟨b, hb⟩ := Option.isSome_iff_exists.mp b4
        obtain ⟨hm, hdb, _⟩ := k.xs t.x t.x b hb
        have hN : X.N.Nodup := by rw [k.N]; exact k.nd
        have hnj : X.N[j]? = some t.y := by rw [k.N]; exact ixS_ok hj
        have hloc2 : X.env.scope.names.lookup t.y = some .local := by rw [k.sc]; exact locB_ok l2
        have xk : Xk X C (slO C t) t.on ∧ NmOk X t.on (slO C t) := by
          unfold slO
          cases e3 : t.on with
          | none => exact ⟨k.xk0, True.intro⟩
          | some nm =>
            have q := b1 nm e3
            unfold locL at q
            rw [Bool.and_eq_true] at q
            obtain ⟨l1, i1⟩ := q
            obtain ⟨i, hi⟩ := Option.isSome_iff_exists.mp i1
            rw [Option.bind_some, hi]
            exact ⟨k.xk hi l1, by rw [k.N]; exact ixS_ok hi, by show X.env.scope.names.lookup nm = _; rw [k.sc]; exact locB_ok l1⟩
        refine .cons (X := X) (c := .ref (He.ga X.K t.x)) ⟨k.gl b3, hdb, .inl hm⟩ xk.2 (fun a oe cls d pn hz hf => ?_) (hda_ok k e2 hall.2)
        have one : PS (X.suite a ((a, oe) :: pn)) (.Assign [.Name t.y yp] t.xe sp) ((clOf X.K C n t).2.2 a cls d) := by
          refine ⟨fun pins s σ H Z I ⟨e, E', q⟩ => ?_⟩
          rw [hj] at q
          exact (ps_set (X := X.suite a ((a, oe) :: pn)) hN hnj (.inl hloc2) (x_ev (E := unE (slO C t) E') (e := e) (n := n) xk.1 hz hf t.xe) (by cases h : t.xe <;> first | rfl | (rw [h] at b5; simp [isCompE] at b5)) (.inr hloc2)).run pins s σ H Z I q
        exact pss_imp (pss_cons one pss_nil) fun Z σ H q => q
theorem sel_ok {X : Cx} {C : Cn} {W : WX} {n : Nat} (k : Sk X C W) {e : Exn} {E' : EnvD} {c' : Option (List Int)} {B : HS} {Z : Ends} {w w' : HS} {cls : Value} {d : Option Addr} {σ' : St} (g : Gf w w') (S' : SR X.K B E' c' σ' w') (rx : RepX X.K w' e cls d) :
    ∀ {cs : List ClD}, cs.all (clB C) = true → XS X.K W B Z w (selX C n e E' c' cs) → wA X.K W Z (cs.map (clOf X.K C n)) cls d σ' w'.H
  | [], _, h => h _ d σ' w' g S' rx
  | t :: ts, hall, h => by
    rw [List.all_cons, Bool.and_eq_true] at hall
    obtain ⟨b1, b2, b3, b4, b5⟩ := clB_ok hall.1
    unfold locL at b2
    rw [Bool.and_eq_true] at b2
    obtain ⟨l2, i2⟩ := b2
    obtain ⟨j, hj⟩ := Option.isSome_iff_exists.mp i2
    obtain ⟨rfl, rx2⟩ := id rx
    unfold selX at h
    cases hxs : C.xs e.cls t.x with
    | none => rw [hxs] at h; exact h.elim
    | some bb =>
      rw [hxs] at h
      obtain ⟨_, _, hexm, _⟩ := k.xs _ _ bb hxs
      refine ⟨bb, hexm, fun z a ha => ?_, fun z => ?_⟩
      · subst z
        dsimp only at h
        have he : (clOf X.K C n t).2.1 = slO C t := rfl
        rw [he]
        cases e3 : t.on with
        | none =>
          rw [e3] at h
          dsimp only at h
          have es : slO C t = none := by unfold slO; rw [e3]; rfl
          cases hev : evX C E' none e n t.xe with
          | none => rw [hev] at h; exact h.elim
          | some r =>
            rw [hev] at h
            dsimp only at h
            unfold clOf
            rw [es]
            refine ⟨e, E', B, c', w', r, rfl, S', nofun, rx, by rw [e3]; exact hev, fun w2 g2 f2 v rv => ?_⟩
            rw [hj]
            have h2 : XS X.K W B Z w2 (stoN C E' t.y r c') := by
              cases hst : stoN C E' t.y r c' with
              | wrong => rw [hst] at h; exact h.elim
              | err _ _ _ => rw [hst] at h; exact h.elim
              | ok o E2 c2 =>
                rw [hst] at h
                cases o with
                | nx => exact XS.up (r := .ok .nx E2 c2) h (g.trans g2.f)
                | brk => exact h.elim
                | cnt => exact h.elim
                | ret r => exact h.elim
            exact sto_ok hj (stB_of l2) S' g2 f2 rv h2
        | some nm =>
          rw [e3] at h
          dsimp only at h
          cases hi : ixS C.N nm with
          | none => rw [hi] at h; exact h.elim
          | some i =>
            rw [hi] at h
            dsimp only at h
            have es : slO C t = some i := by unfold slO; rw [e3]; exact hi
            by_cases hlt : i < E'.length
            · rw [if_pos (decide_eq_true hlt)] at h
              cases hev : evX C (E'.set i none) (some nm) e n t.xe with
              | none => rw [hev] at h; exact h.elim
              | some r =>
                rw [hev] at h
                dsimp only at h
                unfold clOf
                rw [es]
                refine ⟨e, E', B, c', w', r, rfl, S'.junk, fun _ z => by cases z; exact List.getElem?_set_self (by rw [← S'.len]; exact hlt), rx, by rw [e3]; exact hev, fun w2 g2 f2 v rv => ?_⟩
                rw [hj]
                have h2 : XS X.K W B (edA (some i) Z) w2 (stoN C (E'.set i none) t.y r c') := by
                  have h3 := h.up (g.trans g2.f)
                  cases hst : stoN C (E'.set i none) t.y r c' with
                  | wrong => rw [hst] at h3; exact h3.elim
                  | err _ _ _ => rw [hst] at h3; exact h3.elim
                  | ok o E2 c2 =>
                    rw [hst] at h3
                    cases o with
                    | nx => exact fun σ4 w4 g4 S4 => h3 _ w4 g4 S4.forget
                    | brk => exact h3.elim
                    | cnt => exact h3.elim
                    | ret r => exact h3.elim
                exact sto_ok hj (stB_of l2) S'.junk g2 f2 rv h2
            · rw [if_neg (by simpa using hlt)] at h; exact h.elim
      · subst z
        exact sel_ok k g S' rx hall.2 h
theorem tryM_ok {X : Cx} {C : Cn} {W : WX} {n : Nat} {E : EnvD} (k : Sk X C W) {body : List Stmt} {hs : List ExceptHandler} {pos : Pos} {m : SM}
    (ih : ∀ {Y : Cx} {V : WX}, Sk Y C V → PSs Y body (tS Y.K V E m)) : PS X (.Try body hs [] [] pos) (tS X.K W E (tryM C n m hs)) := by
  unfold tryM
  cases e : clsD hs with
  | none => exact ps_no fun Z σ H h => tS_no (fun c => rfl) h
  | some cs => cases cs with
    | nil => exact ps_no fun Z σ H h => tS_no (fun c => rfl) h
    | cons t ts =>
      dsimp only
      by_cases hall : (t :: ts).all (clB C) = true
      · rw [if_pos hall]
        cases hs with
        | nil => cases e
        | cons h r =>
          refine ps_imp (ps_tryA (tb := fun V => tS X.K V E m) k.stk k.fr (by rw [k.N]; exact k.nd) k.tk (fun V pn xe' tk po => ih (k.tr tk po)) (hda_ok (n := n) k e hall)) fun Z σ H q => ?_
          obtain ⟨B, c, w, rfl, S, q⟩ := q
          refine ⟨B, c, w, rfl, S, ?_⟩
          unfold stryM at q
          cases hm : m c with
          | wrong => rw [hm] at q; exact q.elim
          | ok o E' c' =>
            rw [hm] at q
            cases o with
            | nx => exact q
            | brk => exact q
            | cnt => exact q
            | ret r => exact q
          | err e E' c' =>
            rw [hm] at q
            intro cls d σ' w' g S' rx
            exact sel_ok k g S' rx hall q
      · rw [if_neg hall]; exact ps_no fun Z σ H h => tS_no (fun c => rfl) h
end
end DL

set_option maxHeartbeats 4000000
/-! DL18: every statement means what it should. -/
namespace DL
open PySem PySem.Spec PyProof.Rows L2
structure SndS (n : Nat) : Prop where
  s : ∀ {X : Cx} {C : Cn} {W : WX} (E : EnvD) (st : Stmt), Sk X C W → PS X st (tS X.K W E (exS C n st E))
  ss : ∀ {X : Cx} {C : Cn} {W : WX} (E : EnvD) (st : List Stmt), Sk X C W → PSs X st (tS X.K W E (exSs C n st E))
theorem SndS.zero : SndS 0 := ⟨fun E st k => ps_no fun Z σ H h => tS_no (fun c => rfl) h, fun E st k => pss_no fun Z σ H h => tS_no (fun c => rfl) h⟩
theorem pss_ex {X : Cx} {b : List Stmt} {α : Type} {t : α → TS} (h : ∀ a, PSs X b (t a)) : PSs X b (fun Z σ H => ∃ a, t a Z σ H) := ⟨fun pins s σ H D I ⟨a, q⟩ => (h a).run pins s σ H D I q⟩
section
variable {X : Cx} {C : Cn} {W : WX} {n : Nat} {E : EnvD}
theorem ps_w {st : Stmt} : PS X st (tS X.K W E swrong) := ps_no fun Z σ H h => tS_no (fun c => rfl) h
theorem nx_ok {st : Stmt} (h : PS X st tNext) : PS X st (tS X.K W E (sret .nx E)) := ps_imp h fun Z σ H q => by
  obtain ⟨B, c, w, rfl, S, q⟩ := q
  exact q σ w (Gf.refl w) S
theorem expr_step (IH : SndS n) (e : Expr) (pos : Pos) (k : Sk X C W) : PS X (.Expr e pos) (tS X.K W E (exS C (n + 1) (.Expr e pos) E)) := by
  cases e with
  | Constant c j p => cases c with
    | str x => exact nx_ok ps_doc
    | _ => exact ps_w
  | Call f es ks cp =>
    cases f with
    | Name f p => cases ks with
      | nil => exact ret_frz (xs := kps C n false (.Call (.Name f p) es [] cp)) (drop_ok k.toCk rfl)
      | cons _ _ => exact ps_w
    | Attribute o m ap => cases o with
      | Name x px => cases ks with
        | cons _ _ => cases es with
          | nil => exact ps_w
          | cons a r => cases r <;> exact ps_w
        | nil => cases es with
          | nil => exact ps_w
          | cons a r => cases r with
            | cons _ _ => exact ps_w
            | nil =>
              have e0 : exS C (n + 1) (.Expr (.Call (.Attribute (.Name x px) m ap) [a] [] cp) pos) E = if (decide (m = "append") && !starB a && (ap.endLine == cp.line) && mutB C (frzE C E (kps C n true a)) x) = true then
                liftE (frzE C E (kps C n true a)) (evK C (frzE C E (kps C n true a)) n a) fun v => appN C (frzE C E (kps C n true a)) x v else swrong := rfl
              rw [e0]
              by_cases h : (decide (m = "append") && !starB a && (ap.endLine == cp.line) && mutB C (frzE C E (kps C n true a)) x) = true
              · rw [if_pos h]
                rw [Bool.and_eq_true, Bool.and_eq_true, Bool.and_eq_true, Bool.not_eq_true', decide_eq_true_eq] at h
                obtain ⟨⟨⟨rfl, h2⟩, h3⟩, h4⟩ := h
                exact ret_frz (xs := kps C n true a) (append_ok k.toCk h2 h3 h4)
              · rw [if_neg h]; exact ps_w
      | _ => exact ps_w
    | _ => exact ps_w
  | _ => exact ps_w
theorem assign_step (IH : SndS n) (tgs : List Expr) (e : Expr) (pos : Pos) (k : Sk X C W) : PS X (.Assign tgs e pos) (tS X.K W E (exS C (n + 1) (.Assign tgs e pos) E)) := by
  cases tgs with
  | nil => exact ps_w
  | cons t r => cases r with
    | cons _ _ => cases t with
      | Subscript o i p => cases o <;> exact ps_w
      | Attribute o i p => cases o <;> exact ps_w
      | _ => exact ps_w
    | nil => cases t with
      | Name x px =>
        have e0 : exS C (n + 1) (.Assign [.Name x px] e pos) E = if (!locN C x) = true then swrong else if (C.dn.contains x && isDict0 e) = true then newDic C E x else liftE (frzE C E (kps C n true e)) (ev C (frzE C E (kps C n true e)) n e) fun r => stoN C (backE E (frzE C E (kps C n true e)) r) x r := rfl
        rw [e0]
        by_cases h : (!locN C x) = true
        · rw [if_pos h]; exact ps_w
        · rw [if_neg h]
          by_cases hd : (C.dn.contains x && isDict0 e) = true
          · rw [if_pos hd]
            exact newDic_ok k.toCk (by simpa using h) (Bool.and_eq_true _ _ ▸ hd).2
          · rw [if_neg hd]
            exact assign_lend k.toCk (kps C n true e) (by simpa using h)
      | Tuple ts kk pt =>
        have e0 : exS C (n + 1) (.Assign [.Tuple ts kk pt] e pos) E = if (tupsB e || isCompE e) = true then swrong else
          liftE (frzE C E (kps C n true e)) (evK C (frzE C E (kps C n true e)) n e) fun v => match bindT C n (.Tuple ts kk pt) v (frzE C E (kps C n true e)) with
            | some E' => sret .nx E'
            | none => swrong := rfl
        rw [e0]
        by_cases h : (tupsB e || isCompE e) = true
        · rw [if_pos h]; exact ps_w
        · rw [if_neg h]
          rw [Bool.or_eq_true, not_or] at h
          exact ret_frz (xs := kps C n true e) (tup_ok k.toCk (Bool.eq_false_iff.mpr h.1) (Bool.eq_false_iff.mpr h.2))
      | Subscript o i p => cases o with
        | Name x px =>
          have e0 : exS C (n + 1) (.Assign [.Subscript (.Name x px) i p] e pos) E = if C.dn.contains x = true then (if (isSlice i || isCompE e || !dicB C (frzE C E (kps C n true e ++ kps C n false i)) x) = true then swrong else
            liftE (frzE C E (kps C n true e ++ kps C n false i)) (evB C (frzE C E (kps C n true e ++ kps C n false i)) n e) fun v =>
              liftE (frzE C E (kps C n true e ++ kps C n false i)) (evB C (frzE C E (kps C n true e ++ kps C n false i)) n i) fun j => setDic C (frzE C E (kps C n true e ++ kps C n false i)) x j v)
            else if (isSlice i || isCompE e || !mutB C (frzE C E (kps C n true e ++ kps C n false i)) x) = true then swrong else
            liftE (frzE C E (kps C n true e ++ kps C n false i)) (evK C (frzE C E (kps C n true e ++ kps C n false i)) n e) fun v =>
              liftE (frzE C E (kps C n true e ++ kps C n false i)) (evB C (frzE C E (kps C n true e ++ kps C n false i)) n i) fun j => setN C (frzE C E (kps C n true e ++ kps C n false i)) x j v := rfl
          rw [e0]
          by_cases hd : C.dn.contains x = true
          · rw [if_pos hd]
            by_cases h : (isSlice i || isCompE e || !dicB C (frzE C E (kps C n true e ++ kps C n false i)) x) = true
            · rw [if_pos h]; exact ps_w
            · rw [if_neg h]
              rw [Bool.or_eq_true, Bool.or_eq_true, not_or, not_or, Bool.not_eq_true', Bool.not_eq_false] at h
              exact ret_frz (xs := kps C n true e ++ kps C n false i) (dput_ok k.toCk (Bool.eq_false_iff.mpr h.1.1) (Bool.eq_false_iff.mpr h.1.2) h.2)
          rw [if_neg hd]
          by_cases h : (isSlice i || isCompE e || !mutB C (frzE C E (kps C n true e ++ kps C n false i)) x) = true
          · rw [if_pos h]; exact ps_w
          · rw [if_neg h]
            rw [Bool.or_eq_true, Bool.or_eq_true, not_or, not_or, Bool.not_eq_true', Bool.not_eq_false] at h
            exact ret_frz (xs := kps C n true e ++ kps C n false i) (sub_ok k.toCk (Bool.eq_false_iff.mpr h.1.1) (Bool.eq_false_iff.mpr h.1.2) h.2)
        | _ => exact ps_w
      | Attribute o f p => cases o with
        | Name x px =>
          have e0 : exS C (n + 1) (.Assign [.Attribute (.Name x px) f p] e pos) E = if (isCompE e || !insB C (frzE C E (kps C n true e)) x f) = true then swrong else
            liftE (frzE C E (kps C n true e)) (evK C (frzE C E (kps C n true e)) n e) fun v => insN C (frzE C E (kps C n true e)) x f v := rfl
          rw [e0]
          by_cases h : (isCompE e || !insB C (frzE C E (kps C n true e)) x f) = true
          · rw [if_pos h]; exact ps_w
          · rw [if_neg h]
            rw [Bool.or_eq_true, not_or, Bool.not_eq_true', Bool.not_eq_false] at h
            exact ret_frz (xs := kps C n true e) (fld_ok k.toCk (Bool.eq_false_iff.mpr h.1) h.2)
        | _ => exact ps_w
      | _ => exact ps_w
theorem aug_step (IH : SndS n) (t e : Expr) (op : Operator) (pos : Pos) (k : Sk X C W) : PS X (.AugAssign t op e pos) (tS X.K W E (exS C (n + 1) (.AugAssign t op e pos) E)) := by
  cases t with
  | Name x px =>
    have e0 : exS C (n + 1) (.AugAssign (.Name x px) op e pos) E = (match augG op with
        | some g => if (!augB C (frzE C E (kps C n false e)) x) = true then swrong else liftE (frzE C E (kps C n false e)) (evB C (frzE C E (kps C n false e)) n e) fun v => augN C (frzE C E (kps C n false e)) x g v
        | none => swrong) := rfl
    rw [e0]
    cases hg : augG op with
    | none => exact ps_w
    | some g =>
      dsimp only
      by_cases h : (!augB C (frzE C E (kps C n false e)) x) = true
      · rw [if_pos h]; exact ps_w
      · rw [if_neg h]
        exact ret_frz (xs := kps C n false e) (aug_ok k.toCk hg (by simpa using h))
  | _ => exact ps_w
theorem ret_step (IH : SndS n) (e : Option Expr) (pos : Pos) (k : Sk X C W) : PS X (.Return e pos) (tS X.K W E (exS C (n + 1) (.Return e pos) E)) := by
  cases e with
  | none => exact retNone_ok
  | some e =>
    by_cases hx : ∃ x p, e = .Name x p
    · obtain ⟨x, p, rfl⟩ := hx
      have e0 : exS C (n + 1) (.Return (some (.Name x p)) pos) E = if visB C.sc x = true then retN C E x else liftE E (ev C E n (.Name x p)) fun r => retR E r := rfl
      rw [e0]
      by_cases hv : visB C.sc x = true
      · rw [if_pos hv]; exact retN_ok k.toCk hv
      · rw [if_neg hv]; exact retV_ok k.toCk
    · have e0 : exS C (n + 1) (.Return (some e) pos) E = liftE (frzE C E (kps C n true e)) (ev C (frzE C E (kps C n true e)) n e) fun r => retR (frzE C E (kps C n true e)) r := by
        cases e with
        | Name x p => exact absurd ⟨_, _, rfl⟩ hx
        | _ => rfl
      rw [e0]
      exact ret_frz (xs := kps C n true e) (retV_ok k.toCk)
theorem raise_step (IH : SndS n) (e c : Option Expr) (pos : Pos) (k : Sk X C W) : PS X (.Raise e c pos) (tS X.K W E (exS C (n + 1) (.Raise e c pos) E)) := by
  cases e with
  | none => exact ps_w
  | some e => cases c with
    | some c => cases e with
      | Call f es ks p => cases f <;> cases ks <;> exact ps_w
      | _ => exact ps_w
    | none => cases e with
      | Call f es ks p => cases f with
        | Name x px => cases ks with
          | cons _ _ => exact ps_w
          | nil =>
            have e0 : exS C (n + 1) (.Raise (some (.Call (.Name x px) es [] p)) none pos) E = if (glB C.sc x && !(es.any starB)) = true then (match C.xf x with
              | some fs => (match es with
                | [] => if fs.isEmpty = true then sraise ⟨x, []⟩ E else swrong
                | e :: r => if (!fs.isEmpty) = true then liftE (frzE C E (kpss C n true (e :: r))) (evL C (frzE C E (kpss C n true (e :: r))) n (e :: r)) fun vs =>
                    if (decide (vs.length = fs.length) && vs.all msgOk) = true then sraise ⟨x, (fs.zip vs).reverse⟩ (frzE C E (kpss C n true (e :: r))) else swrong else swrong)
              | none => swrong) else swrong := rfl
            rw [e0]
            by_cases h : (glB C.sc x && !(es.any starB)) = true
            · rw [if_pos h]
              rw [Bool.and_eq_true, Bool.not_eq_true'] at h
              cases hf : C.xf x with
              | none => exact ps_w
              | some fs => cases es with
                | nil =>
                  cases fs with
                  | nil => exact raise0_ok k h.1 hf
                  | cons _ _ => exact ps_w
                | cons a r =>
                  cases fs with
                  | nil => exact ps_w
                  | cons f fs => exact ret_frz (xs := kpss C n true (a :: r)) (raise_ok k h.1 hf (by simp) h.2)
            · rw [if_neg h]; exact ps_w
        | _ => exact ps_w
      | _ => exact ps_w
theorem SndS.step (IH : SndS n) : SndS (n + 1) where
  s := fun {X C W} E st k => by
    cases st with
    | Pass p => exact nx_ok ps_pass
    | Break p =>
      refine ps_imp ps_break fun Z σ H q => ?_
      obtain ⟨B, c, w, rfl, S, q⟩ := q
      exact q σ w (Gf.refl w) S
    | Continue p =>
      refine ps_imp ps_continue fun Z σ H q => ?_
      obtain ⟨B, c, w, rfl, S, q⟩ := q
      exact q σ w (Gf.refl w) S
    | Expr e p => exact expr_step IH e p k
    | Assign tgs e p => exact assign_step IH tgs e p k
    | AugAssign t op e p => exact aug_step IH t e op p k
    | Return e p => exact ret_step IH e p k
    | Raise e c p => exact raise_step IH e c p k
    | If t a b p => exact ret_frz (xs := kps C n false t) (if_ok k.toCk (IH.ss _ a k) (IH.ss _ b k))
    | For tg it body els p => cases els with
      | cons _ _ => exact ps_w
      | nil =>
        have e0 : exS C (n + 1) (.For tg it body [] p) E = if iterB it = true then liftE (frzE C E (kpsI C n it)) (evI C (frzE C E (kpsI C n it)) n true tg it) fun xs =>
          sfor (fun x E => match bindT C n tg x E with
            | some E' => exSs C n body E'
            | none => swrong) xs (frzE C E (kpsI C n it)) else swrong := rfl
        rw [e0]
        by_cases h : iterB it = true
        · rw [if_pos h]
          exact ret_frz (xs := kpsI C n it) (for_ok k h (pss_ex fun E' => IH.ss E' body k))
        · rw [if_neg h]; exact ps_w
    | While t body els p => cases els with
      | cons _ _ => exact ps_w
      | nil => exact while_ok k (fun E => ⟨_, rfl⟩) (pss_ex fun E' => IH.ss E' body k)
    | Try body hs els fin p =>
      by_cases hsh : ∃ x np nm y yp xe sp hp, hs = [.ExceptHandler (some (.Name x np)) (some nm) [.Assign [.Name y yp] xe sp] hp] ∧ els = [] ∧ fin = []
      · obtain ⟨x, np, nm, y, yp, xe, sp, hp, rfl, rfl, rfl⟩ := hsh
        have e0 : exS C (n + 1) (.Try body [.ExceptHandler (some (.Name x np)) (some nm) [.Assign [.Name y yp] xe sp] hp] [] [] p) E = if tryB C x nm y xe = true then stry C n (exSs C n body E) x nm y xe else swrong := rfl
        rw [e0]
        by_cases h : tryB C x nm y xe = true
        · rw [if_pos h]
          exact try_ok k h fun {Y V} kk => IH.ss E body kk
        · rw [if_neg h]; exact ps_w
      · by_cases hn : els = [] ∧ fin = []
        · obtain ⟨rfl, rfl⟩ := hn
          have e0 : exS C (n + 1) (.Try body hs [] [] p) E = tryM C n (exSs C n body E) hs := by
            unfold exS
            split <;> first | rfl | (rename_i heq; cases heq) | skip
            · exact absurd ⟨_, _, _, _, _, _, _, _, rfl, rfl, rfl⟩ hsh
            · rfl
            · exact (‹∀ (b : List Stmt) (h : List ExceptHandler) (q : Pos), Stmt.Try body hs [] [] p = Stmt.Try b h [] [] q → False› _ _ _ rfl).elim
          rw [e0]
          exact tryM_ok k fun {Y V} kk => IH.ss E body kk
        · have e0 : exS C (n + 1) (.Try body hs els fin p) E = swrong := by
            unfold exS
            split <;> first | rfl | (rename_i heq; cases heq) | skip
            all_goals first | rfl | (exact absurd ⟨rfl, rfl⟩ hn) | (exact absurd ⟨_, _, _, _, _, _, _, _, rfl, rfl, rfl⟩ hsh)
          rw [e0]; exact ps_w
    | _ => exact ps_w
  ss := fun {X C W} E st k => by
    cases st with
    | nil =>
      refine pss_imp pss_nil fun Z σ H q => ?_
      obtain ⟨B, c, w, rfl, S, q⟩ := q
      exact q σ w (Gf.refl w) S
    | cons s r =>
      refine pss_imp (pss_cons (IH.s E s k) (pss_ex fun E' => IH.ss E' r k)) fun Z σ H q => ?_
      obtain ⟨B, c, w, rfl, S, q⟩ := q
      refine ⟨B, c, w, rfl, S, ?_⟩
      have q' : XS X.K W B Z w (sbind (exS C n s E) (fun E' => exSs C n r E') c) := q
      unfold sbind at q'
      cases hm : exS C n s E c with
      | wrong => rw [hm] at q'; exact q'.elim
      | err e1 E1 c1 => rw [hm] at q'; exact q'
      | ok o E1 c1 =>
        rw [hm] at q'
        cases o with
        | nx => exact fun σ' w' g' S' => ⟨E1, B, c1, w', rfl, S', q'.up g'⟩
        | brk => exact q'
        | cnt => exact q'
        | ret r => exact q'
theorem sndS : ∀ n, SndS n
  | 0 => SndS.zero
  | n + 1 => (sndS n).step
end
end DL

set_option maxHeartbeats 4000000
/-! DL19: defs. -/
namespace DL
open PySem PySem.Spec PyProof.Rows L2
inductive Ky where
  | fn (x : Str) | prop (c f : Str) | meth (c m : Str)
  deriving DecidableEq
structure DefD where
  ky : Ky
  /-- an __init__ of this class -/
  ini : Option Str
  ps : List Str
  N : List Str
  sc : Scope
  body : List Stmt
  mu : List Str
  dn : List Str := []
def startD (N : List Str) (xs : List D) : EnvD := xs.map (fun x => some (DV.fz x)) ++ List.replicate (N.length - xs.length) none
def outD : RsS → Rs RV
  | .ok (.ret r) _ c => .ok r c
  | .ok .nx _ c => .ok (.fz .non) c
  | .err e _ c => .err e c
  | _ => .wrong
def outI : RsS → Rs RV
  | .ok .nx (some (.ins c ns vs) :: _) c' => .ok (.fz (.obj c ns vs)) c'
  | .err e _ c => .err e c
  | _ => .wrong
def runD (C : Cn) (n : Nat) (d : DefD) : List D → DM RV := fun xs c => match d.ini with
  | none => if xs.length = d.ps.length then outD (exSs C n d.body (startD C.N xs) c) else .wrong
  | some cn => if xs.length + 1 = d.ps.length then outI (exSs C n d.body (some (.ins cn [] []) :: startD C.N.tail xs) c) else .wrong
def cnOf (C0 : Cn) (den : Ky → List D → DM RV) (kn : Ky → Bool) (d : DefD) : Cn :=
  { C0 with N := d.N, sc := d.sc, mu := d.mu, dn := d.dn, Φ := fun x => den (.fn x), kn := fun x => kn (.fn x), Me := fun c f => den (.prop c f), isProp := fun c f => kn (.prop c f), Mt := fun c m => den (.meth c m), isMt := fun c m => kn (.meth c m) }
def den (C0 : Cn) (n : Nat) : List DefD → Ky → List D → DM RV
  | [], _ => fun _ => dwrong
  | d :: ds, κ => if d.ky = κ then runD (cnOf C0 (den C0 n ds) (fun κ => ds.any fun d => decide (d.ky = κ)) d) n d else den C0 n ds κ
def knw (ds : List DefD) (κ : Ky) : Bool := ds.any fun d => decide (d.ky = κ)

section
variable (P : Program) (w : World) (K : PySem.W.Frag) (mg : Str → Option Value) (base : Heap)
inductive FnM (k : Nat) (φ : List D → DM RV) : Ky → Prop
  | fn {x : Str} {f : Addr} {fd : FuncData} {ps : List Str} (F : FnOk P w K mg base (L2.CX P w) k f fd ps (spD K φ)) (hm : mg x = some (.ref f)) (hk : PySem.W.keepIn K (.ref f) = true) (hb : L2.Binds K fd ps []) (db : (x == ("__debug__" : Str)) = false) : FnM k φ (.fn x)
  | cl {x : Str} {j : Nat} {C f : Addr} {fd : FuncData} {ps : List Str} (M : Mk K C f) (F : FnOk P w K mg base (L2.CX P w) j f fd ps (spI K C φ)) (hj : j + 1 ≤ k) (hm : mg x = some (.ref C)) (hb : L2.Binds K fd ps []) (db : (x == ("__debug__" : Str)) = false) : FnM k φ (.fn x)
  | prop {c f : Str} {j : Nat} {p g : Addr} {fd : FuncData} (hc : Cls K (He.ga K c)) (hp : PropOf K (He.ga K c) f p g) (F : FnOk P w K mg base (L2.CX P w) j g fd ["self"] (spD K φ)) (hj : j + 1 ≤ k) (hb : L2.Binds K fd ["self"] []) : FnM k φ (.prop c f)
  | meth {c m : Str} {f : Addr} {fd : FuncData} {ps : List Str} (hc : Cls K (He.ga K c)) (hm : Meth K (He.ga K c) m f) (F : FnOk P w K mg base (L2.CX P w) k f fd ps (spD K φ)) (hb : L2.Binds K fd ps []) : FnM k φ (.meth c m)
/-- what the module says, whatever def is run -/
structure MdOk (C0 : Cn) : Prop where
  ki : ∀ x i, C0.ki x = some i → (∃ t, mg x = some (.int i t)) ∧ (x == ("__debug__" : Str)) = false
  free : ∀ x, bltB x = true → mg x = none
  fl : ∀ c f, C0.isFld c f = true → Cls K (He.ga K c) ∧ NoAttr K (He.ga K c) f
  ca : ∀ c f y, C0.ca c f = some y → Cls K (He.ga K c) ∧ ∃ v u, Con K (He.ga K c) f v u ∧ flat? y = some v
  rp : C0.rp = false
  isT : ∀ c x b, C0.isi c x = some b → (x == ("__debug__" : Str)) = false ∧ (∃ a, mg x = some (.ref a) ∧ PySem.W.kitOne K (.ref (He.ga K c)) (.ref a) = some b ∧ ∀ t ∈ tyNames, PySem.W.kitOne K (.type t) (.ref a) = some false) ∧ InsOk K (He.ga K c)
  xs : ∀ c x b, C0.xs c x = some b → mg x = some (.ref (He.ga K x)) ∧ (x == ("__debug__" : Str)) = false ∧ PySem.W.exmOne K (.ref (He.ga K c)) (.ref (He.ga K x)) = some b ∧
    PySem.W.kitOne K (.ref (He.ga K c)) (.ref (He.ga K x)) = some b ∧ ExcC K (He.ga K c) ∧ XfC K (He.ga K c)
  xfn : ∀ c fs, C0.xf c = some fs → ∀ f ∈ fs, PySem.W.findIn K (.ref (He.ga K c)) f = some none
  ex : ∀ c fs, C0.xf c = some fs → ∀ X : Cx, X.prog = P → X.w = w → X.K = K → X.mg = mg → X.base = base → X.calm = true → Room 3 X.A → Gl X c → ExX X c fs
/-- what the row says of a def -/
structure DefOk (d : DefD) : Prop where
  nm : ∀ x ∈ d.N, (x == ("__debug__" : Str)) = false ∧ (x == ("__classdict__" : Str)) = false
  S : FnScope d.N d.ps d.sc
  le : d.ps.length ≤ d.N.length
  row : ∃ (f : Addr) (name qual : Str) (params : Arguments) (dV kV doc pm cdv ct oc : Value) (an od : Option Addr) (osl : Array (Option Value)),
    K.lookup f = some ⟨oc, od, .func (PySem.W.fnOf name qual params d.body d.sc dV kV doc pm an cdv ct), osl⟩ ∧ PySem.W.codeIn K cdv qual = true ∧
    L2.Binds K (PySem.W.fnOf name qual params d.body d.sc dV kV doc pm an cdv ct) d.ps [] ∧
    (match d.ky, d.ini with
      | .fn x, none => mg x = some (.ref f) ∧ PySem.W.keepIn K (.ref f) = true ∧ (x == ("__debug__" : Str)) = false
      | .fn x, some c => x = c ∧ mg x = some (.ref (He.ga K c)) ∧ Mk K (He.ga K c) f ∧ (x == ("__debug__" : Str)) = false
      | .prop c a, none => Cls K (He.ga K c) ∧ d.ps = (["self"] : List Str) ∧ ∃ p, PropOf K (He.ga K c) a p f
      | .prop _ _, some _ => False
      | .meth c a, none => Cls K (He.ga K c) ∧ Meth K (He.ga K c) a f
      | .meth _ _, some _ => False)
end
section
variable {P : Program} {w : World} {K : PySem.W.Frag} {mg : Str → Option Value} {base : Heap} {C0 : Cn} {n : Nat}
theorem FnM.up {k k' : Nat} {φ : List D → DM RV} {κ : Ky} (h : FnM P w K mg base k φ κ) (hk : k ≤ k') : FnM P w K mg base k' φ κ := by
  cases h with
  | fn F hm hk' hb db => exact .fn (F.mono hk) hm hk' hb db
  | cl M F hj hm hb db => exact .cl M F (Nat.le_trans hj hk) hm hb db
  | prop hc hp F hj hb => exact .prop hc hp F (Nat.le_trans hj hk) hb
  | meth hc hm F hb => exact .meth hc hm (F.mono hk) hb
/-- a body's context -/
theorem sk_of {k : Nat} {dn : Ky → List D → DM RV} {kn : Ky → Bool} {d : DefD} (M : MdOk P w K mg base C0) (hk : 3 ≤ k) (hd : DefOk K mg d) (hF : ∀ κ, kn κ = true → FnM P w K mg base k (dn κ) κ) {f : Addr} {qual : Str} {cdv : Value} {A : Around} {outer : List Env} {s : Shared} {H : Hp} {E : XK}
    (hr : Room k (A.deeper (envOfC qual d.sc s.heap.objs.size f cdv))) : Sk (cxOf (L2.CX P w) P w K mg base d.N qual d.sc f cdv A outer s H E) (cnOf C0 dn kn d) (fun cls d _ H => E cls d H) where
  N := rfl
  nd := hd.S.nd
  sc := rfl
  calm := rfl
  tk := takes_of rfl rfl rfl rfl
  hu := hr.units
  nm := hd.nm
  ki := M.ki
  free := M.free
  fn := fun x h => by
    have z := hF (.fn x) h
    cases z with
    | fn F hm hk' hb db => exact .fn F hr hm hk' hb db
    | cl M F hj hm hb db => exact .cl M F (hr.mono hj) hm hb db
  fl := M.fl
  pr := fun c f h => by
    have z := hF (.prop c f) h
    cases z with
    | prop hc hp F hj hb => exact ⟨hc, _, _, _, _, hp, F, hr.mono hj, hb⟩
  mt := fun c f h => by
    have z := hF (.meth c f) h
    cases z with
    | meth hc hm F hb => exact ⟨hc, _, _, _, _, hm, F, hr, hb⟩
  ca := M.ca
  gd := fun h => by
    have h' : C0.rp = true := h
    rw [M.rp] at h'; cases h'
  clf := fun _ _ => rfl
  isT := M.isT
  po := passes_of rfl
  ex := fun c fs hg h Y e1 e2 e3 e4 e5 e6 e7 e8 => M.ex c fs h Y e1 e2 e3 e4 e5 e6 (by rw [e7]; exact hr.mono hk) (by show Y.env.scope.names.lookup c = _; rw [e8]; exact glB_ok hg)
  stk := rfl
  fr := rfl
  xs := M.xs
  xfn := M.xfn
theorem start_rep {N : List Str} {w : HS} {xs : List D} {vs : List V} {c : Option (List Int)} (f : Wf c w) (r : Reps K w.d w.G xs vs) : SR K w (startD N xs) c (L2.start N vs) w := by
  have hl := r.length
  refine ⟨f, Gr.refl w, by simp [startD, L2.start, hl], fun i x e => ?_, fun i x p e o _ => ?_, fun i j x y p e _ o _ _ _ => ?_, fun i a b d p e _ => ?_⟩
  · unfold startD at e
    unfold L2.start
    by_cases hi : i < xs.length
    · rw [List.getElem?_append_left (by simpa using hi)] at e
      rw [List.getElem?_append_left (by simpa [hl] using hi)]
      rw [List.getElem?_map] at e
      cases hx : xs[i]? with
      | none => rw [hx] at e; cases e
      | some y =>
        rw [hx] at e
        cases e
        obtain ⟨v, hv, rv⟩ := r.get hx
        rw [List.getElem?_map, hv]
        exact ⟨v, rfl, rv⟩
    · rw [List.getElem?_append_right (by simpa using Nat.not_lt.mp hi), List.getElem?_replicate] at e
      split at e
      · cases e; trivial
      · cases e
  all_goals
    unfold startD at e
    by_cases hi : i < xs.length
    · rw [List.getElem?_append_left (by simpa using hi), List.getElem?_map] at e
      cases hx : xs[i]? with
      | none => rw [hx] at e; cases e
      | some y => rw [hx] at e; cases e; first | cases o | skip
    · rw [List.getElem?_append_right (by simpa using Nat.not_lt.mp hi), List.getElem?_replicate] at e
      split at e
      · cases e; first | cases o | skip
      · cases e
theorem startD_no {N : List Str} {xs : List D} {j : Nat} {y : Option DV} (e : (startD N xs)[j]? = some y) : (∀ a b d, y ≠ some (.ins a b d)) ∧ ownB y = false := by
  unfold startD at e
  by_cases hi : j < xs.length
  · rw [List.getElem?_append_left (by simpa using hi), List.getElem?_map] at e
    cases hx : xs[j]? with
    | none => rw [hx] at e; cases e
    | some y => rw [hx] at e; cases e; exact ⟨by simp, rfl⟩
  · rw [List.getElem?_append_right (by simpa using Nat.not_lt.mp hi), List.getElem?_replicate] at e
    split at e
    · cases e; exact ⟨by simp, rfl⟩
    · cases e
theorem start_ins {N : List Str} {w : HS} {xs : List D} {us : List V} {c : Option (List Int)} {cn : Str} {x dx : Addr} (f : Wf c w) (r : Reps K w.d w.G xs us) (hN : xs.length + 1 ≤ N.length) (hx : w.H x = none) (hdx : w.H dx = none) (hne : dx ≠ x) :
    SR K ⟨w.d, w.G, w.H, some x⟩ (some (.ins cn [] []) :: startD N.tail xs) c (L2.start N (.ref x :: us)) ⟨w.d, w.G, upd (upd w.H dx (.own x)) x (.ins (He.ga K cn) dx []), some x⟩ := by
  have hl := r.length
  have S := start_rep (N := N.tail) f r
  have e0 : L2.start N (.ref x :: us) = some (V.ref x) :: L2.start N.tail us := by
    unfold L2.start
    rw [List.map_cons, List.cons_append, List.length_cons, List.length_tail]
    congr 3
    omega
  have keep : ∀ {b : Addr} {o : HO}, w.H b = some o → upd (upd w.H dx (.own x)) x (.ins (He.ga K cn) dx []) b = some o := fun {b o} e => by
    rw [upd_ne (ne_of_none e hx), upd_ne (ne_of_none e hdx)]; exact e
  rw [e0]
  refine ⟨⟨fun b u e => keep (f.sub _ _ e), f.cel.imp fun a is _ h1 h2 => ⟨keep h1, h2⟩⟩, ⟨Same.refl _, fun p o e _ => keep e, fun p e => upd_some (upd_some e), fun p e => .inl e, .inl rfl⟩, ?_, fun i y e => ?_, fun i y p e o q => ?_, fun i j y z p e1 e2 o1 o2 _ _ => ?_, fun i a b d p e q => ?_⟩
  · simp [startD, L2.start, hl]
  · cases i with
    | zero =>
      cases e
      exact ⟨x, dx, [], rfl, upd_same, rfl, by simp [Reps], f.gn hx, f.ne hx⟩
    | succ i =>
      rw [List.getElem?_cons_succ] at e ⊢
      have so := S.sl i y e
      have no := startD_no e
      cases y with
      | none => trivial
      | some y => cases y with
        | fz x => exact so
        | own ys => cases no.2
        | dic _ => cases no.2
        | ins cn ns ys => exact absurd rfl (no.1 _ _ _)
  · cases i with
    | zero => cases q; exact hx
    | succ i =>
      rw [List.getElem?_cons_succ] at e
      rw [(startD_no e).2] at o; cases o
  · cases i with
    | zero => cases j with
      | zero => rfl
      | succ j => rw [List.getElem?_cons_succ] at e2; rw [(startD_no e2).2] at o2; cases o2
    | succ i => rw [List.getElem?_cons_succ] at e1; rw [(startD_no e1).2] at o1; cases o1
  · cases i with
    | zero => cases q; rfl
    | succ i => rw [List.getElem?_cons_succ] at e; exact absurd rfl ((startD_no e).1 _ _ _)
theorem outI_ok {w w2 : HS} {E : XK} {Q : VK} {r : RsS} {x : Addr} (hx : w.H x = none) (h : XO K (fun cls d _ H => E cls d H) [] w (outI r) fun r _ w' => RepV K w w' r (.ref x) → Q .non w'.H) :
    XS K (fun cls d _ H => E cls d H) ⟨w.d, w.G, w.H, some x⟩ { nx := fun _ H' => Q .non H', rt := Q } w2 r := by
  have up : ∀ {w' : HS}, Gr ⟨w.d, w.G, w.H, some x⟩ w' → Gr w w' := fun g => ⟨g.g, g.h, g.t, g.n, g.dm⟩
  cases r with
  | wrong => exact h.elim
  | err e E' c => exact fun cls d σ w' g S rx => h cls d w' (up S.gr) S.wf rx
  | ok o E' c =>
    cases o with
    | ret r => exact h.elim
    | brk => exact h.elim
    | cnt => exact h.elim
    | nx =>
      cases E' with
      | nil => exact h.elim
      | cons y E' => cases y with
        | none => exact h.elim
        | some y => cases y with
          | fz _ => exact h.elim
          | own _ => exact h.elim
          | dic _ => exact h.elim
          | ins cn ns vs =>
            intro σ w' g S
            obtain ⟨p, dx, fs, e0, hp, en, r, gn, nd⟩ := S.sl 0 _ rfl
            have ex := S.sf 0 _ _ _ p rfl e0
            cases ex
            have g2 := Gr.frz (o := .ins (He.ga K cn) dx fs) (up S.gr) gn hx
            have f2 := Wf.frz S.wf hp nd
            refine h (w'.frz x (.ins (He.ga K cn) dx fs)) g2 f2 ?_
            show Rep K w'.d (upd w'.G x _) (.obj cn ns vs) (.ref x)
            simp only [Rep]
            exact ⟨x, dx, fs, rfl, upd_same, en, Reps.mono (fun _ e => e) (same_new gn) _ _ r⟩
theorem outD_ok {X : Cx} {w : HS} {E : XK} {Q : VK} {r : RsS} (h : XO X.K (fun cls d _ H => E cls d H) [] w (outD r) fun r _ w' => ∀ v, RepV X.K w w' r v → Q v w'.H) :
    XS X.K (fun cls d _ H => E cls d H) w { nx := fun _ H' => Q .non H', rt := Q } w r := by
  cases r with
  | wrong => exact h
  | err e E' c => exact fun cls d σ w' g S rx => h cls d w' S.gr S.wf rx
  | ok o E' c =>
    cases o with
    | ret r => exact fun v w' g gr f rv => h w' gr f v rv
    | nx => exact fun σ w' g S => h w' S.gr S.wf .non (by simp [RepV, Rep])
    | brk => exact h.elim
    | cnt => exact h.elim
theorem den_ok {k : Nat} {dn : Ky → List D → DM RV} {kn : Ky → Bool} {d : DefD} (M : MdOk P w K mg base C0) (hk : 3 ≤ k) (hd : DefOk K mg d) (hF : ∀ κ, kn κ = true → FnM P w K mg base k (dn κ) κ) : FnM P w K mg base (k + 2) (runD (cnOf C0 dn kn d) n d) d.ky := by
  obtain ⟨f, name, qual, params, dV, kV, doc, pm, cdv, ct, oc, an, od, osl, lk, hcd, hb, hky⟩ := hd.row
  have fnD : d.ini = none → FnOk P w K mg base (L2.CX P w) (k + 1) f (PySem.W.fnOf name qual params d.body d.sc dV kV doc pm an cdv ct) d.ps (spD K (runD (cnOf C0 dn kn d) n d)) := fun hi => by
    refine fn_of lk hcd hd.S (fun vs H Q E h => ?_) fun A outer s H vs Q E hr h => ?_
    · obtain ⟨xs, c, w', _, _, r, x⟩ := h
      unfold runD at x
      rw [hi] at x
      dsimp only at x
      by_cases hl : xs.length = d.ps.length
      · rw [r.length, hl]
      · rw [if_neg hl] at x; exact x.elim
    · obtain ⟨xs, c, w', rfl, hf, r, x⟩ := h
      unfold runD at x
      rw [hi] at x
      dsimp only at x
      by_cases hl : xs.length = d.ps.length
      · rw [if_pos hl] at x
        refine ⟨_, (sndS n).ss (startD d.N xs) d.body (sk_of M hk hd hF hr), w', c, w', rfl, start_rep hf r, ?_⟩
        exact outD_ok (X := cxOf (L2.CX P w) P w K mg base d.N qual d.sc f cdv A outer s w'.H E) x
      · rw [if_neg hl] at x; exact x.elim
  have fnI : ∀ cn, d.ini = some cn → FnOk P w K mg base (L2.CX P w) (k + 1) f (PySem.W.fnOf name qual params d.body d.sc dV kV doc pm an cdv ct) d.ps (spI K (He.ga K cn) (runD (cnOf C0 dn kn d) n d)) := fun cn hi => by
    refine fn_of lk hcd hd.S (fun vs H Q E h => ?_) fun A outer s H vs Q E hr h => ?_
    · obtain ⟨xs, c, w', x0, dx, us, rfl, _, _, _, _, _, r, x⟩ := h
      unfold runD at x
      rw [hi] at x
      dsimp only at x
      by_cases hl : xs.length + 1 = d.ps.length
      · rw [List.length_cons, r.length, hl]
      · rw [if_neg hl] at x; exact x.elim
    · obtain ⟨xs, c, w', x0, dx, us, rfl, hx, hdx, hne, rfl, hf, r, x⟩ := h
      unfold runD at x
      rw [hi] at x
      dsimp only at x
      by_cases hl : xs.length + 1 = d.ps.length
      · rw [if_pos hl] at x
        exact ⟨_, (sndS n).ss (some (.ins cn [] []) :: startD d.N.tail xs) d.body (sk_of M hk hd hF hr), ⟨w'.d, w'.G, w'.H, some x0⟩, c, ⟨w'.d, w'.G, upd (upd w'.H dx (.own x0)) x0 (.ins (He.ga K cn) dx []), some x0⟩, rfl,
          start_ins hf r (by rw [hl]; exact hd.le) hx hdx hne, outI_ok hx x⟩
      · rw [if_neg hl] at x; exact x.elim
  generalize hκ : d.ky = κ at hky ⊢
  cases κ with
  | fn x =>
    cases hi : d.ini with
    | none =>
      rw [hi] at hky
      exact (FnM.fn (fnD hi) hky.1 hky.2.1 hb hky.2.2).up (by omega)
    | some c =>
      rw [hi] at hky
      obtain ⟨rfl, h1, h2, h3⟩ := hky
      exact .cl h2 (fnI _ hi) (by omega) h1 hb h3
  | prop c a =>
    cases hi : d.ini with
    | some _ => rw [hi] at hky; exact hky.elim
    | none =>
      rw [hi] at hky
      obtain ⟨h1, h2, p, h3⟩ := hky
      have F := fnD hi
      rw [h2] at F hb
      exact .prop h1 h3 F (by omega) hb
  | meth c a =>
    cases hi : d.ini with
    | some _ => rw [hi] at hky; exact hky.elim
    | none =>
      rw [hi] at hky
      obtain ⟨h1, h2⟩ := hky
      exact (FnM.meth h1 h2 (fnD hi) hb).up (by omega)
theorem all_ok (M : MdOk P w K mg base C0) : ∀ {ds : List DefD}, (∀ d ∈ ds, DefOk K mg d) → ∀ κ, knw ds κ = true → FnM P w K mg base (2 * ds.length + 3) (den C0 n ds κ) κ
  | [], _, κ, h => by cases h
  | d :: ds, hd, κ, h => by
    have ih := fun κ h => all_ok M (ds := ds) (fun d hm => hd d (List.mem_cons_of_mem _ hm)) κ h
    unfold den
    by_cases hk : d.ky = κ
    · rw [if_pos hk, ← hk]
      refine (den_ok (n := n) (k := 2 * ds.length + 3) M (by omega) (hd d List.mem_cons_self) ih).up (by simp; omega)
    · rw [if_neg hk]
      unfold knw at h
      rw [List.any_cons, decide_eq_false hk, Bool.false_or] at h
      exact (ih κ h).up (by simp; omega)
end
end DL

set_option maxHeartbeats 4000000
/-! DS1: a def that has its class's cell (super()). -/
namespace DL
open PySem PySem.Spec PyProof.Rows L2
/-- a def's names, where super() is said -/
structure FnScopeS (N P : List Str) (sc : Scope) : Prop where
  kind : sc.kind = .function
  co : sc.isCoroutine = false
  gen : sc.isGenerator = false
  nd : N.Nodup
  pre : N.take P.length = P
  par : ∀ x ∈ P, sc.names.lookup x = some .local
  nocell : ∀ y ∈ sc.names, y.2 ≠ .cell
  free : ∀ y ∈ sc.names, y.2 = .free → y.1 = ("__class__" : Str)
def cxS (CX : CXT) (P : Program) (w : World) (K : PySem.W.Frag) (mg : Str → Option Value) (base : Heap) (N : List Str) (qual : Str) (scope : Scope) (f cc : Addr) (cd : Value) (A : Around) (outer : List Env) (s : Shared) (H : Hp) (E : XK) : Cx where
  prog := P
  w := w
  K := K
  mg := mg
  base := base
  A := A.deeper (PySem.W.ksEnv qual scope s.heap.objs.size f cd cc)
  N := N
  s_0 := s
  H_0 := H
  env := PySem.W.ksEnv qual scope s.heap.objs.size f cd cc
  outer := outer
  stack := PySem.W.ksEnv qual scope s.heap.objs.size f cd cc :: outer
  ex := []
  calm := true
  fn := fun x => !(x == ("__class__" : Str))
  pn := []
  xe := fun e s' => wpAny (model P w) (A.deeper (PySem.W.ksEnv qual scope s.heap.objs.size f cd cc)) (leaving (PySem.W.ksEnv qual scope s.heap.objs.size f cd cc) e) (fun _ s'' => CX outer H s E e s'') (fun e' s'' => CX outer H s E e' s'') s'
theorem lookup_of_mem {α : Type} : ∀ {l : List (Str × α)} {x : Str} {v : α}, (l.map (·.1)).Nodup → (x, v) ∈ l → l.lookup x = some v
  | [], _, _, _, h => by cases h
  | (y, u) :: l, x, v, nd, h => by
    rw [List.map_cons, List.nodup_cons] at nd
    rcases List.mem_cons.mp h with e | h
    · cases e
      simp [List.lookup]
    · have hne : (x == y) = false := by
        have : x ≠ y := fun z => nd.1 (by rw [← z]; exact List.mem_map.mpr ⟨_, h, rfl⟩)
        simpa using this
      simp only [List.lookup, hne]
      exact lookup_of_mem nd.2 h
theorem cells_one {cc c : Addr} {x : Str} (h : ([((("__class__" : String) : Str), cc)] : List (Str × Addr)).lookup x = some c) : x = ("__class__" : Str) ∧ c = cc := by
  simp only [List.lookup] at h
  split at h
  · rename_i e
    cases h
    exact ⟨by simpa using e, rfl⟩
  · cases h
theorem inv_startS {CX : CXT} {P : Program} {w : World} {K : PySem.W.Frag} {mg : Str → Option Value} {base : Heap} {N ps : List Str} {qual : Str} {scope : Scope} {f cc D : Addr} {cd cl : Value} {cld : Option Addr} {csl : Array (Option Value)} {A : Around} {outer : List Env} {s : Shared} {h1 : Heap} {tk : Nat} {H : Hp} {E : XK} {us : List Value} {vs : List V}
    (S : FnScopeS N ps scope) (hcell : K.lookup cc = some ⟨cl, cld, .cell (some (.ref D)), csl⟩) (hd : A.handled = none) (e0 : Env0 P w K mg base A outer s H) (hl : vs.length = ps.length) (r : Vals vs us)
    (hns : h1.Ns s.heap.objs.size (fun x => (ps.zip us).reverse.lookup x)) (hk : ∀ b o, s.heap.get? b = some o → h1.get? b = some o) :
    Inv (cxS CX P w K mg base N qual scope f cc cd A outer s H E) [] (L2.start N vs) H { s with heap := h1, toks := tk } := by
  have hpl : ps.length ≤ N.length := by have := congrArg List.length S.pre; rw [List.length_take] at this; omega
  have noA : ∀ b : Addr, b ∉ (cxS CX P w K mg base N qual scope f cc cd A outer s H E).ex := fun b z => absurd (show b ∈ ([] : List Addr) from z) (by simp)
  have hbc := e0.mod.kin _ _ hcell
  have hsc := e0.bs _ _ hbc
  refine ⟨⟨e0.mod, S.kind, rfl, rfl, Nat.le_refl _, fun y z c h1 h2 => ?_, fun y hy => ?_, fun y c h1 h => ?_, fun _ => hd, Around.frames_deeper e0.frames, .inr ⟨rfl, rfl⟩, fun b z => absurd z (noA b), e0.bs, e0.bsz, fun b _ _ => noA b, fun b z => absurd z (noA b), e0.funs, e0.frf⟩,
    rfl, e0.bare, Un.kept hk, ⟨_, hns, fun i y v h1 h2 h3 => ?_⟩, fun y c h => ?_, e0.hok.fresh (Nat.le_refl _), fun y c h => ?_, fun p hp => absurd (show p ∈ ([] : List (Addr × Obj)) from hp) (by simp), e0.hok.kept hk, ?_⟩
  · exact (cells_one h1).1.trans (cells_one h2).1.symm
  · have hy : scope.names.lookup y = some .cell ∨ scope.names.lookup y = some .free := hy
    rcases hy with hy | hy
    · exact absurd rfl (S.nocell _ (PySem.mem_of_lookup hy))
    · have := S.free _ (PySem.mem_of_lookup hy) rfl
      refine ⟨cc, ?_⟩
      show ([((("__class__" : String) : Str), cc)] : List (Str × Addr)).lookup y = some cc
      rw [show y = ("__class__" : Str) from this]
      simp [List.lookup]
  · have e := (cells_one h).1
    rw [e] at h1
    have h1' : (!((("__class__" : String) : Str) == ("__class__" : Str))) = true := h1
    simp at h1'
  · have hi : i < vs.length := by
      unfold L2.start at h2
      by_cases hi : i < vs.length
      · exact hi
      · rw [List.getElem?_append_right (by simpa using hi)] at h2
        rw [List.getElem?_replicate] at h2
        split at h2 <;> cases h2
    have ha : vs[i]? = some v := by
      unfold L2.start at h2
      rw [List.getElem?_append_left (by simpa using hi), List.getElem?_map] at h2
      cases e : vs[i]? with
      | none => rw [e] at h2; cases h2
      | some a => rw [e] at h2; cases h2; rfl
    obtain ⟨u, hu, rv⟩ := r.get ha
    have hp : ps[i]? = some y := by
      rw [← S.pre, List.getElem?_take_of_lt (by omega)]; exact h1
    have ndP : ps.Nodup := by rw [← S.pre]; exact S.nd.sublist (List.take_sublist _ _)
    refine ⟨u, rv, .inl ⟨S.par y (List.mem_of_getElem? hp), ?_⟩⟩
    have hlu : us.length = ps.length := by rw [← r.length, hl]
    refine lookup_of_mem ?_ ?_
    · rw [List.map_reverse]
      have : (ps.zip us).map (·.1) = ps := List.map_fst_zip (by omega)
      rw [this]
      exact List.pairwise_reverse.mpr (List.Pairwise.imp (fun h => Ne.symm h) ndP)
    · rw [List.mem_reverse]
      refine List.mem_iff_getElem?.mpr ⟨i, ?_⟩
      rw [List.getElem?_zip_eq_some]
      exact ⟨hp, hu⟩
  · rw [(cells_one h).2]
    exact ⟨_, _, hk _ _ hsc.1, rfl⟩
  · rw [(cells_one h).2]
    exact hsc.2
  · unfold L2.start
    show _ = N.length
    rw [List.length_append, List.length_map, List.length_replicate]
    omega
/-! ### statements at a code -/
structure PSA (X : Cx) (c : Code) (st : Stmt) (t : TS) : Prop where
  run : ∀ (pins : List (Addr × Obj)) (s : Shared) (σ : St) (H : Hp) (Z : Ends), Inv X pins σ H s → t Z σ H → _root_.PySem.wpAt (model X.prog X.w) X.A c (exec st X.env) (SP X pins Z) X.xe s
structure PSsA (X : Cx) (c : Code) (st : List Stmt) (t : TS) : Prop where
  run : ∀ (pins : List (Addr × Obj)) (s : Shared) (σ : St) (H : Hp) (Z : Ends), Inv X pins σ H s → t Z σ H → _root_.PySem.wpAt (model X.prog X.w) X.A c (execs st X.env) (SP X pins Z) X.xe s
theorem PSs.at {X : Cx} {c : Code} {st : List Stmt} {t : TS} (h : PSs X st t) : PSsA X c st t := ⟨fun pins s σ H Z I q => wpAt_of_wpAny (h.run pins s σ H Z I q)⟩
theorem PS.at {X : Cx} {c : Code} {st : Stmt} {t : TS} (h : PS X st t) : PSA X c st t := ⟨fun pins s σ H Z I q => wpAt_of_wpAny (h.run pins s σ H Z I q)⟩
theorem pssA_cons {X : Cx} {c : Code} {st : Stmt} {rest : List Stmt} {t u : TS} (h1 : PSA X c st t) (h2 : PSsA X c rest u) : PSsA X c (st :: rest) (tSeq t u) := by
  refine ⟨fun pins s σ H Z I h => ?_⟩
  refine ks_wpAt_execs_cons (ks_wpAt_mono (h1.run pins s σ H { Z with nx := u Z } I h) (fun f s1 q => ?_) fun _ _ x => x)
  cases f with
  | next =>
    obtain ⟨σ', H', I', q⟩ := q
    exact h2.run pins s1 σ' H' Z I' q
  | ret v => exact q
  | brk => exact q
  | cont => exact q
/-- a def with its class's cell, by its body -/
theorem fn_ofS {CX : CXT} {P : Program} {w : World} {K : PySem.W.Frag} {mg : Str → Option Value} {base : Heap} {k : Nat} {f cc D : Addr} {name qual : Str} {params : Arguments} {body : List Stmt} {scope : Scope} {dV kV doc pm cdv ct oc cl : Value} {an od cld : Option Addr}
    {osl csl : Array (Option Value)} {N ps : List Str} {sp : Sp} (lk : K.lookup f = some ⟨oc, od, .func (PySem.W.ksFn name qual params body scope dV kV doc pm an cdv ct cc), osl⟩) (hcd : PySem.W.codeIn K cdv qual = true) (hcell : K.lookup cc = some ⟨cl, cld, .cell (some (.ref D)), csl⟩) (S : FnScopeS N ps scope)
    (len : ∀ vs H Q E, sp vs H Q E → vs.length = ps.length)
    (hbody : ∀ (A : Around) (outer : List Env) (s : Shared) (H : Hp) (vs : List V) (Q : VK) (E : XK), Room k (A.deeper (PySem.W.ksEnv qual scope s.heap.objs.size f cdv cc)) → sp vs H Q E →
      ∃ t, PSsA (cxS CX P w K mg base N qual scope f cc cdv A outer s H E) (.func body (PySem.W.ksEnv qual scope s.heap.objs.size f cdv cc)) body t ∧ t { nx := fun _ H' => Q .non H', rt := Q } (L2.start N vs) H) :
    FnOk P w K mg base CX (k + 1) f (PySem.W.ksFn name qual params body scope dV kV doc pm an cdv ct cc) ps sp := by
  refine ⟨len, fun A outer s H args us vs Q E hr e0 hb r hsp => ?_⟩
  have hl := len _ _ _ _ hsp
  have KX : K.In s.heap := e0.mod.kin.keeps fun b o e => (e0.bs b o e).1
  have lim : s.heap.NoLimit := e0.mod.nolimit.keeps fun b o e => (e0.bs b o e).1
  refine ks_codeAny_call_defAt (fd := PySem.W.ksFn name qual params body scope dV kV doc pm an cdv ct cc) (body := body) (binds := ps.zip us) hr.depth (KX _ _ lk) rfl lim (PySem.W.codeRec_of KX hcd) rfl hb S.nocell
    (fun y hy => S.par y.1 (List.of_mem_zip hy).1) (fun h1 hns hk => ?_) S.co S.gen S.kind
  obtain ⟨t, ht, hq⟩ := hbody A outer s H vs Q E (hr.deeper _) hsp
  have I := inv_startS (CX := CX) (qual := qual) (f := f) (cd := cdv) (E := E) (tk := s.toks + (ps.zip us).length) S hcell hr.hd e0 hl r hns hk
  refine ks_wpAt_mono (ht.run [] _ (L2.start N vs) H _ I hq) (fun fl s' hs => ?_) fun e s' hs => hs
  have fin : ∀ {σ' : St} {H' : Hp} {v : V} {u : Value}, Inv (cxS CX P w K mg base N qual scope f cc cdv A outer s H E) [] σ' H' s' → RelV v u → Q v H' → CE outer P w H s Q u s' :=
    fun {σ' H' v u} J rv q => ⟨v, H', J.os, J.bare, J.base, J.hok, rv, q⟩
  cases fl with
  | ret u =>
    obtain ⟨v, σ', H', J, rv, q⟩ := hs
    exact fin J rv q
  | next =>
    obtain ⟨σ', H', J, q⟩ := hs
    exact fin (v := V.non) (u := Value.none) J rfl q
  | brk =>
    obtain ⟨_, _, _, q⟩ := hs
    exact False.elim q
  | cont =>
    obtain ⟨_, _, _, q⟩ := hs
    exact False.elim q
end DL

set_option maxHeartbeats 4000000
/-! DS2: super().__init__(e) of an own exception over ValueError. -/
namespace DL
open PySem PySem.Spec PyProof.Rows L2
/-- what super() leans on: D the text's class, x its first parameter -/
structure SupX (X : Cx) (D : Addr) (x : Str) : Prop where
  ks : X.env.kindOf "super" = some .globalImplicit
  kc : X.env.kindOf "__class__" = some .free
  cc : ∃ (cc : Addr) (cl : Value) (cld : Option Addr) (csl : Array (Option Value)), X.env.cells.lookup ("__class__" : Str) = some cc ∧ X.K.lookup cc = some ⟨cl, cld, .cell (some (.ref D)), csl⟩
  fn : ∃ (f : Addr) (fd : FuncData) (oc : Value) (od : Option Addr) (osl : Array (Option Value)) (ar : Arg), X.env.func = some f ∧ X.K.lookup f = some ⟨oc, od, .func fd, osl⟩ ∧ (fd.params.posonlyargs ++ fd.params.args).head? = some ar ∧ ar.arg = x
  cd : ∃ (cda : Addr) (ccl : Value) (cdd : Option Addr) (vs : Array Value) (ccs : Array (Option Value)) (file : Str) (tf : Tok), X.env.code = .ref cda ∧ X.K.lookup cda = some ⟨ccl, cdd, .fields vs, ccs⟩ ∧ vs[2]? = some (.str file tf) ∧ ((X.prog.main.file : Str) == file) = true
  cls : ∃ cdD, PySem.W.clsIn X.K D = some cdD
  mg : X.mg "super" = none
  top : (X.prog.main.scope.names.lookup ("super" : Str)).isSome = false
  boot : bootBuiltins "super" = some (.type "super")
  N : X.N[0]? = some x
  loc : X.env.scope.names.lookup x = some .local
section
variable {X : Cx} {D C a : Addr} {x : Str} {pins : List (Addr × Obj)} {σ : St} {H : Hp} {s : Shared}
theorem super_base (T : SupX X D x) {body : List Stmt} {p0 p1 : Pos} {attr : Str} {whole : Sem Value} {ox : Obj} {E : Value → Shared → Prop} {Q : Value → Shared → Prop} (I : Inv X pins σ H s) (h0 : σ[0]? = some (some (.ref a))) (hx : s.heap.get? a = some ox) (hxc : ox.cls = .ref C)
    (hnc : ∀ c, ox.data ≠ .cls c) (hsub : PySem.W.mroIn X.K C (.ref D) = some true) (hat : (attr == ("__class__" : Str)) = false)
    (h : ∀ so s', Inv X pins σ H s' → so = s.heap.objs.size → s'.heap.get? so = some (PySem.W.ks_superObj D a C) → (∀ b o, s.heap.get? b = some o → s'.heap.get? b = some o) → Q (.ref so) s') :
    _root_.PySem.wpAt (model X.prog X.w) X.A (.func body X.env) (attributeBase (.Call (.Name "super" p0) [] [] p1) attr X.env whole) Q E s := by
  obtain ⟨cc, cl, cld, csl, ecc, lcc⟩ := T.cc
  obtain ⟨f, fd, oc, od, osl, ar, efn, lfn, hp, harg⟩ := T.fn
  obtain ⟨cda, ccl, cdd, vs, ccs, file, tf, ecd, lcd, hvs, hfile⟩ := T.cd
  obtain ⟨cdD, hD⟩ := T.cls
  have KX := I.kIn
  obtain ⟨m, hn, hl⟩ := I.loc
  obtain ⟨u, ru, lk⟩ := hl 0 x _ T.N h0 (.inl T.loc)
  obtain rfl : u = Value.ref a := ru
  have hm : m x = some (.ref a) := by
    rcases lk with ⟨_, hm⟩ | ⟨hk, _⟩
    · exact hm
    · have hk' : X.env.scope.names.lookup x = some .cell ∨ X.env.scope.names.lookup x = some .free := hk
      rw [T.loc] at hk'
      rcases hk' with z | z <;> cases z
  obtain ⟨oD, hD1, hD2⟩ : ∃ oD, s.heap.get? D = some oD ∧ oD.data = .cls cdD := by
    unfold PySem.W.clsIn at hD
    split at hD
    · rename_i c d cd' sl ho
      cases hD
      exact ⟨_, KX _ _ ho, rfl⟩
    · cases hD
  obtain ⟨mb, b1, b2⟩ := I.mod.blt
  refine ks_wpAt_super_base (env := X.env) T.ks T.kc hat efn (KX _ _ lfn) rfl hp ecd (KX _ _ lcd) rfl hvs hfile T.top ?_
  refine PySem.W.ks_loadName_global I.ok.kind T.ks (Calls.loadGlobal_builtin (by rw [I.ok.glob]; exact I.mod.glob.keeps I.bk) T.mg (by rw [I.ok.blt]; exact b1.keeps I.bk) ((b2 "super" (by decide)).trans T.boot) ⟨rfl, ?_⟩)
  refine wpAny_loadName_free I.ok.kind T.kc ecc ⟨_, KX _ _ lcc, rfl⟩ ?_
  rw [harg]
  refine wpAny_loadName_local I.ok.kind T.loc hn hm ?_
  obtain ⟨hh, g, d, t, os⟩ := s
  refine ks_wpAny_isType_cls hD1 hD2 ⟨rfl, ?_⟩
  refine ks_wpAny_call_super hD1 hD2 hx hxc hnc (PySem.W.looks_mroIn KX hsub) (fun h' e k => ?_)
  exact h _ _ (I.kept (t' := t) k) rfl e k
/-- a method call, at a code -/
theorem at_method {M : Model} {A : Around} {c : Code} {env : Env} {E : Value → Shared → Prop} {s : Shared} {o : Expr} {name : Str} {apos pos : Pos} {args : List Expr} {Q : Value → Shared → Prop}
    (hfew : methodCallForm (args.length + ([] : List Keyword).length) (backTo pos (starEach args env)) (backToKw pos (keywordEach [] env)) = true) (hline : (apos.endLine == pos.line) = true)
    (h : _root_.PySem.wpAt M A c (attributeBase o name env (eval o env)) (fun ov s₁ => ∀ pl, wpAny M A (getMethod ov name pl) (fun fx s₂ => wpAny M A (callWith pos fx.1 fx.2 (backTo pos (starEach args env)) []) Q E s₂) E s₁) E s) :
    _root_.PySem.wpAt M A c (eval (.Call (.Attribute o name apos) args [] pos) env) Q E s := by
  rw [arm_eval_Call]
  refine PySem.wpAt_bind (ks_wpAt_mono h (fun ov s₁ h₁ => wpAt_of_wpAny (wpAny_bind (wpAny_standAt ?_))) fun _ _ x => x)
  have hpos : methodCallPos true o env apos pos = pure pos := by unfold methodCallPos; simp [hline]
  unfold methodCall
  rw [hfew]
  refine wpAny_bind (wpAny_holding (wpAny_mono (h₁ _) (fun fx s₂ h₂ => ?_) fun _ _ x => x))
  exact wpAny_bind (wpAny_of_eq hpos h₂)
/-- the exception that is being made, made over: super().__init__(e) -/
def tSupI (D : Addr) (te : TE) : TS := fun Z σ H => ∃ a, σ[0]? = some (some (.ref a)) ∧ H a = some (exo a D none) ∧ te σ H fun y H1 => ([y] : List V).length = 1 ∧ H1 a = some (exo a D none) ∧ Z.nx σ H1
theorem psa_superinit (T : SupX X D x) (O : OexC X.K D) {body : List Stmt} {p0 p1 ap cp ep : Pos} {e : Expr} {te : TE} (hno : PySem.W.nsIn X.K cStatics "thirdparty.any" = some none) (hsup : PySem.W.ks_superIn X.K D D "__init__" = some (some (.builtin "ValueError.__init__")))
    (hV : PySem.W.subIn X.K (.ref D) (.type "ValueError") = some true) (hself : PySem.W.mroIn X.K D (.ref D) = some true) (he : PE X e te) (hs : starB e = false) (hl : (ap.endLine == cp.line) = true) :
    PSA X (.func body X.env) (.Expr (.Call (.Attribute (.Call (.Name "super" p0) [] [] p1) "__init__" ap) [e] [] cp) ep) (tSupI D te) := by
  refine ⟨fun pins s σ H Z I h => ?_⟩
  obtain ⟨a, h0, ea, q⟩ := h
  obtain ⟨t1, hx⟩ := exo_at I.hok ea
  obtain ⟨nm, qq, N, bs, bm, sn, sub, ab, col, dd, k0, k1, k2, k3, k5, hD, hbm⟩ := O.cls
  obtain ⟨cdD, hcd⟩ := T.cls
  have hna : a ≠ D := fun z => by
    have y := I.kIn _ _ hD
    rw [← z, hx] at y
    have y2 := Option.some.inj y
    unfold excClassObj at y2
    cases y2
  have hse := star_cons hs [] X.env
  have hbe : (backTo cp (starEach [e] X.env)) = (false, eval e X.env) :: backTo cp (starEach [] X.env) := by rw [hse]; rfl
  refine ks_wpAt_Expr_any (at_method (by rw [hbe]; rfl) hl (super_base T I h0 hx rfl (fun c z => by cases z) hself (by decide +kernel) fun so s' I1 eso hso k1' pl => ?_)) I.quiet rfl
  have KX := I1.kIn
  have hx1 := k1' _ _ hx
  have hI : PySem.W.Looks (model X.prog X.w) s'.heap (isInstance (.ref a) (.type "ValueError")) true := (PySem.W.InstAt.type (od := none) ⟨hx1, rfl, rfl, trivial⟩).andThen (PySem.W.looks_subIn KX hV)
  have hsup' : PySem.W.alongIn X.K "__init__" ((cdD.mro.dropWhile (· != .ref D)).drop 1) = some (some (.builtin "ValueError.__init__")) := by
    unfold PySem.W.ks_superIn at hsup
    rw [hcd] at hsup
    exact hsup
  obtain ⟨hh, g, d, t, os⟩ := s'
  refine PySem.W.kxs_getMethod PySem.W.kxs_ValueError hso (PySem.W.looks_opaque KX hno) (l₀ := cdD.mro) (fun A Q E s k q => wpAny_bind ((PySem.W.looks_clsIn KX hcd) A _ E s k (wpAny_pure q))) rfl KX hsup' hI hna (by decide +kernel) ?_
  have kp : ∀ b o, hh.get? b = some o → (hh.push (PySem.W.kxs_mw "ValueError.__init__" a)).get? b = some o := fun b o e => Heap.get?_push_of_some _ e
  have I2 : Inv X pins σ H ⟨hh.push (PySem.W.kxs_mw "ValueError.__init__" a), g, d, t + 1, os⟩ := I1.kept (t' := t + 1) kp
  have hu : (hh.push (PySem.W.kxs_mw "ValueError.__init__" a)).get? hh.objs.size = some (PySem.W.kxs_mw "ValueError.__init__" a) := Heap.get?_push_size _ rfl
  have hHu : H hh.objs.size = none := I1.hok.fresh (Nat.le_refl _)
  have I3 : Inv X ((hh.objs.size, PySem.W.kxs_mw "ValueError.__init__" a) :: pins) σ H ⟨hh.push (PySem.W.kxs_mw "ValueError.__init__" a), g, d, t + 1, os⟩ := I2.pins_of fun p hp => by
    rcases List.mem_cons.mp hp with rfl | hp
    · exact ⟨hu, hHu, Nat.ne_of_gt I1.lt, I1.nofs (Nat.le_refl _), fun v z => by cases z⟩
    · exact I2.pin p (List.mem_append_right _ hp)
  refine PySem.W.kxs_callWith (i := "ValueError.__init__") (x := a) (by rw [hbe]; rfl) ?_
  have hA := (pa_cons he pa_nil hse).run cp _ _ σ H (fun vs H1 => vs.length = 1 ∧ H1 a = some (exo a D none) ∧ Z.nx σ H1) I3 q
  rw [hbe] at hA ⊢
  refine PySem.Calls.evalArgs_plain (thn hA fun us s1 hh => ?_)
  obtain ⟨vs, H1, I4, r4, hl1, ea4, q4⟩ := hh
  obtain ⟨hu4, _⟩ := I4.pin _ (List.mem_append_right _ List.mem_cons_self)
  refine ⟨hu4, ?_⟩
  have I5 : Inv X pins σ H1 s1 := I4.pins_of fun p hp => I4.pin p (by
    rcases List.mem_append.mp (List.mem_append_right X.pn hp) with z | z
    · exact List.mem_append_left _ z
    · exact List.mem_append_right _ (List.mem_cons_of_mem _ z))
  obtain ⟨t4, hx4⟩ := exo_at I4.hok ea4
  have hD4 := I4.kIn _ _ hD
  obtain ⟨h4, g4, d4, tk4, os4⟩ := s1
  refine wpAny_call (codeAny_of_tree ?_)
  show wpAny _ X.A.in1 (callAny (.ref hh.objs.size) ⟨us, []⟩) _ _ _
  simp only [callAny]
  refine wpAny_bind (wpAny_load hu4 ?_)
  simp only [PySem.W.kxs_mw, show (Value.type "method-wrapper" == Value.type "method" || Value.type "method-wrapper" == Value.type "builtin_function_or_method" || Value.type "method-wrapper" == Value.type "method-wrapper") = true by decide, if_true]
  refine PySem.W.KFB.if_so (by decide) ?_
  refine wpAny_bind (PySem.W.check_bound_init PySem.F.excBase_ValueError.toExcCallFacts hD4 hx4 rfl ?_)
  refine wpAny_bind (wpAny_pure (wpAny_pure ?_))
  refine ⟨plainId_quiet PySem.F.excBase_ValueError.init.plain _, codeAny_builtin PySem.F.excBase_ValueError.initEntry ?_⟩
  have hus : us.length ≤ sizeLine := by
    rw [← Paired.length r4, hl1, sizeLine_eq]
    decide
  refine PySem.W.exc_init_tree (cls := .ref D) (t0 := t4) (dv := none) (c2 := .none) (c3 := .none) (b4 := .bool false) hx4 hus fun h' k5' hx5 _ => ?_
  have J := I5.write (t' := tk4) (x := a) (e := a) (o := exo a D none) (by rw [ea4]; exact True.intro) (.inl rfl) k5' ⟨_, hx5⟩ (exo_ok hx5)
  have eu : upd H1 a (exo a D none) = H1 := by
    funext b
    by_cases hb : b = a
    · rw [hb, upd_same, ea4]
    · rw [upd_ne hb]
  rw [eu] at J
  exact ⟨σ, H1, J, q4⟩
end
end DL

set_option maxHeartbeats 4000000
/-! DS3: own exceptions with one field or two. -/
namespace DL
open PySem PySem.Spec PyProof.Rows L2
/-! ### the message -/
def partB (N : List Str) : Expr → Bool
  | .Constant (.str y) _ _ => decide (y.length ≤ 1921)
  | .FormattedValue (.Name x _) c none _ => decide (c = -1) && (match ixS N x with
    | some i => decide (1 ≤ i)
    | none => false)
  | _ => false
def partT (N : List Str) : Expr → TE
  | .Constant (.str y) _ _ => tC (.str y)
  | .FormattedValue (.Name x _) _ _ _ => tFmt (tVar ((ixS N x).getD 0))
  | _ => fun _ _ _ => False
def msgB (N : List Str) : Expr → Bool
  | .JoinedStr (a :: b :: r) _ => (a :: b :: r).all (partB N) && decide (r.length ≤ 1000)
  | _ => false
/-- the parameters' slots hold what can be told -/
def FmtS (n : Nat) (σ : St) : Prop := ∀ i, 1 ≤ i → i < n → ∃ v, σ[i]? = some (some v) ∧ fmtV v
section
variable {X : Cx} {n : Nat}
theorem part_pe (hv : ∀ i x, X.N[i]? = some x → 1 ≤ i → X.env.scope.names.lookup x = some .local ∧ (x == ("__debug__" : Str)) = false ∧ (x == ("__classdict__" : Str)) = false) {e : Expr} (h : partB X.N e = true) : PE X e (partT X.N e) := by
  cases e with
  | Constant c j p => cases c <;> first | exact pe_str | cases h
  | FormattedValue e c sp p => cases e with
    | Name x q => cases sp with
      | some _ => cases h
      | none =>
        have h' : (decide (c = -1) && (match ixS X.N x with
          | some i => decide (1 ≤ i)
          | none => false)) = true := h
        rw [Bool.and_eq_true, decide_eq_true_eq] at h'
        obtain ⟨rfl, h2⟩ := h'
        cases hi : ixS X.N x with
        | none => rw [hi] at h2; cases h2
        | some i =>
          rw [hi] at h2
          have hx := ixS_ok hi
          obtain ⟨h3, h4, h5⟩ := hv i x hx (of_decide_eq_true h2)
          have := pe_fmt (pos := p) (pe_var (pos := q) hx (.inl h3) h4 h5)
          show PE X _ (tFmt (tVar ((ixS X.N x).getD 0)))
          rw [hi]
          exact this
    | _ => cases h
  | _ => cases h
theorem parts_pj (hv : ∀ i x, X.N[i]? = some x → 1 ≤ i → X.env.scope.names.lookup x = some .local ∧ (x == ("__debug__" : Str)) = false ∧ (x == ("__classdict__" : Str)) = false) : ∀ {es : List Expr}, es.all (partB X.N) = true → PJ X es (es.map (partT X.N))
  | [], _ => .nil
  | e :: es, h => by
    rw [List.all_cons, Bool.and_eq_true] at h
    exact .cons (part_pe hv h.1) (parts_pj hv h.2)
theorem str_append_len (a b : Str) : (a ++ b).length = a.length + b.length := by
  show (Str.append a b).length = _
  first | exact Str.length_append a b | simp [Str.append, Str.length] | rfl
theorem tJs_ok {σ : St} {H : Hp} {Q : Str → Hp → Prop} (hσ : FmtS n σ) (hQ : ∀ y, Q y H) (hN : ∀ x i, ixS X.N x = some i → i < n) : ∀ {es : List Expr} (acc : Str), es.all (partB X.N) = true → acc.length + 1921 * es.length ≤ sizeLine → tJs (es.map (partT X.N)) acc σ H Q
  | [], acc, _, _ => hQ acc
  | e :: es, acc, h, hz => by
    rw [List.all_cons, Bool.and_eq_true] at h
    rw [List.length_cons] at hz
    have next : ∀ y : Str, y.length ≤ 1921 → (acc ++ y).length ≤ sizeLine ∧ tJs (es.map (partT X.N)) (acc ++ y) σ H Q := fun y hy => by
      have e1 := str_append_len acc y
      exact ⟨by omega, tJs_ok hσ hQ hN (acc ++ y) h.2 (by omega)⟩
    cases e with
    | Constant c j p => cases c with
      | str y =>
        have hy : y.length ≤ 1921 := of_decide_eq_true h.1
        exact ⟨y, rfl, next y hy⟩
      | _ => cases h.1
    | FormattedValue e c sp p => cases e with
      | Name x q => cases sp with
        | some _ => cases h.1
        | none =>
          have h' : (decide (c = -1) && (match ixS X.N x with
            | some i => decide (1 ≤ i)
            | none => false)) = true := h.1
          rw [Bool.and_eq_true, decide_eq_true_eq] at h'
          obtain ⟨rfl, h2⟩ := h'
          cases hi : ixS X.N x with
          | none => rw [hi] at h2; cases h2
          | some i =>
            rw [hi] at h2
            obtain ⟨v, hv, fv⟩ := hσ i (of_decide_eq_true h2) (hN x i hi)
            have e9 : partT X.N (.FormattedValue (.Name x q) (-1) none p) = tFmt (tVar i) := by
              show tFmt (tVar ((ixS X.N x).getD 0)) = _
              rw [hi]
              rfl
            rw [List.map_cons, e9]
            refine ⟨v, hv, ?_⟩
            cases v with
            | str y =>
              have hy : y.length ≤ 1921 := fv
              exact .inl ⟨y, rfl, by rw [sizeLine_eq]; omega, y, rfl, next y hy⟩
            | int k =>
              have hk : k.natAbs.log2 < 1920 := fv
              exact .inr ⟨k, rfl, hk, _, rfl, next _ (int_text_len_1921 hk)⟩
            | _ => exact fv.elim
      | _ => cases h.1
    | _ => cases h.1
/-- the message, whatever it says -/
theorem msg_pe (hv : ∀ i x, X.N[i]? = some x → 1 ≤ i → X.env.scope.names.lookup x = some .local ∧ (x == ("__debug__" : Str)) = false ∧ (x == ("__classdict__" : Str)) = false) (hN : ∀ x i, ixS X.N x = some i → i < n) {e : Expr} (h : msgB X.N e = true) :
    PE X e (fun σ H Q => FmtS n σ ∧ ∀ y : Str, Q (.str y) H) := by
  cases e with
  | JoinedStr es p =>
    match es, h with
    | a :: b :: r, h =>
      have h' : ((a :: b :: r).all (partB X.N) && decide (r.length ≤ 1000)) = true := h
      rw [Bool.and_eq_true, decide_eq_true_eq] at h'
      refine pe_imp (pe_joined (parts_pj hv h'.1)) fun σ H Q q => ?_
      refine tJs_ok (Q := fun out H1 => Q (.str out) H1) q.1 q.2 hN Str.empty h'.1 ?_
      have e0 : Str.empty.length = 0 := rfl
      have e1 : (a :: b :: r).length = r.length + 2 := rfl
      rw [e0, e1, sizeLine_eq]
      omega
  | _ => cases h
end
/-! ### __init__ -/
/-- what an own exception's __init__ promises -/
def spE (C : Addr) (k : Nat) (mk : List V → List (Str × V)) : Sp := fun vs H Q _ => ∃ a us, vs = .ref a :: us ∧ us.length = k ∧ (∀ u ∈ us, fmtV u) ∧ H a = some (exo a C none) ∧
  ∀ d H2, H d = none → d ≠ a → H2 a = some (exo a C (some d)) → H2 d = some (exd d (mk us)) → (∀ b, b ≠ a → b ≠ d → H2 b = H b) → Q .non H2
structure ExcK (P : Program) (K : PySem.W.Frag) (mg : Str → Option Value) (c : Str) : Prop where
  O : OexC K (He.ga K c)
  no : PySem.W.nsIn K cStatics "thirdparty.any" = some none
  sup : PySem.W.ks_superIn K (He.ga K c) (He.ga K c) "__init__" = some (some (.builtin "ValueError.__init__"))
  V : PySem.W.subIn K (.ref (He.ga K c)) (.type "ValueError") = some true
  self : PySem.W.mroIn K (He.ga K c) (.ref (He.ga K c)) = some true
  cls : ∃ cdD, PySem.W.clsIn K (He.ga K c) = some cdD
  mgs : mg "super" = none
  top : (P.main.scope.names.lookup ("super" : Str)).isSome = false
  boot : bootBuiltins "super" = some (.type "super")
  mgc : mg c = some (.ref (He.ga K c))
  db : (c == ("__debug__" : Str)) = false
def body1 (p0 p1 ap cp ep q1 q2 q3 q4 : Pos) (msg : Expr) (f x : Str) : List Stmt :=
  [.Expr (.Call (.Attribute (.Call (.Name "super" p0) [] [] p1) "__init__" ap) [msg] [] cp) ep, .Assign [.Attribute (.Name "self" q1) f q2] (.Name x q3) q4]
/-- the written part, of an __init__ of one field -/
structure Init1 (P : Program) (K : PySem.W.Frag) (c f : Str) (x : Str) (fI : Addr) (fd : FuncData) : Prop where
  ini : PySem.W.findIn K (.ref (He.ga K c)) "__init__" = some (some (.ref fI))
  ty : PySem.W.typeIn K (.ref fI) = some (.type "function")
  fno : PySem.W.findIn K (.ref (He.ga K c)) f = some none
  row : ∃ (cc cda : Addr) (name qual : Str) (params : Arguments) (scope : Scope) (dV kV doc pm ct oc cl ccl : Value) (an od cld cdd : Option Addr) (osl csl ccs : Array (Option Value)) (vs : Array Value) (file : Str) (tf : Tok) (ar : Arg)
    (p0 p1 ap cp ep q1 q2 q3 q4 : Pos) (msg : Expr),
    fd = PySem.W.ksFn name qual params (body1 p0 p1 ap cp ep q1 q2 q3 q4 msg f x) scope dV kV doc pm an (.ref cda) ct cc ∧
    K.lookup fI = some ⟨oc, od, .func fd, osl⟩ ∧ PySem.W.codeIn K (.ref cda) qual = true ∧
    K.lookup cc = some ⟨cl, cld, .cell (some (.ref (He.ga K c))), csl⟩ ∧ K.lookup cda = some ⟨ccl, cdd, .fields vs, ccs⟩ ∧ vs[2]? = some (.str file tf) ∧ ((P.main.file : Str) == file) = true ∧
    (params.posonlyargs ++ params.args).head? = some ar ∧ ar.arg = ("self" : Str) ∧ L2.Binds K fd [("self" : Str), x] [] ∧ FnScopeS [("self" : Str), x] [("self" : Str), x] scope ∧ msgB [("self" : Str), x] msg = true ∧ starB msg = false ∧ (ap.endLine == cp.line) = true ∧
    (PySem.W.envX qual scope 0 fI (.ref cda) []).kindOf "super" = some .globalImplicit ∧ scope.names.lookup ("__class__" : Str) = some .free ∧ (x == ("__debug__" : Str)) = false ∧ (x == ("__classdict__" : Str)) = false
theorem init1_ok {P : Program} {w : World} {K : PySem.W.Frag} {mg : Str → Option Value} {base : Heap} {c f x : Str} {fI : Addr} {fd : FuncData} (T : ExcK P K mg c) (R : Init1 P K c f x fI fd) :
    FnOk P w K mg base (L2.CX P w) 1 fI fd [("self" : Str), x] (spE (He.ga K c) 1 fun us => [f].zip us) := by
  obtain ⟨cc, cda, name, qual, params, scope, dV, kV, doc, pm, ct, oc, cl, ccl, an, od, cld, cdd, osl, csl, ccs, vs, file, tf, ar, p0, p1, ap, cp, ep, q1, q2, q3, q4, msg, rfl, lk, hcd, lcc, lcd, hvs, hfile, hp, har, hb, S, hmsg, hst, hln, hks, hkc, hx1, hx2⟩ := R.row
  refine fn_ofS lk hcd lcc S (fun vs H Q E h => ?_) fun A outer s H vs Q E hr h => ?_
  · obtain ⟨a, us, rfl, hl, _⟩ := h
    simp [hl]
  · obtain ⟨a, us, rfl, hl, hu, ea, hq⟩ := h
    match us, hl with
    | [u], _ =>
    have fu := hu u List.mem_cons_self
    have hloc := S.par
    have sx : SupX (cxS (L2.CX P w) P w K mg base [("self" : Str), x] qual scope fI cc (.ref cda) A outer s H E) (He.ga K c) ("self" : Str) := {
      ks := hks
      kc := hkc
      cc := ⟨cc, cl, cld, csl, by show List.lookup _ [_] = _; simp [List.lookup], lcc⟩
      fn := ⟨fI, _, oc, od, osl, ar, rfl, lk, hp, har⟩
      cd := ⟨cda, ccl, cdd, vs, ccs, file, tf, rfl, lcd, hvs, hfile⟩
      cls := T.cls
      mg := T.mgs
      top := T.top
      boot := T.boot
      N := rfl
      loc := hloc _ List.mem_cons_self }
    have hnm : ∀ i y, ([("self" : Str), x] : List Str)[i]? = some y → 1 ≤ i → scope.names.lookup y = some .local ∧ (y == ("__debug__" : Str)) = false ∧ (y == ("__classdict__" : Str)) = false := fun i y hy hi => by
      match i, hi with
      | 1, _ =>
        cases hy
        exact ⟨hloc _ (by simp), hx1, hx2⟩
      | i + 2, _ => simp at hy
    have hN2 : ∀ (y : Str) (i : Nat), ixS [("self" : Str), x] y = some i → i < 2 := fun y i hi => by
      have := (List.getElem?_eq_some_iff.mp (ixS_ok hi)).1
      exact this
    have hx : ("self" : Str) ≠ x := fun z => by
      have := S.nd
      rw [← z] at this
      simp at this
    have pe1 := pe_var (X := cxS (L2.CX P w) P w K mg base [("self" : Str), x] qual scope fI cc (.ref cda) A outer s H E) (i := 1) (x := x) (pos := q3) rfl (.inl (hloc _ (by simp))) hx1 hx2
    have pe0 := pe_var (X := cxS (L2.CX P w) P w K mg base [("self" : Str), x] qual scope fI cc (.ref cda) A outer s H E) (i := 0) (x := ("self" : Str)) (pos := q1) rfl (.inl (hloc _ (by simp))) (by decide +kernel) (by decide +kernel)
    have b1 := psa_superinit (X := cxS (L2.CX P w) P w K mg base [("self" : Str), x] qual scope fI cc (.ref cda) A outer s H E) (D := He.ga K c) (x := ("self" : Str)) (body := body1 p0 p1 ap cp ep q1 q2 q3 q4 msg f x) (p0 := p0) (p1 := p1) (ap := ap) (cp := cp) (ep := ep) sx T.O T.no T.sup T.V T.self
      (msg_pe (X := cxS (L2.CX P w) P w K mg base [("self" : Str), x] qual scope fI cc (.ref cda) A outer s H E) (n := 2) hnm hN2 hmsg) hst hln
    have b2 := ps_ost (X := cxS (L2.CX P w) P w K mg base [("self" : Str), x] qual scope fI cc (.ref cda) A outer s H E) (f := f) (p' := q2) (pos := q4) pe0 pe1 rfl
    refine ⟨_, pssA_cons b1 (PSs.at (pss_cons b2 pss_nil)), ?_⟩
    refine ⟨a, rfl, ea, ⟨fun i h1 h2 => ?_, fun y => ⟨rfl, ea, ?_⟩⟩⟩
    · match i, h1, h2 with
      | 1, _, _ => exact ⟨u, rfl, fu⟩
    · refine ⟨u, rfl, .ref a, rfl, a, He.ga K c, rfl, T.O, R.fno, .inl ⟨ea, fun d hd hne => ?_⟩⟩
      refine hq d _ hd hne upd_same ?_ fun b hb1 hb2 => ?_
      · rw [upd_ne hne, upd_same]; rfl
      · rw [upd_ne hb1, upd_ne hb2]
/-- C(e), an own exception of one field -/
theorem exX1 {X : Cx} {c f x : Str} {fI : Addr} {fd : FuncData} (T : ExcK X.prog X.K X.mg c) (R : Init1 X.prog X.K c f x fI fd) (hr : Room 3 X.A) (hg : Gl X c) : ExX X c [f] := by
  refine ⟨fun _ => ⟨fun vs H1 Q => vs.length ≤ 1000 ∧ ∀ a, H1 a = none → spE (He.ga X.K c) 1 (fun us => [f].zip us) (.ref a :: (vs ++ [])) (upd H1 a (exo a (He.ga X.K c) none))
    (fun v H2 => v = .non ∧ ∃ (d : Addr) (fs : List (Str × V)), H2 a = some (exo a (He.ga X.K c) (some d)) ∧ H2 d = some (exd d fs) ∧ H1 d = none ∧ Q (.ref (He.ga X.K c)) (some d) (upd (del H2 a) d (.xd fs))) (fun _ _ _ => False), fun vs H1 Q hl hf hq => ?_, fun {e es t p pos} ha hs => ?_⟩, fun h => absurd h (by simp)⟩
  · have hl1 : vs.length = 1 := hl
    refine ⟨by omega, fun a hna => ⟨a, vs, by rw [List.append_nil], hl1, hf, upd_same, fun d H2 hd hne e1 e2 hk => ⟨rfl, d, _, e1, e2, ?_, ?_⟩⟩⟩
    · rw [upd_ne hne] at hd; exact hd
    · have hd' : H1 d = none := by rw [upd_ne hne] at hd; exact hd
      have e3 : upd (del H2 a) d (.xd ([f].zip vs)) = upd H1 d (.xd ([f].zip vs).reverse) := by
        have er : ([f].zip vs).reverse = [f].zip vs := by
          match vs, hl1 with
          | [v], _ => rfl
        rw [er]
        funext b
        by_cases hb : b = d
        · rw [hb, upd_same, upd_same]
        · rw [upd_ne hb, upd_ne hb]
          by_cases hba : b = a
          · rw [hba, del_same, hna]
          · rw [del_ne hba, hk b hba hb, upd_ne hba]
      rw [e3]
      exact hq d hd'
  · have hs' := hs
    rw [List.any_cons, Bool.or_eq_false_iff] at hs'
    obtain ⟨cc, cda, name, qual, params, scope, dV, kV, doc, pm, ct, oc, cl, ccl, an, od, cld, cdd, osl, csl, ccs, vs, file, tf, ar, p0, p1, ap, cp, ep, q1, q2, q3, q4, msg, hfd, lk, hcd, lcc, lcd, hvs, hfile, hp, har, hb, S, _⟩ := R.row
    exact pmk_oex (CX := L2.CX X.prog X.w) T.O R.ini R.ty (init1_ok (w := X.w) (mg := X.mg) (base := X.base) T R) (hr.mono (by omega)) hb .nil (fun pins σ H s e s' I c => by
      obtain ⟨_, _, _, _, _, _, _, _, _, _, _, _, z⟩ := c
      exact z.elim) hg T.mgc ha T.db (star_cons hs'.1 _ _) (star_any hs'.2 _ _)
end DL

set_option maxHeartbeats 4000000
/-! DH1: what the head tells: defs as they stand, and one Bool. -/
namespace DL
open PySem PySem.Spec PyProof.Rows L2
/-- where a function stands: a global's name; a class's method; a property's getter -/
inductive At where
  | glo (x : Str) | me (c m : Str) | pr (c m : Str)
  deriving DecidableEq
def getA (K : PySem.W.Frag) (p : Addr) : Addr := match PySem.W.recIn K p "property" with
  | some (.ref g :: _) => g
  | _ => 0
def atA (K : PySem.W.Frag) : At → Addr
  | .glo x => He.ga K x
  | .me c m => He.ma K (He.ga K c) m
  | .pr c m => getA K (He.ma K (He.ga K c) m)
abbrev FnS : Type := Option (Str × Str × Arguments × FuncBody × Scope × Addr × List Str × Addr)
def fnS (K : PySem.W.Frag) (p : At) : FnS := match K.lookup (atA K p) with
  | some ⟨_, _, .func fd, _⟩ => some (fd.name, fd.qualname, fd.params, fd.body, fd.scope, fd.globals, fd.closure.map (·.1), fd.builtins)
  | _ => none
/-- one def: where it stands, its row -/
structure DefH where
  at_ : At
  st : Stmt
  qual : Str
  /-- does it say super() -/
  sup : Bool
def nameOf : Stmt → Str
  | .FunctionDef x _ _ _ _ _ _ _ _ _ => x
  | _ => Str.empty
def DefH.val (d : DefH) : FnS := some (nameOf d.st, d.qual, defArgs d.st, .stmts (defBody d.st), defScope d.st, mainGlobals, if d.sup = true then [("__class__" : Str)] else [], builtinsNs)
/-- what is asked of a function object beside its row -/
def fnOkB (K : PySem.W.Frag) (d : DefH) : Bool := match K.lookup (atA K d.at_) with
  | some ⟨_, _, .func fd, _⟩ => PySem.W.codeIn K fd.code d.qual && (decide (fd.defaults = .none) && decide (fd.kwdefaults = .none))
  | _ => false
theorem fn_row {K : PySem.W.Frag} {d : DefH} (e : fnS K d.at_ = d.val) (c : fnOkB K d = true) (hs : d.sup = false) : ∃ (doc pm cdv ct oc : Value) (an od : Option Addr) (osl : Array (Option Value)),
    K.lookup (atA K d.at_) = some ⟨oc, od, .func (PySem.W.fnOf (nameOf d.st) d.qual (defArgs d.st) (defBody d.st) (defScope d.st) .none .none doc pm an cdv ct), osl⟩ ∧ PySem.W.codeIn K cdv d.qual = true := by
  unfold fnS at e
  unfold fnOkB at c
  cases q : K.lookup (atA K d.at_) with
  | none => rw [q] at c; cases c
  | some o =>
    obtain ⟨oc, od, dt, osl⟩ := o
    rw [q] at c e
    cases dt with
    | func fd =>
      obtain ⟨n1, n2, n3, n4, n5, n6, n7, n8, n9, n10, n11, n12, n13, n14, n15⟩ := fd
      have e2 : (some (n1, n2, n3, n4, n5, n6, n7.map (·.1), n15) : FnS) = some (nameOf d.st, d.qual, defArgs d.st, .stmts (defBody d.st), defScope d.st, mainGlobals, if d.sup = true then [("__class__" : Str)] else [], builtinsNs) := e
      rw [hs, if_neg Bool.false_ne_true] at e2
      simp only [Option.some.injEq, Prod.mk.injEq, List.map_eq_nil_iff] at e2
      obtain ⟨h1, h2, h3, h4, h5, h6, h7, h8⟩ := e2
      subst h1 h2 h3 h4 h5 h6 h7 h8
      have c3 : (PySem.W.codeIn K n13 d.qual && (decide (n8 = .none) && decide (n9 = .none))) = true := c
      rw [Bool.and_eq_true, Bool.and_eq_true, decide_eq_true_eq, decide_eq_true_eq] at c3
      obtain ⟨c4, rfl, rfl⟩ := c3
      exact ⟨n10, n11, n13, n14, oc, n12, od, osl, rfl, c4⟩
    | _ => cases c
theorem fn_rowS {K : PySem.W.Frag} {d : DefH} (e : fnS K d.at_ = d.val) (c : fnOkB K d = true) (hs : d.sup = true) : ∃ (cc : Addr) (doc pm cdv ct oc : Value) (an od : Option Addr) (osl : Array (Option Value)),
    K.lookup (atA K d.at_) = some ⟨oc, od, .func (PySem.W.ksFn (nameOf d.st) d.qual (defArgs d.st) (defBody d.st) (defScope d.st) .none .none doc pm an cdv ct cc), osl⟩ ∧ PySem.W.codeIn K cdv d.qual = true := by
  unfold fnS at e
  unfold fnOkB at c
  cases q : K.lookup (atA K d.at_) with
  | none => rw [q] at c; cases c
  | some o =>
    obtain ⟨oc, od, dt, osl⟩ := o
    rw [q] at c e
    cases dt with
    | func fd =>
      obtain ⟨n1, n2, n3, n4, n5, n6, n7, n8, n9, n10, n11, n12, n13, n14, n15⟩ := fd
      have e2 : (some (n1, n2, n3, n4, n5, n6, n7.map (·.1), n15) : FnS) = some (nameOf d.st, d.qual, defArgs d.st, .stmts (defBody d.st), defScope d.st, mainGlobals, if d.sup = true then [("__class__" : Str)] else [], builtinsNs) := e
      rw [hs, if_pos rfl] at e2
      simp only [Option.some.injEq, Prod.mk.injEq] at e2
      obtain ⟨h1, h2, h3, h4, h5, h6, h7, h8⟩ := e2
      subst h1 h2 h3 h4 h5 h6 h8
      match n7, h7 with
      | [(x, cc)], h7 =>
        have hx : x = ("__class__" : Str) := by simpa using h7
        subst hx
        have c3 : (PySem.W.codeIn K n13 d.qual && (decide (n8 = .none) && decide (n9 = .none))) = true := c
        rw [Bool.and_eq_true, Bool.and_eq_true, decide_eq_true_eq, decide_eq_true_eq] at c3
        obtain ⟨c4, rfl, rfl⟩ := c3
        exact ⟨cc, n10, n11, n13, n14, oc, n12, od, osl, rfl, c4⟩
      | [], h7 => simp at h7
      | _ :: _ :: _, h7 => simp at h7
    | _ => cases c
/-! ### the Hook -/
/-- each once: the seen ones are a number's bits -/
def ddB : List Nat → Nat → List Nat
  | [], _ => []
  | a :: r, m => match Nat.ble 1 (Nat.land 1 (Nat.shiftRight m a)) with
    | true => ddB r m
    | false => a :: ddB r (Nat.lor m (Nat.shiftLeft 1 a))
def asB (g : Addr → Option Obj) : Nat → List Addr
  | 0 => [mainGlobals]
  | n + 1 => ddB (asB g n ++ (asB g n).flatMap fun a => match g a with
    | some o => He.refsD o
    | none => []) 0
abbrev AlS : Type := Bool × List FnS
def obsS (fn : List DefH) (ex : PySem.W.Frag → Bool) (K : PySem.W.Frag) : AlS := (fn.all (fnOkB K) && ex K, fn.map fun d => fnS K d.at_)
def valS (fn : List DefH) : AlS := (true, fn.map DefH.val)
def obsSG (n : Nat) (fn : List DefH) (ex : PySem.W.Frag → Bool) (g : Addr → Option Obj) : AlS := obsS fn ex (He.frG g (cStatics :: asB g n))
def hookS (n : Nat) (fn : List DefH) (ex : PySem.W.Frag → Bool) : PySem.W.Hook where
  α := AlS
  obs := fun s => obsSG n fn ex s.heap.get?
  val := fun _ => valS fn
  says := fun _ h => ∃ K : PySem.W.Frag, K.In h ∧ obsS fn ex K = valS fn
  of := fun _ _ e => ⟨_, He.frG_in, e⟩
  keeps := fun _ _ _ ⟨K, hK, c⟩ k => ⟨K, PySem.W.Frag.In.keeps hK k, c⟩
theorem obsSG_eq {n : Nat} {fn : List DefH} {ex : PySem.W.Frag → Bool} {g : Addr → Option Obj} {s : Shared} (h : ∀ a, g a = s.heap.get? a) : obsSG n fn ex g = (hookS n fn ex).obs s := by
  rw [show g = s.heap.get? from funext h] <;> rfl
section
variable {fn : List DefH} {ex : PySem.W.Frag → Bool} {K : PySem.W.Frag}
theorem says_ex (c : obsS fn ex K = valS fn) : ex K = true := (Bool.and_eq_true_iff.mp (show (fn.all (fnOkB K) && ex K) = true from congrArg (fun z : AlS => z.1) c)).2
theorem says_fn (c : obsS fn ex K = valS fn) {d : DefH} (h : d ∈ fn) : fnS K d.at_ = d.val ∧ fnOkB K d = true := by
  have c1 := (Bool.and_eq_true_iff.mp (show (fn.all (fnOkB K) && ex K) = true from congrArg (fun z : AlS => z.1) c)).1
  have c2 : fn.map (fun d => fnS K d.at_) = fn.map DefH.val := congrArg (fun z : AlS => z.2) c
  refine ⟨?_, List.all_eq_true.mp c1 d h⟩
  obtain ⟨i, hi⟩ := List.mem_iff_getElem?.mp h
  have e2 : (fn.map fun d => fnS K d.at_)[i]? = (fn.map DefH.val)[i]? := by rw [c2]
  rw [List.getElem?_map, List.getElem?_map, hi] at e2
  exact Option.some.inj e2
end
end DL

set_option maxHeartbeats 4000000
/-! DH2: facts as Bools. -/
namespace DL
open PySem PySem.Spec PyProof.Rows L2
section
variable {K : PySem.W.Frag}
/-! ### own exceptions -/
def oexB (K : PySem.W.Frag) (C : Addr) : Bool := match K.lookup C with
  | some ⟨.type t, _, .cls cd, sl⟩ => (match cd.mro, sl.toList with
    | .ref C' :: bm, [_, _, _, _, some (.builtin n), _] => decide (t = "type") && (C' == C && (n == "ValueError.__new__" && (!cd.hasDel && (cd.hasDict && PySem.HandSPX.refsVE bm))))
    | _, _ => false)
  | _ => false
theorem oexB_ok {C : Addr} (h : oexB K C = true) : ∃ nm q N bs bm sn sub ab col dd k0 k1 k2 k3 k5, K.lookup C = some (excClassObj nm q C N bs bm true sn sub ab col dd k0 k1 k2 k3 k5 "ValueError.__new__") ∧ PySem.HandSPX.refsVE bm = true := by
  unfold oexB at h
  split at h
  · rename_i t dd cd sl ho
    split at h
    · rename_i C' bm k0 k1 k2 k3 n k5 hm hs
      rw [Bool.and_eq_true, Bool.and_eq_true, Bool.and_eq_true, Bool.and_eq_true, Bool.and_eq_true, decide_eq_true_eq, beq_iff_eq, beq_iff_eq, Bool.not_eq_true'] at h
      obtain ⟨rfl, rfl, rfl, h4, h5, h6⟩ := h
      obtain ⟨nm, bs, mro, ns, qn, hd, sn, sub, ab, col, del⟩ := cd
      dsimp only at hm h4 h5
      subst hm h4 h5
      obtain ⟨l⟩ := sl
      dsimp only at hs
      subst hs
      exact ⟨nm, qn, ns, bs, bm, sn, sub, ab, col, dd, k0, k1, k2, k3, k5, ho, h6⟩
    · cases h
  · cases h
/-- a cell that holds D -/
def cellB (K : PySem.W.Frag) (cc D : Addr) : Bool := match K.lookup cc with
  | some ⟨_, _, .cell (some (.ref D')), _⟩ => D' == D
  | _ => false
theorem cellB_ok {cc D : Addr} (h : cellB K cc D = true) : ∃ cl cld csl, K.lookup cc = some ⟨cl, cld, .cell (some (.ref D)), csl⟩ := by
  unfold cellB at h
  split at h
  · rename_i cl cld D' csl ho
    obtain rfl : D' = D := beq_iff_eq.mp h
    exact ⟨cl, cld, csl, ho⟩
  · cases h
/-- a code's file -/
def fileB (K : PySem.W.Frag) (f : Str) (cd : Value) : Bool := match cd with
  | .ref c => (match K.lookup c with
    | some ⟨_, _, .fields vs, _⟩ => (match (vs[2]? : Option Value) with
      | some (Value.str g _) => f == g
      | _ => false)
    | _ => false)
  | _ => false
theorem fileB_ok {f : Str} {cd : Value} (h : fileB K f cd = true) : ∃ cda ccl cdd vs ccs file tf, cd = .ref cda ∧ K.lookup cda = some ⟨ccl, cdd, .fields vs, ccs⟩ ∧ vs[2]? = some (.str file tf) ∧ (f == file) = true := by
  unfold fileB at h
  split at h
  · rename_i c
    split at h
    · rename_i ccl cdd vs ccs ho
      split at h
      · rename_i g t hv
        exact ⟨c, ccl, cdd, vs, ccs, g, t, rfl, ho, hv, h⟩
      · cases h
    · cases h
  · cases h
/-- a super() def at f: its cell holds D, its code is of the file -/
def supB (K : PySem.W.Frag) (fl : Str) (f D : Addr) : Bool := match K.lookup f with
  | some ⟨_, _, .func fd, _⟩ => fileB K fl fd.code && (match fd.closure with
    | [(_, cc)] => cellB K cc D
    | _ => false)
  | _ => false
def eqV (a b : Option Value) : Bool := decide (a = b)
/-- what an own exception class c with its own __init__ must say; fs its fields -/
def excB (K : PySem.W.Frag) (fl c : Str) (fs : List Str) : Bool :=
  oexB K (He.ga K c) && He.eqO (PySem.W.findIn K (.ref (He.ga K c)) "__setattr__") (some (some (.builtin "object.__setattr__"))) &&
  decide (PySem.W.subIn K (.ref (He.ga K c)) (.type "BaseException") = some true) && decide (PySem.W.typeIn K (.ref (He.ga K c)) = some (.type "type")) && PySem.W.keepIn K (.ref (He.ga K c)) &&
  He.eqO (PySem.W.ks_superIn K (He.ga K c) (He.ga K c) "__init__") (some (some (.builtin "ValueError.__init__"))) && decide (PySem.W.subIn K (.ref (He.ga K c)) (.type "ValueError") = some true) &&
  decide (PySem.W.mroIn K (He.ga K c) (.ref (He.ga K c)) = some true) && (PySem.W.clsIn K (He.ga K c)).isSome &&
  He.eqO (PySem.W.findIn K (.ref (He.ga K c)) "__init__") (some (some (.ref (He.ma K (He.ga K c) "__init__")))) && decide (PySem.W.typeIn K (.ref (He.ma K (He.ga K c) "__init__")) = some (.type "function")) &&
  fs.all (fun f => He.eqO (PySem.W.findIn K (.ref (He.ga K c)) f) (some none)) && supB K fl (He.ma K (He.ga K c) "__init__") (He.ga K c)
/-- what catching and asking lean on -/
def catB (K : PySem.W.Frag) (c : Str) : Bool :=
  He.eqO (PySem.W.findIn K (.ref (He.ga K c)) "__getattribute__") (some (some (.builtin "BaseException.__getattribute__"))) && He.eqO (PySem.W.findIn K (.ref (He.ga K c)) "__getattr__") (some none) &&
  decide (PySem.W.subIn K (.ref (He.ga K c)) (.type "BaseException") = some true) && PySem.W.hasDictIn K (He.ga K c) && He.eqO (PySem.W.findIn K (.ref (He.ga K c)) "__class__") (some (some (.builtin "object.__class__"))) &&
  He.eqO (PySem.W.specialIn K (.builtin "object.__class__") "__get__") (some (some (.builtin "getset_descriptor.__get__"))) && decide (PySem.W.takesIn K (.builtin "object.__class__") = some true) && decide (PySem.W.mroIn K (He.ga K c) (.type "object") = some true)
theorem catB_ok {c : Str} (h : catB K c = true) : ExcC K (He.ga K c) ∧ XfC K (He.ga K c) := by
  unfold catB at h
  simp only [Bool.and_eq_true, decide_eq_true_eq] at h
  obtain ⟨⟨⟨⟨⟨⟨⟨h1, h2⟩, h3⟩, h4⟩, h5⟩, h6⟩, h7⟩, h8⟩ := h
  exact ⟨⟨He.eqO_ok h1, He.eqO_ok h2, h3, h4, He.eqO_ok h5, He.eqO_ok h6, h7, h8⟩, ⟨He.eqO_ok h1, He.eqO_ok h2, h3, h4⟩⟩
/-- one exception class against another -/
def xsB (K : PySem.W.Frag) (c x : Str) (b : Bool) : Bool := decide (PySem.W.exmOne K (.ref (He.ga K c)) (.ref (He.ga K x)) = some b) && decide (PySem.W.kitOne K (.ref (He.ga K c)) (.ref (He.ga K x)) = some b)
/-! ### own classes of things -/
def insB' (K : PySem.W.Frag) (c : Str) : Bool := (He.Fa.cls c).ok K && He.eqO (PySem.W.findIn K (.ref (He.ga K c)) "__class__") (some (some (.builtin "object.__class__"))) &&
  He.eqO (PySem.W.specialIn K (.builtin "object.__class__") "__get__") (some (some (.builtin "getset_descriptor.__get__"))) && decide (PySem.W.takesIn K (.builtin "object.__class__") = some true) && decide (PySem.W.mroIn K (He.ga K c) (.type "object") = some true) &&
  tyNames.all fun t => decide (PySem.W.kitOne K (.ref (He.ga K c)) (.type t) = some false)
theorem insB_ok {c : Str} (h : insB' K c = true) : InsOk K (He.ga K c) := by
  unfold insB' at h
  simp only [Bool.and_eq_true, decide_eq_true_eq] at h
  obtain ⟨⟨⟨⟨⟨h1, h2⟩, h3⟩, h4⟩, h5⟩, h6⟩ := h
  exact ⟨He.cls_ok h1, He.eqO_ok h2, He.eqO_ok h3, h4, h5, fun t ht => of_decide_eq_true (List.all_eq_true.mp h6 t ht)⟩
/-- isinstance of c's instances against x -/
def isiB (K : PySem.W.Frag) (c x : Str) (b : Bool) : Bool := decide (PySem.W.kitOne K (.ref (He.ga K c)) (.ref (He.ga K x)) = some b) && tyNames.all fun t => decide (PySem.W.kitOne K (.type t) (.ref (He.ga K x)) = some false)
theorem isiB_ok {c x : Str} {b : Bool} (h : isiB K c x b = true) : PySem.W.kitOne K (.ref (He.ga K c)) (.ref (He.ga K x)) = some b ∧ ∀ t ∈ tyNames, PySem.W.kitOne K (.type t) (.ref (He.ga K x)) = some false := by
  unfold isiB at h
  rw [Bool.and_eq_true, decide_eq_true_eq] at h
  exact ⟨h.1, fun t ht => of_decide_eq_true (List.all_eq_true.mp h.2 t ht)⟩
/-- a class's constant text -/
def conB (K : PySem.W.Frag) (c f s : Str) : Bool := match PySem.W.findIn K (.ref (He.ga K c)) f with
  | some (some (.str y t)) => decide (y = s) && He.eqO (PySem.W.specialIn K (.str y t) "__get__") (some none) && !PySem.W.copiedNames.contains f
  | _ => false
theorem conB_ok {c f s : Str} (h : conB K c f s = true) : ∃ u, Con K (He.ga K c) f (.str s) u := by
  unfold conB at h
  split at h
  · rename_i y t e
    rw [Bool.and_eq_true, Bool.and_eq_true, decide_eq_true_eq, Bool.not_eq_true'] at h
    obtain ⟨⟨rfl, h2⟩, h3⟩ := h
    exact ⟨_, ⟨e, ⟨t, rfl⟩, He.eqO_ok h2, h3⟩⟩
  · cases h
/-- a property and its getter -/
def propB (K : PySem.W.Frag) (c f : Str) : Bool := He.eqO (PySem.W.findIn K (.ref (He.ga K c)) f) (some (some (.ref (He.ma K (He.ga K c) f)))) && He.eqO (PySem.W.specialIn K (.ref (He.ma K (He.ga K c) f)) "__get__") (some (some (.builtin "property.__get__"))) &&
  decide (PySem.W.takesIn K (.ref (He.ma K (He.ga K c) f)) = some true) && (match PySem.W.recIn K (He.ma K (He.ga K c) f) "property" with
    | some (.ref _ :: _) => true
    | _ => false)
theorem propB_ok {c f : Str} (h : propB K c f = true) : PropOf K (He.ga K c) f (He.ma K (He.ga K c) f) (getA K (He.ma K (He.ga K c) f)) := by
  unfold propB at h
  rw [Bool.and_eq_true, Bool.and_eq_true, Bool.and_eq_true, decide_eq_true_eq] at h
  obtain ⟨⟨⟨h1, h2⟩, h3⟩, h4⟩ := h
  refine ⟨He.eqO_ok h1, He.eqO_ok h2, h3, ?_⟩
  unfold getA
  split at h4
  · rename_i g rest e
    rw [e]
    exact ⟨rest, rfl⟩
  · cases h4
end
end DL

set_option maxHeartbeats 4000000
/-! DH3: from the head's facts to the contexts' facts. -/
namespace DL
open PySem PySem.Spec PyProof.Rows L2
/-- what a module says, as tables -/
structure ModD where
  nums : List (Str × Int)
  /-- own exceptions of one field: class, field, parameter -/
  excs : List (Str × Str × Str)
  /-- (c, x, is c x or under it), exceptions -/
  xs : List ((Str × Str) × Bool)
  flds : List (Str × Str)
  cons : List ((Str × Str) × Str)
  isi : List ((Str × Str) × Bool)
def cn0 (M : ModD) (fuel : Nat) : Cn where
  N := []
  sc := { kind := .function, names := [], isGenerator := false, isCoroutine := false, more := [] }
  ki := fun x => M.nums.lookup x
  Φ := fun _ _ => dwrong
  kn := fun _ => false
  xf := fun c => (M.excs.lookup c).map fun p => [p.1]
  xs := fun c x => M.xs.lookup (c, x)
  Me := fun _ _ _ => dwrong
  isProp := fun _ _ => false
  Mt := fun _ _ _ => dwrong
  isMt := fun _ _ => false
  isFld := fun c f => M.flds.contains (c, f)
  ca := fun c f => (M.cons.lookup (c, f)).map D.str
  isi := fun c x => M.isi.lookup (c, x)
  mu := []
  clc := fun _ => true
  cell := "_law_draws_here"
  rp := false
  fuel := fuel
def freeNames : List Str := bltNames
/-- each once -/
def ddS : List Str → List Str
  | [] => []
  | x :: r => if (r.any fun y => decide (y = x)) = true then ddS r else x :: ddS r
theorem mem_ddS : ∀ {l : List Str} {x : Str}, x ∈ l → x ∈ ddS l
  | [], _, h => h
  | y :: r, x, h => by
    unfold ddS
    by_cases q : (r.any fun z => decide (z = y)) = true
    · rw [if_pos q]
      rcases List.mem_cons.mp h with rfl | h
      · obtain ⟨z, hz, e⟩ := List.any_eq_true.mp q
        rw [of_decide_eq_true e] at hz
        exact mem_ddS hz
      · exact mem_ddS h
    · rw [if_neg q]
      rcases List.mem_cons.mp h with rfl | h
      · exact List.mem_cons_self
      · exact List.mem_cons_of_mem _ (mem_ddS h)
/-- all of it, as one Bool -/
def modB (fl : Str) (M : ModD) (K : PySem.W.Frag) : Bool :=
  M.nums.all (fun p => (He.Fa.int p.1 p.2).ok K && !(p.1 == ("__debug__" : Str))) && freeNames.all (fun x => (He.Fa.free x).ok K) &&
  M.excs.all (fun p => excB K fl p.1 [p.2.1] && (He.Fa.glo p.1).ok K && !(p.1 == ("__debug__" : Str))) &&
  (M.xs.all (fun p => xsB K p.1.1 p.1.2 p.2) && (ddS (M.xs.map fun p => p.1.1)).all (catB K) && (ddS (M.xs.map fun p => p.1.2)).all fun x => (He.Fa.glo x).ok K && !(x == ("__debug__" : Str))) &&
  M.flds.all (fun p => (He.Fa.cls p.1).ok K && (He.Fa.noat p.1 p.2).ok K) && M.cons.all (fun p => (He.Fa.cls p.1.1).ok K && conB K p.1.1 p.1.2 p.2) &&
  M.isi.all (fun p => isiB K p.1.1 p.1.2 p.2 && insB' K p.1.1 && (He.Fa.glo p.1.2).ok K && !(p.1.2 == ("__debug__" : Str))) &&
  He.eqO (PySem.W.nsIn K cStatics "thirdparty.any") (some none)
theorem lookup_mem' {α β : Type} [BEq α] [LawfulBEq α] : ∀ {l : List (α × β)} {x : α} {v : β}, l.lookup x = some v → (x, v) ∈ l
  | [], _, _, h => by cases h
  | (y, u) :: l, x, v, h => by
    simp only [List.lookup] at h
    split at h
    · rename_i e
      cases h
      rw [beq_iff_eq] at e
      rw [e]; exact List.mem_cons_self
    · exact List.mem_cons_of_mem _ (lookup_mem' h)
section
variable {P : Program} {w : World} {K : PySem.W.Frag} {mg : Str → Option Value} {base h : Heap} {M : ModD} {fl : Str} {fuel : Nat}
structure ModF (fl : Str) (M : ModD) (K : PySem.W.Frag) : Prop where
  nums : ∀ p ∈ M.nums, (He.Fa.int p.1 p.2).ok K = true ∧ (p.1 == ("__debug__" : Str)) = false
  free : ∀ x ∈ freeNames, (He.Fa.free x).ok K = true
  excs : ∀ p ∈ M.excs, excB K fl p.1 [p.2.1] = true ∧ (He.Fa.glo p.1).ok K = true ∧ (p.1 == ("__debug__" : Str)) = false
  xs : ∀ p ∈ M.xs, xsB K p.1.1 p.1.2 p.2 = true ∧ catB K p.1.1 = true ∧ (He.Fa.glo p.1.2).ok K = true ∧ (p.1.2 == ("__debug__" : Str)) = false
  flds : ∀ p ∈ M.flds, (He.Fa.cls p.1).ok K = true ∧ (He.Fa.noat p.1 p.2).ok K = true
  cons : ∀ p ∈ M.cons, (He.Fa.cls p.1.1).ok K = true ∧ conB K p.1.1 p.1.2 p.2 = true
  isi : ∀ p ∈ M.isi, isiB K p.1.1 p.1.2 p.2 = true ∧ insB' K p.1.1 = true ∧ (He.Fa.glo p.1.2).ok K = true ∧ (p.1.2 == ("__debug__" : Str)) = false
  no : PySem.W.nsIn K cStatics "thirdparty.any" = some none
theorem modB_ok (hb : modB fl M K = true) : ModF fl M K := by
  unfold modB at hb
  simp only [Bool.and_eq_true, List.all_eq_true, Bool.not_eq_true'] at hb
  obtain ⟨⟨⟨⟨⟨⟨⟨h1, h2⟩, h3⟩, ⟨⟨h4, h4b⟩, h4c⟩⟩, h5⟩, h6⟩, h7⟩, h8⟩ := hb
  exact ⟨fun p hp => h1 p hp, h2, fun p hp => ⟨(h3 p hp).1.1, (h3 p hp).1.2, (h3 p hp).2⟩, fun p hp => ⟨h4 p hp, h4b _ (mem_ddS (List.mem_map.mpr ⟨p, hp, rfl⟩)), (h4c _ (mem_ddS (List.mem_map.mpr ⟨p, hp, rfl⟩))).1, (h4c _ (mem_ddS (List.mem_map.mpr ⟨p, hp, rfl⟩))).2⟩, h5, h6,
    fun p hp => ⟨(h7 p hp).1.1.1, (h7 p hp).1.1.2, (h7 p hp).1.2, (h7 p hp).2⟩, He.eqO_ok h8⟩
theorem excB_ok {c : Str} {fs : List Str} (hb : excB K fl c fs = true) : OexC K (He.ga K c) ∧ PySem.W.ks_superIn K (He.ga K c) (He.ga K c) "__init__" = some (some (.builtin "ValueError.__init__")) ∧ PySem.W.subIn K (.ref (He.ga K c)) (.type "ValueError") = some true ∧
    PySem.W.mroIn K (He.ga K c) (.ref (He.ga K c)) = some true ∧ (∃ cd, PySem.W.clsIn K (He.ga K c) = some cd) ∧ PySem.W.findIn K (.ref (He.ga K c)) "__init__" = some (some (.ref (He.ma K (He.ga K c) "__init__"))) ∧
    PySem.W.typeIn K (.ref (He.ma K (He.ga K c) "__init__")) = some (.type "function") ∧ (∀ f ∈ fs, PySem.W.findIn K (.ref (He.ga K c)) f = some none) ∧ supB K fl (He.ma K (He.ga K c) "__init__") (He.ga K c) = true := by
  unfold excB at hb
  simp only [Bool.and_eq_true, decide_eq_true_eq, List.all_eq_true] at hb
  obtain ⟨⟨⟨⟨⟨⟨⟨⟨⟨⟨⟨⟨h1, h2⟩, h3⟩, h4⟩, h5⟩, h6⟩, h7⟩, h8⟩, h9⟩, h10⟩, h11⟩, h12⟩, h13⟩ := hb
  exact ⟨⟨oexB_ok h1, He.eqO_ok h2, h3, h4, h5⟩, He.eqO_ok h6, h7, h8, Option.isSome_iff_exists.mp h9, He.eqO_ok h10, h11, fun f hf => He.eqO_ok (h12 f hf), h13⟩
/-- the module's facts, the exceptions told apart -/
theorem md_ok (X : K.In h) (G : h.Ns mainGlobals mg) (F : ModF fl M K)
    (ex : ∀ c f x, (c, f, x) ∈ M.excs → ∀ X : Cx, X.prog = P → X.w = w → X.K = K → X.mg = mg → X.base = base → X.calm = true → Room 3 X.A → Gl X c → ExX X c [f]) : MdOk P w K mg base (cn0 M fuel) where
  ki := fun x i e => by
    have m := F.nums _ (lookup_mem' e)
    exact ⟨He.int_ok X G m.1, m.2⟩
  free := fun x hx => by
    have hm : x ∈ freeNames := by
      unfold bltB at hx
      obtain ⟨y, hy, e⟩ := List.any_eq_true.mp hx
      rw [of_decide_eq_true e] at hy; exact hy
    exact He.free_ok X G (F.free x hm)
  fl := fun c f e => by
    have m := F.flds (c, f) (by simpa using (show M.flds.contains (c, f) = true from e))
    exact ⟨He.cls_ok m.1, He.noat_ok m.2⟩
  ca := fun c f y e => by
    obtain ⟨s, e1, rfl⟩ := Option.map_eq_some_iff.mp e
    have m := F.cons _ (lookup_mem' e1)
    obtain ⟨u, hu⟩ := conB_ok m.2
    exact ⟨He.cls_ok m.1, .str s, u, hu, rfl⟩
  rp := rfl
  isT := fun c x b e => by
    have m := F.isi _ (lookup_mem' e)
    have k := isiB_ok m.1
    exact ⟨m.2.2.2, ⟨_, He.glo_ok X G m.2.2.1, k.1, k.2⟩, insB_ok m.2.1⟩
  xs := fun c x b e => by
    have m := F.xs _ (lookup_mem' e)
    have k : PySem.W.exmOne K (.ref (He.ga K c)) (.ref (He.ga K x)) = some b ∧ PySem.W.kitOne K (.ref (He.ga K c)) (.ref (He.ga K x)) = some b := by
      have := m.1
      unfold xsB at this
      rw [Bool.and_eq_true, decide_eq_true_eq, decide_eq_true_eq] at this
      exact this
    have q := catB_ok m.2.1
    exact ⟨He.glo_ok X G m.2.2.1, m.2.2.2, k.1, k.2, q.1, q.2⟩
  xfn := fun c fs e f hf => by
    obtain ⟨p, e1, rfl⟩ := Option.map_eq_some_iff.mp e
    have m := F.excs _ (lookup_mem' e1)
    exact (excB_ok m.1).2.2.2.2.2.2.2.1 f hf
  ex := fun c fs e => by
    obtain ⟨p, e1, rfl⟩ := Option.map_eq_some_iff.mp e
    exact ex c p.1 p.2 (lookup_mem' e1)
end
end DL

set_option maxHeartbeats 4000000
/-! DH4: defs' facts from the head's. -/
namespace DL
open PySem PySem.Spec PyProof.Rows L2
def mkD (ky : Ky) (ini : Option Str) (st : Stmt) (ps N mu : List Str) (dn : List Str := []) : DL.DefD := ⟨ky, ini, ps, N, defScope st, defBody st, mu, dn⟩
/-- a def's parameters bind as they stand -/
def BindsAs (st : Stmt) (ps : List Str) : Prop := ∀ (name qual : Str) (body : List Stmt) (scope : Scope) (doc pm : Value) (an : Option Addr) (cdv ct : Value) (us : List Value), us.length = ps.length →
  bindArgs (PySem.W.fnOf name qual (defArgs st) body scope .none .none doc pm an cdv ct) ⟨us, []⟩ = pure (ps.zip us)
def BindsAsS (st : Stmt) (ps : List Str) : Prop := ∀ (name qual : Str) (body : List Stmt) (scope : Scope) (doc pm : Value) (an : Option Addr) (cdv ct : Value) (cc : Addr) (us : List Value), us.length = ps.length →
  bindArgs (PySem.W.ksFn name qual (defArgs st) body scope .none .none doc pm an cdv ct cc) ⟨us, []⟩ = pure (ps.zip us)
/-- names that a def may have -/
def nmB (N : List Str) : Bool := N.all fun x => !(x == ("__debug__" : Str)) && !(x == ("__classdict__" : Str))
theorem nmB_ok {N : List Str} (h : nmB N = true) : ∀ x ∈ N, (x == ("__debug__" : Str)) = false ∧ (x == ("__classdict__" : Str)) = false := fun x hx => by
  have := List.all_eq_true.mp h x hx
  rw [Bool.and_eq_true, Bool.not_eq_true', Bool.not_eq_true'] at this
  exact this
section
variable {P : Program} {w : World} {K : PySem.W.Frag} {mg : Str → Option Value} {base h : Heap} {x c a : Str} {st : Stmt} {ps N mu dn : List Str} {d : DefH}
theorem def_glo (X : K.In h) (G : h.Ns mainGlobals mg) (e : fnS K d.at_ = d.val) (ok : fnOkB K d = true) (hs : d.sup = false) (hat : d.at_ = .glo x) (hst : d.st = st) (hg : (He.Fa.glo x).ok K = true) (hk : PySem.W.keepIn K (.ref (He.ga K x)) = true)
    (hd : (x == ("__debug__" : Str)) = false) (hn : nmB N = true) (S : FnScope N ps (defScope st)) (hl : ps.length ≤ N.length) (hb : BindsAs st ps) : DefOk K mg (mkD (.fn x) none st ps N mu dn) := by
  obtain ⟨doc, pm, cdv, ct, oc, an, od, osl, lk, hcd⟩ := fn_row e ok hs
  rw [hst] at lk
  rw [hat] at lk
  exact ⟨nmB_ok hn, S, hl, _, _, _, _, .none, .none, doc, pm, cdv, ct, oc, an, od, osl, lk, hcd, Binds.all fun us h => hb _ _ _ _ _ _ _ _ _ us h, He.glo_ok X G hg, hk, hd⟩
theorem def_ini (X : K.In h) (G : h.Ns mainGlobals mg) (e : fnS K d.at_ = d.val) (ok : fnOkB K d = true) (hs : d.sup = false) (hat : d.at_ = .me c "__init__") (hst : d.st = st) (hg : (He.Fa.glo c).ok K = true) (hm : (He.Fa.mkr c).ok K = true)
    (hd : (c == ("__debug__" : Str)) = false) (hn : nmB N = true) (S : FnScope N ps (defScope st)) (hl : ps.length ≤ N.length) (hb : BindsAs st ps) : DefOk K mg (mkD (.fn c) (some c) st ps N mu dn) := by
  obtain ⟨doc, pm, cdv, ct, oc, an, od, osl, lk, hcd⟩ := fn_row e ok hs
  rw [hst] at lk
  rw [hat] at lk
  exact ⟨nmB_ok hn, S, hl, _, _, _, _, .none, .none, doc, pm, cdv, ct, oc, an, od, osl, lk, hcd, Binds.all fun us h => hb _ _ _ _ _ _ _ _ _ us h, rfl, He.glo_ok X G hg, He.mkr_ok hm, hd⟩
theorem def_prop (e : fnS K d.at_ = d.val) (ok : fnOkB K d = true) (hs : d.sup = false) (hat : d.at_ = .pr c a) (hst : d.st = st) (hc : (He.Fa.cls c).ok K = true) (hp : propB K c a = true)
    (hps : ps = ([("self" : Str)] : List Str)) (hn : nmB N = true) (S : FnScope N ps (defScope st)) (hl : ps.length ≤ N.length) (hb : BindsAs st ps) : DefOk K mg (mkD (.prop c a) none st ps N mu dn) := by
  obtain ⟨doc, pm, cdv, ct, oc, an, od, osl, lk, hcd⟩ := fn_row e ok hs
  rw [hst] at lk
  rw [hat] at lk
  exact ⟨nmB_ok hn, S, hl, _, _, _, _, .none, .none, doc, pm, cdv, ct, oc, an, od, osl, lk, hcd, Binds.all fun us h => hb _ _ _ _ _ _ _ _ _ us h, He.cls_ok hc, hps, _, propB_ok hp⟩
theorem def_meth (e : fnS K d.at_ = d.val) (ok : fnOkB K d = true) (hs : d.sup = false) (hat : d.at_ = .me c a) (hst : d.st = st) (hc : (He.Fa.cls c).ok K = true) (hm : (He.Fa.meth c a).ok K = true)
    (hn : nmB N = true) (S : FnScope N ps (defScope st)) (hl : ps.length ≤ N.length) (hb : BindsAs st ps) : DefOk K mg (mkD (.meth c a) none st ps N mu dn) := by
  obtain ⟨doc, pm, cdv, ct, oc, an, od, osl, lk, hcd⟩ := fn_row e ok hs
  rw [hst] at lk
  rw [hat] at lk
  exact ⟨nmB_ok hn, S, hl, _, _, _, _, .none, .none, doc, pm, cdv, ct, oc, an, od, osl, lk, hcd, Binds.all fun us h => hb _ _ _ _ _ _ _ _ _ us h, He.cls_ok hc, He.meth_ok hm⟩
/-- an own exception's __init__, of one field -/
theorem def_exc {f : Str} {fl : Str} (X : K.In h) (G : h.Ns mainGlobals mg) (e : fnS K d.at_ = d.val) (ok : fnOkB K d = true) (hs : d.sup = true) (hat : d.at_ = .me c "__init__") (hst : d.st = st) (hx : excB K fl c [f] = true) (hg : (He.Fa.glo c).ok K = true) (hd : (c == ("__debug__" : Str)) = false)
    (hno : PySem.W.nsIn K cStatics "thirdparty.any" = some none) (hsu : mg "super" = none) (htop : (P.main.scope.names.lookup ("super" : Str)).isSome = false) (hfl : ((P.main.file : Str) == fl) = true)
    (hbody : ∃ (p0 p1 ap cp ep q1 q2 q3 q4 : Pos) (msg : Expr), defBody st = body1 p0 p1 ap cp ep q1 q2 q3 q4 msg f x ∧ msgB [("self" : Str), x] msg = true ∧ starB msg = false ∧ (ap.endLine == cp.line) = true)
    (hpar : ∃ ar : Arg, ((defArgs st).posonlyargs ++ (defArgs st).args).head? = some ar ∧ ar.arg = ("self" : Str)) (S : FnScopeS [("self" : Str), x] [("self" : Str), x] (defScope st)) (hb : BindsAsS st [("self" : Str), x])
    (hks : (defScope st).names.lookup ("super" : Str) = some .globalImplicit) (hkc : (defScope st).names.lookup ("__class__" : Str) = some .free) (hx1 : (x == ("__debug__" : Str)) = false) (hx2 : (x == ("__classdict__" : Str)) = false) :
    ∃ fd, ExcK P K mg c ∧ Init1 P K c f x (He.ma K (He.ga K c) "__init__") fd := by
  obtain ⟨cc, doc, pm, cdv, ct, oc, an, od, osl, lk, hcd⟩ := fn_rowS e ok hs
  rw [hst] at lk
  rw [hat] at lk
  obtain ⟨O, h1, h2, h3, h4, h5, h6, h7, h8⟩ := excB_ok hx
  obtain ⟨p0, p1, ap, cp, ep, q1, q2, q3, q4, msg, eb, m1, m2, m3⟩ := hbody
  obtain ⟨ar, a1, a2⟩ := hpar
  have lk' : K.lookup (He.ma K (He.ga K c) "__init__") = some ⟨oc, od, .func (PySem.W.ksFn (nameOf st) d.qual (defArgs st) (defBody st) (defScope st) .none .none doc pm an cdv ct cc), osl⟩ := lk
  unfold supB at h8
  rw [lk'] at h8
  have h9 : (fileB K fl cdv && cellB K cc (He.ga K c)) = true := h8
  rw [Bool.and_eq_true] at h9
  obtain ⟨cda, ccl, cdd, vs, ccs, file, tf, rfl, l1, l2, l3⟩ := fileB_ok h9.1
  obtain ⟨cl, cld, csl, l4⟩ := cellB_ok h9.2
  have hf : ((P.main.file : Str) == file) = true := by
    rw [beq_iff_eq] at hfl l3 ⊢
    rw [hfl]; exact l3
  rw [eb] at lk'
  refine ⟨_, ⟨O, hno, h1, h2, h3, h4, hsu, htop, by decide +kernel, He.glo_ok X G hg, hd⟩, ⟨h5, h6, h7 f List.mem_cons_self, cc, cda, nameOf st, d.qual, defArgs st, defScope st, .none, .none, doc, pm, ct, oc, cl, ccl, an, od, cld, cdd, osl, csl, ccs, vs, file, tf, ar,
    p0, p1, ap, cp, ep, q1, q2, q3, q4, msg, rfl, lk', hcd, l4, l1, l2, hf, a1, a2, Binds.all fun us h => hb _ _ _ _ _ _ _ _ _ _ us h, S, m1, m2, m3, hks, hkc, hx1, hx2⟩⟩
end
end DL

set_option maxHeartbeats 4000000
/-! DH5: the law's own def; what is left to show of it. -/
namespace DL
open PySem PySem.Spec PyProof.Rows L2
section
variable {P : Program} {w : World} {K : PySem.W.Frag} {mg : Str → Option Value} {base h : Heap} {C0 : Cn} {n : Nat}
/-- a def over others, its function object told -/
theorem fn_den {ds : List DL.DefD} {d : DL.DefD} (M : MdOk P w K mg base C0) (hds : ∀ d ∈ ds, DefOk K mg d) (hd : DefOk K mg d) (hi : d.ini = none) {f : Addr} {name qual : Str} {params : Arguments} {doc pm cdv ct oc : Value} {an od : Option Addr} {osl : Array (Option Value)}
    (lk : K.lookup f = some ⟨oc, od, .func (PySem.W.fnOf name qual params d.body d.sc .none .none doc pm an cdv ct), osl⟩) (hcd : PySem.W.codeIn K cdv qual = true) :
    FnOk P w K mg base (L2.CX P w) (2 * ds.length + 4) f (PySem.W.fnOf name qual params d.body d.sc .none .none doc pm an cdv ct) d.ps (spD K (runD (cnOf C0 (den C0 n ds) (knw ds) d) n d)) := by
  refine fn_of (k := 2 * ds.length + 3) lk hcd hd.S (fun vs H Q E h => ?_) fun A outer s H vs Q E hr h => ?_
  · obtain ⟨xs, c, w', _, _, r, x⟩ := h
    unfold runD at x
    rw [hi] at x
    dsimp only at x
    by_cases hl : xs.length = d.ps.length
    · rw [r.length, hl]
    · rw [if_neg hl] at x; exact x.elim
  · obtain ⟨xs, c, w', rfl, hf, r, x⟩ := h
    unfold runD at x
    rw [hi] at x
    dsimp only at x
    by_cases hl : xs.length = d.ps.length
    · rw [if_pos hl] at x
      refine ⟨_, (sndS n).ss (startD d.N xs) d.body (sk_of M (by omega) hd (all_ok (n := n) M hds) hr), w', c, w', rfl, start_rep hf r, ?_⟩
      exact outD_ok (X := cxOf (L2.CX P w) P w K mg base d.N qual d.sc f cdv A outer s w'.H E) x
    · rw [if_neg hl] at x; exact x.elim
/-- the law's promise, from its meaning -/
theorem law_sp {φ : List D → DM RV} {H : Hp} {a : Addr} {ns : List Int} {c : Option (List Int)} (hs : SqL K H a (ns.map V.int)) (hφ : φ [.scr ns] none = .ok (.fz (.bl true)) c) : spD K φ [.ref a] H (fun v _ => v = .bl true) fun _ _ _ => False := by
  refine ⟨[.scr ns], none, ⟨none, H, H, none⟩, rfl, ⟨Same.refl _, .inl ⟨rfl, rfl⟩⟩, ?_, ?_⟩
  · simp only [Reps, Rep]
    exact ⟨_, _, rfl, ⟨a, rfl, hs⟩, rfl⟩
  · rw [hφ]
    intro w' g f v rv
    simpa [RepV, Rep] using rv
theorem cx_no {s : Shared} {H : Hp} {e : Value} {s' : Shared} (h : L2.CX P w [] H s (fun _ _ _ => False) e s') : False := by
  obtain ⟨_, _, _, _, _, _, _, _, _, _, _, _, z⟩ := h
  exact z
/-- an error's end, in whatever program and world -/
def CXE : CXT := fun outer H s E u s' => ∃ (P : Program) (w : World), L2.CX P w outer H s E u s'
theorem fn_cx {k : Nat} {f : Addr} {fd : FuncData} {ps : List Str} {sp : Sp} (F : FnOk P w K mg base (L2.CX P w) k f fd ps sp) : FnOk P w K mg base CXE k f fd ps sp :=
  ⟨F.len, fun A outer s H args us vs Q E hr e0 hb r hs => codeAny_mono (F.run A outer s H args us vs Q E hr e0 hb r hs) fun r s' h => by
    cases r with
    | error e => exact ⟨P, w, h⟩
    | ok fl => cases fl <;> exact h⟩
theorem cxe_no {s : Shared} {H : Hp} {e : Value} {s' : Shared} (h : CXE [] H s (fun _ _ _ => False) e s') : False := by
  obtain ⟨P, w, h⟩ := h
  exact cx_no h
end
end DL

set_option maxHeartbeats 4000000
/-! DR1: the law's run where it is called alone (what stands around is known there). -/
namespace DL
open PySem PySem.Spec PyProof.Rows L2
/-- the law's promise at its own call -/
def RunAt (P : Program) (w : World) (K : PySem.W.Frag) (mg : Str → Option Value) (base : Heap) (CX : CXT) (fa : Addr) (sp : Sp) : Prop := ∀ (s : Shared) (H : Hp) (a : Addr), Env0 P w K mg base callerA [] s H →
  sp [.ref a] H (fun v _ => v = .bl true) (fun _ _ _ => False) → codeAny (model P w) callerA (.call (.ref fa) ⟨[.ref a], []⟩) (CR CX [] P w H s (fun v _ => v = .bl true) fun _ _ _ => False) s
theorem law_at {P : Program} {w : World} {K : PySem.W.Frag} {mg mb : Str → Option Value} {CX : CXT} {fa a : Addr} {sp : Sp} {s₁ : Shared} {vs : List Value} {ns : List Int}
    (KX : K.In s₁.heap) (hns : s₁.heap.Ns mainGlobals mg) (hb : s₁.heap.Ns builtinsNs mb) (hbb : ∀ x : Str, x ≠ "__name__" → mb x = bootBuiltins x) (hlim : s₁.heap.NoLimit) (hg : s₁.gens = #[])
    (ha : s₁.heap.get? a = some { cls := .type "list", data := .seq vs.toArray }) (hi : IntsAre vs ns) (hl : ns.length ≤ sizeLine)
    (F : ∀ base : Heap, K.In base → base.Ns mainGlobals mg → RunAt P w K mg base CX fa sp)
    (hsp : ∀ H : Hp, Only H → SqL K H a (ns.map V.int) → sp [.ref a] H (fun v _ => v = .bl true) fun _ _ _ => False)
    (hCX : ∀ H e s', CX [] H s₁ (fun _ _ _ => False) e s' → False) :
    codeAny (model P w) callerA (.call (.ref fa) ⟨[.ref a], []⟩) (fun r s' => r = .ok (.ret (.bool true)) ∧ OldK s₁.heap s'.heap ∧ s'.os = s₁.os ∧ AllBare s'.gens) s₁ := by
  have rv := vals_ints hi
  have len := hi.length
  have go : ∀ H : Hp, Only H → SqL K H a (ns.map V.int) → HOk P w H s₁.heap → (∀ b, H b ≠ none → b = a ∧ K.lookup a = none) →
      codeAny (model P w) callerA (.call (.ref fa) ⟨[.ref a], []⟩) (fun r s' => r = .ok (.ret (.bool true)) ∧ OldK s₁.heap s'.heap ∧ s'.os = s₁.os ∧ AllBare s'.gens) s₁ := by
    intro H hO hS hok hA
    have seq_no : ∀ {b : Addr} {o : Obj} {es : Array DictEntry} {ep : Nat}, s₁.heap.get? b = some o → o.data = .dict es ep → H b = none := fun {b o es ep} e d => by
      by_cases q : H b = none
      · exact q
      · obtain ⟨rfl, _⟩ := hA b q
        rw [ha] at e
        cases e
        have d2 : Data.seq vs.toArray _ = Data.dict es ep := d
        cases d2
    have keepNs : ∀ {b : Addr} {m : Str → Option Value}, s₁.heap.Ns b m → (hidT s₁.heap H).Ns b m := fun {b m} ⟨o, es, ep, e, d, r⟩ => ⟨o, es, ep, hidT_get e (seq_no e d), d, r⟩
    have keepK : K.In (hidT s₁.heap H) := fun b o e => by
      by_cases q : H b = none
      · exact hidT_get (KX b o e) q
      · obtain ⟨rfl, n⟩ := hA b q
        rw [n] at e
        cases e
    have mod : Mod K mg (hidT s₁.heap H) := ⟨keepK, keepNs hns, ⟨mb, keepNs hb, hbb⟩, by obtain ⟨mc, h1, h2⟩ := hlim; exact ⟨mc, keepNs h1, h2⟩⟩
    have env : Env0 P w K mg (hidT s₁.heap H) callerA [] s₁ H := ⟨rfl, mod, fun b o e => of_hidT e, Nat.le_of_eq (hidT_size _ _), trivial, fun b hb => absurd (show b ∈ ([] : List Addr) from hb) (by simp), hok, .of_eq hg⟩
    refine codeAny_mono (F _ keepK (keepNs hns) s₁ H a env (hsp H hO hS)) fun r s' h => ?_
    match r, h with
    | .error e, h => exact (hCX H e s' h).elim
    | .ok .next, h => exact False.elim h
    | .ok .brk, h => exact False.elim h
    | .ok .cont, h => exact False.elim h
    | .ok (.ret u), h =>
      obtain ⟨v, H', os, bare, un, hok', r', q⟩ := h
      have ev : v = .bl true := q
      subst ev
      have eu : u = Value.bool true := r'
      refine ⟨by rw [eu], OldK.of_keep fun b o e => ?_, os, bare⟩
      rcases hO b with z | ⟨ob, xs, z⟩
      · exact un.keep b o e z (fun z => absurd (show b ∈ ([] : List Addr) from z) (by simp)) (by simp)
      · have z2 := un.frzs b ob _ z
        have e1 := (hok b _ z).1
        rw [e] at e1
        cases e1
        exact (hok' b _ z2).1
  cases hk : K.lookup a with
  | some o =>
    have e := KX a o hk
    rw [ha] at e
    cases e
    refine go (fun _ => none) (fun _ => .inl rfl) (.inr ⟨_, vs.toArray, _, hk, rfl, rfl, rfl, by rw [List.size_toArray, len]; exact hl, by simpa using rv⟩) (fun b u z => by cases z) fun b z => absurd rfl z
  | none =>
    refine go (fun b => if b = a then some (.frz { cls := .type "list", data := .seq vs.toArray } (.lst (ns.map V.int))) else none) (fun b => ?_) (.inl (.inr ⟨_, if_pos rfl⟩)) (fun b u z => ?_) fun b z => ?_
    · by_cases e : b = a
      · exact .inr ⟨_, _, if_pos e⟩
      · exact .inl (if_neg e)
    · by_cases e : b = a
      · have z' := (if_pos e).symm.trans z
        cases z'
        subst e
        exact ⟨ha, by rw [List.length_map]; exact hl, vs, _, rv, ha⟩
      · have z' := (if_neg e).symm.trans z
        cases z'
    · by_cases e : b = a
      · exact ⟨e, hk⟩
      · exact absurd (if_neg e) z
/-- the goal behind the head, from the law's run at its own call -/
theorem walk_at {l : PySem.W.OpenLaw} {n : Nat} {q : Program} {loose : List Str} {XP : (Str → Option Value) → Heap → Prop} {YP : World → Heap → Prop} {d : DefRec} {CX : CXT}
    (hn : l.most = some n) (hn2 : n ≤ sizeLine) (hdf : d.params.defaults = [])
    (F : ∀ (w : World) (mg : Str → Option Value) (fa : Addr) (h : Heap), YP w h → h.Ns mainGlobals mg → mg d.name = some (.ref fa) →
      ∃ (K : PySem.W.Frag) (sp : Sp), K.In h ∧ (∀ (H : Hp) (a : Addr) (ns : List Int), ns.length ≤ n → Only H → SqL K H a (ns.map V.int) → sp [.ref a] H (fun v _ => v = .bl true) fun _ _ _ => False) ∧
        ∀ base : Heap, K.In base → base.Ns mainGlobals mg → RunAt l.prog w K mg base CX fa sp)
    (hCX : ∀ (H : Hp) (s : Shared) (e : Value) (s' : Shared), CX [] H s (fun _ _ _ => False) e s' → False) :
    PySem.W.WalkO q loose XP YP l.row.toRowW d [] (fun f vs => PySem.call f vs) := by
  refine Att.attach_call hn hdf fun w s₀ s₁ mg mb fa o pm cd doc a vs ns G Y ho hd hcd hmg hobj hints hlen hg => ?_
  obtain ⟨K, sp, KX, hsp, hF⟩ := F w mg fa _ Y G.T.g hmg
  exact law_at KX G.T.g G.T.b G.T.builtins G.T.nolimit hg hobj hints (Nat.le_trans hlen hn2) hF (fun H hO hS => hsp H a ns hlen hO hS) fun H e s' => hCX H s₁ e s'
end DL

set_option maxHeartbeats 4000000
/-! DR2: a def of one parameter run at the law's own call. -/
namespace DL
open PySem PySem.Spec PyProof.Rows L2
theorem run_of {CX : CXT} {P : Program} {w : World} {K : PySem.W.Frag} {mg : Str → Option Value} {base : Heap} {k : Nat} {f : Addr} {name qual x : Str} {params : Arguments} {body : List Stmt} {scope : Scope} {dV kV doc pm cdv ct oc : Value} {an od : Option Addr}
    {osl : Array (Option Value)} {N : List Str} {sp : Sp} (lk : K.lookup f = some ⟨oc, od, .func (PySem.W.fnOf name qual params body scope dV kV doc pm an cdv ct), osl⟩) (hcd : PySem.W.codeIn K cdv qual = true) (S : FnScope N [x] scope) (hr : Room (k + 1) callerA)
    (hb : ∀ (s : Shared) (u : Value), BindsTo s (PySem.W.fnOf name qual params body scope dV kV doc pm an cdv ct) ⟨[u], []⟩ [(x, u)])
    (hbody : ∀ (s : Shared) (H : Hp) (a : Addr), sp [.ref a] H (fun v _ => v = .bl true) (fun _ _ _ => False) →
      ∃ t, PSs (cxOf CX P w K mg base N qual scope f cdv callerA [] s H fun _ _ _ => False) body t ∧ t { nx := fun _ _ => False, rt := fun v _ => v = .bl true } (L2.start N [.ref a]) H) : RunAt P w K mg base CX f sp := by
  intro s H a e0 hs
  have KX : K.In s.heap := e0.mod.kin.keeps fun b o e => (e0.bs b o e).1
  have nl : s.heap.NoLimit := e0.mod.nolimit.keeps fun b o e => (e0.bs b o e).1
  have par : ∀ y ∈ ([(x, Value.ref a)] : List (Str × Value)), scope.names.lookup y.1 = some .local ∨ (scope.names.lookup y.1 = some .cell ∧ ((cellsFrom (s.heap.objs.size + 1) scope.names []).lookup y.1).isSome = true) := fun y hy => by
    rw [List.mem_singleton] at hy
    subst hy
    rcases S.par x List.mem_cons_self with q | q
    · exact .inl q
    · exact .inr ⟨q, PySem.W.cellsFrom_some _ _ _ (.inl q)⟩
  refine codeAny_call_function hr.depth (KX _ _ lk) rfl S.co S.gen rfl (PySem.W.codeRec_of KX hcd) (hb s (.ref a) _ _ _ _ ?_)
  refine wpAny_newFunctionEnv_cells S.kind par fun env he s1 q => ?_
  subst he
  refine ⟨nl.keeps q.toInCall.keep, codeAny_func ?_⟩
  obtain ⟨t, ht, hq⟩ := hbody s H a hs
  have I := inv_start (CX := CX) (E := fun _ _ _ => False) (ps := [x]) (us := [.ref a]) (vs := [.ref a]) S hr.hd e0 rfl (.cons rfl .nil) q
  refine wpAny_mono (ht.run [] s1 (L2.start N [.ref a]) H _ I hq) (fun fl s' h => ?_) fun e s' h => h
  match fl, h with
  | .ret u, h =>
    obtain ⟨v, σ', H', J, rv, q⟩ := h
    exact ⟨v, H', J.os, J.bare, J.base, J.hok, rv, q⟩
  | .next, h => obtain ⟨_, _, _, z⟩ := h; exact z.elim
  | .brk, h => obtain ⟨_, _, _, z⟩ := h; exact z.elim
  | .cont, h => obtain ⟨_, _, _, z⟩ := h; exact z.elim
end DL

set_option maxHeartbeats 4000000
/-! DR3: the law's def, run at its own call, where repr may be asked. -/
namespace DL
open PySem PySem.Spec PyProof.Rows L2
section
variable {P : Program} {w : World} {K : PySem.W.Frag} {mg : Str → Option Value} {base h : Heap} {C0 : Cn} {n : Nat}
theorem sk_at {k : Nat} {dn : Ky → List D → DM RV} {kn : Ky → Bool} {d : DefD} (M : MdOk P w K mg base C0) (hk : 3 ≤ k) (hd : DefOk K mg d) (hF : ∀ κ, kn κ = true → FnM P w K mg base k (dn κ) κ) {f : Addr} {qual : Str} {cdv : Value} {A : Around} {outer : List Env} {s : Shared} {H : Hp} {E : XK}
    (hr : Room k (A.deeper (envOfC qual d.sc s.heap.objs.size f cdv))) (hg : (A.deeper (envOfC qual d.sc s.heap.objs.size f cdv)).guards = some []) :
    Sk (cxOf (L2.CX P w) P w K mg base d.N qual d.sc f cdv A outer s H E) (cnOf { C0 with rp := true } dn kn d) (fun cls d _ H => E cls d H) where
  N := rfl
  nd := hd.S.nd
  sc := rfl
  calm := rfl
  tk := takes_of rfl rfl rfl rfl
  hu := hr.units
  nm := hd.nm
  ki := M.ki
  free := M.free
  fn := fun x h => by
    have z := hF (.fn x) h
    cases z with
    | fn F hm hk' hb db => exact .fn F hr hm hk' hb db
    | cl M F hj hm hb db => exact .cl M F (hr.mono hj) hm hb db
  fl := M.fl
  pr := fun c f h => by
    have z := hF (.prop c f) h
    cases z with
    | prop hc hp F hj hb => exact ⟨hc, _, _, _, _, hp, F, hr.mono hj, hb⟩
  mt := fun c f h => by
    have z := hF (.meth c f) h
    cases z with
    | meth hc hm F hb => exact ⟨hc, _, _, _, _, hm, F, hr, hb⟩
  ca := M.ca
  gd := fun _ => hg
  clf := fun _ _ => rfl
  isT := M.isT
  po := passes_of rfl
  ex := fun c fs hg h Y e1 e2 e3 e4 e5 e6 e7 e8 => M.ex c fs h Y e1 e2 e3 e4 e5 e6 (by rw [e7]; exact hr.mono hk) (by show Y.env.scope.names.lookup c = _; rw [e8]; exact glB_ok hg)
  stk := rfl
  fr := rfl
  xs := M.xs
  xfn := M.xfn
theorem den_at {ds : List DL.DefD} {d : DL.DefD} (M : MdOk P w K mg base C0) (hds : ∀ d ∈ ds, DefOk K mg d) (hd : DefOk K mg d) (hi : d.ini = none) {x : Str} (hps : d.ps = [x]) {f : Addr} {name qual : Str} {params : Arguments} {doc pm cdv ct oc : Value} {an od : Option Addr} {osl : Array (Option Value)}
    (lk : K.lookup f = some ⟨oc, od, .func (PySem.W.fnOf name qual params d.body d.sc .none .none doc pm an cdv ct), osl⟩) (hcd : PySem.W.codeIn K cdv qual = true) (hr : Room (2 * ds.length + 4) callerA)
    (hb : ∀ (s : Shared) (u : Value), BindsTo s (PySem.W.fnOf name qual params d.body d.sc .none .none doc pm an cdv ct) ⟨[u], []⟩ [(x, u)]) :
    RunAt P w K mg base (L2.CX P w) f (spD K (runD (cnOf { C0 with rp := true } (den C0 n ds) (knw ds) d) n d)) := by
  have S := hd.S
  rw [hps] at S
  refine run_of (k := 2 * ds.length + 3) lk hcd S hr hb fun s H a h => ?_
  obtain ⟨xs, c, w', rfl, hf, r, x⟩ := h
  unfold runD at x
  rw [hi] at x
  dsimp only at x
  by_cases hl : xs.length = d.ps.length
  · rw [if_pos hl] at x
    have z := outD_ok (X := cxOf (L2.CX P w) P w K mg base d.N qual d.sc f cdv callerA [] s w'.H fun _ _ _ => False) (Q := fun v _ => v = V.bl true) x
    have e : ({ nx := fun _ H' => (fun (v : V) (_ : Hp) => v = V.bl true) V.non H', rt := fun v _ => v = V.bl true } : Ends) = { nx := fun _ _ => False, rt := fun v _ => v = V.bl true } := by
      congr 1
      funext _ _
      exact propext ⟨fun q => (nomatch q), False.elim⟩
    rw [e] at z
    refine ⟨_, (sndS n).ss (startD d.N xs) d.body (sk_at M (by omega) hd (all_ok (n := n) M hds) (hr.deeper _) rfl), w', c, w', rfl, start_rep hf r, z⟩
  · rw [if_neg hl] at x; exact x.elim
theorem run_cx {f : Addr} {sp : Sp} (F : RunAt P w K mg base (L2.CX P w) f sp) : RunAt P w K mg base CXE f sp := fun s H a e0 hs => codeAny_mono (F s H a e0 hs) fun r s' h => by
  cases r with
  | error e => exact ⟨P, w, h⟩
  | ok fl => cases fl <;> exact h
end
end DL

set_option maxHeartbeats 0
/-! law_k20_holders_of_an_inner_lot: the head (printed by gen.py). -/
namespace DLaw
open PySem PySem.Spec PyProof.Rows L2 DL
def top (i : Nat) : Stmt := PySem.Challenge.pw_leastgates_k20_holders_of_an_inner_lot.main.body.getD i (.Pass ⟨0, 0, 0, 0⟩)
def inCls (s : Stmt) (x : Str) : Stmt := match s with
  | .ClassDef _ _ _ body _ _ _ _ _ _ _ => (body.find? fun t => decide (nameOf t = x)).getD (.Pass ⟨0, 0, 0, 0⟩)
  | _ => .Pass ⟨0, 0, 0, 0⟩
abbrev R : PySem.W.OpenRow := PySem.W.OpenLaw.row PySem.Challenge.rw_leastgates_k20_holders_of_an_inner_lot
abbrev fl : Str := PySem.Challenge.pw_leastgates_k20_holders_of_an_inner_lot.main.file
abbrev s_flaw : Stmt := top 71
def h_flaw : DefH := ⟨.glo "law", s_flaw, "law", false⟩
def d_flaw : DL.DefD := mkD (.fn "law") none s_flaw ["_law_script"] ["_law_script", "_law_draws_here", "_law_told", "_law_size", "_law_ties", "_law_kind_here", "_law_world_here", "_law_net_here", "_law_outer", "_law_inner", "_law_outer_holders", "_law_inner_holders", "_law_place", "_law_rule", "_law_lot_here", "_law_one"] []
abbrev s_f_law_draws : Stmt := top 48
def h_f_law_draws : DefH := ⟨.glo "_law_draws", s_f_law_draws, "_law_draws", false⟩
def d_f_law_draws : DL.DefD := mkD (.fn "_law_draws") none s_f_law_draws ["_law_script"] ["_law_script", "_law_draws_here", "_law_at", "_law_cell", "_law_k", "_law_seed"] ["_law_draws_here"]
abbrev s_f_law_net : Stmt := top 54
def h_f_law_net : DefH := ⟨.glo "_law_net", s_f_law_net, "_law_net", false⟩
def d_f_law_net : DL.DefD := mkD (.fn "_law_net") none s_f_law_net ["_law_draws_here", "_law_most"] ["_law_draws_here", "_law_most", "_law_word", "_law_size", "_law_turn", "_law_ties", "_law_place", "_law_double", "_law_other", "_law_told", "_law_ringed", "_law_tie", "_law_k"] ["_law_ties"]
abbrev s_f_law_told_net : Stmt := top 52
def h_f_law_told_net : DefH := ⟨.glo "_law_told_net", s_f_law_told_net, "_law_told_net", false⟩
def d_f_law_told_net : DL.DefD := mkD (.fn "_law_told_net") none s_f_law_told_net ["_law_draws_here"] ["_law_draws_here", "_law_menu"] ["_law_menu"]
abbrev s_f_law_free_ties : Stmt := top 53
def h_f_law_free_ties : DefH := ⟨.glo "_law_free_ties", s_f_law_free_ties, "_law_free_ties", false⟩
def d_f_law_free_ties : DL.DefD := mkD (.fn "_law_free_ties") none s_f_law_free_ties ["_law_draws_here", "_law_size", "_law_many"] ["_law_draws_here", "_law_size", "_law_many", "_law_ties", "_law_k", "_law_first"] ["_law_ties"]
abbrev s_f_law_kind : Stmt := top 55
def h_f_law_kind : DefH := ⟨.glo "_law_kind", s_f_law_kind, "_law_kind", false⟩
def d_f_law_kind : DL.DefD := mkD (.fn "_law_kind") none s_f_law_kind ["_law_draws_here"] ["_law_draws_here"] []
abbrev s_f_law_world : Stmt := top 57
def h_f_law_world : DefH := ⟨.glo "_law_world", s_f_law_world, "_law_world", false⟩
def d_f_law_world : DL.DefD := mkD (.fn "_law_world") none s_f_law_world ["_law_draws_here", "_law_many"] ["_law_draws_here", "_law_many", "_law_word", "_law_world_here", "_law_at", "_law_k", "_law_entry"] ["_law_world_here"]
abbrev s_f_law_built : Stmt := top 56
def h_f_law_built : DefH := ⟨.glo "_law_built", s_f_law_built, "_law_built", false⟩
def d_f_law_built : DL.DefD := mkD (.fn "_law_built") none s_f_law_built ["_law_kind_here", "_law_size", "_law_ties"] ["_law_kind_here", "_law_size", "_law_ties"] []
abbrev s_iTwoway : Stmt := inCls (top 27) "__init__"
def h_iTwoway : DefH := ⟨.me "Twoway" "__init__", s_iTwoway, "Net.__init__", false⟩
def d_iTwoway : DL.DefD := mkD (.fn "Twoway") (some "Twoway") s_iTwoway ["self", "size", "ties"] ["self", "size", "ties", "at", "tie"] []
abbrev s_iOneway : Stmt := inCls (top 27) "__init__"
def h_iOneway : DefH := ⟨.me "Oneway" "__init__", s_iOneway, "Net.__init__", false⟩
def d_iOneway : DL.DefD := mkD (.fn "Oneway") (some "Oneway") s_iOneway ["self", "size", "ties"] ["self", "size", "ties", "at", "tie"] []
abbrev s_fis_pair : Stmt := top 26
def h_fis_pair : DefH := ⟨.glo "is_pair", s_fis_pair, "is_pair", false⟩
def d_fis_pair : DL.DefD := mkD (.fn "is_pair") none s_fis_pair ["size", "pair"] ["size", "pair", "place"] []
abbrev s_f_law_refuses : Stmt := top 69
def h_f_law_refuses : DefH := ⟨.glo "_law_refuses", s_f_law_refuses, "_law_refuses", false⟩
def d_f_law_refuses : DL.DefD := mkD (.fn "_law_refuses") none s_f_law_refuses ["_law_draws_here", "_law_size", "_law_net_here", "_law_world_here", "_law_lot_here"] ["_law_draws_here", "_law_size", "_law_net_here", "_law_world_here", "_law_lot_here", "_law_wrong", "_law_rows", "_law_row"] ["_law_rows"]
abbrev s_f_law_refusal : Stmt := top 68
def h_f_law_refusal : DefH := ⟨.glo "_law_refusal", s_f_law_refusal, "_law_refusal", false⟩
def d_f_law_refusal : DL.DefD := mkD (.fn "_law_refusal") none s_f_law_refusal ["_law_net_here", "_law_world_here", "_law_lot_here"] ["_law_net_here", "_law_world_here", "_law_lot_here", "_law_told", "error"] []
abbrev s_f_law_held_draw : Stmt := top 67
def h_f_law_held_draw : DefH := ⟨.glo "_law_held_draw", s_f_law_held_draw, "_law_held_draw", false⟩
def d_f_law_held_draw : DL.DefD := mkD (.fn "_law_held_draw") none s_f_law_held_draw ["_law_draws_here", "_law_kind_here", "_law_size", "_law_ties", "_law_world_here"] ["_law_draws_here", "_law_kind_here", "_law_size", "_law_ties", "_law_world_here", "_law_lot_here", "_law_two_here", "_law_lots_here", "_law_least", "_law_found"] []
abbrev s_f_law_lot : Stmt := top 58
def h_f_law_lot : DefH := ⟨.glo "_law_lot", s_f_law_lot, "_law_lot", false⟩
def d_f_law_lot : DL.DefD := mkD (.fn "_law_lot") none s_f_law_lot ["_law_draws_here", "_law_size"] ["_law_draws_here", "_law_size", "_law_place"] []
abbrev s_f_law_two : Stmt := top 59
def h_f_law_two : DefH := ⟨.glo "_law_two", s_f_law_two, "_law_two", false⟩
def d_f_law_two : DL.DefD := mkD (.fn "_law_two") none s_f_law_two ["_law_draws_here", "_law_size"] ["_law_draws_here", "_law_size", "_law_first", "_law_second"] []
abbrev s_f_law_sublot : Stmt := top 66
def h_f_law_sublot : DefH := ⟨.glo "_law_sublot", s_f_law_sublot, "_law_sublot", false⟩
def d_f_law_sublot : DL.DefD := mkD (.fn "_law_sublot") none s_f_law_sublot ["_law_draws_here", "_law_lot_here"] ["_law_draws_here", "_law_lot_here", "_law_inner", "_law_place"] []
abbrev s_f_law_take : Stmt := top 49
def h_f_law_take : DefH := ⟨.glo "_law_take", s_f_law_take, "_law_take", false⟩
def d_f_law_take : DL.DefD := mkD (.fn "_law_take") none s_f_law_take ["_law_draws_here", "_law_many"] ["_law_draws_here", "_law_many", "_law_at"] ["_law_draws_here"]
abbrev s_fheld_lots : Stmt := top 46
def h_fheld_lots : DefH := ⟨.glo "held_lots", s_fheld_lots, "held_lots", false⟩
def d_fheld_lots : DL.DefD := mkD (.fn "held_lots") none s_fheld_lots ["net", "world", "holders"] ["net", "world", "holders", "lot", "held"] []
abbrev s_fmarked_lots : Stmt := top 45
def h_fmarked_lots : DefH := ⟨.glo "marked_lots", s_fmarked_lots, "marked_lots", false⟩
def d_fmarked_lots : DL.DefD := mkD (.fn "marked_lots") none s_fmarked_lots ["net", "world", "holders"] ["net", "world", "holders", "least", "marked", "lot", "own", "below", "place"] ["least", "marked"] ["least"]
abbrev s_flots_from : Stmt := top 23
def h_flots_from : DefH := ⟨.glo "lots_from", s_flots_from, "lots_from", false⟩
def d_flots_from : DL.DefD := mkD (.fn "lots_from") none s_flots_from ["inner", "outer"] ["inner", "outer", "more"] []
abbrev s_fboth : Stmt := top 19
def h_fboth : DefH := ⟨.glo "both", s_fboth, "both", false⟩
def d_fboth : DL.DefD := mkD (.fn "both") none s_fboth ["one", "other"] ["one", "other", "place"] []
abbrev s_fby_size : Stmt := top 22
def h_fby_size : DefH := ⟨.glo "by_size", s_fby_size, "by_size", false⟩
def d_fby_size : DL.DefD := mkD (.fn "by_size") none s_fby_size ["places"] ["places", "found", "level", "_", "lot", "place"] []
abbrev s_fall_lot : Stmt := top 30
def h_fall_lot : DefH := ⟨.glo "all_lot", s_fall_lot, "all_lot", false⟩
def d_fall_lot : DL.DefD := mkD (.fn "all_lot") none s_fall_lot ["net"] ["net"] []
abbrev s_fminus : Stmt := top 20
def h_fminus : DefH := ⟨.glo "minus", s_fminus, "minus", false⟩
def d_fminus : DL.DefD := mkD (.fn "minus") none s_fminus ["one", "other"] ["one", "other", "place"] []
abbrev s_f_law_holders : Stmt := top 70
def h_f_law_holders : DefH := ⟨.glo "_law_holders", s_f_law_holders, "_law_holders", false⟩
def d_f_law_holders : DL.DefD := mkD (.fn "_law_holders") none s_f_law_holders ["_law_net_here", "_law_kind_here", "_law_size", "_law_ties", "_law_world_here", "_law_lot_here"] ["_law_net_here", "_law_kind_here", "_law_size", "_law_ties", "_law_world_here", "_law_lot_here", "_law_passed", "_law_answer", "_law_mine", "_law_place"] []
abbrev s_fholders_of : Stmt := top 44
def h_fholders_of : DefH := ⟨.glo "holders_of", s_fholders_of, "holders_of", false⟩
def d_fholders_of : DL.DefD := mkD (.fn "holders_of") none s_fholders_of ["net", "world", "lot"] ["net", "world", "lot", "place"] []
abbrev s_fworld_of : Stmt := top 33
def h_fworld_of : DefH := ⟨.glo "world_of", s_fworld_of, "world_of", false⟩
def d_fworld_of : DL.DefD := mkD (.fn "world_of") none s_fworld_of ["net", "world"] ["net", "world"] []
abbrev s_fcheck_world : Stmt := top 32
def h_fcheck_world : DefH := ⟨.glo "check_world", s_fcheck_world, "check_world", false⟩
def d_fcheck_world : DL.DefD := mkD (.fn "check_world") none s_fcheck_world ["many", "world"] ["many", "world", "at", "capacity"] []
abbrev s_pOnewaymany : Stmt := inCls (top 27) "many"
def h_pOnewaymany : DefH := ⟨.pr "Oneway" "many", s_pOnewaymany, "Net.many", false⟩
def d_pOnewaymany : DL.DefD := mkD (.prop "Oneway" "many") none s_pOnewaymany ["self"] ["self"] []
abbrev s_pTwowaymany : Stmt := inCls (top 27) "many"
def h_pTwowaymany : DefH := ⟨.pr "Twoway" "many", s_pTwowaymany, "Net.many", false⟩
def d_pTwowaymany : DL.DefD := mkD (.prop "Twoway" "many") none s_pTwowaymany ["self"] ["self"] []
abbrev s_flot_of : Stmt := top 15
def h_flot_of : DefH := ⟨.glo "lot_of", s_flot_of, "lot_of", false⟩
def d_flot_of : DL.DefD := mkD (.fn "lot_of") none s_flot_of ["size", "places"] ["size", "places"] []
abbrev s_fcheck_size : Stmt := top 14
def h_fcheck_size : DefH := ⟨.glo "check_size", s_fcheck_size, "check_size", false⟩
def d_fcheck_size : DL.DefD := mkD (.fn "check_size") none s_fcheck_size ["size"] ["size"] []
abbrev s_fsorted_lot : Stmt := top 16
def h_fsorted_lot : DefH := ⟨.glo "sorted_lot", s_fsorted_lot, "sorted_lot", false⟩
def d_fsorted_lot : DL.DefD := mkD (.fn "sorted_lot") none s_fsorted_lot ["size", "places"] ["size", "places", "at", "place"] []
abbrev s_fis_number : Stmt := top 13
def h_fis_number : DefH := ⟨.glo "is_number", s_fis_number, "is_number", false⟩
def d_fis_number : DL.DefD := mkD (.fn "is_number") none s_fis_number ["value"] ["value"] []
abbrev s_fcheck_filled : Stmt := top 17
def h_fcheck_filled : DefH := ⟨.glo "check_filled", s_fcheck_filled, "check_filled", false⟩
def d_fcheck_filled : DL.DefD := mkD (.fn "check_filled") none s_fcheck_filled ["lot", "name"] ["lot", "name"] []
abbrev s_fis_held : Stmt := top 43
def h_fis_held : DefH := ⟨.glo "is_held", s_fis_held, "is_held", false⟩
def d_fis_held : DL.DefD := mkD (.fn "is_held") none s_fis_held ["net", "world", "holders", "lot"] ["net", "world", "holders", "lot"] []
abbrev s_fflow_value : Stmt := top 41
def h_fflow_value : DefH := ⟨.glo "flow_value", s_fflow_value, "flow_value", false⟩
def d_fflow_value : DL.DefD := mkD (.fn "flow_value") none s_fflow_value ["net", "world", "starts", "goals"] ["net", "world", "starts", "goals"] []
abbrev s_frow_out : Stmt := top 40
def h_frow_out : DefH := ⟨.glo "row_out", s_frow_out, "row_out", false⟩
def d_frow_out : DL.DefD := mkD (.fn "row_out") none s_frow_out ["net", "row", "lot"] ["net", "row", "lot", "total", "tie", "one", "other"] []
abbrev s_fgreatest_row : Stmt := top 39
def h_fgreatest_row : DefH := ⟨.glo "greatest_row", s_fgreatest_row, "greatest_row", false⟩
def d_fgreatest_row : DL.DefD := mkD (.fn "greatest_row") none s_fgreatest_row ["net", "world", "starts", "goals"] ["net", "world", "starts", "goals", "row", "way", "by", "step", "_"] ["row"]
abbrev s_fshortest_way : Stmt := top 38
def h_fshortest_way : DefH := ⟨.glo "shortest_way", s_fshortest_way, "shortest_way", false⟩
def d_fshortest_way : DL.DefD := mkD (.fn "shortest_way") none s_fshortest_way ["size", "steps", "starts", "goals"] ["size", "steps", "starts", "goals", "came", "queue", "at", "place", "step", "_"] ["came", "queue"]
abbrev s_fway_back : Stmt := top 37
def h_fway_back : DefH := ⟨.glo "way_back", s_fway_back, "way_back", false⟩
def d_fway_back : DL.DefD := mkD (.fn "way_back") none s_fway_back ["came", "place"] ["came", "place", "way", "at"] ["way"]
abbrev s_fleft_steps : Stmt := top 36
def h_fleft_steps : DefH := ⟨.glo "left_steps", s_fleft_steps, "left_steps", false⟩
def d_fleft_steps : DL.DefD := mkD (.fn "left_steps") none s_fleft_steps ["net", "world", "row"] ["net", "world", "row", "steps", "twoway", "tie", "one", "other", "back"] ["steps"]
abbrev s_fcost_of : Stmt := top 34
def h_fcost_of : DefH := ⟨.glo "cost_of", s_fcost_of, "cost_of", false⟩
def d_fcost_of : DL.DefD := mkD (.fn "cost_of") none s_fcost_of ["net", "world", "lot"] ["net", "world", "lot", "total", "twoway", "tie", "one", "other"] []
abbrev s_frest : Stmt := top 21
def h_frest : DefH := ⟨.glo "rest", s_frest, "rest", false⟩
def d_frest : DL.DefD := mkD (.fn "rest") none s_frest ["size", "lot"] ["size", "lot", "place"] []
abbrev s_f_law_lot_ok : Stmt := top 51
def h_f_law_lot_ok : DefH := ⟨.glo "_law_lot_ok", s_f_law_lot_ok, "_law_lot_ok", false⟩
def d_f_law_lot_ok : DL.DefD := mkD (.fn "_law_lot_ok") none s_f_law_lot_ok ["_law_value", "_law_size"] ["_law_value", "_law_size", "_law_before", "_law_place"] []
abbrev s_f_law_int : Stmt := top 50
def h_f_law_int : DefH := ⟨.glo "_law_int", s_f_law_int, "_law_int", false⟩
def d_f_law_int : DL.DefD := mkD (.fn "_law_int") none s_f_law_int ["_law_value"] ["_law_value"] []
abbrev s_f_law_holds : Stmt := top 65
def h_f_law_holds : DefH := ⟨.glo "_law_holds", s_f_law_holds, "_law_holds", false⟩
def d_f_law_holds : DL.DefD := mkD (.fn "_law_holds") none s_f_law_holds ["_law_kind_here", "_law_size", "_law_ties", "_law_world_here", "_law_holders_here", "_law_lot_here"] ["_law_kind_here", "_law_size", "_law_ties", "_law_world_here", "_law_holders_here", "_law_lot_here", "_law_due", "_law_lots_here", "_law_inner"] []
abbrev s_f_law_lots : Stmt := top 64
def h_f_law_lots : DefH := ⟨.glo "_law_lots", s_f_law_lots, "_law_lots", false⟩
def d_f_law_lots : DL.DefD := mkD (.fn "_law_lots") none s_f_law_lots ["_law_size", "_law_inside", "_law_outside"] ["_law_size", "_law_inside", "_law_outside", "_law_lots_here", "_law_place", "_law_lot_here"] []
abbrev s_f_law_rest : Stmt := top 63
def h_f_law_rest : DefH := ⟨.glo "_law_rest", s_f_law_rest, "_law_rest", false⟩
def d_f_law_rest : DL.DefD := mkD (.fn "_law_rest") none s_f_law_rest ["_law_size", "_law_lot_here"] ["_law_size", "_law_lot_here", "_law_place"] []
abbrev s_f_law_cost : Stmt := top 62
def h_f_law_cost : DefH := ⟨.glo "_law_cost", s_f_law_cost, "_law_cost", false⟩
def d_f_law_cost : DL.DefD := mkD (.fn "_law_cost") none s_f_law_cost ["_law_kind_here", "_law_ties", "_law_world_here", "_law_lot_here"] ["_law_kind_here", "_law_ties", "_law_world_here", "_law_lot_here"] []
abbrev s_f_law_sum : Stmt := top 60
def h_f_law_sum : DefH := ⟨.glo "_law_sum", s_f_law_sum, "_law_sum", false⟩
def d_f_law_sum : DL.DefD := mkD (.fn "_law_sum") none s_f_law_sum ["_law_world_here", "_law_ties"] ["_law_world_here", "_law_ties", "_law_tie"] []
abbrev s_f_law_gates : Stmt := top 61
def h_f_law_gates : DefH := ⟨.glo "_law_gates", s_f_law_gates, "_law_gates", false⟩
def d_f_law_gates : DL.DefD := mkD (.fn "_law_gates") none s_f_law_gates ["_law_kind_here", "_law_ties", "_law_lot_here"] ["_law_kind_here", "_law_ties", "_law_lot_here", "_law_tie"] []
abbrev s_eBadNet : Stmt := inCls (top 5) "__init__"
def h_eBadNet : DefH := ⟨.me "BadNet" "__init__", s_eBadNet, "BadNet.__init__", true⟩
abbrev s_eBadNumber : Stmt := inCls (top 3) "__init__"
def h_eBadNumber : DefH := ⟨.me "BadNumber" "__init__", s_eBadNumber, "BadNumber.__init__", true⟩
abbrev s_eBadWorld : Stmt := inCls (top 6) "__init__"
def h_eBadWorld : DefH := ⟨.me "BadWorld" "__init__", s_eBadWorld, "BadWorld.__init__", true⟩
abbrev s_eBadLot : Stmt := inCls (top 4) "__init__"
def h_eBadLot : DefH := ⟨.me "BadLot" "__init__", s_eBadLot, "BadLot.__init__", true⟩
abbrev s_eEmptyLot : Stmt := inCls (top 8) "__init__"
def h_eEmptyLot : DefH := ⟨.me "EmptyLot" "__init__", s_eEmptyLot, "EmptyLot.__init__", true⟩
abbrev s_eTooMany : Stmt := inCls (top 10) "__init__"
def h_eTooMany : DefH := ⟨.me "TooMany" "__init__", s_eTooMany, "TooMany.__init__", true⟩
def dhs : List DefH := [h_flaw, h_f_law_draws, h_f_law_net, h_f_law_told_net, h_f_law_free_ties, h_f_law_kind, h_f_law_world, h_f_law_built, h_iTwoway, h_iOneway, h_fis_pair, h_f_law_refuses, h_f_law_refusal, h_f_law_held_draw, h_f_law_lot, h_f_law_two, h_f_law_sublot, h_f_law_take, h_fheld_lots, h_fmarked_lots, h_flots_from, h_fboth, h_fby_size, h_fall_lot, h_fminus, h_f_law_holders, h_fholders_of, h_fworld_of, h_fcheck_world, h_pOnewaymany, h_pTwowaymany, h_flot_of, h_fcheck_size, h_fsorted_lot, h_fis_number, h_fcheck_filled, h_fis_held, h_fflow_value, h_frow_out, h_fgreatest_row, h_fshortest_way, h_fway_back, h_fleft_steps, h_fcost_of, h_frest, h_f_law_lot_ok, h_f_law_int, h_f_law_holds, h_f_law_lots, h_f_law_rest, h_f_law_cost, h_f_law_sum, h_f_law_gates, h_eBadNet, h_eBadNumber, h_eBadWorld, h_eBadLot, h_eEmptyLot, h_eTooMany]
def dds : List DL.DefD := [d_flaw, d_f_law_draws, d_f_law_net, d_f_law_told_net, d_f_law_free_ties, d_f_law_kind, d_f_law_world, d_f_law_built, d_iTwoway, d_iOneway, d_fis_pair, d_f_law_refuses, d_f_law_refusal, d_f_law_held_draw, d_f_law_lot, d_f_law_two, d_f_law_sublot, d_f_law_take, d_fheld_lots, d_fmarked_lots, d_flots_from, d_fboth, d_fby_size, d_fall_lot, d_fminus, d_f_law_holders, d_fholders_of, d_fworld_of, d_fcheck_world, d_pOnewaymany, d_pTwowaymany, d_flot_of, d_fcheck_size, d_fsorted_lot, d_fis_number, d_fcheck_filled, d_fis_held, d_fflow_value, d_frow_out, d_fgreatest_row, d_fshortest_way, d_fway_back, d_fleft_steps, d_fcost_of, d_frest, d_f_law_lot_ok, d_f_law_int, d_f_law_holds, d_f_law_lots, d_f_law_rest, d_f_law_cost, d_f_law_sum, d_f_law_gates]
def rest : List DL.DefD := [d_f_law_draws, d_f_law_net, d_f_law_told_net, d_f_law_free_ties, d_f_law_kind, d_f_law_world, d_f_law_built, d_iTwoway, d_iOneway, d_fis_pair, d_f_law_refuses, d_f_law_refusal, d_f_law_held_draw, d_f_law_lot, d_f_law_two, d_f_law_sublot, d_f_law_take, d_fheld_lots, d_fmarked_lots, d_flots_from, d_fboth, d_fby_size, d_fall_lot, d_fminus, d_f_law_holders, d_fholders_of, d_fworld_of, d_fcheck_world, d_pOnewaymany, d_pTwowaymany, d_flot_of, d_fcheck_size, d_fsorted_lot, d_fis_number, d_fcheck_filled, d_fis_held, d_fflow_value, d_frow_out, d_fgreatest_row, d_fshortest_way, d_fway_back, d_fleft_steps, d_fcost_of, d_frest, d_f_law_lot_ok, d_f_law_int, d_f_law_holds, d_f_law_lots, d_f_law_rest, d_f_law_cost, d_f_law_sum, d_f_law_gates]
def xsL0 : List ((Str × Str) × Bool) := [(("BadWorld", "BadWorld"), true), (("BadNet", "BadWorld"), false), (("BadNumber", "BadWorld"), false), (("BadLot", "BadWorld"), false), (("EmptyLot", "BadWorld"), false), (("TooMany", "BadWorld"), false), (("BadLot", "BadLot"), true), (("BadNet", "BadLot"), false), (("BadNumber", "BadLot"), false), (("BadWorld", "BadLot"), false), (("EmptyLot", "BadLot"), false), (("TooMany", "BadLot"), false), (("EmptyLot", "EmptyLot"), true), (("BadNet", "EmptyLot"), false), (("BadNumber", "EmptyLot"), false), (("BadWorld", "EmptyLot"), false), (("BadLot", "EmptyLot"), false), (("TooMany", "EmptyLot"), false), (("BadNet", "BadNet"), true), (("BadNumber", "BadNumber"), true)]
def xsL1 : List ((Str × Str) × Bool) := [(("TooMany", "TooMany"), true)]
def M : ModD := { nums := [("MOST_TIES", 40), ("MOST_PLACES", 12)], excs := [("BadNet", "at", "at"), ("BadNumber", "name", "name"), ("BadWorld", "at", "at"), ("BadLot", "at", "at"), ("EmptyLot", "name", "name"), ("TooMany", "size", "size")], xs := xsL0 ++ xsL1, flds := [("Twoway", "size"), ("Twoway", "ties"), ("Oneway", "size"), ("Oneway", "ties")], cons := [(("Twoway", "KIND"), "twoway"), (("Oneway", "KIND"), "oneway")], isi := [] }
def fnNames0 : List Str := ["law", "_law_draws", "_law_net", "_law_told_net", "_law_free_ties", "_law_kind", "_law_world", "_law_built", "is_pair", "_law_refuses", "_law_refusal", "_law_held_draw", "_law_lot", "_law_two", "_law_sublot", "_law_take", "held_lots", "marked_lots", "lots_from", "both"]
def fnNames1 : List Str := ["by_size", "all_lot", "minus", "_law_holders", "holders_of", "world_of", "check_world", "lot_of", "check_size", "sorted_lot", "is_number", "check_filled", "is_held", "flow_value", "row_out", "greatest_row", "shortest_way", "way_back", "left_steps", "cost_of"]
def fnNames2 : List Str := ["rest", "_law_lot_ok", "_law_int", "_law_holds", "_law_lots", "_law_rest", "_law_cost", "_law_sum", "_law_gates"]
def fnNames : List Str := fnNames0 ++ fnNames1 ++ fnNames2
def exK (K : PySem.W.Frag) : Bool := modB fl M K && fnNames.all (fun x => (He.Fa.glo x).ok K && PySem.W.keepIn K (.ref (He.ga K x))) && (He.Fa.mkr "Twoway").ok K && (He.Fa.glo "Twoway").ok K && (He.Fa.mkr "Oneway").ok K && (He.Fa.glo "Oneway").ok K && propB K "Oneway" "many" && propB K "Twoway" "many" && He.eqO (PySem.W.nsIn K mainGlobals "super") (some none)
def loose0 : List PySem.Str := ["_wall", "GatesError", "BadNumber", "BadLot", "BadNet", "BadWorld", "OtherKind", "EmptyLot", "Meeting", "TooMany", "MOST_PLACES", "is_number", "check_size", "lot_of", "sorted_lot", "check_filled", "check_apart", "both", "minus", "rest"]
def loose1 : List PySem.Str := ["by_size", "lots_from", "MOST_TIES", "is_pair", "Net", "Oneway", "Twoway", "all_lot", "check_world", "world_of", "cost_of", "left_steps", "way_back", "shortest_way", "greatest_row", "row_out", "flow_value", "is_held", "holders_of", "marked_lots"]
def loose2 : List PySem.Str := ["held_lots", "_law_draws", "_law_take", "_law_int", "_law_lot_ok", "_law_told_net", "_law_free_ties", "_law_net", "_law_kind", "_law_built", "_law_world", "_law_lot", "_law_two", "_law_sum", "_law_gates", "_law_cost", "_law_rest", "_law_lots", "_law_holds", "_law_sublot"]
def loose3 : List PySem.Str := ["_law_held_draw", "_law_refusal", "_law_refuses", "_law_holders"]
def loose : List PySem.Str := loose0 ++ loose1 ++ loose2 ++ loose3
abbrev hk : PySem.W.Hook := hookS 5 dhs exK
def ob (s : PySem.W.SharedT) : AlS := obsSG 5 dhs exK (HandSHeadRun.getT s)
theorem ob_eq (s : PySem.W.SharedT) : ob s = hk.obs s.abs := obsSG_eq (HandSHeadRun.getT_eq s)
theorem run (w : World) : HandSHeadRun.RunEq R (PySem.W.view R.prog [71]) hk ob 20000 loose w := by
  intro os
  kernel_rfl
end DLaw

set_option maxHeartbeats 0
/-! law_k20_holders_of_an_inner_lot: the defs' facts (printed by gen.py). -/
namespace DLaw
open PySem PySem.Spec PyProof.Rows L2 DL
structure Says (K : PySem.W.Frag) : Prop where
  ex : ModF fl M K
  fns : ∀ x ∈ fnNames, (He.Fa.glo x).ok K = true ∧ PySem.W.keepIn K (.ref (He.ga K x)) = true
  defs : ∀ d ∈ dhs, fnS K d.at_ = d.val ∧ fnOkB K d = true
  more : ((He.Fa.mkr "Twoway").ok K && (He.Fa.glo "Twoway").ok K && (He.Fa.mkr "Oneway").ok K && (He.Fa.glo "Oneway").ok K && propB K "Oneway" "many" && propB K "Twoway" "many") = true
  sup : PySem.W.nsIn K mainGlobals "super" = some none
theorem says {K : PySem.W.Frag} (c : obsS dhs exK K = valS dhs) : Says K := by
  have h := says_ex c
  unfold exK at h
  rw [Bool.and_eq_true] at h
  obtain ⟨h, h4⟩ := h
  have h1 : modB fl M K = true ∧ fnNames.all (fun x => (He.Fa.glo x).ok K && PySem.W.keepIn K (.ref (He.ga K x))) = true ∧ ((He.Fa.mkr "Twoway").ok K && (He.Fa.glo "Twoway").ok K && (He.Fa.mkr "Oneway").ok K && (He.Fa.glo "Oneway").ok K && propB K "Oneway" "many" && propB K "Twoway" "many") = true := by
    simp only [Bool.and_eq_true] at h ⊢
    simp only [and_assoc] at h ⊢
    exact h
  exact ⟨modB_ok h1.1, fun x hx => by simpa using List.all_eq_true.mp h1.2.1 x hx, fun d hd => says_fn c hd, h1.2.2, He.eqO_ok h4⟩
section
variable {K : PySem.W.Frag} {mg : Str → Option Value} {h : Heap}
theorem ok_flaw (X : K.In h) (G : h.Ns mainGlobals mg) (c : Says K) : DefOk K mg d_flaw := def_glo (d := h_flaw) X G (c.defs _ (by simp [dhs])).1 (c.defs _ (by simp [dhs])).2 rfl rfl rfl (c.fns "law" (by decide +kernel)).1 (c.fns "law" (by decide +kernel)).2 (by decide +kernel) (by decide +kernel) ⟨rfl, rfl, rfl, by decide +kernel, rfl, by decide +kernel, by decide +kernel⟩ (by decide +kernel) (fun _ _ _ _ _ _ _ _ _ us hl => match us, hl with | [_], _ => rfl)
theorem ok_f_law_draws (X : K.In h) (G : h.Ns mainGlobals mg) (c : Says K) : DefOk K mg d_f_law_draws := def_glo (d := h_f_law_draws) X G (c.defs _ (by simp [dhs])).1 (c.defs _ (by simp [dhs])).2 rfl rfl rfl (c.fns "_law_draws" (by decide +kernel)).1 (c.fns "_law_draws" (by decide +kernel)).2 (by decide +kernel) (by decide +kernel) ⟨rfl, rfl, rfl, by decide +kernel, rfl, by decide +kernel, by decide +kernel⟩ (by decide +kernel) (fun _ _ _ _ _ _ _ _ _ us hl => match us, hl with | [_], _ => rfl)
theorem ok_f_law_net (X : K.In h) (G : h.Ns mainGlobals mg) (c : Says K) : DefOk K mg d_f_law_net := def_glo (d := h_f_law_net) X G (c.defs _ (by simp [dhs])).1 (c.defs _ (by simp [dhs])).2 rfl rfl rfl (c.fns "_law_net" (by decide +kernel)).1 (c.fns "_law_net" (by decide +kernel)).2 (by decide +kernel) (by decide +kernel) ⟨rfl, rfl, rfl, by decide +kernel, rfl, by decide +kernel, by decide +kernel⟩ (by decide +kernel) (fun _ _ _ _ _ _ _ _ _ us hl => match us, hl with | [_, _], _ => rfl)
theorem ok_f_law_told_net (X : K.In h) (G : h.Ns mainGlobals mg) (c : Says K) : DefOk K mg d_f_law_told_net := def_glo (d := h_f_law_told_net) X G (c.defs _ (by simp [dhs])).1 (c.defs _ (by simp [dhs])).2 rfl rfl rfl (c.fns "_law_told_net" (by decide +kernel)).1 (c.fns "_law_told_net" (by decide +kernel)).2 (by decide +kernel) (by decide +kernel) ⟨rfl, rfl, rfl, by decide +kernel, rfl, by decide +kernel, by decide +kernel⟩ (by decide +kernel) (fun _ _ _ _ _ _ _ _ _ us hl => match us, hl with | [_], _ => rfl)
theorem ok_f_law_free_ties (X : K.In h) (G : h.Ns mainGlobals mg) (c : Says K) : DefOk K mg d_f_law_free_ties := def_glo (d := h_f_law_free_ties) X G (c.defs _ (by simp [dhs])).1 (c.defs _ (by simp [dhs])).2 rfl rfl rfl (c.fns "_law_free_ties" (by decide +kernel)).1 (c.fns "_law_free_ties" (by decide +kernel)).2 (by decide +kernel) (by decide +kernel) ⟨rfl, rfl, rfl, by decide +kernel, rfl, by decide +kernel, by decide +kernel⟩ (by decide +kernel) (fun _ _ _ _ _ _ _ _ _ us hl => match us, hl with | [_, _, _], _ => rfl)
theorem ok_f_law_kind (X : K.In h) (G : h.Ns mainGlobals mg) (c : Says K) : DefOk K mg d_f_law_kind := def_glo (d := h_f_law_kind) X G (c.defs _ (by simp [dhs])).1 (c.defs _ (by simp [dhs])).2 rfl rfl rfl (c.fns "_law_kind" (by decide +kernel)).1 (c.fns "_law_kind" (by decide +kernel)).2 (by decide +kernel) (by decide +kernel) ⟨rfl, rfl, rfl, by decide +kernel, rfl, by decide +kernel, by decide +kernel⟩ (by decide +kernel) (fun _ _ _ _ _ _ _ _ _ us hl => match us, hl with | [_], _ => rfl)
theorem ok_f_law_world (X : K.In h) (G : h.Ns mainGlobals mg) (c : Says K) : DefOk K mg d_f_law_world := def_glo (d := h_f_law_world) X G (c.defs _ (by simp [dhs])).1 (c.defs _ (by simp [dhs])).2 rfl rfl rfl (c.fns "_law_world" (by decide +kernel)).1 (c.fns "_law_world" (by decide +kernel)).2 (by decide +kernel) (by decide +kernel) ⟨rfl, rfl, rfl, by decide +kernel, rfl, by decide +kernel, by decide +kernel⟩ (by decide +kernel) (fun _ _ _ _ _ _ _ _ _ us hl => match us, hl with | [_, _], _ => rfl)
theorem ok_f_law_built (X : K.In h) (G : h.Ns mainGlobals mg) (c : Says K) : DefOk K mg d_f_law_built := def_glo (d := h_f_law_built) X G (c.defs _ (by simp [dhs])).1 (c.defs _ (by simp [dhs])).2 rfl rfl rfl (c.fns "_law_built" (by decide +kernel)).1 (c.fns "_law_built" (by decide +kernel)).2 (by decide +kernel) (by decide +kernel) ⟨rfl, rfl, rfl, by decide +kernel, rfl, by decide +kernel, by decide +kernel⟩ (by decide +kernel) (fun _ _ _ _ _ _ _ _ _ us hl => match us, hl with | [_, _, _], _ => rfl)
theorem ok_iTwoway (X : K.In h) (G : h.Ns mainGlobals mg) (c : Says K) (h1 : (He.Fa.mkr "Twoway").ok K = true) (h2 : (He.Fa.glo "Twoway").ok K = true) : DefOk K mg d_iTwoway := def_ini (d := h_iTwoway) X G (c.defs _ (by simp [dhs])).1 (c.defs _ (by simp [dhs])).2 rfl rfl rfl h2 h1 (by decide +kernel) (by decide +kernel) ⟨rfl, rfl, rfl, by decide +kernel, rfl, by decide +kernel, by decide +kernel⟩ (by decide +kernel) (fun _ _ _ _ _ _ _ _ _ us hl => match us, hl with | [_, _, _], _ => rfl)
theorem ok_iOneway (X : K.In h) (G : h.Ns mainGlobals mg) (c : Says K) (h1 : (He.Fa.mkr "Oneway").ok K = true) (h2 : (He.Fa.glo "Oneway").ok K = true) : DefOk K mg d_iOneway := def_ini (d := h_iOneway) X G (c.defs _ (by simp [dhs])).1 (c.defs _ (by simp [dhs])).2 rfl rfl rfl h2 h1 (by decide +kernel) (by decide +kernel) ⟨rfl, rfl, rfl, by decide +kernel, rfl, by decide +kernel, by decide +kernel⟩ (by decide +kernel) (fun _ _ _ _ _ _ _ _ _ us hl => match us, hl with | [_, _, _], _ => rfl)
theorem ok_fis_pair (X : K.In h) (G : h.Ns mainGlobals mg) (c : Says K) : DefOk K mg d_fis_pair := def_glo (d := h_fis_pair) X G (c.defs _ (by simp [dhs])).1 (c.defs _ (by simp [dhs])).2 rfl rfl rfl (c.fns "is_pair" (by decide +kernel)).1 (c.fns "is_pair" (by decide +kernel)).2 (by decide +kernel) (by decide +kernel) ⟨rfl, rfl, rfl, by decide +kernel, rfl, by decide +kernel, by decide +kernel⟩ (by decide +kernel) (fun _ _ _ _ _ _ _ _ _ us hl => match us, hl with | [_, _], _ => rfl)
theorem ok_f_law_refuses (X : K.In h) (G : h.Ns mainGlobals mg) (c : Says K) : DefOk K mg d_f_law_refuses := def_glo (d := h_f_law_refuses) X G (c.defs _ (by simp [dhs])).1 (c.defs _ (by simp [dhs])).2 rfl rfl rfl (c.fns "_law_refuses" (by decide +kernel)).1 (c.fns "_law_refuses" (by decide +kernel)).2 (by decide +kernel) (by decide +kernel) ⟨rfl, rfl, rfl, by decide +kernel, rfl, by decide +kernel, by decide +kernel⟩ (by decide +kernel) (fun _ _ _ _ _ _ _ _ _ us hl => match us, hl with | [_, _, _, _, _], _ => rfl)
theorem ok_f_law_refusal (X : K.In h) (G : h.Ns mainGlobals mg) (c : Says K) : DefOk K mg d_f_law_refusal := def_glo (d := h_f_law_refusal) X G (c.defs _ (by simp [dhs])).1 (c.defs _ (by simp [dhs])).2 rfl rfl rfl (c.fns "_law_refusal" (by decide +kernel)).1 (c.fns "_law_refusal" (by decide +kernel)).2 (by decide +kernel) (by decide +kernel) ⟨rfl, rfl, rfl, by decide +kernel, rfl, by decide +kernel, by decide +kernel⟩ (by decide +kernel) (fun _ _ _ _ _ _ _ _ _ us hl => match us, hl with | [_, _, _], _ => rfl)
theorem ok_f_law_held_draw (X : K.In h) (G : h.Ns mainGlobals mg) (c : Says K) : DefOk K mg d_f_law_held_draw := def_glo (d := h_f_law_held_draw) X G (c.defs _ (by simp [dhs])).1 (c.defs _ (by simp [dhs])).2 rfl rfl rfl (c.fns "_law_held_draw" (by decide +kernel)).1 (c.fns "_law_held_draw" (by decide +kernel)).2 (by decide +kernel) (by decide +kernel) ⟨rfl, rfl, rfl, by decide +kernel, rfl, by decide +kernel, by decide +kernel⟩ (by decide +kernel) (fun _ _ _ _ _ _ _ _ _ us hl => match us, hl with | [_, _, _, _, _], _ => rfl)
theorem ok_f_law_lot (X : K.In h) (G : h.Ns mainGlobals mg) (c : Says K) : DefOk K mg d_f_law_lot := def_glo (d := h_f_law_lot) X G (c.defs _ (by simp [dhs])).1 (c.defs _ (by simp [dhs])).2 rfl rfl rfl (c.fns "_law_lot" (by decide +kernel)).1 (c.fns "_law_lot" (by decide +kernel)).2 (by decide +kernel) (by decide +kernel) ⟨rfl, rfl, rfl, by decide +kernel, rfl, by decide +kernel, by decide +kernel⟩ (by decide +kernel) (fun _ _ _ _ _ _ _ _ _ us hl => match us, hl with | [_, _], _ => rfl)
theorem ok_f_law_two (X : K.In h) (G : h.Ns mainGlobals mg) (c : Says K) : DefOk K mg d_f_law_two := def_glo (d := h_f_law_two) X G (c.defs _ (by simp [dhs])).1 (c.defs _ (by simp [dhs])).2 rfl rfl rfl (c.fns "_law_two" (by decide +kernel)).1 (c.fns "_law_two" (by decide +kernel)).2 (by decide +kernel) (by decide +kernel) ⟨rfl, rfl, rfl, by decide +kernel, rfl, by decide +kernel, by decide +kernel⟩ (by decide +kernel) (fun _ _ _ _ _ _ _ _ _ us hl => match us, hl with | [_, _], _ => rfl)
theorem ok_f_law_sublot (X : K.In h) (G : h.Ns mainGlobals mg) (c : Says K) : DefOk K mg d_f_law_sublot := def_glo (d := h_f_law_sublot) X G (c.defs _ (by simp [dhs])).1 (c.defs _ (by simp [dhs])).2 rfl rfl rfl (c.fns "_law_sublot" (by decide +kernel)).1 (c.fns "_law_sublot" (by decide +kernel)).2 (by decide +kernel) (by decide +kernel) ⟨rfl, rfl, rfl, by decide +kernel, rfl, by decide +kernel, by decide +kernel⟩ (by decide +kernel) (fun _ _ _ _ _ _ _ _ _ us hl => match us, hl with | [_, _], _ => rfl)
theorem ok_f_law_take (X : K.In h) (G : h.Ns mainGlobals mg) (c : Says K) : DefOk K mg d_f_law_take := def_glo (d := h_f_law_take) X G (c.defs _ (by simp [dhs])).1 (c.defs _ (by simp [dhs])).2 rfl rfl rfl (c.fns "_law_take" (by decide +kernel)).1 (c.fns "_law_take" (by decide +kernel)).2 (by decide +kernel) (by decide +kernel) ⟨rfl, rfl, rfl, by decide +kernel, rfl, by decide +kernel, by decide +kernel⟩ (by decide +kernel) (fun _ _ _ _ _ _ _ _ _ us hl => match us, hl with | [_, _], _ => rfl)
theorem ok_fheld_lots (X : K.In h) (G : h.Ns mainGlobals mg) (c : Says K) : DefOk K mg d_fheld_lots := def_glo (d := h_fheld_lots) X G (c.defs _ (by simp [dhs])).1 (c.defs _ (by simp [dhs])).2 rfl rfl rfl (c.fns "held_lots" (by decide +kernel)).1 (c.fns "held_lots" (by decide +kernel)).2 (by decide +kernel) (by decide +kernel) ⟨rfl, rfl, rfl, by decide +kernel, rfl, by decide +kernel, by decide +kernel⟩ (by decide +kernel) (fun _ _ _ _ _ _ _ _ _ us hl => match us, hl with | [_, _, _], _ => rfl)
theorem ok_fmarked_lots (X : K.In h) (G : h.Ns mainGlobals mg) (c : Says K) : DefOk K mg d_fmarked_lots := def_glo (d := h_fmarked_lots) X G (c.defs _ (by simp [dhs])).1 (c.defs _ (by simp [dhs])).2 rfl rfl rfl (c.fns "marked_lots" (by decide +kernel)).1 (c.fns "marked_lots" (by decide +kernel)).2 (by decide +kernel) (by decide +kernel) ⟨rfl, rfl, rfl, by decide +kernel, rfl, by decide +kernel, by decide +kernel⟩ (by decide +kernel) (fun _ _ _ _ _ _ _ _ _ us hl => match us, hl with | [_, _, _], _ => rfl)
theorem ok_flots_from (X : K.In h) (G : h.Ns mainGlobals mg) (c : Says K) : DefOk K mg d_flots_from := def_glo (d := h_flots_from) X G (c.defs _ (by simp [dhs])).1 (c.defs _ (by simp [dhs])).2 rfl rfl rfl (c.fns "lots_from" (by decide +kernel)).1 (c.fns "lots_from" (by decide +kernel)).2 (by decide +kernel) (by decide +kernel) ⟨rfl, rfl, rfl, by decide +kernel, rfl, by decide +kernel, by decide +kernel⟩ (by decide +kernel) (fun _ _ _ _ _ _ _ _ _ us hl => match us, hl with | [_, _], _ => rfl)
theorem ok_fboth (X : K.In h) (G : h.Ns mainGlobals mg) (c : Says K) : DefOk K mg d_fboth := def_glo (d := h_fboth) X G (c.defs _ (by simp [dhs])).1 (c.defs _ (by simp [dhs])).2 rfl rfl rfl (c.fns "both" (by decide +kernel)).1 (c.fns "both" (by decide +kernel)).2 (by decide +kernel) (by decide +kernel) ⟨rfl, rfl, rfl, by decide +kernel, rfl, by decide +kernel, by decide +kernel⟩ (by decide +kernel) (fun _ _ _ _ _ _ _ _ _ us hl => match us, hl with | [_, _], _ => rfl)
theorem ok_fby_size (X : K.In h) (G : h.Ns mainGlobals mg) (c : Says K) : DefOk K mg d_fby_size := def_glo (d := h_fby_size) X G (c.defs _ (by simp [dhs])).1 (c.defs _ (by simp [dhs])).2 rfl rfl rfl (c.fns "by_size" (by decide +kernel)).1 (c.fns "by_size" (by decide +kernel)).2 (by decide +kernel) (by decide +kernel) ⟨rfl, rfl, rfl, by decide +kernel, rfl, by decide +kernel, by decide +kernel⟩ (by decide +kernel) (fun _ _ _ _ _ _ _ _ _ us hl => match us, hl with | [_], _ => rfl)
theorem ok_fall_lot (X : K.In h) (G : h.Ns mainGlobals mg) (c : Says K) : DefOk K mg d_fall_lot := def_glo (d := h_fall_lot) X G (c.defs _ (by simp [dhs])).1 (c.defs _ (by simp [dhs])).2 rfl rfl rfl (c.fns "all_lot" (by decide +kernel)).1 (c.fns "all_lot" (by decide +kernel)).2 (by decide +kernel) (by decide +kernel) ⟨rfl, rfl, rfl, by decide +kernel, rfl, by decide +kernel, by decide +kernel⟩ (by decide +kernel) (fun _ _ _ _ _ _ _ _ _ us hl => match us, hl with | [_], _ => rfl)
theorem ok_fminus (X : K.In h) (G : h.Ns mainGlobals mg) (c : Says K) : DefOk K mg d_fminus := def_glo (d := h_fminus) X G (c.defs _ (by simp [dhs])).1 (c.defs _ (by simp [dhs])).2 rfl rfl rfl (c.fns "minus" (by decide +kernel)).1 (c.fns "minus" (by decide +kernel)).2 (by decide +kernel) (by decide +kernel) ⟨rfl, rfl, rfl, by decide +kernel, rfl, by decide +kernel, by decide +kernel⟩ (by decide +kernel) (fun _ _ _ _ _ _ _ _ _ us hl => match us, hl with | [_, _], _ => rfl)
theorem ok_f_law_holders (X : K.In h) (G : h.Ns mainGlobals mg) (c : Says K) : DefOk K mg d_f_law_holders := def_glo (d := h_f_law_holders) X G (c.defs _ (by simp [dhs])).1 (c.defs _ (by simp [dhs])).2 rfl rfl rfl (c.fns "_law_holders" (by decide +kernel)).1 (c.fns "_law_holders" (by decide +kernel)).2 (by decide +kernel) (by decide +kernel) ⟨rfl, rfl, rfl, by decide +kernel, rfl, by decide +kernel, by decide +kernel⟩ (by decide +kernel) (fun _ _ _ _ _ _ _ _ _ us hl => match us, hl with | [_, _, _, _, _, _], _ => rfl)
theorem ok_fholders_of (X : K.In h) (G : h.Ns mainGlobals mg) (c : Says K) : DefOk K mg d_fholders_of := def_glo (d := h_fholders_of) X G (c.defs _ (by simp [dhs])).1 (c.defs _ (by simp [dhs])).2 rfl rfl rfl (c.fns "holders_of" (by decide +kernel)).1 (c.fns "holders_of" (by decide +kernel)).2 (by decide +kernel) (by decide +kernel) ⟨rfl, rfl, rfl, by decide +kernel, rfl, by decide +kernel, by decide +kernel⟩ (by decide +kernel) (fun _ _ _ _ _ _ _ _ _ us hl => match us, hl with | [_, _, _], _ => rfl)
theorem ok_fworld_of (X : K.In h) (G : h.Ns mainGlobals mg) (c : Says K) : DefOk K mg d_fworld_of := def_glo (d := h_fworld_of) X G (c.defs _ (by simp [dhs])).1 (c.defs _ (by simp [dhs])).2 rfl rfl rfl (c.fns "world_of" (by decide +kernel)).1 (c.fns "world_of" (by decide +kernel)).2 (by decide +kernel) (by decide +kernel) ⟨rfl, rfl, rfl, by decide +kernel, rfl, by decide +kernel, by decide +kernel⟩ (by decide +kernel) (fun _ _ _ _ _ _ _ _ _ us hl => match us, hl with | [_, _], _ => rfl)
theorem ok_fcheck_world (X : K.In h) (G : h.Ns mainGlobals mg) (c : Says K) : DefOk K mg d_fcheck_world := def_glo (d := h_fcheck_world) X G (c.defs _ (by simp [dhs])).1 (c.defs _ (by simp [dhs])).2 rfl rfl rfl (c.fns "check_world" (by decide +kernel)).1 (c.fns "check_world" (by decide +kernel)).2 (by decide +kernel) (by decide +kernel) ⟨rfl, rfl, rfl, by decide +kernel, rfl, by decide +kernel, by decide +kernel⟩ (by decide +kernel) (fun _ _ _ _ _ _ _ _ _ us hl => match us, hl with | [_, _], _ => rfl)
theorem ok_pOnewaymany (c : Says K) (h1 : (He.Fa.cls "Oneway").ok K = true) (h2 : propB K "Oneway" "many" = true) : DefOk K mg d_pOnewaymany := def_prop (d := h_pOnewaymany) (c.defs _ (by simp [dhs])).1 (c.defs _ (by simp [dhs])).2 rfl rfl rfl h1 h2 rfl (by decide +kernel) ⟨rfl, rfl, rfl, by decide +kernel, rfl, by decide +kernel, by decide +kernel⟩ (by decide +kernel) (fun _ _ _ _ _ _ _ _ _ us hl => match us, hl with | [_], _ => rfl)
theorem ok_pTwowaymany (c : Says K) (h1 : (He.Fa.cls "Twoway").ok K = true) (h2 : propB K "Twoway" "many" = true) : DefOk K mg d_pTwowaymany := def_prop (d := h_pTwowaymany) (c.defs _ (by simp [dhs])).1 (c.defs _ (by simp [dhs])).2 rfl rfl rfl h1 h2 rfl (by decide +kernel) ⟨rfl, rfl, rfl, by decide +kernel, rfl, by decide +kernel, by decide +kernel⟩ (by decide +kernel) (fun _ _ _ _ _ _ _ _ _ us hl => match us, hl with | [_], _ => rfl)
theorem ok_flot_of (X : K.In h) (G : h.Ns mainGlobals mg) (c : Says K) : DefOk K mg d_flot_of := def_glo (d := h_flot_of) X G (c.defs _ (by simp [dhs])).1 (c.defs _ (by simp [dhs])).2 rfl rfl rfl (c.fns "lot_of" (by decide +kernel)).1 (c.fns "lot_of" (by decide +kernel)).2 (by decide +kernel) (by decide +kernel) ⟨rfl, rfl, rfl, by decide +kernel, rfl, by decide +kernel, by decide +kernel⟩ (by decide +kernel) (fun _ _ _ _ _ _ _ _ _ us hl => match us, hl with | [_, _], _ => rfl)
theorem ok_fcheck_size (X : K.In h) (G : h.Ns mainGlobals mg) (c : Says K) : DefOk K mg d_fcheck_size := def_glo (d := h_fcheck_size) X G (c.defs _ (by simp [dhs])).1 (c.defs _ (by simp [dhs])).2 rfl rfl rfl (c.fns "check_size" (by decide +kernel)).1 (c.fns "check_size" (by decide +kernel)).2 (by decide +kernel) (by decide +kernel) ⟨rfl, rfl, rfl, by decide +kernel, rfl, by decide +kernel, by decide +kernel⟩ (by decide +kernel) (fun _ _ _ _ _ _ _ _ _ us hl => match us, hl with | [_], _ => rfl)
theorem ok_fsorted_lot (X : K.In h) (G : h.Ns mainGlobals mg) (c : Says K) : DefOk K mg d_fsorted_lot := def_glo (d := h_fsorted_lot) X G (c.defs _ (by simp [dhs])).1 (c.defs _ (by simp [dhs])).2 rfl rfl rfl (c.fns "sorted_lot" (by decide +kernel)).1 (c.fns "sorted_lot" (by decide +kernel)).2 (by decide +kernel) (by decide +kernel) ⟨rfl, rfl, rfl, by decide +kernel, rfl, by decide +kernel, by decide +kernel⟩ (by decide +kernel) (fun _ _ _ _ _ _ _ _ _ us hl => match us, hl with | [_, _], _ => rfl)
theorem ok_fis_number (X : K.In h) (G : h.Ns mainGlobals mg) (c : Says K) : DefOk K mg d_fis_number := def_glo (d := h_fis_number) X G (c.defs _ (by simp [dhs])).1 (c.defs _ (by simp [dhs])).2 rfl rfl rfl (c.fns "is_number" (by decide +kernel)).1 (c.fns "is_number" (by decide +kernel)).2 (by decide +kernel) (by decide +kernel) ⟨rfl, rfl, rfl, by decide +kernel, rfl, by decide +kernel, by decide +kernel⟩ (by decide +kernel) (fun _ _ _ _ _ _ _ _ _ us hl => match us, hl with | [_], _ => rfl)
theorem ok_fcheck_filled (X : K.In h) (G : h.Ns mainGlobals mg) (c : Says K) : DefOk K mg d_fcheck_filled := def_glo (d := h_fcheck_filled) X G (c.defs _ (by simp [dhs])).1 (c.defs _ (by simp [dhs])).2 rfl rfl rfl (c.fns "check_filled" (by decide +kernel)).1 (c.fns "check_filled" (by decide +kernel)).2 (by decide +kernel) (by decide +kernel) ⟨rfl, rfl, rfl, by decide +kernel, rfl, by decide +kernel, by decide +kernel⟩ (by decide +kernel) (fun _ _ _ _ _ _ _ _ _ us hl => match us, hl with | [_, _], _ => rfl)
theorem ok_fis_held (X : K.In h) (G : h.Ns mainGlobals mg) (c : Says K) : DefOk K mg d_fis_held := def_glo (d := h_fis_held) X G (c.defs _ (by simp [dhs])).1 (c.defs _ (by simp [dhs])).2 rfl rfl rfl (c.fns "is_held" (by decide +kernel)).1 (c.fns "is_held" (by decide +kernel)).2 (by decide +kernel) (by decide +kernel) ⟨rfl, rfl, rfl, by decide +kernel, rfl, by decide +kernel, by decide +kernel⟩ (by decide +kernel) (fun _ _ _ _ _ _ _ _ _ us hl => match us, hl with | [_, _, _, _], _ => rfl)
theorem ok_fflow_value (X : K.In h) (G : h.Ns mainGlobals mg) (c : Says K) : DefOk K mg d_fflow_value := def_glo (d := h_fflow_value) X G (c.defs _ (by simp [dhs])).1 (c.defs _ (by simp [dhs])).2 rfl rfl rfl (c.fns "flow_value" (by decide +kernel)).1 (c.fns "flow_value" (by decide +kernel)).2 (by decide +kernel) (by decide +kernel) ⟨rfl, rfl, rfl, by decide +kernel, rfl, by decide +kernel, by decide +kernel⟩ (by decide +kernel) (fun _ _ _ _ _ _ _ _ _ us hl => match us, hl with | [_, _, _, _], _ => rfl)
theorem ok_frow_out (X : K.In h) (G : h.Ns mainGlobals mg) (c : Says K) : DefOk K mg d_frow_out := def_glo (d := h_frow_out) X G (c.defs _ (by simp [dhs])).1 (c.defs _ (by simp [dhs])).2 rfl rfl rfl (c.fns "row_out" (by decide +kernel)).1 (c.fns "row_out" (by decide +kernel)).2 (by decide +kernel) (by decide +kernel) ⟨rfl, rfl, rfl, by decide +kernel, rfl, by decide +kernel, by decide +kernel⟩ (by decide +kernel) (fun _ _ _ _ _ _ _ _ _ us hl => match us, hl with | [_, _, _], _ => rfl)
theorem ok_fgreatest_row (X : K.In h) (G : h.Ns mainGlobals mg) (c : Says K) : DefOk K mg d_fgreatest_row := def_glo (d := h_fgreatest_row) X G (c.defs _ (by simp [dhs])).1 (c.defs _ (by simp [dhs])).2 rfl rfl rfl (c.fns "greatest_row" (by decide +kernel)).1 (c.fns "greatest_row" (by decide +kernel)).2 (by decide +kernel) (by decide +kernel) ⟨rfl, rfl, rfl, by decide +kernel, rfl, by decide +kernel, by decide +kernel⟩ (by decide +kernel) (fun _ _ _ _ _ _ _ _ _ us hl => match us, hl with | [_, _, _, _], _ => rfl)
theorem ok_fshortest_way (X : K.In h) (G : h.Ns mainGlobals mg) (c : Says K) : DefOk K mg d_fshortest_way := def_glo (d := h_fshortest_way) X G (c.defs _ (by simp [dhs])).1 (c.defs _ (by simp [dhs])).2 rfl rfl rfl (c.fns "shortest_way" (by decide +kernel)).1 (c.fns "shortest_way" (by decide +kernel)).2 (by decide +kernel) (by decide +kernel) ⟨rfl, rfl, rfl, by decide +kernel, rfl, by decide +kernel, by decide +kernel⟩ (by decide +kernel) (fun _ _ _ _ _ _ _ _ _ us hl => match us, hl with | [_, _, _, _], _ => rfl)
theorem ok_fway_back (X : K.In h) (G : h.Ns mainGlobals mg) (c : Says K) : DefOk K mg d_fway_back := def_glo (d := h_fway_back) X G (c.defs _ (by simp [dhs])).1 (c.defs _ (by simp [dhs])).2 rfl rfl rfl (c.fns "way_back" (by decide +kernel)).1 (c.fns "way_back" (by decide +kernel)).2 (by decide +kernel) (by decide +kernel) ⟨rfl, rfl, rfl, by decide +kernel, rfl, by decide +kernel, by decide +kernel⟩ (by decide +kernel) (fun _ _ _ _ _ _ _ _ _ us hl => match us, hl with | [_, _], _ => rfl)
theorem ok_fleft_steps (X : K.In h) (G : h.Ns mainGlobals mg) (c : Says K) : DefOk K mg d_fleft_steps := def_glo (d := h_fleft_steps) X G (c.defs _ (by simp [dhs])).1 (c.defs _ (by simp [dhs])).2 rfl rfl rfl (c.fns "left_steps" (by decide +kernel)).1 (c.fns "left_steps" (by decide +kernel)).2 (by decide +kernel) (by decide +kernel) ⟨rfl, rfl, rfl, by decide +kernel, rfl, by decide +kernel, by decide +kernel⟩ (by decide +kernel) (fun _ _ _ _ _ _ _ _ _ us hl => match us, hl with | [_, _, _], _ => rfl)
theorem ok_fcost_of (X : K.In h) (G : h.Ns mainGlobals mg) (c : Says K) : DefOk K mg d_fcost_of := def_glo (d := h_fcost_of) X G (c.defs _ (by simp [dhs])).1 (c.defs _ (by simp [dhs])).2 rfl rfl rfl (c.fns "cost_of" (by decide +kernel)).1 (c.fns "cost_of" (by decide +kernel)).2 (by decide +kernel) (by decide +kernel) ⟨rfl, rfl, rfl, by decide +kernel, rfl, by decide +kernel, by decide +kernel⟩ (by decide +kernel) (fun _ _ _ _ _ _ _ _ _ us hl => match us, hl with | [_, _, _], _ => rfl)
theorem ok_frest (X : K.In h) (G : h.Ns mainGlobals mg) (c : Says K) : DefOk K mg d_frest := def_glo (d := h_frest) X G (c.defs _ (by simp [dhs])).1 (c.defs _ (by simp [dhs])).2 rfl rfl rfl (c.fns "rest" (by decide +kernel)).1 (c.fns "rest" (by decide +kernel)).2 (by decide +kernel) (by decide +kernel) ⟨rfl, rfl, rfl, by decide +kernel, rfl, by decide +kernel, by decide +kernel⟩ (by decide +kernel) (fun _ _ _ _ _ _ _ _ _ us hl => match us, hl with | [_, _], _ => rfl)
theorem ok_f_law_lot_ok (X : K.In h) (G : h.Ns mainGlobals mg) (c : Says K) : DefOk K mg d_f_law_lot_ok := def_glo (d := h_f_law_lot_ok) X G (c.defs _ (by simp [dhs])).1 (c.defs _ (by simp [dhs])).2 rfl rfl rfl (c.fns "_law_lot_ok" (by decide +kernel)).1 (c.fns "_law_lot_ok" (by decide +kernel)).2 (by decide +kernel) (by decide +kernel) ⟨rfl, rfl, rfl, by decide +kernel, rfl, by decide +kernel, by decide +kernel⟩ (by decide +kernel) (fun _ _ _ _ _ _ _ _ _ us hl => match us, hl with | [_, _], _ => rfl)
theorem ok_f_law_int (X : K.In h) (G : h.Ns mainGlobals mg) (c : Says K) : DefOk K mg d_f_law_int := def_glo (d := h_f_law_int) X G (c.defs _ (by simp [dhs])).1 (c.defs _ (by simp [dhs])).2 rfl rfl rfl (c.fns "_law_int" (by decide +kernel)).1 (c.fns "_law_int" (by decide +kernel)).2 (by decide +kernel) (by decide +kernel) ⟨rfl, rfl, rfl, by decide +kernel, rfl, by decide +kernel, by decide +kernel⟩ (by decide +kernel) (fun _ _ _ _ _ _ _ _ _ us hl => match us, hl with | [_], _ => rfl)
theorem ok_f_law_holds (X : K.In h) (G : h.Ns mainGlobals mg) (c : Says K) : DefOk K mg d_f_law_holds := def_glo (d := h_f_law_holds) X G (c.defs _ (by simp [dhs])).1 (c.defs _ (by simp [dhs])).2 rfl rfl rfl (c.fns "_law_holds" (by decide +kernel)).1 (c.fns "_law_holds" (by decide +kernel)).2 (by decide +kernel) (by decide +kernel) ⟨rfl, rfl, rfl, by decide +kernel, rfl, by decide +kernel, by decide +kernel⟩ (by decide +kernel) (fun _ _ _ _ _ _ _ _ _ us hl => match us, hl with | [_, _, _, _, _, _], _ => rfl)
theorem ok_f_law_lots (X : K.In h) (G : h.Ns mainGlobals mg) (c : Says K) : DefOk K mg d_f_law_lots := def_glo (d := h_f_law_lots) X G (c.defs _ (by simp [dhs])).1 (c.defs _ (by simp [dhs])).2 rfl rfl rfl (c.fns "_law_lots" (by decide +kernel)).1 (c.fns "_law_lots" (by decide +kernel)).2 (by decide +kernel) (by decide +kernel) ⟨rfl, rfl, rfl, by decide +kernel, rfl, by decide +kernel, by decide +kernel⟩ (by decide +kernel) (fun _ _ _ _ _ _ _ _ _ us hl => match us, hl with | [_, _, _], _ => rfl)
theorem ok_f_law_rest (X : K.In h) (G : h.Ns mainGlobals mg) (c : Says K) : DefOk K mg d_f_law_rest := def_glo (d := h_f_law_rest) X G (c.defs _ (by simp [dhs])).1 (c.defs _ (by simp [dhs])).2 rfl rfl rfl (c.fns "_law_rest" (by decide +kernel)).1 (c.fns "_law_rest" (by decide +kernel)).2 (by decide +kernel) (by decide +kernel) ⟨rfl, rfl, rfl, by decide +kernel, rfl, by decide +kernel, by decide +kernel⟩ (by decide +kernel) (fun _ _ _ _ _ _ _ _ _ us hl => match us, hl with | [_, _], _ => rfl)
theorem ok_f_law_cost (X : K.In h) (G : h.Ns mainGlobals mg) (c : Says K) : DefOk K mg d_f_law_cost := def_glo (d := h_f_law_cost) X G (c.defs _ (by simp [dhs])).1 (c.defs _ (by simp [dhs])).2 rfl rfl rfl (c.fns "_law_cost" (by decide +kernel)).1 (c.fns "_law_cost" (by decide +kernel)).2 (by decide +kernel) (by decide +kernel) ⟨rfl, rfl, rfl, by decide +kernel, rfl, by decide +kernel, by decide +kernel⟩ (by decide +kernel) (fun _ _ _ _ _ _ _ _ _ us hl => match us, hl with | [_, _, _, _], _ => rfl)
theorem ok_f_law_sum (X : K.In h) (G : h.Ns mainGlobals mg) (c : Says K) : DefOk K mg d_f_law_sum := def_glo (d := h_f_law_sum) X G (c.defs _ (by simp [dhs])).1 (c.defs _ (by simp [dhs])).2 rfl rfl rfl (c.fns "_law_sum" (by decide +kernel)).1 (c.fns "_law_sum" (by decide +kernel)).2 (by decide +kernel) (by decide +kernel) ⟨rfl, rfl, rfl, by decide +kernel, rfl, by decide +kernel, by decide +kernel⟩ (by decide +kernel) (fun _ _ _ _ _ _ _ _ _ us hl => match us, hl with | [_, _], _ => rfl)
theorem ok_f_law_gates (X : K.In h) (G : h.Ns mainGlobals mg) (c : Says K) : DefOk K mg d_f_law_gates := def_glo (d := h_f_law_gates) X G (c.defs _ (by simp [dhs])).1 (c.defs _ (by simp [dhs])).2 rfl rfl rfl (c.fns "_law_gates" (by decide +kernel)).1 (c.fns "_law_gates" (by decide +kernel)).2 (by decide +kernel) (by decide +kernel) ⟨rfl, rfl, rfl, by decide +kernel, rfl, by decide +kernel, by decide +kernel⟩ (by decide +kernel) (fun _ _ _ _ _ _ _ _ _ us hl => match us, hl with | [_, _, _], _ => rfl)
theorem ok_eBadNet (X : K.In h) (G : h.Ns mainGlobals mg) (c : Says K) : ∃ fd, ExcK PySem.Challenge.pw_leastgates_k20_holders_of_an_inner_lot K mg "BadNet" ∧ Init1 PySem.Challenge.pw_leastgates_k20_holders_of_an_inner_lot K "BadNet" "at" "at" (He.ma K (He.ga K "BadNet") "__init__") fd := by
  have m := c.ex.excs ("BadNet", "at", "at") (by decide +kernel)
  exact def_exc (d := h_eBadNet) (fl := fl) X G (c.defs _ (by simp [dhs])).1 (c.defs _ (by simp [dhs])).2 rfl rfl rfl m.1 m.2.1 m.2.2 c.ex.no (PySem.W.mg_none_of X G c.sup) (by decide +kernel) (by decide +kernel)
    ⟨_, _, _, _, _, _, _, _, _, _, rfl, by decide +kernel, by decide +kernel, by decide +kernel⟩ ⟨_, rfl, rfl⟩ ⟨rfl, rfl, rfl, by decide +kernel, rfl, by decide +kernel, by decide +kernel, by decide +kernel⟩ (fun _ _ _ _ _ _ _ _ _ _ us hl => match us, hl with | [_, _], _ => rfl) (by decide +kernel) (by decide +kernel) (by decide +kernel) (by decide +kernel)
theorem ok_eBadNumber (X : K.In h) (G : h.Ns mainGlobals mg) (c : Says K) : ∃ fd, ExcK PySem.Challenge.pw_leastgates_k20_holders_of_an_inner_lot K mg "BadNumber" ∧ Init1 PySem.Challenge.pw_leastgates_k20_holders_of_an_inner_lot K "BadNumber" "name" "name" (He.ma K (He.ga K "BadNumber") "__init__") fd := by
  have m := c.ex.excs ("BadNumber", "name", "name") (by decide +kernel)
  exact def_exc (d := h_eBadNumber) (fl := fl) X G (c.defs _ (by simp [dhs])).1 (c.defs _ (by simp [dhs])).2 rfl rfl rfl m.1 m.2.1 m.2.2 c.ex.no (PySem.W.mg_none_of X G c.sup) (by decide +kernel) (by decide +kernel)
    ⟨_, _, _, _, _, _, _, _, _, _, rfl, by decide +kernel, by decide +kernel, by decide +kernel⟩ ⟨_, rfl, rfl⟩ ⟨rfl, rfl, rfl, by decide +kernel, rfl, by decide +kernel, by decide +kernel, by decide +kernel⟩ (fun _ _ _ _ _ _ _ _ _ _ us hl => match us, hl with | [_, _], _ => rfl) (by decide +kernel) (by decide +kernel) (by decide +kernel) (by decide +kernel)
theorem ok_eBadWorld (X : K.In h) (G : h.Ns mainGlobals mg) (c : Says K) : ∃ fd, ExcK PySem.Challenge.pw_leastgates_k20_holders_of_an_inner_lot K mg "BadWorld" ∧ Init1 PySem.Challenge.pw_leastgates_k20_holders_of_an_inner_lot K "BadWorld" "at" "at" (He.ma K (He.ga K "BadWorld") "__init__") fd := by
  have m := c.ex.excs ("BadWorld", "at", "at") (by decide +kernel)
  exact def_exc (d := h_eBadWorld) (fl := fl) X G (c.defs _ (by simp [dhs])).1 (c.defs _ (by simp [dhs])).2 rfl rfl rfl m.1 m.2.1 m.2.2 c.ex.no (PySem.W.mg_none_of X G c.sup) (by decide +kernel) (by decide +kernel)
    ⟨_, _, _, _, _, _, _, _, _, _, rfl, by decide +kernel, by decide +kernel, by decide +kernel⟩ ⟨_, rfl, rfl⟩ ⟨rfl, rfl, rfl, by decide +kernel, rfl, by decide +kernel, by decide +kernel, by decide +kernel⟩ (fun _ _ _ _ _ _ _ _ _ _ us hl => match us, hl with | [_, _], _ => rfl) (by decide +kernel) (by decide +kernel) (by decide +kernel) (by decide +kernel)
theorem ok_eBadLot (X : K.In h) (G : h.Ns mainGlobals mg) (c : Says K) : ∃ fd, ExcK PySem.Challenge.pw_leastgates_k20_holders_of_an_inner_lot K mg "BadLot" ∧ Init1 PySem.Challenge.pw_leastgates_k20_holders_of_an_inner_lot K "BadLot" "at" "at" (He.ma K (He.ga K "BadLot") "__init__") fd := by
  have m := c.ex.excs ("BadLot", "at", "at") (by decide +kernel)
  exact def_exc (d := h_eBadLot) (fl := fl) X G (c.defs _ (by simp [dhs])).1 (c.defs _ (by simp [dhs])).2 rfl rfl rfl m.1 m.2.1 m.2.2 c.ex.no (PySem.W.mg_none_of X G c.sup) (by decide +kernel) (by decide +kernel)
    ⟨_, _, _, _, _, _, _, _, _, _, rfl, by decide +kernel, by decide +kernel, by decide +kernel⟩ ⟨_, rfl, rfl⟩ ⟨rfl, rfl, rfl, by decide +kernel, rfl, by decide +kernel, by decide +kernel, by decide +kernel⟩ (fun _ _ _ _ _ _ _ _ _ _ us hl => match us, hl with | [_, _], _ => rfl) (by decide +kernel) (by decide +kernel) (by decide +kernel) (by decide +kernel)
theorem ok_eEmptyLot (X : K.In h) (G : h.Ns mainGlobals mg) (c : Says K) : ∃ fd, ExcK PySem.Challenge.pw_leastgates_k20_holders_of_an_inner_lot K mg "EmptyLot" ∧ Init1 PySem.Challenge.pw_leastgates_k20_holders_of_an_inner_lot K "EmptyLot" "name" "name" (He.ma K (He.ga K "EmptyLot") "__init__") fd := by
  have m := c.ex.excs ("EmptyLot", "name", "name") (by decide +kernel)
  exact def_exc (d := h_eEmptyLot) (fl := fl) X G (c.defs _ (by simp [dhs])).1 (c.defs _ (by simp [dhs])).2 rfl rfl rfl m.1 m.2.1 m.2.2 c.ex.no (PySem.W.mg_none_of X G c.sup) (by decide +kernel) (by decide +kernel)
    ⟨_, _, _, _, _, _, _, _, _, _, rfl, by decide +kernel, by decide +kernel, by decide +kernel⟩ ⟨_, rfl, rfl⟩ ⟨rfl, rfl, rfl, by decide +kernel, rfl, by decide +kernel, by decide +kernel, by decide +kernel⟩ (fun _ _ _ _ _ _ _ _ _ _ us hl => match us, hl with | [_, _], _ => rfl) (by decide +kernel) (by decide +kernel) (by decide +kernel) (by decide +kernel)
theorem ok_eTooMany (X : K.In h) (G : h.Ns mainGlobals mg) (c : Says K) : ∃ fd, ExcK PySem.Challenge.pw_leastgates_k20_holders_of_an_inner_lot K mg "TooMany" ∧ Init1 PySem.Challenge.pw_leastgates_k20_holders_of_an_inner_lot K "TooMany" "size" "size" (He.ma K (He.ga K "TooMany") "__init__") fd := by
  have m := c.ex.excs ("TooMany", "size", "size") (by decide +kernel)
  exact def_exc (d := h_eTooMany) (fl := fl) X G (c.defs _ (by simp [dhs])).1 (c.defs _ (by simp [dhs])).2 rfl rfl rfl m.1 m.2.1 m.2.2 c.ex.no (PySem.W.mg_none_of X G c.sup) (by decide +kernel) (by decide +kernel)
    ⟨_, _, _, _, _, _, _, _, _, _, rfl, by decide +kernel, by decide +kernel, by decide +kernel⟩ ⟨_, rfl, rfl⟩ ⟨rfl, rfl, rfl, by decide +kernel, rfl, by decide +kernel, by decide +kernel, by decide +kernel⟩ (fun _ _ _ _ _ _ _ _ _ _ us hl => match us, hl with | [_, _], _ => rfl) (by decide +kernel) (by decide +kernel) (by decide +kernel) (by decide +kernel)
end
end DLaw

set_option maxHeartbeats 0
/-! law_k20_holders_of_an_inner_lot: the join (printed by gen.py). -/
namespace DLaw
open PySem PySem.Spec PyProof.Rows L2 DL
section
variable {K : PySem.W.Frag} {mg : Str → Option Value} {h base : Heap} {w : World}
theorem rest_ok (X : K.In h) (G : h.Ns mainGlobals mg) (c : Says K) : ∀ d ∈ rest, DefOk K mg d := by
  have hm := c.more
  simp only [Bool.and_eq_true] at hm
  obtain ⟨⟨⟨⟨⟨hTwoway1, hTwoway2⟩, hOneway1⟩, hOneway2⟩, hpOnewaymany⟩, hpTwowaymany⟩ := hm
  exact List.forall_mem_cons.mpr ⟨ok_f_law_draws X G c, List.forall_mem_cons.mpr ⟨ok_f_law_net X G c, List.forall_mem_cons.mpr ⟨ok_f_law_told_net X G c, List.forall_mem_cons.mpr ⟨ok_f_law_free_ties X G c, List.forall_mem_cons.mpr ⟨ok_f_law_kind X G c, List.forall_mem_cons.mpr ⟨ok_f_law_world X G c, List.forall_mem_cons.mpr ⟨ok_f_law_built X G c, List.forall_mem_cons.mpr ⟨ok_iTwoway X G c hTwoway1 hTwoway2, List.forall_mem_cons.mpr ⟨ok_iOneway X G c hOneway1 hOneway2, List.forall_mem_cons.mpr ⟨ok_fis_pair X G c, List.forall_mem_cons.mpr ⟨ok_f_law_refuses X G c, List.forall_mem_cons.mpr ⟨ok_f_law_refusal X G c, List.forall_mem_cons.mpr ⟨ok_f_law_held_draw X G c, List.forall_mem_cons.mpr ⟨ok_f_law_lot X G c, List.forall_mem_cons.mpr ⟨ok_f_law_two X G c, List.forall_mem_cons.mpr ⟨ok_f_law_sublot X G c, List.forall_mem_cons.mpr ⟨ok_f_law_take X G c, List.forall_mem_cons.mpr ⟨ok_fheld_lots X G c, List.forall_mem_cons.mpr ⟨ok_fmarked_lots X G c, List.forall_mem_cons.mpr ⟨ok_flots_from X G c, List.forall_mem_cons.mpr ⟨ok_fboth X G c, List.forall_mem_cons.mpr ⟨ok_fby_size X G c, List.forall_mem_cons.mpr ⟨ok_fall_lot X G c, List.forall_mem_cons.mpr ⟨ok_fminus X G c, List.forall_mem_cons.mpr ⟨ok_f_law_holders X G c, List.forall_mem_cons.mpr ⟨ok_fholders_of X G c, List.forall_mem_cons.mpr ⟨ok_fworld_of X G c, List.forall_mem_cons.mpr ⟨ok_fcheck_world X G c, List.forall_mem_cons.mpr ⟨ok_pOnewaymany c (c.ex.flds ("Oneway", "size") (by decide +kernel)).1 hpOnewaymany, List.forall_mem_cons.mpr ⟨ok_pTwowaymany c (c.ex.flds ("Twoway", "size") (by decide +kernel)).1 hpTwowaymany, List.forall_mem_cons.mpr ⟨ok_flot_of X G c, List.forall_mem_cons.mpr ⟨ok_fcheck_size X G c, List.forall_mem_cons.mpr ⟨ok_fsorted_lot X G c, List.forall_mem_cons.mpr ⟨ok_fis_number X G c, List.forall_mem_cons.mpr ⟨ok_fcheck_filled X G c, List.forall_mem_cons.mpr ⟨ok_fis_held X G c, List.forall_mem_cons.mpr ⟨ok_fflow_value X G c, List.forall_mem_cons.mpr ⟨ok_frow_out X G c, List.forall_mem_cons.mpr ⟨ok_fgreatest_row X G c, List.forall_mem_cons.mpr ⟨ok_fshortest_way X G c, List.forall_mem_cons.mpr ⟨ok_fway_back X G c, List.forall_mem_cons.mpr ⟨ok_fleft_steps X G c, List.forall_mem_cons.mpr ⟨ok_fcost_of X G c, List.forall_mem_cons.mpr ⟨ok_frest X G c, List.forall_mem_cons.mpr ⟨ok_f_law_lot_ok X G c, List.forall_mem_cons.mpr ⟨ok_f_law_int X G c, List.forall_mem_cons.mpr ⟨ok_f_law_holds X G c, List.forall_mem_cons.mpr ⟨ok_f_law_lots X G c, List.forall_mem_cons.mpr ⟨ok_f_law_rest X G c, List.forall_mem_cons.mpr ⟨ok_f_law_cost X G c, List.forall_mem_cons.mpr ⟨ok_f_law_sum X G c, List.forall_mem_cons.mpr ⟨ok_f_law_gates X G c, fun _ hd => nomatch hd⟩⟩⟩⟩⟩⟩⟩⟩⟩⟩⟩⟩⟩⟩⟩⟩⟩⟩⟩⟩⟩⟩⟩⟩⟩⟩⟩⟩⟩⟩⟩⟩⟩⟩⟩⟩⟩⟩⟩⟩⟩⟩⟩⟩⟩⟩⟩⟩⟩⟩⟩⟩
theorem mod_ok (X : K.In h) (G : h.Ns mainGlobals mg) (c : Says K) (fuel : Nat) : MdOk PySem.Challenge.pw_leastgates_k20_holders_of_an_inner_lot w K mg base (cn0 M fuel) := by
  refine md_ok X G c.ex fun c0 f x hm Y e1 e2 e3 e4 e5 e6 hr hg => ?_
  simp only [M, List.mem_cons, Prod.mk.injEq, List.not_mem_nil, or_false] at hm
  rcases hm with ⟨rfl, rfl, rfl⟩ | ⟨rfl, rfl, rfl⟩ | ⟨rfl, rfl, rfl⟩ | ⟨rfl, rfl, rfl⟩ | ⟨rfl, rfl, rfl⟩ | ⟨rfl, rfl, rfl⟩
  · obtain ⟨fd, T, R⟩ := ok_eBadNet X G c
    exact exX1 (X := Y) (by rw [e1, e3, e4]; exact T) (by rw [e1, e3]; exact R) hr hg
  · obtain ⟨fd, T, R⟩ := ok_eBadNumber X G c
    exact exX1 (X := Y) (by rw [e1, e3, e4]; exact T) (by rw [e1, e3]; exact R) hr hg
  · obtain ⟨fd, T, R⟩ := ok_eBadWorld X G c
    exact exX1 (X := Y) (by rw [e1, e3, e4]; exact T) (by rw [e1, e3]; exact R) hr hg
  · obtain ⟨fd, T, R⟩ := ok_eBadLot X G c
    exact exX1 (X := Y) (by rw [e1, e3, e4]; exact T) (by rw [e1, e3]; exact R) hr hg
  · obtain ⟨fd, T, R⟩ := ok_eEmptyLot X G c
    exact exX1 (X := Y) (by rw [e1, e3, e4]; exact T) (by rw [e1, e3]; exact R) hr hg
  · obtain ⟨fd, T, R⟩ := ok_eTooMany X G c
    exact exX1 (X := Y) (by rw [e1, e3, e4]; exact T) (by rw [e1, e3]; exact R) hr hg
end
end DLaw

set_option maxHeartbeats 4000000
/-! DM1: a def's text as plain functions over slots (what the meaning of DL2, DL13 comes to when the text is known). -/
namespace DL
open PySem PySem.Spec PyProof.Rows L2
abbrev XE := EnvD → DM RV
abbrev XT := EnvD → DM Bool
abbrev XG := D → EnvD → Option EnvD
abbrev XI := EnvD → DM (List D)
abbrev XS' := EnvD → SM
def xB (e : XE) (E : EnvD) : DM D := dbind (e E) bOf
def xK (e : XE) (E : EnvD) : DM D := dbind (e E) kOf
def xW : Bool → XE → EnvD → DM D
  | true, e, E => xK e E
  | false, e, E => xB e E
def xN (v : D) : XE := fun _ => dret (.fz v)
def xV (i : Nat) : XE := fun E => match E[i]? with
  | some (some (.fz v)) => dret (.fz v)
  | some (some (.own xs)) => dret (.bo xs)
  | _ => dwrong
def xBin (op : Operator) (a b : XE) : XE := fun E => dbind (xB a E) fun x => dbind (xB b E) fun y => binD op x y
def xNeg (a : XE) : XE := fun E => dbind (xB a E) fun x => dbind (intD x) fun i => dret (.fz (.int (-i)))
def xNot (a : XE) : XE := fun E => dbind (xB a E) fun x => dbind (blD x) fun b => dret (.fz (.bl (!b)))
def xAnd (a b : XE) : XE := fun E => dbind (xB a E) fun x => dbind (blD x) fun t => if t = true then b E else dret (.fz (.bl false))
def xOr (a b : XE) : XE := fun E => dbind (xB a E) fun x => dbind (blD x) fun t => if t = true then dret (.fz (.bl true)) else b E
def xCmp (op : CmpOp) (a b : XE) : XE := fun E => dbind (xB a E) fun x => dbind (xB b E) fun y => dbind (cmpD op x y) fun z => dret (.fz z)
def xCmp2 (o1 o2 : CmpOp) (a b d : XE) : XE := fun E => dbind (xB a E) fun x => dbind (xB b E) fun y => dbind (cmpD o1 x y) fun z => dbind (blD z) fun t => if t = true then dbind (xB d E) fun u => dbind (cmpD o2 y u) fun z => dret (.fz z) else dret (.fz (.bl false))
def xIf (t : XT) (a b : XE) : XE := fun E => dbind (t E) fun k => if k = true then a E else b E
def xKs (es : List XE) (E : EnvD) : DM (List D) := dlist (fun a => xK a E) es
def xBs (es : List XE) (E : EnvD) : DM (List D) := dlist (fun a => xB a E) es
def xTup (es : List XE) : XE := fun E => dbind (xKs es E) fun xs => dif (lenOk xs.length) (dret (.fz (.tup xs)))
def xLst (es : List XE) : XE := fun E => dbind (xKs es E) fun xs => dif (lenOk xs.length) (dret (.fr xs))
def xO : Option XE → EnvD → DM (Option Int)
  | none, _ => dret none
  | some e, E => dbind (xB e E) fun x => dbind (intD x) fun i => dret (some i)
def xSl (a : XE) (lo hi : Option XE) : XE := fun E => dbind (xB a E) fun x => dbind (xO lo E) fun l => dbind (xO hi E) fun h => slD x l h
def xRev (a : XE) : XE := fun E => dbind (xB a E) revD
def xIx (a b : XE) : XE := fun E => dbind (xB a E) fun x => dbind (xB b E) fun y => ixD x y
/-- d[b], d a dict -/
def xIxD (i : Nat) (b : XE) : XE := fun E => match dicAt E i with
  | some kvs => dbind (xB b E) fun y => dgetZ (dicGet kvs y)
  | none => dbind (xB (xV i) E) fun x => dbind (xB b E) fun y => ixD x y
def xFld (g : D → DM RV) (a : XE) : XE := fun E => dbind (xB a E) g
def isI (E : EnvD) (i : Nat) : Bool := match E[i]? with
  | some (some (.ins _ _ _)) => true
  | _ => false
def slfD (g : Str → Bool) (f : Str) (i : Nat) (E : EnvD) : DM RV := match E[i]? with
  | some (some (.ins cn ns vs)) => (match (ns.zip vs).lookup f with
    | some v => if g cn = true then dret (.fz v) else dwrong
    | none => dwrong)
  | _ => dwrong
def xFldN (h : Str → Bool) (f : Str) (g : D → DM RV) (i : Nat) : XE := fun E => if isI E i = true then slfD h f i E else dbind (xB (xV i) E) g
def xBlt (g : List D → DM RV) (es : List XE) : XE := fun E => dbind (xBs es E) g
/-- o.m(..) -/
def xMt (g : D → DM (List D) → DM RV) (o : XE) (es : List XE) : XE := fun E => dbind (xB o E) fun v => g v (xKs es E)
def xRg1 (f : Str) (a : XE) : XE := fun E => dbind (xB a E) fun x => dbind (intD x) fun j => rgR f 0 j
def xRg2 (f : Str) (a b : XE) : XE := fun E => dbind (xB a E) fun x => dbind (xB b E) fun y => dbind (intD x) fun i => dbind (intD y) fun j => rgR f i j
def xCal (g : List D → DM RV) (es : List XE) : XE := fun E => dbind (xKs es E) g
def xIsi (g : D → Option Bool) (a : XE) : XE := fun E => dbind (xB a E) fun v => dbind (dget (g v)) fun b => dret (.fz (.bl b))
def xIsi2 (g g' : D → Option Bool) (a : XE) : XE := fun E => dbind (xB a E) fun v => dbind (dget (g v)) fun b => dbind (dget (g' v)) fun b' => dret (.fz (.bl (b || b')))
def tNot (t : XT) : XT := fun E => dbind (t E) fun b => dret (!b)
def tAnd (t u : XT) : XT := fun E => dbind (t E) fun b => if b = true then u E else dret false
def tOr (t u : XT) : XT := fun E => dbind (t E) fun b => if b = true then dret true else u E
def tCmp (op : CmpOp) (a b : XE) : XT := fun E => dbind (xB a E) fun x => dbind (xB b E) fun y => dbind (cmpD op x y) fun z => blD z
def tCmp2 (o1 o2 : CmpOp) (a b d : XE) : XT := fun E => dbind (xB a E) fun x => dbind (xB b E) fun y => dbind (cmpD o1 x y) fun z => dbind (blD z) fun t => if t = true then dbind (xB d E) fun u => dbind (cmpD o2 y u) fun z => blD z else dret false
def tTru (e : XE) : XT := fun E => dbind (xB e E) dtru
def tYes : XT := fun _ => dret true
def gP (p : Pat) : XG := bindP p
def iR1 (a : XE) : XI := fun E => dbind (xB a E) fun x => dbind (intD x) fun j => dif (rngOk 0 j) (dret (rangeD 0 j))
def iR2 (a b : XE) : XI := fun E => dbind (xB a E) fun x => dbind (xB b E) fun y => dbind (intD x) fun i => dbind (intD y) fun j => dif (rngOk i j) (dret (rangeD i j))
def iEn (k : Bool) (a : XE) : XI := fun E => dbind (xW k a E) fun x => dbind (dget (items? x)) fun xs => dret (enumD xs)
def zipO (x y : D) : DM (List D) := match x, y with
  | .lst xs, .lst ys => dret (zipD xs ys)
  | .tup xs, .tup ys => dret (zipD xs ys)
  | _, _ => dwrong
def iZip (k : Bool) (a b : XE) : XI := fun E => dbind (xW k a E) fun x => dbind (xW k b E) fun y => zipO x y
def iPl (k : Bool) (a : XE) : XI := fun E => dbind (xW k a E) fun x => dget (items? x)
/-- a comprehension's turn -/
def cT1 (own : List Nat) (tg : XG) (t : XT) (e : XE) (E : EnvD) : D → DM (Option D) := fun x => match tg x (wipeD E own) with
  | some E' => dbind (t E') fun b => if b = true then dbind (xK e E') fun y => dret (some y) else dret none
  | none => dwrong
def xC1 (it : XI) (tu : EnvD → D → DM (Option D)) : XE := fun E => dbind (it E) fun items => dif (lenOk items.length) (noErr (dbind (dloop (tu E) items) fun ys => dret (.fr ys)))
def cT2 (own own1 : List Nat) (tg tg1 : XG) (t : XT) (it1 : XI) (t1 : XT) (e : XE) (E : EnvD) : D → List D → DM (List D) := fun x acc => match tg x (wipeD E own) with
  | some E' => if noOwn E' = true then dbind (t E') fun b => if b = true then dbind (it1 E') fun items1 => dfold1 (cT1 own1 tg1 t1 e E') acc items1 else dret acc else dwrong
  | none => dwrong
def xC2 (it : XI) (tu : EnvD → D → List D → DM (List D)) : XE := fun E => dbind (it E) fun items => noErr (dbind (dfold2 (tu E) [] items) fun ys => dret (.fr ys))
/-! statements -/
def fz1 (E : EnvD) (i : Nat) : EnvD := match E[i]? with
  | some (some (.own xs)) => E.set i (some (.fz (.lst xs)))
  | _ => E
def fzE : EnvD → List Nat → EnvD
  | E, [] => E
  | E, i :: r => fzE (fz1 E i) r
def sL : List XS' → XS'
  | [] => fun E => sret .nx E
  | s :: r => fun E => sbind (s E) fun E' => sL r E'
def sNx : XS' := fun E => sret .nx E
def sBrk : XS' := fun E => sret .brk E
def sCnt : XS' := fun E => sret .cnt E
def stF (i : Nat) (E : EnvD) (r : RV) : SM := match r with
  | .fz v => sret .nx (E.set i (some (.fz v)))
  | .fr xs => sret .nx (E.set i (some (.fz (.lst xs))))
  | .bo _ => swrong
def stO (i : Nat) (E : EnvD) (r : RV) : SM := match r with
  | .fz v => sret .nx (E.set i (some (.fz v)))
  | .fr xs => sret .nx (E.set i (some (.own xs)))
  | .bo _ => swrong
def stC (i : Nat) (E : EnvD) (r : RV) : SM := match r with
  | .fz v => sret .nx (E.set i (some (.fz v)))
  | .fr xs => mkCell E i xs
  | .bo _ => swrong
def sAs (fr : List Nat) (st : EnvD → RV → SM) (e : XE) : XS' := fun E => liftE (fzE E fr) (e (fzE E fr)) fun r => st (backE E (fzE E fr) r) r
def sTu (fr : List Nat) (tg : XG) (e : XE) : XS' := fun E => liftE (fzE E fr) (xK e (fzE E fr)) fun v => match tg v (fzE E fr) with
  | some E' => sret .nx E'
  | none => swrong
def mutD (E : EnvD) (i : Nat) : Bool := match E[i]? with
  | some (some (.own _)) => true
  | some (some (.fz .cel)) => true
  | _ => false
def appD (i : Nat) (E : EnvD) (v : D) : SM := match E[i]? with
  | some (some (.own xs)) => if decide (xs.length < 16777216) = true then sret .nx (E.set i (some (.own (xs ++ [v])))) else swrong
  | some (some (.fz .cel)) => celApp E v
  | _ => swrong
def setD (i : Nat) (E : EnvD) (j : D) (v : D) : SM := match j with
  | .int j => (match E[i]? with
    | some (some (.own xs)) => (match ixN xs.length j with
      | some k => sret .nx (E.set i (some (.own (xs.set k v))))
      | none => swrong)
    | some (some (.fz .cel)) => celSet E j v
    | _ => swrong)
  | _ => swrong
def sAp (fr : List Nat) (i : Nat) (e : XE) : XS' := fun E => if mutD (fzE E fr) i = true then liftE (fzE E fr) (xK e (fzE E fr)) fun v => appD i (fzE E fr) v else swrong
def sSu (fr : List Nat) (i : Nat) (j e : XE) : XS' := fun E => if (!mutD (fzE E fr) i) = true then swrong else liftE (fzE E fr) (xK e (fzE E fr)) fun v => liftE (fzE E fr) (xB j (fzE E fr)) fun j => setD i (fzE E fr) j v
/-- d = {} -/
def sDn (i : Nat) : XS' := fun E => sret .nx (E.set i (some (.dic [])))
/-- d[j] = e -/
def sDp (fr : List Nat) (i : Nat) (j e : XE) : XS' := fun E => if (!(dicAt (fzE E fr) i).isSome) = true then swrong else liftE (fzE E fr) (xB e (fzE E fr)) fun v => liftE (fzE E fr) (xB j (fzE E fr)) fun j => putD i (fzE E fr) j v
def insD (g : Str → Bool) (E : EnvD) (i : Nat) (f : Str) : Bool := match E[i]? with
  | some (some (.ins cn ns _)) => g cn && !ns.contains f && decide (ns.length < 900)
  | _ => false
def insS (i : Nat) (f : Str) (E : EnvD) (v : D) : SM := match E[i]? with
  | some (some (.ins cn ns vs)) => sret .nx (E.set i (some (.ins cn (ns ++ [f]) (vs ++ [v]))))
  | _ => swrong
def sAt (g : Str → Bool) (fr : List Nat) (i : Nat) (f : Str) (e : XE) : XS' := fun E => if (!insD g (fzE E fr) i f) = true then swrong else liftE (fzE E fr) (xK e (fzE E fr)) fun v => insS i f (fzE E fr) v
def augD (E : EnvD) (i : Nat) : Bool := match E[i]? with
  | some (some (.fz (.int _))) => true
  | _ => false
def augS (i : Nat) (g : Int → Int → Int) (E : EnvD) (v : D) : SM := match v with
  | .int b => (match E[i]? with
    | some (some (.fz (.int a))) => sret .nx (E.set i (some (.fz (.int (g a b)))))
    | _ => swrong)
  | _ => swrong
def sAu (fr : List Nat) (i : Nat) (g : Int → Int → Int) (e : XE) : XS' := fun E => if (!augD (fzE E fr) i) = true then swrong else liftE (fzE E fr) (xB e (fzE E fr)) fun v => augS i g (fzE E fr) v
def sR0 : XS' := fun E => sret (.ret (.fz .non)) E
def sRN (i : Nat) : XS' := fun E => match E[i]? with
  | some (some (.own xs)) => sret (.ret (.fr xs)) E
  | some (some (.fz v)) => sret (.ret (.fz v)) E
  | _ => swrong
def sRe (fr : List Nat) (e : XE) : XS' := fun E => liftE (fzE E fr) (e (fzE E fr)) fun r => retR (fzE E fr) r
def sIf (fr : List Nat) (t : XT) (a b : XS') : XS' := fun E => liftE (fzE E fr) (t (fzE E fr)) fun k => if k = true then a (fzE E fr) else b (fzE E fr)
def sTn (tg : XG) (b : XS') : D → EnvD → SM := fun x E => match tg x E with
  | some E' => b E'
  | none => swrong
def sFo (fr : List Nat) (tg : XG) (it : XI) (b : XS') : XS' := fun E => liftE (fzE E fr) (it (fzE E fr)) fun xs => sfor (sTn tg b) xs (fzE E fr)
def sWh (fr : List Nat) (t : XT) (b : XS') (fuel : Nat) : XS' := fun E => swh (fun E => (fzE E fr, t (fzE E fr))) b fuel E
def sEx (fr : List Nat) (e : XE) : XS' := fun E => liftE (fzE E fr) (e (fzE E fr)) fun _ => sret .nx (fzE E fr)
def sRs (x : Str) (fs : List Str) (fr : List Nat) (es : List XE) : XS' := fun E => liftE (fzE E fr) (xKs es (fzE E fr)) fun vs => if (decide (vs.length = fs.length) && vs.all msgOk) = true then sraise ⟨x, (fs.zip vs).reverse⟩ (fzE E fr) else swrong
def sRs0 (x : Str) : XS' := fun E => sraise ⟨x, []⟩ E
def sTr (h : Exn → EnvD → Option (List Int) → RsS) (b : XS') : XS' := fun E c => match b E c with
  | .err e E' c' => h e E' c'
  | r => r
/-- an except suite -/
def tryH (C : Cn) (n : Nat) (x nm y : Str) (xe : Expr) (e : Exn) (E' : EnvD) (c' : Option (List Int)) : RsS := match C.xs e.cls x, ixS C.N nm with
  | some true, some i => if decide (i < E'.length) = true then (match evX C (E'.set i none) (some nm) e n xe with
    | some r => sfin i (stoN C (E'.set i none) y r c')
    | none => .wrong) else .wrong
  | some false, some _ => .err e E' c'
  | _, _ => .wrong
def tryS (C : Cn) (n : Nat) (s : Stmt) : Exn → EnvD → Option (List Int) → RsS := match s with
  | .Try _ [.ExceptHandler (some (.Name x _)) (some nm) [.Assign [.Name y _] xe _] _] [] [] _ => tryH C n x nm y xe
  | .Try _ hs [] [] _ => (match clsD hs with
    | some (t :: ts) => fun e E' c' => selX C n e E' c' (t :: ts)
    | _ => fun _ _ _ => .wrong)
  | _ => fun _ _ _ => .wrong
end DL

set_option maxHeartbeats 0
/-! law_k20_holders_of_an_inner_lot: the defs' texts over slots (printed by shal.py). -/
namespace DLaw
open PySem PySem.Spec PyProof.Rows L2 DL
def fuel0 : Nat := 10 ^ 40
/-! f_law_gates: 0 kind_here, 1 ties, 2 lot_here, 3 tie -/
def C_f_law_gates : Cn := cnOf (cn0 M fuel0) (den (cn0 M fuel0) 400 (rest.drop 52)) (knw (rest.drop 52)) d_f_law_gates
@[irreducible] def Q_f_law_gates : List D → DM RV := runD C_f_law_gates 400 d_f_law_gates
def c1_f_law_gates : EnvD → D → DM (Option D) := cT1 [3] (gP (.sl 3)) (tAnd (tCmp .In (xIx (xIx (xV 1) (xV 3)) (xN (.int 0))) (xV 2)) (tCmp .NotIn (xIx (xIx (xV 1) (xV 3)) (xN (.int 1))) (xV 2))) (xV 3)
def s0_f_law_gates : XS' := (sIf [] (tCmp .Eq (xV 0) (xN (.str "oneway"))) (sL [(sRe [3] (xC1 (iR1 (xBlt bLen [(xV 1)])) c1_f_law_gates))]) (sL []))
def c2_f_law_gates : EnvD → D → DM (Option D) := cT1 [3] (gP (.sl 3)) (tCmp .NotEq (xCmp .In (xIx (xIx (xV 1) (xV 3)) (xN (.int 0))) (xV 2)) (xCmp .In (xIx (xIx (xV 1) (xV 3)) (xN (.int 1))) (xV 2))) (xV 3)
def s1_f_law_gates : XS' := (sRe [3] (xC1 (iR1 (xBlt bLen [(xV 1)])) c2_f_law_gates))
def b_f_law_gates : XS' := (sL [s0_f_law_gates, s1_f_law_gates])
theorem q_f_law_gates (a0 a1 a2 : D) (c : Option (List Int)) : Q_f_law_gates [a0, a1, a2] c = outD (b_f_law_gates [some (.fz a0), some (.fz a1), some (.fz a2), none] c) := by
  unfold Q_f_law_gates
  kernel_rfl
/-! f_law_sum: 0 world_here, 1 ties, 2 tie -/
def C_f_law_sum : Cn := cnOf (cn0 M fuel0) (den (cn0 M fuel0) 400 (rest.drop 51)) (knw (rest.drop 51)) d_f_law_sum
@[irreducible] def Q_f_law_sum : List D → DM RV := runD C_f_law_sum 400 d_f_law_sum
def c1_f_law_sum : EnvD → D → DM (Option D) := cT1 [2] (gP (.sl 2)) tYes (xIx (xV 0) (xV 2))
def s0_f_law_sum : XS' := (sRe [] (xBlt bSum [(xC1 (iPl false (xV 1)) c1_f_law_sum)]))
def b_f_law_sum : XS' := (sL [s0_f_law_sum])
theorem q_f_law_sum (a0 a1 : D) (c : Option (List Int)) : Q_f_law_sum [a0, a1] c = outD (b_f_law_sum [some (.fz a0), some (.fz a1), none] c) := by
  unfold Q_f_law_sum
  kernel_rfl
/-! f_law_cost: 0 kind_here, 1 ties, 2 world_here, 3 lot_here -/
def C_f_law_cost : Cn := cnOf (cn0 M fuel0) (den (cn0 M fuel0) 400 (rest.drop 50)) (knw (rest.drop 50)) d_f_law_cost
@[irreducible] def Q_f_law_cost : List D → DM RV := runD C_f_law_cost 400 d_f_law_cost
def s0_f_law_cost : XS' := (sRe [2, 0, 1, 3] (xCal Q_f_law_sum [(xV 2), (xCal Q_f_law_gates [(xV 0), (xV 1), (xV 3)])]))
def b_f_law_cost : XS' := (sL [s0_f_law_cost])
theorem q_f_law_cost (a0 a1 a2 a3 : D) (c : Option (List Int)) : Q_f_law_cost [a0, a1, a2, a3] c = outD (b_f_law_cost [some (.fz a0), some (.fz a1), some (.fz a2), some (.fz a3)] c) := by
  unfold Q_f_law_cost
  kernel_rfl
/-! f_law_rest: 0 size, 1 lot_here, 2 place -/
def C_f_law_rest : Cn := cnOf (cn0 M fuel0) (den (cn0 M fuel0) 400 (rest.drop 49)) (knw (rest.drop 49)) d_f_law_rest
@[irreducible] def Q_f_law_rest : List D → DM RV := runD C_f_law_rest 400 d_f_law_rest
def c1_f_law_rest : EnvD → D → DM (Option D) := cT1 [2] (gP (.sl 2)) (tCmp .NotIn (xV 2) (xV 1)) (xV 2)
def s0_f_law_rest : XS' := (sRe [2] (xC1 (iR1 (xV 0)) c1_f_law_rest))
def b_f_law_rest : XS' := (sL [s0_f_law_rest])
theorem q_f_law_rest (a0 a1 : D) (c : Option (List Int)) : Q_f_law_rest [a0, a1] c = outD (b_f_law_rest [some (.fz a0), some (.fz a1), none] c) := by
  unfold Q_f_law_rest
  kernel_rfl
/-! f_law_lots: 0 size, 1 inside, 2 outside, 3 lots_here, 4 place, 5 lot_here -/
def C_f_law_lots : Cn := cnOf (cn0 M fuel0) (den (cn0 M fuel0) 400 (rest.drop 48)) (knw (rest.drop 48)) d_f_law_lots
@[irreducible] def Q_f_law_lots : List D → DM RV := runD C_f_law_lots 400 d_f_law_lots
def s0_f_law_lots : XS' := (sAs [] (stF 3) (xLst [(xBlt bSorted [(xBlt bList [(xV 1)])])]))
def c1_f_law_lots : EnvD → D → DM (Option D) := cT1 [5] (gP (.sl 5)) tYes (xBlt bSorted [(xBin .Add (xV 5) (xLst [(xV 4)]))])
def y1_f_law_lots : XS' := (sL [(sIf [] (tAnd (tCmp .NotIn (xV 4) (xV 1)) (tCmp .NotIn (xV 4) (xV 2))) (sL [(sAs [4] (stF 3) (xBin .Add (xV 3) (xC1 (iPl false (xV 3)) c1_f_law_lots)))]) (sL []))])
def s1_f_law_lots : XS' := (sFo [] (gP (.sl 4)) (iR1 (xV 0)) y1_f_law_lots)
def s2_f_law_lots : XS' := (sRN 3)
def b_f_law_lots : XS' := (sL [s0_f_law_lots, s1_f_law_lots, s2_f_law_lots])
theorem q_f_law_lots (a0 a1 a2 : D) (c : Option (List Int)) : Q_f_law_lots [a0, a1, a2] c = outD (b_f_law_lots [some (.fz a0), some (.fz a1), some (.fz a2), none, none, none] c) := by
  unfold Q_f_law_lots
  kernel_rfl
/-! f_law_holds: 0 kind_here, 1 size, 2 ties, 3 world_here, 4 holders_here, 5 lot_here, 6 due, 7 lots_here, 8 inner -/
def C_f_law_holds : Cn := cnOf (cn0 M fuel0) (den (cn0 M fuel0) 400 (rest.drop 47)) (knw (rest.drop 47)) d_f_law_holds
@[irreducible] def Q_f_law_holds : List D → DM RV := runD C_f_law_holds 400 d_f_law_holds
def s0_f_law_holds : XS' := (sAs [0, 2, 3, 5] (stF 6) (xCal Q_f_law_cost [(xV 0), (xV 2), (xV 3), (xV 5)]))
def s1_f_law_holds : XS' := (sAs [1, 4, 1, 5] (stF 7) (xCal Q_f_law_lots [(xV 1), (xV 4), (xCal Q_f_law_rest [(xV 1), (xV 5)])]))
def c1_f_law_holds : EnvD → D → DM (Option D) := cT1 [8] (gP (.sl 8)) tYes (xCmp .GtE (xCal Q_f_law_cost [(xV 0), (xV 2), (xV 3), (xV 8)]) (xV 6))
def s2_f_law_holds : XS' := (sRe [0, 2, 3, 8] (xBlt bAll [(xC1 (iPl false (xV 7)) c1_f_law_holds)]))
def b_f_law_holds : XS' := (sL [s0_f_law_holds, s1_f_law_holds, s2_f_law_holds])
theorem q_f_law_holds (a0 a1 a2 a3 a4 a5 : D) (c : Option (List Int)) : Q_f_law_holds [a0, a1, a2, a3, a4, a5] c = outD (b_f_law_holds [some (.fz a0), some (.fz a1), some (.fz a2), some (.fz a3), some (.fz a4), some (.fz a5), none, none, none] c) := by
  unfold Q_f_law_holds
  kernel_rfl
/-! f_law_int: 0 value -/
def C_f_law_int : Cn := cnOf (cn0 M fuel0) (den (cn0 M fuel0) 400 (rest.drop 46)) (knw (rest.drop 46)) d_f_law_int
@[irreducible] def Q_f_law_int : List D → DM RV := runD C_f_law_int 400 d_f_law_int
def k_f_law_int_bool (v : D) : Option Bool := isiD C_f_law_int v "bool"
def k_f_law_int_int (v : D) : Option Bool := isiD C_f_law_int v "int"
def s0_f_law_int : XS' := (sRe [] (xAnd (xIsi k_f_law_int_int (xV 0)) (xNot (xIsi k_f_law_int_bool (xV 0)))))
def b_f_law_int : XS' := (sL [s0_f_law_int])
theorem q_f_law_int (a0 : D) (c : Option (List Int)) : Q_f_law_int [a0] c = outD (b_f_law_int [some (.fz a0)] c) := by
  unfold Q_f_law_int
  kernel_rfl
/-! f_law_lot_ok: 0 value, 1 size, 2 before, 3 place -/
def C_f_law_lot_ok : Cn := cnOf (cn0 M fuel0) (den (cn0 M fuel0) 400 (rest.drop 45)) (knw (rest.drop 45)) d_f_law_lot_ok
@[irreducible] def Q_f_law_lot_ok : List D → DM RV := runD C_f_law_lot_ok 400 d_f_law_lot_ok
def k_f_law_lot_ok_tuple (v : D) : Option Bool := isiD C_f_law_lot_ok v "tuple"
def s0_f_law_lot_ok : XS' := (sIf [] (tNot (tTru (xIsi k_f_law_lot_ok_tuple (xV 0)))) (sL [(sRe [] (xN (.bl false)))]) (sL []))
def s1_f_law_lot_ok : XS' := (sAs [] (stF 2) (xNeg (xN (.int 1))))
def y1_f_law_lot_ok : XS' := (sL [(sIf [3] (tOr (tNot (tTru (xCal Q_f_law_int [(xV 3)]))) (tOr (tCmp .LtE (xV 3) (xV 2)) (tCmp .GtE (xV 3) (xV 1)))) (sL [(sRe [] (xN (.bl false)))]) (sL [])),
  (sAs [3] (stF 2) (xV 3))])
def s2_f_law_lot_ok : XS' := (sFo [0] (gP (.sl 3)) (iPl true (xV 0)) y1_f_law_lot_ok)
def s3_f_law_lot_ok : XS' := (sRe [] (xN (.bl true)))
def b_f_law_lot_ok : XS' := (sL [s0_f_law_lot_ok, s1_f_law_lot_ok, s2_f_law_lot_ok, s3_f_law_lot_ok])
theorem q_f_law_lot_ok (a0 a1 : D) (c : Option (List Int)) : Q_f_law_lot_ok [a0, a1] c = outD (b_f_law_lot_ok [some (.fz a0), some (.fz a1), none, none] c) := by
  unfold Q_f_law_lot_ok
  kernel_rfl
/-! frest: 0 size, 1 lot, 2 place -/
def C_frest : Cn := cnOf (cn0 M fuel0) (den (cn0 M fuel0) 400 (rest.drop 44)) (knw (rest.drop 44)) d_frest
@[irreducible] def Q_frest : List D → DM RV := runD C_frest 400 d_frest
def c1_frest : EnvD → D → DM (Option D) := cT1 [2] (gP (.sl 2)) (tCmp .NotIn (xV 2) (xV 1)) (xV 2)
def s0_frest : XS' := (sRe [2] (xBlt bTuple [(xC1 (iR1 (xV 0)) c1_frest)]))
def b_frest : XS' := (sL [s0_frest])
theorem q_frest (a0 a1 : D) (c : Option (List Int)) : Q_frest [a0, a1] c = outD (b_frest [some (.fz a0), some (.fz a1), none] c) := by
  unfold Q_frest
  kernel_rfl
/-! fcost_of: 0 net, 1 world, 2 lot, 3 total, 4 twoway, 5 tie, 6 one, 7 other -/
def C_fcost_of : Cn := cnOf (cn0 M fuel0) (den (cn0 M fuel0) 400 (rest.drop 43)) (knw (rest.drop 43)) d_fcost_of
@[irreducible] def Q_fcost_of : List D → DM RV := runD C_fcost_of 400 d_fcost_of
def s0_fcost_of : XS' := (sAs [] (stF 3) (xN (.int 0)))
def w_fcost_of_KIND (c : Str) : Bool := C_fcost_of.isFld c "KIND"
def g_fcost_of_KIND (v : D) : DM RV := fldD C_fcost_of v "KIND"
def s1_fcost_of : XS' := (sAs [] (stF 4) (xCmp .Eq (xFldN w_fcost_of_KIND "KIND" g_fcost_of_KIND 0) (xN (.str "twoway"))))
def y1_fcost_of : XS' := (sL [(sIf [] (tCmp .In (xV 6) (xV 2)) (sL [(sIf [] (tCmp .NotIn (xV 7) (xV 2)) (sL [(sAs [] (stF 3) (xBin .Add (xV 3) (xIx (xV 1) (xV 5))))]) (sL []))]) (sL [(sIf [] (tAnd (tTru (xV 4)) (tCmp .In (xV 7) (xV 2))) (sL [(sAs [] (stF 3) (xBin .Add (xV 3) (xIx (xV 1) (xV 5))))]) (sL []))]))])
def w_fcost_of_ties (c : Str) : Bool := C_fcost_of.isFld c "ties"
def g_fcost_of_ties (v : D) : DM RV := fldD C_fcost_of v "ties"
def s2_fcost_of : XS' := (sFo [] (gP (.tp [.sl 5, .tp [.sl 6, .sl 7]])) (iEn true (xFldN w_fcost_of_ties "ties" g_fcost_of_ties 0)) y1_fcost_of)
def s3_fcost_of : XS' := (sRN 3)
def b_fcost_of : XS' := (sL [s0_fcost_of, s1_fcost_of, s2_fcost_of, s3_fcost_of])
theorem q_fcost_of (a0 a1 a2 : D) (c : Option (List Int)) : Q_fcost_of [a0, a1, a2] c = outD (b_fcost_of [some (.fz a0), some (.fz a1), some (.fz a2), none, none, none, none, none] c) := by
  unfold Q_fcost_of
  kernel_rfl
/-! fleft_steps: 0 net, 1 world, 2 row, 3 steps, 4 twoway, 5 tie, 6 one, 7 other, 8 back -/
def C_fleft_steps : Cn := cnOf (cn0 M fuel0) (den (cn0 M fuel0) 400 (rest.drop 42)) (knw (rest.drop 42)) d_fleft_steps
@[irreducible] def Q_fleft_steps : List D → DM RV := runD C_fleft_steps 400 d_fleft_steps
def s0_fleft_steps : XS' := (sAs [] (stO 3) (xLst []))
def w_fleft_steps_KIND (c : Str) : Bool := C_fleft_steps.isFld c "KIND"
def g_fleft_steps_KIND (v : D) : DM RV := fldD C_fleft_steps v "KIND"
def s1_fleft_steps : XS' := (sAs [] (stF 4) (xCmp .Eq (xFldN w_fleft_steps_KIND "KIND" g_fleft_steps_KIND 0) (xN (.str "twoway"))))
def z1_fleft_steps : XS' := (sL [(sAs [] (stF 8) (xIf (tTru (xV 4)) (xBin .Add (xIx (xV 2) (xV 5)) (xIx (xV 1) (xV 5))) (xIx (xV 2) (xV 5)))),
  (sIf [] (tCmp .Lt (xIx (xV 2) (xV 5)) (xIx (xV 1) (xV 5))) (sL [(sAp [6, 7, 5] 3 (xTup [(xV 6), (xV 7), (xV 5), (xN (.int 1)), (xBin .Sub (xIx (xV 1) (xV 5)) (xIx (xV 2) (xV 5)))]))]) (sL [])),
  (sIf [] (tCmp .Gt (xV 8) (xN (.int 0))) (sL [(sAp [7, 6, 5, 8] 3 (xTup [(xV 7), (xV 6), (xV 5), (xNeg (xN (.int 1))), (xV 8)]))]) (sL []))])
def y1_fleft_steps : XS' := (sL [(sIf [] (tCmp .NotEq (xV 6) (xV 7)) z1_fleft_steps (sL []))])
def w_fleft_steps_ties (c : Str) : Bool := C_fleft_steps.isFld c "ties"
def g_fleft_steps_ties (v : D) : DM RV := fldD C_fleft_steps v "ties"
def s2_fleft_steps : XS' := (sFo [] (gP (.tp [.sl 5, .tp [.sl 6, .sl 7]])) (iEn true (xFldN w_fleft_steps_ties "ties" g_fleft_steps_ties 0)) y1_fleft_steps)
def s3_fleft_steps : XS' := (sRN 3)
def b_fleft_steps : XS' := (sL [s0_fleft_steps, s1_fleft_steps, s2_fleft_steps, s3_fleft_steps])
theorem q_fleft_steps (a0 a1 a2 : D) (c : Option (List Int)) : Q_fleft_steps [a0, a1, a2] c = outD (b_fleft_steps [some (.fz a0), some (.fz a1), some (.fz a2), none, none, none, none, none, none] c) := by
  unfold Q_fleft_steps
  kernel_rfl
/-! fway_back: 0 came, 1 place, 2 way, 3 at -/
def C_fway_back : Cn := cnOf (cn0 M fuel0) (den (cn0 M fuel0) 400 (rest.drop 41)) (knw (rest.drop 41)) d_fway_back
@[irreducible] def Q_fway_back : List D → DM RV := runD C_fway_back 400 d_fway_back
def s0_fway_back : XS' := (sAs [] (stO 2) (xLst []))
def s1_fway_back : XS' := (sAs [1] (stF 3) (xV 1))
def v1_fway_back : XS' := (sL [(sAp [] 2 (xIx (xV 0) (xV 3))),
  (sAs [] (stF 3) (xIx (xIx (xV 0) (xV 3)) (xN (.int 0))))])
def x1_fway_back : XT := (tCmp .IsNot (xIx (xV 0) (xV 3)) (xN .non))
def s2_fway_back : XS' := (sWh [] x1_fway_back v1_fway_back fuel0)
def s3_fway_back : XS' := (sRN 2)
def b_fway_back : XS' := (sL [s0_fway_back, s1_fway_back, s2_fway_back, s3_fway_back])
theorem q_fway_back (a0 a1 : D) (c : Option (List Int)) : Q_fway_back [a0, a1] c = outD (b_fway_back [some (.fz a0), some (.fz a1), none, none] c) := by
  unfold Q_fway_back
  kernel_rfl
/-! fshortest_way: 0 size, 1 steps, 2 starts, 3 goals, 4 came, 5 queue, 6 at, 7 place, 8 step, 9 _ -/
def C_fshortest_way : Cn := cnOf (cn0 M fuel0) (den (cn0 M fuel0) 400 (rest.drop 40)) (knw (rest.drop 40)) d_fshortest_way
@[irreducible] def Q_fshortest_way : List D → DM RV := runD C_fshortest_way 400 d_fshortest_way
def c1_fshortest_way : EnvD → D → DM (Option D) := cT1 [9] (gP (.sl 9)) tYes (xN .non)
def s0_fshortest_way : XS' := (sAs [] (stO 4) (xC1 (iR1 (xV 0)) c1_fshortest_way))
def s1_fshortest_way : XS' := (sAs [] (stO 5) (xBlt bList [(xV 2)]))
def s2_fshortest_way : XS' := (sAs [] (stF 6) (xN (.int 0)))
def z1_fshortest_way : XS' := (sL [(sSu [8] 4 (xIx (xV 8) (xN (.int 1))) (xV 8)),
  (sAp [] 5 (xIx (xV 8) (xN (.int 1))))])
def y1_fshortest_way : XS' := (sL [(sIf [] (tAnd (tCmp .Eq (xIx (xV 8) (xN (.int 0))) (xV 7)) (tCmp .NotIn (xIx (xV 8) (xN (.int 1))) (xV 5))) z1_fshortest_way (sL []))])
def v1_fshortest_way : XS' := (sL [(sAs [] (stF 7) (xIx (xV 5) (xV 6))),
  (sIf [] (tCmp .In (xV 7) (xV 3)) (sL [(sRe [4, 7] (xCal Q_fway_back [(xV 4), (xV 7)]))]) (sL [])),
  (sFo [1] (gP (.sl 8)) (iPl true (xV 1)) y1_fshortest_way),
  (sAu [] 6 (fun a b => a + b) (xN (.int 1)))])
def x1_fshortest_way : XT := (tCmp .Lt (xV 6) (xBlt bLen [(xV 5)]))
def s3_fshortest_way : XS' := (sWh [] x1_fshortest_way v1_fshortest_way fuel0)
def s4_fshortest_way : XS' := (sRe [] (xN .non))
def b_fshortest_way : XS' := (sL [s0_fshortest_way, s1_fshortest_way, s2_fshortest_way, s3_fshortest_way, s4_fshortest_way])
theorem q_fshortest_way (a0 a1 a2 a3 : D) (c : Option (List Int)) : Q_fshortest_way [a0, a1, a2, a3] c = outD (b_fshortest_way [some (.fz a0), some (.fz a1), some (.fz a2), some (.fz a3), none, none, none, none, none, none] c) := by
  unfold Q_fshortest_way
  kernel_rfl
/-! fgreatest_row: 0 net, 1 world, 2 starts, 3 goals, 4 row, 5 way, 6 by, 7 step, 8 _ -/
def C_fgreatest_row : Cn := cnOf (cn0 M fuel0) (den (cn0 M fuel0) 400 (rest.drop 39)) (knw (rest.drop 39)) d_fgreatest_row
@[irreducible] def Q_fgreatest_row : List D → DM RV := runD C_fgreatest_row 400 d_fgreatest_row
def c1_fgreatest_row : EnvD → D → DM (Option D) := cT1 [8] (gP (.sl 8)) tYes (xN (.int 0))
def s0_fgreatest_row : XS' := (sAs [] (stO 4) (xC1 (iPl false (xV 1)) c1_fgreatest_row))
def w_fgreatest_row_size (c : Str) : Bool := C_fgreatest_row.isFld c "size"
def g_fgreatest_row_size (v : D) : DM RV := fldD C_fgreatest_row v "size"
def s1_fgreatest_row : XS' := (sAs [0, 1, 4, 2, 3] (stF 5) (xCal Q_fshortest_way [(xFldN w_fgreatest_row_size "size" g_fgreatest_row_size 0), (xCal Q_fleft_steps [(xV 0), (xV 1), (xV 4)]), (xV 2), (xV 3)]))
def c2_fgreatest_row : EnvD → D → DM (Option D) := cT1 [7] (gP (.sl 7)) tYes (xIx (xV 7) (xN (.int 4)))
def y1_fgreatest_row : XS' := (sL [(sSu [] 4 (xIx (xV 7) (xN (.int 2))) (xBin .Add (xIx (xV 4) (xIx (xV 7) (xN (.int 2)))) (xBin .Mult (xV 6) (xIx (xV 7) (xN (.int 3))))))])
def v1_fgreatest_row : XS' := (sL [(sAs [] (stF 6) (xBlt bMin [(xC1 (iPl false (xV 5)) c2_fgreatest_row)])),
  (sFo [5] (gP (.sl 7)) (iPl true (xV 5)) y1_fgreatest_row),
  (sAs [0, 1, 4, 2, 3] (stF 5) (xCal Q_fshortest_way [(xFldN w_fgreatest_row_size "size" g_fgreatest_row_size 0), (xCal Q_fleft_steps [(xV 0), (xV 1), (xV 4)]), (xV 2), (xV 3)]))])
def x1_fgreatest_row : XT := (tCmp .IsNot (xV 5) (xN .non))
def s2_fgreatest_row : XS' := (sWh [] x1_fgreatest_row v1_fgreatest_row fuel0)
def s3_fgreatest_row : XS' := (sRe [] (xBlt bTuple [(xV 4)]))
def b_fgreatest_row : XS' := (sL [s0_fgreatest_row, s1_fgreatest_row, s2_fgreatest_row, s3_fgreatest_row])
theorem q_fgreatest_row (a0 a1 a2 a3 : D) (c : Option (List Int)) : Q_fgreatest_row [a0, a1, a2, a3] c = outD (b_fgreatest_row [some (.fz a0), some (.fz a1), some (.fz a2), some (.fz a3), none, none, none, none, none] c) := by
  unfold Q_fgreatest_row
  kernel_rfl
/-! frow_out: 0 net, 1 row, 2 lot, 3 total, 4 tie, 5 one, 6 other -/
def C_frow_out : Cn := cnOf (cn0 M fuel0) (den (cn0 M fuel0) 400 (rest.drop 38)) (knw (rest.drop 38)) d_frow_out
@[irreducible] def Q_frow_out : List D → DM RV := runD C_frow_out 400 d_frow_out
def s0_frow_out : XS' := (sAs [] (stF 3) (xN (.int 0)))
def y1_frow_out : XS' := (sL [(sIf [] (tAnd (tCmp .In (xV 5) (xV 2)) (tCmp .NotIn (xV 6) (xV 2))) (sL [(sAs [] (stF 3) (xBin .Add (xV 3) (xIx (xV 1) (xV 4))))]) (sL [])),
  (sIf [] (tAnd (tCmp .In (xV 6) (xV 2)) (tCmp .NotIn (xV 5) (xV 2))) (sL [(sAs [] (stF 3) (xBin .Sub (xV 3) (xIx (xV 1) (xV 4))))]) (sL []))])
def w_frow_out_ties (c : Str) : Bool := C_frow_out.isFld c "ties"
def g_frow_out_ties (v : D) : DM RV := fldD C_frow_out v "ties"
def s1_frow_out : XS' := (sFo [] (gP (.tp [.sl 4, .tp [.sl 5, .sl 6]])) (iEn true (xFldN w_frow_out_ties "ties" g_frow_out_ties 0)) y1_frow_out)
def s2_frow_out : XS' := (sRN 3)
def b_frow_out : XS' := (sL [s0_frow_out, s1_frow_out, s2_frow_out])
theorem q_frow_out (a0 a1 a2 : D) (c : Option (List Int)) : Q_frow_out [a0, a1, a2] c = outD (b_frow_out [some (.fz a0), some (.fz a1), some (.fz a2), none, none, none, none] c) := by
  unfold Q_frow_out
  kernel_rfl
/-! fflow_value: 0 net, 1 world, 2 starts, 3 goals -/
def C_fflow_value : Cn := cnOf (cn0 M fuel0) (den (cn0 M fuel0) 400 (rest.drop 37)) (knw (rest.drop 37)) d_fflow_value
@[irreducible] def Q_fflow_value : List D → DM RV := runD C_fflow_value 400 d_fflow_value
def s0_fflow_value : XS' := (sRe [0, 0, 1, 2, 3, 2] (xCal Q_frow_out [(xV 0), (xCal Q_fgreatest_row [(xV 0), (xV 1), (xV 2), (xV 3)]), (xV 2)]))
def b_fflow_value : XS' := (sL [s0_fflow_value])
theorem q_fflow_value (a0 a1 a2 a3 : D) (c : Option (List Int)) : Q_fflow_value [a0, a1, a2, a3] c = outD (b_fflow_value [some (.fz a0), some (.fz a1), some (.fz a2), some (.fz a3)] c) := by
  unfold Q_fflow_value
  kernel_rfl
/-! fis_held: 0 net, 1 world, 2 holders, 3 lot -/
def C_fis_held : Cn := cnOf (cn0 M fuel0) (den (cn0 M fuel0) 400 (rest.drop 36)) (knw (rest.drop 36)) d_fis_held
@[irreducible] def Q_fis_held : List D → DM RV := runD C_fis_held 400 d_fis_held
def w_fis_held_size (c : Str) : Bool := C_fis_held.isFld c "size"
def g_fis_held_size (v : D) : DM RV := fldD C_fis_held v "size"
def s0_fis_held : XS' := (sIf [] (tCmp .Eq (xBlt bLen [(xV 3)]) (xFldN w_fis_held_size "size" g_fis_held_size 0)) (sL [(sRe [] (xN (.bl true)))]) (sL []))
def s1_fis_held : XS' := (sRe [0, 1, 2, 3, 0, 1, 3] (xCmp .Eq (xCal Q_fflow_value [(xV 0), (xV 1), (xV 2), (xCal Q_frest [(xFldN w_fis_held_size "size" g_fis_held_size 0), (xV 3)])]) (xCal Q_fcost_of [(xV 0), (xV 1), (xV 3)])))
def b_fis_held : XS' := (sL [s0_fis_held, s1_fis_held])
theorem q_fis_held (a0 a1 a2 a3 : D) (c : Option (List Int)) : Q_fis_held [a0, a1, a2, a3] c = outD (b_fis_held [some (.fz a0), some (.fz a1), some (.fz a2), some (.fz a3)] c) := by
  unfold Q_fis_held
  kernel_rfl
/-! fcheck_filled: 0 lot, 1 name -/
def C_fcheck_filled : Cn := cnOf (cn0 M fuel0) (den (cn0 M fuel0) 400 (rest.drop 35)) (knw (rest.drop 35)) d_fcheck_filled
@[irreducible] def Q_fcheck_filled : List D → DM RV := runD C_fcheck_filled 400 d_fcheck_filled
def s0_fcheck_filled : XS' := (sIf [] (tCmp .Eq (xBlt bLen [(xV 0)]) (xN (.int 0))) (sL [(sRs "EmptyLot" ["name"] [1] [(xV 1)])]) (sL []))
def b_fcheck_filled : XS' := (sL [s0_fcheck_filled])
theorem q_fcheck_filled (a0 a1 : D) (c : Option (List Int)) : Q_fcheck_filled [a0, a1] c = outD (b_fcheck_filled [some (.fz a0), some (.fz a1)] c) := by
  unfold Q_fcheck_filled
  kernel_rfl
/-! fis_number: 0 value -/
def C_fis_number : Cn := cnOf (cn0 M fuel0) (den (cn0 M fuel0) 400 (rest.drop 34)) (knw (rest.drop 34)) d_fis_number
@[irreducible] def Q_fis_number : List D → DM RV := runD C_fis_number 400 d_fis_number
def k_fis_number_bool (v : D) : Option Bool := isiD C_fis_number v "bool"
def k_fis_number_int (v : D) : Option Bool := isiD C_fis_number v "int"
def s0_fis_number : XS' := (sRe [] (xAnd (xIsi k_fis_number_int (xV 0)) (xNot (xIsi k_fis_number_bool (xV 0)))))
def b_fis_number : XS' := (sL [s0_fis_number])
theorem q_fis_number (a0 : D) (c : Option (List Int)) : Q_fis_number [a0] c = outD (b_fis_number [some (.fz a0)] c) := by
  unfold Q_fis_number
  kernel_rfl
/-! fsorted_lot: 0 size, 1 places, 2 at, 3 place -/
def C_fsorted_lot : Cn := cnOf (cn0 M fuel0) (den (cn0 M fuel0) 400 (rest.drop 33)) (knw (rest.drop 33)) d_fsorted_lot
@[irreducible] def Q_fsorted_lot : List D → DM RV := runD C_fsorted_lot 400 d_fsorted_lot
def k_fsorted_lot_list (v : D) : Option Bool := isiD C_fsorted_lot v "list"
def k_fsorted_lot_tuple (v : D) : Option Bool := isiD C_fsorted_lot v "tuple"
def s0_fsorted_lot : XS' := (sIf [] (tNot (tTru (xIsi2 k_fsorted_lot_list k_fsorted_lot_tuple (xV 1)))) (sL [(sRs "BadLot" ["at"] [] [(xNeg (xN (.int 1)))])]) (sL []))
def y1_fsorted_lot : XS' := (sL [(sIf [3] (tOr (tNot (tTru (xCal Q_fis_number [(xV 3)]))) (tOr (tCmp .Lt (xV 3) (xN (.int 0))) (tOr (tCmp .GtE (xV 3) (xV 0)) (tCmp .In (xV 3) (xSl (xV 1) none (some (xV 2))))))) (sL [(sRs "BadLot" ["at"] [2] [(xV 2)])]) (sL []))])
def s1_fsorted_lot : XS' := (sFo [1] (gP (.tp [.sl 2, .sl 3])) (iEn true (xV 1)) y1_fsorted_lot)
def s2_fsorted_lot : XS' := (sRe [] (xBlt bTuple [(xBlt bSorted [(xV 1)])]))
def b_fsorted_lot : XS' := (sL [s0_fsorted_lot, s1_fsorted_lot, s2_fsorted_lot])
theorem q_fsorted_lot (a0 a1 : D) (c : Option (List Int)) : Q_fsorted_lot [a0, a1] c = outD (b_fsorted_lot [some (.fz a0), some (.fz a1), none, none] c) := by
  unfold Q_fsorted_lot
  kernel_rfl
/-! fcheck_size: 0 size -/
def C_fcheck_size : Cn := cnOf (cn0 M fuel0) (den (cn0 M fuel0) 400 (rest.drop 32)) (knw (rest.drop 32)) d_fcheck_size
@[irreducible] def Q_fcheck_size : List D → DM RV := runD C_fcheck_size 400 d_fcheck_size
def s0_fcheck_size : XS' := (sIf [0] (tOr (tNot (tTru (xCal Q_fis_number [(xV 0)]))) (tOr (tCmp .Lt (xV 0) (xN (.int 1))) (tCmp .Gt (xV 0) (xN (.int 12))))) (sL [(sRs "BadNumber" ["name"] [] [(xN (.str "size"))])]) (sL []))
def b_fcheck_size : XS' := (sL [s0_fcheck_size])
theorem q_fcheck_size (a0 : D) (c : Option (List Int)) : Q_fcheck_size [a0] c = outD (b_fcheck_size [some (.fz a0)] c) := by
  unfold Q_fcheck_size
  kernel_rfl
/-! flot_of: 0 size, 1 places -/
def C_flot_of : Cn := cnOf (cn0 M fuel0) (den (cn0 M fuel0) 400 (rest.drop 31)) (knw (rest.drop 31)) d_flot_of
@[irreducible] def Q_flot_of : List D → DM RV := runD C_flot_of 400 d_flot_of
def s0_flot_of : XS' := (sEx [0] (xCal Q_fcheck_size [(xV 0)]))
def s1_flot_of : XS' := (sRe [0, 1] (xCal Q_fsorted_lot [(xV 0), (xV 1)]))
def b_flot_of : XS' := (sL [s0_flot_of, s1_flot_of])
theorem q_flot_of (a0 a1 : D) (c : Option (List Int)) : Q_flot_of [a0, a1] c = outD (b_flot_of [some (.fz a0), some (.fz a1)] c) := by
  unfold Q_flot_of
  kernel_rfl
/-! pTwowaymany: 0 self -/
def C_pTwowaymany : Cn := cnOf (cn0 M fuel0) (den (cn0 M fuel0) 400 (rest.drop 30)) (knw (rest.drop 30)) d_pTwowaymany
@[irreducible] def Q_pTwowaymany : List D → DM RV := runD C_pTwowaymany 400 d_pTwowaymany
def w_pTwowaymany_ties (c : Str) : Bool := C_pTwowaymany.isFld c "ties"
def g_pTwowaymany_ties (v : D) : DM RV := fldD C_pTwowaymany v "ties"
def s0_pTwowaymany : XS' := (sRe [] (xBlt bLen [(xFldN w_pTwowaymany_ties "ties" g_pTwowaymany_ties 0)]))
def b_pTwowaymany : XS' := (sL [s0_pTwowaymany])
theorem q_pTwowaymany (a0 : D) (c : Option (List Int)) : Q_pTwowaymany [a0] c = outD (b_pTwowaymany [some (.fz a0)] c) := by
  unfold Q_pTwowaymany
  kernel_rfl
/-! pOnewaymany: 0 self -/
def C_pOnewaymany : Cn := cnOf (cn0 M fuel0) (den (cn0 M fuel0) 400 (rest.drop 29)) (knw (rest.drop 29)) d_pOnewaymany
@[irreducible] def Q_pOnewaymany : List D → DM RV := runD C_pOnewaymany 400 d_pOnewaymany
def w_pOnewaymany_ties (c : Str) : Bool := C_pOnewaymany.isFld c "ties"
def g_pOnewaymany_ties (v : D) : DM RV := fldD C_pOnewaymany v "ties"
def s0_pOnewaymany : XS' := (sRe [] (xBlt bLen [(xFldN w_pOnewaymany_ties "ties" g_pOnewaymany_ties 0)]))
def b_pOnewaymany : XS' := (sL [s0_pOnewaymany])
theorem q_pOnewaymany (a0 : D) (c : Option (List Int)) : Q_pOnewaymany [a0] c = outD (b_pOnewaymany [some (.fz a0)] c) := by
  unfold Q_pOnewaymany
  kernel_rfl
/-! fcheck_world: 0 many, 1 world, 2 at, 3 capacity -/
def C_fcheck_world : Cn := cnOf (cn0 M fuel0) (den (cn0 M fuel0) 400 (rest.drop 28)) (knw (rest.drop 28)) d_fcheck_world
@[irreducible] def Q_fcheck_world : List D → DM RV := runD C_fcheck_world 400 d_fcheck_world
def k_fcheck_world_list (v : D) : Option Bool := isiD C_fcheck_world v "list"
def k_fcheck_world_tuple (v : D) : Option Bool := isiD C_fcheck_world v "tuple"
def s0_fcheck_world : XS' := (sIf [] (tOr (tNot (tTru (xIsi2 k_fcheck_world_list k_fcheck_world_tuple (xV 1)))) (tCmp .NotEq (xBlt bLen [(xV 1)]) (xV 0))) (sL [(sRs "BadWorld" ["at"] [] [(xNeg (xN (.int 1)))])]) (sL []))
def y1_fcheck_world : XS' := (sL [(sIf [3] (tOr (tNot (tTru (xCal Q_fis_number [(xV 3)]))) (tCmp .Lt (xV 3) (xN (.int 0)))) (sL [(sRs "BadWorld" ["at"] [2] [(xV 2)])]) (sL []))])
def s1_fcheck_world : XS' := (sFo [1] (gP (.tp [.sl 2, .sl 3])) (iEn true (xV 1)) y1_fcheck_world)
def s2_fcheck_world : XS' := (sRe [] (xBlt bTuple [(xV 1)]))
def b_fcheck_world : XS' := (sL [s0_fcheck_world, s1_fcheck_world, s2_fcheck_world])
theorem q_fcheck_world (a0 a1 : D) (c : Option (List Int)) : Q_fcheck_world [a0, a1] c = outD (b_fcheck_world [some (.fz a0), some (.fz a1), none, none] c) := by
  unfold Q_fcheck_world
  kernel_rfl
/-! fworld_of: 0 net, 1 world -/
def C_fworld_of : Cn := cnOf (cn0 M fuel0) (den (cn0 M fuel0) 400 (rest.drop 27)) (knw (rest.drop 27)) d_fworld_of
@[irreducible] def Q_fworld_of : List D → DM RV := runD C_fworld_of 400 d_fworld_of
def w_fworld_of_many (c : Str) : Bool := C_fworld_of.isFld c "many"
def g_fworld_of_many (v : D) : DM RV := fldD C_fworld_of v "many"
def s0_fworld_of : XS' := (sRe [1] (xCal Q_fcheck_world [(xFldN w_fworld_of_many "many" g_fworld_of_many 0), (xV 1)]))
def b_fworld_of : XS' := (sL [s0_fworld_of])
theorem q_fworld_of (a0 a1 : D) (c : Option (List Int)) : Q_fworld_of [a0, a1] c = outD (b_fworld_of [some (.fz a0), some (.fz a1)] c) := by
  unfold Q_fworld_of
  kernel_rfl
/-! fholders_of: 0 net, 1 world, 2 lot, 3 place -/
def C_fholders_of : Cn := cnOf (cn0 M fuel0) (den (cn0 M fuel0) 400 (rest.drop 26)) (knw (rest.drop 26)) d_fholders_of
@[irreducible] def Q_fholders_of : List D → DM RV := runD C_fholders_of 400 d_fholders_of
def s0_fholders_of : XS' := (sAs [0, 1] (stF 1) (xCal Q_fworld_of [(xV 0), (xV 1)]))
def w_fholders_of_size (c : Str) : Bool := C_fholders_of.isFld c "size"
def g_fholders_of_size (v : D) : DM RV := fldD C_fholders_of v "size"
def s1_fholders_of : XS' := (sAs [2] (stF 2) (xCal Q_flot_of [(xFldN w_fholders_of_size "size" g_fholders_of_size 0), (xV 2)]))
def s2_fholders_of : XS' := (sEx [2] (xCal Q_fcheck_filled [(xV 2), (xN (.str "lot"))]))
def c1_fholders_of : EnvD → D → DM (Option D) := cT1 [3] (gP (.sl 3)) (tTru (xCal Q_fis_held [(xV 0), (xV 1), (xTup [(xV 3)]), (xV 2)])) (xV 3)
def s3_fholders_of : XS' := (sRe [3, 0, 1, 3, 2] (xBlt bTuple [(xC1 (iPl false (xV 2)) c1_fholders_of)]))
def b_fholders_of : XS' := (sL [s0_fholders_of, s1_fholders_of, s2_fholders_of, s3_fholders_of])
theorem q_fholders_of (a0 a1 a2 : D) (c : Option (List Int)) : Q_fholders_of [a0, a1, a2] c = outD (b_fholders_of [some (.fz a0), some (.fz a1), some (.fz a2), none] c) := by
  unfold Q_fholders_of
  kernel_rfl
/-! f_law_holders: 0 net_here, 1 kind_here, 2 size, 3 ties, 4 world_here, 5 lot_here, 6 passed, 7 answer, 8 mine, 9 place -/
def C_f_law_holders : Cn := cnOf (cn0 M fuel0) (den (cn0 M fuel0) 400 (rest.drop 25)) (knw (rest.drop 25)) d_f_law_holders
@[irreducible] def Q_f_law_holders : List D → DM RV := runD C_f_law_holders 400 d_f_law_holders
def s0_f_law_holders : XS' := (sAs [] (stF 6) (xLst [(xBlt bList [(xV 4)]), (xRev (xV 5))]))
def s1_f_law_holders : XS' := (sAs [0] (stF 7) (xCal Q_fholders_of [(xV 0), (xIx (xV 6) (xN (.int 0))), (xIx (xV 6) (xN (.int 1)))]))
def s2_f_law_holders : XS' := (sIf [4, 7, 2] (tOr (tCmp .NotEq (xV 6) (xLst [(xV 4), (xRev (xV 5))])) (tNot (tTru (xCal Q_f_law_lot_ok [(xV 7), (xV 2)])))) (sL [(sRe [] (xN .non))]) (sL []))
def c1_f_law_holders : EnvD → D → DM (Option D) := cT1 [9] (gP (.sl 9)) (tTru (xCal Q_f_law_holds [(xV 1), (xV 2), (xV 3), (xV 4), (xLst [(xV 9)]), (xV 5)])) (xV 9)
def s3_f_law_holders : XS' := (sAs [9, 1, 2, 3, 4, 9, 5] (stF 8) (xC1 (iPl false (xV 5)) c1_f_law_holders))
def s4_f_law_holders : XS' := (sIf [] (tCmp .NotEq (xV 7) (xBlt bTuple [(xV 8)])) (sL [(sRe [] (xN .non))]) (sL []))
def s5_f_law_holders : XS' := (sRN 7)
def b_f_law_holders : XS' := (sL [s0_f_law_holders, s1_f_law_holders, s2_f_law_holders, s3_f_law_holders, s4_f_law_holders, s5_f_law_holders])
theorem q_f_law_holders (a0 a1 a2 a3 a4 a5 : D) (c : Option (List Int)) : Q_f_law_holders [a0, a1, a2, a3, a4, a5] c = outD (b_f_law_holders [some (.fz a0), some (.fz a1), some (.fz a2), some (.fz a3), some (.fz a4), some (.fz a5), none, none, none, none] c) := by
  unfold Q_f_law_holders
  kernel_rfl
/-! fminus: 0 one, 1 other, 2 place -/
def C_fminus : Cn := cnOf (cn0 M fuel0) (den (cn0 M fuel0) 400 (rest.drop 24)) (knw (rest.drop 24)) d_fminus
@[irreducible] def Q_fminus : List D → DM RV := runD C_fminus 400 d_fminus
def c1_fminus : EnvD → D → DM (Option D) := cT1 [2] (gP (.sl 2)) (tCmp .NotIn (xV 2) (xV 1)) (xV 2)
def s0_fminus : XS' := (sRe [2] (xBlt bTuple [(xBlt bSorted [(xC1 (iPl false (xV 0)) c1_fminus)])]))
def b_fminus : XS' := (sL [s0_fminus])
theorem q_fminus (a0 a1 : D) (c : Option (List Int)) : Q_fminus [a0, a1] c = outD (b_fminus [some (.fz a0), some (.fz a1), none] c) := by
  unfold Q_fminus
  kernel_rfl
/-! fall_lot: 0 net -/
def C_fall_lot : Cn := cnOf (cn0 M fuel0) (den (cn0 M fuel0) 400 (rest.drop 23)) (knw (rest.drop 23)) d_fall_lot
@[irreducible] def Q_fall_lot : List D → DM RV := runD C_fall_lot 400 d_fall_lot
def w_fall_lot_size (c : Str) : Bool := C_fall_lot.isFld c "size"
def g_fall_lot_size (v : D) : DM RV := fldD C_fall_lot v "size"
def s0_fall_lot : XS' := (sRe [] (xRg1 "tuple" (xFldN w_fall_lot_size "size" g_fall_lot_size 0)))
def b_fall_lot : XS' := (sL [s0_fall_lot])
theorem q_fall_lot (a0 : D) (c : Option (List Int)) : Q_fall_lot [a0] c = outD (b_fall_lot [some (.fz a0)] c) := by
  unfold Q_fall_lot
  kernel_rfl
/-! fby_size: 0 places, 1 found, 2 level, 3 _, 4 lot, 5 place -/
def C_fby_size : Cn := cnOf (cn0 M fuel0) (den (cn0 M fuel0) 400 (rest.drop 22)) (knw (rest.drop 22)) d_fby_size
@[irreducible] def Q_fby_size : List D → DM RV := runD C_fby_size 400 d_fby_size
def s0_fby_size : XS' := (sAs [] (stF 1) (xLst [(xTup [])]))
def s1_fby_size : XS' := (sAs [] (stF 2) (xLst [(xTup [])]))
def c1_fby_size : EnvD → D → List D → DM (List D) := cT2 [4, 5] [5] (gP (.sl 4)) (gP (.sl 5)) tYes (iPl true (xV 0)) (tOr (tCmp .Eq (xBlt bLen [(xV 4)]) (xN (.int 0))) (tCmp .Lt (xIx (xV 4) (xNeg (xN (.int 1)))) (xV 5))) (xBin .Add (xV 4) (xTup [(xV 5)]))
def y1_fby_size : XS' := (sL [(sAs [5] (stF 2) (xC2 (iPl false (xV 2)) c1_fby_size)),
  (sAs [] (stF 1) (xBin .Add (xV 1) (xV 2)))])
def s2_fby_size : XS' := (sFo [0] (gP (.sl 3)) (iPl true (xV 0)) y1_fby_size)
def s3_fby_size : XS' := (sRN 1)
def b_fby_size : XS' := (sL [s0_fby_size, s1_fby_size, s2_fby_size, s3_fby_size])
theorem q_fby_size (a0 : D) (c : Option (List Int)) : Q_fby_size [a0] c = outD (b_fby_size [some (.fz a0), none, none, none, none, none] c) := by
  unfold Q_fby_size
  kernel_rfl
/-! fboth: 0 one, 1 other, 2 place -/
def C_fboth : Cn := cnOf (cn0 M fuel0) (den (cn0 M fuel0) 400 (rest.drop 21)) (knw (rest.drop 21)) d_fboth
@[irreducible] def Q_fboth : List D → DM RV := runD C_fboth 400 d_fboth
def c1_fboth : EnvD → D → DM (Option D) := cT1 [2] (gP (.sl 2)) (tCmp .NotIn (xV 2) (xV 0)) (xV 2)
def s0_fboth : XS' := (sRe [2] (xBlt bTuple [(xBlt bSorted [(xBin .Add (xBlt bList [(xV 0)]) (xC1 (iPl false (xV 1)) c1_fboth))])]))
def b_fboth : XS' := (sL [s0_fboth])
theorem q_fboth (a0 a1 : D) (c : Option (List Int)) : Q_fboth [a0, a1] c = outD (b_fboth [some (.fz a0), some (.fz a1), none] c) := by
  unfold Q_fboth
  kernel_rfl
/-! flots_from: 0 inner, 1 outer, 2 more -/
def C_flots_from : Cn := cnOf (cn0 M fuel0) (den (cn0 M fuel0) 400 (rest.drop 20)) (knw (rest.drop 20)) d_flots_from
@[irreducible] def Q_flots_from : List D → DM RV := runD C_flots_from 400 d_flots_from
def c1_flots_from : EnvD → D → DM (Option D) := cT1 [2] (gP (.sl 2)) tYes (xCal Q_fboth [(xV 0), (xV 2)])
def s0_flots_from : XS' := (sRe [0, 2, 1, 0] (xC1 (iPl false (xCal Q_fby_size [(xCal Q_fminus [(xV 1), (xV 0)])])) c1_flots_from))
def b_flots_from : XS' := (sL [s0_flots_from])
theorem q_flots_from (a0 a1 : D) (c : Option (List Int)) : Q_flots_from [a0, a1] c = outD (b_flots_from [some (.fz a0), some (.fz a1), none] c) := by
  unfold Q_flots_from
  kernel_rfl
/-! fmarked_lots: 0 net, 1 world, 2 holders, 3 least, 4 marked, 5 lot, 6 own, 7 below, 8 place -/
def C_fmarked_lots : Cn := cnOf (cn0 M fuel0) (den (cn0 M fuel0) 400 (rest.drop 19)) (knw (rest.drop 19)) d_fmarked_lots
@[irreducible] def Q_fmarked_lots : List D → DM RV := runD C_fmarked_lots 400 d_fmarked_lots
def s0_fmarked_lots : XS' := (sDn 3)
def s1_fmarked_lots : XS' := (sAs [] (stO 4) (xLst []))
def c1_fmarked_lots : EnvD → D → DM (Option D) := cT1 [8] (gP (.sl 8)) tYes (xIxD 3 (xCal Q_fminus [(xV 5), (xTup [(xV 8)])]))
def y1_fmarked_lots : XS' := (sL [(sAs [0, 1, 5] (stF 6) (xCal Q_fcost_of [(xV 0), (xV 1), (xV 5)])),
  (sAs [5, 8, 5, 2] (stF 7) (xC1 (iPl false (xCal Q_fminus [(xV 5), (xV 2)])) c1_fmarked_lots)),
  (sDp [6] 3 (xV 5) (xBlt bMin [(xBin .Add (xLst [(xV 6)]) (xV 7))])),
  (sAp [5] 4 (xTup [(xV 5), (xCmp .Eq (xV 6) (xIxD 3 (xV 5)))]))])
def s2_fmarked_lots : XS' := (sFo [2, 0] (gP (.sl 5)) (iPl true (xCal Q_flots_from [(xV 2), (xCal Q_fall_lot [(xV 0)])])) y1_fmarked_lots)
def s3_fmarked_lots : XS' := (sRN 4)
def b_fmarked_lots : XS' := (sL [s0_fmarked_lots, s1_fmarked_lots, s2_fmarked_lots, s3_fmarked_lots])
theorem q_fmarked_lots (a0 a1 a2 : D) (c : Option (List Int)) : Q_fmarked_lots [a0, a1, a2] c = outD (b_fmarked_lots [some (.fz a0), some (.fz a1), some (.fz a2), none, none, none, none, none, none] c) := by
  unfold Q_fmarked_lots
  kernel_rfl
/-! fheld_lots: 0 net, 1 world, 2 holders, 3 lot, 4 held -/
def C_fheld_lots : Cn := cnOf (cn0 M fuel0) (den (cn0 M fuel0) 400 (rest.drop 18)) (knw (rest.drop 18)) d_fheld_lots
@[irreducible] def Q_fheld_lots : List D → DM RV := runD C_fheld_lots 400 d_fheld_lots
def s0_fheld_lots : XS' := (sAs [0, 1] (stF 1) (xCal Q_fworld_of [(xV 0), (xV 1)]))
def w_fheld_lots_size (c : Str) : Bool := C_fheld_lots.isFld c "size"
def g_fheld_lots_size (v : D) : DM RV := fldD C_fheld_lots v "size"
def s1_fheld_lots : XS' := (sAs [2] (stF 2) (xCal Q_flot_of [(xFldN w_fheld_lots_size "size" g_fheld_lots_size 0), (xV 2)]))
def s2_fheld_lots : XS' := (sEx [2] (xCal Q_fcheck_filled [(xV 2), (xN (.str "holders"))]))
def s3_fheld_lots : XS' := (sIf [] (tCmp .Gt (xFldN w_fheld_lots_size "size" g_fheld_lots_size 0) (xN (.int 8))) (sL [(sRs "TooMany" ["size"] [] [(xFldN w_fheld_lots_size "size" g_fheld_lots_size 0)])]) (sL []))
def c1_fheld_lots : EnvD → D → DM (Option D) := cT1 [3, 4] (gP (.tp [.sl 3, .sl 4])) (tTru (xV 4)) (xV 3)
def s4_fheld_lots : XS' := (sRe [3, 0, 1, 2] (xC1 (iPl false (xCal Q_fmarked_lots [(xV 0), (xV 1), (xV 2)])) c1_fheld_lots))
def b_fheld_lots : XS' := (sL [s0_fheld_lots, s1_fheld_lots, s2_fheld_lots, s3_fheld_lots, s4_fheld_lots])
theorem q_fheld_lots (a0 a1 a2 : D) (c : Option (List Int)) : Q_fheld_lots [a0, a1, a2] c = outD (b_fheld_lots [some (.fz a0), some (.fz a1), some (.fz a2), none, none] c) := by
  unfold Q_fheld_lots
  kernel_rfl
/-! f_law_take: 0 draws_here, 1 many, 2 at -/
def C_f_law_take : Cn := cnOf (cn0 M fuel0) (den (cn0 M fuel0) 400 (rest.drop 17)) (knw (rest.drop 17)) d_f_law_take
@[irreducible] def Q_f_law_take : List D → DM RV := runD C_f_law_take 400 d_f_law_take
def s0_f_law_take : XS' := (sAs [] (stF 2) (xIx (xV 0) (xN (.int 0))))
def s1_f_law_take : XS' := (sIf [] (tCmp .GtE (xV 2) (xBlt bLen [(xV 0)])) (sL [(sRe [] (xN (.int 0)))]) (sL []))
def s2_f_law_take : XS' := (sSu [] 0 (xN (.int 0)) (xBin .Add (xV 2) (xN (.int 1))))
def s3_f_law_take : XS' := (sRe [] (xBin .Mod (xBlt bInt [(xIx (xV 0) (xV 2))]) (xV 1)))
def b_f_law_take : XS' := (sL [s0_f_law_take, s1_f_law_take, s2_f_law_take, s3_f_law_take])
theorem q_f_law_take (a0 a1 : D) (c : Option (List Int)) : Q_f_law_take [a0, a1] c = outD (b_f_law_take [some (.fz a0), some (.fz a1), none] c) := by
  unfold Q_f_law_take
  kernel_rfl
/-! f_law_sublot: 0 draws_here, 1 lot_here, 2 inner, 3 place -/
def C_f_law_sublot : Cn := cnOf (cn0 M fuel0) (den (cn0 M fuel0) 400 (rest.drop 16)) (knw (rest.drop 16)) d_f_law_sublot
@[irreducible] def Q_f_law_sublot : List D → DM RV := runD C_f_law_sublot 400 d_f_law_sublot
def c1_f_law_sublot : EnvD → D → DM (Option D) := cT1 [3] (gP (.sl 3)) (tCmp .Eq (xCal Q_f_law_take [(xV 0), (xN (.int 2))]) (xN (.int 1))) (xV 3)
def s0_f_law_sublot : XS' := (sAs [3, 0] (stF 2) (xC1 (iPl false (xV 1)) c1_f_law_sublot))
def s1_f_law_sublot : XS' := (sIf [] (tCmp .Eq (xBlt bLen [(xV 2)]) (xN (.int 0))) (sL [(sAs [0] (stF 2) (xLst [(xIx (xV 1) (xCal Q_f_law_take [(xV 0), (xBlt bLen [(xV 1)])]))]))]) (sL []))
def s2_f_law_sublot : XS' := (sRN 2)
def b_f_law_sublot : XS' := (sL [s0_f_law_sublot, s1_f_law_sublot, s2_f_law_sublot])
theorem q_f_law_sublot (a0 a1 : D) (c : Option (List Int)) : Q_f_law_sublot [a0, a1] c = outD (b_f_law_sublot [some (.fz a0), some (.fz a1), none, none] c) := by
  unfold Q_f_law_sublot
  kernel_rfl
/-! f_law_two: 0 draws_here, 1 size, 2 first, 3 second -/
def C_f_law_two : Cn := cnOf (cn0 M fuel0) (den (cn0 M fuel0) 400 (rest.drop 15)) (knw (rest.drop 15)) d_f_law_two
@[irreducible] def Q_f_law_two : List D → DM RV := runD C_f_law_two 400 d_f_law_two
def s0_f_law_two : XS' := (sAs [0, 1] (stF 2) (xCal Q_f_law_take [(xV 0), (xV 1)]))
def s1_f_law_two : XS' := (sAs [0] (stF 3) (xCal Q_f_law_take [(xV 0), (xBin .Sub (xV 1) (xN (.int 1)))]))
def s2_f_law_two : XS' := (sIf [] (tCmp .GtE (xV 3) (xV 2)) (sL [(sAu [] 3 (fun a b => a + b) (xN (.int 1)))]) (sL []))
def s3_f_law_two : XS' := (sRe [2, 3] (xLst [(xV 2), (xV 3)]))
def b_f_law_two : XS' := (sL [s0_f_law_two, s1_f_law_two, s2_f_law_two, s3_f_law_two])
theorem q_f_law_two (a0 a1 : D) (c : Option (List Int)) : Q_f_law_two [a0, a1] c = outD (b_f_law_two [some (.fz a0), some (.fz a1), none, none] c) := by
  unfold Q_f_law_two
  kernel_rfl
/-! f_law_lot: 0 draws_here, 1 size, 2 place -/
def C_f_law_lot : Cn := cnOf (cn0 M fuel0) (den (cn0 M fuel0) 400 (rest.drop 14)) (knw (rest.drop 14)) d_f_law_lot
@[irreducible] def Q_f_law_lot : List D → DM RV := runD C_f_law_lot 400 d_f_law_lot
def c1_f_law_lot : EnvD → D → DM (Option D) := cT1 [2] (gP (.sl 2)) (tCmp .Eq (xCal Q_f_law_take [(xV 0), (xN (.int 2))]) (xN (.int 1))) (xV 2)
def s0_f_law_lot : XS' := (sRe [2, 0] (xC1 (iR1 (xV 1)) c1_f_law_lot))
def b_f_law_lot : XS' := (sL [s0_f_law_lot])
theorem q_f_law_lot (a0 a1 : D) (c : Option (List Int)) : Q_f_law_lot [a0, a1] c = outD (b_f_law_lot [some (.fz a0), some (.fz a1), none] c) := by
  unfold Q_f_law_lot
  kernel_rfl
/-! f_law_held_draw: 0 draws_here, 1 kind_here, 2 size, 3 ties, 4 world_here, 5 lot_here, 6 two_here, 7 lots_here, 8 least, 9 found -/
def C_f_law_held_draw : Cn := cnOf (cn0 M fuel0) (den (cn0 M fuel0) 400 (rest.drop 13)) (knw (rest.drop 13)) d_f_law_held_draw
@[irreducible] def Q_f_law_held_draw : List D → DM RV := runD C_f_law_held_draw 400 d_f_law_held_draw
def c1_f_law_held_draw : EnvD → D → DM (Option D) := cT1 [5] (gP (.sl 5)) tYes (xCal Q_f_law_cost [(xV 1), (xV 3), (xV 4), (xV 5)])
def c2_f_law_held_draw : EnvD → D → DM (Option D) := cT1 [5] (gP (.sl 5)) (tCmp .Eq (xCal Q_f_law_cost [(xV 1), (xV 3), (xV 4), (xV 5)]) (xV 8)) (xV 5)
def z1_f_law_held_draw : XS' := (sL [(sAs [0, 2] (stF 6) (xCal Q_f_law_two [(xV 0), (xV 2)])),
  (sAs [2] (stF 7) (xCal Q_f_law_lots [(xV 2), (xLst [(xIx (xV 6) (xN (.int 0)))]), (xLst [(xIx (xV 6) (xN (.int 1)))])])),
  (sAs [1, 3, 4, 5] (stF 8) (xBlt bMin [(xC1 (iPl false (xV 7)) c1_f_law_held_draw)])),
  (sAs [5, 1, 3, 4, 5] (stF 9) (xC1 (iPl false (xV 7)) c2_f_law_held_draw)),
  (sRe [0] (xLst [(xLst [(xIx (xV 6) (xN (.int 0)))]), (xIx (xV 9) (xCal Q_f_law_take [(xV 0), (xBlt bLen [(xV 9)])]))]))])
def s0_f_law_held_draw : XS' := (sIf [0] (tAnd (tCmp .Gt (xV 2) (xN (.int 1))) (tCmp .Eq (xCal Q_f_law_take [(xV 0), (xN (.int 2))]) (xN (.int 1)))) z1_f_law_held_draw (sL []))
def s1_f_law_held_draw : XS' := (sAs [0, 2] (stF 5) (xCal Q_f_law_lot [(xV 0), (xV 2)]))
def s2_f_law_held_draw : XS' := (sIf [] (tCmp .Eq (xBlt bLen [(xV 5)]) (xN (.int 0))) (sL [(sAs [0, 2] (stF 5) (xLst [(xCal Q_f_law_take [(xV 0), (xV 2)])]))]) (sL []))
def s3_f_law_held_draw : XS' := (sRe [0, 5, 5] (xLst [(xCal Q_f_law_sublot [(xV 0), (xV 5)]), (xV 5)]))
def b_f_law_held_draw : XS' := (sL [s0_f_law_held_draw, s1_f_law_held_draw, s2_f_law_held_draw, s3_f_law_held_draw])
theorem q_f_law_held_draw (a0 a1 a2 a3 a4 : D) (c : Option (List Int)) : Q_f_law_held_draw [a0, a1, a2, a3, a4] c = outD (b_f_law_held_draw [some (.fz a0), some (.fz a1), some (.fz a2), some (.fz a3), some (.fz a4), none, none, none, none, none] c) := by
  unfold Q_f_law_held_draw
  kernel_rfl
/-! f_law_refusal: 0 net_here, 1 world_here, 2 lot_here, 3 told, 4 error -/
def C_f_law_refusal : Cn := cnOf (cn0 M fuel0) (den (cn0 M fuel0) 400 (rest.drop 12)) (knw (rest.drop 12)) d_f_law_refusal
@[irreducible] def Q_f_law_refusal : List D → DM RV := runD C_f_law_refusal 400 d_f_law_refusal
def s0_f_law_refusal : XS' := (sAs [] (stF 3) (xLst []))
def hd_f_law_refusal : Exn → EnvD → Option (List Int) → RsS := tryS C_f_law_refusal 397 (d_f_law_refusal.body.getD 1 (.Pass ⟨0, 0, 0, 0⟩))
def s1_f_law_refusal : XS' := (sTr hd_f_law_refusal (sL [(sEx [0, 1, 2] (xCal Q_fholders_of [(xV 0), (xV 1), (xV 2)]))]))
def s2_f_law_refusal : XS' := (sRN 3)
def b_f_law_refusal : XS' := (sL [s0_f_law_refusal, s1_f_law_refusal, s2_f_law_refusal])
theorem q_f_law_refusal (a0 a1 a2 : D) (c : Option (List Int)) : Q_f_law_refusal [a0, a1, a2] c = outD (b_f_law_refusal [some (.fz a0), some (.fz a1), some (.fz a2), none, none] c) := by
  unfold Q_f_law_refusal
  kernel_rfl
/-! f_law_refuses: 0 draws_here, 1 size, 2 net_here, 3 world_here, 4 lot_here, 5 wrong, 6 rows, 7 row -/
def C_f_law_refuses : Cn := cnOf (cn0 M fuel0) (den (cn0 M fuel0) 400 (rest.drop 11)) (knw (rest.drop 11)) d_f_law_refuses
@[irreducible] def Q_f_law_refuses : List D → DM RV := runD C_f_law_refuses 400 d_f_law_refuses
def s0_f_law_refuses : XS' := (sAs [1, 0] (stF 5) (xIx (xLst [(xV 1), (xBin .Sub (xN (.int 0)) (xN (.int 1))), (xN (.bl true)), (xN .non), (xTup [(xN (.int 0))])]) (xCal Q_f_law_take [(xV 0), (xN (.int 5))])))
def s1_f_law_refuses : XS' := (sAs [5, 3, 5, 5] (stO 6) (xLst [(xLst [(xBin .Add (xV 3) (xLst [(xN (.int 2))])), (xLst [(xV 5)]), (xLst [(xN (.str "world")), (xBin .Sub (xN (.int 0)) (xN (.int 1)))])]), (xLst [(xV 3), (xBin .Add (xV 4) (xLst [(xV 5), (xV 5)])), (xLst [(xN (.str "lot")), (xBlt bLen [(xV 4)])])])]))
def s2_f_law_refuses : XS' := (sAp [3] 6 (xLst [(xV 3), (xLst []), (xLst [(xN (.str "empty")), (xN (.str "lot"))])]))
def s3_f_law_refuses : XS' := (sAp [3] 6 (xLst [(xV 3), (xN .non), (xLst [(xN (.str "lot")), (xBin .Sub (xN (.int 0)) (xN (.int 1)))])]))
def s4_f_law_refuses : XS' := (sAp [] 6 (xLst [(xN .non), (xLst []), (xLst [(xN (.str "world")), (xBin .Sub (xN (.int 0)) (xN (.int 1)))])]))
def y1_f_law_refuses : XS' := (sL [(sIf [2] (tCmp .NotEq (xCal Q_f_law_refusal [(xV 2), (xIx (xV 7) (xN (.int 0))), (xIx (xV 7) (xN (.int 1)))]) (xIx (xV 7) (xN (.int 2)))) (sL [(sRe [] (xN (.bl false)))]) (sL []))])
def s5_f_law_refuses : XS' := (sFo [6] (gP (.sl 7)) (iPl true (xV 6)) y1_f_law_refuses)
def s6_f_law_refuses : XS' := (sRe [] (xN (.bl true)))
def b_f_law_refuses : XS' := (sL [s0_f_law_refuses, s1_f_law_refuses, s2_f_law_refuses, s3_f_law_refuses, s4_f_law_refuses, s5_f_law_refuses, s6_f_law_refuses])
theorem q_f_law_refuses (a0 a1 a2 a3 a4 : D) (c : Option (List Int)) : Q_f_law_refuses [a0, a1, a2, a3, a4] c = outD (b_f_law_refuses [some (.fz a0), some (.fz a1), some (.fz a2), some (.fz a3), some (.fz a4), none, none, none] c) := by
  unfold Q_f_law_refuses
  kernel_rfl
/-! fis_pair: 0 size, 1 pair, 2 place -/
def C_fis_pair : Cn := cnOf (cn0 M fuel0) (den (cn0 M fuel0) 400 (rest.drop 10)) (knw (rest.drop 10)) d_fis_pair
@[irreducible] def Q_fis_pair : List D → DM RV := runD C_fis_pair 400 d_fis_pair
def k_fis_pair_list (v : D) : Option Bool := isiD C_fis_pair v "list"
def k_fis_pair_tuple (v : D) : Option Bool := isiD C_fis_pair v "tuple"
def s0_fis_pair : XS' := (sIf [] (tOr (tNot (tTru (xIsi2 k_fis_pair_list k_fis_pair_tuple (xV 1)))) (tCmp .NotEq (xBlt bLen [(xV 1)]) (xN (.int 2)))) (sL [(sRe [] (xN (.bl false)))]) (sL []))
def c1_fis_pair : EnvD → D → DM (Option D) := cT1 [2] (gP (.sl 2)) tYes (xAnd (xCal Q_fis_number [(xV 2)]) (xCmp2 .LtE .Lt (xN (.int 0)) (xV 2) (xV 0)))
def s1_fis_pair : XS' := (sRe [2] (xBlt bAll [(xC1 (iPl false (xV 1)) c1_fis_pair)]))
def b_fis_pair : XS' := (sL [s0_fis_pair, s1_fis_pair])
theorem q_fis_pair (a0 a1 : D) (c : Option (List Int)) : Q_fis_pair [a0, a1] c = outD (b_fis_pair [some (.fz a0), some (.fz a1), none] c) := by
  unfold Q_fis_pair
  kernel_rfl
/-! iOneway: 0 self, 1 size, 2 ties, 3 at, 4 tie -/
def C_iOneway : Cn := cnOf (cn0 M fuel0) (den (cn0 M fuel0) 400 (rest.drop 9)) (knw (rest.drop 9)) d_iOneway
@[irreducible] def Q_iOneway : List D → DM RV := runD C_iOneway 400 d_iOneway
def s0_iOneway : XS' := (sEx [1] (xCal Q_fcheck_size [(xV 1)]))
def k_iOneway_list (v : D) : Option Bool := isiD C_iOneway v "list"
def k_iOneway_tuple (v : D) : Option Bool := isiD C_iOneway v "tuple"
def s1_iOneway : XS' := (sIf [] (tOr (tNot (tTru (xIsi2 k_iOneway_list k_iOneway_tuple (xV 2)))) (tCmp .Gt (xBlt bLen [(xV 2)]) (xN (.int 40)))) (sL [(sRs "BadNet" ["at"] [] [(xNeg (xN (.int 1)))])]) (sL []))
def y1_iOneway : XS' := (sL [(sIf [1, 4] (tNot (tTru (xCal Q_fis_pair [(xV 1), (xV 4)]))) (sL [(sRs "BadNet" ["at"] [3] [(xV 3)])]) (sL []))])
def s2_iOneway : XS' := (sFo [2] (gP (.tp [.sl 3, .sl 4])) (iEn true (xV 2)) y1_iOneway)
def w_iOneway_size (c : Str) : Bool := C_iOneway.isFld c "size"
def s3_iOneway : XS' := (sAt w_iOneway_size [1] 0 "size" (xV 1))
def w_iOneway_ties (c : Str) : Bool := C_iOneway.isFld c "ties"
def c1_iOneway : EnvD → D → DM (Option D) := cT1 [4] (gP (.sl 4)) tYes (xTup [(xIx (xV 4) (xN (.int 0))), (xIx (xV 4) (xN (.int 1)))])
def s4_iOneway : XS' := (sAt w_iOneway_ties [] 0 "ties" (xBlt bTuple [(xC1 (iPl false (xV 2)) c1_iOneway)]))
def b_iOneway : XS' := (sL [s0_iOneway, s1_iOneway, s2_iOneway, s3_iOneway, s4_iOneway])
theorem q_iOneway (a1 a2 : D) (c : Option (List Int)) : Q_iOneway [a1, a2] c = outI (b_iOneway [some (.ins "Oneway" [] []), some (.fz a1), some (.fz a2), none, none] c) := by
  unfold Q_iOneway
  kernel_rfl
/-! iTwoway: 0 self, 1 size, 2 ties, 3 at, 4 tie -/
def C_iTwoway : Cn := cnOf (cn0 M fuel0) (den (cn0 M fuel0) 400 (rest.drop 8)) (knw (rest.drop 8)) d_iTwoway
@[irreducible] def Q_iTwoway : List D → DM RV := runD C_iTwoway 400 d_iTwoway
def s0_iTwoway : XS' := (sEx [1] (xCal Q_fcheck_size [(xV 1)]))
def k_iTwoway_list (v : D) : Option Bool := isiD C_iTwoway v "list"
def k_iTwoway_tuple (v : D) : Option Bool := isiD C_iTwoway v "tuple"
def s1_iTwoway : XS' := (sIf [] (tOr (tNot (tTru (xIsi2 k_iTwoway_list k_iTwoway_tuple (xV 2)))) (tCmp .Gt (xBlt bLen [(xV 2)]) (xN (.int 40)))) (sL [(sRs "BadNet" ["at"] [] [(xNeg (xN (.int 1)))])]) (sL []))
def y1_iTwoway : XS' := (sL [(sIf [1, 4] (tNot (tTru (xCal Q_fis_pair [(xV 1), (xV 4)]))) (sL [(sRs "BadNet" ["at"] [3] [(xV 3)])]) (sL []))])
def s2_iTwoway : XS' := (sFo [2] (gP (.tp [.sl 3, .sl 4])) (iEn true (xV 2)) y1_iTwoway)
def w_iTwoway_size (c : Str) : Bool := C_iTwoway.isFld c "size"
def s3_iTwoway : XS' := (sAt w_iTwoway_size [1] 0 "size" (xV 1))
def w_iTwoway_ties (c : Str) : Bool := C_iTwoway.isFld c "ties"
def c1_iTwoway : EnvD → D → DM (Option D) := cT1 [4] (gP (.sl 4)) tYes (xTup [(xIx (xV 4) (xN (.int 0))), (xIx (xV 4) (xN (.int 1)))])
def s4_iTwoway : XS' := (sAt w_iTwoway_ties [] 0 "ties" (xBlt bTuple [(xC1 (iPl false (xV 2)) c1_iTwoway)]))
def b_iTwoway : XS' := (sL [s0_iTwoway, s1_iTwoway, s2_iTwoway, s3_iTwoway, s4_iTwoway])
theorem q_iTwoway (a1 a2 : D) (c : Option (List Int)) : Q_iTwoway [a1, a2] c = outI (b_iTwoway [some (.ins "Twoway" [] []), some (.fz a1), some (.fz a2), none, none] c) := by
  unfold Q_iTwoway
  kernel_rfl
/-! f_law_built: 0 kind_here, 1 size, 2 ties -/
def C_f_law_built : Cn := cnOf (cn0 M fuel0) (den (cn0 M fuel0) 400 (rest.drop 7)) (knw (rest.drop 7)) d_f_law_built
@[irreducible] def Q_f_law_built : List D → DM RV := runD C_f_law_built 400 d_f_law_built
def s0_f_law_built : XS' := (sIf [] (tCmp .Eq (xV 0) (xN (.str "oneway"))) (sL [(sRe [1, 2] (xCal Q_iOneway [(xV 1), (xV 2)]))]) (sL []))
def s1_f_law_built : XS' := (sRe [1, 2] (xCal Q_iTwoway [(xV 1), (xV 2)]))
def b_f_law_built : XS' := (sL [s0_f_law_built, s1_f_law_built])
theorem q_f_law_built (a0 a1 a2 : D) (c : Option (List Int)) : Q_f_law_built [a0, a1, a2] c = outD (b_f_law_built [some (.fz a0), some (.fz a1), some (.fz a2)] c) := by
  unfold Q_f_law_built
  kernel_rfl
/-! f_law_world: 0 draws_here, 1 many, 2 word, 3 world_here, 4 at, 5 k, 6 entry -/
def C_f_law_world : Cn := cnOf (cn0 M fuel0) (den (cn0 M fuel0) 400 (rest.drop 6)) (knw (rest.drop 6)) d_f_law_world
@[irreducible] def Q_f_law_world : List D → DM RV := runD C_f_law_world 400 d_f_law_world
def s0_f_law_world : XS' := (sAs [0] (stF 2) (xCal Q_f_law_take [(xV 0), (xN (.int 10))]))
def c1_f_law_world : EnvD → D → DM (Option D) := cT1 [5] (gP (.sl 5)) tYes (xCal Q_f_law_take [(xV 0), (xN (.int 10))])
def s1_f_law_world : XS' := (sAs [0] (stO 3) (xC1 (iR1 (xV 1)) c1_f_law_world))
def c2_f_law_world : EnvD → D → DM (Option D) := cT1 [6] (gP (.sl 6)) tYes (xBin .FloorDiv (xV 6) (xN (.int 5)))
def s2_f_law_world : XS' := (sIf [] (tCmp .In (xV 2) (xTup [(xN (.int 7)), (xN (.int 8))])) (sL [(sAs [] (stO 3) (xC1 (iPl false (xV 3)) c2_f_law_world))]) (sL []))
def z1_f_law_world : XS' := (sL [(sAs [0, 1] (stF 4) (xCal Q_f_law_take [(xV 0), (xV 1)])),
  (sSu [0] 3 (xV 4) (xBin .Add (xIx (xLst [(xBin .Pow (xN (.int 10)) (xN (.int 12))), (xBin .Pow (xN (.int 10)) (xN (.int 12))), (xBin .Pow (xN (.int 10)) (xN (.int 28))), (xN (.int 40))]) (xCal Q_f_law_take [(xV 0), (xN (.int 4))])) (xIx (xV 3) (xV 4))))])
def s3_f_law_world : XS' := (sIf [] (tAnd (tCmp .Eq (xV 2) (xN (.int 9))) (tCmp .Gt (xV 1) (xN (.int 0)))) z1_f_law_world (sL []))
def s4_f_law_world : XS' := (sRN 3)
def b_f_law_world : XS' := (sL [s0_f_law_world, s1_f_law_world, s2_f_law_world, s3_f_law_world, s4_f_law_world])
theorem q_f_law_world (a0 a1 : D) (c : Option (List Int)) : Q_f_law_world [a0, a1] c = outD (b_f_law_world [some (.fz a0), some (.fz a1), none, none, none, none, none] c) := by
  unfold Q_f_law_world
  kernel_rfl
/-! f_law_kind: 0 draws_here -/
def C_f_law_kind : Cn := cnOf (cn0 M fuel0) (den (cn0 M fuel0) 400 (rest.drop 5)) (knw (rest.drop 5)) d_f_law_kind
@[irreducible] def Q_f_law_kind : List D → DM RV := runD C_f_law_kind 400 d_f_law_kind
def s0_f_law_kind : XS' := (sIf [0] (tCmp .Eq (xCal Q_f_law_take [(xV 0), (xN (.int 3))]) (xN (.int 2))) (sL [(sRe [] (xN (.str "oneway")))]) (sL []))
def s1_f_law_kind : XS' := (sRe [] (xN (.str "twoway")))
def b_f_law_kind : XS' := (sL [s0_f_law_kind, s1_f_law_kind])
theorem q_f_law_kind (a0 : D) (c : Option (List Int)) : Q_f_law_kind [a0] c = outD (b_f_law_kind [some (.fz a0)] c) := by
  unfold Q_f_law_kind
  kernel_rfl
/-! f_law_free_ties: 0 draws_here, 1 size, 2 many, 3 ties, 4 k, 5 first -/
def C_f_law_free_ties : Cn := cnOf (cn0 M fuel0) (den (cn0 M fuel0) 400 (rest.drop 4)) (knw (rest.drop 4)) d_f_law_free_ties
@[irreducible] def Q_f_law_free_ties : List D → DM RV := runD C_f_law_free_ties 400 d_f_law_free_ties
def s0_f_law_free_ties : XS' := (sAs [] (stO 3) (xLst []))
def y1_f_law_free_ties : XS' := (sL [(sAs [0, 1] (stF 5) (xCal Q_f_law_take [(xV 0), (xV 1)])),
  (sAp [5, 0, 1] 3 (xTup [(xV 5), (xCal Q_f_law_take [(xV 0), (xV 1)])]))])
def s1_f_law_free_ties : XS' := (sFo [] (gP (.sl 4)) (iR1 (xV 2)) y1_f_law_free_ties)
def s2_f_law_free_ties : XS' := (sRN 3)
def b_f_law_free_ties : XS' := (sL [s0_f_law_free_ties, s1_f_law_free_ties, s2_f_law_free_ties])
theorem q_f_law_free_ties (a0 a1 a2 : D) (c : Option (List Int)) : Q_f_law_free_ties [a0, a1, a2] c = outD (b_f_law_free_ties [some (.fz a0), some (.fz a1), some (.fz a2), none, none, none] c) := by
  unfold Q_f_law_free_ties
  kernel_rfl
/-! f_law_told_net: 0 draws_here, 1 menu -/
def C_f_law_told_net : Cn := cnOf (cn0 M fuel0) (den (cn0 M fuel0) 400 (rest.drop 3)) (knw (rest.drop 3)) d_f_law_told_net
@[irreducible] def Q_f_law_told_net : List D → DM RV := runD C_f_law_told_net 400 d_f_law_told_net
def s0_f_law_told_net : XS' := (sAs [] (stO 1) (xLst [(xLst [(xN (.int 3)), (xLst [(xTup [(xN (.int 0)), (xN (.int 1))]), (xTup [(xN (.int 1)), (xN (.int 2))]), (xTup [(xN (.int 0)), (xN (.int 2))])])]), (xLst [(xN (.int 5)), (xLst [(xTup [(xN (.int 0)), (xN (.int 1))]), (xTup [(xN (.int 0)), (xN (.int 2))]), (xTup [(xN (.int 1)), (xN (.int 3))]), (xTup [(xN (.int 2)), (xN (.int 3))]), (xTup [(xN (.int 3)), (xN (.int 4))])])])]))
def s1_f_law_told_net : XS' := (sAp [] 1 (xLst [(xN (.int 4)), (xLst [(xTup [(xN (.int 0)), (xN (.int 1))]), (xTup [(xN (.int 1)), (xN (.int 2))]), (xTup [(xN (.int 0)), (xN (.int 2))]), (xTup [(xN (.int 0)), (xN (.int 3))]), (xTup [(xN (.int 1)), (xN (.int 3))]), (xTup [(xN (.int 2)), (xN (.int 3))])])]))
def s2_f_law_told_net : XS' := (sAp [] 1 (xLst [(xN (.int 5)), (xLst [(xTup [(xN (.int 0)), (xN (.int 1))]), (xTup [(xN (.int 1)), (xN (.int 2))]), (xTup [(xN (.int 0)), (xN (.int 2))]), (xTup [(xN (.int 2)), (xN (.int 3))]), (xTup [(xN (.int 3)), (xN (.int 4))]), (xTup [(xN (.int 2)), (xN (.int 4))])])]))
def s3_f_law_told_net : XS' := (sAp [] 1 (xLst [(xN (.int 4)), (xLst [(xTup [(xN (.int 0)), (xN (.int 3))]), (xTup [(xN (.int 1)), (xN (.int 3))]), (xTup [(xN (.int 2)), (xN (.int 3))])])]))
def s4_f_law_told_net : XS' := (sAp [] 1 (xLst [(xN (.int 4)), (xLst [(xTup [(xN (.int 0)), (xN (.int 1))]), (xTup [(xN (.int 1)), (xN (.int 2))]), (xTup [(xN (.int 2)), (xN (.int 3))]), (xTup [(xN (.int 0)), (xN (.int 3))])])]))
def s5_f_law_told_net : XS' := (sRe [0] (xIx (xV 1) (xCal Q_f_law_take [(xV 0), (xN (.int 6))])))
def b_f_law_told_net : XS' := (sL [s0_f_law_told_net, s1_f_law_told_net, s2_f_law_told_net, s3_f_law_told_net, s4_f_law_told_net, s5_f_law_told_net])
theorem q_f_law_told_net (a0 : D) (c : Option (List Int)) : Q_f_law_told_net [a0] c = outD (b_f_law_told_net [some (.fz a0), none] c) := by
  unfold Q_f_law_told_net
  kernel_rfl
/-! f_law_net: 0 draws_here, 1 most, 2 word, 3 size, 4 turn, 5 ties, 6 place, 7 double, 8 other, 9 told, 10 ringed, 11 tie, 12 k -/
def C_f_law_net : Cn := cnOf (cn0 M fuel0) (den (cn0 M fuel0) 400 (rest.drop 2)) (knw (rest.drop 2)) d_f_law_net
@[irreducible] def Q_f_law_net : List D → DM RV := runD C_f_law_net 400 d_f_law_net
def s0_f_law_net : XS' := (sAs [0] (stF 2) (xCal Q_f_law_take [(xV 0), (xN (.int 8))]))
def s1_f_law_net : XS' := (sAs [0] (stF 3) (xIx (xLst [(xN (.int 3)), (xN (.int 2)), (xN (.int 4)), (xN (.int 5)), (xN (.int 3)), (xN (.int 4)), (xN (.int 5)), (xN (.int 4)), (xN (.int 6)), (xN (.int 3)), (xN (.int 4)), (xN (.int 5))]) (xCal Q_f_law_take [(xV 0), (xN (.int 12))])))
def y1_f_law_net : XS' := (sL [(sAs [0, 6] (stF 8) (xCal Q_f_law_take [(xV 0), (xV 6)])),
  (sIf [0] (tCmp .Eq (xCal Q_f_law_take [(xV 0), (xN (.int 2))]) (xN (.int 1))) (sL [(sAp [6, 8] 5 (xTup [(xV 6), (xV 8)]))]) (sL [(sAp [8, 6] 5 (xTup [(xV 8), (xV 6)]))]))])
def z1_f_law_net : XS' := (sL [(sAs [] (stO 5) (xLst [])),
  (sFo [] (gP (.sl 6)) (iR2 (xN (.int 1)) (xV 3)) y1_f_law_net),
  (sAs [0, 3, 0] (stO 5) (xBin .Add (xV 5) (xCal Q_f_law_free_ties [(xV 0), (xV 3), (xCal Q_f_law_take [(xV 0), (xN (.int 6))])])))])
def z2_f_law_net : XS' := (sL [(sAs [0] (stF 9) (xCal Q_f_law_told_net [(xV 0)])),
  (sAs [] (stF 3) (xIx (xV 9) (xN (.int 0)))),
  (sAs [0, 3, 0] (stO 5) (xBin .Add (xBlt bList [(xIx (xV 9) (xN (.int 1)))]) (xCal Q_f_law_free_ties [(xV 0), (xV 3), (xCal Q_f_law_take [(xV 0), (xN (.int 2))])])))])
def c1_f_law_net : EnvD → D → DM (Option D) := cT1 [12] (gP (.sl 12)) tYes (xTup [(xV 12), (xBin .Mod (xBlt bInt [(xBin .Add (xV 12) (xN (.int 1)))]) (xV 10))])
def z3_f_law_net : XS' := (sL [(sAs [0] (stF 10) (xBin .Add (xN (.int 3)) (xCal Q_f_law_take [(xV 0), (xN (.int 3))]))),
  (sAs [0] (stF 3) (xBin .Add (xV 10) (xCal Q_f_law_take [(xV 0), (xN (.int 2))]))),
  (sAs [12] (stO 5) (xC1 (iR1 (xV 10)) c1_f_law_net)),
  (sAs [0, 3, 0] (stO 5) (xBin .Add (xV 5) (xCal Q_f_law_free_ties [(xV 0), (xV 3), (xCal Q_f_law_take [(xV 0), (xN (.int 3))])])))])
def z4_f_law_net : XS' := (sL [(sIf [0] (tCmp .Eq (xCal Q_f_law_take [(xV 0), (xN (.int 6))]) (xN (.int 5))) (sL [(sAs [] (stF 3) (xN (.int 1)))]) (sL [])),
  (sAs [0, 3, 0] (stO 5) (xCal Q_f_law_free_ties [(xV 0), (xV 3), (xCal Q_f_law_take [(xV 0), (xN (.int 10))])]))])
def s2_f_law_net : XS' := (sIf [] (tCmp .LtE (xV 2) (xN (.int 3))) z1_f_law_net (sL [(sIf [] (tCmp .LtE (xV 2) (xN (.int 5))) z2_f_law_net (sL [(sIf [] (tCmp .Eq (xV 2) (xN (.int 6))) z3_f_law_net z4_f_law_net)]))]))
def z5_f_law_net : XS' := (sL [(sAs [0] (stF 7) (xIx (xV 5) (xCal Q_f_law_take [(xV 0), (xBlt bLen [(xV 5)])]))),
  (sAp [] 5 (xTup [(xIx (xV 7) (xN (.int 1))), (xIx (xV 7) (xN (.int 0)))]))])
def s3_f_law_net : XS' := (sIf [0] (tAnd (tCmp .Gt (xBlt bLen [(xV 5)]) (xN (.int 0))) (tCmp .Eq (xCal Q_f_law_take [(xV 0), (xN (.int 8))]) (xN (.int 7)))) z5_f_law_net (sL []))
def s4_f_law_net : XS' := (sAs [0, 3] (stF 4) (xCal Q_f_law_take [(xV 0), (xV 3)]))
def c2_f_law_net : EnvD → D → DM (Option D) := cT1 [11] (gP (.sl 11)) tYes (xTup [(xBin .Mod (xBlt bInt [(xBin .Add (xIx (xV 11) (xN (.int 0))) (xV 4))]) (xV 3)), (xBin .Mod (xBlt bInt [(xBin .Add (xIx (xV 11) (xN (.int 1))) (xV 4))]) (xV 3))])
def s5_f_law_net : XS' := (sAs [] (stO 5) (xC1 (iPl false (xV 5)) c2_f_law_net))
def s6_f_law_net : XS' := (sRe [3] (xLst [(xV 3), (xSl (xV 5) none (some (xV 1)))]))
def b_f_law_net : XS' := (sL [s0_f_law_net, s1_f_law_net, s2_f_law_net, s3_f_law_net, s4_f_law_net, s5_f_law_net, s6_f_law_net])
theorem q_f_law_net (a0 a1 : D) (c : Option (List Int)) : Q_f_law_net [a0, a1] c = outD (b_f_law_net [some (.fz a0), some (.fz a1), none, none, none, none, none, none, none, none, none, none, none] c) := by
  unfold Q_f_law_net
  kernel_rfl
/-! f_law_draws: 0 script, 1 draws_here, 2 at, 3 cell, 4 k, 5 seed -/
def C_f_law_draws : Cn := cnOf (cn0 M fuel0) (den (cn0 M fuel0) 400 (rest.drop 1)) (knw (rest.drop 1)) d_f_law_draws
@[irreducible] def Q_f_law_draws : List D → DM RV := runD C_f_law_draws 400 d_f_law_draws
def s0_f_law_draws : XS' := (sAs [] (stC 1) (xLst [(xN (.int 1))]))
def z1_f_law_draws : XS' := (sL [(sAp [] 1 (xBin .Mod (xBlt bInt [(xV 3)]) (xN (.int 24)))),
  (sAs [] (stF 3) (xBin .FloorDiv (xV 3) (xN (.int 24))))])
def y1_f_law_draws : XS' := (sL [(sIf [] (tCmp .Gt (xV 3) (xN (.int 0))) z1_f_law_draws (sL []))])
def y2_f_law_draws : XS' := (sL [(sAs [] (stF 5) (xBin .Mod (xBlt bInt [(xBin .Add (xBin .Add (xBin .Add (xBin .Mult (xV 5) (xV 5)) (xBin .Mult (xV 4) (xN (.int 1013904)))) (xBin .Mult (xV 2) (xN (.int 31)))) (xN (.int 7)))]) (xN (.int 4294967291)))),
  (sAp [] 1 (xBin .FloorDiv (xV 5) (xN (.int 16))))])
def z2_f_law_draws : XS' := (sL [(sAs [] (stF 5) (xBin .Mod (xBlt bInt [(xBin .Add (xBin .Add (xBin .Mult (xV 3) (xN (.int 69069))) (xBin .Mult (xV 2) (xN (.int 362437)))) (xN (.int 12345)))]) (xN (.int 4294967291)))),
  (sFo [] (gP (.sl 4)) (iR1 (xN (.int 5))) y2_f_law_draws)])
def y3_f_law_draws : XS' := (sL [(sAs [] (stF 3) (xBlt bInt [(xIx (xV 0) (xV 2))])),
  (sIf [] (tCmp .Lt (xV 3) (xN (.int 0))) (sL [(sAs [] (stF 3) (xBin .Sub (xN (.int 2)) (xV 3)))]) (sL [])),
  (sIf [] (tCmp .GtE (xV 3) (xBin .Pow (xN (.int 10)) (xN (.int 18)))) (sL [(sFo [] (gP (.sl 4)) (iR1 (xN (.int 60))) y1_f_law_draws)]) z2_f_law_draws)])
def s1_f_law_draws : XS' := (sFo [] (gP (.sl 2)) (iR1 (xBlt bMin [(xN (.int 63)), (xBlt bLen [(xV 0)])])) y3_f_law_draws)
def s2_f_law_draws : XS' := (sRN 1)
def b_f_law_draws : XS' := (sL [s0_f_law_draws, s1_f_law_draws, s2_f_law_draws])
theorem q_f_law_draws (a0 : D) (c : Option (List Int)) : Q_f_law_draws [a0] c = outD (b_f_law_draws [some (.fz a0), none, none, none, none, none] c) := by
  unfold Q_f_law_draws
  kernel_rfl
/-! law: 0 script, 1 draws_here, 2 told, 3 size, 4 ties, 5 kind_here, 6 world_here, 7 net_here, 8 outer, 9 inner, 10 outer_holders, 11 inner_holders, 12 place, 13 rule, 14 lot_here, 15 one -/
def C_flaw : Cn := cnOf { cn0 M fuel0 with rp := true } (den (cn0 M fuel0) 400 rest) (knw rest) d_flaw
def s0_flaw : XS' := (sAs [0] (stF 1) (xCal Q_f_law_draws [(xV 0)]))
def s1_flaw : XS' := (sAs [1] (stF 2) (xCal Q_f_law_net [(xV 1), (xN (.int 12))]))
def s2_flaw : XS' := (sAs [] (stF 3) (xIx (xV 2) (xN (.int 0))))
def s3_flaw : XS' := (sAs [] (stF 4) (xIx (xV 2) (xN (.int 1))))
def s4_flaw : XS' := (sAs [1] (stF 5) (xCal Q_f_law_kind [(xV 1)]))
def s5_flaw : XS' := (sAs [1] (stF 6) (xCal Q_f_law_world [(xV 1), (xBlt bLen [(xV 4)])]))
def s6_flaw : XS' := (sAs [5, 3] (stF 7) (xCal Q_f_law_built [(xV 5), (xV 3), (xBlt bList [(xV 4)])]))
def s7_flaw : XS' := (sAs [1, 5, 3, 4, 6] (stF 8) (xIx (xCal Q_f_law_held_draw [(xV 1), (xV 5), (xV 3), (xV 4), (xV 6)]) (xN (.int 1))))
def s8_flaw : XS' := (sAs [1, 8] (stF 9) (xCal Q_f_law_sublot [(xV 1), (xV 8)]))
def s9_flaw : XS' := (sAs [7, 5, 3, 4, 6, 8] (stF 10) (xCal Q_f_law_holders [(xV 7), (xV 5), (xV 3), (xV 4), (xV 6), (xV 8)]))
def s10_flaw : XS' := (sAs [7, 5, 3, 4, 6, 9] (stF 11) (xCal Q_f_law_holders [(xV 7), (xV 5), (xV 3), (xV 4), (xV 6), (xV 9)]))
def s11_flaw : XS' := (sIf [] (tOr (tCmp .Is (xV 10) (xN .non)) (tCmp .Is (xV 11) (xN .non))) (sL [(sRe [] (xN (.bl false)))]) (sL []))
def c1_flaw : EnvD → D → DM (Option D) := cT1 [12] (gP (.sl 12)) tYes (xCmp .In (xV 12) (xV 9))
def c2_flaw : EnvD → D → DM (Option D) := cT1 [12] (gP (.sl 12)) tYes (xCmp .In (xV 12) (xV 10))
def s12_flaw : XS' := (sIf [] (tTru (xBlt bAny [(xC1 (iPl false (xV 10)) c1_flaw)])) (sL [(sIf [] (tNot (tTru (xBlt bAll [(xC1 (iPl false (xV 11)) c2_flaw)]))) (sL [(sRe [] (xN (.bl false)))]) (sL []))]) (sL []))
def c3_flaw : EnvD → D → DM (Option D) := cT1 [15] (gP (.sl 15)) tYes (xCmp .In (xV 15) (xV 10))
def c4_flaw : EnvD → D → DM (Option D) := cT1 [15] (gP (.sl 15)) tYes (xCmp .In (xV 15) (xV 8))
def y1_flaw : XS' := (sL [(sIf [] (tAnd (tTru (xBlt bAll [(xC1 (iPl false (xV 14)) c4_flaw)])) (tTru (xBlt bAny [(xC1 (iPl false (xV 14)) c3_flaw)]))) (sL [(sAs [] (stF 13) (xN (.bl true)))]) (sL []))])
def y2_flaw : XS' := (sL [(sAs [] (stF 13) (xN (.bl false))),
  (sFo [7, 6, 12] (gP (.sl 14)) (iPl true (xCal Q_fheld_lots [(xV 7), (xV 6), (xLst [(xV 12)])])) y1_flaw),
  (sIf [] (tCmp .NotEq (xV 13) (xCmp .In (xV 12) (xV 10))) (sL [(sRe [] (xN (.bl false)))]) (sL []))])
def s13_flaw : XS' := (sFo [8] (gP (.sl 12)) (iPl true (xV 8)) y2_flaw)
def s14_flaw : XS' := (sIf [7, 5, 3, 4, 6, 8] (tCmp .NotEq (xCal Q_f_law_holders [(xV 7), (xV 5), (xV 3), (xV 4), (xV 6), (xV 8)]) (xV 10)) (sL [(sRe [] (xN (.bl false)))]) (sL []))
def s15_flaw : XS' := (sRe [1, 3, 7, 6, 8] (xCal Q_f_law_refuses [(xV 1), (xV 3), (xV 7), (xV 6), (xV 8)]))
def b_flaw : XS' := (sL [s0_flaw, s1_flaw, s2_flaw, s3_flaw, s4_flaw, s5_flaw, s6_flaw, s7_flaw, s8_flaw, s9_flaw, s10_flaw, s11_flaw, s12_flaw, s13_flaw, s14_flaw, s15_flaw])
theorem q_flaw (a0 : D) (c : Option (List Int)) : runD C_flaw 400 d_flaw [a0] c = outD (b_flaw [some (.fz a0), none, none, none, none, none, none, none, none, none, none, none, none, none, none, none] c) := by
  kernel_rfl
end DLaw

set_option maxHeartbeats 4000000
/-! DM2: how a text over slots runs: rules. -/
namespace DL
open PySem PySem.Spec PyProof.Rows L2
abbrev Ce := Option (List Int)
def kD {α β : Type} (f : α → DM β) : Rs α → Rs β
  | .ok a c => f a c
  | .err e c => .err e c
  | .wrong => .wrong
def kS (r : List XS') : RsS → RsS
  | .ok .nx E c => sL r E c
  | r => r
def kI (a b : XS') (E : EnvD) : Rs Bool → RsS
  | .ok k c => if k = true then a E c else b E c
  | .err e c => .err e E c
  | .wrong => .wrong
def kA {α : Type} (st : EnvD → α → SM) (E : EnvD) : Rs α → RsS
  | .ok r c => st E r c
  | .err e c => .err e E c
  | .wrong => .wrong
def kB (st : EnvD → RV → SM) (E E1 : EnvD) : Rs RV → RsS
  | .ok r c => st (backE E E1 r) r c
  | .err e c => .err e E1 c
  | .wrong => .wrong
def kF (tg : XG) (b : XS') (E : EnvD) : Rs (List D) → RsS
  | .ok xs c => sfor (sTn tg b) xs E c
  | .err e c => .err e E c
  | .wrong => .wrong
def kU (tg : XG) (E : EnvD) : Rs D → RsS
  | .ok v c => (match tg v E with
    | some E' => .ok .nx E' c
    | none => .wrong)
  | .err e c => .err e E c
  | .wrong => .wrong
def kJ (i : Nat) (j : XE) (E : EnvD) : Rs D → RsS
  | .ok v c => kA (fun E j => setD i E j v) E (xB j E c)
  | .err e c => .err e E c
  | .wrong => .wrong
def kP (i : Nat) (j : XE) (E : EnvD) : Rs D → RsS
  | .ok v c => kA (fun E j => putD i E j v) E (xB j E c)
  | .err e c => .err e E c
  | .wrong => .wrong
def kR (x : Str) (fs : List Str) (E : EnvD) : Rs (List D) → RsS
  | .ok vs c => if (decide (vs.length = fs.length) && vs.all msgOk) = true then .err ⟨x, (fs.zip vs).reverse⟩ E c else .wrong
  | .err e c => .err e E c
  | .wrong => .wrong
def kT (h : Exn → EnvD → Ce → RsS) : RsS → RsS
  | .err e E' c' => h e E' c'
  | r => r
def kN {α : Type} : Rs α → Rs α
  | .ok a c => .ok a c
  | _ => .wrong
section
variable {α β : Type} {c : Ce} {E : EnvD}
theorem dbind_dret (a : α) (f : α → DM β) : dbind (dret a) f = f a := rfl
theorem dbind_wrong (f : α → DM β) : dbind dwrong f = dwrong := rfl
theorem dbind_ap (m : DM α) (f : α → DM β) : dbind m f c = kD f (m c) := by
  unfold dbind kD; cases m c <;> rfl
theorem dret_ap (a : α) : dret a c = .ok a c := rfl
theorem dwrong_ap : (dwrong : DM α) c = .wrong := rfl
theorem kD_ok (f : α → DM β) (a : α) (c : Ce) : kD f (.ok a c) = f a c := rfl
theorem kD_err (f : α → DM β) (e : Exn) (c : Ce) : kD f (.err e c) = .err e c := rfl
theorem sL_nil : sL [] E c = .ok .nx E c := rfl
theorem sL_cons (s : XS') (r : List XS') : sL (s :: r) E c = kS r (s E c) := by
  show sbind (s E) (fun E' => sL r E') c = _
  unfold sbind kS
  cases h : s E c with
  | ok o E c => cases o <;> rfl
  | err => rfl
  | wrong => rfl
theorem kS_nx (r : List XS') : kS r (.ok .nx E c) = sL r E c := rfl
theorem kS_ret (r : List XS') (v : RV) : kS r (.ok (.ret v) E c) = .ok (.ret v) E c := rfl
theorem kS_err (r : List XS') (e : Exn) : kS r (.err e E c) = .err e E c := rfl
theorem sNx_ap : sNx E c = .ok .nx E c := rfl
theorem sAs_ap (fr : List Nat) (st : EnvD → RV → SM) (e : XE) : sAs fr st e E c = kB st E (fzE E fr) (e (fzE E fr) c) := by
  unfold sAs liftE kB; cases e (fzE E fr) c <;> rfl
theorem kB_ok (st : EnvD → RV → SM) (E1 : EnvD) (r : RV) : kB st E E1 (.ok r c) = st (backE E E1 r) r c := rfl
theorem kB_err (st : EnvD → RV → SM) (E1 : EnvD) (e : Exn) : kB st E E1 (.err e c) = .err e E1 c := rfl
theorem backE_self (r : RV) : backE E E r = E := by unfold backE; split <;> rfl
theorem backE_pos {r : RV} (h : noLR r = true) (E1 : EnvD) : backE E E1 r = E := if_pos h
theorem revD_lst (xs : List D) : revD (.lst xs) = dret (.fr xs.reverse) := rfl
theorem kA_ok (st : EnvD → α → SM) (r : α) : kA st E (.ok r c) = st E r c := rfl
theorem kA_err (st : EnvD → α → SM) (e : Exn) : kA st E (.err e c) = .err e E c := rfl
theorem sIf_ap (fr : List Nat) (t : XT) (a b : XS') : sIf fr t a b E c = kI a b (fzE E fr) (t (fzE E fr) c) := by
  unfold sIf liftE kI; cases t (fzE E fr) c with
  | ok k c => cases k <;> rfl
  | err => rfl
  | wrong => rfl
theorem kI_ok (a b : XS') (k : Bool) : kI a b E (.ok k c) = if k = true then a E c else b E c := rfl
theorem kI_t (a b : XS') : kI a b E (.ok true c) = a E c := rfl
theorem kI_f (a b : XS') : kI a b E (.ok false c) = b E c := rfl
theorem kI_err (a b : XS') (e : Exn) : kI a b E (.err e c) = .err e E c := rfl
theorem sFo_ap (fr : List Nat) (tg : XG) (it : XI) (b : XS') : sFo fr tg it b E c = kF tg b (fzE E fr) (it (fzE E fr) c) := by
  unfold sFo liftE kF; cases it (fzE E fr) c <;> rfl
theorem kF_ok (tg : XG) (b : XS') (xs : List D) : kF tg b E (.ok xs c) = sfor (sTn tg b) xs E c := rfl
theorem sTu_ap (fr : List Nat) (tg : XG) (e : XE) : sTu fr tg e E c = kU tg (fzE E fr) (xK e (fzE E fr) c) := by
  unfold sTu liftE kU; cases h : xK e (fzE E fr) c with
  | ok k c => dsimp only; cases tg k (fzE E fr) <;> rfl
  | err => rfl
  | wrong => rfl
theorem liftE_kA (m : DM α) (f : EnvD → α → SM) : liftE E m (f E) c = kA f E (m c) := by
  unfold liftE kA; cases m c <;> rfl
theorem sAp_ap (fr : List Nat) (i : Nat) (e : XE) : sAp fr i e E c = if mutD (fzE E fr) i = true then kA (appD i) (fzE E fr) (xK e (fzE E fr) c) else .wrong := by
  unfold sAp
  cases h : mutD (fzE E fr) i with
  | false => rfl
  | true => exact liftE_kA _ _
theorem sSu_ap (fr : List Nat) (i : Nat) (j e : XE) : sSu fr i j e E c = if mutD (fzE E fr) i = true then kJ i j (fzE E fr) (xK e (fzE E fr) c) else .wrong := by
  unfold sSu
  cases h : mutD (fzE E fr) i with
  | false => rfl
  | true =>
    show liftE (fzE E fr) (xK e (fzE E fr)) (fun v => liftE (fzE E fr) (xB j (fzE E fr)) fun j => setD i (fzE E fr) j v) c = _
    rw [if_pos rfl]
    unfold kJ
    unfold liftE
    cases xK e (fzE E fr) c with
    | ok v c => exact liftE_kA _ (fun E j => setD i E j v)
    | err => rfl
    | wrong => rfl
theorem kJ_ok (i : Nat) (j : XE) (v : D) : kJ i j E (.ok v c) = kA (fun E j => setD i E j v) E (xB j E c) := rfl
theorem sDn_ap (i : Nat) : sDn i E c = .ok .nx (E.set i (some (.dic []))) c := rfl
theorem sDp_ap (fr : List Nat) (i : Nat) (j e : XE) : sDp fr i j e E c = if (dicAt (fzE E fr) i).isSome = true then kP i j (fzE E fr) (xB e (fzE E fr) c) else .wrong := by
  unfold sDp
  cases h : (dicAt (fzE E fr) i).isSome with
  | false => rfl
  | true =>
    show liftE (fzE E fr) (xB e (fzE E fr)) (fun v => liftE (fzE E fr) (xB j (fzE E fr)) fun j => putD i (fzE E fr) j v) c = _
    rw [if_pos rfl]
    unfold kP
    unfold liftE
    cases xB e (fzE E fr) c with
    | ok v c => exact liftE_kA _ (fun E j => putD i E j v)
    | err => rfl
    | wrong => rfl
theorem kP_ok (i : Nat) (j : XE) (v : D) : kP i j E (.ok v c) = kA (fun E j => putD i E j v) E (xB j E c) := rfl
theorem xIxD_some {i : Nat} {b : XE} {kvs : List (List Int × Int)} (h : dicAt E i = some kvs) : xIxD i b E = dbind (xB b E) fun y => dgetZ (dicGet kvs y) := by
  unfold xIxD; rw [h]
theorem sAt_ap (g : Str → Bool) (fr : List Nat) (i : Nat) (f : Str) (e : XE) : sAt g fr i f e E c = if insD g (fzE E fr) i f = true then kA (insS i f) (fzE E fr) (xK e (fzE E fr) c) else .wrong := by
  unfold sAt
  cases h : insD g (fzE E fr) i f with
  | false => rfl
  | true => exact liftE_kA _ _
theorem sAu_ap (fr : List Nat) (i : Nat) (g : Int → Int → Int) (e : XE) : sAu fr i g e E c = if augD (fzE E fr) i = true then kA (augS i g) (fzE E fr) (xB e (fzE E fr) c) else .wrong := by
  unfold sAu
  cases h : augD (fzE E fr) i with
  | false => rfl
  | true => exact liftE_kA _ (augS i g)
theorem sR0_ap : sR0 E c = .ok (.ret (.fz .non)) E c := rfl
theorem sRe_ap (fr : List Nat) (e : XE) : sRe fr e E c = kA retR (fzE E fr) (e (fzE E fr) c) := by
  unfold sRe liftE kA; cases e (fzE E fr) c <;> rfl
theorem retR_fz (v : D) : retR E (.fz v) c = .ok (.ret (.fz v)) E c := rfl
theorem retR_fr (v : List D) : retR E (.fr v) c = .ok (.ret (.fr v)) E c := rfl
theorem sEx_ap (fr : List Nat) (e : XE) : sEx fr e E c = kA (fun E _ => sret .nx E) (fzE E fr) (e (fzE E fr) c) := by
  unfold sEx liftE kA; cases e (fzE E fr) c <;> rfl
theorem sret_ap (o : Out) : sret o E c = .ok o E c := rfl
theorem sRs_ap (x : Str) (fs : List Str) (fr : List Nat) (es : List XE) : sRs x fs fr es E c = kR x fs (fzE E fr) (xKs es (fzE E fr) c) := by
  unfold sRs liftE kR; cases xKs es (fzE E fr) c with
  | ok vs c => dsimp only; split <;> rfl
  | err => rfl
  | wrong => rfl
theorem sTr_ap (h : Exn → EnvD → Ce → RsS) (b : XS') : sTr h b E c = kT h (b E c) := by
  unfold sTr kT; cases b E c <;> rfl
theorem kT_ok (h : Exn → EnvD → Ce → RsS) (o : Out) : kT h (.ok o E c) = .ok o E c := rfl
theorem kT_err (h : Exn → EnvD → Ce → RsS) (e : Exn) : kT h (.err e E c) = h e E c := rfl
theorem dif_t (m : DM α) : dif true m = m := rfl
theorem dif_pos' {b : Bool} (h : b = true) (m : DM α) : dif b m = m := by rw [h]; rfl
theorem bOf_fz (x : D) : bOf (.fz x) = dret x := rfl
theorem bOf_fr (x : List D) : bOf (.fr x) = dret (.lst x) := rfl
theorem bOf_bo (x : List D) : bOf (.bo x) = dret (.lst x) := rfl
theorem kOf_fz (x : D) : kOf (.fz x) = dret x := rfl
theorem kOf_fr (x : List D) : kOf (.fr x) = dret (.lst x) := rfl
theorem intD_int (i : Int) : intD (.int i) = dret i := rfl
theorem blD_bl (i : Bool) : blD (.bl i) = dret i := rfl
theorem dget_some (a : α) : dget (some a) = dret a := rfl
theorem dbl_some (a : Bool) : dbl (some a) = dret (.bl a) := rfl
theorem dgetZ_some (a : D) : dgetZ (some a) = dret (.fz a) := rfl
theorem dlist_nil {f : α → DM β} : dlist f [] = dret [] := rfl
theorem dlist_cons {f : α → DM β} (a : α) (r : List α) : dlist f (a :: r) = dbind (f a) fun b => dbind (dlist f r) fun bs => dret (b :: bs) := rfl
theorem outD_ret (r : RV) : outD (.ok (.ret r) E c) = .ok r c := rfl
theorem outD_nx : outD (.ok .nx E c) = .ok (.fz .non) c := rfl
theorem outD_err (e : Exn) : outD (.err e E c) = .err e c := rfl
theorem outI_ok' (cn : Str) (ns : List Str) (vs : List D) (E : EnvD) : outI (.ok .nx (some (.ins cn ns vs) :: E) c) = .ok (.fz (.obj cn ns vs)) c := rfl
theorem outI_err (e : Exn) : outI (.err e E c) = .err e c := rfl
theorem add_int (i j : Int) : binD .Add (.int i) (.int j) = dret (.fz (.int (i + j))) := rfl
theorem sub_int (i j : Int) : binD .Sub (.int i) (.int j) = dret (.fz (.int (i - j))) := rfl
theorem mul_int (i j : Int) : binD .Mult (.int i) (.int j) = dif (mulOk i j) (dret (.fz (.int (i * j)))) := rfl
theorem div_int (i j : Int) : binD .FloorDiv (.int i) (.int j) = dif (decide (j ≠ 0) && decide (j.natAbs < 1073741824)) (dret (.fz (.int (i.fdiv j)))) := rfl
theorem mod_int (i j : Int) : binD .Mod (.int i) (.int j) = dif (decide (j ≠ 0)) (dret (.fz (.int (i.fmod j)))) := rfl
theorem pow_int (i j : Int) : binD .Pow (.int i) (.int j) = dif (decide (0 ≤ j) && decide (j ≤ 1000000) && decide (i.natAbs < 2 ^ 64)) (dret (.fz (.int (i ^ j.toNat)))) := rfl
theorem add_lst (xs ys : List D) : binD .Add (.lst xs) (.lst ys) = dif (lenOk (xs.length + ys.length)) (dret (.fr (xs ++ ys))) := rfl
theorem lt_int (i j : Int) : cmpD .Lt (.int i) (.int j) = dret (.bl (decide (i < j))) := rfl
theorem le_int (i j : Int) : cmpD .LtE (.int i) (.int j) = dret (.bl (decide (i ≤ j))) := rfl
theorem gt_int (i j : Int) : cmpD .Gt (.int i) (.int j) = dret (.bl (decide (j < i))) := rfl
theorem ge_int (i j : Int) : cmpD .GtE (.int i) (.int j) = dret (.bl (decide (j ≤ i))) := rfl
theorem eqD_int (i j : Int) : eqD (.int i) (.int j) = some (decide (i = j)) := by
  have h1 : ∀ i : Int, SeqAt.shaped (.int i) = true := fun i => by rfl
  unfold eqD toPy
  dsimp only
  rw [h1, h1]
  show some (PyData.eqv (.int i) (.int j)) = _
  simp only [PyData.eqv, Option.some.injEq]
  by_cases h : i = j
  · subst h; simp
  · simp [h]
theorem eq_int (i j : Int) : cmpD .Eq (.int i) (.int j) = dret (.bl (decide (i = j))) := by
  show dbl (eqD (.int i) (.int j)) = _
  rw [eqD_int]; rfl
theorem ne_int (i j : Int) : cmpD .NotEq (.int i) (.int j) = dret (.bl (!decide (i = j))) := by
  show dbl ((eqD (.int i) (.int j)).map (!·)) = _
  rw [eqD_int]; rfl
theorem ix_lst (xs : List D) (i : Int) : ixD (.lst xs) (.int i) = dgetZ (atI xs i) := rfl
theorem ix_tup (xs : List D) (i : Int) : ixD (.tup xs) (.int i) = dgetZ (atI xs i) := rfl
theorem ix_scr (xs : List Int) (i : Int) : ixD (.scr xs) (.int i) = dgetZ ((atI xs i).map .int) := rfl
theorem ix_cel (i : Int) : ixD .cel (.int i) = dcel fun is => (atI is i).map .int := rfl
theorem dcel_ap (f : List Int → Option D) (is : List Int) : dcel f (some is) = dgetZ (f is) (some is) := rfl
/-! loops -/
/-- a loop whose turns go on -/
theorem sfor_inv {f : D → EnvD → SM} {P : Nat → EnvD → Ce → Prop} : ∀ (xs : List D) (n : Nat) (E : EnvD) (c : Ce), P n E c →
    (∀ (k : Nat) (h : k < xs.length) (E : EnvD) (c : Ce), P (n + k) E c → ∃ E' c', f xs[k] E c = .ok .nx E' c' ∧ P (n + k + 1) E' c') → ∃ E' c', sfor f xs E c = .ok .nx E' c' ∧ P (n + xs.length) E' c'
  | [], n, E, c, h, _ => ⟨E, c, rfl, h⟩
  | x :: xs, n, E, c, h, ht => by
    obtain ⟨E1, c1, e1, h1⟩ := ht 0 (by simp) E c h
    obtain ⟨E2, c2, e2, h2⟩ := sfor_inv (P := P) xs (n + 1) E1 c1 h1 fun k hk E c hP => by
      have := ht (k + 1) (by simpa using hk) E c (by rw [← Nat.add_assoc, Nat.add_right_comm]; exact hP)
      simpa [Nat.add_assoc, Nat.add_comm 1 k] using this
    refine ⟨E2, c2, ?_, by simpa [Nat.add_assoc, Nat.add_comm 1] using h2⟩
    show (match f x E c with
      | .ok .nx E' c' => sfor f xs E' c'
      | .ok .cnt E' c' => sfor f xs E' c'
      | .ok .brk E' c' => .ok .nx E' c'
      | r => r) = _
    have e1' : f x E c = .ok .nx E1 c1 := e1
    rw [e1']
    exact e2
/-- .. by items alone -/
theorem sfor_all {f : D → EnvD → SM} {P : EnvD → Ce → Prop} {xs : List D} {E : EnvD} {c : Ce} (h : P E c) (ht : ∀ x ∈ xs, ∀ (E : EnvD) (c : Ce), P E c → ∃ E' c', f x E c = .ok .nx E' c' ∧ P E' c') :
    ∃ E' c', sfor f xs E c = .ok .nx E' c' ∧ P E' c' := by
  obtain ⟨E', c', e, h⟩ := sfor_inv (P := fun _ => P) xs 0 E c h fun k hk E c hP => ht _ (List.getElem_mem hk) E c hP
  exact ⟨E', c', e, h⟩
theorem sfor_cons {f : D → EnvD → SM} {x : D} {xs : List D} {E E' : EnvD} {c c' : Ce} (h : f x E c = .ok .nx E' c') : sfor f (x :: xs) E c = sfor f xs E' c' := by
  show (match f x E c with
      | .ok .nx E' c' => sfor f xs E' c'
      | .ok .cnt E' c' => sfor f xs E' c'
      | .ok .brk E' c' => .ok .nx E' c'
      | r => r) = _
  rw [h]
theorem sfor_ret {f : D → EnvD → SM} {x : D} {xs : List D} {E E' : EnvD} {c c' : Ce} {v : RV} (h : f x E c = .ok (.ret v) E' c') : sfor f (x :: xs) E c = .ok (.ret v) E' c' := by
  show (match f x E c with
      | .ok .nx E' c' => sfor f xs E' c'
      | .ok .cnt E' c' => sfor f xs E' c'
      | .ok .brk E' c' => .ok .nx E' c'
      | r => r) = _
  rw [h]
theorem sfor_err {f : D → EnvD → SM} {x : D} {xs : List D} {E E' : EnvD} {c c' : Ce} {e : Exn} (h : f x E c = .err e E' c') : sfor f (x :: xs) E c = .err e E' c' := by
  show (match f x E c with
      | .ok .nx E' c' => sfor f xs E' c'
      | .ok .cnt E' c' => sfor f xs E' c'
      | .ok .brk E' c' => .ok .nx E' c'
      | r => r) = _
  rw [h]
/-- a comprehension without effects -/
theorem dloop_pure {f : D → DM (Option D)} {g : D → Option D} {c : Ce} : ∀ {xs : List D}, (∀ x ∈ xs, f x c = .ok (g x) c) → dloop f xs c = .ok (xs.filterMap g) c
  | [], _ => rfl
  | x :: xs, h => by
    show dbind (f x) (fun o => dbind (dloop f xs) fun r => dret (match o with
      | some y => y :: r
      | none => r)) c = _
    rw [dbind_ap, h x List.mem_cons_self, kD_ok, dbind_ap, dloop_pure fun x hx => h x (List.mem_cons_of_mem _ hx), kD_ok]
    rw [List.filterMap_cons]
    cases g x <;> rfl
inductive All2 {α β : Type} (R : α → β → Prop) : List α → List β → Prop
  | nil : All2 R [] []
  | cons {a : α} {b : β} {l : List α} {m : List β} (h : R a b) (t : All2 R l m) : All2 R (a :: l) (b :: m)
/-- .. with effects on the cell: each turn gives one value -/
theorem dloop_eff {f : D → DM (Option D)} {P : Ce → Prop} {R : D → D → Prop} : ∀ {xs : List D} {c : Ce}, P c → (∀ x ∈ xs, ∀ c, P c → ∃ y c', f x c = .ok (some y) c' ∧ R x y ∧ P c') →
    ∃ ys c', dloop f xs c = .ok ys c' ∧ All2 R xs ys ∧ P c'
  | [], c, h, _ => ⟨[], c, rfl, .nil, h⟩
  | x :: xs, c, h, ht => by
    obtain ⟨y, c1, e1, r1, h1⟩ := ht x List.mem_cons_self c h
    obtain ⟨ys, c2, e2, r2, h2⟩ := dloop_eff (P := P) (R := R) h1 fun x hx => ht x (List.mem_cons_of_mem _ hx)
    refine ⟨y :: ys, c2, ?_, .cons r1 r2, h2⟩
    show dbind (f x) (fun o => dbind (dloop f xs) fun r => dret (match o with
      | some y => y :: r
      | none => r)) c = _
    rw [dbind_ap, e1, kD_ok, dbind_ap, e2, kD_ok]
    rfl
theorem noErr_ap (m : DM α) : noErr m c = kN (m c) := by unfold noErr kN; cases m c <;> rfl
theorem kN_ok (a : α) (c : Ce) : kN (.ok a c) = .ok a c := rfl
theorem noErr_ok {m : DM α} {a : α} {c c' : Ce} (h : m c = .ok a c') : noErr m c = .ok a c' := by unfold noErr; rw [h]
/-- while: what holds at each turn, what grows less -/
theorem sWh_rule {t : XT} {b : XS'} {P Q : EnvD → Ce → Prop} {R : RV → EnvD → Ce → Prop} {μ : EnvD → Ce → Nat}
    (h : ∀ E c, P E c → (t E c = .ok false c ∧ Q E c) ∨ (t E c = .ok true c ∧ ((∃ E' c', b E c = .ok .nx E' c' ∧ P E' c' ∧ μ E' c' < μ E c) ∨ ∃ v E' c', b E c = .ok (.ret v) E' c' ∧ R v E' c'))) :
    ∀ (k : Nat) (E : EnvD) (c : Ce), P E c → μ E c < k → (∃ E' c', sWh [] t b k E c = .ok .nx E' c' ∧ Q E' c') ∨ ∃ v E' c', sWh [] t b k E c = .ok (.ret v) E' c' ∧ R v E' c'
  | 0, E, c, _, hm => by omega
  | k + 1, E, c, hP, hm => by
    have e0 : sWh [] t b (k + 1) E c = (match t E c with
      | .ok bb c' => if bb = true then (match b E c' with
        | .ok .nx E' c' => sWh [] t b k E' c'
        | .ok .cnt E' c' => sWh [] t b k E' c'
        | .ok .brk E' c' => .ok .nx E' c'
        | r => r) else .ok .nx E c'
      | .err e c' => .err e E c'
      | .wrong => .wrong) := by
      show liftE E (t E) _ c = _
      unfold liftE
      cases t E c with
      | ok bb c' => cases bb <;> rfl
      | err => rfl
      | wrong => rfl
    rcases h E c hP with ⟨h1, h2⟩ | ⟨h1, ⟨E', c', h2, h3, h4⟩ | ⟨v, E', c', h2, h3⟩⟩
    · exact .inl ⟨E, c, by rw [e0, h1]; rfl, h2⟩
    · have e1 : sWh [] t b (k + 1) E c = sWh [] t b k E' c' := by
        rw [e0, h1]
        dsimp only
        rw [if_pos rfl, h2]
      rw [e1]
      exact sWh_rule h k E' c' h3 (by omega)
    · exact .inr ⟨v, E', c', by
        rw [e0, h1]
        dsimp only
        rw [if_pos rfl, h2], h3⟩
end
theorem rgR_l (i j : Int) : rgR "list" i j = dif (rngOk i j && lenOk (j - i).toNat) (dret (.fr (rangeD i j))) := rfl
theorem rgR_t (i j : Int) : rgR "tuple" i j = dif (rngOk i j && lenOk (j - i).toNat) (dret (.fz (.tup (rangeD i j)))) := rfl
end DL

set_option maxHeartbeats 4000000
/-! DM3: data of ints and pairs. -/
namespace DL
open PySem PySem.Spec PyProof.Rows L2
def iL (is : List Int) : List D := is.map D.int
def nL (is : List Nat) : List D := is.map fun (n : Nat) => D.int (n : Int)
def pD (p : Nat × Nat) : D := .tup [.int p.1, .int p.2]
def pL (ps : List (Nat × Nat)) : List D := ps.map pD
theorem iL_len (is : List Int) : (iL is).length = is.length := by simp [iL]
theorem nL_len (is : List Nat) : (nL is).length = is.length := by simp [nL]
theorem nL_get (is : List Nat) (i : Nat) : (nL is)[i]? = is[i]?.map fun (n : Nat) => D.int (n : Int) := by simp [nL]
theorem nL_iL (is : List Nat) : nL is = iL (is.map fun (n : Nat) => (n : Int)) := by simp [nL, iL]
theorem pL_snoc (ts : List (Nat × Nat)) (p : Nat × Nat) : pL (ts ++ [p]) = pL ts ++ [.tup [.int p.1, .int p.2]] := by simp [pL, pD]
theorem iL_snoc (ts : List Int) (p : Int) : iL (ts ++ [p]) = iL ts ++ [.int p] := by simp [iL]
theorem nL_snoc (ts : List Nat) (p : Nat) : nL (ts ++ [p]) = nL ts ++ [.int p] := by simp [nL]
theorem pL_app (ts us : List (Nat × Nat)) : pL (ts ++ us) = pL ts ++ pL us := by simp [pL]
theorem iL_app (ts us : List Int) : iL (ts ++ us) = iL ts ++ iL us := by simp [iL]
theorem pL_len (is : List (Nat × Nat)) : (pL is).length = is.length := by simp [pL]
theorem iL_get (is : List Int) (i : Nat) : (iL is)[i]? = is[i]?.map D.int := by simp [iL]
theorem pL_get (is : List (Nat × Nat)) (i : Nat) : (pL is)[i]? = is[i]?.map pD := by simp [pL]
theorem bLen_lst (xs : List D) : bLen [.lst xs] = dret (.fz (.int xs.length)) := rfl
theorem bLen_tup (xs : List D) : bLen [.tup xs] = dret (.fz (.int xs.length)) := rfl
theorem bLen_scr (xs : List Int) : bLen [.scr xs] = dret (.fz (.int xs.length)) := rfl
theorem bLen_cel : bLen [.cel] = dcel fun is => some (.int is.length) := rfl
theorem bInt_int (i : Int) : bInt [.int i] = dret (.fz (.int i)) := rfl
theorem bList_lst (xs : List D) : bList [.lst xs] = dret (.fr xs) := rfl
theorem bList_tup (xs : List D) : bList [.tup xs] = dret (.fr xs) := rfl
theorem bTuple_lst (xs : List D) : bTuple [.lst xs] = dret (.fz (.tup xs)) := rfl
theorem bTuple_tup (xs : List D) : bTuple [.tup xs] = dret (.fz (.tup xs)) := rfl
theorem bMin_two (i j : Int) : bMin [.int i, .int j] = dret (.fz (.int (if j < i then j else i))) := rfl
theorem bSum_ints (is : List Int) : bSum [.lst (iL is)] = dret (.fz (.int is.sum)) := by
  show dbind (dget (ints? (iL is))) _ = _
  rw [show ints? (iL is) = some is from ints_map is]; rfl
theorem bSorted_ints (is : List Int) : bSorted [.lst (iL is)] = dret (.fr (iL (sortI is))) := by
  show dbind (dget (ints? (iL is))) _ = _
  rw [show ints? (iL is) = some is from ints_map is]; rfl
theorem bAll_bls (bs : List Bool) : bAll [.lst (bs.map D.bl)] = dret (.fz (.bl (bs.all id))) := by
  show dbind (dget (bls? (bs.map D.bl))) _ = _
  rw [bls_map bs]; rfl
theorem flats_ints : ∀ is : List Int, flats? (iL is) = some (is.map V.int)
  | [] => rfl
  | i :: is => by
    show (match flat? (D.int i), flats? (iL is) with
      | some v, some vs => some (v :: vs)
      | _, _ => none) = _
    rw [flats_ints is]; rfl
theorem inV_ints (i : Int) : ∀ is : List Int, inV (V.int i) (is.map V.int) = decide (i ∈ is)
  | [] => by simp [inV]
  | j :: is => by
    have h := inV_ints i is
    unfold inV at h ⊢
    rw [List.map_cons, List.any_cons, h]
    have e : L2.eqV (V.int j) (V.int i) = decide (i = j) := by
      by_cases q : i = j
      · subst q; simp [L2.eqV]
      · have q' : ¬ j = i := fun z => q z.symm
        simp [L2.eqV, q, q']
    rw [e, ← Bool.decide_or]
    congr 1
    simp [List.mem_cons]
theorem inD_lst (i : Int) (is : List Int) : inD (.int i) (.lst (iL is)) = some (decide (i ∈ is)) := by
  show (match flat? (D.int i), (some (iL is)).bind flats? with
    | some v, some vs => some (inV v vs)
    | _, _ => none) = _
  rw [show (some (iL is)).bind flats? = some (is.map V.int) from flats_ints is]
  show some (inV (V.int i) _) = _
  rw [inV_ints]
theorem inD_tup (i : Int) (is : List Int) : inD (.int i) (.tup (iL is)) = some (decide (i ∈ is)) := inD_lst i is
theorem in_lst (i : Int) (is : List Int) : cmpD .In (.int i) (.lst (iL is)) = dret (.bl (decide (i ∈ is))) := by
  show dbl (inD _ _) = _
  rw [inD_lst]; rfl
theorem ni_lst (i : Int) (is : List Int) : cmpD .NotIn (.int i) (.lst (iL is)) = dret (.bl (!decide (i ∈ is))) := by
  show dbl ((inD _ _).map _) = _
  rw [inD_lst]; rfl
theorem in_tup (i : Int) (is : List Int) : cmpD .In (.int i) (.tup (iL is)) = dret (.bl (decide (i ∈ is))) := in_lst i is
theorem ni_tup (i : Int) (is : List Int) : cmpD .NotIn (.int i) (.tup (iL is)) = dret (.bl (!decide (i ∈ is))) := ni_lst i is
theorem mem_nat (i : Nat) (is : List Nat) : ((i : Int) ∈ is.map fun (n : Nat) => (n : Int)) ↔ i ∈ is := by
  rw [List.mem_map]
  constructor
  · rintro ⟨a, h, e⟩
    have : a = i := by omega
    exact this ▸ h
  · exact fun h => ⟨i, h, rfl⟩
theorem in_nlst (i : Nat) (is : List Nat) : cmpD .In (.int i) (.lst (nL is)) = dret (.bl (decide (i ∈ is))) := by
  rw [nL_iL, in_lst]; simp only [mem_nat]
theorem ni_nlst (i : Nat) (is : List Nat) : cmpD .NotIn (.int i) (.lst (nL is)) = dret (.bl (!decide (i ∈ is))) := by
  rw [nL_iL, ni_lst]; simp only [mem_nat]
theorem in_ntup (i : Nat) (is : List Nat) : cmpD .In (.int i) (.tup (nL is)) = dret (.bl (decide (i ∈ is))) := in_nlst i is
theorem ni_ntup (i : Nat) (is : List Nat) : cmpD .NotIn (.int i) (.tup (nL is)) = dret (.bl (!decide (i ∈ is))) := ni_nlst i is
theorem in_pair (i p q : Int) : cmpD .In (.int i) (.tup [.int p, .int q]) = dret (.bl (decide (i = p ∨ i = q))) := by
  have h := in_tup i [p, q]
  rw [show iL [p, q] = [.int p, .int q] from rfl] at h
  rw [h]; simp
theorem atI_nn {α : Type} {xs : List α} {i : Nat} {x : α} (h : xs[i]? = some x) : atI xs (i : Int) = some x := L2.atI_nat h
theorem atI_cast {α : Type} (xs : List α) (i : Nat) : atI xs (i : Int) = xs[i]? := by
  cases h : xs[i]? with
  | some x => exact atI_nn h
  | none =>
    unfold atI ixN
    have : xs.length ≤ i := List.getElem?_eq_none_iff.mp h
    rw [if_pos (by omega), if_neg (by omega)]; rfl
theorem atI_zero {α : Type} (xs : List α) : atI xs (0 : Int) = xs[0]? := atI_cast xs 0
theorem atI_one {α : Type} (xs : List α) : atI xs (1 : Int) = xs[1]? := atI_cast xs 1
theorem atI_two {α : Type} (xs : List α) : atI xs (2 : Int) = xs[2]? := atI_cast xs 2
theorem ixN_nn {n i : Nat} (h : i < n) : ixN n (i : Int) = some i := by
  unfold ixN
  rw [if_pos (by omega), if_pos (by omega)]
  simp
/-- a range's items -/
theorem range_mem {lo hi : Int} {x : D} (h : x ∈ rangeD lo hi) : ∃ i, x = .int i ∧ lo ≤ i ∧ i < hi := by
  unfold rangeD at h
  obtain ⟨k, hk, rfl⟩ := List.mem_map.mp h
  rw [List.mem_range] at hk
  exact ⟨_, rfl, by omega, by omega⟩
theorem range_nat (n : Nat) : rangeD 0 (n : Int) = (List.range n).map fun (k : Nat) => D.int (k : Int) := by
  unfold rangeD
  simp
theorem range_len (n : Nat) : (rangeD 0 (n : Int)).length = n := by simp [range_nat]
theorem lenOk_of {n : Nat} (h : n ≤ 16777216) : lenOk n = true := decide_eq_true h
theorem lenOk_sm {n : Nat} (h : n ≤ 1000) : lenOk n = true := lenOk_of (by omega)
theorem rngOk_of {lo hi : Int} (h1 : -(2 ^ 62) < lo) (h2 : lo < 2 ^ 62) (h3 : -(2 ^ 62) < hi) (h4 : hi < 2 ^ 62) : rngOk lo hi = true := by
  unfold rngOk
  rw [Bool.and_eq_true, decide_eq_true_eq, decide_eq_true_eq]
  omega
theorem mulOk_l {i j : Int} (h1 : -(2 ^ 64) < i) (h2 : i < 2 ^ 64) : mulOk i j = true := by
  unfold mulOk
  rw [Bool.or_eq_true, decide_eq_true_eq, decide_eq_true_eq]
  omega
theorem mulOk_r {i j : Int} (h1 : -(2 ^ 64) < j) (h2 : j < 2 ^ 64) : mulOk i j = true := by
  unfold mulOk
  rw [Bool.or_eq_true, decide_eq_true_eq, decide_eq_true_eq]
  omega
theorem fmod_b {i j : Int} (h : 0 < j) : 0 ≤ i.fmod j ∧ i.fmod j < j := by
  rw [Int.fmod_eq_emod_of_nonneg i (Int.le_of_lt h)]
  exact ⟨Int.emod_nonneg _ (by omega), Int.emod_lt_of_pos _ h⟩
theorem isi_int_non (C : Cn)  : isiD C .non "int" = some false := by kernel_rfl
theorem isi_int_bl (C : Cn) (b : Bool) : isiD C (.bl b) "int" = some true := by kernel_rfl
theorem isi_int_int (C : Cn) (i : Int) : isiD C (.int i) "int" = some true := by kernel_rfl
theorem isi_int_str (C : Cn) (s : Str) : isiD C (.str s) "int" = some false := by kernel_rfl
theorem isi_int_lst (C : Cn) (xs : List D) : isiD C (.lst xs) "int" = some false := by kernel_rfl
theorem isi_int_tup (C : Cn) (xs : List D) : isiD C (.tup xs) "int" = some false := by kernel_rfl
theorem isi_bool_non (C : Cn)  : isiD C .non "bool" = some false := by kernel_rfl
theorem isi_bool_bl (C : Cn) (b : Bool) : isiD C (.bl b) "bool" = some true := by kernel_rfl
theorem isi_bool_int (C : Cn) (i : Int) : isiD C (.int i) "bool" = some false := by kernel_rfl
theorem isi_bool_str (C : Cn) (s : Str) : isiD C (.str s) "bool" = some false := by kernel_rfl
theorem isi_bool_lst (C : Cn) (xs : List D) : isiD C (.lst xs) "bool" = some false := by kernel_rfl
theorem isi_bool_tup (C : Cn) (xs : List D) : isiD C (.tup xs) "bool" = some false := by kernel_rfl
theorem isi_list_non (C : Cn)  : isiD C .non "list" = some false := by kernel_rfl
theorem isi_list_bl (C : Cn) (b : Bool) : isiD C (.bl b) "list" = some false := by kernel_rfl
theorem isi_list_int (C : Cn) (i : Int) : isiD C (.int i) "list" = some false := by kernel_rfl
theorem isi_list_str (C : Cn) (s : Str) : isiD C (.str s) "list" = some false := by kernel_rfl
theorem isi_list_lst (C : Cn) (xs : List D) : isiD C (.lst xs) "list" = some true := by kernel_rfl
theorem isi_list_tup (C : Cn) (xs : List D) : isiD C (.tup xs) "list" = some false := by kernel_rfl
theorem isi_tuple_non (C : Cn)  : isiD C .non "tuple" = some false := by kernel_rfl
theorem isi_tuple_bl (C : Cn) (b : Bool) : isiD C (.bl b) "tuple" = some false := by kernel_rfl
theorem isi_tuple_int (C : Cn) (i : Int) : isiD C (.int i) "tuple" = some false := by kernel_rfl
theorem isi_tuple_str (C : Cn) (s : Str) : isiD C (.str s) "tuple" = some false := by kernel_rfl
theorem isi_tuple_lst (C : Cn) (xs : List D) : isiD C (.lst xs) "tuple" = some false := by kernel_rfl
theorem isi_tuple_tup (C : Cn) (xs : List D) : isiD C (.tup xs) "tuple" = some true := by kernel_rfl
end DL

set_option maxHeartbeats 4000000
/-! FLOW: flows and costs of sides (plain Lean). -/
namespace Flow
/-! flows, costs of sides -/
section
variable (m : Nat) (t : Nat → Nat × Nat) (w : Nat → Int) (tw : Bool)
def ind (X : Nat → Bool) (v : Nat) : Int := if X v = true then 1 else 0
def sumK (g : Nat → Int) : Nat → Int
  | 0 => 0
  | k + 1 => sumK g k + g k
/-- what flows out of X -/
def outF (f : Nat → Int) (X : Nat → Bool) : Int := sumK (fun k => f k * (ind X (t k).1 - ind X (t k).2)) m
def costK (X : Nat → Bool) (k : Nat) : Int := if (X (t k).1 && !X (t k).2) = true then w k else if (tw && (X (t k).2 && !X (t k).1)) = true then w k else 0
def costF (X : Nat → Bool) : Int := sumK (costK t w tw X) m
def lowK (k : Nat) : Int := if tw = true then - w k else 0
def Valid (f : Nat → Int) : Prop := ∀ k, k < m → lowK w tw k ≤ f k ∧ f k ≤ w k
/-- a step that is left -/
structure Stp where
  a : Nat
  b : Nat
  k : Nat
  sg : Int
  am : Int
def amK (f : Nat → Int) (k : Nat) (sg : Int) : Int := if sg = 1 then w k - f k else f k - lowK w tw k
def IsS (f : Nat → Int) (s : Stp) : Prop := s.k < m ∧ s.a ≠ s.b ∧ ((s.sg = 1 ∧ t s.k = (s.a, s.b)) ∨ (s.sg = -1 ∧ t s.k = (s.b, s.a))) ∧ s.am = amK w tw f s.k s.sg ∧ 0 < s.am
end
theorem sumK_le {g h : Nat → Int} : ∀ {m : Nat}, (∀ k, k < m → g k ≤ h k) → sumK g m ≤ sumK h m
  | 0, _ => Int.le_refl _
  | m + 1, H => by
    have h1 := sumK_le (m := m) fun k hk => H k (by omega)
    have h2 := H m (by omega)
    show sumK g m + g m ≤ sumK h m + h m
    omega
theorem sumK_eq {g h : Nat → Int} {m : Nat} (H : ∀ k, k < m → g k = h k) : sumK g m = sumK h m :=
  Int.le_antisymm (sumK_le fun k hk => Int.le_of_eq (H k hk)) (sumK_le fun k hk => Int.le_of_eq (H k hk).symm)
theorem sumK_tight {g h : Nat → Int} : ∀ {m : Nat}, (∀ k, k < m → g k ≤ h k) → sumK g m = sumK h m → ∀ k, k < m → g k = h k
  | 0, _, _ => fun k hk => by omega
  | m + 1, H, e => by
    have h1 := sumK_le (m := m) fun k hk => H k (by omega)
    have h2 := H m (by omega)
    have e' : sumK g m + g m = sumK h m + h m := e
    intro k hk
    by_cases q : k = m
    · subst q; omega
    · exact sumK_tight (m := m) (fun k hk => H k (by omega)) (by omega) k (by omega)
theorem sumK_add {g h : Nat → Int} : ∀ {m : Nat}, sumK (fun k => g k + h k) m = sumK g m + sumK h m
  | 0 => rfl
  | m + 1 => by
    show sumK _ m + (g m + h m) = sumK g m + g m + (sumK h m + h m)
    rw [sumK_add]; omega
theorem sumK_one {k0 : Nat} {d : Int} : ∀ {m : Nat}, sumK (fun k => if k = k0 then d else 0) m = if k0 < m then d else 0
  | 0 => by simp [sumK]
  | m + 1 => by
    show sumK _ m + (if m = k0 then d else 0) = _
    rw [sumK_one]
    by_cases h1 : m = k0
    · subst h1; simp
    · by_cases h2 : k0 < m
      · simp [h1, h2, Nat.lt_succ_of_lt h2]
      · have : ¬ k0 < m + 1 := by omega
        simp [h1, h2, this]
section
variable {m : Nat} {t : Nat → Nat × Nat} {w : Nat → Int} {tw : Bool} {f : Nat → Int} {X : Nat → Bool}
theorem weakK {k : Nat} (h1 : lowK w tw k ≤ f k) (h2 : f k ≤ w k) : f k * (ind X (t k).1 - ind X (t k).2) ≤ costK t w tw X k := by
  unfold ind costK
  unfold lowK at h1
  cases hA : X (t k).1 <;> cases hB : X (t k).2 <;> cases tw <;> simp at * <;> omega
theorem weak (h : Valid m w tw f) : outF m t f X ≤ costF m t w tw X := sumK_le fun k hk => weakK (h k hk).1 (h k hk).2
/-- where the flow fills a side, no step leads out of it -/
theorem tight (h : Valid m w tw f) (e : outF m t f X = costF m t w tw X) {s : Stp} (hs : IsS m t w tw f s) : ¬ (X s.a = true ∧ X s.b = false) := by
  rintro ⟨ha, hb⟩
  obtain ⟨hk, _, hd, ham, hp⟩ := hs
  have q := sumK_tight (fun k hk => weakK (X := X) (t := t) (h k hk).1 (h k hk).2) e s.k hk
  rw [ham] at hp
  rcases hd with ⟨e1, e2⟩ | ⟨e1, e2⟩
  · unfold amK at hp
    rw [if_pos e1] at hp
    unfold ind costK at q
    rw [e2] at q
    simp [ha, hb] at q
    omega
  · unfold amK at hp
    rw [if_neg (by omega)] at hp
    unfold ind costK at q
    rw [e2] at q
    unfold lowK at hp
    cases tw <;> simp [ha, hb] at q hp <;> omega
/-- a side that no step leaves is filled -/
theorem filled (h : Valid m w tw f) (hc : ∀ s, IsS m t w tw f s → ¬ (X s.a = true ∧ X s.b = false)) : outF m t f X = costF m t w tw X := by
  refine sumK_eq fun k hk => ?_
  obtain ⟨h1, h2⟩ := h k hk
  cases hA : X (t k).1 with
  | true =>
    cases hB : X (t k).2 with
    | true => simp [ind, costK, hA, hB]
    | false =>
      have hne : (t k).1 ≠ (t k).2 := fun z => by rw [z, hB] at hA; cases hA
      have : f k = w k := by
        by_cases q : f k < w k
        · exact absurd ⟨hA, hB⟩ (hc ⟨(t k).1, (t k).2, k, 1, w k - f k⟩ ⟨hk, hne, .inl ⟨rfl, rfl⟩, by simp [amK], by show 0 < w k - f k; omega⟩)
        · omega
      simp [ind, costK, hA, hB, this]
  | false =>
    cases hB : X (t k).2 with
    | false => simp [ind, costK, hA, hB]
    | true =>
      have hne : (t k).2 ≠ (t k).1 := fun z => by rw [z, hA] at hB; cases hB
      have : f k = lowK w tw k := by
        by_cases q : lowK w tw k < f k
        · exact absurd ⟨hB, hA⟩ (hc ⟨(t k).2, (t k).1, k, -1, f k - lowK w tw k⟩ ⟨hk, hne, .inr ⟨rfl, rfl⟩, by simp [amK], by show 0 < f k - lowK w tw k; omega⟩)
        · omega
      rw [this]
      unfold lowK
      cases tw <;> simp [ind, costK, hA, hB]
/-! ways -/
def updF (f : Nat → Int) (k : Nat) (d : Int) : Nat → Int := fun j => if j = k then f j + d else f j
/-- a way back from b to a -/
def Way : Nat → Nat → List Stp → Prop
  | a, b, [] => a = b
  | a, b, s :: r => s.b = b ∧ Way a s.a r
def along (by_ : Int) : List Stp → (Nat → Int) → Nat → Int
  | [], f => f
  | s :: r, f => along by_ r (updF f s.k (by_ * s.sg))
theorem out_upd {k : Nat} {d : Int} (hk : k < m) : outF m t (updF f k d) X = outF m t f X + d * (ind X (t k).1 - ind X (t k).2) := by
  unfold outF
  have e : sumK (fun j => updF f k d j * (ind X (t j).1 - ind X (t j).2)) m = sumK (fun j => f j * (ind X (t j).1 - ind X (t j).2) + (if j = k then d * (ind X (t k).1 - ind X (t k).2) else 0)) m := by
    refine sumK_eq fun j _ => ?_
    unfold updF
    by_cases q : j = k
    · subst q; simp [Int.add_mul]
    · simp [q]
  rw [e, sumK_add, sumK_one, if_pos hk]
def Fits (m : Nat) (t : Nat → Nat × Nat) (s : Stp) : Prop := s.k < m ∧ ((s.sg = 1 ∧ t s.k = (s.a, s.b)) ∨ (s.sg = -1 ∧ t s.k = (s.b, s.a)))
theorem out_along {by_ : Int} : ∀ {r : List Stp} {f : Nat → Int} {a b : Nat}, (∀ s ∈ r, Fits m t s) → Way a b r → outF m t (along by_ r f) X = outF m t f X + by_ * (ind X a - ind X b)
  | [], f, a, b, _, h => by
    have : a = b := h
    subst this
    simp [along]
  | s :: r, f, a, b, hf, h => by
    obtain ⟨rfl, h⟩ := h
    show outF m t (along by_ r (updF f s.k (by_ * s.sg))) X = _
    obtain ⟨hk, hd⟩ := hf s List.mem_cons_self
    rw [out_along (fun u hu => hf u (List.mem_cons_of_mem _ hu)) h, out_upd hk]
    rcases hd with ⟨e1, e2⟩ | ⟨e1, e2⟩
    · rw [e1, e2]
      simp only [Int.mul_one, Int.mul_sub]
      omega
    · rw [e1, e2]
      simp only [Int.mul_sub, Int.mul_neg, Int.mul_one, Int.neg_mul]
      omega
theorem along_other {by_ : Int} : ∀ {r : List Stp} {f : Nat → Int} {j : Nat}, (∀ s ∈ r, s.k ≠ j) → along by_ r f j = f j
  | [], _, _, _ => rfl
  | s :: r, f, j, h => by
    show along by_ r (updF f s.k (by_ * s.sg)) j = f j
    rw [along_other fun u hu => h u (List.mem_cons_of_mem _ hu)]
    have := h s List.mem_cons_self
    unfold updF
    rw [if_neg fun e => this e.symm]
theorem along_at {by_ : Int} : ∀ {r : List Stp} {f : Nat → Int} {s : Stp}, r.Pairwise (fun s u => s.k ≠ u.k) → s ∈ r → along by_ r f s.k = f s.k + by_ * s.sg
  | u :: r, f, s, hn, h => by
    rw [List.pairwise_cons] at hn
    show along by_ r (updF f u.k (by_ * u.sg)) s.k = _
    rcases List.mem_cons.mp h with rfl | h
    · rw [along_other fun v hv => (hn.1 v hv).symm]
      unfold updF; rw [if_pos rfl]
    · rw [along_at hn.2 h]
      unfold updF
      rw [if_neg (hn.1 s h).symm]
/-- the flow stays one -/
theorem valid_along {by_ : Int} {r : List Stp} (h : Valid m w tw f) (hs : ∀ s ∈ r, IsS m t w tw f s) (hn : r.Pairwise (fun s u => s.k ≠ u.k)) (h0 : 0 ≤ by_) (hb : ∀ s ∈ r, by_ ≤ s.am) : Valid m w tw (along by_ r f) := by
  intro j hj
  obtain ⟨h1, h2⟩ := h j hj
  by_cases q : ∃ s ∈ r, s.k = j
  · obtain ⟨s, hm, rfl⟩ := q
    rw [along_at hn hm]
    obtain ⟨_, _, hd, ham, _⟩ := hs s hm
    have hb := hb s hm
    rw [ham] at hb
    rcases hd with ⟨e1, _⟩ | ⟨e1, _⟩
    · unfold amK at hb
      rw [if_pos e1] at hb
      rw [e1]; omega
    · unfold amK at hb
      rw [if_neg (by omega)] at hb
      rw [e1]; omega
  · rw [along_other fun s hm e => q ⟨s, hm, e⟩]
    exact ⟨h1, h2⟩
end
end Flow

set_option maxHeartbeats 4000000
/-! K20B: ways are found (the search by turns). -/
namespace DLaw
open PySem DL
local macro_rules
  | `(tactic| simp! only [$ts,*]) => `(tactic| simp -implicitDefEqProofs only [sL_cons, sL_nil, kS_nx, kS_ret, kS_err, sNx_ap, sAs_ap, kB_ok, kB_err, backE_self, kA_ok, kA_err, sIf_ap, kI_ok, kI_err, sFo_ap, kF_ok, sTu_ap, kU, sAp_ap, sSu_ap, kJ_ok, sAt_ap, sAu_ap, sR0_ap, sRe_ap, retR_fz, retR_fr, sEx_ap, sret_ap, sRs_ap, kR, sTr_ap, kT_ok, kT_err, sRN, stF, stO, stC, appD, setD, mutD, insD, insS, augD, augS, fzE, fz1, xB, xK, xW, xN, xV, xBin, xNeg, xNot, xAnd, xOr, xCmp, xCmp2, xIf, xKs, xBs, xTup, xLst, xO, xSl, xRev, revD_lst, xIx, xFld, xFldN, isI, slfD, xBlt, xMt, xRg1, xRg2, rgR_l, rgR_t, xCal, xIsi, xIsi2, tNot, tAnd, tOr, tCmp, tCmp2, tTru, tYes, iR1, iR2, iEn, zipO, iZip, iPl, xC1, xC2, noErr_ap, kN_ok, dbind_dret, dbind_wrong, dbind_ap, dret_ap, dwrong_ap, kD_ok, kD_err, bOf_fz, bOf_fr, bOf_bo, kOf_fz, kOf_fr, intD_int, blD_bl, dget_some, dbl_some, dgetZ_some, dlist_nil, dlist_cons, outD_ret, outD_nx, outD_err, outI_ok', outI_err, add_int, sub_int, mul_int, div_int, mod_int, pow_int, add_lst, lt_int, le_int, gt_int, ge_int, eq_int, ne_int, ix_lst, ix_tup, ix_scr, ix_cel, dcel_ap, dtru, truD, lenOk_sm, List.length_cons, List.length_nil, Nat.reduceAdd, Nat.reduceLeDiff, Nat.reduceLT, List.getElem?_cons_zero, List.getElem?_cons_succ, List.set_cons_zero, List.set_cons_succ, if_true, if_false, ite_true, ite_false, decide_true, decide_false, Bool.false_eq_true, Bool.not_true, Bool.not_false, Bool.true_and, Bool.false_and, Bool.and_true, Bool.and_false, decide_eq_true_eq, not_false_eq_true, not_true_eq_false, dif_t, $ts,*])
open Flow (Stp Way)
def stD (s : Stp) : D := .tup [.int s.a, .int s.b, .int s.k, .int s.sg, .int s.am]
def stL (ss : List Stp) : List D := ss.map stD
def cmD : Option Stp → D
  | none => .non
  | some s => stD s
def cmL (n : Nat) (cm : Nat → Option Stp) : List D := (List.range n).map fun v => cmD (cm v)
theorem atI_three {α : Type} (xs : List α) : L2.atI xs (3 : Int) = xs[3]? := atI_cast xs 3
theorem atI_four {α : Type} (xs : List α) : L2.atI xs (4 : Int) = xs[4]? := atI_cast xs 4
theorem cmL_len (n : Nat) (cm : Nat → Option Stp) : (cmL n cm).length = n := by simp [cmL]
theorem cmL_at {n v : Nat} {cm : Nat → Option Stp} (h : v < n) : L2.atI (cmL n cm) (v : Int) = some (cmD (cm v)) := by
  rw [atI_cast, cmL, List.getElem?_map, List.getElem?_range h]; rfl
theorem cmL_set {n v : Nat} {cm : Nat → Option Stp} (s : Stp) : (cmL n cm).set v (stD s) = cmL n fun u => if u = v then some s else cm u := by
  apply List.ext_getElem
  · simp [cmL]
  · intro i h1 h2
    rw [List.getElem_set]
    by_cases q : v = i
    · subst q; simp [cmL, cmD]
    · have q' : ¬ i = v := fun e => q e.symm
      simp [cmL, q, q']
theorem nL_at {q : List Nat} {i : Nat} (h : i < q.length) : L2.atI (nL q) (i : Int) = some (.int (q[i] : Nat)) := by
  rw [atI_cast, nL_get, List.getElem?_eq_getElem h]; rfl
theorem isnot_some (s : Stp) : cmpD .IsNot (stD s) .non = dret (.bl true) := rfl
theorem isnot_none : cmpD .IsNot .non .non = dret (.bl false) := rfl
theorem stL_snoc (ss : List Stp) (s : Stp) : stL (ss ++ [s]) = stL ss ++ [stD s] := by simp [stL]
theorem nodup_le : ∀ (n : Nat) (l : List Nat), l.Nodup → (∀ x ∈ l, x < n) → l.length ≤ n
  | 0, l, _, h => by
    cases l with
    | nil => simp
    | cons a l => exact absurd (h a List.mem_cons_self) (by omega)
  | n + 1, l, hd, h => by
    by_cases q : n ∈ l
    · have h1 := nodup_le n (l.erase n) (hd.erase n) fun x hx => by
        have := h x (List.mem_of_mem_erase hx)
        have ne : x ≠ n := fun e => by subst e; exact (hd.not_mem_erase) hx
        omega
      rw [List.length_erase_of_mem q] at h1
      omega
    · have h1 := nodup_le n l hd fun x hx => by
        have := h x hx
        have ne : x ≠ n := fun e => by subst e; exact q hx
        omega
      omega
/-- what the search has found: q in turn, each but the starts by a step from an earlier one -/
structure Tree (n : Nat) (q st : List Nat) (ss : List Stp) (cm : Nat → Option Stp) : Prop where
  nd : q.Nodup
  lt : ∀ x ∈ q, x < n
  ini : ∀ x ∈ st, x ∈ q
  no : ∀ x ∈ st, cm x = none
  up : ∀ (i : Nat) (h : i < q.length), (q[i] ∈ st ∧ cm q[i] = none) ∨ ∃ (s : Stp) (j : Nat) (hj : j < i), cm q[i] = some s ∧ s ∈ ss ∧ s.b = q[i] ∧ s.a = q[j]
theorem idx_get {q : List Nat} (h : q.Nodup) {i : Nat} (hi : i < q.length) : q.idxOf q[i] = i := h.idxOf_getElem i hi
/-- a way back, in order -/
def Down (q : List Nat) (W : List Stp) : Prop := (∀ s ∈ W, q.idxOf s.a < q.idxOf s.b) ∧ W.Pairwise fun s u => q.idxOf u.b ≤ q.idxOf s.a
theorem wayback_spec {c : Ce} {n : Nat} {q st : List Nat} {ss : List Stp} {cm : Nat → Option Stp} (T : Tree n q st ss cm) (hn : n ≤ 100) {i : Nat} (hi : i < q.length) :
    ∃ (a : Nat) (W : List Stp), Q_fway_back [.lst (cmL n cm), .int (q[i] : Nat)] c = .ok (.fr (stL W)) c ∧ a ∈ st ∧ Way a q[i] W ∧ (∀ s ∈ W, s ∈ ss) ∧ Down q W := by
  rw [q_fway_back]
  have hql := nodup_le n q T.nd T.lt
  have hw := sWh_rule (t := x1_fway_back) (b := v1_fway_back) (R := fun _ _ _ => False)
    (P := fun E c' => ∃ (W : List Stp) (j : Nat) (hj : j < q.length), E = [(some (DV.fz (.lst (cmL n cm)))), (some (DV.fz (D.int ((q[i] : Nat))))), (some (DV.own (stL W))), (some (DV.fz (D.int ((q[j] : Nat)))))] ∧ c' = c ∧ (∀ a r, Way a q[j] r → Way a q[i] (W ++ r)) ∧ (∀ s ∈ W, s ∈ ss) ∧ Down q W ∧ (∀ s ∈ W, j ≤ q.idxOf s.a) ∧ W.length + j ≤ i)
    (Q := fun E c' => ∃ (W : List Stp) (j : Nat) (hj : j < q.length), E = [(some (DV.fz (.lst (cmL n cm)))), (some (DV.fz (D.int ((q[i] : Nat))))), (some (DV.own (stL W))), (some (DV.fz (D.int ((q[j] : Nat)))))] ∧ c' = c ∧ q[j] ∈ st ∧ (∀ a r, Way a q[j] r → Way a q[i] (W ++ r)) ∧ (∀ s ∈ W, s ∈ ss) ∧ Down q W)
    (μ := fun (E : EnvD) (_ : Ce) => match E[3]? with
      | some (some (DV.fz (D.int v))) => q.idxOf v.toNat
      | _ => 0)
    (fun E c' hP => by
      obtain ⟨W, j, hj, rfl, rfl, h1, h2, h3, h4, h5⟩ := hP
      have hlt := T.lt _ (List.getElem_mem hj)
      have ha := cmL_at (cm := cm) hlt
      rcases T.up j hj with ⟨u1, u2⟩ | ⟨s, k, hk, u1, u2, u3, u4⟩
      · left
        rw [u2] at ha
        refine ⟨?_, W, j, hj, rfl, rfl, u1, h1, h2, h3⟩
        simp! only [x1_fway_back, ha, cmD, isnot_none]
      · right
        rw [u1] at ha
        have hkq : k < q.length := by omega
        refine ⟨by simp! only [x1_fway_back, ha, cmD, isnot_some], .inl ⟨[(some (DV.fz (.lst (cmL n cm)))), (some (DV.fz (D.int ((q[i] : Nat))))), (some (DV.own (stL (W ++ [s])))), (some (DV.fz (D.int ((q[k] : Nat)))))], c', ?_, ⟨W ++ [s], k, hkq, rfl, rfl, fun a r hr => ?_, fun u hu => ?_, ⟨fun u hu => ?_, ?_⟩, fun u hu => ?_, by rw [List.length_append]; simp; omega⟩, ?_⟩⟩
        · have hlen : (stL W).length < 16777216 := by simp [stL]; omega
          simp! only [v1_fway_back, ha, cmD, stD, hlen, stL_snoc, atI_zero, u4]
        · rw [List.append_assoc]
          exact h1 a _ ⟨u3, by rw [u4]; exact hr⟩
        · rcases List.mem_append.mp hu with z | z
          · exact h2 u z
          · rw [List.mem_singleton] at z; subst z; exact u2
        · rcases List.mem_append.mp hu with z | z
          · exact h3.1 u z
          · rw [List.mem_singleton] at z; subst z
            rw [u3, u4, idx_get T.nd hj, idx_get T.nd hkq]; exact hk
        · rw [List.pairwise_append]
          refine ⟨h3.2, List.pairwise_singleton _ _, fun u hu v hv => ?_⟩
          rw [List.mem_singleton] at hv; subst hv
          rw [u3, idx_get T.nd hj]
          exact h4 u hu
        · rcases List.mem_append.mp hu with z | z
          · have := h4 u z; omega
          · rw [List.mem_singleton] at z; subst z
            rw [u4, idx_get T.nd hkq]; omega
        · show q.idxOf ((q[k] : Nat) : Int).toNat < q.idxOf ((q[j] : Nat) : Int).toNat
          rw [Int.toNat_natCast, Int.toNat_natCast, idx_get T.nd hj, idx_get T.nd hkq]; exact hk)
    fuel0 [(some (DV.fz (.lst (cmL n cm)))), (some (DV.fz (D.int ((q[i] : Nat))))), (some (DV.own ([]))), (some (DV.fz (D.int ((q[i] : Nat)))))] c ⟨[], i, hi, rfl, rfl, fun a r h => h, nofun, ⟨nofun, .nil⟩, nofun, by simp⟩ (by
      show q.idxOf ((q[i] : Nat) : Int).toNat < fuel0
      rw [Int.toNat_natCast, idx_get T.nd hi]
      have : 100 < fuel0 := by decide
      omega)
  rcases hw with ⟨E', c', e, W, j, hj, rfl, rfl, h0, h1, h2, h3⟩ | ⟨_, _, _, _, z⟩
  · have hw := h1 q[j] [] rfl
    rw [List.append_nil] at hw
    refine ⟨q[j], W, ?_, h0, hw, h2, h3⟩
    simp! only [b_fway_back, s0_fway_back, s1_fway_back, s2_fway_back, s3_fway_back, e]
  · exact z.elim
end DLaw

set_option maxHeartbeats 4000000
/-! K20S1: what the drawing defs do. -/
namespace DLaw
open PySem DL
local macro_rules
  | `(tactic| simp! only [$ts,*]) => `(tactic| simp -implicitDefEqProofs only [sL_cons, sL_nil, kS_nx, kS_ret, kS_err, sNx_ap, sAs_ap, kB_ok, kB_err, backE_self, kA_ok, kA_err, sIf_ap, kI_ok, kI_err, sFo_ap, kF_ok, sTu_ap, kU, sAp_ap, sSu_ap, kJ_ok, sAt_ap, sAu_ap, sR0_ap, sRe_ap, retR_fz, retR_fr, sEx_ap, sret_ap, sRs_ap, kR, sTr_ap, kT_ok, kT_err, sRN, stF, stO, stC, appD, setD, mutD, insD, insS, augD, augS, fzE, fz1, xB, xK, xW, xN, xV, xBin, xNeg, xNot, xAnd, xOr, xCmp, xCmp2, xIf, xKs, xBs, xTup, xLst, xO, xSl, xRev, revD_lst, xIx, xFld, xFldN, isI, slfD, xBlt, xMt, xRg1, xRg2, rgR_l, rgR_t, xCal, xIsi, xIsi2, tNot, tAnd, tOr, tCmp, tCmp2, tTru, tYes, iR1, iR2, iEn, zipO, iZip, iPl, xC1, xC2, noErr_ap, kN_ok, dbind_dret, dbind_wrong, dbind_ap, dret_ap, dwrong_ap, kD_ok, kD_err, bOf_fz, bOf_fr, bOf_bo, kOf_fz, kOf_fr, intD_int, blD_bl, dget_some, dbl_some, dgetZ_some, dlist_nil, dlist_cons, outD_ret, outD_nx, outD_err, outI_ok', outI_err, add_int, sub_int, mul_int, div_int, mod_int, pow_int, add_lst, lt_int, le_int, gt_int, ge_int, eq_int, ne_int, ix_lst, ix_tup, ix_scr, ix_cel, dcel_ap, dtru, truD, lenOk_sm, List.length_cons, List.length_nil, Nat.reduceAdd, Nat.reduceLeDiff, Nat.reduceLT, List.getElem?_cons_zero, List.getElem?_cons_succ, List.set_cons_zero, List.set_cons_succ, if_true, if_false, ite_true, ite_false, decide_true, decide_false, Bool.false_eq_true, Bool.not_true, Bool.not_false, Bool.true_and, Bool.false_and, Bool.and_true, Bool.and_false, decide_eq_true_eq, not_false_eq_true, not_true_eq_false, dif_t, $ts,*])
/-- a cell that can be drawn from -/
def Wc (c : Ce) : Prop := ∃ a r, c = some (a :: r) ∧ 1 ≤ a
theorem celSet_zero (E : EnvD) (a j : Int) (r : List Int) : celSet E 0 (.int j) (some (a :: r)) = .ok .nx E (some (j :: r)) := by
  show (match L2.ixN (a :: r).length 0 with
    | some k => RsS.ok .nx E (some ((a :: r).set k j))
    | none => .wrong) = _
  rw [show L2.ixN (a :: r).length (0 : Int) = some 0 from ixN_nn (i := 0) (by simp)]
  rfl
theorem take_spec {c : Ce} {m : Int} (h : Wc c) (hm : 0 < m) : ∃ (v : Nat) (c' : Ce), Q_f_law_take [.cel, .int m] c = .ok (.fz (.int v)) c' ∧ (v : Int) < m ∧ Wc c' := by
  obtain ⟨a, r, rfl, ha⟩ := h
  rw [q_f_law_take]
  by_cases hl : ((r.length + 1 : Nat) : Int) ≤ a
  · refine ⟨0, some (a :: r), ?_, by omega, a, r, rfl, ha⟩
    simp! only [b_f_law_take, s0_f_law_take, s1_f_law_take, atI_zero, Option.map_some, bLen_cel, hl]
    rfl
  · obtain ⟨k, rfl⟩ : ∃ k : Nat, a = ((k + 1 : Nat) : Int) := ⟨(a - 1).toNat, by omega⟩
    have hk : k < r.length := by omega
    have e : L2.atI ((((k + 1 : Nat) : Int) + 1) :: r) ((k + 1 : Nat) : Int) = some r[k] := atI_nn (by simp [hk])
    have hd : decide (m ≠ 0) = true := decide_eq_true (by omega)
    have hb := fmod_b (i := r[k]) hm
    refine ⟨(r[k].fmod m).toNat, some ((((k + 1 : Nat) : Int) + 1) :: r), ?_, by omega, _, r, rfl, by omega⟩
    rw [Int.toNat_of_nonneg hb.1]
    simp! only [b_f_law_take, s0_f_law_take, s1_f_law_take, s2_f_law_take, s3_f_law_take, atI_zero, Option.map_some, bLen_cel, hl, celSet_zero, e, bInt_int, hd]
/-- a tie within a size -/
def InR (s : Nat) (t : Nat × Nat) : Prop := t.1 < s ∧ t.2 < s
theorem range_lenI {m : Int} (h : 0 ≤ m) : ((rangeD 0 m).length : Int) = m := by simp [rangeD]; omega
theorem free_ties_spec {c : Ce} {s : Nat} {m : Int} (h : Wc c) (hs : 0 < s) (hm : 0 ≤ m) (hm2 : m ≤ 1000) : ∃ ts c', Q_f_law_free_ties [.cel, .int s, .int m] c = .ok (.fr (pL ts)) c' ∧ (ts.length : Int) = m ∧ (∀ t ∈ ts, InR s t) ∧ Wc c' := by
  rw [q_f_law_free_ties]
  have hR : rngOk 0 m = true := rngOk_of (by omega) (by omega) (by omega) (by omega)
  have hL := range_lenI hm
  obtain ⟨E', c', e, ts, x4, x5, rfl, hl, hr, hc⟩ := sfor_inv (f := sTn (gP (.sl 4)) y1_f_law_free_ties) (P := fun k E c => ∃ ts x4 x5, E = [(some (DV.fz (.cel))), (some (DV.fz (D.int (s)))), (some (DV.fz (D.int (m)))), (some (DV.own (pL ts))), x4, x5] ∧ ts.length = k ∧ (∀ t ∈ ts, InR s t) ∧ Wc c)
    (rangeD 0 m) 0 [(some (DV.fz (.cel))), (some (DV.fz (D.int (s)))), (some (DV.fz (D.int (m)))), (some (DV.own ([]))), none, none] c ⟨[], none, none, rfl, rfl, nofun, h⟩ fun k hk E c hP => by
      obtain ⟨ts, x4, x5, rfl, hl, hr, hc⟩ := hP
      obtain ⟨v1, c1, e1, b1, h1⟩ := take_spec hc (m := s) (by omega)
      obtain ⟨v2, c2, e2, b2, h2⟩ := take_spec h1 (m := s) (by omega)
      have hlen : (pL ts).length < 16777216 := by rw [pL_len]; omega
      refine ⟨[(some (DV.fz (.cel))), (some (DV.fz (D.int (s)))), (some (DV.fz (D.int (m)))), (some (DV.own (pL (ts ++ [(v1, v2)])))), (some (DV.fz ((rangeD 0 m)[k]))), (some (DV.fz (D.int (v1))))], c2, ?_, ts ++ [(v1, v2)], _, _, rfl, by simp; omega, fun t ht => ?_, h2⟩
      · simp! only [y1_f_law_free_ties, sTn, gP, bindP, bindPs, tupV, cT1, wipeD, e1, e2, hlen, pL_snoc]
      · rcases List.mem_append.mp ht with q | q
        · exact hr t q
        · rw [List.mem_singleton] at q; subst q; exact ⟨by omega, by omega⟩
  refine ⟨ts, c', ?_, by omega, hr, hc⟩
  simp! only [b_f_law_free_ties, s0_f_law_free_ties, s1_f_law_free_ties, s2_f_law_free_ties, hR, e]
theorem nat_cases6 {v : Nat} (h : (v : Int) < 6) : v = 0 ∨ v = 1 ∨ v = 2 ∨ v = 3 ∨ v = 4 ∨ v = 5 := by omega
theorem told_net_spec {c : Ce} (h : Wc c) : ∃ (s : Nat) (ts : List (Nat × Nat)) (c' : Ce), Q_f_law_told_net [.cel] c = .ok (.fz (.lst [.int s, .lst (pL ts)])) c' ∧ 3 ≤ s ∧ s ≤ 5 ∧ ts.length ≤ 6 ∧ (∀ t ∈ ts, InR s t) ∧ Wc c' := by
  obtain ⟨v, c1, e1, b1, h1⟩ := take_spec h (m := 6) (by omega)
  rw [q_f_law_told_net]
  rcases nat_cases6 b1 with rfl | rfl | rfl | rfl | rfl | rfl
  · refine ⟨3, [(0, 1), (1, 2), (0, 2)], c1, ?_, by omega, by omega, by decide, by unfold InR; decide, h1⟩
    simp! only [b_f_law_told_net, s0_f_law_told_net, s1_f_law_told_net, s2_f_law_told_net, s3_f_law_told_net, s4_f_law_told_net, s5_f_law_told_net, e1, atI_cast, List.cons_append, List.nil_append]
    rfl
  · refine ⟨5, [(0, 1), (0, 2), (1, 3), (2, 3), (3, 4)], c1, ?_, by omega, by omega, by decide, by unfold InR; decide, h1⟩
    simp! only [b_f_law_told_net, s0_f_law_told_net, s1_f_law_told_net, s2_f_law_told_net, s3_f_law_told_net, s4_f_law_told_net, s5_f_law_told_net, e1, atI_cast, List.cons_append, List.nil_append]
    rfl
  · refine ⟨4, [(0, 1), (1, 2), (0, 2), (0, 3), (1, 3), (2, 3)], c1, ?_, by omega, by omega, by decide, by unfold InR; decide, h1⟩
    simp! only [b_f_law_told_net, s0_f_law_told_net, s1_f_law_told_net, s2_f_law_told_net, s3_f_law_told_net, s4_f_law_told_net, s5_f_law_told_net, e1, atI_cast, List.cons_append, List.nil_append]
    rfl
  · refine ⟨5, [(0, 1), (1, 2), (0, 2), (2, 3), (3, 4), (2, 4)], c1, ?_, by omega, by omega, by decide, by unfold InR; decide, h1⟩
    simp! only [b_f_law_told_net, s0_f_law_told_net, s1_f_law_told_net, s2_f_law_told_net, s3_f_law_told_net, s4_f_law_told_net, s5_f_law_told_net, e1, atI_cast, List.cons_append, List.nil_append]
    rfl
  · refine ⟨4, [(0, 3), (1, 3), (2, 3)], c1, ?_, by omega, by omega, by decide, by unfold InR; decide, h1⟩
    simp! only [b_f_law_told_net, s0_f_law_told_net, s1_f_law_told_net, s2_f_law_told_net, s3_f_law_told_net, s4_f_law_told_net, s5_f_law_told_net, e1, atI_cast, List.cons_append, List.nil_append]
    rfl
  · refine ⟨4, [(0, 1), (1, 2), (2, 3), (0, 3)], c1, ?_, by omega, by omega, by decide, by unfold InR; decide, h1⟩
    simp! only [b_f_law_told_net, s0_f_law_told_net, s1_f_law_told_net, s2_f_law_told_net, s3_f_law_told_net, s4_f_law_told_net, s5_f_law_told_net, e1, atI_cast, List.cons_append, List.nil_append]
    rfl
end DLaw

set_option maxHeartbeats 4000000
/-! K20S2: worlds, nets drawn. -/
namespace DLaw
open PySem DL
local macro_rules
  | `(tactic| simp! only [$ts,*]) => `(tactic| simp -implicitDefEqProofs only [sL_cons, sL_nil, kS_nx, kS_ret, kS_err, sNx_ap, sAs_ap, kB_ok, kB_err, backE_self, kA_ok, kA_err, sIf_ap, kI_ok, kI_err, sFo_ap, kF_ok, sTu_ap, kU, sAp_ap, sSu_ap, kJ_ok, sAt_ap, sAu_ap, sR0_ap, sRe_ap, retR_fz, retR_fr, sEx_ap, sret_ap, sRs_ap, kR, sTr_ap, kT_ok, kT_err, sRN, stF, stO, stC, appD, setD, mutD, insD, insS, augD, augS, fzE, fz1, xB, xK, xW, xN, xV, xBin, xNeg, xNot, xAnd, xOr, xCmp, xCmp2, xIf, xKs, xBs, xTup, xLst, xO, xSl, xRev, revD_lst, xIx, xFld, xFldN, isI, slfD, xBlt, xMt, xRg1, xRg2, rgR_l, rgR_t, xCal, xIsi, xIsi2, tNot, tAnd, tOr, tCmp, tCmp2, tTru, tYes, iR1, iR2, iEn, zipO, iZip, iPl, xC1, xC2, noErr_ap, kN_ok, dbind_dret, dbind_wrong, dbind_ap, dret_ap, dwrong_ap, kD_ok, kD_err, bOf_fz, bOf_fr, bOf_bo, kOf_fz, kOf_fr, intD_int, blD_bl, dget_some, dbl_some, dgetZ_some, dlist_nil, dlist_cons, outD_ret, outD_nx, outD_err, outI_ok', outI_err, add_int, sub_int, mul_int, div_int, mod_int, pow_int, add_lst, lt_int, le_int, gt_int, ge_int, eq_int, ne_int, ix_lst, ix_tup, ix_scr, ix_cel, dcel_ap, dtru, truD, lenOk_sm, List.length_cons, List.length_nil, Nat.reduceAdd, Nat.reduceLeDiff, Nat.reduceLT, List.getElem?_cons_zero, List.getElem?_cons_succ, List.set_cons_zero, List.set_cons_succ, if_true, if_false, ite_true, ite_false, decide_true, decide_false, Bool.false_eq_true, Bool.not_true, Bool.not_false, Bool.true_and, Bool.false_and, Bool.and_true, Bool.and_false, decide_eq_true_eq, not_false_eq_true, not_true_eq_false, dif_t, $ts,*])
theorem all2_ints {p : Int → Prop} : ∀ {xs ys : List D}, All2 (fun _ y => ∃ i, y = .int i ∧ p i) xs ys → ∃ is, ys = iL is ∧ is.length = xs.length ∧ ∀ i ∈ is, p i
  | _, _, .nil => ⟨[], rfl, rfl, nofun⟩
  | _, _, .cons h t => by
    obtain ⟨i, rfl, hi⟩ := h
    obtain ⟨is, rfl, hl, hp⟩ := all2_ints t
    exact ⟨i :: is, rfl, by simp [hl], fun j hj => by
      rcases List.mem_cons.mp hj with rfl | q
      · exact hi
      · exact hp j q⟩
theorem mem_iL {x : D} {is : List Int} (h : x ∈ iL is) : ∃ i, x = .int i ∧ i ∈ is := by
  obtain ⟨i, hi, rfl⟩ := List.mem_map.mp h
  exact ⟨i, rfl, hi⟩
theorem filterMap_some {α β : Type} (f : α → β) (xs : List α) : xs.filterMap (fun x => some (f x)) = xs.map f := by
  induction xs with
  | nil => rfl
  | cons x xs ih => simp [ih]
/-- a comprehension over ints that gives ints -/
theorem dloop_ints {f : D → DM (Option D)} {g : Int → Int} {c : Ce} (is : List Int) (h : ∀ i ∈ is, f (.int i) c = .ok (some (.int (g i))) c) : dloop f (iL is) c = .ok (iL (is.map g)) c := by
  induction is with
  | nil => rfl
  | cons i is ih =>
    show dbind (f (.int i)) (fun o => dbind (dloop f (iL is)) fun r => dret (match o with
      | some y => y :: r
      | none => r)) c = _
    rw [dbind_ap, h i List.mem_cons_self, kD_ok, dbind_ap, ih fun j hj => h j (List.mem_cons_of_mem _ hj), kD_ok]
    rfl
def InW (w : Int) : Prop := 0 ≤ w ∧ w ≤ 10 ^ 28 + 9
theorem in_two (i a b : Int) : cmpD .In (.int i) (.tup [.int a, .int b]) = dret (.bl (decide (i = a ∨ i = b))) := in_pair i a b
theorem pow_menu {vb : Nat} (h : vb < 4) : ∃ q : Int, InW (q + 9) ∧ 0 ≤ q ∧ L2.atI [D.int ((10 : Int) ^ (12 : Int).toNat), D.int ((10 : Int) ^ (12 : Int).toNat), D.int ((10 : Int) ^ (28 : Int).toNat), D.int 40] (vb : Int) = some (.int q) := by
  have : vb = 0 ∨ vb = 1 ∨ vb = 2 ∨ vb = 3 := by omega
  unfold InW
  rcases this with rfl | rfl | rfl | rfl
  · exact ⟨(10 : Int) ^ (12 : Int).toNat, by decide, by decide, by rw [atI_cast]; rfl⟩
  · exact ⟨(10 : Int) ^ (12 : Int).toNat, by decide, by decide, by rw [atI_cast]; rfl⟩
  · exact ⟨(10 : Int) ^ (28 : Int).toNat, by decide, by decide, by rw [atI_cast]; rfl⟩
  · exact ⟨40, by decide, by decide, by rw [atI_cast]; rfl⟩
theorem world_spec {c : Ce} {n : Nat} (h : Wc c) (hn : n ≤ 100) : ∃ (ws : List Int) (c' : Ce), Q_f_law_world [.cel, .int n] c = .ok (.fr (iL ws)) c' ∧ ws.length = n ∧ (∀ w ∈ ws, InW w) ∧ Wc c' := by
  rw [q_f_law_world]
  have hR : rngOk 0 (n : Int) = true := rngOk_of (by omega) (by omega) (by omega) (by omega)
  obtain ⟨v1, c1, e1, b1, h1⟩ := take_spec h (m := 10) (by omega)
  obtain ⟨ys, c2, e2, r2, h2⟩ := dloop_eff (f := c1_f_law_world [(some (DV.fz (.cel))), (some (DV.fz (D.int ((n : Int))))), (some (DV.fz (D.int ((v1 : Int))))), none, none, none, none]) (P := Wc) (R := fun _ y => ∃ i, y = .int i ∧ (0 ≤ i ∧ i ≤ 9)) (xs := rangeD 0 n) h1 fun x hx c hc => by
    obtain ⟨v, c', e, b, h'⟩ := take_spec hc (m := 10) (by omega)
    refine ⟨.int v, c', ?_, ⟨v, rfl, by omega, by omega⟩, h'⟩
    simp! only [c1_f_law_world, sTn, gP, bindP, bindPs, tupV, cT1, wipeD, e]
  obtain ⟨ws, rfl, hl, hw⟩ := all2_ints r2
  rw [range_len] at hl
  have hln : lenOk (rangeD 0 (n : Int)).length = true := lenOk_of (by rw [range_len]; omega)
  have hlw : lenOk (iL ws).length = true := lenOk_of (by rw [iL_len]; omega)
  have hz : ∀ b : Bool, (b = true → ∃ ws' : List Int, ws'.length = n ∧ (∀ w ∈ ws', 0 ≤ w ∧ w ≤ 9) ∧ s2_f_law_world [(some (DV.fz (.cel))), (some (DV.fz (D.int ((n : Int))))), (some (DV.fz (D.int ((v1 : Int))))), (some (DV.own (iL ws))), none, none, none] c2 = .ok .nx [(some (DV.fz (.cel))), (some (DV.fz (D.int ((n : Int))))), (some (DV.fz (D.int ((v1 : Int))))), (some (DV.own (iL ws'))), none, none, none] c2) := by
    intro _ _
    by_cases hv : (v1 : Int) = 7 ∨ (v1 : Int) = 8
    · have hv := eq_true hv
      have hd : decide ((5 : Int) ≠ 0) = true := by decide
      have hd2 : decide ((5 : Int).natAbs < 1073741824) = true := by decide
      have e3 : dloop (c2_f_law_world [(some (DV.fz (.cel))), (some (DV.fz (D.int ((n : Int))))), (some (DV.fz (D.int ((v1 : Int))))), (some (DV.own (iL ws))), none, none, none]) (iL ws) c2 = .ok (iL (ws.map fun i => i.fdiv 5)) c2 := dloop_ints ws fun i hi => by
        simp! only [c2_f_law_world, sTn, gP, bindP, bindPs, tupV, cT1, wipeD, hd, hd2]
      refine ⟨ws.map fun i => i.fdiv 5, by simp [hl], fun w hx => ?_, ?_⟩
      · obtain ⟨i, hi, rfl⟩ := List.mem_map.mp hx
        have := hw i hi
        rw [Int.fdiv_eq_ediv_of_nonneg i (by omega)]
        omega
      · simp! only [s2_f_law_world, sTn, gP, bindP, bindPs, tupV, cT1, wipeD, in_two, hv, e3, items?, hlw]
    · refine ⟨ws, hl, hw, ?_⟩
      simp! only [s2_f_law_world, sTn, gP, bindP, bindPs, tupV, cT1, wipeD, in_two, hv]
  obtain ⟨ws', hl', hw', e3⟩ := hz true rfl
  by_cases h9 : (v1 : Int) = 9 ∧ 0 < (n : Int)
  · obtain ⟨va, c3, e4, b4, h4⟩ := take_spec h2 (m := n) h9.2
    obtain ⟨vb, c4, e5, b5, h5⟩ := take_spec h4 (m := 4) (by omega)
    have hva : va < ws'.length := by omega
    have ha : L2.atI (iL ws') (va : Int) = some (.int ws'[va]) := by rw [atI_cast, iL_get]; simp [hva]
    have hx : L2.ixN (iL ws').length (va : Int) = some va := ixN_nn (by rw [iL_len]; exact hva)
    have h9a := eq_true h9.1
    have h9b := eq_true h9.2
    obtain ⟨q, hq, hq2⟩ := pow_menu (vb := vb) (by omega)
    have hp1 : (decide (0 ≤ (12 : Int)) && decide ((12 : Int) ≤ 1000000) && decide ((10 : Int).natAbs < 2 ^ 64)) = true := by decide
    have hp2 : (decide (0 ≤ (28 : Int)) && decide ((28 : Int) ≤ 1000000) && decide ((10 : Int).natAbs < 2 ^ 64)) = true := by decide
    refine ⟨ws'.set va (q + ws'[va]), c4, ?_, by simp [hl'], fun w hx => ?_, h5⟩
    · have hset : iL (ws'.set va (q + ws'[va])) = (iL ws').set va (.int (q + ws'[va])) := by simp [iL, List.map_set]
      rw [hset]
      simp! only [b_f_law_world, s0_f_law_world, s1_f_law_world, s3_f_law_world, z1_f_law_world, s4_f_law_world, e1, hR, hln, e2, e3, h9a, h9b, e4, e5, ha, hx, hp1, hp2, hq2.2]
    · unfold InW at hq ⊢
      rcases List.mem_or_eq_of_mem_set hx with q' | rfl
      · have := hw' w q'; omega
      · have := hw' _ (List.getElem_mem hva); omega
  · refine ⟨ws', c2, ?_, hl', fun w hx => ?_, h2⟩
    · by_cases h9a : (v1 : Int) = 9
      · have h9b : ¬ 0 < (n : Int) := fun z => h9 ⟨h9a, z⟩
        have h9a := eq_true h9a
        simp! only [b_f_law_world, s0_f_law_world, s1_f_law_world, s3_f_law_world, s4_f_law_world, e1, hR, hln, e2, e3, h9a, h9b]
      · simp! only [b_f_law_world, s0_f_law_world, s1_f_law_world, s3_f_law_world, s4_f_law_world, e1, hR, hln, e2, e3, h9a]
    · have := hw' w hx
      unfold InW
      omega
end DLaw

set_option maxHeartbeats 4000000
/-! K20S3: pairs, nets drawn. -/
namespace DLaw
open PySem DL
theorem slD_take (xs : List D) (k : Nat) : slD (.lst xs) none (some (k : Int)) = dret (.fr (xs.take k)) := by
  show dret (RV.fr (cutD xs none (some (k : Int)))) = _
  unfold cutD
  rw [HT.sIx_none, HT.sIx_nat]
  have : xs.take (min k xs.length) = xs.take k := by
    by_cases h : k ≤ xs.length
    · rw [Nat.min_eq_left h]
    · rw [Nat.min_eq_right (by omega), List.take_of_length_le (by omega), List.take_of_length_le (by omega)]
  simp [this]
theorem slD_take12 (xs : List D) : slD (.lst xs) none (some 12) = dret (.fr (xs.take 12)) := slD_take xs 12
theorem pL_take (ts : List (Nat × Nat)) (k : Nat) : (pL ts).take k = pL (ts.take k) := by simp [pL]
theorem fmod_cast (a s : Nat) : (a : Int).fmod (s : Int) = ((a % s : Nat) : Int) := by
  rw [Int.fmod_eq_emod_of_nonneg _ (by omega)]; rfl
theorem fmod_add (a t s : Nat) : ((a : Int) + (t : Int)).fmod (s : Int) = (((a + t) % s : Nat) : Int) := by
  rw [← Int.natCast_add]; exact fmod_cast _ _
/-- a comprehension that maps -/
theorem dloop_map {α : Type} {f : D → DM (Option D)} {g h : α → D} {c : Ce} (is : List α) (hf : ∀ i ∈ is, f (g i) c = .ok (some (h i)) c) : dloop f (is.map g) c = .ok (is.map h) c := by
  induction is with
  | nil => rfl
  | cons i is ih =>
    show dbind (f (g i)) (fun o => dbind (dloop f (is.map g)) fun r => dret (match o with
      | some y => y :: r
      | none => r)) c = _
    rw [dbind_ap, hf i List.mem_cons_self, kD_ok, dbind_ap, ih fun j hj => hf j (List.mem_cons_of_mem _ hj), kD_ok]
    rfl
/-- .. and leaves some out -/
theorem dloop_fmap {α : Type} {f : D → DM (Option D)} {g : α → D} {h : α → Option D} {c : Ce} (is : List α) (hf : ∀ i ∈ is, f (g i) c = .ok (h i) c) : dloop f (is.map g) c = .ok (is.filterMap h) c := by
  induction is with
  | nil => rfl
  | cons i is ih =>
    show dbind (f (g i)) (fun o => dbind (dloop f (is.map g)) fun r => dret (match o with
      | some y => y :: r
      | none => r)) c = _
    rw [dbind_ap, hf i List.mem_cons_self, kD_ok, dbind_ap, ih fun j hj => hf j (List.mem_cons_of_mem _ hj), kD_ok, List.filterMap_cons]
    cases h i <;> rfl
end DLaw

set_option maxHeartbeats 4000000
/-! K20S4: nets drawn. -/
namespace DLaw
open PySem DL
local macro_rules
  | `(tactic| simp! only [$ts,*]) => `(tactic| simp -implicitDefEqProofs only [sL_cons, sL_nil, kS_nx, kS_ret, kS_err, sNx_ap, sAs_ap, kB_ok, kB_err, backE_self, kA_ok, kA_err, sIf_ap, kI_ok, kI_err, sFo_ap, kF_ok, sTu_ap, kU, sAp_ap, sSu_ap, kJ_ok, sAt_ap, sAu_ap, sR0_ap, sRe_ap, retR_fz, retR_fr, sEx_ap, sret_ap, sRs_ap, kR, sTr_ap, kT_ok, kT_err, sRN, stF, stO, stC, appD, setD, mutD, insD, insS, augD, augS, fzE, fz1, xB, xK, xW, xN, xV, xBin, xNeg, xNot, xAnd, xOr, xCmp, xCmp2, xIf, xKs, xBs, xTup, xLst, xO, xSl, xRev, revD_lst, xIx, xFld, xFldN, isI, slfD, xBlt, xMt, xRg1, xRg2, rgR_l, rgR_t, xCal, xIsi, xIsi2, tNot, tAnd, tOr, tCmp, tCmp2, tTru, tYes, iR1, iR2, iEn, zipO, iZip, iPl, xC1, xC2, noErr_ap, kN_ok, dbind_dret, dbind_wrong, dbind_ap, dret_ap, dwrong_ap, kD_ok, kD_err, bOf_fz, bOf_fr, bOf_bo, kOf_fz, kOf_fr, intD_int, blD_bl, dget_some, dbl_some, dgetZ_some, dlist_nil, dlist_cons, outD_ret, outD_nx, outD_err, outI_ok', outI_err, add_int, sub_int, mul_int, div_int, mod_int, pow_int, add_lst, lt_int, le_int, gt_int, ge_int, eq_int, ne_int, ix_lst, ix_tup, ix_scr, ix_cel, dcel_ap, dtru, truD, lenOk_sm, List.length_cons, List.length_nil, Nat.reduceAdd, Nat.reduceLeDiff, Nat.reduceLT, List.getElem?_cons_zero, List.getElem?_cons_succ, List.set_cons_zero, List.set_cons_succ, if_true, if_false, ite_true, ite_false, decide_true, decide_false, Bool.false_eq_true, Bool.not_true, Bool.not_false, Bool.true_and, Bool.false_and, Bool.and_true, Bool.and_false, decide_eq_true_eq, not_false_eq_true, not_true_eq_false, dif_t, $ts,*])
theorem rangeD_get {lo hi : Int} {k : Nat} (h : k < (rangeD lo hi).length) : (rangeD lo hi)[k] = .int (lo + (k : Int)) := by simp [rangeD]
theorem rangeD_len (lo hi : Int) : (rangeD lo hi).length = (hi - lo).toNat := by simp [rangeD]
theorem lenOk_pp {ts us : List (Nat × Nat)} (h : ts.length + us.length ≤ 1000) : lenOk ((pL ts).length + (pL us).length) = true := lenOk_of (by rw [pL_len, pL_len]; omega)
theorem mem_app {α : Type} {p : α → Prop} {xs ys : List α} (h1 : ∀ x ∈ xs, p x) (h2 : ∀ x ∈ ys, p x) : ∀ x ∈ xs ++ ys, p x := fun x hx => by
  rcases List.mem_append.mp hx with q | q
  · exact h1 x q
  · exact h2 x q
/-- what the four ways give -/
def NetOut (w : Nat) (r : RsS) : Prop := ∃ (s : Nat) (ts : List (Nat × Nat)) (x6 x8 x9 x10 : Option DV) (c' : Ce), r = .ok .nx [(some (DV.fz (.cel))), (some (DV.fz (D.int (12)))), (some (DV.fz (D.int ((w : Int))))), (some (DV.fz (D.int ((s : Int))))), none, (some (DV.own (pL ts))), x6, none, x8, x9, x10, none, none] c' ∧ 1 ≤ s ∧ s ≤ 6 ∧ ts.length ≤ 12 ∧ (∀ t ∈ ts, InR s t) ∧ Wc c'
theorem net_tree {c : Ce} {w s : Nat} (h : Wc c) (h1 : 2 ≤ s) (h2 : s ≤ 6) : NetOut w (z1_f_law_net [(some (DV.fz (.cel))), (some (DV.fz (D.int (12)))), (some (DV.fz (D.int ((w : Int))))), (some (DV.fz (D.int ((s : Int))))), none, none, none, none, none, none, none, none, none] c) := by
  have hR : rngOk 1 (s : Int) = true := rngOk_of (by omega) (by omega) (by omega) (by omega)
  obtain ⟨E', c1, e, ts, x6, x8, rfl, hl, hr, hc⟩ := sfor_inv (f := sTn (gP (.sl 6)) y1_f_law_net) (P := fun k E c' => ∃ ts x6 x8, E = [(some (DV.fz (.cel))), (some (DV.fz (D.int (12)))), (some (DV.fz (D.int ((w : Int))))), (some (DV.fz (D.int ((s : Int))))), none, (some (DV.own (pL ts))), x6, none, x8, none, none, none, none] ∧ ts.length = k ∧ (∀ t ∈ ts, InR s t) ∧ Wc c')
    (rangeD 1 s) 0 [(some (DV.fz (.cel))), (some (DV.fz (D.int (12)))), (some (DV.fz (D.int ((w : Int))))), (some (DV.fz (D.int ((s : Int))))), none, (some (DV.own ([]))), none, none, none, none, none, none, none] c ⟨[], none, none, rfl, rfl, nofun, h⟩ fun k hk E c' hP => by
      obtain ⟨ts, x6, x8, rfl, hl, hr, hc⟩ := hP
      rw [rangeD_get hk]
      rw [rangeD_len] at hk
      have hx : (1 : Int) + (k : Int) = ((1 + k : Nat) : Int) := by omega
      rw [hx]
      obtain ⟨v1, c1, e1, b1, h1'⟩ := take_spec hc (m := ((1 + k : Nat) : Int)) (by omega)
      obtain ⟨v2, c2, e2, b2, h2'⟩ := take_spec h1' (m := 2) (by omega)
      have hlen : (pL ts).length < 16777216 := by rw [pL_len]; omega
      by_cases hv : (v2 : Int) = 1
      · have hv := eq_true hv
        refine ⟨[(some (DV.fz (.cel))), (some (DV.fz (D.int (12)))), (some (DV.fz (D.int ((w : Int))))), (some (DV.fz (D.int ((s : Int))))), none, (some (DV.own (pL (ts ++ [(1 + k, v1)])))), (some (DV.fz (D.int (((1 + k : Nat) : Int))))), none, (some (DV.fz (D.int ((v1 : Int))))), none, none, none, none], c2, ?_, _, _, _, rfl, by simp; omega, mem_app hr (by simp -implicitDefEqProofs only [List.mem_singleton, forall_eq]; exact ⟨by omega, by omega⟩), h2'⟩
        simp! only [y1_f_law_net, sTn, gP, bindP, bindPs, tupV, cT1, wipeD, e1, e2, hv, hlen, pL_snoc]
      · refine ⟨[(some (DV.fz (.cel))), (some (DV.fz (D.int (12)))), (some (DV.fz (D.int ((w : Int))))), (some (DV.fz (D.int ((s : Int))))), none, (some (DV.own (pL (ts ++ [(v1, 1 + k)])))), (some (DV.fz (D.int (((1 + k : Nat) : Int))))), none, (some (DV.fz (D.int ((v1 : Int))))), none, none, none, none], c2, ?_, _, _, _, rfl, by simp; omega, mem_app hr (by simp -implicitDefEqProofs only [List.mem_singleton, forall_eq]; exact ⟨by omega, by omega⟩), h2'⟩
        simp! only [y1_f_law_net, sTn, gP, bindP, bindPs, tupV, cT1, wipeD, e1, e2, hv, hlen, pL_snoc]
  rw [Nat.zero_add, rangeD_len] at hl
  obtain ⟨v, c2, e2, b2, hc2⟩ := take_spec hc (m := 6) (by omega)
  obtain ⟨us, c3, e3, l3, r3, hc3⟩ := free_ties_spec hc2 (s := s) (m := v) (by omega) (by omega) (by omega)
  have hp := lenOk_pp (ts := ts) (us := us) (by omega)
  refine ⟨s, ts ++ us, x6, x8, none, none, c3, ?_, by omega, by omega, by rw [List.length_append]; omega, mem_app hr r3, hc3⟩
  simp! only [z1_f_law_net, hR, e, e2, e3, hp, pL_app]
theorem net_told {c : Ce} {w s : Nat} (h : Wc c) : NetOut w (z2_f_law_net [(some (DV.fz (.cel))), (some (DV.fz (D.int (12)))), (some (DV.fz (D.int ((w : Int))))), (some (DV.fz (D.int ((s : Int))))), none, none, none, none, none, none, none, none, none] c) := by
  obtain ⟨s1, ts, c1, e1, a1, a2, l1, r1, h1⟩ := told_net_spec h
  obtain ⟨v, c2, e2, b2, hc2⟩ := take_spec h1 (m := 2) (by omega)
  obtain ⟨us, c3, e3, l3, r3, hc3⟩ := free_ties_spec hc2 (s := s1) (m := v) (by omega) (by omega) (by omega)
  have hp := lenOk_pp (ts := ts) (us := us) (by omega)
  refine ⟨s1, ts ++ us, none, none, (some (DV.fz (.lst [.int s1, .lst (pL ts)]))), none, c3, ?_, by omega, by omega, by rw [List.length_append]; omega, mem_app r1 r3, hc3⟩
  simp! only [z2_f_law_net, e1, e2, e3, hp, pL_app, atI_zero, atI_one, bList_lst]
theorem net_ring {c : Ce} {w s : Nat} (h : Wc c) : NetOut w (z3_f_law_net [(some (DV.fz (.cel))), (some (DV.fz (D.int (12)))), (some (DV.fz (D.int ((w : Int))))), (some (DV.fz (D.int ((s : Int))))), none, none, none, none, none, none, none, none, none] c) := by
  obtain ⟨v1, c1, e1, b1, h1⟩ := take_spec h (m := 3) (by omega)
  obtain ⟨v2, c2, e2, b2, h2⟩ := take_spec h1 (m := 2) (by omega)
  obtain ⟨v3, c3, e3, b3, h3⟩ := take_spec h2 (m := 3) (by omega)
  obtain ⟨us, c4, e4, l4, r4, h4⟩ := free_ties_spec h3 (s := 3 + v1 + v2) (m := v3) (by omega) (by omega) (by omega)
  have hR : rngOk 0 ((3 + v1 : Nat) : Int) = true := rngOk_of (by omega) (by omega) (by omega) (by omega)
  have hL : lenOk (rangeD 0 ((3 + v1 : Nat) : Int)).length = true := lenOk_of (by rw [range_len]; omega)
  have hd : decide (((3 + v1 : Nat) : Int) ≠ 0) = true := decide_eq_true (by omega)
  have q1 : (3 : Int) + (v1 : Int) = ((3 + v1 : Nat) : Int) := by omega
  have q2 : ((3 + v1 : Nat) : Int) + (v2 : Int) = ((3 + v1 + v2 : Nat) : Int) := by omega
  have e5 : dloop (c1_f_law_net [(some (DV.fz (.cel))), (some (DV.fz (D.int (12)))), (some (DV.fz (D.int ((w : Int))))), (some (DV.fz (D.int (((3 + v1 + v2 : Nat) : Int))))), none, none, none, none, none, none, (some (DV.fz (D.int (((3 + v1 : Nat) : Int))))), none, none]) (rangeD 0 ((3 + v1 : Nat) : Int)) c2 = .ok (pL ((List.range (3 + v1)).map fun k => (k, (k + 1) % (3 + v1)))) c2 := by
    rw [range_nat, pL, List.map_map]
    exact dloop_map _ fun i _ => by
      have q : (i : Int) + 1 = ((i + 1 : Nat) : Int) := by omega
      simp! only [c1_f_law_net, sTn, gP, bindP, bindPs, tupV, cT1, wipeD, bInt_int, hd, q, fmod_cast]
      rfl
  have hp := lenOk_pp (ts := (List.range (3 + v1)).map fun k => (k, (k + 1) % (3 + v1))) (us := us) (by rw [List.length_map, List.length_range]; omega)
  refine ⟨3 + v1 + v2, (List.range (3 + v1)).map (fun k => (k, (k + 1) % (3 + v1))) ++ us, none, none, none, (some (DV.fz (D.int (((3 + v1 : Nat) : Int))))), c4, ?_, by omega, by omega, by rw [List.length_append, List.length_map, List.length_range]; omega, mem_app (fun t ht => ?_) r4, h4⟩
  · simp! only [z3_f_law_net, e1, e2, e3, e4, e5, q1, q2, hp, hR, hL, pL_app]
  · obtain ⟨k, hk, rfl⟩ := List.mem_map.mp ht
    rw [List.mem_range] at hk
    have := Nat.mod_lt (k + 1) (show 0 < 3 + v1 by omega)
    exact ⟨by show k < _; omega, by show (k + 1) % (3 + v1) < _; omega⟩
theorem net_free {c : Ce} {w s : Nat} (h : Wc c) (h1 : 2 ≤ s) (h2 : s ≤ 6) : NetOut w (z4_f_law_net [(some (DV.fz (.cel))), (some (DV.fz (D.int (12)))), (some (DV.fz (D.int ((w : Int))))), (some (DV.fz (D.int ((s : Int))))), none, none, none, none, none, none, none, none, none] c) := by
  obtain ⟨v1, c1, e1, b1, hc1⟩ := take_spec h (m := 6) (by omega)
  obtain ⟨v2, c2, e2, b2, hc2⟩ := take_spec hc1 (m := 10) (by omega)
  by_cases hv : (v1 : Int) = 5
  · have hv := eq_true hv
    obtain ⟨us, c3, e3, l3, r3, hc3⟩ := free_ties_spec hc2 (s := 1) (m := v2) (by omega) (by omega) (by omega)
    refine ⟨1, us, none, none, none, none, c3, ?_, by omega, by omega, by omega, r3, hc3⟩
    have e3' : Q_f_law_free_ties [.cel, .int 1, .int v2] c2 = .ok (.fr (pL us)) c3 := e3
    simp! only [z4_f_law_net, e1, e2, e3', hv]
    rfl
  · obtain ⟨us, c3, e3, l3, r3, hc3⟩ := free_ties_spec hc2 (s := s) (m := v2) (by omega) (by omega) (by omega)
    refine ⟨s, us, none, none, none, none, c3, ?_, by omega, by omega, by omega, r3, hc3⟩
    simp! only [z4_f_law_net, e1, e2, e3, hv]
theorem net_way {c : Ce} {w s : Nat} (h : Wc c) (h1 : 2 ≤ s) (h2 : s ≤ 6) : NetOut w (s2_f_law_net [(some (DV.fz (.cel))), (some (DV.fz (D.int (12)))), (some (DV.fz (D.int ((w : Int))))), (some (DV.fz (D.int ((s : Int))))), none, none, none, none, none, none, none, none, none] c) := by
  by_cases a1 : (w : Int) ≤ 3
  · have z := net_tree (w := w) h h1 h2
    have a1 := eq_true a1
    simp! only [s2_f_law_net, a1]
    exact z
  · by_cases a2 : (w : Int) ≤ 5
    · have z := net_told (w := w) (s := s) h
      have a2 := eq_true a2
      obtain ⟨s', ts, x6, x8, x9, x10, c', e, z⟩ := z
      refine ⟨s', ts, x6, x8, x9, x10, c', ?_, z⟩
      simp! only [s2_f_law_net, a1, a2, e]
    · by_cases a3 : (w : Int) = 6
      · have z := net_ring (w := w) (s := s) h
        have a3 := eq_true a3
        obtain ⟨s', ts, x6, x8, x9, x10, c', e, z⟩ := z
        refine ⟨s', ts, x6, x8, x9, x10, c', ?_, z⟩
        simp! only [s2_f_law_net, a1, a2, a3, e]
      · have z := net_free (w := w) h h1 h2
        obtain ⟨s', ts, x6, x8, x9, x10, c', e, z⟩ := z
        refine ⟨s', ts, x6, x8, x9, x10, c', ?_, z⟩
        simp! only [s2_f_law_net, a1, a2, a3, e]
theorem sizes {v : Nat} (h : (v : Int) < 12) : ∃ s : Nat, 2 ≤ s ∧ s ≤ 6 ∧ L2.atI [D.int 3, .int 2, .int 4, .int 5, .int 3, .int 4, .int 5, .int 4, .int 6, .int 3, .int 4, .int 5] (v : Int) = some (.int (s : Int)) := by
  rw [atI_cast]
  have : v = 0 ∨ v = 1 ∨ v = 2 ∨ v = 3 ∨ v = 4 ∨ v = 5 ∨ v = 6 ∨ v = 7 ∨ v = 8 ∨ v = 9 ∨ v = 10 ∨ v = 11 := by omega
  rcases this with rfl | rfl | rfl | rfl | rfl | rfl | rfl | rfl | rfl | rfl | rfl | rfl
  · exact ⟨3, by omega, by omega, rfl⟩
  · exact ⟨2, by omega, by omega, rfl⟩
  · exact ⟨4, by omega, by omega, rfl⟩
  · exact ⟨5, by omega, by omega, rfl⟩
  · exact ⟨3, by omega, by omega, rfl⟩
  · exact ⟨4, by omega, by omega, rfl⟩
  · exact ⟨5, by omega, by omega, rfl⟩
  · exact ⟨4, by omega, by omega, rfl⟩
  · exact ⟨6, by omega, by omega, rfl⟩
  · exact ⟨3, by omega, by omega, rfl⟩
  · exact ⟨4, by omega, by omega, rfl⟩
  · exact ⟨5, by omega, by omega, rfl⟩
/-- the last four steps -/
theorem net_end {c : Ce} {w s : Nat} {ts : List (Nat × Nat)} {x6 x8 x9 x10 : Option DV} (h : Wc c) (h1 : 1 ≤ s) (h2 : s ≤ 6) (hl : ts.length ≤ 12) (hr : ∀ t ∈ ts, InR s t) :
    ∃ ts' c' E', sL [s3_f_law_net, s4_f_law_net, s5_f_law_net, s6_f_law_net] [(some (DV.fz (.cel))), (some (DV.fz (D.int (12)))), (some (DV.fz (D.int ((w : Int))))), (some (DV.fz (D.int ((s : Int))))), none, (some (DV.own (pL ts))), x6, none, x8, x9, x10, none, none] c = .ok (.ret (.fr [.int s, .lst (pL ts')])) E' c' ∧ ts'.length ≤ 12 ∧ (∀ t ∈ ts', InR s t) ∧ Wc c' := by
  have tail : ∀ (c1 : Ce) (us : List (Nat × Nat)) (x7 : Option DV), Wc c1 → us.length ≤ 13 → (∀ t ∈ us, InR s t) →
      ∃ ts' c' E', sL [s4_f_law_net, s5_f_law_net, s6_f_law_net] [(some (DV.fz (.cel))), (some (DV.fz (D.int (12)))), (some (DV.fz (D.int ((w : Int))))), (some (DV.fz (D.int ((s : Int))))), none, (some (DV.own (pL us))), x6, x7, x8, x9, x10, none, none] c1 = .ok (.ret (.fr [.int s, .lst (pL ts')])) E' c' ∧ ts'.length ≤ 12 ∧ (∀ t ∈ ts', InR s t) ∧ Wc c' := by
    intro c1 us x7 hc hl hr
    obtain ⟨v, c2, e2, b2, h2⟩ := take_spec hc (m := s) (by omega)
    have hd : decide ((s : Int) ≠ 0) = true := decide_eq_true (by omega)
    have hL : lenOk (pL us).length = true := lenOk_of (by rw [pL_len]; omega)
    have e3 : dloop (c2_f_law_net [(some (DV.fz (.cel))), (some (DV.fz (D.int (12)))), (some (DV.fz (D.int ((w : Int))))), (some (DV.fz (D.int ((s : Int))))), (some (DV.fz (D.int ((v : Int))))), (some (DV.own (pL us))), x6, x7, x8, x9, x10, none, none]) (pL us) c2 = .ok (pL (us.map fun t => ((t.1 + v) % s, (t.2 + v) % s))) c2 := by
      rw [pL, pL, List.map_map]
      exact dloop_map _ fun t _ => by
        simp! only [c2_f_law_net, sTn, gP, bindP, bindPs, tupV, cT1, wipeD, pD, bInt_int, hd, fmod_add, atI_zero, atI_one]
        rfl
    refine ⟨(us.map fun t => ((t.1 + v) % s, (t.2 + v) % s)).take 12, c2, [(some (DV.fz (.cel))), (some (DV.fz (D.int (12)))), (some (DV.fz (D.int ((w : Int))))), (some (DV.fz (D.int ((s : Int))))), (some (DV.fz (D.int ((v : Int))))), (some (DV.own (pL (us.map fun t => ((t.1 + v) % s, (t.2 + v) % s))))), x6, x7, x8, x9, x10, none, none], ?_, by rw [List.length_take]; omega, fun t ht => ?_, h2⟩
    · simp! only [s4_f_law_net, s5_f_law_net, s6_f_law_net, e2, e3, hL, items?, slD_take12, pL_take]
    · obtain ⟨u, hu, rfl⟩ := List.mem_map.mp (List.mem_of_mem_take ht)
      exact ⟨Nat.mod_lt _ (by omega), Nat.mod_lt _ (by omega)⟩
  by_cases h0 : 0 < ((pL ts).length : Int)
  · obtain ⟨v1, c1, e1, b1, hc1⟩ := take_spec h (m := 8) (by omega)
    have h0' := eq_true h0
    by_cases hv : (v1 : Int) = 7
    · have hv := eq_true hv
      obtain ⟨v2, c2, e2, b2, hc2⟩ := take_spec hc1 (m := (pL ts).length) h0
      have hk : v2 < ts.length := by rw [pL_len] at b2; omega
      have ha : L2.atI (pL ts) (v2 : Int) = some (.tup [.int ts[v2].1, .int ts[v2].2]) := by rw [atI_cast, pL_get, List.getElem?_eq_getElem hk]; rfl
      have hlen : (pL ts).length < 16777216 := by rw [pL_len]; omega
      have hin := hr _ (List.getElem_mem hk)
      obtain ⟨ts', c', E', e', z⟩ := tail c2 (ts ++ [(ts[v2].2, ts[v2].1)]) (some (DV.fz (.tup [.int ts[v2].1, .int ts[v2].2]))) hc2 (by simp; omega) (mem_app hr (by simp -implicitDefEqProofs only [List.mem_singleton, forall_eq]; exact ⟨hin.2, hin.1⟩))
      refine ⟨ts', c', E', ?_, z⟩
      rw [sL_cons]
      have e3 : s3_f_law_net [(some (DV.fz (.cel))), (some (DV.fz (D.int (12)))), (some (DV.fz (D.int ((w : Int))))), (some (DV.fz (D.int ((s : Int))))), none, (some (DV.own (pL ts))), x6, none, x8, x9, x10, none, none] c = .ok .nx [(some (DV.fz (.cel))), (some (DV.fz (D.int (12)))), (some (DV.fz (D.int ((w : Int))))), (some (DV.fz (D.int ((s : Int))))), none, (some (DV.own (pL (ts ++ [(ts[v2].2, ts[v2].1)])))), x6, (some (DV.fz (.tup [.int ts[v2].1, .int ts[v2].2]))), x8, x9, x10, none, none] c2 := by
        simp! only [s3_f_law_net, z5_f_law_net, bLen_lst, h0', e1, hv, e2, ha, atI_zero, atI_one, hlen, pL_snoc]
      rw [e3]; exact e'
    · obtain ⟨ts', c', E', e', z⟩ := tail c1 ts none hc1 (by omega) hr
      refine ⟨ts', c', E', ?_, z⟩
      rw [sL_cons]
      have e3 : s3_f_law_net [(some (DV.fz (.cel))), (some (DV.fz (D.int (12)))), (some (DV.fz (D.int ((w : Int))))), (some (DV.fz (D.int ((s : Int))))), none, (some (DV.own (pL ts))), x6, none, x8, x9, x10, none, none] c = .ok .nx [(some (DV.fz (.cel))), (some (DV.fz (D.int (12)))), (some (DV.fz (D.int ((w : Int))))), (some (DV.fz (D.int ((s : Int))))), none, (some (DV.own (pL ts))), x6, none, x8, x9, x10, none, none] c1 := by
        simp! only [s3_f_law_net, z5_f_law_net, bLen_lst, h0', e1, hv]
      rw [e3]; exact e'
  · obtain ⟨ts', c', E', e', z⟩ := tail c ts none h (by omega) hr
    refine ⟨ts', c', E', ?_, z⟩
    rw [sL_cons]
    have e3 : s3_f_law_net [(some (DV.fz (.cel))), (some (DV.fz (D.int (12)))), (some (DV.fz (D.int ((w : Int))))), (some (DV.fz (D.int ((s : Int))))), none, (some (DV.own (pL ts))), x6, none, x8, x9, x10, none, none] c = .ok .nx [(some (DV.fz (.cel))), (some (DV.fz (D.int (12)))), (some (DV.fz (D.int ((w : Int))))), (some (DV.fz (D.int ((s : Int))))), none, (some (DV.own (pL ts))), x6, none, x8, x9, x10, none, none] c := by
      simp! only [s3_f_law_net, z5_f_law_net, bLen_lst, h0]
    rw [e3]; exact e'
theorem net_spec {c : Ce} (h : Wc c) : ∃ (s : Nat) (ts : List (Nat × Nat)) (c' : Ce), Q_f_law_net [.cel, .int 12] c = .ok (.fr [.int s, .lst (pL ts)]) c' ∧ 1 ≤ s ∧ s ≤ 6 ∧ ts.length ≤ 12 ∧ (∀ t ∈ ts, InR s t) ∧ Wc c' := by
  rw [q_f_law_net]
  obtain ⟨w, c1, e1, b1, h1⟩ := take_spec h (m := 8) (by omega)
  obtain ⟨v, c2, e2, b2, h2⟩ := take_spec h1 (m := 12) (by omega)
  obtain ⟨s0, a1, a2, ea⟩ := sizes b2
  obtain ⟨s, ts, x6, x8, x9, x10, c3, e3, d1, d2, d3, d4, h3⟩ := net_way (w := w) h2 a1 a2
  obtain ⟨ts', c4, E', e4, f1, f2, h4⟩ := net_end (w := w) (x6 := x6) (x8 := x8) (x9 := x9) (x10 := x10) h3 d1 d2 d3 d4
  refine ⟨s, ts', c4, ?_, d1, d2, f1, f2, h4⟩
  have q0 : s0_f_law_net [(some (DV.fz (.cel))), (some (DV.fz (D.int (12)))), none, none, none, none, none, none, none, none, none, none, none] c = .ok .nx [(some (DV.fz (.cel))), (some (DV.fz (D.int (12)))), (some (DV.fz (D.int ((w : Int))))), none, none, none, none, none, none, none, none, none, none] c1 := by
    simp! only [s0_f_law_net, e1]
  have q1 : s1_f_law_net [(some (DV.fz (.cel))), (some (DV.fz (D.int (12)))), (some (DV.fz (D.int ((w : Int))))), none, none, none, none, none, none, none, none, none, none] c1 = .ok .nx [(some (DV.fz (.cel))), (some (DV.fz (D.int (12)))), (some (DV.fz (D.int ((w : Int))))), (some (DV.fz (D.int ((s0 : Int))))), none, none, none, none, none, none, none, none, none] c2 := by
    simp! only [s1_f_law_net, e2, ea]
  unfold b_f_law_net
  rw [sL_cons, q0, kS_nx, sL_cons, q1, kS_nx, sL_cons, e3, kS_nx, e4]
  rfl
end DLaw

set_option maxHeartbeats 4000000
/-! K20C: the shortest way. -/
namespace DLaw
open PySem DL
local macro_rules
  | `(tactic| simp! only [$ts,*]) => `(tactic| simp -implicitDefEqProofs only [sL_cons, sL_nil, kS_nx, kS_ret, kS_err, sNx_ap, sAs_ap, kB_ok, kB_err, backE_self, kA_ok, kA_err, sIf_ap, kI_ok, kI_err, sFo_ap, kF_ok, sTu_ap, kU, sAp_ap, sSu_ap, kJ_ok, sAt_ap, sAu_ap, sR0_ap, sRe_ap, retR_fz, retR_fr, sEx_ap, sret_ap, sRs_ap, kR, sTr_ap, kT_ok, kT_err, sRN, stF, stO, stC, appD, setD, mutD, insD, insS, augD, augS, fzE, fz1, xB, xK, xW, xN, xV, xBin, xNeg, xNot, xAnd, xOr, xCmp, xCmp2, xIf, xKs, xBs, xTup, xLst, xO, xSl, xRev, revD_lst, xIx, xFld, xFldN, isI, slfD, xBlt, xMt, xRg1, xRg2, rgR_l, rgR_t, xCal, xIsi, xIsi2, tNot, tAnd, tOr, tCmp, tCmp2, tTru, tYes, iR1, iR2, iEn, zipO, iZip, iPl, xC1, xC2, noErr_ap, kN_ok, dbind_dret, dbind_wrong, dbind_ap, dret_ap, dwrong_ap, kD_ok, kD_err, bOf_fz, bOf_fr, bOf_bo, kOf_fz, kOf_fr, intD_int, blD_bl, dget_some, dbl_some, dgetZ_some, dlist_nil, dlist_cons, outD_ret, outD_nx, outD_err, outI_ok', outI_err, add_int, sub_int, mul_int, div_int, mod_int, pow_int, add_lst, lt_int, le_int, gt_int, ge_int, eq_int, ne_int, ix_lst, ix_tup, ix_scr, ix_cel, dcel_ap, dtru, truD, lenOk_sm, List.length_cons, List.length_nil, Nat.reduceAdd, Nat.reduceLeDiff, Nat.reduceLT, List.getElem?_cons_zero, List.getElem?_cons_succ, List.set_cons_zero, List.set_cons_succ, if_true, if_false, ite_true, ite_false, decide_true, decide_false, Bool.false_eq_true, Bool.not_true, Bool.not_false, Bool.true_and, Bool.false_and, Bool.and_true, Bool.and_false, decide_eq_true_eq, not_false_eq_true, not_true_eq_false, dif_t, $ts,*])
open Flow (Stp Way)
theorem prefix_get {p q : List Nat} (h : p <+: q) {i : Nat} (hi : i < p.length) : ∃ h2 : i < q.length, q[i] = p[i] := by
  obtain ⟨r, rfl⟩ := h
  exact ⟨by rw [List.length_append]; omega, by rw [List.getElem_append_left hi]⟩
theorem prefix_mem {p q : List Nat} (h : p <+: q) {x : Nat} (hx : x ∈ p) : x ∈ q := h.subset hx
/-- one more is found -/
theorem Tree.more {n : Nat} {q st : List Nat} {ss : List Stp} {cm : Nat → Option Stp} (T : Tree n q st ss cm) {s : Stp} (hs : s ∈ ss) (hb : s.b < n) (hq : s.b ∉ q) {j : Nat} (hj : j < q.length) (ha : s.a = q[j]) :
    Tree n (q ++ [s.b]) st ss fun u => if u = s.b then some s else cm u where
  nd := by
    rw [List.nodup_append]
    exact ⟨T.nd, by simp, fun a h1 b h2 => by rw [List.mem_singleton] at h2; subst h2; intro e; subst e; exact hq h1⟩
  lt := mem_app T.lt fun x hx => by rw [List.mem_singleton] at hx; omega
  ini := fun x hx => List.mem_append_left _ (T.ini x hx)
  no := fun x hx => by
    rw [if_neg fun e => hq (by rw [← e]; exact T.ini x hx)]
    exact T.no x hx
  up := fun i hi => by
    rw [List.length_append, List.length_singleton] at hi
    by_cases z : i < q.length
    · have e1 : (q ++ [s.b])[i]'(by rw [List.length_append, List.length_singleton]; exact hi) = q[i] := List.getElem_append_left z
      rw [e1]
      have ne : q[i] ≠ s.b := fun e => hq (by rw [← e]; exact List.getElem_mem z)
      rw [if_neg ne]
      rcases T.up i z with u | ⟨u, k, hk, h1, h2, h3, h4⟩
      · exact .inl u
      · exact .inr ⟨u, k, hk, h1, h2, h3, by rw [List.getElem_append_left (by omega)]; exact h4⟩
    · have e0 : i = q.length := by omega
      subst e0
      have e1 : (q ++ [s.b])[q.length]'(by rw [List.length_append, List.length_singleton]; exact hi) = s.b := by simp
      rw [e1, if_pos rfl]
      exact .inr ⟨s, j, hj, rfl, hs, rfl, by rw [List.getElem_append_left hj]; exact ha⟩
/-- what the search ends with: a way, or a closed set -/
def WayOr (n : Nat) (ss : List Stp) (st go : List Nat) (c : Ce) (r : Rs RV) : Prop :=
  (∃ (a g : Nat) (W : List Stp) (q : List Nat), r = .ok (.fr (stL W)) c ∧ a ∈ st ∧ g ∈ go ∧ Way a g W ∧ (∀ s ∈ W, s ∈ ss) ∧ Down q W) ∨
  (∃ q : List Nat, r = .ok (.fz .non) c ∧ (∀ x ∈ st, x ∈ q) ∧ (∀ x ∈ q, x ∉ go ∧ x < n) ∧ ∀ s ∈ ss, s.a ∈ q → s.b ∈ q)
theorem shortest_spec {c : Ce} {n : Nat} {ss : List Stp} {st go : List Nat} (hn : n ≤ 100) (hs : ∀ s ∈ ss, s.a < n ∧ s.b < n) (hl : ss.length ≤ 1000) (hd : st.Nodup) (hst : ∀ x ∈ st, x < n) :
    WayOr n ss st go c (Q_fshortest_way [.int n, .lst (stL ss), .tup (nL st), .tup (nL go)] c) := by
  rw [q_fshortest_way]
  have hR : rngOk 0 (n : Int) = true := rngOk_of (by omega) (by omega) (by omega) (by omega)
  have hLr : lenOk (rangeD 0 (n : Int)).length = true := lenOk_of (by rw [range_len]; omega)
  have e0 : dloop (c1_fshortest_way [(some (DV.fz (D.int ((n : Int))))), (some (DV.fz (.lst (stL ss)))), (some (DV.fz (.tup (nL st)))), (some (DV.fz (.tup (nL go)))), none, none, none, none, none, none]) (rangeD 0 (n : Int)) c = .ok (cmL n fun _ => none) c := by
    rw [range_nat]
    exact dloop_map _ fun i _ => by
      simp! only [c1_fshortest_way, sTn, gP, bindP, bindPs, tupV, cT1, wipeD]
      rfl
  have T0 : Tree n st st ss fun _ => none := ⟨hd, hst, fun x h => h, fun _ _ => rfl, fun i hi => .inl ⟨List.getElem_mem hi, rfl⟩⟩
  have hw := sWh_rule (t := x1_fshortest_way) (b := v1_fshortest_way)
    (P := fun E c' => ∃ (q : List Nat) (cm : Nat → Option Stp) (at_ : Nat) (x7 x8 : Option DV), E = [(some (DV.fz (D.int ((n : Int))))), (some (DV.fz (.lst (stL ss)))), (some (DV.fz (.tup (nL st)))), (some (DV.fz (.tup (nL go)))), (some (DV.own (cmL n cm))), (some (DV.own (nL q))), (some (DV.fz (D.int ((at_ : Int))))), x7, x8, none] ∧ c' = c ∧ Tree n q st ss cm ∧ at_ ≤ q.length ∧
      ∀ (j : Nat) (hj : j < q.length), j < at_ → q[j] ∉ go ∧ ∀ s ∈ ss, s.a = q[j] → s.b ∈ q)
    (Q := fun E c' => ∃ (q : List Nat), c' = c ∧ (∀ x ∈ st, x ∈ q) ∧ (∀ x ∈ q, x ∉ go ∧ x < n) ∧ ∀ s ∈ ss, s.a ∈ q → s.b ∈ q)
    (R := fun v E c' => c' = c ∧ ∃ (a g : Nat) (W : List Stp) (q : List Nat), v = .fr (stL W) ∧ a ∈ st ∧ g ∈ go ∧ Way a g W ∧ (∀ s ∈ W, s ∈ ss) ∧ Down q W)
    (μ := fun (E : EnvD) (_ : Ce) => match E[6]? with
      | some (some (DV.fz (D.int v))) => 101 - v.toNat
      | _ => 0)
    (fun E c' hP => by
      obtain ⟨q, cm, at_, x7, x8, rfl, rfl, T, hat, hcl⟩ := hP
      have hql := nodup_le n q T.nd T.lt
      have hlq : ((nL q).length : Int) = (q.length : Int) := by rw [nL_len]
      by_cases hlt : at_ < q.length
      · right
        have h1 : (at_ : Int) < (q.length : Int) := by omega
        have h1 := eq_true h1
        refine ⟨by simp! only [x1_fshortest_way, bLen_lst, hlq, h1], ?_⟩
        have hq := nL_at hlt
        by_cases hg : q[at_] ∈ go
        · right
          have hg' := eq_true hg
          obtain ⟨a, W, eW, w1, w2, w3, w4⟩ := wayback_spec (c := c') T hn hlt
          refine ⟨.fr (stL W), [(some (DV.fz (D.int ((n : Int))))), (some (DV.fz (.lst (stL ss)))), (some (DV.fz (.tup (nL st)))), (some (DV.fz (.tup (nL go)))), (some (DV.fz (.lst (cmL n cm)))), (some (DV.own (nL q))), (some (DV.fz (D.int ((at_ : Int))))), (some (DV.fz (D.int ((q[at_] : Nat))))), x8, none], c', ?_, rfl, a, _, W, q, rfl, w1, hg, w2, w3, w4⟩
          simp! only [v1_fshortest_way, hq, in_ntup, hg', eW]
        · left
          obtain ⟨E2, c2, e2, q2, cm2, y8, rfl, rfl, T2, hpre, hall⟩ := sfor_inv (f := sTn (gP (.sl 8)) y1_fshortest_way)
            (P := fun k E c2 => ∃ (q2 : List Nat) (cm2 : Nat → Option Stp) (y8 : Option DV), E = [(some (DV.fz (D.int ((n : Int))))), (some (DV.fz (.lst (stL ss)))), (some (DV.fz (.tup (nL st)))), (some (DV.fz (.tup (nL go)))), (some (DV.own (cmL n cm2))), (some (DV.own (nL q2))), (some (DV.fz (D.int ((at_ : Int))))), (some (DV.fz (D.int ((q[at_] : Nat))))), y8, none] ∧ c2 = c' ∧ Tree n q2 st ss cm2 ∧ q <+: q2 ∧ ∀ s ∈ ss.take k, s.a = q[at_] → s.b ∈ q2)
            (stL ss) 0 [(some (DV.fz (D.int ((n : Int))))), (some (DV.fz (.lst (stL ss)))), (some (DV.fz (.tup (nL st)))), (some (DV.fz (.tup (nL go)))), (some (DV.own (cmL n cm))), (some (DV.own (nL q))), (some (DV.fz (D.int ((at_ : Int))))), (some (DV.fz (D.int ((q[at_] : Nat))))), x8, none] c' ⟨q, cm, x8, rfl, rfl, T, List.prefix_refl _, by simp⟩ (fun k hk E c2 hP => by
              obtain ⟨q2, cm2, y8, rfl, rfl, T2, hpre, hall⟩ := hP
              rw [Nat.zero_add] at *
              have hk' : k < ss.length := by simpa [stL] using hk
              have ex : (stL ss)[k] = stD ss[k] := by simp [stL]
              rw [ex]
              obtain ⟨hp2, hpe⟩ := prefix_get hpre hlt
              have hsk := hs _ (List.getElem_mem hk')
              have hql2 := nodup_le n q2 T2.nd T2.lt
              have tk : ss.take (k + 1) = ss.take k ++ [ss[k]] := by rw [List.take_succ, List.getElem?_eq_getElem hk']; rfl
              by_cases ha : ((ss[k].a : Nat) : Int) = ((q[at_] : Nat) : Int)
              · by_cases hb : ss[k].b ∈ q2
                · refine ⟨[(some (DV.fz (D.int ((n : Int))))), (some (DV.fz (.lst (stL ss)))), (some (DV.fz (.tup (nL st)))), (some (DV.fz (.tup (nL go)))), (some (DV.own (cmL n cm2))), (some (DV.own (nL q2))), (some (DV.fz (D.int ((at_ : Int))))), (some (DV.fz (D.int ((q[at_] : Nat))))), (some (DV.fz (stD ss[k]))), none], c2, ?_, q2, cm2, _, rfl, rfl, T2, hpre, ?_⟩
                  · have ha := eq_true ha
                    have hb := eq_true hb
                    simp! only [y1_fshortest_way, stD, sTn, gP, bindP, bindPs, tupV, cT1, wipeD, atI_zero, atI_one, ha, ni_nlst, hb]
                  · rw [tk]
                    exact mem_app hall fun s hs1 _ => by rw [List.mem_singleton] at hs1; subst hs1; exact hb
                · have hlen : (nL q2).length < 16777216 := by rw [nL_len]; omega
                  have hx : L2.ixN (cmL n cm2).length ((ss[k].b : Nat) : Int) = some ss[k].b := ixN_nn (by rw [cmL_len]; exact hsk.2)
                  have hset := cmL_set (n := n) (v := ss[k].b) (cm := cm2) ss[k]
                  refine ⟨[(some (DV.fz (D.int ((n : Int))))), (some (DV.fz (.lst (stL ss)))), (some (DV.fz (.tup (nL st)))), (some (DV.fz (.tup (nL go)))), (some (DV.own (cmL n fun u => if u = ss[k].b then some ss[k] else cm2 u))), (some (DV.own (nL (q2 ++ [ss[k].b])))), (some (DV.fz (D.int ((at_ : Int))))), (some (DV.fz (D.int ((q[at_] : Nat))))), (some (DV.fz (stD ss[k]))), none], c2, ?_, q2 ++ [ss[k].b], _, _, rfl, rfl, T2.more (List.getElem_mem hk') hsk.2 hb hp2 (by omega), hpre.trans (List.prefix_append _ _), ?_⟩
                  · have ha := eq_true ha
                    rw [← hset, nL_snoc]
                    simp! only [y1_fshortest_way, z1_fshortest_way, stD, sTn, gP, bindP, bindPs, tupV, cT1, wipeD, atI_zero, atI_one, ha, ni_nlst, hb, hx, hlen]
                  · rw [tk]
                    exact mem_app (fun s hs1 h => List.mem_append_left _ (hall s hs1 h)) fun s hs1 _ => by rw [List.mem_singleton] at hs1; subst hs1; simp
              · refine ⟨[(some (DV.fz (D.int ((n : Int))))), (some (DV.fz (.lst (stL ss)))), (some (DV.fz (.tup (nL st)))), (some (DV.fz (.tup (nL go)))), (some (DV.own (cmL n cm2))), (some (DV.own (nL q2))), (some (DV.fz (D.int ((at_ : Int))))), (some (DV.fz (D.int ((q[at_] : Nat))))), (some (DV.fz (stD ss[k]))), none], c2, ?_, q2, cm2, _, rfl, rfl, T2, hpre, ?_⟩
                · simp! only [y1_fshortest_way, stD, sTn, gP, bindP, bindPs, tupV, cT1, wipeD, atI_zero, atI_one, ha]
                · rw [tk]
                  exact mem_app hall fun s hs1 h => by rw [List.mem_singleton] at hs1; subst hs1; exact absurd (by rw [h]) ha)
          obtain ⟨hp2, hpe⟩ := prefix_get hpre hlt
          have hall' : ∀ s ∈ ss, s.a = q[at_] → s.b ∈ q2 := fun s hs1 => hall s (by
            rw [Nat.zero_add, List.take_of_length_le (by simp [stL])]; exact hs1)
          refine ⟨[(some (DV.fz (D.int ((n : Int))))), (some (DV.fz (.lst (stL ss)))), (some (DV.fz (.tup (nL st)))), (some (DV.fz (.tup (nL go)))), (some (DV.own (cmL n cm2))), (some (DV.own (nL q2))), (some (DV.fz (D.int ((at_ : Int) + 1)))), (some (DV.fz (D.int ((q[at_] : Nat))))), y8, none], c2, ?_, ⟨q2, cm2, at_ + 1, _, _, rfl, rfl, T2, hp2, fun j hj hj2 => ?_⟩, ?_⟩
          · simp! only [v1_fshortest_way, hq, in_ntup, hg, items?, e2, augD, augS]
          · by_cases z : j = at_
            · subst z
              rw [hpe]
              exact ⟨hg, hall'⟩
            · have hjq : j < q.length := by omega
              obtain ⟨_, ej⟩ := prefix_get hpre hjq
              rw [ej]
              obtain ⟨u1, u2⟩ := hcl j hjq (by omega)
              exact ⟨u1, fun s hs1 h => prefix_mem hpre (u2 s hs1 h)⟩
          · show 101 - ((at_ : Int) + 1).toNat < 101 - ((at_ : Nat) : Int).toNat
            omega
      · left
        have h1 : ¬ (at_ : Int) < (q.length : Int) := by omega
        refine ⟨by simp! only [x1_fshortest_way, bLen_lst, hlq, h1], q, rfl, T.ini, fun x hx => ?_, fun s hs1 ha => ?_⟩
        · obtain ⟨j, hj, rfl⟩ := List.getElem_of_mem hx
          exact ⟨(hcl j hj (by omega)).1, T.lt _ hx⟩
        · obtain ⟨j, hj, ej⟩ := List.getElem_of_mem ha
          exact (hcl j hj (by omega)).2 s hs1 ej.symm)
    fuel0 [(some (DV.fz (D.int ((n : Int))))), (some (DV.fz (.lst (stL ss)))), (some (DV.fz (.tup (nL st)))), (some (DV.fz (.tup (nL go)))), (some (DV.own (cmL n fun _ => none))), (some (DV.own (nL st))), (some (DV.fz (D.int (0)))), none, none, none] c ⟨st, fun _ => none, 0, none, none, rfl, rfl, T0, by omega, fun j _ h => by omega⟩ (by
      show 101 - (0 : Int).toNat < fuel0
      have : 101 < fuel0 := by decide
      omega)
  rcases hw with ⟨E', c', e, q, rfl, h1, h2, h3⟩ | ⟨v, E', c', e, rfl, a, g, W, q, rfl, h1, h2, h3, h4, h5⟩
  · right
    refine ⟨q, ?_, h1, h2, h3⟩
    simp! only [b_fshortest_way, s0_fshortest_way, s1_fshortest_way, s2_fshortest_way, s3_fshortest_way, s4_fshortest_way, hR, hLr, e0, bList_tup, e]
  · left
    refine ⟨a, g, W, q, ?_, h1, h2, h3, h4, h5⟩
    simp! only [b_fshortest_way, s0_fshortest_way, s1_fshortest_way, s2_fshortest_way, s3_fshortest_way, s4_fshortest_way, hR, hLr, e0, bList_tup, e]
end DLaw

set_option maxHeartbeats 4000000
/-! K20S5: what the program's defs do. -/
namespace DLaw
open PySem DL
local macro_rules
  | `(tactic| simp! only [$ts,*]) => `(tactic| simp -implicitDefEqProofs only [sL_cons, sL_nil, kS_nx, kS_ret, kS_err, sNx_ap, sAs_ap, kB_ok, kB_err, backE_self, kA_ok, kA_err, sIf_ap, kI_ok, kI_err, sFo_ap, kF_ok, sTu_ap, kU, sAp_ap, sSu_ap, kJ_ok, sAt_ap, sAu_ap, sR0_ap, sRe_ap, retR_fz, retR_fr, sEx_ap, sret_ap, sRs_ap, kR, sTr_ap, kT_ok, kT_err, sRN, stF, stO, stC, appD, setD, mutD, insD, insS, augD, augS, fzE, fz1, xB, xK, xW, xN, xV, xBin, xNeg, xNot, xAnd, xOr, xCmp, xCmp2, xIf, xKs, xBs, xTup, xLst, xO, xSl, xRev, revD_lst, xIx, xFld, xFldN, isI, slfD, xBlt, xMt, xRg1, xRg2, rgR_l, rgR_t, xCal, xIsi, xIsi2, tNot, tAnd, tOr, tCmp, tCmp2, tTru, tYes, iR1, iR2, iEn, zipO, iZip, iPl, xC1, xC2, noErr_ap, kN_ok, dbind_dret, dbind_wrong, dbind_ap, dret_ap, dwrong_ap, kD_ok, kD_err, bOf_fz, bOf_fr, bOf_bo, kOf_fz, kOf_fr, intD_int, blD_bl, dget_some, dbl_some, dgetZ_some, dlist_nil, dlist_cons, outD_ret, outD_nx, outD_err, outI_ok', outI_err, add_int, sub_int, mul_int, div_int, mod_int, pow_int, add_lst, lt_int, le_int, gt_int, ge_int, eq_int, ne_int, ix_lst, ix_tup, ix_scr, ix_cel, dcel_ap, dtru, truD, lenOk_sm, List.length_cons, List.length_nil, Nat.reduceAdd, Nat.reduceLeDiff, Nat.reduceLT, List.getElem?_cons_zero, List.getElem?_cons_succ, List.set_cons_zero, List.set_cons_succ, if_true, if_false, ite_true, ite_false, decide_true, decide_false, Bool.false_eq_true, Bool.not_true, Bool.not_false, Bool.true_and, Bool.false_and, Bool.and_true, Bool.and_false, decide_eq_true_eq, not_false_eq_true, not_true_eq_false, dif_t, $ts,*])
def isInt : D → Bool
  | .int _ => true
  | _ => false
/-- data that forms are asked of -/
def plainD : D → Bool
  | .obj _ _ _ => false
  | .cel => false
  | .scr _ => false
  | _ => true
theorem number_spec {c : Ce} : ∀ d : D, plainD d = true → Q_fis_number [d] c = .ok (.fz (.bl (isInt d))) c
  | .non, _ => by rw [q_fis_number]; simp! only [b_fis_number, s0_fis_number, k_fis_number_int, k_fis_number_bool, isi_int_non, isi_int_bl, isi_int_int, isi_int_str, isi_int_lst, isi_int_tup, isi_bool_non, isi_bool_bl, isi_bool_int, isi_bool_str, isi_bool_lst, isi_bool_tup, isi_list_non, isi_list_bl, isi_list_int, isi_list_str, isi_list_lst, isi_list_tup, isi_tuple_non, isi_tuple_bl, isi_tuple_int, isi_tuple_str, isi_tuple_lst, isi_tuple_tup, isInt]
  | .bl _, _ => by rw [q_fis_number]; simp! only [b_fis_number, s0_fis_number, k_fis_number_int, k_fis_number_bool, isi_int_non, isi_int_bl, isi_int_int, isi_int_str, isi_int_lst, isi_int_tup, isi_bool_non, isi_bool_bl, isi_bool_int, isi_bool_str, isi_bool_lst, isi_bool_tup, isi_list_non, isi_list_bl, isi_list_int, isi_list_str, isi_list_lst, isi_list_tup, isi_tuple_non, isi_tuple_bl, isi_tuple_int, isi_tuple_str, isi_tuple_lst, isi_tuple_tup, isInt]
  | .int _, _ => by rw [q_fis_number]; simp! only [b_fis_number, s0_fis_number, k_fis_number_int, k_fis_number_bool, isi_int_non, isi_int_bl, isi_int_int, isi_int_str, isi_int_lst, isi_int_tup, isi_bool_non, isi_bool_bl, isi_bool_int, isi_bool_str, isi_bool_lst, isi_bool_tup, isi_list_non, isi_list_bl, isi_list_int, isi_list_str, isi_list_lst, isi_list_tup, isi_tuple_non, isi_tuple_bl, isi_tuple_int, isi_tuple_str, isi_tuple_lst, isi_tuple_tup, isInt]
  | .str _, _ => by rw [q_fis_number]; simp! only [b_fis_number, s0_fis_number, k_fis_number_int, k_fis_number_bool, isi_int_non, isi_int_bl, isi_int_int, isi_int_str, isi_int_lst, isi_int_tup, isi_bool_non, isi_bool_bl, isi_bool_int, isi_bool_str, isi_bool_lst, isi_bool_tup, isi_list_non, isi_list_bl, isi_list_int, isi_list_str, isi_list_lst, isi_list_tup, isi_tuple_non, isi_tuple_bl, isi_tuple_int, isi_tuple_str, isi_tuple_lst, isi_tuple_tup, isInt]
  | .lst _, _ => by rw [q_fis_number]; simp! only [b_fis_number, s0_fis_number, k_fis_number_int, k_fis_number_bool, isi_int_non, isi_int_bl, isi_int_int, isi_int_str, isi_int_lst, isi_int_tup, isi_bool_non, isi_bool_bl, isi_bool_int, isi_bool_str, isi_bool_lst, isi_bool_tup, isi_list_non, isi_list_bl, isi_list_int, isi_list_str, isi_list_lst, isi_list_tup, isi_tuple_non, isi_tuple_bl, isi_tuple_int, isi_tuple_str, isi_tuple_lst, isi_tuple_tup, isInt]
  | .tup _, _ => by rw [q_fis_number]; simp! only [b_fis_number, s0_fis_number, k_fis_number_int, k_fis_number_bool, isi_int_non, isi_int_bl, isi_int_int, isi_int_str, isi_int_lst, isi_int_tup, isi_bool_non, isi_bool_bl, isi_bool_int, isi_bool_str, isi_bool_lst, isi_bool_tup, isi_list_non, isi_list_bl, isi_list_int, isi_list_str, isi_list_lst, isi_list_tup, isi_tuple_non, isi_tuple_bl, isi_tuple_int, isi_tuple_str, isi_tuple_lst, isi_tuple_tup, isInt]
theorem number_int {c : Ce} (i : Int) : Q_fis_number [.int i] c = .ok (.fz (.bl true)) c := number_spec _ rfl
theorem size_spec {c : Ce} {n : Nat} (h1 : 1 ≤ n) (h2 : n ≤ 12) : Q_fcheck_size [.int n] c = .ok (.fz .non) c := by
  rw [q_fcheck_size]
  have a1 : ¬ ((n : Int) < 1) := by omega
  have a2 : ¬ ((12 : Int) < n) := by omega
  simp! only [b_fcheck_size, s0_fcheck_size, number_int, a1, a2]
/-! enumerate -/
theorem enumD_len (xs : List D) : (enumD xs).length = xs.length := by simp [enumD]
theorem enumD_get {xs : List D} {k : Nat} (h : k < (enumD xs).length) : (enumD xs)[k] = .tup [.int (k : Int), xs[k]'(by rw [enumD_len] at h; exact h)] := by
  simp [enumD]
theorem nL_getE {xs : List Nat} {k : Nat} (h : k < (nL xs).length) : (nL xs)[k] = .int ((xs[k]'(by rw [nL_len] at h; exact h) : Nat) : Int) := by simp [nL]
theorem iL_getE {xs : List Int} {k : Nat} (h : k < (iL xs).length) : (iL xs)[k] = .int (xs[k]'(by rw [iL_len] at h; exact h)) := by simp [iL]
theorem pL_getE {xs : List (Nat × Nat)} {k : Nat} (h : k < (pL xs).length) : (pL xs)[k] = .tup [.int ((xs[k]'(by rw [pL_len] at h; exact h)).1 : Int), .int ((xs[k]'(by rw [pL_len] at h; exact h)).2 : Int)] := by simp [pL, pD]
theorem nL_take (xs : List Nat) (k : Nat) : (nL xs).take k = nL (xs.take k) := by simp [nL]
theorem lt_casts (a b : Nat) : ((a : Int) < (b : Int)) = (a < b) := by simp
theorem sort_mem (is : List Int) (i : Int) : i ∈ sortI is ↔ i ∈ is := by
  unfold sortI
  exact (List.mergeSort_perm is _).mem_iff
theorem sort_len (is : List Int) : (sortI is).length = is.length := by
  unfold sortI
  exact (List.mergeSort_perm is _).length_eq
def casts (ns : List Nat) : List Int := ns.map fun (n : Nat) => (n : Int)
theorem sorted_spec {c : Ce} {n : Nat} {lot : List Nat} (hn : n ≤ 12) (hd : lot.Nodup) (hr : ∀ p ∈ lot, p < n) (hl : lot.length ≤ 100) : Q_fsorted_lot [.int n, .lst (nL lot)] c = .ok (.fz (.tup (iL (sortI (casts lot))))) c := by
  rw [q_fsorted_lot]
  obtain ⟨E', c', e, x2, x3, rfl, rfl⟩ := sfor_inv (f := sTn (gP (.tp [.sl 2, .sl 3])) y1_fsorted_lot) (P := fun k E c' => ∃ x2 x3, E = [(some (DV.fz (D.int ((n : Int))))), (some (DV.fz (.lst (nL lot)))), x2, x3] ∧ c' = c)
    (enumD (nL lot)) 0 [(some (DV.fz (D.int ((n : Int))))), (some (DV.fz (.lst (nL lot)))), none, none] c ⟨none, none, rfl, rfl⟩ fun k hk E c' hP => by
      obtain ⟨x2, x3, rfl, rfl⟩ := hP
      rw [enumD_get hk]
      rw [enumD_len] at hk
      rw [nL_getE hk]
      rw [nL_len] at hk
      have h1 := hr _ (List.getElem_mem hk)
      have a1 : ¬ (((lot[k] : Nat) : Int) < 0) := by omega
      have a2 : ¬ ((n : Int) ≤ ((lot[k] : Nat) : Int)) := by omega
      have a3 : ¬ lot[k] ∈ lot.take k := fun hm => by
        obtain ⟨j, hj, e⟩ := List.mem_take_iff_getElem.mp hm
        have := (List.nodup_iff_pairwise_ne.mp hd)
        have hjk : j < k := by omega
        exact List.pairwise_iff_getElem.mp this j k (by omega) hk hjk e
      refine ⟨[(some (DV.fz (D.int ((n : Int))))), (some (DV.fz (.lst (nL lot)))), (some (DV.fz (D.int ((k : Int))))), (some (DV.fz (D.int (((lot[k] : Nat) : Int)))))], c', ?_, _, _, rfl, rfl⟩
      simp! only [y1_fsorted_lot, sTn, gP, bindP, bindPs, tupV, cT1, wipeD, number_int, a1, a2, slD_take, nL_take, in_nlst, a3]
  have e1 : bSorted [.lst (nL lot)] = dret (.fr (iL (sortI (casts lot)))) := by
    rw [nL_iL]; exact bSorted_ints _
  simp! only [b_fsorted_lot, s0_fsorted_lot, s1_fsorted_lot, s2_fsorted_lot, k_fsorted_lot_list, k_fsorted_lot_tuple, isi_int_non, isi_int_bl, isi_int_int, isi_int_str, isi_int_lst, isi_int_tup, isi_bool_non, isi_bool_bl, isi_bool_int, isi_bool_str, isi_bool_lst, isi_bool_tup, isi_list_non, isi_list_bl, isi_list_int, isi_list_str, isi_list_lst, isi_list_tup, isi_tuple_non, isi_tuple_bl, isi_tuple_int, isi_tuple_str, isi_tuple_lst, isi_tuple_tup, Bool.or_false, Bool.or_true, items?, e, e1, bTuple_lst]
theorem lot_spec {c : Ce} {n : Nat} {lot : List Nat} (h1 : 1 ≤ n) (hn : n ≤ 12) (hd : lot.Nodup) (hr : ∀ p ∈ lot, p < n) (hl : lot.length ≤ 100) : Q_flot_of [.int n, .lst (nL lot)] c = .ok (.fz (.tup (iL (sortI (casts lot))))) c := by
  rw [q_flot_of]
  simp! only [b_flot_of, s0_flot_of, s1_flot_of, size_spec h1 hn, sorted_spec hn hd hr hl]
theorem pair_spec {c : Ce} {n : Nat} {t : Nat × Nat} (h : InR n t) : Q_fis_pair [.int n, .tup [.int t.1, .int t.2]] c = .ok (.fz (.bl true)) c := by
  rw [q_fis_pair]
  obtain ⟨h1, h2⟩ := h
  have a1 : (0 : Int) ≤ (t.1 : Int) := by omega
  have a2 : (0 : Int) ≤ (t.2 : Int) := by omega
  have a3 : (t.1 : Int) < (n : Int) := by omega
  have a4 : (t.2 : Int) < (n : Int) := by omega
  have e : dloop (c1_fis_pair [(some (DV.fz (D.int ((n : Int))))), (some (DV.fz (.tup [.int t.1, .int t.2]))), none]) [.int t.1, .int t.2] c = .ok [.bl true, .bl true] c := by
    have q1 : c1_fis_pair [(some (DV.fz (D.int ((n : Int))))), (some (DV.fz (.tup [.int t.1, .int t.2]))), none] (.int t.1) c = .ok (some (.bl true)) c := by
      simp! only [c1_fis_pair, sTn, gP, bindP, bindPs, tupV, cT1, wipeD, number_int, a1, a3]
    have q2 : c1_fis_pair [(some (DV.fz (D.int ((n : Int))))), (some (DV.fz (.tup [.int t.1, .int t.2]))), none] (.int t.2) c = .ok (some (.bl true)) c := by
      simp! only [c1_fis_pair, sTn, gP, bindP, bindPs, tupV, cT1, wipeD, number_int, a2, a4]
    exact dloop_map (g := fun i : Int => D.int i) (h := fun _ => .bl true) [(t.1 : Int), (t.2 : Int)] fun i hi => by
      rcases List.mem_cons.mp hi with rfl | hi
      · exact q1
      · rw [List.mem_singleton] at hi; subst hi; exact q2
  have e2 : bAll [.lst [.bl true, .bl true]] = dret (.fz (.bl true)) := bAll_bls [true, true]
  have a5 : ((2 : Nat) : Int) = 2 := rfl
  simp! only [b_fis_pair, s0_fis_pair, s1_fis_pair, k_fis_pair_list, k_fis_pair_tuple, isi_int_non, isi_int_bl, isi_int_int, isi_int_str, isi_int_lst, isi_int_tup, isi_bool_non, isi_bool_bl, isi_bool_int, isi_bool_str, isi_bool_lst, isi_bool_tup, isi_list_non, isi_list_bl, isi_list_int, isi_list_str, isi_list_lst, isi_list_tup, isi_tuple_non, isi_tuple_bl, isi_tuple_int, isi_tuple_str, isi_tuple_lst, isi_tuple_tup, Bool.or_false, Bool.or_true, Bool.false_or, items?, bLen_tup, a5, e, e2]
end DLaw

set_option maxHeartbeats 4000000
/-! K20D: the steps that are left, the greatest row. -/
namespace DLaw
open PySem DL
local macro_rules
  | `(tactic| simp! only [$ts,*]) => `(tactic| simp -implicitDefEqProofs only [sL_cons, sL_nil, kS_nx, kS_ret, kS_err, sNx_ap, sAs_ap, kB_ok, kB_err, backE_self, kA_ok, kA_err, sIf_ap, kI_ok, kI_err, sFo_ap, kF_ok, sTu_ap, kU, sAp_ap, sSu_ap, kJ_ok, sAt_ap, sAu_ap, sR0_ap, sRe_ap, retR_fz, retR_fr, sEx_ap, sret_ap, sRs_ap, kR, sTr_ap, kT_ok, kT_err, sRN, stF, stO, stC, appD, setD, mutD, insD, insS, augD, augS, fzE, fz1, xB, xK, xW, xN, xV, xBin, xNeg, xNot, xAnd, xOr, xCmp, xCmp2, xIf, xKs, xBs, xTup, xLst, xO, xSl, xRev, revD_lst, xIx, xFld, xFldN, isI, slfD, xBlt, xMt, xRg1, xRg2, rgR_l, rgR_t, xCal, xIsi, xIsi2, tNot, tAnd, tOr, tCmp, tCmp2, tTru, tYes, iR1, iR2, iEn, zipO, iZip, iPl, xC1, xC2, noErr_ap, kN_ok, dbind_dret, dbind_wrong, dbind_ap, dret_ap, dwrong_ap, kD_ok, kD_err, bOf_fz, bOf_fr, bOf_bo, kOf_fz, kOf_fr, intD_int, blD_bl, dget_some, dbl_some, dgetZ_some, dlist_nil, dlist_cons, outD_ret, outD_nx, outD_err, outI_ok', outI_err, add_int, sub_int, mul_int, div_int, mod_int, pow_int, add_lst, lt_int, le_int, gt_int, ge_int, eq_int, ne_int, ix_lst, ix_tup, ix_scr, ix_cel, dcel_ap, dtru, truD, lenOk_sm, List.length_cons, List.length_nil, Nat.reduceAdd, Nat.reduceLeDiff, Nat.reduceLT, List.getElem?_cons_zero, List.getElem?_cons_succ, List.set_cons_zero, List.set_cons_succ, if_true, if_false, ite_true, ite_false, decide_true, decide_false, Bool.false_eq_true, Bool.not_true, Bool.not_false, Bool.true_and, Bool.false_and, Bool.and_true, Bool.and_false, decide_eq_true_eq, not_false_eq_true, not_true_eq_false, dif_t, $ts,*])
open Flow (Stp Way)
/-- a net of a class -/
def NetC (tw : Bool) (n : Nat) (ts : List (Nat × Nat)) : D := .obj (if tw = true then "Twoway" else "Oneway") ["size", "ties"] [.int n, .tup (pL ts)]
def tF (ts : List (Nat × Nat)) (k : Nat) : Nat × Nat := ts.getD k (0, 0)
def rF (f : List Int) (k : Nat) : Int := f.getD k 0
def backK (tw : Bool) (ws f : List Int) (k : Nat) : Int := if tw = true then rF f k + rF ws k else rF f k
/-- the steps that a row leaves at a tie -/
def stepK (tw : Bool) (ts : List (Nat × Nat)) (ws f : List Int) (k : Nat) : List Stp :=
  if (tF ts k).1 = (tF ts k).2 then [] else
    (if rF f k < rF ws k then [⟨(tF ts k).1, (tF ts k).2, k, 1, rF ws k - rF f k⟩] else []) ++
    (if 0 < backK tw ws f k then [⟨(tF ts k).2, (tF ts k).1, k, -1, backK tw ws f k⟩] else [])
theorem backK_eq (tw : Bool) (ws f : List Int) (k : Nat) : backK tw ws f k = rF f k - Flow.lowK (rF ws) tw k := by
  unfold backK Flow.lowK
  cases tw <;> simp
def stepsF (tw : Bool) (ts : List (Nat × Nat)) (ws f : List Int) : List Stp := (List.range ts.length).flatMap (stepK tw ts ws f)
theorem steps_is {tw : Bool} {ts : List (Nat × Nat)} {ws f : List Int} {s : Stp} : s ∈ stepsF tw ts ws f ↔ Flow.IsS ts.length (tF ts) (rF ws) tw (rF f) s := by
  unfold stepsF Flow.IsS
  rw [List.mem_flatMap]
  constructor
  · rintro ⟨k, hk, h⟩
    rw [List.mem_range] at hk
    unfold stepK at h
    rw [backK_eq] at h
    by_cases e : (tF ts k).1 = (tF ts k).2
    · rw [if_pos e] at h; simp at h
    · rw [if_neg e] at h
      rcases List.mem_append.mp h with h | h
      · by_cases q : rF f k < rF ws k
        · rw [if_pos q, List.mem_singleton] at h
          subst h
          exact ⟨hk, e, .inl ⟨rfl, rfl⟩, by simp [Flow.amK], by show 0 < rF ws k - rF f k; omega⟩
        · rw [if_neg q] at h; simp at h
      · by_cases q : 0 < rF f k - Flow.lowK (rF ws) tw k
        · rw [if_pos q, List.mem_singleton] at h
          subst h
          exact ⟨hk, fun z => e z.symm, .inr ⟨rfl, rfl⟩, by simp [Flow.amK], q⟩
        · rw [if_neg q] at h; simp at h
  · rintro ⟨hk, hne, hd, ham, hp⟩
    refine ⟨s.k, List.mem_range.mpr hk, ?_⟩
    obtain ⟨a, b, k, sg, am⟩ := s
    dsimp only at *
    unfold stepK
    rw [backK_eq]
    rcases hd with ⟨e1, e2⟩ | ⟨e1, e2⟩
    · subst e1
      unfold Flow.amK at ham
      rw [if_pos rfl] at ham
      rw [e2, if_neg hne]
      refine List.mem_append_left _ ?_
      rw [if_pos (by omega), ham]
      exact List.mem_singleton.mpr rfl
    · subst e1
      unfold Flow.amK at ham
      rw [if_neg (by omega)] at ham
      rw [e2, if_neg fun z => hne z.symm]
      refine List.mem_append_right _ ?_
      rw [if_pos (by omega), ham]
      exact List.mem_singleton.mpr rfl
theorem stL_app (a b : List Stp) : stL (a ++ b) = stL a ++ stL b := by simp [stL]
def z2_left : XS' := (sIf [] (tCmp .Lt (xIx (xV 2) (xV 5)) (xIx (xV 1) (xV 5))) (sL [(sAp [6, 7, 5] 3 (xTup [(xV 6), (xV 7), (xV 5), (xN (.int 1)), (xBin .Sub (xIx (xV 1) (xV 5)) (xIx (xV 2) (xV 5)))]))]) (sL []))
def z3_left : XS' := (sIf [] (tCmp .Gt (xV 8) (xN (.int 0))) (sL [(sAp [7, 6, 5, 8] 3 (xTup [(xV 7), (xV 6), (xV 5), (xNeg (xN (.int 1))), (xV 8)]))]) (sL []))
theorem stL_one (s : Stp) : stL [s] = [stD s] := rfl
theorem eq_tw : cmpD .Eq (.str "twoway") (.str "twoway") = dret (.bl true) := by kernel_rfl
theorem eq_ow : cmpD .Eq (.str "oneway") (.str "twoway") = dret (.bl false) := by kernel_rfl
theorem atI_rF {f : List Int} {k : Nat} (h : k < f.length) : L2.atI (iL f) (k : Int) = some (.int (rF f k)) := by
  rw [atI_cast, iL_get, rF, List.getD_eq_getElem?_getD, List.getElem?_eq_getElem h]; rfl
theorem left_specA {c : Ce} {tw : Bool} {n : Nat} {ts : List (Nat × Nat)} {ws f : List Int} {Ad : D} (hAd : ∀ k, k < ts.length → ixD Ad (.int (k : Int)) = dret (.fz (.int (rF f k)))) (hw : ws.length = ts.length) (hf : f.length = ts.length) (hl : ts.length ≤ 100) :
    Q_fleft_steps [NetC tw n ts, .tup (iL ws), Ad] c = .ok (.fr (stL (stepsF tw ts ws f))) c := by
  rw [q_fleft_steps]
  have f2 : g_fleft_steps_ties (NetC tw n ts) = dret (.fz (.tup (pL ts))) := by cases tw <;> kernel_rfl
  have t1 : s1_fleft_steps [(some (DV.fz (NetC tw n ts))), (some (DV.fz (.tup (iL ws)))), (some (DV.fz (Ad))), (some (DV.own ([]))), none, none, none, none, none] c = .ok .nx [(some (DV.fz (NetC tw n ts))), (some (DV.fz (.tup (iL ws)))), (some (DV.fz (Ad))), (some (DV.own ([]))), (some (DV.fz (.bl tw))), none, none, none, none] c := by
    cases tw with
    | true =>
      have f1 : g_fleft_steps_KIND (NetC true n ts) = dret (.fz (.str "twoway")) := by kernel_rfl
      simp! only [s1_fleft_steps, f1, eq_tw]
    | false =>
      have f1 : g_fleft_steps_KIND (NetC false n ts) = dret (.fz (.str "oneway")) := by kernel_rfl
      simp! only [s1_fleft_steps, f1, eq_ow]
  have hst : ∀ k, ((List.range k).flatMap (stepK tw ts ws f)).length ≤ 2 * k := by
    intro k
    induction k with
    | zero => simp
    | succ k ih =>
      rw [List.range_succ, List.flatMap_append, List.length_append]
      have : (stepK tw ts ws f k).length ≤ 2 := by
        unfold stepK
        split
        · simp
        · rw [List.length_append]; split <;> split <;> simp
      simp -implicitDefEqProofs only [List.flatMap_cons, List.flatMap_nil, List.append_nil]
      omega
  obtain ⟨E', c', e, x5, x6, x7, x8, rfl, rfl⟩ := sfor_inv (f := sTn (gP (.tp [.sl 5, .tp [.sl 6, .sl 7]])) y1_fleft_steps) (P := fun k E c' => ∃ x5 x6 x7 x8, E = [(some (DV.fz (NetC tw n ts))), (some (DV.fz (.tup (iL ws)))), (some (DV.fz (Ad))), (some (DV.own (stL ((List.range k).flatMap (stepK tw ts ws f))))), (some (DV.fz (.bl tw))), x5, x6, x7, x8] ∧ c' = c)
    (enumD (pL ts)) 0 [(some (DV.fz (NetC tw n ts))), (some (DV.fz (.tup (iL ws)))), (some (DV.fz (Ad))), (some (DV.own ([]))), (some (DV.fz (.bl tw))), none, none, none, none] c ⟨none, none, none, none, rfl, rfl⟩ fun k hk E c' hP => by
      obtain ⟨x5, x6, x7, x8, rfl, rfl⟩ := hP
      rw [Nat.zero_add] at *
      rw [enumD_get hk]
      rw [enumD_len] at hk
      rw [pL_getE hk]
      rw [pL_len] at hk
      have ht : ts[k] = tF ts k := by unfold tF; rw [List.getD_eq_getElem?_getD, List.getElem?_eq_getElem hk]; rfl
      rw [ht]
      have a1 := atI_rF (f := ws) (k := k) (by omega)
      have a2 := hAd k hk
      have hk2 := hst k
      generalize hpre : (List.range k).flatMap (stepK tw ts ws f) = pre at hk2
      have hlen : (stL pre).length < 16777216 := by simp [stL]; omega
      have hnx : (List.range (k + 1)).flatMap (stepK tw ts ws f) = pre ++ stepK tw ts ws f k := by
        rw [List.range_succ, List.flatMap_append, hpre]; simp
      rw [hnx]
      unfold stepK
      by_cases he : (tF ts k).1 = (tF ts k).2
      · have he' := eq_true (show ((tF ts k).1 : Int) = ((tF ts k).2 : Int) by omega)
        rw [if_pos he, List.append_nil]
        refine ⟨[(some (DV.fz (NetC tw n ts))), (some (DV.fz (.tup (iL ws)))), (some (DV.fz (Ad))), (some (DV.own (stL pre))), (some (DV.fz (.bl tw))), (some (DV.fz (D.int ((k : Int))))), (some (DV.fz (D.int (((tF ts k).1 : Int))))), (some (DV.fz (D.int (((tF ts k).2 : Int))))), x8], c', ?_, _, _, _, _, rfl, rfl⟩
        simp! only [y1_fleft_steps, sTn, gP, bindP, bindPs, tupV, cT1, wipeD, he']
      · have he' : ¬ ((tF ts k).1 : Int) = ((tF ts k).2 : Int) := by omega
        rw [if_neg he]
        refine ⟨[(some (DV.fz (NetC tw n ts))), (some (DV.fz (.tup (iL ws)))), (some (DV.fz (Ad))), (some (DV.own (stL (pre ++ ((if rF f k < rF ws k then [⟨(tF ts k).1, (tF ts k).2, k, 1, rF ws k - rF f k⟩] else []) ++ (if 0 < backK tw ws f k then [⟨(tF ts k).2, (tF ts k).1, k, -1, backK tw ws f k⟩] else [])))))), (some (DV.fz (.bl tw))), (some (DV.fz (D.int ((k : Int))))), (some (DV.fz (D.int (((tF ts k).1 : Int))))), (some (DV.fz (D.int (((tF ts k).2 : Int))))), (some (DV.fz (D.int (backK tw ws f k))))], c', ?_, _, _, _, _, rfl, rfl⟩
        have hb : ∀ E : EnvD, E = [(some (DV.fz (NetC tw n ts))), (some (DV.fz (.tup (iL ws)))), (some (DV.fz (Ad))), (some (DV.own (stL pre))), (some (DV.fz (.bl tw))), (some (DV.fz (D.int ((k : Int))))), (some (DV.fz (D.int (((tF ts k).1 : Int))))), (some (DV.fz (D.int (((tF ts k).2 : Int))))), x8] → xIf (tTru (xV 4)) (xBin .Add (xIx (xV 2) (xV 5)) (xIx (xV 1) (xV 5))) (xIx (xV 2) (xV 5)) E c' = .ok (.fz (.int (backK tw ws f k))) c' := by
          rintro E rfl
          unfold backK
          cases tw with
          | true => simp! only [a1, a2]
          | false => simp! only [a1, a2]
        have hb := hb _ rfl
        have hz : z1_fleft_steps = sL [sAs [] (stF 8) (xIf (tTru (xV 4)) (xBin .Add (xIx (xV 2) (xV 5)) (xIx (xV 1) (xV 5))) (xIx (xV 2) (xV 5))), z2_left, z3_left] := rfl
        have q1 : sAs [] (stF 8) (xIf (tTru (xV 4)) (xBin .Add (xIx (xV 2) (xV 5)) (xIx (xV 1) (xV 5))) (xIx (xV 2) (xV 5))) [(some (DV.fz (NetC tw n ts))), (some (DV.fz (.tup (iL ws)))), (some (DV.fz (Ad))), (some (DV.own (stL pre))), (some (DV.fz (.bl tw))), (some (DV.fz (D.int ((k : Int))))), (some (DV.fz (D.int (((tF ts k).1 : Int))))), (some (DV.fz (D.int (((tF ts k).2 : Int))))), x8] c' = .ok .nx [(some (DV.fz (NetC tw n ts))), (some (DV.fz (.tup (iL ws)))), (some (DV.fz (Ad))), (some (DV.own (stL pre))), (some (DV.fz (.bl tw))), (some (DV.fz (D.int ((k : Int))))), (some (DV.fz (D.int (((tF ts k).1 : Int))))), (some (DV.fz (D.int (((tF ts k).2 : Int))))), (some (DV.fz (D.int (backK tw ws f k))))] c' := by
          rw [sAs_ap]
          show kB (stF 8) _ _ (xIf _ _ _ [(some (DV.fz (NetC tw n ts))), (some (DV.fz (.tup (iL ws)))), (some (DV.fz (Ad))), (some (DV.own (stL pre))), (some (DV.fz (.bl tw))), (some (DV.fz (D.int ((k : Int))))), (some (DV.fz (D.int (((tF ts k).1 : Int))))), (some (DV.fz (D.int (((tF ts k).2 : Int))))), x8] c') = _
          rw [hb, kB_ok]
          simp! only []
        have hy : sTn (gP (.tp [.sl 5, .tp [.sl 6, .sl 7]])) y1_fleft_steps (.tup [.int (k : Int), .tup [.int ((tF ts k).1 : Int), .int ((tF ts k).2 : Int)]]) [(some (DV.fz (NetC tw n ts))), (some (DV.fz (.tup (iL ws)))), (some (DV.fz (Ad))), (some (DV.own (stL pre))), (some (DV.fz (.bl tw))), x5, x6, x7, x8] c' =
            sL [z1_fleft_steps] [(some (DV.fz (NetC tw n ts))), (some (DV.fz (.tup (iL ws)))), (some (DV.fz (Ad))), (some (DV.own (stL pre))), (some (DV.fz (.bl tw))), (some (DV.fz (D.int ((k : Int))))), (some (DV.fz (D.int (((tF ts k).1 : Int))))), (some (DV.fz (D.int (((tF ts k).2 : Int))))), x8] c' := by
          simp! only [y1_fleft_steps, sTn, gP, bindP, bindPs, tupV, cT1, wipeD, he']
        rw [hy, sL_cons, hz, sL_cons, q1, kS_nx]
        have hlen1 : (stL pre).length + 1 < 16777216 := by simp [stL]; omega
        by_cases g1 : rF f k < rF ws k <;> by_cases g2 : 0 < backK tw ws f k
        · rw [if_pos g1, if_pos g2, ← List.append_assoc, stL_app, stL_app]
          have g1 := eq_true g1
          have g2 := eq_true g2
          simp! only [z2_left, z3_left, a1, a2, g1, g2, hlen, List.length_append, hlen1, stL_one, stD]
        · rw [if_pos g1, if_neg g2, List.append_nil, stL_app]
          have g1 := eq_true g1
          simp! only [z2_left, z3_left, a1, a2, g1, g2, hlen, stL_one, stD]
        · rw [if_neg g1, if_pos g2, List.nil_append, stL_app]
          have g2 := eq_true g2
          simp! only [z2_left, z3_left, a1, a2, g1, g2, hlen, stL_one, stD]
        · rw [if_neg g1, if_neg g2, List.append_nil, List.append_nil]
          simp! only [z2_left, z3_left, a1, a2, g1, g2]
  rw [Nat.zero_add, enumD_len, pL_len] at e
  unfold b_fleft_steps
  have t0 : s0_fleft_steps [(some (DV.fz (NetC tw n ts))), (some (DV.fz (.tup (iL ws)))), (some (DV.fz (Ad))), none, none, none, none, none, none] c' = .ok .nx [(some (DV.fz (NetC tw n ts))), (some (DV.fz (.tup (iL ws)))), (some (DV.fz (Ad))), (some (DV.own ([]))), none, none, none, none, none] c' := by
    simp! only [s0_fleft_steps]
  rw [sL_cons, t0, kS_nx, sL_cons, t1, kS_nx]
  simp! only [s2_fleft_steps, s3_fleft_steps, f2, items?, e]
  rfl
theorem left_spec {c : Ce} {tw : Bool} {n : Nat} {ts : List (Nat × Nat)} {ws f : List Int} (hw : ws.length = ts.length) (hf : f.length = ts.length) (hl : ts.length ≤ 100) :
    Q_fleft_steps [NetC tw n ts, .tup (iL ws), .lst (iL f)] c = .ok (.fr (stL (stepsF tw ts ws f))) c := left_specA (fun k hk => by rw [ix_lst, atI_rF (by omega)]; rfl) hw hf hl
theorem left_specT {c : Ce} {tw : Bool} {n : Nat} {ts : List (Nat × Nat)} {ws f : List Int} (hw : ws.length = ts.length) (hf : f.length = ts.length) (hl : ts.length ≤ 100) :
    Q_fleft_steps [NetC tw n ts, .tup (iL ws), .tup (iL f)] c = .ok (.fr (stL (stepsF tw ts ws f))) c := left_specA (fun k hk => by rw [ix_tup, atI_rF (by omega)]; rfl) hw hf hl
end DLaw

set_option maxHeartbeats 4000000
/-! K20E: the greatest row. -/
namespace DLaw
open PySem DL
open Flow (Stp Way)
/-- a side that has the starts and misses the goals -/
def Fit (st go : List Nat) (X : Nat → Bool) : Prop := (∀ x ∈ st, X x = true) ∧ ∀ x ∈ go, X x = false
theorem rF_set {f : List Int} {k : Nat} {d : Int} (h : k < f.length) : rF (f.set k (rF f k + d)) = Flow.updF (rF f) k d := by
  funext j
  unfold Flow.updF
  show (f.set k (rF f k + d)).getD j 0 = if j = k then f.getD j 0 + d else f.getD j 0
  by_cases q : j = k
  · subst q
    rw [if_pos rfl, List.getD_eq_getElem?_getD, List.getElem?_set_self h]
    rfl
  · rw [if_neg q, List.getD_eq_getElem?_getD, List.getD_eq_getElem?_getD, List.getElem?_set_ne fun e => q e.symm]
theorem along_snoc {b : Int} {s : Stp} : ∀ {xs : List Stp} {f : Nat → Int}, Flow.along b (xs ++ [s]) f = Flow.updF (Flow.along b xs f) s.k (b * s.sg)
  | [], f => rfl
  | x :: xs, f => along_snoc (xs := xs)
theorem take_snocS {α : Type} {xs : List α} {k : Nat} (h : k < xs.length) : xs.take (k + 1) = xs.take k ++ [xs[k]] := by
  rw [List.take_succ, List.getElem?_eq_getElem h]; rfl
theorem min_le : ∀ (r : List Int) (i : Int), r.foldl min i ≤ i ∧ (∀ x ∈ r, r.foldl min i ≤ x) ∧ (r.foldl min i = i ∨ r.foldl min i ∈ r)
  | [], i => ⟨Int.le_refl _, nofun, .inl rfl⟩
  | x :: r, i => by
    obtain ⟨h1, h2, h3⟩ := min_le r (min i x)
    rw [List.foldl_cons]
    refine ⟨by omega, fun y hy => ?_, ?_⟩
    · rcases List.mem_cons.mp hy with rfl | hy
      · omega
      · exact h2 y hy
    · rcases h3 with h3 | h3
      · rw [h3]
        by_cases q : i ≤ x
        · exact .inl (by omega)
        · exact .inr (by rw [show min i x = x by omega]; exact List.mem_cons_self)
      · exact .inr (List.mem_cons_of_mem _ h3)
theorem min_spec {is : List Int} (h : is ≠ []) : ∃ i, bMin [.lst (iL is)] = dret (.fz (.int i)) ∧ i ∈ is ∧ ∀ x ∈ is, i ≤ x := by
  cases is with
  | nil => exact absurd rfl h
  | cons i r =>
    obtain ⟨h1, h2, h3⟩ := min_le r i
    refine ⟨r.foldl min i, ?_, ?_, fun x hx => ?_⟩
    · show dbind (dget (ints? (iL (i :: r)))) _ = _
      rw [show ints? (iL (i :: r)) = some (i :: r) from ints_map _]
      rfl
    · rcases h3 with h3 | h3
      · rw [h3]; exact List.mem_cons_self
      · exact List.mem_cons_of_mem _ h3
    · rcases List.mem_cons.mp hx with rfl | hx
      · exact h1
      · exact h2 x hx
theorem down_k {m : Nat} {t : Nat → Nat × Nat} {q : List Nat} {W : List Stp} (h : Down q W) (hf : ∀ s ∈ W, Flow.Fits m t s) : W.Pairwise fun s u => s.k ≠ u.k := by
  refine List.Pairwise.imp_of_mem (fun {s u} hs hu hp e => ?_) h.2
  have h1 := h.1 s hs
  have h2 := h.1 u hu
  obtain ⟨_, d1⟩ := hf s hs
  obtain ⟨_, d2⟩ := hf u hu
  have key : (s.a = u.a ∧ s.b = u.b) ∨ (s.a = u.b ∧ s.b = u.a) := by
    rcases d1 with ⟨_, e1⟩ | ⟨_, e1⟩ <;> rcases d2 with ⟨_, e2⟩ | ⟨_, e2⟩ <;> rw [e, e2, Prod.mk.injEq] at e1 <;> omega
  rcases key with ⟨_, e2⟩ | ⟨e1, e2⟩
  · rw [← e2] at hp; omega
  · rw [e2] at h1; omega
/-- what the greatest row is -/
structure Great (tw : Bool) (n : Nat) (ts : List (Nat × Nat)) (ws : List Int) (st go : List Nat) (f : List Int) : Prop where
  len : f.length = ts.length
  val : Flow.Valid ts.length (rF ws) tw (rF f)
  same : ∃ v : Int, 0 ≤ v ∧ ∀ X, Fit st go X → Flow.outF ts.length (tF ts) (rF f) X = v
  more : ∀ X : Nat → Bool, (∀ x ∈ go, X x = false) → 0 ≤ Flow.outF ts.length (tF ts) (rF f) X
def Closed (tw : Bool) (n : Nat) (ts : List (Nat × Nat)) (ws : List Int) (st go : List Nat) (f : List Int) : Prop :=
  ∃ q : List Nat, (∀ x ∈ st, x ∈ q) ∧ (∀ x ∈ q, x ∉ go ∧ x < n) ∧ ∀ s, Flow.IsS ts.length (tF ts) (rF ws) tw (rF f) s → s.a ∈ q → s.b ∈ q
def unI : D → Int
  | .int i => i
  | _ => 0
theorem unI_iL (f : List Int) : (iL f).map unI = f := by
  rw [iL, List.map_map]
  calc f.map (unI ∘ D.int) = f.map id := List.map_congr_left fun _ _ => rfl
    _ = f := List.map_id f
/-- a gate's worth, sums too -/
def InV (w : Int) : Prop := 0 ≤ w ∧ w ≤ 10 ^ 30
theorem costF_le {ts : List (Nat × Nat)} {ws : List Int} {tw : Bool} {X : Nat → Bool} (hw : ∀ w ∈ ws, InV w) : ∀ m : Nat, m ≤ 100 → Flow.sumK (Flow.costK (tF ts) (rF ws) tw X) m ≤ (m : Int) * (10 ^ 30)
  | 0, _ => by simp [Flow.sumK]
  | m + 1, h => by
    have ih := costF_le hw (ts := ts) (tw := tw) (X := X) m (by omega)
    have h1 : Flow.costK (tF ts) (rF ws) tw X m ≤ 10 ^ 30 ∧ 0 ≤ (10 : Int) ^ 29 := by
      have hr : 0 ≤ rF ws m ∧ rF ws m ≤ 10 ^ 30 := by
        unfold rF
        rw [List.getD_eq_getElem?_getD]
        cases e : ws[m]? with
        | none => exact ⟨Int.le_refl _, by decide⟩
        | some x => exact hw x (List.mem_of_getElem? e)
      unfold Flow.costK
      refine ⟨?_, by decide⟩
      split
      · exact hr.2
      · split
        · exact hr.2
        · decide
    show Flow.sumK _ m + Flow.costK _ _ _ _ m ≤ _
    rw [Int.natCast_add, Int.add_mul]
    omega
end DLaw

set_option maxHeartbeats 4000000
/-! K20G: the greatest row is found. -/
namespace DLaw
open PySem DL
local macro_rules
  | `(tactic| simp! only [$ts,*]) => `(tactic| simp -implicitDefEqProofs only [sL_cons, sL_nil, kS_nx, kS_ret, kS_err, sNx_ap, sAs_ap, kB_ok, kB_err, backE_self, kA_ok, kA_err, sIf_ap, kI_ok, kI_err, sFo_ap, kF_ok, sTu_ap, kU, sAp_ap, sSu_ap, kJ_ok, sAt_ap, sAu_ap, sR0_ap, sRe_ap, retR_fz, retR_fr, sEx_ap, sret_ap, sRs_ap, kR, sTr_ap, kT_ok, kT_err, sRN, stF, stO, stC, appD, setD, mutD, insD, insS, augD, augS, fzE, fz1, xB, xK, xW, xN, xV, xBin, xNeg, xNot, xAnd, xOr, xCmp, xCmp2, xIf, xKs, xBs, xTup, xLst, xO, xSl, xRev, revD_lst, xIx, xFld, xFldN, isI, slfD, xBlt, xMt, xRg1, xRg2, rgR_l, rgR_t, xCal, xIsi, xIsi2, tNot, tAnd, tOr, tCmp, tCmp2, tTru, tYes, iR1, iR2, iEn, zipO, iZip, iPl, xC1, xC2, noErr_ap, kN_ok, dbind_dret, dbind_wrong, dbind_ap, dret_ap, dwrong_ap, kD_ok, kD_err, bOf_fz, bOf_fr, bOf_bo, kOf_fz, kOf_fr, intD_int, blD_bl, dget_some, dbl_some, dgetZ_some, dlist_nil, dlist_cons, outD_ret, outD_nx, outD_err, outI_ok', outI_err, add_int, sub_int, mul_int, div_int, mod_int, pow_int, add_lst, lt_int, le_int, gt_int, ge_int, eq_int, ne_int, ix_lst, ix_tup, ix_scr, ix_cel, dcel_ap, dtru, truD, lenOk_sm, List.length_cons, List.length_nil, Nat.reduceAdd, Nat.reduceLeDiff, Nat.reduceLT, List.getElem?_cons_zero, List.getElem?_cons_succ, List.set_cons_zero, List.set_cons_succ, if_true, if_false, ite_true, ite_false, decide_true, decide_false, Bool.false_eq_true, Bool.not_true, Bool.not_false, Bool.true_and, Bool.false_and, Bool.and_true, Bool.and_false, decide_eq_true_eq, not_false_eq_true, not_true_eq_false, dif_t, $ts,*])
open Flow (Stp Way)
theorem push_loop {c : Ce} {N A B G : D} {f : List Int} {W : List Stp} {by_ : Int} {x7 : Option DV} (hk : ∀ s ∈ W, s.k < f.length) (hsg : ∀ s ∈ W, s.sg = 1 ∨ s.sg = -1) :
    ∃ (f' : List Int) (y7 : Option DV), sfor (sTn (gP (.sl 7)) y1_fgreatest_row) (stL W) [(some (DV.fz (N))), (some (DV.fz (A))), (some (DV.fz (B))), (some (DV.fz (G))), (some (DV.own (iL f))), (some (DV.fz (.lst (stL W)))), (some (DV.fz (D.int (by_)))), x7, none] c = .ok .nx [(some (DV.fz (N))), (some (DV.fz (A))), (some (DV.fz (B))), (some (DV.fz (G))), (some (DV.own (iL f'))), (some (DV.fz (.lst (stL W)))), (some (DV.fz (D.int (by_)))), y7, none] c ∧ f'.length = f.length ∧ rF f' = Flow.along by_ W (rF f) := by
  obtain ⟨E', c', e, f', y7, rfl, rfl, hl, ha⟩ := sfor_inv (f := sTn (gP (.sl 7)) y1_fgreatest_row)
    (P := fun j E c' => ∃ (f' : List Int) (y7 : Option DV), E = [(some (DV.fz (N))), (some (DV.fz (A))), (some (DV.fz (B))), (some (DV.fz (G))), (some (DV.own (iL f'))), (some (DV.fz (.lst (stL W)))), (some (DV.fz (D.int (by_)))), y7, none] ∧ c' = c ∧ f'.length = f.length ∧ rF f' = Flow.along by_ (W.take j) (rF f))
    (stL W) 0 [(some (DV.fz (N))), (some (DV.fz (A))), (some (DV.fz (B))), (some (DV.fz (G))), (some (DV.own (iL f))), (some (DV.fz (.lst (stL W)))), (some (DV.fz (D.int (by_)))), x7, none] c ⟨f, x7, rfl, rfl, rfl, by simp [Flow.along]⟩ fun j hj E c' hP => by
      obtain ⟨f', y7, rfl, rfl, hl, ha⟩ := hP
      rw [Nat.zero_add] at *
      have hj' : j < W.length := by simpa [stL] using hj
      have ex : (stL W)[j] = stD W[j] := by simp [stL]
      rw [ex]
      have hkj := hk _ (List.getElem_mem hj')
      have hsj := hsg _ (List.getElem_mem hj')
      have a1 := atI_rF (f := f') (k := W[j].k) (by omega)
      have hx : L2.ixN (iL f').length ((W[j].k : Nat) : Int) = some W[j].k := ixN_nn (by rw [iL_len]; omega)
      have m1 : mulOk by_ W[j].sg = true := mulOk_r (by omega) (by omega)
      refine ⟨[(some (DV.fz (N))), (some (DV.fz (A))), (some (DV.fz (B))), (some (DV.fz (G))), (some (DV.own (iL (f'.set W[j].k (rF f' W[j].k + by_ * W[j].sg))))), (some (DV.fz (.lst (stL W)))), (some (DV.fz (D.int (by_)))), (some (DV.fz (stD W[j]))), none], c', ?_, _, _, rfl, rfl, by rw [List.length_set]; exact hl, ?_⟩
      · have hset : iL (f'.set W[j].k (rF f' W[j].k + by_ * W[j].sg)) = (iL f').set W[j].k (.int (rF f' W[j].k + by_ * W[j].sg)) := by simp [iL, List.map_set]
        rw [hset]
        simp! only [y1_fgreatest_row, stD, sTn, gP, bindP, bindPs, tupV, cT1, wipeD, atI_two, atI_three, a1, m1, hx]
      · rw [rF_set (by omega), take_snocS hj', along_snoc, ha]
  rw [Nat.zero_add, List.take_of_length_le (by simp [stL])] at ha
  exact ⟨f', y7, e, hl, ha⟩
theorem great_push {tw : Bool} {n : Nat} {ts : List (Nat × Nat)} {ws : List Int} {st go : List Nat} {f f' : List Int} {W : List Stp} {q : List Nat} {a g : Nat} {by_ v : Int}
    (hm : ∀ X : Nat → Bool, (∀ x ∈ go, X x = false) → 0 ≤ Flow.outF ts.length (tF ts) (rF f) X) (hG : f.length = ts.length) (hV : Flow.Valid ts.length (rF ws) tw (rF f)) (hv : ∀ X, Fit st go X → Flow.outF ts.length (tF ts) (rF f) X = v)
    (ha : a ∈ st) (hg : g ∈ go) (hW : Way a g W) (hs : ∀ s ∈ W, s ∈ stepsF tw ts ws f) (hd : Down q W) (h1 : 0 < by_) (hb : ∀ s ∈ W, by_ ≤ s.am) (hl : f'.length = f.length) (hf : rF f' = Flow.along by_ W (rF f)) :
    f'.length = ts.length ∧ Flow.Valid ts.length (rF ws) tw (rF f') ∧ (∀ X, Fit st go X → Flow.outF ts.length (tF ts) (rF f') X = v + by_) ∧ ∀ X : Nat → Bool, (∀ x ∈ go, X x = false) → 0 ≤ Flow.outF ts.length (tF ts) (rF f') X := by
  have hi : ∀ s ∈ W, Flow.IsS ts.length (tF ts) (rF ws) tw (rF f) s := fun s h => steps_is.mp (hs s h)
  have hfit : ∀ s ∈ W, Flow.Fits ts.length (tF ts) s := fun s h => ⟨(hi s h).1, (hi s h).2.2.1⟩
  refine ⟨by omega, ?_, fun X hX => ?_, fun X hX => ?_⟩
  · rw [hf]
    exact Flow.valid_along hV hi (down_k hd hfit) (by omega) hb
  · rw [hf, Flow.out_along hfit hW, hv X hX]
    unfold Flow.ind
    rw [hX.1 a ha, hX.2 g hg]
    simp
  · rw [hf, Flow.out_along hfit hW]
    have h0 := hm X hX
    unfold Flow.ind
    rw [hX g hg]
    cases X a <;> simp <;> omega
end DLaw

set_option maxHeartbeats 4000000
/-! K20I: the greatest row, found. -/
namespace DLaw
open PySem DL
local macro_rules
  | `(tactic| simp! only [$ts,*]) => `(tactic| simp -implicitDefEqProofs only [sL_cons, sL_nil, kS_nx, kS_ret, kS_err, sNx_ap, sAs_ap, kB_ok, kB_err, backE_self, kA_ok, kA_err, sIf_ap, kI_ok, kI_err, sFo_ap, kF_ok, sTu_ap, kU, sAp_ap, sSu_ap, kJ_ok, sAt_ap, sAu_ap, sR0_ap, sRe_ap, retR_fz, retR_fr, sEx_ap, sret_ap, sRs_ap, kR, sTr_ap, kT_ok, kT_err, sRN, stF, stO, stC, appD, setD, mutD, insD, insS, augD, augS, fzE, fz1, xB, xK, xW, xN, xV, xBin, xNeg, xNot, xAnd, xOr, xCmp, xCmp2, xIf, xKs, xBs, xTup, xLst, xO, xSl, xRev, revD_lst, xIx, xFld, xFldN, isI, slfD, xBlt, xMt, xRg1, xRg2, rgR_l, rgR_t, xCal, xIsi, xIsi2, tNot, tAnd, tOr, tCmp, tCmp2, tTru, tYes, iR1, iR2, iEn, zipO, iZip, iPl, xC1, xC2, noErr_ap, kN_ok, dbind_dret, dbind_wrong, dbind_ap, dret_ap, dwrong_ap, kD_ok, kD_err, bOf_fz, bOf_fr, bOf_bo, kOf_fz, kOf_fr, intD_int, blD_bl, dget_some, dbl_some, dgetZ_some, dlist_nil, dlist_cons, outD_ret, outD_nx, outD_err, outI_ok', outI_err, add_int, sub_int, mul_int, div_int, mod_int, pow_int, add_lst, lt_int, le_int, gt_int, ge_int, eq_int, ne_int, ix_lst, ix_tup, ix_scr, ix_cel, dcel_ap, dtru, truD, lenOk_sm, List.length_cons, List.length_nil, Nat.reduceAdd, Nat.reduceLeDiff, Nat.reduceLT, List.getElem?_cons_zero, List.getElem?_cons_succ, List.set_cons_zero, List.set_cons_succ, if_true, if_false, ite_true, ite_false, decide_true, decide_false, Bool.false_eq_true, Bool.not_true, Bool.not_false, Bool.true_and, Bool.false_and, Bool.and_true, Bool.and_false, decide_eq_true_eq, not_false_eq_true, not_true_eq_false, dif_t, $ts,*])
open Flow (Stp Way)
theorem iL_mapS {α : Type} (l : List α) (f : α → Int) : iL (l.map f) = l.map fun k => D.int (f k) := by
  rw [iL, List.map_map]; rfl
theorem isnot_lst (xs : List D) : cmpD .IsNot (.lst xs) .non = dret (.bl true) := rfl
theorem noLs_stL : ∀ W : List Stp, noLs (stL W) = true
  | [] => rfl
  | s :: W => by
    show (noL (stD s) && noLs (stL W)) = true
    rw [noLs_stL W]; rfl
/-- where a search leaves the greatest row's loop -/
def WaySt (tw : Bool) (n : Nat) (ts : List (Nat × Nat)) (ws : List Int) (st go : List Nat) (f : List Int) (x : Option DV) : Prop :=
  (x = (some (DV.fz (.non))) ∧ Closed tw n ts ws st go f) ∨ ∃ (W : List Stp) (q : List Nat) (a g : Nat), x = (some (DV.fz (.lst (stL W)))) ∧ a ∈ st ∧ g ∈ go ∧ Way a g W ∧ (∀ s ∈ W, s ∈ stepsF tw ts ws f) ∧ Down q W
theorem search_spec {c : Ce} {tw : Bool} {n : Nat} {ts : List (Nat × Nat)} {ws f : List Int} {st go : List Nat} (hn : n ≤ 100) (hr : ∀ t ∈ ts, InR n t) (hl : ts.length ≤ 100) (hd : st.Nodup) (hst : ∀ x ∈ st, x < n) :
    ∃ r, Q_fshortest_way [.int n, .lst (stL (stepsF tw ts ws f)), .tup (nL st), .tup (nL go)] c = .ok r c ∧ noLR r = true ∧ ((r = .fz .non ∧ Closed tw n ts ws st go f) ∨ ∃ (W : List Stp) (q : List Nat) (a g : Nat), r = .fr (stL W) ∧ a ∈ st ∧ g ∈ go ∧ Way a g W ∧ (∀ s ∈ W, s ∈ stepsF tw ts ws f) ∧ Down q W) := by
  have htr : ∀ k, k < ts.length → (tF ts k).1 < n ∧ (tF ts k).2 < n := fun k hk => by
    have e : tF ts k = ts[k] := by unfold tF; rw [List.getD_eq_getElem?_getD, List.getElem?_eq_getElem hk]; rfl
    rw [e]; exact hr _ (List.getElem_mem hk)
  have hs : ∀ s ∈ stepsF tw ts ws f, s.a < n ∧ s.b < n := fun s h => by
    obtain ⟨hk, _, hd, _⟩ := steps_is.mp h
    have := htr _ hk
    rcases hd with ⟨_, e⟩ | ⟨_, e⟩ <;> rw [e] at this <;> exact ⟨by omega, by omega⟩
  have hlen : (stepsF tw ts ws f).length ≤ 1000 := by
    have : ∀ k, ((List.range k).flatMap (stepK tw ts ws f)).length ≤ 2 * k := by
      intro k
      induction k with
      | zero => simp
      | succ k ih =>
        rw [List.range_succ, List.flatMap_append, List.length_append]
        have : (stepK tw ts ws f k).length ≤ 2 := by
          unfold stepK
          split
          · simp
          · rw [List.length_append]; split <;> split <;> simp
        simp -implicitDefEqProofs only [List.flatMap_cons, List.flatMap_nil, List.append_nil]
        omega
    have := this ts.length
    unfold stepsF
    omega
  rcases shortest_spec (c := c) (n := n) (ss := stepsF tw ts ws f) (st := st) (go := go) hn hs hlen hd hst with ⟨a, g, W, q, e, h1, h2, h3, h4, h5⟩ | ⟨q, e, h1, h2, h3⟩
  · exact ⟨_, e, noLs_stL W, .inr ⟨W, q, a, g, rfl, h1, h2, h3, h4, h5⟩⟩
  · exact ⟨_, e, rfl, .inl ⟨rfl, q, h1, h2, fun s hs => h3 s (steps_is.mpr hs)⟩⟩
theorem size_net {tw : Bool} {n : Nat} {ts : List (Nat × Nat)} : g_fgreatest_row_size (NetC tw n ts) = dret (.fz (.int n)) := by cases tw <;> kernel_rfl
section
variable {c : Ce} {tw : Bool} {n : Nat} {ts : List (Nat × Nat)} {ws : List Int} {st go : List Nat}
theorem way_step {f : List Int} {x5 x6 x7 : Option DV} (hn : n ≤ 100) (hr : ∀ t ∈ ts, InR n t) (hl : ts.length ≤ 100) (hd : st.Nodup) (hst : ∀ x ∈ st, x < n) (hw : ws.length = ts.length) (hf : f.length = ts.length) :
    ∃ y5, s1_fgreatest_row [(some (DV.fz (NetC tw n ts))), (some (DV.fz (.tup (iL ws)))), (some (DV.fz (.tup (nL st)))), (some (DV.fz (.tup (nL go)))), (some (DV.own (iL f))), x5, x6, x7, none] c = .ok .nx [(some (DV.fz (NetC tw n ts))), (some (DV.fz (.tup (iL ws)))), (some (DV.fz (.tup (nL st)))), (some (DV.fz (.tup (nL go)))), (some (DV.own (iL f))), y5, x6, x7, none] c ∧ WaySt tw n ts ws st go f y5 := by
  obtain ⟨r, e, hb, hres⟩ := search_spec (c := c) (tw := tw) (ws := ws) (f := f) (go := go) hn hr hl hd hst
  have hb' : ∀ E E1 : EnvD, backE E E1 r = E := fun E E1 => backE_pos hb E1
  have e1 := left_spec (c := c) (tw := tw) (n := n) (ts := ts) (ws := ws) (f := f) hw hf hl
  rcases hres with ⟨rfl, hc⟩ | ⟨W, q, a, g, rfl, h⟩
  · refine ⟨(some (DV.fz (.non))), ?_, .inl ⟨rfl, hc⟩⟩
    simp! only [s1_fgreatest_row, size_net, e1, e, hb']
  · refine ⟨(some (DV.fz (.lst (stL W)))), ?_, .inr ⟨W, q, a, g, rfl, h⟩⟩
    simp! only [s1_fgreatest_row, size_net, e1, e, hb']
theorem greatest_spec (hn : n ≤ 100) (hr : ∀ t ∈ ts, InR n t) (hl : ts.length ≤ 100) (hd : st.Nodup) (hst : ∀ x ∈ st, x < n) (hw : ws.length = ts.length) (hW : ∀ w ∈ ws, InV w) (hdis : ∀ x ∈ st, x ∉ go) :
    ∃ f : List Int, Q_fgreatest_row [NetC tw n ts, .tup (iL ws), .tup (nL st), .tup (nL go)] c = .ok (.fz (.tup (iL f))) c ∧ Great tw n ts ws st go f ∧ Closed tw n ts ws st go f := by
  rw [q_fgreatest_row]
  have hL0 : lenOk (iL ws).length = true := lenOk_of (by rw [iL_len]; omega)
  have e0 : dloop (c1_fgreatest_row [(some (DV.fz (NetC tw n ts))), (some (DV.fz (.tup (iL ws)))), (some (DV.fz (.tup (nL st)))), (some (DV.fz (.tup (nL go)))), none, none, none, none, none]) (iL ws) c = .ok (iL (ws.map fun _ => 0)) c := dloop_ints ws fun i _ => by
    simp! only [c1_fgreatest_row, sTn, gP, bindP, bindPs, tupV, cT1, wipeD]
  have hwr : ∀ k, 0 ≤ rF ws k := fun k => by
    unfold rF
    rw [List.getD_eq_getElem?_getD]
    cases e : ws[k]? with
    | none => exact Int.le_refl _
    | some x => exact (hW x (List.mem_of_getElem? e)).1
  have hz : ∀ k, rF (ws.map fun _ => (0 : Int)) k = 0 := fun k => by
    unfold rF
    rw [List.getD_eq_getElem?_getD, List.getElem?_map]
    cases ws[k]? <;> rfl
  have hfit0 : Fit st go fun v => decide (v ∈ st) := ⟨fun x h => decide_eq_true h, fun x h => decide_eq_false fun z => hdis x z h⟩
  have G0 : Great tw n ts ws st go (ws.map fun _ => 0) := by
    have all0 : ∀ X : Nat → Bool, Flow.outF ts.length (tF ts) (rF (ws.map fun _ => (0 : Int))) X = 0 := fun X => by
      unfold Flow.outF
      have : ∀ m : Nat, Flow.sumK (fun k => rF (ws.map fun _ => (0 : Int)) k * (Flow.ind X (tF ts k).1 - Flow.ind X (tF ts k).2)) m = 0 := by
        intro m
        induction m with
        | zero => rfl
        | succ m ih =>
          have h2 : rF (ws.map fun _ => (0 : Int)) m * (Flow.ind X (tF ts m).1 - Flow.ind X (tF ts m).2) = 0 := by rw [hz]; simp
          show Flow.sumK _ m + rF (ws.map fun _ => (0 : Int)) m * (Flow.ind X (tF ts m).1 - Flow.ind X (tF ts m).2) = 0
          rw [ih, h2]; rfl
      exact this _
    refine ⟨by rw [List.length_map]; exact hw, fun k _ => ?_, ⟨0, Int.le_refl _, fun X _ => all0 X⟩, fun X _ => by rw [all0 X]; exact Int.le_refl _⟩
    · rw [hz]
      have := hwr k
      unfold Flow.lowK
      cases tw <;> simp <;> omega
  have t0 : s0_fgreatest_row [(some (DV.fz (NetC tw n ts))), (some (DV.fz (.tup (iL ws)))), (some (DV.fz (.tup (nL st)))), (some (DV.fz (.tup (nL go)))), none, none, none, none, none] c = .ok .nx [(some (DV.fz (NetC tw n ts))), (some (DV.fz (.tup (iL ws)))), (some (DV.fz (.tup (nL st)))), (some (DV.fz (.tup (nL go)))), (some (DV.own (iL (ws.map fun _ => 0)))), none, none, none, none] c := by
    simp! only [s0_fgreatest_row, items?, hL0, e0]
  obtain ⟨y5, t1, hy5⟩ := way_step (c := c) (tw := tw) (ws := ws) (go := go) (f := ws.map fun _ => 0) (x5 := none) (x6 := none) (x7 := none) hn hr hl hd hst hw G0.len
  have hv1 : v1_fgreatest_row = sL [sAs [] (stF 6) (xBlt bMin [xC1 (iPl false (xV 5)) c2_fgreatest_row]), sFo [5] (gP (.sl 7)) (iPl true (xV 5)) y1_fgreatest_row, s1_fgreatest_row] := rfl
  let X0 : Nat → Bool := fun v => decide (v ∈ st)
  let C0 : Int := (ts.length : Int) * (10 ^ 30)
  have bound : ∀ f : List Int, Great tw n ts ws st go f → Flow.outF ts.length (tF ts) (rF f) X0 ≤ C0 := fun f G => Int.le_trans (Flow.weak G.val) (costF_le hW ts.length (by omega))
  have hw := sWh_rule (t := x1_fgreatest_row) (b := v1_fgreatest_row) (R := fun _ _ _ => False)
    (P := fun E c' => ∃ (f : List Int) (x5 x6 x7 : Option DV), E = [(some (DV.fz (NetC tw n ts))), (some (DV.fz (.tup (iL ws)))), (some (DV.fz (.tup (nL st)))), (some (DV.fz (.tup (nL go)))), (some (DV.own (iL f))), x5, x6, x7, none] ∧ c' = c ∧ Great tw n ts ws st go f ∧ WaySt tw n ts ws st go f x5)
    (Q := fun E c' => ∃ (f : List Int) (x5 x6 x7 : Option DV), E = [(some (DV.fz (NetC tw n ts))), (some (DV.fz (.tup (iL ws)))), (some (DV.fz (.tup (nL st)))), (some (DV.fz (.tup (nL go)))), (some (DV.own (iL f))), x5, x6, x7, none] ∧ c' = c ∧ Great tw n ts ws st go f ∧ Closed tw n ts ws st go f)
    (μ := fun (E : EnvD) (_ : Ce) => match E[4]? with
      | some (some (DV.own xs)) => (C0 + 1 - Flow.outF ts.length (tF ts) (rF (xs.map unI)) X0).toNat
      | _ => 0)
    (fun E c' hP => by
      obtain ⟨f, x5, x6, x7, rfl, rfl, G, hx⟩ := hP
      rcases hx with ⟨rfl, hc⟩ | ⟨W, q, a, g, rfl, h1, h2, h3, h4, h5⟩
      · left
        exact ⟨by simp! only [x1_fgreatest_row, isnot_none], f, _, _, _, rfl, rfl, G, hc⟩
      · right
        refine ⟨by simp! only [x1_fgreatest_row, isnot_lst], .inl ?_⟩
        have hne : W ≠ [] := fun e => by
          subst e
          have : a = g := h3
          subst this
          exact hdis a h1 h2
        obtain ⟨by_, eb, hbm, hbl⟩ := min_spec (is := W.map fun s => s.am) (by simpa using hne)
        have hbp : 0 < by_ := by
          obtain ⟨s, hs, rfl⟩ := List.mem_map.mp hbm
          exact (steps_is.mp (h4 s hs)).2.2.2.2
        have ec : dloop (c2_fgreatest_row [(some (DV.fz (NetC tw n ts))), (some (DV.fz (.tup (iL ws)))), (some (DV.fz (.tup (nL st)))), (some (DV.fz (.tup (nL go)))), (some (DV.own (iL f))), (some (DV.fz (.lst (stL W)))), x6, x7, none]) (stL W) c' = .ok (iL (W.map fun s => s.am)) c' := by
          rw [iL_mapS W]
          exact dloop_map (g := stD) W fun s _ => by
            simp! only [c2_fgreatest_row, stD, sTn, gP, bindP, bindPs, tupV, cT1, wipeD, atI_four]
        have hlW : lenOk (stL W).length = true := by
          have := h5.2
          have hk : W.length ≤ ts.length := by
            have hp := down_k h5 fun s hs => ⟨(steps_is.mp (h4 s hs)).1, (steps_is.mp (h4 s hs)).2.2.1⟩
            have := nodup_le ts.length (W.map fun s => s.k) (by rw [List.Nodup, List.pairwise_map]; exact hp) (fun x hx => by
              obtain ⟨s, hs, rfl⟩ := List.mem_map.mp hx
              exact (steps_is.mp (h4 s hs)).1)
            rw [List.length_map] at this; exact this
          exact lenOk_of (by simp [stL]; omega)
        obtain ⟨f', y7, ef, hl', hf'⟩ := push_loop (c := c') (N := NetC tw n ts) (A := .tup (iL ws)) (B := .tup (nL st)) (G := .tup (nL go)) (f := f) (W := W) (by_ := by_) (x7 := x7) (fun s hs => by rw [G.len]; exact (steps_is.mp (h4 s hs)).1) (fun s hs => by
          rcases (steps_is.mp (h4 s hs)).2.2.1 with ⟨z, _⟩ | ⟨z, _⟩
          · exact .inl z
          · exact .inr z)
        obtain ⟨v, hv0, hv⟩ := G.same
        obtain ⟨p1, p2, p3, p4⟩ := great_push (n := n) (W := W) (q := q) G.more G.len G.val hv h1 h2 h3 h4 h5 hbp (fun s hs => hbl _ (List.mem_map.mpr ⟨s, hs, rfl⟩)) hl' hf'
        have G' : Great tw n ts ws st go f' := ⟨p1, p2, ⟨v + by_, by omega, p3⟩, p4⟩
        obtain ⟨z5, tz, hz5⟩ := way_step (c := c') (tw := tw) (ws := ws) (go := go) (f := f') (x5 := (some (DV.fz (.lst (stL W))))) (x6 := (some (DV.fz (D.int (by_))))) (x7 := y7) hn hr hl hd hst hw p1
        refine ⟨[(some (DV.fz (NetC tw n ts))), (some (DV.fz (.tup (iL ws)))), (some (DV.fz (.tup (nL st)))), (some (DV.fz (.tup (nL go)))), (some (DV.own (iL f'))), z5, (some (DV.fz (D.int (by_)))), y7, none], c', ?_, ⟨f', _, _, _, rfl, rfl, G', hz5⟩, ?_⟩
        · have q1 : sAs [] (stF 6) (xBlt bMin [xC1 (iPl false (xV 5)) c2_fgreatest_row]) [(some (DV.fz (NetC tw n ts))), (some (DV.fz (.tup (iL ws)))), (some (DV.fz (.tup (nL st)))), (some (DV.fz (.tup (nL go)))), (some (DV.own (iL f))), (some (DV.fz (.lst (stL W)))), x6, x7, none] c' = .ok .nx [(some (DV.fz (NetC tw n ts))), (some (DV.fz (.tup (iL ws)))), (some (DV.fz (.tup (nL st)))), (some (DV.fz (.tup (nL go)))), (some (DV.own (iL f))), (some (DV.fz (.lst (stL W)))), (some (DV.fz (D.int (by_)))), x7, none] c' := by
            simp! only [items?, hlW, ec, eb]
          have q2 : sFo [5] (gP (.sl 7)) (iPl true (xV 5)) y1_fgreatest_row [(some (DV.fz (NetC tw n ts))), (some (DV.fz (.tup (iL ws)))), (some (DV.fz (.tup (nL st)))), (some (DV.fz (.tup (nL go)))), (some (DV.own (iL f))), (some (DV.fz (.lst (stL W)))), (some (DV.fz (D.int (by_)))), x7, none] c' = .ok .nx [(some (DV.fz (NetC tw n ts))), (some (DV.fz (.tup (iL ws)))), (some (DV.fz (.tup (nL st)))), (some (DV.fz (.tup (nL go)))), (some (DV.own (iL f'))), (some (DV.fz (.lst (stL W)))), (some (DV.fz (D.int (by_)))), y7, none] c' := by
            simp! only [items?, ef]
          rw [hv1, sL_cons, q1, kS_nx, sL_cons, q2, kS_nx, sL_cons, tz, kS_nx, sL_nil]
        · show (C0 + 1 - Flow.outF ts.length (tF ts) (rF ((iL f').map unI)) X0).toNat < (C0 + 1 - Flow.outF ts.length (tF ts) (rF ((iL f).map unI)) X0).toNat
          rw [unI_iL, unI_iL, p3 X0 hfit0, hv X0 hfit0]
          have := bound f G
          rw [hv X0 hfit0] at this
          omega)
    fuel0 [(some (DV.fz (NetC tw n ts))), (some (DV.fz (.tup (iL ws)))), (some (DV.fz (.tup (nL st)))), (some (DV.fz (.tup (nL go)))), (some (DV.own (iL (ws.map fun _ => 0)))), y5, none, none, none] c ⟨_, _, _, _, rfl, rfl, G0, hy5⟩ (by
      show (C0 + 1 - Flow.outF ts.length (tF ts) (rF ((iL (ws.map fun _ => (0 : Int))).map unI)) X0).toNat < fuel0
      rw [unI_iL]
      obtain ⟨v, hv0, hv⟩ := G0.same
      rw [hv X0 hfit0]
      have h1 : C0 ≤ 100 * (10 ^ 30) := Int.mul_le_mul_of_nonneg_right (by omega) (by decide)
      have h2 : fuel0 = 10 ^ 40 := rfl
      rw [h2]
      omega)
  rcases hw with ⟨E', c', e, f, x5, x6, x7, rfl, rfl, G, hc⟩ | ⟨_, _, _, _, z⟩
  · refine ⟨f, ?_, G, hc⟩
    unfold b_fgreatest_row
    rw [sL_cons, t0, kS_nx, sL_cons, t1, kS_nx]
    simp! only [s2_fgreatest_row, s3_fgreatest_row, e, bTuple_lst]
  · exact z.elim
end
end DLaw

set_option maxHeartbeats 4000000
/-! K20K: flows and costs of sides. -/
namespace DLaw
open PySem DL
local macro_rules
  | `(tactic| simp! only [$ts,*]) => `(tactic| simp -implicitDefEqProofs only [sL_cons, sL_nil, kS_nx, kS_ret, kS_err, sNx_ap, sAs_ap, kB_ok, kB_err, backE_self, kA_ok, kA_err, sIf_ap, kI_ok, kI_err, sFo_ap, kF_ok, sTu_ap, kU, sAp_ap, sSu_ap, kJ_ok, sAt_ap, sAu_ap, sR0_ap, sRe_ap, retR_fz, retR_fr, sEx_ap, sret_ap, sRs_ap, kR, sTr_ap, kT_ok, kT_err, sRN, stF, stO, stC, appD, setD, mutD, insD, insS, augD, augS, fzE, fz1, xB, xK, xW, xN, xV, xBin, xNeg, xNot, xAnd, xOr, xCmp, xCmp2, xIf, xKs, xBs, xTup, xLst, xO, xSl, xRev, revD_lst, xIx, xFld, xFldN, isI, slfD, xBlt, xMt, xRg1, xRg2, rgR_l, rgR_t, xCal, xIsi, xIsi2, tNot, tAnd, tOr, tCmp, tCmp2, tTru, tYes, iR1, iR2, iEn, zipO, iZip, iPl, xC1, xC2, noErr_ap, kN_ok, dbind_dret, dbind_wrong, dbind_ap, dret_ap, dwrong_ap, kD_ok, kD_err, bOf_fz, bOf_fr, bOf_bo, kOf_fz, kOf_fr, intD_int, blD_bl, dget_some, dbl_some, dgetZ_some, dlist_nil, dlist_cons, outD_ret, outD_nx, outD_err, outI_ok', outI_err, add_int, sub_int, mul_int, div_int, mod_int, pow_int, add_lst, lt_int, le_int, gt_int, ge_int, eq_int, ne_int, ix_lst, ix_tup, ix_scr, ix_cel, dcel_ap, dtru, truD, lenOk_sm, List.length_cons, List.length_nil, Nat.reduceAdd, Nat.reduceLeDiff, Nat.reduceLT, List.getElem?_cons_zero, List.getElem?_cons_succ, List.set_cons_zero, List.set_cons_succ, if_true, if_false, ite_true, ite_false, decide_true, decide_false, Bool.false_eq_true, Bool.not_true, Bool.not_false, Bool.true_and, Bool.false_and, Bool.and_true, Bool.and_false, decide_eq_true_eq, not_false_eq_true, not_true_eq_false, dif_t, $ts,*])
open Flow (Stp Way)
/-- a lot's places -/
def inX (lot : List Nat) (v : Nat) : Bool := decide (v ∈ lot)
section
variable {c : Ce} {tw : Bool} {n : Nat} {ts : List (Nat × Nat)} {ws : List Int}
theorem tF_get {k : Nat} (hk : k < ts.length) : ts[k] = tF ts k := by
  unfold tF; rw [List.getD_eq_getElem?_getD, List.getElem?_eq_getElem hk]; rfl
theorem rowout_spec {f : List Int} {lot : List Nat} (hf : f.length = ts.length) : Q_frow_out [NetC tw n ts, .tup (iL f), .tup (nL lot)] c = .ok (.fz (.int (Flow.outF ts.length (tF ts) (rF f) (inX lot)))) c := by
  rw [q_frow_out]
  have f2 : g_frow_out_ties (NetC tw n ts) = dret (.fz (.tup (pL ts))) := by cases tw <;> kernel_rfl
  obtain ⟨E', c', e, x4, x5, x6, rfl, rfl⟩ := sfor_inv (f := sTn (gP (.tp [.sl 4, .tp [.sl 5, .sl 6]])) y1_frow_out)
    (P := fun k E c' => ∃ x4 x5 x6, E = [(some (DV.fz (NetC tw n ts))), (some (DV.fz (.tup (iL f)))), (some (DV.fz (.tup (nL lot)))), (some (DV.fz (D.int (Flow.outF k (tF ts) (rF f) (inX lot))))), x4, x5, x6] ∧ c' = c)
    (enumD (pL ts)) 0 [(some (DV.fz (NetC tw n ts))), (some (DV.fz (.tup (iL f)))), (some (DV.fz (.tup (nL lot)))), (some (DV.fz (D.int (0)))), none, none, none] c ⟨none, none, none, rfl, rfl⟩ fun k hk E c' hP => by
      obtain ⟨x4, x5, x6, rfl, rfl⟩ := hP
      rw [Nat.zero_add] at *
      rw [enumD_get hk]
      rw [enumD_len] at hk
      rw [pL_getE hk]
      rw [pL_len] at hk
      rw [tF_get hk]
      have a1 := atI_rF (f := f) (k := k) (by omega)
      have hs : Flow.outF (k + 1) (tF ts) (rF f) (inX lot) = Flow.outF k (tF ts) (rF f) (inX lot) + rF f k * (Flow.ind (inX lot) (tF ts k).1 - Flow.ind (inX lot) (tF ts k).2) := rfl
      refine ⟨[(some (DV.fz (NetC tw n ts))), (some (DV.fz (.tup (iL f)))), (some (DV.fz (.tup (nL lot)))), (some (DV.fz (D.int (Flow.outF (k + 1) (tF ts) (rF f) (inX lot))))), (some (DV.fz (D.int ((k : Int))))), (some (DV.fz (D.int (((tF ts k).1 : Int))))), (some (DV.fz (D.int (((tF ts k).2 : Int)))))], c', ?_, _, _, _, rfl, rfl⟩
      rw [hs]
      unfold Flow.ind inX
      generalize Flow.outF k (tF ts) (rF f) (fun v => decide (v ∈ lot)) = T
      by_cases h1 : (tF ts k).1 ∈ lot <;> by_cases h2 : (tF ts k).2 ∈ lot
      · have e0 : T + rF f k * ((if decide ((tF ts k).1 ∈ lot) = true then (1 : Int) else 0) - if decide ((tF ts k).2 ∈ lot) = true then 1 else 0) = T := by simp [h1, h2]
        rw [e0]
        have h1 := eq_true h1
        have h2 := eq_true h2
        simp! only [y1_frow_out, sTn, gP, bindP, bindPs, tupV, cT1, wipeD, in_ntup, ni_ntup, h1, h2, a1]
      · have e0 : T + rF f k * ((if decide ((tF ts k).1 ∈ lot) = true then (1 : Int) else 0) - if decide ((tF ts k).2 ∈ lot) = true then 1 else 0) = T + rF f k := by simp [h1, h2]
        rw [e0]
        have h1 := eq_true h1
        simp! only [y1_frow_out, sTn, gP, bindP, bindPs, tupV, cT1, wipeD, in_ntup, ni_ntup, h1, h2, a1]
      · have e0 : T + rF f k * ((if decide ((tF ts k).1 ∈ lot) = true then (1 : Int) else 0) - if decide ((tF ts k).2 ∈ lot) = true then 1 else 0) = T - rF f k := by simp [h1, h2]; omega
        rw [e0]
        have h2 := eq_true h2
        simp! only [y1_frow_out, sTn, gP, bindP, bindPs, tupV, cT1, wipeD, in_ntup, ni_ntup, h1, h2, a1]
      · have e0 : T + rF f k * ((if decide ((tF ts k).1 ∈ lot) = true then (1 : Int) else 0) - if decide ((tF ts k).2 ∈ lot) = true then 1 else 0) = T := by simp [h1, h2]
        rw [e0]
        simp! only [y1_frow_out, sTn, gP, bindP, bindPs, tupV, cT1, wipeD, in_ntup, ni_ntup, h1, h2, a1]
  rw [Nat.zero_add, enumD_len, pL_len] at e
  simp! only [b_frow_out, s0_frow_out, s1_frow_out, s2_frow_out, f2, items?, e]
theorem costof_spec {lot : List Nat} (hw : ws.length = ts.length) : Q_fcost_of [NetC tw n ts, .tup (iL ws), .tup (nL lot)] c = .ok (.fz (.int (Flow.costF ts.length (tF ts) (rF ws) tw (inX lot)))) c := by
  rw [q_fcost_of]
  have f2 : g_fcost_of_ties (NetC tw n ts) = dret (.fz (.tup (pL ts))) := by cases tw <;> kernel_rfl
  have t1 : s1_fcost_of [(some (DV.fz (NetC tw n ts))), (some (DV.fz (.tup (iL ws)))), (some (DV.fz (.tup (nL lot)))), (some (DV.fz (D.int (0)))), none, none, none, none] c = .ok .nx [(some (DV.fz (NetC tw n ts))), (some (DV.fz (.tup (iL ws)))), (some (DV.fz (.tup (nL lot)))), (some (DV.fz (D.int (0)))), (some (DV.fz (.bl tw))), none, none, none] c := by
    cases tw with
    | true =>
      have f1 : g_fcost_of_KIND (NetC true n ts) = dret (.fz (.str "twoway")) := by kernel_rfl
      simp! only [s1_fcost_of, f1, eq_tw]
    | false =>
      have f1 : g_fcost_of_KIND (NetC false n ts) = dret (.fz (.str "oneway")) := by kernel_rfl
      simp! only [s1_fcost_of, f1, eq_ow]
  obtain ⟨E', c', e, x5, x6, x7, rfl, rfl⟩ := sfor_inv (f := sTn (gP (.tp [.sl 5, .tp [.sl 6, .sl 7]])) y1_fcost_of)
    (P := fun k E c' => ∃ x5 x6 x7, E = [(some (DV.fz (NetC tw n ts))), (some (DV.fz (.tup (iL ws)))), (some (DV.fz (.tup (nL lot)))), (some (DV.fz (D.int (Flow.costF k (tF ts) (rF ws) tw (inX lot))))), (some (DV.fz (.bl tw))), x5, x6, x7] ∧ c' = c)
    (enumD (pL ts)) 0 [(some (DV.fz (NetC tw n ts))), (some (DV.fz (.tup (iL ws)))), (some (DV.fz (.tup (nL lot)))), (some (DV.fz (D.int (0)))), (some (DV.fz (.bl tw))), none, none, none] c ⟨none, none, none, rfl, rfl⟩ fun k hk E c' hP => by
      obtain ⟨x5, x6, x7, rfl, rfl⟩ := hP
      rw [Nat.zero_add] at *
      rw [enumD_get hk]
      rw [enumD_len] at hk
      rw [pL_getE hk]
      rw [pL_len] at hk
      rw [tF_get hk]
      have a1 := atI_rF (f := ws) (k := k) (by omega)
      have hs : Flow.costF (k + 1) (tF ts) (rF ws) tw (inX lot) = Flow.costF k (tF ts) (rF ws) tw (inX lot) + Flow.costK (tF ts) (rF ws) tw (inX lot) k := rfl
      refine ⟨[(some (DV.fz (NetC tw n ts))), (some (DV.fz (.tup (iL ws)))), (some (DV.fz (.tup (nL lot)))), (some (DV.fz (D.int (Flow.costF (k + 1) (tF ts) (rF ws) tw (inX lot))))), (some (DV.fz (.bl tw))), (some (DV.fz (D.int ((k : Int))))), (some (DV.fz (D.int (((tF ts k).1 : Int))))), (some (DV.fz (D.int (((tF ts k).2 : Int)))))], c', ?_, _, _, _, rfl, rfl⟩
      rw [hs]
      generalize Flow.costF k (tF ts) (rF ws) tw (inX lot) = T
      generalize hT : Flow.costK (tF ts) (rF ws) tw (inX lot) k = U
      unfold Flow.costK inX at hT
      by_cases h1 : (tF ts k).1 ∈ lot <;> by_cases h2 : (tF ts k).2 ∈ lot
      · have e0 : U = 0 := by rw [← hT]; simp [h1, h2]
        rw [e0, Int.add_zero]
        have h1 := eq_true h1
        have h2 := eq_true h2
        simp! only [y1_fcost_of, sTn, gP, bindP, bindPs, tupV, cT1, wipeD, in_ntup, ni_ntup, h1, h2, a1]
      · have e0 : U = rF ws k := by rw [← hT]; simp [h1, h2]
        rw [e0]
        have h1 := eq_true h1
        simp! only [y1_fcost_of, sTn, gP, bindP, bindPs, tupV, cT1, wipeD, in_ntup, ni_ntup, h1, h2, a1]
      · have h2' := eq_true h2
        cases tw with
        | true =>
          have e0 : U = rF ws k := by rw [← hT]; simp [h1, h2]
          rw [e0]
          simp! only [y1_fcost_of, sTn, gP, bindP, bindPs, tupV, cT1, wipeD, in_ntup, ni_ntup, h1, h2', a1]
        | false =>
          have e0 : U = 0 := by rw [← hT]; simp [h1, h2]
          rw [e0, Int.add_zero]
          simp! only [y1_fcost_of, sTn, gP, bindP, bindPs, tupV, cT1, wipeD, in_ntup, ni_ntup, h1, h2', a1]
      · have e0 : U = 0 := by rw [← hT]; simp [h1, h2]
        rw [e0, Int.add_zero]
        cases tw with
        | true => simp! only [y1_fcost_of, sTn, gP, bindP, bindPs, tupV, cT1, wipeD, in_ntup, ni_ntup, h1, h2, a1]
        | false => simp! only [y1_fcost_of, sTn, gP, bindP, bindPs, tupV, cT1, wipeD, in_ntup, ni_ntup, h1, h2, a1]
  rw [Nat.zero_add, enumD_len, pL_len] at e
  unfold b_fcost_of
  have t0 : s0_fcost_of [(some (DV.fz (NetC tw n ts))), (some (DV.fz (.tup (iL ws)))), (some (DV.fz (.tup (nL lot)))), none, none, none, none, none] c' = .ok .nx [(some (DV.fz (NetC tw n ts))), (some (DV.fz (.tup (iL ws)))), (some (DV.fz (.tup (nL lot)))), (some (DV.fz (D.int (0)))), none, none, none, none] c' := by
    simp! only [s0_fcost_of]
  rw [sL_cons, t0, kS_nx, sL_cons, t1, kS_nx]
  simp! only [s2_fcost_of, s3_fcost_of, f2, items?, e]
/-- the flow's value is the least cost -/
theorem value_spec {st go : List Nat} (hn : n ≤ 100) (hr : ∀ t ∈ ts, InR n t) (hl : ts.length ≤ 100) (hd : st.Nodup) (hst : ∀ x ∈ st, x < n) (hw : ws.length = ts.length) (hW : ∀ w ∈ ws, InV w) (hdis : ∀ x ∈ st, x ∉ go) :
    ∃ v : Int, Q_fflow_value [NetC tw n ts, .tup (iL ws), .tup (nL st), .tup (nL go)] c = .ok (.fz (.int v)) c ∧ (∀ X, Fit st go X → v ≤ Flow.costF ts.length (tF ts) (rF ws) tw X) ∧ ∃ X, Fit st go X ∧ Flow.costF ts.length (tF ts) (rF ws) tw X = v := by
  obtain ⟨f, e, G, q, q1, q2, q3⟩ := greatest_spec (c := c) (tw := tw) (go := go) hn hr hl hd hst hw hW hdis
  obtain ⟨v, _, hv⟩ := G.same
  have hfit : Fit st go (inX st) := ⟨fun x h => decide_eq_true h, fun x h => decide_eq_false fun z => hdis x z h⟩
  have hfq : Fit st go (inX q) := ⟨fun x h => decide_eq_true (q1 x h), fun x h => decide_eq_false fun z => (q2 x z).1 h⟩
  refine ⟨v, ?_, fun X hX => ?_, inX q, hfq, ?_⟩
  · rw [q_fflow_value]
    have e2 := rowout_spec (c := c) (tw := tw) (n := n) (ts := ts) (f := f) (lot := st) G.len
    rw [hv _ hfit] at e2
    simp! only [b_fflow_value, s0_fflow_value, e, e2]
  · rw [← hv X hX]; exact Flow.weak G.val
  · refine (Flow.filled G.val fun s hs h12 => ?_).symm.trans (hv _ hfq)
    exact of_decide_eq_false h12.2 (q3 s hs (of_decide_eq_true h12.1))
end
end DLaw

set_option maxHeartbeats 4000000
/-! K20L: what is reached, the last least side. -/
namespace DLaw
open PySem DL
local macro_rules
  | `(tactic| simp! only [$ts,*]) => `(tactic| simp -implicitDefEqProofs only [sL_cons, sL_nil, kS_nx, kS_ret, kS_err, sNx_ap, sAs_ap, kB_ok, kB_err, backE_self, kA_ok, kA_err, sIf_ap, kI_ok, kI_err, sFo_ap, kF_ok, sTu_ap, kU, sAp_ap, sSu_ap, kJ_ok, sAt_ap, sAu_ap, sR0_ap, sRe_ap, retR_fz, retR_fr, sEx_ap, sret_ap, sRs_ap, kR, sTr_ap, kT_ok, kT_err, sRN, stF, stO, stC, appD, setD, mutD, insD, insS, augD, augS, fzE, fz1, xB, xK, xW, xN, xV, xBin, xNeg, xNot, xAnd, xOr, xCmp, xCmp2, xIf, xKs, xBs, xTup, xLst, xO, xSl, xRev, revD_lst, xIx, xFld, xFldN, isI, slfD, xBlt, xMt, xRg1, xRg2, rgR_l, rgR_t, xCal, xIsi, xIsi2, tNot, tAnd, tOr, tCmp, tCmp2, tTru, tYes, iR1, iR2, iEn, zipO, iZip, iPl, xC1, xC2, noErr_ap, kN_ok, dbind_dret, dbind_wrong, dbind_ap, dret_ap, dwrong_ap, kD_ok, kD_err, bOf_fz, bOf_fr, bOf_bo, kOf_fz, kOf_fr, intD_int, blD_bl, dget_some, dbl_some, dgetZ_some, dlist_nil, dlist_cons, outD_ret, outD_nx, outD_err, outI_ok', outI_err, add_int, sub_int, mul_int, div_int, mod_int, pow_int, add_lst, lt_int, le_int, gt_int, ge_int, eq_int, ne_int, ix_lst, ix_tup, ix_scr, ix_cel, dcel_ap, dtru, truD, lenOk_sm, List.length_cons, List.length_nil, Nat.reduceAdd, Nat.reduceLeDiff, Nat.reduceLT, List.getElem?_cons_zero, List.getElem?_cons_succ, List.set_cons_zero, List.set_cons_succ, if_true, if_false, ite_true, ite_false, decide_true, decide_false, Bool.false_eq_true, Bool.not_true, Bool.not_false, Bool.true_and, Bool.false_and, Bool.and_true, Bool.and_false, decide_eq_true_eq, not_false_eq_true, not_true_eq_false, dif_t, $ts,*])
open Flow (Stp Way)
def restL (n : Nat) (p : Nat → Bool) : List Nat := (List.range n).filter fun v => !p v
theorem filterNn (l : List Nat) (q : Nat → Bool) : l.filterMap (fun k => if q k = true then some (D.int (k : Int)) else none) = nL (l.filter q) := by
  induction l with
  | nil => rfl
  | cons a l ih =>
    rw [List.filterMap_cons, List.filter_cons]
    by_cases h : q a = true
    · rw [if_pos h, if_pos h, ih]; rfl
    · rw [if_neg h, if_neg h, ih]
theorem rest_spec {c : Ce} {n : Nat} {is : List Int} (hn : n ≤ 1000) : Q_frest [.int n, .tup (iL is)] c = .ok (.fz (.tup (nL (restL n fun v => decide ((v : Int) ∈ is))))) c := by
  rw [q_frest]
  have hR : rngOk 0 (n : Int) = true := rngOk_of (by omega) (by omega) (by omega) (by omega)
  have hL : lenOk (rangeD 0 (n : Int)).length = true := lenOk_of (by rw [range_len]; omega)
  have e : dloop (c1_frest [(some (DV.fz (D.int ((n : Int))))), (some (DV.fz (.tup (iL is)))), none]) (rangeD 0 (n : Int)) c = .ok (nL (restL n fun v => decide ((v : Int) ∈ is))) c := by
    rw [range_nat, restL, ← filterNn]
    refine dloop_fmap _ fun j _ => ?_
    by_cases h : (j : Int) ∈ is
    · have h := eq_true h
      simp! only [c1_frest, sTn, gP, bindP, bindPs, tupV, cT1, wipeD, ni_tup, h]
    · simp! only [c1_frest, sTn, gP, bindP, bindPs, tupV, cT1, wipeD, ni_tup, h]
  simp! only [b_frest, s0_frest, hR, hL, e, bTuple_lst]
theorem pL_item {ps : List (Nat × Nat)} {k : Nat} (h : k < (pL ps).length) : (pL ps)[k] = .tup [.int ((ps[k]'(by rw [pL_len] at h; exact h)).1 : Int), .int ((ps[k]'(by rw [pL_len] at h; exact h)).2 : Int)] := pL_getE h
/-- places found so far -/
structure Rch (n : Nat) (ps : List (Nat × Nat)) (go R : List Nat) : Prop where
  nd : R.Nodup
  lt : ∀ x ∈ R, x < n
  ini : ∀ x ∈ go, x ∈ R
  least : ∀ Y : Nat → Prop, (∀ x ∈ go, Y x) → (∀ p ∈ ps, Y p.1 → Y p.2) → ∀ x ∈ R, Y x
end DLaw

set_option maxHeartbeats 4000000
/-! K20N: the last least side, what is held. -/
namespace DLaw
open PySem DL
open Flow (Stp Way)
theorem restL_mem {n v : Nat} {p : Nat → Bool} : v ∈ restL n p ↔ v < n ∧ p v = false := by
  unfold restL
  rw [List.mem_filter, List.mem_range, Bool.not_eq_true']
/-- the greatest least side, told by costs alone -/
structure LastS (n : Nat) (cost : (Nat → Bool) → Int) (st go L : List Nat) : Prop where
  fit : Fit st go (inX L)
  lt : ∀ x ∈ L, x < n
  least : ∀ X, Fit st go X → cost (inX L) ≤ cost X
  great : ∀ X, Fit st go X → cost X = cost (inX L) → ∀ x, x < n → X x = true → x ∈ L
  row : ∃ p, L = restL n p
section
variable {c : Ce} {tw : Bool} {n : Nat} {ts : List (Nat × Nat)} {ws : List Int} {st go : List Nat}
end
end DLaw

set_option maxHeartbeats 4000000
/-! K20P: nets are made, worlds and lots are read. -/
namespace DLaw
open PySem DL
local macro_rules
  | `(tactic| simp! only [$ts,*]) => `(tactic| simp -implicitDefEqProofs only [sL_cons, sL_nil, kS_nx, kS_ret, kS_err, sNx_ap, sAs_ap, kB_ok, kB_err, backE_self, kA_ok, kA_err, sIf_ap, kI_ok, kI_err, sFo_ap, kF_ok, sTu_ap, kU, sAp_ap, sSu_ap, kJ_ok, sAt_ap, sAu_ap, sR0_ap, sRe_ap, retR_fz, retR_fr, sEx_ap, sret_ap, sRs_ap, kR, sTr_ap, kT_ok, kT_err, sRN, stF, stO, stC, appD, setD, mutD, insD, insS, augD, augS, fzE, fz1, xB, xK, xW, xN, xV, xBin, xNeg, xNot, xAnd, xOr, xCmp, xCmp2, xIf, xKs, xBs, xTup, xLst, xO, xSl, xRev, revD_lst, xIx, xFld, xFldN, isI, slfD, xBlt, xMt, xRg1, xRg2, rgR_l, rgR_t, xCal, xIsi, xIsi2, tNot, tAnd, tOr, tCmp, tCmp2, tTru, tYes, iR1, iR2, iEn, zipO, iZip, iPl, xC1, xC2, noErr_ap, kN_ok, dbind_dret, dbind_wrong, dbind_ap, dret_ap, dwrong_ap, kD_ok, kD_err, bOf_fz, bOf_fr, bOf_bo, kOf_fz, kOf_fr, intD_int, blD_bl, dget_some, dbl_some, dgetZ_some, dlist_nil, dlist_cons, outD_ret, outD_nx, outD_err, outI_ok', outI_err, add_int, sub_int, mul_int, div_int, mod_int, pow_int, add_lst, lt_int, le_int, gt_int, ge_int, eq_int, ne_int, ix_lst, ix_tup, ix_scr, ix_cel, dcel_ap, dtru, truD, lenOk_sm, List.length_cons, List.length_nil, Nat.reduceAdd, Nat.reduceLeDiff, Nat.reduceLT, List.getElem?_cons_zero, List.getElem?_cons_succ, List.set_cons_zero, List.set_cons_succ, if_true, if_false, ite_true, ite_false, decide_true, decide_false, Bool.false_eq_true, Bool.not_true, Bool.not_false, Bool.true_and, Bool.false_and, Bool.and_true, Bool.and_false, decide_eq_true_eq, not_false_eq_true, not_true_eq_false, dif_t, $ts,*])
theorem init_Twoway {c : Ce} {n : Nat} {ts : List (Nat × Nat)} (h1 : 1 ≤ n) (h2 : n ≤ 12) (hl : ts.length ≤ 40) (hr : ∀ t ∈ ts, InR n t) : Q_iTwoway [.int n, .lst (pL ts)] c = .ok (.fz (NetC true n ts)) c := by
  rw [q_iTwoway]
  obtain ⟨E', c', e, x3, x4, rfl, rfl⟩ := sfor_inv (f := sTn (gP (.tp [.sl 3, .sl 4])) y1_iTwoway) (P := fun k E c' => ∃ x3 x4, E = [some (.ins "Twoway" [] []), (some (DV.fz (D.int ((n : Int))))), (some (DV.fz (.lst (pL ts)))), x3, x4] ∧ c' = c)
    (enumD (pL ts)) 0 [some (.ins "Twoway" [] []), (some (DV.fz (D.int ((n : Int))))), (some (DV.fz (.lst (pL ts)))), none, none] c ⟨none, none, rfl, rfl⟩ fun k hk E c' hP => by
      obtain ⟨x3, x4, rfl, rfl⟩ := hP
      rw [enumD_get hk]
      rw [enumD_len] at hk
      rw [pL_getE hk]
      rw [pL_len] at hk
      have hp := pair_spec (c := c') (hr _ (List.getElem_mem hk))
      refine ⟨[some (.ins "Twoway" [] []), (some (DV.fz (D.int ((n : Int))))), (some (DV.fz (.lst (pL ts)))), (some (DV.fz (D.int ((k : Int))))), (some (DV.fz (.tup [.int ts[k].1, .int ts[k].2])))], c', ?_, _, _, rfl, rfl⟩
      simp! only [y1_iTwoway, sTn, gP, bindP, bindPs, tupV, cT1, wipeD, hp]
  have a1 : ¬ ((40 : Int) < ((pL ts).length : Int)) := by rw [pL_len]; omega
  have hL : lenOk (pL ts).length = true := lenOk_of (by rw [pL_len]; omega)
  have w1 : w_iTwoway_size "Twoway" = true := by kernel_rfl
  have w2 : w_iTwoway_ties "Twoway" = true := by kernel_rfl
  have n1 : (["size"] : List Str).contains "ties" = false := by decide +kernel
  have e2 : dloop (c1_iTwoway [some (.ins "Twoway" ["size"] [.int n]), (some (DV.fz (D.int ((n : Int))))), (some (DV.fz (.lst (pL ts)))), x3, x4]) (pL ts) c' = .ok (pL ts) c' := by
    rw [pL]
    exact dloop_map _ fun t _ => by
      simp! only [c1_iTwoway, sTn, gP, bindP, bindPs, tupV, cT1, wipeD, pD, atI_zero, atI_one]
  simp! only [b_iTwoway, s0_iTwoway, s1_iTwoway, s2_iTwoway, s3_iTwoway, s4_iTwoway, k_iTwoway_list, k_iTwoway_tuple, isi_int_non, isi_int_bl, isi_int_int, isi_int_str, isi_int_lst, isi_int_tup, isi_bool_non, isi_bool_bl, isi_bool_int, isi_bool_str, isi_bool_lst, isi_bool_tup, isi_list_non, isi_list_bl, isi_list_int, isi_list_str, isi_list_lst, isi_list_tup, isi_tuple_non, isi_tuple_bl, isi_tuple_int, isi_tuple_str, isi_tuple_lst, isi_tuple_tup, Bool.or_false, Bool.or_true, size_spec h1 h2, bLen_lst, a1, items?, e, w1, w2, n1, e2, hL, List.contains_nil, List.nil_append, List.cons_append, bTuple_lst]
  rfl
theorem init_Oneway {c : Ce} {n : Nat} {ts : List (Nat × Nat)} (h1 : 1 ≤ n) (h2 : n ≤ 12) (hl : ts.length ≤ 40) (hr : ∀ t ∈ ts, InR n t) : Q_iOneway [.int n, .lst (pL ts)] c = .ok (.fz (NetC false n ts)) c := by
  rw [q_iOneway]
  obtain ⟨E', c', e, x3, x4, rfl, rfl⟩ := sfor_inv (f := sTn (gP (.tp [.sl 3, .sl 4])) y1_iOneway) (P := fun k E c' => ∃ x3 x4, E = [some (.ins "Oneway" [] []), (some (DV.fz (D.int ((n : Int))))), (some (DV.fz (.lst (pL ts)))), x3, x4] ∧ c' = c)
    (enumD (pL ts)) 0 [some (.ins "Oneway" [] []), (some (DV.fz (D.int ((n : Int))))), (some (DV.fz (.lst (pL ts)))), none, none] c ⟨none, none, rfl, rfl⟩ fun k hk E c' hP => by
      obtain ⟨x3, x4, rfl, rfl⟩ := hP
      rw [enumD_get hk]
      rw [enumD_len] at hk
      rw [pL_getE hk]
      rw [pL_len] at hk
      have hp := pair_spec (c := c') (hr _ (List.getElem_mem hk))
      refine ⟨[some (.ins "Oneway" [] []), (some (DV.fz (D.int ((n : Int))))), (some (DV.fz (.lst (pL ts)))), (some (DV.fz (D.int ((k : Int))))), (some (DV.fz (.tup [.int ts[k].1, .int ts[k].2])))], c', ?_, _, _, rfl, rfl⟩
      simp! only [y1_iOneway, sTn, gP, bindP, bindPs, tupV, cT1, wipeD, hp]
  have a1 : ¬ ((40 : Int) < ((pL ts).length : Int)) := by rw [pL_len]; omega
  have hL : lenOk (pL ts).length = true := lenOk_of (by rw [pL_len]; omega)
  have w1 : w_iOneway_size "Oneway" = true := by kernel_rfl
  have w2 : w_iOneway_ties "Oneway" = true := by kernel_rfl
  have n1 : (["size"] : List Str).contains "ties" = false := by decide +kernel
  have e2 : dloop (c1_iOneway [some (.ins "Oneway" ["size"] [.int n]), (some (DV.fz (D.int ((n : Int))))), (some (DV.fz (.lst (pL ts)))), x3, x4]) (pL ts) c' = .ok (pL ts) c' := by
    rw [pL]
    exact dloop_map _ fun t _ => by
      simp! only [c1_iOneway, sTn, gP, bindP, bindPs, tupV, cT1, wipeD, pD, atI_zero, atI_one]
  simp! only [b_iOneway, s0_iOneway, s1_iOneway, s2_iOneway, s3_iOneway, s4_iOneway, k_iOneway_list, k_iOneway_tuple, isi_int_non, isi_int_bl, isi_int_int, isi_int_str, isi_int_lst, isi_int_tup, isi_bool_non, isi_bool_bl, isi_bool_int, isi_bool_str, isi_bool_lst, isi_bool_tup, isi_list_non, isi_list_bl, isi_list_int, isi_list_str, isi_list_lst, isi_list_tup, isi_tuple_non, isi_tuple_bl, isi_tuple_int, isi_tuple_str, isi_tuple_lst, isi_tuple_tup, Bool.or_false, Bool.or_true, size_spec h1 h2, bLen_lst, a1, items?, e, w1, w2, n1, e2, hL, List.contains_nil, List.nil_append, List.cons_append, bTuple_lst]
  rfl
section
variable {c : Ce} {tw : Bool} {n : Nat} {ts : List (Nat × Nat)} {ws : List Int}
theorem many_spec : g_fworld_of_many (NetC tw n ts) c = .ok (.fz (.int ts.length)) c := by
  cases tw with
  | true =>
    have e : g_fworld_of_many (NetC true n ts) = noErr (Q_pTwowaymany [NetC true n ts]) := by
      unfold Q_pTwowaymany
      kernel_rfl
    have e2 : g_pTwowaymany_ties (NetC true n ts) = dret (.fz (.tup (pL ts))) := by kernel_rfl
    rw [e, noErr_ap, q_pTwowaymany]
    simp! only [b_pTwowaymany, s0_pTwowaymany, e2, bLen_tup, pL_len]
  | false =>
    have e : g_fworld_of_many (NetC false n ts) = noErr (Q_pOnewaymany [NetC false n ts]) := by
      unfold Q_pOnewaymany
      kernel_rfl
    have e2 : g_pOnewaymany_ties (NetC false n ts) = dret (.fz (.tup (pL ts))) := by kernel_rfl
    rw [e, noErr_ap, q_pOnewaymany]
    simp! only [b_pOnewaymany, s0_pOnewaymany, e2, bLen_tup, pL_len]
/-- a row of ints, list or tuple -/
def SeqI (A : D) (xs : List D) : Prop := A = .lst xs ∨ A = .tup xs
theorem world_check {A : D} (hA : SeqI A (iL ws)) (hw : ∀ w ∈ ws, 0 ≤ w) : Q_fcheck_world [.int ws.length, A] c = .ok (.fz (.tup (iL ws))) c := by
  rw [q_fcheck_world]
  obtain ⟨E', c', e, x2, x3, rfl, rfl⟩ := sfor_inv (f := sTn (gP (.tp [.sl 2, .sl 3])) y1_fcheck_world) (P := fun k E c' => ∃ x2 x3, E = [(some (DV.fz (D.int ((ws.length : Int))))), (some (DV.fz (A))), x2, x3] ∧ c' = c)
    (enumD (iL ws)) 0 [(some (DV.fz (D.int ((ws.length : Int))))), (some (DV.fz (A))), none, none] c ⟨none, none, rfl, rfl⟩ fun k hk E c' hP => by
      obtain ⟨x2, x3, rfl, rfl⟩ := hP
      rw [enumD_get hk]
      rw [enumD_len] at hk
      rw [iL_getE hk]
      rw [iL_len] at hk
      have h1 := hw _ (List.getElem_mem hk)
      have a1 : ¬ (ws[k] < 0) := by omega
      refine ⟨[(some (DV.fz (D.int ((ws.length : Int))))), (some (DV.fz (A))), (some (DV.fz (D.int ((k : Int))))), (some (DV.fz (D.int (ws[k]))))], c', ?_, _, _, rfl, rfl⟩
      simp! only [y1_fcheck_world, sTn, gP, bindP, bindPs, tupV, cT1, wipeD, number_int, a1]
  rcases hA with rfl | rfl
  · simp! only [b_fcheck_world, s0_fcheck_world, s1_fcheck_world, s2_fcheck_world, k_fcheck_world_list, k_fcheck_world_tuple, isi_int_non, isi_int_bl, isi_int_int, isi_int_str, isi_int_lst, isi_int_tup, isi_bool_non, isi_bool_bl, isi_bool_int, isi_bool_str, isi_bool_lst, isi_bool_tup, isi_list_non, isi_list_bl, isi_list_int, isi_list_str, isi_list_lst, isi_list_tup, isi_tuple_non, isi_tuple_bl, isi_tuple_int, isi_tuple_str, isi_tuple_lst, isi_tuple_tup, Bool.or_false, Bool.or_true, Bool.false_or, bLen_lst, iL_len, items?, e, bTuple_lst]
  · simp! only [b_fcheck_world, s0_fcheck_world, s1_fcheck_world, s2_fcheck_world, k_fcheck_world_list, k_fcheck_world_tuple, isi_int_non, isi_int_bl, isi_int_int, isi_int_str, isi_int_lst, isi_int_tup, isi_bool_non, isi_bool_bl, isi_bool_int, isi_bool_str, isi_bool_lst, isi_bool_tup, isi_list_non, isi_list_bl, isi_list_int, isi_list_str, isi_list_lst, isi_list_tup, isi_tuple_non, isi_tuple_bl, isi_tuple_int, isi_tuple_str, isi_tuple_lst, isi_tuple_tup, Bool.or_false, Bool.or_true, Bool.false_or, bLen_tup, iL_len, items?, e, bTuple_tup]
theorem world_of_spec {A : D} (hA : SeqI A (iL ws)) (hw : ∀ w ∈ ws, 0 ≤ w) (hl : ws.length = ts.length) : Q_fworld_of [NetC tw n ts, A] c = .ok (.fz (.tup (iL ws))) c := by
  rw [q_fworld_of]
  have e1 : g_fworld_of_many (NetC tw n ts) c = .ok (.fz (.int ws.length)) c := by rw [many_spec, hl]
  simp! only [b_fworld_of, s0_fworld_of, e1, world_check hA hw]
/-- a lot in order -/
def srt (lot : List Nat) : List Nat := (sortI (casts lot)).map Int.toNat
theorem srt_iL (lot : List Nat) : iL (sortI (casts lot)) = nL (srt lot) := by
  unfold srt
  rw [nL_iL, List.map_map]
  congr 1
  have : ∀ i ∈ sortI (casts lot), ((Int.toNat i : Nat) : Int) = i := fun i hi => by
    rw [sort_mem] at hi
    obtain ⟨a, _, rfl⟩ := List.mem_map.mp hi
    rfl
  calc sortI (casts lot) = (sortI (casts lot)).map id := (List.map_id _).symm
    _ = _ := List.map_congr_left fun i hi => (this i hi).symm
theorem srt_perm (lot : List Nat) : (srt lot).Perm lot := by
  have h : (sortI (casts lot)).Perm (casts lot) := List.mergeSort_perm _ _
  have h2 := h.map Int.toNat
  have e : (casts lot).map Int.toNat = lot := by
    unfold casts
    rw [List.map_map]
    calc lot.map _ = lot.map id := List.map_congr_left fun a _ => rfl
      _ = lot := List.map_id _
  rw [e] at h2
  exact h2
theorem slT_take (xs : List D) (k : Nat) : slD (.tup xs) none (some (k : Int)) = dret (.fz (.tup (xs.take k))) := by
  have h := slD_take xs k
  have e : cutD xs none (some (k : Int)) = xs.take k := by
    have h2 : (dret (RV.fr (cutD xs none (some (k : Int)))) : DM RV) none = dret (RV.fr (xs.take k)) none := congrFun h none
    simpa [dret] using h2
  show dret (RV.fz (.tup (cutD xs none (some (k : Int))))) = _
  rw [e]
theorem lotof_spec {A : D} {lot : List Nat} (hA : SeqI A (nL lot)) (h1 : 1 ≤ n) (hn : n ≤ 12) (hd : lot.Nodup) (hr : ∀ p ∈ lot, p < n) : Q_flot_of [.int n, A] c = .ok (.fz (.tup (nL (srt lot)))) c := by
  have hl := nodup_le n lot hd hr
  rcases hA with rfl | rfl
  · rw [lot_spec h1 hn hd hr (by omega), srt_iL]
  · have hs : Q_fsorted_lot [.int n, .tup (nL lot)] c = .ok (.fz (.tup (iL (sortI (casts lot))))) c := by
      rw [q_fsorted_lot]
      obtain ⟨E', c', e, x2, x3, rfl, rfl⟩ := sfor_inv (f := sTn (gP (.tp [.sl 2, .sl 3])) y1_fsorted_lot) (P := fun k E c' => ∃ x2 x3, E = [(some (DV.fz (D.int ((n : Int))))), (some (DV.fz (.tup (nL lot)))), x2, x3] ∧ c' = c)
        (enumD (nL lot)) 0 [(some (DV.fz (D.int ((n : Int))))), (some (DV.fz (.tup (nL lot)))), none, none] c ⟨none, none, rfl, rfl⟩ fun k hk E c' hP => by
          obtain ⟨x2, x3, rfl, rfl⟩ := hP
          rw [enumD_get hk]
          rw [enumD_len] at hk
          rw [nL_getE hk]
          rw [nL_len] at hk
          have h1 := hr _ (List.getElem_mem hk)
          have a1 : ¬ (((lot[k] : Nat) : Int) < 0) := by omega
          have a2 : ¬ ((n : Int) ≤ ((lot[k] : Nat) : Int)) := by omega
          have a3 : ¬ lot[k] ∈ lot.take k := fun hm => by
            obtain ⟨j, hj, e⟩ := List.mem_take_iff_getElem.mp hm
            have := (List.nodup_iff_pairwise_ne.mp hd)
            exact List.pairwise_iff_getElem.mp this j k (by omega) hk (by omega) e
          refine ⟨[(some (DV.fz (D.int ((n : Int))))), (some (DV.fz (.tup (nL lot)))), (some (DV.fz (D.int ((k : Int))))), (some (DV.fz (D.int (((lot[k] : Nat) : Int)))))], c', ?_, _, _, rfl, rfl⟩
          simp! only [y1_fsorted_lot, sTn, gP, bindP, bindPs, tupV, cT1, wipeD, number_int, a1, a2, slT_take, nL_take, in_ntup, a3]
      have e1 : bSorted [.tup (nL lot)] = dret (.fr (iL (sortI (casts lot)))) := by
        rw [nL_iL]
        show dbind (dget (ints? (iL (casts lot)))) _ = _
        rw [show ints? (iL (casts lot)) = some (casts lot) from ints_map _]
        rfl
      simp! only [b_fsorted_lot, s0_fsorted_lot, s1_fsorted_lot, s2_fsorted_lot, k_fsorted_lot_list, k_fsorted_lot_tuple, isi_int_non, isi_int_bl, isi_int_int, isi_int_str, isi_int_lst, isi_int_tup, isi_bool_non, isi_bool_bl, isi_bool_int, isi_bool_str, isi_bool_lst, isi_bool_tup, isi_list_non, isi_list_bl, isi_list_int, isi_list_str, isi_list_lst, isi_list_tup, isi_tuple_non, isi_tuple_bl, isi_tuple_int, isi_tuple_str, isi_tuple_lst, isi_tuple_tup, Bool.or_false, Bool.or_true, Bool.false_or, items?, e, e1, bTuple_lst]
    rw [q_flot_of]
    simp! only [b_flot_of, s0_flot_of, s1_flot_of, size_spec h1 hn, hs, srt_iL]
end
end DLaw

set_option maxHeartbeats 4000000
/-! K20M: what a lot's own sides say (plain Lean). -/
namespace DLaw
open PySem DL
/-- rows that rise -/
def Up (l : List Nat) : Prop := l.Pairwise fun a b => a < b
theorem Up.ext : ∀ {l m : List Nat}, Up l → Up m → (∀ x, x ∈ l ↔ x ∈ m) → l = m
  | [], [], _, _, _ => rfl
  | [], b :: m, _, _, h => absurd ((h b).mpr List.mem_cons_self) (by simp)
  | a :: l, [], _, _, h => absurd ((h a).mp List.mem_cons_self) (by simp)
  | a :: l, b :: m, h1, h2, h => by
    have h1' := List.pairwise_cons.mp h1
    have h2' := List.pairwise_cons.mp h2
    have e : a = b := by
      rcases List.mem_cons.mp ((h a).mp List.mem_cons_self) with q | q
      · exact q
      · rcases List.mem_cons.mp ((h b).mpr List.mem_cons_self) with q' | q'
        · exact q'.symm
        · have := h1'.1 b q'
          have := h2'.1 a q
          omega
    subst e
    refine congrArg (a :: ·) (Up.ext h1'.2 h2'.2 fun x => ⟨fun hx => ?_, fun hx => ?_⟩)
    · rcases List.mem_cons.mp ((h x).mp (List.mem_cons_of_mem _ hx)) with q | q
      · have := h1'.1 x hx; omega
      · exact q
    · rcases List.mem_cons.mp ((h x).mpr (List.mem_cons_of_mem _ hx)) with q | q
      · have := h2'.1 x hx; omega
      · exact q
theorem Up.nodup {l : List Nat} (h : Up l) : l.Nodup := List.Pairwise.imp (fun {a b} (q : a < b) => Nat.ne_of_lt q) h
theorem Up.filter {l : List Nat} (h : Up l) (p : Nat → Bool) : Up (l.filter p) := List.Pairwise.filter p h
theorem Up.range (n : Nat) : Up (List.range n) := List.pairwise_lt_range
theorem restL_up (n : Nat) (p : Nat → Bool) : Up (restL n p) := (Up.range n).filter _
theorem srt_up {l : List Nat} (h : l.Nodup) : Up (srt l) := by
  have h1 : (sortI (casts l)).Pairwise fun a b => decide (a ≤ b) = true := List.pairwise_mergeSort (le := fun (a b : Int) => decide (a ≤ b)) (fun a b c h1 h2 => by simp at *; omega) (fun a b => by simp; omega) _
  have h2 : (srt l).Pairwise fun a b => a ≤ b := by
    unfold srt
    rw [List.pairwise_map]
    exact h1.imp fun {a b} q => by
      have := of_decide_eq_true q
      omega
  have h3 : (srt l).Nodup := (srt_perm l).nodup_iff.mpr h
  exact (h2.and h3).imp fun {a b} q => Nat.lt_of_le_of_ne q.1 q.2
theorem srt_mem {l : List Nat} {x : Nat} : x ∈ srt l ↔ x ∈ l := (srt_perm l).mem_iff
theorem srt_self {l : List Nat} (h : Up l) : srt l = l := (srt_up h.nodup).ext h fun _ => srt_mem
theorem srt_rev {l : List Nat} (h : Up l) : srt l.reverse = l := (srt_up ((List.reverse_perm l).nodup_iff.mpr h.nodup)).ext h fun _ => srt_mem.trans List.mem_reverse
/-! costs -/
def cF (tw : Bool) (ts : List (Nat × Nat)) (ws : List Int) (X : Nat → Bool) : Int := Flow.costF ts.length (tF ts) (rF ws) tw X
theorem cF_congr {tw : Bool} {n : Nat} {ts : List (Nat × Nat)} {ws : List Int} (hr : ∀ t ∈ ts, InR n t) {X Y : Nat → Bool} (h : ∀ v, v < n → X v = Y v) : cF tw ts ws X = cF tw ts ws Y := by
  refine Flow.sumK_eq fun k hk => ?_
  have := hr _ (List.getElem_mem hk)
  rw [tF_get hk] at this
  unfold Flow.costK
  rw [h _ this.1, h _ this.2]
theorem cF_nonneg {tw : Bool} {ts : List (Nat × Nat)} {ws : List Int} (hw : ∀ w ∈ ws, InV w) (X : Nat → Bool) : 0 ≤ cF tw ts ws X := by
  have e : Flow.sumK (fun _ => 0) ts.length = 0 := by
    induction ts.length with
    | zero => rfl
    | succ m ih => show Flow.sumK _ m + 0 = 0; rw [ih]; rfl
  rw [← e]
  refine Flow.sumK_le fun k _ => ?_
  have : 0 ≤ rF ws k := by
    unfold rF
    rw [List.getD_eq_getElem?_getD]
    cases e : ws[k]? with
    | none => exact Int.le_refl _
    | some x => exact (hw x (List.mem_of_getElem? e)).1
  unfold Flow.costK
  split
  · exact this
  · split
    · exact this
    · exact Int.le_refl _
/-! sides within a lot -/
def Sub (st L : List Nat) (X : Nat → Bool) : Prop := (∀ x ∈ st, X x = true) ∧ ∀ v, X v = true → v ∈ L
def HeldP (cost : (Nat → Bool) → Int) (st L : List Nat) : Prop := ∀ X, Sub st L X → cost (inX L) ≤ cost X
open Classical in
noncomputable def heldB (cost : (Nat → Bool) → Int) (st L : List Nat) : Bool := decide (HeldP cost st L)
open Classical in
theorem heldB_iff {cost : (Nat → Bool) → Int} {st L : List Nat} : heldB cost st L = true ↔ HeldP cost st L := by
  unfold heldB; exact decide_eq_true_iff
/-- a place in a least side -/
def LeastAt (cost : (Nat → Bool) → Int) (st L : List Nat) (v : Nat) : Prop := ∃ X, Sub st L X ∧ (∀ Y, Sub st L Y → cost X ≤ cost Y) ∧ X v = true
open Classical in
noncomputable def lastL (cost : (Nat → Bool) → Int) (st L : List Nat) : List Nat := L.filter fun v => decide (LeastAt cost st L v)
theorem fit_cut {n : Nat} {st L : List Nat} {X : Nat → Bool} (hL : ∀ x ∈ L, x < n) (hs : ∀ x ∈ st, x ∈ L) (h : Fit st (restL n (inX L)) X) : Sub st L (fun v => X v && inX L v) ∧ ∀ v, v < n → X v = (X v && inX L v) := by
  refine ⟨⟨fun x hx => ?_, fun v hv => ?_⟩, fun v hv => ?_⟩
  · show (X x && inX L x) = true
    rw [h.1 x hx, show inX L x = true from decide_eq_true (hs x hx)]; rfl
  · have hv : (X v && inX L v) = true := hv
    rw [Bool.and_eq_true] at hv
    exact of_decide_eq_true hv.2
  · cases q : inX L v with
    | true => simp
    | false => rw [h.2 v (restL_mem.mpr ⟨hv, q⟩)]; rfl
theorem sub_fit {n : Nat} {st L : List Nat} {X : Nat → Bool} (h : Sub st L X) : Fit st (restL n (inX L)) X := ⟨h.1, fun x hx => by
  have := (restL_mem.mp hx).2
  cases q : X x with
  | false => rfl
  | true =>
    have := of_decide_eq_false this
    exact absurd (h.2 x q) this⟩
theorem sub_self {st L : List Nat} (hs : ∀ x ∈ st, x ∈ L) : Sub st L (inX L) := ⟨fun x hx => decide_eq_true (hs x hx), fun v hv => of_decide_eq_true hv⟩
theorem full {n : Nat} {L : List Nat} (hd : L.Nodup) (hL : ∀ x ∈ L, x < n) (e : L.length = n) : ∀ v, v < n → v ∈ L := fun v hv => by
  by_cases q : v ∈ L
  · exact q
  · have := nodup_le n (v :: L) (List.nodup_cons.mpr ⟨q, hd⟩) fun x hx => by
      rcases List.mem_cons.mp hx with rfl | hx
      · exact hv
      · exact hL x hx
    rw [List.length_cons] at this
    omega
theorem held_full {tw : Bool} {n : Nat} {ts : List (Nat × Nat)} {ws : List Int} {st L : List Nat} (hr : ∀ t ∈ ts, InR n t) (hw : ∀ w ∈ ws, InV w) (hd : L.Nodup) (hL : ∀ x ∈ L, x < n) (e : L.length = n) : heldB (cF tw ts ws) st L = true := by
  rw [heldB_iff]
  intro X _
  have h0 : cF tw ts ws (inX L) = cF tw ts ws fun _ => true := cF_congr hr fun v hv => decide_eq_true (full hd hL e v hv)
  have h1 : cF tw ts ws (fun _ => true) = 0 := by
    have e : Flow.sumK (fun _ => 0) ts.length = 0 := by
      induction ts.length with
      | zero => rfl
      | succ m ih => show Flow.sumK _ m + 0 = 0; rw [ih]; rfl
    rw [← e]
    refine Flow.sumK_eq fun k _ => ?_
    unfold Flow.costK
    simp
  rw [h0, h1]
  exact cF_nonneg hw X
theorem held_value {tw : Bool} {n : Nat} {ts : List (Nat × Nat)} {ws : List Int} {st L : List Nat} {v : Int} (hr : ∀ t ∈ ts, InR n t) (hL : ∀ x ∈ L, x < n) (hs : ∀ x ∈ st, x ∈ L)
    (h1 : ∀ X, Fit st (restL n (inX L)) X → v ≤ cF tw ts ws X) (h2 : ∃ X, Fit st (restL n (inX L)) X ∧ cF tw ts ws X = v) : decide (v = cF tw ts ws (inX L)) = heldB (cF tw ts ws) st L := by
  have : heldB (cF tw ts ws) st L = true ↔ v = cF tw ts ws (inX L) := by
    rw [heldB_iff]
    constructor
    · intro h
      obtain ⟨X, hX, e⟩ := h2
      obtain ⟨q1, q2⟩ := fit_cut hL hs hX
      have := h _ q1
      rw [← cF_congr hr q2, e] at this
      have := h1 _ (sub_fit (n := n) (sub_self hs))
      omega
    · intro e X hX
      rw [← e]
      exact h1 X (sub_fit hX)
  cases q : heldB (cF tw ts ws) st L with
  | true => exact decide_eq_true (this.mp q)
  | false => exact decide_eq_false fun z => by rw [this.mpr z] at q; cases q
open Classical in
theorem last_is {tw : Bool} {n : Nat} {ts : List (Nat × Nat)} {ws : List Int} {st L L0 : List Nat} (hr : ∀ t ∈ ts, InR n t) (hu : Up L) (hL : ∀ x ∈ L, x < n) (hs : ∀ x ∈ st, x ∈ L)
    (h : LastS n (cF tw ts ws) st (restL n (inX L)) L0) : L0 = lastL (cF tw ts ws) st L := by
  obtain ⟨p, hp⟩ := h.row
  have hin : ∀ x ∈ L0, x ∈ L := fun x hx => by
    by_cases q : x ∈ L
    · exact q
    · have := h.fit.2 x (restL_mem.mpr ⟨h.lt x hx, decide_eq_false q⟩)
      exact absurd hx (of_decide_eq_false this)
  refine Up.ext (hp ▸ restL_up n p) (hu.filter _) fun x => ?_
  unfold lastL
  rw [List.mem_filter, decide_eq_true_iff]
  constructor
  · intro hx
    exact ⟨hin x hx, inX L0, ⟨fun y hy => h.fit.1 y hy, fun v hv => hin v (of_decide_eq_true hv)⟩, fun Y hY => h.least Y (sub_fit hY), decide_eq_true hx⟩
  · rintro ⟨hx, X, hX, hm, hXx⟩
    refine h.great X (sub_fit hX) ?_ x (hL x hx) hXx
    have h1 := h.least X (sub_fit hX)
    obtain ⟨q1, q2⟩ := fit_cut hL hs h.fit
    have h2 := hm _ q1
    rw [← cF_congr hr q2] at h2
    omega
/-- what a lot's answers are -/
noncomputable def ansD (cost : (Nat → Bool) → Int) (st L : List Nat) : List D :=
  [.bl (heldB cost st L), if heldB cost st L = true then .non else .tup (nL (lastL cost st L)), .tup (nL (L.filter fun p => heldB cost [p] L))]
/-- costs of sides within the lot alone -/
def SameC (L : List Nat) (c1 c2 : (Nat → Bool) → Int) : Prop := ∀ X : Nat → Bool, (∀ v, X v = true → v ∈ L) → c1 X = c2 X
theorem heldB_same {c1 c2 : (Nat → Bool) → Int} {L : List Nat} (h : SameC L c1 c2) (st : List Nat) : heldB c1 st L = heldB c2 st L := by
  have : HeldP c1 st L ↔ HeldP c2 st L := forall_congr' fun X => by
    constructor <;> intro q hX <;> have := q hX <;> rw [h _ hX.2, h (inX L) fun v hv => of_decide_eq_true hv] at *
    · exact this
    · exact this
  exact Bool.eq_iff_iff.mpr (heldB_iff.trans (this.trans heldB_iff.symm))
theorem lastL_same {c1 c2 : (Nat → Bool) → Int} {L : List Nat} (h : SameC L c1 c2) (st : List Nat) : lastL c1 st L = lastL c2 st L := by
  unfold lastL
  congr 1
  funext v
  apply decide_eq_decide.mpr
  constructor
  · rintro ⟨X, hX, hm, hv⟩
    exact ⟨X, hX, fun Y hY => by rw [← h _ hX.2, ← h _ hY.2]; exact hm Y hY, hv⟩
  · rintro ⟨X, hX, hm, hv⟩
    exact ⟨X, hX, fun Y hY => by rw [h _ hX.2, h _ hY.2]; exact hm Y hY, hv⟩
theorem ansD_same {c1 c2 : (Nat → Bool) → Int} {L : List Nat} (h : SameC L c1 c2) (st : List Nat) : ansD c1 st L = ansD c2 st L := by
  unfold ansD
  rw [heldB_same h st, lastL_same h st]
  rw [show (fun p => heldB c1 [p] L) = fun p => heldB c2 [p] L from funext fun p => heldB_same h [p]]
end DLaw

set_option maxHeartbeats 4000000
/-! K20R: what is held, what breaks a lot, who holds it. -/
namespace DLaw
open PySem DL
local macro_rules
  | `(tactic| simp! only [$ts,*]) => `(tactic| simp -implicitDefEqProofs only [sL_cons, sL_nil, kS_nx, kS_ret, kS_err, sNx_ap, sAs_ap, kB_ok, kB_err, backE_self, kA_ok, kA_err, sIf_ap, kI_ok, kI_err, sFo_ap, kF_ok, sTu_ap, kU, sAp_ap, sSu_ap, kJ_ok, sAt_ap, sAu_ap, sR0_ap, sRe_ap, retR_fz, retR_fr, sEx_ap, sret_ap, sRs_ap, kR, sTr_ap, kT_ok, kT_err, sRN, stF, stO, stC, appD, setD, mutD, insD, insS, augD, augS, fzE, fz1, xB, xK, xW, xN, xV, xBin, xNeg, xNot, xAnd, xOr, xCmp, xCmp2, xIf, xKs, xBs, xTup, xLst, xO, xSl, xRev, revD_lst, xIx, xFld, xFldN, isI, slfD, xBlt, xMt, xRg1, xRg2, rgR_l, rgR_t, xCal, xIsi, xIsi2, tNot, tAnd, tOr, tCmp, tCmp2, tTru, tYes, iR1, iR2, iEn, zipO, iZip, iPl, xC1, xC2, noErr_ap, kN_ok, dbind_dret, dbind_wrong, dbind_ap, dret_ap, dwrong_ap, kD_ok, kD_err, bOf_fz, bOf_fr, bOf_bo, kOf_fz, kOf_fr, intD_int, blD_bl, dget_some, dbl_some, dgetZ_some, dlist_nil, dlist_cons, outD_ret, outD_nx, outD_err, outI_ok', outI_err, add_int, sub_int, mul_int, div_int, mod_int, pow_int, add_lst, lt_int, le_int, gt_int, ge_int, eq_int, ne_int, ix_lst, ix_tup, ix_scr, ix_cel, dcel_ap, dtru, truD, lenOk_sm, List.length_cons, List.length_nil, Nat.reduceAdd, Nat.reduceLeDiff, Nat.reduceLT, List.getElem?_cons_zero, List.getElem?_cons_succ, List.set_cons_zero, List.set_cons_succ, if_true, if_false, ite_true, ite_false, decide_true, decide_false, Bool.false_eq_true, Bool.not_true, Bool.not_false, Bool.true_and, Bool.false_and, Bool.and_true, Bool.and_false, decide_eq_true_eq, not_false_eq_true, not_true_eq_false, dif_t, $ts,*])
section
variable {c : Ce} {tw : Bool} {n : Nat} {ts : List (Nat × Nat)} {ws : List Int} {st L : List Nat}
theorem filled_spec {nm : Str} (h : st ≠ []) : Q_fcheck_filled [.tup (nL st), .str nm] c = .ok (.fz .non) c := by
  rw [q_fcheck_filled]
  have hl : 0 < st.length := List.length_pos_iff.mpr h
  have a1 : ¬ (((nL st).length : Int) = 0) := by rw [nL_len]; omega
  simp! only [b_fcheck_filled, s0_fcheck_filled, bLen_tup, a1]
/-- a lot with holders in it -/
structure Lot (n : Nat) (st L : List Nat) : Prop where
  up : Up st
  upL : Up L
  ne : st ≠ []
  sub : ∀ x ∈ st, x ∈ L
  lt : ∀ x ∈ L, x < n
/-- a net with a world -/
structure NetW (n : Nat) (ts : List (Nat × Nat)) (ws : List Int) : Prop where
  one : 1 ≤ n
  most : n ≤ 12
  len : ts.length ≤ 40
  inr : ∀ t ∈ ts, InR n t
  wlen : ws.length = ts.length
  wok : ∀ w ∈ ws, InV w
theorem restN_spec (hn : n ≤ 1000) : Q_frest [.int n, .tup (nL L)] c = .ok (.fz (.tup (nL (restL n (inX L))))) c := by
  rw [nL_iL, rest_spec hn]
  have : (fun v : Nat => decide ((v : Int) ∈ L.map fun (n : Nat) => (n : Int))) = inX L := funext fun v => decide_eq_decide.mpr (mem_nat v L)
  rw [this]
theorem len_le (hu : Up L) (hL : ∀ x ∈ L, x < n) : L.length ≤ n := nodup_le n L hu.nodup hL
theorem held_spec {one : List Nat} (hN : NetW n ts ws) (hl : Lot n st L) : Q_fis_held [NetC tw n ts, .tup (iL ws), .tup (nL st), .tup (nL L)] c = .ok (.fz (.bl (heldB (cF tw ts ws) st L))) c := by
  rw [q_fis_held]
  have hn := hN.most
  have h40 := hN.len
  have f1 : g_fis_held_size (NetC tw n ts) = dret (.fz (.int n)) := by cases tw <;> kernel_rfl
  have l1 : bLen [.tup (nL L)] = dret (.fz (.int L.length)) := by rw [bLen_tup, nL_len]
  by_cases h : (L.length : Int) = (n : Int)
  · rw [held_full hN.inr hN.wok hl.upL.nodup hl.lt (by omega)]
    have h := eq_true h
    simp! only [b_fis_held, s0_fis_held, f1, l1, h]
  · obtain ⟨v, e, v1, v2⟩ := value_spec (c := c) (tw := tw) (n := n) (ts := ts) (ws := ws) (st := st) (go := restL n (inX L)) (by omega) hN.inr (by omega) hl.up.nodup (fun x hx => hl.lt x (hl.sub x hx)) hN.wlen hN.wok
      fun x hx hr => of_decide_eq_false (restL_mem.mp hr).2 (hl.sub x hx)
    have e2 := restN_spec (c := c) (n := n) (L := L) (by omega)
    have e3 := costof_spec (c := c) (tw := tw) (n := n) (ts := ts) (ws := ws) (lot := L) hN.wlen
    rw [← held_value (tw := tw) (n := n) (v := v) hN.inr hl.lt hl.sub v1 v2]
    show _ = Rs.ok (RV.fz (D.bl (decide (v = Flow.costF ts.length (tF ts) (rF ws) tw (inX L))))) c
    simp! only [b_fis_held, s0_fis_held, s1_fis_held, f1, l1, h, e, e2, e3]
theorem lot_one (hl : Lot n st L) {p : Nat} (hp : p ∈ L) : Lot n [p] L := ⟨List.pairwise_singleton _ _, hl.upL, by simp, fun x hx => by rw [List.mem_singleton] at hx; subst hx; exact hp, hl.lt⟩
theorem holdersof_spec {A G : D} {l2 : List Nat} (hN : NetW n ts ws) (hl : Lot n st L) (hA : SeqI A (iL ws)) (hG : SeqI G (nL l2)) (p2 : l2.Perm L) :
    Q_fholders_of [NetC tw n ts, A, G] c = .ok (.fz (.tup (nL (L.filter fun p => heldB (cF tw ts ws) [p] L)))) c := by
  rw [q_fholders_of]
  have hn := hN.most
  have hlen := len_le hl.upL hl.lt
  have f1 : g_fholders_of_size (NetC tw n ts) = dret (.fz (.int n)) := by cases tw <;> kernel_rfl
  have e1 := world_of_spec (c := c) (tw := tw) (n := n) hA (fun w h => (hN.wok w h).1) hN.wlen
  have s2 : srt l2 = L := (srt_up (p2.nodup_iff.mpr hl.upL.nodup)).ext hl.upL fun _ => srt_mem.trans p2.mem_iff
  have e3 := lotof_spec (c := c) hG hN.one hN.most (p2.nodup_iff.mpr hl.upL.nodup) fun x hx => hl.lt x (p2.mem_iff.mp hx)
  rw [s2] at e3
  have hne : L ≠ [] := fun z => by
    obtain ⟨a, ha⟩ := List.exists_mem_of_ne_nil _ hl.ne
    have := hl.sub a ha
    rw [z] at this; cases this
  have e4 : dloop (c1_fholders_of [(some (DV.fz (NetC tw n ts))), (some (DV.fz (.tup (iL ws)))), (some (DV.fz (.tup (nL L)))), none]) (nL L) c = .ok (nL (L.filter fun p => heldB (cF tw ts ws) [p] L)) c := by
    rw [← filterNn]
    refine dloop_fmap (g := fun (k : Nat) => D.int (k : Int)) L fun p hp => ?_
    have e := held_spec (c := c) (tw := tw) (one := []) hN (lot_one hl hp)
    have e' : Q_fis_held [NetC tw n ts, .tup (iL ws), .tup [.int (p : Int)], .tup (nL L)] c = .ok (.fz (.bl (heldB (cF tw ts ws) [p] L))) c := e
    cases h : heldB (cF tw ts ws) [p] L with
    | true =>
      rw [h] at e'
      simp! only [c1_fholders_of, sTn, gP, bindP, bindPs, tupV, cT1, wipeD, e']
    | false =>
      rw [h] at e'
      simp! only [c1_fholders_of, sTn, gP, bindP, bindPs, tupV, cT1, wipeD, e']
  have hL : lenOk (nL L).length = true := lenOk_of (by rw [nL_len]; omega)
  simp! only [b_fholders_of, s0_fholders_of, s1_fholders_of, s2_fholders_of, s3_fholders_of, f1, e1, e3, filled_spec hne, items?, hL, e4, bTuple_lst]
theorem nL_rev (l : List Nat) : (nL l).reverse = nL l.reverse := by simp [nL]
end
end DLaw

set_option maxHeartbeats 4000000
/-! K20S15: the draws. -/
namespace DLaw
open PySem DL
local macro_rules
  | `(tactic| simp! only [$ts,*]) => `(tactic| simp -implicitDefEqProofs only [sL_cons, sL_nil, kS_nx, kS_ret, kS_err, sNx_ap, sAs_ap, kB_ok, kB_err, backE_self, kA_ok, kA_err, sIf_ap, kI_ok, kI_err, sFo_ap, kF_ok, sTu_ap, kU, sAp_ap, sSu_ap, kJ_ok, sAt_ap, sAu_ap, sR0_ap, sRe_ap, retR_fz, retR_fr, sEx_ap, sret_ap, sRs_ap, kR, sTr_ap, kT_ok, kT_err, sRN, stF, stO, stC, appD, setD, mutD, insD, insS, augD, augS, fzE, fz1, xB, xK, xW, xN, xV, xBin, xNeg, xNot, xAnd, xOr, xCmp, xCmp2, xIf, xKs, xBs, xTup, xLst, xO, xSl, xRev, revD_lst, xIx, xFld, xFldN, isI, slfD, xBlt, xMt, xRg1, xRg2, rgR_l, rgR_t, xCal, xIsi, xIsi2, tNot, tAnd, tOr, tCmp, tCmp2, tTru, tYes, iR1, iR2, iEn, zipO, iZip, iPl, xC1, xC2, noErr_ap, kN_ok, dbind_dret, dbind_wrong, dbind_ap, dret_ap, dwrong_ap, kD_ok, kD_err, bOf_fz, bOf_fr, bOf_bo, kOf_fz, kOf_fr, intD_int, blD_bl, dget_some, dbl_some, dgetZ_some, dlist_nil, dlist_cons, outD_ret, outD_nx, outD_err, outI_ok', outI_err, add_int, sub_int, mul_int, div_int, mod_int, pow_int, add_lst, lt_int, le_int, gt_int, ge_int, eq_int, ne_int, ix_lst, ix_tup, ix_scr, ix_cel, dcel_ap, dtru, truD, lenOk_sm, List.length_cons, List.length_nil, Nat.reduceAdd, Nat.reduceLeDiff, Nat.reduceLT, List.getElem?_cons_zero, List.getElem?_cons_succ, List.set_cons_zero, List.set_cons_succ, if_true, if_false, ite_true, ite_false, decide_true, decide_false, Bool.false_eq_true, Bool.not_true, Bool.not_false, Bool.true_and, Bool.false_and, Bool.and_true, Bool.and_false, decide_eq_true_eq, not_false_eq_true, not_true_eq_false, dif_t, $ts,*])
def u0_f_law_draws : XS' := (sAs [] (stF 3) (xBlt bInt [(xIx (xV 0) (xV 2))]))
def u1_f_law_draws : XS' := (sIf [] (tCmp .Lt (xV 3) (xN (.int 0))) (sL [(sAs [] (stF 3) (xBin .Sub (xN (.int 2)) (xV 3)))]) (sL []))
def u2_f_law_draws : XS' := (sIf [] (tCmp .GtE (xV 3) (xBin .Pow (xN (.int 10)) (xN (.int 18)))) (sL [(sFo [] (gP (.sl 4)) (iR1 (xN (.int 60))) y1_f_law_draws)]) z2_f_law_draws)
theorem rangeD_get0 {hi : Int} {k : Nat} (h : k < (rangeD 0 hi).length) : (rangeD 0 hi)[k] = .int (k : Int) := by simp [rangeD]
/-- a cell with room -/
def Wb (b : Nat) (c : Ce) : Prop := ∃ a r, c = some (a :: r) ∧ 1 ≤ a ∧ r.length ≤ b
theorem Wb.up {b b' : Nat} {c : Ce} (h : Wb b c) (hb : b ≤ b') : Wb b' c := by
  obtain ⟨a, r, e, h1, h2⟩ := h
  exact ⟨a, r, e, h1, by omega⟩
theorem celApp_ok {b : Nat} {c : Ce} {E : EnvD} {i : Int} (h : Wb b c) (hb : b ≤ 100000) : ∃ c', celApp E (.int i) c = .ok .nx E c' ∧ Wb (b + 1) c' := by
  obtain ⟨a, r, rfl, h1, h2⟩ := h
  refine ⟨some (a :: (r ++ [i])), ?_, a, r ++ [i], rfl, h1, by simp; omega⟩
  show (if decide ((a :: r).length < 16777216) = true then RsS.ok .nx E (some ((a :: r) ++ [i])) else .wrong) = _
  rw [if_pos (decide_eq_true (by simp; omega))]
  rfl
theorem turn60 {b : Nat} {c : Ce} {ns : List Int} {at_ cell : Int} {x4 x5 : Option DV} (h : Wb b c) (hb : b ≤ 90000) : ∃ (E' : EnvD) (c' : Ce), sfor (sTn (gP (.sl 4)) y1_f_law_draws) (rangeD 0 60) [(some (DV.fz (.scr ns))), (some (DV.fz (.cel))), (some (DV.fz (D.int (at_)))), (some (DV.fz (D.int (cell)))), x4, x5] c = .ok .nx E' c' ∧ (∃ (cell' : Int) (x4' : Option DV), E' = [(some (DV.fz (.scr ns))), (some (DV.fz (.cel))), (some (DV.fz (D.int (at_)))), (some (DV.fz (D.int (cell')))), x4', x5]) ∧ Wb (b + 60) c' := by
  obtain ⟨E', c', e, cell', x4', rfl, hw⟩ := sfor_inv (f := sTn (gP (.sl 4)) y1_f_law_draws) (P := fun k E c' => ∃ (cell' : Int) (x4' : Option DV), E = [(some (DV.fz (.scr ns))), (some (DV.fz (.cel))), (some (DV.fz (D.int (at_)))), (some (DV.fz (D.int (cell')))), x4', x5] ∧ Wb (b + k) c')
    (rangeD 0 60) 0 [(some (DV.fz (.scr ns))), (some (DV.fz (.cel))), (some (DV.fz (D.int (at_)))), (some (DV.fz (D.int (cell)))), x4, x5] c ⟨cell, x4, rfl, h⟩ fun k hk E c' hP => by
      obtain ⟨cell', x4', rfl, hw⟩ := hP
      rw [Nat.zero_add] at *
      rw [rangeD_get0 hk]
      have hk60 : k < 60 := by simpa [rangeD] using hk
      have hd : decide ((24 : Int) ≠ 0) = true := by decide
      have hd2 : decide ((24 : Int).natAbs < 1073741824) = true := by decide
      by_cases hc : 0 < cell'
      · have hc := eq_true hc
        obtain ⟨c2, e2, h2⟩ := celApp_ok (E := [(some (DV.fz (.scr ns))), (some (DV.fz (.cel))), (some (DV.fz (D.int (at_)))), (some (DV.fz (D.int (cell')))), (some (DV.fz (D.int ((k : Int))))), x5]) (i := cell'.fmod 24) hw (by omega)
        refine ⟨[(some (DV.fz (.scr ns))), (some (DV.fz (.cel))), (some (DV.fz (D.int (at_)))), (some (DV.fz (D.int (cell'.fdiv 24)))), (some (DV.fz (D.int ((k : Int))))), x5], c2, ?_, _, _, rfl, h2⟩
        simp! only [y1_f_law_draws, z1_f_law_draws, sTn, gP, bindP, bindPs, tupV, cT1, wipeD, hc, bInt_int, hd, hd2, e2]
      · refine ⟨[(some (DV.fz (.scr ns))), (some (DV.fz (.cel))), (some (DV.fz (D.int (at_)))), (some (DV.fz (D.int (cell')))), (some (DV.fz (D.int ((k : Int))))), x5], c', ?_, _, _, rfl, hw.up (by omega)⟩
        simp! only [y1_f_law_draws, z1_f_law_draws, sTn, gP, bindP, bindPs, tupV, cT1, wipeD, hc]
  refine ⟨_, c', e, ⟨cell', x4', rfl⟩, hw.up ?_⟩
  simp [rangeD]
theorem fmodM (i : Int) : 0 ≤ i.fmod 4294967291 ∧ i.fmod 4294967291 < 4294967291 := fmod_b (by omega)
theorem turn5 {b : Nat} {c : Ce} {ns : List Int} {at_ : Nat} {cell seed : Int} {x4 : Option DV} (h : Wb b c) (hb : b ≤ 90000) (ha : at_ ≤ 100) (hs : 0 ≤ seed ∧ seed < 4294967291) : ∃ (E' : EnvD) (c' : Ce), sfor (sTn (gP (.sl 4)) y2_f_law_draws) (rangeD 0 5) [(some (DV.fz (.scr ns))), (some (DV.fz (.cel))), (some (DV.fz (D.int ((at_ : Int))))), (some (DV.fz (D.int (cell)))), x4, (some (DV.fz (D.int (seed))))] c = .ok .nx E' c' ∧ (∃ (x4' x5' : Option DV), E' = [(some (DV.fz (.scr ns))), (some (DV.fz (.cel))), (some (DV.fz (D.int ((at_ : Int))))), (some (DV.fz (D.int (cell)))), x4', x5']) ∧ Wb (b + 60) c' := by
  obtain ⟨E', c', e, x4', seed', rfl, hs', hw⟩ := sfor_inv (f := sTn (gP (.sl 4)) y2_f_law_draws) (P := fun k E c' => ∃ (x4' : Option DV) (seed' : Int), E = [(some (DV.fz (.scr ns))), (some (DV.fz (.cel))), (some (DV.fz (D.int ((at_ : Int))))), (some (DV.fz (D.int (cell)))), x4', (some (DV.fz (D.int (seed'))))] ∧ (0 ≤ seed' ∧ seed' < 4294967291) ∧ Wb (b + k) c')
    (rangeD 0 5) 0 [(some (DV.fz (.scr ns))), (some (DV.fz (.cel))), (some (DV.fz (D.int ((at_ : Int))))), (some (DV.fz (D.int (cell)))), x4, (some (DV.fz (D.int (seed))))] c ⟨x4, seed, rfl, hs, h⟩ fun k hk E c' hP => by
      obtain ⟨x4', s, rfl, hs', hw⟩ := hP
      rw [Nat.zero_add] at *
      rw [rangeD_get0 hk]
      have hk5 : k < 5 := by simpa [rangeD] using hk
      have m1 : mulOk s s = true := mulOk_l (by omega) (by omega)
      have m2 : mulOk (k : Int) 1013904 = true := mulOk_l (by omega) (by omega)
      have m3 : mulOk (at_ : Int) 31 = true := mulOk_l (by omega) (by omega)
      have hd : decide ((4294967291 : Int) ≠ 0) = true := by decide
      have hd1 : decide ((16 : Int) ≠ 0) = true := by decide
      have hd2 : decide ((16 : Int).natAbs < 1073741824) = true := by decide
      generalize hq : (s * s + (k : Int) * 1013904 + (at_ : Int) * 31 + 7).fmod 4294967291 = s2
      have hs2 : 0 ≤ s2 ∧ s2 < 4294967291 := by rw [← hq]; exact fmodM _
      obtain ⟨c2, e2, h2⟩ := celApp_ok (E := [(some (DV.fz (.scr ns))), (some (DV.fz (.cel))), (some (DV.fz (D.int ((at_ : Int))))), (some (DV.fz (D.int (cell)))), (some (DV.fz (D.int ((k : Int))))), (some (DV.fz (D.int (s2))))]) (i := s2.fdiv 16) hw (by omega)
      refine ⟨[(some (DV.fz (.scr ns))), (some (DV.fz (.cel))), (some (DV.fz (D.int ((at_ : Int))))), (some (DV.fz (D.int (cell)))), (some (DV.fz (D.int ((k : Int))))), (some (DV.fz (D.int (s2))))], c2, ?_, _, _, rfl, hs2, h2⟩
      simp! only [y2_f_law_draws, sTn, gP, bindP, bindPs, tupV, cT1, wipeD, m1, m2, m3, bInt_int, hd, hd1, hd2, hq, e2]
  refine ⟨_, c', e, ⟨x4', _, rfl⟩, hw.up ?_⟩
  simp [rangeD]
theorem draws_spec {ns : List Int} (hn : ns.length ≤ 63) : ∃ c', Q_f_law_draws [.scr ns] none = .ok (.fz .cel) c' ∧ Wc c' := by
  rw [q_f_law_draws]
  have t0 : s0_f_law_draws [(some (DV.fz (.scr ns))), none, none, none, none, none] none = .ok .nx [(some (DV.fz (.scr ns))), (some (DV.fz (.cel))), none, none, none, none] (some [1]) := by
    have : mkCell [(some (DV.fz (.scr ns))), none, none, none, none, none] 1 [.int 1] none = .ok .nx [(some (DV.fz (.scr ns))), (some (DV.fz (.cel))), none, none, none, none] (some [1]) := rfl
    simp! only [s0_f_law_draws, this]
  have hmin : (if ((ns.length : Nat) : Int) < 63 then ((ns.length : Nat) : Int) else 63) = (ns.length : Int) := by
    by_cases q : ((ns.length : Nat) : Int) < 63
    · rw [if_pos q]
    · rw [if_neg q]; omega
  have hR : rngOk 0 (ns.length : Int) = true := rngOk_of (by omega) (by omega) (by omega) (by omega)
  have hp1 : (decide (0 ≤ (18 : Int)) && decide ((18 : Int) ≤ 1000000) && decide ((10 : Int).natAbs < 2 ^ 64)) = true := by decide
  have r60 : rngOk 0 60 = true := by decide
  have r5 : rngOk 0 5 = true := by decide
  have hd : decide ((4294967291 : Int) ≠ 0) = true := by decide
  obtain ⟨E', c', e, x2, x3, x4, x5, rfl, hw⟩ := sfor_inv (f := sTn (gP (.sl 2)) y3_f_law_draws) (P := fun k E c' => ∃ (x2 x3 x4 x5 : Option DV), E = [(some (DV.fz (.scr ns))), (some (DV.fz (.cel))), x2, x3, x4, x5] ∧ Wb (60 * k) c')
    (rangeD 0 (ns.length : Int)) 0 [(some (DV.fz (.scr ns))), (some (DV.fz (.cel))), none, none, none, none] (some [1]) ⟨none, none, none, none, rfl, 1, [], rfl, by omega, by simp⟩ fun k hk E c' hP => by
      obtain ⟨x2, x3, x4, x5, rfl, hw⟩ := hP
      rw [Nat.zero_add] at *
      rw [rangeD_get0 hk]
      rw [range_len] at hk
      have ha : L2.atI ns (k : Int) = some ns[k] := by rw [atI_cast, List.getElem?_eq_getElem hk]
      obtain ⟨i, u1⟩ : ∃ i : Int, ∀ r, sL (u0_f_law_draws :: u1_f_law_draws :: r) [(some (DV.fz (.scr ns))), (some (DV.fz (.cel))), (some (DV.fz (D.int ((k : Int))))), x3, x4, x5] c' = sL r [(some (DV.fz (.scr ns))), (some (DV.fz (.cel))), (some (DV.fz (D.int ((k : Int))))), (some (DV.fz (D.int (i)))), x4, x5] c' := by
        by_cases hneg : ns[k] < 0
        · have hneg := eq_true hneg
          exact ⟨2 - ns[k], fun r => by simp! only [u0_f_law_draws, u1_f_law_draws, ha, Option.map_some, bInt_int, hneg]⟩
        · exact ⟨ns[k], fun r => by simp! only [u0_f_law_draws, u1_f_law_draws, ha, Option.map_some, bInt_int, hneg]⟩
      have hy : y3_f_law_draws = sL [u0_f_law_draws, u1_f_law_draws, u2_f_law_draws] := rfl
      have hst : sTn (gP (.sl 2)) y3_f_law_draws (.int (k : Int)) [(some (DV.fz (.scr ns))), (some (DV.fz (.cel))), x2, x3, x4, x5] c' = y3_f_law_draws [(some (DV.fz (.scr ns))), (some (DV.fz (.cel))), (some (DV.fz (D.int ((k : Int))))), x3, x4, x5] c' := by
        simp -implicitDefEqProofs only [sTn, gP, bindP, bindPs, tupV, cT1, wipeD, List.set_cons_succ, List.set_cons_zero]
      rw [hst, hy, u1]
      by_cases hbig : (10 : Int) ^ (18 : Int).toNat ≤ i
      · have hbig := eq_true hbig
        obtain ⟨E2, c2, e2, ⟨cell', x4', rfl⟩, h2⟩ := turn60 (ns := ns) (at_ := (k : Int)) (cell := i) (x4 := x4) (x5 := x5) hw (by omega)
        refine ⟨[(some (DV.fz (.scr ns))), (some (DV.fz (.cel))), (some (DV.fz (D.int ((k : Int))))), (some (DV.fz (D.int (cell')))), x4', x5], c2, ?_, _, _, _, _, rfl, h2.up (by omega)⟩
        simp! only [u2_f_law_draws, hp1, hbig, r60, e2]
      · have m1 : mulOk i 69069 = true := mulOk_r (by omega) (by omega)
        have m2 : mulOk (k : Int) 362437 = true := mulOk_l (by omega) (by omega)
        generalize hq : (i * 69069 + (k : Int) * 362437 + 12345).fmod 4294967291 = sd
        have hsd : 0 ≤ sd ∧ sd < 4294967291 := by rw [← hq]; exact fmodM _
        obtain ⟨E2, c2, e2, ⟨x4', x5', rfl⟩, h2⟩ := turn5 (ns := ns) (at_ := k) (cell := i) (seed := sd) (x4 := x4) hw (by omega) (by omega) hsd
        refine ⟨[(some (DV.fz (.scr ns))), (some (DV.fz (.cel))), (some (DV.fz (D.int ((k : Int))))), (some (DV.fz (D.int (i)))), x4', x5'], c2, ?_, _, _, _, _, rfl, h2.up (by omega)⟩
        simp! only [u2_f_law_draws, z2_f_law_draws, hp1, hbig, m1, m2, hd, bInt_int, hq, r5, e2]
  obtain ⟨a, r, rfl, h1, h2⟩ := hw
  refine ⟨some (a :: r), ?_, a, r, rfl, h1⟩
  unfold b_f_law_draws
  rw [sL_cons, t0, kS_nx]
  simp! only [s1_f_law_draws, s2_f_law_draws, bLen_scr, bMin_two, hmin, hR, e]
end DLaw

set_option maxHeartbeats 4000000
/-! K20T: the law's own counting. -/
namespace DLaw
open PySem DL
local macro_rules
  | `(tactic| simp! only [$ts,*]) => `(tactic| simp -implicitDefEqProofs only [sL_cons, sL_nil, kS_nx, kS_ret, kS_err, sNx_ap, sAs_ap, kB_ok, kB_err, backE_self, kA_ok, kA_err, sIf_ap, kI_ok, kI_err, sFo_ap, kF_ok, sTu_ap, kU, sAp_ap, sSu_ap, kJ_ok, sAt_ap, sAu_ap, sR0_ap, sRe_ap, retR_fz, retR_fr, sEx_ap, sret_ap, sRs_ap, kR, sTr_ap, kT_ok, kT_err, sRN, stF, stO, stC, appD, setD, mutD, insD, insS, augD, augS, fzE, fz1, xB, xK, xW, xN, xV, xBin, xNeg, xNot, xAnd, xOr, xCmp, xCmp2, xIf, xKs, xBs, xTup, xLst, xO, xSl, xRev, revD_lst, xIx, xFld, xFldN, isI, slfD, xBlt, xMt, xRg1, xRg2, rgR_l, rgR_t, xCal, xIsi, xIsi2, tNot, tAnd, tOr, tCmp, tCmp2, tTru, tYes, iR1, iR2, iEn, zipO, iZip, iPl, xC1, xC2, noErr_ap, kN_ok, dbind_dret, dbind_wrong, dbind_ap, dret_ap, dwrong_ap, kD_ok, kD_err, bOf_fz, bOf_fr, bOf_bo, kOf_fz, kOf_fr, intD_int, blD_bl, dget_some, dbl_some, dgetZ_some, dlist_nil, dlist_cons, outD_ret, outD_nx, outD_err, outI_ok', outI_err, add_int, sub_int, mul_int, div_int, mod_int, pow_int, add_lst, lt_int, le_int, gt_int, ge_int, eq_int, ne_int, ix_lst, ix_tup, ix_scr, ix_cel, dcel_ap, dtru, truD, lenOk_sm, List.length_cons, List.length_nil, Nat.reduceAdd, Nat.reduceLeDiff, Nat.reduceLT, List.getElem?_cons_zero, List.getElem?_cons_succ, List.set_cons_zero, List.set_cons_succ, if_true, if_false, ite_true, ite_false, decide_true, decide_false, Bool.false_eq_true, Bool.not_true, Bool.not_false, Bool.true_and, Bool.false_and, Bool.and_true, Bool.and_false, decide_eq_true_eq, not_false_eq_true, not_true_eq_false, dif_t, $ts,*])
theorem ne_bl (a b : Bool) : cmpD .NotEq (.bl a) (.bl b) = dret (.bl (a != b)) := by cases a <;> cases b <;> kernel_rfl
theorem eq_to : cmpD .Eq (.str "twoway") (.str "oneway") = dret (.bl false) := by kernel_rfl
theorem eq_oo : cmpD .Eq (.str "oneway") (.str "oneway") = dret (.bl true) := by kernel_rfl
def kindD (tw : Bool) : D := .str (if tw = true then "twoway" else "oneway")
theorem eqK_o (tw : Bool) : cmpD .Eq (kindD tw) (.str "oneway") = dret (.bl (!tw)) := by cases tw <;> kernel_rfl
theorem eqK_t (tw : Bool) : cmpD .Eq (kindD tw) (.str "twoway") = dret (.bl tw) := by cases tw <;> kernel_rfl
/-- a gate -/
def gB (tw : Bool) (X : Nat → Bool) (t : Nat × Nat) : Bool := (X t.1 && !X t.2) || (tw && (X t.2 && !X t.1))
theorem costK_gB (t : Nat → Nat × Nat) (w : Nat → Int) (tw : Bool) (X : Nat → Bool) (k : Nat) : Flow.costK t w tw X k = if gB tw X (t k) = true then w k else 0 := by
  unfold Flow.costK gB
  cases X (t k).1 <;> cases X (t k).2 <;> cases tw <;> rfl
theorem sum_app1 (l : List Int) (a : Int) : (l ++ [a]).sum = l.sum + a := by simp
theorem sumK_list (q : Nat → Bool) (g : Nat → Int) : ∀ m : Nat, (((List.range m).filter q).map g).sum = Flow.sumK (fun k => if q k = true then g k else 0) m
  | 0 => rfl
  | m + 1 => by
    have ih := sumK_list q g m
    rw [List.range_succ, List.filter_append, List.map_append, List.sum_append, ih]
    show _ = Flow.sumK _ m + _
    congr 1
    by_cases h : q m = true
    · simp [List.filter_cons, h]
    · simp [List.filter_cons, h]
def gK (tw : Bool) (ts : List (Nat × Nat)) (lot : List Nat) : List Nat := (List.range ts.length).filter fun k => gB tw (inX lot) (tF ts k)
def iK (ts : List (Nat × Nat)) (lot : List Nat) : List Nat := (List.range ts.length).filter fun k => inX lot (tF ts k).1 && inX lot (tF ts k).2
theorem filt_le (m : Nat) (q : Nat → Bool) : ((List.range m).filter q).length ≤ m := by
  have := List.length_filter_le q (List.range m)
  rw [List.length_range] at this; exact this
section
variable {c : Ce} {tw : Bool} {n : Nat} {ts : List (Nat × Nat)} {ws : List Int} {st L lot out : List Nat}
theorem kind_spec (h : Wc c) : ∃ (tw : Bool) (c' : Ce), Q_f_law_kind [.cel] c = .ok (.fz (kindD tw)) c' ∧ Wc c' := by
  rw [q_f_law_kind]
  obtain ⟨v, c1, e1, b1, h1⟩ := take_spec h (m := 3) (by omega)
  by_cases q : (v : Int) = 2
  · have q := eq_true q
    exact ⟨false, c1, by simp! only [b_f_law_kind, s0_f_law_kind, e1, q]; rfl, h1⟩
  · exact ⟨true, c1, by simp! only [b_f_law_kind, s0_f_law_kind, s1_f_law_kind, e1, q]; rfl, h1⟩
theorem built_spec (h1 : 1 ≤ n) (h2 : n ≤ 12) (hl : ts.length ≤ 40) (hr : ∀ t ∈ ts, InR n t) : Q_f_law_built [kindD tw, .int n, .lst (pL ts)] c = .ok (.fz (NetC tw n ts)) c := by
  rw [q_f_law_built]
  cases tw with
  | true => simp! only [b_f_law_built, s0_f_law_built, s1_f_law_built, eqK_o, init_Twoway h1 h2 hl hr]
  | false => simp! only [b_f_law_built, s0_f_law_built, s1_f_law_built, eqK_o, init_Oneway h1 h2 hl hr]
theorem atI_tF {k : Nat} (hk : k < ts.length) : L2.atI (pL ts) (k : Int) = some (.tup [.int (tF ts k).1, .int (tF ts k).2]) := by
  rw [atI_cast, pL_get, List.getElem?_eq_getElem hk, tF_get hk]; rfl
theorem ties_range (hl : ts.length ≤ 1000) : rngOk 0 (ts.length : Int) = true ∧ lenOk (rangeD 0 (ts.length : Int)).length = true :=
  ⟨rngOk_of (by omega) (by omega) (by omega) (by omega), lenOk_of (by rw [range_len]; omega)⟩
theorem gates_spec (hl : ts.length ≤ 1000) : Q_f_law_gates [kindD tw, .lst (pL ts), .lst (nL lot)] c = .ok (.fr (nL (gK tw ts lot))) c := by
  rw [q_f_law_gates]
  obtain ⟨hR, hL⟩ := ties_range hl
  have lT : bLen [.lst (pL ts)] = dret (.fz (.int ts.length)) := by rw [bLen_lst, pL_len]
  cases tw with
  | true =>
    have e : dloop (c2_f_law_gates [(some (DV.fz (kindD true))), (some (DV.fz (.lst (pL ts)))), (some (DV.fz (.lst (nL lot)))), none]) (rangeD 0 (ts.length : Int)) c = .ok (nL (gK true ts lot)) c := by
      rw [range_nat, gK, ← filterNn]
      refine dloop_fmap _ fun j hj => ?_
      rw [List.mem_range] at hj
      have a1 := atI_tF hj
      unfold gB inX
      by_cases h1 : (tF ts j).1 ∈ lot <;> by_cases h2 : (tF ts j).2 ∈ lot
      · have h1 := eq_true h1
        have h2 := eq_true h2
        simp! only [c2_f_law_gates, sTn, gP, bindP, bindPs, tupV, cT1, wipeD, a1, atI_zero, atI_one, in_nlst, ne_bl, h1, h2, bne_self_eq_false]
        rfl
      · have h1 := eq_true h1
        have z : (true != false) = true := rfl
        simp! only [c2_f_law_gates, sTn, gP, bindP, bindPs, tupV, cT1, wipeD, a1, atI_zero, atI_one, in_nlst, ne_bl, h1, h2, z]
        rfl
      · have h2 := eq_true h2
        have z : (false != true) = true := rfl
        simp! only [c2_f_law_gates, sTn, gP, bindP, bindPs, tupV, cT1, wipeD, a1, atI_zero, atI_one, in_nlst, ne_bl, h1, h2, z]
        rfl
      · simp! only [c2_f_law_gates, sTn, gP, bindP, bindPs, tupV, cT1, wipeD, a1, atI_zero, atI_one, in_nlst, ne_bl, h1, h2, bne_self_eq_false]
        rfl
    simp! only [b_f_law_gates, s0_f_law_gates, s1_f_law_gates, eqK_o, lT, hR, hL, e]
  | false =>
    have e : dloop (c1_f_law_gates [(some (DV.fz (kindD false))), (some (DV.fz (.lst (pL ts)))), (some (DV.fz (.lst (nL lot)))), none]) (rangeD 0 (ts.length : Int)) c = .ok (nL (gK false ts lot)) c := by
      rw [range_nat, gK, ← filterNn]
      refine dloop_fmap _ fun j hj => ?_
      rw [List.mem_range] at hj
      have a1 := atI_tF hj
      unfold gB inX
      by_cases h1 : (tF ts j).1 ∈ lot
      · have h1 := eq_true h1
        by_cases h2 : (tF ts j).2 ∈ lot
        · have h2 := eq_true h2
          simp! only [c1_f_law_gates, sTn, gP, bindP, bindPs, tupV, cT1, wipeD, a1, atI_zero, atI_one, in_nlst, ni_nlst, h1, h2, Bool.or_self]
        · simp! only [c1_f_law_gates, sTn, gP, bindP, bindPs, tupV, cT1, wipeD, a1, atI_zero, atI_one, in_nlst, ni_nlst, h1, h2, Bool.or_false]
      · by_cases h2 : (tF ts j).2 ∈ lot
        · have h2 := eq_true h2
          simp! only [c1_f_law_gates, sTn, gP, bindP, bindPs, tupV, cT1, wipeD, a1, atI_zero, atI_one, in_nlst, ni_nlst, h1, h2, Bool.or_self]
        · simp! only [c1_f_law_gates, sTn, gP, bindP, bindPs, tupV, cT1, wipeD, a1, atI_zero, atI_one, in_nlst, ni_nlst, h1, h2, Bool.or_self]
    simp! only [b_f_law_gates, s0_f_law_gates, eqK_o, lT, hR, hL, e]
theorem cF_gates : ((gK tw ts lot).map (rF ws)).sum = cF tw ts ws (inX lot) := by
  unfold gK
  rw [sumK_list]
  exact Flow.sumK_eq fun k _ => (costK_gB _ _ _ _ _).symm
theorem lcost_spec (hl : ws.length = ts.length) (hb : ts.length ≤ 1000) : Q_f_law_cost [kindD tw, .lst (pL ts), .lst (iL ws), .lst (nL lot)] c = .ok (.fz (.int (cF tw ts ws (inX lot)))) c := by
  have hS : Q_f_law_sum [.lst (iL ws), .lst (nL (gK tw ts lot))] c = .ok (.fz (.int (cF tw ts ws (inX lot)))) c := by
    rw [q_f_law_sum]
    have hk : ∀ k ∈ gK tw ts lot, k < ts.length := fun k hk => List.mem_range.mp (List.mem_filter.mp hk).1
    have hlen : (gK tw ts lot).length ≤ ts.length := filt_le _ _
    have hL : lenOk (nL (gK tw ts lot)).length = true := lenOk_of (by rw [nL_len]; omega)
    have e : dloop (c1_f_law_sum [(some (DV.fz (.lst (iL ws)))), (some (DV.fz (.lst (nL (gK tw ts lot))))), none]) (nL (gK tw ts lot)) c = .ok (iL ((gK tw ts lot).map (rF ws))) c := by
      rw [iL_mapS (gK tw ts lot)]
      exact dloop_map (g := fun (n : Nat) => D.int (n : Int)) _ fun j hj => by
        have a1 := atI_rF (f := ws) (k := j) (by have := hk j hj; omega)
        simp! only [c1_f_law_sum, sTn, gP, bindP, bindPs, tupV, cT1, wipeD, a1]
    have es := cF_gates (tw := tw) (ts := ts) (ws := ws) (lot := lot)
    simp! only [b_f_law_sum, s0_f_law_sum, items?, hL, e, bSum_ints, es]
  rw [q_f_law_cost]
  simp! only [b_f_law_cost, s0_f_law_cost, gates_spec hb, hS]
theorem lrest_spec (hn : n ≤ 1000) : Q_f_law_rest [.int n, .lst (nL L)] c = .ok (.fr (nL (restL n (inX L)))) c := by
  rw [q_f_law_rest]
  have hR : rngOk 0 (n : Int) = true := rngOk_of (by omega) (by omega) (by omega) (by omega)
  have hL : lenOk (rangeD 0 (n : Int)).length = true := lenOk_of (by rw [range_len]; omega)
  have e : dloop (c1_f_law_rest [(some (DV.fz (D.int ((n : Int))))), (some (DV.fz (.lst (nL L)))), none]) (rangeD 0 (n : Int)) c = .ok (nL (restL n (inX L))) c := by
    rw [range_nat, restL, ← filterNn]
    refine dloop_fmap _ fun j _ => ?_
    unfold inX
    by_cases h : j ∈ L
    · have h := eq_true h
      simp! only [c1_f_law_rest, sTn, gP, bindP, bindPs, tupV, cT1, wipeD, ni_nlst, h]
    · simp! only [c1_f_law_rest, sTn, gP, bindP, bindPs, tupV, cT1, wipeD, ni_nlst, h]
  simp! only [b_f_law_rest, s0_f_law_rest, hR, hL, e]
/-! lots between -/
def lsL (LL : List (List Nat)) : List D := LL.map fun l => D.lst (nL l)
structure LotsOk (k : Nat) (st out : List Nat) (LL : List (List Nat)) : Prop where
  len : LL.length ≤ 2 ^ k
  each : ∀ l ∈ LL, Up l ∧ (∀ x ∈ st, x ∈ l) ∧ ∀ x ∈ l, x ∈ st ∨ (x < k ∧ x ∉ out)
  all : ∀ X : Nat → Bool, (∀ x ∈ out, X x = false) → ∃ l ∈ LL, ∀ v, v ∈ l ↔ v ∈ st ∨ (v < k ∧ X v = true)
theorem lots_spec (hn : n ≤ 8) (hu : Up st) (hs : ∀ x ∈ st, x < n) : ∃ LL : List (List Nat), Q_f_law_lots [.int n, .lst (nL st), .lst (nL out)] c = .ok (.fz (.lst (lsL LL))) c ∧ LotsOk n st out LL := by
  rw [q_f_law_lots]
  have hR : rngOk 0 (n : Int) = true := rngOk_of (by omega) (by omega) (by omega) (by omega)
  have hpow : ∀ k, k ≤ 8 → 2 ^ k ≤ 256 := fun k hk => Nat.pow_le_pow_right (by omega) hk
  obtain ⟨E', c', e, LL, x4, rfl, hO, rfl⟩ := sfor_inv (f := sTn (gP (.sl 4)) y1_f_law_lots) (P := fun k E c' => ∃ (LL : List (List Nat)) (x4 : Option DV), E = [(some (DV.fz (D.int ((n : Int))))), (some (DV.fz (.lst (nL st)))), (some (DV.fz (.lst (nL out)))), (some (DV.fz (.lst (lsL LL)))), x4, none] ∧ LotsOk k st out LL ∧ c' = c)
    (rangeD 0 n) 0 [(some (DV.fz (D.int ((n : Int))))), (some (DV.fz (.lst (nL st)))), (some (DV.fz (.lst (nL out)))), (some (DV.fz (.lst (lsL [st])))), none, none] c ⟨[st], none, rfl, ⟨by simp, fun l hl => by
      rw [List.mem_singleton] at hl; subst hl
      exact ⟨hu, fun x hx => hx, fun x hx => .inl hx⟩, fun X _ => ⟨st, by simp, fun v => by simp⟩⟩, rfl⟩ fun k hk E c' hP => by
      obtain ⟨LL, x4, rfl, hO, rfl⟩ := hP
      rw [Nat.zero_add] at *
      rw [rangeD_get0 hk]
      rw [range_len] at hk
      by_cases h1 : k ∈ st
      · refine ⟨[(some (DV.fz (D.int ((n : Int))))), (some (DV.fz (.lst (nL st)))), (some (DV.fz (.lst (nL out)))), (some (DV.fz (.lst (lsL LL)))), (some (DV.fz (D.int ((k : Int))))), none], c', ?_, LL, _, rfl, ⟨?_, fun l hl => ?_, fun X hX => ?_⟩, rfl⟩
        · have h1 := eq_true h1
          simp! only [y1_f_law_lots, sTn, gP, bindP, bindPs, tupV, cT1, wipeD, ni_nlst, h1]
        · have := hO.len; rw [Nat.pow_succ]; omega
        · obtain ⟨a, b, d⟩ := hO.each l hl
          exact ⟨a, b, fun x hx => (d x hx).imp id fun q => ⟨by omega, q.2⟩⟩
        · obtain ⟨l, hl, q⟩ := hO.all X hX
          refine ⟨l, hl, fun v => (q v).trans ⟨fun z => z.imp id fun q => ⟨by omega, q.2⟩, fun z => ?_⟩⟩
          rcases z with z | ⟨z1, z2⟩
          · exact .inl z
          · by_cases y : v = k
            · subst y; exact .inl h1
            · exact .inr ⟨by omega, z2⟩
      by_cases h2 : k ∈ out
      · refine ⟨[(some (DV.fz (D.int ((n : Int))))), (some (DV.fz (.lst (nL st)))), (some (DV.fz (.lst (nL out)))), (some (DV.fz (.lst (lsL LL)))), (some (DV.fz (D.int ((k : Int))))), none], c', ?_, LL, _, rfl, ⟨?_, fun l hl => ?_, fun X hX => ?_⟩, rfl⟩
        · have h2 := eq_true h2
          simp! only [y1_f_law_lots, sTn, gP, bindP, bindPs, tupV, cT1, wipeD, ni_nlst, h1, h2]
        · have := hO.len; rw [Nat.pow_succ]; omega
        · obtain ⟨a, b, d⟩ := hO.each l hl
          exact ⟨a, b, fun x hx => (d x hx).imp id fun q => ⟨by omega, q.2⟩⟩
        · obtain ⟨l, hl, q⟩ := hO.all X hX
          refine ⟨l, hl, fun v => (q v).trans ⟨fun z => z.imp id fun q => ⟨by omega, q.2⟩, fun z => ?_⟩⟩
          rcases z with z | ⟨z1, z2⟩
          · exact .inl z
          · by_cases y : v = k
            · subst y; rw [hX v h2] at z2; cases z2
            · exact .inr ⟨by omega, z2⟩
      have h256 := hpow k (by omega)
      have hlen := hO.len
      have hL : lenOk (lsL LL).length = true := lenOk_of (by unfold lsL; rw [List.length_map]; omega)
      have hnk : ∀ l ∈ LL, (l ++ [k]).Nodup := fun l hl => by
        obtain ⟨a, b, d⟩ := hO.each l hl
        rw [List.nodup_append]
        exact ⟨a.nodup, by simp, fun x hx y hy => by
          rw [List.mem_singleton] at hy; subst hy
          intro z; subst z
          rcases d x hx with q | q
          · exact h1 q
          · omega⟩
      have ed : dloop (c1_f_law_lots [(some (DV.fz (D.int ((n : Int))))), (some (DV.fz (.lst (nL st)))), (some (DV.fz (.lst (nL out)))), (some (DV.fz (.lst (lsL LL)))), (some (DV.fz (D.int ((k : Int))))), none]) (lsL LL) c' = .ok (lsL (LL.map fun l => srt (l ++ [k]))) c' := by
        unfold lsL
        rw [List.map_map]
        refine dloop_map (g := fun l => D.lst (nL l)) LL fun l hl => ?_
        obtain ⟨a, b, d⟩ := hO.each l hl
        have hll := len_le (n := n) a fun x hx => by
          rcases d x hx with q | q
          · exact hs x q
          · omega
        have e2 : bSorted [.lst (nL l ++ [.int (k : Int)])] = dret (.fr (nL (srt (l ++ [k])))) := by
          rw [← nL_snoc, nL_iL]
          have := bSorted_ints (casts (l ++ [k]))
          rw [srt_iL] at this
          exact this
        have hL2 : lenOk ((nL l).length + 1) = true := lenOk_of (by rw [nL_len]; omega)
        simp! only [c1_f_law_lots, sTn, gP, bindP, bindPs, tupV, cT1, wipeD, hL2, e2]
        rfl
      have hL3 : lenOk ((lsL LL).length + (lsL (LL.map fun l => srt (l ++ [k]))).length) = true := lenOk_of (by unfold lsL; simp -implicitDefEqProofs only [List.length_map]; omega)
      refine ⟨[(some (DV.fz (D.int ((n : Int))))), (some (DV.fz (.lst (nL st)))), (some (DV.fz (.lst (nL out)))), (some (DV.fz (.lst (lsL (LL ++ LL.map fun l => srt (l ++ [k])))))), (some (DV.fz (D.int ((k : Int))))), none], c', ?_, LL ++ LL.map fun l => srt (l ++ [k]), _, rfl, ⟨?_, mem_app (fun l hl => ?_) fun l hl => ?_, fun X hX => ?_⟩, rfl⟩
      · have ha : lsL (LL ++ LL.map fun l => srt (l ++ [k])) = lsL LL ++ lsL (LL.map fun l => srt (l ++ [k])) := List.map_append ..
        rw [ha]
        simp! only [y1_f_law_lots, sTn, gP, bindP, bindPs, tupV, cT1, wipeD, ni_nlst, h1, h2, items?, hL, ed, hL3]
      · rw [List.length_append, List.length_map, Nat.pow_succ]; omega
      · obtain ⟨a, b, d⟩ := hO.each l hl
        exact ⟨a, b, fun x hx => (d x hx).imp id fun q => ⟨by omega, q.2⟩⟩
      · obtain ⟨l, hl', rfl⟩ := List.mem_map.mp hl
        obtain ⟨a, b, d⟩ := hO.each l hl'
        refine ⟨srt_up (hnk l hl'), fun x hx => srt_mem.mpr (List.mem_append_left _ (b x hx)), fun x hx => ?_⟩
        rw [srt_mem] at hx
        rcases List.mem_append.mp hx with q | q
        · exact (d x q).imp id fun q => ⟨by omega, q.2⟩
        · rw [List.mem_singleton] at q; subst q
          exact .inr ⟨by omega, h2⟩
      · obtain ⟨l, hl, q⟩ := hO.all X hX
        by_cases hXk : X k = true
        · refine ⟨srt (l ++ [k]), List.mem_append_right _ (List.mem_map.mpr ⟨l, hl, rfl⟩), fun v => ?_⟩
          rw [srt_mem, List.mem_append, List.mem_singleton, q v]
          constructor
          · rintro ((z | z) | rfl)
            · exact .inl z
            · exact .inr ⟨by omega, z.2⟩
            · exact .inr ⟨by omega, hXk⟩
          · rintro (z | ⟨z1, z2⟩)
            · exact .inl (.inl z)
            · by_cases y : v = k
              · exact .inr y
              · exact .inl (.inr ⟨by omega, z2⟩)
        · refine ⟨l, List.mem_append_left _ hl, fun v => (q v).trans ⟨fun z => z.imp id fun q => ⟨by omega, q.2⟩, fun z => ?_⟩⟩
          rcases z with z | ⟨z1, z2⟩
          · exact .inl z
          · by_cases y : v = k
            · subst y; exact absurd z2 hXk
            · exact .inr ⟨by omega, z2⟩
  rw [Nat.zero_add, range_len] at hO
  have e1 : bSorted [.lst (nL st)] = dret (.fr (nL st)) := by
    have h := bSorted_ints (casts st)
    rw [srt_iL, srt_self hu] at h
    rw [nL_iL] at h ⊢
    exact h
  refine ⟨LL, ?_, hO⟩
  have e' := e
  unfold lsL at e'
  simp -implicitDefEqProofs only [List.map_cons, List.map_nil] at e'
  simp! only [b_f_law_lots, s0_f_law_lots, s1_f_law_lots, s2_f_law_lots, bList_lst, e1, hR, e']
  rfl
theorem lots_held {LL : List (List Nat)} (hr : ∀ t ∈ ts, InR n t) (hl : Lot n st L) (hO : LotsOk n st (restL n (inX L)) LL) : (LL.map fun l => decide (cF tw ts ws (inX L) ≤ cF tw ts ws (inX l))).all id = heldB (cF tw ts ws) st L := by
  apply Bool.eq_iff_iff.mpr
  rw [heldB_iff, List.all_eq_true]
  constructor
  · intro h X hX
    obtain ⟨l, hm, q⟩ := hO.all X fun x hx => by
      cases y : X x with
      | false => rfl
      | true => exact absurd (hX.2 x y) (of_decide_eq_false (restL_mem.mp hx).2)
    have h1 := h _ (List.mem_map.mpr ⟨l, hm, rfl⟩)
    have h1 := of_decide_eq_true h1
    have e : cF tw ts ws (inX l) = cF tw ts ws X := cF_congr hr fun v hv => by
      unfold inX
      cases y : X v with
      | true => exact decide_eq_true ((q v).mpr (.inr ⟨hv, y⟩))
      | false =>
        refine decide_eq_false fun z => ?_
        rcases (q v).mp z with z | z
        · rw [hX.1 v z] at y; cases y
        · rw [z.2] at y; cases y
    rw [← e]; exact h1
  · intro h b hb
    obtain ⟨l, hm, rfl⟩ := List.mem_map.mp hb
    obtain ⟨a, b, d⟩ := hO.each l hm
    refine decide_eq_true (h (inX l) ⟨fun x hx => decide_eq_true (b x hx), fun v hv => ?_⟩)
    rcases d v (of_decide_eq_true hv) with q | q
    · exact hl.sub v q
    · by_cases y : v ∈ L
      · exact y
      · exact absurd (restL_mem.mpr ⟨q.1, decide_eq_false y⟩) q.2
theorem lholds_spec (hn : n ≤ 8) (hN : NetW n ts ws) (hl : Lot n st L) : Q_f_law_holds [kindD tw, .int n, .lst (pL ts), .lst (iL ws), .lst (nL st), .lst (nL L)] c = .ok (.fz (.bl (heldB (cF tw ts ws) st L))) c := by
  rw [q_f_law_holds]
  have h40 := hN.len
  obtain ⟨LL, e1, hO⟩ := lots_spec (c := c) (n := n) (st := st) (out := restL n (inX L)) hn hl.up fun x hx => hl.lt x (hl.sub x hx)
  have e2 := lrest_spec (c := c) (n := n) (L := L) (by omega)
  have e3 : ∀ l, Q_f_law_cost [kindD tw, .lst (pL ts), .lst (iL ws), .lst (nL l)] c = .ok (.fz (.int (cF tw ts ws (inX l)))) c := fun l => lcost_spec hN.wlen (by omega)
  have e4 : ∀ x8, dloop (c1_f_law_holds [(some (DV.fz (kindD tw))), (some (DV.fz (D.int ((n : Int))))), (some (DV.fz (.lst (pL ts)))), (some (DV.fz (.lst (iL ws)))), (some (DV.fz (.lst (nL st)))), (some (DV.fz (.lst (nL L)))), (some (DV.fz (D.int (cF tw ts ws (inX L))))), (some (DV.fz (.lst (lsL LL)))), x8]) (lsL LL) c = .ok ((LL.map fun l => decide (cF tw ts ws (inX L) ≤ cF tw ts ws (inX l))).map D.bl) c := fun x8 => by
    rw [List.map_map]
    exact dloop_map (g := fun l => D.lst (nL l)) LL fun l _ => by
      simp! only [c1_f_law_holds, sTn, gP, bindP, bindPs, tupV, cT1, wipeD, e3]
      rfl
  have h256 : 2 ^ n ≤ 2 ^ 8 := Nat.pow_le_pow_right (by omega) hn
  have hL : lenOk (lsL LL).length = true := lenOk_of (by have := hO.len; unfold lsL; rw [List.length_map]; omega)
  have e5 := lots_held (tw := tw) (ws := ws) hN.inr hl hO
  simp! only [b_f_law_holds, s0_f_law_holds, s1_f_law_holds, s2_f_law_holds, e1, e2, e3, items?, hL, e4, bAll_bls, e5]
end
end DLaw

set_option maxHeartbeats 4000000
/-! K20U: lots with holders, drawn. -/
namespace DLaw
open PySem DL
local macro_rules
  | `(tactic| simp! only [$ts,*]) => `(tactic| simp -implicitDefEqProofs only [sL_cons, sL_nil, kS_nx, kS_ret, kS_err, sNx_ap, sAs_ap, kB_ok, kB_err, backE_self, kA_ok, kA_err, sIf_ap, kI_ok, kI_err, sFo_ap, kF_ok, sTu_ap, kU, sAp_ap, sSu_ap, kJ_ok, sAt_ap, sAu_ap, sR0_ap, sRe_ap, retR_fz, retR_fr, sEx_ap, sret_ap, sRs_ap, kR, sTr_ap, kT_ok, kT_err, sRN, stF, stO, stC, appD, setD, mutD, insD, insS, augD, augS, fzE, fz1, xB, xK, xW, xN, xV, xBin, xNeg, xNot, xAnd, xOr, xCmp, xCmp2, xIf, xKs, xBs, xTup, xLst, xO, xSl, xRev, revD_lst, xIx, xFld, xFldN, isI, slfD, xBlt, xMt, xRg1, xRg2, rgR_l, rgR_t, xCal, xIsi, xIsi2, tNot, tAnd, tOr, tCmp, tCmp2, tTru, tYes, iR1, iR2, iEn, zipO, iZip, iPl, xC1, xC2, noErr_ap, kN_ok, dbind_dret, dbind_wrong, dbind_ap, dret_ap, dwrong_ap, kD_ok, kD_err, bOf_fz, bOf_fr, bOf_bo, kOf_fz, kOf_fr, intD_int, blD_bl, dget_some, dbl_some, dgetZ_some, dlist_nil, dlist_cons, outD_ret, outD_nx, outD_err, outI_ok', outI_err, add_int, sub_int, mul_int, div_int, mod_int, pow_int, add_lst, lt_int, le_int, gt_int, ge_int, eq_int, ne_int, ix_lst, ix_tup, ix_scr, ix_cel, dcel_ap, dtru, truD, lenOk_sm, List.length_cons, List.length_nil, Nat.reduceAdd, Nat.reduceLeDiff, Nat.reduceLT, List.getElem?_cons_zero, List.getElem?_cons_succ, List.set_cons_zero, List.set_cons_succ, if_true, if_false, ite_true, ite_false, decide_true, decide_false, Bool.false_eq_true, Bool.not_true, Bool.not_false, Bool.true_and, Bool.false_and, Bool.and_true, Bool.and_false, decide_eq_true_eq, not_false_eq_true, not_true_eq_false, dif_t, $ts,*])
/-- a comprehension that draws which to keep -/
theorem dloop_sel {f : D → DM (Option D)} {P : Ce → Prop} : ∀ {xs : List Nat} {c : Ce}, P c → (∀ k ∈ xs, ∀ c, P c → ∃ (b : Bool) (c' : Ce), f (.int (k : Int)) c = .ok (if b = true then some (.int (k : Int)) else none) c' ∧ P c') →
    ∃ ys c', dloop f (nL xs) c = .ok (nL ys) c' ∧ ys.Sublist xs ∧ P c'
  | [], c, h, _ => ⟨[], c, rfl, .slnil, h⟩
  | x :: xs, c, h, ht => by
    obtain ⟨b, c1, e1, h1⟩ := ht x List.mem_cons_self c h
    obtain ⟨ys, c2, e2, s2, h2⟩ := dloop_sel (P := P) h1 fun k hk => ht k (List.mem_cons_of_mem _ hk)
    have e0 : dloop f (nL (x :: xs)) c = dbind (f (.int (x : Int))) (fun o => dbind (dloop f (nL xs)) fun r => dret (match o with
      | some y => y :: r
      | none => r)) c := rfl
    rw [e0, dbind_ap, e1, kD_ok, dbind_ap, e2, kD_ok]
    cases b with
    | true => exact ⟨x :: ys, c2, rfl, s2.cons_cons x, h2⟩
    | false => exact ⟨ys, c2, rfl, s2.cons x, h2⟩
theorem Up.sub {l m : List Nat} (h : Up m) (s : l.Sublist m) : Up l := List.Pairwise.sublist s h
section
variable {c : Ce} {tw : Bool} {n : Nat} {ts : List (Nat × Nat)} {ws : List Int} {st L : List Nat}
theorem dlot_spec (h : Wc c) (hn : n ≤ 100) : ∃ (l : List Nat) (c' : Ce), Q_f_law_lot [.cel, .int n] c = .ok (.fr (nL l)) c' ∧ Up l ∧ (∀ x ∈ l, x < n) ∧ Wc c' := by
  rw [q_f_law_lot]
  have hR : rngOk 0 (n : Int) = true := rngOk_of (by omega) (by omega) (by omega) (by omega)
  have hL : lenOk (rangeD 0 (n : Int)).length = true := lenOk_of (by rw [range_len]; omega)
  obtain ⟨l, c', e, s, h'⟩ := dloop_sel (f := c1_f_law_lot [(some (DV.fz (.cel))), (some (DV.fz (D.int ((n : Int))))), none]) (P := Wc) (xs := List.range n) h fun k hk c hc => by
    obtain ⟨v, c1, e1, b1, h1⟩ := take_spec hc (m := 2) (by omega)
    by_cases q : (v : Int) = 1
    · have q := eq_true q
      exact ⟨true, c1, by simp! only [c1_f_law_lot, sTn, gP, bindP, bindPs, tupV, cT1, wipeD, e1, q], h1⟩
    · exact ⟨false, c1, by simp! only [c1_f_law_lot, sTn, gP, bindP, bindPs, tupV, cT1, wipeD, e1, q], h1⟩
  have e' : dloop (c1_f_law_lot [(some (DV.fz (.cel))), (some (DV.fz (D.int ((n : Int))))), none]) (rangeD 0 (n : Int)) c = .ok (nL l) c' := by rw [range_nat]; exact e
  refine ⟨l, c', ?_, (Up.range n).sub s, fun x hx => List.mem_range.mp (s.subset hx), h'⟩
  simp! only [b_f_law_lot, s0_f_law_lot, hR, hL, e']
theorem sublot_spec (h : Wc c) (hL : Up L) (hne : L ≠ []) (hl : L.length ≤ 100) : ∃ (st : List Nat) (c' : Ce), Q_f_law_sublot [.cel, .lst (nL L)] c = .ok (.fz (.lst (nL st))) c' ∧ Up st ∧ st ≠ [] ∧ (∀ x ∈ st, x ∈ L) ∧ Wc c' := by
  rw [q_f_law_sublot]
  have hlen : lenOk (nL L).length = true := lenOk_of (by rw [nL_len]; omega)
  obtain ⟨l, c', e, s, h'⟩ := dloop_sel (f := c1_f_law_sublot [(some (DV.fz (.cel))), (some (DV.fz (.lst (nL L)))), none, none]) (P := Wc) (xs := L) h fun k hk c hc => by
    obtain ⟨v, c1, e1, b1, h1⟩ := take_spec hc (m := 2) (by omega)
    by_cases q : (v : Int) = 1
    · have q := eq_true q
      exact ⟨true, c1, by simp! only [c1_f_law_sublot, sTn, gP, bindP, bindPs, tupV, cT1, wipeD, e1, q], h1⟩
    · exact ⟨false, c1, by simp! only [c1_f_law_sublot, sTn, gP, bindP, bindPs, tupV, cT1, wipeD, e1, q], h1⟩
  have lL : bLen [.lst (nL L)] = dret (.fz (.int L.length)) := by rw [bLen_lst, nL_len]
  have ll : bLen [.lst (nL l)] = dret (.fz (.int l.length)) := by rw [bLen_lst, nL_len]
  by_cases q : (l.length : Int) = 0
  · have hp : 0 < L.length := List.length_pos_iff.mpr hne
    obtain ⟨v, c1, e1, b1, h1⟩ := take_spec h' (m := (L.length : Int)) (by omega)
    have hv : v < L.length := by omega
    have ha : L2.atI (nL L) (v : Int) = some (.int ((L[v] : Nat) : Int)) := by rw [atI_cast, nL_get, List.getElem?_eq_getElem hv]; rfl
    refine ⟨[L[v]], c1, ?_, List.pairwise_singleton _ _, by simp, fun x hx => by rw [List.mem_singleton] at hx; subst hx; exact List.getElem_mem hv, h1⟩
    have q := eq_true q
    simp! only [b_f_law_sublot, s0_f_law_sublot, s1_f_law_sublot, s2_f_law_sublot, items?, hlen, e, ll, lL, q, e1, ha]
    rfl
  · refine ⟨l, c', ?_, hL.sub s, fun z => q (by rw [z]; rfl), fun x hx => s.subset hx, h'⟩
    simp! only [b_f_law_sublot, s0_f_law_sublot, s1_f_law_sublot, s2_f_law_sublot, items?, hlen, e, ll, q]
theorem two_spec (h : Wc c) (hn : 1 < n) : ∃ (a b : Nat) (c' : Ce), Q_f_law_two [.cel, .int n] c = .ok (.fr [.int a, .int b]) c' ∧ a < n ∧ b < n ∧ a ≠ b ∧ Wc c' := by
  rw [q_f_law_two]
  obtain ⟨a, c1, e1, b1, h1⟩ := take_spec h (m := (n : Int)) (by omega)
  obtain ⟨b, c2, e2, b2, h2⟩ := take_spec h1 (m := (n : Int) - 1) (by omega)
  by_cases q : (a : Int) ≤ (b : Int)
  · refine ⟨a, b + 1, c2, ?_, by omega, by omega, by omega, h2⟩
    have q := eq_true q
    have z : ((b + 1 : Nat) : Int) = (b : Int) + 1 := by omega
    rw [z]
    simp! only [b_f_law_two, s0_f_law_two, s1_f_law_two, s2_f_law_two, s3_f_law_two, e1, e2, q]
  · refine ⟨a, b, c2, ?_, by omega, by omega, by omega, h2⟩
    simp! only [b_f_law_two, s0_f_law_two, s1_f_law_two, s2_f_law_two, s3_f_law_two, e1, e2, q]
theorem lsL_get {LL : List (List Nat)} {k : Nat} (h : k < LL.length) : L2.atI (lsL LL) (k : Int) = some (.lst (nL LL[k])) := by
  rw [atI_cast]; simp [lsL, h]
theorem filterLs (LL : List (List Nat)) (q : List Nat → Bool) : LL.filterMap (fun l => if q l = true then some (D.lst (nL l)) else none) = lsL (LL.filter q) := by
  induction LL with
  | nil => rfl
  | cons a l ih =>
    rw [List.filterMap_cons, List.filter_cons]
    by_cases h : q a = true
    · rw [if_pos h, if_pos h, ih]; rfl
    · rw [if_neg h, if_neg h, ih]
theorem draw_least (h : Wc c) (h1 : 1 < n) (hn : n ≤ 8) (hN : NetW n ts ws) : ∃ (st L : List Nat) (E' : EnvD) (c' : Ce), z1_f_law_held_draw [(some (DV.fz (.cel))), (some (DV.fz (kindD tw))), (some (DV.fz (D.int ((n : Int))))), (some (DV.fz (.lst (pL ts)))), (some (DV.fz (.lst (iL ws)))), none, none, none, none, none] c = .ok (.ret (.fr [.lst (nL st), .lst (nL L)])) E' c' ∧ Lot n st L ∧ Wc c' := by
  have h40 := hN.len
  obtain ⟨a, b, c1, e1, ha, hb, hab, hc1⟩ := two_spec h h1
  obtain ⟨LL, e2, hO⟩ := lots_spec (c := c1) (n := n) (st := [a]) (out := [b]) hn (List.pairwise_singleton _ _) fun x hx => by rw [List.mem_singleton] at hx; omega
  have e2' : Q_f_law_lots [.int n, .lst [.int (a : Int)], .lst [.int (b : Int)]] c1 = .ok (.fz (.lst (lsL LL))) c1 := e2
  have h256 : 2 ^ n ≤ 2 ^ 8 := Nat.pow_le_pow_right (by omega) hn
  have hlen := hO.len
  have hL : lenOk (lsL LL).length = true := lenOk_of (by unfold lsL; rw [List.length_map]; omega)
  have e3 : ∀ l, Q_f_law_cost [kindD tw, .lst (pL ts), .lst (iL ws), .lst (nL l)] c1 = .ok (.fz (.int (cF tw ts ws (inX l)))) c1 := fun l => lcost_spec hN.wlen (by omega)
  have hne : LL ≠ [] := fun z => by
    obtain ⟨l, hl, _⟩ := hO.all (fun _ => false) fun _ _ => rfl
    rw [z] at hl; cases hl
  obtain ⟨m, em, hm, _⟩ := min_spec (is := LL.map fun l => cF tw ts ws (inX l)) (by simpa using hne)
  have e4 : dloop (c1_f_law_held_draw [(some (DV.fz (.cel))), (some (DV.fz (kindD tw))), (some (DV.fz (D.int ((n : Int))))), (some (DV.fz (.lst (pL ts)))), (some (DV.fz (.lst (iL ws)))), none, (some (DV.fz (.lst [.int (a : Int), .int (b : Int)]))), (some (DV.fz (.lst (lsL LL)))), none, none]) (lsL LL) c1 = .ok (iL (LL.map fun l => cF tw ts ws (inX l))) c1 := by
    rw [iL_mapS LL]
    exact dloop_map (g := fun l => D.lst (nL l)) LL fun l _ => by
      simp! only [c1_f_law_held_draw, sTn, gP, bindP, bindPs, tupV, cT1, wipeD, e3]
  have e5 : dloop (c2_f_law_held_draw [(some (DV.fz (.cel))), (some (DV.fz (kindD tw))), (some (DV.fz (D.int ((n : Int))))), (some (DV.fz (.lst (pL ts)))), (some (DV.fz (.lst (iL ws)))), none, (some (DV.fz (.lst [.int (a : Int), .int (b : Int)]))), (some (DV.fz (.lst (lsL LL)))), (some (DV.fz (D.int (m)))), none]) (lsL LL) c1 = .ok (lsL (LL.filter fun l => decide (cF tw ts ws (inX l) = m))) c1 := by
    rw [← filterLs]
    refine dloop_fmap (g := fun l => D.lst (nL l)) LL fun l _ => ?_
    by_cases q : cF tw ts ws (inX l) = m
    · have q := eq_true q
      simp! only [c2_f_law_held_draw, sTn, gP, bindP, bindPs, tupV, cT1, wipeD, e3, q]
    · simp! only [c2_f_law_held_draw, sTn, gP, bindP, bindPs, tupV, cT1, wipeD, e3, q]
  have hF : 0 < (LL.filter fun l => decide (cF tw ts ws (inX l) = m)).length := by
    obtain ⟨l, hl, e⟩ := List.mem_map.mp hm
    exact List.length_pos_iff.mpr (List.ne_nil_of_mem (List.mem_filter.mpr ⟨hl, decide_eq_true e⟩))
  have hFm : ∀ l ∈ LL.filter fun l => decide (cF tw ts ws (inX l) = m), l ∈ LL := fun l hl => (List.mem_filter.mp hl).1
  generalize (LL.filter fun l => decide (cF tw ts ws (inX l) = m)) = F at *
  have lF : bLen [.lst (lsL F)] = dret (.fz (.int F.length)) := by rw [bLen_lst]; simp [lsL]
  obtain ⟨v, c2, e6, b6, hc2⟩ := take_spec hc1 (m := (F.length : Int)) (by omega)
  have hv : v < F.length := by omega
  have ev := lsL_get hv
  obtain ⟨u1, u2, u3⟩ := hO.each _ (hFm _ (List.getElem_mem hv))
  refine ⟨[a], F[v], [(some (DV.fz (.cel))), (some (DV.fz (kindD tw))), (some (DV.fz (D.int ((n : Int))))), (some (DV.fz (.lst (pL ts)))), (some (DV.fz (.lst (iL ws)))), none, (some (DV.fz (.lst [.int (a : Int), .int (b : Int)]))), (some (DV.fz (.lst (lsL LL)))), (some (DV.fz (D.int (m)))), (some (DV.fz (.lst (lsL F))))], c2, ?_, ⟨List.pairwise_singleton _ _, u1, by simp, u2, fun x hx => ?_⟩, hc2⟩
  · simp! only [z1_f_law_held_draw, e1, e2', items?, hL, e4, em, e5, lF, e6, ev, atI_zero, atI_one]
    rfl
  · rcases u3 x hx with q | q
    · rw [List.mem_singleton] at q; omega
    · exact q.1
theorem held_draw_spec (h : Wc c) (hn : n ≤ 8) (hN : NetW n ts ws) : ∃ (st L : List Nat) (c' : Ce), Q_f_law_held_draw [.cel, kindD tw, .int n, .lst (pL ts), .lst (iL ws)] c = .ok (.fr [.lst (nL st), .lst (nL L)]) c' ∧ Lot n st L ∧ Wc c' := by
  rw [q_f_law_held_draw]
  have h1 := hN.one
  -- the first way, or the state where the second begins
  have first : (∃ (st L : List Nat) (E' : EnvD) (c' : Ce), s0_f_law_held_draw [(some (DV.fz (.cel))), (some (DV.fz (kindD tw))), (some (DV.fz (D.int ((n : Int))))), (some (DV.fz (.lst (pL ts)))), (some (DV.fz (.lst (iL ws)))), none, none, none, none, none] c = .ok (.ret (.fr [.lst (nL st), .lst (nL L)])) E' c' ∧ Lot n st L ∧ Wc c') ∨
      ∃ c', s0_f_law_held_draw [(some (DV.fz (.cel))), (some (DV.fz (kindD tw))), (some (DV.fz (D.int ((n : Int))))), (some (DV.fz (.lst (pL ts)))), (some (DV.fz (.lst (iL ws)))), none, none, none, none, none] c = .ok .nx [(some (DV.fz (.cel))), (some (DV.fz (kindD tw))), (some (DV.fz (D.int ((n : Int))))), (some (DV.fz (.lst (pL ts)))), (some (DV.fz (.lst (iL ws)))), none, none, none, none, none] c' ∧ Wc c' := by
    by_cases q : (1 : Int) < (n : Int)
    · obtain ⟨v, c1, e1, b1, hc1⟩ := take_spec h (m := 2) (by omega)
      by_cases q1 : (v : Int) = 1
      · obtain ⟨st, L, E', c', e, hl, hc⟩ := draw_least (tw := tw) hc1 (by omega) hn hN
        refine .inl ⟨st, L, E', c', ?_, hl, hc⟩
        have q := eq_true q
        have q1 := eq_true q1
        simp! only [s0_f_law_held_draw, q, e1, q1, e]
      · refine .inr ⟨c1, ?_, hc1⟩
        have q := eq_true q
        simp! only [s0_f_law_held_draw, q, e1, q1]
    · exact .inr ⟨c, by simp! only [s0_f_law_held_draw, q], h⟩
  rcases first with ⟨st, L, E', c', e, hl, hc⟩ | ⟨c1, e0, hc1⟩
  · refine ⟨st, L, c', ?_, hl, hc⟩
    unfold b_f_law_held_draw
    rw [sL_cons, e, kS_ret, outD_ret]
  · obtain ⟨l, c2, e2, hu, hlt, hc2⟩ := dlot_spec hc1 (n := n) (by omega)
    have ll : bLen [.lst (nL l)] = dret (.fz (.int l.length)) := by rw [bLen_lst, nL_len]
    have second : ∃ (L : List Nat) (c' : Ce), s2_f_law_held_draw [(some (DV.fz (.cel))), (some (DV.fz (kindD tw))), (some (DV.fz (D.int ((n : Int))))), (some (DV.fz (.lst (pL ts)))), (some (DV.fz (.lst (iL ws)))), (some (DV.fz (.lst (nL l)))), none, none, none, none] c2 = .ok .nx [(some (DV.fz (.cel))), (some (DV.fz (kindD tw))), (some (DV.fz (D.int ((n : Int))))), (some (DV.fz (.lst (pL ts)))), (some (DV.fz (.lst (iL ws)))), (some (DV.fz (.lst (nL L)))), none, none, none, none] c' ∧ Up L ∧ L ≠ [] ∧ (∀ x ∈ L, x < n) ∧ Wc c' := by
      by_cases q : (l.length : Int) = 0
      · obtain ⟨v, c3, e3, b3, hc3⟩ := take_spec hc2 (m := (n : Int)) (by omega)
        refine ⟨[v], c3, ?_, List.pairwise_singleton _ _, by simp, fun x hx => by rw [List.mem_singleton] at hx; omega, hc3⟩
        have q := eq_true q
        simp! only [s2_f_law_held_draw, ll, q, e3]
        rfl
      · refine ⟨l, c2, ?_, hu, fun z => q (by rw [z]; rfl), hlt, hc2⟩
        simp! only [s2_f_law_held_draw, ll, q]
    obtain ⟨L, c3, e3, hu3, hne, hlt3, hc3⟩ := second
    have hlen := len_le hu3 hlt3
    obtain ⟨st, c4, e4, hu4, hne4, hsub, hc4⟩ := sublot_spec hc3 hu3 hne (by omega)
    refine ⟨st, L, c4, ?_, ⟨hu4, hu3, hne4, hsub, hlt3⟩, hc4⟩
    unfold b_f_law_held_draw
    rw [sL_cons, e0, kS_nx]
    have e1 : s1_f_law_held_draw [(some (DV.fz (.cel))), (some (DV.fz (kindD tw))), (some (DV.fz (D.int ((n : Int))))), (some (DV.fz (.lst (pL ts)))), (some (DV.fz (.lst (iL ws)))), none, none, none, none, none] c1 = .ok .nx [(some (DV.fz (.cel))), (some (DV.fz (kindD tw))), (some (DV.fz (D.int ((n : Int))))), (some (DV.fz (.lst (pL ts)))), (some (DV.fz (.lst (iL ws)))), (some (DV.fz (.lst (nL l)))), none, none, none, none] c2 := by
      simp! only [s1_f_law_held_draw, e2]
    rw [sL_cons, e1, kS_nx, sL_cons, e3, kS_nx]
    simp! only [s3_f_law_held_draw, e4]
theorem lint_spec (i : Int) : Q_f_law_int [.int i] c = .ok (.fz (.bl true)) c := by
  rw [q_f_law_int]; simp! only [b_f_law_int, s0_f_law_int, k_f_law_int_int, k_f_law_int_bool, isi_int_non, isi_int_bl, isi_int_int, isi_int_str, isi_int_lst, isi_int_tup, isi_bool_non, isi_bool_bl, isi_bool_int, isi_bool_str, isi_bool_lst, isi_bool_tup, isi_list_non, isi_list_bl, isi_list_int, isi_list_str, isi_list_lst, isi_list_tup, isi_tuple_non, isi_tuple_bl, isi_tuple_int, isi_tuple_str, isi_tuple_lst, isi_tuple_tup]
theorem lot_ok_spec {l : List Nat} (hu : Up l) (hl : ∀ x ∈ l, x < n) : Q_f_law_lot_ok [.tup (nL l), .int n] c = .ok (.fz (.bl true)) c := by
  rw [q_f_law_lot_ok]
  obtain ⟨E', c', e, b, x3, rfl, rfl, _⟩ := sfor_inv (f := sTn (gP (.sl 3)) y1_f_law_lot_ok) (P := fun k E c' => ∃ (b : Int) (x3 : Option DV), E = [(some (DV.fz (.tup (nL l)))), (some (DV.fz (D.int ((n : Int))))), (some (DV.fz (D.int (b)))), x3] ∧ c' = c ∧ ∀ (j : Nat) (hj : j < l.length), k ≤ j → b < (l[j] : Nat))
    (nL l) 0 [(some (DV.fz (.tup (nL l)))), (some (DV.fz (D.int ((n : Int))))), (some (DV.fz (D.int ((-1 : Int))))), none] c ⟨-1, none, rfl, rfl, fun j hj _ => by omega⟩ fun k hk E c' hP => by
      obtain ⟨b, x3, rfl, rfl, hb⟩ := hP
      rw [Nat.zero_add] at *
      rw [nL_getE hk]
      rw [nL_len] at hk
      have h1 := hb k hk (Nat.le_refl _)
      have h2 := hl _ (List.getElem_mem hk)
      have a1 : ¬ (((l[k] : Nat) : Int) ≤ b) := by omega
      have a2 : ¬ ((n : Int) ≤ ((l[k] : Nat) : Int)) := by omega
      refine ⟨[(some (DV.fz (.tup (nL l)))), (some (DV.fz (D.int ((n : Int))))), (some (DV.fz (D.int (((l[k] : Nat) : Int))))), (some (DV.fz (D.int (((l[k] : Nat) : Int)))))], c', ?_, _, _, rfl, rfl, fun j hj hkj => ?_⟩
      · simp! only [y1_f_law_lot_ok, sTn, gP, bindP, bindPs, tupV, cT1, wipeD, lint_spec, a1, a2]
      · have := List.pairwise_iff_getElem.mp hu k j hk hj (by omega)
        omega
  have zz : (0 : Int) - 1 = -1 := rfl
  simp! only [b_f_law_lot_ok, s0_f_law_lot_ok, s1_f_law_lot_ok, s2_f_law_lot_ok, s3_f_law_lot_ok, k_f_law_lot_ok_tuple, isi_int_non, isi_int_bl, isi_int_int, isi_int_str, isi_int_lst, isi_int_tup, isi_bool_non, isi_bool_bl, isi_bool_int, isi_bool_str, isi_bool_lst, isi_bool_tup, isi_list_non, isi_list_bl, isi_list_int, isi_list_str, isi_list_lst, isi_list_tup, isi_tuple_non, isi_tuple_bl, isi_tuple_int, isi_tuple_str, isi_tuple_lst, isi_tuple_tup, items?, zz, e]
end
end DLaw

set_option maxHeartbeats 4000000
/-! K20WA: all rows within a row, by how many (plain Lean). -/
namespace DLaw
open PySem DL
theorem up_snoc {l : List Nat} {p : Nat} : Up (l ++ [p]) ↔ Up l ∧ ∀ x ∈ l, x < p := by
  unfold Up
  rw [List.pairwise_append]
  constructor
  · rintro ⟨h1, _, h2⟩
    exact ⟨h1, fun x hx => h2 x hx p (by simp)⟩
  · rintro ⟨h1, h2⟩
    exact ⟨h1, by simp, fun x hx y hy => by rw [List.mem_singleton] at hy; subst hy; exact h2 x hx⟩
/-- p may follow l -/
def okP (l : List Nat) (p : Nat) : Bool := match l.getLast? with
  | none => true
  | some q => decide (q < p)
theorem okP_iff {l : List Nat} {p : Nat} (hu : Up l) : okP l p = true ↔ ∀ x ∈ l, x < p := by
  rcases List.eq_nil_or_concat l with rfl | ⟨m, q, rfl⟩
  · simp [okP]
  · have h2 := (up_snoc.mp (by simpa using hu)).2
    simp -implicitDefEqProofs only [okP, List.concat_eq_append, List.getLast?_append, List.getLast?_singleton, Option.or_some, Option.some_or, decide_eq_true_eq]
    constructor
    · intro h x hx
      rcases List.mem_append.mp hx with hx | hx
      · have := h2 x hx; omega
      · rw [List.mem_singleton] at hx; subst hx; exact h
    · intro h
      exact h q (by simp)
def lev (pl : List Nat) : Nat → List (List Nat)
  | 0 => [[]]
  | k + 1 => (lev pl k).flatMap fun l => (pl.filter (okP l)).map fun p => l ++ [p]
theorem lev_mem {pl : List Nat} : ∀ {k : Nat} {l : List Nat}, l ∈ lev pl k ↔ l.length = k ∧ Up l ∧ ∀ x ∈ l, x ∈ pl
  | 0, l => by
    simp -implicitDefEqProofs only [lev, List.mem_singleton]
    constructor
    · rintro rfl; exact ⟨rfl, List.Pairwise.nil, nofun⟩
    · rintro ⟨h, _⟩; exact List.length_eq_zero_iff.mp h
  | k + 1, l => by
    simp -implicitDefEqProofs only [lev, List.mem_flatMap, List.mem_map, List.mem_filter]
    constructor
    · rintro ⟨m, hm, p, ⟨hp, ho⟩, rfl⟩
      obtain ⟨h1, h2, h3⟩ := lev_mem.mp hm
      exact ⟨by simp [h1], up_snoc.mpr ⟨h2, (okP_iff h2).mp ho⟩, fun x hx => by
        rcases List.mem_append.mp hx with hx | hx
        · exact h3 x hx
        · rw [List.mem_singleton] at hx; subst hx; exact hp⟩
    · rintro ⟨h1, h2, h3⟩
      rcases List.eq_nil_or_concat l with rfl | ⟨m, q, rfl⟩
      · simp at h1
      · rw [List.concat_eq_append] at h1 h2 h3 ⊢
        obtain ⟨h4, h5⟩ := up_snoc.mp h2
        exact ⟨m, lev_mem.mpr ⟨by simpa using h1, h4, fun x hx => h3 x (by simp [hx])⟩, q, ⟨h3 q (by simp), (okP_iff h4).mpr h5⟩, rfl⟩
theorem lev_nodup {pl : List Nat} (hp : pl.Nodup) : ∀ k : Nat, (lev pl k).Nodup
  | 0 => by simp [lev]
  | k + 1 => by
    have ih := lev_nodup hp k
    unfold lev List.Nodup
    rw [List.pairwise_flatMap]
    refine ⟨fun l hl => ?_, ih.imp fun {a b} ne x hx y hy e => ?_⟩
    · rw [List.pairwise_map]
      exact (hp.filter _).imp fun {a b} ne e => ne (by simpa using e)
    · obtain ⟨p, _, rfl⟩ := List.mem_map.mp hx
      obtain ⟨q, _, rfl⟩ := List.mem_map.mp hy
      exact ne (List.append_inj_left' e rfl)
theorem nodup_sub {α : Type} [DecidableEq α] : ∀ {l m : List α}, l.Nodup → (∀ x ∈ l, x ∈ m) → l.length ≤ m.length
  | [], m, _, _ => Nat.zero_le _
  | a :: l, m, hd, h => by
    have h1 := List.nodup_cons.mp hd
    have ha := h a List.mem_cons_self
    have := nodup_sub (l := l) (m := m.erase a) h1.2 fun x hx => (List.mem_erase_of_ne fun e => h1.1 (by rw [← e]; exact hx)).mpr (h x (List.mem_cons_of_mem _ hx))
    rw [List.length_erase_of_mem ha] at this
    have : 0 < m.length := List.length_pos_of_mem ha
    simp -implicitDefEqProofs only [List.length_cons]
    omega
def subs : List Nat → List (List Nat)
  | [] => [[]]
  | a :: r => subs r ++ (subs r).map (a :: ·)
theorem subs_len : ∀ l : List Nat, (subs l).length = 2 ^ l.length
  | [] => rfl
  | a :: r => by simp -implicitDefEqProofs only [subs, List.length_append, List.length_map, subs_len r, List.length_cons]; rw [Nat.pow_succ]; omega
theorem subs_mem : ∀ {l m : List Nat}, l.Sublist m → l ∈ subs m
  | _, _, .slnil => by simp [subs]
  | _, _, .cons a h => by simp -implicitDefEqProofs only [subs, List.mem_append]; exact .inl (subs_mem h)
  | _, _, .cons_cons a h => by simp -implicitDefEqProofs only [subs, List.mem_append, List.mem_map]; exact .inr ⟨_, subs_mem h, rfl⟩
theorem up_sublist {l pl : List Nat} (hl : Up l) (hp : Up pl) (h : ∀ x ∈ l, x ∈ pl) : l.Sublist pl := by
  have e : l = pl.filter fun x => decide (x ∈ l) := hl.ext (hp.filter _) fun x => by simp -implicitDefEqProofs only [List.mem_filter, decide_eq_true_eq]; exact ⟨fun q => ⟨h x q, q⟩, fun q => q.2⟩
  rw [e]; exact List.filter_sublist
theorem lev_len {pl : List Nat} (hp : Up pl) (k : Nat) : (lev pl k).length ≤ 2 ^ pl.length := by
  rw [← subs_len]
  exact nodup_sub (lev_nodup hp.nodup k) fun l hl => by
    obtain ⟨_, h2, h3⟩ := lev_mem.mp hl
    exact subs_mem (up_sublist h2 hp h3)
/-- the rows of up to m places, by how many -/
def bysz (pl : List Nat) (m : Nat) : List (List Nat) := (List.range (m + 1)).flatMap (lev pl)
theorem bysz_zero (pl : List Nat) : bysz pl 0 = [[]] := rfl
theorem bysz_succ (pl : List Nat) (m : Nat) : bysz pl (m + 1) = bysz pl m ++ lev pl (m + 1) := by
  unfold bysz
  rw [List.range_succ, List.flatMap_append]
  simp
theorem bysz_mem {pl l : List Nat} (hp : Up pl) : l ∈ bysz pl pl.length ↔ Up l ∧ ∀ x ∈ l, x ∈ pl := by
  unfold bysz
  rw [List.mem_flatMap]
  constructor
  · rintro ⟨k, _, h⟩; exact (lev_mem.mp h).2
  · intro h
    refine ⟨l.length, List.mem_range.mpr ?_, lev_mem.mpr ⟨rfl, h⟩⟩
    have := (up_sublist h.1 hp h.2).length_le
    omega
theorem bysz_up {pl : List Nat} (m : Nat) : (bysz pl m).Pairwise fun a b => a.length ≤ b.length := by
  unfold bysz
  rw [List.pairwise_flatMap]
  refine ⟨fun k _ => List.pairwise_iff_getElem.mpr fun i j hi hj _ => ?_, (List.pairwise_lt_range (n := m + 1)).imp fun {a b} h x hx y hy => ?_⟩
  · rw [(lev_mem.mp (List.getElem_mem hi)).1, (lev_mem.mp (List.getElem_mem hj)).1]
    exact Nat.le_refl _
  · rw [(lev_mem.mp hx).1, (lev_mem.mp hy).1]; omega
theorem bysz_nodup {pl : List Nat} (hp : Up pl) (m : Nat) : (bysz pl m).Nodup := by
  unfold bysz List.Nodup
  rw [List.pairwise_flatMap]
  refine ⟨fun k _ => lev_nodup hp.nodup k, (List.pairwise_lt_range (n := m + 1)).imp fun {a b} h x hx y hy e => ?_⟩
  have h1 := (lev_mem.mp hx).1
  have h2 := (lev_mem.mp hy).1
  rw [e] at h1
  omega
theorem bysz_len {pl : List Nat} (hp : Up pl) (m : Nat) : (bysz pl m).length ≤ 2 ^ pl.length := by
  rw [← subs_len]
  refine nodup_sub (bysz_nodup hp m) fun l hl => ?_
  obtain ⟨k, _, h⟩ := List.mem_flatMap.mp hl
  obtain ⟨_, h2, h3⟩ := lev_mem.mp h
  exact subs_mem (up_sublist h2 hp h3)
/-- what is shorter stands ahead -/
theorem ahead {LL : List (List Nat)} (h : LL.Pairwise fun a b => a.length ≤ b.length) {i : Nat} (hi : i < LL.length) {l : List Nat} (hl : l ∈ LL) (hs : l.length < LL[i].length) : ∃ (j : Nat) (hj : j < LL.length), j < i ∧ LL[j] = l := by
  obtain ⟨j, hj, e⟩ := List.getElem_of_mem hl
  refine ⟨j, hj, Nat.lt_of_not_le fun q => ?_, e⟩
  rcases Nat.lt_or_eq_of_le q with q | q
  · have := List.pairwise_iff_getElem.mp h i j hi hj q
    rw [e] at this; omega
  · subst q; rw [e] at hs; omega
/-! two rows joined -/
def un (st m : List Nat) : List Nat := srt (st ++ m.filter fun x => !decide (x ∈ st))
theorem un_mem {st m : List Nat} {x : Nat} : x ∈ un st m ↔ x ∈ st ∨ x ∈ m := by
  unfold un
  rw [srt_mem, List.mem_append, List.mem_filter]
  by_cases h : x ∈ st <;> simp [h]
theorem un_nodup {st m : List Nat} (h1 : st.Nodup) (h2 : m.Nodup) : (st ++ m.filter fun x => !decide (x ∈ st)).Nodup := by
  rw [List.nodup_append]
  exact ⟨h1, h2.filter _, fun a ha b hb e => by
    have := (List.mem_filter.mp hb).2
    rw [← e] at this
    simp [ha] at this⟩
theorem un_up {st m : List Nat} (h1 : Up st) (h2 : Up m) : Up (un st m) := srt_up (un_nodup h1.nodup h2.nodup)
theorem un_len {st m : List Nat} (hd : ∀ x ∈ m, x ∉ st) : (un st m).length = st.length + m.length := by
  unfold un
  rw [(srt_perm _).length_eq, List.length_append]
  congr 1
  rw [List.filter_eq_self.mpr fun x hx => by simp [hd x hx]]
/-- the lots that have st, among the first n places -/
def lotsF (n : Nat) (st : List Nat) : List (List Nat) := (bysz (restL n (inX st)) (restL n (inX st)).length).map (un st)
theorem rest_no {n : Nat} {st : List Nat} {x : Nat} : x ∈ restL n (inX st) ↔ x < n ∧ x ∉ st := by
  rw [restL_mem]; unfold inX; simp
theorem lotsF_mem {n : Nat} {st l : List Nat} (hu : Up st) (hs : ∀ x ∈ st, x < n) : l ∈ lotsF n st ↔ Up l ∧ (∀ x ∈ st, x ∈ l) ∧ ∀ x ∈ l, x < n := by
  unfold lotsF
  rw [List.mem_map]
  constructor
  · rintro ⟨m, hm, rfl⟩
    obtain ⟨h1, h2⟩ := (bysz_mem (restL_up n _)).mp hm
    exact ⟨un_up hu h1, fun x hx => un_mem.mpr (.inl hx), fun x hx => by
      rcases un_mem.mp hx with q | q
      · exact hs x q
      · exact (rest_no.mp (h2 x q)).1⟩
  · rintro ⟨h1, h2, h3⟩
    refine ⟨l.filter fun x => !decide (x ∈ st), (bysz_mem (restL_up n _)).mpr ⟨h1.filter _, fun x hx => ?_⟩, ?_⟩
    · obtain ⟨q1, q2⟩ := List.mem_filter.mp hx
      exact rest_no.mpr ⟨h3 x q1, by simpa using q2⟩
    · refine (un_up hu (h1.filter _)).ext h1 fun x => ?_
      rw [un_mem, List.mem_filter]
      by_cases q : x ∈ st
      · simp [q, h2 x q]
      · simp [q]
theorem lotsF_up {n : Nat} {st : List Nat} : (lotsF n st).Pairwise fun a b => a.length ≤ b.length := by
  unfold lotsF
  rw [List.pairwise_map]
  have h := bysz_up (pl := restL n (inX st)) (restL n (inX st)).length
  refine List.Pairwise.imp_of_mem (fun {a b} ha hb q => ?_) h
  have e : ∀ m ∈ bysz (restL n (inX st)) (restL n (inX st)).length, (un st m).length = st.length + m.length := fun m hm => un_len fun x hx =>
    (rest_no.mp (((bysz_mem (restL_up n _)).mp hm).2 x hx)).2
  rw [e a ha, e b hb]
  omega
theorem lotsF_len {n : Nat} {st : List Nat} : (lotsF n st).length ≤ 2 ^ n := by
  unfold lotsF
  rw [List.length_map]
  refine Nat.le_trans (bysz_len (restL_up n _) _) (Nat.pow_le_pow_right (by omega) ?_)
  unfold restL
  exact Nat.le_trans (List.length_filter_le _ _) (by simp)
end DLaw

set_option maxHeartbeats 4000000
/-! K20WB: lots made of lots: minus, both, by_size, lots_from. -/
namespace DLaw
open PySem DL
local macro_rules
  | `(tactic| simp! only [$ts,*]) => `(tactic| simp -implicitDefEqProofs only [sL_cons, sL_nil, kS_nx, kS_ret, kS_err, sNx_ap, sAs_ap, kB_ok, kB_err, backE_self, kA_ok, kA_err, sIf_ap, kI_ok, kI_err, sFo_ap, kF_ok, sTu_ap, kU, sAp_ap, sSu_ap, kJ_ok, sAt_ap, sAu_ap, sR0_ap, sRe_ap, retR_fz, retR_fr, sEx_ap, sret_ap, sRs_ap, kR, sTr_ap, kT_ok, kT_err, sRN, stF, stO, stC, appD, setD, mutD, insD, insS, augD, augS, fzE, fz1, xB, xK, xW, xN, xV, xBin, xNeg, xNot, xAnd, xOr, xCmp, xCmp2, xIf, xKs, xBs, xTup, xLst, xO, xSl, xRev, revD_lst, xIx, xFld, xFldN, isI, slfD, xBlt, xMt, xRg1, xRg2, rgR_l, rgR_t, xCal, xIsi, xIsi2, tNot, tAnd, tOr, tCmp, tCmp2, tTru, tYes, iR1, iR2, iEn, zipO, iZip, iPl, xC1, xC2, noErr_ap, kN_ok, dbind_dret, dbind_wrong, dbind_ap, dret_ap, dwrong_ap, kD_ok, kD_err, bOf_fz, bOf_fr, bOf_bo, kOf_fz, kOf_fr, intD_int, blD_bl, dget_some, dbl_some, dgetZ_some, dlist_nil, dlist_cons, outD_ret, outD_nx, outD_err, outI_ok', outI_err, add_int, sub_int, mul_int, div_int, mod_int, pow_int, add_lst, lt_int, le_int, gt_int, ge_int, eq_int, ne_int, ix_lst, ix_tup, ix_scr, ix_cel, dcel_ap, dtru, truD, lenOk_sm, List.length_cons, List.length_nil, Nat.reduceAdd, Nat.reduceLeDiff, Nat.reduceLT, List.getElem?_cons_zero, List.getElem?_cons_succ, List.set_cons_zero, List.set_cons_succ, if_true, if_false, ite_true, ite_false, decide_true, decide_false, Bool.false_eq_true, Bool.not_true, Bool.not_false, Bool.true_and, Bool.false_and, Bool.and_true, Bool.and_false, decide_eq_true_eq, not_false_eq_true, not_true_eq_false, dif_t, $ts,*])
theorem sort_nL (l : List Nat) : bSorted [.lst (nL l)] = dret (.fr (nL (srt l))) := by
  rw [← srt_iL, nL_iL]; exact bSorted_ints _
theorem nL_app (a b : List Nat) : nL a ++ nL b = nL (a ++ b) := by simp [nL]
theorem minus_spec {c : Ce} {a b : List Nat} (ha : a.length ≤ 1000) : Q_fminus [.tup (nL a), .tup (nL b)] c = .ok (.fz (.tup (nL (srt (a.filter fun x => !decide (x ∈ b)))))) c := by
  rw [q_fminus]
  have hL : lenOk (nL a).length = true := lenOk_sm (by rw [nL_len]; exact ha)
  have e : dloop (c1_fminus [(some (DV.fz (.tup (nL a)))), (some (DV.fz (.tup (nL b)))), none]) (nL a) c = .ok (nL (a.filter fun x => !decide (x ∈ b))) c := by
    rw [← filterNn]
    refine dloop_fmap a fun j _ => ?_
    by_cases h : j ∈ b
    · have h := eq_true h
      simp! only [c1_fminus, sTn, gP, bindP, bindPs, tupV, cT1, wipeD, ni_ntup, h]
    · simp! only [c1_fminus, sTn, gP, bindP, bindPs, tupV, cT1, wipeD, ni_ntup, h]
  simp! only [b_fminus, s0_fminus, items?, hL, e, sort_nL, bTuple_lst]
theorem minus_up {c : Ce} {a b : List Nat} (ha : a.length ≤ 1000) (hu : Up a) : Q_fminus [.tup (nL a), .tup (nL b)] c = .ok (.fz (.tup (nL (a.filter fun x => !decide (x ∈ b))))) c := by
  rw [minus_spec ha, srt_self (hu.filter _)]
theorem both_spec {c : Ce} {a b : List Nat} (ha : a.length ≤ 100) (hb : b.length ≤ 100) : Q_fboth [.tup (nL a), .tup (nL b)] c = .ok (.fz (.tup (nL (un a b)))) c := by
  rw [q_fboth]
  have hL : lenOk (nL b).length = true := lenOk_sm (by rw [nL_len]; omega)
  have hF := List.length_filter_le (fun x => !decide (x ∈ a)) b
  have hS : lenOk ((nL a).length + (nL (b.filter fun x => !decide (x ∈ a))).length) = true := lenOk_sm (by rw [nL_len, nL_len]; omega)
  have e : dloop (c1_fboth [(some (DV.fz (.tup (nL a)))), (some (DV.fz (.tup (nL b)))), none]) (nL b) c = .ok (nL (b.filter fun x => !decide (x ∈ a))) c := by
    rw [← filterNn]
    refine dloop_fmap b fun j _ => ?_
    by_cases h : j ∈ a
    · have h := eq_true h
      simp! only [c1_fboth, sTn, gP, bindP, bindPs, tupV, cT1, wipeD, ni_ntup, h]
    · simp! only [c1_fboth, sTn, gP, bindP, bindPs, tupV, cT1, wipeD, ni_ntup, h]
  simp! only [b_fboth, s0_fboth, items?, bList_tup, hL, e, hS, nL_app, sort_nL, bTuple_lst]
  rfl
theorem dfold1_fmap {α : Type} {f : D → DM (Option D)} {g : α → D} {h : α → Option D} {c : Ce} : ∀ (is : List α) (acc : List D), acc.length + is.length ≤ 16000000 → (∀ i ∈ is, f (g i) c = .ok (h i) c) → dfold1 f acc (is.map g) c = .ok (acc ++ is.filterMap h) c
  | [], acc, _, _ => by rw [List.map_nil, List.filterMap_nil, List.append_nil]; rfl
  | i :: is, acc, hl, hf => by
    show dbind (f (g i)) (fun o => match o with
      | some y => dif (decide (acc.length < 16777216)) (dfold1 f (acc ++ [y]) (is.map g))
      | none => dfold1 f acc (is.map g)) c = _
    rw [List.length_cons] at hl
    rw [dbind_ap, hf i List.mem_cons_self, kD_ok, List.filterMap_cons]
    cases h i with
    | none => exact dfold1_fmap is acc (by omega) fun j hj => hf j (List.mem_cons_of_mem _ hj)
    | some y =>
      dsimp only
      rw [dif_pos' (decide_eq_true (by omega)), dfold1_fmap is (acc ++ [y]) (by simp; omega) fun j hj => hf j (List.mem_cons_of_mem _ hj), List.append_assoc]
      rfl
theorem dfold2_flat {α : Type} {f : D → List D → DM (List D)} {g : α → D} {h : α → List D} {c : Ce} {N : Nat} : ∀ (is : List α) (acc : List D), acc.length + (is.flatMap h).length ≤ N → (∀ i ∈ is, ∀ acc : List D, acc.length ≤ N → f (g i) acc c = .ok (acc ++ h i) c) → dfold2 f acc (is.map g) c = .ok (acc ++ is.flatMap h) c
  | [], acc, _, _ => by rw [List.map_nil, List.flatMap_nil, List.append_nil]; rfl
  | i :: is, acc, hl, hf => by
    show dbind (f (g i) acc) (fun acc' => dfold2 f acc' (is.map g)) c = _
    rw [List.flatMap_cons, List.length_append] at hl
    rw [dbind_ap, hf i List.mem_cons_self acc (by omega), kD_ok, dfold2_flat (N := N) is (acc ++ h i) (by rw [List.length_append]; omega) (fun j hj => hf j (List.mem_cons_of_mem _ hj)), List.flatMap_cons, List.append_assoc]
/-- rows of lots -/
def tL (LL : List (List Nat)) : List D := LL.map fun l => D.tup (nL l)
theorem tL_len (LL : List (List Nat)) : (tL LL).length = LL.length := by simp [tL]
theorem tL_app (A B : List (List Nat)) : tL A ++ tL B = tL (A ++ B) := by simp [tL]
theorem atI_end {l : List Nat} {q : Nat} (h : l.getLast? = some q) : L2.atI (nL l) (-1) = some (.int (q : Int)) := by
  rcases List.eq_nil_or_concat l with rfl | ⟨m, p, rfl⟩
  · cases h
  · rw [List.concat_eq_append] at h ⊢
    simp -implicitDefEqProofs only [List.getLast?_append, List.getLast?_singleton, Option.some_or, Option.some.injEq] at h
    subst h
    rw [nL_snoc]
    exact L2.atI_last _ _
theorem add_tup1 (xs : List D) (y : D) (h : xs.length ≤ 1000) : binD .Add (.tup xs) (.tup [y]) = dret (.fz (.tup (xs ++ [y]))) := dif_pos' (lenOk_of (by simp; omega)) _
theorem filterMap_if {α β : Type} (q : α → Bool) (f : α → β) : ∀ l : List α, l.filterMap (fun x => if q x = true then some (f x) else none) = (l.filter q).map f
  | [] => rfl
  | x :: l => by
    rw [List.filterMap_cons, List.filter_cons]
    by_cases h : q x = true
    · rw [if_pos h, if_pos h, List.map_cons, filterMap_if q f l]
    · rw [if_neg h, if_neg h, filterMap_if q f l]
section
variable {c : Ce} {tw : Bool} {n : Nat} {ts : List (Nat × Nat)} {ws : List Int} {st l pl : List Nat} {A B : D}
theorem size_turn {x3 : Option DV} {F L : D} {p : Nat} (hl : l.length ≤ 1000) :
    cT1 [5] (gP (.sl 5)) (tOr (tCmp .Eq (xBlt bLen [(xV 4)]) (xN (.int 0))) (tCmp .Lt (xIx (xV 4) (xNeg (xN (.int 1)))) (xV 5))) (xBin .Add (xV 4) (xTup [(xV 5)])) [(some (DV.fz (.tup (nL pl)))), (some (DV.fz (F))), (some (DV.fz (L))), x3, (some (DV.fz (.tup (nL l)))), none] (.int (p : Int)) c = .ok (if okP l p = true then some (.tup (nL (l ++ [p]))) else none) c := by
  have hb : binD .Add (.tup (nL l)) (.tup [.int (p : Int)]) = dret (.fz (.tup (nL (l ++ [p])))) := by
    rw [nL_snoc]; exact add_tup1 _ _ (by rw [nL_len]; exact hl)
  rcases List.eq_nil_or_concat l with h0 | ⟨m, q, h0⟩
  · subst h0
    have z : ((nL []).length : Int) = 0 := rfl
    simp! only [sTn, gP, bindP, bindPs, tupV, cT1, wipeD, bLen_tup, z, hb, okP, List.getLast?_nil]
  · rw [List.concat_eq_append] at h0
    have hq : l.getLast? = some q := by rw [h0]; simp
    have z : ¬ ((nL l).length : Int) = 0 := by rw [nL_len, h0]; simp; omega
    have hi := atI_end hq
    have z1 : (-1 : Int) = -1 := rfl
    by_cases hp : q < p
    · have hp1 : ((q : Int) < (p : Int)) = True := eq_true (by omega)
      have hp2 := eq_true hp
      simp! only [sTn, gP, bindP, bindPs, tupV, cT1, wipeD, bLen_tup, z, hi, hb, okP, hq, hp1, hp2]
    · have hp1 : ((q : Int) < (p : Int)) = False := eq_false (by omega)
      have hp2 := eq_false hp
      simp! only [sTn, gP, bindP, bindPs, tupV, cT1, wipeD, bLen_tup, z, hi, hb, okP, hq, hp1, hp2]
theorem level_step {x3 : Option DV} {F L : D} {k : Nat} (hu : Up pl) (hp : pl.length ≤ 12) (h3 : noOwn [x3] = true) :
    dfold2 (c1_fby_size [(some (DV.fz (.tup (nL pl)))), (some (DV.fz (F))), (some (DV.fz (L))), x3, none, none]) [] (tL (lev pl k)) c = .ok (tL (lev pl (k + 1))) c := by
  have hN : (lev pl (k + 1)).length ≤ 4096 := Nat.le_trans (lev_len hu (k + 1)) (Nat.le_trans (Nat.pow_le_pow_right (by omega) hp) (by decide))
  have ef : (lev pl k).flatMap (fun l => ((pl.filter (okP l)).map fun p => D.tup (nL (l ++ [p])))) = tL (lev pl (k + 1)) := by
    show _ = List.map (fun l => D.tup (nL l)) ((lev pl k).flatMap fun l => (pl.filter (okP l)).map fun p => l ++ [p])
    rw [List.map_flatMap]
    congr 1
    funext l
    rw [List.map_map]; rfl
  have h := dfold2_flat (f := c1_fby_size [(some (DV.fz (.tup (nL pl)))), (some (DV.fz (F))), (some (DV.fz (L))), x3, none, none]) (g := fun l => D.tup (nL l)) (h := fun l => ((pl.filter (okP l)).map fun p => D.tup (nL (l ++ [p])))) (c := c) (N := 4096) (lev pl k) [] (by
    rw [ef, tL_len]; simpa using hN) fun l hl acc ha => by
      have hl1 : l.length ≤ 1000 := by
        obtain ⟨a1, a2, a3⟩ := lev_mem.mp hl
        have := (up_sublist a2 hu a3).length_le
        omega
      have e1 := dfold1_fmap (f := cT1 [5] (gP (.sl 5)) (tOr (tCmp .Eq (xBlt bLen [(xV 4)]) (xN (.int 0))) (tCmp .Lt (xIx (xV 4) (xNeg (xN (.int 1)))) (xV 5))) (xBin .Add (xV 4) (xTup [(xV 5)])) [(some (DV.fz (.tup (nL pl)))), (some (DV.fz (F))), (some (DV.fz (L))), x3, (some (DV.fz (.tup (nL l)))), none]) (g := fun (p : Nat) => D.int (p : Int)) (h := fun p => if okP l p = true then some (D.tup (nL (l ++ [p]))) else none) (c := c) pl acc (by omega) fun p _ => size_turn hl1
      rw [filterMap_if] at e1
      have hno : noOwn [(some (DV.fz (.tup (nL pl)))), (some (DV.fz (F))), (some (DV.fz (L))), x3, (some (DV.fz (.tup (nL l)))), none] = true := by
        simp -implicitDefEqProofs only [noOwn, List.all_cons, List.all_nil, Bool.and_true, Bool.true_and] at h3 ⊢
        exact h3
      have hg : gP (.sl 4) (.tup (nL l)) (wipeD [(some (DV.fz (.tup (nL pl)))), (some (DV.fz (F))), (some (DV.fz (L))), x3, none, none] [4, 5]) = some [(some (DV.fz (.tup (nL pl)))), (some (DV.fz (F))), (some (DV.fz (L))), x3, (some (DV.fz (.tup (nL l)))), none] := rfl
      have hi : iPl true (xV 0) [(some (DV.fz (.tup (nL pl)))), (some (DV.fz (F))), (some (DV.fz (L))), x3, (some (DV.fz (.tup (nL l)))), none] = dret (nL pl) := rfl
      have e2 : c1_fby_size [(some (DV.fz (.tup (nL pl)))), (some (DV.fz (F))), (some (DV.fz (L))), x3, none, none] (.tup (nL l)) acc = dfold1 (cT1 [5] (gP (.sl 5)) (tOr (tCmp .Eq (xBlt bLen [(xV 4)]) (xN (.int 0))) (tCmp .Lt (xIx (xV 4) (xNeg (xN (.int 1)))) (xV 5))) (xBin .Add (xV 4) (xTup [(xV 5)])) [(some (DV.fz (.tup (nL pl)))), (some (DV.fz (F))), (some (DV.fz (L))), x3, (some (DV.fz (.tup (nL l)))), none]) acc (nL pl) := by
        unfold c1_fby_size cT2
        rw [hg]
        dsimp only
        rw [if_pos hno, hi]
        rfl
      rw [e2]
      exact e1
  rw [ef] at h
  exact h
theorem bysize_spec (hu : Up pl) (hp : pl.length ≤ 12) : Q_fby_size [.tup (nL pl)] c = .ok (.fz (.lst (tL (bysz pl pl.length)))) c := by
  rw [q_fby_size]
  have hB : ∀ k, (bysz pl k).length ≤ 4096 := fun k => Nat.le_trans (bysz_len hu k) (Nat.le_trans (Nat.pow_le_pow_right (by omega) hp) (by decide))
  have z0 : tL [[]] = [.tup []] := rfl
  obtain ⟨E', c', e, x3, rfl, rfl, _⟩ := sfor_inv (f := sTn (gP (.sl 3)) y1_fby_size) (P := fun k E c' => ∃ x3, E = [(some (DV.fz (.tup (nL pl)))), (some (DV.fz (.lst (tL (bysz pl k))))), (some (DV.fz (.lst (tL (lev pl k))))), x3, none, none] ∧ c' = c ∧ noOwn [x3] = true)
    (nL pl) 0 [(some (DV.fz (.tup (nL pl)))), (some (DV.fz (.lst (tL (bysz pl 0))))), (some (DV.fz (.lst (tL (lev pl 0))))), none, none, none] c ⟨none, rfl, rfl, rfl⟩ fun k hk E c' hP => by
      obtain ⟨x3, rfl, rfl, h3⟩ := hP
      rw [nL_getE hk, Nat.zero_add]
      rw [nL_len] at hk
      have e1 := level_step (c := c') (x3 := (some (DV.fz (D.int (((pl[k] : Nat) : Int)))))) (F := .lst (tL (bysz pl k))) (L := .lst (tL (lev pl k))) (k := k) hu hp rfl
      have hL : lenOk ((tL (bysz pl k)).length + (tL (lev pl (k + 1))).length) = true := lenOk_of (by
        have := hB (k + 1)
        rw [bysz_succ, List.length_append] at this
        rw [tL_len, tL_len]; omega)
      refine ⟨[(some (DV.fz (.tup (nL pl)))), (some (DV.fz (.lst (tL (bysz pl (k + 1)))))), (some (DV.fz (.lst (tL (lev pl (k + 1)))))), (some (DV.fz (D.int (((pl[k] : Nat) : Int))))), none, none], c', ?_, _, rfl, rfl, rfl⟩
      rw [bysz_succ, ← tL_app]
      simp! only [y1_fby_size, sTn, gP, bindP, bindPs, tupV, cT1, wipeD, items?, e1, hL]
  rw [nL_len, Nat.zero_add] at e
  have e' : sfor (sTn (gP (.sl 3)) y1_fby_size) (nL pl) [(some (DV.fz (.tup (nL pl)))), (some (DV.fz (.lst [.tup []]))), (some (DV.fz (.lst [.tup []]))), none, none, none] c' = _ := e
  simp! only [b_fby_size, s0_fby_size, s1_fby_size, s2_fby_size, s3_fby_size, items?, e']
theorem alllot_spec (hn : n ≤ 12) : Q_fall_lot [NetC tw n ts] c = .ok (.fz (.tup (nL (List.range n)))) c := by
  rw [q_fall_lot]
  have f1 : g_fall_lot_size (NetC tw n ts) = dret (.fz (.int n)) := by cases tw <;> kernel_rfl
  have hR : (rngOk 0 (n : Int) && lenOk ((n : Int) - 0).toNat) = true := by
    rw [Bool.and_eq_true]
    exact ⟨rngOk_of (by omega) (by omega) (by omega) (by omega), lenOk_of (by omega)⟩
  have er : rangeD 0 (n : Int) = nL (List.range n) := range_nat n
  simp! only [b_fall_lot, s0_fall_lot, f1, hR, er]
theorem lotsfrom_spec (hn : n ≤ 12) (hu : Up st) (hs : ∀ x ∈ st, x < n) : Q_flots_from [.tup (nL st), .tup (nL (List.range n))] c = .ok (.fr (tL (lotsF n st))) c := by
  rw [q_flots_from]
  have hlen : (List.range n).length ≤ 1000 := by simp; omega
  have e1 := minus_up (c := c) (b := st) hlen (Up.range n)
  have er : ((List.range n).filter fun x => !decide (x ∈ st)) = restL n (inX st) := rfl
  rw [er] at e1
  have hR : (restL n (inX st)).length ≤ 12 := by
    unfold restL
    exact Nat.le_trans (List.length_filter_le _ _) (by simp; exact hn)
  have e2 := bysize_spec (c := c) (restL_up n (inX st)) hR
  have hst := len_le hu hs
  have hL : lenOk (tL (bysz (restL n (inX st)) (restL n (inX st)).length)).length = true := lenOk_of (by
    rw [tL_len]
    exact Nat.le_trans (bysz_len (restL_up n _) _) (Nat.le_trans (Nat.pow_le_pow_right (by omega) hR) (by decide)))
  have e3 : dloop (c1_flots_from [(some (DV.fz (.tup (nL st)))), (some (DV.fz (.tup (nL (List.range n))))), none]) (tL (bysz (restL n (inX st)) (restL n (inX st)).length)) c = .ok (tL (lotsF n st)) c := by
    unfold lotsF tL
    rw [List.map_map]
    refine dloop_map _ fun m hm => ?_
    have hm2 := (bysz_mem (restL_up n _)).mp hm
    have hml := (up_sublist hm2.1 (restL_up n _) hm2.2).length_le
    have e4 := both_spec (c := c) (a := st) (b := m) (by omega) (by omega)
    simp! only [c1_flots_from, sTn, gP, bindP, bindPs, tupV, cT1, wipeD, e4]
    rfl
  simp! only [b_flots_from, s0_flots_from, e1, e2, items?, hL, e3]
end
end DLaw

set_option maxHeartbeats 4000000
/-! DM4: equality of plain data. -/
namespace DL
open PySem L2
mutual
theorem eqv_self : ∀ d : PyData, d.canLay0 = true → PyData.eqv d d = true
  | .none, _ => rfl
  | .bool b, _ => by simp [PyData.eqv]
  | .int b, _ => by simp [PyData.eqv]
  | .str b, _ => by simp [PyData.eqv]
  | .list xs, h => by simp only [PyData.eqv]; exact eqv_selfAll xs (by simpa only [PyData.canLay0] using h)
  | .tuple xs, h => by simp only [PyData.eqv]; exact eqv_selfAll xs (by simpa only [PyData.canLay0] using h)
  | .dict _, h => by simp [PyData.canLay0] at h
theorem eqv_selfAll : ∀ ds : List PyData, PyData.canLayAll0 ds = true → PyData.eqvAll ds ds = true
  | [], _ => rfl
  | d :: ds, h => by
    simp only [PyData.canLayAll0, Bool.and_eq_true] at h
    simp only [PyData.eqvAll, eqv_self d h.1, eqv_selfAll ds h.2, Bool.and_self]
end
/-- plain data of a depth -/
def Pl (k : Nat) (x : D) : Prop := ∃ d, toPy x = some d ∧ d.canLay0 = true ∧ d.depth ≤ k
def Pls (k : Nat) (xs : List D) : Prop := ∃ ds, toPys xs = some ds ∧ PyData.canLayAll0 ds = true ∧ PyData.depthAll ds ≤ k
theorem Pl.up {k m : Nat} {x : D} (h : Pl k x) (hm : k ≤ m) : Pl m x := by
  obtain ⟨d, a, b, c⟩ := h
  exact ⟨d, a, b, by omega⟩
theorem pl_int (i : Int) : Pl 0 (.int i) := ⟨.int i, rfl, rfl, by simp [PyData.depth]⟩
theorem pl_bl (b : Bool) : Pl 0 (.bl b) := ⟨.bool b, rfl, rfl, by simp [PyData.depth]⟩
theorem pl_non : Pl 0 .non := ⟨.none, rfl, rfl, by simp [PyData.depth]⟩
theorem pls_of {k : Nat} : ∀ {xs : List D}, (∀ x ∈ xs, Pl k x) → Pls k xs
  | [], _ => ⟨[], rfl, rfl, by simp [PyData.depthAll]⟩
  | x :: xs, h => by
    obtain ⟨d, a, b, c⟩ := h x List.mem_cons_self
    obtain ⟨ds, a', b', c'⟩ := pls_of fun y hy => h y (List.mem_cons_of_mem _ hy)
    refine ⟨d :: ds, ?_, by simp only [PyData.canLayAll0, b, b', Bool.and_self], by simp only [PyData.depthAll]; omega⟩
    show (match toPy x, toPys xs with
      | some d, some ds => some (d :: ds)
      | _, _ => none) = _
    rw [a, a']
theorem pl_tup {k : Nat} {xs : List D} (h : ∀ x ∈ xs, Pl k x) : Pl (k + 1) (.tup xs) := by
  obtain ⟨ds, a, b, c⟩ := pls_of h
  exact ⟨.tuple ds, by simp only [toPy, a, Option.map_some], by simp only [PyData.canLay0, b], by simp only [PyData.depth]; omega⟩
theorem pl_lst {k : Nat} {xs : List D} (h : ∀ x ∈ xs, Pl k x) : Pl (k + 1) (.lst xs) := by
  obtain ⟨ds, a, b, c⟩ := pls_of h
  exact ⟨.list ds, by simp only [toPy, a, Option.map_some], by simp only [PyData.canLay0, b], by simp only [PyData.depth]; omega⟩
theorem shaped_of {d : PyData} {k : Nat} (h1 : d.canLay0 = true) (h2 : d.depth ≤ k) (h : k ≤ 64) : SeqAt.shaped d = true := by
  unfold SeqAt.shaped
  rw [h1, decide_eq_true (show d.depth ≤ 64 by omega)]; rfl
theorem Pl.eqD {k : Nat} {x : D} (h : Pl k x) (hk : k ≤ 64) : eqD x x = some true := by
  obtain ⟨d, e, h1, h2⟩ := h
  have hs := shaped_of h1 h2 hk
  unfold DL.eqD
  rw [e]
  dsimp only
  rw [hs, eqv_self d h1]; rfl
theorem cmp_Eq (x y : D) : cmpD .Eq x y = dbl (eqD x y) := by cases x <;> cases y <;> rfl
theorem cmp_Ne (x y : D) : cmpD .NotEq x y = dbl ((eqD x y).map (!·)) := by cases x <;> cases y <;> rfl
theorem Pl.eq {k : Nat} {x : D} (h : Pl k x) (hk : k ≤ 64) : cmpD .Eq x x = dret (.bl true) := by rw [cmp_Eq, h.eqD hk]; rfl
theorem Pl.ne {k : Nat} {x : D} (h : Pl k x) (hk : k ≤ 64) : cmpD .NotEq x x = dret (.bl false) := by rw [cmp_Ne, h.eqD hk]; rfl
theorem pls_iL (is : List Int) : ∀ x ∈ iL is, Pl 0 x := fun x hx => by
  unfold iL at hx
  obtain ⟨i, _, rfl⟩ := List.mem_map.mp hx
  exact pl_int i
theorem pls_nL (is : List Nat) : ∀ x ∈ nL is, Pl 0 x := fun x hx => by
  unfold nL at hx
  obtain ⟨i, _, rfl⟩ := List.mem_map.mp hx
  exact pl_int i
theorem pls_pL (is : List (Nat × Nat)) : ∀ x ∈ pL is, Pl 1 x := fun x hx => by
  unfold pL at hx
  obtain ⟨i, _, rfl⟩ := List.mem_map.mp hx
  exact pl_tup fun y hy => by
    simp only [List.mem_cons, List.not_mem_nil, or_false] at hy
    rcases hy with rfl | rfl
    · exact pl_int _
    · exact pl_int _
/-! ints -/
theorem toPys_ints : ∀ is : List Int, toPys (iL is) = some (is.map PyData.int)
  | [] => rfl
  | i :: is => by
    show (match toPy (.int i), toPys (iL is) with
      | some d, some ds => some (d :: ds)
      | _, _ => none) = _
    rw [toPys_ints is]; rfl
theorem canL_ints : ∀ is : List Int, PyData.canLayAll0 (is.map PyData.int) = true
  | [] => rfl
  | i :: is => by simp only [List.map_cons, PyData.canLayAll0, PyData.canLay0, canL_ints is, Bool.and_self]
theorem dep_ints : ∀ is : List Int, PyData.depthAll (is.map PyData.int) = 0
  | [] => rfl
  | i :: is => by simp only [List.map_cons, PyData.depthAll, PyData.depth, dep_ints is, Nat.max_self]
theorem eqvAll_ints : ∀ a b : List Int, PyData.eqvAll (a.map PyData.int) (b.map PyData.int) = decide (a = b)
  | [], [] => by simp [PyData.eqvAll]
  | [], _ :: _ => by simp [PyData.eqvAll]
  | _ :: _, [] => by simp [PyData.eqvAll]
  | x :: a, y :: b => by
    simp only [List.map_cons, PyData.eqvAll, PyData.eqv, eqvAll_ints a b]
    by_cases h : x = y <;> by_cases h2 : a = b <;> simp [h, h2]
theorem eqD_tupI (a b : List Int) : eqD (.tup (iL a)) (.tup (iL b)) = some (decide (a = b)) := by
  have hs : ∀ a : List Int, SeqAt.shaped (.tuple (a.map PyData.int)) = true := fun a => shaped_of (k := 1) (by simp only [PyData.canLay0, canL_ints]) (by simp only [PyData.depth, dep_ints]; omega) (by omega)
  unfold eqD
  simp only [toPy, toPys_ints, Option.map_some, hs, PyData.eqv, eqvAll_ints, Bool.and_self, if_true]
theorem eqD_lstI (a b : List Int) : eqD (.lst (iL a)) (.lst (iL b)) = some (decide (a = b)) := by
  have hs : ∀ a : List Int, SeqAt.shaped (.list (a.map PyData.int)) = true := fun a => shaped_of (k := 1) (by simp only [PyData.canLay0, canL_ints]) (by simp only [PyData.depth, dep_ints]; omega) (by omega)
  unfold eqD
  simp only [toPy, toPys_ints, Option.map_some, hs, PyData.eqv, eqvAll_ints, Bool.and_self, if_true]
theorem iL_nat (a : List Nat) : nL a = iL (a.map fun (n : Nat) => (n : Int)) := by simp [nL, iL]
theorem nat_map_inj {a b : List Nat} : (a.map fun (n : Nat) => (n : Int)) = (b.map fun (n : Nat) => (n : Int)) ↔ a = b := by
  constructor
  · intro h
    have := congrArg (List.map Int.toNat) h
    simpa [List.map_map, Function.comp_def] using this
  · intro h; rw [h]
theorem eq_tupI (a b : List Int) : cmpD .Eq (.tup (iL a)) (.tup (iL b)) = dret (.bl (decide (a = b))) := by rw [cmp_Eq, eqD_tupI]; rfl
theorem ne_tupI' (a b : List Int) : cmpD .NotEq (.tup (iL a)) (.tup (iL b)) = dret (.bl (!decide (a = b))) := by rw [cmp_Ne, eqD_tupI]; rfl
theorem eq_lstI (a b : List Int) : cmpD .Eq (.lst (iL a)) (.lst (iL b)) = dret (.bl (decide (a = b))) := by rw [cmp_Eq, eqD_lstI]; rfl
theorem ne_lstI (a b : List Int) : cmpD .NotEq (.lst (iL a)) (.lst (iL b)) = dret (.bl (!decide (a = b))) := by rw [cmp_Ne, eqD_lstI]; rfl
theorem eq_tupN (a b : List Nat) : cmpD .Eq (.tup (nL a)) (.tup (nL b)) = dret (.bl (decide (a = b))) := by
  rw [iL_nat, iL_nat, eq_tupI, decide_eq_decide.mpr nat_map_inj]
theorem ne_tupN (a b : List Nat) : cmpD .NotEq (.tup (nL a)) (.tup (nL b)) = dret (.bl (!decide (a = b))) := by
  rw [iL_nat, iL_nat, ne_tupI', decide_eq_decide.mpr nat_map_inj]
theorem eq_lstN (a b : List Nat) : cmpD .Eq (.lst (nL a)) (.lst (nL b)) = dret (.bl (decide (a = b))) := by
  rw [iL_nat, iL_nat, eq_lstI, decide_eq_decide.mpr nat_map_inj]
theorem ne_lstN (a b : List Nat) : cmpD .NotEq (.lst (nL a)) (.lst (nL b)) = dret (.bl (!decide (a = b))) := by
  rw [iL_nat, iL_nat, ne_lstI, decide_eq_decide.mpr nat_map_inj]
end DL

set_option maxHeartbeats 4000000
/-! DM5: loops that stop early. -/
namespace DL
open PySem L2
theorem sfor_stop {f : D → EnvD → SM} {P : Nat → EnvD → Ce → Prop} {R : RsS → Prop} (hR : ∀ r, R r → (∃ v E c, r = .ok (.ret v) E c) ∨ ∃ e E c, r = .err e E c) : ∀ (xs : List D) (n k : Nat) (hk : k < xs.length) (E : EnvD) (c : Ce), P n E c →
    (∀ (j : Nat) (h : j < k) (E : EnvD) (c : Ce), P (n + j) E c → ∃ E' c', f (xs[j]'(Nat.lt_trans h hk)) E c = .ok .nx E' c' ∧ P (n + j + 1) E' c') → (∀ E c, P (n + k) E c → R (f xs[k] E c)) → R (sfor f xs E c)
  | [], _, _, hk, _, _, _, _, _ => absurd hk (Nat.not_lt_zero _)
  | x :: xs, n, 0, hk, E, c, h, _, hs => by
    have r := hs E c h
    have r' : R (f x E c) := r
    rcases hR _ r' with ⟨v, E', c', e⟩ | ⟨e', E', c', e⟩
    · rw [sfor_ret e]; rw [e] at r'; exact r'
    · rw [sfor_err e]; rw [e] at r'; exact r'
  | x :: xs, n, k + 1, hk, E, c, h, ht, hs => by
    obtain ⟨E1, c1, e1, h1⟩ := ht 0 (by omega) E c h
    have e1' : f x E c = .ok .nx E1 c1 := e1
    rw [sfor_cons e1']
    refine sfor_stop (P := P) hR xs (n + 1) k (by simpa using hk) E1 c1 h1 (fun j hj E c hP => ?_) fun E c hP => ?_
    · have q : n + 1 + j = n + (j + 1) := by omega
      rw [q] at hP ⊢
      exact ht (j + 1) (by omega) E c hP
    · have q : n + 1 + k = n + (k + 1) := by omega
      rw [q] at hP
      exact hs E c hP
theorem msg_ok {k : Nat} (h : k < 1000) : msgOk (.int (k : Int)) = true := by
  show decide ((k : Int).natAbs.log2 < 1920) = true
  have : (k : Int).natAbs = k := by omega
  rw [this]
  refine decide_eq_true ?_
  by_cases q : k = 0
  · subst q; decide
  · rw [Nat.log2_lt q]
    exact Nat.lt_of_lt_of_le h (Nat.le_trans (show 1000 ≤ 2 ^ 10 by decide) (Nat.pow_le_pow_right (by omega) (by omega)))
theorem msg_m1 : msgOk (.int (-1)) = true := by decide
theorem z_m1 : (0 : Int) - 1 = -1 := rfl
/-- a list with a good beginning -/
theorem enum_at {xs : List D} {k : Nat} (h : k < xs.length) : ∃ h' : k < (enumD xs).length, (enumD xs)[k] = .tup [.int (k : Int), xs[k]] := by
  have hl : (enumD xs).length = xs.length := by simp [enumD]
  exact ⟨by rw [hl]; exact h, by simp [enumD]⟩
theorem mtD_obj {C : Cn} {m c : Str} {ns : List Str} {vs : List D} {ma : DM (List D)} {Q : List D → DM RV} (h1 : C.isMt c m = true) (h2 : (ns.zip vs).lookup m = none) (h3 : C.Mt c m = Q) : mtD C m (.obj c ns vs) ma = dbind ma fun xs => Q (.obj c ns vs :: xs) := by
  subst h3
  show (if (C.isMt c m && ((ns.zip vs).lookup m).isNone) = true then _ else _) = _
  rw [h1, h2]; rfl
end DL

set_option maxHeartbeats 4000000
/-! K20A: worlds and lots that are refused. -/
namespace DLaw
open PySem DL
local macro_rules
  | `(tactic| simp! only [$ts,*]) => `(tactic| simp -implicitDefEqProofs only [sL_cons, sL_nil, kS_nx, kS_ret, kS_err, sNx_ap, sAs_ap, kB_ok, kB_err, backE_self, kA_ok, kA_err, sIf_ap, kI_ok, kI_err, sFo_ap, kF_ok, sTu_ap, kU, sAp_ap, sSu_ap, kJ_ok, sAt_ap, sAu_ap, sR0_ap, sRe_ap, retR_fz, retR_fr, sEx_ap, sret_ap, sRs_ap, kR, sTr_ap, kT_ok, kT_err, sRN, stF, stO, stC, appD, setD, mutD, insD, insS, augD, augS, fzE, fz1, xB, xK, xW, xN, xV, xBin, xNeg, xNot, xAnd, xOr, xCmp, xCmp2, xIf, xKs, xBs, xTup, xLst, xO, xSl, xRev, revD_lst, xIx, xFld, xFldN, isI, slfD, xBlt, xMt, xRg1, xRg2, rgR_l, rgR_t, xCal, xIsi, xIsi2, tNot, tAnd, tOr, tCmp, tCmp2, tTru, tYes, iR1, iR2, iEn, zipO, iZip, iPl, xC1, xC2, noErr_ap, kN_ok, dbind_dret, dbind_wrong, dbind_ap, dret_ap, dwrong_ap, kD_ok, kD_err, bOf_fz, bOf_fr, bOf_bo, kOf_fz, kOf_fr, intD_int, blD_bl, dget_some, dbl_some, dgetZ_some, dlist_nil, dlist_cons, outD_ret, outD_nx, outD_err, outI_ok', outI_err, add_int, sub_int, mul_int, div_int, mod_int, pow_int, add_lst, lt_int, le_int, gt_int, ge_int, eq_int, ne_int, ix_lst, ix_tup, ix_scr, ix_cel, dcel_ap, dtru, truD, lenOk_sm, List.length_cons, List.length_nil, Nat.reduceAdd, Nat.reduceLeDiff, Nat.reduceLT, List.getElem?_cons_zero, List.getElem?_cons_succ, List.set_cons_zero, List.set_cons_succ, if_true, if_false, ite_true, ite_false, decide_true, decide_false, Bool.false_eq_true, Bool.not_true, Bool.not_false, Bool.true_and, Bool.false_and, Bool.and_true, Bool.and_false, decide_eq_true_eq, not_false_eq_true, not_true_eq_false, dif_t, $ts,*])
def badW (e : Int) : Exn := ⟨"BadWorld", [("at", .int e)]⟩
def badL (e : Int) : Exn := ⟨"BadLot", [("at", .int e)]⟩
def emptyX (nm : Str) : Exn := ⟨"EmptyLot", [("name", .str nm)]⟩
def outsideX (p : Nat) : Exn := ⟨"NotInside", [("place", .int (p : Int))]⟩
/-- no list, no tuple -/
def noSeq : D → Bool
  | .non => true
  | .bl _ => true
  | .int _ => true
  | .str _ => true
  | _ => false
/-- a place that does not stand behind others -/
def BadP (n : Nat) (good : List Nat) (x : D) : Prop := plainD x = true ∧ ∀ i, x = .int i → i < 0 ∨ (n : Int) ≤ i ∨ i ∈ casts good
/-- a capacity that is none -/
def BadC (x : D) : Prop := plainD x = true ∧ ∀ i, x = .int i → i < 0
section
variable {c : Ce} {tw : Bool} {n : Nat} {ts : List (Nat × Nat)} {ws good : List Int} {A x : D} {r : List D} {lot : List Nat}
theorem world_noseq {m : Int} (h : noSeq A = true) : Q_fcheck_world [.int m, A] c = .err (badW (-1)) c := by
  rw [q_fcheck_world]
  have hm := msg_m1
  cases A <;> first | (cases h; done) | simp! only [b_fcheck_world, s0_fcheck_world, k_fcheck_world_list, k_fcheck_world_tuple, isi_int_non, isi_int_bl, isi_int_int, isi_int_str, isi_int_lst, isi_int_tup, isi_bool_non, isi_bool_bl, isi_bool_int, isi_bool_str, isi_bool_lst, isi_bool_tup, isi_list_non, isi_list_bl, isi_list_int, isi_list_str, isi_list_lst, isi_list_tup, isi_tuple_non, isi_tuple_bl, isi_tuple_int, isi_tuple_str, isi_tuple_lst, isi_tuple_tup, Bool.or_false, List.all_cons, List.all_nil, List.zip_cons_cons, List.zip_nil_left, List.zip_nil_right, List.reverse_cons, List.reverse_nil, List.nil_append, hm, badW, z_m1]
theorem world_long {xs : List D} {m : Nat} (hA : SeqI A xs) (h : xs.length ≠ m) : Q_fcheck_world [.int m, A] c = .err (badW (-1)) c := by
  rw [q_fcheck_world]
  have hm := msg_m1
  have a1 : ¬ ((xs.length : Int) = (m : Int)) := by omega
  rcases hA with rfl | rfl
  · simp! only [b_fcheck_world, s0_fcheck_world, k_fcheck_world_list, k_fcheck_world_tuple, isi_int_non, isi_int_bl, isi_int_int, isi_int_str, isi_int_lst, isi_int_tup, isi_bool_non, isi_bool_bl, isi_bool_int, isi_bool_str, isi_bool_lst, isi_bool_tup, isi_list_non, isi_list_bl, isi_list_int, isi_list_str, isi_list_lst, isi_list_tup, isi_tuple_non, isi_tuple_bl, isi_tuple_int, isi_tuple_str, isi_tuple_lst, isi_tuple_tup, Bool.or_false, Bool.or_true, Bool.false_or, bLen_lst, a1, List.all_cons, List.all_nil, List.zip_cons_cons, List.zip_nil_left, List.zip_nil_right, List.reverse_cons, List.reverse_nil, List.nil_append, hm, badW, z_m1]
  · simp! only [b_fcheck_world, s0_fcheck_world, k_fcheck_world_list, k_fcheck_world_tuple, isi_int_non, isi_int_bl, isi_int_int, isi_int_str, isi_int_lst, isi_int_tup, isi_bool_non, isi_bool_bl, isi_bool_int, isi_bool_str, isi_bool_lst, isi_bool_tup, isi_list_non, isi_list_bl, isi_list_int, isi_list_str, isi_list_lst, isi_list_tup, isi_tuple_non, isi_tuple_bl, isi_tuple_int, isi_tuple_str, isi_tuple_lst, isi_tuple_tup, Bool.or_false, Bool.or_true, Bool.false_or, bLen_tup, a1, List.all_cons, List.all_nil, List.zip_cons_cons, List.zip_nil_left, List.zip_nil_right, List.reverse_cons, List.reverse_nil, List.nil_append, hm, badW, z_m1]
theorem world_bad {m : Nat} (hA : SeqI A (iL good ++ x :: r)) (hm : (iL good ++ x :: r).length = m) (hg : ∀ w ∈ good, 0 ≤ w) (hx : BadC x) (hl : good.length < 1000) : Q_fcheck_world [.int m, A] c = .err (badW good.length) c := by
  rw [q_fcheck_world]
  have hmsg := msg_ok hl
  have hk : good.length < (enumD (iL good ++ x :: r)).length := by
    rw [enumD_len, List.length_append, iL_len, List.length_cons]; omega
  have e : ∃ E', sfor (sTn (gP (.tp [.sl 2, .sl 3])) y1_fcheck_world) (enumD (iL good ++ x :: r)) [(some (DV.fz (D.int ((m : Int))))), (some (DV.fz (A))), none, none] c = .err (badW good.length) E' c :=
    sfor_stop (R := fun r => ∃ E', r = .err (badW good.length) E' c) (P := fun k E c' => ∃ x2 x3, E = [(some (DV.fz (D.int ((m : Int))))), (some (DV.fz (A))), x2, x3] ∧ c' = c) (fun r ⟨E', e⟩ => .inr ⟨_, _, _, e⟩) (enumD (iL good ++ x :: r)) 0 good.length hk _ c ⟨none, none, rfl, rfl⟩
      (fun k hk' E c' hP => by
        obtain ⟨x2, x3, rfl, rfl⟩ := hP
        rw [enumD_get (Nat.lt_trans hk' hk), List.getElem_append_left (by rw [iL_len]; exact hk'), iL_getE]
        have h1 := hg _ (List.getElem_mem hk')
        have a1 : ¬ (good[k] < 0) := by omega
        refine ⟨[(some (DV.fz (D.int ((m : Int))))), (some (DV.fz (A))), (some (DV.fz (D.int ((k : Int))))), (some (DV.fz (D.int (good[k]))))], c', ?_, _, _, rfl, rfl⟩
        simp! only [y1_fcheck_world, sTn, gP, bindP, bindPs, tupV, cT1, wipeD, number_int, a1])
      (fun E c' hP => by
        obtain ⟨x2, x3, rfl, rfl⟩ := hP
        rw [enumD_get hk, List.getElem_append_right (by rw [iL_len]; omega)]
        simp -implicitDefEqProofs only [iL_len, Nat.sub_self, List.getElem_cons_zero]
        obtain ⟨hx1, hx2⟩ := hx
        cases x with
        | int i =>
          have hi := eq_true (hx2 i rfl)
          exact ⟨_, by simp! only [y1_fcheck_world, sTn, gP, bindP, bindPs, tupV, cT1, wipeD, number_int, hi, List.all_cons, List.all_nil, List.zip_cons_cons, List.zip_nil_left, List.zip_nil_right, List.reverse_cons, List.reverse_nil, List.nil_append, hmsg, badW]; rfl⟩
        | non => exact ⟨_, by simp! only [y1_fcheck_world, sTn, gP, bindP, bindPs, tupV, cT1, wipeD, number_spec _ hx1, isInt, List.all_cons, List.all_nil, List.zip_cons_cons, List.zip_nil_left, List.zip_nil_right, List.reverse_cons, List.reverse_nil, List.nil_append, hmsg, badW]; rfl⟩
        | bl _ => exact ⟨_, by simp! only [y1_fcheck_world, sTn, gP, bindP, bindPs, tupV, cT1, wipeD, number_spec _ hx1, isInt, List.all_cons, List.all_nil, List.zip_cons_cons, List.zip_nil_left, List.zip_nil_right, List.reverse_cons, List.reverse_nil, List.nil_append, hmsg, badW]; rfl⟩
        | str _ => exact ⟨_, by simp! only [y1_fcheck_world, sTn, gP, bindP, bindPs, tupV, cT1, wipeD, number_spec _ hx1, isInt, List.all_cons, List.all_nil, List.zip_cons_cons, List.zip_nil_left, List.zip_nil_right, List.reverse_cons, List.reverse_nil, List.nil_append, hmsg, badW]; rfl⟩
        | lst _ => exact ⟨_, by simp! only [y1_fcheck_world, sTn, gP, bindP, bindPs, tupV, cT1, wipeD, number_spec _ hx1, isInt, List.all_cons, List.all_nil, List.zip_cons_cons, List.zip_nil_left, List.zip_nil_right, List.reverse_cons, List.reverse_nil, List.nil_append, hmsg, badW]; rfl⟩
        | tup _ => exact ⟨_, by simp! only [y1_fcheck_world, sTn, gP, bindP, bindPs, tupV, cT1, wipeD, number_spec _ hx1, isInt, List.all_cons, List.all_nil, List.zip_cons_cons, List.zip_nil_left, List.zip_nil_right, List.reverse_cons, List.reverse_nil, List.nil_append, hmsg, badW]; rfl⟩
        | obj _ _ _ => cases hx1
        | cel => cases hx1
        | scr _ => cases hx1)
  obtain ⟨E', e⟩ := e
  have hlen : ((iL good ++ x :: r).length : Int) = (m : Int) := by omega
  rcases hA with rfl | rfl
  · simp! only [b_fcheck_world, s0_fcheck_world, s1_fcheck_world, s2_fcheck_world, k_fcheck_world_list, k_fcheck_world_tuple, isi_int_non, isi_int_bl, isi_int_int, isi_int_str, isi_int_lst, isi_int_tup, isi_bool_non, isi_bool_bl, isi_bool_int, isi_bool_str, isi_bool_lst, isi_bool_tup, isi_list_non, isi_list_bl, isi_list_int, isi_list_str, isi_list_lst, isi_list_tup, isi_tuple_non, isi_tuple_bl, isi_tuple_int, isi_tuple_str, isi_tuple_lst, isi_tuple_tup, Bool.or_false, Bool.or_true, Bool.false_or, bLen_lst, hlen, items?, e]
  · simp! only [b_fcheck_world, s0_fcheck_world, s1_fcheck_world, s2_fcheck_world, k_fcheck_world_list, k_fcheck_world_tuple, isi_int_non, isi_int_bl, isi_int_int, isi_int_str, isi_int_lst, isi_int_tup, isi_bool_non, isi_bool_bl, isi_bool_int, isi_bool_str, isi_bool_lst, isi_bool_tup, isi_list_non, isi_list_bl, isi_list_int, isi_list_str, isi_list_lst, isi_list_tup, isi_tuple_non, isi_tuple_bl, isi_tuple_int, isi_tuple_str, isi_tuple_lst, isi_tuple_tup, Bool.or_false, Bool.or_true, Bool.false_or, bLen_tup, hlen, items?, e]
/-- a world that is refused, at e -/
inductive WBad (m : Nat) : D → Int → Prop
  | noseq {A : D} (h : noSeq A = true) : WBad m A (-1)
  | long {A : D} {xs : List D} (hA : SeqI A xs) (h : xs.length ≠ m) : WBad m A (-1)
  | bad {A x : D} {good : List Int} {r : List D} (hA : SeqI A (iL good ++ x :: r)) (hm : (iL good ++ x :: r).length = m) (hg : ∀ w ∈ good, 0 ≤ w) (hx : BadC x) (hl : good.length < 1000) : WBad m A good.length
theorem world_of_bad {e : Int} (h : WBad ts.length A e) : Q_fworld_of [NetC tw n ts, A] c = .err (badW e) c := by
  rw [q_fworld_of]
  have e1 : g_fworld_of_many (NetC tw n ts) c = .ok (.fz (.int ts.length)) c := many_spec
  have e2 : Q_fcheck_world [.int ts.length, A] c = .err (badW e) c := by
    cases h with
    | noseq h => exact world_noseq h
    | long hA h => exact world_long hA h
    | bad hA hm hg hx hl => exact world_bad hA hm hg hx hl
  simp! only [b_fworld_of, s0_fworld_of, e1, e2]
theorem lot_noseq {m : Int} (h : noSeq A = true) : Q_fsorted_lot [.int m, A] c = .err (badL (-1)) c := by
  rw [q_fsorted_lot]
  have hm := msg_m1
  cases A <;> first | (cases h; done) | simp! only [b_fsorted_lot, s0_fsorted_lot, k_fsorted_lot_list, k_fsorted_lot_tuple, isi_int_non, isi_int_bl, isi_int_int, isi_int_str, isi_int_lst, isi_int_tup, isi_bool_non, isi_bool_bl, isi_bool_int, isi_bool_str, isi_bool_lst, isi_bool_tup, isi_list_non, isi_list_bl, isi_list_int, isi_list_str, isi_list_lst, isi_list_tup, isi_tuple_non, isi_tuple_bl, isi_tuple_int, isi_tuple_str, isi_tuple_lst, isi_tuple_tup, Bool.or_false, List.all_cons, List.all_nil, List.zip_cons_cons, List.zip_nil_left, List.zip_nil_right, List.reverse_cons, List.reverse_nil, List.nil_append, hm, badL, z_m1]
theorem sl_take {xs : List D} (hA : SeqI A xs) (k : Nat) : ∃ B, (slD A none (some (k : Int)) = dret (.fr (xs.take k)) ∧ B = D.lst (xs.take k)) ∨ (slD A none (some (k : Int)) = dret (.fz (.tup (xs.take k))) ∧ B = D.tup (xs.take k)) := by
  rcases hA with rfl | rfl
  · exact ⟨_, .inl ⟨slD_take _ _, rfl⟩⟩
  · exact ⟨_, .inr ⟨slT_take _ _, rfl⟩⟩
theorem mem_castsI {i : Int} {lot : List Nat} : i ∈ casts lot ↔ ∃ p ∈ lot, (p : Int) = i := by
  unfold casts; simp
theorem inI_lst (i : Int) (l : List Nat) : cmpD .In (.int i) (.lst (nL l)) = dret (.bl (decide (i ∈ casts l))) := by
  rw [nL_iL, in_lst]; rfl
theorem inI_tup (i : Int) (l : List Nat) : cmpD .In (.int i) (.tup (nL l)) = dret (.bl (decide (i ∈ casts l))) := by
  rw [nL_iL, in_tup]; rfl
theorem lot_bad (hA : SeqI A (nL lot ++ x :: r)) (hd : lot.Nodup) (hr : ∀ p ∈ lot, p < n) (hx : BadP n lot x) (hl : lot.length < 1000) : Q_fsorted_lot [.int n, A] c = .err (badL lot.length) c := by
  rw [q_fsorted_lot]
  have hmsg := msg_ok hl
  have hk : lot.length < (enumD (nL lot ++ x :: r)).length := by
    rw [enumD_len, List.length_append, nL_len, List.length_cons]; omega
  have htk : ∀ k, k ≤ lot.length → (nL lot ++ x :: r).take k = nL (lot.take k) := fun k hk => by
    rw [List.take_append_of_le_length (by rw [nL_len]; exact hk), nL_take]
  have turn : ∀ (k : Nat) (hk' : k < lot.length) (x2 x3 : Option DV), sTn (gP (.tp [.sl 2, .sl 3])) y1_fsorted_lot (.tup [.int (k : Int), .int (lot[k] : Nat)]) [(some (DV.fz (D.int ((n : Int))))), (some (DV.fz (A))), x2, x3] c = .ok .nx [(some (DV.fz (D.int ((n : Int))))), (some (DV.fz (A))), (some (DV.fz (D.int ((k : Int))))), (some (DV.fz (D.int (((lot[k] : Nat) : Int)))))] c := fun k hk' x2 x3 => by
    have h1 := hr _ (List.getElem_mem hk')
    have a1 : ¬ (((lot[k] : Nat) : Int) < 0) := by omega
    have a2 : ¬ ((n : Int) ≤ ((lot[k] : Nat) : Int)) := by omega
    have a3 : ¬ lot[k] ∈ lot.take k := fun hm => by
      obtain ⟨j, hj, e⟩ := List.mem_take_iff_getElem.mp hm
      have := (List.getElem_inj hd).mp e
      omega
    rcases hA with rfl | rfl
    · simp! only [y1_fsorted_lot, sTn, gP, bindP, bindPs, tupV, cT1, wipeD, number_int, a1, a2, slD_take, htk k (by omega), in_nlst, a3]
    · simp! only [y1_fsorted_lot, sTn, gP, bindP, bindPs, tupV, cT1, wipeD, number_int, a1, a2, slT_take, htk k (by omega), in_ntup, a3]
  have stop : ∀ x2 x3, ∃ E', sTn (gP (.tp [.sl 2, .sl 3])) y1_fsorted_lot (.tup [.int (lot.length : Int), x]) [(some (DV.fz (D.int ((n : Int))))), (some (DV.fz (A))), x2, x3] c = .err (badL lot.length) E' c := fun x2 x3 => by
    obtain ⟨hx1, hx2⟩ := hx
    cases x with
    | int i =>
      by_cases b1 : i < 0
      · have b1 := eq_true b1
        exact ⟨_, by simp! only [y1_fsorted_lot, sTn, gP, bindP, bindPs, tupV, cT1, wipeD, number_int, b1, List.all_cons, List.all_nil, List.zip_cons_cons, List.zip_nil_left, List.zip_nil_right, List.reverse_cons, List.reverse_nil, List.nil_append, hmsg, badL]; rfl⟩
      · by_cases b2 : (n : Int) ≤ i
        · have b2 := eq_true b2
          exact ⟨_, by simp! only [y1_fsorted_lot, sTn, gP, bindP, bindPs, tupV, cT1, wipeD, number_int, b1, b2, List.all_cons, List.all_nil, List.zip_cons_cons, List.zip_nil_left, List.zip_nil_right, List.reverse_cons, List.reverse_nil, List.nil_append, hmsg, badL]; rfl⟩
        · have b3 := eq_true (((hx2 i rfl).resolve_left b1).resolve_left b2)
          have hall : lot.take lot.length = lot := List.take_length
          rcases hA with rfl | rfl
          · exact ⟨_, by simp! only [y1_fsorted_lot, sTn, gP, bindP, bindPs, tupV, cT1, wipeD, number_int, b1, b2, slD_take, htk lot.length (Nat.le_refl _), hall, inI_lst, b3, List.all_cons, List.all_nil, List.zip_cons_cons, List.zip_nil_left, List.zip_nil_right, List.reverse_cons, List.reverse_nil, List.nil_append, hmsg, badL]; rfl⟩
          · exact ⟨_, by simp! only [y1_fsorted_lot, sTn, gP, bindP, bindPs, tupV, cT1, wipeD, number_int, b1, b2, slT_take, htk lot.length (Nat.le_refl _), hall, inI_tup, b3, List.all_cons, List.all_nil, List.zip_cons_cons, List.zip_nil_left, List.zip_nil_right, List.reverse_cons, List.reverse_nil, List.nil_append, hmsg, badL]; rfl⟩
    | non => exact ⟨_, by simp! only [y1_fsorted_lot, sTn, gP, bindP, bindPs, tupV, cT1, wipeD, number_spec _ hx1, isInt, List.all_cons, List.all_nil, List.zip_cons_cons, List.zip_nil_left, List.zip_nil_right, List.reverse_cons, List.reverse_nil, List.nil_append, hmsg, badL]; rfl⟩
    | bl _ => exact ⟨_, by simp! only [y1_fsorted_lot, sTn, gP, bindP, bindPs, tupV, cT1, wipeD, number_spec _ hx1, isInt, List.all_cons, List.all_nil, List.zip_cons_cons, List.zip_nil_left, List.zip_nil_right, List.reverse_cons, List.reverse_nil, List.nil_append, hmsg, badL]; rfl⟩
    | str _ => exact ⟨_, by simp! only [y1_fsorted_lot, sTn, gP, bindP, bindPs, tupV, cT1, wipeD, number_spec _ hx1, isInt, List.all_cons, List.all_nil, List.zip_cons_cons, List.zip_nil_left, List.zip_nil_right, List.reverse_cons, List.reverse_nil, List.nil_append, hmsg, badL]; rfl⟩
    | lst _ => exact ⟨_, by simp! only [y1_fsorted_lot, sTn, gP, bindP, bindPs, tupV, cT1, wipeD, number_spec _ hx1, isInt, List.all_cons, List.all_nil, List.zip_cons_cons, List.zip_nil_left, List.zip_nil_right, List.reverse_cons, List.reverse_nil, List.nil_append, hmsg, badL]; rfl⟩
    | tup _ => exact ⟨_, by simp! only [y1_fsorted_lot, sTn, gP, bindP, bindPs, tupV, cT1, wipeD, number_spec _ hx1, isInt, List.all_cons, List.all_nil, List.zip_cons_cons, List.zip_nil_left, List.zip_nil_right, List.reverse_cons, List.reverse_nil, List.nil_append, hmsg, badL]; rfl⟩
    | obj _ _ _ => cases hx1
    | cel => cases hx1
    | scr _ => cases hx1
  have e : ∃ E', sfor (sTn (gP (.tp [.sl 2, .sl 3])) y1_fsorted_lot) (enumD (nL lot ++ x :: r)) [(some (DV.fz (D.int ((n : Int))))), (some (DV.fz (A))), none, none] c = .err (badL lot.length) E' c :=
    sfor_stop (R := fun r => ∃ E', r = .err (badL lot.length) E' c) (P := fun k E c' => ∃ x2 x3, E = [(some (DV.fz (D.int ((n : Int))))), (some (DV.fz (A))), x2, x3] ∧ c' = c) (fun r ⟨E', e⟩ => .inr ⟨_, _, _, e⟩) (enumD (nL lot ++ x :: r)) 0 lot.length hk _ c ⟨none, none, rfl, rfl⟩
      (fun k hk' E c' hP => by
        obtain ⟨x2, x3, rfl, rfl⟩ := hP
        rw [enumD_get (Nat.lt_trans hk' hk), List.getElem_append_left (by rw [nL_len]; exact hk'), nL_getE]
        exact ⟨_, c', turn k hk' x2 x3, _, _, rfl, rfl⟩)
      (fun E c' hP => by
        obtain ⟨x2, x3, rfl, rfl⟩ := hP
        rw [enumD_get hk, List.getElem_append_right (by rw [nL_len]; omega)]
        simp -implicitDefEqProofs only [nL_len, Nat.sub_self, List.getElem_cons_zero]
        exact stop x2 x3)
  obtain ⟨E', e⟩ := e
  rcases hA with rfl | rfl
  · simp! only [b_fsorted_lot, s0_fsorted_lot, s1_fsorted_lot, s2_fsorted_lot, k_fsorted_lot_list, k_fsorted_lot_tuple, isi_int_non, isi_int_bl, isi_int_int, isi_int_str, isi_int_lst, isi_int_tup, isi_bool_non, isi_bool_bl, isi_bool_int, isi_bool_str, isi_bool_lst, isi_bool_tup, isi_list_non, isi_list_bl, isi_list_int, isi_list_str, isi_list_lst, isi_list_tup, isi_tuple_non, isi_tuple_bl, isi_tuple_int, isi_tuple_str, isi_tuple_lst, isi_tuple_tup, Bool.or_false, Bool.or_true, Bool.false_or, items?, e]
  · simp! only [b_fsorted_lot, s0_fsorted_lot, s1_fsorted_lot, s2_fsorted_lot, k_fsorted_lot_list, k_fsorted_lot_tuple, isi_int_non, isi_int_bl, isi_int_int, isi_int_str, isi_int_lst, isi_int_tup, isi_bool_non, isi_bool_bl, isi_bool_int, isi_bool_str, isi_bool_lst, isi_bool_tup, isi_list_non, isi_list_bl, isi_list_int, isi_list_str, isi_list_lst, isi_list_tup, isi_tuple_non, isi_tuple_bl, isi_tuple_int, isi_tuple_str, isi_tuple_lst, isi_tuple_tup, Bool.or_false, Bool.or_true, Bool.false_or, items?, e]
/-- a lot that is refused, at e -/
inductive LBad (n : Nat) : D → Int → Prop
  | noseq {A : D} (h : noSeq A = true) : LBad n A (-1)
  | bad {A x : D} {lot : List Nat} {r : List D} (hA : SeqI A (nL lot ++ x :: r)) (hd : lot.Nodup) (hr : ∀ p ∈ lot, p < n) (hx : BadP n lot x) (hl : lot.length < 1000) : LBad n A lot.length
theorem lotof_bad {e : Int} (h1 : 1 ≤ n) (hn : n ≤ 12) (h : LBad n A e) : Q_flot_of [.int n, A] c = .err (badL e) c := by
  rw [q_flot_of]
  have e2 : Q_fsorted_lot [.int n, A] c = .err (badL e) c := by
    cases h with
    | noseq h => exact lot_noseq h
    | bad hA hd hr hx hl => exact lot_bad hA hd hr hx hl
  simp! only [b_flot_of, s0_flot_of, s1_flot_of, size_spec h1 hn, e2]
theorem filled_bad {nm : Str} (hn : msgOk (.str nm) = true) : Q_fcheck_filled [.tup [], .str nm] c = .err (emptyX nm) c := by
  rw [q_fcheck_filled]
  simp! only [b_fcheck_filled, s0_fcheck_filled, bLen_tup, Int.ofNat_zero, Int.natCast_zero, List.all_cons, List.all_nil, List.zip_cons_cons, List.zip_nil_left, List.zip_nil_right, List.reverse_cons, List.reverse_nil, List.nil_append, hn, emptyX]
end
end DLaw

set_option maxHeartbeats 4000000
/-! K20BA: what holds and breaking_lot refuse, and the law's look at it. -/
namespace DLaw
open PySem DL
section
variable {c : Ce} {tw : Bool} {n : Nat} {ts : List (Nat × Nat)} {ws : List Int} {st L : List Nat} {A B G : D}
/-- a lot that stands -/
def LGood (n : Nat) (A : D) (lot : List Nat) : Prop := Up lot ∧ (∀ p ∈ lot, p < n) ∧ ∃ l, SeqI A (nL l) ∧ l.Perm lot
theorem LGood.of {A : D} {l lot : List Nat} (hu : Up lot) (hr : ∀ p ∈ lot, p < n) (hA : SeqI A (nL l)) (p : l.Perm lot) : LGood n A lot := ⟨hu, hr, l, hA, p⟩
theorem lotof_good {A : D} {lot : List Nat} (h1 : 1 ≤ n) (hn : n ≤ 12) (h : LGood n A lot) : Q_flot_of [.int n, A] c = .ok (.fz (.tup (nL lot))) c := by
  obtain ⟨hu, hr, l, hA, p⟩ := h
  have s2 : srt l = lot := (srt_up (p.nodup_iff.mpr hu.nodup)).ext hu fun _ => srt_mem.trans p.mem_iff
  have e := lotof_spec (c := c) hA h1 hn (p.nodup_iff.mpr hu.nodup) fun x hx => hr x (p.mem_iff.mp hx)
  rw [s2] at e; exact e
def WGood (ws : List Int) (A : D) : Prop := SeqI A (iL ws)
inductive TBad (n : Nat) (ts : List (Nat × Nat)) (ws : List Int) : D → D → D → Exn → Prop
  | world {A B G : D} {e : Int} (h : WBad ts.length A e) : TBad n ts ws A B G (badW e)
  | one {A B G : D} {e : Int} (hA : WGood ws A) (h : LBad n B e) : TBad n ts ws A B G (badL e)
  | two {A B G : D} {e : Int} {st : List Nat} (hA : WGood ws A) (hB : LGood n B st) (h : LBad n G e) : TBad n ts ws A B G (badL e)
  | empty {A B G : D} {L : List Nat} (hA : WGood ws A) (hB : LGood n B []) (hG : LGood n G L) : TBad n ts ws A B G (emptyX "holders")
  | outside {A B G : D} {st L : List Nat} {k : Nat} (hA : WGood ws A) (hB : LGood n B st) (hG : LGood n G L) (hk : k < st.length) (hb : st[k] ∉ L) (hg : ∀ j (h : j < k), st[j]'(Nat.lt_trans h hk) ∈ L) : TBad n ts ws A B G (outsideX st[k])
/-- what the law tells of an error -/
def tellX (e : Exn) : List D := match e.cls, e.fs with
  | "BadWorld", [(_, v)] => [.str "world", v]
  | "BadLot", [(_, v)] => [.str "lot", v]
  | "EmptyLot", [(_, v)] => [.str "empty", v]
  | "NotInside", [(_, v)] => [.str "outside", v]
  | _, _ => []
end
end DLaw

set_option maxHeartbeats 4000000
/-! K20WC: marked_lots, held_lots. -/
namespace DLaw
open PySem DL
local macro_rules
  | `(tactic| simp! only [$ts,*]) => `(tactic| simp -implicitDefEqProofs only [sL_cons, sL_nil, kS_nx, kS_ret, kS_err, sNx_ap, sAs_ap, kB_ok, kB_err, backE_self, kA_ok, kA_err, sIf_ap, kI_ok, kI_err, sFo_ap, kF_ok, sTu_ap, kU, sAp_ap, sSu_ap, kJ_ok, sAt_ap, sAu_ap, sR0_ap, sRe_ap, retR_fz, retR_fr, sEx_ap, sret_ap, sRs_ap, kR, sTr_ap, kT_ok, kT_err, sRN, stF, stO, stC, appD, setD, mutD, insD, insS, augD, augS, fzE, fz1, xB, xK, xW, xN, xV, xBin, xNeg, xNot, xAnd, xOr, xCmp, xCmp2, xIf, xKs, xBs, xTup, xLst, xO, xSl, xRev, revD_lst, xIx, xFld, xFldN, isI, slfD, xBlt, xMt, xRg1, xRg2, rgR_l, rgR_t, xCal, xIsi, xIsi2, tNot, tAnd, tOr, tCmp, tCmp2, tTru, tYes, iR1, iR2, iEn, zipO, iZip, iPl, xC1, xC2, noErr_ap, kN_ok, dbind_dret, dbind_wrong, dbind_ap, dret_ap, dwrong_ap, kD_ok, kD_err, bOf_fz, bOf_fr, bOf_bo, kOf_fz, kOf_fr, intD_int, blD_bl, dget_some, dbl_some, dgetZ_some, dlist_nil, dlist_cons, outD_ret, outD_nx, outD_err, outI_ok', outI_err, add_int, sub_int, mul_int, div_int, mod_int, pow_int, add_lst, lt_int, le_int, gt_int, ge_int, eq_int, ne_int, ix_lst, ix_tup, ix_scr, ix_cel, dcel_ap, dtru, truD, lenOk_sm, List.length_cons, List.length_nil, Nat.reduceAdd, Nat.reduceLeDiff, Nat.reduceLT, List.getElem?_cons_zero, List.getElem?_cons_succ, List.set_cons_zero, List.set_cons_succ, if_true, if_false, ite_true, ite_false, decide_true, decide_false, Bool.false_eq_true, Bool.not_true, Bool.not_false, Bool.true_and, Bool.false_and, Bool.and_true, Bool.and_false, decide_eq_true_eq, not_false_eq_true, not_true_eq_false, dif_t, $ts,*])
theorem valI_put (kvs : List (List Int × Int)) (k j : List Int) (v : Int) : valI (putI kvs k v) j = if j = k then some v else valI kvs j := by
  have inj : ∀ a b : Option Int, a.map L2.V.int = b.map L2.V.int → a = b := by
    intro a b h
    cases a <;> cases b <;> simp_all
  apply inj
  rw [← valT, ← putT, L2.valV_put, valT]
  by_cases h : j = k
  · subst h; simp
  · rw [if_neg h, if_neg fun e => h (inl_map e)]
theorem keyD_nL (l : List Nat) : keyD (.tup (nL l)) = some (casts l) := by
  show ints? (nL l) = _
  rw [nL_iL]; exact ints_map _
theorem dicGet_nL (kvs : List (List Int × Int)) (l : List Nat) : dicGet kvs (.tup (nL l)) = (valI kvs (casts l)).map .int := by
  unfold dicGet
  rw [keyD_nL]
theorem casts_inj {a b : List Nat} (h : casts a = casts b) : a = b := nat_map_inj.mp h
/-- the least cost of a lot between -/
def SubV (cost : (Nat → Bool) → Int) (st l : List Nat) (m : Int) : Prop := (∀ X, Sub st l X → m ≤ cost X) ∧ ∃ X, Sub st l X ∧ cost X = m
def DicOk (cost : (Nat → Bool) → Int) (st : List Nat) (kvs : List (List Int × Int)) (done : List (List Nat)) : Prop := ∀ l ∈ done, ∃ m, valI kvs (casts l) = some m ∧ SubV cost st l m
noncomputable def mkL (cost : (Nat → Bool) → Int) (st : List Nat) (LL : List (List Nat)) : List D := LL.map fun l => D.tup [.tup (nL l), .bl (heldB cost st l)]
theorem subV_held {cost : (Nat → Bool) → Int} {st l : List Nat} {m : Int} (hs : ∀ x ∈ st, x ∈ l) (h : SubV cost st l m) : decide (cost (inX l) = m) = heldB cost st l := by
  have : heldB cost st l = true ↔ cost (inX l) = m := by
    rw [heldB_iff]
    obtain ⟨h1, X, hX, e⟩ := h
    constructor
    · intro hh
      have a := hh X hX
      have b := h1 _ (sub_self hs)
      omega
    · intro e2 Y hY
      rw [e2]; exact h1 Y hY
  cases q : heldB cost st l with
  | true => rw [decide_eq_true (this.mp q)]
  | false => exact decide_eq_false fun e => by rw [this.mpr e] at q; cases q
/-- without a place -/
def wo (l : List Nat) (p : Nat) : List Nat := l.filter fun x => !decide (x ∈ [p])
theorem wo_mem {l : List Nat} {p x : Nat} : x ∈ wo l p ↔ x ∈ l ∧ x ≠ p := by simp [wo]
theorem wo_len {l : List Nat} {p : Nat} (h : p ∈ l) : (wo l p).length < l.length := by
  unfold wo
  exact List.length_filter_lt_length_iff_exists.mpr ⟨p, h, by simp⟩
/-- the least of a lot's own cost and of those of the lots that lack a place -/
theorem subV_step {tw : Bool} {n : Nat} {ts : List (Nat × Nat)} {ws : List Int} {st l : List Nat} {g : Nat → Int} {i : Int} (hs : ∀ x ∈ st, x ∈ l)
    (hg : ∀ p ∈ l, p ∉ st → SubV (cF tw ts ws) st (wo l p) (g p)) (hr : ∀ t ∈ ts, InR n t)
    (hi : i = cF tw ts ws (inX l) ∨ ∃ p ∈ l, p ∉ st ∧ i = g p) (h1 : i ≤ cF tw ts ws (inX l)) (h2 : ∀ p ∈ l, p ∉ st → i ≤ g p) : SubV (cF tw ts ws) st l i := by
  constructor
  · intro X hX
    by_cases q : ∀ v ∈ l, X v = true
    · have : cF tw ts ws X = cF tw ts ws (inX l) := cF_congr hr fun v _ => by
        cases e : X v with
        | true => exact (decide_eq_true (hX.2 v e)).symm
        | false => exact (decide_eq_false fun hv => by rw [q v hv] at e; cases e).symm
      rw [this]; exact h1
    · have ⟨p, hp⟩ := Classical.not_forall.mp q
      have ⟨hpl, hp2⟩ := Classical.not_imp.mp hp
      have hpf : X p = false := by simpa using hp2
      have hps : p ∉ st := fun z => by rw [hX.1 p z] at hpf; cases hpf
      have a := (hg p hpl hps).1 X ⟨hX.1, fun v hv => wo_mem.mpr ⟨hX.2 v hv, fun z => by rw [z, hpf] at hv; cases hv⟩⟩
      have b := h2 p hpl hps
      omega
  · rcases hi with e | ⟨p, hp, hps, e⟩
    · exact ⟨inX l, sub_self hs, e.symm⟩
    · obtain ⟨_, X, hX, eX⟩ := hg p hp hps
      exact ⟨X, ⟨hX.1, fun v hv => (wo_mem.mp (hX.2 v hv)).1⟩, by rw [eX, e]⟩
section
variable {c : Ce} {tw : Bool} {n : Nat} {ts : List (Nat × Nat)} {ws : List Int} {st l : List Nat} {A B : D}
theorem mark_turn {kvs : List (List Int × Int)} {mk : List D} {x5 x6 x7 : Option DV} (hN : NetW n ts ws) (hu : Up l) (hs : ∀ x ∈ st, x ∈ l) (hl : ∀ x ∈ l, x < n)
    (hd : ∀ p ∈ l, p ∉ st → ∃ m, valI kvs (casts (wo l p)) = some m ∧ SubV (cF tw ts ws) st (wo l p) m) (hk : kvs.length < 16000000) (hm : mk.length < 16000000) :
    ∃ (i : Int) (y5 y6 y7 : Option DV), SubV (cF tw ts ws) st l i ∧ sTn (gP (.sl 5)) y1_fmarked_lots (.tup (nL l)) [(some (DV.fz (NetC tw n ts))), (some (DV.fz (.tup (iL ws)))), (some (DV.fz (.tup (nL st)))), some (.dic kvs), (some (DV.own (mk))), x5, x6, x7, none] c
      = .ok .nx [(some (DV.fz (NetC tw n ts))), (some (DV.fz (.tup (iL ws)))), (some (DV.fz (.tup (nL st)))), some (.dic (putI kvs (casts l) i)), (some (DV.own (mk ++ [.tup [.tup (nL l), .bl (heldB (cF tw ts ws) st l)]]))), y5, y6, y7, none] c := by
  have hll := len_le hu hl
  have hn := hN.most
  have e1 : Q_fcost_of [NetC tw n ts, .tup (iL ws), .tup (nL l)] c = .ok (.fz (.int (cF tw ts ws (inX l)))) c := costof_spec hN.wlen
  have e2 := minus_up (c := c) (b := st) (show l.length ≤ 1000 by omega) hu
  have hF : (l.filter fun x => !decide (x ∈ st)).length ≤ 12 := Nat.le_trans (List.length_filter_le _ _) (by omega)
  have hL : lenOk (nL (l.filter fun x => !decide (x ∈ st))).length = true := lenOk_sm (by rw [nL_len]; omega)
  have e3 : ∀ (x6 x7 : Option DV), dloop (c1_fmarked_lots [(some (DV.fz (NetC tw n ts))), (some (DV.fz (.tup (iL ws)))), (some (DV.fz (.tup (nL st)))), some (.dic kvs), (some (DV.own (mk))), (some (DV.fz (.tup (nL l)))), x6, x7, none]) (nL (l.filter fun x => !decide (x ∈ st))) c = .ok (iL ((l.filter fun x => !decide (x ∈ st)).map fun p => (valI kvs (casts (wo l p))).getD 0)) c := by
    intro x6 x7
    rw [iL_mapS]
    have := dloop_map (f := c1_fmarked_lots [(some (DV.fz (NetC tw n ts))), (some (DV.fz (.tup (iL ws)))), (some (DV.fz (.tup (nL st)))), some (.dic kvs), (some (DV.own (mk))), (some (DV.fz (.tup (nL l)))), x6, x7, none]) (g := fun (p : Nat) => D.int (p : Int)) (h := fun p => D.int ((valI kvs (casts (wo l p))).getD 0)) (c := c) (l.filter fun x => !decide (x ∈ st)) fun p hp => by
      obtain ⟨p1, p2⟩ := List.mem_filter.mp hp
      obtain ⟨m, em, _⟩ := hd p p1 (by simpa using p2)
      have e4 : Q_fminus [.tup (nL l), .tup [.int (p : Int)]] c = .ok (.fz (.tup (nL (wo l p)))) c := minus_up (c := c) (b := [p]) (show l.length ≤ 1000 by omega) hu
      simp! only [c1_fmarked_lots, sTn, gP, bindP, bindPs, tupV, cT1, wipeD, xIxD, dicAt, e4, dicGet_nL, em, Option.map_some, Option.getD_some]
    exact this
  have hmin := min_spec (is := cF tw ts ws (inX l) :: (l.filter fun x => !decide (x ∈ st)).map fun p => (valI kvs (casts (wo l p))).getD 0) (by simp)
  obtain ⟨i, e5, hi, hle⟩ := hmin
  have e6 : lenOk (1 + (iL ((l.filter fun x => !decide (x ∈ st)).map fun p => (valI kvs (casts (wo l p))).getD 0)).length) = true := lenOk_sm (by
    rw [iL_len, List.length_map]; omega)
  have e7 : bMin [.lst ([D.int (cF tw ts ws (inX l))] ++ iL ((l.filter fun x => !decide (x ∈ st)).map fun p => (valI kvs (casts (wo l p))).getD 0))] = dret (.fz (.int i)) := e5
  have hv : SubV (cF tw ts ws) st l i := by
    refine subV_step (n := n) (g := fun p => (valI kvs (casts (wo l p))).getD 0) hs (fun p hp hps => ?_) hN.inr ?_ (hle _ List.mem_cons_self) fun p hp hps => hle _ (List.mem_cons_of_mem _ (List.mem_map.mpr ⟨p, List.mem_filter.mpr ⟨hp, by simpa using hps⟩, rfl⟩))
    · obtain ⟨m, em, sm⟩ := hd p hp hps
      show SubV _ _ _ ((valI kvs (casts (wo l p))).getD 0)
      rw [em]; exact sm
    · rcases List.mem_cons.mp hi with e | e
      · exact .inl e
      · obtain ⟨p, hp, e⟩ := List.mem_map.mp e
        obtain ⟨p1, p2⟩ := List.mem_filter.mp hp
        exact .inr ⟨p, p1, by simpa using p2, e.symm⟩
  have e8 : dicGet (putI kvs (casts l) i) (.tup (nL l)) = some (.int i) := by
    rw [dicGet_nL, valI_put, if_pos rfl]; rfl
  have e9 := subV_held hs hv
  have k1 : (kvs.length < 16777216) = True := eq_true (by omega)
  have k2 : (mk.length < 16777216) = True := eq_true (by omega)
  refine ⟨i, (some (DV.fz (.tup (nL l)))), (some (DV.fz (D.int (cF tw ts ws (inX l))))), (some (DV.fz (.lst (iL ((l.filter fun x => !decide (x ∈ st)).map fun p => (valI kvs (casts (wo l p))).getD 0))))), hv, ?_⟩
  simp! only [y1_fmarked_lots, sTn, gP, bindP, bindPs, tupV, cT1, wipeD, e1, e2, items?, hL, e3, e6, e7, sDp_ap, kP_ok, putD, keyD_nL, dicAt, Option.isSome_some, xIxD, e8, e9, k1, k2]
theorem marked_spec (hN : NetW n ts ws) (hu : Up st) (hst : ∀ x ∈ st, x < n) : Q_fmarked_lots [NetC tw n ts, .tup (iL ws), .tup (nL st)] c = .ok (.fr (mkL (cF tw ts ws) st (lotsF n st))) c := by
  rw [q_fmarked_lots]
  have hn := hN.most
  have ea := alllot_spec (c := c) (tw := tw) (ts := ts) hn
  have ef := lotsfrom_spec (c := c) hn hu hst
  have hlen : (lotsF n st).length ≤ 4096 := Nat.le_trans lotsF_len (Nat.le_trans (Nat.pow_le_pow_right (by omega) hn) (by decide))
  obtain ⟨E', c', e, kvs, x5, x6, x7, rfl, rfl, _⟩ := sfor_inv (f := sTn (gP (.sl 5)) y1_fmarked_lots) (P := fun k E c' => ∃ kvs x5 x6 x7, E = [(some (DV.fz (NetC tw n ts))), (some (DV.fz (.tup (iL ws)))), (some (DV.fz (.tup (nL st)))), some (.dic kvs), (some (DV.own (mkL (cF tw ts ws) st ((lotsF n st).take k)))), x5, x6, x7, none] ∧ c' = c ∧ DicOk (cF tw ts ws) st kvs ((lotsF n st).take k) ∧ kvs.length ≤ k)
    (tL (lotsF n st)) 0 [(some (DV.fz (NetC tw n ts))), (some (DV.fz (.tup (iL ws)))), (some (DV.fz (.tup (nL st)))), some (.dic []), (some (DV.own ([]))), none, none, none, none] c ⟨[], none, none, none, rfl, rfl, by simp [DicOk], Nat.le_refl _⟩ fun k hk E c' hP => by
      obtain ⟨kvs, x5, x6, x7, rfl, rfl, hd, hkl⟩ := hP
      rw [tL_len] at hk
      rw [Nat.zero_add] at hd hkl
      have eg : (tL (lotsF n st))[k]'(by rw [tL_len]; exact hk) = .tup (nL (lotsF n st)[k]) := by simp [tL]
      rw [eg, Nat.zero_add]
      have hmem := (lotsF_mem hu hst).mp (List.getElem_mem hk)
      obtain ⟨h1, h2, h3⟩ := hmem
      obtain ⟨i, y5, y6, y7, hv, et⟩ := mark_turn (c := c') (tw := tw) (kvs := kvs) (mk := mkL (cF tw ts ws) st ((lotsF n st).take k)) (x5 := x5) (x6 := x6) (x7 := x7) hN h1 h2 h3 (fun p hp hps => by
        have hw : wo (lotsF n st)[k] p ∈ lotsF n st := (lotsF_mem hu hst).mpr ⟨h1.filter _, fun x hx => wo_mem.mpr ⟨h2 x hx, fun z => hps (z ▸ hx)⟩, fun x hx => h3 x (wo_mem.mp hx).1⟩
        obtain ⟨j, hj, hjk, ej⟩ := ahead lotsF_up hk hw (wo_len hp)
        refine hd _ ?_
        rw [← ej]
        exact List.mem_take_iff_getElem.mpr ⟨j, by omega, rfl⟩) (by omega) (by
          unfold mkL
          rw [List.length_map, List.length_take]; omega)
      refine ⟨_, c', et, putI kvs (casts (lotsF n st)[k]) i, y5, y6, y7, ?_, rfl, ?_, ?_⟩
      · rw [List.take_succ_eq_append_getElem hk]
        unfold mkL
        rw [List.map_append]
        rfl
      · intro l hl
        rw [valI_put]
        by_cases q : l = (lotsF n st)[k]
        · subst q
          exact ⟨i, if_pos rfl, hv⟩
        · rw [if_neg fun z => q (casts_inj z)]
          rw [List.take_succ_eq_append_getElem hk, List.mem_append, List.mem_singleton] at hl
          exact hd l (hl.resolve_right q)
      · unfold putI
        split
        · rw [List.length_map]; omega
        · rw [List.length_append]; simp; omega
  rw [tL_len, Nat.zero_add, List.take_length] at e
  simp! only [b_fmarked_lots, s0_fmarked_lots, s1_fmarked_lots, s2_fmarked_lots, s3_fmarked_lots, sDn_ap, ea, ef, items?, e]
theorem heldlots_spec (hN : NetW n ts ws) (hn8 : n ≤ 8) (hA : WGood ws A) (hB : LGood n B st) (hne : st ≠ []) : Q_fheld_lots [NetC tw n ts, A, B] c = .ok (.fr (tL ((lotsF n st).filter (heldB (cF tw ts ws) st)))) c := by
  rw [q_fheld_lots]
  have f1 : g_fheld_lots_size (NetC tw n ts) = dret (.fz (.int n)) := by cases tw <;> kernel_rfl
  have e1 := world_of_spec (c := c) (tw := tw) (n := n) hA (fun w h => (hN.wok w h).1) hN.wlen
  have e2 := lotof_good (c := c) hN.one hN.most hB
  have e3 := filled_spec (c := c) (nm := "holders") hne
  have e4 := marked_spec (c := c) (tw := tw) hN hB.1 hB.2.1
  have a1 : ((8 : Int) < (n : Int)) = False := eq_false (by omega)
  have hL : lenOk (mkL (cF tw ts ws) st (lotsF n st)).length = true := lenOk_of (by
    unfold mkL
    rw [List.length_map]
    exact Nat.le_trans lotsF_len (Nat.le_trans (Nat.pow_le_pow_right (by omega) hn8) (by decide)))
  have e5 : ∀ x3 x4, dloop (c1_fheld_lots [(some (DV.fz (NetC tw n ts))), (some (DV.fz (.tup (iL ws)))), (some (DV.fz (.tup (nL st)))), x3, x4]) (mkL (cF tw ts ws) st (lotsF n st)) c = .ok (tL ((lotsF n st).filter (heldB (cF tw ts ws) st))) c := fun x3 x4 => by
    unfold tL mkL
    rw [← filterMap_if]
    refine dloop_fmap _ fun l _ => ?_
    cases h : heldB (cF tw ts ws) st l with
    | true => simp! only [c1_fheld_lots, sTn, gP, bindP, bindPs, tupV, cT1, wipeD]
    | false => simp! only [c1_fheld_lots, sTn, gP, bindP, bindPs, tupV, cT1, wipeD]
  simp! only [b_fheld_lots, s0_fheld_lots, s1_fheld_lots, s2_fheld_lots, s3_fheld_lots, s4_fheld_lots, f1, e1, e2, e3, a1, e4, items?, hL, e5]
end
end DLaw

set_option maxHeartbeats 4000000
/-! K20WG: costs of two sides and of their corners; who holds whom (plain Lean). -/
namespace DLaw
open PySem DL
theorem costB (a b p q tw : Bool) {z : Int} (hz : 0 ≤ z) : (if ((a || p) && !(b || q)) = true then z else if (tw && ((b || q) && !(a || p))) = true then z else 0) + (if ((a && p) && !(b && q)) = true then z else if (tw && ((b && q) && !(a && p))) = true then z else 0) ≤
    (if (a && !b) = true then z else if (tw && (b && !a)) = true then z else 0) + (if (p && !q) = true then z else if (tw && (q && !p)) = true then z else 0) := by
  cases a <;> cases b <;> cases p <;> cases q <;> cases tw <;> simp <;> omega
theorem costK_sub {t : Nat → Nat × Nat} {w : Nat → Int} {tw : Bool} {X Y : Nat → Bool} {k : Nat} (hw : 0 ≤ w k) :
    Flow.costK t w tw (fun v => X v || Y v) k + Flow.costK t w tw (fun v => X v && Y v) k ≤ Flow.costK t w tw X k + Flow.costK t w tw Y k := costB _ _ _ _ _ hw
theorem cF_sub {tw : Bool} {ts : List (Nat × Nat)} {ws : List Int} (hw : ∀ w ∈ ws, InV w) (X Y : Nat → Bool) : cF tw ts ws (fun v => X v || Y v) + cF tw ts ws (fun v => X v && Y v) ≤ cF tw ts ws X + cF tw ts ws Y := by
  unfold cF Flow.costF
  rw [← Flow.sumK_add, ← Flow.sumK_add]
  refine Flow.sumK_le fun k _ => costK_sub ?_
  unfold rF
  rw [List.getD_eq_getElem?_getD]
  cases e : ws[k]? with
  | none => exact Int.le_refl _
  | some x => exact (hw x (List.mem_of_getElem? e)).1
/-- what holds a lot that has holders of an outer one holds the outer one -/
theorem held_trans {tw : Bool} {ts : List (Nat × Nat)} {ws : List Int} {st h l L : List Nat} (hw : ∀ w ∈ ws, InV w) (h1 : HeldP (cF tw ts ws) st l) (h2 : HeldP (cF tw ts ws) h L) (hs : ∀ x ∈ st, x ∈ l) (hh : ∀ x ∈ h, x ∈ l) (hl : ∀ x ∈ l, x ∈ L) :
    HeldP (cF tw ts ws) st L := by
  intro X hX
  have a := h1 (fun v => X v && inX l v) ⟨fun x hx => by
    show (X x && inX l x) = true
    rw [hX.1 x hx]; exact decide_eq_true (hs x hx), fun v hv => of_decide_eq_true (Bool.and_eq_true _ _ ▸ hv).2⟩
  have b := h2 (fun v => X v || inX l v) ⟨fun x hx => by
    show (X x || inX l x) = true
    rw [show inX l x = true from decide_eq_true (hh x hx), Bool.or_true], fun v hv => by
      have hv' : (X v || inX l v) = true := hv
      rw [Bool.or_eq_true] at hv'
      rcases hv' with q | q
      · exact hX.2 v q
      · exact hl v (of_decide_eq_true q)⟩
  have c := cF_sub (tw := tw) (ts := ts) hw X (inX l)
  omega
theorem inW_v {w : Int} (h : InW w) : InV w := ⟨h.1, Int.le_trans h.2 (by decide)⟩
end DLaw

set_option maxHeartbeats 4000000
/-! K20BC: flows, least sides, the law's own counting of them. -/
namespace DLaw
open PySem DL
/-- the least cost of a fit side -/
def LeastV (cost : (Nat → Bool) → Int) (st go : List Nat) (v : Int) : Prop := (∀ X, Fit st go X → v ≤ cost X) ∧ ∃ X, Fit st go X ∧ cost X = v
theorem LeastV.eq {cost : (Nat → Bool) → Int} {st go : List Nat} {v w : Int} (h : LeastV cost st go v) (h' : LeastV cost st go w) : v = w := by
  obtain ⟨a, X, fX, eX⟩ := h
  obtain ⟨b, Y, fY, eY⟩ := h'
  have h1 := a Y fY
  have h2 := b X fX
  omega
section
variable {c : Ce} {tw : Bool} {n : Nat} {ts : List (Nat × Nat)} {ws : List Int} {st L go out : List Nat} {A B G : D}
theorem restN_spec' (hn : n ≤ 1000) : Q_frest [.int n, .tup (nL L)] c = .ok (.fz (.tup (nL (restL n (inX L))))) c := restN_spec hn
theorem flowv_spec (hN : NetW n ts ws) (hu : Up st) (hst : ∀ x ∈ st, x < n) (hdis : ∀ x ∈ st, x ∉ go) : ∃ v : Int, (∀ c, Q_fflow_value [NetC tw n ts, .tup (iL ws), .tup (nL st), .tup (nL go)] c = .ok (.fz (.int v)) c) ∧ LeastV (cF tw ts ws) st go v := by
  have h1 := hN.most
  have h2 := hN.len
  obtain ⟨v, e, a, b⟩ := value_spec (c := none) (tw := tw) (n := n) (ts := ts) (ws := ws) (st := st) (go := go) (by omega) hN.inr (by omega) hu.nodup hst hN.wlen hN.wok hdis
  refine ⟨v, fun c => ?_, a, b⟩
  obtain ⟨v', e', a', b'⟩ := value_spec (c := c) (tw := tw) (n := n) (ts := ts) (ws := ws) (st := st) (go := go) (by omega) hN.inr (by omega) hu.nodup hst hN.wlen hN.wok hdis
  rw [LeastV.eq (cost := cF tw ts ws) (st := st) (go := go) (v := v) (w := v') ⟨a, b⟩ ⟨a', b'⟩]
  exact e'
theorem all_in (l m : List Nat) : (l.map fun x => decide (x ∈ m)).all id = decide (∀ x ∈ l, x ∈ m) := by
  induction l with
  | nil => rfl
  | cons a l ih =>
    rw [List.map_cons, List.all_cons, ih]
    by_cases h : a ∈ m <;> by_cases h2 : ∀ x ∈ l, x ∈ m <;> simp [h, h2]
theorem any_in (l m : List Nat) : (l.map fun x => decide (x ∈ m)).any id = decide (∃ x ∈ l, x ∈ m) := by
  induction l with
  | nil => rfl
  | cons a l ih =>
    rw [List.map_cons, List.any_cons, ih]
    by_cases h : a ∈ m <;> by_cases h2 : ∃ x ∈ l, x ∈ m <;> simp [h, h2]
theorem bAny_bools (bs : List Bool) : bAny [.lst (bs.map D.bl)] = dret (.fz (.bl (bs.any id))) := by
  show dbind (dget (bls? (bs.map D.bl))) _ = _
  rw [bls_map bs]; rfl
/-! the law's own -/
theorem lots_fit {LL : List (List Nat)} (hr : ∀ t ∈ ts, InR n t) (hO : LotsOk n st out LL) (hdis : ∀ x ∈ st, x ∉ out) : (∀ l ∈ LL, Fit st out (inX l)) ∧ ∀ X, Fit st out X → ∃ l ∈ LL, (∀ v, v < n → inX l v = X v) ∧ cF tw ts ws (inX l) = cF tw ts ws X := by
  refine ⟨fun l hl => ?_, fun X hX => ?_⟩
  · obtain ⟨a, b, d⟩ := hO.each l hl
    refine ⟨fun x hx => decide_eq_true (b x hx), fun x hx => decide_eq_false fun z => ?_⟩
    rcases d x z with q | q
    · exact hdis x q hx
    · exact q.2 hx
  · obtain ⟨l, hm, q⟩ := hO.all X fun x hx => hX.2 x hx
    have same : ∀ v, v < n → inX l v = X v := fun v hv => by
      unfold inX
      cases y : X v with
      | true => exact decide_eq_true ((q v).mpr (.inr ⟨hv, y⟩))
      | false =>
        refine decide_eq_false fun z => ?_
        rcases (q v).mp z with z | z
        · rw [hX.1 v z] at y; cases y
        · rw [z.2] at y; cases y
    exact ⟨l, hm, same, cF_congr hr same⟩
theorem least_of {LL : List (List Nat)} {m : Int} (hr : ∀ t ∈ ts, InR n t) (hO : LotsOk n st out LL) (hdis : ∀ x ∈ st, x ∉ out) (hm : m ∈ LL.map fun l => cF tw ts ws (inX l)) (hmin : ∀ x ∈ LL.map fun l => cF tw ts ws (inX l), m ≤ x) : LeastV (cF tw ts ws) st out m := by
  obtain ⟨h1, h2⟩ := lots_fit (tw := tw) (ws := ws) hr hO hdis
  obtain ⟨l, hl, e⟩ := List.mem_map.mp hm
  refine ⟨fun X hX => ?_, inX l, h1 l hl, e⟩
  obtain ⟨l', hl', _, e'⟩ := h2 X hX
  rw [← e']
  exact hmin _ (List.mem_map.mpr ⟨l', hl', rfl⟩)
end
end DLaw

set_option maxHeartbeats 4000000
/-! K20WD: the law's own holders; refusals of holders_of. -/
namespace DLaw
open PySem DL
local macro_rules
  | `(tactic| simp! only [$ts,*]) => `(tactic| simp -implicitDefEqProofs only [sL_cons, sL_nil, kS_nx, kS_ret, kS_err, sNx_ap, sAs_ap, kB_ok, kB_err, backE_self, kA_ok, kA_err, sIf_ap, kI_ok, kI_err, sFo_ap, kF_ok, sTu_ap, kU, sAp_ap, sSu_ap, kJ_ok, sAt_ap, sAu_ap, sR0_ap, sRe_ap, retR_fz, retR_fr, sEx_ap, sret_ap, sRs_ap, kR, sTr_ap, kT_ok, kT_err, sRN, stF, stO, stC, appD, setD, mutD, insD, insS, augD, augS, fzE, fz1, xB, xK, xW, xN, xV, xBin, xNeg, xNot, xAnd, xOr, xCmp, xCmp2, xIf, xKs, xBs, xTup, xLst, xO, xSl, xRev, revD_lst, xIx, xFld, xFldN, isI, slfD, xBlt, xMt, xRg1, xRg2, rgR_l, rgR_t, xCal, xIsi, xIsi2, tNot, tAnd, tOr, tCmp, tCmp2, tTru, tYes, iR1, iR2, iEn, zipO, iZip, iPl, xC1, xC2, noErr_ap, kN_ok, dbind_dret, dbind_wrong, dbind_ap, dret_ap, dwrong_ap, kD_ok, kD_err, bOf_fz, bOf_fr, bOf_bo, kOf_fz, kOf_fr, intD_int, blD_bl, dget_some, dbl_some, dgetZ_some, dlist_nil, dlist_cons, outD_ret, outD_nx, outD_err, outI_ok', outI_err, add_int, sub_int, mul_int, div_int, mod_int, pow_int, add_lst, lt_int, le_int, gt_int, ge_int, eq_int, ne_int, ix_lst, ix_tup, ix_scr, ix_cel, dcel_ap, dtru, truD, lenOk_sm, List.length_cons, List.length_nil, Nat.reduceAdd, Nat.reduceLeDiff, Nat.reduceLT, List.getElem?_cons_zero, List.getElem?_cons_succ, List.set_cons_zero, List.set_cons_succ, if_true, if_false, ite_true, ite_false, decide_true, decide_false, Bool.false_eq_true, Bool.not_true, Bool.not_false, Bool.true_and, Bool.false_and, Bool.and_true, Bool.and_false, decide_eq_true_eq, not_false_eq_true, not_true_eq_false, dif_t, $ts,*])
section
variable {c : Ce} {tw : Bool} {n : Nat} {ts : List (Nat × Nat)} {ws : List Int} {st L : List Nat} {A B : D}
noncomputable def holdersL (cost : (Nat → Bool) → Int) (L : List Nat) : List Nat := L.filter fun p => heldB cost [p] L
theorem lholders_spec (hn : n ≤ 8) (hN : NetW n ts ws) (hl : Lot n st L) : Q_f_law_holders [NetC tw n ts, kindD tw, .int n, .lst (pL ts), .lst (iL ws), .lst (nL L)] c = .ok (.fz (.tup (nL (holdersL (cF tw ts ws) L)))) c := by
  rw [q_f_law_holders]
  have hLL := len_le hl.upL hl.lt
  have hL : lenOk (nL L).length = true := lenOk_of (by rw [nL_len]; omega)
  have e1 : Q_fholders_of [NetC tw n ts, .lst (iL ws), .lst (nL L.reverse)] c = .ok (.fz (.tup (nL (holdersL (cF tw ts ws) L)))) c := holdersof_spec hN hl (.inl rfl) (.inl rfl) (List.reverse_perm L)
  have hMu : Up (holdersL (cF tw ts ws) L) := hl.upL.filter _
  have hMn : ∀ x ∈ holdersL (cF tw ts ws) L, x < n := fun x hx => hl.lt x (List.mem_filter.mp hx).1
  have e2 := lot_ok_spec (c := c) hMu hMn
  have e3 : cmpD .NotEq (.lst [.lst (iL ws), .lst (nL L.reverse)]) (.lst [.lst (iL ws), .lst (nL L.reverse)]) = dret (.bl false) := Pl.ne (k := 2) (pl_lst fun x hx => by
    simp -implicitDefEqProofs only [List.mem_cons, List.not_mem_nil, or_false] at hx
    rcases hx with rfl | rfl
    · exact pl_lst (pls_iL _)
    · exact pl_lst (pls_nL _)) (by omega)
  have e4 : ∀ P M x8, dloop (c1_f_law_holders [(some (DV.fz (NetC tw n ts))), (some (DV.fz (kindD tw))), (some (DV.fz (D.int ((n : Int))))), (some (DV.fz (.lst (pL ts)))), (some (DV.fz (.lst (iL ws)))), (some (DV.fz (.lst (nL L)))), (some (DV.fz (P))), (some (DV.fz (M))), x8, none]) (nL L) c = .ok (nL (holdersL (cF tw ts ws) L)) c := fun P M x8 => by
    unfold holdersL
    rw [← filterNn]
    refine dloop_fmap (g := fun (k : Nat) => D.int (k : Int)) L fun p hp => ?_
    have e' : Q_f_law_holds [kindD tw, .int n, .lst (pL ts), .lst (iL ws), .lst [.int (p : Int)], .lst (nL L)] c = .ok (.fz (.bl (heldB (cF tw ts ws) [p] L))) c := lholds_spec (c := c) (tw := tw) (st := [p]) hn hN (lot_one hl hp)
    cases h : heldB (cF tw ts ws) [p] L with
    | true =>
      rw [h] at e'
      simp! only [c1_f_law_holders, sTn, gP, bindP, bindPs, tupV, cT1, wipeD, e']
    | false =>
      rw [h] at e'
      simp! only [c1_f_law_holders, sTn, gP, bindP, bindPs, tupV, cT1, wipeD, e']
  generalize hM : holdersL (cF tw ts ws) L = M at *
  have nM : cmpD .NotEq (.tup (nL M)) (.tup (nL M)) = dret (.bl false) := (pl_tup (pls_nL M)).ne (by omega)
  simp! only [b_f_law_holders, s0_f_law_holders, s1_f_law_holders, s2_f_law_holders, s3_f_law_holders, s4_f_law_holders, s5_f_law_holders, bList_lst, nL_rev, atI_zero, atI_one, e1, e2, e3, items?, hL, e4, bTuple_lst, nM]
/-! refusals -/
inductive HBad (n : Nat) (ts : List (Nat × Nat)) (ws : List Int) : D → D → Exn → Prop
  | world {A B : D} {e : Int} (h : WBad ts.length A e) : HBad n ts ws A B (badW e)
  | lot {A B : D} {e : Int} (hA : WGood ws A) (h : LBad n B e) : HBad n ts ws A B (badL e)
  | empty {A B : D} (hA : WGood ws A) (hB : LGood n B []) : HBad n ts ws A B (emptyX "lot")
theorem holdersof_bad {e : Exn} (hN : NetW n ts ws) (h : HBad n ts ws A B e) : Q_fholders_of [NetC tw n ts, A, B] c = .err e c := by
  rw [q_fholders_of]
  have f1 : g_fholders_of_size (NetC tw n ts) = dret (.fz (.int n)) := by cases tw <;> kernel_rfl
  cases h with
  | world h =>
    have e1 := world_of_bad (c := c) (tw := tw) (n := n) h
    simp! only [b_fholders_of, s0_fholders_of, e1]
  | lot hA h =>
    have e1 := world_of_spec (c := c) (tw := tw) (n := n) hA (fun w h => (hN.wok w h).1) hN.wlen
    have e2 := lotof_bad (c := c) hN.one hN.most h
    simp! only [b_fholders_of, s0_fholders_of, s1_fholders_of, f1, e1, e2]
  | empty hA hB =>
    have e1 := world_of_spec (c := c) (tw := tw) (n := n) hA (fun w h => (hN.wok w h).1) hN.wlen
    have e2 := lotof_good (c := c) hN.one hN.most hB
    have e3 : Q_fcheck_filled [.tup (nL []), .str "lot"] c = .err (emptyX "lot") c := filled_bad (by decide +kernel)
    simp! only [b_fholders_of, s0_fholders_of, s1_fholders_of, s2_fholders_of, f1, e1, e2, e3]
def tellH (e : Exn) : D := .lst (tellX e)
theorem hd_refusal {e : Exn} {N : D} (h : HBad n ts ws A B e) : hd_f_law_refusal e [(some (DV.fz (N))), (some (DV.fz (A))), (some (DV.fz (B))), (some (DV.fz (.lst []))), none] c = .ok .nx [(some (DV.fz (N))), (some (DV.fz (A))), (some (DV.fz (B))), (some (DV.fz (tellH e))), none] c ∧ ∃ (s : Str) (v : D), tellX e = [.str s, v] ∧ Pl 0 v ∧ (PyData.strOk s = true) := by
  cases h with
  | world h => exact ⟨by kernel_rfl, _, _, rfl, pl_int _, by decide +kernel⟩
  | lot hA h => exact ⟨by kernel_rfl, _, _, rfl, pl_int _, by decide +kernel⟩
  | empty hA hB => exact ⟨by kernel_rfl, _, _, rfl, ⟨.str "lot", rfl, by decide +kernel, by simp [PyData.depth]⟩, by decide +kernel⟩
theorem refusal_spec {e : Exn} (hN : NetW n ts ws) (h : HBad n ts ws A B e) : Q_f_law_refusal [NetC tw n ts, A, B] c = .ok (.fz (tellH e)) c := by
  rw [q_f_law_refusal]
  have e1 := holdersof_bad (c := c) (tw := tw) hN h
  obtain ⟨e3, _⟩ := hd_refusal (c := c) (N := NetC tw n ts) h
  simp! only [b_f_law_refusal, s0_f_law_refusal, s1_f_law_refusal, s2_f_law_refusal, e1, e3]
theorem tell_ne {e : Exn} (h : HBad n ts ws A B e) : cmpD .NotEq (tellH e) (tellH e) = dret (.bl false) := by
  obtain ⟨_, s, v, e1, hv, hs⟩ := hd_refusal (c := none) (N := .non) h
  unfold tellH
  rw [e1]
  refine Pl.ne (k := 1) (pl_lst fun x hx => ?_) (by omega)
  simp -implicitDefEqProofs only [List.mem_cons, List.not_mem_nil, or_false] at hx
  rcases hx with rfl | rfl
  · exact ⟨.str s, rfl, by simpa only [PyData.canLay0] using hs, by simp [PyData.depth]⟩
  · exact hv
def NoPl (n : Nat) (x : D) : Prop := plainD x = true ∧ ∀ i, x = .int i → i < 0 ∨ (n : Int) ≤ i
theorem NoPl.bad {n : Nat} {x : D} (h : NoPl n x) {good : List Nat} : BadP n good x := ⟨h.1, fun i e => by rcases h.2 i e with q | q <;> simp [q]⟩
theorem wrong_menu {v n : Nat} (h : (v : Int) < 5) : ∃ x : D, NoPl n x ∧ L2.atI [D.int (n : Int), .int (-1), .bl true, .non, .tup [.int 0]] (v : Int) = some x := by
  rw [atI_cast]
  have : v = 0 ∨ v = 1 ∨ v = 2 ∨ v = 3 ∨ v = 4 := by omega
  rcases this with rfl | rfl | rfl | rfl | rfl
  · exact ⟨_, ⟨rfl, fun i e => by cases e; exact .inr (Int.le_refl _)⟩, rfl⟩
  · exact ⟨_, ⟨rfl, fun i e => by cases e; exact .inl (by decide)⟩, rfl⟩
  · exact ⟨_, ⟨rfl, fun i e => by cases e⟩, rfl⟩
  · exact ⟨_, ⟨rfl, fun i e => by cases e⟩, rfl⟩
  · exact ⟨_, ⟨rfl, fun i e => by cases e⟩, rfl⟩
def RowH (n : Nat) (ts : List (Nat × Nat)) (ws : List Int) (d : D) : Prop := ∃ A B e, d = .lst [A, B, tellH e] ∧ HBad n ts ws A B e
theorem refuses_spec (h : Wc c) (hN : NetW n ts ws) (hu : Up L) (hL : ∀ x ∈ L, x < n) : ∃ c', Q_f_law_refuses [.cel, .int n, NetC tw n ts, .lst (iL ws), .lst (nL L)] c = .ok (.fz (.bl true)) c' ∧ Wc c' := by
  rw [q_f_law_refuses]
  have hmost := hN.most
  have hwl := hN.wlen
  have h40 := hN.len
  have hLn := len_le hu hL
  obtain ⟨v, c1, e1, b1, h1⟩ := take_spec h (m := 5) (by omega)
  obtain ⟨x, hx, ex⟩ := wrong_menu (n := n) b1
  have lL : bLen [.lst (nL L)] = dret (.fz (.int L.length)) := by rw [bLen_lst, nL_len]
  have k1 : lenOk ((nL L).length + 2) = true := lenOk_of (by rw [nL_len]; omega)
  have k4 : lenOk ((iL ws).length + 1) = true := lenOk_of (by rw [iL_len]; omega)
  have gW : WGood ws (.lst (iL ws)) := .inl rfl
  have r1 : RowH n ts ws (.lst [.lst (iL ws ++ [.int 2]), .lst [x], .lst [.str "world", .int (-1)]]) := ⟨_, _, badW (-1), rfl, .world (.long (.inl rfl) (by rw [List.length_append, iL_len, List.length_singleton]; omega))⟩
  have r2 : RowH n ts ws (.lst [.lst (iL ws), .lst (nL L ++ [x, x]), .lst [.str "lot", .int L.length]]) := ⟨_, _, badL L.length, rfl, .lot gW (.bad (.inl rfl) hu.nodup hL hx.bad (by omega))⟩
  have r3 : RowH n ts ws (.lst [.lst (iL ws), .lst [], .lst [.str "empty", .str "lot"]]) := ⟨_, _, emptyX "lot", rfl, .empty gW (.of (l := []) List.Pairwise.nil nofun (.inl rfl) (.refl _))⟩
  have r4 : RowH n ts ws (.lst [.lst (iL ws), .non, .lst [.str "lot", .int (-1)]]) := ⟨_, _, badL (-1), rfl, .lot gW (.noseq rfl)⟩
  have r5 : RowH n ts ws (.lst [.non, .lst [], .lst [.str "world", .int (-1)]]) := ⟨_, _, badW (-1), rfl, .world (.noseq rfl)⟩
  obtain ⟨rows, hrows, hall⟩ : ∃ rows, rows = [D.lst [.lst (iL ws ++ [.int 2]), .lst [x], .lst [.str "world", .int (-1)]], .lst [.lst (iL ws), .lst (nL L ++ [x, x]), .lst [.str "lot", .int L.length]], .lst [.lst (iL ws), .lst [], .lst [.str "empty", .str "lot"]], .lst [.lst (iL ws), .non, .lst [.str "lot", .int (-1)]], .lst [.non, .lst [], .lst [.str "world", .int (-1)]]] ∧ ∀ d ∈ rows, RowH n ts ws d := by
    refine ⟨_, rfl, fun d hd => ?_⟩
    simp -implicitDefEqProofs only [List.mem_cons, List.not_mem_nil, or_false] at hd
    rcases hd with rfl | rfl | rfl | rfl | rfl
    · exact r1
    · exact r2
    · exact r3
    · exact r4
    · exact r5
  have t05 : ∀ r, sL (s0_f_law_refuses :: s1_f_law_refuses :: s2_f_law_refuses :: s3_f_law_refuses :: s4_f_law_refuses :: r) [(some (DV.fz (.cel))), (some (DV.fz (D.int ((n : Int))))), (some (DV.fz (NetC tw n ts))), (some (DV.fz (.lst (iL ws)))), (some (DV.fz (.lst (nL L)))), none, none, none] c =
      sL r [(some (DV.fz (.cel))), (some (DV.fz (D.int ((n : Int))))), (some (DV.fz (NetC tw n ts))), (some (DV.fz (.lst (iL ws)))), (some (DV.fz (.lst (nL L)))), (some (DV.fz (x))), (some (DV.own (rows))), none] c1 := fun r => by
    rw [hrows]
    simp! only [s0_f_law_refuses, s1_f_law_refuses, s2_f_law_refuses, s3_f_law_refuses, s4_f_law_refuses, e1, ex, lL, k1, k4, z_m1, List.cons_append, List.nil_append]
  obtain ⟨E', c', e2, x7, rfl, rfl⟩ := sfor_all (f := sTn (gP (.sl 7)) y1_f_law_refuses) (P := fun E c' => ∃ x7, E = [(some (DV.fz (.cel))), (some (DV.fz (D.int ((n : Int))))), (some (DV.fz (NetC tw n ts))), (some (DV.fz (.lst (iL ws)))), (some (DV.fz (.lst (nL L)))), (some (DV.fz (x))), (some (DV.fz (.lst rows))), x7] ∧ c' = c1)
    (xs := rows) (E := [(some (DV.fz (.cel))), (some (DV.fz (D.int ((n : Int))))), (some (DV.fz (NetC tw n ts))), (some (DV.fz (.lst (iL ws)))), (some (DV.fz (.lst (nL L)))), (some (DV.fz (x))), (some (DV.fz (.lst rows))), none]) (c := c1) ⟨none, rfl, rfl⟩ fun d hd E c' hP => by
      obtain ⟨x7, rfl, rfl⟩ := hP
      obtain ⟨A, B, e, rfl, hT⟩ := hall d hd
      have f1 := refusal_spec (c := c') (tw := tw) hN hT
      have f2 := tell_ne hT
      exact ⟨_, c', by simp! only [y1_f_law_refuses, sTn, gP, bindP, bindPs, tupV, cT1, wipeD, atI_zero, atI_one, atI_two, f1, f2]; rfl, _, rfl, rfl⟩
  refine ⟨c', ?_, h1⟩
  unfold b_f_law_refuses
  rw [t05]
  simp! only [s5_f_law_refuses, s6_f_law_refuses, items?, e2]
end
end DLaw

set_option maxHeartbeats 4000000
/-! K20WE: the law. -/
namespace DLaw
open PySem DL
local macro_rules
  | `(tactic| simp! only [$ts,*]) => `(tactic| simp -implicitDefEqProofs only [sL_cons, sL_nil, kS_nx, kS_ret, kS_err, sNx_ap, sAs_ap, kB_ok, kB_err, backE_self, kA_ok, kA_err, sIf_ap, kI_ok, kI_err, sFo_ap, kF_ok, sTu_ap, kU, sAp_ap, sSu_ap, kJ_ok, sAt_ap, sAu_ap, sR0_ap, sRe_ap, retR_fz, retR_fr, sEx_ap, sret_ap, sRs_ap, kR, sTr_ap, kT_ok, kT_err, sRN, stF, stO, stC, appD, setD, mutD, insD, insS, augD, augS, fzE, fz1, xB, xK, xW, xN, xV, xBin, xNeg, xNot, xAnd, xOr, xCmp, xCmp2, xIf, xKs, xBs, xTup, xLst, xO, xSl, xRev, revD_lst, xIx, xFld, xFldN, isI, slfD, xBlt, xMt, xRg1, xRg2, rgR_l, rgR_t, xCal, xIsi, xIsi2, tNot, tAnd, tOr, tCmp, tCmp2, tTru, tYes, iR1, iR2, iEn, zipO, iZip, iPl, xC1, xC2, noErr_ap, kN_ok, dbind_dret, dbind_wrong, dbind_ap, dret_ap, dwrong_ap, kD_ok, kD_err, bOf_fz, bOf_fr, bOf_bo, kOf_fz, kOf_fr, intD_int, blD_bl, dget_some, dbl_some, dgetZ_some, dlist_nil, dlist_cons, outD_ret, outD_nx, outD_err, outI_ok', outI_err, add_int, sub_int, mul_int, div_int, mod_int, pow_int, add_lst, lt_int, le_int, gt_int, ge_int, eq_int, ne_int, ix_lst, ix_tup, ix_scr, ix_cel, dcel_ap, dtru, truD, lenOk_sm, List.length_cons, List.length_nil, Nat.reduceAdd, Nat.reduceLeDiff, Nat.reduceLT, List.getElem?_cons_zero, List.getElem?_cons_succ, List.set_cons_zero, List.set_cons_succ, if_true, if_false, ite_true, ite_false, decide_true, decide_false, Bool.false_eq_true, Bool.not_true, Bool.not_false, Bool.true_and, Bool.false_and, Bool.and_true, Bool.and_false, decide_eq_true_eq, not_false_eq_true, not_true_eq_false, dif_t, $ts,*])
section
variable {c : Ce} {tw : Bool} {n : Nat} {ts : List (Nat × Nat)} {ws : List Int} {st L l : List Nat} {A B : D}
theorem holders_in {p : Nat} : p ∈ holdersL (cF tw ts ws) L ↔ p ∈ L ∧ HeldP (cF tw ts ws) [p] L := by
  unfold holdersL
  rw [List.mem_filter, heldB_iff]
/-- what the law asks of one lot -/
def ruleB (L M l : List Nat) : Bool := decide (∀ x ∈ l, x ∈ L) && decide (∃ x ∈ l, x ∈ M)
theorem any_take {α : Type} (q : α → Bool) : ∀ (l : List α) (k : Nat) (h : k < l.length), (l.take (k + 1)).any q = ((l.take k).any q || q l[k]) := fun l k h => by
  rw [List.take_succ_eq_append_getElem h, List.any_append]; simp
/-- a place holds the outer lot exactly if it holds a lot in it that has a holder of the outer one -/
theorem rule_is {p : Nat} (hN : NetW n ts ws) (hl : Lot n st L) (hp : p ∈ L) : ((lotsF n [p]).filter (heldB (cF tw ts ws) [p])).any (ruleB L (holdersL (cF tw ts ws) L)) = decide (p ∈ holdersL (cF tw ts ws) L) := by
  have hpn := hl.lt p hp
  have up1 : Up [p] := List.pairwise_singleton _ _
  have e : ((lotsF n [p]).filter (heldB (cF tw ts ws) [p])).any (ruleB L (holdersL (cF tw ts ws) L)) = true ↔ p ∈ holdersL (cF tw ts ws) L := by
    rw [List.any_eq_true]
    constructor
    · rintro ⟨m, hm, hr⟩
      obtain ⟨m1, m2⟩ := List.mem_filter.mp hm
      obtain ⟨a1, a2, a3⟩ := (lotsF_mem up1 (by simpa using hpn)).mp m1
      unfold ruleB at hr
      rw [Bool.and_eq_true, decide_eq_true_eq, decide_eq_true_eq] at hr
      obtain ⟨b1, x, b2, b3⟩ := hr
      obtain ⟨_, b4⟩ := holders_in.mp b3
      exact holders_in.mpr ⟨hp, held_trans hN.wok (heldB_iff.mp m2) b4 a2 (by simpa using b2) b1⟩
    · intro h
      refine ⟨L, List.mem_filter.mpr ⟨(lotsF_mem up1 (by simpa using hpn)).mpr ⟨hl.upL, by simpa using hp, hl.lt⟩, heldB_iff.mpr (holders_in.mp h).2⟩, ?_⟩
      unfold ruleB
      rw [Bool.and_eq_true, decide_eq_true_eq, decide_eq_true_eq]
      exact ⟨fun x hx => hx, p, hp, h⟩
  cases q : ((lotsF n [p]).filter (heldB (cF tw ts ws) [p])).any (ruleB L (holdersL (cF tw ts ws) L)) with
  | true => exact (decide_eq_true (e.mp q)).symm
  | false => exact (decide_eq_false fun h => by rw [e.mpr h] at q; cases q).symm
def LE20 (ns : List Int) (X2 : D) (n : Nat) (ts : List (Nat × Nat)) (tw : Bool) (ws : List Int) (L I : List Nat) (X10 X11 x12 x13 x14 x15 : Option DV) : EnvD :=
  [(some (DV.fz (.scr ns))), (some (DV.fz (.cel))), (some (DV.fz (X2))), (some (DV.fz (D.int ((n : Int))))), (some (DV.fz (.lst (pL ts)))), (some (DV.fz (kindD tw))), (some (DV.fz (.lst (iL ws)))), (some (DV.fz (NetC tw n ts))), (some (DV.fz (.lst (nL L)))), (some (DV.fz (.lst (nL I)))), X10, X11, x12, x13, x14, x15]
theorem rule_turn {ns : List Int} {X2 : D} {I M : List Nat} {X11 x12 x14 : Option DV} {b : Bool} (h1 : l.length ≤ 1000) :
    ∃ y14, sTn (gP (.sl 14)) y1_flaw (.tup (nL l)) (LE20 ns X2 n ts tw ws L I (some (DV.fz (.tup (nL M)))) X11 x12 (some (DV.fz (.bl b))) x14 none) c = .ok .nx (LE20 ns X2 n ts tw ws L I (some (DV.fz (.tup (nL M)))) X11 x12 (some (DV.fz (.bl (b || ruleB L M l)))) y14 none) c := by
  have hL : lenOk (nL l).length = true := lenOk_sm (by rw [nL_len]; exact h1)
  refine ⟨(some (DV.fz (.tup (nL l)))), ?_⟩
  have e1 : ∀ x14, dloop (c4_flaw (LE20 ns X2 n ts tw ws L I (some (DV.fz (.tup (nL M)))) X11 x12 (some (DV.fz (.bl b))) x14 none)) (nL l) c = .ok ((l.map fun x => decide (x ∈ L)).map D.bl) c := fun x14 => by
    rw [List.map_map]
    exact dloop_map (g := fun (k : Nat) => D.int (k : Int)) l fun k _ => by
      simp! only [c4_flaw, LE20, sTn, gP, bindP, bindPs, tupV, cT1, wipeD, in_nlst]; rfl
  have e2 : ∀ x14, dloop (c3_flaw (LE20 ns X2 n ts tw ws L I (some (DV.fz (.tup (nL M)))) X11 x12 (some (DV.fz (.bl b))) x14 none)) (nL l) c = .ok ((l.map fun x => decide (x ∈ M)).map D.bl) c := fun x14 => by
    rw [List.map_map]
    exact dloop_map (g := fun (k : Nat) => D.int (k : Int)) l fun k _ => by
      simp! only [c3_flaw, LE20, sTn, gP, bindP, bindPs, tupV, cT1, wipeD, in_ntup]; rfl
  simp -implicitDefEqProofs only [LE20] at e1 e2
  have g1 := bAll_bls (l.map fun x => decide (x ∈ L))
  have g2 := bAny_bools (l.map fun x => decide (x ∈ M))
  rw [all_in] at g1
  rw [any_in] at g2
  by_cases q1 : ∀ x ∈ l, x ∈ L
  · rw [decide_eq_true q1] at g1
    by_cases q2 : ∃ x ∈ l, x ∈ M
    · rw [decide_eq_true q2] at g2
      have z : (b || ruleB L M l) = true := by unfold ruleB; rw [decide_eq_true q1, decide_eq_true q2]; simp
      rw [z]
      simp! only [y1_flaw, LE20, sTn, gP, bindP, bindPs, tupV, cT1, wipeD, items?, hL, e1, e2, g1, g2]
    · rw [decide_eq_false q2] at g2
      have z : (b || ruleB L M l) = b := by unfold ruleB; rw [decide_eq_false q2]; simp
      rw [z]
      simp! only [y1_flaw, LE20, sTn, gP, bindP, bindPs, tupV, cT1, wipeD, items?, hL, e1, e2, g1, g2]
  · rw [decide_eq_false q1] at g1
    have z : (b || ruleB L M l) = b := by unfold ruleB; rw [decide_eq_false q1]; simp
    rw [z]
    simp! only [y1_flaw, LE20, sTn, gP, bindP, bindPs, tupV, cT1, wipeD, items?, hL, e1, e2, g1, g2]
theorem place_turn {ns : List Int} {X2 : D} {I : List Nat} {X11 x12 x13 x14 : Option DV} {p : Nat} (hN : NetW n ts ws) (hn : n ≤ 6) (hl : Lot n st L) (hp : p ∈ L) :
    ∃ y12 y13 y14, sTn (gP (.sl 12)) y2_flaw (.int (p : Int)) (LE20 ns X2 n ts tw ws L I (some (DV.fz (.tup (nL (holdersL (cF tw ts ws) L))))) X11 x12 x13 x14 none) c = .ok .nx (LE20 ns X2 n ts tw ws L I (some (DV.fz (.tup (nL (holdersL (cF tw ts ws) L))))) X11 y12 y13 y14 none) c := by
  have hpn := hl.lt p hp
  have up1 : Up [p] := List.pairwise_singleton _ _
  have e1 : Q_fheld_lots [NetC tw n ts, .lst (iL ws), .lst [.int (p : Int)]] c = _ := heldlots_spec (c := c) (tw := tw) (st := [p]) hN (show n ≤ 8 by omega) (.inl rfl) (.of up1 (by simpa using hpn) (.inl rfl) (.refl [p])) (by simp)
  have hlen : ∀ l ∈ lotsF n [p], l.length ≤ 1000 := fun l hm => by
    obtain ⟨a1, a2, a3⟩ := (lotsF_mem up1 (by simpa using hpn)).mp hm
    have := len_le a1 a3
    omega
  have er := rule_is (tw := tw) hN hl hp
  generalize hM : holdersL (cF tw ts ws) L = M at *
  generalize hLL : (lotsF n [p]).filter (heldB (cF tw ts ws) [p]) = LL at *
  have hlen2 : ∀ l ∈ LL, l.length ≤ 1000 := fun l hm => by rw [← hLL] at hm; exact hlen l (List.mem_filter.mp hm).1
  obtain ⟨E', c', e2, y14, rfl, rfl⟩ := sfor_inv (f := sTn (gP (.sl 14)) y1_flaw) (P := fun k E c' => ∃ y14, E = LE20 ns X2 n ts tw ws L I (some (DV.fz (.tup (nL M)))) X11 (some (DV.fz (D.int ((p : Int))))) (some (DV.fz (.bl ((LL.take k).any (ruleB L M))))) y14 none ∧ c' = c)
    (tL LL) 0 (LE20 ns X2 n ts tw ws L I (some (DV.fz (.tup (nL M)))) X11 (some (DV.fz (D.int ((p : Int))))) (some (DV.fz (.bl false))) x14 none) c ⟨x14, rfl, rfl⟩ fun k hk E c' hP => by
      obtain ⟨y14, rfl, rfl⟩ := hP
      rw [tL_len] at hk
      have eg : (tL LL)[k]'(by rw [tL_len]; exact hk) = .tup (nL LL[k]) := by simp [tL]
      rw [eg, Nat.zero_add]
      obtain ⟨z14, e⟩ := rule_turn (c := c') (tw := tw) (n := n) (ts := ts) (ws := ws) (L := L) (l := LL[k]) (ns := ns) (X2 := X2) (I := I) (M := M) (X11 := X11) (x12 := (some (DV.fz (D.int ((p : Int)))))) (x14 := y14) (b := (LL.take k).any (ruleB L M)) (hlen2 _ (List.getElem_mem hk))
      refine ⟨_, c', e, z14, ?_, rfl⟩
      rw [any_take _ _ _ hk]
  rw [tL_len, Nat.zero_add, List.take_length, er] at e2
  simp -implicitDefEqProofs only [LE20] at e2 ⊢
  refine ⟨(some (DV.fz (D.int ((p : Int))))), (some (DV.fz (.bl (decide (p ∈ M))))), y14, ?_⟩
  show y2_flaw [(some (DV.fz (.scr ns))), (some (DV.fz (.cel))), (some (DV.fz (X2))), (some (DV.fz (D.int ((n : Int))))), (some (DV.fz (.lst (pL ts)))), (some (DV.fz (kindD tw))), (some (DV.fz (.lst (iL ws)))), (some (DV.fz (NetC tw n ts))), (some (DV.fz (.lst (nL L)))), (some (DV.fz (.lst (nL I)))), (some (DV.fz (.tup (nL M)))), X11, (some (DV.fz (D.int ((p : Int))))), x13, x14, none] c' = _
  simp! only [y2_flaw, e1, items?, e2, in_ntup, ne_bl, bne_self_eq_false]
theorem law_left {ns : List Int} (hn : ns.length ≤ 63) : ∃ c, runD C_flaw 400 d_flaw [.scr ns] none = .ok (.fz (.bl true)) c := by
  rw [q_flaw]
  obtain ⟨c1, e1, h1⟩ := draws_spec hn
  obtain ⟨n, ts, c2, e2, d1, d2, d3, d4, h2⟩ := net_spec h1
  obtain ⟨tw, c3, e3, h3⟩ := kind_spec h2
  obtain ⟨ws, c4, e4, wl, wok, h4⟩ := world_spec h3 (n := ts.length) (by omega)
  have hN : NetW n ts ws := ⟨d1, by omega, by omega, d4, wl, fun w h => inW_v (wok w h)⟩
  obtain ⟨st, L, c5, e5, hl, h5⟩ := held_draw_spec (tw := tw) h4 (by omega) hN
  have hLL := len_le hl.upL hl.lt
  have hLne : L ≠ [] := by
    obtain ⟨a, ha⟩ := List.exists_mem_of_ne_nil _ hl.ne
    exact List.ne_nil_of_mem (hl.sub a ha)
  obtain ⟨I, c6, e6, iu, ine, isub, h6⟩ := sublot_spec h5 hl.upL hLne (by omega)
  have hI : Lot n I I := ⟨iu, iu, ine, fun x hx => hx, fun x hx => hl.lt x (isub x hx)⟩
  have lT : bLen [.lst (pL ts)] = dret (.fz (.int ts.length)) := by rw [bLen_lst, pL_len]
  have eb := built_spec (c := c4) (tw := tw) d1 (show n ≤ 12 by omega) (show ts.length ≤ 40 by omega) d4
  have e9 := lholders_spec (c := c6) (tw := tw) (show n ≤ 8 by omega) hN hl
  have e10 := lholders_spec (c := c6) (tw := tw) (show n ≤ 8 by omega) hN hI
  obtain ⟨X2, hX2⟩ : ∃ X : D, X = .lst [.int n, .lst (pL ts)] := ⟨_, rfl⟩
  have t11 : ∀ r, sL (s0_flaw :: s1_flaw :: s2_flaw :: s3_flaw :: s4_flaw :: s5_flaw :: s6_flaw :: s7_flaw :: s8_flaw :: s9_flaw :: s10_flaw :: s11_flaw :: r) [(some (DV.fz (.scr ns))), none, none, none, none, none, none, none, none, none, none, none, none, none, none, none] none =
      sL r (LE20 ns X2 n ts tw ws L I (some (DV.fz (.tup (nL (holdersL (cF tw ts ws) L))))) (some (DV.fz (.tup (nL (holdersL (cF tw ts ws) I))))) none none none none) c6 := fun r => by
    rw [hX2]
    have i1 : cmpD .Is (.tup (nL (holdersL (cF tw ts ws) L))) .non = dret (.bl false) := rfl
    have i2 : cmpD .Is (.tup (nL (holdersL (cF tw ts ws) I))) .non = dret (.bl false) := rfl
    simp! only [LE20, s0_flaw, s1_flaw, s2_flaw, s3_flaw, s4_flaw, s5_flaw, s6_flaw, s7_flaw, s8_flaw, s9_flaw, s10_flaw, s11_flaw, e1, e2, e3, lT, e4, bList_lst, eb, atI_zero, atI_one, e5, e6, e9, e10, i1, i2]
  generalize hM : holdersL (cF tw ts ws) L = M at *
  generalize hK : holdersL (cF tw ts ws) I = K at *
  have hMl : M.length ≤ 6 := by rw [← hM]; exact Nat.le_trans (List.length_filter_le _ _) (by omega)
  have hKl : K.length ≤ 6 := by rw [← hK]; exact Nat.le_trans (List.length_filter_le _ _) (Nat.le_trans (len_le iu hI.lt) (by omega))
  have hML : lenOk (nL M).length = true := lenOk_sm (by rw [nL_len]; omega)
  have hKL : lenOk (nL K).length = true := lenOk_sm (by rw [nL_len]; omega)
  have himp : (∃ x ∈ M, x ∈ I) → ∀ x ∈ K, x ∈ M := by
    rintro ⟨x, hx, hxi⟩ y hy
    rw [← hM] at hx
    rw [← hK] at hy
    rw [← hM]
    obtain ⟨_, hx2⟩ := holders_in.mp hx
    obtain ⟨hy1, hy2⟩ := holders_in.mp hy
    exact holders_in.mpr ⟨isub y hy1, held_trans hN.wok hy2 hx2 (by simpa using hy1) (by simpa using hxi) isub⟩
  have ea : dloop (c1_flaw (LE20 ns X2 n ts tw ws L I (some (DV.fz (.tup (nL M)))) (some (DV.fz (.tup (nL K)))) none none none none)) (nL M) c6 = .ok ((M.map fun x => decide (x ∈ I)).map D.bl) c6 := by
    rw [List.map_map]
    exact dloop_map (g := fun (k : Nat) => D.int (k : Int)) M fun k _ => by
      simp! only [c1_flaw, LE20, sTn, gP, bindP, bindPs, tupV, cT1, wipeD, in_nlst]; rfl
  have ec : dloop (c2_flaw (LE20 ns X2 n ts tw ws L I (some (DV.fz (.tup (nL M)))) (some (DV.fz (.tup (nL K)))) none none none none)) (nL K) c6 = .ok ((K.map fun x => decide (x ∈ M)).map D.bl) c6 := by
    rw [List.map_map]
    exact dloop_map (g := fun (k : Nat) => D.int (k : Int)) K fun k _ => by
      simp! only [c2_flaw, LE20, sTn, gP, bindP, bindPs, tupV, cT1, wipeD, in_ntup]; rfl
  have g1 := bAny_bools (M.map fun x => decide (x ∈ I))
  have g2 := bAll_bls (K.map fun x => decide (x ∈ M))
  rw [any_in] at g1
  rw [all_in] at g2
  have t12 : s12_flaw (LE20 ns X2 n ts tw ws L I (some (DV.fz (.tup (nL M)))) (some (DV.fz (.tup (nL K)))) none none none none) c6 = .ok .nx (LE20 ns X2 n ts tw ws L I (some (DV.fz (.tup (nL M)))) (some (DV.fz (.tup (nL K)))) none none none none) c6 := by
    simp -implicitDefEqProofs only [LE20] at ea ec
    by_cases q : ∃ x ∈ M, x ∈ I
    · rw [decide_eq_true q] at g1
      rw [decide_eq_true (himp q)] at g2
      simp! only [s12_flaw, LE20, items?, hML, hKL, ea, ec, g1, g2]
    · rw [decide_eq_false q] at g1
      simp! only [s12_flaw, LE20, items?, hML, hKL, ea, ec, g1, g2]
  obtain ⟨E', c7, e13, y12, y13, y14, rfl, rfl⟩ := sfor_inv (f := sTn (gP (.sl 12)) y2_flaw) (P := fun k E c' => ∃ y12 y13 y14, E = LE20 ns X2 n ts tw ws L I (some (DV.fz (.tup (nL M)))) (some (DV.fz (.tup (nL K)))) y12 y13 y14 none ∧ c' = c6)
    (nL L) 0 (LE20 ns X2 n ts tw ws L I (some (DV.fz (.tup (nL M)))) (some (DV.fz (.tup (nL K)))) none none none none) c6 ⟨none, none, none, rfl, rfl⟩ fun k hk E c' hP => by
      obtain ⟨y12, y13, y14, rfl, rfl⟩ := hP
      rw [nL_getE hk]
      rw [nL_len] at hk
      obtain ⟨a, b, d, e⟩ := place_turn (c := c') (tw := tw) (ns := ns) (X2 := X2) (I := I) (X11 := (some (DV.fz (.tup (nL K))))) (x12 := y12) (x13 := y13) (x14 := y14) hN d2 hl (List.getElem_mem hk)
      rw [hM] at e
      exact ⟨_, c', e, a, b, d, rfl, rfl⟩
  obtain ⟨c8, e15, h8⟩ := refuses_spec (tw := tw) h6 hN hl.upL hl.lt
  have nM : cmpD .NotEq (.tup (nL M)) (.tup (nL M)) = dret (.bl false) := (pl_tup (pls_nL M)).ne (by omega)
  simp -implicitDefEqProofs only [LE20] at e13
  refine ⟨c8, ?_⟩
  unfold b_flaw
  rw [t11, sL_cons, t12, kS_nx]
  simp! only [LE20, s13_flaw, s14_flaw, s15_flaw, items?, e13, e9, nM, e15]
end
end DLaw

set_option maxHeartbeats 0
/-! law_k20_holders_of_an_inner_lot: the join. -/
namespace DLaw
open PySem PySem.Spec PyProof.Rows L2 DL
theorem law_run {K : PySem.W.Frag} {mg : Str → Option Value} {h : Heap} (X : K.In h) (G : h.Ns mainGlobals mg) (c : Says K) (w : World) (base : Heap) : RunAt PySem.Challenge.pw_leastgates_k20_holders_of_an_inner_lot w K mg base CXE (He.ga K "law") (spD K (runD C_flaw 400 d_flaw)) := by
  have e := c.defs h_flaw (by simp [dhs])
  obtain ⟨doc, pm, cdv, ct, oc, an, od, osl, lk, hcd⟩ := fn_row e.1 e.2 rfl
  exact run_cx (den_at (d := d_flaw) (x := "_law_script") (mod_ok (w := w) (base := base) X G c fuel0) (rest_ok X G c) (ok_flaw X G c) rfl rfl lk hcd ⟨rfl, by decide, by decide⟩ fun s u =>
    .of_eq (show bindArgs (PySem.W.fnOf (nameOf s_flaw) "law" (defArgs s_flaw) (defBody s_flaw) (defScope s_flaw) .none .none doc pm an cdv ct) ⟨[u], []⟩ = pure ([("_law_script" : Str)].zip [u]) from rfl))
end DLaw
open PySem PySem.W PySem.Calls PyProof.Rows
theorem PySem.Challenge.cw_leastgates_k20_holders_of_an_inner_lot_holds : PySem.Challenge.rw_leastgates_k20_holders_of_an_inner_lot.Holds := by
  w_on; o_law
  refine HandSHeadRun.head_any (r := OpenLaw.row PySem.Challenge.rw_leastgates_k20_holders_of_an_inner_lot) (q := view (OpenLaw.row PySem.Challenge.rw_leastgates_k20_holders_of_an_inner_lot).prog [71]) (H := DLaw.hk) (ob := DLaw.ob) (M := 20000) (loose := DLaw.loose) (d := HandSHeadRun.topDef (OpenLaw.row PySem.Challenge.rw_leastgates_k20_holders_of_an_inner_lot).prog 71) (kwd := []) DLaw.ob_eq
    (by kernel_rfl) (fun s => by kernel_rfl) DLaw.run (by kernel_rfl) (by kernel_rfl) (by kernel_rfl) (by rfl) (by first | assumption | decide +kernel) (by decide +kernel) ⟨rfl, rfl, rfl, rfl, rfl, by decide +kernel⟩ ?hw ?hc
  case hw => w_witness2
  case hc =>
    refine DL.walk_at (l := PySem.Challenge.rw_leastgates_k20_holders_of_an_inner_lot) (n := 63) (CX := DL.CXE) rfl (by decide) (by kernel_rfl) ?F (fun _ _ _ _ z => DL.cxe_no z)
    intro w mg fa h Y G hmg0
    obtain ⟨K, KX, c⟩ := Y
    have hmg : mg ("law" : PySem.Str) = some (.ref fa) := by
      have e : (HandSHeadRun.topDef (OpenLaw.row PySem.Challenge.rw_leastgates_k20_holders_of_an_inner_lot).prog 71).name = ("law" : PySem.Str) := by kernel_rfl
      rw [← e]
      exact hmg0
    have cs := DLaw.says c
    have ea := hmg.symm.trans (He.glo_ok KX G (cs.fns "law" (by decide +kernel)).1)
    cases ea
    exact ⟨K, _, KX, fun H a ns hl _ hS => by obtain ⟨c0, h0⟩ := DLaw.law_left hl; exact DL.law_sp hS h0, fun base _ _ => DLaw.law_run KX G cs w base⟩

